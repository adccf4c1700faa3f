import PyProof.Rows.All
import Wide.All
import OpenK.AllK
import Wide.FinOn
import HandS.ForMost
import HandS.Gcd
import HandS.Wide
import HandS.IsInst
import HandS.CallSlots
import HandS.Exc
import HandS.ExcOwn
import HandS.ExcInit
import HandS.ExcField
import HandS.ExcIs
import HandS.WordsExc
import HandS.TryOnly
import HandS.Flow
import HandS.Defaults
import HandS.ExcCtx
import HandS.HotCalls
import KE.KStateDown
import HandS.Head0
import HandS.Head1
import HandS.Head2
import HandS.Head3
import HandS.HeadEnd
import HandS.HeadHook1
import HandS.HeadHook2
import PySem.Challenge.RW_ledbymarks_k02_solved_or_bar
import HandS.Comp
import KE.KMathG
import HandS.Codes
import HandS.Iter
import HandS.Text
import HandS.TupAny
import HandS.Style
import HandS.Dict
import HandS.NamedTupGet
import HandS.NoneIn
import HandS.Conv
import HandS.DictComp
import HandS.Small
import HandS.More
set_option Elab.async false
set_option linter.all false
set_option maxRecDepth 100000
set_option maxHeartbeats 2000000
/-! A layer of our own over the hand layer: what a def does, told by data alone (no heap in sight). Part a: data, what stands for it, the cut heap. -/
namespace DL
open PySem PySem.Spec PyProof.Rows L2
inductive D where
  | non | bl (b : Bool) | int (i : Int) | str (x : Str)
  /-- a list (true) or a tuple (false) -/
  | sq (l : Bool) (ds : List D)
  | dic (kvs : List (Key × D))
  | ins (C : Addr) (fs : List (Str × D))
  | ob (a : Addr)
  /-- a caught error at a, its fields at dd -/
  | exc (a dd : Addr) (fs : List (Str × D))
  /-- the script -/
  | scr (ns : List Int)
abbrev Ex := L2.Same
/-- a class whose instances are plain, without class attributes of these names -/
structure ClsF (K : PySem.W.Frag) (C : Addr) (ks : List Str) : Prop where
  cls : L2.Cls K C
  no : ∀ f ∈ ks, L2.NoAttr K C f
inductive Is (K : PySem.W.Frag) (H : Hp) : V → D → Prop
  | non : Is K H .non .non
  | bl (b : Bool) : Is K H (.bl b) (.bl b)
  | int (i : Int) : Is K H (.int i) (.int i)
  | str (x : Str) : Is K H (.str x) (.str x)
  | lst {a : Addr} {xs : List V} {ds : List D} : Rd H a (.lst xs) → xs.length = ds.length → (∀ (i : Nat) x d, xs[i]? = some x → ds[i]? = some d → Is K H x d) → Is K H (.ref a) (.sq true ds)
  | tup {a : Addr} {xs : List V} {ds : List D} : SqT K H a xs → xs.length = ds.length → (∀ (i : Nat) x d, xs[i]? = some x → ds[i]? = some d → Is K H x d) → Is K H (.ref a) (.sq false ds)
  | dic {a : Addr} {kvs : List (Key × V)} {kds : List (Key × D)} : Rd H a (.dK kvs) → kvs.map (·.1) = kds.map (·.1) → (∀ (i : Nat) x d, kvs[i]? = some x → kds[i]? = some d → Is K H x.2 d.2) → Is K H (.ref a) (.dic kds)
  | ins {a C dx : Addr} {fs : List (Str × V)} {gs : List (Str × D)} : ClsF K C (gs.map (·.1)) → H a = some (.ins C dx fs) → fs.map (·.1) = gs.map (·.1) → (∀ (i : Nat) x d, fs[i]? = some x → gs[i]? = some d → Is K H x.2 d.2) → Is K H (.ref a) (.ins C gs)
  | ob (a : Addr) : Is K H (.ref a) (.ob a)
  | scr {a : Addr} {ns : List Int} : SqL K H a (ns.map V.int) → Is K H (.ref a) (.scr ns)
  | exc {a dd : Addr} {fs : List (Str × V)} {gs : List (Str × D)} : H dd = some (.xd fs) → fs.map (·.1) = gs.map (·.1) → (∀ (i : Nat) x d, fs[i]? = some x → gs[i]? = some d → Is K H x.2 d.2) → Is K H (.ref a) (.exc a dd gs)
def IsL (K : PySem.W.Frag) (H : Hp) (xs : List V) (ds : List D) : Prop := xs.length = ds.length ∧ ∀ (i : Nat) x d, xs[i]? = some x → ds[i]? = some d → Is K H x d
def IsK (K : PySem.W.Frag) (H : Hp) (xs : List (Key × V)) (ds : List (Key × D)) : Prop := xs.map (·.1) = ds.map (·.1) ∧ ∀ (i : Nat) x d, xs[i]? = some x → ds[i]? = some d → Is K H x.2 d.2
def IsF (K : PySem.W.Frag) (H : Hp) (xs : List (Str × V)) (ds : List (Str × D)) : Prop := xs.map (·.1) = ds.map (·.1) ∧ ∀ (i : Nat) x d, xs[i]? = some x → ds[i]? = some d → Is K H x.2 d.2
section
variable {K : PySem.W.Frag} {H H' : Hp} {v : V} {d : D} {xs : List V} {ds : List D}
theorem Ex.rd {a : Addr} {u : HO} (e : Ex H H') (h : Rd H a u) : Rd H' a u := by
  rcases h with h | ⟨o, h⟩
  · exact Or.inl (e a _ h)
  · exact Or.inr ⟨o, e a _ h⟩
theorem Ex.sqL {a : Addr} {xs : List V} (e : Ex H H') (h : SqL K H a xs) : SqL K H' a xs := by
  rcases h with h | h
  · exact Or.inl (Ex.rd e h)
  · exact Or.inr h
theorem Ex.sqT {a : Addr} {xs : List V} (e : Ex H H') (h : SqT K H a xs) : SqT K H' a xs := by
  rcases h with h | h
  · exact Or.inl (Ex.rd e h)
  · exact Or.inr h
theorem Ex.new {p : Addr} {o : HO} (h : H p = none) : Ex H (upd H p o) := fun a u e => by
  rw [upd_ne (ne_of_none e h)]
  exact e
theorem Is.mono (e : Ex H H') (h : Is K H v d) : Is K H' v d := by
  induction h with
  | non => exact .non
  | bl b => exact .bl b
  | int i => exact .int i
  | str x => exact .str x
  | lst a b _ ih => exact .lst (Ex.rd e a) b ih
  | scr a => exact .scr (Ex.sqL e a)
  | tup a b _ ih => exact .tup (Ex.sqT e a) b ih
  | dic a b _ ih => exact .dic (Ex.rd e a) b ih
  | ins c a b _ ih => exact .ins c (e _ _ a) b ih
  | ob a => exact .ob a
  | exc a b _ ih => exact .exc (e _ _ a) b ih
theorem IsL.mono (e : Ex H H') (h : IsL K H xs ds) : IsL K H' xs ds := ⟨h.1, fun i x d a b => (h.2 i x d a b).mono e⟩
theorem IsK.mono {xs : List (Key × V)} {ds : List (Key × D)} (e : Ex H H') (h : IsK K H xs ds) : IsK K H' xs ds := ⟨h.1, fun i x d a b => (h.2 i x d a b).mono e⟩
theorem IsF.mono {xs : List (Str × V)} {ds : List (Str × D)} (e : Ex H H') (h : IsF K H xs ds) : IsF K H' xs ds := ⟨h.1, fun i x d a b => (h.2 i x d a b).mono e⟩
theorem IsL.nil : IsL K H [] [] := ⟨rfl, fun i x d a _ => by cases a⟩
theorem IsL.cons (h : Is K H v d) (r : IsL K H xs ds) : IsL K H (v :: xs) (d :: ds) := ⟨congrArg (· + 1) r.1, fun i x d' a b => by
  cases i with
  | zero => cases a; cases b; exact h
  | succ i => exact r.2 i x d' a b⟩
theorem IsL.head {x : V} (h : IsL K H (x :: xs) (d :: ds)) : Is K H x d := h.2 0 x d rfl rfl
theorem IsL.tail {x : V} (h : IsL K H (x :: xs) (d :: ds)) : IsL K H xs ds := ⟨Nat.succ.inj h.1, fun i x d a b => h.2 (i + 1) x d a b⟩
theorem IsL.inv_nil (h : IsL K H xs []) : xs = [] := List.length_eq_zero_iff.mp h.1
theorem IsL.inv_cons (h : IsL K H xs (d :: ds)) : ∃ x r, xs = x :: r ∧ Is K H x d ∧ IsL K H r ds := by
  cases xs with
  | nil => cases h.1
  | cons x r => exact ⟨x, r, rfl, h.head, h.tail⟩
theorem IsL.get {i : Nat} (h : IsL K H xs ds) (e : ds[i]? = some d) : ∃ x, xs[i]? = some x ∧ Is K H x d := by
  have hi : i < xs.length := by rw [h.1]; exact (List.getElem?_eq_some_iff.mp e).1
  exact ⟨xs[i], List.getElem?_eq_getElem hi, h.2 i _ d (List.getElem?_eq_getElem hi) e⟩
theorem IsL.getV {i : Nat} {x : V} (h : IsL K H xs ds) (e : xs[i]? = some x) : ∃ d, ds[i]? = some d ∧ Is K H x d := by
  have hi : i < ds.length := by rw [← h.1]; exact (List.getElem?_eq_some_iff.mp e).1
  exact ⟨ds[i], List.getElem?_eq_getElem hi, h.2 i x _ e (List.getElem?_eq_getElem hi)⟩
theorem IsL.snoc (h : IsL K H xs ds) (r : Is K H v d) : IsL K H (xs ++ [v]) (ds ++ [d]) := ⟨by simp [h.1], fun i x d' a b => by
  by_cases hi : i < xs.length
  · rw [List.getElem?_append_left hi] at a
    rw [List.getElem?_append_left (by rw [← h.1]; exact hi)] at b
    exact h.2 i x d' a b
  · rw [List.getElem?_append_right (Nat.le_of_not_lt hi)] at a
    rw [List.getElem?_append_right (by rw [← h.1]; exact Nat.le_of_not_lt hi), ← h.1] at b
    cases e : i - xs.length with
    | zero => rw [e] at a b; cases a; cases b; exact r
    | succ n => rw [e] at a; cases a⟩
theorem IsL.app {ys : List V} {es : List D} (h : IsL K H xs ds) (r : IsL K H ys es) : IsL K H (xs ++ ys) (ds ++ es) := ⟨by simp [h.1, r.1], fun i x d' a b => by
  by_cases hi : i < xs.length
  · rw [List.getElem?_append_left hi] at a
    rw [List.getElem?_append_left (by rw [← h.1]; exact hi)] at b
    exact h.2 i x d' a b
  · rw [List.getElem?_append_right (Nat.le_of_not_lt hi)] at a
    rw [List.getElem?_append_right (by rw [← h.1]; exact Nat.le_of_not_lt hi), ← h.1] at b
    exact r.2 _ x d' a b⟩
theorem IsL.set {i : Nat} (h : IsL K H xs ds) (r : Is K H v d) : IsL K H (xs.set i v) (ds.set i d) := ⟨by simp [h.1], fun j x d' a b => by
  rw [List.getElem?_set] at a b
  by_cases e : i = j
  · rw [if_pos e] at a b
    split at a
    · split at b
      · cases a; cases b; exact r
      · cases b
    · cases a
  · rw [if_neg e] at a b
    exact h.2 j x d' a b⟩
theorem IsL.of_get (hl : xs.length = ds.length) (h : ∀ (i : Nat) x d, xs[i]? = some x → ds[i]? = some d → Is K H x d) : IsL K H xs ds := ⟨hl, h⟩
theorem IsL.ints (ns : List Int) : IsL K H (ns.map V.int) (ns.map D.int) := ⟨by simp, fun i x d a b => by
  rw [List.getElem?_map] at a b
  cases e : ns[i]? with
  | none => rw [e] at a; cases a
  | some n => rw [e] at a b; cases a; cases b; exact .int n⟩
theorem Is.int_inv {i : Int} (h : Is K H v (.int i)) : v = .int i := by cases h; rfl
theorem Is.bl_inv {i : Bool} (h : Is K H v (.bl i)) : v = .bl i := by cases h; rfl
theorem Is.str_inv {i : Str} (h : Is K H v (.str i)) : v = .str i := by cases h; rfl
theorem Is.non_inv (h : Is K H v .non) : v = .non := by cases h; rfl
theorem Is.lst_inv (h : Is K H v (.sq true ds)) : ∃ a xs, v = .ref a ∧ Rd H a (.lst xs) ∧ IsL K H xs ds := by
  cases h with
  | lst a b c => exact ⟨_, _, rfl, a, b, c⟩
theorem Is.tup_inv (h : Is K H v (.sq false ds)) : ∃ a xs, v = .ref a ∧ SqT K H a xs ∧ IsL K H xs ds := by
  cases h with
  | tup a b c => exact ⟨_, _, rfl, a, b, c⟩
theorem Is.sq_inv {l : Bool} (h : Is K H v (.sq l ds)) : ∃ a xs, v = .ref a ∧ (if l then Rd H a (.lst xs) else SqT K H a xs) ∧ IsL K H xs ds := by
  cases l with
  | true => exact h.lst_inv
  | false => exact h.tup_inv
theorem Is.ins_inv {C : Addr} {gs : List (Str × D)} (h : Is K H v (.ins C gs)) : ∃ a dx fs, v = .ref a ∧ ClsF K C (gs.map (·.1)) ∧ H a = some (.ins C dx fs) ∧ IsF K H fs gs := by
  cases h with
  | ins z a b c => exact ⟨_, _, _, rfl, z, a, b, c⟩
theorem Is.dic_inv {kds : List (Key × D)} (h : Is K H v (.dic kds)) : ∃ a kvs, v = .ref a ∧ Rd H a (.dK kvs) ∧ IsK K H kvs kds := by
  cases h with
  | dic a b c => exact ⟨_, _, rfl, a, b, c⟩
theorem Is.scr_inv {ns : List Int} (h : Is K H v (.scr ns)) : ∃ a, v = .ref a ∧ SqL K H a (ns.map V.int) := by
  cases h with
  | scr a => exact ⟨_, rfl, a⟩
theorem Is.mkL {a : Addr} (h : Rd H a (.lst xs)) (r : IsL K H xs ds) : Is K H (.ref a) (.sq true ds) := .lst h r.1 r.2
theorem Is.mkT {a : Addr} (h : SqT K H a xs) (r : IsL K H xs ds) : Is K H (.ref a) (.sq false ds) := .tup h r.1 r.2
/-- no reference in it -/
def Flat : D → Prop
  | .non | .bl _ | .int _ | .str _ => True
  | _ => False
theorem Is.flat (f : Flat d) (h : Is K H v d) : Is K H' v d := by
  cases h with
  | non => exact .non
  | bl b => exact .bl b
  | int i => exact .int i
  | str x => exact .str x
  | _ => exact f.elim
end
/-! ### the cut heap -/
def cut (H : Hp) (ps : List Addr) : Hp := fun a => if a ∈ ps then none else H a
def mrg (H : Hp) (ps : List Addr) (G : Hp) : Hp := fun a => if a ∈ ps then H a else G a
theorem cut_in {H : Hp} {ps : List Addr} {a : Addr} (h : a ∈ ps) : cut H ps a = none := if_pos h
theorem cut_out {H : Hp} {ps : List Addr} {a : Addr} (h : a ∉ ps) : cut H ps a = H a := if_neg h
theorem mrg_in {H G : Hp} {ps : List Addr} {a : Addr} (h : a ∈ ps) : mrg H ps G a = H a := if_pos h
theorem mrg_out {H G : Hp} {ps : List Addr} {a : Addr} (h : a ∉ ps) : mrg H ps G a = G a := if_neg h
theorem cut_ex {H : Hp} {ps : List Addr} : Ex (cut H ps) H := fun a o e => by
  by_cases h : a ∈ ps
  · rw [cut_in h] at e; cases e
  · rw [cut_out h] at e; exact e
theorem cut_some {H : Hp} {ps : List Addr} {a : Addr} {o : HO} (e : cut H ps a = some o) : a ∉ ps ∧ H a = some o := by
  by_cases h : a ∈ ps
  · rw [cut_in h] at e; cases e
  · rw [cut_out h] at e; exact ⟨h, e⟩
theorem cut_sub {H : Hp} {ps qs : List Addr} (h : ∀ a ∈ qs, a ∈ ps) : Ex (cut H ps) (cut H qs) := fun a o e => by
  obtain ⟨n, e⟩ := cut_some e
  rw [cut_out fun z => n (h a z)]
  exact e
theorem cut_mono {H H' : Hp} {ps : List Addr} (h : Ex H H') : Ex (cut H ps) (cut H' ps) := fun a o e => by
  obtain ⟨n, e⟩ := cut_some e
  rw [cut_out n]
  exact h a o e
theorem cut_mrg {H G : Hp} {ps : List Addr} (h : ∀ a ∈ ps, G a = none) : cut (mrg H ps G) ps = G := by
  funext a
  by_cases z : a ∈ ps
  · rw [cut_in z, h a z]
  · rw [cut_out z, mrg_out z]
theorem mrg_ex {H G : Hp} {ps : List Addr} (h : Ex (cut H ps) G) : Ex H (mrg H ps G) := fun a o e => by
  by_cases z : a ∈ ps
  · rw [mrg_in z]; exact e
  · rw [mrg_out z]; exact h a o (by rw [cut_out z]; exact e)
theorem cut_nil {H : Hp} : cut H [] = H := by
  funext a
  exact cut_out (by simp)
/-- what may be owned -/
def OwnAt (H : Hp) (ps : List Addr) (a : Addr) : Prop :=
  (∃ xs, H a = some (.lst xs)) ∨ (∃ kvs, H a = some (.dK kvs)) ∨ (∃ C dx fs, H a = some (.ins C dx fs) ∧ dx ∈ ps) ∨ (∃ x C fs, H a = some (.own x) ∧ x ∈ ps ∧ H x = some (.ins C a fs))
section
variable {X : Cx} {pins : List (Addr × Obj)} {σ σ' : L2.St} {H G : Hp} {s s' : Shared} {ps : List Addr}
theorem OwnAt.some {a : Addr} (h : OwnAt H ps a) : ∃ o, H a = .some o := by
  rcases h with ⟨_, h⟩ | ⟨_, h⟩ | ⟨_, _, _, h, _⟩ | ⟨_, _, _, h, _⟩ <;> exact ⟨_, h⟩
theorem OwnAt.notup {a : Addr} {xs : List V} (h : OwnAt H ps a) : H a ≠ .some (.tup xs) := fun e => by
  rcases h with ⟨_, h⟩ | ⟨_, h⟩ | ⟨_, _, _, h, _⟩ | ⟨_, _, _, h, _⟩ <;> (rw [e] at h; cases h)
theorem OwnAt.nofrz {a : Addr} {o : Obj} {u : HO} (h : OwnAt H ps a) : H a ≠ .some (.frz o u) := fun e => by
  rcases h with ⟨_, h⟩ | ⟨_, h⟩ | ⟨_, _, _, h, _⟩ | ⟨_, _, _, h, _⟩ <;> (rw [e] at h; cases h)
theorem OwnAt.notbl {a : Addr} {ts : Array Value} (h : OwnAt H ps a) : H a ≠ .some (.tbl ts) := fun e => by
  rcases h with ⟨_, h⟩ | ⟨_, h⟩ | ⟨_, _, _, h, _⟩ | ⟨_, _, _, h, _⟩ <;> (rw [e] at h; cases h)
theorem fs_free (I : Inv X pins σ H s) : ∀ b ∈ X.fs, H b = none := fun b hb => by
  obtain ⟨_, o, ho, _⟩ := I.ok.funs.mem hb
  exact I.base.free b o ho (I.ok.frf b hb) fun z => I.ok.exfs b z hb
/-- an owned object's description, and its record, at a heap where the owned records stand -/
theorem own_ok {P : Program} {w : World} {H H' : Hp} {h h' : Heap} {a : Addr} {o : HO} (hp : ∀ a ∈ ps, OwnAt H ps a) (ha : a ∈ ps) (e : H a = some o) (x : ObjOk P w H h a o)
    (k : ∀ b ∈ ps, ∀ u, h.get? b = some u → h'.get? b = some u) (hH : ∀ b ∈ ps, H' b = H b) : ObjOk P w H' h' a o := by
  rcases hp a ha with ⟨xs, q⟩ | ⟨kvs, q⟩ | ⟨C, dx, fs, q, hd⟩ | ⟨y, C, fs, q, hy, hI⟩
  · rw [e] at q; cases q
    obtain ⟨z, its, n, r, g⟩ := x
    exact ⟨z, its, n, r, k a ha _ g⟩
  · rw [e] at q; cases q
    obtain ⟨z, y, vs, r, ob, es, ep, g, c⟩ := x
    exact ⟨z, y, vs, r, ob, es, ep, k a ha _ g, c⟩
  · rw [e] at q; cases q
    obtain ⟨d, z, ne, g, mA, ⟨od, es, ep, e2, c⟩, r⟩ := x
    exact ⟨by rw [hH dx hd]; exact d, z, ne, k a ha _ g, mA, ⟨od, es, ep, k dx hd _ e2, c⟩, r⟩
  · rw [e] at q; cases q
    obtain ⟨ob, g⟩ := x
    exact ⟨ob, k a ha _ g⟩
theorem own_nocell {P : Program} {w : World} {H : Hp} {h : Heap} {a : Addr} {o : HO} {ob : Obj} (ok : HOk P w H h) (hp : ∀ a ∈ ps, OwnAt H ps a) (ha : a ∈ ps) (e : H a = some o) (g : h.get? a = some ob) : ∀ v, ob.data ≠ .cell v := by
  have x := ok a o e
  rcases hp a ha with ⟨xs, q⟩ | ⟨kvs, q⟩ | ⟨C, dx, fs, q, hd⟩ | ⟨y, C, fs, q, hy, hI⟩
  · rw [e] at q; cases q
    obtain ⟨z, its, n, r, g'⟩ := x
    rw [g] at g'; cases g'
    intro v z; cases z
  · rw [e] at q; cases q
    obtain ⟨z, y, vs, r, ob', es, ep, g', c⟩ := x
    rw [g] at g'; cases g'
    intro v z
    have := c.2.1
    rw [z] at this; cases this
  · rw [e] at q; cases q
    obtain ⟨d, z, ne, g', _⟩ := x
    rw [g] at g'; cases g'
    intro v z; cases z
  · rw [e] at q; cases q
    obtain ⟨d, z, ne, g', mA, ⟨od, es, ep, e2, c, _⟩, _⟩ := ok y _ hI
    rw [g] at e2; cases e2
    intro v z
    rw [z] at c; cases c
theorem own_there {P : Program} {w : World} {H : Hp} {h : Heap} {a : Addr} {o : HO} (ok : HOk P w H h) (hp : ∀ a ∈ ps, OwnAt H ps a) (ha : a ∈ ps) (e : H a = some o) : ∃ ob, h.get? a = some ob := by
  have x := ok a o e
  rcases hp a ha with ⟨xs, q⟩ | ⟨kvs, q⟩ | ⟨C, dx, fs, q, hd⟩ | ⟨y, C, fs, q, hy, hI⟩
  · rw [e] at q; cases q
    obtain ⟨z, its, n, r, g'⟩ := x
    exact ⟨_, g'⟩
  · rw [e] at q; cases q
    obtain ⟨z, y, vs, r, ob', es, ep, g', c⟩ := x
    exact ⟨_, g'⟩
  · rw [e] at q; cases q
    obtain ⟨d, z, ne, g', _⟩ := x
    exact ⟨_, g'⟩
  · rw [e] at q; cases q
    exact x
/-- ahead: the owned records are pinned and no more tracked -/
theorem cut_inv (I : Inv X pins σ H s) (hp : ∀ a ∈ ps, OwnAt H ps a) : Inv X (pins ++ pinsAt ps s.heap) σ (cut H ps) s := by
  have noH : ∀ {b}, H b = none → cut H ps b = none := fun {b} e => by
    by_cases z : b ∈ ps
    · exact cut_in z
    · rw [cut_out z]; exact e
  have B := I.base
  refine ⟨I.ok, I.os, I.bare, ⟨B.keep, B.slot, fun b o q n hx => noH (B.free b o q n hx), B.there, fun b xs q => ?_, fun b o u q => ?_, fun b ts q => ?_⟩, I.loc, I.cell, noH I.free, fun x c e => noH (I.freeC x c e), fun p hpn => ?_, fun b u q => ?_, I.len⟩
  · have h := B.tups b xs q
    rw [cut_out fun z => (hp b z).notup h]
    exact h
  · have h := B.frzs b o u q
    rw [cut_out fun z => (hp b z).nofrz h]
    exact h
  · obtain ⟨more, h⟩ := B.tbls b ts q
    exact ⟨more, by rw [cut_out fun z => (hp b z).notbl h]; exact h⟩
  · rw [← List.append_assoc] at hpn
    rcases List.mem_append.mp hpn with z | z
    · obtain ⟨a1, a2, a3⟩ := I.pin p z
      exact ⟨a1, noH a2, a3⟩
    · obtain ⟨hb, g⟩ := of_pinsAt z
      obtain ⟨u, hu⟩ := (hp p.1 hb).some
      refine ⟨g, cut_in hb, fun q => ?_, fun q => ?_, own_nocell I.hok hp hb hu g⟩
      · rw [q, I.free] at hu; cases hu
      · rw [fs_free I p.1 q] at hu; cases hu
  · obtain ⟨n, q⟩ := cut_some q
    refine (I.hok b u q).stay (fun _ _ _ z => z) (fun c z => ?_) fun c xs z => ?_
    · rw [cut_out]
      · exact z
      · intro hc
        rcases hp c hc with ⟨_, h⟩ | ⟨_, h⟩ | ⟨_, _, _, h, _⟩ | ⟨x, _, _, h, hx, _⟩
        · rw [z] at h; cases h
        · rw [z] at h; cases h
        · rw [z] at h; cases h
        · rw [z] at h; cases h
          exact n hx
    · rw [cut_out fun hc => (hp c hc).notup z]
      exact z
/-- behind: they are tracked again -/
theorem mrg_inv (I : Inv X pins σ H s) (hp : ∀ a ∈ ps, OwnAt H ps a) (J : Inv X (pins ++ pinsAt ps s.heap) σ' G s') : Inv X pins σ' (mrg H ps G) s' ∧ ∀ a ∈ ps, G a = none := by
  have pn : ∀ a ∈ ps, ∃ o, s.heap.get? a = some o ∧ s'.heap.get? a = some o ∧ G a = none := fun a ha => by
    obtain ⟨u, hu⟩ := (hp a ha).some
    obtain ⟨o, ho⟩ := own_there I.hok hp ha hu
    obtain ⟨a1, a2, _⟩ := J.pin (a, o) (List.mem_append_right _ (List.mem_append_right _ (mem_pinsAt ha ho)))
    exact ⟨o, ho, a1, a2⟩
  have gn : ∀ a ∈ ps, G a = none := fun a ha => (pn a ha).choose_spec.2.2
  have noM : ∀ {b}, H b = none → G b = none → mrg H ps G b = none := fun {b} e e' => by
    by_cases z : b ∈ ps
    · rw [mrg_in z]; exact e
    · rw [mrg_out z]; exact e'
  have B := J.base
  have B0 := I.base
  refine ⟨⟨J.ok, J.os, J.bare, ⟨B.keep, B.slot, fun b o q n hx => noM (B0.free b o q n hx) (B.free b o q n hx), B.there, fun b xs q => ?_, fun b o u q => ?_, fun b ts q => ?_⟩, J.loc, J.cell, noM I.free J.free, fun x c e => noM (I.freeC x c e) (J.freeC x c e), fun p hpn => ?_, fun b u q => ?_, J.len⟩, gn⟩
  · rw [mrg_out fun z => (hp b z).notup (B0.tups b xs q)]
    exact B.tups b xs q
  · rw [mrg_out fun z => (hp b z).nofrz (B0.frzs b o u q)]
    exact B.frzs b o u q
  · obtain ⟨_, h0⟩ := B0.tbls b ts q
    obtain ⟨more, h⟩ := B.tbls b ts q
    exact ⟨more, by rw [mrg_out fun z => (hp b z).notbl h0]; exact h⟩
  · obtain ⟨a1, a2, a3⟩ := J.pin p (by rw [← List.append_assoc]; exact List.mem_append_left _ hpn)
    exact ⟨a1, noM (I.pin p hpn).2.1 a2, a3⟩
  · by_cases z : b ∈ ps
    · rw [mrg_in z] at q
      refine own_ok hp z q (I.hok b u q) (fun c hc v hv => ?_) fun c hc => mrg_in hc
      obtain ⟨o, h1, h2, _⟩ := pn c hc
      rw [hv] at h1; cases h1
      exact h2
    · rw [mrg_out z] at q
      refine (J.hok b u q).stay (fun _ _ _ z => z) (fun c y => ?_) fun c xs y => ?_
      · rw [mrg_out fun hc => by rw [gn c hc] at y; cases y]
        exact y
      · rw [mrg_out fun hc => by rw [gn c hc] at y; cases y]
        exact y
end
end DL
set_option Elab.async false
set_option linter.all false
set_option maxRecDepth 100000
set_option maxHeartbeats 2000000
/-! Part b: the state told by data; expressions. -/
namespace DL
open PySem PySem.Spec PyProof.Rows L2
/-- lists within lists that the frame alone holds, shared data at the leaves -/
inductive Tr where
  | sh (d : D) | lst (ts : List Tr)
mutual
def Tr.d : Tr → D
  | .sh d => d
  | .lst ts => .sq true (Tr.ds ts)
def Tr.ds : List Tr → List D
  | [] => []
  | t :: ts => t.d :: Tr.ds ts
end
/-- an object that the frame alone holds -/
inductive Ow where
  | lst (ds : List D) | dic (kvs : List (Key × D)) | ins (C : Addr) (fs : List (Str × D)) | tr (ts : List Tr) | self (a C : Addr) (ks : List Str) (fs : List (Str × D))
def Ow.d : Ow → D
  | .lst ds => .sq true ds
  | .dic kvs => .dic kvs
  | .ins C fs => .ins C fs
  | .tr ts => .sq true (Tr.ds ts)
  | .self _ C _ fs => .ins C fs
/-- what a slot holds (or a call hands back) -/
inductive S where
  | no | sh (d : D) | ow (o : Ow)
def S.d : S → D
  | .no => .non
  | .sh d => d
  | .ow o => o.d
mutual
def TrIs (K : PySem.W.Frag) (H G : Hp) : Tr → V → List Addr → Prop
  | .sh d, v, l => l = [] ∧ Is K G v d
  | .lst ts, v, l => ∃ p xs ls, v = .ref p ∧ l = p :: ls.flatten ∧ H p = some (.lst xs) ∧ TrsIs K H G ts xs ls
def TrsIs (K : PySem.W.Frag) (H G : Hp) : List Tr → List V → List (List Addr) → Prop
  | [], xs, ls => xs = [] ∧ ls = []
  | t :: ts, xs, ls => ∃ x xs' l ls', xs = x :: xs' ∧ ls = l :: ls' ∧ TrIs K H G t x l ∧ TrsIs K H G ts xs' ls'
end
mutual
theorem TrIs.mono {K : PySem.W.Frag} {H H' G G' : Hp} (e : Ex G G') : ∀ (t : Tr) (v : V) (l : List Addr), (∀ a ∈ l, H' a = H a) → TrIs K H G t v l → TrIs K H' G' t v l
  | .sh d, v, l, k, h => ⟨h.1, h.2.mono e⟩
  | .lst ts, v, l, k, h => by
    obtain ⟨p, xs, ls, rfl, rfl, hp, h⟩ := h
    exact ⟨p, xs, ls, rfl, rfl, by rw [k p (by simp)]; exact hp, TrsIs.mono e ts xs ls (fun a ha => k a (List.mem_cons_of_mem _ ha)) h⟩
theorem TrsIs.mono {K : PySem.W.Frag} {H H' G G' : Hp} (e : Ex G G') : ∀ (ts : List Tr) (xs : List V) (ls : List (List Addr)), (∀ a ∈ ls.flatten, H' a = H a) → TrsIs K H G ts xs ls → TrsIs K H' G' ts xs ls
  | [], xs, ls, k, h => h
  | t :: ts, xs, ls, k, h => by
    obtain ⟨x, xs', l, ls', rfl, rfl, h1, h2⟩ := h
    exact ⟨x, xs', l, ls', rfl, rfl, TrIs.mono e t x l (fun a ha => k a (by simp [ha])) h1, TrsIs.mono e ts xs' ls' (fun a ha => k a (by rw [List.flatten_cons]; exact List.mem_append_right _ ha)) h2⟩
end
mutual
theorem TrIs.lst_at {K : PySem.W.Frag} {H G : Hp} : ∀ (t : Tr) (v : V) (l : List Addr), TrIs K H G t v l → ∀ a ∈ l, ∃ xs, H a = some (.lst xs)
  | .sh d, v, l, h => fun a ha => by rw [h.1] at ha; cases ha
  | .lst ts, v, l, h => fun a ha => by
    obtain ⟨p, xs, ls, rfl, rfl, hp, h⟩ := h
    rcases List.mem_cons.mp ha with rfl | ha
    · exact ⟨_, hp⟩
    · exact TrsIs.lst_at ts xs ls h a ha
theorem TrsIs.lst_at {K : PySem.W.Frag} {H G : Hp} : ∀ (ts : List Tr) (xs : List V) (ls : List (List Addr)), TrsIs K H G ts xs ls → ∀ a ∈ ls.flatten, ∃ xs, H a = some (.lst xs)
  | [], xs, ls, h => fun a ha => by rw [h.2] at ha; cases ha
  | t :: ts, xs, ls, h => fun a ha => by
    obtain ⟨x, xs', l, ls', rfl, rfl, h1, h2⟩ := h
    rw [List.flatten_cons, List.mem_append] at ha
    rcases ha with ha | ha
    · exact TrIs.lst_at t x l h1 a ha
    · exact TrsIs.lst_at ts xs' ls' h2 a ha
end
mutual
theorem TrIs.is {K : PySem.W.Frag} {H G : Hp} (e : Ex G H) : ∀ (t : Tr) (v : V) (l : List Addr), TrIs K H G t v l → Is K H v t.d
  | .sh d, v, l, h => h.2.mono e
  | .lst ts, v, l, h => by
    obtain ⟨p, xs, ls, rfl, rfl, hp, h⟩ := h
    exact .mkL (Rd.of hp) (TrsIs.is e ts xs ls h)
theorem TrsIs.is {K : PySem.W.Frag} {H G : Hp} (e : Ex G H) : ∀ (ts : List Tr) (xs : List V) (ls : List (List Addr)), TrsIs K H G ts xs ls → IsL K H xs (Tr.ds ts)
  | [], xs, ls, h => by rw [h.1]; exact .nil
  | t :: ts, xs, ls, h => by
    obtain ⟨x, xs', l, ls', rfl, rfl, h1, h2⟩ := h
    exact .cons (TrIs.is e t x l h1) (TrsIs.is e ts xs' ls' h2)
end
def OwIs (K : PySem.W.Frag) (H G : Hp) (v : V) (l : List Addr) : Ow → Prop
  | .lst ds => ∃ p xs, v = .ref p ∧ l = [p] ∧ H p = some (.lst xs) ∧ IsL K G xs ds
  | .dic kds => ∃ p kvs, v = .ref p ∧ l = [p] ∧ H p = some (.dK kvs) ∧ IsK K G kvs kds
  | .ins C gs => ClsF K C (gs.map (·.1)) ∧ ∃ p dx fs, v = .ref p ∧ l = [p, dx] ∧ H p = some (.ins C dx fs) ∧ H dx = some (.own p) ∧ IsF K G fs gs
  | .tr ts => TrIs K H G (.lst ts) v l
  | .self a C ks gs => (ClsF K C ks ∧ ∀ f ∈ gs.map (·.1), f ∈ ks) ∧ ∃ dx fs, v = .ref a ∧ l = [a, dx] ∧ H a = some (.ins C dx fs) ∧ H dx = some (.own a) ∧ IsF K G fs gs
def SlotIs (K : PySem.W.Frag) (H G : Hp) (x : Option V) (l : List Addr) : S → Prop
  | .no => l = []
  | .sh d => l = [] ∧ ∃ v, x = some v ∧ Is K G v d
  | .ow o => ∃ v, x = some v ∧ OwIs K H G v l o
theorem OwIs.mono {K : PySem.W.Frag} {H H' G G' : Hp} {v : V} {l : List Addr} {o : Ow} (h : OwIs K H G v l o) (e : Ex G G') (k : ∀ a ∈ l, H' a = H a) : OwIs K H' G' v l o := by
  cases o with
  | lst ds =>
    obtain ⟨p, xs, a, rfl, b, c⟩ := h
    exact ⟨p, xs, a, rfl, by rw [k p (by simp)]; exact b, c.mono e⟩
  | dic ds =>
    obtain ⟨p, xs, a, rfl, b, c⟩ := h
    exact ⟨p, xs, a, rfl, by rw [k p (by simp)]; exact b, c.mono e⟩
  | ins C fs =>
    obtain ⟨z, p, dx, xs, a, rfl, b, b', c⟩ := h
    exact ⟨z, p, dx, xs, a, rfl, by rw [k p (by simp)]; exact b, by rw [k dx (by simp)]; exact b', c.mono e⟩
  | self q C ks fs =>
    obtain ⟨z, dx, xs, a, rfl, b, b', c⟩ := h
    exact ⟨z, dx, xs, a, rfl, by rw [k q (by simp)]; exact b, by rw [k dx (by simp)]; exact b', c.mono e⟩
  | tr ts => exact TrIs.mono e _ v l k h
theorem OwIs.at {K : PySem.W.Frag} {H G : Hp} {v : V} {l ps : List Addr} {o : Ow} (h : OwIs K H G v l o) (hs : ∀ a ∈ l, a ∈ ps) : ∀ a ∈ l, OwnAt H ps a := by
  cases o with
  | lst ds =>
    obtain ⟨p, xs, _, rfl, b, c⟩ := h
    intro a ha
    obtain rfl : a = p := by simpa using ha
    exact .inl ⟨_, b⟩
  | dic ds =>
    obtain ⟨p, xs, _, rfl, b, c⟩ := h
    intro a ha
    obtain rfl : a = p := by simpa using ha
    exact .inr (.inl ⟨_, b⟩)
  | ins C fs =>
    obtain ⟨_, p, dx, xs, _, rfl, b, b', c⟩ := h
    intro a ha
    rcases (by simpa using ha : a = p ∨ a = dx) with rfl | rfl
    · exact .inr (.inr (.inl ⟨_, _, _, b, hs _ (by simp)⟩))
    · exact .inr (.inr (.inr ⟨_, _, _, b', hs _ (by simp), b⟩))
  | self q C ks fs =>
    obtain ⟨_, dx, xs, _, rfl, b, b', c⟩ := h
    intro a ha
    rcases (by simpa using ha : a = q ∨ a = dx) with rfl | rfl
    · exact .inr (.inr (.inl ⟨_, _, _, b, hs _ (by simp)⟩))
    · exact .inr (.inr (.inr ⟨_, _, _, b', hs _ (by simp), b⟩))
  | tr ts => exact fun a ha => .inl (TrIs.lst_at _ v l h a ha)
/-- frozen -/
theorem OwIs.is {K : PySem.W.Frag} {H G : Hp} {v : V} {l : List Addr} {o : Ow} (h : OwIs K H G v l o) (e : Ex G H) : Is K H v o.d := by
  cases o with
  | lst ds =>
    obtain ⟨p, xs, rfl, rfl, b, c⟩ := h
    exact .mkL (Rd.of b) (c.mono e)
  | dic ds =>
    obtain ⟨p, xs, rfl, rfl, b, c⟩ := h
    exact .dic (Rd.of b) c.1 (c.mono e).2
  | ins C fs =>
    obtain ⟨z, p, dx, xs, rfl, rfl, b, b', c⟩ := h
    exact .ins z b c.1 (c.mono e).2
  | self q C ks fs =>
    obtain ⟨⟨z, z2⟩, dx, xs, rfl, rfl, b, b', c⟩ := h
    exact .ins ⟨z.cls, fun f hf => z.no f (z2 f hf)⟩ b c.1 (c.mono e).2
  | tr ts => exact TrIs.is e _ v l h
/-- the shared part of the state -/
structure RelS (K : PySem.W.Frag) (H0 : Hp) (σ : L2.St) (G : Hp) (δ : List S) : Prop where
  ex : Ex H0 G
  len : σ.length = δ.length
  sh : ∀ (i : Nat) d, δ[i]? = some (.sh d) → ∃ v, σ[i]? = some (some v) ∧ Is K G v d
structure Rel (K : PySem.W.Frag) (H0 : Hp) (σ : L2.St) (H : Hp) (δ : List S) (own : List (List Addr)) : Prop where
  ex : Ex H0 (cut H own.flatten)
  len1 : σ.length = δ.length
  len2 : own.length = δ.length
  sl : ∀ (i : Nat) s x l, δ[i]? = some s → σ[i]? = some x → own[i]? = some l → SlotIs K H (cut H own.flatten) x l s
  nd : own.flatten.Nodup
section
variable {K : PySem.W.Frag} {H0 H H' G G' : Hp} {σ : L2.St} {δ δ' : List S} {own : List (List Addr)} {v : V} {d : D} {i : Nat}
theorem RelS.mono (R : RelS K H0 σ G δ) (e : Ex G G') : RelS K H0 σ G' δ := ⟨R.ex.trans e, R.len, fun i d h => let ⟨v, a, b⟩ := R.sh i d h; ⟨v, a, b.mono e⟩⟩
theorem Rel.idx (R : Rel K H0 σ H δ own) {s : S} (h : δ[i]? = some s) : ∃ x l, σ[i]? = some x ∧ own[i]? = some l ∧ SlotIs K H (cut H own.flatten) x l s := by
  have hi : i < δ.length := (List.getElem?_eq_some_iff.mp h).1
  have h1 : i < σ.length := by rw [R.len1]; exact hi
  have h2 : i < own.length := by rw [R.len2]; exact hi
  exact ⟨_, _, List.getElem?_eq_getElem h1, List.getElem?_eq_getElem h2, R.sl i s _ _ h (List.getElem?_eq_getElem h1) (List.getElem?_eq_getElem h2)⟩
theorem Rel.toS (R : Rel K H0 σ H δ own) : RelS K H0 σ (cut H own.flatten) δ := ⟨R.ex, R.len1, fun i d h => by
  obtain ⟨x, l, a, b, _, v, rfl, q⟩ := R.idx h
  exact ⟨v, a, q⟩⟩
theorem mem_flat {own : List (List Addr)} {l : List Addr} {a : Addr} (h : own[i]? = some l) (ha : a ∈ l) : a ∈ own.flatten := List.mem_flatten.mpr ⟨l, List.mem_of_getElem? h, ha⟩
theorem Rel.owned (R : Rel K H0 σ H δ own) : ∀ a ∈ own.flatten, OwnAt H own.flatten a := fun a ha => by
  obtain ⟨l, hl, hal⟩ := List.mem_flatten.mp ha
  obtain ⟨i, hi⟩ := List.mem_iff_getElem?.mp hl
  have hd : i < δ.length := by rw [← R.len2]; exact (List.getElem?_eq_some_iff.mp hi).1
  obtain ⟨x, l', _, e, q⟩ := R.idx (List.getElem?_eq_getElem hd)
  rw [hi] at e; cases e
  cases hs : δ[i] with
  | no => rw [hs] at q; have q : l = [] := q; rw [q] at hal; cases hal
  | sh d => rw [hs] at q; obtain ⟨q, _⟩ := q; rw [q] at hal; cases hal
  | ow o => rw [hs] at q; obtain ⟨v, _, q⟩ := q; exact q.at (fun a h => mem_flat hi h) a hal
/-- the shared heap has grown -/
theorem Rel.step (R : Rel K H0 σ H δ own) (e : Ex (cut H own.flatten) G) (n : ∀ a ∈ own.flatten, G a = none) : Rel K H0 σ (mrg H own.flatten G) δ own := by
  have c : cut (mrg H own.flatten G) own.flatten = G := cut_mrg n
  refine ⟨by rw [c]; exact R.ex.trans e, R.len1, R.len2, fun i s x l h1 h2 h3 => ?_, R.nd⟩
  rw [c]
  have q := R.sl i s x l h1 h2 h3
  cases s with
  | no => exact q
  | sh d => obtain ⟨q0, v, q1, q2⟩ := q; exact ⟨q0, v, q1, q2.mono e⟩
  | ow o => obtain ⟨v, q1, q2⟩ := q; exact ⟨v, q1, q2.mono e fun a ha => mrg_in (mem_flat h3 ha)⟩
theorem flat_set_sub : ∀ {own : List (List Addr)} {i : Nat} {l : List Addr} {a : Addr}, a ∈ (own.set i l).flatten → a ∈ own.flatten ∨ a ∈ l
  | [], _, _, _, h => .inl h
  | l0 :: r, 0, l, a, h => by
    simp only [List.set_cons_zero, List.flatten_cons, List.mem_append] at h ⊢
    rcases h with h | h
    · exact .inr h
    · exact .inl (.inr h)
  | l0 :: r, i + 1, l, a, h => by
    simp only [List.set_cons_succ, List.flatten_cons, List.mem_append] at h ⊢
    rcases h with h | h
    · exact .inl (.inl h)
    · rcases flat_set_sub h with h | h
      · exact .inl (.inr h)
      · exact .inr h
theorem flat_set_nd : ∀ {own : List (List Addr)} {i : Nat} {l : List Addr}, own.flatten.Nodup → l.Nodup → (∀ a ∈ l, a ∉ own.flatten) → (own.set i l).flatten.Nodup
  | [], _, _, h, _, _ => h
  | l0 :: r, 0, l, h, hl, hd => by
    simp only [List.set_cons_zero, List.flatten_cons] at h ⊢
    rw [List.nodup_append] at h ⊢
    refine ⟨hl, h.2.1, fun a ha b hb e => ?_⟩
    subst e
    exact hd a ha (by simp only [List.flatten_cons, List.mem_append]; exact .inr hb)
  | l0 :: r, i + 1, l, h, hl, hd => by
    simp only [List.set_cons_succ, List.flatten_cons] at h ⊢
    rw [List.nodup_append] at h ⊢
    refine ⟨h.1, flat_set_nd h.2.1 hl fun a ha hb => hd a ha (by simp only [List.flatten_cons, List.mem_append]; exact .inr hb), fun a ha b hb e => ?_⟩
    subst e
    rcases flat_set_sub hb with hb | hb
    · exact h.2.2 a ha a hb rfl
    · exact hd a hb (by simp only [List.flatten_cons, List.mem_append]; exact .inl ha)
/-- what stays when the slots' data may only get easier -/
theorem SlotIs.mono {x : Option V} {l : List Addr} {s : S} (q : SlotIs K H G x l s) (e : Ex G G') (k : ∀ a ∈ l, H' a = H a) : SlotIs K H' G' x l s := by
  cases s with
  | no => exact q
  | sh d => obtain ⟨q0, v, q1, q2⟩ := q; exact ⟨q0, v, q1, q2.mono e⟩
  | ow o => obtain ⟨v, q1, q2⟩ := q; exact ⟨v, q1, q2.mono e k⟩
theorem set_get {α : Type} {l : List α} {i j : Nat} {a b : α} (h : (l.set i a)[j]? = some b) : (i = j ∧ b = a) ∨ (i ≠ j ∧ l[j]? = some b) := by
  rw [List.getElem?_set] at h
  by_cases e : i = j
  · rw [if_pos e] at h
    split at h
    · exact .inl ⟨e, (Option.some.inj h).symm⟩
    · cases h
  · rw [if_neg e] at h
    exact .inr ⟨e, h⟩
theorem Rel.setSh (R : Rel K H0 σ H δ own) (h : Is K (cut H own.flatten) v d) : Rel K H0 (σ.set i (some v)) H (δ.set i (.sh d)) (own.set i []) := by
  have sub : ∀ a ∈ (own.set i []).flatten, a ∈ own.flatten := fun a ha => by
    rcases flat_set_sub ha with z | z
    · exact z
    · cases z
  have e : Ex (cut H own.flatten) (cut H (own.set i []).flatten) := cut_sub sub
  refine ⟨R.ex.trans e, by simp [R.len1], by simp [R.len2], fun j s x l h1 h2 h3 => ?_, flat_set_nd R.nd List.nodup_nil fun a ha => by cases ha⟩
  rcases set_get h1 with ⟨e1, rfl⟩ | ⟨n1, g1⟩
  · rcases set_get h2 with ⟨_, rfl⟩ | ⟨n2, _⟩
    · rcases set_get h3 with ⟨_, rfl⟩ | ⟨n3, _⟩
      · exact ⟨rfl, v, rfl, h.mono e⟩
      · exact absurd e1 n3
    · exact absurd e1 n2
  · rcases set_get h2 with ⟨e2, _⟩ | ⟨_, g2⟩
    · exact absurd e2 n1
    · rcases set_get h3 with ⟨e3, _⟩ | ⟨_, g3⟩
      · exact absurd e3 n1
      · exact (R.sl j s x l g1 g2 g3).mono e fun _ _ => rfl
/-- a new object, the frame's own; G1: the shared heap with it -/
theorem Rel.setOw {G1 : Hp} {l0 : List Addr} {o : Ow} (R : Rel K H0 σ H δ own) (e : Ex (cut H own.flatten) (cut G1 l0)) (n : ∀ a ∈ own.flatten, G1 a = none) (nd : l0.Nodup) (h : OwIs K G1 (cut G1 l0) v l0 o) :
    Rel K H0 (σ.set i (some v)) (mrg H own.flatten G1) (δ.set i (.ow o)) (own.set i l0) := by
  have some1 : ∀ a ∈ l0, G1 a ≠ none := fun a ha z => by
    obtain ⟨u, hu⟩ := (h.at (fun a h => h) a ha).some
    rw [z] at hu; cases hu
  have dis : ∀ a ∈ l0, a ∉ own.flatten := fun a ha z => some1 a ha (n a z)
  have ee : Ex (cut G1 l0) (cut (mrg H own.flatten G1) (own.set i l0).flatten) := fun a u q => by
    obtain ⟨q1, q2⟩ := cut_some q
    have q3 : a ∉ own.flatten := fun z => by rw [n a z] at q2; cases q2
    rw [cut_out (fun z => (flat_set_sub z).elim q3 q1), mrg_out q3]
    exact q2
  refine ⟨(R.ex.trans e).trans ee, by simp [R.len1], by simp [R.len2], fun j s x l h1 h2 h3 => ?_, flat_set_nd R.nd nd dis⟩
  rcases set_get h1 with ⟨e1, rfl⟩ | ⟨n1, g1⟩
  · rcases set_get h2 with ⟨_, rfl⟩ | ⟨n2, _⟩
    · rcases set_get h3 with ⟨_, rfl⟩ | ⟨n3, _⟩
      · exact ⟨v, rfl, h.mono ee fun a ha => mrg_out (dis a ha)⟩
      · exact absurd e1 n3
    · exact absurd e1 n2
  · rcases set_get h2 with ⟨e2, _⟩ | ⟨_, g2⟩
    · exact absurd e2 n1
    · rcases set_get h3 with ⟨e3, _⟩ | ⟨_, g3⟩
      · exact absurd e3 n1
      · exact (R.sl j s x l g1 g2 g3).mono (e.trans ee) fun a ha => mrg_in (mem_flat g3 ha)
theorem nd_apart : ∀ {own : List (List Addr)} {i j : Nat} {l l' : List Addr} {a : Addr}, own.flatten.Nodup → own[i]? = some l → own[j]? = some l' → i ≠ j → a ∈ l → a ∈ l' → False
  | [], _, _, _, _, _, _, h, _, _, _, _ => by cases h
  | l0 :: r, 0, 0, _, _, _, _, _, _, n, _, _ => n rfl
  | l0 :: r, 0, j + 1, l, l', a, nd, h, h', n, ha, ha' => by
    rw [List.flatten_cons, List.nodup_append] at nd
    cases h
    exact nd.2.2 a ha a (mem_flat (i := j) h' ha') rfl
  | l0 :: r, i + 1, 0, l, l', a, nd, h, h', n, ha, ha' => by
    rw [List.flatten_cons, List.nodup_append] at nd
    cases h'
    exact nd.2.2 a ha' a (mem_flat (i := i) h ha) rfl
  | l0 :: r, i + 1, j + 1, l, l', a, nd, h, h', n, ha, ha' => by
    rw [List.flatten_cons, List.nodup_append] at nd
    exact nd_apart (i := i) (j := j) nd.2.1 h h' (fun e => n (by rw [e])) ha ha'
/-- an owned object is written -/
theorem Rel.write {p : Addr} {ho : HO} {l : List Addr} {o' : Ow} (R : Rel K H0 σ H δ own) (hi : own[i]? = some l) (hp : p ∈ l) (hs : σ[i]? = some (some v)) (h : OwIs K (upd H p ho) (cut H own.flatten) v l o') : Rel K H0 σ (upd H p ho) (δ.set i (.ow o')) own := by
  have c : cut (upd H p ho) own.flatten = cut H own.flatten := by
    funext a
    by_cases z : a ∈ own.flatten
    · rw [cut_in z, cut_in z]
    · rw [cut_out z, cut_out z, upd_ne fun e => z (by rw [e]; exact mem_flat hi hp)]
  refine ⟨by rw [c]; exact R.ex, by simp [R.len1], by simp [R.len2], fun j s x l' h1 h2 h3 => ?_, R.nd⟩
  rw [c]
  rcases set_get h1 with ⟨rfl, rfl⟩ | ⟨n1, g1⟩
  · rw [hi] at h3; cases h3
    rw [hs] at h2; cases h2
    exact ⟨v, rfl, h⟩
  · refine (R.sl j s x l' g1 h2 h3).mono (Same.refl _) fun a ha => upd_ne fun e => ?_
    subst e
    exact nd_apart R.nd hi h3 n1 hp ha

/-- a state told by less: a slot forgotten, an owned object read as data -/
inductive Vw : List S → List S → Prop
  | nil : Vw [] []
  | keep {s : S} {a b : List S} : Vw a b → Vw (s :: a) (s :: b)
  | drop {s : S} {a b : List S} : Vw a b → Vw (s :: a) (.no :: b)
  | bor {o : Ow} {a b : List S} : Vw a b → Vw (.ow o :: a) (.sh o.d :: b)
theorem Vw.refl : ∀ (δ : List S), Vw δ δ
  | [] => .nil
  | _ :: r => .keep (Vw.refl r)
theorem Vw.len {δ δ' : List S} (h : Vw δ δ') : δ.length = δ'.length := by
  induction h with
  | nil => rfl
  | keep _ ih => exact congrArg (· + 1) ih
  | drop _ ih => exact congrArg (· + 1) ih
  | bor _ ih => exact congrArg (· + 1) ih
theorem Vw.get {δ δ' : List S} (h : Vw δ δ') : ∀ {i : Nat} {s' : S}, δ'[i]? = some s' → ∃ s, δ[i]? = some s ∧ (s' = s ∨ s' = .no ∨ ∃ o, s = .ow o ∧ s' = .sh o.d) := by
  induction h with
  | nil => intro i s' e; cases e
  | @keep s a b _ ih =>
    intro i s' e
    cases i with
    | zero => cases e; exact ⟨s, rfl, .inl rfl⟩
    | succ i => exact ih (i := i) e
  | @drop s a b _ ih =>
    intro i s' e
    cases i with
    | zero => cases e; exact ⟨s, rfl, .inr (.inl rfl)⟩
    | succ i => exact ih (i := i) e
  | @bor o a b _ ih =>
    intro i s' e
    cases i with
    | zero => cases e; exact ⟨_, rfl, .inr (.inr ⟨o, rfl, rfl⟩)⟩
    | succ i => exact ih (i := i) e
def keepOw : List (List Addr) → List S → List (List Addr)
  | l :: r, .ow _ :: b => l :: keepOw r b
  | _ :: r, _ :: b => [] :: keepOw r b
  | _, _ => []
theorem keepOw_sub : ∀ (own : List (List Addr)) (δ : List S), (keepOw own δ).flatten.Sublist own.flatten
  | [], δ => by cases δ <;> exact List.Sublist.refl _
  | l :: r, [] => by simp [keepOw]
  | l :: r, .ow _ :: b => by
    simp only [keepOw, List.flatten_cons]
    exact (List.Sublist.refl l).append (keepOw_sub r b)
  | l :: r, .no :: b => by
    simp only [keepOw, List.flatten_cons, List.nil_append]
    exact (keepOw_sub r b).trans (List.sublist_append_right _ _)
  | l :: r, .sh _ :: b => by
    simp only [keepOw, List.flatten_cons, List.nil_append]
    exact (keepOw_sub r b).trans (List.sublist_append_right _ _)
theorem keepOw_len : ∀ (own : List (List Addr)) (δ : List S), own.length = δ.length → (keepOw own δ).length = δ.length
  | [], [], _ => rfl
  | l :: r, .ow _ :: b, h => congrArg (· + 1) (keepOw_len r b (Nat.succ.inj h))
  | l :: r, .no :: b, h => congrArg (· + 1) (keepOw_len r b (Nat.succ.inj h))
  | l :: r, .sh _ :: b, h => congrArg (· + 1) (keepOw_len r b (Nat.succ.inj h))
theorem keepOw_get : ∀ (own : List (List Addr)) (δ : List S) (i : Nat) (l : List Addr) (s : S), δ[i]? = some s → (keepOw own δ)[i]? = some l → (∃ o, s = .ow o ∧ own[i]? = some l) ∨ ((∀ o, s ≠ .ow o) ∧ l = [])
  | [], δ, i, l, s, _, h => by cases δ <;> cases h
  | l0 :: r, [], i, l, s, h, _ => by cases h
  | l0 :: r, .ow o :: b, 0, l, s, h, h' => by cases h; cases h'; exact .inl ⟨o, rfl, rfl⟩
  | l0 :: r, .no :: b, 0, l, s, h, h' => by cases h; cases h'; exact .inr ⟨fun o e => (by cases e), rfl⟩
  | l0 :: r, .sh d :: b, 0, l, s, h, h' => by cases h; cases h'; exact .inr ⟨fun o e => (by cases e), rfl⟩
  | l0 :: r, .ow o :: b, i + 1, l, s, h, h' => keepOw_get r b i l s h h'
  | l0 :: r, .no :: b, i + 1, l, s, h, h' => keepOw_get r b i l s h h'
  | l0 :: r, .sh d :: b, i + 1, l, s, h, h' => keepOw_get r b i l s h h'
theorem Rel.view (R : Rel K H0 σ H δ own) (h : Vw δ δ') : Rel K H0 σ H δ' (keepOw own δ') ∧ ∀ a ∈ (keepOw own δ').flatten, a ∈ own.flatten := by
  have hl := h.len
  have sub : ∀ a ∈ (keepOw own δ').flatten, a ∈ own.flatten := fun a ha => (keepOw_sub own δ').mem ha
  have e : Ex (cut H own.flatten) (cut H (keepOw own δ').flatten) := cut_sub sub
  refine ⟨⟨R.ex.trans e, R.len1.trans hl, keepOw_len own δ' (R.len2.trans hl), fun i s' x l h1 h2 h3 => ?_, R.nd.sublist (keepOw_sub own δ')⟩, sub⟩
  obtain ⟨s, hs, c⟩ := h.get h1
  obtain ⟨x', l', e1, e2, q⟩ := R.idx hs
  rw [h2] at e1; cases e1
  rcases keepOw_get own δ' i l s' h1 h3 with ⟨o, rfl, ho⟩ | ⟨no, rfl⟩
  · rw [e2] at ho; cases ho
    rcases c with rfl | c | ⟨o', _, c⟩
    · exact q.mono e fun _ _ => rfl
    · cases c
    · cases c
  · rcases c with rfl | rfl | ⟨o, rfl, rfl⟩
    · cases s' with
      | no => exact rfl
      | sh d => obtain ⟨_, v, q1, q2⟩ := q; exact ⟨rfl, v, q1, q2.mono e⟩
      | ow o => exact absurd rfl (no o)
    · exact rfl
    · obtain ⟨v, q1, q2⟩ := q
      refine ⟨rfl, v, q1, ?_⟩
      -- the object is no more cut
      have e3 : Ex (cut H own.flatten) H := cut_ex
      have gone : ∀ a ∈ l', a ∉ (keepOw own δ').flatten := fun a ha hm => by
        obtain ⟨l2, hl2, ha2⟩ := List.mem_flatten.mp hm
        obtain ⟨j, hj⟩ := List.mem_iff_getElem?.mp hl2
        have hjd : j < δ'.length := by rw [← keepOw_len own δ' (R.len2.trans hl)]; exact (List.getElem?_eq_some_iff.mp hj).1
        rcases keepOw_get own δ' j l2 _ (List.getElem?_eq_getElem hjd) hj with ⟨o2, h4, h5⟩ | ⟨_, rfl⟩
        · by_cases ij : i = j
          · subst ij
            have h6 := List.getElem?_eq_getElem hjd
            rw [h1, h4] at h6
            cases h6
          · exact nd_apart R.nd e2 h5 ij ha ha2
        · cases ha2
      have q3 : OwIs K (cut H (keepOw own δ').flatten) (cut H own.flatten) v l' o := q2.mono (Same.refl _) fun a ha => cut_out (gone a ha)
      exact q3.is e
end
/-! ### what an expression, a statement comes to, as a reading -/
section
variable {X : Cx} {σ : L2.St} {H : Hp}
structure semE (X : Cx) (e : Expr) (σ : L2.St) (H : Hp) (Q : VK) : Prop where
  run : ∀ pins s, Inv X pins σ H s → wpAny (model X.prog X.w) X.A (eval e X.env) (EP X pins σ Q) X.xe s
structure semT (X : Cx) (e : Expr) (σ : L2.St) (H : Hp) (Q : Bool → Hp → Prop) : Prop where
  run : ∀ pins s, Inv X pins σ H s → wpAny (model X.prog X.w) X.A (isTrue e X.env (eval e X.env)) (TP X pins σ Q) X.xe s
structure semW (X : Cx) (e : Expr) (σ : L2.St) (H : Hp) (Q : Bool → Hp → Prop) : Prop where
  run : ∀ whole pins s, Inv X pins σ H s → wpAny (model X.prog X.w) X.A (isTrue e X.env whole) (TP X pins σ Q) X.xe s
structure semA (X : Cx) (es : List Expr) (σ : L2.St) (H : Hp) (Q : List V → Hp → Prop) : Prop where
  run : ∀ pos pins s, Inv X pins σ H s → wpAny (model X.prog X.w) X.A (spliced (backTo pos (starEach es X.env))) (AP X pins σ Q) X.xe s
structure semS (X : Cx) (st : Stmt) (D : Ends) (σ : L2.St) (H : Hp) : Prop where
  run : ∀ pins s, Inv X pins σ H s → wpAny (model X.prog X.w) X.A (exec st X.env) (SP X pins D) X.xe s
structure semB (X : Cx) (st : List Stmt) (D : Ends) (σ : L2.St) (H : Hp) : Prop where
  run : ∀ pins s, Inv X pins σ H s → wpAny (model X.prog X.w) X.A (execs st X.env) (SP X pins D) X.xe s
theorem pe_sem {e : Expr} : PE X e (semE X e) := ⟨fun pins s σ H Q I h => h.run pins s I⟩
theorem pt_sem {e : Expr} : PT X e (semT X e) := ⟨fun pins s σ H Q I h => h.run pins s I⟩
theorem pw_sem {e : Expr} : PW X e (semW X e) := ⟨fun whole pins s σ H Q I h => h.run whole pins s I⟩
theorem pa_sem {es : List Expr} : PA X es (semA X es) := ⟨fun pos pins s σ H Q I h => h.run pos pins s I⟩
theorem ps_sem {st : Stmt} : PS X st (semS X st) := ⟨fun pins s σ H D I h => h.run pins s I⟩
theorem pb_sem {st : List Stmt} : PSs X st (semB X st) := ⟨fun pins s σ H D I h => h.run pins s I⟩
theorem toE {e : Expr} {t : TE} {Q : VK} (h : PE X e t) (q : t σ H Q) : semE X e σ H Q := .mk <| fun pins s I => h.run pins s σ H Q I q
theorem toT {e : Expr} {t : TT} {Q : Bool → Hp → Prop} (h : PT X e t) (q : t σ H Q) : semT X e σ H Q := .mk <| fun pins s I => h.run pins s σ H Q I q
theorem toW {e : Expr} {t : TT} {Q : Bool → Hp → Prop} (h : PW X e t) (q : t σ H Q) : semW X e σ H Q := .mk <| fun whole pins s I => h.run whole pins s σ H Q I q
theorem toA {es : List Expr} {t : TA} {Q : List V → Hp → Prop} (h : PA X es t) (q : t σ H Q) : semA X es σ H Q := .mk <| fun pos pins s I => h.run pos pins s σ H Q I q
theorem toS {st : Stmt} {t : TS} {D : Ends} (h : PS X st t) (q : t D σ H) : semS X st D σ H := .mk <| fun pins s I => h.run pins s σ H D I q
theorem toB {st : List Stmt} {t : TS} {D : Ends} (h : PSs X st t) (q : t D σ H) : semB X st D σ H := .mk <| fun pins s I => h.run pins s σ H D I q
theorem semE.mono {e : Expr} {Q Q' : VK} (h : semE X e σ H Q) (k : ∀ v H', Q v H' → Q' v H') : semE X e σ H Q' := .mk <| fun pins s I => thn (h.run pins s I) fun u s' ⟨v, H', J, r, q⟩ => ⟨v, H', J, r, k v H' q⟩
theorem semT.mono {e : Expr} {Q Q' : Bool → Hp → Prop} (h : semT X e σ H Q) (k : ∀ v H', Q v H' → Q' v H') : semT X e σ H Q' := .mk <| fun pins s I => thn (h.run pins s I) fun u s' ⟨H', J, q⟩ => ⟨H', J, k u H' q⟩
theorem semW.mono {e : Expr} {Q Q' : Bool → Hp → Prop} (h : semW X e σ H Q) (k : ∀ v H', Q v H' → Q' v H') : semW X e σ H Q' := .mk <| fun whole pins s I => thn (h.run whole pins s I) fun u s' ⟨H', J, q⟩ => ⟨H', J, k u H' q⟩
theorem semA.mono {es : List Expr} {Q Q' : List V → Hp → Prop} (h : semA X es σ H Q) (k : ∀ v H', Q v H' → Q' v H') : semA X es σ H Q' := .mk <| fun pos pins s I => thn (h.run pos pins s I) fun u s' ⟨v, H', J, r, q⟩ => ⟨v, H', J, r, k v H' q⟩
theorem SP.mono {D D' : Ends} {pins : List (Addr × Obj)} {f : Flow} {s : Shared} (h : SP X pins D f s) (nx : ∀ σ H, D.nx σ H → D'.nx σ H) (rt : ∀ v H, D.rt v H → D'.rt v H) (bk : ∀ σ H, D.bk σ H → D'.bk σ H) (ct : ∀ σ H, D.ct σ H → D'.ct σ H) : SP X pins D' f s := by
  cases f with
  | next => obtain ⟨σ', H', I, q⟩ := h; exact ⟨σ', H', I, nx _ _ q⟩
  | brk => obtain ⟨σ', H', I, q⟩ := h; exact ⟨σ', H', I, bk _ _ q⟩
  | cont => obtain ⟨σ', H', I, q⟩ := h; exact ⟨σ', H', I, ct _ _ q⟩
  | ret u => obtain ⟨v, σ', H', I, r, q⟩ := h; exact ⟨v, σ', H', I, r, rt _ _ q⟩
theorem semS.mono {st : Stmt} {D D' : Ends} (h : semS X st D σ H) (nx : ∀ σ H, D.nx σ H → D'.nx σ H) (rt : ∀ v H, D.rt v H → D'.rt v H) (bk : ∀ σ H, D.bk σ H → D'.bk σ H) (ct : ∀ σ H, D.ct σ H → D'.ct σ H) : semS X st D' σ H :=
  .mk <| fun pins s I => thn (h.run pins s I) fun f s' q => DL.SP.mono q nx rt bk ct
theorem semB.mono {st : List Stmt} {D D' : Ends} (h : semB X st D σ H) (nx : ∀ σ H, D.nx σ H → D'.nx σ H) (rt : ∀ v H, D.rt v H → D'.rt v H) (bk : ∀ σ H, D.bk σ H → D'.bk σ H) (ct : ∀ σ H, D.ct σ H → D'.ct σ H) : semB X st D' σ H :=
  .mk <| fun pins s I => thn (h.run pins s I) fun f s' q => DL.SP.mono q nx rt bk ct
/-- an expression is run with the owned objects out of sight -/
theorem semE.frame {e : Expr} {ps : List Addr} {Q : VK} (hp : ∀ a ∈ ps, OwnAt H ps a) (h : semE X e σ (cut H ps) Q) : semE X e σ H (fun v H' => ∃ G, H' = mrg H ps G ∧ (∀ a ∈ ps, G a = none) ∧ Q v G) := .mk <| fun pins s I =>
  thn (h.run _ s (cut_inv I hp)) fun u s' ⟨v, G, J, r, q⟩ => by
    obtain ⟨M, gn⟩ := mrg_inv I hp J
    exact ⟨v, _, M, r, G, rfl, gn, q⟩
theorem semT.frame {e : Expr} {ps : List Addr} {Q : Bool → Hp → Prop} (hp : ∀ a ∈ ps, OwnAt H ps a) (h : semT X e σ (cut H ps) Q) : semT X e σ H (fun v H' => ∃ G, H' = mrg H ps G ∧ (∀ a ∈ ps, G a = none) ∧ Q v G) := .mk <| fun pins s I =>
  thn (h.run _ s (cut_inv I hp)) fun u s' ⟨G, J, q⟩ => by
    obtain ⟨M, gn⟩ := mrg_inv I hp J
    exact ⟨_, M, G, rfl, gn, q⟩
theorem semA.frame {es : List Expr} {ps : List Addr} {Q : List V → Hp → Prop} (hp : ∀ a ∈ ps, OwnAt H ps a) (h : semA X es σ (cut H ps) Q) : semA X es σ H (fun v H' => ∃ G, H' = mrg H ps G ∧ (∀ a ∈ ps, G a = none) ∧ Q v G) := .mk <| fun pos pins s I =>
  thn (h.run pos _ s (cut_inv I hp)) fun u s' ⟨v, G, J, r, q⟩ => by
    obtain ⟨M, gn⟩ := mrg_inv I hp J
    exact ⟨v, _, M, r, G, rfl, gn, q⟩
end
end DL
set_option Elab.async false
set_option linter.all false
set_option maxRecDepth 100000
set_option maxHeartbeats 2000000
/-! Part c: expressions, by data. -/
namespace DL
open PySem PySem.Spec PyProof.Rows L2
def notStar : Expr → Bool
  | .Starred _ _ => false
  | _ => true
theorem star_of {e : Expr} {es : List Expr} {env : Env} (h : notStar e = true) : starEach (e :: es) env = (false, eval e env) :: starEach es env := by
  cases e <;> first | rfl | cases h
theorem star_any {pos : Pos} {env : Env} : ∀ {es : List Expr}, es.all notStar = true → (backTo pos (starEach es env)).any (·.1) = false
  | [], _ => rfl
  | e :: es, h => by
    rw [List.all_cons, Bool.and_eq_true] at h
    rw [star_of h.1]
    have ih := star_any (pos := pos) (env := env) h.2
    simpa [backTo] using ih
section
variable (X : Cx) (H0 : Hp)
def We (e : Expr) (δ : List S) (k : D → Prop) : Prop := ∀ σ G, RelS X.K H0 σ G δ → semE X e σ G (fun v G' => Ex G G' ∧ ∃ d, Is X.K G' v d ∧ k d)
def Wt (e : Expr) (δ : List S) (k : Bool → Prop) : Prop := ∀ σ G, RelS X.K H0 σ G δ → semT X e σ G (fun b G' => Ex G G' ∧ k b)
def Ww (e : Expr) (δ : List S) (k : Bool → Prop) : Prop := ∀ σ G, RelS X.K H0 σ G δ → semW X e σ G (fun b G' => Ex G G' ∧ k b)
def Wa (es : List Expr) (δ : List S) (k : List D → Prop) : Prop := ∀ σ G, RelS X.K H0 σ G δ → semA X es σ G (fun vs G' => Ex G G' ∧ ∃ ds, IsL X.K G' vs ds ∧ k ds)
/-- a new object -/
def NewIs (K : PySem.W.Frag) (G : Hp) (v : V) (G' : Hp) (o : Ow) : Prop := ∃ l, OwIs K G' (cut G' l) v l o ∧ (∀ a ∈ l, G a = none) ∧ Ex G (cut G' l) ∧ l.Nodup
def Wo (e : Expr) (δ : List S) (k : Ow → Prop) : Prop := ∀ σ G, RelS X.K H0 σ G δ → semE X e σ G (fun v G' => ∃ o, NewIs X.K G v G' o ∧ k o)
end
theorem NewIs.ex {K : PySem.W.Frag} {G G' : Hp} {v : V} {o : Ow} (h : NewIs K G v G' o) : Ex G G' := by
  obtain ⟨l, _, _, e, _⟩ := h
  exact e.trans cut_ex
theorem NewIs.is {K : PySem.W.Frag} {G G' : Hp} {v : V} {o : Ow} (h : NewIs K G v G' o) : Is K G' v o.d := by
  obtain ⟨l, q, _, e, _⟩ := h
  exact q.is cut_ex
theorem NewIs.back {K : PySem.W.Frag} {G0 G G' : Hp} {v : V} {o : Ow} (e : Ex G0 G) (h : NewIs K G v G' o) : NewIs K G0 v G' o := by
  obtain ⟨l, q, n, e', nd⟩ := h
  exact ⟨l, q, fun a ha => e.free (n a ha), e.trans e', nd⟩
theorem NewIs.lst {K : PySem.W.Frag} {G : Hp} {p : Addr} {xs : List V} {ds : List D} (n : G p = none) (h : IsL K G xs ds) : NewIs K G (.ref p) (upd G p (.lst xs)) (.lst ds) := by
  have e : Ex G (cut (upd G p (.lst xs)) [p]) := fun a u q => by
    have hne : a ≠ p := ne_of_none q n
    rw [cut_out (by simpa using hne), upd_ne hne]
    exact q
  exact ⟨[p], ⟨p, xs, rfl, rfl, upd_same, h.mono e⟩, fun a ha => by rw [show a = p by simpa using ha]; exact n, e, by simp⟩
theorem NewIs.dic {K : PySem.W.Frag} {G : Hp} {p : Addr} {xs : List (Key × V)} {ds : List (Key × D)} (n : G p = none) (h : IsK K G xs ds) : NewIs K G (.ref p) (upd G p (.dK xs)) (.dic ds) := by
  have e : Ex G (cut (upd G p (.dK xs)) [p]) := fun a u q => by
    have hne : a ≠ p := ne_of_none q n
    rw [cut_out (by simpa using hne), upd_ne hne]
    exact q
  exact ⟨[p], ⟨p, xs, rfl, rfl, upd_same, h.mono e⟩, fun a ha => by rw [show a = p by simpa using ha]; exact n, e, by simp⟩
def I2 (x y : D) (P : Int → Int → Prop) : Prop := ∃ i j, x = .int i ∧ y = .int j ∧ P i j
theorem i2 {i j : Int} {P : Int → Int → Prop} (h : P i j) : I2 (.int i) (.int j) P := ⟨i, j, rfl, rfl, h⟩
def I1 (x : D) (P : Int → Prop) : Prop := ∃ i, x = .int i ∧ P i
theorem i1 {i : Int} {P : Int → Prop} (h : P i) : I1 (.int i) P := ⟨i, rfl, h⟩
def B1 (x : D) (P : Bool → Prop) : Prop := ∃ i, x = .bl i ∧ P i
theorem b1 {i : Bool} {P : Bool → Prop} (h : P i) : B1 (.bl i) P := ⟨i, rfl, h⟩
section
variable {X : Cx} {H0 : Hp} {δ : List S} {a b c e : Expr} {es : List Expr} {k : D → Prop} {kt : Bool → Prop} {pos : Pos}
theorem We.mono {k' : D → Prop} (h : We X H0 e δ k) (m : ∀ d, k d → k' d) : We X H0 e δ k' := fun σ G R => (h σ G R).mono fun v G' ⟨e, d, i, q⟩ => ⟨e, d, i, m d q⟩
theorem Wt.mono {k' : Bool → Prop} (h : Wt X H0 e δ kt) (m : ∀ d, kt d → k' d) : Wt X H0 e δ k' := fun σ G R => (h σ G R).mono fun v G' ⟨e, q⟩ => ⟨e, m v q⟩
theorem we_new (h : Wo X H0 e δ (fun o => k o.d)) : We X H0 e δ k := fun σ G R => (h σ G R).mono fun v G' ⟨o, n, q⟩ => ⟨n.ex, _, n.is, q⟩
theorem we_var (i : Nat) {x : Str} {d : D} (hd : δ[i]? = some (.sh d)) (h : k d) (hp : PE X (.Name x pos) (tVar i) := by exact pv _) : We X H0 (.Name x pos) δ k := fun σ G R => by
  obtain ⟨v, e, q⟩ := R.sh i d hd
  exact toE hp ⟨v, e, Same.refl _, d, q, h⟩
theorem we_int {i : Int} {j} (h : k (.int i)) : We X H0 (.Constant (.int i) j pos) δ k := fun σ G R => toE pe_int ⟨Same.refl _, _, .int i, h⟩
theorem we_bl {i : Bool} {j} (h : k (.bl i)) : We X H0 (.Constant (.bool i) j pos) δ k := fun σ G R => toE pe_bl ⟨Same.refl _, _, .bl i, h⟩
theorem we_non {j} (h : k .non) : We X H0 (.Constant .none j pos) δ k := fun σ G R => toE pe_non ⟨Same.refl _, _, .non, h⟩
theorem we_str {x : Str} {j} (h : k (.str x)) : We X H0 (.Constant (.str x) j pos) δ k := fun σ G R => toE pe_str ⟨Same.refl _, _, .str x, h⟩
/-- two operands, then a rule on values -/
theorem two {f : V → V → Hp → VK → Prop} {P : D → D → Prop} (h : We X H0 a δ (fun x => We X H0 b δ (fun y => P x y))) (hf : ∀ G v w x y, Is X.K G v x → Is X.K G w y → P x y → ∀ Q : VK, (∀ z G' d, Ex G G' → Is X.K G' z d → k d → Q z G') → f v w G Q) :
    ∀ σ G, RelS X.K H0 σ G δ → tOp f (semE X a) (semE X b) σ G (fun v G' => Ex G G' ∧ ∃ d, Is X.K G' v d ∧ k d) := fun σ G R =>
  (h σ G R).mono fun v G1 ⟨e1, x, ix, q1⟩ => (q1 σ G1 (R.mono e1)).mono fun w G2 ⟨e2, y, iy, q2⟩ => hf G2 v w x y (ix.mono e2) iy q2 _ fun z G' d e3 iz kz => ⟨(e1.trans e2).trans e3, d, iz, kz⟩
theorem twoT {f : V → V → Hp → VK → Prop} {P : D → D → Prop} (h : We X H0 a δ (fun x => We X H0 b δ (fun y => P x y))) (hf : ∀ G v w x y, Is X.K G v x → Is X.K G w y → P x y → ∀ Q : VK, (∀ z, kt z → Q (.bl z) G) → f v w G Q) :
    ∀ σ G, RelS X.K H0 σ G δ → tTest (tOp f (semE X a) (semE X b)) σ G (fun v G' => Ex G G' ∧ kt v) := fun σ G R =>
  (h σ G R).mono fun v G1 ⟨e1, x, ix, q1⟩ => (q1 σ G1 (R.mono e1)).mono fun w G2 ⟨e2, y, iy, q2⟩ => hf G2 v w x y (ix.mono e2) iy q2 _ fun z kz => ⟨z, rfl, e1.trans e2, kz⟩
theorem one {f : V → Hp → VK → Prop} {P : D → Prop} (h : We X H0 a δ P) (hf : ∀ G v x, Is X.K G v x → P x → ∀ Q : VK, (∀ z G' d, Ex G G' → Is X.K G' z d → k d → Q z G') → f v G Q) :
    ∀ σ G, RelS X.K H0 σ G δ → tUn f (semE X a) σ G (fun v G' => Ex G G' ∧ ∃ d, Is X.K G' v d ∧ k d) := fun σ G R =>
  (h σ G R).mono fun v G1 ⟨e1, x, ix, q1⟩ => hf G1 v x ix q1 _ fun z G' d e3 iz kz => ⟨e1.trans e3, d, iz, kz⟩
theorem ii {C : Int → Int → Prop} {g : Int → Int → V} {g' : Int → Int → D} (hg : ∀ G i j, Is X.K G (g i j) (g' i j)) : ∀ (G : Hp) v w x y, Is X.K G v x → Is X.K G w y → I2 x y (fun i j => C i j ∧ k (g' i j)) → ∀ Q : VK, (∀ z G' d, Ex G G' → Is X.K G' z d → k d → Q z G') → rI C g v w G Q :=
  fun G v w x y iv iw h Q q => by
    obtain ⟨i, j, rfl, rfl, hc, hk⟩ := h
    cases iv
    cases iw
    exact ⟨i, j, rfl, rfl, hc, q _ G _ (Same.refl _) (hg G i j) hk⟩
theorem ii0 {g : Int → Int → V} {g' : Int → Int → D} (hg : ∀ G i j, Is X.K G (g i j) (g' i j)) : ∀ (G : Hp) v w x y, Is X.K G v x → Is X.K G w y → I2 x y (fun i j => k (g' i j)) → ∀ Q : VK, (∀ z G' d, Ex G G' → Is X.K G' z d → k d → Q z G') → rI0 g v w G Q :=
  fun G v w x y iv iw h Q q => by
    obtain ⟨i, j, rfl, rfl, hk⟩ := h
    cases iv
    cases iw
    exact ⟨i, j, rfl, rfl, q _ G _ (Same.refl _) (hg G i j) hk⟩
theorem iiT {g : Int → Int → Bool} : ∀ (G : Hp) v w x y, Is X.K G v x → Is X.K G w y → I2 x y (fun i j => kt (g i j)) → ∀ Q : VK, (∀ z, kt z → Q (.bl z) G) → rI0 (fun i j => .bl (g i j)) v w G Q :=
  fun G v w x y iv iw h Q q => by
    obtain ⟨i, j, rfl, rfl, hk⟩ := h
    cases iv
    cases iw
    exact ⟨i, j, rfl, rfl, q _ hk⟩
theorem we_add (h : We X H0 a δ (fun x => We X H0 b δ (fun y => I2 x y (fun i j => k (.int (i + j)))))) : We X H0 (.BinOp a .Add b pos) δ k := fun σ G R => toE (pe_op op_add pe_sem pe_sem) (two h (ii0 fun G i j => .int _) σ G R)
theorem we_sub (h : We X H0 a δ (fun x => We X H0 b δ (fun y => I2 x y (fun i j => k (.int (i - j)))))) : We X H0 (.BinOp a .Sub b pos) δ k := fun σ G R => toE (pe_op op_sub pe_sem pe_sem) (two h (ii0 fun G i j => .int _) σ G R)
theorem we_mul (h : We X H0 a δ (fun x => We X H0 b δ (fun y => I2 x y (fun i j => CMulW i j ∧ k (.int (i * j)))))) : We X H0 (.BinOp a .Mult b pos) δ k := fun σ G R => toE (pe_op op_mulW pe_sem pe_sem) (two h (ii fun G i j => .int _) σ G R)
theorem we_div (h : We X H0 a δ (fun x => We X H0 b δ (fun y => I2 x y (fun i j => CDivW i j ∧ k (.int (i / j)))))) : We X H0 (.BinOp a .FloorDiv b pos) δ k := fun σ G R => toE (pe_op op_fdivW pe_sem pe_sem) (two h (ii fun G i j => .int _) σ G R)
theorem we_mod (h : We X H0 a δ (fun x => We X H0 b δ (fun y => I2 x y (fun i j => 0 < j ∧ k (.int (i % j)))))) : We X H0 (.BinOp a .Mod b pos) δ k := fun σ G R => toE (pe_op op_mod pe_sem pe_sem) (two h (ii fun G i j => .int _) σ G R)
theorem we_pow (h : We X H0 a δ (fun x => We X H0 b δ (fun y => I2 x y (fun i j => (0 ≤ j ∧ j ≤ 1000000 ∧ i.natAbs < 2 ^ 64) ∧ k (.int (i ^ j.toNat)))))) : We X H0 (.BinOp a .Pow b pos) δ k := fun σ G R => toE (pe_op op_pow pe_sem pe_sem) (two h (ii fun G i j => .int _) σ G R)
theorem we_neg (h : We X H0 a δ (fun x => I1 x (fun i => k (.int (-i))))) : We X H0 (.UnaryOp .USub a pos) δ k := fun σ G R => toE (pe_un un_neg pe_sem) (one h (fun G v x iv h Q q => by
  obtain ⟨i, rfl, hk⟩ := h
  cases iv
  exact ⟨i, rfl, q _ G _ (Same.refl _) (.int _) hk⟩) σ G R)
theorem wt_lt (h : We X H0 a δ (fun x => We X H0 b δ (fun y => I2 x y (fun i j => kt (decide (i < j)))))) : Wt X H0 (.Compare a [.Lt] [b] pos) δ kt := fun σ G R => toT (pt_cmpR op_lt pe_sem pe_sem (nomark _)) (twoT h (iiT (g := fun i j => decide (i < j))) σ G R)
theorem wt_le (h : We X H0 a δ (fun x => We X H0 b δ (fun y => I2 x y (fun i j => kt (decide (i ≤ j)))))) : Wt X H0 (.Compare a [.LtE] [b] pos) δ kt := fun σ G R => toT (pt_cmpR op_le pe_sem pe_sem (nomark _)) (twoT h (iiT (g := fun i j => decide (i ≤ j))) σ G R)
theorem wt_gt (h : We X H0 a δ (fun x => We X H0 b δ (fun y => I2 x y (fun i j => kt (decide (j < i)))))) : Wt X H0 (.Compare a [.Gt] [b] pos) δ kt := fun σ G R => toT (pt_cmpR op_gt pe_sem pe_sem (nomark _)) (twoT h (iiT (g := fun i j => decide (j < i))) σ G R)
theorem wt_ge (h : We X H0 a δ (fun x => We X H0 b δ (fun y => I2 x y (fun i j => kt (decide (j ≤ i)))))) : Wt X H0 (.Compare a [.GtE] [b] pos) δ kt := fun σ G R => toT (pt_cmpR op_ge pe_sem pe_sem (nomark _)) (twoT h (iiT (g := fun i j => decide (j ≤ i))) σ G R)
theorem we_lt (h : We X H0 a δ (fun x => We X H0 b δ (fun y => I2 x y (fun i j => k (.bl (decide (i < j))))))) : We X H0 (.Compare a [.Lt] [b] pos) δ k := fun σ G R => toE (pe_cmpR op_lt pe_sem pe_sem (nomark _)) (two h (ii0 fun G i j => .bl _) σ G R)
theorem we_le (h : We X H0 a δ (fun x => We X H0 b δ (fun y => I2 x y (fun i j => k (.bl (decide (i ≤ j))))))) : We X H0 (.Compare a [.LtE] [b] pos) δ k := fun σ G R => toE (pe_cmpR op_le pe_sem pe_sem (nomark _)) (two h (ii0 fun G i j => .bl _) σ G R)
theorem we_gt (h : We X H0 a δ (fun x => We X H0 b δ (fun y => I2 x y (fun i j => k (.bl (decide (j < i))))))) : We X H0 (.Compare a [.Gt] [b] pos) δ k := fun σ G R => toE (pe_cmpR op_gt pe_sem pe_sem (nomark _)) (two h (ii0 fun G i j => .bl _) σ G R)
theorem we_ge (h : We X H0 a δ (fun x => We X H0 b δ (fun y => I2 x y (fun i j => k (.bl (decide (j ≤ i))))))) : We X H0 (.Compare a [.GtE] [b] pos) δ k := fun σ G R => toE (pe_cmpR op_ge pe_sem pe_sem (nomark _)) (two h (ii0 fun G i j => .bl _) σ G R)
/-! ### == of flat things -/
def flatEq : D → D → Option Bool
  | .non, .non => some true | .non, .int _ => some false | .int _, .non => some false | .non, .bl _ => some false | .bl _, .non => some false | .non, .str _ => some false | .str _, .non => some false
  | .int i, .int j => some (decide (i = j)) | .bl i, .bl j => some (decide (i = j)) | .str i, .str j => some (decide (i = j))
  | .int _, .str _ => some false | .str _, .int _ => some false | .bl _, .str _ => some false | .str _, .bl _ => some false
  | _, _ => none
def FE (x y : D) (P : Bool → Prop) : Prop := ∃ r, flatEq x y = some r ∧ P r
theorem flatEq_is {K : PySem.W.Frag} {G : Hp} {v w : V} {x y : D} {r : Bool} (iv : Is K G v x) (iw : Is K G w y) (h : flatEq x y = some r) : scal v w = true ∧ decide (v = w) = r := by
  cases iv <;> cases iw <;> first
    | (cases h; exact ⟨rfl, by simp⟩)
    | (cases h; exact ⟨rfl, rfl⟩)
    | cases h
theorem wt_eq (h : We X H0 a δ (fun x => We X H0 b δ (fun y => FE x y kt))) : Wt X H0 (.Compare a [.Eq] [b] pos) δ kt := fun σ G R => toT (pt_cmpR op_eq pe_sem pe_sem (nomark _)) (twoT h (fun G v w x y iv iw ⟨r, h, hk⟩ Q q => by
  obtain ⟨h1, h2⟩ := flatEq_is iv iw h
  exact ⟨h1, by rw [h2]; exact q r hk⟩) σ G R)
theorem wt_ne (h : We X H0 a δ (fun x => We X H0 b δ (fun y => FE x y fun r => kt (!r)))) : Wt X H0 (.Compare a [.NotEq] [b] pos) δ kt := fun σ G R => toT (pt_cmpR op_ne pe_sem pe_sem (nomark _)) (twoT h (fun G v w x y iv iw ⟨r, h, hk⟩ Q q => by
  obtain ⟨h1, h2⟩ := flatEq_is iv iw h
  exact ⟨h1, by rw [h2]; exact q _ hk⟩) σ G R)
theorem we_eq (h : We X H0 a δ (fun x => We X H0 b δ (fun y => FE x y fun r => k (.bl r)))) : We X H0 (.Compare a [.Eq] [b] pos) δ k := fun σ G R => toE (pe_cmpR op_eq pe_sem pe_sem (nomark _)) (two h (fun G v w x y iv iw ⟨r, h, hk⟩ Q q => by
  obtain ⟨h1, h2⟩ := flatEq_is iv iw h
  exact ⟨h1, by rw [h2]; exact q _ G _ (Same.refl _) (.bl r) hk⟩) σ G R)
theorem we_ne (h : We X H0 a δ (fun x => We X H0 b δ (fun y => FE x y fun r => k (.bl (!r))))) : We X H0 (.Compare a [.NotEq] [b] pos) δ k := fun σ G R => toE (pe_cmpR op_ne pe_sem pe_sem (nomark _)) (two h (fun G v w x y iv iw ⟨r, h, hk⟩ Q q => by
  obtain ⟨h1, h2⟩ := flatEq_is iv iw h
  exact ⟨h1, by rw [h2]; exact q _ G _ (Same.refl _) (.bl (!r)) hk⟩) σ G R)
theorem fe {x y : D} {r : Bool} {P : Bool → Prop} (e : flatEq x y = some r) (h : P r) : FE x y P := ⟨r, e, h⟩
/-- is None -/
def isNon : D → Bool
  | .non => true
  | _ => false
def NN (y : D) (P : Prop) : Prop := y = .non ∧ P
theorem nn {P : Prop} (h : P) : NN .non P := ⟨rfl, h⟩
theorem isNon_is {K : PySem.W.Frag} {G : Hp} {v : V} {x : D} (iv : Is K G v x) : decide (v = .non) = isNon x := by
  cases iv <;> rfl
theorem wt_isN (h : We X H0 a δ (fun x => We X H0 b δ (fun y => NN y (kt (isNon x))))) : Wt X H0 (.Compare a [.Is] [b] pos) δ kt := fun σ G R => toT (pt_cmpR op_isN pe_sem pe_sem (nomark _)) (twoT h (fun G v w x y iv iw ⟨h, hk⟩ Q q => by
  subst h
  cases iw
  exact ⟨rfl, by rw [isNon_is iv]; exact q _ hk⟩) σ G R)
theorem wt_notN (h : We X H0 a δ (fun x => We X H0 b δ (fun y => NN y (kt (!isNon x))))) : Wt X H0 (.Compare a [.IsNot] [b] pos) δ kt := fun σ G R => toT (pt_cmpR op_notN pe_sem pe_sem (nomark _)) (twoT h (fun G v w x y iv iw ⟨h, hk⟩ Q q => by
  subst h
  cases iw
  exact ⟨rfl, by rw [isNon_is iv]; exact q _ hk⟩) σ G R)
theorem we_isN (h : We X H0 a δ (fun x => We X H0 b δ (fun y => NN y (k (.bl (isNon x)))))) : We X H0 (.Compare a [.Is] [b] pos) δ k := fun σ G R => toE (pe_cmpR op_isN pe_sem pe_sem (nomark _)) (two h (fun G v w x y iv iw ⟨h, hk⟩ Q q => by
  subst h
  cases iw
  exact ⟨rfl, by rw [isNon_is iv]; exact q _ G _ (Same.refl _) (.bl _) hk⟩) σ G R)
theorem we_notN (h : We X H0 a δ (fun x => We X H0 b δ (fun y => NN y (k (.bl (!isNon x)))))) : We X H0 (.Compare a [.IsNot] [b] pos) δ k := fun σ G R => toE (pe_cmpR op_notN pe_sem pe_sem (nomark _)) (two h (fun G v w x y iv iw ⟨h, hk⟩ Q q => by
  subst h
  cases iw
  exact ⟨rfl, by rw [isNon_is iv]; exact q _ G _ (Same.refl _) (.bl _) hk⟩) σ G R)
/-! ### subscripts -/
def Ix (x y : D) (P : D → Prop) : Prop := ∃ l ds i d, x = .sq l ds ∧ y = .int i ∧ atI ds i = some d ∧ P d
theorem ixn (j : Nat) {l : Bool} {ds : List D} {i : Int} {d : D} {P : D → Prop} (e : ds[j]? = some d) (h : P d) (hi : i = (j : Int) := by rfl) : Ix (.sq l ds) (.int i) P := ⟨l, ds, i, d, rfl, rfl, by rw [hi]; exact atI_nat e, h⟩
theorem ixa {l : Bool} {ds : List D} {i : Int} {d : D} {P : D → Prop} (e : L2.atI ds i = some d) (h : P d) : Ix (.sq l ds) (.int i) P := ⟨l, ds, i, d, rfl, rfl, e, h⟩
theorem IsL.atI {K : PySem.W.Frag} {G : Hp} {xs : List V} {ds : List D} {i : Int} {d : D} (h : IsL K G xs ds) (e : L2.atI ds i = some d) : ∃ x, L2.atI xs i = some x ∧ Is K G x d := by
  unfold L2.atI at e ⊢
  rw [h.1]
  cases q : ixN ds.length i with
  | none => rw [q] at e; cases e
  | some j => rw [q] at e; exact h.get e
theorem we_ix (h : We X H0 a δ (fun x => We X H0 b δ (fun y => Ix x y k))) (hs : PlainIx b := by exact fun _ _ => rfl) : We X H0 (.Subscript a b pos) δ k := fun σ G R => toE (pe_ix ix_seq pe_sem pe_sem hs) (two h (fun G v w x y iv iw ⟨l, ds, i, d, ex, ey, he, hk⟩ Q q => by
  subst ex ey
  cases iw
  cases l with
  | true =>
    obtain ⟨p, xs, rfl, hq, hl⟩ := iv.lst_inv
    obtain ⟨z, hz, iz⟩ := hl.atI he
    exact .inl ⟨p, xs, i, z, rfl, rfl, .inl hq, hz, q _ G _ (Same.refl _) iz hk⟩
  | false =>
    obtain ⟨p, xs, rfl, hq, hl⟩ := iv.tup_inv
    obtain ⟨z, hz, iz⟩ := hl.atI he
    exact .inr (.inl ⟨p, xs, i, z, rfl, rfl, hq, hz, q _ G _ (Same.refl _) iz hk⟩)) σ G R)
/-- the script: one item, its length -/
theorem we_ixS (h : We X H0 a δ (fun x => We X H0 b δ (fun y => ∃ ns i n, x = .scr ns ∧ y = .int i ∧ atI ns i = some n ∧ k (.int n)))) (hs : PlainIx b := by exact fun _ _ => rfl) : We X H0 (.Subscript a b pos) δ k := fun σ G R => toE (pe_ix ix_seq pe_sem pe_sem hs) (two h (fun G v w x y iv iw ⟨ns, i, n, ex, ey, he, hk⟩ Q q => by
  subst ex ey
  cases iw
  obtain ⟨p, rfl, hq⟩ := iv.scr_inv
  refine .inl ⟨p, _, i, .int n, rfl, rfl, hq, ?_, q _ G _ (Same.refl _) (.int _) hk⟩
  unfold L2.atI at he ⊢
  rw [List.length_map]
  cases e : ixN ns.length i with
  | none => rw [e] at he; cases he
  | some j =>
    rw [e] at he
    show (ns.map V.int)[j]? = some (.int n)
    rw [List.getElem?_map, show ns[j]? = some n from he] <;> rfl) σ G R)
/-! ### and, or, not, if -/
theorem ww_and1 (h : Wt X H0 a δ kt) : Ww X H0 (.BoolOp .And [a] pos) δ kt := fun σ G R => toW (pw_and1 pt_sem) (h σ G R)
theorem ww_or1 (h : Wt X H0 a δ kt) : Ww X H0 (.BoolOp .Or [a] pos) δ kt := fun σ G R => toW (pw_or1 pt_sem) (h σ G R)
theorem ww_and (h : Wt X H0 a δ (fun r => (r = true → Ww X H0 (.BoolOp .And (b :: es) pos) δ kt) ∧ (r = false → kt false))) : Ww X H0 (.BoolOp .And (a :: b :: es) pos) δ kt := fun σ G R => toW (pw_and pt_sem pw_sem) ((h σ G R).mono fun r G1 ⟨e1, h1, h2⟩ => by
  cases r with
  | true =>
    show semW X _ σ G1 _
    exact (h1 rfl σ G1 (R.mono e1)).mono fun _ _ ⟨e2, q⟩ => ⟨e1.trans e2, q⟩
  | false => exact ⟨e1, h2 rfl⟩)
theorem ww_or (h : Wt X H0 a δ (fun r => (r = false → Ww X H0 (.BoolOp .Or (b :: es) pos) δ kt) ∧ (r = true → kt true))) : Ww X H0 (.BoolOp .Or (a :: b :: es) pos) δ kt := fun σ G R => toW (pw_or pt_sem pw_sem) ((h σ G R).mono fun r G1 ⟨e1, h1, h2⟩ => by
  cases r with
  | false =>
    show semW X _ σ G1 _
    exact (h1 rfl σ G1 (R.mono e1)).mono fun _ _ ⟨e2, q⟩ => ⟨e1.trans e2, q⟩
  | true => exact ⟨e1, h2 rfl⟩)
theorem wt_w (h : Ww X H0 e δ kt) : Wt X H0 e δ kt := fun σ G R => toT pw_sem.pt (h σ G R)
theorem wt_not (h : Wt X H0 a δ (fun r => kt (!r))) : Wt X H0 (.UnaryOp .Not a pos) δ kt := fun σ G R => toT (pt_not pt_sem) (h σ G R)
theorem wt_val (h : We X H0 e δ (fun d => B1 d kt)) (he : ∀ whole, isTrue e X.env whole = (do let v ← whole; standAt e.pos; holding [v] (truthy v)) := by exact fun _ => rfl) : Wt X H0 e δ kt := fun σ G R => toT (pt_val pe_sem he) ((h σ G R).mono fun v G1 ⟨e1, d, i, b, ed, q⟩ => by
  subst ed
  cases i
  exact ⟨b, rfl, e1, q⟩)
def truD : D → Option Bool
  | .non => some false
  | .bl b => some b
  | .int i => some (i != 0)
  | .sq _ ds => some (!ds.isEmpty)
  | _ => none
def TR (x : D) (P : Bool → Prop) : Prop := ∃ r, truD x = some r ∧ P r
theorem tr {x : D} {r : Bool} {P : Bool → Prop} (e : truD x = some r) (h : P r) : TR x P := ⟨r, e, h⟩
theorem isEmpty_len {α β : Type} {xs : List α} {ys : List β} (h : xs.length = ys.length) : xs.isEmpty = ys.isEmpty := by
  cases xs <;> cases ys <;> first | rfl | cases h
/-- the truth of any value -/
theorem wt_tru (h : We X H0 e δ (fun d => TR d kt)) (he : ∀ whole, isTrue e X.env whole = (do let v ← whole; standAt e.pos; holding [v] (truthy v)) := by exact fun _ => rfl) : Wt X H0 e δ kt := fun σ G R => toT (pt_truth pe_sem he) ((h σ G R).mono fun v G1 ⟨e1, d, i, r, ed, q⟩ => by
  refine ⟨r, ?_, e1, q⟩
  cases d with
  | non => cases i; cases ed; rfl
  | bl b => cases i; cases ed; rfl
  | int n => cases i; cases ed; rfl
  | sq l ds =>
    cases ed
    cases l with
    | true =>
      obtain ⟨p, xs, rfl, hq, hl⟩ := i.lst_inv
      exact .inl ⟨xs, .inl hq, by rw [isEmpty_len hl.1]⟩
    | false =>
      obtain ⟨p, xs, rfl, hq, hl⟩ := i.tup_inv
      exact .inr (.inl ⟨xs, hq, by rw [isEmpty_len hl.1]⟩)
  | str x => cases ed
  | dic x => cases ed
  | ins C x => cases ed
  | ob x => cases ed
  | exc x y z => cases ed
  | scr x => cases ed)
theorem we_one {op} (h : We X H0 a δ k) : We X H0 (.BoolOp op [a] pos) δ k := fun σ G R => toE (pe_one pe_sem) (h σ G R)
theorem we_and (h : We X H0 a δ (fun d => B1 d fun r => (r = true → We X H0 (.BoolOp .And (b :: es) pos) δ k) ∧ (r = false → k (.bl false)))) : We X H0 (.BoolOp .And (a :: b :: es) pos) δ k := fun σ G R => toE (pe_and pe_sem pe_sem) ((h σ G R).mono fun v G1 ⟨e1, d, i, r, ed, h1, h2⟩ => by
  subst ed
  cases i
  refine ⟨r, rfl, ?_⟩
  cases r with
  | true =>
    show semE X _ σ G1 _
    exact (h1 rfl σ G1 (R.mono e1)).mono fun _ _ ⟨e2, q⟩ => ⟨e1.trans e2, q⟩
  | false => exact ⟨e1, _, .bl false, h2 rfl⟩)
theorem we_or (h : We X H0 a δ (fun d => B1 d fun r => (r = false → We X H0 (.BoolOp .Or (b :: es) pos) δ k) ∧ (r = true → k (.bl true)))) : We X H0 (.BoolOp .Or (a :: b :: es) pos) δ k := fun σ G R => toE (pe_or pe_sem pe_sem) ((h σ G R).mono fun v G1 ⟨e1, d, i, r, ed, h1, h2⟩ => by
  subst ed
  cases i
  refine ⟨r, rfl, ?_⟩
  cases r with
  | false =>
    show semE X _ σ G1 _
    exact (h1 rfl σ G1 (R.mono e1)).mono fun _ _ ⟨e2, q⟩ => ⟨e1.trans e2, q⟩
  | true => exact ⟨e1, _, .bl true, h2 rfl⟩)
theorem we_not (h : We X H0 a δ (fun d => B1 d fun r => k (.bl (!r)))) : We X H0 (.UnaryOp .Not a pos) δ k := fun σ G R => toE (pe_not pe_sem) ((h σ G R).mono fun v G1 ⟨e1, d, i, r, ed, q⟩ => by
  subst ed
  cases i
  exact ⟨r, rfl, e1, _, .bl _, q⟩)
theorem we_if (h : Wt X H0 c δ (fun r => (r = true → We X H0 a δ k) ∧ (r = false → We X H0 b δ k))) : We X H0 (.IfExp c a b pos) δ k := fun σ G R => toE (pe_ifExp pt_sem pe_sem pe_sem) ((h σ G R).mono fun r G1 ⟨e1, h1, h2⟩ => by
  cases r with
  | true =>
    show semE X _ σ G1 _
    exact (h1 rfl σ G1 (R.mono e1)).mono fun _ _ ⟨e2, q⟩ => ⟨e1.trans e2, q⟩
  | false =>
    show semE X _ σ G1 _
    exact (h2 rfl σ G1 (R.mono e1)).mono fun _ _ ⟨e2, q⟩ => ⟨e1.trans e2, q⟩)
/-! ### arguments, displays -/
variable {ka : List D → Prop}
theorem wa_nil (h : ka []) : Wa X H0 [] δ ka := fun σ G R => toA pa_nil ⟨Same.refl _, _, .nil, h⟩
theorem wa_cons (h : We X H0 e δ (fun d => Wa X H0 es δ (fun ds => ka (d :: ds)))) (hs : notStar e = true := by rfl) : Wa X H0 (e :: es) δ ka := fun σ G R => toA (pa_cons pe_sem pa_sem (star_of hs)) ((h σ G R).mono fun v G1 ⟨e1, d, i, q1⟩ =>
  (q1 σ G1 (R.mono e1)).mono fun vs G2 ⟨e2, ds, is, q2⟩ => ⟨e1.trans e2, _, .cons (i.mono e2) is, q2⟩)
theorem we_tup {x1} (h : Wa X H0 es δ (fun ds => ds.length ≤ 100000 ∧ k (.sq false ds))) : We X H0 (.Tuple es x1 pos) δ k := fun σ G R => toE (pe_tup pa_sem) ((h σ G R).mono fun vs G1 ⟨e1, ds, is, hl, q⟩ =>
  ⟨Nat.le_trans (by rw [is.1]; exact hl) (by decide), fun p hp => ⟨e1.trans (Ex.new hp), _, .mkT (SqT.of upd_same) (is.mono (Ex.new hp)), q⟩⟩)
variable {ko : Ow → Prop}
theorem wo_lst (h : Wa X H0 es δ (fun ds => ds.length ≤ 100000 ∧ ko (.lst ds))) : Wo X H0 (.List es pos) δ ko := fun σ G R => toE (pe_lst pa_sem) ((h σ G R).mono fun vs G1 ⟨e1, ds, is, hl, q⟩ =>
  ⟨Nat.le_trans (by rw [is.1]; exact hl) (by decide), fun p hp => ⟨_, (NewIs.lst hp is).back e1, q⟩⟩)
/-! ### built-in functions -/
/-- a built-in by its name: what its rule asks, by data -/
theorem call1 {r : List V → Hp → VK → Prop} {P : List D → Prop} {ta : TA} (h : Wa X H0 es δ P) (hr : ∀ G vs ds, IsL X.K G vs ds → P ds → ∀ Q : VK, (∀ z G' d, Ex G G' → Is X.K G' z d → k d → Q z G') → r vs G Q) :
    ∀ σ G, RelS X.K H0 σ G δ → tCB r (semA X es) σ G (fun v G' => Ex G G' ∧ ∃ d, Is X.K G' v d ∧ k d) := fun σ G R =>
  (h σ G R).mono fun vs G1 ⟨e1, ds, is, q⟩ => hr G1 vs ds is q _ fun z G' d e3 iz kz => ⟨e1.trans e3, d, iz, kz⟩
variable {p : Pos}
theorem we_callB {x : Str} {id : String} {r : List V → Hp → VK → Prop} {P : List D → Prop} (hc : CallR X (.builtin id) r) (hv : bootBuiltins x = some (.builtin id)) (hn : x ≠ "__name__") (hdb : (x == ("__debug__" : Str)) = false)
    (hr : ∀ G vs ds, IsL X.K G vs ds → P ds → ∀ Q : VK, (∀ z G' d, Ex G G' → Is X.K G' z d → k d → Q z G') → r vs G Q) (hm : X.mg x = none) (h : Wa X H0 (e :: es) δ P) (hg : Gl X x)
    (he : notStar e = true) (hpl : es.all notStar = true) : We X H0 (.Call (.Name x p) (e :: es) [] pos) δ k :=
  fun σ G R => toE (pe_callB hc hg hm hv pa_sem hn hdb (star_of he) (star_any hpl)) (call1 (ta := semA X (e :: es)) h hr σ G R)
theorem we_callTy {x : Str} {T : String} {r : List V → Hp → VK → Prop} {P : List D → Prop} (hc : CallR X (.type T) r) (hv : bootBuiltins x = some (.type T)) (hn : x ≠ "__name__") (hdb : (x == ("__debug__" : Str)) = false)
    (hr : ∀ G vs ds, IsL X.K G vs ds → P ds → ∀ Q : VK, (∀ z G' d, Ex G G' → Is X.K G' z d → k d → Q z G') → r vs G Q) (hm : X.mg x = none) (h : Wa X H0 (e :: es) δ P) (hg : Gl X x)
    (he : notStar e = true) (hpl : es.all notStar = true) : We X H0 (.Call (.Name x p) (e :: es) [] pos) δ k :=
  fun σ G R => toE (pe_callTy hc hg hm hv pa_sem hn hdb (star_of he) (star_any hpl)) (call1 (ta := semA X (e :: es)) h hr σ G R)
def SQ (x : D) (P : Bool → List D → Prop) : Prop := ∃ l xs, x = .sq l xs ∧ P l xs
theorem sqk {l : Bool} {xs : List D} {P : Bool → List D → Prop} (h : P l xs) : SQ (.sq l xs) P := ⟨l, xs, rfl, h⟩
def CI (x : D) (P : Int → Prop) : Prop := (∃ i, x = .int i ∧ P i) ∨ ∃ b, x = .bl b ∧ P (if b then 1 else 0)
theorem ci {i : Int} {P : Int → Prop} (h : P i) : CI (.int i) P := .inl ⟨i, rfl, h⟩
theorem cb {b : Bool} {P : Int → Prop} (h : P (if b then 1 else 0)) : CI (.bl b) P := .inr ⟨b, rfl, h⟩
def A1 (ds : List D) (P : D → Prop) : Prop := ∃ x, ds = [x] ∧ P x
theorem a1 {x : D} {P : D → Prop} (h : P x) : A1 [x] P := ⟨x, rfl, h⟩
def A2 (ds : List D) (P : D → D → Prop) : Prop := ∃ x y, ds = [x, y] ∧ P x y
theorem a2 {x y : D} {P : D → D → Prop} (h : P x y) : A2 [x, y] P := ⟨x, y, rfl, h⟩
theorem IsL.one {K : PySem.W.Frag} {G : Hp} {vs : List V} {x : D} (h : IsL K G vs [x]) : ∃ v, vs = [v] ∧ Is K G v x := by
  obtain ⟨v, r, rfl, i, h⟩ := h.inv_cons
  rw [h.inv_nil]
  exact ⟨v, rfl, i⟩
theorem IsL.two {K : PySem.W.Frag} {G : Hp} {vs : List V} {x y : D} (h : IsL K G vs [x, y]) : ∃ v w, vs = [v, w] ∧ Is K G v x ∧ Is K G w y := by
  obtain ⟨v, r, rfl, i, h⟩ := h.inv_cons
  obtain ⟨w, rfl, j⟩ := h.one
  exact ⟨v, w, rfl, i, j⟩
theorem we_len (hm : X.mg "len" = none) (h : Wa X H0 [e] δ (fun ds => A1 ds fun x => SQ x fun l xs => k (.int xs.length))) (hg : Gl X "len" := by rfl) (he : notStar e = true := by rfl) :
    We X H0 (.Call (.Name "len" p) [e] [] pos) δ k := we_callB call_len_seq boot_len (by decide) (by decide) (fun G vs ds is ⟨x, ed, l, xs, ex, hk⟩ Q q => by
  subst ed ex
  obtain ⟨v, rfl, i⟩ := is.one
  cases l with
  | true =>
    obtain ⟨a, ys, rfl, hq, hl⟩ := i.lst_inv
    exact ⟨a, ys, rfl, .inl (.inl hq), q _ G _ (Same.refl _) (by rw [hl.1]; exact .int _) hk⟩
  | false =>
    obtain ⟨a, ys, rfl, hq, hl⟩ := i.tup_inv
    exact ⟨a, ys, rfl, .inr hq, q _ G _ (Same.refl _) (by rw [hl.1]; exact .int _) hk⟩) hm h hg he rfl
theorem we_lenS (hm : X.mg "len" = none) (h : Wa X H0 [e] δ (fun ds => A1 ds fun x => ∃ ns, x = .scr ns ∧ k (.int (ns.length : Int)))) (hg : Gl X "len" := by rfl) (he : notStar e = true := by rfl) :
    We X H0 (.Call (.Name "len" p) [e] [] pos) δ k := we_callB call_len_seq boot_len (by decide) (by decide) (fun G vs ds is ⟨x, ed, ns, ex, hk⟩ Q q => by
  subst ed ex
  obtain ⟨v, rfl, i⟩ := is.one
  obtain ⟨a, rfl, hq⟩ := i.scr_inv
  exact ⟨a, _, rfl, .inl hq, q _ G _ (Same.refl _) (by rw [List.length_map]; exact .int _) hk⟩) hm h hg he rfl
theorem we_cint (hm : X.mg "int" = none) (h : Wa X H0 [e] δ (fun ds => A1 ds fun x => CI x fun i => k (.int i))) (hg : Gl X "int" := by rfl) (he : notStar e = true := by rfl) :
    We X H0 (.Call (.Name "int" p) [e] [] pos) δ k := we_callTy call_int1 (by decide +kernel) (by decide) (by decide) (fun G vs ds is ⟨x, ed, hx⟩ Q q => by
  subst ed
  obtain ⟨v, rfl, i⟩ := is.one
  rcases hx with ⟨n, ex, hk⟩ | ⟨n, ex, hk⟩
  · subst ex
    cases i
    exact .inl ⟨n, rfl, q _ G _ (Same.refl _) (.int _) hk⟩
  · subst ex
    cases i
    exact .inr ⟨n, rfl, q _ G _ (Same.refl _) (.int _) hk⟩) hm h hg he rfl
theorem we_abs (hm : X.mg "abs" = none) (h : Wa X H0 [e] δ (fun ds => A1 ds fun x => I1 x fun i => k (.int (i.natAbs : Int)))) (hg : Gl X "abs" := by rfl) (he : notStar e = true := by rfl) :
    We X H0 (.Call (.Name "abs" p) [e] [] pos) δ k := we_callB call_abs (by decide +kernel) (by decide) (by decide) (fun G vs ds is ⟨x, ed, n, ex, hk⟩ Q q => by
  subst ed ex
  obtain ⟨v, rfl, i⟩ := is.one
  cases i
  refine ⟨n, rfl, q _ G _ (Same.refl _) ?_ hk⟩
  rw [show (if n < 0 then -n else n) = (n.natAbs : Int) by split <;> omega]
  exact .int _) hm h hg he rfl
theorem wo_list (hm : X.mg "list" = none) (h : Wa X H0 [e] δ (fun ds => A1 ds fun x => SQ x fun l xs => ko (.lst xs))) (hg : Gl X "list" := by rfl) (he : notStar e = true := by rfl) :
    Wo X H0 (.Call (.Name "list" p) [e] [] pos) δ ko := fun σ G R => toE (pe_callTy call_list_of hg hm (by decide +kernel) pa_sem (by decide) (by decide) (star_of he) rfl) ((h σ G R).mono fun vs G1 ⟨e1, ds, is, x, ed, l, xs, ex, hk⟩ => by
  subst ed ex
  obtain ⟨v, rfl, i⟩ := is.one
  cases l with
  | true =>
    obtain ⟨a, ys, rfl, hq, hl⟩ := i.lst_inv
    exact ⟨a, ys, rfl, .inl (.inl hq), fun t ht => ⟨_, (NewIs.lst ht hl).back e1, hk⟩⟩
  | false =>
    obtain ⟨a, ys, rfl, hq, hl⟩ := i.tup_inv
    exact ⟨a, ys, rfl, .inr hq, fun t ht => ⟨_, (NewIs.lst ht hl).back e1, hk⟩⟩)
theorem we_tuple (hm : X.mg "tuple" = none) (h : Wa X H0 [e] δ (fun ds => A1 ds fun x => SQ x fun l xs => k (.sq false xs))) (hg : Gl X "tuple" := by rfl) (he : notStar e = true := by rfl) :
    We X H0 (.Call (.Name "tuple" p) [e] [] pos) δ k := we_callTy call_tuple_of (by decide +kernel) (by decide) (by decide) (fun G vs ds is ⟨x, ed, l, xs, ex, hk⟩ Q q => by
  subst ed ex
  obtain ⟨v, rfl, i⟩ := is.one
  cases l with
  | true =>
    obtain ⟨a, ys, rfl, hq, hl⟩ := i.lst_inv
    exact ⟨a, ys, rfl, .inl ⟨.inl hq, fun t ht => q _ _ _ (Ex.new ht) (.mkT (SqT.of upd_same) (hl.mono (Ex.new ht))) hk⟩⟩
  | false =>
    obtain ⟨a, ys, rfl, hq, hl⟩ := i.tup_inv
    exact ⟨a, ys, rfl, .inr ⟨hq, q _ G _ (Same.refl _) i hk⟩⟩) hm h hg he rfl
/-! ### isinstance with a built-in class -/
def tyD : D → Option String
  | .non => some "NoneType" | .bl _ => some "bool" | .int _ => some "int" | .str _ => some "str"
  | .sq true _ => some "list" | .sq false _ => some "tuple" | .dic _ => some "dict"
  | _ => none
theorem tyD_is {K : PySem.W.Frag} {G : Hp} {v : V} {d : D} {t : String} (i : Is K G v d) (h : tyD d = some t) : TyX K G v (.type t) := by
  cases i with
  | non => cases h; exact .base .non
  | bl b => cases h; exact .base (.bl b)
  | int b => cases h; exact .base (.int b)
  | str b => cases h; exact .base (.str b)
  | lst q _ _ =>
    cases h
    rcases q with q | ⟨o, q⟩
    · exact .base (.lst q)
    · exact .base (.frz q)
  | tup q _ _ =>
    cases h
    rcases q with (q | ⟨o, q⟩) | ⟨o, its, n, q, c, _⟩
    · exact .base (.tup q)
    · exact .fTuple q
    · exact .kTuple q c
  | dic q _ _ =>
    cases h
    rcases q with q | ⟨o, q⟩
    · exact .base (.dK q)
    · exact .fDict q
  | ins _ q _ _ => cases h
  | ob a => cases h
  | exc _ _ _ => cases h
  | scr _ => cases h
def II (d : D) (T : String) (P : Bool → Prop) : Prop := ∃ t b, tyD d = some t ∧ kitB t T = some b ∧ P b
theorem ii_ {d : D} {T t : String} {b : Bool} {P : Bool → Prop} (e : tyD d = some t) (e2 : kitB t T = some b) (h : P b) : II d T P := ⟨t, b, e, e2, h⟩
/-- a built-in class as a value -/
theorem isi_arg {x : Str} {T : String} (hm : X.mg x = none) (hv : bootBuiltins x = some (.type T)) (hg : Gl X x) (hn : x ≠ "__name__") (hd : (x == ("__debug__" : Str)) = false) : PE X (.Name x pos) (tC (.ty T)) := pe_bltn hg hm hv rfl hn hd
theorem we_isi {p2 : Pos} {x : Str} {T : String} (hm : X.mg "isinstance" = none) (hc : PE X (.Name x p2) (tC (.ty T))) (h : We X H0 e δ (fun d => II d T fun b => k (.bl b))) (hg : Gl X "isinstance" := by rfl)
    (he : notStar e = true := by rfl) :
    We X H0 (.Call (.Name "isinstance" p) [e, .Name x p2] [] pos) δ k := fun σ G R => toE (pe_callB call_isi hg hm (by decide +kernel) (pa_cons pe_sem (pa_cons hc pa_nil (star_of rfl)) (star_of he)) (by decide) (by decide) (star_of he) (star_any rfl)) ((h σ G R).mono fun v G1 ⟨e1, d, i, t, b, h1, h2, q⟩ =>
  ⟨v, .ty T, .type t, .type T, b, rfl, .ty T, tyD_is i h1, kit_ty h2, e1, _, .bl b, q⟩)
end
end DL
set_option Elab.async false
set_option linter.all false
set_option maxRecDepth 100000
set_option maxHeartbeats 2000000
/-! Part d: statements, loops, calls, defs, by data. -/
namespace DL
open PySem PySem.Spec PyProof.Rows L2
/-! ### what a call hands back, what it lets out -/
def RetIs (K : PySem.W.Frag) (H : Hp) (v : V) (H' : Hp) : S → Prop
  | .no => False
  | .sh d => Ex H H' ∧ Is K H' v d
  | .ow o => NewIs K H v H' o
theorem RetIs.ex {K : PySem.W.Frag} {H H' : Hp} {v : V} {r : S} (h : RetIs K H v H' r) : Ex H H' ∧ Is K H' v r.d := by
  cases r with
  | no => exact h.elim
  | sh d => exact h
  | ow o => exact ⟨NewIs.ex h, NewIs.is h⟩
theorem RetIs.back {K : PySem.W.Frag} {H0 H H' : Hp} {v : V} {r : S} (e : Ex H0 H) (h : RetIs K H v H' r) : RetIs K H0 v H' r := by
  cases r with
  | no => exact h.elim
  | sh d => exact ⟨e.trans h.1, h.2⟩
  | ow o => exact NewIs.back e h
def ExcIs (K : PySem.W.Frag) (H : Hp) : Option Addr → List (Str × D) → Prop
  | none, fs => fs = []
  | some a, fs => ∃ vs, H a = some (.xd vs) ∧ IsF K H vs fs
abbrev XD := Value → List (Str × D) → Prop
/-- what a def does, by data: its arguments, what is wanted of what it hands back, of what it lets out -/
abbrev DSp := List D → (S → Prop) → XD → Prop
def spD (K : PySem.W.Frag) (T : DSp) : Sp := fun vs H Q E => ∃ ds k x, IsL K H vs ds ∧ T ds k x ∧ (∀ v H' r, RetIs K H v H' r → k r → Q v H') ∧ (∀ c d H' fs, Ex H H' → ExcIs K H' d fs → x c fs → E c d H')
/-- nothing is let out -/
theorem takesN0 {X : Cx} : L2N.Takes X (fun _ _ _ _ => False) := fun _ _ ⟨_, _, _, _, _, _, _, _, _, _, _, _, _, _, _, _, z⟩ => z.elim
theorem passN {X : Cx} : Passes (L2N.CX X.prog X.w) X (fun _ _ _ => False) := fun _ _ _ _ _ _ _ ⟨_, _, _, _, _, _, _, _, _, _, _, _, z⟩ => z.elim
/-- what the context takes of exceptions, by data -/
structure Xc (X : Cx) (H0 : Hp) (xw : List S → XD) : Prop where
  ex : ∃ W : WX, L2N.Takes X W ∧ ∀ σ G δ c d fs, RelS X.K H0 σ G δ → ExcIs X.K G d fs → xw δ c fs → W c d σ G
theorem xc0 {X : Cx} {H0 : Hp} : Xc X H0 (fun _ _ _ => False) := ⟨⟨fun _ _ _ _ => False, takesN0, fun _ _ _ _ _ _ _ _ h => h.elim⟩⟩
/-- a def that is known -/
structure Fn (P : Program) (w : World) (K : PySem.W.Frag) (mg : Str → Option Value) (base : Heap) (lvl : Nat) (x : Str) (ps : List Str) (T : DSp) (dds : List D) : Prop where
  ex : ∃ (f : Addr) (fd : FuncData) (ds : List Value) (dvs : List V), FnOk P w K mg base (L2N.CX P w) lvl f fd ps (spD K T) ∧ mg x = some (.ref f) ∧ PySem.W.keepIn K (.ref f) = true ∧ Binds K fd ps ds ∧ Vals dvs ds ∧ ∀ G, IsL K G dvs dds
section
variable {X : Cx} {H0 : Hp} {δ δ' : List S} {a b c e : Expr} {es : List Expr} {k : D → Prop} {pos p : Pos}
theorem we_callX {lvl : Nat} {x : Str} {ps : List Str} {T : DSp} {dds : List D} {xw : List S → XD} (F : Fn X.prog X.w X.K X.mg X.base lvl x ps T dds) (hr : Room lvl X.A) (hx : Xc X H0 xw) (h : Wa X H0 (e :: es) δ (fun as => T (as ++ dds) (fun r => k r.d) (xw δ)))
    (hg : Gl X x := by rfl) (hdb : (x == ("__debug__" : Str)) = false := by decide) (he : notStar e = true := by rfl) (hpl : es.all notStar = true := by rfl) : We X H0 (.Call (.Name x p) (e :: es) [] pos) δ k := by
  intro σ G R
  obtain ⟨f, fd, ds, dvs, Fk, hm, hk, hb, hd, hdd⟩ := F.ex
  obtain ⟨W, tk, hW⟩ := hx.ex
  refine toE (pe_callSD Fk hr hg hm hk hb hd (fun σ => L2N.passAt tk σ) pa_sem hdb (star_of he) (star_any hpl)) ((h σ G R).mono fun vs G1 ⟨e1, as, is, hT⟩ => ?_)
  exact ⟨_, _, _, is.app (hdd G1), hT, fun v H' r hr' hk' => ⟨e1.trans hr'.ex.1, _, hr'.ex.2, hk'⟩, fun c d H' fs e2 i q => hW σ H' δ c d fs ((R.mono e1).mono e2) i q⟩
theorem wo_callX {ko : Ow → Prop} {lvl : Nat} {x : Str} {ps : List Str} {T : DSp} {dds : List D} {xw : List S → XD} (F : Fn X.prog X.w X.K X.mg X.base lvl x ps T dds) (hr : Room lvl X.A) (hx : Xc X H0 xw) (h : Wa X H0 (e :: es) δ (fun as => T (as ++ dds) (fun r => ∃ o, r = .ow o ∧ ko o) (xw δ)))
    (hg : Gl X x) (hdb : (x == ("__debug__" : Str)) = false) (he : notStar e = true) (hpl : es.all notStar = true) : Wo X H0 (.Call (.Name x p) (e :: es) [] pos) δ ko := by
  intro σ G R
  obtain ⟨f, fd, ds, dvs, Fk, hm, hk, hb, hd, hdd⟩ := F.ex
  obtain ⟨W, tk, hW⟩ := hx.ex
  refine toE (pe_callSD Fk hr hg hm hk hb hd (fun σ => L2N.passAt tk σ) pa_sem hdb (star_of he) (star_any hpl)) ((h σ G R).mono fun vs G1 ⟨e1, as, is, hT⟩ => ?_)
  exact ⟨_, _, _, is.app (hdd G1), hT, fun v H' r hr' ⟨o, ho, hk'⟩ => (by subst ho; exact ⟨o, NewIs.back e1 hr', hk'⟩), fun c d H' fs e2 i q => hW σ H' δ c d fs ((R.mono e1).mono e2) i q⟩
/-- a call where nothing is let out -/
theorem we_call {lvl : Nat} {x : Str} {ps : List Str} {T : DSp} {dds : List D} (F : Fn X.prog X.w X.K X.mg X.base lvl x ps T dds) (hr : Room lvl X.A) (h : Wa X H0 (e :: es) δ (fun as => T (as ++ dds) (fun r => k r.d) (fun _ _ => False)))
    (hg : Gl X x := by rfl) (hdb : (x == ("__debug__" : Str)) = false := by decide) (he : notStar e = true := by rfl) (hpl : es.all notStar = true := by rfl) : We X H0 (.Call (.Name x p) (e :: es) [] pos) δ k :=
  we_callX F hr xc0 h hg hdb he hpl
theorem wo_call {ko : Ow → Prop} {lvl : Nat} {x : Str} {ps : List Str} {T : DSp} {dds : List D} (F : Fn X.prog X.w X.K X.mg X.base lvl x ps T dds) (hr : Room lvl X.A) (h : Wa X H0 (e :: es) δ (fun as => T (as ++ dds) (fun r => ∃ o, r = .ow o ∧ ko o) (fun _ _ => False)))
    (hg : Gl X x := by rfl) (hdb : (x == ("__debug__" : Str)) = false := by decide) (he : notStar e = true := by rfl) (hpl : es.all notStar = true := by rfl) : Wo X H0 (.Call (.Name x p) (e :: es) [] pos) δ ko :=
  wo_callX F hr xc0 h hg hdb he hpl
end
/-! ### statements -/
structure En where
  nx : List S → Prop
  rt : List S → S → Prop
  bk : List S → Prop := fun _ => False
  ct : List S → Prop := fun _ => False
def toEnds (K : PySem.W.Frag) (H0 : Hp) (E : En) : Ends where
  nx σ H := ∃ δ own, Rel K H0 σ H δ own ∧ E.nx δ
  rt v H := ∃ σ δ own r, Rel K H0 σ H δ own ∧ RetIs K H0 v H r ∧ E.rt δ r
  bk σ H := ∃ δ own, Rel K H0 σ H δ own ∧ E.bk δ
  ct σ H := ∃ δ own, Rel K H0 σ H δ own ∧ E.ct δ
section
variable (X : Cx) (H0 : Hp)
def Ws (st : Stmt) (δ : List S) (E : En) : Prop := ∀ B σ H own, Ex H0 B → Rel X.K B σ H δ own → semS X st (toEnds X.K B E) σ H
def Wb (st : List Stmt) (δ : List S) (E : En) : Prop := ∀ B σ H own, Ex H0 B → Rel X.K B σ H δ own → semB X st (toEnds X.K B E) σ H
end
section
variable {K : PySem.W.Frag} {X : Cx} {H0 B H H' : Hp} {σ : L2.St} {δ δ' : List S} {own : List (List Addr)} {a b c e : Expr} {es : List Expr} {k : D → Prop} {ko : Ow → Prop} {kt : Bool → Prop} {pos p : Pos} {E : En} {st : Stmt} {sts rest : List Stmt}
theorem Rel.grow (R : Rel K H0 σ H δ own) (e : Ex H H') : Rel K H0 σ H' δ own :=
  ⟨R.ex.trans (cut_mono e), R.len1, R.len2, fun i s x l h1 h2 h3 => (R.sl i s x l h1 h2 h3).mono (cut_mono e) fun a ha => by
    obtain ⟨o, ho⟩ := (R.owned a (mem_flat h3 ha)).some
    rw [ho, e a o ho], R.nd⟩
theorem Rel.toEx (R : Rel K H0 σ H δ own) : Ex H0 H := R.ex.trans cut_ex
theorem RelS.weak {G : Hp} (hB : Ex H0 B) (R : RelS K B σ G δ) : RelS K H0 σ G δ := ⟨hB.trans R.ex, R.len, R.sh⟩
theorem Rel.weak (hB : Ex H0 B) (R : Rel K B σ H δ own) : Rel K H0 σ H δ own := ⟨hB.trans R.ex, R.len1, R.len2, R.sl, R.nd⟩
theorem We.at (h : We X H0 e δ k) (hB : Ex H0 B) (R : Rel X.K B σ H δ own) : semE X e σ H (fun v H' => ∃ d, Rel X.K B σ H' δ own ∧ Is X.K (cut H' own.flatten) v d ∧ k d) :=
  (semE.frame R.owned (h σ _ (R.toS.weak hB))).mono fun v H' ⟨G, eq, n, e, d, i, q⟩ => by
    subst eq
    exact ⟨d, R.step e n, by rw [cut_mrg n]; exact i, q⟩
theorem Wt.at (h : Wt X H0 e δ kt) (hB : Ex H0 B) (R : Rel X.K B σ H δ own) : semT X e σ H (fun v H' => Rel X.K B σ H' δ own ∧ kt v) :=
  (semT.frame R.owned (h σ _ (R.toS.weak hB))).mono fun v H' ⟨G, eq, n, e, q⟩ => by
    subst eq
    exact ⟨R.step e n, q⟩
theorem Wa.at {ka : List D → Prop} (h : Wa X H0 es δ ka) (hB : Ex H0 B) (R : Rel X.K B σ H δ own) : semA X es σ H (fun v H' => ∃ ds, Rel X.K B σ H' δ own ∧ IsL X.K (cut H' own.flatten) v ds ∧ ka ds) :=
  (semA.frame R.owned (h σ _ (R.toS.weak hB))).mono fun v H' ⟨G, eq, n, e, d, i, q⟩ => by
    subst eq
    exact ⟨d, R.step e n, by rw [cut_mrg n]; exact i, q⟩
/-- by a view of the state -/
theorem We.atV (hv : Vw δ δ') (h : We X H0 e δ' k) (hB : Ex H0 B) (R : Rel X.K B σ H δ own) : semE X e σ H (fun v H' => ∃ d, Rel X.K B σ H' δ own ∧ Is X.K H' v d ∧ k d) := by
  obtain ⟨R', sub⟩ := R.view hv
  refine (semE.frame R'.owned (h σ _ (R'.toS.weak hB))).mono fun v H' ⟨G, eq, n, e, d, i, q⟩ => ?_
  subst eq
  refine ⟨d, R.grow (mrg_ex e), i.mono fun a o ha => ?_, q⟩
  rw [mrg_out fun z => by rw [n a z] at ha; cases ha]
  exact ha
theorem Wt.atV (hv : Vw δ δ') (h : Wt X H0 e δ' kt) (hB : Ex H0 B) (R : Rel X.K B σ H δ own) : semT X e σ H (fun v H' => Rel X.K B σ H' δ own ∧ kt v) := by
  obtain ⟨R', sub⟩ := R.view hv
  refine (semT.frame R'.owned (h σ _ (R'.toS.weak hB))).mono fun v H' ⟨G, eq, n, e, q⟩ => ?_
  subst eq
  exact ⟨R.grow (mrg_ex e), q⟩
theorem Wa.atV {ka : List D → Prop} (hv : Vw δ δ') (h : Wa X H0 es δ' ka) (hB : Ex H0 B) (R : Rel X.K B σ H δ own) : semA X es σ H (fun v H' => ∃ ds, Rel X.K B σ H' δ own ∧ IsL X.K H' v ds ∧ ka ds) := by
  obtain ⟨R', sub⟩ := R.view hv
  refine (semA.frame R'.owned (h σ _ (R'.toS.weak hB))).mono fun v H' ⟨G, eq, n, e, d, i, q⟩ => ?_
  subst eq
  refine ⟨d, R.grow (mrg_ex e), i.mono fun a o ha => ?_, q⟩
  rw [mrg_out fun z => by rw [n a z] at ha; cases ha]
  exact ha
theorem Wo.at (h : Wo X H0 e δ ko) (hB : Ex H0 B) (R : Rel X.K B σ H δ own) : semE X e σ H (fun v H' => ∃ o, Rel X.K B σ H' δ own ∧ (∀ i, ∃ own', Rel X.K B (σ.set i (some v)) H' (δ.set i (.ow o)) own') ∧ NewIs X.K B v H' o ∧ ko o) :=
  (semE.frame R.owned (h σ _ (R.toS.weak hB))).mono fun v H' ⟨G, eq, n, o, N, q⟩ => by
    subst eq
    obtain ⟨l, hl, fr, ee, nd⟩ := N
    have e1 : Ex (cut H own.flatten) G := NewIs.ex ⟨l, hl, fr, ee, nd⟩
    have R' := R.step e1 n
    have eG : Ex G (mrg H own.flatten G) := fun a u ha => by
      rw [mrg_out fun z => by rw [n a z] at ha; cases ha]
      exact ha
    refine ⟨o, R', fun i => ⟨_, R.setOw ee n nd hl⟩, ?_, q⟩
    have dis : ∀ a ∈ l, mrg H own.flatten G a = G a := fun a ha => by
      obtain ⟨u, hu⟩ := (hl.at (fun a h => h) a ha).some
      rw [hu]
      exact eG a u hu
    have e2 : Ex (cut G l) (cut (mrg H own.flatten G) l) := cut_mono eG
    exact ⟨l, hl.mono e2 dis, fun a ha => R.ex.free (fr a ha), (R.ex.trans ee).trans e2, nd⟩
theorem Wb.mono {E' : En} (h : Wb X H0 sts δ E) (nx : ∀ δ, E.nx δ → E'.nx δ) (rt : ∀ δ r, E.rt δ r → E'.rt δ r) (bk : ∀ δ, E.bk δ → E'.bk δ) (ct : ∀ δ, E.ct δ → E'.ct δ) : Wb X H0 sts δ E' := fun B σ H own hB R =>
  (h B σ H own hB R).mono (fun σ H ⟨δ, own, R, q⟩ => ⟨δ, own, R, nx _ q⟩) (fun v H ⟨σ, δ, own, r, R, i, q⟩ => ⟨σ, δ, own, r, R, i, rt _ _ q⟩) (fun σ H ⟨δ, own, R, q⟩ => ⟨δ, own, R, bk _ q⟩) (fun σ H ⟨δ, own, R, q⟩ => ⟨δ, own, R, ct _ q⟩)
theorem wb_nil (h : E.nx δ) : Wb X H0 [] δ E := fun B σ H own hB R => toB pss_nil ⟨δ, own, R, h⟩
theorem wb_cons (h : Ws X H0 st δ { E with nx := fun δ' => Wb X H0 rest δ' E }) : Wb X H0 (st :: rest) δ E := fun B σ H own hB R => toB (pss_cons ps_sem pb_sem) ((h B σ H own hB R).mono (fun σ H ⟨δ, own, R, q⟩ => q B σ H own hB R) (fun _ _ q => q) (fun _ _ q => q) (fun _ _ q => q))
theorem ws_view (hv : Vw δ δ') (h : Ws X H0 st δ' E) : Ws X H0 st δ E := fun B σ H own hB R => h B σ H _ hB (R.view hv).1
theorem wb_view (hv : Vw δ δ') (h : Wb X H0 sts δ' E) : Wb X H0 sts δ E := fun B σ H own hB R => h B σ H _ hB (R.view hv).1
theorem ws_pass (h : E.nx δ) : Ws X H0 (.Pass pos) δ E := fun B σ H own hB R => toS ps_pass ⟨δ, own, R, h⟩
theorem ws_break (h : E.bk δ) : Ws X H0 (.Break pos) δ E := fun B σ H own hB R => toS ps_break ⟨δ, own, R, h⟩
theorem ws_cont (h : E.ct δ) : Ws X H0 (.Continue pos) δ E := fun B σ H own hB R => toS ps_continue ⟨δ, own, R, h⟩
theorem ws_set (i : Nat) {x : Str} {pos' : Pos} (hN : X.N.Nodup) (h : We X H0 e δ (fun d => E.nx (δ.set i (.sh d)))) (hi : X.N[i]? = some x := by rfl) (hx : Loc X.env.scope x := by first | exact .inl rfl | exact .inr rfl) (hs : swapsWith e (some (.Name x pos')) pos.line X.env = pure false := by rfl) (hf : X.fn x = true ∨ X.env.scope.names.lookup x = some .local := by exact .inl rfl) :
    Ws X H0 (.Assign [.Name x pos'] e pos) δ E := fun B σ H own hB R => toS (ps_set hN hi hx pe_sem hs hf) ((h.at hB R).mono fun v H' ⟨d, R', i, q⟩ => ⟨_, _, R'.setSh i, q⟩)
theorem ws_setV (i : Nat) {x : Str} {pos' : Pos} (hN : X.N.Nodup) (hv : Vw δ δ') (h : We X H0 e δ' (fun d => Flat d ∧ E.nx (δ.set i (.sh d)))) (hi : X.N[i]? = some x := by rfl) (hx : Loc X.env.scope x := by first | exact .inl rfl | exact .inr rfl) (hs : swapsWith e (some (.Name x pos')) pos.line X.env = pure false := by rfl) (hf : X.fn x = true ∨ X.env.scope.names.lookup x = some .local := by exact .inl rfl) :
    Ws X H0 (.Assign [.Name x pos'] e pos) δ E := fun B σ H own hB R => toS (ps_set hN hi hx pe_sem hs hf) ((h.atV hv hB R).mono fun v H' ⟨d, R', i, f, q⟩ => ⟨_, _, R'.setSh (i.flat f), q⟩)
theorem ws_setO (i : Nat) {x : Str} {pos' : Pos} (hN : X.N.Nodup) (h : Wo X H0 e δ (fun o => E.nx (δ.set i (.ow o)))) (hi : X.N[i]? = some x := by rfl) (hx : Loc X.env.scope x := by first | exact .inl rfl | exact .inr rfl) (hs : swapsWith e (some (.Name x pos')) pos.line X.env = pure false := by rfl) (hf : X.fn x = true ∨ X.env.scope.names.lookup x = some .local := by exact .inl rfl) :
    Ws X H0 (.Assign [.Name x pos'] e pos) δ E := fun B σ H own hB R => toS (ps_set hN hi hx pe_sem hs hf) ((h.at hB R).mono fun v H' ⟨o, R', so, N, q⟩ => let ⟨own', Ro⟩ := so i; ⟨_, own', Ro, q⟩)
theorem ws_if (hv : Vw δ δ') (h : Wt X H0 c δ' (fun r => (r = true → Wb X H0 sts δ E) ∧ (r = false → Wb X H0 rest δ E))) : Ws X H0 (.If c sts rest pos) δ E := fun B σ H own hB R => toS (ps_if pt_sem pb_sem pb_sem) ((h.atV hv hB R).mono fun r H' ⟨R', h1, h2⟩ => by
  cases r with
  | true => exact h1 rfl B σ H' _ hB R'
  | false => exact h2 rfl B σ H' _ hB R')
theorem ws_ret (hv : Vw δ δ') (h : We X H0 e δ' (fun d => E.rt δ (.sh d))) : Ws X H0 (.Return (some e) pos) δ E := fun B σ H own hB R => toS (ps_ret pe_sem) ((h.atV hv hB R).mono fun v H' ⟨d, R', i, q⟩ => ⟨σ, δ, own, .sh d, R', ⟨R'.toEx, i⟩, q⟩)
theorem ws_retO (h : Wo X H0 e δ (fun o => E.rt δ (.ow o))) : Ws X H0 (.Return (some e) pos) δ E := fun B σ H own hB R => toS (ps_ret pe_sem) ((h.at hB R).mono fun v H' ⟨o, R', so, N, q⟩ => ⟨σ, δ, own, .ow o, R', N, q⟩)
theorem ws_retN (h : E.rt δ (.sh .non)) : Ws X H0 (.Return none pos) δ E := fun B σ H own hB R => toS ps_retN ⟨σ, δ, own, .sh .non, R, ⟨R.toEx, .non⟩, h⟩
theorem nd_part : ∀ {own : List (List Addr)} {i : Nat} {l : List Addr}, own.flatten.Nodup → own[i]? = some l → l.Nodup
  | [], _, _, _, h => by cases h
  | l0 :: r, 0, l, nd, h => by
    rw [List.flatten_cons, List.nodup_append] at nd
    cases h
    exact nd.1
  | l0 :: r, i + 1, l, nd, h => by
    rw [List.flatten_cons, List.nodup_append] at nd
    exact nd_part (i := i) nd.2.1 h
theorem Rel.newIs {i : Nat} {o : Ow} (R : Rel K H0 σ H δ own) (hi : δ[i]? = some (.ow o)) : ∃ v, σ[i]? = some (some v) ∧ NewIs K H0 v H o := by
  obtain ⟨x, l, h1, h2, v, rfl, q⟩ := R.idx hi
  have sub : ∀ a ∈ l, a ∈ own.flatten := fun a ha => mem_flat h2 ha
  refine ⟨v, h1, l, q.mono (cut_sub sub) fun _ _ => rfl, fun a ha => R.ex.free (cut_in (sub a ha)), R.ex.trans (cut_sub sub), ?_⟩
  exact nd_part R.nd h2
/-- an owned object is handed back -/
theorem ws_retOwn (i : Nat) {x : Str} {px : Pos} {o : Ow} (hi : δ[i]? = some (.ow o)) (h : E.rt δ (.ow o)) (hp : PE X (.Name x px) (tVar i) := by exact pv _) : Ws X H0 (.Return (some (.Name x px)) pos) δ E := fun B σ H own hB R => toS (ps_ret hp) (by
  obtain ⟨v, h1, N⟩ := R.newIs hi
  exact ⟨v, h1, σ, δ, own, .ow o, R, N, h⟩)
theorem ws_expr (hv : Vw δ δ') (h : We X H0 e δ' (fun _ => E.nx δ)) (hs : swapsWith e none pos.line X.env = pure false := by rfl) : Ws X H0 (.Expr e pos) δ E := fun B σ H own hB R => toS (ps_expr pe_sem hs) ((h.atV hv hB R).mono fun v H' ⟨d, R', i, q⟩ => ⟨δ, own, R', q⟩)
theorem few_of {env : Env} {cpos : Pos} (h : notStar e = true) : ((backTo cpos (starEach [e] env)).all (fun x => !x.1) && (backToKw cpos (keywordEach [] env)).all (fun x => x.1.isSome) && decide ([e].length + ([] : List Keyword).length + (if ([] : List Keyword).isEmpty then 0 else 1) < 30)) = true := by
  rw [star_of h]
  rfl
/-- xs.append(e), xs a list that the frame alone holds -/
theorem ws_append (i : Nat) {x : Str} {px apos cpos : Pos} {ds : List D} (hi : δ[i]? = some (.ow (.lst ds))) (hl : ds.length < 100000) (h : We X H0 e δ (fun d => E.nx (δ.set i (.ow (.lst (ds ++ [d])))))) (hp : PE X (.Name x px) (tVar i) := by exact pv _)
    (hbase : attributeBase (.Name x px) "append" X.env (eval (.Name x px) X.env) = eval (.Name x px) X.env := by rfl)
    (hline : (apos.endLine == cpos.line) = true := by rfl) (hs : notStar e = true := by rfl)
    (hw : swapsWith (.Call (.Attribute (.Name x px) "append" apos) [e] [] cpos) none pos.line X.env = pure false := by rfl) : Ws X H0 (.Expr (.Call (.Attribute (.Name x px) "append" apos) [e] [] cpos) pos) δ E := fun B σ H own hB R =>
  toS (ps_expr (pe_bm PySem.F.plainAttrs_list PySem.F.slot_list_append PySem.F.type_list_append mt_append hp (pa_cons pe_sem pa_nil (star_of hs)) hbase (few_of hs) hline (star_of hs) rfl) hw) (by
    obtain ⟨x0, l, h1, h2, v, rfl, p, xs, rfl, rfl, h3, h4⟩ := R.idx hi
    refine ⟨_, h1, .inl ⟨rfl, xs, SqL.of h3⟩, (h.at hB R).mono fun w H' ⟨d, R', id, q⟩ => ?_⟩
    obtain ⟨x0, l, g1, g2, v', rfl, p', xs', ev, rfl, g3, g4⟩ := R'.idx hi
    rw [h1] at g1; cases g1
    rw [h2] at g2; cases g2
    have e1 : xs'.length = ds.length := g4.1
    refine ⟨p, xs', w, rfl, rfl, g3, Nat.lt_trans (by rw [e1]; exact hl) (by decide), _, _, R'.write (o' := .lst _) h2 (by simp) h1 ⟨p, xs' ++ [w], rfl, rfl, upd_same, g4.snoc id⟩, q⟩)
/-- xs[i] = e, xs a list that the frame alone holds -/
theorem ws_setitem (i : Nat) {x : Str} {px spos : Pos} {ix : Expr} {ds : List D} (hi : δ[i]? = some (.ow (.lst ds))) (h : We X H0 e δ (fun d => We X H0 ix δ (fun n => ∃ j : Nat, n = .int j ∧ j < ds.length ∧ E.nx (δ.set i (.ow (.lst (ds.set j d)))))))
    (hp : PE X (.Name x px) (tVar i) := by exact pv _) (ha : PG X (.Subscript (.Name x px) ix spos) (gSub (tVar i) (semE X ix) rSetL) := by exact pg_sub (pv _) pe_sem set_list)
    (hs : swapsWithSole [.Subscript (.Name x px) ix spos] e pos.line X.env = pure false := by rfl) (hw : swappedStores [.Subscript (.Name x px) ix spos] e X.env = pure none := by rfl)
    (h1 : (assignEach [.Subscript (.Name x px) ix spos] X.env).map (·.2) = [assign (.Subscript (.Name x px) ix spos) X.env] := by rfl) : Ws X H0 (.Assign [.Subscript (.Name x px) ix spos] e pos) δ E := fun B σ H own hB R =>
  toS (ps_asg pe_sem ha hs hw h1) ((h.at hB R).mono fun w H1 ⟨d, R1, id, q⟩ => by
    obtain ⟨x0, l, h1, h2, v, rfl, p, xs, rfl, rfl, h3, h4⟩ := R1.idx hi
    refine ⟨_, h1, (semE.frame R1.owned (q σ _ (R1.toS.weak hB))).mono fun n H2 ⟨G, eq, nn, e2, dn, inn, j, ej, hj, q2⟩ => ?_⟩
    have R2 := R1.step e2 nn
    rw [← eq] at R2
    have cH : cut H2 own.flatten = G := by rw [eq]; exact cut_mrg nn
    obtain ⟨x0, l, g1, g2, v', rfl, p', xs', ev, rfl, g3, g4⟩ := R2.idx hi
    rw [h1] at g1; cases g1
    rw [h2] at g2; cases g2
    subst ej
    cases inn
    refine ⟨p, xs', (j : Int), j, rfl, rfl, g3, ?_, _, _, R2.write (o' := .lst _) h2 (by simp) h1 ⟨p, xs'.set j w, rfl, rfl, upd_same, g4.set (by rw [cH]; exact id.mono e2)⟩, q2⟩
    unfold ixN
    have e1 : xs'.length = ds.length := g4.1
    rw [if_pos (by omega), if_pos (by omega)]
    simp)
/-! ### targets -/
structure semG (X : Cx) (tg : Expr) (v : V) (σ : L2.St) (H : Hp) (Q : L2.St → Hp → Prop) : Prop where
  run : ∀ pins s u, Inv X pins σ H s → RelV v u → wpAny (model X.prog X.w) X.A (assign tg X.env u) (fun _ s' => ∃ σ' H', Inv X pins σ' H' s' ∧ Q σ' H') X.xe s
theorem pg_sem {tg : Expr} : PG X tg (semG X tg) := ⟨fun pins s σ H v u Q I r h => h.run pins s u I r⟩
theorem toG {tg : Expr} {t : TG} {v : V} {Q : L2.St → Hp → Prop} (h : PG X tg t) (q : t v σ H Q) : semG X tg v σ H Q := .mk <| fun pins s u I r => h.run pins s σ H v u Q I r q
structure semGs (X : Cx) (ts : List Expr) (vs : List V) (σ : L2.St) (H : Hp) (Q : L2.St → Hp → Prop) : Prop where
  run : ∀ pins s us, Inv X pins σ H s → Vals vs us → wpAny (model X.prog X.w) X.A (assignInOrder ((assignEach ts X.env).map (·.2)) us) (fun _ s' => ∃ σ' H', Inv X pins σ' H' s' ∧ Q σ' H') X.xe s
theorem pgs_sem {ts : List Expr} : PGs X ts (semGs X ts) := ⟨fun pins s σ H v u Q I r h => h.run pins s u I r⟩
theorem toGs {ts : List Expr} {t : TGs} {vs : List V} {Q : L2.St → Hp → Prop} (h : PGs X ts t) (q : t vs σ H Q) : semGs X ts vs σ H Q := .mk <| fun pins s u I r => h.run pins s σ H vs u Q I r q
def Wg (X : Cx) (H0 : Hp) (tg : Expr) (d : D) (δ : List S) (kn : List S → Prop) : Prop := ∀ B σ H own v, Ex H0 B → Rel X.K B σ H δ own → Is X.K (cut H own.flatten) v d → semG X tg v σ H (fun σ' H' => ∃ δ' own', Rel X.K B σ' H' δ' own' ∧ kn δ')
def Wgs (X : Cx) (H0 : Hp) (ts : List Expr) (ds : List D) (δ : List S) (kn : List S → Prop) : Prop := ∀ B σ H own vs, Ex H0 B → Rel X.K B σ H δ own → IsL X.K (cut H own.flatten) vs ds → semGs X ts vs σ H (fun σ' H' => ∃ δ' own', Rel X.K B σ' H' δ' own' ∧ kn δ')
variable {kn : List S → Prop}
theorem wg_name (i : Nat) {x : Str} {d : D} (hN : X.N.Nodup) (h : kn (δ.set i (.sh d))) (hi : X.N[i]? = some x := by rfl) (hx : Loc X.env.scope x := by first | exact .inl rfl | exact .inr rfl) (hf : X.fn x = true ∨ X.env.scope.names.lookup x = some .local := by exact .inl rfl) : Wg X H0 (.Name x pos) d δ kn :=
  fun B σ H own v hB R iv => toG (pg_name hN hi hx hf) ⟨_, _, R.setSh iv, h⟩
theorem wgs_nil (h : kn δ) : Wgs X H0 [] [] δ kn := fun B σ H own vs hB R iv => toGs pgs_nil (by
  rw [iv.inv_nil]
  exact ⟨rfl, δ, own, R, h⟩)
theorem semG.mono {tg : Expr} {v : V} {Q Q' : L2.St → Hp → Prop} (h : semG X tg v σ H Q) (m : ∀ σ H, Q σ H → Q' σ H) : semG X tg v σ H Q' := .mk <| fun pins s u I r => thn (h.run pins s u I r) fun _ s' ⟨σ', H', J, q⟩ => ⟨σ', H', J, m _ _ q⟩
theorem semGs.mono {tg : List Expr} {v : List V} {Q Q' : L2.St → Hp → Prop} (h : semGs X tg v σ H Q) (m : ∀ σ H, Q σ H → Q' σ H) : semGs X tg v σ H Q' := .mk <| fun pins s u I r => thn (h.run pins s u I r) fun _ s' ⟨σ', H', J, q⟩ => ⟨σ', H', J, m _ _ q⟩
theorem ws_asg {tg : Expr} (h : We X H0 e δ (fun d => Wg X H0 tg d δ E.nx)) (hs : swapsWithSole [tg] e pos.line X.env = pure false := by rfl) (hw : swappedStores [tg] e X.env = pure none := by rfl)
    (h1 : (assignEach [tg] X.env).map (·.2) = [assign tg X.env] := by rfl) : Ws X H0 (.Assign [tg] e pos) δ E := fun B σ H own hB R => toS (ps_asg pe_sem pg_sem hs hw h1) ((h.at hB R).mono fun v H1 ⟨d, R1, id, q⟩ => q B σ H1 own v hB R1 id)
/-! ### loops -/
/-- what holds ahead of a turn, up to a view -/
def Upto (P : List S → Prop) (δ : List S) : Prop := ∃ δ', Vw δ δ' ∧ P δ'
theorem upto {P : List S → Prop} (h : P δ) : Upto P δ := ⟨δ, Vw.refl δ, h⟩
abbrev turnE (E : En) (P : List S → Prop) : En := { nx := Upto P, rt := E.rt, bk := E.nx, ct := Upto P }
theorem ws_forR (hm : X.mg "range" = none) (hp : PassesOwn (model X.prog X.w) X.A X.env X.xe) (hc : X.calm = true) {tg : Expr} {pr pc : Pos} (hv : Vw δ δ') (Iv : Nat → List S → Prop)
    (h : Wa X H0 [e] δ' (fun ds => A1 ds fun x => I1 x fun n => (-(2 ^ 62) ≤ n ∧ n < 2 ^ 62) ∧ Upto (Iv 0) δ ∧ (∀ (i : Nat) δ1, (i : Int) < n → Iv i δ1 → Wg X H0 tg (.int (i : Int)) δ1 fun δ2 => Wb X H0 sts δ2 (turnE E (Iv (i + 1)))) ∧ (∀ δ1, Iv n.toNat δ1 → E.nx δ1)))
    (hg : Gl X "range" := by rfl) (hs1 : notStar e = true := by rfl) (hs : ∀ x, foldedSetIterable (.Call (.Name "range" pr) [e] [] pc) X.env x = pure x := by intro _; rfl) : Ws X H0 (.For tg (.Call (.Name "range" pr) [e] [] pc) sts [] pos) δ E := fun B σ H own hB R =>
  toS (ps_for hp hc (pi_range1 hg hm pa_sem (star_of hs1)) pg_sem pb_sem hs) ((h.atV hv hB R).mono fun vs H1 ⟨ds, R1, is, x, ed, n, ex, ⟨b1, b2⟩, h0, ht, he⟩ => by
    subst ed ex
    obtain ⟨v, rfl, i⟩ := is.one
    cases i
    refine ⟨n, rfl, b1, b2, for_range (lo := 0) (n := n.toNat) (fun i σ H => ∃ δ own, Rel X.K B σ H δ own ∧ Upto (Iv i) δ) ⟨δ, own, R1, h0⟩ (fun i σ' H' hi ⟨δ1, own1, R', δ2, hv2, q⟩ => ?_) (fun σ' H' ⟨δ1, own1, R', δ2, hv2, q⟩ => ⟨_, _, (R'.view hv2).1, he _ q⟩)⟩
    rw [Int.zero_add]
    exact (ht i δ2 (by omega) q B σ' H' _ _ hB (R'.view hv2).1 (.int _)).mono fun σ3 H3 ⟨δ3, own3, R3, q3⟩ => q3 B σ3 H3 own3 hB R3)
theorem ws_forR2 (hm : X.mg "range" = none) (hp : PassesOwn (model X.prog X.w) X.A X.env X.xe) (hc : X.calm = true) {tg e2 : Expr} {pr pc : Pos} (hv : Vw δ δ') (Iv : Nat → List S → Prop)
    (h : Wa X H0 [e, e2] δ' (fun ds => A2 ds fun x y => I2 x y fun m n => (-(2 ^ 62) ≤ m ∧ m < 2 ^ 62 ∧ -(2 ^ 62) ≤ n ∧ n < 2 ^ 62) ∧ Upto (Iv 0) δ ∧ (∀ (i : Nat) δ1, m + (i : Int) < n → Iv i δ1 → Wg X H0 tg (.int (m + (i : Int))) δ1 fun δ2 => Wb X H0 sts δ2 (turnE E (Iv (i + 1)))) ∧ (∀ δ1, Iv (n - m).toNat δ1 → E.nx δ1)))
    (hg : Gl X "range" := by rfl) (hs1 : notStar e = true := by rfl) (hs2 : notStar e2 = true := by rfl) (hs : ∀ x, foldedSetIterable (.Call (.Name "range" pr) [e, e2] [] pc) X.env x = pure x := by intro _; rfl) : Ws X H0 (.For tg (.Call (.Name "range" pr) [e, e2] [] pc) sts [] pos) δ E := fun B σ H own hB R =>
  toS (ps_for hp hc (pi_range2 hg hm pa_sem ((star_of hs1).trans (congrArg _ (star_of hs2))) (star_of hs2)) pg_sem pb_sem hs) ((h.atV hv hB R).mono fun vs H1 ⟨ds, R1, is, x, y, ed, m, n, ex, ey, bb, h0, ht, he⟩ => by
    subst ed ex ey
    obtain ⟨v, w, rfl, i, j⟩ := is.two
    cases i
    cases j
    refine ⟨m, n, rfl, bb, for_range (lo := m) (n := (n - m).toNat) (fun i σ H => ∃ δ own, Rel X.K B σ H δ own ∧ Upto (Iv i) δ) ⟨δ, own, R1, h0⟩ (fun i σ' H' hi ⟨δ1, own1, R', δ2, hv2, q⟩ => ?_) (fun σ' H' ⟨δ1, own1, R', δ2, hv2, q⟩ => ⟨_, _, (R'.view hv2).1, he _ q⟩)⟩
    exact (ht i δ2 (by omega) q B σ' H' _ _ hB (R'.view hv2).1 (.int _)).mono fun σ3 H3 ⟨δ3, own3, R3, q3⟩ => q3 B σ3 H3 own3 hB R3)
def loopOf (X : Cx) (l : Bool) (tg : Expr) (sts : List Stmt) (D : Ends) (x : V) (σ : L2.St) (H : Hp) : Prop := match l with
  | true => ∃ a, x = .ref a ∧ (∃ xs, SqL X.K H a xs) ∧ ∃ W : Nat → Nat → L2.St → Hp → Prop, (∃ m, W 0 m σ H) ∧ ∀ i m σ H, W i m σ H →
    ((Itl X.K a).stop i H ∧ D.nx σ H) ∨ ((Itl X.K a).go i H ∧ ∃ N : L2.St → Hp → Prop, (∀ σ' H', N σ' H' → ∃ m', m' < m ∧ W (i + 1) m' σ' H') ∧ ∀ x H', (Itl X.K a).yld i H x H' → semG X tg x σ H' fun σ2 H2 => semB X sts { D with nx := N, ct := N, bk := D.nx } σ2 H2)
  | false => ∃ a, x = .ref a ∧ (∃ xs, SqT X.K H a xs) ∧ ∃ W : Nat → Nat → L2.St → Hp → Prop, (∃ m, W 0 m σ H) ∧ ∀ i m σ H, W i m σ H →
    ((Itt X.K a).stop i H ∧ D.nx σ H) ∨ ((Itt X.K a).go i H ∧ ∃ N : L2.St → Hp → Prop, (∀ σ' H', N σ' H' → ∃ m', m' < m ∧ W (i + 1) m' σ' H') ∧ ∀ x H', (Itt X.K a).yld i H x H' → semG X tg x σ H' fun σ2 H2 => semB X sts { D with nx := N, ct := N, bk := D.nx } σ2 H2)
/-- over a list or a tuple of the shared heap -/
theorem ws_forS (hp : PassesOwn (model X.prog X.w) X.A X.env X.xe) (hc : X.calm = true) {tg it : Expr} (Iv : Nat → List S → Prop) (l : Bool)
    (h : We X H0 it δ (fun x => ∃ ds, x = .sq l ds ∧ Upto (Iv 0) δ ∧ (∀ (i : Nat) d δ1, ds[i]? = some d → Iv i δ1 → Wg X H0 tg d δ1 fun δ2 => Wb X H0 sts δ2 (turnE E (Iv (i + 1)))) ∧ (∀ δ1, Iv ds.length δ1 → E.nx δ1)))
    (hs : ∀ x, foldedSetIterable it X.env x = pure x := by intro _; rfl) : Ws X H0 (.For tg it sts [] pos) δ E := fun B σ H own hB R => by
  suffices step : ∀ H1 v, (∃ d, Rel X.K B σ H1 δ own ∧ Is X.K (cut H1 own.flatten) v d ∧ ∃ ds, d = .sq l ds ∧ Upto (Iv 0) δ ∧ (∀ (i : Nat) d δ1, ds[i]? = some d → Iv i δ1 → Wg X H0 tg d δ1 fun δ2 => Wb X H0 sts δ2 (turnE E (Iv (i + 1)))) ∧ (∀ δ1, Iv ds.length δ1 → E.nx δ1)) → loopOf X l tg sts (toEnds X.K B E) v σ H1 by
    cases l with
    | true => exact toS (ps_for hp hc (pi_list pe_sem) pg_sem pb_sem hs) ((h.at hB R).mono fun v H1 => step H1 v)
    | false => exact toS (ps_for hp hc (pi_tup pe_sem) pg_sem pb_sem hs) ((h.at hB R).mono fun v H1 => step H1 v)
  intro H1 v ⟨d, R1, iv, ds, ed, h0, ht, he⟩
  subst ed
  have hB1 : Ex B (cut H1 own.flatten) := R1.ex
  have R0 : Rel X.K (cut H1 own.flatten) σ H1 δ own := ⟨Same.refl _, R1.len1, R1.len2, R1.sl, R1.nd⟩
  obtain ⟨a, xs, rfl, hq, hl⟩ := iv.sq_inv
  have turn : ∀ i x σ' H', xs[i]? = some x → (∃ δ own', Rel X.K (cut H1 own.flatten) σ' H' δ own' ∧ Upto (Iv i) δ) → semG X tg x σ' H' fun σ2 H2 => semB X sts { toEnds X.K B E with nx := fun σ' H' => ∃ δ own', Rel X.K (cut H1 own.flatten) σ' H' δ own' ∧ Upto (Iv (i + 1)) δ, ct := fun σ' H' => ∃ δ own', Rel X.K (cut H1 own.flatten) σ' H' δ own' ∧ Upto (Iv (i + 1)) δ, bk := (toEnds X.K B E).nx } σ2 H2 := fun i x σ' H' hx ⟨δ1, own1, Ra, δ2, hv2, q⟩ => by
    obtain ⟨d, hd, id⟩ := hl.getV hx
    have Rw := (Ra.view hv2).1
    refine (ht i d δ2 hd q (cut H1 own.flatten) σ' H' _ _ (hB.trans hB1) Rw (id.mono Rw.ex)).mono fun σ3 H3 ⟨δ3, own3, R3, q3⟩ => ?_
    refine (q3 _ σ3 H3 own3 (hB.trans hB1) R3).mono (fun _ _ z => z) (fun v H ⟨σ, δ, own, r, Rr, ri, qq⟩ => ⟨σ, δ, own, r, Rr.weak hB1, ri.back hB1, qq⟩) (fun σ H ⟨δ, own, Rr, qq⟩ => ⟨δ, own, Rr.weak hB1, qq⟩) (fun _ _ z => z)
  have done : ∀ σ' H', (∃ δ own', Rel X.K (cut H1 own.flatten) σ' H' δ own' ∧ Upto (Iv xs.length) δ) → (toEnds X.K B E).nx σ' H' := fun σ' H' ⟨δ1, own1, Ra, δ2, hv2, q⟩ => by
    rw [hl.1] at q
    exact ⟨_, _, ((Ra.view hv2).1).weak hB1, he _ q⟩
  cases l with
  | true =>
    have hq : SqL X.K (cut H1 own.flatten) a xs := .inl hq
    exact ⟨a, rfl, ⟨xs, Ex.sqL cut_ex hq⟩, for_list (K := X.K) (xs := xs) (fun i σ H => ∃ δ own', Rel X.K (cut H1 own.flatten) σ H δ own' ∧ Upto (Iv i) δ) ⟨δ, own, R0, h0⟩ (fun i σ H _ ⟨δ1, own1, Ra, _⟩ => Ex.sqL Ra.toEx hq) (fun i x σ H hx hI => turn i x σ H hx hI) done⟩
  | false =>
    have hq : SqT X.K (cut H1 own.flatten) a xs := hq
    exact ⟨a, rfl, ⟨xs, Ex.sqT cut_ex hq⟩, for_tup (K := X.K) (xs := xs) (fun i σ H => ∃ δ own', Rel X.K (cut H1 own.flatten) σ H δ own' ∧ Upto (Iv i) δ) ⟨δ, own, R0, h0⟩ (fun i σ H _ ⟨δ1, own1, Ra, _⟩ => Ex.sqT Ra.toEx hq) (fun i x σ H hx hI => turn i x σ H hx hI) done⟩

/-- over the script -/
theorem ws_forSS (hp : PassesOwn (model X.prog X.w) X.A X.env X.xe) (hc : X.calm = true) {tg it : Expr} (Iv : Nat → List S → Prop)
    (h : We X H0 it δ (fun x => ∃ ns : List Int, x = .scr ns ∧ Upto (Iv 0) δ ∧ (∀ (i : Nat) n δ1, ns[i]? = some n → Iv i δ1 → Wg X H0 tg (.int n) δ1 fun δ2 => Wb X H0 sts δ2 (turnE E (Iv (i + 1)))) ∧ (∀ δ1, Iv ns.length δ1 → E.nx δ1)))
    (hs : ∀ x, foldedSetIterable it X.env x = pure x := by intro _; rfl) : Ws X H0 (.For tg it sts [] pos) δ E := fun B σ H own hB R =>
  toS (ps_for hp hc (pi_list pe_sem) pg_sem pb_sem hs) ((h.at hB R).mono fun v H1 ⟨d, R1, iv, ns, ed, h0, ht, he⟩ => by
    subst ed
    obtain ⟨a, rfl, hq⟩ := iv.scr_inv
    have hB1 : Ex B (cut H1 own.flatten) := R1.ex
    have R0 : Rel X.K (cut H1 own.flatten) σ H1 δ own := ⟨Same.refl _, R1.len1, R1.len2, R1.sl, R1.nd⟩
    refine ⟨a, rfl, ⟨_, Ex.sqL cut_ex hq⟩, for_list (K := X.K) (xs := ns.map V.int) (fun i σ H => ∃ δ own', Rel X.K (cut H1 own.flatten) σ H δ own' ∧ Upto (Iv i) δ) ⟨δ, own, R0, h0⟩ (fun i σ H _ ⟨δ1, own1, Ra, _⟩ => Ex.sqL Ra.toEx hq) (fun i x σ' H' hx ⟨δ1, own1, Ra, δ2, hv2, q⟩ => ?_) fun σ' H' ⟨δ1, own1, Ra, δ2, hv2, q⟩ => ?_⟩
    · rw [List.getElem?_map] at hx
      cases en : ns[i]? with
      | none => rw [en] at hx; cases hx
      | some n =>
        rw [en] at hx
        cases hx
        have Rw := (Ra.view hv2).1
        refine (ht i n δ2 en q (cut H1 own.flatten) σ' H' _ _ (hB.trans hB1) Rw (.int n)).mono fun σ3 H3 ⟨δ3, own3, R3, q3⟩ => ?_
        exact (q3 _ σ3 H3 own3 (hB.trans hB1) R3).mono (fun _ _ z => z) (fun v H ⟨σ, δ, own, r, Rr, ri, qq⟩ => ⟨σ, δ, own, r, Rr.weak hB1, ri.back hB1, qq⟩) (fun σ H ⟨δ, own, Rr, qq⟩ => ⟨δ, own, Rr.weak hB1, qq⟩) (fun _ _ z => z)
    · rw [List.length_map] at q
      exact ⟨_, _, ((Ra.view hv2).1).weak hB1, he _ q⟩)
theorem semT.mono' {Q Q' : Bool → Hp → Prop} (h : semT X c σ H Q) (m : ∀ b H1, Q b H1 → Q' b H1) : semT X c σ H Q' := h.mono m
/-- while c: body; m: a measure that falls -/
theorem ws_while (hp : PassesOwn (model X.prog X.w) X.A X.env X.xe) (Iv : Nat → List S → Prop) (m0 : Nat) (h0 : Upto (Iv m0) δ)
    (ht : ∀ m δ1, Iv m δ1 → ∃ δ2, Vw δ1 δ2 ∧ Wt X H0 c δ2 (fun r => (r = true → Wb X H0 sts δ1 { nx := fun δ' => ∃ m', m' < m ∧ Upto (Iv m') δ', rt := E.rt, bk := E.nx, ct := fun δ' => ∃ m', m' < m ∧ Upto (Iv m') δ' }) ∧ (r = false → E.nx δ1))) : Ws X H0 (.While c sts [] pos) δ E := fun B σ H own hB R => by
  refine toS (ps_while hp pt_sem pb_sem) ⟨fun m σ H => ∃ δ own, Rel X.K B σ H δ own ∧ Upto (Iv m) δ, ⟨m0, δ, own, R, h0⟩, fun m σ H ⟨δ1, own1, R1, δ2, hv, q⟩ => ?_⟩
  have R2 := (R1.view hv).1
  obtain ⟨δ3, hv3, w⟩ := ht m δ2 q
  refine (w.atV hv3 hB R2).mono fun r H1 ⟨R3, w1, w2⟩ => ?_
  cases r with
  | true =>
    rw [if_pos rfl]
    refine ⟨fun σ' H' => ∃ m', m' < m ∧ ∃ δ own, Rel X.K B σ' H' δ own ∧ Upto (Iv m') δ, fun σ' H' ⟨m', l, z⟩ => ⟨m', l, z⟩, ?_⟩
    refine (w1 rfl B σ H1 _ hB R3).mono (fun σ H ⟨δ, own, Rr, m', l, z⟩ => ⟨m', l, δ, own, Rr, z⟩) (fun _ _ z => z) (fun _ _ z => z) (fun σ H ⟨δ, own, Rr, m', l, z⟩ => ⟨m', l, δ, own, Rr, z⟩)
  | false =>
    rw [if_neg Bool.false_ne_true]
    exact ⟨_, _, R3, w2 rfl⟩
/-! ### several targets -/
theorem wgs_cons {tg : Expr} {ts : List Expr} {d : D} {ds : List D} (h : Wg X H0 tg d δ fun δ1 => Wgs X H0 ts ds δ1 kn)
    (hp : ∀ {t : TG} {u : TGs}, PG X tg t → PGs X ts u → PGs X (tg :: ts) (gCons t u)) : Wgs X H0 (tg :: ts) (d :: ds) δ kn := fun B σ H own vs hB R iv => by
  obtain ⟨v, r, rfl, i, il⟩ := iv.inv_cons
  have R0 : Rel X.K (cut H own.flatten) σ H δ own := ⟨Same.refl _, R.len1, R.len2, R.sl, R.nd⟩
  refine toGs (hp pg_sem pgs_sem) ⟨v, r, rfl, (h _ σ H own v (hB.trans R.ex) R0 i).mono fun σ1 H1 ⟨δ1, own1, R1, q⟩ => ?_⟩
  exact (q _ σ1 H1 own1 r (hB.trans R.ex) R1 (il.mono R1.ex)).mono fun σ2 H2 ⟨δ2, own2, R2, q2⟩ => ⟨δ2, own2, R2.weak R.ex, q2⟩
theorem wg_tup {ts : List Expr} {x1 : Nat} {ds : List D} (hc : X.calm = true) (h : Wgs X H0 ts ds δ kn) (hn : (assignEach ts X.env).length = ds.length := by rfl) (hst : (assignEach ts X.env).findIdx? (·.1) = none := by rfl) : Wg X H0 (.Tuple ts x1 pos) (.sq false ds) δ kn := fun B σ H own v hB R iv => by
  obtain ⟨a, xs, rfl, hq, il⟩ := iv.tup_inv
  exact toG (pg_tup hc pgs_sem hn hst) ⟨a, xs, rfl, Ex.sqT cut_ex hq, il.1, h B σ H own xs hB R il⟩
end
/-! ### a def -/
def startD (N : List Str) (ds : List D) : List S := ds.map .sh ++ List.replicate (N.length - ds.length) .no
theorem flat_rep : ∀ n : Nat, (List.replicate n ([] : List Addr)).flatten = []
  | 0 => rfl
  | n + 1 => by rw [List.replicate_succ, List.flatten_cons, flat_rep n] <;> rfl
theorem rel_start {K : PySem.W.Frag} {H : Hp} {N : List Str} {vs : List V} {ds : List D} (h : IsL K H vs ds) (hl : ds.length ≤ N.length) : Rel K H (start N vs) H (startD N ds) (List.replicate N.length []) := by
  have e0 : (List.replicate N.length ([] : List Addr)).flatten = [] := flat_rep _
  have e1 : (startD N ds).length = N.length := by simp [startD]; omega
  have hv := h.1
  refine ⟨by rw [e0, cut_nil]; exact Same.refl _, by simp [L2.start, startD, hv], by simp [e1], fun i s x l h1 h2 h3 => ?_, by rw [e0]; exact List.nodup_nil⟩
  have el : l = [] := by
    rw [List.getElem?_replicate] at h3
    split at h3 <;> cases h3
    rfl
  subst el
  rw [e0, cut_nil]
  unfold startD at h1
  unfold L2.start at h2
  by_cases hi : i < ds.length
  · rw [List.getElem?_append_left (by simpa using hi), List.getElem?_map] at h1
    rw [List.getElem?_append_left (by simpa [hv] using hi), List.getElem?_map] at h2
    cases ed : ds[i]? with
    | none => rw [ed] at h1; cases h1
    | some d =>
      rw [ed] at h1; cases h1
      obtain ⟨v, ev, iv⟩ := h.get ed
      rw [ev] at h2; cases h2
      exact ⟨rfl, v, rfl, iv⟩
  · rw [List.getElem?_append_right (by simpa using hi), List.getElem?_replicate] at h1
    split at h1 <;> cases h1
    exact rfl
section
variable {P : Program} {w : World} {K : PySem.W.Frag} {mg : Str → Option Value} {base : Heap} {x qual : Str} {params : Arguments} {body : List Stmt} {scope : Scope} {dvs : List V} {kws : List (Str × V)} {f : Addr} {fd : FuncData}
/-- THE RULE for a def, by data -/
theorem fn_ok {N ps : List Str} {k : Nat} {T : DSp} (F : FunD K x qual params body scope dvs kws f fd) (S : FnScope N ps scope) (hN : ps.length ≤ N.length) (hlen : ∀ ds k x, T ds k x → ds.length = ps.length)
    (hbody : ∀ (cdv : Value) (A : Around) (outer : List Env) (s : Shared) (H : Hp) (E : XK) (ds : List D) (kk : DL.S → Prop) (xx : XD), Room k (A.deeper (envOfC qual scope s.heap.objs.size f cdv)) → T ds kk xx →
      Xc (cxOf (L2N.CX P w) P w K mg base N qual scope f cdv A outer s H E) H (fun _ => xx) →
      Wb (cxOf (L2N.CX P w) P w K mg base N qual scope f cdv A outer s H E) H body (startD N ds) { nx := fun _ => kk (.sh .non), rt := fun _ r => kk r }) : FnOk P w K mg base (L2N.CX P w) (k + 1) f fd ps (spD K T) := by
  refine F.ok S (fun vs H Q E ⟨ds, kk, xx, is, hT, _⟩ => by rw [is.1]; exact hlen _ _ _ hT) (fun cdv A outer s H vs Q E hr h => ?_)
  obtain ⟨ds, kk, xx, is, hT, hQ, hE⟩ := h
  have tk : L2N.Takes (cxOf (L2N.CX P w) P w K mg base N qual scope f cdv A outer s H E) (fun cls d _ H' => E cls d H') := L2N.takes_of rfl rfl rfl rfl
  have xc : Xc (cxOf (L2N.CX P w) P w K mg base N qual scope f cdv A outer s H E) H (fun _ => xx) := ⟨⟨_, tk, fun σ G δ c d fs R i q => hE c d G fs R.ex i q⟩⟩
  refine ⟨_, pb_sem, (hbody cdv A outer s H E ds kk xx hr hT xc H _ H _ (Same.refl H) (rel_start is (by rw [hlen _ _ _ hT]; exact hN))).mono (fun σ' H' ⟨δ, own, R, q⟩ => hQ _ _ _ (show RetIs K H .non H' (.sh .non) from ⟨R.toEx, .non⟩) q) (fun v H' ⟨σ', δ, own, r, R, i, q⟩ => hQ _ _ _ i q) (fun _ _ ⟨_, _, _, z⟩ => z) (fun _ _ ⟨_, _, _, z⟩ => z)⟩
end
end DL
set_option Elab.async false
set_option linter.all false
set_option maxRecDepth 100000
set_option maxHeartbeats 2000000
/-! Part e: closers, numbers, names of built-ins. -/
namespace DL
open PySem PySem.Spec PyProof.Rows L2
/-- the built-in names that the top leaves alone -/
structure Bi (mg : Str → Option Value) : Prop where
  len : mg "len" = none
  range : mg "range" = none
  int : mg "int" = none
  abs : mg "abs" = none
  tuple : mg "tuple" = none
  list : mg "list" = none
  isinstance : mg "isinstance" = none
  bool : mg "bool" = none
  sum : mg "sum" = none
theorem mul64 {i j : Int} (hi : -18446744073709551616 < i ∧ i < 18446744073709551616) (hj : -18446744073709551616 < j ∧ j < 18446744073709551616) : CMulW i j :=
  wide_mul (a := 64) (b := 64) (show i.natAbs < 18446744073709551616 by omega) (show j.natAbs < 18446744073709551616 by omega) (by decide) (by decide) (by decide)
theorem div64 {i j : Int} (h : 0 < j) (hj : j < 18446744073709551616) : CDivW i j := wide_div (b := 64) h (show j.natAbs < 18446744073709551616 by omega) (by decide) (by decide)
theorem lok {n : Nat} (h : Nat.ble n 100000 = true := by rfl) : n ≤ 100000 := Nat.le_of_ble_eq_true h
/-- of fewer than n bits -/
def Bd (n : Nat) (x : Int) : Prop := x.natAbs < 2 ^ n
theorem Bd.le {m n : Nat} {x : Int} (h : Bd m x) (l : m ≤ n) : Bd n x := Nat.lt_of_lt_of_le h (Nat.pow_le_pow_right (by decide) l)
theorem Bd.mulW {a b : Nat} {x y : Int} (h : Bd a x) (h' : Bd b y) (l : a + b ≤ 900000) : CMulW x y :=
  wide_mul (h.le (Nat.le_add_right a 1)) (h'.le (Nat.le_add_right b 1)) (by omega) (by omega) (by omega)
theorem Bd.mul {a b : Nat} {x y : Int} (h : Bd a x) (h' : Bd b y) : Bd (a + b) (x * y) := wide_lt h h'
theorem Bd.neg {a : Nat} {x : Int} (h : Bd a x) : Bd a (-x) := by
  unfold Bd at *
  rw [Int.natAbs_neg]
  exact h
theorem Bd.add {a b n : Nat} {x y : Int} (h : Bd a x) (h' : Bd b y) (l : a < n) (l' : b < n) : Bd n (x + y) := by
  unfold Bd at *
  have h1 : (x + y).natAbs ≤ x.natAbs + y.natAbs := Int.natAbs_add_le x y
  have h2 : 2 ^ a * 2 ≤ 2 ^ n := by rw [← Nat.pow_succ]; exact Nat.pow_le_pow_right (by decide) l
  have h3 : 2 ^ b * 2 ≤ 2 ^ n := by rw [← Nat.pow_succ]; exact Nat.pow_le_pow_right (by decide) l'
  omega
theorem Bd.sub {a b n : Nat} {x y : Int} (h : Bd a x) (h' : Bd b y) (l : a < n) (l' : b < n) : Bd n (x - y) := by
  rw [Int.sub_eq_add_neg]
  exact h.add h'.neg l l'
theorem Bd.div {b : Nat} {x y : Int} (h : 0 < y) (hy : Bd b y) (l : b ≤ 8999) : CDivW x y := wide_div h (hy.le (Nat.le_add_right b 1)) (by omega) (by omega)
/-- lookup in a list of ints told as data -/
theorem get_ints {ns : List Int} {i : Nat} {n : Int} (h : ns[i]? = some n) : (ns.map D.int)[i]? = some (.int n) := by
  rw [List.getElem?_map, h] <;> rfl
theorem of_get_ints {ns : List Int} {i : Nat} {d : D} (h : (ns.map D.int)[i]? = some d) : ∃ n, ns[i]? = some n ∧ d = .int n := by
  rw [List.getElem?_map] at h
  cases e : ns[i]? with
  | none => rw [e] at h; cases h
  | some n => rw [e] at h; exact ⟨n, rfl, (Option.some.inj h).symm⟩
theorem snoc_ints {ns : List Int} {n : Int} : ns.map D.int ++ [D.int n] = (ns ++ [n]).map D.int := by rw [List.map_append] <;> rfl
section
variable {X : Cx} {H0 : Hp} {δ : List S} {e e2 : Expr} {es : List Expr} {k : D → Prop} {pos p : Pos}
/-- gcd of the module math, by its name -/
theorem we_gcd (hm : X.mg "gcd" = some (.builtin "math.gcd")) (h : Wa X H0 [e, e2] δ (fun ds => A2 ds fun x y => I2 x y fun i j => k (.int ((Nat.gcd i.natAbs j.natAbs : Nat) : Int)))) (hg : Gl X "gcd" := by rfl)
    (he : notStar e = true := by rfl) (hpl : notStar e2 = true := by rfl) : We X H0 (.Call (.Name "gcd" p) [e, e2] [] pos) δ k := fun σ G R =>
  toE (pe_callBfun cr_gcd hg hm pa_sem (by decide) (star_of he) (star_any (by rw [List.all_cons, hpl]; rfl))) (call1 (ta := semA X [e, e2]) h (fun G vs ds is ⟨x, y, ed, i, j, ex, ey, hk⟩ Q q => by
    subst ed ex ey
    obtain ⟨v, w, rfl, a, b⟩ := is.two
    cases a
    cases b
    exact ⟨i, j, rfl, q _ G _ (Same.refl _) (.int _) hk⟩) σ G R)
end
end DL
set_option Elab.async false
set_option linter.all false
set_option maxRecDepth 100000
set_option maxHeartbeats 2000000
set_option pp.maxSteps 1200
/-! Part f: own errors: made, raised, caught, asked. -/
namespace DL
open PySem PySem.Spec PyProof.Rows L2
/-! ### an error class whose __init__ stores its one argument -/
/-- __init__(self, v): self.f = v -/
def spI1 (K : PySem.W.Frag) (f : Str) : Sp := fun vs H Q _ => ∃ (a C : Addr) (v : V), vs = [.ref a, v] ∧ H a = some (exo a C none) ∧ OexC K C ∧ PySem.W.findIn K (.ref C) f = some none ∧ ∀ dx, H dx = none → dx ≠ a → Q .non (upd (upd H dx (exd dx [(f, v)])) a (exo a C (some dx)))
structure Exc1 (P : Program) (w : World) (K : PySem.W.Frag) (mg : Str → Option Value) (base : Heap) (lvl : Nat) (x f : Str) (C : Addr) : Prop where
  ox : OexC K C
  no : PySem.W.findIn K (.ref C) f = some none
  gC : mg x = some (.ref C)
  ex : ∃ (fI : Addr) (fd : FuncData) (ps : List Str), PySem.W.findIn K (.ref C) "__init__" = some (some (.ref fI)) ∧ PySem.W.typeIn K (.ref fI) = some (.type "function") ∧ FnOk P w K mg base (L2N.CX P w) lvl fI fd ps (spI1 K f) ∧ Binds K fd ps []
section
variable {P : Program} {w : World} {K : PySem.W.Frag} {mg : Str → Option Value} {base : Heap} {x qual : Str} {params : Arguments} {body : List Stmt} {scope : Scope} {dvs : List V} {kws : List (Str × V)} {f : Addr} {fd : FuncData}
/-- such an __init__ keeps its promise -/
theorem init1_ok {p fld : Str} {a1 a2 a3 : Pos} {pos : Pos} (F : FunD K x qual params [.Assign [.Attribute (.Name "self" a1) fld a2] (.Name p a3) pos] scope dvs kws f fd) (S : FnScope ["self", p] ["self", p] scope)
    (h0 : ∀ (cdv : Value) (A : Around) (outer : List Env) (s : Shared) (H : Hp) (E : XK), PE (cxOf (L2N.CX P w) P w K mg base ["self", p] qual scope f cdv A outer s H E) (.Name "self" a1) (tVar 0))
    (h1 : ∀ (cdv : Value) (A : Around) (outer : List Env) (s : Shared) (H : Hp) (E : XK), PE (cxOf (L2N.CX P w) P w K mg base ["self", p] qual scope f cdv A outer s H E) (.Name p a3) (tVar 1))
    (h2 : ∀ (cdv : Value) (A : Around) (outer : List Env) (s : Shared) (H : Hp) (E : XK), swapsWith (.Name p a3) (some (.Attribute (.Name "self" a1) fld a2)) pos.line (cxOf (L2N.CX P w) P w K mg base ["self", p] qual scope f cdv A outer s H E).env = pure false) :
    FnOk P w K mg base (L2N.CX P w) 1 f fd ["self", p] (spI1 K fld) := by
  refine F.ok S (fun vs H Q E h => by obtain ⟨_, _, _, rfl, _⟩ := h; rfl) (fun cdv A outer s H vs Q E hr h => ?_)
  obtain ⟨a, C, v, rfl, ha, T, no, q⟩ := h
  refine ⟨_, pss_one (ps_ost (h0 cdv A outer s H E) (h1 cdv A outer s H E) (h2 cdv A outer s H E)), ?_⟩
  exact ⟨v, rfl, .ref a, rfl, a, C, rfl, T, no, .inl ⟨ha, fun dx n ne => q dx n ne⟩⟩
end
/-- C(e) where nothing is handled: the new error's context is None -/
theorem pmk_oexN {X : Cx} {x : Str} {e : Expr} {ta : TA} {p pos : Pos} {C fI : Addr} {k : Nat} {fd : FuncData} {ps : List Str} {sp : Sp} (T : OexC X.K C) (hI : PySem.W.findIn X.K (.ref C) "__init__" = some (some (.ref fI))) (hT : PySem.W.typeIn X.K (.ref fI) = some (.type "function"))
    (F1 : FnOk X.prog X.w X.K X.mg X.base (L2N.CX X.prog X.w) k fI fd ps sp) (hr : Room (k + 1) X.A) (hb : Binds X.K fd ps []) (hg : Gl X x) (hm : X.mg x = some (.ref C)) (ha : PA X [e] ta) (hdb : (x == ("__debug__" : Str)) = false)
    (he : notStar e = true) : L2N.PMk X (.Call (.Name x p) [e] [] pos) (tMkO C sp [] ta) := fun pins s σ H Q I h => by
  obtain ⟨_, _, _, _, bm, _, _, _, _, _, _, _, _, _, _, hC, hbm⟩ := T.cls
  refine wpAny_Call_Name_kw (ld_glob I hg hm ?_ hdb)
  refine PySem.W.callWith_K (h₀ := X.base) I.ok.mod.kin T.kC (thn (ha.run pos pins s σ H _ I h) fun us s1 ⟨vs, H1, I1, r1, _, q1⟩ => ⟨I1.kIn, ?_⟩) (star_of he) (star_any rfl)
  show wpAny _ _ (call (.ref C) us) _ _ _
  obtain ⟨hp, g, dr, tk, os⟩ := s1
  let me := hp.objs.size + 1
  let hp1 := (hp.push (PySem.W.kdv_tup us)).push (PySem.HandSPX.excO C hp.objs.size)
  have old : ∀ b o, hp.get? b = some o → hp1.get? b = some o := fun b o z => Heap.get?_push_of_some _ (Heap.get?_push_of_some _ z)
  have sz : hp.objs.size ≤ me := Nat.le_succ _
  have hget : hp1.get? me = some (PySem.HandSPX.excO C hp.objs.size) := by
    show ((hp.push (PySem.W.kdv_tup us)).push (PySem.HandSPX.excO C hp.objs.size)).get? (hp.objs.size + 1) = _
    heap_get
  have q2 := q1 me (I1.hok.fresh sz)
  rw [List.append_nil] at q2
  have I2 : Inv X pins σ (upd H1 me (exo me C none)) ⟨hp1, g, dr, tk, os⟩ := I1.laid (t' := tk) (a := me) (o := exo me C none) (h' := hp1) old sz (exo_ok hget)
  have rr : Vals (V.ref me :: vs) (Value.ref me :: us) := .cons rfl r1
  have nps := F1.len _ _ _ _ q2
  have lus : (Value.ref me :: us ++ []).length = ps.length := by rw [List.append_nil, ← rr.length, nps]
  have bd := hb _ (Value.ref me :: us) I2.kIn lus
  rw [List.append_nil] at bd
  have few : us.length ≤ sizeLine := by rw [← r1.length, sizeLine_eq]; omega
  refine wpAny_call (PySem.HandSPX.call_own F.excBase_ValueError (fun Y => PySem.HandSPX.refsVE_contains Y bm hbm) (I1.kIn _ _ hC) (PySem.W.looks_findIn I1.kIn hI) (fun self => PySem.W.bind_fn I1.kIn self hT) few
    (codeAny_mono (F1.run _ X.stack _ _ ⟨Value.ref me :: us, []⟩ (Value.ref me :: us) _ _ (fun _ _ _ => False) (hr.make C us []) (I2.env0.make C us []) bd rr q2) fun r s' z => ?_))
  match r, z with
  | .error er, z => exact passN pins σ _ _ er s' I2 z
  | .ok (.ret u), z =>
    obtain ⟨v, H2, os2, bare2, un2, hok2, rv, ev, d, fs, ea, ed, hd1, q3⟩ := z
    subst ev
    obtain ⟨h2, g2, d2, t2, os'⟩ := s'
    obtain ⟨t0, G, J, kG, ge, hoe, na⟩ := mk_end0 (d2 := d2) (t2 := t2) I1 sz old un2 hok2 os2 bare2 ea ed hd1
    exact ⟨rv, me, _, _, ⟨G, g2, d2, t2, os'⟩, _, .ref C, some d, rfl, J, kG, ge, hoe, ⟨rfl, rfl, fun vs hv => by cases hv; rfl⟩, rfl, rfl, na, rfl, bare2, raises_own T.exC T.tyC, q3⟩
  | .ok .next, z => exact z.elim
  | .ok .brk, z => exact z.elim
  | .ok .cont, z => exact z.elim
section
variable {K : PySem.W.Frag} {X : Cx} {H0 B H H' : Hp} {σ : L2.St} {δ δ' : List S} {own : List (List Addr)} {a b c e : Expr} {es : List Expr} {k : D → Prop} {pos p : Pos} {E : En}
/-- raise x(e) -/
theorem ws_raise1 {lvl : Nat} {x f : Str} {C : Addr} {p1 : Pos} {xw : List S → XD} (T : Exc1 X.prog X.w X.K X.mg X.base lvl x f C) (hr : Room (lvl + 1) X.A) (hc : X.calm = true) (hx : Xc X H0 xw) (hv : Vw δ δ') (h : Wa X H0 [e] δ' (fun ds => A1 ds fun d => xw δ (.ref C) [(f, d)]))
    (hg : Gl X x := by rfl) (hdb : (x == ("__debug__" : Str)) = false := by decide) (he : notStar e = true := by rfl) :
    Ws X H0 (.Raise (some (.Call (.Name x p1) [e] [] pos)) none p) δ E := fun B σ H own hB R => by
  obtain ⟨fI, fd, ps, iC, tI, F, hb⟩ := T.ex
  obtain ⟨W, tk, hW⟩ := hx.ex
  refine toS (L2N.ps_raise hc tk (pmk_oexN T.ox iC tI F hr hb hg T.gC pa_sem hdb he)) ((h.atV hv hB R).mono fun vs H1 ⟨ds, R1, is, d, ed, hq⟩ => ?_)
  subst ed
  obtain ⟨v, rfl, iv⟩ := is.one
  refine ⟨by show 1 ≤ 1000; decide, fun a na => ⟨a, C, v, rfl, upd_same, T.ox, T.no, fun dx ndx nea => ⟨rfl, dx, [(f, v)], upd_same, ?_, ?_, ?_⟩⟩⟩
  · rw [upd_ne nea, upd_same]
  · rw [upd_ne nea] at ndx; exact ndx
  · have e1 : Ex H1 (upd (del (upd (upd (upd H1 a (exo a C none)) dx (exd dx [(f, v)])) a (exo a C (some dx))) a) dx (.xd [(f, v)])) := fun b u hb => by
      have n1 : b ≠ a := ne_of_none hb na
      have n2 : b ≠ dx := by
        intro z
        subst z
        rw [upd_ne n1, hb] at ndx
        cases ndx
      rw [upd_ne n2, del_ne n1, upd_ne n1, upd_ne n2, upd_ne n1]
      exact hb
    have R2 : RelS X.K H0 σ H1 δ := (R1.weak hB).toS.mono cut_ex
    exact hW σ _ δ _ _ _ (R2.mono e1) ⟨[(f, v)], upd_same, rfl, fun i x d' q1 q2 => by
      cases i with
      | zero => cases q1; cases q2; exact iv.mono e1
      | succ i => cases q1⟩ hq
/-! ### caught -/
def noOw : List S → List S
  | [] => []
  | .ow _ :: r => .no :: noOw r
  | s :: r => s :: noOw r
theorem noOw_len : ∀ δ : List S, (noOw δ).length = δ.length
  | [] => rfl
  | .ow _ :: r => congrArg (· + 1) (noOw_len r)
  | .no :: r => congrArg (· + 1) (noOw_len r)
  | .sh _ :: r => congrArg (· + 1) (noOw_len r)
theorem noOw_get : ∀ (δ : List S) (i : Nat) (s : S), (noOw δ)[i]? = some s → s = .no ∨ ∃ d, s = .sh d ∧ δ[i]? = some (.sh d)
  | [], i, s, h => by cases h
  | .ow _ :: r, 0, s, h => by cases h; exact .inl rfl
  | .no :: r, 0, s, h => by cases h; exact .inl rfl
  | .sh d :: r, 0, s, h => by cases h; exact .inr ⟨d, rfl, rfl⟩
  | .ow _ :: r, i + 1, s, h => noOw_get r i s h
  | .no :: r, i + 1, s, h => noOw_get r i s h
  | .sh _ :: r, i + 1, s, h => noOw_get r i s h
theorem RelS.toRel {G : Hp} (R : RelS K H0 σ G δ) : Rel K H0 σ G (noOw δ) (List.replicate δ.length []) := by
  have e0 : (List.replicate δ.length ([] : List Addr)).flatten = [] := flat_rep _
  refine ⟨by rw [e0, cut_nil]; exact R.ex, by rw [noOw_len, R.len], by rw [noOw_len]; simp, fun i s x l h1 h2 h3 => ?_, by rw [e0]; exact List.nodup_nil⟩
  have el : l = [] := by
    rw [List.getElem?_replicate] at h3
    split at h3 <;> cases h3
    rfl
  subst el
  rw [e0, cut_nil]
  rcases noOw_get δ i s h1 with rfl | ⟨d, rfl, hd⟩
  · exact rfl
  · obtain ⟨v, hv, iv⟩ := R.sh i d hd
    rw [h2] at hv; cases hv
    exact ⟨rfl, v, rfl, iv⟩
/-- a name's slot is emptied -/
theorem Rel.setNo {i : Nat} (R : Rel K H0 σ H δ own) : Rel K H0 (σ.set i none) H (δ.set i .no) (own.set i []) := by
  have sub : ∀ a ∈ (own.set i []).flatten, a ∈ own.flatten := fun a ha => by
    rcases flat_set_sub ha with z | z
    · exact z
    · cases z
  have e : Ex (cut H own.flatten) (cut H (own.set i []).flatten) := cut_sub sub
  refine ⟨R.ex.trans e, by simp [R.len1], by simp [R.len2], fun j s x l h1 h2 h3 => ?_, flat_set_nd R.nd List.nodup_nil fun a ha => by cases ha⟩
  rcases set_get h1 with ⟨e1, rfl⟩ | ⟨n1, g1⟩
  · rcases set_get h3 with ⟨_, rfl⟩ | ⟨n3, _⟩
    · exact rfl
    · exact absurd e1 n3
  · rcases set_get h2 with ⟨e2, _⟩ | ⟨_, g2⟩
    · exact absurd e2 n1
    · rcases set_get h3 with ⟨e3, _⟩ | ⟨_, g3⟩
      · exact absurd e3 n1
      · exact (R.sl j s x l g1 g2 g3).mono e fun _ _ => rfl
theorem IsF.lookup {G : Hp} {n : Str} {u : D} : ∀ {vs : List (Str × V)} {fs : List (Str × D)}, IsF K G vs fs → fs.lookup n = some u → ∃ v, vs.lookup n = some v ∧ Is K G v u
  | [], [], _, h => by cases h
  | [], _ :: _, h, _ => by cases h.1
  | _ :: _, [], h, _ => by cases h.1
  | (a, v) :: vs, (b, d) :: fs, h, hl => by
    have h1 := h.1
    simp only [List.map_cons, List.cons.injEq] at h1
    obtain ⟨rfl, h2⟩ := h1
    have i0 : Is K G v d := h.2 0 (a, v) (a, d) rfl rfl
    have ir : IsF K G vs fs := ⟨h2, fun i x d q1 q2 => h.2 (i + 1) x d q1 q2⟩
    rw [List.lookup_cons] at hl ⊢
    by_cases e : n = a
    · subst e
      simp only [beq_self_eq_true] at hl ⊢
      cases hl
      exact ⟨v, rfl, i0⟩
    · have e' : (n == a) = false := beq_eq_false_iff_ne.mpr e
      simp only [e'] at hl ⊢
      exact IsF.lookup ir hl
/-- the caught error as data -/
def excD (a : Addr) : Option Addr → List (Str × D) → D
  | none, _ => .ob a
  | some dd, fs => .exc a dd fs
theorem excD_is {G : Hp} {a : Addr} {d : Option Addr} {fs : List (Str × D)} (h : ExcIs K G d fs) : Is K G (.ref a) (excD a d fs) := by
  cases d with
  | none => exact .ob a
  | some dd =>
    obtain ⟨vs, h1, h2⟩ := h
    exact .exc h1 h2.1 h2.2
/-- try: body / except x as n: suite; xb: what the body may let out, by data -/
theorem ws_try_as (i : Nat) {x n : Str} {cv : Value} {body suite : List Stmt} {b₀ : Stmt} {np pos' : Pos} (hs : X.stack = X.env :: X.outer) (hf : X.env.frame = some X.env.locals) (hN : X.N.Nodup) (hi : X.N[i]? = some n) (hln : X.env.kindOf n = some .local) (hcn : Names X x cv)
    (xb : List S → XD) (hx : Xc X H0 (fun _ _ _ => False))
    (hb : ∀ (pn : List (Addr × Obj)) (xe : Value → Shared → Prop) (B : Hp), Ex H0 B → PassesOwn (model X.prog X.w) X.A X.env xe → Xc (X.tr pn xe) B xb → Wb (X.tr pn xe) B body δ E)
    (hsu : ∀ (a : Addr) (oe : Obj) (pn : List (Addr × Obj)) (cls : Value) (d : Option Addr) (fs : List (Str × D)) δ1, xb δ1 cls fs → PySem.W.exmOne X.K cls cv = some true ∧
      (L2N.Zn cls d oe → (∃ vs, oe.data = .fields vs) → (fs ≠ [] → ∃ dd, d = some dd) → Wb (X.suite a ((a, oe) :: pn)) H0 (b₀ :: suite) ((noOw δ1).set i (.sh (excD a d fs))) { nx := fun δ => E.nx (δ.set i .no), rt := E.rt, bk := fun δ => E.bk (δ.set i .no), ct := fun δ => E.ct (δ.set i .no) })) :
    Ws X H0 (.Try body [.ExceptHandler (some (.Name x np)) (some n) (b₀ :: suite) pos'] [] [] pos) δ E := fun B σ H own hB R => by
  refine toS (L2N.ps_try_as (tb := fun W D σ H => ∀ pn xe, L2N.Takes (X.tr pn xe) W → PassesOwn (model X.prog X.w) X.A X.env xe → semB (X.tr pn xe) body D σ H)
    (ts := fun a cls d D σ H => ∀ oe pn, L2N.Zn cls d oe → (∃ vs, oe.data = .fields vs) → semB (X.suite a ((a, oe) :: pn)) (b₀ :: suite) D σ H) (Wout := fun _ _ _ _ => False) hs hf hN hi hln hcn takesN0
    (fun W pn xe tk hp => ⟨fun pins s σ H D I h => (h pn xe tk hp).run pins s I⟩) (fun a oe cls d pn hz hv => ⟨fun pins s σ H D I h => (h oe pn hz hv).run pins s I⟩)) fun pn xe tk hp => ?_
  refine hb pn xe B hB hp ⟨⟨_, tk, fun σ1 G δ1 c d fs R1 ie hq => ?_⟩⟩ B σ H own (Same.refl B) R
  refine ⟨true, (hsu 0 ⟨.none, none, .fields #[], #[]⟩ [] c d fs δ1 hq).1, fun _ a na oe pn' hz hv => ?_, fun z => nomatch z⟩
  exact ((hsu a oe pn' c d fs δ1 hq).2 hz hv (fun hne => by cases d with | none => exact absurd ie hne | some dd => exact ⟨dd, rfl⟩) B _ G _ hB (R1.toRel.setSh (i := i) (by rw [flat_rep, cut_nil]; exact excD_is ie))).mono (fun σ2 H2 ⟨δ2, own2, R2, q2⟩ => ⟨_, _, R2.setNo, q2⟩) (fun _ _ z => z) (fun σ2 H2 ⟨δ2, own2, R2, q2⟩ => ⟨_, _, R2.setNo, q2⟩) (fun σ2 H2 ⟨δ2, own2, R2, q2⟩ => ⟨_, _, R2.setNo, q2⟩)
/-- e.f, e the error that the suite holds -/
theorem we_xf {C a : Addr} {oe : Obj} {d : Option Addr} {pn : List (Addr × Obj)} {n : Str} {x : Expr} {k : D → Prop} (T : XfC X.K C) (hno : PySem.W.findIn X.K (.ref C) n = some none) (hz : L2N.Zn (.ref C) d oe) (hf : ∃ vs, oe.data = .fields vs)
    (h : We (X.suite a ((a, oe) :: pn)) H0 x δ (fun y => ∃ dd fs v, d = some dd ∧ y = .exc a dd fs ∧ fs.lookup n = some v ∧ k v)) (hb : attributeBase x n X.env (eval x X.env) = eval x X.env := by rfl) : We (X.suite a ((a, oe) :: pn)) H0 (.Attribute x n pos) δ k := fun σ G R =>
  toE (pe_xf T hno hz.zc hf pe_sem hb) ((h σ G R).mono fun v G1 ⟨e1, y, iy, dd, fs, u, ed, ey, hl, hk⟩ => by
    subst ed ey
    obtain ⟨vs, rfl, h1, hv⟩ : ∃ vs, v = .ref a ∧ G1 dd = some (.xd vs) ∧ IsF X.K G1 vs fs := by
      cases iy with
      | exc h1 h2 h3 => exact ⟨_, rfl, h1, h2, h3⟩
    obtain ⟨u', hu, iu⟩ := hv.lookup hl
    exact ⟨rfl, rfl, dd, vs, u', rfl, h1, hu, e1, u, iu, hk⟩)
end
end DL
/-! ### isinstance of a caught error that has a dict -/
namespace DL
open PySem PySem.W PySem.Calls PySem.Spec PyProof.Rows
section
variable {prog : Program} {w : World} {A : Around} {E : Value → Shared → Prop} {s : Shared} {K : Frag} {x C : Addr} {ox : Obj} {od : Option Obj}
/-- what the class must say -/
structure ExcQ (K : Frag) (C : Addr) : Prop where
  ga : findIn K (.ref C) "__getattribute__" = some (some (.builtin "BaseException.__getattribute__"))
  gg : findIn K (.ref C) "__getattr__" = some none
  sb : subIn K (.ref C) (.type "BaseException") = some true
  hd : hasDictIn K C = true
  cl : findIn K (.ref C) "__class__" = some (some (.builtin "object.__class__"))
  gt : specialIn K (.builtin "object.__class__") "__get__" = some (some (.builtin "getset_descriptor.__get__"))
  tk : takesIn K (.builtin "object.__class__") = some true
  mr : mroIn K C (.type "object") = some true
theorem excq_find (T : ExcQ K C) (od : Option Obj) : findObj K C od "__class__" = some (.bind (.builtin "getset_descriptor.__get__") (.builtin "object.__class__")) := by
  obtain ⟨cd, hc⟩ : ∃ cd, clsIn K C = some cd := by
    obtain ⟨cd, hc, _⟩ := any_some T.hd
    exact ⟨cd, hc⟩
  unfold findObj
  rw [hc, Option.bind_some, T.cl, Option.bind_some]
  simp [T.gt, T.tk]
theorem excq_cls {Q : Option Value → Shared → Prop} (T : ExcQ K C) (kin : K.In s.heap) (ia : InstAt s.heap x ox C od) (hq : Q (some (.ref C)) { s with toks := s.toks + 1 }) : wpAny (model prog w) A (getAttr? (.ref x) "__class__") Q E s := by
  obtain ⟨h0, gs, dr, tt, os⟩ := s
  have ty := ia.type (M := model prog w)
  have lg := looks_findIn (M := model prog w) kin T.ga
  have lh := looks_findIn (M := model prog w) kin T.gg
  have lf := looks_find (M := model prog w) kin ia (excq_find T od)
  have inst : Looks (model prog w) h0 (isInstance (.ref x) (.type "BaseException")) true := ty.andThen (looks_subIn kin T.sb)
  have neq : (Value.builtin "BaseException.__getattribute__" == Value.builtin "object.__getattribute__") = false := by decide +kernel
  have c1 : (onTheHeap (Value.ref C) && Value.builtin "BaseException.__getattribute__" == Value.builtin "object.__getattribute__") = false := by rw [neq, Bool.and_false]
  have c2 : (false && onTheHeap (Value.builtin "BaseException.__getattribute__")) = false := Bool.false_and _
  unfold getAttr? getAttrBy? getAttrBy
  refine wpAny_bind (wpAny_mkText (wpAny_bind (wpAny_attempt (wpAny_holding (wpAny_bind (ty.at (wpAny_bind (lg.at ?_))))))))
  show wpAny _ _ (if (onTheHeap (Value.ref C) && Value.builtin "BaseException.__getattribute__" == Value.builtin "object.__getattribute__") = true then _ else _) _ _ _
  rw [c1, if_neg Bool.false_ne_true]; unfold getAttrByItsOwn hookBefore; refine wpAny_bind ?_
  rw [if_pos (show onTheHeap (Value.ref C) = true by rfl)]; refine lh.at ?_
  refine wpAny_bind (wpAny_attempt (wpAny_holding ?_)); unfold callGetattribute
  rw [c2, if_neg Bool.false_ne_true]; unfold boundAndCalled
  rw [PySem.F.excAttr_ValueError.ga.bind (.ref x)]; refine wpAny_bind (wpAny_pure ?_)
  show wpAny _ _ (call (.builtin "BaseException.__getattribute__") [.ref x, .str "__class__" tt]) _ _ _
  refine wpAny_call (codeAny_call_builtin PySem.F.excAttr_ValueError.ga.plain PySem.F.entry_bexc_ga ?_)
  refine @check_slot (model prog w) _ _ ⟨h0, gs, dr, tt + 1, os⟩ "BaseException.__getattribute__" "BaseException" "__getattribute__" (.ref x) [.str "__class__" tt] [] _ (by decide +kernel) (by decide +kernel) inst (PySem.F.args_bexc_ga (.ref x) (.str "__class__" tt)) ?_
  unfold Builtin.«object.__getattribute__»
  refine wpAny_bind (wpAny_of_eq (a := ((Value.ref x : Value), [Value.str "__class__" tt])) (by first | rfl | (simp only [slotArgs]; rfl)) ?_)
  refine wpAny_bind (wpAny_pure (wpAny_bind (ty.at (wpAny_bind (lf.at ?_)))))
  show wpAny _ _ (holding [Value.builtin "object.__class__"] (call (.builtin "getset_descriptor.__get__") [.builtin "object.__class__", .ref x, .ref C]) >>= ret) _ _ _
  refine wpAny_bind (wpAny_holding (wpAny_call (class_get (s := ⟨h0, gs, dr, tt + 1, os⟩) (ox := ox) (od := od) kin ia T.mr (wpAny_pure ?_))))
  show wpAny _ _ (handedOut (.ref C)) _ _ _
  rw [handedOut_of (v := .ref C) rfl]
  first
    | exact wpAny_pure (wpAny_bind (wpAny_pure (wpAny_pure hq)))
    | exact wpAny_pure (wpAny_pure hq)
    | exact wpAny_pure hq
theorem excq_kit (T : ExcQ K C) : KitX K (.ref x) (.ref C) (fun h => ∃ od, InstAt h x ox C od) where
  ty := fun _ _ _ ⟨_, i⟩ => i.type
  it := fun _ _ kin _ => by
    obtain ⟨cd, hc, _⟩ := any_some T.hd
    unfold clsIn at hc
    split at hc
    · rename_i ho
      intro A' Q' E' s' kp q
      unfold isType loadHead
      exact wpAny_bind (wpAny_loadPart (kp _ _ (kin _ _ ho)) (wpAny_pure q))
    · cases hc
  ne := fun h tp dd its n sl kin htp => by
    obtain ⟨cd, hc, _⟩ := any_some T.hd
    refine Bool.eq_false_iff.mpr fun q => ?_
    obtain rfl : C = tp := Value.ref.inj (beq_iff_eq.mp q)
    unfold clsIn at hc
    split at hc
    · rename_i ho
      cases (kin _ _ ho).symm.trans htp
    · cases hc
  ca := fun kin ⟨_, i⟩ q => excq_cls T kin i q
end
end DL
namespace DL
open PySem PySem.Spec PyProof.Rows L2
section
variable {X : Cx} {H0 : Hp} {δ : List S} {k : D → Prop} {pos p : Pos} {a C : Addr} {oe : Obj} {d : Option Addr} {pn : List (Addr × Obj)}
theorem inst_of {H : Hp} {h : Heap} {P : Program} {w : World} (hz : L2N.Zn (.ref C) d oe) (hv : ∃ vs, oe.data = .fields vs) (ho : h.get? a = some oe) (hd : ∀ dd, d = some dd → ∃ o, h.get? dd = some o) : ∃ od, PySem.W.InstAt h a oe C od := by
  obtain ⟨oc, odt, oda, osl⟩ := oe
  obtain ⟨z1, z2, _⟩ := hz
  obtain ⟨vs, hv⟩ := hv
  dsimp only at z1 z2 hv
  subst z1 z2 hv
  cases odt with
  | none => exact ⟨none, ho, rfl, rfl, trivial⟩
  | some dd =>
    obtain ⟨o, hdo⟩ := hd dd rfl
    exact ⟨some o, ho, rfl, rfl, hdo⟩
/-- isinstance(e, c), e the error that the suite holds; its dict stands -/
theorem call_isX (T : ExcQ X.K C) (hz : L2N.Zn (.ref C) d oe) (hv : ∃ vs, oe.data = .fields vs) : CallR (X.suite a ((a, oe) :: pn)) (.builtin "isinstance") (fun xs H Q => ∃ (c : V) (cv : Value) (b : Bool), xs = [.ref a, c] ∧ ClsV c cv ∧ (∀ dd, d = some dd → ∃ o, H dd = some o) ∧ PySem.W.kitOne X.K (.ref C) cv = some b ∧ Q (.bl b) H) := by
  intro pins s σ H xs us Q I r h
  obtain ⟨c, cv, b, rfl, hc, hd, e, q⟩ := h
  obtain ⟨u1, u2, rfl, r1, r2⟩ := vals2 r
  cases r1
  have e2 := hc.eq r2
  subst e2
  obtain ⟨hget, _⟩ := I.pin (a, oe) (List.mem_append.mpr (.inl List.mem_cons_self))
  obtain ⟨od, ia⟩ := inst_of (H := H) (P := X.prog) (w := X.w) hz hv hget fun dd ed => by
    obtain ⟨o, ho⟩ := hd dd ed
    exact objOk_get (I.hok dd o ho)
  exact PySem.W.kia_one (excq_kit T) I.kIn ⟨od, ia⟩ e (fun z => nomatch z) fun tk => ⟨.bl b, H, I.kept (t' := tk) fun _ _ z => z, rfl, q⟩
/-- isinstance(e, (c1, c2, ..)) -/
theorem call_isXT (T : ExcQ X.K C) (hz : L2N.Zn (.ref C) d oe) (hv : ∃ vs, oe.data = .fields vs) : CallR (X.suite a ((a, oe) :: pn)) (.builtin "isinstance") (fun xs H Q => ∃ (tp : Addr) (cs : List V) (us : List Value) (b : Bool), xs = [.ref a, .ref tp] ∧ H tp = some (.tup cs) ∧ Paired ClsV cs us ∧ (∀ dd, d = some dd → ∃ o, H dd = some o) ∧ PySem.W.kitAny X.K (.ref C) us = some b ∧ Q (.bl b) H) := by
  intro pins s σ H xs us Q I r h
  obtain ⟨tp, cs, ws, b, rfl, hT, k, hd, e, q⟩ := h
  obtain ⟨u1, u2, rfl, r1, r2⟩ := vals2 r
  cases r1
  cases (show u2 = Value.ref tp from r2)
  obtain ⟨hget, _⟩ := I.pin (a, oe) (List.mem_append.mpr (.inl List.mem_cons_self))
  obtain ⟨od, ia⟩ := inst_of (H := H) (P := X.prog) (w := X.w) hz hv hget fun dd ed => by
    obtain ⟨o, ho⟩ := hd dd ed
    exact objOk_get (I.hok dd o ho)
  obtain ⟨_, its, rv, o, h1, h2, n, h3⟩ := (show ObjOk X.prog X.w H s.heap tp (.tup cs) from I.hok tp _ hT)
  have e3 := ClsV.all k rv
  subst e3
  obtain ⟨oc, od', dt, sl⟩ := o
  simp only at h2 h3
  subst h2 h3
  exact PySem.W.kia_tup (excq_kit T) I.kIn ⟨od, ia⟩ h1 e (fun z => nomatch z) fun tk => ⟨.bl b, H, I.kept (t' := tk) fun _ _ z => z, rfl, q⟩
theorem exc_there {G : Hp} {y : D} {v : V} {fs : List (Str × D)} (h : Is X.K G v (excD a d fs)) : v = .ref a ∧ ∀ dd, d = some dd → ∃ o, G dd = some o := by
  cases d with
  | none => cases h; exact ⟨rfl, fun dd e => nomatch e⟩
  | some d' =>
    cases h with
    | exc h1 h2 h3 => exact ⟨rfl, fun dd e => by cases e; exact ⟨_, h1⟩⟩
/-- the error's slot i; one class: c reads as cv -/
theorem we_isx {i : Nat} {nm x : Str} {p1 p2 : Pos} {cV : V} {cv : Value} {b : Bool} {fs : List (Str × D)} (T : ExcQ X.K C) (hz : L2N.Zn (.ref C) d oe) (hv : ∃ vs, oe.data = .fields vs) (hm : X.mg "isinstance" = none) (hi : δ[i]? = some (.sh (excD a d fs))) (hc : PE (X.suite a ((a, oe) :: pn)) (.Name x p2) (tC cV)) (hcv : ClsV cV cv)
    (hb : PySem.W.kitOne X.K (.ref C) cv = some b) (h : k (.bl b)) (hp : PE (X.suite a ((a, oe) :: pn)) (.Name nm p1) (tVar i) := by exact pv _) (hg : Gl (X.suite a ((a, oe) :: pn)) "isinstance" := by rfl) :
    We (X.suite a ((a, oe) :: pn)) H0 (.Call (.Name "isinstance" p) [.Name nm p1, .Name x p2] [] pos) δ k := fun σ G R => toE (pe_callB (call_isX T hz hv) hg hm (by decide +kernel) (pa_cons hp (pa_cons hc pa_nil (star_of rfl)) (star_of rfl)) (by decide) (by decide) (star_of rfl) (star_any rfl)) (by
  obtain ⟨v, e, iv⟩ := R.sh i _ hi
  obtain ⟨rfl, hd⟩ := exc_there (X := X) (y := .non) iv
  exact ⟨_, e, cV, cv, b, rfl, hcv, hd, hb, Same.refl _, _, .bl b, h⟩)
/-- a tuple of classes -/
inductive Clss (X : Cx) : List Expr → List V → List Value → Prop where
  | nil : Clss X [] [] []
  | cons {e : Expr} {es : List Expr} {v : V} {vs : List V} {u : Value} {us : List Value} : PE X e (tC v) → ClsV v u → (notStar e = true) → Clss X es vs us → Clss X (e :: es) (v :: vs) (u :: us)
theorem Clss.all {es : List Expr} {vs : List V} {us : List Value} (h : Clss X es vs us) : Paired ClsV vs us ∧ PA X es (fun _ H Q => Q vs H) := by
  induction h with
  | nil => exact ⟨.nil, pa_nil⟩
  | cons h1 h2 h3 _ ih => exact ⟨.cons h2 ih.1, pa_cons h1 ih.2 (star_of h3)⟩
theorem we_isxT {i x1 : Nat} {nm : Str} {p1 p2 : Pos} {es : List Expr} {vs : List V} {us : List Value} {b : Bool} {fs : List (Str × D)} (T : ExcQ X.K C) (hz : L2N.Zn (.ref C) d oe) (hv : ∃ vs, oe.data = .fields vs) (hm : X.mg "isinstance" = none) (hi : δ[i]? = some (.sh (excD a d fs))) (hc : Clss (X.suite a ((a, oe) :: pn)) es vs us) (hl : vs.length ≤ 1000)
    (hb : PySem.W.kitAny X.K (.ref C) us = some b) (h : k (.bl b)) (hp : PE (X.suite a ((a, oe) :: pn)) (.Name nm p1) (tVar i) := by exact pv _) (hg : Gl (X.suite a ((a, oe) :: pn)) "isinstance" := by rfl) :
    We (X.suite a ((a, oe) :: pn)) H0 (.Call (.Name "isinstance" p) [.Name nm p1, .Tuple es x1 p2] [] pos) δ k := fun σ G R => toE (pe_callB (call_isXT T hz hv) hg hm (by decide +kernel) (pa_cons hp (pa_cons (pe_tup hc.all.2) pa_nil (star_of rfl)) (star_of rfl)) (by decide) (by decide) (star_of rfl) (star_any rfl)) (by
  obtain ⟨v, e, iv⟩ := R.sh i _ hi
  obtain ⟨rfl, hd⟩ := exc_there (X := X) (y := .non) iv
  refine ⟨_, e, Nat.le_trans hl (by decide), fun tp ht => ⟨tp, vs, us, b, rfl, upd_same, hc.all.1, fun dd ed => ?_, hb, Ex.new ht, _, .bl b, h⟩⟩
  obtain ⟨o, ho⟩ := hd dd ed
  exact ⟨o, (Ex.new ht) dd o ho⟩)
end
end DL
set_option Elab.async false
set_option linter.all false
set_option maxRecDepth 100000
set_option maxHeartbeats 2000000
set_option pp.maxSteps 1200
/-! Part g: more operations. -/
namespace DL
open PySem PySem.Spec PyProof.Rows L2
section
variable {X : Cx} {H0 : Hp} {δ δ' : List S} {a b c e e2 : Expr} {es : List Expr} {k : D → Prop} {ko : Ow → Prop} {kt : Bool → Prop} {pos p : Pos} {E : En}
/-- // by any divisor but zero, below 2 ^ 9000 in size -/
def CDivX (_ j : Int) : Prop := j ≠ 0 ∧ j.natAbs.log2 < 9000
theorem op_fdivX : OpR X (binaryOp .FloorDiv) (rI CDivX fun i j => .int (i.fdiv j)) := opI fun _ _ _ _ _ _ _ hc q => floordiv_int hc.1 q (.inl (PyProof.noPylong_of_log2 hc.2))
theorem Bd.divX {n : Nat} {x y : Int} (h : y ≠ 0) (hy : Bd n y) (l : n ≤ 8999) : CDivX x y := ⟨h, Nat.lt_of_lt_of_le (PySem.Flt.log2_lt_of (by omega) (hy.le (Nat.le_add_right n 1))) (by omega)⟩
theorem we_fdiv (h : We X H0 a δ (fun x => We X H0 b δ (fun y => I2 x y (fun i j => CDivX i j ∧ k (.int (i.fdiv j)))))) : We X H0 (.BinOp a .FloorDiv b pos) δ k := fun σ G R => toE (pe_op op_fdivX pe_sem pe_sem) (two h (ii fun G i j => .int _) σ G R)
/-! ### list + list, list * int -/
def CAT (x y : D) (P : List D → Prop) : Prop := ∃ xs ys, x = .sq true xs ∧ y = .sq true ys ∧ xs.length + ys.length ≤ 100000 ∧ P (xs ++ ys)
theorem cat {xs ys : List D} {P : List D → Prop} (h : xs.length + ys.length ≤ 100000) (q : P (xs ++ ys)) : CAT (.sq true xs) (.sq true ys) P := ⟨xs, ys, rfl, rfl, h, q⟩
def REP (o : Ow) (y : D) (P : List D → Prop) : Prop := ∃ xs n, o = .lst xs ∧ y = .int n ∧ -1000000 ≤ n ∧ n ≤ 1000000 ∧ xs.length * n.toNat ≤ 100000 ∧ P (List.replicate n.toNat xs).flatten
theorem rep {xs : List D} {n : Int} {P : List D → Prop} (h : -1000000 ≤ n ∧ n ≤ 1000000 ∧ xs.length * n.toNat ≤ 100000) (q : P (List.replicate n.toNat xs).flatten) : REP (.lst xs) (.int n) P := ⟨xs, n, rfl, rfl, h.1, h.2.1, h.2.2, q⟩
theorem ObjOk.lstR {P : Program} {w : World} {H : Hp} {h : Heap} {l : Addr} {xs : List V} (r : Rd H l (.lst xs)) (ok : HOk P w H h) : xs.length ≤ sizeLine ∧ ∃ (its : List Value) (n : Nat), Vals xs its ∧ h.get? l = some { cls := .type "list", data := .seq its.toArray n } := r.ok ok
def rCatR : R2 := fun x y H Q => ∃ l b xs zs, x = .ref l ∧ y = .ref b ∧ Rd H l (.lst xs) ∧ Rd H b (.lst zs) ∧ xs.length + zs.length ≤ sizeLine ∧ ∀ p, H p = none → Q (.ref p) (upd H p (.lst (xs ++ zs)))
theorem op_catR : OpR X (binaryOp .Add) rCatR := by
  intro pins s σ H x y v u Q I rx ry h
  obtain ⟨l, b, xs, zs, rfl, rfl, hH, hB, hz, q⟩ := h
  cases rx; cases ry
  obtain ⟨z, its, n, r, e⟩ := ObjOk.lstR hH I.hok
  obtain ⟨z2, its2, n2, r2, e2⟩ := ObjOk.lstR hB I.hok
  refine PySem.P.add_list e e2 ?_ (by rw [List.size_toArray, List.size_toArray, ← r.length, ← r2.length]; exact hz)
  rw [show its.toArray ++ its2.toArray = (its ++ its2).toArray by simp]
  exact ⟨.ref _, _, I.lnew (t' := s.toks) (r.append r2) (by rw [List.length_append]; omega), rfl, q _ I.fresh⟩
theorem flat_len {α : Type} (n : Nat) (xs : List α) : (List.replicate n xs).flatten.length = n * xs.length := by
  induction n with
  | zero => simp
  | succ n ih => rw [List.replicate_succ, List.flatten_cons, List.length_append, ih, Nat.succ_mul, Nat.add_comm]
theorem IsL.rep {K : PySem.W.Frag} {G : Hp} {xs : List V} {ds : List D} (h : IsL K G xs ds) : ∀ n : Nat, IsL K G (List.replicate n xs).flatten (List.replicate n ds).flatten
  | 0 => .nil
  | n + 1 => by
    rw [List.replicate_succ, List.replicate_succ, List.flatten_cons, List.flatten_cons]
    exact h.app (IsL.rep h n)
theorem wo_cat (h : We X H0 a δ (fun x => We X H0 b δ (fun y => CAT x y fun zs => ko (.lst zs)))) : Wo X H0 (.BinOp a .Add b pos) δ ko := fun σ G R => toE (pe_op op_catR pe_sem pe_sem) ((h σ G R).mono fun v G1 ⟨e1, x, ix, q1⟩ => (q1 σ G1 (R.mono e1)).mono fun w G2 ⟨e2, y, iy, xs, ys, ex, ey, hl, hk⟩ => by
  subst ex ey
  obtain ⟨l, us, rfl, r1, l1⟩ := (ix.mono e2).lst_inv
  obtain ⟨l', ws, rfl, r2, l2⟩ := iy.lst_inv
  exact ⟨l, l', us, ws, rfl, rfl, r1, r2, Nat.le_trans (by rw [l1.1, l2.1]; exact hl) (by decide), fun t ht => ⟨_, (NewIs.lst ht (l1.app l2)).back (e1.trans e2), hk⟩⟩)
/-- [..] * n, a new list times an int -/
theorem wo_rep (h : Wo X H0 a δ (fun o => We X H0 b δ (fun y => REP o y fun zs => ko (.lst zs)))) : Wo X H0 (.BinOp a .Mult b pos) δ ko := fun σ G R => toE (pe_op op_rep pe_sem pe_sem) ((h σ G R).mono fun v G1 ⟨o, N, q1⟩ => (q1 σ G1 (R.mono N.ex)).mono fun w G2 ⟨e2, y, iy, xs, n, eo, ey, n1, n2, hl, hk⟩ => by
  subst eo ey
  cases iy
  have e1 := N.ex
  obtain ⟨l, ⟨p, us, rfl, rfl, hp, il⟩, fr, ee, nd⟩ := N
  have iG : IsL X.K G2 us xs := il.mono (cut_ex.trans e2)
  have hn : xs.length * n.toNat ≤ sizeLine := Nat.le_trans hl (by decide)
  exact ⟨p, n, us, rfl, rfl, e2 _ _ hp, by omega, by omega, by rw [il.1]; exact hn, fun t ht => ⟨_, (NewIs.lst ht (iG.rep _)).back (e1.trans e2), hk⟩⟩)
/-! ### == of data at any depth -/
inductive Pd : D → PyData → Prop
  | non : Pd .non .none
  | bl (b : Bool) : Pd (.bl b) (.bool b)
  | int (i : Int) : Pd (.int i) (.int i)
  | str (x : Str) : Pd (.str x) (.str x)
  | lst {ds : List D} {ps : List PyData} : ds.length = ps.length → (∀ (i : Nat) d q, ds[i]? = some d → ps[i]? = some q → Pd d q) → Pd (.sq true ds) (.list ps)
  | tup {ds : List D} {ps : List PyData} : ds.length = ps.length → (∀ (i : Nat) d q, ds[i]? = some d → ps[i]? = some q → Pd d q) → Pd (.sq false ds) (.tuple ps)
theorem dpAll {K : PySem.W.Frag} {H : Hp} : ∀ {vs : List V} {ps : List PyData}, vs.length = ps.length → (∀ (i : Nat) v q, vs[i]? = some v → ps[i]? = some q → Dp K H v q) → DpAll K H vs ps
  | [], [], _, _ => .nil
  | [], _ :: _, h, _ => by cases h
  | _ :: _, [], h, _ => by cases h
  | v :: vs, q :: ps, h, g => .cons (g 0 v q rfl rfl) (dpAll (Nat.succ.inj h) fun i v q a b => g (i + 1) v q a b)
theorem Pd.dp {K : PySem.W.Frag} {H : Hp} {d : D} {q : PyData} (h : Pd d q) : ∀ {v : V}, Is K H v d → Dp K H v q := by
  induction h with
  | non => intro v i; cases i; exact .non
  | bl b => intro v i; cases i; exact .bl b
  | int b => intro v i; cases i; exact .int b
  | str b => intro v i; cases i; exact .str b
  | lst hl _ ih =>
    intro v i
    obtain ⟨a, xs, rfl, r, l⟩ := i.lst_inv
    refine .lst (.inl r) (dpAll (l.1.trans hl) fun j v q h1 h2 => ?_)
    obtain ⟨d, hd, id⟩ := l.getV h1
    exact ih j d q hd h2 id
  | tup hl _ ih =>
    intro v i
    obtain ⟨a, xs, rfl, r, l⟩ := i.tup_inv
    refine .tup r (dpAll (l.1.trans hl) fun j v q h1 h2 => ?_)
    obtain ⟨d, hd, id⟩ := l.getV h1
    exact ih j d q hd h2 id
theorem Pd.nilL : Pd (.sq true []) (.list []) := .lst rfl fun i d q h => by cases h
theorem Pd.nilT : Pd (.sq false []) (.tuple []) := .tup rfl fun i d q h => by cases h
theorem Pd.consL {d : D} {q : PyData} {ds : List D} {ps : List PyData} (h : Pd d q) (r : Pd (.sq true ds) (.list ps)) : Pd (.sq true (d :: ds)) (.list (q :: ps)) := by
  cases r with
  | lst hl g =>
    refine .lst (congrArg (· + 1) hl) fun i d' q' h1 h2 => ?_
    cases i with
    | zero => cases h1; cases h2; exact h
    | succ i => exact g i d' q' h1 h2
theorem Pd.consT {d : D} {q : PyData} {ds : List D} {ps : List PyData} (h : Pd d q) (r : Pd (.sq false ds) (.tuple ps)) : Pd (.sq false (d :: ds)) (.tuple (q :: ps)) := by
  cases r with
  | tup hl g =>
    refine .tup (congrArg (· + 1) hl) fun i d' q' h1 h2 => ?_
    cases i with
    | zero => cases h1; cases h2; exact h
    | succ i => exact g i d' q' h1 h2
/-- the data on both sides, and what == says of them -/
def EQ (x y : D) (P : Bool → Prop) : Prop := ∃ p q, Pd x p ∧ Pd y q ∧ SeqAt.shaped p = true ∧ SeqAt.shaped q = true ∧ P (PyData.eqv p q)
theorem wt_eqD (hu : X.A.units + 64 < cLine) (h : We X H0 a δ (fun x => We X H0 b δ (fun y => EQ x y kt))) : Wt X H0 (.Compare a [.Eq] [b] pos) δ kt := fun σ G R => toT (pt_cmpR (op_eqD hu) pe_sem pe_sem (nomark _)) (twoT h (fun G v w x y iv iw ⟨p, q, hp, hq, sp, sq, hk⟩ Q qq => ⟨p, q, hp.dp iv, hq.dp iw, sp, sq, qq _ hk⟩) σ G R)
theorem we_eqD (hu : X.A.units + 64 < cLine) (h : We X H0 a δ (fun x => We X H0 b δ (fun y => EQ x y fun r => k (.bl r)))) : We X H0 (.Compare a [.Eq] [b] pos) δ k := fun σ G R => toE (pe_cmpR (op_eqD hu) pe_sem pe_sem (nomark _)) (two h (fun G v w x y iv iw ⟨p, q, hp, hq, sp, sq, hk⟩ Q qq => ⟨p, q, hp.dp iv, hq.dp iw, sp, sq, qq _ G _ (Same.refl _) (.bl _) hk⟩) σ G R)
theorem wt_neD (hu : X.A.units + 64 < cLine) (h : We X H0 a δ (fun x => We X H0 b δ (fun y => EQ x y fun r => kt (!r)))) : Wt X H0 (.Compare a [.NotEq] [b] pos) δ kt := fun σ G R => toT (pt_cmpR (op_neD hu) pe_sem pe_sem (nomark _)) (twoT h (fun G v w x y iv iw ⟨p, q, hp, hq, sp, sq, hk⟩ Q qq => ⟨p, q, hp.dp iv, hq.dp iw, sp, sq, qq _ hk⟩) σ G R)
/-- x = xs[i], xs a list that the frame alone holds -/
theorem ws_setIx (i j : Nat) {x y : Str} {px p1 ps : Pos} {ix : Expr} {ds : List D} (hN : X.N.Nodup) (hj : δ[j]? = some (.ow (.lst ds))) (hv : Vw δ δ') (h : We X H0 ix δ' (fun n => ∃ m d, n = .int m ∧ atI ds m = some d ∧ E.nx (δ.set i (.sh d)))) (hi : X.N[i]? = some x := by rfl) (hx : Loc X.env.scope x := by first | exact .inl rfl | exact .inr rfl) (hp : PE X (.Name y p1) (tVar j) := by exact pv _) (hpl : PlainIx ix := by exact fun _ _ => rfl)
    (hs : swapsWith (.Subscript (.Name y p1) ix ps) (some (.Name x px)) pos.line X.env = pure false := by rfl) (hf : X.fn x = true ∨ X.env.scope.names.lookup x = some .local := by exact .inl rfl) : Ws X H0 (.Assign [.Name x px] (.Subscript (.Name y p1) ix ps) pos) δ E := fun B σ H own hB R =>
  toS (ps_set hN hi hx (pe_ix ix_list hp pe_sem hpl) hs hf) (by
    obtain ⟨x0, l, h1, h2, v, rfl, p, xs, rfl, rfl, h3, h4⟩ := R.idx hj
    refine ⟨_, h1, (h.atV hv hB R).mono fun n H1 ⟨d, R1, inn, m, d', em, hat, q⟩ => ?_⟩
    subst em
    cases inn
    obtain ⟨x0, l, g1, g2, v', rfl, p', xs', ev, rfl, g3, g4⟩ := R1.idx hj
    rw [h1] at g1; cases g1
    cases ev
    obtain ⟨z, hz, iz⟩ := g4.atI hat
    exact ⟨p, xs', m, z, rfl, rfl, SqL.of g3, hz, _, _, R1.setSh iz, q⟩)
/-- an if whose ways meet -/
theorem wb_ifj {sts els rest : List Stmt} (M : List S → Prop) (hv : Vw δ δ') (hM : ∀ δ1, M δ1 → Wb X H0 rest δ1 E) (h : Wt X H0 c δ' (fun r => (r = true → Wb X H0 sts δ { E with nx := Upto M }) ∧ (r = false → Wb X H0 els δ { E with nx := Upto M }))) : Wb X H0 (.If c sts els pos :: rest) δ E :=
  wb_cons (ws_if hv (h.mono fun r ⟨h1, h2⟩ => ⟨fun hr => (h1 hr).mono (fun δ1 ⟨δ2, v, q⟩ => wb_view v (hM δ2 q)) (fun _ _ q => q) (fun _ q => q) (fun _ q => q), fun hr => (h2 hr).mono (fun δ1 ⟨δ2, v, q⟩ => wb_view v (hM δ2 q)) (fun _ _ q => q) (fun _ q => q) (fun _ q => q)⟩))
end
end DL
set_option Elab.async false
set_option linter.all false
set_option maxRecDepth 100000
set_option maxHeartbeats 2000000
set_option pp.maxSteps 1200
/-! Part h: defs that an except suite calls. -/
namespace DL
open PySem PySem.Spec PyProof.Rows L2
/-- the promise of a def, whatever is handled; p stays pinned -/
structure FnC (P : Program) (w : World) (K : PySem.W.Frag) (mg : Str → Option Value) (base : Heap) (k : Nat) (f : Addr) (fd : FuncData) (ps : List Str) (sp : Sp) : Prop where
  len : ∀ vs H Q E, sp vs H Q E → vs.length = ps.length
  go : ∀ (A : Around) (outer : List Env) (s : Shared) (H : Hp) (as : Args) (us : List Value) (vs : List V) (Q : VK) (E : XK) (q : Addr × Obj), L2H.RoomH k A → L2H.PinOk outer H s q → Env0 P w K mg base A outer s H → BindsTo s fd as (ps.zip us) → Vals vs us → sp vs H Q E → codeAny (model P w) A (.call (.ref f) as) (CR (L2N.CX P w) outer P w H s Q E) s
section
variable {P : Program} {w : World} {K : PySem.W.Frag} {mg : Str → Option Value} {base : Heap} {x qual : Str} {params : Arguments} {body : List Stmt} {scope : Scope} {dvs : List V} {kws : List (Str × V)} {f : Addr} {fd : FuncData}
theorem fn_okC {N ps : List Str} {k : Nat} {T : DSp} (F : FunD K x qual params body scope dvs kws f fd) (S : FnScope N ps scope) (hN : ps.length ≤ N.length) (hlen : ∀ ds k x, T ds k x → ds.length = ps.length)
    (hbody : ∀ (cdv : Value) (A : Around) (outer : List Env) (s : Shared) (H : Hp) (E : XK) (q : Addr × Obj) (ds : List D) (kk : DL.S → Prop) (xx : XD), L2H.RoomH k (A.deeper (envOfC qual scope s.heap.objs.size f cdv)) → T ds kk xx →
      Xc (L2H.cxH (L2N.CX P w) P w K mg base N qual scope f cdv A outer s H E q) H (fun _ => xx) →
      Wb (L2H.cxH (L2N.CX P w) P w K mg base N qual scope f cdv A outer s H E q) H body (startD N ds) { nx := fun _ => kk (.sh .non), rt := fun _ r => kk r }) : FnC P w K mg base (k + 1) f fd ps (spD K T) := by
  obtain ⟨oc, od, dV, kV, doc, pm, an, cdv, ct, osl, rfl, lk, hcd, _, _⟩ := F.ex
  refine ⟨fun vs H Q E ⟨ds, kk, xx, is, hT, _⟩ => by rw [is.1]; exact hlen _ _ _ hT, fun A outer s H as us vs Q E q rm pin e0 bd rv hsp => ?_⟩
  obtain ⟨ds, kk, xx, is, hT, hQ, hE⟩ := hsp
  have nL : vs.length = ps.length := by rw [is.1]; exact hlen _ _ _ hT
  have kin : K.In s.heap := e0.mod.kin.keeps fun b o z => (e0.bs b o z).1
  have nl : s.heap.NoLimit := e0.mod.nolimit.keeps fun b o z => (e0.bs b o z).1
  have par : ∀ y ∈ ps.zip us, scope.names.lookup y.1 = some .local ∨ (scope.names.lookup y.1 = some .cell ∧ ((cellsFrom (s.heap.objs.size + 1) scope.names []).lookup y.1).isSome = true) := fun y hy =>
    (S.par y.1 (List.of_mem_zip (show (y.1, y.2) ∈ ps.zip us from hy)).1).elim .inl fun z => .inr ⟨z, PySem.W.cellsFrom_some _ _ _ (.inl z)⟩
  have tk : L2N.Takes (L2H.cxH (L2N.CX P w) P w K mg base N qual scope f cdv A outer s H E q) (fun cls d _ H' => E cls d H') := L2N.takes_of rfl rfl rfl rfl
  have xc : Xc (L2H.cxH (L2N.CX P w) P w K mg base N qual scope f cdv A outer s H E q) H (fun _ => xx) := ⟨⟨_, tk, fun σ G δ c d fs R i z => hE c d G fs R.ex i z⟩⟩
  refine codeAny_call_function rm.depth (kin _ _ lk) rfl S.co S.gen rfl (PySem.W.codeRec_of kin hcd) (bd _ _ _ _ (wpAny_newFunctionEnv_cells S.kind par fun env he s1 z => ?_))
  subst he
  refine ⟨nl.keeps z.toInCall.keep, codeAny_func ?_⟩
  have sb := (hbody cdv A outer s H E q ds kk xx (rm.deeper _) hT xc H _ H _ (Same.refl H) (rel_start is (by rw [hlen _ _ _ hT]; exact hN))).mono (D' := { nx := fun _ H' => Q .non H', rt := Q }) (fun σ' H' ⟨δ, own, R, g⟩ => hQ _ _ _ (show RetIs K H .non H' (.sh .non) from ⟨R.toEx, .non⟩) g) (fun v H' ⟨σ', δ, own, r, R, i, g⟩ => hQ _ _ _ i g) (fun _ _ ⟨_, _, _, z⟩ => z) (fun _ _ ⟨_, _, _, z⟩ => z)
  have I0 := L2H.inv_startH (CX := L2N.CX P w) (E := E) S pin e0 nL rv z
  refine wpAny_mono (pb_sem.run [] s1 _ H _ I0 sb) (fun fl s' hs => ?_) fun _ _ hs => hs
  cases fl with
  | ret u =>
    obtain ⟨v, σ', H', J, r, g⟩ := hs
    exact ⟨v, H', J.os, J.bare, J.base, J.hok, r, g⟩
  | next =>
    obtain ⟨σ', H', J, g⟩ := hs
    exact ⟨.non, H', J.os, J.bare, J.base, J.hok, rfl, g⟩
  | brk =>
    obtain ⟨_, _, _, g⟩ := hs
    exact g.elim
  | cont =>
    obtain ⟨_, _, _, g⟩ := hs
    exact g.elim
end
/-- such a def, known -/
structure Fc (P : Program) (w : World) (K : PySem.W.Frag) (mg : Str → Option Value) (base : Heap) (lvl : Nat) (x : Str) (ps : List Str) (T : DSp) : Prop where
  ex : ∃ (f : Addr) (fd : FuncData), FnC P w K mg base lvl f fd ps (spD K T) ∧ mg x = some (.ref f) ∧ PySem.W.keepIn K (.ref f) = true ∧ Binds K fd ps []
theorem roomH_suite {k : Nat} {A : Around} {v : Option Value} (r : Room k A) : L2H.RoomH k (A.mark v) := ⟨r.dp, r.un⟩
section
variable {X : Cx} {H0 : Hp} {δ : List S} {e : Expr} {es : List Expr} {k : D → Prop} {pos p : Pos} {a : Addr} {oe : Obj} {pn : List (Addr × Obj)}
/-- a call in an except suite, where nothing is let out -/
theorem we_callC {lvl : Nat} {x : Str} {ps : List Str} {T : DSp} (F : Fc X.prog X.w X.K X.mg X.base lvl x ps T) (hr : Room lvl X.A) (h : Wa (X.suite a ((a, oe) :: pn)) H0 (e :: es) δ (fun as => T as (fun r => k r.d) (fun _ _ => False)))
    (hg : Gl (X.suite a ((a, oe) :: pn)) x := by rfl) (hdb : (x == ("__debug__" : Str)) = false := by decide) (he : notStar e = true := by rfl) (hpl : es.all notStar = true := by rfl) : We (X.suite a ((a, oe) :: pn)) H0 (.Call (.Name x p) (e :: es) [] pos) δ k := by
  intro σ G R
  obtain ⟨f, fd, Fk, hm, hk, hb⟩ := F.ex
  have h := h σ G R
  refine .mk fun pins s I => ?_
  refine wpAny_Call_Name_kw (ld_glob I hg hm ?_ hdb)
  refine PySem.W.callWith_K I.ok.mod.kin hk (thn (h.run pos pins s I) fun us s1 ⟨vs, G1, I1, rv, e1, as, is, hT⟩ => ⟨I1.kIn, ?_⟩) (star_of he) (star_any hpl)
  have nl : vs.length = ps.length := Fk.len vs G1 (fun _ _ => True) (fun _ _ _ => True) ⟨as, _, _, is, hT, fun _ _ _ _ _ => trivial, fun _ _ _ _ _ _ _ => trivial⟩
  have bd := hb s1 us I1.kIn (by rw [List.append_nil, ← rv.length]; exact nl)
  rw [List.append_nil] at bd
  have pn1 := I1.pin (a, oe) (List.mem_append_left _ List.mem_cons_self)
  have pin : L2H.PinOk X.stack G1 s1 (a, oe) := ⟨pn1.1, pn1.2.1, fun hm => (List.mem_cons.mp (I1.stkSub a hm)).elim pn1.2.2.1 pn1.2.2.2.1, pn1.2.2.2.2⟩
  refine wpAny_call (codeAny_mono (Fk.go _ X.stack s1 G1 ⟨us, []⟩ us vs (fun v G2 => Ex G G2 ∧ ∃ d, Is X.K G2 v d ∧ k d) (fun _ _ _ => False) (a, oe) (roomH_suite hr) pin I1.env0 bd rv ⟨as, _, _, is, hT, fun v G2 r ir kr => ⟨e1.trans ir.ex.1, _, ir.ex.2, kr⟩, fun _ _ _ _ _ _ z => z⟩) fun r s2 hq => ?_)
  cases r with
  | error z => exact (L2N.passAt (X := X.suite a ((a, oe) :: pn)) takesN0 σ pins G1 s1 z s2 I1 hq : False).elim
  | ok fl =>
    cases fl with
    | ret u => exact I1.after hq
    | next => exact False.elim hq
    | brk => exact False.elim hq
    | cont => exact False.elim hq
end
/-! ### a call's tuple, kept beside an object that was lent -/
def FlatT : D → Prop
  | .sq false ds => ∀ (i : Nat) d, ds[i]? = some d → Flat d
  | d => Flat d
theorem FlatT.two {a b : D} (h : Flat a) (h' : Flat b) : FlatT (.sq false [a, b]) := fun i d e => by
  match i, e with
  | 0, e => cases e; exact h
  | 1, e => cases e; exact h'
theorem FlatT.is {K : PySem.W.Frag} {H0 H : Hp} {σ : L2.St} {δ : List S} {own : List (List Addr)} {v : V} {d : D} (R : Rel K H0 σ H δ own) (f : FlatT d) (h : Is K H v d) : Is K (cut H own.flatten) v d := by
  cases h with
  | non => exact .non
  | bl b => exact .bl b
  | int i => exact .int i
  | str x => exact .str x
  | tup h1 h2 h3 =>
    refine .tup ?_ h2 fun i x d hx hd => (h3 i x d hx hd).flat (f i d hd)
    rcases h1 with z | z
    · refine .inl ?_
      have no : ∀ (p : Addr) (xs : List V), p ∈ own.flatten → ¬ Rd H p (.tup xs) := fun p xs hp r => by
        rcases R.owned p hp with ⟨_, e⟩ | ⟨_, e⟩ | ⟨_, _, _, e, _⟩ | ⟨_, _, _, e, _⟩
        all_goals (rcases r with r | ⟨_, r⟩ <;> rw [e] at r <;> cases r)
      have na := fun hp => no _ _ hp z
      rcases z with z | ⟨ob, z⟩
      · exact .inl (by rw [cut_out na]; exact z)
      · exact .inr ⟨ob, by rw [cut_out na]; exact z⟩
    · exact .inr z
  | _ => exact f.elim
theorem ws_setT {X : Cx} {H0 : Hp} {δ δ' : List S} {e : Expr} {pos : Pos} {E : En} (i : Nat) {x : Str} {pos' : Pos} (hN : X.N.Nodup) (hv : Vw δ δ') (h : We X H0 e δ' (fun d => FlatT d ∧ E.nx (δ.set i (.sh d)))) (hi : X.N[i]? = some x := by rfl) (hx : Loc X.env.scope x := by first | exact .inl rfl | exact .inr rfl) (hs : swapsWith e (some (.Name x pos')) pos.line X.env = pure false := by rfl) (hf : X.fn x = true ∨ X.env.scope.names.lookup x = some .local := by exact .inl rfl) :
    Ws X H0 (.Assign [.Name x pos'] e pos) δ E := fun B σ H own hB R => toS (ps_set hN hi hx pe_sem hs hf) ((h.atV hv hB R).mono fun v H' ⟨d, R', i, f, q⟩ => ⟨_, _, R'.setSh (f.is R' i), q⟩)
/-- a block of one statement (elif) -/
theorem Ws.mono {X : Cx} {H0 : Hp} {st : Stmt} {δ : List S} {E E' : En} (h : Ws X H0 st δ E) (nx : ∀ δ, E.nx δ → E'.nx δ) (rt : ∀ δ r, E.rt δ r → E'.rt δ r) (bk : ∀ δ, E.bk δ → E'.bk δ) (ct : ∀ δ, E.ct δ → E'.ct δ) : Ws X H0 st δ E' := fun B σ H own hB R =>
  semS.mono (h B σ H own hB R) (fun σ H ⟨δ, own, R, q⟩ => ⟨δ, own, R, nx _ q⟩) (fun v H ⟨σ, δ, own, r, R, i, q⟩ => ⟨σ, δ, own, r, R, i, rt _ _ q⟩) (fun σ H ⟨δ, own, R, q⟩ => ⟨δ, own, R, bk _ q⟩) (fun σ H ⟨δ, own, R, q⟩ => ⟨δ, own, R, ct _ q⟩)
theorem wb_one {X : Cx} {H0 : Hp} {st : Stmt} {δ : List S} {E : En} (h : Ws X H0 st δ E) : Wb X H0 [st] δ E := wb_cons (h.mono (fun _ q => wb_nil q) (fun _ _ q => q) (fun _ q => q) (fun _ q => q))
end DL
set_option Elab.async false
set_option linter.all false
set_option maxRecDepth 100000
set_option maxHeartbeats 2000000
/-! Part i: a law's head by facts; the end. -/
namespace DL
open PySem PySem.Spec PyProof.Rows L2 He
/-! ### the hook: names, any other facts, defs -/
def obsM (fa : List Fa) (ex : List (PySem.W.Frag → Bool)) (fn : List DefD) (K : PySem.W.Frag) : AlD := (((fa.all fun f => f.ok K) && ex.all fun e => e K) && fn.all fun d => d.ok K, fn.map fun d => fnW K d.at_)
def SaysM (fa : List Fa) (ex : List (PySem.W.Frag → Bool)) (fn : List DefD) (K : PySem.W.Frag) : Prop := obsM fa ex fn K = valD fn
def obsMG (n : Nat) (fa : List Fa) (ex : List (PySem.W.Frag → Bool)) (fn : List DefD) (g : Addr → Option Obj) : AlD := obsM fa ex fn (frG g (asD g n))
def hookM (n : Nat) (fa : List Fa) (ex : List (PySem.W.Frag → Bool)) (fn : List DefD) : PySem.W.Hook :=
  { α := AlD, obs := fun s => obsMG n fa ex fn s.heap.get?, val := fun _ => valD fn, says := fun _ h => ∃ K : PySem.W.Frag, K.In h ∧ SaysM fa ex fn K, of := fun _ _ e => ⟨_, frG_in, e⟩, keeps := fun _ _ _ ⟨K, a, c⟩ k => ⟨K, PySem.W.Frag.In.keeps a k, c⟩ }
theorem obsMG_eq {n : Nat} {fa : List Fa} {ex : List (PySem.W.Frag → Bool)} {fn : List DefD} {g : Addr → Option Obj} {s : Shared} (h : ∀ a, g a = s.heap.get? a) : obsMG n fa ex fn g = (hookM n fa ex fn).obs s := by
  obtain rfl : g = s.heap.get? := funext h
  rfl
section
variable {fa : List Fa} {ex : List (PySem.W.Frag → Bool)} {fn : List DefD} {K : PySem.W.Frag}
theorem SaysM.b (c : SaysM fa ex fn K) : (((fa.all fun f => f.ok K) && ex.all fun e => e K) && fn.all fun d => d.ok K) = true := congrArg Prod.fst c
theorem SaysM.fact (c : SaysM fa ex fn K) (i : Nat) {f : Fa} (h : fa[i]? = some f := by rfl) : f.ok K = true :=
  List.all_eq_true.mp (ba (ba c.b).1).1 f (List.mem_of_getElem? h)
theorem SaysM.glo (c : SaysM fa ex fn K) {f : Fa} (h : f ∈ fa) : f.ok K = true := List.all_eq_true.mp (ba (ba c.b).1).1 f h
theorem SaysM.xt (c : SaysM fa ex fn K) (i : Nat) {f : PySem.W.Frag → Bool} (h : ex[i]? = some f := by rfl) : f K = true :=
  List.all_eq_true.mp (ba (ba c.b).1).2 f (List.mem_of_getElem? h)
theorem SaysM.def_ (c : SaysM fa ex fn K) (i : Nat) {d : DefD} (h : fn[i]? = some d := by rfl) : ∃ fd, FunD K d.name d.qual d.params d.body d.scope (d.dvs K) (d.kws K) (fAd K d.at_) fd := by
  have e : (fn.map fun d => fnW K d.at_) = fn.map DefD.val := congrArg Prod.snd c
  have q : (fn.map fun d => fnW K d.at_)[i]? = (fn.map DefD.val)[i]? := congrArg (·[i]?) e
  rw [List.getElem?_map, List.getElem?_map, h] at q
  exact DefD.funD (Option.some.inj q) (List.all_eq_true.mp (ba c.b).2 d (List.mem_of_getElem? h))
end
/-! ### class facts that can be reckoned -/
/-- C is an exception class with a dict, above it classes of its own and then ValueError -/
def oexB (K : PySem.W.Frag) (C : Addr) : Bool := (match K.lookup C with
  | some ⟨.type ty, _, .cls z, zs⟩ => (match z.mro, zs.toList with
    | .ref B :: up, [_, _, _, _, some (.builtin nw), _] => decide (ty = "type") && (decide (B = C) && (decide (nw = "ValueError.__new__") && (!z.hasDel && (z.hasDict && PySem.HandSPX.refsVE up))))
    | _, _ => false)
  | _ => false) && (eqO (PySem.W.findIn K (.ref C) "__setattr__") (some (some (.builtin "object.__setattr__"))) && (decide (PySem.W.subIn K (.ref C) (.type "BaseException") = some true) && (decide (PySem.W.typeIn K (.ref C) = some (.type "type")) && PySem.W.keepIn K (.ref C))))
theorem oexB_ok {K : PySem.W.Frag} {C : Addr} (h : oexB K C = true) : OexC K C := by
  obtain ⟨h0, h⟩ := ba h
  obtain ⟨h1, h⟩ := ba h
  obtain ⟨h2, h⟩ := ba h
  obtain ⟨h3, h4⟩ := ba h
  refine ⟨?_, eqO_ok h1, of_decide_eq_true h2, of_decide_eq_true h3, h4⟩
  split at h0
  · rename_i ty dd z zs lk
    split at h0
    · rename_i B up k0 k1 k2 k3 nw k5 e1 e2
      obtain ⟨t0, h0⟩ := ba h0
      obtain ⟨t1, h0⟩ := ba h0
      obtain ⟨t2, h0⟩ := ba h0
      obtain ⟨t3, h0⟩ := ba h0
      obtain ⟨t4, t5⟩ := ba h0
      have t0 := of_decide_eq_true t0
      have t1 := of_decide_eq_true t1
      have t2 := of_decide_eq_true t2
      obtain ⟨nm, bs, mro, ns, qn, hd, sn, sub, ab, col, del⟩ := z
      obtain ⟨zs⟩ := zs
      dsimp only at e1 e2 t3 t4
      cases del with
      | true => cases t3
      | false =>
        subst t0 t1 t2 e1 e2 t4
        exact ⟨nm, qn, ns, bs, up, sn, sub, ab, col, dd, k0, k1, k2, k3, k5, lk, t5⟩
    · cases h0
  · cases h0
def excqB (K : PySem.W.Frag) (C : Addr) : Bool := eqO (PySem.W.findIn K (.ref C) "__getattribute__") (some (some (.builtin "BaseException.__getattribute__"))) && (eqO (PySem.W.findIn K (.ref C) "__getattr__") (some none) && (decide (PySem.W.subIn K (.ref C) (.type "BaseException") = some true) && (PySem.W.hasDictIn K C &&
  (eqO (PySem.W.findIn K (.ref C) "__class__") (some (some (.builtin "object.__class__"))) && (eqO (PySem.W.specialIn K (.builtin "object.__class__") "__get__") (some (some (.builtin "getset_descriptor.__get__"))) && (decide (PySem.W.takesIn K (.builtin "object.__class__") = some true) && decide (PySem.W.mroIn K C (.type "object") = some true)))))))
theorem excqB_ok {K : PySem.W.Frag} {C : Addr} (h : excqB K C = true) : ExcQ K C := by
  obtain ⟨h1, h⟩ := ba h
  obtain ⟨h2, h⟩ := ba h
  obtain ⟨h3, h⟩ := ba h
  obtain ⟨h4, h⟩ := ba h
  obtain ⟨h5, h⟩ := ba h
  obtain ⟨h6, h⟩ := ba h
  obtain ⟨h7, h8⟩ := ba h
  exact ⟨eqO_ok h1, eqO_ok h2, of_decide_eq_true h3, h4, eqO_ok h5, eqO_ok h6, of_decide_eq_true h7, of_decide_eq_true h8⟩
/-! ### a def, known -/
section
variable {P : Program} {w : World} {K : PySem.W.Frag} {mg : Str → Option Value} {base : Heap} {lvl : Nat} {f : Addr} {fd : FuncData} {x qual : Str} {params : Arguments} {body : List Stmt} {scope : Scope} {dvs : List V} {kws : List (Str × V)} {ps : List Str} {T : DSp}
theorem mk_fn (F : FunD K x qual params body scope [] kws f fd) (ok : FnOk P w K mg base (L2N.CX P w) lvl f fd ps (spD K T)) (g : mg x = some (.ref f))
    (h : ∀ (kV doc pm : Value) (an : Option Addr) (cdv ct : Value) (us : List Value), us.length = ps.length → bindArgs (PySem.W.fnOf x qual params body scope .none kV doc pm an cdv ct) ⟨us, []⟩ = pure (ps.zip us)) : Fn P w K mg base lvl x ps T [] :=
  ⟨f, fd, [], [], ok, g, F.kp, F.bindsN h, .nil, fun _ => .nil⟩
theorem mk_fc (F : FunD K x qual params body scope [] kws f fd) (ok : FnC P w K mg base lvl f fd ps (spD K T)) (g : mg x = some (.ref f))
    (h : ∀ (kV doc pm : Value) (an : Option Addr) (cdv ct : Value) (us : List Value), us.length = ps.length → bindArgs (PySem.W.fnOf x qual params body scope .none kV doc pm an cdv ct) ⟨us, []⟩ = pure (ps.zip us)) : Fc P w K mg base lvl x ps T :=
  ⟨f, fd, ok, g, F.kp, F.bindsN h⟩
/-- from the j-th default on they fill up -/
theorem mk_fnD {dds : List D} (F : FunD K x qual params body scope dvs kws f fd) (ok : FnOk P w K mg base (L2N.CX P w) lvl f fd ps (spD K T)) (g : mg x = some (.ref f)) (n j : Nat) (hd : dvs ≠ []) (hn : n + (dvs.length - j) = ps.length) (hdd : ∀ G, IsL K G (dvs.drop j) dds)
    (h : ∀ (D : Addr) (kV doc pm : Value) (an : Option Addr) (cdv ct : Value) (us its : List Value), us.length = n → its.length = dvs.length →
      ∃ k, bindArgs (PySem.W.fnOf x qual params body scope (.ref D) kV doc pm an cdv ct) ⟨us, []⟩ = seqItems? (.ref D) >>= k ∧ k (some its.toArray) = pure (ps.zip (us ++ its.drop j))) : Fn P w K mg base lvl x ps T dds := by
  obtain ⟨ds, hv, hb⟩ := F.binds1 (ps := ps) n j hd hn h
  exact ⟨f, fd, ds, dvs.drop j, ok, g, F.kp, hb, hv, hdd⟩
end
/-! ### the law's end -/
theorem cx_none {P : Program} {w : World} {H : Hp} {s : Shared} {e : Value} {s' : Shared} (h : L2N.CX P w [] H s (fun _ _ _ => False) e s') : False := by
  obtain ⟨_, _, _, _, _, _, _, _, _, _, _, _, z⟩ := h
  exact z
theorem law_sp {K : PySem.W.Frag} {T : DSp} {H : Hp} {a : Addr} {ns : List Int} (hT : ∀ kk xx, kk (.sh (.bl true)) → T [.scr ns] kk xx) (hS : SqL K H a (ns.map V.int)) : spD K T [.ref a] H (fun v _ => v = .bl true) fun _ _ _ => False :=
  ⟨[.scr ns], fun r => r = .sh (.bl true), fun _ _ => False, .cons (.scr hS) .nil, hT _ _ rfl, fun v H' r ir er => by subst er; exact ir.2.bl_inv, fun _ _ _ _ _ _ z => z⟩
theorem walk_ofM {l : PySem.W.OpenLaw} {n k : Nat} {q : Program} {loose : List Str} {XP : (Str → Option Value) → Heap → Prop} {YP : World → Heap → Prop} {d : DefRec} {x : Str} {T : DSp} (hn : l.most = some n) (hn2 : n ≤ sizeLine) (hdf : d.params.defaults = []) (hr : Room k callerA) (hT : ∀ ns kk xx, kk (.sh (.bl true)) → T [.scr ns] kk xx)
    (F : ∀ (w : World) (mg : Str → Option Value) (fa : Addr) (h : Heap), YP w h → h.Ns mainGlobals mg → mg d.name = some (.ref fa) → ∃ (K : PySem.W.Frag) (fd : FuncData), K.In h ∧ (∀ (s : Shared) (u : Value), BindsTo s fd ⟨[u], []⟩ [(x, u)]) ∧ ∀ base : Heap, K.In base → base.Ns mainGlobals mg → FnOk l.prog w K mg base (L2N.CX l.prog w) k fa fd [x] (spD K T)) :
    PySem.W.WalkO q loose XP YP l.row.toRowW d [] (fun f vs => PySem.call f vs) := by
  refine Att.attach_call hn hdf fun w s₀ s₁ mg mb fa o pm cd doc a vs ns G Y _ _ _ hmg hobj hi hl hg => ?_
  obtain ⟨K, fd, inK, bd, ok⟩ := F w mg fa _ Y G.T.g hmg
  exact law_call inK G.T.g G.T.b G.T.builtins G.T.nolimit hg hobj hi (Nat.le_trans hl hn2) hr ok bd (fun H _ hS => law_sp (hT ns) hS) fun H e s' z => cx_none z
end DL
set_option Elab.async false
set_option linter.all false
set_option maxRecDepth 100000
set_option maxHeartbeats 0
set_option pp.maxSteps 1500
namespace K00
open PySem PySem.Spec PyProof.Rows L2 DL He
def top (i : Nat) : Stmt := PySem.Challenge.pw_ledbymarks_k02_solved_or_bar.main.body.getD i (.Pass ⟨0, 0, 0, 0⟩)
abbrev s_ratio : Stmt := top 5
abbrev s_row : Stmt := top 7
abbrev s_row_of : Stmt := top 8
abbrev s_lowest : Stmt := top 10
abbrev s_cleared : Stmt := top 11
abbrev s_free_entry : Stmt := top 12
abbrev s_eliminated : Stmt := top 13
abbrev s_bar_of : Stmt := top 15
abbrev s_solved : Stmt := top 16
abbrev s__law_whole : Stmt := top 18
abbrev s__law_cell : Stmt := top 19
abbrev s__law_digits : Stmt := top 20
abbrev s__law_gcd : Stmt := top 21
abbrev s__law_is_row : Stmt := top 22
abbrev s__law_numbers : Stmt := top 23
abbrev s__law_band : Stmt := top 24
abbrev s__law_equations : Stmt := top 25
abbrev s__law_sum : Stmt := top 26
abbrev s__law_planted : Stmt := top 27
abbrev s__law_question : Stmt := top 28
abbrev s__law_right : Stmt := top 29
abbrev s__law_form : Stmt := top 30
abbrev s__law_asked : Stmt := top 31
abbrev s__law_turned : Stmt := top 32
abbrev s__law_changed : Stmt := top 33
abbrev s__law_fields : Stmt := top 34
abbrev s_law : Stmt := top 35
def clsDef (st : Stmt) (i : Nat) : Stmt := match st with
  | .ClassDef _ _ _ b _ _ _ _ _ _ _ => b.getD i (.Pass ⟨0, 0, 0, 0⟩)
  | _ => .Pass ⟨0, 0, 0, 0⟩
def dTop (x : Str) (st : Stmt) (dv : List Dv) : DefD := ⟨(x, none), x, x, defArgs st, defBody st, defScope st, dv, []⟩
abbrev s_Solution___init__ : Stmt := clsDef (top 14) 0
def dC_Solution : DefD := ⟨("Solution", some "__init__"), "__init__", "Solution.__init__", defArgs s_Solution___init__, defBody s_Solution___init__, defScope s_Solution___init__, [], []⟩
def fn : List DefD := [dTop "ratio" (top 5) [.int 1], dTop "row" (top 7) [.int 1], dTop "row_of" (top 8) [], dTop "lowest" (top 10) [], dTop "cleared" (top 11) [], dTop "free_entry" (top 12) [], dTop "eliminated" (top 13) [], dTop "bar_of" (top 15) [], dTop "solved" (top 16) [], dTop "_law_whole" (top 18) [], dTop "_law_cell" (top 19) [], dTop "_law_digits" (top 20) [], dTop "_law_gcd" (top 21) [], dTop "_law_is_row" (top 22) [], dTop "_law_numbers" (top 23) [], dTop "_law_band" (top 24) [], dTop "_law_equations" (top 25) [], dTop "_law_sum" (top 26) [], dTop "_law_planted" (top 27) [], dTop "_law_question" (top 28) [], dTop "_law_right" (top 29) [], dTop "_law_form" (top 30) [], dTop "_law_asked" (top 31) [], dTop "_law_turned" (top 32) [], dTop "_law_changed" (top 33) [], dTop "_law_fields" (top 34) [], dTop "law" (top 35) [], dC_Solution]
def fa : List Fa := [.glo "MarksError", .glo "ZeroBottom", .glo "Solution", .glo "ratio", .glo "row", .glo "row_of", .glo "lowest", .glo "cleared", .glo "free_entry", .glo "eliminated", .glo "bar_of", .glo "solved", .glo "_law_whole", .glo "_law_cell", .glo "_law_digits", .glo "_law_gcd", .glo "_law_is_row", .glo "_law_numbers", .glo "_law_band", .glo "_law_equations", .glo "_law_sum", .glo "_law_planted", .glo "_law_question", .glo "_law_right", .glo "_law_form", .glo "_law_asked", .glo "_law_turned", .glo "_law_changed", .glo "_law_fields", .glo "law", .free "len", .free "range", .free "int", .free "abs", .free "tuple", .free "list", .free "isinstance", .free "bool", .free "sum", .free "min", .free "max", .free "str", .cls "Solution", .mkr "Solution", .noat "Solution" "point", .noat "Solution" "bar"]
def ex : List (PySem.W.Frag → Bool) := [fun K => eqO (PySem.W.nsIn K mainGlobals "gcd") (some (some (.builtin "math.gcd"))),
  fun K => eqO (PySem.W.nsIn K mainGlobals "lcm") (some (some (.builtin "math.lcm"))),
  fun K => eqO (PySem.W.findIn K (.ref (ga K "Solution")) "__class__") (some (some (.builtin "object.__class__"))),
  fun K => eqO (PySem.W.specialIn K (.builtin "object.__class__") "__get__") (some (some (.builtin "getset_descriptor.__get__"))),
  fun K => decide (PySem.W.takesIn K (.builtin "object.__class__") = some true),
  fun K => decide (PySem.W.mroIn K (ga K "Solution") (.type "object") = some true),
  fun K => decide (PySem.W.kitOne K (.ref (ga K "Solution")) (.ref (ga K "Solution")) = some true)]
abbrev R : PySem.W.OpenRow := PySem.W.OpenLaw.row PySem.Challenge.rw_ledbymarks_k02_solved_or_bar
abbrev hk : PySem.W.Hook := hookM 5 fa ex fn
def ob (s : PySem.W.SharedT) : AlD := obsMG 5 fa ex fn (HandSHeadRun.getT s)
theorem ob_eq (s : PySem.W.SharedT) : ob s = hk.obs s.abs := obsMG_eq (HandSHeadRun.getT_eq s)
def loose : List Str := (["MarksError", "ZeroBottom", "ratio", "row", "row_of", "lowest", "cleared", "free_entry", "eliminated", "Solution", "bar_of", "solved", "_law_whole", "_law_cell", "_law_digits", "_law_gcd"] : List Str) ++ (["_law_is_row", "_law_numbers", "_law_band", "_law_equations", "_law_sum", "_law_planted", "_law_question", "_law_right", "_law_form", "_law_asked", "_law_turned", "_law_changed", "_law_fields"] : List Str)
theorem run (w : World) : HandSHeadRun.RunEqI R (PySem.W.view R.prog [0, 35]) hk ob 20000 loose w := by
  unfold HandSHeadRun.RunEqI
  kernel_rfl
end K00
set_option Elab.async false
set_option linter.all false
set_option maxRecDepth 100000
set_option maxHeartbeats 2000000
/-! Part j: list comprehensions of one clause. -/
namespace DL
open PySem PySem.Spec PyProof.Rows L2
section
variable {X : Cx} {H0 : Hp}
/-- in the block's context, whatever it is -/
def bE (X : Cx) (sc : Scope) (e : Expr) : TE := fun σ H Q => ∀ (s : Shared) (h : Hp) (C : Addr) (cl : List (Str × Addr)) (fp : List Addr), semE (X.blk s h sc (compEnvC sc cl C X.env) fp) e σ H Q
def bT (X : Cx) (sc : Scope) (e : Expr) : TT := fun σ H Q => ∀ (s : Shared) (h : Hp) (C : Addr) (cl : List (Str × Addr)) (fp : List Addr), semT (X.blk s h sc (compEnvC sc cl C X.env) fp) e σ H Q
def BWe (X : Cx) (sc : Scope) (H0 : Hp) (e : Expr) (δ : List S) (k : D → Prop) : Prop := ∀ (s : Shared) (h : Hp) (C : Addr) (cl : List (Str × Addr)) (fp : List Addr), We (X.blk s h sc (compEnvC sc cl C X.env) fp) H0 e δ k
def BWt (X : Cx) (sc : Scope) (H0 : Hp) (e : Expr) (δ : List S) (k : Bool → Prop) : Prop := ∀ (s : Shared) (h : Hp) (C : Addr) (cl : List (Str × Addr)) (fp : List Addr), Wt (X.blk s h sc (compEnvC sc cl C X.env) fp) H0 e δ k
/-- owned objects beside it stay as they are -/
def FrE (te : TE) : Prop := ∀ (σ : L2.St) (H : Hp) (ps : List Addr) (Q Q' : VK), (∀ a ∈ ps, OwnAt H ps a) → te σ (cut H ps) Q → (∀ v G, (∀ a ∈ ps, G a = none) → Q v G → Q' v (mrg H ps G)) → te σ H Q'
def FrT (tt : TT) : Prop := ∀ (σ : L2.St) (H : Hp) (ps : List Addr) (Q Q' : Bool → Hp → Prop), (∀ a ∈ ps, OwnAt H ps a) → tt σ (cut H ps) Q → (∀ v G, (∀ a ∈ ps, G a = none) → Q v G → Q' v (mrg H ps G)) → tt σ H Q'
theorem fr_bE {sc : Scope} {e : Expr} : FrE (bE X sc e) := fun σ H ps Q Q' hp h m s h' C cl fp =>
  ((h s h' C cl fp).frame hp).mono fun v H' ⟨G, e, n, q⟩ => by rw [e]; exact m v G n q
theorem fr_bT {sc : Scope} {e : Expr} : FrT (bT X sc e) := fun σ H ps Q Q' hp h m s h' C cl fp =>
  ((h s h' C cl fp).frame hp).mono fun v H' ⟨G, e, n, q⟩ => by rw [e]; exact m v G n q
theorem mrg_cut {H : Hp} {ps : List Addr} : mrg H ps (cut H ps) = H := by
  funext a
  by_cases z : a ∈ ps
  · rw [mrg_in z]
  · rw [mrg_out z, cut_out z]
theorem fr_yes : FrT tYes := fun σ H ps Q Q' hp h m => by
  have h1 := m true (cut H ps) (fun a ha => cut_in ha) h
  rw [mrg_cut] at h1
  exact h1
/-- the whole heap: Hf with its owned objects at ps, the new list at A, the shared rest G -/
def lcH (Hf : Hp) (ps : List Addr) (A : Addr) (as : List V) (G : Hp) : Hp := mrg Hf ps (upd G A (.lst as))
section
variable {Hf G G' : Hp} {ps : List Addr} {A : Addr} {as : List V}
theorem lcH_cut (nA : A ∉ ps) (hA : G A = none) (hp : ∀ a ∈ ps, G a = none) : cut (lcH Hf ps A as G) (A :: ps) = G := by
  funext a
  by_cases e : a = A
  · subst e; rw [cut_in (by simp)]; exact hA.symm
  · by_cases z : a ∈ ps
    · rw [cut_in (by simp [z])]; exact (hp a z).symm
    · rw [cut_out (by simp [z, e])]
      unfold lcH
      rw [mrg_out z, upd_ne e]
theorem lcH_mrg (nA : A ∉ ps) : mrg (lcH Hf ps A as G) (A :: ps) G' = lcH Hf ps A as G' := by
  funext a
  by_cases e : a = A
  · subst e
    rw [mrg_in (by simp)]
    unfold lcH
    rw [mrg_out nA, mrg_out nA, upd_same, upd_same]
  · by_cases z : a ∈ ps
    · rw [mrg_in (by simp [z])]
      unfold lcH
      rw [mrg_in z, mrg_in z]
    · rw [mrg_out (by simp [z, e])]
      unfold lcH
      rw [mrg_out z, upd_ne e]
theorem lcH_at (nA : A ∉ ps) : lcH Hf ps A as G A = some (.lst as) := by
  unfold lcH
  rw [mrg_out nA, upd_same]
theorem lcH_upd (nA : A ∉ ps) {bs : List V} : upd (lcH Hf ps A as G) A (.lst bs) = lcH Hf ps A bs G := by
  funext a
  by_cases e : a = A
  · subst e; rw [upd_same, lcH_at nA]
  · rw [upd_ne e]
    unfold lcH
    by_cases z : a ∈ ps
    · rw [mrg_in z, mrg_in z]
    · rw [mrg_out z, mrg_out z, upd_ne e, upd_ne e]
theorem lcH_own (nA : A ∉ ps) (hp : ∀ a ∈ ps, OwnAt Hf ps a) : ∀ a ∈ A :: ps, OwnAt (lcH Hf ps A as G) (A :: ps) a := fun a ha => by
  have same : ∀ b ∈ ps, lcH Hf ps A as G b = Hf b := fun b hb => mrg_in hb
  rcases List.mem_cons.mp ha with rfl | z
  · exact .inl ⟨as, lcH_at nA⟩
  · rcases hp a z with ⟨xs, e⟩ | ⟨k, e⟩ | ⟨C, dx, fs, e, m⟩ | ⟨x, C, fs, e, m, e2⟩
    · exact .inl ⟨xs, by rw [same a z]; exact e⟩
    · exact .inr (.inl ⟨k, by rw [same a z]; exact e⟩)
    · exact .inr (.inr (.inl ⟨C, dx, fs, by rw [same a z]; exact e, List.mem_cons_of_mem _ m⟩))
    · exact .inr (.inr (.inr ⟨x, C, fs, by rw [same a z]; exact e, List.mem_cons_of_mem _ m, by rw [same x m]; exact e2⟩))
theorem lcH_ex (hA : G A = none) (hp : ∀ a ∈ ps, G a = none) : Ex G (lcH Hf ps A as G) := fun b u q => by
  unfold lcH
  rw [mrg_out (fun z => by rw [hp b z] at q; cases q), upd_ne (ne_of_none q hA)]
  exact q
theorem lcH_start : lcH Hf ps A [] (cut Hf ps) = upd Hf A (.lst []) ∨ A ∈ ps := by
  by_cases nA : A ∈ ps
  · exact .inr nA
  · refine .inl ?_
    funext a
    unfold lcH
    by_cases z : a ∈ ps
    · have e : a ≠ A := fun e => nA (e ▸ z)
      rw [mrg_in z, upd_ne e]
    · rw [mrg_out z]
      by_cases e : a = A
      · subst e; rw [upd_same, upd_same]
      · rw [upd_ne e, upd_ne e, cut_out z]
end
theorem RelS.set {K : PySem.W.Frag} {σ : L2.St} {G : Hp} {δ : List S} {v : V} {d : D} {i : Nat} (R : RelS K H0 σ G δ) (h : Is K G v d) : RelS K H0 (σ.set i (some v)) G (δ.set i (.sh d)) := by
  refine ⟨R.ex, by simp [R.len], fun j d' hj => ?_⟩
  rw [List.getElem?_set] at hj ⊢
  by_cases e : i = j
  · rw [if_pos e] at hj ⊢
    split at hj
    · rename_i hl
      cases hj
      rw [if_pos (by rw [R.len]; exact hl)]
      exact ⟨v, rfl, h⟩
    · cases hj
  · rw [if_neg e] at hj ⊢
    exact R.sh j d' hj
theorem lc_sem {te : TE} {tt : TT} {wv n : Nat} {J : It} {item : Nat → D} {P : Nat → List D → Prop} {σ : L2.St} {Hf : Hp} {ps : List Addr} {δ : List S} {Q : VK} (fe : FrE te) (ft : FrT tt) (hps : ∀ a ∈ ps, OwnAt Hf ps a) (R1 : RelS X.K H0 σ (cut Hf ps) δ)
    (hJ : ∀ i H, Ex (cut Hf ps) H → (i < n → J.go i H ∧ ∀ x H', J.yld i H x H' → H' = H ∧ Is X.K (cut Hf ps) x (item i)) ∧ (n ≤ i → J.stop i H)) (hP : P 0 [])
    (turn : ∀ i es, i < n → P i es → ∀ G σ', Ex (cut Hf ps) G → RelS X.K H0 σ' G (δ.set wv (.sh (item i))) → tt σ' G fun b G' => Ex G G' ∧ (b = true → te σ' G' fun y G'' => Ex G' G'' ∧ ∃ e, Is X.K G'' y e ∧ es.length < 100000 ∧ P (i + 1) (es ++ [e])) ∧ (b = false → P (i + 1) es))
    (done : ∀ A G as es, NewIs X.K (cut Hf ps) (.ref A) (upd G A (.lst as)) (.lst es) → (∀ a ∈ ps, upd G A (.lst as) a = none) → P n es → Q (.ref A) (lcH Hf ps A as G)) : ∀ A, Hf A = none → ∃ W : Nat → Nat → Hp → Prop, (∃ m, W 0 m (upd Hf A (.lst []))) ∧ ∀ i m H, W i m H →
      (J.stop i H ∧ Q (.ref A) H) ∨ (J.go i H ∧ ∃ Nx : Hp → Prop, (∀ H', Nx H' → ∃ m', m' < m ∧ W (i + 1) m' H') ∧ ∀ x H', J.yld i H x H' → gName wv x (wipe σ [wv]) H' fun σ2 H2 => wipe σ2 [wv] = wipe σ [wv] ∧ tt σ2 H2 fun b H3 =>
        if b = true then te σ2 H3 fun y H4 => ∃ acc, H4 A = some (.lst acc) ∧ acc.length < sizeLine ∧ Nx (upd H4 A (.lst (acc ++ [y]))) else Nx H3) := fun A hA => by
  have nA : A ∉ ps := fun z => by
    obtain ⟨u, hu⟩ := (hps A z).some
    rw [hA] at hu; cases hu
  refine ⟨fun i m H => m = n - i ∧ i ≤ n ∧ ∃ (G : Hp) (as : List V) (es : List D), H = lcH Hf ps A as G ∧ (G A = none ∧ ∀ a ∈ ps, G a = none) ∧ Ex (cut Hf ps) G ∧ IsL X.K G as es ∧ P i es, ⟨n, by simp, Nat.zero_le _, cut Hf ps, [], [], ((lcH_start (Hf := Hf)).resolve_right nA).symm, ⟨by rw [cut_out nA]; exact hA, fun a ha => cut_in ha⟩, Same.refl _, .nil, hP⟩, ?_⟩
  rintro i m H ⟨rfl, hi, G, as, es, rfl, ⟨hG, hGp⟩, e1, il, p⟩
  obtain ⟨j1, j2⟩ := hJ i _ (e1.trans (lcH_ex (Hf := Hf) (as := as) hG hGp))
  by_cases hlt : i < n
  · obtain ⟨g1, g2⟩ := j1 hlt
    refine .inr ⟨g1, fun H' => ∃ (G : Hp) (as : List V) (es : List D), H' = lcH Hf ps A as G ∧ (G A = none ∧ ∀ a ∈ ps, G a = none) ∧ Ex (cut Hf ps) G ∧ IsL X.K G as es ∧ P (i + 1) es, fun H' h => ⟨n - (i + 1), by omega, rfl, hlt, h⟩, fun x H' y => ?_⟩
    obtain ⟨rfl, ix⟩ := g2 x H' y
    have w1 : (wipe σ [wv]).set wv (some x) = σ.set wv (some x) := by
      show (σ.set wv none).set wv (some x) = _
      rw [List.set_set]
    show wipe ((wipe σ [wv]).set wv (some x)) [wv] = wipe σ [wv] ∧ tt ((wipe σ [wv]).set wv (some x)) _ _
    rw [w1]
    refine ⟨by show (σ.set wv (some x)).set wv none = σ.set wv none; rw [List.set_set], ?_⟩
    have R2 : RelS X.K H0 (σ.set wv (some x)) G (δ.set wv (.sh (item i))) := RelS.set (R1.mono e1) (ix.mono e1)
    have t1 := turn i es hlt p G _ e1 R2
    rw [← lcH_cut (Hf := Hf) (as := as) nA hG hGp] at t1
    refine ft _ (lcH Hf ps A as G) (A :: ps) _ _ (lcH_own nA hps) t1 fun b G3 n3 ⟨e3, y3, z3⟩ => ?_
    rw [lcH_cut nA hG hGp] at e3
    rw [lcH_mrg nA]
    have nA3 := n3 A (by simp)
    have np3 : ∀ a ∈ ps, G3 a = none := fun a ha => n3 a (List.mem_cons_of_mem _ ha)
    cases b with
    | false => exact ⟨G3, as, es, rfl, ⟨nA3, np3⟩, e1.trans e3, il.mono e3, z3 rfl⟩
    | true =>
      have t3 := y3 rfl
      rw [← lcH_cut (Hf := Hf) (as := as) nA nA3 np3] at t3
      refine fe _ (lcH Hf ps A as G3) (A :: ps) _ _ (lcH_own nA hps) t3 fun y G4 n4 ⟨e4, d, id, hl, hp⟩ => ?_
      rw [lcH_cut nA nA3 np3] at e4
      rw [lcH_mrg nA]
      exact ⟨as, lcH_at nA, Nat.lt_of_lt_of_le (by rw [il.1]; exact hl) (by decide), G4, as ++ [y], es ++ [d], lcH_upd nA, ⟨n4 A (by simp), fun a ha => n4 a (List.mem_cons_of_mem _ ha)⟩, e1.trans (e3.trans e4), (il.mono (e3.trans e4)).snoc id, hp⟩
  · have e : i = n := by omega
    subst e
    refine .inl ⟨j2 (Nat.le_refl _), done A G as es ((NewIs.lst hG il).back e1) (fun a ha => ?_) p⟩
    rw [upd_ne (by intro e; subst e; exact nA ha)]
    exact hGp a ha
end
/-! ### the rules -/
theorem lcH_nil {Hf G : Hp} {A : Addr} {as : List V} : lcH Hf [] A as G = upd G A (.lst as) := by
  funext a
  exact mrg_out (by simp)
theorem jl {K : PySem.W.Frag} {G1 : Hp} {a : Addr} {xs : List V} {ds : List D} (hq : SqL K G1 a xs) (il : IsL K G1 xs ds) : ∀ i H, Ex G1 H → (i < ds.length → (Itl K a).go i H ∧ ∀ x H', (Itl K a).yld i H x H' → H' = H ∧ Is K G1 x (ds.getD i .non)) ∧ (ds.length ≤ i → (Itl K a).stop i H) := fun i H e => by
  have hq' : SqL K H a xs := Ex.sqL e hq
  refine ⟨fun hi => ⟨⟨xs, xs[i]'(by rw [il.1]; exact hi), hq', List.getElem?_eq_getElem _⟩, fun x H' ⟨e2, y⟩ => ⟨e2, ?_⟩⟩, fun hi => ⟨xs, hq', by rw [il.1]; exact hi⟩⟩
  rw [List.getD_eq_getElem?_getD, List.getElem?_eq_getElem hi]
  exact il.2 i x _ (y xs hq') (List.getElem?_eq_getElem hi)
theorem jt {K : PySem.W.Frag} {G1 : Hp} {a : Addr} {xs : List V} {ds : List D} (hq : SqT K G1 a xs) (il : IsL K G1 xs ds) : ∀ i H, Ex G1 H → (i < ds.length → (Itt K a).go i H ∧ ∀ x H', (Itt K a).yld i H x H' → H' = H ∧ Is K G1 x (ds.getD i .non)) ∧ (ds.length ≤ i → (Itt K a).stop i H) := fun i H e => by
  have hq' : SqT K H a xs := Ex.sqT e hq
  refine ⟨fun hi => ⟨⟨xs, xs[i]'(by rw [il.1]; exact hi), hq', List.getElem?_eq_getElem _⟩, fun x H' ⟨e2, y⟩ => ⟨e2, ?_⟩⟩, fun hi => ⟨xs, hq', by rw [il.1]; exact hi⟩⟩
  rw [List.getD_eq_getElem?_getD, List.getElem?_eq_getElem hi]
  exact il.2 i x _ (y xs hq') (List.getElem?_eq_getElem hi)
theorem jr {K : PySem.W.Frag} {G1 : Hp} {lo : Int} {n : Nat} : ∀ i H, Ex G1 H → (i < n → (Itr lo n).go i H ∧ ∀ x H', (Itr lo n).yld i H x H' → H' = H ∧ Is K G1 x (.int (lo + (i : Int)))) ∧ (n ≤ i → (Itr lo n).stop i H) := fun i H e =>
  ⟨fun hi => ⟨hi, fun x H' ⟨e1, e2⟩ => ⟨e1, by rw [e2]; exact .int _⟩⟩, fun hi => hi⟩
/-- results, one for each -/
def Each (R : D → D → Prop) (ds es : List D) : Prop := ds.length = es.length ∧ ∀ (i : Nat) d e, ds[i]? = some d → es[i]? = some e → R d e
theorem Each.map {g : D → D} : ∀ {ds es : List D}, Each (fun d e => e = g d) ds es → es = ds.map g
  | [], [], _ => rfl
  | [], _ :: _, h => by cases h.1
  | _ :: _, [], h => by cases h.1
  | d :: ds, e :: es, h => by
    rw [List.map_cons, ← Each.map (ds := ds) (es := es) ⟨Nat.succ.inj h.1, fun i d e a b => h.2 (i + 1) d e a b⟩, h.2 0 d e rfl rfl]
theorem Each.ints {f : Int → Int} {ns : List Int} {es : List D} (h : Each (fun d e => ∃ n, d = .int n ∧ e = .int (f n)) (ns.map .int) es) : es = (ns.map f).map .int := by
  have h2 : Each (fun d e => e = (match d with | .int n => .int (f n) | _ => .non)) (ns.map .int) es := ⟨h.1, fun i d e a b => by
    obtain ⟨n, rfl, rfl⟩ := h.2 i d e a b
    rfl⟩
  rw [h2.map, List.map_map, List.map_map]
  rfl
/-- results by place -/
def EachN (R : Nat → D → Prop) (n : Nat) (es : List D) : Prop := es.length = n ∧ ∀ (i : Nat) e, es[i]? = some e → R i e
theorem EachN.nil {R : Nat → D → Prop} : EachN R 0 [] := ⟨rfl, fun i e h => by cases h⟩
theorem EachN.snoc {R : Nat → D → Prop} {n : Nat} {es : List D} {e : D} (h : EachN R n es) (he : R n e) : EachN R (n + 1) (es ++ [e]) := by
  refine ⟨by rw [List.length_append, h.1]; rfl, fun i x hx => ?_⟩
  by_cases hi : i < es.length
  · rw [List.getElem?_append_left hi] at hx
    exact h.2 i x hx
  · rw [List.getElem?_append_right (by omega)] at hx
    have e0 : i - es.length = 0 := by
      cases q : i - es.length with
      | zero => rfl
      | succ m => rw [q] at hx; cases hx
    rw [e0] at hx
    cases hx
    have : i = n := by rw [← h.1]; omega
    rw [this]
    exact he
theorem EachN.map {f : Nat → D} {n : Nat} {es : List D} (h : EachN (fun i e => e = f i) n es) : es = (List.range n).map f := by
  refine List.ext_getElem? fun i => ?_
  by_cases hi : i < n
  · rw [List.getElem?_map, List.getElem?_range hi, List.getElem?_eq_getElem (by rw [h.1]; exact hi)]
    exact congrArg some (h.2 i _ (List.getElem?_eq_getElem _))
  · rw [List.getElem?_eq_none (by rw [h.1]; omega), List.getElem?_eq_none (by simp; omega)]
section
variable {X : Cx} {H0 : Hp} {δ : List S} {x : Str} {elt it c e : Expr} {sc : Scope} {pos p pr pc : Pos} {ko : Ow → Prop}
theorem pe_b {elt : Expr} : ∀ (s : Shared) (H : Hp) (C : Addr) (cl : List (Str × Addr)) (fp : List Addr), PE (X.blk s H sc (compEnvC sc cl C X.env) fp) elt (bE X sc elt) := fun s H C cl fp => ⟨fun pins s' σ H' Q I h => (h s H C cl fp).run pins s' I⟩
theorem pt_b {c : Expr} : ∀ (s : Shared) (H : Hp) (C : Addr) (cl : List (Str × Addr)) (fp : List Addr), PTs (X.blk s H sc (compEnvC sc cl C X.env) fp) [c] (bT X sc c) := fun s H C cl fp => pts_one ⟨fun pins s' σ H' Q I h => (h s H C cl fp).run pins s' I⟩
/-- what a turn without a test does -/
theorem turn_no {v n : Nat} {item : Nat → D} {R : Nat → D → Prop} {Hf : Hp} {ps : List Addr} (hl : n ≤ 100000) (h : ∀ i, i < n → BWe X sc H0 elt (δ.set v (.sh (item i))) (R i)) : ∀ i es, i < n → EachN R i es → ∀ G σ', Ex (cut Hf ps) G → RelS X.K H0 σ' G (δ.set v (.sh (item i))) → tYes σ' G fun b G' => Ex G G' ∧ (b = true → bE X sc elt σ' G' fun y G'' => Ex G' G'' ∧ ∃ e, Is X.K G'' y e ∧ es.length < 100000 ∧ EachN R (i + 1) (es ++ [e])) ∧ (b = false → EachN R (i + 1) es) := fun i es hi p G σ' _ R' =>
  ⟨Same.refl _, fun _ s h' C cl fp => (h i hi s h' C cl fp σ' G R').mono fun y G2 ⟨e2, d, id, hd⟩ => ⟨e2, d, id, by rw [p.1]; omega, p.snoc hd⟩, fun z => nomatch z⟩
theorem getD_lt {ds : List D} {i : Nat} (h : i < ds.length) : ds[i]? = some (ds.getD i .non) ∧ ds.getD i .non ∈ ds := by
  rw [List.getD_eq_getElem?_getD, List.getElem?_eq_getElem h]
  exact ⟨rfl, List.getElem_mem h⟩
theorem each_of {R : D → D → Prop} {ds es : List D} (h : EachN (fun i e => R (ds.getD i .non) e) ds.length es) : Each R ds es := ⟨h.1.symm, fun i d e a b => by
  have q : R (ds.getD i .non) e := h.2 i e b
  rw [List.getD_eq_getElem?_getD, a] at q
  exact q⟩
/-! ### what is gone through -/
def FrI (wi : TI) : Prop := ∀ (σ : L2.St) (H : Hp) (ps : List Addr) (R R' : It → Hp → Prop), (∀ a ∈ ps, OwnAt H ps a) → wi σ (cut H ps) R → (∀ J G, (∀ a ∈ ps, G a = none) → R J G → R' J (mrg H ps G)) → wi σ H R'
/-- J goes through n items, at any heap that is not less than G -/
def Goes (K : PySem.W.Frag) (J : It) (n : Nat) (item : Nat → D) (G : Hp) : Prop := ∀ i H, Ex G H → (i < n → J.go i H ∧ ∀ x H', J.yld i H x H' → H' = H ∧ Is K G x (item i)) ∧ (n ≤ i → J.stop i H)
def Wi (X : Cx) (H0 : Hp) (it : Expr) (δ : List S) (k : Nat → (Nat → D) → Prop) : Prop :=
  ∃ wi : TI, (∀ tg, PI X tg it wi) ∧ FrI wi ∧ ∀ σ G, RelS X.K H0 σ G δ → wi σ G fun J G1 => Ex G G1 ∧ ∃ n item, k n item ∧ Goes X.K J n item G1
theorem mrg_exG {H G : Hp} {ps : List Addr} (n : ∀ a ∈ ps, G a = none) : Ex G (mrg H ps G) := fun b u q => by
  rw [mrg_out fun z => by rw [n b z] at q; cases q]
  exact q
theorem wi_sq (l : Bool) {k : Nat → (Nat → D) → Prop} (h : We X H0 it δ (fun y => ∃ ds, y = .sq l ds ∧ k ds.length (fun i => ds.getD i .non))) : Wi X H0 it δ k := by
  cases l with
  | true =>
    refine ⟨_, fun tg => pi_list pe_sem, fun σ H ps R R' hp hw m => ?_, fun σ G R0 => (h σ G R0).mono fun y G1 ⟨e1, d, iv, ds, ed, q⟩ => ?_⟩
    · exact (semE.frame hp hw).mono fun v H' ⟨G, e, n, a, ea, ⟨xs, hq⟩, q⟩ => ⟨a, ea, ⟨xs, by rw [e]; exact Ex.sqL (mrg_exG n) hq⟩, by rw [e]; exact m _ G n q⟩
    · subst ed
      obtain ⟨a, xs, rfl, hq, il⟩ := iv.lst_inv
      exact ⟨a, rfl, ⟨xs, .inl hq⟩, e1, _, _, q, jl (.inl hq) il⟩
  | false =>
    refine ⟨_, fun tg => pi_tup pe_sem, fun σ H ps R R' hp hw m => ?_, fun σ G R0 => (h σ G R0).mono fun y G1 ⟨e1, d, iv, ds, ed, q⟩ => ?_⟩
    · exact (semE.frame hp hw).mono fun v H' ⟨G, e, n, a, ea, ⟨xs, hq⟩, q⟩ => ⟨a, ea, ⟨xs, by rw [e]; exact Ex.sqT (mrg_exG n) hq⟩, by rw [e]; exact m _ G n q⟩
    · subst ed
      obtain ⟨a, xs, rfl, hq, il⟩ := iv.tup_inv
      exact ⟨a, rfl, ⟨xs, hq⟩, e1, _, _, q, jt hq il⟩
theorem wi_rng (hm : X.mg "range" = none) {k : Nat → (Nat → D) → Prop} (h : Wa X H0 [e] δ (fun ds => A1 ds fun y => I1 y fun n => (-(2 ^ 62) ≤ n ∧ n < 2 ^ 62) ∧ k n.toNat (fun i => .int (i : Int))))
    (hgr : Gl X "range" := by rfl) (hs1 : notStar e = true := by rfl) : Wi X H0 (.Call (.Name "range" pr) [e] [] pc) δ k := by
  refine ⟨_, fun tg => pi_range1 hgr hm pa_sem (star_of hs1), fun σ H ps R R' hp hw m => ?_, fun σ G R0 => (h σ G R0).mono fun vs G1 ⟨e1, ds, is, y, ed, n, ey, bb, q⟩ => ?_⟩
  · exact (semA.frame hp hw).mono fun v H' ⟨G, e, n, j, ej, b1, b2, q⟩ => ⟨j, ej, b1, b2, by rw [e]; exact m _ G n q⟩
  · subst ed ey
    obtain ⟨w, rfl, iw⟩ := is.one
    cases iw
    have g : Goes X.K (Itr 0 n.toNat) n.toNat (fun i => .int (0 + (i : Int))) G1 := jr
    refine ⟨n, rfl, bb.1, bb.2, e1, _, _, q, ?_⟩
    have e0 : (fun i : Nat => D.int (0 + (i : Int))) = fun i : Nat => D.int (i : Int) := by funext i; rw [Int.zero_add]
    rw [← e0]
    exact g
theorem wi_rng2 {e2 : Expr} (hm : X.mg "range" = none) {k : Nat → (Nat → D) → Prop} (h : Wa X H0 [e, e2] δ (fun ds => A2 ds fun x y => I2 x y fun m n => (-(2 ^ 62) ≤ m ∧ m < 2 ^ 62 ∧ -(2 ^ 62) ≤ n ∧ n < 2 ^ 62) ∧ k (n - m).toNat (fun i => .int (m + (i : Int)))))
    (hgr : Gl X "range" := by rfl) (hs1 : notStar e = true := by rfl) (hs2 : notStar e2 = true := by rfl) : Wi X H0 (.Call (.Name "range" pr) [e, e2] [] pc) δ k := by
  refine ⟨_, fun tg => pi_range2 hgr hm pa_sem ((star_of hs1).trans (congrArg _ (star_of hs2))) (star_of hs2), fun σ H ps R R' hp hw m => ?_, fun σ G R0 => (h σ G R0).mono fun vs G1 ⟨e1, ds, is, x, y, ed, m, n, ex, ey, bb, q⟩ => ?_⟩
  · exact (semA.frame hp hw).mono fun v H' ⟨G, e, n, j, i, ej, b1, q⟩ => ⟨j, i, ej, b1, by rw [e]; exact m _ G n q⟩
  · subst ed ex ey
    obtain ⟨v, w, rfl, i, j⟩ := is.two
    cases i
    cases j
    exact ⟨m, n, rfl, bb, e1, _, _, q, jr⟩
/-! ### the comprehension -/
/-- what its turns do -/
def LC (X : Cx) (sc : Scope) (H0 : Hp) (elt : Expr) (δ : List S) (v : Nat) (ko : List D → Prop) (n : Nat) (item : Nat → D) : Prop := ∃ R : Nat → D → Prop, n ≤ 100000 ∧ (∀ i, i < n → BWe X sc H0 elt (δ.set v (.sh (item i))) (R i)) ∧ ∀ es, EachN R n es → ko es
theorem lcS {v : Nat} {ko : List D → Prop} {ds : List D} (R : D → D → Prop) (hl : ds.length ≤ 100000) (h : ∀ d ∈ ds, BWe X sc H0 elt (δ.set v (.sh d)) (R d)) (q : ∀ es, Each R ds es → ko es) : LC X sc H0 elt δ v ko ds.length (fun i => ds.getD i .non) :=
  ⟨fun i e => R (ds.getD i .non) e, hl, fun i hi => h _ (getD_lt hi).2, fun es p => q es (each_of p)⟩
theorem lcM {v : Nat} {ko : List D → Prop} {ds : List D} (g : D → D) (hl : ds.length ≤ 100000) (h : ∀ d ∈ ds, BWe X sc H0 elt (δ.set v (.sh d)) (fun e => e = g d)) (q : ko (ds.map g)) : LC X sc H0 elt δ v ko ds.length (fun i => ds.getD i .non) :=
  lcS (fun d e => e = g d) hl h fun es p => by rw [p.map]; exact q
/-- over ints, made of each -/
theorem lcI {v : Nat} {ko : List D → Prop} {ns : List Int} (g : Int → D) (hl : ns.length ≤ 100000) (h : ∀ n ∈ ns, BWe X sc H0 elt (δ.set v (.sh (.int n))) (fun e => e = g n)) (q : ko (ns.map g)) : LC X sc H0 elt δ v ko (ns.map D.int).length (fun i => (ns.map D.int).getD i .non) :=
  lcM (fun d => match d with | .int n => g n | _ => .non) (by rw [List.length_map]; exact hl) (fun d hd => by
    obtain ⟨n, hn, rfl⟩ := List.mem_map.mp hd
    exact h n hn) (by rw [List.map_map]; exact q)
theorem lcR {v n : Nat} {ko : List D → Prop} (R : Nat → D → Prop) (hl : n ≤ 100000) (h : ∀ i, i < n → BWe X sc H0 elt (δ.set v (.sh (.int (i : Int)))) (R i)) (q : ∀ es, EachN R n es → ko es) : LC X sc H0 elt δ v ko n (fun i => .int (i : Int)) := ⟨R, hl, h, q⟩
theorem lcRM {v n : Nat} {ko : List D → Prop} (g : Nat → D) (hl : n ≤ 100000) (h : ∀ i, i < n → BWe X sc H0 elt (δ.set v (.sh (.int (i : Int)))) (fun e => e = g i)) (q : ko ((List.range n).map g)) : LC X sc H0 elt δ v ko n (fun i => .int (i : Int)) :=
  ⟨_, hl, h, fun es p => by rw [EachN.map p]; exact q⟩
/-- with a test -/
def LCF (X : Cx) (sc : Scope) (H0 : Hp) (c elt : Expr) (δ : List S) (v : Nat) (ko : List D → Prop) (n : Nat) (item : Nat → D) : Prop := ∃ (t : D → Bool) (g : D → D), n ≤ 100000 ∧ (∀ i, i < n → BWt X sc H0 c (δ.set v (.sh (item i))) (fun b => b = t (item i) ∧ (b = true → BWe X sc H0 elt (δ.set v (.sh (item i))) (fun e => e = g (item i))))) ∧ ko ((((List.range n).map item).filter t).map g)
theorem range_getD (ds : List D) : (List.range ds.length).map (fun i => ds.getD i .non) = ds := by
  refine List.ext_getElem? fun i => ?_
  by_cases hi : i < ds.length
  · rw [List.getElem?_map, List.getElem?_range hi, (getD_lt hi).1]; rfl
  · rw [List.getElem?_eq_none (by simp; omega), List.getElem?_eq_none (by omega)]
theorem lcf {v : Nat} {ko : List D → Prop} {ds : List D} (t : D → Bool) (g : D → D) (hl : ds.length ≤ 100000) (h : ∀ d ∈ ds, BWt X sc H0 c (δ.set v (.sh d)) (fun b => b = t d ∧ (b = true → BWe X sc H0 elt (δ.set v (.sh d)) (fun e => e = g d)))) (q : ko ((ds.filter t).map g)) : LCF X sc H0 c elt δ v ko ds.length (fun i => ds.getD i .non) :=
  ⟨t, g, hl, fun i hi => h _ (getD_lt hi).2, by rw [range_getD]; exact q⟩
theorem turn_f {v n : Nat} {item : Nat → D} {t : D → Bool} {g : D → D} {Hf : Hp} {ps : List Addr} (hl : n ≤ 100000) (h : ∀ i, i < n → BWt X sc H0 c (δ.set v (.sh (item i))) (fun b => b = t (item i) ∧ (b = true → BWe X sc H0 elt (δ.set v (.sh (item i))) (fun e => e = g (item i))))) : ∀ i es, i < n → es = (((List.range i).map item).filter t).map g → ∀ G σ', Ex (cut Hf ps) G → RelS X.K H0 σ' G (δ.set v (.sh (item i))) →
    bT X sc c σ' G fun b G' => Ex G G' ∧ (b = true → bE X sc elt σ' G' fun y G'' => Ex G' G'' ∧ ∃ e, Is X.K G'' y e ∧ es.length < 100000 ∧ es ++ [e] = (((List.range (i + 1)).map item).filter t).map g) ∧ (b = false → es = (((List.range (i + 1)).map item).filter t).map g) := fun i es hi p G σ' _ R' s h' C cl fp => (h i hi s h' C cl fp σ' G R').mono fun b G1 ⟨e1, eb, q⟩ => by
  have step : (((List.range (i + 1)).map item).filter t).map g = es ++ (if t (item i) then [g (item i)] else []) := by
    rw [List.range_succ, List.map_append, List.filter_append, List.map_append, ← p]
    congr 1
    show ((List.filter t [item i]).map g) = _
    rw [List.filter_cons]
    split <;> rfl
  have hlen : es.length < 100000 := by
    have l1 := List.length_filter_le t ((List.range i).map item)
    rw [p, List.length_map]
    simp only [List.length_map, List.length_range] at l1
    omega
  refine ⟨e1, fun hb s2 h2 C2 cl2 fp2 => ?_, fun hb => ?_⟩
  · refine (q hb s2 h2 C2 cl2 fp2 σ' G1 (R'.mono e1)).mono fun y G2 ⟨e2, d, id, hd⟩ => ⟨e2, d, id, hlen, ?_⟩
    rw [step, ← eb, hb, hd, if_pos rfl]
  · rw [step, ← eb, hb, if_neg Bool.false_ne_true, List.append_nil]
/-- the block's scope fits -/
def blkB (N : List Str) (s1 s2 : Scope) (x : Str) (v : Nat) : Bool := decide (s2.kind = .function) && (s2.names.all (fun y => decide (s2.names.lookup y.1 = some y.2)) && (decide (N[v]? = some x) && (s2.names.all (fun y => decide (y.2 ≠ .free) || (decide (s1.names.lookup y.1 = some .cell) || decide (s1.names.lookup y.1 = some .free))) && s2.names.all (fun y => (decide (y.2 ≠ .local) && decide (y.2 ≠ .cell)) || (decide (y.1 = x) || decide (y.1 ∉ N))))))
theorem blkB_ok {N : List Str} {s1 s2 : Scope} {x : Str} {v : Nat} (h : blkB N s1 s2 x v = true) : BlkOk N s1 s2 [(x, v)] := by
  simp only [blkB, Bool.and_eq_true, List.all_eq_true, decide_eq_true_eq, Bool.or_eq_true] at h
  obtain ⟨h1, h2, h3, h4, h5⟩ := h
  refine ⟨h1, fun y hy => h2 y hy, fun p hp => ?_, fun y hy e => ?_, fun y hy e => ?_⟩
  · obtain rfl : p = (x, v) := by simpa using hp
    exact h3
  · rcases h4 y hy with z | z
    · exact absurd e z
    · exact z
  · rcases h5 y hy with ⟨z1, z2⟩ | z | z
    · rcases e with e | e
      · exact absurd e z1
      · exact absurd e z2
    · exact .inl (by simp [z])
    · exact .inr z
theorem fri_mono {wi : TI} (f : FrI wi) {σ : L2.St} {H : Hp} {R R' : It → Hp → Prop} (h : wi σ H R) (m : ∀ J G, R J G → R' J G) : wi σ H R' := f σ H [] R R' (fun a ha => by cases ha) (by rw [cut_nil]; exact h) fun J G _ q => by
  have e : mrg H [] G = G := by funext a; exact mrg_out (by simp)
  rw [e]
  exact m J G q
abbrev PGB (X : Cx) (sc : Scope) (x : Str) (p : Pos) (v : Nat) : Prop := ∀ (s : Shared) (H : Hp) (C : Addr) (cl : List (Str × Addr)) (fp : List Addr), PG (X.blk s H sc (compEnvC sc cl C X.env) fp) (.Name x p) (gName v)
theorem pgb {v : Nat} (hN : X.N.Nodup) (hi : X.N[v]? = some x) (hl : ∀ cl C, (compEnvC sc cl C X.env).scope.names.lookup x = some .local) : PGB X sc x p v := fun s H C cl fp => pg_name hN hi (.inl (hl cl C)) (.inr (hl cl C))
theorem wo_lc (v : Nat) (hN : X.N.Nodup) (h : Wi X H0 it δ (LC X sc H0 elt δ v fun es => ko (.lst es))) (hc : X.calm = true := by rfl) (ok : blkB X.N X.env.scope sc x v = true := by kernel_rfl) (hi : X.N[v]? = some x := by rfl) (hl : ∀ cl C, (compEnvC sc cl C X.env).scope.names.lookup x = some .local := by intro _ _; rfl)
    (hs : ∀ x, foldedSetIterable it X.env x = pure x := by intro _; rfl) : Wo X H0 (.ListComp elt [⟨.Name x p, it, [], 0⟩] sc pos) δ ko := fun σ G R0 => by
  obtain ⟨wi, hpi, fri, hw⟩ := h
  refine toE (pe_lc hc hN (hpi _) (blkB_ok ok) (pgb hN hi hl) (fun _ _ _ _ _ => pts_nil) pe_b hs) (fri_mono fri (hw σ G R0) fun J G1 ⟨e1, n, item, ⟨R, hl, hw, q⟩, g⟩ => ?_)
  refine lc_sem (X := X) (H0 := H0) (ps := []) (n := n) (wv := v) (item := item) (P := EachN R) (Q := fun v' G' => ∃ o, NewIs X.K G v' G' o ∧ ko o) fr_bE fr_yes (fun a ha => by cases ha) (by rw [cut_nil]; exact R0.mono e1) (by rw [cut_nil]; exact g) EachN.nil (turn_no hl hw) fun A G' as es N _ p => ?_
  rw [lcH_nil]
  rw [cut_nil] at N
  exact ⟨_, N.back e1, q es p⟩
theorem wo_lcf (v : Nat) (hN : X.N.Nodup) (h : Wi X H0 it δ (LCF X sc H0 c elt δ v fun es => ko (.lst es))) (hc : X.calm = true := by rfl) (ok : blkB X.N X.env.scope sc x v = true := by kernel_rfl) (hi : X.N[v]? = some x := by rfl) (hl : ∀ cl C, (compEnvC sc cl C X.env).scope.names.lookup x = some .local := by intro _ _; rfl)
    (hs : ∀ x, foldedSetIterable it X.env x = pure x := by intro _; rfl) : Wo X H0 (.ListComp elt [⟨.Name x p, it, [c], 0⟩] sc pos) δ ko := fun σ G R0 => by
  obtain ⟨wi, hpi, fri, hw⟩ := h
  refine toE (pe_lc hc hN (hpi _) (blkB_ok ok) (pgb hN hi hl) pt_b pe_b hs) (fri_mono fri (hw σ G R0) fun J G1 ⟨e1, n, item, ⟨t, g2, hl, hw, q⟩, g⟩ => ?_)
  refine lc_sem (X := X) (H0 := H0) (ps := []) (n := n) (wv := v) (item := item) (P := fun i es => es = (((List.range i).map item).filter t).map g2) (Q := fun v' G' => ∃ o, NewIs X.K G v' G' o ∧ ko o) fr_bE fr_bT (fun a ha => by cases ha) (by rw [cut_nil]; exact R0.mono e1) (by rw [cut_nil]; exact g) rfl (turn_f hl hw) fun A G' as es N _ p => ?_
  rw [lcH_nil]
  rw [cut_nil] at N
  exact ⟨_, N.back e1, by rw [p]; exact q⟩
/-! ### y = [..] on one line -/
theorem Vw.borAt : ∀ {δ : List S} {i : Nat} {o : Ow}, δ[i]? = some (.ow o) → Vw δ (δ.set i (.sh o.d))
  | [], _, _, h => by cases h
  | s :: r, 0, o, h => by cases h; exact .bor (Vw.refl r)
  | s :: r, i + 1, o, h => .keep (Vw.borAt (i := i) h)
theorem set_lc {te : TE} {tt : TT} {wi : TI} {i v : Nat} {P : Nat → (Nat → D) → Nat → List D → Prop} {k : Nat → (Nat → D) → Prop} {B H : Hp} {σ : L2.St} {own : List (List Addr)} {E : En} (fe : FrE te) (ft : FrT tt) (fri : FrI wi) (hB : Ex H0 B) (R : Rel X.K B σ H δ own)
    (hw : ∀ σ G, RelS X.K H0 σ G δ → wi σ G fun J G1 => Ex G G1 ∧ ∃ n item, k n item ∧ Goes X.K J n item G1) (hP : ∀ n item, k n item → P n item 0 [])
    (turn : ∀ n item (Hf : Hp) (ps : List Addr), k n item → ∀ i es, i < n → P n item i es → ∀ G σ', Ex (cut Hf ps) G → RelS X.K H0 σ' G (δ.set v (.sh (item i))) → tt σ' G fun b G' => Ex G G' ∧ (b = true → te σ' G' fun y G'' => Ex G' G'' ∧ ∃ e, Is X.K G'' y e ∧ es.length < 100000 ∧ P n item (i + 1) (es ++ [e])) ∧ (b = false → P n item (i + 1) es))
    (done : ∀ n item es, k n item → P n item n es → E.nx (δ.set i (.ow (.lst es)))) : tLc wi (gName v) tt te [v] σ H (fun x H1 => gName i x σ H1 (toEnds X.K B E).nx) := by
  refine fri σ H own.flatten _ _ R.owned (hw σ _ (R.toS.weak hB)) fun J G1 n1 ⟨e1, n, item, kk, g⟩ => ?_
  have R1 : Rel X.K B σ (mrg H own.flatten G1) δ own := R.step e1 n1
  have ec : cut (mrg H own.flatten G1) own.flatten = G1 := by
    funext a
    by_cases z : a ∈ own.flatten
    · rw [cut_in z, n1 a z]
    · rw [cut_out z, mrg_out z]
  refine lc_sem (X := X) (H0 := H0) (δ := δ) (ps := own.flatten) (n := n) (wv := v) (item := item) (P := P n item) (Q := fun x H1 => gName i x σ H1 (toEnds X.K B E).nx) fe ft R1.owned (R1.toS.weak hB) (by rw [ec]; exact g) (hP n item kk) (turn n item _ _ kk) fun A G as es N np p => ?_
  obtain ⟨l, hl, fr, ee, nd⟩ := N
  exact ⟨_, _, R1.setOw ee np nd hl, done n item es kk p⟩
theorem ws_setLcO (i v : Nat) {y : Str} {py spos : Pos} {E : En} (hN : X.N.Nodup) (h : Wi X H0 it δ (LC X sc H0 elt δ v fun es => E.nx (δ.set i (.ow (.lst es))))) (hc : X.calm = true := by rfl) (ok : blkB X.N X.env.scope sc x v = true := by kernel_rfl) (hi : X.N[v]? = some x := by rfl) (hl : ∀ cl C, (compEnvC sc cl C X.env).scope.names.lookup x = some .local := by intro _ _; rfl)
    (hy : X.N[i]? = some y := by rfl) (hyl : X.env.scope.names.lookup y = some .local := by rfl) (hsw : swapsWith (.ListComp elt [⟨.Name x p, it, [], 0⟩] sc pos) (some (.Name y py)) spos.line X.env = pure true := by rfl) (hs : ∀ x, foldedSetIterable it X.env x = pure x := by intro _; rfl) :
    Ws X H0 (.Assign [.Name y py] (.ListComp elt [⟨.Name x p, it, [], 0⟩] sc pos) spos) δ E := fun B σ H own hB R => by
  obtain ⟨wi, hpi, fri, hw⟩ := h
  refine toS (ps_setLc hc hN hy hyl hsw (hpi _) (blkB_ok ok) (pgb hN hi hl) (fun _ _ _ _ _ => pts_nil) pe_b hs) ?_
  exact set_lc (P := fun n item j es => ∃ R : Nat → D → Prop, n ≤ 100000 ∧ (∀ i, i < n → BWe X sc H0 elt (δ.set v (.sh (item i))) (R i)) ∧ (∀ es, EachN R n es → E.nx (δ.set i (.ow (.lst es)))) ∧ EachN R j es) fr_bE fr_yes fri hB R hw (fun n item ⟨R, a, b, c⟩ => ⟨R, a, b, c, EachN.nil⟩)
    (fun n item Hf ps _ i es hi ⟨R, a, b, c, q⟩ G σ' e R' => ⟨Same.refl _, fun _ s h' C cl fp => (b i hi s h' C cl fp σ' G R').mono fun y G2 ⟨e2, d, id, hd⟩ => ⟨e2, d, id, by rw [q.1]; omega, R, a, b, c, q.snoc hd⟩, fun z => nomatch z⟩) fun n item es _ ⟨R, a, b, c, q⟩ => c es q
theorem ws_setLcfO (i v : Nat) {y : Str} {py spos : Pos} {E : En} (hN : X.N.Nodup) (h : Wi X H0 it δ (LCF X sc H0 c elt δ v fun es => E.nx (δ.set i (.ow (.lst es))))) (hc : X.calm = true := by rfl) (ok : blkB X.N X.env.scope sc x v = true := by kernel_rfl) (hi : X.N[v]? = some x := by rfl) (hl : ∀ cl C, (compEnvC sc cl C X.env).scope.names.lookup x = some .local := by intro _ _; rfl)
    (hy : X.N[i]? = some y := by rfl) (hyl : X.env.scope.names.lookup y = some .local := by rfl) (hsw : swapsWith (.ListComp elt [⟨.Name x p, it, [c], 0⟩] sc pos) (some (.Name y py)) spos.line X.env = pure true := by rfl) (hs : ∀ x, foldedSetIterable it X.env x = pure x := by intro _; rfl) :
    Ws X H0 (.Assign [.Name y py] (.ListComp elt [⟨.Name x p, it, [c], 0⟩] sc pos) spos) δ E := fun B σ H own hB R => by
  obtain ⟨wi, hpi, fri, hw⟩ := h
  refine toS (ps_setLc hc hN hy hyl hsw (hpi _) (blkB_ok ok) (pgb hN hi hl) pt_b pe_b hs) ?_
  exact set_lc (P := fun n item j es => ∃ (t : D → Bool) (g : D → D), n ≤ 100000 ∧ (∀ i, i < n → BWt X sc H0 c (δ.set v (.sh (item i))) (fun b => b = t (item i) ∧ (b = true → BWe X sc H0 elt (δ.set v (.sh (item i))) (fun e => e = g (item i))))) ∧ E.nx (δ.set i (.ow (.lst ((((List.range n).map item).filter t).map g)))) ∧ es = (((List.range j).map item).filter t).map g) fr_bE fr_bT fri hB R hw (fun n item ⟨t, g, a, b, c⟩ => ⟨t, g, a, b, c, rfl⟩)
    (fun n item Hf ps _ i es hi ⟨t, g, a, b, c, q⟩ G σ' e R' s h' C cl fp => (turn_f (Hf := Hf) (ps := ps) a b i es hi q G σ' e R' s h' C cl fp).mono fun bb G1 ⟨e1, y1, z1⟩ => ⟨e1, fun hb s2 h2 C2 cl2 fp2 => (y1 hb s2 h2 C2 cl2 fp2).mono fun y G2 ⟨e2, d, id, hd, he⟩ => ⟨e2, d, id, hd, t, g, a, b, c, he⟩, fun hb => ⟨t, g, a, b, c, z1 hb⟩⟩) fun n item es _ ⟨t, g, a, b, c, q⟩ => by rw [q]; exact c
/-- a view behind a statement -/
theorem ws_post {st : Stmt} {E : En} (h : Ws X H0 st δ { E with nx := fun δ' => ∃ δ'', Vw δ' δ'' ∧ E.nx δ'' }) : Ws X H0 st δ E := fun B σ H own hB R =>
  semS.mono (h B σ H own hB R) (fun σ H ⟨δ', own, R, δ'', v, q⟩ => ⟨δ'', _, (R.view v).1, q⟩) (fun _ _ q => q) (fun _ _ q => q) (fun _ _ q => q)
theorem vw_set {i : Nat} {o : Ow} : Vw (δ.set i (.ow o)) (δ.set i (.sh o.d)) := by
  by_cases hi : i < δ.length
  · have h := Vw.borAt (δ := δ.set i (.ow o)) (i := i) (o := o) (by rw [List.getElem?_set_self hi])
    rw [List.set_set] at h
    exact h
  · rw [List.set_eq_of_length_le (by omega), List.set_eq_of_length_le (by omega)]
    exact Vw.refl _
theorem Wi.mono {k k' : Nat → (Nat → D) → Prop} (h : Wi X H0 it δ k) (m : ∀ n item, k n item → k' n item) : Wi X H0 it δ k' := by
  obtain ⟨wi, a, b, hw⟩ := h
  exact ⟨wi, a, b, fun σ G R => fri_mono b (hw σ G R) fun J G1 ⟨e1, n, item, q, g⟩ => ⟨e1, n, item, m _ _ q, g⟩⟩
/-- the new list read from now on, not written -/
theorem ws_setLc (i v : Nat) {y : Str} {py spos : Pos} {E : En} (hN : X.N.Nodup) (h : Wi X H0 it δ (LC X sc H0 elt δ v fun es => E.nx (δ.set i (.sh (.sq true es))))) (hc : X.calm = true := by rfl) (ok : blkB X.N X.env.scope sc x v = true := by kernel_rfl) (hi : X.N[v]? = some x := by rfl) (hl : ∀ cl C, (compEnvC sc cl C X.env).scope.names.lookup x = some .local := by intro _ _; rfl)
    (hy : X.N[i]? = some y := by rfl) (hyl : X.env.scope.names.lookup y = some .local := by rfl) (hsw : swapsWith (.ListComp elt [⟨.Name x p, it, [], 0⟩] sc pos) (some (.Name y py)) spos.line X.env = pure true := by rfl) (hs : ∀ x, foldedSetIterable it X.env x = pure x := by intro _; rfl) :
    Ws X H0 (.Assign [.Name y py] (.ListComp elt [⟨.Name x p, it, [], 0⟩] sc pos) spos) δ E :=
  ws_post (ws_setLcO i v hN (h.mono fun n item ⟨R, a, b, c⟩ => ⟨R, a, b, fun es p => ⟨_, vw_set, c es p⟩⟩) hc ok hi hl hy hyl hsw hs)
theorem ws_setLcf (i v : Nat) {y : Str} {py spos : Pos} {E : En} (hN : X.N.Nodup) (h : Wi X H0 it δ (LCF X sc H0 c elt δ v fun es => E.nx (δ.set i (.sh (.sq true es))))) (hc : X.calm = true := by rfl) (ok : blkB X.N X.env.scope sc x v = true := by kernel_rfl) (hi : X.N[v]? = some x := by rfl) (hl : ∀ cl C, (compEnvC sc cl C X.env).scope.names.lookup x = some .local := by intro _ _; rfl)
    (hy : X.N[i]? = some y := by rfl) (hyl : X.env.scope.names.lookup y = some .local := by rfl) (hsw : swapsWith (.ListComp elt [⟨.Name x p, it, [c], 0⟩] sc pos) (some (.Name y py)) spos.line X.env = pure true := by rfl) (hs : ∀ x, foldedSetIterable it X.env x = pure x := by intro _; rfl) :
    Ws X H0 (.Assign [.Name y py] (.ListComp elt [⟨.Name x p, it, [c], 0⟩] sc pos) spos) δ E :=
  ws_post (ws_setLcfO i v hN (h.mono fun n item ⟨t, g, a, b, c⟩ => ⟨t, g, a, b, _, vw_set, c⟩) hc ok hi hl hy hyl hsw hs)
end

end DL
set_option Elab.async false
set_option linter.all false
set_option maxRecDepth 100000
set_option maxHeartbeats 2000000
set_option exponentiation.threshold 50000
/-! Part k: lcm, sum, max and min of two. -/
namespace DL
open PySem PySem.Spec PyProof.Rows L2
section
variable {X : Cx} {H0 : Hp} {δ : List S} {e e2 : Expr} {es : List Expr} {k : D → Prop} {pos p : Pos}
theorem log_le {n m : Nat} (h : n < 2 ^ m) (hm : 0 < m) : n.log2 < m := PySem.Flt.log2_lt_of hm (Nat.lt_of_lt_of_le h (Nat.pow_le_pow_right (by decide) (Nat.le_refl _)))
theorem cr_lcm : CallR X (.builtin "math.lcm") (fun vs H Q => ∃ a b : Int, vs = [.int a, .int b] ∧ a.natAbs < 2 ^ 13000 ∧ b.natAbs < 2 ^ 13000 ∧ Q (.int ((Nat.lcm a.natAbs b.natAbs : Nat) : Int)) H) := by
  intro pins s σ H vs us Q I r h
  obtain ⟨a, b, rfl, ha, hb, q⟩ := h
  obtain ⟨t, u, rfl⟩ := Vals.int2 r
  have e1 : Nat.lcm 1 a.natAbs = a.natAbs := Nat.lcm_one_left _
  have l1 : (max 1 a.natAbs).log2 < 13000 := log_le (by have : 1 < 2 ^ 13000 := Nat.one_lt_two_pow (by decide); omega) (by decide)
  have l2 : (max a.natAbs b.natAbs).log2 < 13000 := log_le (by omega) (by decide)
  have l3 : (a.natAbs.lcm b.natAbs).log2 < 26000 := by
    refine log_le ?_ (by decide)
    by_cases z : a.natAbs = 0 ∨ b.natAbs = 0
    · have : a.natAbs.lcm b.natAbs = 0 := by rcases z with z | z <;> rw [z] <;> simp [Nat.lcm]
      rw [this]; exact Nat.pow_pos (by decide)
    · have h1 : a.natAbs.lcm b.natAbs ≤ a.natAbs * b.natAbs := Nat.le_of_dvd (Nat.mul_pos (by omega) (by omega)) (Nat.lcm_dvd (Nat.dvd_mul_right _ _) (Nat.dvd_mul_left _ _))
      have h2 : a.natAbs * b.natAbs < 2 ^ 13000 * 2 ^ 13000 := Nat.mul_lt_mul'' ha hb
      rw [← Nat.pow_add] at h2
      exact Nat.lt_of_le_of_lt h1 h2
  have g := PySem.W.mg_run_lcm a t b u (by omega) (by omega) (by rw [e1]; exact Nat.lt_of_lt_of_le l3 (by decide))
  rw [e1] at g
  exact call_function_meets PySem.W.MGF.kind_lcm PySem.W.MGF.plain_lcm PySem.W.MGF.entry_lcm (PySem.W.MGF.args_lcm _ _) g.meets ⟨.int _, H, I.tok _, ⟨_, rfl⟩, q⟩
theorem we_lcm (hm : X.mg "lcm" = some (.builtin "math.lcm")) (h : Wa X H0 [e, e2] δ (fun ds => A2 ds fun x y => I2 x y fun i j => (Bd 13000 i ∧ Bd 13000 j) ∧ k (.int ((Nat.lcm i.natAbs j.natAbs : Nat) : Int)))) (hg : Gl X "lcm" := by rfl)
    (he : notStar e = true := by rfl) (hpl : notStar e2 = true := by rfl) : We X H0 (.Call (.Name "lcm" p) [e, e2] [] pos) δ k := fun σ G R =>
  toE (pe_callBfun cr_lcm hg hm pa_sem (by decide) (star_of he) (star_any (by rw [List.all_cons, hpl]; rfl))) (call1 (ta := semA X [e, e2]) h (fun G vs ds is ⟨x, y, ed, i, j, ex, ey, ⟨b1, b2⟩, hk⟩ Q q => by
    subst ed ex ey
    obtain ⟨v, w, rfl, a, b⟩ := is.two
    cases a
    cases b
    exact ⟨i, j, rfl, b1, b2, q _ G _ (Same.refl _) (.int _) hk⟩) σ G R)
def IL (x : D) (P : List Int → Prop) : Prop := ∃ ns, x = .sq true (ns.map .int) ∧ P ns
theorem il {ns : List Int} {P : List Int → Prop} (h : P ns) : IL (.sq true (ns.map .int)) P := ⟨ns, rfl, h⟩
theorem ilE {xs : List D} {ns : List Int} {P : List Int → Prop} (e : xs = ns.map .int) (h : P ns) : IL (.sq true xs) P := ⟨ns, by rw [e], h⟩
theorem ints_of {K : PySem.W.Frag} {G : Hp} {xs : List V} {ns : List Int} (h : IsL K G xs (ns.map .int)) : xs = ns.map .int := by
  refine List.ext_getElem? fun i => ?_
  by_cases hi : i < ns.length
  · have hx : i < xs.length := by rw [h.1, List.length_map]; exact hi
    have z := h.2 i _ (.int ns[i]) (List.getElem?_eq_getElem hx) (by rw [List.getElem?_map, List.getElem?_eq_getElem hi]; rfl)
    rw [List.getElem?_eq_getElem hx, List.getElem?_map, List.getElem?_eq_getElem hi]
    exact congrArg some z.int_inv
  · rw [List.getElem?_eq_none (by rw [h.1, List.length_map]; omega), List.getElem?_eq_none (by rw [List.length_map]; omega)]
/-- sum(e), e a list of ints -/
theorem we_sum (hm : X.mg "sum" = none) (h : Wa X H0 [e] δ (fun ds => A1 ds fun x => IL x fun ns => k (.int ns.sum))) (hc : X.calm = true := by rfl) (hg : Gl X "sum" := by rfl) (he : notStar e = true := by rfl) :
    We X H0 (.Call (.Name "sum" p) [e] [] pos) δ k := we_callB (cr_sum hc) (by decide +kernel) (by decide) (by decide) (fun G vs ds is ⟨x, ed, ns, ex, hk⟩ Q q => by
  subst ed ex
  obtain ⟨v, rfl, i⟩ := is.one
  obtain ⟨a, xs, rfl, hq, il⟩ := i.lst_inv
  rw [ints_of il] at hq
  exact ⟨a, ns, rfl, .inl hq, q _ G _ (Same.refl _) (.int _) hk⟩) hm h hg he rfl
theorem we_max2 (hm : X.mg "max" = none) (h : Wa X H0 [e, e2] δ (fun ds => A2 ds fun x y => I2 x y fun i j => k (.int (if j > i then j else i)))) (hc : X.calm = true := by rfl) (hg : Gl X "max" := by rfl) (he : notStar e = true := by rfl) (hpl : notStar e2 = true := by rfl) :
    We X H0 (.Call (.Name "max" p) [e, e2] [] pos) δ k := we_callB (call_max2 hc) (by decide +kernel) (by decide) (by decide) (fun G vs ds is ⟨x, y, ed, i, j, ex, ey, hk⟩ Q q => by
  subst ed ex ey
  obtain ⟨v, w, rfl, a, b⟩ := is.two
  cases a
  cases b
  exact ⟨i, j, rfl, q _ G _ (Same.refl _) (.int _) hk⟩) hm h hg he (by rw [List.all_cons, hpl]; rfl)
theorem we_min2 (hm : X.mg "min" = none) (h : Wa X H0 [e, e2] δ (fun ds => A2 ds fun x y => I2 x y fun i j => k (.int (if j < i then j else i)))) (hc : X.calm = true := by rfl) (hg : Gl X "min" := by rfl) (he : notStar e = true := by rfl) (hpl : notStar e2 = true := by rfl) :
    We X H0 (.Call (.Name "min" p) [e, e2] [] pos) δ k := we_callB (call_min2 hc) (by decide +kernel) (by decide) (by decide) (fun G vs ds is ⟨x, y, ed, i, j, ex, ey, hk⟩ Q q => by
  subst ed ex ey
  obtain ⟨v, w, rfl, a, b⟩ := is.two
  cases a
  cases b
  exact ⟨i, j, rfl, q _ G _ (Same.refl _) (.int _) hk⟩) hm h hg he (by rw [List.all_cons, hpl]; rfl)
end
/-! ### comprehensions over things told by α -/
section
variable {X : Cx} {H0 : Hp} {δ : List S} {elt : Expr} {sc : Scope} {α : Type}
theorem lcA {v : Nat} {ko : List D → Prop} {xs : List α} (emb g : α → D) (hl : xs.length ≤ 100000) (h : ∀ x ∈ xs, BWe X sc H0 elt (δ.set v (.sh (emb x))) (fun e => e = g x)) (q : ko (xs.map g)) : LC X sc H0 elt δ v ko (xs.map emb).length (fun i => (xs.map emb).getD i .non) :=
  ⟨fun i e => ∀ x, xs[i]? = some x → e = g x, by rw [List.length_map]; exact hl, fun i hi => by
    rw [List.length_map] at hi
    have e1 : (xs.map emb).getD i .non = emb xs[i] := by rw [List.getD_eq_getElem?_getD, List.getElem?_map, List.getElem?_eq_getElem hi]; rfl
    show BWe X sc H0 elt (δ.set v (.sh ((xs.map emb).getD i .non))) _
    rw [e1]
    intro s hh C cl fp σ G R
    exact (h _ (List.getElem_mem hi) s hh C cl fp σ G R).mono fun y G2 ⟨e2, d, id, hd⟩ => ⟨e2, d, id, fun x hx => by rw [List.getElem?_eq_getElem hi] at hx; cases hx; exact hd⟩, fun es p => by
    have e : es = xs.map g := by
      refine List.ext_getElem? fun i => ?_
      have hl := p.1
      rw [List.length_map] at hl
      by_cases hi : i < xs.length
      · rw [List.getElem?_map, List.getElem?_eq_getElem hi, List.getElem?_eq_getElem (show i < es.length by omega)]
        exact congrArg some (p.2 i _ (List.getElem?_eq_getElem (by omega)) _ (List.getElem?_eq_getElem hi))
      · rw [List.getElem?_eq_none (by omega), List.getElem?_eq_none (by rw [List.length_map]; omega)]
    rw [e]; exact q⟩
/-- each told by something -/
theorem each_ex {emb : α → D} {Q : Nat → α → Prop} : ∀ {n : Nat} {es : List D}, EachN (fun i e => ∃ x, e = emb x ∧ Q i x) n es → ∃ xs : List α, xs.length = n ∧ es = xs.map emb ∧ ∀ (i : Nat) x, xs[i]? = some x → Q i x := fun {n} => by
  induction n generalizing Q with
  | zero =>
    intro es h
    have : es = [] := List.length_eq_zero_iff.mp h.1
    exact ⟨[], rfl, this, fun i x hx => by cases hx⟩
  | succ n ih =>
    intro es h
    cases es with
    | nil => cases h.1
    | cons e es =>
      obtain ⟨x, rfl, q⟩ := h.2 0 e rfl
      obtain ⟨xs, h1, rfl, h3⟩ := ih (Q := fun i x => Q (i + 1) x) (es := es) ⟨Nat.succ.inj h.1, fun i e he => h.2 (i + 1) e he⟩
      refine ⟨x :: xs, congrArg (· + 1) h1, rfl, fun i y hy => ?_⟩
      cases i with
      | zero => cases hy; exact q
      | succ i => exact h3 i y hy
/-- each made into something told by β -/
theorem lcAE {β : Type} {v : Nat} {ko : List D → Prop} {xs : List α} (emb : α → D) (embB : β → D) (Q : α → β → Prop) (hl : xs.length ≤ 100000) (h : ∀ x ∈ xs, BWe X sc H0 elt (δ.set v (.sh (emb x))) (fun e => ∃ y, e = embB y ∧ Q x y))
    (q : ∀ ys : List β, ys.length = xs.length → (∀ (i : Nat) x y, xs[i]? = some x → ys[i]? = some y → Q x y) → ko (ys.map embB)) : LC X sc H0 elt δ v ko (xs.map emb).length (fun i => (xs.map emb).getD i .non) :=
  ⟨fun i e => ∃ y, e = embB y ∧ ∀ x, xs[i]? = some x → Q x y, by rw [List.length_map]; exact hl, fun i hi => by
    rw [List.length_map] at hi
    have e1 : (xs.map emb).getD i .non = emb xs[i] := by rw [List.getD_eq_getElem?_getD, List.getElem?_map, List.getElem?_eq_getElem hi]; rfl
    show BWe X sc H0 elt (δ.set v (.sh ((xs.map emb).getD i .non))) _
    rw [e1]
    intro s hh C cl fp σ G R
    exact (h _ (List.getElem_mem hi) s hh C cl fp σ G R).mono fun y G2 ⟨e2, d, id, z, ez, hd⟩ => ⟨e2, d, id, z, ez, fun x hx => by rw [List.getElem?_eq_getElem hi] at hx; cases hx; exact hd⟩, fun es p => by
    obtain ⟨ys, h1, rfl, h3⟩ := each_ex p
    rw [List.length_map] at h1
    exact q ys h1 fun i x y hx hy => h3 i y hy x hx⟩
theorem sum_bd {m k : Nat} : ∀ {xs : List Int}, (∀ x ∈ xs, Bd m x) → xs.length ≤ 2 ^ k → Bd (m + k) xs.sum := fun {xs} h hl => by
  have key : ∀ {xs : List Int}, (∀ x ∈ xs, Bd m x) → xs.sum.natAbs + xs.length ≤ xs.length * 2 ^ m ∨ xs = [] := fun {xs} => by
    induction xs with
    | nil => intro _; exact .inr rfl
    | cons x xs ih =>
      intro h
      refine .inl ?_
      have hx : x.natAbs < 2 ^ m := h x List.mem_cons_self
      have h1 := Int.natAbs_add_le x xs.sum
      rw [List.sum_cons, List.length_cons, Nat.succ_mul]
      rcases ih fun y hy => h y (List.mem_cons_of_mem _ hy) with z | z
      · omega
      · subst z
        simp only [List.sum_nil, List.length_nil] at *
        omega
  rcases key h with z | z
  · unfold Bd
    have h2 : xs.length * 2 ^ m ≤ 2 ^ k * 2 ^ m := Nat.mul_le_mul_right _ hl
    rw [Nat.pow_add, Nat.mul_comm (2 ^ m)]
    by_cases e : xs.length = 0
    · have : xs = [] := List.length_eq_zero_iff.mp e
      subst this
      exact Nat.mul_pos (Nat.pow_pos (by decide)) (Nat.pow_pos (by decide))
    · omega
  · subst z
    exact Nat.pow_pos (by decide)
end
end DL
set_option Elab.async false
set_option linter.all false
set_option maxRecDepth 100000
set_option maxHeartbeats 2000000
/-! Part l: == of plain data (ints, None, lists and tuples of them, at any depth to 64). -/
namespace DL
open PySem PySem.Spec PyProof.Rows L2
mutual
def toPy : D → PyData
  | .int i => .int i
  | .str z => .str z
  | .bl b => .bool b
  | .sq true ds => .list (toPys ds)
  | .sq false ds => .tuple (toPys ds)
  | _ => .none
def toPys : List D → List PyData
  | [] => []
  | d :: ds => toPy d :: toPys ds
end
mutual
/-- plain, no deeper than n -/
def plB : Nat → D → Bool
  | _, .int _ => true
  | _, .non => true
  | _, .str z => PyData.strOk z
  | n + 1, .sq _ ds => plBs n ds
  | _, _ => false
def plBs : Nat → List D → Bool
  | _, [] => true
  | n, d :: ds => plB n d && plBs n ds
end
mutual
theorem pl_pd : ∀ (n : Nat) (d : D), plB n d = true → Pd d (toPy d) ∧ (toPy d).canLay0 = true ∧ (toPy d).depth ≤ n
  | n, .int i, _ => ⟨.int i, rfl, Nat.zero_le _⟩
  | n, .non, _ => ⟨.non, rfl, Nat.zero_le _⟩
  | n + 1, .sq true ds, h => by
    obtain ⟨h1, h2, h3⟩ := pl_pds n ds (by simpa [plB] using h)
    exact ⟨h1.1, h2, Nat.succ_le_succ h3⟩
  | n + 1, .sq false ds, h => by
    obtain ⟨h1, h2, h3⟩ := pl_pds n ds (by simpa [plB] using h)
    exact ⟨h1.2, h2, Nat.succ_le_succ h3⟩
  | 0, .sq _ _, h => by simp [plB] at h
  | n, .bl _, h => by cases n <;> simp [plB] at h
  | n, .str x, h => ⟨.str x, by cases n <;> simpa [plB, toPy, PyData.canLay0] using h, Nat.zero_le _⟩
  | n, .dic _, h => by cases n <;> simp [plB] at h
  | n, .ins _ _, h => by cases n <;> simp [plB] at h
  | n, .ob _, h => by cases n <;> simp [plB] at h
  | n, .exc _ _ _, h => by cases n <;> simp [plB] at h
  | n, .scr _, h => by cases n <;> simp [plB] at h
theorem pl_pds : ∀ (n : Nat) (ds : List D), plBs n ds = true → (Pd (.sq true ds) (.list (toPys ds)) ∧ Pd (.sq false ds) (.tuple (toPys ds))) ∧ PyData.canLayAll0 (toPys ds) = true ∧ PyData.depthAll (toPys ds) ≤ n
  | n, [], _ => ⟨⟨.nilL, .nilT⟩, rfl, Nat.zero_le _⟩
  | n, d :: ds, h => by
    obtain ⟨h1, h2⟩ := Bool.and_eq_true_iff.mp (by simpa [plBs] using h : (plB n d && plBs n ds) = true)
    obtain ⟨a1, a2, a3⟩ := pl_pd n d h1
    obtain ⟨b1, b2, b3⟩ := pl_pds n ds h2
    refine ⟨⟨.consL a1 b1.1, .consT a1 b1.2⟩, ?_, ?_⟩
    · show (PyData.canLay0 (toPy d) && PyData.canLayAll0 (toPys ds)) = true
      rw [a2, b2]; rfl
    · show max (PyData.depth (toPy d)) (PyData.depthAll (toPys ds)) ≤ n
      omega
end
mutual
theorem pl_eqv : ∀ (n m : Nat) (d d' : D), plB n d = true → plB m d' = true → (PyData.eqv (toPy d) (toPy d') = true ↔ d = d')
  | n, m, .int i, .int j, _, _ => by
    show ((i == j) = true) ↔ _
    simp
  | n, m, .non, .non, _, _ => by simp [toPy, PyData.eqv]
  | n, m, .str x, .str y, _, _ => by
    show ((x == y) = true) ↔ _
    simp
  | n, m, .int i, .str y, _, _ => by simp [toPy, PyData.eqv]
  | n, m, .non, .str y, _, _ => by simp [toPy, PyData.eqv]
  | n, m, .str x, .int j, _, _ => by simp [toPy, PyData.eqv]
  | n, m, .str x, .non, _, _ => by simp [toPy, PyData.eqv]
  | n, m + 1, .str x, .sq l es, h, h' => by cases l <;> simp [toPy, PyData.eqv]
  | n + 1, m, .sq l es, .str y, h, h' => by cases l <;> simp [toPy, PyData.eqv]
  | n, m, .int i, .non, _, _ => by simp [toPy, PyData.eqv]
  | n, m, .non, .int i, _, _ => by simp [toPy, PyData.eqv]
  | n + 1, m + 1, .sq true ds, .sq true es, h, h' => by
    have := pl_eqvs n m ds es (by simpa [plB] using h) (by simpa [plB] using h')
    show (PyData.eqvAll (toPys ds) (toPys es) = true) ↔ _
    rw [this]; simp
  | n + 1, m + 1, .sq false ds, .sq false es, h, h' => by
    have := pl_eqvs n m ds es (by simpa [plB] using h) (by simpa [plB] using h')
    show (PyData.eqvAll (toPys ds) (toPys es) = true) ↔ _
    rw [this]; simp
  | n + 1, m + 1, .sq true ds, .sq false es, h, h' => by simp [toPy, PyData.eqv]
  | n + 1, m + 1, .sq false ds, .sq true es, h, h' => by simp [toPy, PyData.eqv]
  | n, m + 1, .int i, .sq l es, h, h' => by cases l <;> simp [toPy, PyData.eqv]
  | n, m + 1, .non, .sq l es, h, h' => by cases l <;> simp [toPy, PyData.eqv]
  | n + 1, m, .sq l es, .int i, h, h' => by cases l <;> simp [toPy, PyData.eqv]
  | n + 1, m, .sq l es, .non, h, h' => by cases l <;> simp [toPy, PyData.eqv]
  | 0, m, .sq _ _, _, h, _ => by simp [plB] at h
  | n, 0, _, .sq _ _, _, h => by simp [plB] at h
  | n, m, .bl _, _, h, _ => by cases n <;> simp [plB] at h
  | n, m, .dic _, _, h, _ => by cases n <;> simp [plB] at h
  | n, m, .ins _ _, _, h, _ => by cases n <;> simp [plB] at h
  | n, m, .ob _, _, h, _ => by cases n <;> simp [plB] at h
  | n, m, .exc _ _ _, _, h, _ => by cases n <;> simp [plB] at h
  | n, m, .scr _, _, h, _ => by cases n <;> simp [plB] at h
  | n, m, _, .bl _, _, h => by cases m <;> simp [plB] at h
  | n, m, _, .dic _, _, h => by cases m <;> simp [plB] at h
  | n, m, _, .ins _ _, _, h => by cases m <;> simp [plB] at h
  | n, m, _, .ob _, _, h => by cases m <;> simp [plB] at h
  | n, m, _, .exc _ _ _, _, h => by cases m <;> simp [plB] at h
  | n, m, _, .scr _, _, h => by cases m <;> simp [plB] at h
theorem pl_eqvs : ∀ (n m : Nat) (ds es : List D), plBs n ds = true → plBs m es = true → (PyData.eqvAll (toPys ds) (toPys es) = true ↔ ds = es)
  | n, m, [], [], _, _ => by simp [toPys, PyData.eqvAll]
  | n, m, [], _ :: _, _, _ => by simp [toPys, PyData.eqvAll]
  | n, m, _ :: _, [], _, _ => by simp [toPys, PyData.eqvAll]
  | n, m, d :: ds, e :: es, h, h' => by
    obtain ⟨h1, h2⟩ := Bool.and_eq_true_iff.mp (by simpa [plBs] using h : (plB n d && plBs n ds) = true)
    obtain ⟨g1, g2⟩ := Bool.and_eq_true_iff.mp (by simpa [plBs] using h' : (plB m e && plBs m es) = true)
    have a := pl_eqv n m d e h1 g1
    have b := pl_eqvs n m ds es h2 g2
    show ((PyData.eqv (toPy d) (toPy e) && PyData.eqvAll (toPys ds) (toPys es)) = true) ↔ _
    rw [Bool.and_eq_true_iff, a, b]
    simp
end
/-- == of plain data -/
theorem eqP {x y : D} {P : Bool → Prop} (hx : plB 60 x = true) (hy : plB 60 y = true) (h : ∀ b : Bool, (b = true ↔ x = y) → P b) : EQ x y P := by
  obtain ⟨a1, a2, a3⟩ := pl_pd 60 x hx
  obtain ⟨b1, b2, b3⟩ := pl_pd 60 y hy
  exact ⟨_, _, a1, b1, Bool.and_eq_true_iff.mpr ⟨a2, decide_eq_true (by omega)⟩, Bool.and_eq_true_iff.mpr ⟨b2, decide_eq_true (by omega)⟩, h _ (pl_eqv 60 60 x y hx hy)⟩
theorem plBs_of {n : Nat} : ∀ {ds : List D}, (∀ d ∈ ds, plB n d = true) → plBs n ds = true
  | [], _ => by simp [plBs]
  | d :: ds, h => by
    simp only [plBs, Bool.and_eq_true]
    exact ⟨h d List.mem_cons_self, plBs_of fun e he => h e (List.mem_cons_of_mem _ he)⟩
theorem plB_int {n : Nat} {i : Int} : plB n (.int i) = true := by cases n <;> simp [plB]
theorem plB_sq {n : Nat} {l : Bool} {ds : List D} (h : ∀ d ∈ ds, plB n d = true) : plB (n + 1) (.sq l ds) = true := by
  simp only [plB]
  exact plBs_of h
theorem plB_ints {n : Nat} {l : Bool} {ns : List Int} : plB (n + 1) (.sq l (ns.map .int)) = true := plB_sq fun d hd => by
  obtain ⟨i, _, rfl⟩ := List.mem_map.mp hd
  exact plB_int
theorem plB_str {n : Nat} {z : Str} (h : PyData.strOk z = true) : plB n (.str z) = true := by cases n <;> simpa [plB] using h
theorem plB_strs {n : Nat} {l : Bool} {ns : List Str} (h : ∀ z ∈ ns, PyData.strOk z = true) : plB (n + 1) (.sq l (ns.map .str)) = true := plB_sq fun d hd => by
  obtain ⟨i, hi, rfl⟩ := List.mem_map.mp hd
  exact plB_str (h i hi)
/-! with bools: the same thing is == -/
mutual
def plC : Nat → D → Bool
  | _, .int _ => true
  | _, .non => true
  | _, .str z => PyData.strOk z
  | _, .bl _ => true
  | n + 1, .sq _ ds => plCs n ds
  | _, _ => false
def plCs : Nat → List D → Bool
  | _, [] => true
  | n, d :: ds => plC n d && plCs n ds
end
mutual
theorem pc_pd : ∀ (n : Nat) (d : D), plC n d = true → Pd d (toPy d) ∧ (toPy d).canLay0 = true ∧ (toPy d).depth ≤ n
  | n, .int i, _ => ⟨.int i, rfl, Nat.zero_le _⟩
  | n, .non, _ => ⟨.non, rfl, Nat.zero_le _⟩
  | n, .str x, h => ⟨.str x, by cases n <;> simpa [plC, toPy, PyData.canLay0] using h, Nat.zero_le _⟩
  | n, .bl b, _ => ⟨.bl b, rfl, Nat.zero_le _⟩
  | n + 1, .sq true ds, h => by
    obtain ⟨h1, h2, h3⟩ := pc_pds n ds (by simpa [plC] using h)
    exact ⟨h1.1, h2, Nat.succ_le_succ h3⟩
  | n + 1, .sq false ds, h => by
    obtain ⟨h1, h2, h3⟩ := pc_pds n ds (by simpa [plC] using h)
    exact ⟨h1.2, h2, Nat.succ_le_succ h3⟩
  | 0, .sq _ _, h => by simp [plC] at h
  | n, .dic _, h => by cases n <;> simp [plC] at h
  | n, .ins _ _, h => by cases n <;> simp [plC] at h
  | n, .ob _, h => by cases n <;> simp [plC] at h
  | n, .exc _ _ _, h => by cases n <;> simp [plC] at h
  | n, .scr _, h => by cases n <;> simp [plC] at h
theorem pc_pds : ∀ (n : Nat) (ds : List D), plCs n ds = true → (Pd (.sq true ds) (.list (toPys ds)) ∧ Pd (.sq false ds) (.tuple (toPys ds))) ∧ PyData.canLayAll0 (toPys ds) = true ∧ PyData.depthAll (toPys ds) ≤ n
  | n, [], _ => ⟨⟨.nilL, .nilT⟩, rfl, Nat.zero_le _⟩
  | n, d :: ds, h => by
    obtain ⟨h1, h2⟩ := Bool.and_eq_true_iff.mp (by simpa [plCs] using h : (plC n d && plCs n ds) = true)
    obtain ⟨a1, a2, a3⟩ := pc_pd n d h1
    obtain ⟨b1, b2, b3⟩ := pc_pds n ds h2
    refine ⟨⟨.consL a1 b1.1, .consT a1 b1.2⟩, ?_, ?_⟩
    · show (PyData.canLay0 (toPy d) && PyData.canLayAll0 (toPys ds)) = true
      rw [a2, b2]; rfl
    · show max (PyData.depth (toPy d)) (PyData.depthAll (toPys ds)) ≤ n
      omega
end
theorem eqPC {x : D} {P : Bool → Prop} (hx : plC 60 x = true) (h : P true) : EQ x x P := by
  obtain ⟨a1, a2, a3⟩ := pc_pd 60 x hx
  have s : SeqAt.shaped (toPy x) = true := Bool.and_eq_true_iff.mpr ⟨a2, decide_eq_true (by omega)⟩
  exact ⟨_, _, a1, a1, s, s, by rw [SeqAt.eqv_refl _ a2]; exact h⟩
/-! ### tuples within tuples, kept beside an object that was lent -/
inductive FlatN : D → Prop
  | flat {d : D} : Flat d → FlatN d
  | tup {ds : List D} : (∀ (i : Nat) d, ds[i]? = some d → FlatN d) → FlatN (.sq false ds)
theorem FlatN.ints {ns : List Int} : FlatN (.sq false (ns.map .int)) := .tup fun i d h => by
  rw [List.getElem?_map] at h
  cases e : ns[i]? with
  | none => rw [e] at h; cases h
  | some n => rw [e] at h; cases h; exact .flat trivial
theorem FlatN.two {a b : D} (h : FlatN a) (h' : FlatN b) : FlatN (.sq false [a, b]) := .tup fun i d e => by
  match i, e with
  | 0, e => cases e; exact h
  | 1, e => cases e; exact h'
theorem FlatN.is {K : PySem.W.Frag} {H0 H : Hp} {σ : L2.St} {δ : List S} {own : List (List Addr)} {d : D} (R : Rel K H0 σ H δ own) (f : FlatN d) : ∀ {v : V}, Is K H v d → Is K (cut H own.flatten) v d := by
  induction f with
  | flat f => intro v h; exact h.flat f
  | tup _ ih =>
    intro v h
    obtain ⟨a, xs, rfl, h1, il⟩ := h.tup_inv
    refine .mkT ?_ (IsL.of_get il.1 fun i x d hx hd => ih i d hd (il.2 i x d hx hd))
    rcases h1 with z | z
    · refine .inl ?_
      have no : ∀ (p : Addr) (ys : List V), p ∈ own.flatten → ¬ Rd H p (.tup ys) := fun p ys hp r => by
        rcases R.owned p hp with ⟨_, e⟩ | ⟨_, e⟩ | ⟨_, _, _, e, _⟩ | ⟨_, _, _, e, _⟩
        all_goals (rcases r with r | ⟨_, r⟩ <;> rw [e] at r <;> cases r)
      have na := fun hp => no _ _ hp z
      rcases z with z | ⟨ob, z⟩
      · exact .inl (by rw [cut_out na]; exact z)
      · exact .inr ⟨ob, by rw [cut_out na]; exact z⟩
    · exact .inr z
theorem ws_setN {X : Cx} {H0 : Hp} {δ δ' : List S} {e : Expr} {pos : Pos} {E : En} (i : Nat) {x : Str} {pos' : Pos} (hN : X.N.Nodup) (hv : Vw δ δ') (h : We X H0 e δ' (fun d => FlatN d ∧ E.nx (δ.set i (.sh d)))) (hi : X.N[i]? = some x := by rfl) (hx : Loc X.env.scope x := by first | exact .inl rfl | exact .inr rfl) (hs : swapsWith e (some (.Name x pos')) pos.line X.env = pure false := by rfl) (hf : X.fn x = true ∨ X.env.scope.names.lookup x = some .local := by exact .inl rfl) :
    Ws X H0 (.Assign [.Name x pos'] e pos) δ E := fun B σ H own hB R => toS (ps_set hN hi hx pe_sem hs hf) ((h.atV hv hB R).mono fun v H' ⟨d, R', i, f, q⟩ => ⟨_, _, R'.setSh (f.is R' i), q⟩)
theorem we_neD {X : Cx} {H0 : Hp} {δ : List S} {a b : Expr} {k : D → Prop} {pos : Pos} (hu : X.A.units + 64 < cLine) (h : We X H0 a δ (fun x => We X H0 b δ (fun y => EQ x y fun r => k (.bl (!r))))) : We X H0 (.Compare a [.NotEq] [b] pos) δ k := fun σ G R => toE (pe_cmpR (op_neD hu) pe_sem pe_sem (nomark _)) (two h (fun G v w x y iv iw ⟨p, q, hp, hq, sp, sq, hk⟩ Q qq => ⟨p, q, hp.dp iv, hq.dp iw, sp, sq, qq _ G _ (Same.refl _) (.bl _) hk⟩) σ G R)
end DL
set_option Elab.async false
set_option linter.all false
set_option maxRecDepth 100000
set_option maxHeartbeats 2000000
/-! Part m: trees of owned lists: what comes as one, several values at once, a comprehension of them, a write within. -/
namespace DL
open PySem PySem.Spec PyProof.Rows L2
/-- a value that has come, as a tree -/
def asT : S → Tr
  | .no => .sh .non
  | .sh d => .sh d
  | .ow (.lst ds) => .lst (ds.map .sh)
  | .ow (.tr ts) => .lst ts
  | .ow o => .sh o.d
theorem ds_sh : ∀ ds : List D, Tr.ds (ds.map .sh) = ds
  | [] => rfl
  | d :: ds => by
    show d :: Tr.ds (ds.map .sh) = _
    rw [ds_sh ds]
theorem ds_map : ∀ ts : List Tr, Tr.ds ts = ts.map Tr.d
  | [] => rfl
  | t :: ts => by
    show t.d :: Tr.ds ts = _
    rw [ds_map ts]; rfl
theorem ds_len (ts : List Tr) : (Tr.ds ts).length = ts.length := by rw [ds_map, List.length_map]
theorem asT_d {r : S} : (asT r).d = r.d := by
  cases r with
  | no => rfl
  | sh d => rfl
  | ow o =>
    cases o with
    | lst ds => show D.sq true (Tr.ds (ds.map .sh)) = .sq true ds; rw [ds_sh]
    | tr ts => rfl
    | _ => rfl
section
variable {K : PySem.W.Frag} {H H' G G' H0 B : Hp} {v : V} {r : S} {σ : L2.St} {δ : List S} {own : List (List Addr)}
theorem trs_sh : ∀ {xs : List V} {ds : List D}, IsL K G xs ds → TrsIs K H G (ds.map .sh) xs (List.replicate xs.length [])
  | xs, [], h => by
    rw [h.inv_nil]
    exact ⟨rfl, rfl⟩
  | xs, d :: ds, h => by
    obtain ⟨x, r, rfl, i, il⟩ := h.inv_cons
    exact ⟨x, r, [], _, rfl, rfl, ⟨rfl, i⟩, trs_sh il⟩
theorem flat_reps : ∀ n : Nat, (List.replicate n ([] : List Addr)).flatten = []
  | 0 => rfl
  | n + 1 => by rw [List.replicate_succ, List.flatten_cons, flat_reps n]; rfl
/-- new, as a tree -/
def NewT (K : PySem.W.Frag) (G : Hp) (v : V) (G' : Hp) (t : Tr) : Prop := ∃ l, TrIs K G' (cut G' l) t v l ∧ (∀ a ∈ l, G a = none) ∧ Ex G (cut G' l) ∧ l.Nodup
theorem RetIs.newT (h : RetIs K G v G' r) : NewT K G v G' (asT r) := by
  have sh : ∀ {d : D}, Ex G G' → Is K G' v d → NewT K G v G' (.sh d) := fun e i => ⟨[], ⟨rfl, by rw [cut_nil]; exact i⟩, fun a ha => (by cases ha), by rw [cut_nil]; exact e, List.nodup_nil⟩
  cases r with
  | no => exact h.elim
  | sh d => exact sh h.1 h.2
  | ow o =>
    cases o with
    | lst ds =>
      obtain ⟨l, ⟨p, xs, rfl, rfl, hp, il⟩, fr, ee, nd⟩ := h
      exact ⟨[p], ⟨p, xs, List.replicate xs.length [], rfl, by rw [flat_reps], hp, trs_sh il⟩, fr, ee, nd⟩
    | tr ts => exact h
    | dic kvs => exact sh h.ex.1 h.ex.2
    | ins C fs => exact sh h.ex.1 h.ex.2
    | self a C ks fs => exact sh h.ex.1 h.ex.2
theorem NewT.tr {ts : List Tr} (h : NewT K G v G' (.lst ts)) : NewIs K G v G' (.tr ts) := h
/-! ### several values, each a tree of its own, beside the frame's state -/
structure RT (K : PySem.W.Frag) (H0 : Hp) (σ : L2.St) (H : Hp) (δ : List S) (own : List (List Addr)) (vs : List V) (ts : List Tr) (ls : List (List Addr)) : Prop where
  ex : Ex H0 (cut H (own.flatten ++ ls.flatten))
  len1 : σ.length = δ.length
  len2 : own.length = δ.length
  sl : ∀ (i : Nat) s x l, δ[i]? = some s → σ[i]? = some x → own[i]? = some l → SlotIs K H (cut H (own.flatten ++ ls.flatten)) x l s
  tr : TrsIs K H (cut H (own.flatten ++ ls.flatten)) ts vs ls
  nd : (own.flatten ++ ls.flatten).Nodup
theorem trs_snoc {t : Tr} {x : V} {l : List Addr} : ∀ {ts : List Tr} {xs : List V} {ls : List (List Addr)}, TrsIs K H G ts xs ls → TrIs K H G t x l → TrsIs K H G (ts ++ [t]) (xs ++ [x]) (ls ++ [l])
  | [], xs, ls, h, i => by
    obtain ⟨rfl, rfl⟩ := h
    exact ⟨x, [], l, [], rfl, rfl, i, rfl, rfl⟩
  | t :: ts, xs, ls, h, i => by
    obtain ⟨y, xs', m, ls', rfl, rfl, h1, h2⟩ := h
    exact ⟨y, _, m, _, rfl, rfl, h1, trs_snoc h2 i⟩
theorem trs_len : ∀ {ts : List Tr} {xs : List V} {ls : List (List Addr)}, TrsIs K H G ts xs ls → xs.length = ts.length ∧ ls.length = ts.length
  | [], xs, ls, h => by
    obtain ⟨rfl, rfl⟩ := h
    exact ⟨rfl, rfl⟩
  | t :: ts, xs, ls, h => by
    obtain ⟨y, xs', m, ls', rfl, rfl, h1, h2⟩ := h
    obtain ⟨a, b⟩ := trs_len h2
    exact ⟨congrArg (· + 1) a, congrArg (· + 1) b⟩
theorem Rel.rt (R : Rel K H0 σ H δ own) : RT K H0 σ H δ own [] [] [] := by
  have e : own.flatten ++ ([] : List (List Addr)).flatten = own.flatten := by simp
  exact ⟨by rw [e]; exact R.ex, R.len1, R.len2, by rw [e]; exact R.sl, ⟨rfl, rfl⟩, by rw [e]; exact R.nd⟩
theorem RT.idx {vs : List V} {ts : List Tr} {ls : List (List Addr)} (R : RT K H0 σ H δ own vs ts ls) {i : Nat} {s : S} (h : δ[i]? = some s) : ∃ x l, σ[i]? = some x ∧ own[i]? = some l ∧ SlotIs K H (cut H (own.flatten ++ ls.flatten)) x l s := by
  have hi : i < δ.length := (List.getElem?_eq_some_iff.mp h).1
  have h1 : i < σ.length := by rw [R.len1]; exact hi
  have h2 : i < own.length := by rw [R.len2]; exact hi
  exact ⟨_, _, List.getElem?_eq_getElem h1, List.getElem?_eq_getElem h2, R.sl i s _ _ h (List.getElem?_eq_getElem h1) (List.getElem?_eq_getElem h2)⟩
theorem RT.owned {vs : List V} {ts : List Tr} {ls : List (List Addr)} (R : RT K H0 σ H δ own vs ts ls) : ∀ a ∈ own.flatten ++ ls.flatten, OwnAt H (own.flatten ++ ls.flatten) a := fun a ha => by
  rcases List.mem_append.mp ha with ha | ha
  · obtain ⟨l, hl, hal⟩ := List.mem_flatten.mp ha
    obtain ⟨i, hi⟩ := List.mem_iff_getElem?.mp hl
    have hd : i < δ.length := by rw [← R.len2]; exact (List.getElem?_eq_some_iff.mp hi).1
    obtain ⟨x, l', _, e, q⟩ := R.idx (List.getElem?_eq_getElem hd)
    rw [hi] at e; cases e
    cases hs : δ[i] with
    | no => rw [hs] at q; have q : l = [] := q; rw [q] at hal; cases hal
    | sh d => rw [hs] at q; obtain ⟨q, _⟩ := q; rw [q] at hal; cases hal
    | ow o => rw [hs] at q; obtain ⟨v, _, q⟩ := q; exact q.at (fun a h => List.mem_append_left _ (mem_flat hi h)) a hal
  · obtain ⟨xs, e⟩ := TrsIs.lst_at ts vs ls R.tr a ha
    exact .inl ⟨xs, e⟩
theorem RT.toS {vs : List V} {ts : List Tr} {ls : List (List Addr)} (R : RT K H0 σ H δ own vs ts ls) : RelS K H0 σ (cut H (own.flatten ++ ls.flatten)) δ := ⟨R.ex, R.len1, fun i d h => by
  obtain ⟨x, l, a, b, _, v, rfl, q⟩ := R.idx h
  exact ⟨v, a, q⟩⟩
/-- one more value has come: new -/
theorem RT.push {vs : List V} {ts : List Tr} {ls : List (List Addr)} {t : Tr} (R : RT K H0 σ H δ own vs ts ls) (n : ∀ a ∈ own.flatten ++ ls.flatten, G a = none) (h : NewT K (cut H (own.flatten ++ ls.flatten)) v G t) :
    ∃ l, RT K H0 σ (mrg H (own.flatten ++ ls.flatten) G) δ own (vs ++ [v]) (ts ++ [t]) (ls ++ [l]) := by
  obtain ⟨l, hl, fr, ee, nd⟩ := h
  have hlG : ∀ a ∈ l, ∃ u, G a = some u := fun a ha => by
    obtain ⟨xs, e⟩ := TrIs.lst_at t v l hl a ha
    exact ⟨_, e⟩
  have dis : ∀ a ∈ l, a ∉ own.flatten ++ ls.flatten := fun a ha z => by
    obtain ⟨u, e⟩ := hlG a ha
    rw [n a z] at e; cases e
  have eO : own.flatten ++ (ls ++ [l]).flatten = (own.flatten ++ ls.flatten) ++ l := by simp [List.append_assoc]
  have cc : cut (mrg H (own.flatten ++ ls.flatten) G) ((own.flatten ++ ls.flatten) ++ l) = cut G l := by
    funext a
    by_cases z : a ∈ own.flatten ++ ls.flatten
    · rw [cut_in (List.mem_append_left _ z)]
      by_cases y : a ∈ l
      · rw [cut_in y]
      · rw [cut_out y, n a z]
    · by_cases y : a ∈ l
      · rw [cut_in (List.mem_append_right _ y), cut_in y]
      · rw [cut_out (by simp only [List.mem_append] at z ⊢; intro w; rcases w with w | w; exact z w; exact y w), cut_out y, mrg_out z]
  refine ⟨l, ?_⟩
  have ex2 : Ex (cut H (own.flatten ++ ls.flatten)) (cut G l) := ee
  refine ⟨by rw [eO, cc]; exact R.ex.trans ex2, R.len1, R.len2, fun i s x m h1 h2 h3 => ?_, ?_, ?_⟩
  · rw [eO, cc]
    exact (R.sl i s x m h1 h2 h3).mono ex2 fun a ha => mrg_in (List.mem_append_left _ (mem_flat h3 ha))
  · rw [eO, cc]
    refine trs_snoc (TrsIs.mono ex2 ts vs ls (fun a ha => mrg_in (List.mem_append_right _ ha)) R.tr) (TrIs.mono (Same.refl _) t v l (fun a ha => mrg_out (dis a ha)) hl)
  · rw [eO, List.nodup_append]
    exact ⟨R.nd, nd, fun a ha b hb e => dis b hb (e ▸ ha)⟩
theorem flat_set_perm : ∀ {own : List (List Addr)} {i : Nat} {l : List Addr}, own[i]? = some l → own.flatten.Perm ((own.set i []).flatten ++ l)
  | [], _, _, h => by cases h
  | l0 :: r, 0, l, h => by
    cases h
    simp only [List.set_cons_zero, List.flatten_cons, List.nil_append]
    exact List.perm_append_comm
  | l0 :: r, i + 1, l, h => by
    simp only [List.set_cons_succ, List.flatten_cons, List.append_assoc]
    exact List.Perm.append_left _ (flat_set_perm (i := i) h)
theorem cut_congr {ps qs : List Addr} (h : ∀ a, a ∈ ps ↔ a ∈ qs) : cut H ps = cut H qs := by
  funext a
  by_cases z : a ∈ ps
  · rw [cut_in z, cut_in ((h a).mp z)]
  · rw [cut_out z, cut_out fun y => z ((h a).mpr y)]
/-- one more value: the frame's own object, given up -/
theorem RT.move {vs : List V} {ts : List Tr} {ls : List (List Addr)} {i : Nat} {o : Ow} (R : RT K H0 σ H δ own vs ts ls) (hi : δ[i]? = some (.ow o)) (ho : (∃ ds, o = .lst ds) ∨ ∃ us, o = .tr us) :
    ∃ v l, σ[i]? = some (some v) ∧ RT K H0 σ H (δ.set i .no) (own.set i []) (vs ++ [v]) (ts ++ [asT (.ow o)]) (ls ++ [l]) := by
  obtain ⟨x, l, h1, h2, v, rfl, q⟩ := R.idx hi
  have pm : ((own.set i []).flatten ++ (ls ++ [l]).flatten).Perm (own.flatten ++ ls.flatten) := by
    have e : (ls ++ [l]).flatten = ls.flatten ++ l := by simp
    rw [e]
    refine List.Perm.trans ?_ (List.Perm.append_right _ (flat_set_perm h2).symm)
    rw [← List.append_assoc]
    refine List.Perm.trans ?_ (by rw [List.append_assoc])
    rw [List.append_assoc]
    exact List.Perm.append_left _ List.perm_append_comm
  have cc : cut H ((own.set i []).flatten ++ (ls ++ [l]).flatten) = cut H (own.flatten ++ ls.flatten) := cut_congr fun a => pm.mem_iff
  refine ⟨v, l, h1, by rw [cc]; exact R.ex, by simp [R.len1], by simp [R.len2], fun j s x m g1 g2 g3 => ?_, ?_, pm.symm.nodup R.nd⟩
  · rw [cc]
    rcases set_get g1 with ⟨e1, rfl⟩ | ⟨n1, g1⟩
    · rcases set_get g3 with ⟨_, rfl⟩ | ⟨n3, _⟩
      · exact rfl
      · exact absurd e1 n3
    · rcases set_get g3 with ⟨e3, _⟩ | ⟨_, g3⟩
      · exact absurd e3 n1
      · exact R.sl j s x m g1 g2 g3
  · rw [cc]
    refine trs_snoc R.tr ?_
    rcases ho with ⟨ds, rfl⟩ | ⟨us, rfl⟩
    · obtain ⟨p, xs, rfl, rfl, hp, il⟩ := q
      exact ⟨p, xs, List.replicate xs.length [], rfl, by rw [flat_reps], hp, trs_sh il⟩
    · exact q
end
end DL
set_option Elab.async false
set_option linter.all false
set_option maxRecDepth 100000
set_option maxHeartbeats 2000000
/-! Part n: expressions that come as trees; statements with them. -/
namespace DL
open PySem PySem.Spec PyProof.Rows L2
section
variable {K : PySem.W.Frag} {H H' G G' H0 B : Hp} {v : V} {r : S} {σ : L2.St} {δ : List S} {own : List (List Addr)}
theorem NewT.ex {t : Tr} (h : NewT K G v G' t) : Ex G G' := by
  obtain ⟨l, _, _, e, _⟩ := h
  exact e.trans cut_ex
theorem RT.free {vs : List V} {ts : List Tr} {ls : List (List Addr)} (R : RT K B σ H δ own vs ts ls) : ∀ a ∈ own.flatten ++ ls.flatten, B a = none := fun a ha => R.ex.free (cut_in ha)
theorem trs_split {K : PySem.W.Frag} {H G : Hp} : ∀ {ts us : List Tr} {vs ws : List V} {ls ls2 : List (List Addr)}, TrsIs K H G (ts ++ us) (vs ++ ws) (ls ++ ls2) → vs.length = ts.length → ls.length = ts.length → TrsIs K H G ts vs ls ∧ TrsIs K H G us ws ls2
  | [], us, [], ws, [], ls2, h, _, _ => ⟨⟨rfl, rfl⟩, h⟩
  | t :: ts, us, v :: vs, ws, l :: ls, ls2, h, h1, h2 => by
    obtain ⟨x, xs', l', ls', e1, e2, a, b⟩ := h
    simp only [List.cons_append, List.cons.injEq] at e1 e2
    obtain ⟨rfl, rfl⟩ := e1
    obtain ⟨rfl, rfl⟩ := e2
    obtain ⟨c, d⟩ := trs_split b (Nat.succ.inj h1) (Nat.succ.inj h2)
    exact ⟨⟨v, vs, l, ls, rfl, rfl, a, c⟩, d⟩
  | [], us, v :: vs, ws, ls, ls2, h, h1, _ => by cases h1
  | [], us, [], ws, l :: ls, ls2, h, _, h2 => by cases h2
  | t :: ts, us, [], ws, ls, ls2, h, h1, _ => by cases h1
  | t :: ts, us, v :: vs, ws, [], ls2, h, _, h2 => by cases h2
/-- the last values become a list's items -/
theorem RT.pack {vs ws : List V} {ts us : List Tr} {ls ls2 : List (List Addr)} {p : Addr} (R : RT K B σ H δ own (vs ++ ws) (ts ++ us) (ls ++ ls2)) (h1 : vs.length = ts.length) (h2 : ls.length = ts.length) (hp : H p = none) :
    RT K B σ (upd H p (.lst ws)) δ own (vs ++ [.ref p]) (ts ++ [.lst us]) (ls ++ [p :: ls2.flatten]) := by
  have np : ∀ a ∈ own.flatten ++ (ls ++ ls2).flatten, a ≠ p := fun a ha e => by
    obtain ⟨u, hu⟩ := (R.owned a ha).some
    rw [e, hp] at hu; cases hu
  have eF : (ls ++ [p :: ls2.flatten]).flatten = ls.flatten ++ p :: ls2.flatten := by simp
  have eF2 : (ls ++ ls2).flatten = ls.flatten ++ ls2.flatten := by simp
  have pm : (own.flatten ++ (ls ++ [p :: ls2.flatten]).flatten).Perm (p :: (own.flatten ++ (ls ++ ls2).flatten)) := by
    rw [eF, eF2, ← List.append_assoc, ← List.append_assoc]
    exact List.perm_middle
  have cc : cut (upd H p (.lst ws)) (own.flatten ++ (ls ++ [p :: ls2.flatten]).flatten) = cut H (own.flatten ++ (ls ++ ls2).flatten) := by
    rw [cut_congr (H := upd H p (.lst ws)) (fun a => pm.mem_iff)]
    funext a
    by_cases z : a = p
    · subst z
      rw [cut_in (by simp)]
      by_cases y : a ∈ own.flatten ++ (ls ++ ls2).flatten
      · rw [cut_in y]
      · rw [cut_out y, hp]
    · by_cases y : a ∈ own.flatten ++ (ls ++ ls2).flatten
      · rw [cut_in y, cut_in (List.mem_cons_of_mem _ y)]
      · rw [cut_out y, cut_out (by rw [List.mem_cons]; rintro (w | w); exact z w; exact y w), upd_ne z]
  obtain ⟨t1, t2⟩ := trs_split R.tr h1 h2
  have nf : ∀ a ∈ (ls ++ ls2).flatten, a ≠ p := fun a ha => np a (List.mem_append_right _ ha)
  refine ⟨by rw [cc]; exact R.ex, R.len1, R.len2, fun i s x l g1 g2 g3 => ?_, ?_, ?_⟩
  · rw [cc]
    exact (R.sl i s x l g1 g2 g3).mono (Same.refl _) fun a ha => upd_ne (np a (List.mem_append_left _ (mem_flat g3 ha)))
  · rw [cc]
    refine trs_snoc (TrsIs.mono (Same.refl _) ts vs ls (fun a ha => upd_ne (nf a (by rw [eF2]; exact List.mem_append_left _ ha))) t1) ⟨p, ws, ls2, rfl, rfl, upd_same, TrsIs.mono (Same.refl _) us ws ls2 (fun a ha => upd_ne (nf a (by rw [eF2]; exact List.mem_append_right _ ha))) t2⟩
  · exact pm.symm.nodup (List.nodup_cons.mpr ⟨fun z => np p z rfl, R.nd⟩)
theorem RT.rel {vs : List V} {ts : List Tr} {ls : List (List Addr)} (R : RT K B σ H δ own vs ts ls) : Rel K B σ H δ own := by
  have e : Ex (cut H (own.flatten ++ ls.flatten)) (cut H own.flatten) := cut_sub fun a ha => List.mem_append_left _ ha
  exact ⟨R.ex.trans e, R.len1, R.len2, fun i s x l h1 h2 h3 => (R.sl i s x l h1 h2 h3).mono e fun _ _ => rfl, (List.nodup_append.mp R.nd).1⟩
/-- one value, into a slot -/
theorem RT.set {t : Tr} {l : List Addr} {i : Nat} {us : List Tr} (R : RT K B σ H δ own [v] [t] [l]) (ht : t = .lst us) : Rel K B (σ.set i (some v)) H (δ.set i (.ow (.tr us))) (own.set i l) := by
  subst ht
  have el : ([l] : List (List Addr)).flatten = l := by simp
  have R1 := R
  obtain ⟨x, xs', l', ls', e1, e2, tr, e3, e4⟩ := R.tr
  cases e1; cases e2
  rw [el] at tr
  have nd := R.nd
  rw [el, List.nodup_append] at nd
  have sub : ∀ a ∈ (own.set i l).flatten, a ∈ own.flatten ++ l := fun a ha => List.mem_append.mpr (flat_set_sub ha)
  have e : Ex (cut H (own.flatten ++ l)) (cut H (own.set i l).flatten) := cut_sub sub
  have ex := R.ex
  rw [el] at ex
  refine ⟨ex.trans e, by simp [R.len1], by simp [R.len2], fun j s x m h1 h2 h3 => ?_, flat_set_nd nd.1 nd.2.1 fun a ha hb => nd.2.2 a hb a ha rfl⟩
  rcases set_get h1 with ⟨e1, rfl⟩ | ⟨n1, g1⟩
  · rcases set_get h2 with ⟨_, rfl⟩ | ⟨n2, _⟩
    · rcases set_get h3 with ⟨_, rfl⟩ | ⟨n3, _⟩
      · exact ⟨v, rfl, TrIs.mono e _ v _ (fun _ _ => rfl) tr⟩
      · exact absurd e1 n3
    · exact absurd e1 n2
  · rcases set_get h2 with ⟨e2, _⟩ | ⟨_, g2⟩
    · exact absurd e2 n1
    · rcases set_get h3 with ⟨e3, _⟩ | ⟨_, g3⟩
      · exact absurd e3 n1
      · have q := R.sl j s x m g1 g2 g3
        rw [el] at q
        exact q.mono e fun _ _ => rfl
theorem RT.ret {t : Tr} {l : List Addr} {us : List Tr} (R : RT K B σ H δ own [v] [t] [l]) (ht : t = .lst us) : RetIs K B v H (.ow (.tr us)) := by
  subst ht
  have el : ([l] : List (List Addr)).flatten = l := by simp
  obtain ⟨x, xs', l', ls', e1, e2, tr, e3, e4⟩ := R.tr
  cases e1; cases e2
  rw [el] at tr
  have e : Ex (cut H (own.flatten ++ l)) (cut H l) := cut_sub fun a ha => List.mem_append_right _ ha
  have ex := R.ex
  rw [el] at ex
  have nd := R.nd
  rw [el, List.nodup_append] at nd
  refine ⟨l, TrIs.mono e _ v l (fun _ _ => rfl) tr, fun a ha => R.free a (by rw [el]; exact List.mem_append_right _ ha), ex.trans e, nd.2.1⟩
end
section
variable (X : Cx) (H0 : Hp)
/-- a new tree -/
def WN (e : Expr) (δ : List S) (k : Tr → Prop) : Prop := ∀ σ G, RelS X.K H0 σ G δ → semE X e σ G (fun v G' => ∃ t, NewT X.K G v G' t ∧ k t)
/-- a tree; slots may be given up to it -/
def WT (e : Expr) (δ : List S) (k : Tr → List S → Prop) : Prop := ∀ B σ H own vs ts ls, Ex H0 B → RT X.K B σ H δ own vs ts ls → semE X e σ H (fun v H' => ∃ t δ' own' l, RT X.K B σ H' δ' own' (vs ++ [v]) (ts ++ [t]) (ls ++ [l]) ∧ Ex H H' ∧ k t δ')
def WTs (es : List Expr) (δ : List S) (k : List Tr → List S → Prop) : Prop := ∀ B σ H own vs ts ls, Ex H0 B → RT X.K B σ H δ own vs ts ls → semA X es σ H (fun ws H' => ∃ us δ' own' ls', RT X.K B σ H' δ' own' (vs ++ ws) (ts ++ us) (ls ++ ls') ∧ Ex H H' ∧ us.length = es.length ∧ k us δ')
def WNs (es : List Expr) (δ : List S) (k : List Tr → Prop) : Prop := ∀ σ G H vs ts ls, RelS X.K H0 σ G δ → RT X.K G [] H [] [] vs ts ls → semA X es σ H (fun ws H' => ∃ us ls', RT X.K G [] H' [] [] (vs ++ ws) (ts ++ us) (ls ++ ls') ∧ k us)
end
section
variable {X : Cx} {H0 : Hp} {δ : List S} {e : Expr} {es : List Expr} {pos p : Pos} {E : En}
theorem RelS.base {K : PySem.W.Frag} {σ : L2.St} {G : Hp} (R : RelS K H0 σ G δ) : RelS K H0 σ G δ := R
theorem wn_wu {k : Tr → Prop} (h : ∀ {σ G}, RelS X.K H0 σ G δ → semE X e σ G (fun v G' => ∃ r, RetIs X.K G v G' r ∧ k (asT r))) : WN X H0 e δ k := fun σ G R => (h R).mono fun v G' ⟨r, i, q⟩ => ⟨asT r, i.newT, q⟩
theorem wt_wn {k : Tr → List S → Prop} (h : WN X H0 e δ fun t => k t δ) : WT X H0 e δ k := fun B σ H own vs ts ls hB R =>
  (semE.frame R.owned (h σ _ (R.toS.weak hB))).mono fun v H' ⟨G, eq, n, t, nt, q⟩ => by
    subst eq
    obtain ⟨l, R'⟩ := R.push n nt
    exact ⟨t, δ, own, l, R', mrg_ex nt.ex, q⟩
def mvT : Ow → Option Tr
  | .lst ds => some (.lst (ds.map .sh))
  | .tr ts => some (.lst ts)
  | _ => none
theorem wt_mv {k : Tr → List S → Prop} {x : Str} (i : Nat) {o : Ow} {t : Tr} (hi : δ[i]? = some (.ow o)) (ho : mvT o = some t) (h : k t (δ.set i .no)) (hp : PE X (.Name x pos) (tVar i)) : WT X H0 (.Name x pos) δ k := fun B σ H own vs ts ls hB R => by
  have ho2 : (∃ ds, o = .lst ds) ∨ ∃ us, o = .tr us := by
    cases o with
    | lst ds => exact .inl ⟨ds, rfl⟩
    | tr us => exact .inr ⟨us, rfl⟩
    | _ => cases ho
  have et : asT (.ow o) = t := by
    cases o with
    | lst ds => cases ho; rfl
    | tr us => cases ho; rfl
    | _ => cases ho
  obtain ⟨v, l, h1, R'⟩ := R.move hi ho2
  rw [et] at R'
  exact toE hp ⟨v, h1, t, _, _, l, R', Same.refl _, h⟩
theorem wts_nil {k : List Tr → List S → Prop} (h : k [] δ) : WTs X H0 [] δ k := fun B σ H own vs ts ls hB R => toA pa_nil ⟨[], δ, own, [], by rw [List.append_nil, List.append_nil, List.append_nil]; exact R, Same.refl _, rfl, h⟩
theorem wts_cons {k : List Tr → List S → Prop} (h : WT X H0 e δ fun t δ' => WTs X H0 es δ' fun us δ'' => k (t :: us) δ'') (hs : notStar e = true) : WTs X H0 (e :: es) δ k := fun B σ H own vs ts ls hB R => toA (pa_cons pe_sem pa_sem (star_of hs)) ((h B σ H own vs ts ls hB R).mono fun v H' ⟨t, δ', own', l, R', e1, q⟩ =>
  (q B σ H' own' _ _ _ hB R').mono fun ws H'' ⟨us, δ'', own'', ls'', R'', e2, n2, q2⟩ => ⟨t :: us, δ'', own'', l :: ls'', by simpa using R'', e1.trans e2, by rw [List.length_cons, List.length_cons, n2], q2⟩)
theorem wt_lst {k : Tr → List S → Prop} (h : WTs X H0 es δ fun ts δ' => k (.lst ts) δ') (hl : Nat.ble es.length 100000 = true) : WT X H0 (.List es pos) δ k := fun B σ H own vs ts ls hB R =>
  toE (pe_lst pa_sem) ((h B σ H own vs ts ls hB R).mono fun ws H' ⟨us, δ', own', ls', R', e1, n, q⟩ => by
    obtain ⟨l1, l2⟩ := trs_len R.tr
    obtain ⟨_, t2⟩ := trs_split R'.tr l1 l2
    refine ⟨Nat.le_trans (by rw [(trs_len t2).1, n]; exact Nat.le_of_ble_eq_true hl) (by decide), fun p hp => ?_⟩
    exact ⟨.lst us, δ', own', _, R'.pack l1 l2 hp, e1.trans (Ex.new hp), q⟩)
/-! a new tree: displays, comprehensions -/
theorem RT.newT {K : PySem.W.Frag} {G H : Hp} {v : V} {t : Tr} {l : List Addr} (R : RT K G [] H [] [] [v] [t] [l]) : NewT K G v H t := by
  have el : (([] : List (List Addr)).flatten ++ [l].flatten) = l := by simp
  obtain ⟨x, xs', l', ls', e1, e2, tr, e3, e4⟩ := R.tr
  cases e1; cases e2
  have fr := R.free
  have ex := R.ex
  have nd := R.nd
  rw [el] at tr fr ex nd
  exact ⟨l, tr, fr, ex, nd⟩
theorem RT.nil {K : PySem.W.Frag} {G H : Hp} (e : Ex G H) : RT K G [] H [] [] [] [] [] := by
  have el : (([] : List (List Addr)).flatten ++ ([] : List (List Addr)).flatten) = [] := by simp
  exact ⟨by rw [el, cut_nil]; exact e, rfl, rfl, fun i s x l h => (by cases h), ⟨rfl, rfl⟩, by rw [el]; exact List.nodup_nil⟩
theorem wns_nil {k : List Tr → Prop} (h : k []) : WNs X H0 [] δ k := fun σ G H vs ts ls R0 R => toA pa_nil ⟨[], [], by rw [List.append_nil, List.append_nil, List.append_nil]; exact R, h⟩
theorem wns_cons {k : List Tr → Prop} (h : WN X H0 e δ fun t => WNs X H0 es δ fun us => k (t :: us)) (hs : notStar e = true) : WNs X H0 (e :: es) δ k := fun σ G H vs ts ls R0 R => toA (pa_cons pe_sem pa_sem (star_of hs)) ((semE.frame R.owned (h σ _ (R0.mono R.ex))).mono fun v H' ⟨G', eq, n, t, nt, q⟩ => by
  subst eq
  obtain ⟨l, R'⟩ := R.push n nt
  exact (q σ G _ _ _ _ R0 R').mono fun ws H'' ⟨us, ls'', R'', q2⟩ => ⟨t :: us, l :: ls'', by simpa using R'', q2⟩)
theorem wn_lst {k : Tr → Prop} (h : WNs X H0 es δ fun ts => ts.length = es.length ∧ k (.lst ts)) (hl : Nat.ble es.length 100000 = true) : WN X H0 (.List es pos) δ k := fun σ G R0 =>
  toE (pe_lst pa_sem) ((h σ G G [] [] [] R0 (RT.nil (Same.refl G))).mono fun ws H' ⟨us, ls', R', n, q⟩ => by
    have lw : ws.length = es.length := by have := (trs_len R'.tr).1; rw [List.nil_append, List.nil_append] at this; rw [this, n]
    refine ⟨Nat.le_trans (by rw [lw]; exact Nat.le_of_ble_eq_true hl) (by decide), fun p hp => ?_⟩
    exact ⟨.lst us, (RT.pack (vs := []) (ts := []) (ls := []) R' rfl rfl hp).newT, q⟩)
theorem wns_len {k : List Tr → Prop} (h : WNs X H0 es δ k) : True := trivial
/-- what a comprehension's turns do, by trees -/
def LCT (X : Cx) (sc : Scope) (H0 : Hp) (elt : Expr) (δ : List S) (v : Nat) (ko : List Tr → Prop) (n : Nat) (item : Nat → D) : Prop := ∃ R : Nat → Tr → Prop, n ≤ 100000 ∧ (∀ i, i < n → ∀ (s : Shared) (h : Hp) (C : Addr) (cl : List (Str × Addr)) (fp : List Addr), WN (X.blk s h sc (compEnvC sc cl C X.env) fp) H0 elt (δ.set v (.sh (item i))) (R i)) ∧
  ∀ ts : List Tr, ts.length = n → (∀ (i : Nat) t, ts[i]? = some t → R i t) → ko ts
theorem own_lst {H : Hp} {O : List Addr} (h : ∀ a ∈ O, ∃ xs, H a = some (.lst xs)) : ∀ a ∈ O, OwnAt H O a := fun a ha => .inl (h a ha)
theorem mrg_cutH {H0 H : Hp} {ps : List Addr} (k : ∀ a ∈ ps, H a = H0 a) : mrg H0 ps (cut H ps) = H := by
  funext a
  by_cases z : a ∈ ps
  · rw [mrg_in z, k a z]
  · rw [mrg_out z, cut_out z]
theorem lct_sem {te : TE} {wv n : Nat} {J : It} {item : Nat → D} {P : Nat → List Tr → Prop} {σ : L2.St} {Hf : Hp} {ps : List Addr} {δ : List S} {Q : VK} (fe : FrE te) (hps : ∀ a ∈ ps, OwnAt Hf ps a) (R1 : RelS X.K H0 σ (cut Hf ps) δ)
    (hJ : ∀ i H, Ex (cut Hf ps) H → (i < n → J.go i H ∧ ∀ x H', J.yld i H x H' → H' = H ∧ Is X.K (cut Hf ps) x (item i)) ∧ (n ≤ i → J.stop i H)) (hP : P 0 []) (hn : n ≤ 100000)
    (turn : ∀ i ts, i < n → P i ts → ts.length = i → ∀ G1 σ', Ex (cut Hf ps) G1 → RelS X.K H0 σ' G1 (δ.set wv (.sh (item i))) → te σ' G1 fun y G2 => ∃ t, NewT X.K G1 y G2 t ∧ P (i + 1) (ts ++ [t]))
    (done : ∀ A G ts, NewT X.K (cut Hf ps) (.ref A) G (.lst ts) → (∀ a ∈ ps, G a = none) → ts.length = n → P n ts → Q (.ref A) (mrg Hf ps G)) : ∀ A, Hf A = none → ∃ W : Nat → Nat → Hp → Prop, (∃ m, W 0 m (upd Hf A (.lst []))) ∧ ∀ i m H, W i m H →
      (J.stop i H ∧ Q (.ref A) H) ∨ (J.go i H ∧ ∃ Nx : Hp → Prop, (∀ H', Nx H' → ∃ m', m' < m ∧ W (i + 1) m' H') ∧ ∀ x H', J.yld i H x H' → gName wv x (wipe σ [wv]) H' fun σ2 H2 => wipe σ2 [wv] = wipe σ [wv] ∧ tYes σ2 H2 fun b H3 =>
        if b = true then te σ2 H3 fun y H4 => ∃ acc, H4 A = some (.lst acc) ∧ acc.length < sizeLine ∧ Nx (upd H4 A (.lst (acc ++ [y]))) else Nx H3) := fun A hA => by
  have nA : A ∉ ps := fun z => by
    obtain ⟨u, hu⟩ := (hps A z).some
    rw [hA] at hu; cases hu
  refine ⟨fun i m H => m = n - i ∧ i ≤ n ∧ ∃ (as : List V) (ts : List Tr) (ls : List (List Addr)), H A = some (.lst as) ∧ (∀ a ∈ ps, H a = Hf a) ∧ Ex (cut Hf ps) (cut H (A :: (ls.flatten ++ ps))) ∧ TrsIs X.K H (cut H (A :: (ls.flatten ++ ps))) ts as ls ∧ (A :: ls.flatten).Nodup ∧ (∀ a ∈ ls.flatten, a ∉ ps) ∧ ts.length = i ∧ P i ts, ⟨n, by simp, Nat.zero_le _, [], [], [], upd_same, fun a ha => upd_ne (by rintro rfl; exact nA ha), ?_, ⟨rfl, rfl⟩, by simp, fun a ha => (by cases ha), rfl, hP⟩, ?_⟩
  · intro a u q
    obtain ⟨n1, n2⟩ := cut_some q
    have ne : a ≠ A := ne_of_none n2 hA
    rw [cut_out (by simp [ne, n1]), upd_ne ne]
    exact n2
  rintro i m H ⟨rfl, hi, as, ts, ls, hH, kps, e1, tr, nd, dps, hlen, p⟩
  have e2 : Ex (cut Hf ps) H := e1.trans cut_ex
  obtain ⟨j1, j2⟩ := hJ i H e2
  by_cases hlt : i < n
  · obtain ⟨g1, g2⟩ := j1 hlt
    refine .inr ⟨g1, fun H' => ∃ (as : List V) (ts : List Tr) (ls : List (List Addr)), H' A = some (.lst as) ∧ (∀ a ∈ ps, H' a = Hf a) ∧ Ex (cut Hf ps) (cut H' (A :: (ls.flatten ++ ps))) ∧ TrsIs X.K H' (cut H' (A :: (ls.flatten ++ ps))) ts as ls ∧ (A :: ls.flatten).Nodup ∧ (∀ a ∈ ls.flatten, a ∉ ps) ∧ ts.length = i + 1 ∧ P (i + 1) ts, fun H' h => ⟨n - (i + 1), by omega, rfl, hlt, h⟩, fun x H' y => ?_⟩
    obtain ⟨rfl, ix⟩ := g2 x H' y
    have w1 : (wipe σ [wv]).set wv (some x) = σ.set wv (some x) := by
      show (σ.set wv none).set wv (some x) = _
      rw [List.set_set]
    show wipe ((wipe σ [wv]).set wv (some x)) [wv] = wipe σ [wv] ∧ tYes ((wipe σ [wv]).set wv (some x)) _ _
    rw [w1]
    refine ⟨by show (σ.set wv (some x)).set wv none = σ.set wv none; rw [List.set_set], ?_⟩
    unfold tYes
    refine iteT ?_
    have R2 : RelS X.K H0 (σ.set wv (some x)) (cut H' (A :: (ls.flatten ++ ps))) (δ.set wv (.sh (item i))) := RelS.set (R1.mono e1) (ix.mono e1)
    have owned : ∀ a ∈ A :: (ls.flatten ++ ps), OwnAt H' (A :: (ls.flatten ++ ps)) a := fun a ha => by
      rcases List.mem_cons.mp ha with rfl | ha
      · exact .inl ⟨_, hH⟩
      · rcases List.mem_append.mp ha with ha | ha
        · exact .inl (TrsIs.lst_at ts as ls tr a ha)
        · have up : ∀ b ∈ ps, b ∈ A :: (ls.flatten ++ ps) := fun b hb => List.mem_cons_of_mem _ (List.mem_append_right _ hb)
          rcases hps a ha with ⟨xs, e⟩ | ⟨k, e⟩ | ⟨C, dx, fs, e, y⟩ | ⟨x, C, fs, e, y, e2⟩
          · exact .inl ⟨xs, by rw [kps a ha]; exact e⟩
          · exact .inr (.inl ⟨k, by rw [kps a ha]; exact e⟩)
          · exact .inr (.inr (.inl ⟨C, dx, fs, by rw [kps a ha]; exact e, up _ y⟩))
          · exact .inr (.inr (.inr ⟨x, C, fs, by rw [kps a ha]; exact e, up _ y, by rw [kps x y]; exact e2⟩))
    refine fe _ H' (A :: (ls.flatten ++ ps)) _ _ owned (turn i ts hlt p hlen _ _ e1 R2) fun y G2 n2 ⟨t, nt, pt⟩ => ?_
    obtain ⟨l, hl, fr, ee, ndl⟩ := nt
    refine ⟨as, by rw [mrg_in (by simp)]; exact hH, Nat.lt_of_le_of_lt (by rw [(trs_len tr).1, hlen]; omega : as.length ≤ 100000) (by decide), as ++ [y], ts ++ [t], ls ++ [l], upd_same, ?_⟩
    have eF : (ls ++ [l]).flatten = ls.flatten ++ l := by simp
    have lG : ∀ a ∈ l, ∃ u, G2 a = some u := fun a ha => by
      obtain ⟨xs, e⟩ := TrIs.lst_at t y l hl a ha
      exact ⟨_, e⟩
    have lO : ∀ a ∈ l, a ∉ A :: (ls.flatten ++ ps) := fun a ha z => by obtain ⟨u, e⟩ := lG a ha; rw [n2 a z] at e; cases e
    have lA : A ∉ l := fun z => lO A z (by simp)
    have lls : ∀ a ∈ l, a ∉ ls.flatten := fun a ha z => lO a ha (List.mem_cons_of_mem _ (List.mem_append_left _ z))
    have lps : ∀ a ∈ l, a ∉ ps := fun a ha z => lO a ha (List.mem_cons_of_mem _ (List.mem_append_right _ z))
    have nAls : A ∉ ls.flatten := (List.nodup_cons.mp nd).1
    have cc : cut (upd (mrg H' (A :: (ls.flatten ++ ps)) G2) A (.lst (as ++ [y]))) (A :: ((ls ++ [l]).flatten ++ ps)) = cut G2 l := by
      rw [eF]
      funext a
      by_cases z : a = A
      · subst z; rw [cut_in (by simp), cut_out lA, n2 a (by simp)]
      · by_cases y1 : a ∈ ls.flatten ++ ps
        · rw [cut_in (by simp only [List.mem_cons, List.mem_append] at y1 ⊢; rcases y1 with y1 | y1; exact .inr (.inl (.inl y1)); exact .inr (.inr y1))]
          by_cases y2 : a ∈ l
          · rw [cut_in y2]
          · rw [cut_out y2, n2 a (List.mem_cons_of_mem _ y1)]
        · by_cases y2 : a ∈ l
          · rw [cut_in (by simp [y2]), cut_in y2]
          · rw [cut_out (by simp only [List.mem_cons, List.mem_append] at y1 ⊢; rintro (w | (w | w) | w); exact z w; exact y1 (.inl w); exact y2 w; exact y1 (.inr w)), cut_out y2, upd_ne z, mrg_out (by rw [List.mem_cons]; rintro (w | w); exact z w; exact y1 w)]
    rw [cc]
    refine ⟨fun a ha => by rw [upd_ne (by rintro rfl; exact nA ha), mrg_in (List.mem_cons_of_mem _ (List.mem_append_right _ ha))]; exact kps a ha, e1.trans ee, trs_snoc (TrsIs.mono ee ts as ls (fun a ha => ?_) tr) (TrIs.mono (Same.refl _) t y l (fun a ha => ?_) hl), ?_, fun a ha => ?_, by rw [List.length_append, hlen]; rfl, pt⟩
    · rw [upd_ne (by rintro rfl; exact nAls ha), mrg_in (List.mem_cons_of_mem _ (List.mem_append_left _ ha))]
    · rw [upd_ne (by rintro rfl; exact lA ha), mrg_out (lO a ha)]
    · rw [eF]
      refine List.nodup_cons.mpr ⟨by rw [List.mem_append]; rintro (z | z); exact nAls z; exact lA z, List.nodup_append.mpr ⟨(List.nodup_cons.mp nd).2, ndl, fun a ha b hb e => lls b hb (e ▸ ha)⟩⟩
    · rw [eF] at ha
      rcases List.mem_append.mp ha with z | z
      · exact dps a z
      · exact lps a z
  · have e : i = n := by omega
    subst e
    have dA : ∀ a ∈ A :: ls.flatten, a ∉ ps := fun a ha => by
      rcases List.mem_cons.mp ha with rfl | ha
      · exact nA
      · exact dps a ha
    have cc : cut (cut H ps) (A :: ls.flatten) = cut H (A :: (ls.flatten ++ ps)) := by
      funext a
      by_cases z : a ∈ A :: ls.flatten
      · rw [cut_in z, cut_in (by simp only [List.mem_cons, List.mem_append] at z ⊢; rcases z with z | z; exact .inl z; exact .inr (.inl z))]
      · by_cases y : a ∈ ps
        · rw [cut_out z, cut_in y, cut_in (by simp [y])]
        · rw [cut_out z, cut_out y, cut_out (by simp only [List.mem_cons, List.mem_append] at z ⊢; rintro (w | w | w); exact z (.inl w); exact z (.inr w); exact y w)]
    have q := done A (cut H ps) ts ⟨A :: ls.flatten, ⟨A, as, ls, rfl, rfl, by rw [cut_out nA]; exact hH, by rw [cc]; exact TrsIs.mono (Same.refl _) ts as ls (fun a ha => cut_out (dps a ha)) tr⟩, fun a ha => e1.free (cut_in (by
      rcases List.mem_cons.mp ha with rfl | ha
      · simp
      · exact List.mem_cons_of_mem _ (List.mem_append_left _ ha))), by rw [cc]; exact e1, nd⟩ (fun a ha => cut_in ha) hlen p
    rw [mrg_cutH kps] at q
    exact .inl ⟨j2 (Nat.le_refl _), q⟩
theorem wn_lc {x : Str} {elt it : Expr} {sc : Scope} (v : Nat) (hN : X.N.Nodup) {k : Tr → Prop} (h : Wi X H0 it δ (LCT X sc H0 elt δ v fun ts => k (.lst ts))) (hc : X.calm = true) (ok : blkB X.N X.env.scope sc x v = true) (hi : X.N[v]? = some x) (hl : ∀ cl C, (compEnvC sc cl C X.env).scope.names.lookup x = some .local)
    (hs : ∀ x, foldedSetIterable it X.env x = pure x) : WN X H0 (.ListComp elt [⟨.Name x p, it, [], 0⟩] sc pos) δ k := fun σ G R0 => by
  obtain ⟨wi, hpi, fri, hw⟩ := h
  refine toE (pe_lc hc hN (hpi _) (blkB_ok ok) (pgb hN hi hl) (fun _ _ _ _ _ => pts_nil) pe_b hs) (fri_mono fri (hw σ G R0) fun J G1 ⟨e1, n, item, ⟨R, hl, hw, q⟩, g⟩ => ?_)
  refine lct_sem (X := X) (H0 := H0) (n := n) (wv := v) (item := item) (P := fun i ts => ∀ (j : Nat) t, ts[j]? = some t → R j t) (Q := fun v' G' => ∃ t, NewT X.K G v' G' t ∧ k t) (ps := []) fr_bE (fun a ha => by cases ha) (by rw [cut_nil]; exact R0.mono e1) (by rw [cut_nil]; exact g) (fun j t z => by cases z) hl (fun i ts hi p hlen G2 σ' e2 R' s h' C cl fp => ?_) fun A H ts N _ hlen p => ?_
  · refine (hw i hi s h' C cl fp σ' G2 R').mono fun y G3 ⟨t, nt, rt⟩ => ⟨t, nt, fun j u z => ?_⟩
    by_cases hj : j < ts.length
    · rw [List.getElem?_append_left hj] at z
      exact p j u z
    · rw [List.getElem?_append_right (by omega)] at z
      have e0 : j - ts.length = 0 := by
        cases w : j - ts.length with
        | zero => rfl
        | succ m => rw [w] at z; cases z
      rw [e0] at z
      cases z
      have : j = i := by omega
      rw [this]; exact rt
  · rw [show mrg G1 [] H = H from by funext a; exact mrg_out (by simp)]
    rw [cut_nil] at N
    obtain ⟨l, a, b, c, d⟩ := N
    exact ⟨.lst ts, ⟨l, a, fun z hz => e1.free (b z hz), e1.trans c, d⟩, q ts hlen p⟩
end
end DL
set_option Elab.async false
set_option linter.all false
set_option maxRecDepth 100000
set_option maxHeartbeats 2000000
/-! Part o: a write within a tree. -/
namespace DL
open PySem PySem.Spec PyProof.Rows L2
/-- from v down the places π stands the list at q -/
def AtP (H : Hp) : V → List Nat → Addr → Prop
  | v, [], q => v = .ref q
  | v, j :: π, q => ∃ p xs x, v = .ref p ∧ H p = some (.lst xs) ∧ xs[j]? = some x ∧ AtP H x π q
def subAt : List Tr → List Nat → Option (List Tr)
  | ts, [] => some ts
  | ts, j :: π => match ts[j]? with
    | some (.lst us) => subAt us π
    | _ => none
def updAt : List Tr → List Nat → List Tr → List Tr
  | _, [], us => us
  | ts, j :: π, us => match ts[j]? with
    | some (.lst vs) => ts.set j (.lst (updAt vs π us))
    | _ => ts
section
variable {K : PySem.W.Frag} {H H' G G' H0 B : Hp} {v : V} {σ : L2.St} {δ : List S} {own : List (List Addr)}
theorem AtP.mono (e : Ex H H') : ∀ {π : List Nat} {v : V} {q : Addr}, AtP H v π q → AtP H' v π q
  | [], v, q, h => h
  | j :: π, v, q, ⟨p, xs, x, a, b, c, d⟩ => ⟨p, xs, x, a, e _ _ b, c, AtP.mono e d⟩
theorem AtP.snoc {j : Nat} {q' : Addr} {xs : List V} : ∀ {π : List Nat} {v : V} {q : Addr}, AtP H v π q → H q = some (.lst xs) → xs[j]? = some (.ref q') → AtP H v (π ++ [j]) q'
  | [], v, q, h, h1, h2 => ⟨q, xs, .ref q', h, h1, h2, rfl⟩
  | k :: π, v, q, ⟨p, ys, y, a, b, c, d⟩, h1, h2 => ⟨p, ys, y, a, b, c, AtP.snoc d h1 h2⟩
theorem subAt_snoc {j : Nat} {us vs : List Tr} : ∀ {π : List Nat} {ts : List Tr}, subAt ts π = some us → us[j]? = some (.lst vs) → subAt ts (π ++ [j]) = some vs
  | [], ts, h, h2 => by
    cases h
    show (match us[j]? with | some (.lst us) => subAt us [] | _ => none) = _
    rw [h2]; rfl
  | k :: π, ts, h, h2 => by
    show (match ts[k]? with | some (.lst us) => subAt us (π ++ [j]) | _ => none) = _
    have h : (match ts[k]? with | some (.lst us) => subAt us π | _ => none) = some us := h
    cases e : ts[k]? with
    | none => rw [e] at h; cases h
    | some t =>
      rw [e] at h
      cases t with
      | sh d => cases h
      | lst ws => exact subAt_snoc (π := π) h h2
/-- one child -/
theorem trs_get : ∀ {ts : List Tr} {xs : List V} {ls : List (List Addr)} {j : Nat} {t : Tr}, TrsIs K H G ts xs ls → ts[j]? = some t → ∃ x l, xs[j]? = some x ∧ ls[j]? = some l ∧ TrIs K H G t x l
  | [], xs, ls, j, t, h, e => by cases e
  | t :: ts, xs, ls, j, u, h, e => by
    obtain ⟨x, xs', l, ls', rfl, rfl, a, b⟩ := h
    cases j with
    | zero => cases e; exact ⟨x, l, rfl, rfl, a⟩
    | succ j => exact trs_get (ts := ts) (j := j) b e
theorem trs_set {t : Tr} {x : V} {l : List Addr} : ∀ {ts : List Tr} {xs : List V} {ls : List (List Addr)} {j : Nat}, TrsIs K H G ts xs ls → TrIs K H G t x l → TrsIs K H G (ts.set j t) (xs.set j x) (ls.set j l)
  | [], xs, ls, j, h, i => by
    obtain ⟨rfl, rfl⟩ := h
    exact ⟨rfl, rfl⟩
  | t' :: ts, xs, ls, j, h, i => by
    obtain ⟨y, xs', m, ls', rfl, rfl, a, b⟩ := h
    cases j with
    | zero => exact ⟨x, xs', l, ls', rfl, rfl, i, b⟩
    | succ j => exact ⟨y, _, m, _, rfl, rfl, a, trs_set b i⟩
/-- an edit of one child, the others' objects as they are -/
theorem trs_upd {t : Tr} {x : V} {l' : List Addr} : ∀ {ts : List Tr} {xs : List V} {ls : List (List Addr)} {j : Nat} {l : List Addr}, TrsIs K H G ts xs ls → ls[j]? = some l → xs[j]? = some x → ls.flatten.Nodup → (∀ a ∈ ls.flatten, a ∉ l → H' a = H a) → TrIs K H' G t x l' → TrsIs K H' G (ts.set j t) xs (ls.set j l')
  | [], xs, ls, j, l, h, e, _, _, _, _ => by
    obtain ⟨rfl, rfl⟩ := h
    cases e
  | t' :: ts, xs, ls, j, l, h, e, e2, nd, k, i => by
    obtain ⟨y, xs', m, ls', rfl, rfl, a, b⟩ := h
    rw [List.flatten_cons, List.nodup_append] at nd
    cases j with
    | zero =>
      cases e; cases e2
      exact ⟨x, xs', l', ls', rfl, rfl, i, TrsIs.mono (Same.refl _) ts xs' ls' (fun a ha => k a (by rw [List.flatten_cons]; exact List.mem_append_right _ ha) fun z => nd.2.2 a z a ha rfl) b⟩
    | succ j =>
      have hl : ∀ a ∈ l, a ∈ ls'.flatten := fun a ha => mem_flat (i := j) e ha
      exact ⟨y, xs', m, _, rfl, rfl, TrIs.mono (Same.refl _) t' y m (fun a ha => k a (by rw [List.flatten_cons]; exact List.mem_append_left _ ha) fun z => nd.2.2 a ha a (hl a z) rfl) a, trs_upd b e e2 nd.2.1 (fun a ha hn => k a (by rw [List.flatten_cons]; exact List.mem_append_right _ ha) hn) i⟩
/-- THE EDIT: the list at q, reached by π, gets new items -/
theorem tr_edit {xs' : List V} {us' : List Tr} {ls' : List (List Addr)} : ∀ (π : List Nat) {ts us : List Tr} {v : V} {L : List Addr} {q : Addr}, TrIs K H G (.lst ts) v L → L.Nodup → subAt ts π = some us → AtP H v π q →
    q ∈ L ∧ ∃ xs ls, H q = some (.lst xs) ∧ TrsIs K H G us xs ls ∧ ls.flatten.Nodup ∧ q ∉ ls.flatten ∧ (∀ a ∈ ls.flatten, a ∈ L) ∧
      (TrsIs K (upd H q (.lst xs')) G us' xs' ls' → ls'.flatten.Nodup → (∀ a ∈ ls'.flatten, a ≠ q ∧ (a ∈ L → a ∈ ls.flatten)) → ∃ L', TrIs K (upd H q (.lst xs')) G (.lst (updAt ts π us')) v L' ∧ L'.Nodup ∧ ∀ a ∈ L', a ∈ L ∨ a ∈ ls'.flatten)
  | [], ts, us, v, L, q, h, nd, hs, hp => by
    obtain ⟨p, xs, ls, rfl, rfl, hH, tr⟩ := h
    obtain rfl : q = p := by cases hp; rfl
    cases hs
    obtain ⟨n1, n2⟩ := List.nodup_cons.mp nd
    refine ⟨by simp, xs, ls, hH, tr, n2, n1, fun a ha => List.mem_cons_of_mem _ ha, fun h2 nd' k => ⟨q :: ls'.flatten, ⟨q, xs', ls', rfl, rfl, upd_same, h2⟩, List.nodup_cons.mpr ⟨fun z => (k q z).1 rfl, nd'⟩, fun a ha => ?_⟩⟩
    rcases List.mem_cons.mp ha with rfl | ha
    · exact .inl (by simp)
    · exact .inr ha
  | j :: π, ts, us, v, L, q, h, nd, hs, hp => by
    obtain ⟨p, xs, ls, rfl, rfl, hH, tr⟩ := h
    obtain ⟨p', ys, x, e1, e2, e3, hp⟩ := hp
    cases e1
    rw [hH] at e2; cases e2
    have hs : (match ts[j]? with | some (.lst us) => subAt us π | _ => none) = some us := hs
    cases et : ts[j]? with
    | none => rw [et] at hs; cases hs
    | some t =>
      rw [et] at hs
      cases t with
      | sh d => cases hs
      | lst ws =>
        have hs : subAt ws π = some us := hs
        obtain ⟨x', l, f1, f2, tx⟩ := trs_get tr et
        rw [e3] at f1; cases f1
        obtain ⟨n1, n2⟩ := List.nodup_cons.mp nd
        have ndl : l.Nodup := nd_part n2 f2
        have lsub : ∀ a ∈ l, a ∈ ls.flatten := fun a ha => mem_flat f2 ha
        obtain ⟨hq, zs, ms, g1, g2, g3, g4, g5, g6⟩ := tr_edit π tx ndl hs hp
        refine ⟨List.mem_cons_of_mem _ (lsub q hq), zs, ms, g1, g2, g3, g4, fun a ha => List.mem_cons_of_mem _ (lsub a (g5 a ha)), fun h2 nd' k => ?_⟩
        obtain ⟨L', t', nL, sub⟩ := g6 h2 nd' fun a ha => ⟨(k a ha).1, fun z => (k a ha).2 (List.mem_cons_of_mem _ (lsub a z))⟩
        have pq : p ≠ q := fun e => n1 (e ▸ lsub q hq)
        have apart : ∀ a ∈ L', a ∉ (ls.set j []).flatten := fun a ha z => by
          have pm := flat_set_perm f2
          have ndp := pm.nodup n2
          rw [List.nodup_append] at ndp
          rcases sub a ha with y | y
          · exact ndp.2.2 a z a y rfl
          · have w := (k a y).2 (List.mem_cons_of_mem _ (pm.mem_iff.mpr (List.mem_append_left _ z)))
            exact ndp.2.2 a z a (g5 a w) rfl
        have eu : updAt ts (j :: π) us' = ts.set j (.lst (updAt ws π us')) := by
          show (match ts[j]? with | some (.lst vs) => ts.set j (.lst (updAt vs π us')) | _ => ts) = _
          rw [et]
        rw [eu]
        have pm2 : (ls.set j L').flatten.Perm ((ls.set j []).flatten ++ L') := by
          have f3 : (ls.set j L')[j]? = some L' := List.getElem?_set_self (List.getElem?_eq_some_iff.mp f2).1
          have := flat_set_perm f3
          rw [List.set_set] at this
          exact this
        refine ⟨p :: (ls.set j L').flatten, ⟨p, xs, ls.set j L', rfl, rfl, by rw [upd_ne pq]; exact hH, trs_upd tr f2 e3 n2 (fun a ha hn => upd_ne fun e => hn (e ▸ hq)) t'⟩, ?_, fun a ha => ?_⟩
        · refine List.nodup_cons.mpr ⟨fun z => ?_, pm2.symm.nodup (List.nodup_append.mpr ⟨?_, nL, fun a ha b hb e => apart b hb (e ▸ ha)⟩)⟩
          · rcases List.mem_append.mp (pm2.mem_iff.mp z) with z | z
            · exact n1 ((flat_set_perm f2).mem_iff.mpr (List.mem_append_left _ z))
            · rcases sub p z with y | y
              · exact n1 (lsub p y)
              · exact n1 (lsub p (g5 p ((k p y).2 (by simp))))
          · have := (flat_set_perm f2).nodup n2
            exact (List.nodup_append.mp this).1
        · rcases List.mem_cons.mp ha with rfl | ha
          · exact .inl (by simp)
          · rcases List.mem_append.mp (pm2.mem_iff.mp ha) with z | z
            · exact .inl (List.mem_cons_of_mem _ ((flat_set_perm f2).mem_iff.mpr (List.mem_append_left _ z)))
            · rcases sub a z with y | y
              · exact .inl (List.mem_cons_of_mem _ (lsub a y))
              · exact .inr y
end
end DL
set_option Elab.async false
set_option linter.all false
set_option maxRecDepth 100000
set_option maxHeartbeats 2000000
/-! Part p: statements with trees. -/
namespace DL
open PySem PySem.Spec PyProof.Rows L2
/-! the same items: the same objects -/
mutual
theorem tr_addr {K : PySem.W.Frag} {H G : Hp} : ∀ (t : Tr) {v : V} {l l' : List Addr}, TrIs K H G t v l → TrIs K H G t v l' → l = l'
  | .sh d, v, l, l', h, h' => by rw [h.1, h'.1]
  | .lst ts, v, l, l', h, h' => by
    obtain ⟨p, xs, ls, rfl, rfl, hp, tr⟩ := h
    obtain ⟨p', xs', ls', e, rfl, hp', tr'⟩ := h'
    cases e
    rw [hp] at hp'; cases hp'
    rw [trs_addrs ts tr tr']
theorem trs_addrs {K : PySem.W.Frag} {H G : Hp} : ∀ (ts : List Tr) {xs : List V} {ls ls' : List (List Addr)}, TrsIs K H G ts xs ls → TrsIs K H G ts xs ls' → ls = ls'
  | [], xs, ls, ls', h, h' => by rw [h.2, h'.2]
  | t :: ts, xs, ls, ls', h, h' => by
    obtain ⟨x, xs', l, r, rfl, rfl, a, b⟩ := h
    obtain ⟨x', xs'', l', r', e, rfl, a', b'⟩ := h'
    cases e
    rw [tr_addr t a a', trs_addrs ts b b']
end
theorem trs_addr {K : PySem.W.Frag} {H G : Hp} {ts : List Tr} {xs : List V} {ls ls' : List (List Addr)} {a : Addr} (h : TrsIs K H G ts xs ls) (h' : TrsIs K H G ts xs ls') (m : a ∈ ls.flatten) : a ∈ ls'.flatten := by
  rw [← trs_addrs ts h h']; exact m
section
variable {K : PySem.W.Frag} {H H' G G' H0 B : Hp} {v w : V} {t : Tr} {l : List Addr} {σ : L2.St} {δ δ' : List S} {own : List (List Addr)}
theorem RT.grow {vs : List V} {ts : List Tr} {ls : List (List Addr)} (R : RT K B σ H δ own vs ts ls) (e : Ex H H') : RT K B σ H' δ own vs ts ls := by
  have same : ∀ a ∈ own.flatten ++ ls.flatten, H' a = H a := fun a ha => by
    obtain ⟨o, ho⟩ := (R.owned a ha).some
    rw [ho, e a o ho]
  exact ⟨R.ex.trans (cut_mono e), R.len1, R.len2, fun i s x m h1 h2 h3 => (R.sl i s x m h1 h2 h3).mono (cut_mono e) fun a ha => same a (List.mem_append_left _ (mem_flat h3 ha)), TrsIs.mono (cut_mono e) ts vs ls (fun a ha => same a (List.mem_append_right _ ha)) R.tr, R.nd⟩
theorem RT.edit0 {i : Nat} {ts0 us us' : List Tr} {π : List Nat} {root : V} {q : Addr} {xs' : List V} (R : RT K B σ H δ own [w] [t] [l]) (hi : δ[i]? = some (.ow (.tr ts0))) (hr : σ[i]? = some (some root)) (hs : subAt ts0 π = some us) (hp : AtP H root π q)
    (hn : ∀ xs ls, H q = some (.lst xs) → TrsIs K H (cut H (own.flatten ++ l)) us xs ls → TrIs K H (cut H (own.flatten ++ l)) t w l → ls.flatten.Nodup → q ∉ ls.flatten → l.Nodup → q ∉ l → (∀ a ∈ l, a ∉ ls.flatten) →
      ∃ ls', TrsIs K (upd H q (.lst xs')) (cut H (own.flatten ++ l)) us' xs' ls' ∧ ls'.flatten.Nodup ∧ ∀ a ∈ ls'.flatten, a ∈ ls.flatten ∨ a ∈ l) :
    ∃ own', Rel K B σ (upd H q (.lst xs')) (δ.set i (.ow (.tr (updAt ts0 π us')))) own' := by
  have el : ([l] : List (List Addr)).flatten = l := by simp
  have ex := R.ex
  have nd := R.nd
  have tr := R.tr
  rw [el] at ex nd tr
  obtain ⟨y, ys', m, ms', e1, e2, tw, _, _⟩ := tr
  cases e1; cases e2
  rw [List.nodup_append] at nd
  obtain ⟨x0, L, g1, g2, root', e3, tx⟩ := R.idx hi
  rw [hr] at g1; cases g1
  cases e3
  rw [el] at tx
  have ndL : L.Nodup := nd_part nd.1 g2
  have Lsub : ∀ a ∈ L, a ∈ own.flatten := fun a ha => mem_flat g2 ha
  obtain ⟨hq, xs, ls, f1, f2, f3, f4, f5, -⟩ := tr_edit (xs' := xs') (us' := us') (ls' := []) π tx ndL hs hp
  have ql : q ∉ l := fun z => nd.2.2 q (Lsub q hq) q z rfl
  have dl : ∀ a ∈ l, a ∉ ls.flatten := fun a ha z => nd.2.2 a (Lsub a (f5 a z)) a ha rfl
  obtain ⟨ls', t1, t2, t3⟩ := hn xs ls f1 f2 tw f3 f4 nd.2.1 ql dl
  obtain ⟨_, xs2, ls2, f1', f2', f3', f4', f5', f6⟩ := tr_edit (xs' := xs') (us' := us') (ls' := ls') π tx ndL hs hp
  obtain ⟨L', h1, h2, h3⟩ := f6 t1 t2 fun a ha => by
    rcases t3 a ha with z | z
    · refine ⟨fun e => f4 (e ▸ z), fun _ => ?_⟩
      rw [f1] at f1'; cases f1'
      exact trs_addr f2 f2' z
    · exact ⟨fun e => ql (e ▸ z), fun y => absurd rfl (nd.2.2 a (Lsub a y) a z)⟩
  have pm := flat_set_perm g2
  have ndp := pm.nodup nd.1
  rw [List.nodup_append] at ndp
  have sub : ∀ a ∈ L', a ∈ L ∨ a ∈ l := fun a ha => by
    rcases h3 a ha with z | z
    · exact .inl z
    · rcases t3 a z with y | y
      · exact .inl (f5 a y)
      · exact .inr y
  have apart : ∀ a ∈ L', a ∉ (own.set i []).flatten := fun a ha z => by
    rcases sub a ha with y | y
    · exact ndp.2.2 a z a y rfl
    · exact nd.2.2 a (pm.mem_iff.mpr (List.mem_append_left _ z)) a y rfl
  have eset : (own.set i []).set i L' = own.set i L' := by rw [List.set_set]
  have newO : ∀ a ∈ (own.set i L').flatten, a ∈ own.flatten ++ l := fun a ha => by
    rcases flat_set_sub ha with z | z
    · exact List.mem_append_left _ z
    · rcases sub a z with y | y
      · exact List.mem_append_left _ (Lsub a y)
      · exact List.mem_append_right _ y
  have e : Ex (cut H (own.flatten ++ l)) (cut (upd H q (.lst xs')) (own.set i L').flatten) := fun a u z => by
    obtain ⟨n1, n2⟩ := cut_some z
    rw [cut_out fun y => n1 (newO a y), upd_ne fun y => n1 (by rw [y]; exact List.mem_append_left _ (Lsub q hq))]
    exact n2
  refine ⟨own.set i L', ex.trans e, by simp [R.len1], by simp [R.len2], fun j s x m k1 k2 k3 => ?_, ?_⟩
  · rcases set_get k1 with ⟨rfl, rfl⟩ | ⟨n1, k1⟩
    · rcases set_get k3 with ⟨_, rfl⟩ | ⟨n3, _⟩
      · rw [hr] at k2; cases k2
        exact ⟨root, rfl, TrIs.mono e _ root _ (fun _ _ => rfl) h1⟩
      · exact absurd rfl n3
    · rcases set_get k3 with ⟨e3, _⟩ | ⟨_, k3⟩
      · exact absurd e3 n1
      · have q3 := R.sl j s x m k1 k2 k3
        rw [el] at q3
        exact q3.mono e fun a ha => upd_ne fun z => nd_apart nd.1 g2 k3 n1 hq (z ▸ ha)
  · rw [← eset]
    exact flat_set_nd ndp.1 h2 apart
theorem RT.node {i : Nat} {ts0 us : List Tr} {π : List Nat} {root : V} {q : Addr} {vs : List V} {ts : List Tr} {ls0 : List (List Addr)} (R : RT K B σ H δ own vs ts ls0) (hi : δ[i]? = some (.ow (.tr ts0))) (hr : σ[i]? = some (some root)) (hs : subAt ts0 π = some us) (hp : AtP H root π q) :
    ∃ xs, H q = some (.lst xs) ∧ xs.length = us.length := by
  obtain ⟨x0, L, g1, g2, root', e3, tx⟩ := R.idx hi
  rw [hr] at g1; cases g1
  cases e3
  obtain ⟨hq, xs, ls, f1, f2, -⟩ := tr_edit (xs' := []) (us' := []) (ls' := []) π tx (nd_part (List.nodup_append.mp R.nd).1 g2) hs hp
  exact ⟨xs, f1, (trs_len f2).1⟩
/-- a child more -/
theorem RT.editApp {i : Nat} {ts0 us : List Tr} {π : List Nat} {root : V} {q : Addr} (R : RT K B σ H δ own [w] [t] [l]) (hi : δ[i]? = some (.ow (.tr ts0))) (hr : σ[i]? = some (some root)) (hs : subAt ts0 π = some us) (hp : AtP H root π q) :
    ∃ xs, H q = some (.lst xs) ∧ xs.length = us.length ∧ ∃ own', Rel K B σ (upd H q (.lst (xs ++ [w]))) (δ.set i (.ow (.tr (updAt ts0 π (us ++ [t]))))) own' := by
  obtain ⟨xs, hq, hl⟩ := R.node hi hr hs hp
  refine ⟨xs, hq, hl, R.edit0 hi hr hs hp fun xs1 ls h1 tr tw nd1 nq ndl ql dl => ⟨ls ++ [l], ?_, ?_, ?_⟩⟩
  · rw [hq] at h1; cases h1
    exact trs_snoc (TrsIs.mono (Same.refl _) us xs ls (fun a ha => upd_ne fun e => nq (e ▸ ha)) tr) (TrIs.mono (Same.refl _) t w l (fun a ha => upd_ne fun e => ql (e ▸ ha)) tw)
  · rw [show (ls ++ [l]).flatten = ls.flatten ++ l by simp]
    exact List.nodup_append.mpr ⟨nd1, ndl, fun a ha b hb e => dl b hb (e ▸ ha)⟩
  · intro a ha
    rw [show (ls ++ [l]).flatten = ls.flatten ++ l by simp] at ha
    exact List.mem_append.mp ha
/-- another child at j -/
theorem RT.editSet {i j : Nat} {ts0 us : List Tr} {π : List Nat} {root : V} {q : Addr} (R : RT K B σ H δ own [w] [t] [l]) (hi : δ[i]? = some (.ow (.tr ts0))) (hr : σ[i]? = some (some root)) (hs : subAt ts0 π = some us) (hp : AtP H root π q) :
    ∃ xs, H q = some (.lst xs) ∧ xs.length = us.length ∧ ∃ own', Rel K B σ (upd H q (.lst (xs.set j w))) (δ.set i (.ow (.tr (updAt ts0 π (us.set j t))))) own' := by
  obtain ⟨xs, hq, hl⟩ := R.node hi hr hs hp
  refine ⟨xs, hq, hl, R.edit0 hi hr hs hp fun xs1 ls h1 tr tw nd1 nq ndl ql dl => ⟨ls.set j l, ?_, flat_set_nd nd1 ndl dl, fun a ha => flat_set_sub ha⟩⟩
  rw [hq] at h1; cases h1
  exact trs_set (TrsIs.mono (Same.refl _) us xs ls (fun a ha => upd_ne fun e => nq (e ▸ ha)) tr) (TrIs.mono (Same.refl _) t w l (fun a ha => upd_ne fun e => ql (e ▸ ha)) tw)
end
end DL
set_option Elab.async false
set_option linter.all false
set_option maxRecDepth 100000
set_option maxHeartbeats 2000000
/-! Part q: comprehensions with several names. -/
namespace DL
open PySem PySem.Spec PyProof.Rows L2
section
variable {X : Cx} {H0 : Hp}
theorem wipe_set {σ : L2.St} {v : Nat} {x : Option V} : ∀ {ws : List Nat}, v ∈ ws → wipe (σ.set v x) ws = wipe σ ws
  | [], h => by cases h
  | w :: ws, h => by
    show (wipe (σ.set v x) ws).set w none = (wipe σ ws).set w none
    by_cases e : v = w
    · subst e
      by_cases m : v ∈ ws
      · rw [wipe_set m]
      · have : ∀ {vs : List Nat}, v ∉ vs → wipe (σ.set v x) vs = (wipe σ vs).set v x := by
          intro vs
          induction vs with
          | nil => intro _; rfl
          | cons u us ih =>
            intro hn
            show (wipe (σ.set v x) us).set u none = ((wipe σ us).set u none).set v x
            rw [ih (fun z => hn (List.mem_cons_of_mem _ z)), List.set_comm _ _ (fun z => hn (by rw [z]; exact List.mem_cons_self))]
        rw [this m, List.set_set]
    · rcases List.mem_cons.mp h with z | z
      · exact absurd z e
      · rw [wipe_set z]
theorem wipe_wipe {σ : L2.St} : ∀ {ws us : List Nat}, (∀ v ∈ ws, v ∈ us) → wipe (wipe σ ws) us = wipe σ us
  | [], us, h => rfl
  | w :: ws, us, h => by
    show wipe ((wipe σ ws).set w none) us = _
    rw [wipe_set (h w List.mem_cons_self), wipe_wipe fun v hv => h v (List.mem_cons_of_mem _ hv)]
/-- a comprehension's turns, any target -/
theorem lcg_sem {te : TE} {tt : TT} {ws : List Nat} {g : TG} {n : Nat} {J : It} {item : Nat → D} {δi : Nat → List S} {P : Nat → List D → Prop} {σ : L2.St} {Hf : Hp} {ps : List Addr} {Q : VK} (fe : FrE te) (ft : FrT tt) (hps : ∀ a ∈ ps, OwnAt Hf ps a)
    (hg : ∀ i x H', i < n → Ex (cut Hf ps) H' → Is X.K (cut Hf ps) x (item i) → ∃ σ2, (∀ Qg : L2.St → Hp → Prop, Qg σ2 H' → g x (wipe σ ws) H' Qg) ∧ wipe σ2 ws = wipe σ ws ∧ RelS X.K H0 σ2 (cut Hf ps) (δi i))
    (hJ : ∀ i H, Ex (cut Hf ps) H → (i < n → J.go i H ∧ ∀ x H', J.yld i H x H' → H' = H ∧ Is X.K (cut Hf ps) x (item i)) ∧ (n ≤ i → J.stop i H)) (hP : P 0 [])
    (turn : ∀ i es, i < n → P i es → ∀ G σ', Ex (cut Hf ps) G → RelS X.K H0 σ' G (δi i) → tt σ' G fun b G' => Ex G G' ∧ (b = true → te σ' G' fun y G'' => Ex G' G'' ∧ ∃ e, Is X.K G'' y e ∧ es.length < 100000 ∧ P (i + 1) (es ++ [e])) ∧ (b = false → P (i + 1) es))
    (done : ∀ A G as es, NewIs X.K (cut Hf ps) (.ref A) (upd G A (.lst as)) (.lst es) → (∀ a ∈ ps, upd G A (.lst as) a = none) → P n es → Q (.ref A) (lcH Hf ps A as G)) : ∀ A, Hf A = none → ∃ W : Nat → Nat → Hp → Prop, (∃ m, W 0 m (upd Hf A (.lst []))) ∧ ∀ i m H, W i m H →
      (J.stop i H ∧ Q (.ref A) H) ∨ (J.go i H ∧ ∃ Nx : Hp → Prop, (∀ H', Nx H' → ∃ m', m' < m ∧ W (i + 1) m' H') ∧ ∀ x H', J.yld i H x H' → g x (wipe σ ws) H' fun σ2 H2 => wipe σ2 ws = wipe σ ws ∧ tt σ2 H2 fun b H3 =>
        if b = true then te σ2 H3 fun y H4 => ∃ acc, H4 A = some (.lst acc) ∧ acc.length < sizeLine ∧ Nx (upd H4 A (.lst (acc ++ [y]))) else Nx H3) := fun A hA => by
  have nA : A ∉ ps := fun z => by
    obtain ⟨u, hu⟩ := (hps A z).some
    rw [hA] at hu; cases hu
  refine ⟨fun i m H => m = n - i ∧ i ≤ n ∧ ∃ (G : Hp) (as : List V) (es : List D), H = lcH Hf ps A as G ∧ (G A = none ∧ ∀ a ∈ ps, G a = none) ∧ Ex (cut Hf ps) G ∧ IsL X.K G as es ∧ P i es, ⟨n, by simp, Nat.zero_le _, cut Hf ps, [], [], ((lcH_start (Hf := Hf)).resolve_right nA).symm, ⟨by rw [cut_out nA]; exact hA, fun a ha => cut_in ha⟩, Same.refl _, .nil, hP⟩, ?_⟩
  rintro i m H ⟨rfl, hi, G, as, es, rfl, ⟨hG, hGp⟩, e1, il, p⟩
  have eH : Ex (cut Hf ps) (lcH Hf ps A as G) := e1.trans (lcH_ex (Hf := Hf) (as := as) hG hGp)
  obtain ⟨j1, j2⟩ := hJ i _ eH
  by_cases hlt : i < n
  · obtain ⟨g1, g2⟩ := j1 hlt
    refine .inr ⟨g1, fun H' => ∃ (G : Hp) (as : List V) (es : List D), H' = lcH Hf ps A as G ∧ (G A = none ∧ ∀ a ∈ ps, G a = none) ∧ Ex (cut Hf ps) G ∧ IsL X.K G as es ∧ P (i + 1) es, fun H' h => ⟨n - (i + 1), by omega, rfl, hlt, h⟩, fun x H' y => ?_⟩
    obtain ⟨rfl, ix⟩ := g2 x H' y
    obtain ⟨σ2, w1, w2, R1⟩ := hg i x _ hlt eH ix
    refine w1 _ ⟨w2, ?_⟩
    have t1 := turn i es hlt p G _ e1 (R1.mono e1)
    rw [← lcH_cut (Hf := Hf) (as := as) nA hG hGp] at t1
    refine ft _ (lcH Hf ps A as G) (A :: ps) _ _ (lcH_own nA hps) t1 fun b G3 n3 ⟨e3, y3, z3⟩ => ?_
    rw [lcH_cut nA hG hGp] at e3
    rw [lcH_mrg nA]
    have nA3 := n3 A (by simp)
    have np3 : ∀ a ∈ ps, G3 a = none := fun a ha => n3 a (List.mem_cons_of_mem _ ha)
    cases b with
    | false => exact ⟨G3, as, es, rfl, ⟨nA3, np3⟩, e1.trans e3, il.mono e3, z3 rfl⟩
    | true =>
      have t3 := y3 rfl
      rw [← lcH_cut (Hf := Hf) (as := as) nA nA3 np3] at t3
      refine fe _ (lcH Hf ps A as G3) (A :: ps) _ _ (lcH_own nA hps) t3 fun y G4 n4 ⟨e4, d, id, hl, hp⟩ => ?_
      rw [lcH_cut nA nA3 np3] at e4
      rw [lcH_mrg nA]
      exact ⟨as, lcH_at nA, Nat.lt_of_lt_of_le (by rw [il.1]; exact hl) (by decide), G4, as ++ [y], es ++ [d], lcH_upd nA, ⟨n4 A (by simp), fun a ha => n4 a (List.mem_cons_of_mem _ ha)⟩, e1.trans (e3.trans e4), (il.mono (e3.trans e4)).snoc id, hp⟩
  · have e : i = n := by omega
    subst e
    refine .inl ⟨j2 (Nat.le_refl _), done A G as es ((NewIs.lst hG il).back e1) (fun a ha => ?_) p⟩
    rw [upd_ne (by intro e; subst e; exact nA ha)]
    exact hGp a ha
/-! names of a tuple -/
def setL : List Nat → List D → List S → List S
  | i :: is, d :: ds, δ => setL is ds (δ.set i (.sh d))
  | _, _, δ => δ
def gNames : List Nat → TGs
  | [] => gNil
  | v :: vs => gCons (gName v) (gNames vs)
theorem gNames_ok {G : Hp} {H' : Hp} : ∀ {is : List Nat} {xs : List V} {ds : List D} {σ : L2.St} {δ : List S}, IsL X.K G xs ds → ds.length = is.length → RelS X.K H0 σ G δ → ∃ σ2, (∀ Qg : L2.St → Hp → Prop, Qg σ2 H' → gNames is xs σ H' Qg) ∧ (∀ us, (∀ v ∈ is, v ∈ us) → wipe σ2 us = wipe σ us) ∧ RelS X.K H0 σ2 G (setL is ds δ)
  | [], xs, ds, σ, δ, h, hl, R => by
    have hd : ds = [] := List.length_eq_zero_iff.mp hl
    subst hd
    exact ⟨σ, fun Qg q => ⟨h.inv_nil, q⟩, fun _ _ => rfl, R⟩
  | i :: is, xs, [], σ, δ, h, hl, R => by cases hl
  | i :: is, xs, d :: ds, σ, δ, h, hl, R => by
    obtain ⟨x, r, rfl, i0, il⟩ := h.inv_cons
    obtain ⟨σ2, a, b, c⟩ := gNames_ok (is := is) (H' := H') il (Nat.succ.inj hl) (RelS.set (i := i) R i0)
    exact ⟨σ2, fun Qg q => ⟨x, r, rfl, a Qg q⟩, fun us hu => by rw [b us fun v hv => hu v (List.mem_cons_of_mem _ hv), wipe_set (hu i List.mem_cons_self)], c⟩
theorem RelS.wipe {K : PySem.W.Frag} {G : Hp} {σ : L2.St} {δ : List S} (R : RelS K H0 σ G δ) : ∀ ws : List Nat, RelS K H0 (wipe σ ws) G (ws.foldr (fun w δ => δ.set w .no) δ)
  | [] => R
  | w :: ws => by
    have R1 := RelS.wipe R ws
    refine ⟨R1.ex, by show ((L2.wipe σ ws).set w none).length = _; simp [R1.len], fun j d hj => ?_⟩
    rcases set_get hj with ⟨_, e⟩ | ⟨n, e⟩
    · cases e
    · show ∃ v, ((L2.wipe σ ws).set w none)[j]? = _ ∧ _
      rw [List.getElem?_set_ne n]
      exact R1.sh j d e
end
end DL
set_option Elab.async false
set_option linter.all false
set_option maxHeartbeats 4000000
/-! The mathematics of k00: Euclid's steps, lowest terms. -/
namespace K00
open DL
theorem euclid_step {l r i M : Nat} (hr : 0 < r) (h1 : l * r * 2 ^ i ≤ M) (h0 : i = 0 → 2 * (l * r) ≤ M) (hl : 0 < i → r < l) : r * (l % r) * 2 ^ (i + 1) ≤ M ∧ l % r < r := by
  refine ⟨?_, Nat.mod_lt _ hr⟩
  by_cases h : r ≤ l
  · have e : 2 * (l % r) ≤ l := by
      have a := Nat.mod_lt l hr
      have b := Nat.div_add_mod l r
      have c : 1 ≤ l / r := Nat.div_pos h hr
      have d : r * 1 ≤ r * (l / r) := Nat.mul_le_mul_left r c
      omega
    calc r * (l % r) * 2 ^ (i + 1) = r * 2 ^ i * (2 * (l % r)) := by
          rw [Nat.pow_succ, Nat.mul_assoc, Nat.mul_assoc, Nat.mul_left_comm (l % r), Nat.mul_comm (l % r)]
      _ ≤ r * 2 ^ i * l := Nat.mul_le_mul_left _ e
      _ = l * r * 2 ^ i := by rw [Nat.mul_comm, Nat.mul_assoc]
      _ ≤ M := h1
  · have e : i = 0 := by
      rcases Nat.eq_zero_or_pos i with z | z
      · exact z
      · exact absurd (Nat.le_of_lt (hl z)) h
    subst e
    rw [Nat.mod_eq_of_lt (Nat.lt_of_not_le h)]
    have := h0 rfl
    rw [Nat.pow_one, Nat.mul_comm r l, Nat.mul_comm]
    exact this
theorem euclid_end {l r i n : Nat} (h : l * r * 2 ^ i ≤ 2 ^ n) (hn : n < i) (hl : r < l) : r = 0 := by
  rcases Nat.eq_zero_or_pos r with z | z
  · exact z
  · exfalso
    have a : 1 ≤ l * r := Nat.mul_pos (Nat.lt_of_le_of_lt (Nat.zero_le _) hl) z
    have b : 2 ^ i ≤ l * r * 2 ^ i := Nat.le_mul_of_pos_left _ a
    have c : 2 ^ n < 2 ^ i := Nat.pow_lt_pow_right (by decide) hn
    omega
/-- p / q is u / v in its one form -/
structure RatIs (p q u v : Int) : Prop where
  pos : 1 ≤ q
  gcd : Nat.gcd p.natAbs q.natAbs = 1
  eq : p * v = u * q
  lp : p.natAbs ≤ u.natAbs
  lq : q.natAbs ≤ v.natAbs
theorem fdiv_pos {a g : Int} (hg : 0 < g) : a.fdiv g = a / g := Int.fdiv_eq_ediv_of_nonneg a (by omega)
theorem rat_of {u v : Int} (hv : 0 < v) : RatIs (u / ((Nat.gcd u.natAbs v.natAbs : Nat) : Int)) (v / ((Nat.gcd u.natAbs v.natAbs : Nat) : Int)) u v := by
  have hg : 0 < Nat.gcd u.natAbs v.natAbs := Nat.gcd_pos_of_pos_right _ (by omega)
  obtain ⟨a, ha⟩ : ((Nat.gcd u.natAbs v.natAbs : Nat) : Int) ∣ u := Int.ofNat_dvd_left.mpr (Nat.gcd_dvd_left _ _)
  obtain ⟨b, hb⟩ : ((Nat.gcd u.natAbs v.natAbs : Nat) : Int) ∣ v := Int.ofNat_dvd_left.mpr (Nat.gcd_dvd_right _ _)
  generalize hG : Nat.gcd u.natAbs v.natAbs = g at *
  have hg' : (g : Int) ≠ 0 := by omega
  have e1 : u / (g : Int) = a := by rw [ha]; exact Int.mul_ediv_cancel_left _ hg'
  have e2 : v / (g : Int) = b := by rw [hb]; exact Int.mul_ediv_cancel_left _ hg'
  rw [e1, e2]
  have na : u.natAbs = g * a.natAbs := by rw [ha, Int.natAbs_mul]; rfl
  have nb : v.natAbs = g * b.natAbs := by rw [hb, Int.natAbs_mul]; rfl
  have bp : 0 < b := by
    rw [hb] at hv
    rcases Int.lt_or_le 0 b with z | z
    · exact z
    · have := Int.mul_le_mul_of_nonneg_left z (show (0 : Int) ≤ (g : Int) by omega)
      rw [Int.mul_zero] at this
      omega
  refine ⟨by omega, ?_, ?_, ?_, ?_⟩
  · rw [na, nb, Nat.gcd_mul_left] at hG
    exact Nat.eq_of_mul_eq_mul_left hg (by rw [hG]; simp)
  · rw [ha, hb]
    rw [Int.mul_left_comm, Int.mul_assoc]
  · rw [na]; exact Nat.le_mul_of_pos_left _ hg
  · rw [nb]; exact Nat.le_mul_of_pos_left _ hg
theorem RatIs.negs {p q u v : Int} (h : RatIs p q (-u) (-v)) : RatIs p q u v := by
  refine ⟨h.pos, h.gcd, ?_, by have := h.lp; rwa [Int.natAbs_neg] at this, by have := h.lq; rwa [Int.natAbs_neg] at this⟩
  have := h.eq
  rw [Int.mul_neg, Int.neg_mul] at this
  omega
theorem Bd.of_le {n : Nat} {x y : Int} (h : Bd n y) (l : x.natAbs ≤ y.natAbs) : Bd n x := Nat.lt_of_le_of_lt l h
end K00
set_option Elab.async false
set_option linter.all false
/-! The mathematics of k01: rows in lowest terms. -/
namespace K00
open DL
def gcdL (a : Nat) (ns : List Int) : Nat := ns.foldl (fun g n => Nat.gcd g n.natAbs) a
theorem gcdL_cons {a : Nat} {n : Int} {ns : List Int} : gcdL a (n :: ns) = gcdL (Nat.gcd a n.natAbs) ns := rfl
theorem gcdL_snoc {a : Nat} {n : Int} {ns : List Int} : gcdL a (ns ++ [n]) = Nat.gcd (gcdL a ns) n.natAbs := by unfold gcdL; rw [List.foldl_append]; rfl
theorem dvd_gcdL {d : Nat} : ∀ {ns : List Int} {a : Nat}, d ∣ gcdL a ns ↔ d ∣ a ∧ ∀ n ∈ ns, d ∣ n.natAbs
  | [], a => ⟨fun h => ⟨h, fun n hn => by cases hn⟩, fun h => h.1⟩
  | n :: ns, a => by
    rw [gcdL_cons, dvd_gcdL, Nat.dvd_gcd_iff]
    constructor
    · intro ⟨⟨h1, h2⟩, h3⟩
      refine ⟨h1, fun m hm => ?_⟩
      rcases List.mem_cons.mp hm with rfl | z
      · exact h2
      · exact h3 m z
    · intro ⟨h1, h2⟩
      exact ⟨⟨h1, h2 n List.mem_cons_self⟩, fun m hm => h2 m (List.mem_cons_of_mem _ hm)⟩
theorem gcdL_mul {c : Int} : ∀ {ns : List Int} {a : Nat}, gcdL (c.natAbs * a) (ns.map (c * ·)) = c.natAbs * gcdL a ns
  | [], a => rfl
  | n :: ns, a => by
    rw [List.map_cons, gcdL_cons, gcdL_cons, Int.natAbs_mul, Nat.gcd_mul_left, gcdL_mul]
theorem gcdL_pos {a : Nat} (h : 0 < a) (ns : List Int) : 0 < gcdL a ns := by
  rcases Nat.eq_zero_or_pos (gcdL a ns) with z | z
  · have := (dvd_gcdL (d := gcdL a ns) (ns := ns) (a := a)).mp (Nat.dvd_refl _)
    rw [z] at this
    have := Nat.eq_zero_of_zero_dvd this.1
    omega
  · exact z
/-- ps over q is tops over line, in its one form -/
structure RowIs (ps : List Int) (q : Int) (tops : List Int) (line : Int) : Prop where
  pos : 1 ≤ q
  len : ps.length = tops.length
  gcd : gcdL q.natAbs ps = 1
  eq : ∀ (i : Nat) p t, ps[i]? = some p → tops[i]? = some t → p * line = t * q
  lq : q.natAbs ≤ line.natAbs
  lp : ∀ (i : Nat) p t, ps[i]? = some p → tops[i]? = some t → p.natAbs ≤ t.natAbs
theorem row_math {ns : List Int} {ln : Int} (hl : 1 ≤ ln) : RowIs (ns.map (· / ((gcdL ln.natAbs ns : Nat) : Int))) (ln / ((gcdL ln.natAbs ns : Nat) : Int)) ns ln := by
  have g0 := gcdL_pos (a := ln.natAbs) (by omega) ns
  have dv := (dvd_gcdL (d := gcdL ln.natAbs ns) (ns := ns) (a := ln.natAbs)).mp (Nat.dvd_refl _)
  generalize hg : gcdL ln.natAbs ns = g at *
  have dl : (g : Int) ∣ ln := Int.ofNat_dvd_left.mpr dv.1
  have dn : ∀ n ∈ ns, (g : Int) ∣ n := fun n hn => Int.ofNat_dvd_left.mpr (dv.2 n hn)
  have el : ln / (g : Int) * (g : Int) = ln := Int.ediv_mul_cancel dl
  have en : ∀ n ∈ ns, n / (g : Int) * (g : Int) = n := fun n hn => Int.ediv_mul_cancel (dn n hn)
  have qp : 1 ≤ ln / (g : Int) := by
    have : 0 < ln / (g : Int) := Int.ediv_pos_of_pos_of_dvd (by omega) (by omega) dl
    omega
  refine ⟨qp, by simp, ?_, fun i p t h1 h2 => ?_, ?_, fun i p t h1 h2 => ?_⟩
  · have m := gcdL_mul (c := (g : Int)) (ns := ns.map (· / (g : Int))) (a := (ln / (g : Int)).natAbs)
    have e1 : (ns.map (· / (g : Int))).map ((g : Int) * ·) = ns := by
      rw [List.map_map]
      conv => rhs; rw [← List.map_id ns]
      exact List.map_congr_left fun n hn => by
        show (g : Int) * (n / (g : Int)) = n
        rw [Int.mul_comm]; exact en n hn
    have e2 : (g : Int).natAbs * (ln / (g : Int)).natAbs = ln.natAbs := by rw [← Int.natAbs_mul, Int.mul_comm, el]
    rw [e1, e2, hg] at m
    have m' : g * gcdL (ln / (g : Int)).natAbs (ns.map (· / (g : Int))) = g * 1 := by rw [Nat.mul_one]; exact m.symm
    exact Nat.eq_of_mul_eq_mul_left g0 m'
  · rw [List.getElem?_map, h2] at h1
    cases h1
    have ht := en t (List.mem_of_getElem? h2)
    calc t / (g : Int) * ln = t / (g : Int) * (ln / (g : Int) * (g : Int)) := by rw [el]
      _ = (t / (g : Int) * (g : Int)) * (ln / (g : Int)) := by ac_rfl
      _ = t * (ln / (g : Int)) := by rw [ht]
  · have : (ln / (g : Int)).natAbs * g = ln.natAbs := by
      have := congrArg Int.natAbs el
      rwa [Int.natAbs_mul] at this
    rw [← this]; exact Nat.le_mul_of_pos_right _ g0
  · rw [List.getElem?_map, h2] at h1
    cases h1
    have ht := en t (List.mem_of_getElem? h2)
    have : (t / (g : Int)).natAbs * g = t.natAbs := by
      have := congrArg Int.natAbs ht
      rwa [Int.natAbs_mul] at this
    rw [← this]; exact Nat.le_mul_of_pos_right _ g0
theorem RowIs.neg {ps : List Int} {q : Int} {ts : List Int} {line : Int} (h : RowIs ps q (ts.map (fun t => -t)) (-line)) : RowIs ps q ts line := by
  refine ⟨h.pos, by rw [h.len]; simp, h.gcd, fun i p t h1 h2 => ?_, by have := h.lq; rwa [Int.natAbs_neg] at this, fun i p t h1 h2 => ?_⟩
  · have := h.eq i p (-t) h1 (by rw [List.getElem?_map, h2]; rfl)
    rw [Int.mul_neg, Int.neg_mul] at this
    omega
  · have := h.lp i p (-t) h1 (by rw [List.getElem?_map, h2]; rfl)
    rwa [Int.natAbs_neg] at this
theorem RowIs.uniq {ps ps' : List Int} {q q' : Int} {ts ts' : List Int} {l l' : Int} (h : RowIs ps q ts l) (h' : RowIs ps' q' ts' l') (hl : l ≠ 0) (hl' : l' ≠ 0) (hn : ts.length = ts'.length) (e : ∀ (i : Nat) t t', ts[i]? = some t → ts'[i]? = some t' → t * l' = t' * l) : ps = ps' ∧ q = q' := by
  have len : ps.length = ps'.length := by rw [h.len, h'.len, hn]
  have cross : ∀ (i : Nat) p p', ps[i]? = some p → ps'[i]? = some p' → p * q' = p' * q := fun i p p' h1 h2 => by
    have i1 : i < ts.length := by rw [← h.len]; exact (List.getElem?_eq_some_iff.mp h1).1
    have i2 : i < ts'.length := by rw [← hn]; exact i1
    have t1 := List.getElem?_eq_getElem i1
    have t2 := List.getElem?_eq_getElem i2
    have a1 := h.eq i p _ h1 t1
    have a2 := h'.eq i p' _ h2 t2
    have a3 := e i _ _ t1 t2
    generalize ts[i] = t at *
    generalize ts'[i] = t' at *
    have k : (p * q') * (l * l') = (p' * q) * (l * l') := by
      calc (p * q') * (l * l') = (p * l) * (q' * l') := by ac_rfl
        _ = (t * q) * (q' * l') := by rw [a1]
        _ = (t * l') * (q * q') := by ac_rfl
        _ = (t' * q') * (q * l) := by rw [a3]; ac_rfl
        _ = (p' * l') * (q * l) := by rw [a2]
        _ = (p' * q) * (l * l') := by ac_rfl
    exact Int.eq_of_mul_eq_mul_right (Int.mul_ne_zero hl hl') k
  have half : ∀ {ps ps' : List Int} {q q' : Int}, ps.length = ps'.length → gcdL q.natAbs ps = 1 → (∀ (i : Nat) p p', ps[i]? = some p → ps'[i]? = some p' → p * q' = p' * q) → q.natAbs ∣ q'.natAbs := fun {ps ps' q q'} hlen hg hc => by
    have m := gcdL_mul (c := q') (ns := ps) (a := q.natAbs)
    rw [hg, Nat.mul_one] at m
    rw [← m]
    refine dvd_gcdL.mpr ⟨Nat.dvd_mul_left _ _, fun n hn => ?_⟩
    obtain ⟨p, hp, rfl⟩ := List.mem_map.mp hn
    obtain ⟨i, hi⟩ := List.mem_iff_getElem?.mp hp
    have i2 : i < ps'.length := by rw [← hlen]; exact (List.getElem?_eq_some_iff.mp hi).1
    have c := hc i p _ hi (List.getElem?_eq_getElem i2)
    show q.natAbs ∣ (q' * p).natAbs
    rw [Int.mul_comm, c, Int.natAbs_mul]
    exact Nat.dvd_mul_left _ _
  have d1 := half len h.gcd cross
  have d2 := half len.symm h'.gcd fun i p p' a b => (cross i p' p b a).symm
  have e3 := Nat.dvd_antisymm d1 d2
  have hq := h.pos
  have hq' := h'.pos
  have e4 : q = q' := by omega
  subst e4
  refine ⟨List.ext_getElem? fun i => ?_, rfl⟩
  by_cases hi : i < ps.length
  · have a := List.getElem?_eq_getElem hi
    have b := List.getElem?_eq_getElem (show i < ps'.length by omega)
    have c := cross i _ _ a b
    rw [a, b]
    exact congrArg some (Int.eq_of_mul_eq_mul_right (by omega) c)
  · rw [List.getElem?_eq_none (by omega), List.getElem?_eq_none (by omega)]
end K00
set_option Elab.async false
set_option linter.all false
/-! Elimination, part a: sums, boxes, a small solution of few equations (pigeonhole). -/
namespace EL
/-- a sum of the first n -/
def sm : Nat → (Nat → Int) → Int
  | 0, _ => 0
  | n + 1, f => sm n f + f n
theorem sm_congr {n : Nat} {f g : Nat → Int} (h : ∀ i, i < n → f i = g i) : sm n f = sm n g := by
  induction n with
  | zero => rfl
  | succ n ih => show sm n f + f n = sm n g + g n; rw [ih fun i hi => h i (by omega), h n (by omega)]
theorem sm_zero {n : Nat} {f : Nat → Int} (h : ∀ i, i < n → f i = 0) : sm n f = 0 := by
  induction n with
  | zero => rfl
  | succ n ih => show sm n f + f n = 0; rw [ih fun i hi => h i (by omega), h n (by omega)]; rfl
theorem sm_add {n : Nat} {f g : Nat → Int} : sm n (fun i => f i + g i) = sm n f + sm n g := by
  induction n with
  | zero => rfl
  | succ n ih => show sm n _ + (f n + g n) = (sm n f + f n) + (sm n g + g n); rw [ih]; omega
theorem sm_sub {n : Nat} {f g : Nat → Int} : sm n (fun i => f i - g i) = sm n f - sm n g := by
  induction n with
  | zero => rfl
  | succ n ih => show sm n _ + (f n - g n) = (sm n f + f n) - (sm n g + g n); rw [ih]; omega
theorem sm_mul {n : Nat} {f : Nat → Int} {c : Int} : sm n (fun i => c * f i) = c * sm n f := by
  induction n with
  | zero => exact (Int.mul_zero c).symm
  | succ n ih => show sm n _ + _ = c * (sm n f + f n); rw [ih, Int.mul_add]
theorem sm_mul' {n : Nat} {f : Nat → Int} {c : Int} : sm n (fun i => f i * c) = sm n f * c := by
  rw [Int.mul_comm, ← sm_mul]
  exact sm_congr fun i _ => Int.mul_comm _ _
theorem sm_one {n k : Nat} {f : Nat → Int} (hk : k < n) (h : ∀ i, i < n → i ≠ k → f i = 0) : sm n f = f k := by
  induction n with
  | zero => omega
  | succ n ih =>
    show sm n f + f n = f k
    by_cases e : k = n
    · subst e
      rw [sm_zero fun i hi => h i (by omega) (by omega), Int.zero_add]
    · rw [ih (by omega) fun i hi => h i (by omega), h n (by omega) (by omega), Int.add_zero]
theorem sm_comm {n m : Nat} {f : Nat → Nat → Int} : sm n (fun i => sm m fun j => f i j) = sm m fun j => sm n fun i => f i j := by
  induction n with
  | zero => exact (sm_zero fun _ _ => rfl).symm
  | succ n ih =>
    show sm n (fun i => sm m fun j => f i j) + sm m (fun j => f n j) = sm m fun j => sm n (fun i => f i j) + f n j
    rw [ih, sm_add]
theorem sm_le {n : Nat} {f g : Nat → Int} (h : ∀ i, i < n → f i ≤ g i) : sm n f ≤ sm n g := by
  induction n with
  | zero => exact Int.le_refl _
  | succ n ih =>
    show sm n f + f n ≤ sm n g + g n
    have := ih fun i hi => h i (by omega)
    have := h n (by omega)
    omega
theorem sm_abs {n : Nat} {f : Nat → Int} : (sm n f).natAbs ≤ (sm n fun i => ((f i).natAbs : Int)).natAbs := by
  have h : ∀ n, 0 ≤ (sm n fun i => ((f i).natAbs : Int)) := fun n => by
    have := sm_le (n := n) (f := fun _ => 0) (g := fun i => ((f i).natAbs : Int)) fun i _ => by omega
    rw [sm_zero fun _ _ => rfl] at this
    exact this
  induction n with
  | zero => exact Nat.le_refl _
  | succ n ih =>
    have h1 := h n
    show (sm n f + f n).natAbs ≤ (sm n (fun i => ((f i).natAbs : Int)) + ((f n).natAbs : Int)).natAbs
    omega
theorem sm_bd {n : Nat} {f : Nat → Int} {b : Nat} (h : ∀ i, i < n → (f i).natAbs ≤ b) : (sm n f).natAbs ≤ n * b := by
  induction n with
  | zero => exact Nat.zero_le _
  | succ n ih =>
    have h1 := ih fun i hi => h i (by omega)
    have h2 := h n (by omega)
    show (sm n f + f n).natAbs ≤ _
    rw [Nat.succ_mul]
    omega
/-! pigeons -/
theorem php {α : Type} [DecidableEq α] : ∀ (xs ys : List α), xs.Nodup → (∀ x ∈ xs, x ∈ ys) → xs.length ≤ ys.length
  | [], ys, _, _ => Nat.zero_le _
  | x :: xs, ys, h, s => by
    obtain ⟨hx, hn⟩ := List.nodup_cons.mp h
    have h1 := php xs (ys.erase x) hn fun y hy => (List.mem_erase_of_ne (show y ≠ x from fun z => by rw [z] at hy; exact hx hy)).mpr (s y (List.mem_cons_of_mem _ hy))
    rw [List.length_erase_of_mem (s x List.mem_cons_self)] at h1
    have := List.length_pos_of_mem (s x List.mem_cons_self)
    show xs.length + 1 ≤ _
    omega
theorem nodup_map {α β : Type} {f : α → β} : ∀ {xs : List α}, (∀ x ∈ xs, ∀ y ∈ xs, f x = f y → x = y) → xs.Nodup → (xs.map f).Nodup
  | [], _, _ => List.nodup_nil
  | x :: xs, h, hn => by
    obtain ⟨hx, hn⟩ := List.nodup_cons.mp hn
    refine List.nodup_cons.mpr ⟨fun hm => ?_, nodup_map (fun a ha b hb => h a (List.mem_cons_of_mem _ ha) b (List.mem_cons_of_mem _ hb)) hn⟩
    obtain ⟨y, hy, e⟩ := List.mem_map.mp hm
    rw [h y (List.mem_cons_of_mem _ hy) x List.mem_cons_self e] at hy
    exact hx hy
/-- two that are alike -/
theorem alike {α β : Type} [DecidableEq α] [DecidableEq β] {f : α → β} {xs : List α} {ys : List β} (hn : xs.Nodup) (h : ∀ x ∈ xs, f x ∈ ys) (hl : ys.length < xs.length) : ∃ x ∈ xs, ∃ y ∈ xs, x ≠ y ∧ f x = f y := by
  apply Classical.byContradiction
  intro no
  have hm : (xs.map f).Nodup := nodup_map (fun x hx y hy e => Classical.byContradiction fun ne => no ⟨x, hx, y, hy, ne, e⟩) hn
  have := php _ ys hm fun z hz => by
    obtain ⟨x, hx, rfl⟩ := List.mem_map.mp hz
    exact h x hx
  rw [List.length_map] at this
  omega
/-- all rows of numbers that are at most these -/
def box : List Nat → List (List Nat)
  | [] => [[]]
  | b :: bs => (List.range (b + 1)).flatMap fun v => (box bs).map (v :: ·)
def boxN : List Nat → Nat
  | [] => 1
  | b :: bs => (b + 1) * boxN bs
theorem len_flatMap {α β : Type} {f : α → List β} {c : Nat} : ∀ {xs : List α}, (∀ x ∈ xs, (f x).length = c) → (xs.flatMap f).length = xs.length * c
  | [], _ => by simp
  | x :: xs, h => by
    rw [List.flatMap_cons, List.length_append, h x List.mem_cons_self, len_flatMap fun y hy => h y (List.mem_cons_of_mem _ hy), List.length_cons, Nat.succ_mul]
    omega
theorem box_len : ∀ bs, (box bs).length = boxN bs
  | [] => rfl
  | b :: bs => by
    show ((List.range (b + 1)).flatMap fun v => (box bs).map (v :: ·)).length = _
    rw [len_flatMap (c := boxN bs) fun v _ => by rw [List.length_map, box_len bs], List.length_range]
    rfl
theorem mem_box : ∀ {bs xs : List Nat}, xs ∈ box bs ↔ xs.length = bs.length ∧ ∀ i, i < bs.length → xs.getD i 0 ≤ bs.getD i 0
  | [], xs => by
    constructor
    · intro h
      rw [List.mem_singleton.mp h]
      exact ⟨rfl, fun i hi => absurd hi (Nat.not_lt_zero i)⟩
    · rintro ⟨h, _⟩
      rw [List.eq_nil_of_length_eq_zero h]
      exact List.mem_singleton.mpr rfl
  | b :: bs, xs => by
    show xs ∈ (List.range (b + 1)).flatMap (fun v => (box bs).map (v :: ·)) ↔ _
    rw [List.mem_flatMap]
    constructor
    · rintro ⟨v, hv, h⟩
      obtain ⟨ys, hy, rfl⟩ := List.mem_map.mp h
      obtain ⟨hl, ha⟩ := mem_box.mp hy
      have hv := List.mem_range.mp hv
      refine ⟨by simp [hl], fun i hi => ?_⟩
      cases i with
      | zero => show v ≤ b; omega
      | succ i => exact ha i (by simpa using hi)
    · rintro ⟨hl, ha⟩
      cases xs with
      | nil => cases hl
      | cons v ys =>
        refine ⟨v, List.mem_range.mpr ?_, List.mem_map.mpr ⟨ys, mem_box.mpr ⟨by simpa using hl, fun i hi => ?_⟩, rfl⟩⟩
        · have : v ≤ b := ha 0 (by simp)
          omega
        · exact ha (i + 1) (by simpa using hi)
theorem box_nodup : ∀ bs, (box bs).Nodup
  | [] => List.nodup_cons.mpr ⟨List.not_mem_nil, List.nodup_nil⟩
  | b :: bs => by
    have ih := box_nodup bs
    show ((List.range (b + 1)).flatMap fun v => (box bs).map (v :: ·)).Nodup
    have key : ∀ vs : List Nat, vs.Nodup → (vs.flatMap fun v => (box bs).map (v :: ·)).Nodup := by
      intro vs
      induction vs with
      | nil => intro _; exact List.nodup_nil
      | cons v vs ihv =>
        intro hn
        obtain ⟨hv, hn⟩ := List.nodup_cons.mp hn
        rw [List.flatMap_cons]
        refine List.nodup_append.mpr ⟨nodup_map (fun x _ y _ e => (List.cons.inj e).2) ih, ihv hn, fun a ha c hc e => ?_⟩
        obtain ⟨x, _, rfl⟩ := List.mem_map.mp ha
        obtain ⟨u, hu, hm⟩ := List.mem_flatMap.mp hc
        obtain ⟨y, _, rfl⟩ := List.mem_map.mp hm
        rw [(List.cons.inj e).1] at hv
        exact hv hu
    exact key _ List.nodup_range
/-- a small solution of few equations -/
theorem siegel (Ns Rs : List Nat) (T : Nat → Nat → Int) (hb : ∀ j, j < Rs.length → sm Ns.length (fun i => (Ns.getD i 0 : Int) * ((T i j).natAbs : Int)) ≤ (Rs.getD j 0 : Int)) (h : boxN Rs < boxN Ns) :
    ∃ m : Nat → Int, (∃ i, i < Ns.length ∧ m i ≠ 0) ∧ (∀ i, i < Ns.length → (m i).natAbs ≤ Ns.getD i 0) ∧ ∀ j, j < Rs.length → sm Ns.length (fun i => m i * T i j) = 0 := by
  let low : Nat → Int := fun j => sm Ns.length fun i => if T i j < 0 then (Ns.getD i 0 : Int) * T i j else 0
  let val : List Nat → Nat → Int := fun xs j => sm Ns.length fun i => (xs.getD i 0 : Int) * T i j
  let f : List Nat → List Nat := fun xs => (List.range Rs.length).map fun j => (val xs j - low j).toNat
  have hlow : ∀ xs ∈ box Ns, ∀ j, 0 ≤ val xs j - low j := fun xs hx j => by
    obtain ⟨hl, ha⟩ := mem_box.mp hx
    have : low j ≤ val xs j := sm_le fun i hi => by
      have h1 := ha i hi
      by_cases ht : T i j < 0
      · rw [if_pos ht]
        exact Int.mul_le_mul_of_nonpos_right (by omega) (by omega)
      · rw [if_neg ht]
        exact Int.mul_nonneg (by omega) (by omega)
    omega
  have hup : ∀ xs ∈ box Ns, ∀ j, j < Rs.length → val xs j - low j ≤ (Rs.getD j 0 : Int) := fun xs hx j hj => by
    obtain ⟨hl, ha⟩ := mem_box.mp hx
    refine Int.le_trans ?_ (hb j hj)
    show sm _ _ - sm _ _ ≤ _
    rw [← sm_sub]
    refine sm_le fun i hi => ?_
    have h1 := ha i hi
    by_cases ht : T i j < 0
    · rw [if_pos ht, ← Int.sub_mul]
      have e : (((T i j).natAbs : Nat) : Int) = -(T i j) := by omega
      rw [e, Int.mul_neg, ← Int.neg_mul]
      exact Int.mul_le_mul_of_nonpos_right (by omega) (by omega)
    · rw [if_neg ht, Int.sub_zero]
      have e : (((T i j).natAbs : Nat) : Int) = T i j := by omega
      rw [e]
      exact Int.mul_le_mul_of_nonneg_right (by omega) (by omega)
  have hf : ∀ xs ∈ box Ns, f xs ∈ box Rs := fun xs hx => by
    refine mem_box.mpr ⟨by simp [f], fun j hj => ?_⟩
    have e : (f xs).getD j 0 = (val xs j - low j).toNat := by
      show ((List.range Rs.length).map _).getD j 0 = _
      rw [List.getD_eq_getElem?_getD, List.getElem?_map, List.getElem?_range hj]; rfl
    rw [e]
    have := hup xs hx j hj
    have := hlow xs hx j
    omega
  obtain ⟨x, hx, y, hy, ne, e⟩ := alike (box_nodup Ns) hf (by rw [box_len, box_len]; exact h)
  obtain ⟨lx, ax⟩ := mem_box.mp hx
  obtain ⟨ly, ay⟩ := mem_box.mp hy
  refine ⟨fun i => (x.getD i 0 : Int) - (y.getD i 0 : Int), ?_, fun i hi => ?_, fun j hj => ?_⟩
  · apply Classical.byContradiction
    intro no
    refine ne (List.ext_getElem? fun i => ?_)
    by_cases hi : i < Ns.length
    · have h0 : ¬ ((x.getD i 0 : Int) - (y.getD i 0 : Int) ≠ 0) := fun z => no ⟨i, hi, z⟩
      have h1 : x.getD i 0 = y.getD i 0 := by omega
      rw [List.getD_eq_getElem?_getD, List.getD_eq_getElem?_getD, List.getElem?_eq_getElem (show i < x.length by omega), List.getElem?_eq_getElem (show i < y.length by omega)] at h1
      rw [List.getElem?_eq_getElem (show i < x.length by omega), List.getElem?_eq_getElem (show i < y.length by omega)]
      exact congrArg some h1
    · rw [List.getElem?_eq_none (by omega), List.getElem?_eq_none (by omega)]
  · have := ax i hi
    have := ay i hi
    show ((x.getD i 0 : Int) - (y.getD i 0 : Int)).natAbs ≤ _
    omega
  · have e1 : (f x).getD j 0 = (f y).getD j 0 := by rw [e]
    have ex : ∀ xs, (f xs).getD j 0 = (val xs j - low j).toNat := fun xs => by
      show ((List.range Rs.length).map _).getD j 0 = _
      rw [List.getD_eq_getElem?_getD, List.getElem?_map, List.getElem?_range hj]; rfl
    rw [ex, ex] at e1
    have h1 := hlow x hx j
    have h2 := hlow y hy j
    have h3 : val x j = val y j := by omega
    have : (sm Ns.length fun i => ((x.getD i 0 : Int) - (y.getD i 0 : Int)) * T i j) = val x j - val y j := by
      show _ = sm _ _ - sm _ _
      rw [← sm_sub]
      exact sm_congr fun i _ => Int.sub_mul _ _ _
    rw [this, h3, Int.sub_self]
/-- more numbers than equations: a solution -/
theorem boxN_rep (b : Nat) : ∀ n, boxN (List.replicate n b) = (b + 1) ^ n
  | 0 => rfl
  | n + 1 => by
    rw [List.replicate_succ]
    show (b + 1) * boxN (List.replicate n b) = _
    rw [boxN_rep b n, Nat.pow_succ, Nat.mul_comm]
theorem some_sol {n q : Nat} (T : Nat → Nat → Int) (h : q < n) : ∃ m : Nat → Int, (∃ i, i < n ∧ m i ≠ 0) ∧ ∀ j, j < q → sm n (fun i => m i * T i j) = 0 := by
  -- S bounds each equation's sum of sizes
  obtain ⟨S, hS⟩ : ∃ S : Nat, ∀ j, j < q → sm n (fun i => ((T i j).natAbs : Int)) ≤ (S : Int) := by
    clear h
    induction q with
    | zero => exact ⟨0, fun j hj => absurd hj (Nat.not_lt_zero j)⟩
    | succ q ih =>
      obtain ⟨S, hS⟩ := ih
      refine ⟨S + (sm n fun i => ((T i q).natAbs : Int)).toNat, fun j hj => ?_⟩
      by_cases e : j < q
      · have := hS j e; omega
      · have : j = q := by omega
        subst this; omega
  let b := (S + 1) ^ q
  have hl : (List.replicate n b).length = n := List.length_replicate
  have hq : (List.replicate q (b * S)).length = q := List.length_replicate
  have at_ : ∀ {n c i : Nat}, i < n → (List.replicate n c).getD i 0 = c := fun {n c i} hi => by
    rw [List.getD_eq_getElem?_getD, List.getElem?_replicate, if_pos hi]; rfl
  obtain ⟨m, h1, _, h3⟩ := siegel (List.replicate n b) (List.replicate q (b * S)) T (fun j hj => by
    rw [hq] at hj
    rw [hl, at_ hj]
    have e : sm n (fun i => ((List.replicate n b).getD i 0 : Int) * ((T i j).natAbs : Int)) = (b : Int) * sm n (fun i => ((T i j).natAbs : Int)) := by
      rw [← sm_mul]
      exact sm_congr fun i hi => by rw [at_ hi]
    rw [e, Int.natCast_mul]
    exact Int.mul_le_mul_of_nonneg_left (hS j hj) (by omega)) (by
    rw [boxN_rep, boxN_rep]
    have e1 : b * S + 1 ≤ (S + 1) * (b + 1) := by
      rw [Nat.add_mul, Nat.mul_add, Nat.mul_comm S b]; omega
    have e2 : (b * S + 1) ^ q ≤ (S + 1) ^ q * (b + 1) ^ q := by
      rw [← Nat.mul_pow]
      exact Nat.pow_le_pow_left e1 q
    have e3 : (S + 1) ^ q * (b + 1) ^ q < (b + 1) * (b + 1) ^ q := Nat.mul_lt_mul_of_pos_right (show b < b + 1 by omega) (Nat.pow_pos (by omega))
    have e4 : (b + 1) * (b + 1) ^ q ≤ (b + 1) ^ n := by
      rw [Nat.mul_comm, ← Nat.pow_succ]
      exact Nat.pow_le_pow_right (by omega) h
    omega)
  rw [hl] at h1 h3
  rw [hq] at h3
  exact ⟨m, h1, h3⟩
end EL
set_option Elab.async false
set_option linter.all false
/-! Elimination, part b: what holds of the rows at each step; how great they get. -/
namespace EL
/-- the rows E behind some steps from the rows A; o: the place of the marks; w: columns that are cleared -/
structure St (n L o w : Nat) (A E : Nat → Nat → Int) (P : List (Nat × Nat)) : Prop where
  comb : ∀ k, k < n → ∀ j, j < L → E k j = sm n fun i => E k (o + i) * A i j
  sup : ∀ k, k < n → ∀ i, i < n → E k (o + i) ≠ 0 → i = k ∨ i ∈ P.map (·.1)
  prim : ∀ k, k < n → ∀ d : Int, (∀ i, i < n → d ∣ E k (o + i)) → d ∣ 1
  piv : ∀ p ∈ P, p.1 < n ∧ p.2 < w ∧ E p.1 p.2 ≠ 0 ∧ ∀ k, k < n → k ≠ p.1 → E k p.2 = 0
  nr : (P.map (·.1)).Nodup
  diag : ∀ k, k < n → k ∉ P.map (·.1) → E k (o + k) ≠ 0
  back : ∀ φ : Nat → Int, (∀ k, k < n → sm L (fun j => φ j * E k j) = 0) → ∀ k, k < n → sm L (fun j => φ j * A k j) = 0
/-- the marks -/
def Marks (n o : Nat) (A : Nat → Nat → Int) : Prop := ∀ k, k < n → ∀ i, i < n → A k (o + i) = if i = k then 1 else 0
theorem st_start {n L o w : Nat} {A : Nat → Nat → Int} (hm : Marks n o A) : St n L o w A A [] where
  comb := fun k hk j hj => by
    rw [sm_one hk fun i hi ne => by rw [hm k hk i hi, if_neg ne, Int.zero_mul], hm k hk k hk, if_pos rfl, Int.one_mul]
  sup := fun k hk i hi h => by
    rw [hm k hk i hi] at h
    by_cases e : i = k
    · exact .inl e
    · rw [if_neg e] at h; exact absurd rfl h
  prim := fun k hk d h => by
    have := h k hk
    rw [hm k hk k hk, if_pos rfl] at this
    exact this
  piv := fun p h => absurd h List.not_mem_nil
  nr := List.nodup_nil
  diag := fun k hk _ => by rw [hm k hk k hk, if_pos rfl]; decide
  back := fun φ h => h
/-- one step: the pivot's row is kept but for its sign, the others become multiples of sums -/
structure Step (n L o : Nat) (E E' : Nat → Nat → Int) (a c : Nat) : Prop where
  own : ∃ σ : Int, (σ = 1 ∨ σ = -1) ∧ ∀ j, j < L → E' a j = σ * E a j
  oth : ∀ k, k < n → k ≠ a → ∃ f g p : Int, f ≠ 0 ∧ g ≠ 0 ∧ (∀ j, j < L → g * E' k j = f * E k j - p * E a j) ∧ E' k c = 0 ∧ ∀ d : Int, (∀ i, i < n → d ∣ E' k (o + i)) → d ∣ 1
theorem sm_cancel {g x y : Int} (hg : g ≠ 0) (h : g * x = g * y) : x = y := Int.eq_of_mul_eq_mul_left hg h
theorem St.step {n L o w : Nat} {A E E' : Nat → Nat → Int} {P : List (Nat × Nat)} {a c : Nat} (s : St n L o w A E P) (hL : o + n ≤ L) (hw : w ≤ o) (ha : a < n) (hna : a ∉ P.map (·.1)) (hc : c < w) (hp : E a c ≠ 0) (t : Step n L o E E' a c) :
    St n L o w A E' (P ++ [(a, c)]) := by
  obtain ⟨σ, hσ, hown⟩ := t.own
  have σ0 : σ ≠ 0 := by rcases hσ with h | h <;> omega
  refine ⟨fun k hk j hj => ?_, fun k hk i hi h => ?_, fun k hk d h => ?_, fun p hp' => ?_, ?_, fun k hk hno => ?_, fun φ h => ?_⟩
  · by_cases e : k = a
    · subst e
      rw [hown j hj, s.comb k hk j hj, ← sm_mul]
      exact sm_congr fun i hi => by rw [hown (o + i) (by omega), Int.mul_assoc]
    · obtain ⟨f, g, p, f0, g0, hj', _, _⟩ := t.oth k hk e
      refine sm_cancel g0 ?_
      rw [hj' j hj, s.comb k hk j hj, s.comb a ha j hj, ← sm_mul, ← sm_mul, ← sm_mul, ← sm_sub]
      exact sm_congr fun i hi => by rw [← Int.mul_assoc, ← Int.mul_assoc, ← Int.mul_assoc, ← Int.sub_mul, hj' (o + i) (by omega)]
  · rw [List.map_append]
    by_cases e : k = a
    · subst e
      rw [hown _ (by omega)] at h
      have h2 : E k (o + i) ≠ 0 := fun z => h (by rw [z, Int.mul_zero])
      rcases s.sup k hk i hi h2 with h3 | h3
      · exact .inl h3
      · exact .inr (List.mem_append_left _ h3)
    · obtain ⟨f, g, p, f0, g0, hj', _, _⟩ := t.oth k hk e
      have hne : f * E k (o + i) - p * E a (o + i) ≠ 0 := by
        rw [← hj' (o + i) (by omega)]
        exact Int.mul_ne_zero g0 h
      by_cases h1 : E k (o + i) = 0
      · have h2 : E a (o + i) ≠ 0 := fun z => hne (by rw [h1, z, Int.mul_zero, Int.mul_zero]; rfl)
        rcases s.sup a ha i hi h2 with h3 | h3
        · exact .inr (List.mem_append_right _ (by rw [h3]; exact List.mem_singleton.mpr rfl))
        · exact .inr (List.mem_append_left _ h3)
      · rcases s.sup k hk i hi h1 with h3 | h3
        · exact .inl h3
        · exact .inr (List.mem_append_left _ h3)
  · by_cases e : k = a
    · subst e
      refine s.prim k hk d fun i hi => ?_
      have := h i hi
      rw [hown _ (by omega)] at this
      rcases hσ with rfl | rfl
      · rwa [Int.one_mul] at this
      · rw [Int.neg_mul, Int.one_mul] at this
        exact Int.dvd_neg.mp this
    · obtain ⟨f, g, p, _, _, _, _, hpr⟩ := t.oth k hk e
      exact hpr d h
  · rcases List.mem_append.mp hp' with h | h
    · obtain ⟨h1, h2, h3, h4⟩ := s.piv p h
      have hpa : p.1 ≠ a := fun z => hna (by rw [← z]; exact List.mem_map.mpr ⟨p, h, rfl⟩)
      have ea : E a p.2 = 0 := h4 a ha (Ne.symm hpa)
      refine ⟨h1, h2, ?_, fun k hk hne => ?_⟩
      · obtain ⟨f, g, q, f0, g0, hj', _, _⟩ := t.oth p.1 h1 hpa
        intro z
        have := hj' p.2 (by omega)
        rw [z, ea, Int.mul_zero, Int.mul_zero, Int.sub_zero] at this
        exact Int.mul_ne_zero f0 h3 this.symm
      · by_cases e : k = a
        · subst e
          rw [hown _ (by omega), ea, Int.mul_zero]
        · obtain ⟨f, g, q, f0, g0, hj', _, _⟩ := t.oth k hk e
          refine sm_cancel g0 ?_
          rw [hj' p.2 (by omega), ea, h4 k hk hne, Int.mul_zero, Int.mul_zero, Int.mul_zero]; rfl
    · rw [List.mem_singleton.mp h]
      refine ⟨ha, hc, ?_, fun k hk hne => ?_⟩
      · show E' a c ≠ 0
        rw [hown c (by omega)]
        exact Int.mul_ne_zero σ0 hp
      · obtain ⟨f, g, q, f0, g0, _, hz, _⟩ := t.oth k hk hne
        exact hz
  · rw [List.map_append]
    exact List.nodup_append.mpr ⟨s.nr, List.nodup_cons.mpr ⟨List.not_mem_nil, List.nodup_nil⟩, fun x hx y hy e => by rw [List.mem_singleton.mp hy] at e; rw [e] at hx; exact hna hx⟩
  · rw [List.map_append] at hno
    have h1 : k ∉ P.map (·.1) := fun z => hno (List.mem_append_left _ z)
    have h2 : k ≠ a := fun z => hno (List.mem_append_right _ (by rw [z]; exact List.mem_singleton.mpr rfl))
    obtain ⟨f, g, p, f0, g0, hj', _, _⟩ := t.oth k hk h2
    have ea : E a (o + k) = 0 := Classical.byContradiction fun ne => by
      rcases s.sup a ha k hk ne with h3 | h3
      · exact h2 h3
      · exact h1 h3
    intro z
    have := hj' (o + k) (by omega)
    rw [z, ea, Int.mul_zero, Int.mul_zero, Int.sub_zero] at this
    exact Int.mul_ne_zero f0 (s.diag k hk h1) this.symm
  · refine s.back φ fun k hk => ?_
    have hae : sm L (fun j => φ j * E a j) = 0 := by
      refine sm_cancel σ0 ?_
      rw [Int.mul_zero, ← sm_mul, ← h a ha]
      exact sm_congr fun j hj => by rw [hown j hj, ← Int.mul_assoc, ← Int.mul_assoc, Int.mul_comm σ]
    by_cases e : k = a
    · rw [e]; exact hae
    · obtain ⟨f, g, q, f0, g0, hj', _, _⟩ := t.oth k hk e
      refine sm_cancel f0 ?_
      have e1 : f * sm L (fun j => φ j * E k j) = g * sm L (fun j => φ j * E' k j) + q * sm L (fun j => φ j * E a j) := by
        rw [← sm_mul, ← sm_mul, ← sm_mul, ← sm_add]
        refine sm_congr fun j hj => ?_
        have : f * E k j = g * E' k j + q * E a j := by rw [hj' j hj]; omega
        have e2 : f * (φ j * E k j) = φ j * (f * E k j) := by rw [← Int.mul_assoc, ← Int.mul_assoc, Int.mul_comm f]
        have e3 : g * (φ j * E' k j) = φ j * (g * E' k j) := by rw [← Int.mul_assoc, ← Int.mul_assoc, Int.mul_comm g]
        have e4 : q * (φ j * E a j) = φ j * (q * E a j) := by rw [← Int.mul_assoc, ← Int.mul_assoc, Int.mul_comm q]
        rw [e2, e3, e4, this, Int.mul_add]
      rw [e1, h k hk, hae, Int.mul_zero, Int.mul_zero, Int.mul_zero]; rfl
end EL
set_option Elab.async false
set_option linter.all false
/-! Elimination, part c: how great the rows get. -/
namespace EL
/-- a product over some of the first n -/
def pd (s : Nat → Bool) (B : Nat → Nat) : Nat → Nat
  | 0 => 1
  | n + 1 => pd s B n * (if s n then B n else 1)
theorem pd_pos {s : Nat → Bool} {B : Nat → Nat} (h : ∀ r, 1 ≤ B r) : ∀ n, 0 < pd s B n
  | 0 => Nat.one_pos
  | n + 1 => Nat.mul_pos (pd_pos h n) (by split; exact h n; exact Nat.one_pos)
def ct (s : Nat → Bool) (n : Nat) : Nat := ((List.range n).filter s).length
theorem ct_succ (s : Nat → Bool) (n : Nat) : ct s (n + 1) = ct s n + if s n then 1 else 0 := by
  unfold ct
  rw [List.range_succ, List.filter_append, List.length_append]
  congr 1
  by_cases h : s n = true
  · rw [List.filter_cons_of_pos h, if_pos h]; rfl
  · rw [List.filter_cons_of_neg h, if_neg h]; rfl
theorem boxN_snoc (xs : List Nat) (b : Nat) : boxN (xs ++ [b]) = boxN xs * (b + 1) := by
  induction xs with
  | nil => show (b + 1) * 1 = 1 * (b + 1); omega
  | cons x xs ih => show (x + 1) * boxN (xs ++ [b]) = (x + 1) * boxN xs * (b + 1); rw [ih, Nat.mul_assoc]
abbrev rng (s : Nat → Bool) (B : Nat → Nat) (Q n : Nat) : List Nat := (List.range n).map fun r => if s r then Q / B r else 0
theorem rng_len (s : Nat → Bool) (B : Nat → Nat) (Q n : Nat) : (rng s B Q n).length = n := by simp [rng]
theorem rng_at {s : Nat → Bool} {B : Nat → Nat} {Q n i : Nat} (h : i < n) : (rng s B Q n).getD i 0 = if s i then Q / B i else 0 := by
  unfold rng
  rw [List.getD_eq_getElem?_getD, List.getElem?_map, List.getElem?_range h]; rfl
theorem rng_box {s : Nat → Bool} {B : Nat → Nat} {Q : Nat} (hB : ∀ r, 1 ≤ B r) : ∀ n, (Q + 1) ^ ct s n ≤ boxN (rng s B Q n) * pd s B n
  | 0 => Nat.le_refl _
  | n + 1 => by
    have ih := rng_box (s := s) (Q := Q) hB n
    unfold rng
    rw [List.range_succ, List.map_append, ct_succ]
    show _ ≤ boxN (rng s B Q n ++ [if s n then Q / B n else 0]) * (pd s B n * _)
    rw [boxN_snoc]
    by_cases h : s n = true
    · rw [if_pos h, if_pos h, if_pos h, Nat.pow_succ]
      have h1 : Q + 1 ≤ (Q / B n + 1) * B n := by
        have := Nat.lt_mul_div_succ Q (hB n)
        rw [Nat.mul_comm]
        exact this
      have e : boxN (rng s B Q n) * (Q / B n + 1) * (pd s B n * B n) = (boxN (rng s B Q n) * pd s B n) * ((Q / B n + 1) * B n) := by
        rw [Nat.mul_assoc, Nat.mul_assoc, Nat.mul_left_comm (Q / B n + 1)]
      rw [e]
      exact Nat.mul_le_mul ih h1
    · rw [if_neg h, if_neg h, if_neg h]
      show (Q + 1) ^ (ct s n) ≤ boxN (rng s B Q n) * (0 + 1) * (pd s B n * 1)
      rw [Nat.zero_add, Nat.mul_one, Nat.mul_one]
      exact ih
theorem sm_ct (s : Nat → Bool) (Q : Nat) : ∀ n, sm n (fun r => if s r then (Q : Int) else 0) = ((ct s n * Q : Nat) : Int)
  | 0 => by unfold ct; rw [List.range_zero]; show (0 : Int) = ((0 * Q : Nat) : Int); rw [Nat.zero_mul]; rfl
  | n + 1 => by
    show sm n _ + (if s n then (Q : Int) else 0) = _
    rw [sm_ct s Q n, ct_succ, Nat.add_mul]
    by_cases h : s n = true
    · rw [if_pos h, if_pos h, Nat.one_mul]; omega
    · rw [if_neg h, if_neg h, Nat.zero_mul]; omega
/-- a small solution over some rows -/
theorem small {n : Nat} {s : Nat → Bool} {B : Nat → Nat} {Q : Nat} {A : Nat → Nat → Int} (cs : List Nat) (hB1 : ∀ r, 1 ≤ B r) (hB : ∀ r, r < n → ∀ c ∈ cs, (A r c).natAbs ≤ B r) (hc : cs.length < ct s n) (hQ : ct s n ^ (ct s n - 1) * pd s B n ≤ Q) :
    ∃ m : Nat → Int, (∃ i, i < n ∧ m i ≠ 0) ∧ (∀ i, i < n → (m i).natAbs ≤ if s i then Q / B i else 0) ∧ ∀ c ∈ cs, sm n (fun i => m i * A i c) = 0 := by
  have hR : (List.replicate cs.length (ct s n * Q)).length = cs.length := List.length_replicate
  obtain ⟨m, h1, h2, h3⟩ := siegel (rng s B Q n) (List.replicate cs.length (ct s n * Q)) (fun i j => A i (cs.getD j 0)) (fun j hj => by
    rw [hR] at hj
    rw [rng_len]
    have e : (List.replicate cs.length (ct s n * Q)).getD j 0 = ct s n * Q := by rw [List.getD_eq_getElem?_getD, List.getElem?_replicate, if_pos hj]; rfl
    rw [e, ← sm_ct]
    refine sm_le fun i hi => ?_
    rw [rng_at hi]
    have hcm : cs.getD j 0 ∈ cs := by rw [List.getD_eq_getElem?_getD, List.getElem?_eq_getElem hj]; exact List.getElem_mem hj
    have hb := hB i hi _ hcm
    by_cases h : s i = true
    · rw [if_pos h, if_pos h]
      have h5 : (Q / B i) * (A i (cs.getD j 0)).natAbs ≤ Q := Nat.le_trans (Nat.mul_le_mul_left _ hb) (Nat.div_mul_le_self Q (B i))
      have : (((Q / B i : Nat) : Int) * (((A i (cs.getD j 0)).natAbs : Nat) : Int)) = (((Q / B i) * (A i (cs.getD j 0)).natAbs : Nat) : Int) := (Int.natCast_mul _ _).symm
      rw [this]
      exact Int.ofNat_le.mpr h5
    · rw [if_neg h, if_neg h]
      show (0 : Int) * _ ≤ 0
      rw [Int.zero_mul]; exact Int.le_refl _) (by
    rw [boxN_rep]
    have p0 := pd_pos (s := s) hB1 n
    have r := rng_box (s := s) (Q := Q) hB1 n
    have c1 : ct s n * Q + 1 ≤ ct s n * (Q + 1) := by rw [Nat.mul_add]; omega
    have c2 : (ct s n * Q + 1) ^ cs.length ≤ ct s n ^ (ct s n - 1) * (Q + 1) ^ (ct s n - 1) := by
      rw [← Nat.mul_pow]
      exact Nat.le_trans (Nat.pow_le_pow_left c1 _) (Nat.pow_le_pow_right (Nat.mul_pos (by omega) (by omega)) (by omega))
    apply Classical.byContradiction
    intro no
    have c3 : boxN (rng s B Q n) * pd s B n ≤ ct s n ^ (ct s n - 1) * (Q + 1) ^ (ct s n - 1) * pd s B n := Nat.mul_le_mul_right _ (by omega)
    have c4 : ct s n ^ (ct s n - 1) * (Q + 1) ^ (ct s n - 1) * pd s B n ≤ Q * (Q + 1) ^ (ct s n - 1) := by
      rw [Nat.mul_right_comm]
      exact Nat.mul_le_mul_right _ hQ
    have c5 : Q * (Q + 1) ^ (ct s n - 1) < (Q + 1) ^ ct s n := by
      have e : ct s n = ct s n - 1 + 1 := by omega
      rw (occs := .pos [2]) [e]
      rw [Nat.pow_succ, Nat.mul_comm]
      exact Nat.mul_lt_mul_of_pos_left (by omega) (Nat.pow_pos (by omega))
    omega)
  rw [rng_len] at h1 h2 h3
  refine ⟨m, h1, fun i hi => by rw [← rng_at (s := s) (B := B) (Q := Q) hi]; exact h2 i hi, fun c hc => ?_⟩
  obtain ⟨j, hj, rfl⟩ := List.mem_iff_getElem.mp hc
  have := h3 j (by rw [hR]; exact hj)
  rw [← this]
  refine sm_congr fun i _ => ?_
  rw [List.getD_eq_getElem?_getD, List.getElem?_eq_getElem hj]; rfl
end EL
set_option Elab.async false
set_option linter.all false
/-! Elimination, part d: a row's marks are settled by few equations, so they are small. -/
namespace EL
theorem dvd_of_prim {n : Nat} {e : Nat → Int} {g a : Int} (hg : g ≠ 0) (h : ∀ i, i < n → g ∣ a * e i) (prim : ∀ d : Int, (∀ i, i < n → d ∣ e i) → d ∣ 1) : g ∣ a := by
  have hG : 0 < Nat.gcd g.natAbs a.natAbs := Nat.gcd_pos_of_pos_left _ (by omega)
  obtain ⟨g', hg'⟩ := Nat.gcd_dvd_left g.natAbs a.natAbs
  obtain ⟨a', ha'⟩ := Nat.gcd_dvd_right g.natAbs a.natAbs
  have hd : Nat.gcd g.natAbs a.natAbs ∣ a.natAbs := Nat.gcd_dvd_right _ _
  have co : Nat.Coprime g' a' := by
    have := Nat.gcd_mul_left (Nat.gcd g.natAbs a.natAbs) g' a'
    rw [← hg', ← ha'] at this
    exact Nat.eq_of_mul_eq_mul_left hG (by rw [Nat.mul_one]; exact this.symm)
  generalize Nat.gcd g.natAbs a.natAbs = G at hG hg' ha' hd
  have h2 := prim (g' : Int) fun i hi => by
    have h3 : g.natAbs ∣ a.natAbs * (e i).natAbs := by rw [← Int.natAbs_mul]; exact Int.natAbs_dvd_natAbs.mpr (h i hi)
    rw [hg', ha', Nat.mul_assoc] at h3
    have h4 : g' ∣ a' * (e i).natAbs := Nat.dvd_of_mul_dvd_mul_left hG h3
    exact Int.ofNat_dvd_left.mpr (co.dvd_of_dvd_mul_left h4)
  have h5 : g' = 1 := by
    have : g' ∣ 1 := Int.natCast_dvd_natCast.mp h2
    exact Nat.dvd_one.mp this
  rw [h5, Nat.mul_one] at hg'
  refine Int.natAbs_dvd_natAbs.mp ?_
  rw [hg']
  exact hd
theorem nodup_at {α : Type} : ∀ {xs : List α}, xs.Nodup → ∀ {i j : Nat} (hi : i < xs.length) (hj : j < xs.length), xs[i] = xs[j] → i = j
  | x :: xs, h, 0, 0, _, _, _ => rfl
  | x :: xs, h, 0, j + 1, _, hj, e => by
    have hj' : j < xs.length := by simpa using hj
    have e : x = xs[j] := e
    exact absurd (List.getElem_mem hj') (by rw [← e]; exact (List.nodup_cons.mp h).1)
  | x :: xs, h, i + 1, 0, hi, _, e => by
    have hi' : i < xs.length := by simpa using hi
    have e : xs[i] = x := e
    exact absurd (List.getElem_mem hi') (by rw [e]; exact (List.nodup_cons.mp h).1)
  | x :: xs, h, i + 1, j + 1, hi, hj, e => by
    have hi' : i < xs.length := by simpa using hi
    have hj' : j < xs.length := by simpa using hj
    exact congrArg (· + 1) (nodup_at (List.nodup_cons.mp h).2 hi' hj' e)
abbrev sel (P : List (Nat × Nat)) (k : Nat) : Nat → Bool := fun r => decide (r = k ∨ r ∈ P.map (·.1))
theorem St.bound {n L o w : Nat} {A E : Nat → Nat → Int} {P : List (Nat × Nat)} (s : St n L o w A E P) (hL : o + n ≤ L) (hw : w ≤ o) {k : Nat} (hk : k < n) {B : Nat → Nat} {Q : Nat} (hB1 : ∀ r, 1 ≤ B r) (hB : ∀ r, r < n → ∀ c, c < w → (A r c).natAbs ≤ B r)
    (hQ : ct (sel P k) n ^ (ct (sel P k) n - 1) * pd (sel P k) B n ≤ Q) : ∀ i, i < n → (E k (o + i)).natAbs ≤ Q / B i := by
  have hss : ∀ r, r ∈ (List.range n).filter (sel P k) ↔ r < n ∧ (r = k ∨ r ∈ P.map (·.1)) := fun r => by
    rw [List.mem_filter, List.mem_range, decide_eq_true_eq]
  have hsn : ((List.range n).filter (sel P k)).Nodup := List.Nodup.sublist List.filter_sublist List.nodup_range
  have hP : ∀ r, r ∈ P.map (·.1) → r < n := fun r hr => by
    obtain ⟨p, hp, rfl⟩ := List.mem_map.mp hr
    exact (s.piv p hp).1
  have hc : ((P.filter fun p => p.1 ≠ k).map (·.2)).length < ct (sel P k) n := by
    have h1 : (k :: (P.filter fun p => p.1 ≠ k).map (·.1)).Nodup := by
      refine List.nodup_cons.mpr ⟨fun hm => ?_, List.Nodup.sublist (List.Sublist.map _ List.filter_sublist) s.nr⟩
      obtain ⟨p, hp, e⟩ := List.mem_map.mp hm
      have := (List.mem_filter.mp hp).2
      rw [decide_eq_true_eq] at this
      exact this e
    have h2 := php _ ((List.range n).filter (sel P k)) h1 fun x hx => (hss x).mpr (by
      rcases List.mem_cons.mp hx with rfl | hx
      · exact ⟨hk, .inl rfl⟩
      · obtain ⟨p, hp, rfl⟩ := List.mem_map.mp hx
        have hm : p.1 ∈ P.map (·.1) := List.mem_map.mpr ⟨p, (List.mem_filter.mp hp).1, rfl⟩
        exact ⟨hP _ hm, .inr hm⟩)
    rw [List.length_cons, List.length_map] at h2
    rw [List.length_map]
    exact h2
  obtain ⟨m, ⟨i0, hi0, hm0⟩, m2, m3⟩ := small (A := A) ((P.filter fun p => p.1 ≠ k).map (·.2)) hB1 (fun r hr c hcm => by
    obtain ⟨p, hp, rfl⟩ := List.mem_map.mp hcm
    exact hB r hr _ (s.piv p (List.mem_filter.mp hp).1).2.1) hc hQ
  generalize hS : (List.range n).filter (sel P k) = ss at hss hsn
  have hct : ct (sel P k) n = ss.length := by unfold ct; rw [hS]
  -- the marks of these rows and m: more than there are places
  obtain ⟨α, ⟨u0, hu0, hα0⟩, hα⟩ := some_sol (n := ss.length + 1) (q := ss.length) (fun u j => if u < ss.length then E (ss.getD u 0) (o + ss.getD j 0) else m (ss.getD j 0)) (Nat.lt_succ_self _)
  have gd : ∀ {u}, u < ss.length → ss.getD u 0 ∈ ss := fun {u} hu => by rw [List.getD_eq_getElem?_getD, List.getElem?_eq_getElem hu]; exact List.getElem_mem hu
  have gi : ∀ {r}, r ∈ ss → ∃ u, u < ss.length ∧ ss.getD u 0 = r := fun {r} hr => by
    obtain ⟨u, hu, e⟩ := List.mem_iff_getElem.mp hr
    exact ⟨u, hu, by rw [List.getD_eq_getElem?_getD, List.getElem?_eq_getElem hu]; exact e⟩
  have ginj : ∀ {u v}, u < ss.length → v < ss.length → ss.getD u 0 = ss.getD v 0 → u = v := fun {u v} hu hv e => by
    rw [List.getD_eq_getElem?_getD, List.getD_eq_getElem?_getD, List.getElem?_eq_getElem hu, List.getElem?_eq_getElem hv] at e
    exact nodup_at hsn hu hv e
  have full : ∀ i, i < n → sm ss.length (fun u => α u * E (ss.getD u 0) (o + i)) + α ss.length * m i = 0 := fun i hi => by
    by_cases h : i ∈ ss
    · obtain ⟨j, hj, e⟩ := gi h
      have := hα j hj
      have e2 : sm (ss.length + 1) (fun u => α u * (if u < ss.length then E (ss.getD u 0) (o + ss.getD j 0) else m (ss.getD j 0))) = sm ss.length (fun u => α u * E (ss.getD u 0) (o + i)) + α ss.length * m i := by
        show sm ss.length _ + α ss.length * (if ss.length < ss.length then _ else _) = _
        rw [if_neg (Nat.lt_irrefl _), e]
        congr 1
        exact sm_congr fun u hu => by rw [if_pos hu]
      rw [← e2]; exact this
    · have e1 : m i = 0 := by
        have h1 := m2 i hi
        have h2 : ¬ (sel P k i = true) := fun z => h ((hss i).mpr ⟨hi, of_decide_eq_true z⟩)
        rw [if_neg h2] at h1
        omega
      rw [e1, Int.mul_zero, Int.add_zero]
      refine sm_zero fun u hu => ?_
      have hu2 := (hss _).mp (gd hu)
      have : E (ss.getD u 0) (o + i) = 0 := Classical.byContradiction fun ne => by
        rcases s.sup _ hu2.1 i hi ne with h3 | h3
        · exact h (by rw [h3]; exact gd hu)
        · exact h ((hss i).mpr ⟨hi, .inr h3⟩)
      rw [this, Int.mul_zero]
  have offk : ∀ u, u < ss.length → ss.getD u 0 ≠ k → α u = 0 := fun u hu hne => by
    have hu2 := (hss _).mp (gd hu)
    obtain ⟨p, hp, e⟩ := List.mem_map.mp (hu2.2.resolve_left hne)
    obtain ⟨p1, p2, p3, p4⟩ := s.piv p hp
    have hcm : p.2 ∈ (P.filter fun p => p.1 ≠ k).map (·.2) := List.mem_map.mpr ⟨p, List.mem_filter.mpr ⟨hp, by rw [decide_eq_true_eq, e]; exact hne⟩, rfl⟩
    have z1 := m3 _ hcm
    have z2 : sm n (fun i => (sm ss.length (fun u => α u * E (ss.getD u 0) (o + i)) + α ss.length * m i) * A i p.2) = 0 := sm_zero fun i hi => by rw [full i hi, Int.zero_mul]
    have z3 : sm n (fun i => (sm ss.length (fun u => α u * E (ss.getD u 0) (o + i)) + α ss.length * m i) * A i p.2) = sm ss.length (fun u => α u * E (ss.getD u 0) p.2) + α ss.length * sm n (fun i => m i * A i p.2) := by
      rw [← sm_mul, ← sm_congr (n := n) (f := fun i => sm ss.length (fun u => α u * E (ss.getD u 0) (o + i)) * A i p.2 + α ss.length * (m i * A i p.2)) fun i hi => by rw [Int.add_mul, Int.mul_assoc]]
      rw [sm_add]
      congr 1
      rw [← sm_congr (n := n) (f := fun i => sm ss.length fun u => α u * E (ss.getD u 0) (o + i) * A i p.2) fun i hi => sm_mul', sm_comm]
      refine sm_congr fun v hv => ?_
      rw [s.comb _ ((hss _).mp (gd hv)).1 p.2 (by omega), ← sm_mul]
      exact sm_congr fun i hi => Int.mul_assoc _ _ _
    rw [z3, z1, Int.mul_zero, Int.add_zero, sm_one hu fun v hv hvu => by
      rw [p4 _ ((hss _).mp (gd hv)).1 (by rw [e]; exact fun z => hvu (ginj hv hu z)), Int.mul_zero]] at z2
    rcases Int.mul_eq_zero.mp z2 with h | h
    · exact h
    · rw [← e] at h; exact absurd h p3
  obtain ⟨uk, huk, ek⟩ := gi ((hss k).mpr ⟨hk, .inl rfl⟩)
  have key : ∀ i, i < n → α uk * E k (o + i) + α ss.length * m i = 0 := fun i hi => by
    have := full i hi
    rw [sm_one huk fun v hv hvu => by rw [offk v hv fun z => hvu (ginj hv huk (z.trans ek.symm)), Int.zero_mul], ek] at this
    exact this
  have γ0 : α ss.length ≠ 0 := fun z => by
    have ak : α uk ≠ 0 := fun zk => by
      by_cases h : u0 < ss.length
      · by_cases h2 : ss.getD u0 0 = k
        · exact hα0 (by rw [ginj h huk (h2.trans ek.symm)]; exact zk)
        · exact hα0 (offk u0 h h2)
      · have : u0 = ss.length := by omega
        rw [this] at hα0
        exact hα0 z
    have := s.prim k hk 2 fun i hi => by
      have := key i hi
      rw [z, Int.zero_mul, Int.add_zero] at this
      rw [(Int.mul_eq_zero.mp this).resolve_left ak]
      exact ⟨0, rfl⟩
    omega
  obtain ⟨t, ht⟩ := dvd_of_prim (n := n) (e := fun i => E k (o + i)) (a := α uk) γ0 (fun i hi => ⟨-(m i), by have := key i hi; rw [Int.mul_neg]; omega⟩) (s.prim k hk)
  have hm : ∀ i, i < n → m i = -(t * E k (o + i)) := fun i hi => by
    have := key i hi
    rw [ht, Int.mul_assoc, ← Int.mul_add] at this
    have := (Int.mul_eq_zero.mp this).resolve_left γ0
    omega
  have t0 : t ≠ 0 := fun z => hm0 (by rw [hm i0 hi0, z, Int.zero_mul]; rfl)
  intro i hi
  have h1 := m2 i hi
  rw [hm i hi, Int.natAbs_neg, Int.natAbs_mul] at h1
  have h2 : (E k (o + i)).natAbs ≤ t.natAbs * (E k (o + i)).natAbs := Nat.le_mul_of_pos_left _ (by omega)
  split at h1
  · exact Nat.le_trans h2 h1
  · have := Nat.zero_le (Q / B i); omega
end EL
set_option Elab.async false
set_option linter.all false
/-! Elimination, part e: the steps on lists. -/
namespace EL
open K00
abbrev gcdZ (xs : List Int) : Nat := gcdL 0 xs
def lowL (xs : List Int) : List Int := if gcdZ xs = 0 then xs else xs.map (· / (gcdZ xs : Int))
abbrev rowAt (es : List (List Int)) (k : Nat) : List Int := es.getD k []
abbrev at2 (es : List (List Int)) (k j : Nat) : Int := (rowAt es k).getD j 0
/-- a row less so much of the chosen one that its column is nought -/
def preL (e ch : List Int) (c : Nat) : List Int := (List.range e.length).map fun j => e.getD j 0 * ch.getD c 0 - ch.getD j 0 * e.getD c 0
def clearL (es : List (List Int)) (a c : Nat) : List (List Int) :=
  (List.range es.length).map fun k => if k = a ∨ at2 es k c = 0 then rowAt es k else lowL (preL (rowAt es k) (rowAt es a) c)
def freeL (es : List (List Int)) (us : List Nat) (c : Nat) : Option Nat := (List.range es.length).find? fun k => decide (k ∉ us ∧ at2 es k c ≠ 0)
def negL (es : List (List Int)) (a c : Nat) : List (List Int) := if at2 es a c < 0 then es.set a ((rowAt es a).map fun x => -x) else es
abbrev Stt : Type := List (List Int) × List (Nat × Nat)
def stepL (st : Stt) (c : Nat) : Stt := match freeL st.1 (st.2.map (·.1)) c with
  | none => st
  | some a => (clearL (negL st.1 a c) a c, st.2 ++ [(a, c)])
def elimN (es : List (List Int)) : Nat → Stt
  | 0 => (es.map lowL, [])
  | c + 1 => stepL (elimN es c) c
theorem getD_range {α : Type} {n k : Nat} {f : Nat → α} {d : α} (h : k < n) : ((List.range n).map f).getD k d = f k := by
  rw [List.getD_eq_getElem?_getD, List.getElem?_map, List.getElem?_range h]; rfl
theorem gcdZ_dvd {xs : List Int} {j : Nat} : (gcdZ xs : Int) ∣ xs.getD j 0 := by
  by_cases h : j < xs.length
  · rw [List.getD_eq_getElem?_getD, List.getElem?_eq_getElem h]
    exact Int.ofNat_dvd_left.mpr ((dvd_gcdL.mp (Nat.dvd_refl (gcdZ xs))).2 _ (List.getElem_mem h))
  · rw [List.getD_eq_getElem?_getD, List.getElem?_eq_none (by omega)]
    exact ⟨0, (Int.mul_zero _).symm⟩
theorem lowL_len (xs : List Int) : (lowL xs).length = xs.length := by unfold lowL; split <;> simp
theorem lowL_at {xs : List Int} (h : gcdZ xs ≠ 0) (j : Nat) : (gcdZ xs : Int) * (lowL xs).getD j 0 = xs.getD j 0 := by
  unfold lowL
  rw [if_neg h]
  by_cases hj : j < xs.length
  · have hd := gcdZ_dvd (xs := xs) (j := j)
    have e1 : xs.getD j 0 = xs[j] := by rw [List.getD_eq_getElem?_getD, List.getElem?_eq_getElem hj]; rfl
    have e2 : (xs.map (· / (gcdZ xs : Int))).getD j 0 = xs[j] / (gcdZ xs : Int) := by rw [List.getD_eq_getElem?_getD, List.getElem?_map, List.getElem?_eq_getElem hj]; rfl
    rw [e1] at hd
    rw [e1, e2]
    exact Int.mul_ediv_cancel' hd
  · rw [List.getD_eq_getElem?_getD, List.getD_eq_getElem?_getD, List.getElem?_map, List.getElem?_eq_none (by omega)]
    exact Int.mul_zero _
/-- nothing divides all numbers of such a row -/
theorem lowL_prim {xs : List Int} (h : gcdZ xs ≠ 0) {d : Int} (hd : ∀ j, j < xs.length → d ∣ (lowL xs).getD j 0) : d ∣ 1 := by
  have h1 : ((gcdZ xs : Int) * d).natAbs ∣ gcdZ xs := by
    refine dvd_gcdL.mpr ⟨Nat.dvd_zero _, fun x hx => ?_⟩
    obtain ⟨j, hj, rfl⟩ := List.mem_iff_getElem.mp hx
    have := lowL_at h j
    rw [List.getD_eq_getElem?_getD (l := xs), List.getElem?_eq_getElem hj] at this
    refine Int.natAbs_dvd_natAbs.mpr ?_
    show _ ∣ xs[j]
    have e : xs[j] = (gcdZ xs : Int) * (lowL xs).getD j 0 := this.symm
    rw [e]
    exact Int.mul_dvd_mul (Int.dvd_refl _) (hd j hj)
  rw [Int.natAbs_mul] at h1
  have h2 : d.natAbs ∣ 1 := Nat.dvd_of_mul_dvd_mul_left (Nat.pos_of_ne_zero h) (by rw [Nat.mul_one]; exact h1)
  exact Int.natAbs_dvd_natAbs.mp h2
theorem preL_at {e ch : List Int} {c j : Nat} (h : j < e.length) : (preL e ch c).getD j 0 = e.getD j 0 * ch.getD c 0 - ch.getD j 0 * e.getD c 0 := getD_range h
/-- all rows of one length -/
structure Rect (es : List (List Int)) (n L : Nat) : Prop where
  rows : es.length = n
  cols : ∀ k, k < n → (rowAt es k).length = L
theorem rowAt_set {es : List (List Int)} {a k : Nat} {r : List Int} (ha : a < es.length) : rowAt (es.set a r) k = if k = a then r else rowAt es k := by
  unfold rowAt
  rw [List.getD_eq_getElem?_getD, List.getElem?_set]
  by_cases h : a = k
  · subst h
    rw [if_pos rfl, if_pos rfl, if_pos ha]; rfl
  · rw [if_neg h, if_neg (Ne.symm h), List.getD_eq_getElem?_getD]
theorem neg_row {es : List (List Int)} {n L a c k : Nat} (R : Rect es n L) (ha : a < n) : rowAt (negL es a c) k = if k = a ∧ at2 es a c < 0 then (rowAt es a).map (fun x => -x) else rowAt es k := by
  unfold negL
  by_cases h : at2 es a c < 0
  · rw [if_pos h, rowAt_set (by rw [R.rows]; exact ha)]
    by_cases e : k = a
    · rw [if_pos e, if_pos ⟨e, h⟩]
    · rw [if_neg e, if_neg fun z => e z.1]
  · rw [if_neg h, if_neg fun z => h z.2]
theorem neg_len (es : List (List Int)) (a c : Nat) : (negL es a c).length = es.length := by unfold negL; split <;> simp
theorem neg_rect {es : List (List Int)} {n L a c : Nat} (R : Rect es n L) (ha : a < n) : Rect (negL es a c) n L := by
  refine ⟨by rw [neg_len]; exact R.rows, fun k hk => ?_⟩
  rw [neg_row R ha]
  split
  · rw [List.length_map]; exact R.cols a ha
  · exact R.cols k hk
theorem getD_neg (xs : List Int) (j : Nat) : (xs.map fun x => -x).getD j 0 = -(xs.getD j 0) := by
  rw [List.getD_eq_getElem?_getD, List.getD_eq_getElem?_getD, List.getElem?_map]
  cases xs[j]? <;> rfl
theorem clear_row {es : List (List Int)} {n L a c k : Nat} (R : Rect es n L) (hk : k < n) : rowAt (clearL es a c) k = if k = a ∨ at2 es k c = 0 then rowAt es k else lowL (preL (rowAt es k) (rowAt es a) c) := by
  unfold rowAt clearL
  exact getD_range (by rw [R.rows]; exact hk)
theorem clear_rect {es : List (List Int)} {n L a c : Nat} (R : Rect es n L) : Rect (clearL es a c) n L := by
  refine ⟨by unfold clearL; rw [List.length_map, List.length_range]; exact R.rows, fun k hk => ?_⟩
  rw [clear_row R hk]
  split
  · exact R.cols k hk
  · rw [lowL_len]; unfold preL; rw [List.length_map, List.length_range]; exact R.cols k hk
/-- one column: the step of part b -/
theorem step_ok {n L o w : Nat} {A : Nat → Nat → Int} {es : List (List Int)} {P : List (Nat × Nat)} {a c : Nat} (s : St n L o w A (at2 es) P) (R : Rect es n L) (hL : L = o + n) (hw : w ≤ o) (ha : a < n) (hna : a ∉ P.map (·.1)) (hc : c < w) (hp : at2 es a c ≠ 0) :
    Step n L o (at2 es) (at2 (clearL (negL es a c) a c)) a c := by
  have R1 := neg_rect (c := c) R ha
  obtain ⟨σ, hσ, h1⟩ : ∃ σ : Int, (σ = 1 ∨ σ = -1) ∧ ∀ j, at2 (negL es a c) a j = σ * at2 es a j := by
    by_cases h : at2 es a c < 0
    · exact ⟨-1, .inr rfl, fun j => by
        show (rowAt (negL es a c) a).getD j 0 = _
        rw [neg_row R ha, if_pos ⟨rfl, h⟩, getD_neg, Int.neg_mul, Int.one_mul]⟩
    · exact ⟨1, .inl rfl, fun j => by
        show (rowAt (negL es a c) a).getD j 0 = _
        rw [neg_row R ha, if_neg fun z => h z.2, Int.one_mul]⟩
  have h2 : ∀ k, k ≠ a → rowAt (negL es a c) k = rowAt es k := fun k hk => by rw [neg_row R ha, if_neg fun z => hk z.1]
  have σ0 : σ ≠ 0 := by rcases hσ with h | h <;> omega
  refine ⟨⟨σ, hσ, fun j hj => ?_⟩, fun k hk hne => ?_⟩
  · show (rowAt (clearL (negL es a c) a c) a).getD j 0 = _
    rw [clear_row R1 ha, if_pos (.inl rfl)]
    exact h1 j
  · by_cases hz : at2 es k c = 0
    · have er : rowAt (clearL (negL es a c) a c) k = rowAt es k := by
        rw [clear_row R1 hk, if_pos (.inr (by show (rowAt (negL es a c) k).getD c 0 = 0; rw [h2 k hne]; exact hz)), h2 k hne]
      refine ⟨1, 1, 0, by decide, by decide, fun j hj => ?_, ?_, fun d hd => s.prim k hk d fun i hi => ?_⟩
      · show 1 * (rowAt (clearL (negL es a c) a c) k).getD j 0 = _
        rw [er, Int.zero_mul, Int.sub_zero]
      · show (rowAt (clearL (negL es a c) a c) k).getD c 0 = 0
        rw [er]; exact hz
      · have := hd i hi
        show d ∣ (rowAt es k).getD (o + i) 0
        rw [← er]; exact this
    · have er : rowAt (clearL (negL es a c) a c) k = lowL (preL (rowAt es k) (rowAt (negL es a c) a) c) := by
        rw [clear_row R1 hk, if_neg (fun z => z.elim hne fun z => hz (by
          have z : (rowAt (negL es a c) k).getD c 0 = 0 := z
          rw [h2 k hne] at z; exact z)), h2 k hne]
      have hl := R.cols k hk
      have pa : ∀ j, j < L → (preL (rowAt es k) (rowAt (negL es a c) a) c).getD j 0 = at2 es k j * (σ * at2 es a c) - (σ * at2 es a j) * at2 es k c := fun j hj => by
        have e1 : (rowAt (negL es a c) a).getD c 0 = σ * at2 es a c := h1 c
        have e2 : (rowAt (negL es a c) a).getD j 0 = σ * at2 es a j := h1 j
        rw [preL_at (by rw [hl]; exact hj), e1, e2]
      have plen : (preL (rowAt es k) (rowAt (negL es a c) a) c).length = L := by unfold preL; rw [List.length_map, List.length_range, hl]
      have g0 : gcdZ (preL (rowAt es k) (rowAt (negL es a c) a) c) ≠ 0 := fun z => by
        have hd := gcdZ_dvd (xs := preL (rowAt es k) (rowAt (negL es a c) a) c) (j := o + a)
        rw [z, pa _ (by omega)] at hd
        have e0 : at2 es k (o + a) = 0 := Classical.byContradiction fun ne => by
          rcases s.sup k hk a ha ne with h3 | h3
          · exact hne h3.symm
          · exact hna h3
        rw [e0, Int.zero_mul, Int.zero_sub] at hd
        have := Int.zero_dvd.mp hd
        have := s.diag a ha hna
        exact Int.mul_ne_zero (Int.mul_ne_zero σ0 this) hz (by omega)
      have hlow : ∀ j, j < L → ((gcdZ (preL (rowAt es k) (rowAt (negL es a c) a) c) : Nat) : Int) * at2 (clearL (negL es a c) a c) k j = (σ * at2 es a c) * at2 es k j - (σ * at2 es k c) * at2 es a j := fun j hj => by
        show _ * (rowAt (clearL (negL es a c) a c) k).getD j 0 = _
        rw [er, lowL_at g0, pa j hj, Int.mul_comm (at2 es k j), Int.mul_assoc σ (at2 es a j), Int.mul_comm (at2 es a j), ← Int.mul_assoc σ (at2 es k c)]
      refine ⟨σ * at2 es a c, ((gcdZ (preL (rowAt es k) (rowAt (negL es a c) a) c) : Nat) : Int), σ * at2 es k c, Int.mul_ne_zero σ0 hp, by omega, hlow, ?_, fun d hd => ?_⟩
      · refine sm_cancel (g := ((gcdZ (preL (rowAt es k) (rowAt (negL es a c) a) c) : Nat) : Int)) (by omega) ?_
        rw [hlow c (by omega), Int.mul_zero, Int.mul_right_comm, Int.sub_self]
      · refine lowL_prim g0 fun j hj => ?_
        rw [plen] at hj
        have hcomb : at2 (clearL (negL es a c) a c) k j = sm n fun i => at2 (clearL (negL es a c) a c) k (o + i) * A i j := by
          refine sm_cancel (g := ((gcdZ (preL (rowAt es k) (rowAt (negL es a c) a) c) : Nat) : Int)) (by omega) ?_
          rw [hlow j hj, ← sm_mul, s.comb k hk j hj, s.comb a ha j hj, ← sm_mul, ← sm_mul, ← sm_sub]
          exact sm_congr fun i hi => by rw [← Int.mul_assoc, ← Int.mul_assoc, ← Int.mul_assoc, ← Int.sub_mul, hlow (o + i) (by omega)]
        have e2 : (lowL (preL (rowAt es k) (rowAt (negL es a c) a) c)).getD j 0 = at2 (clearL (negL es a c) a c) k j := by
          show _ = (rowAt (clearL (negL es a c) a c) k).getD j 0
          rw [er]
        rw [e2, hcomb]
        have dsm : ∀ (m : Nat) (f : Nat → Int), (∀ i, i < m → d ∣ f i) → d ∣ sm m f := by
          intro m f
          induction m with
          | zero => intro _; exact ⟨0, (Int.mul_zero d).symm⟩
          | succ m ih => intro h; exact Int.dvd_add (ih fun i hi => h i (by omega)) (h m (by omega))
        exact dsm n _ fun i hi => Int.dvd_mul_of_dvd_left (hd i hi)
end EL
set_option Elab.async false
set_option linter.all false
/-! Elimination, part f: all columns; sizes. -/
namespace EL
open K00
/-- the rows behind c columns -/
structure EInv (n L o w c : Nat) (A : Nat → Nat → Int) (st : Stt) : Prop where
  sv : St n L o w A (at2 st.1) st.2
  rect : Rect st.1 n L
  few : st.2.length ≤ c
  zero : ∀ k, k < n → k ∉ st.2.map (·.1) → ∀ j, j < c → at2 st.1 k j = 0
theorem EInv.next {n L o w c : Nat} {A : Nat → Nat → Int} {st : Stt} (h : EInv n L o w c A st) (hL : L = o + n) (hw : w ≤ o) (hc : c < w) : EInv n L o w (c + 1) A (stepL st c) := by
  unfold stepL
  cases hf : freeL st.1 (st.2.map (·.1)) c with
  | none =>
    have hn := List.find?_eq_none.mp hf
    refine ⟨h.sv, h.rect, Nat.le_succ_of_le h.few, fun k hk hno j hj => ?_⟩
    by_cases e : j < c
    · exact h.zero k hk hno j e
    · have e : j = c := by omega
      subst e
      have := hn k (List.mem_range.mpr (by rw [h.rect.rows]; exact hk))
      rw [decide_eq_true_eq] at this
      exact Classical.byContradiction fun ne => this ⟨hno, ne⟩
  | some a =>
    have h1 := List.find?_some hf
    have h2 := List.mem_range.mp (List.mem_of_find?_eq_some hf)
    rw [decide_eq_true_eq] at h1
    rw [h.rect.rows] at h2
    have T := step_ok h.sv h.rect hL hw h2 h1.1 hc h1.2
    refine ⟨h.sv.step (by omega) hw h2 h1.1 hc h1.2 T, clear_rect (neg_rect h.rect h2), by rw [List.length_append, List.length_singleton]; exact Nat.succ_le_succ h.few, fun k hk hno j hj => ?_⟩
    rw [List.map_append] at hno
    have n1 : k ∉ st.2.map (·.1) := fun z => hno (List.mem_append_left _ z)
    have n2 : k ≠ a := fun z => hno (List.mem_append_right _ (by rw [z]; exact List.mem_singleton.mpr rfl))
    obtain ⟨f, g, p, f0, g0, hj', hz, _⟩ := T.oth k hk n2
    by_cases e : j < c
    · refine sm_cancel g0 ?_
      rw [hj' j (by omega), h.zero k hk n1 j e, h.zero a h2 h1.1 j e, Int.mul_zero, Int.mul_zero, Int.mul_zero]; rfl
    · have e : j = c := by omega
      rw [e]; exact hz
theorem inv_all {n L o w : Nat} {es : List (List Int)} (h : EInv n L o w 0 (at2 es) (elimN es 0)) (hL : L = o + n) (hw : w ≤ o) : ∀ c, c ≤ w → EInv n L o w c (at2 es) (elimN es c)
  | 0, _ => h
  | c + 1, hc => (inv_all h hL hw c (by omega)).next hL hw (by omega)
/-! ### the table with its right side and marks -/
def markL (n k : Nat) : List Int := (List.replicate n (0 : Int)).set k 1
theorem mark_len (n k : Nat) : (markL n k).length = n := by simp [markL]
theorem mark_at {n k i : Nat} (hi : i < n) : (markL n k).getD i 0 = if i = k then 1 else 0 := by
  unfold markL
  rw [List.getD_eq_getElem?_getD, List.getElem?_set, List.getElem?_replicate]
  by_cases e : k = i
  · subst e
    rw [if_pos rfl, if_pos rfl, if_pos (by rw [List.length_replicate]; exact hi)]; rfl
  · rw [if_neg e, if_neg (Ne.symm e), if_pos hi]; rfl
def augL (T : List (List Int)) (b : List Int) : List (List Int) := (List.range T.length).map fun k => T.getD k [] ++ [b.getD k 0] ++ markL T.length k
theorem getD_app {xs ys : List Int} {j : Nat} : (xs ++ ys).getD j 0 = if j < xs.length then xs.getD j 0 else ys.getD (j - xs.length) 0 := by
  rw [List.getD_eq_getElem?_getD, List.getElem?_append]
  split <;> rw [List.getD_eq_getElem?_getD]
theorem aug_row {T : List (List Int)} {b : List Int} {k : Nat} (hk : k < T.length) : rowAt (augL T b) k = T.getD k [] ++ [b.getD k 0] ++ markL T.length k := getD_range hk
theorem aug_rect {T : List (List Int)} {b : List Int} {w : Nat} (h : ∀ k, k < T.length → (T.getD k []).length = w) : Rect (augL T b) T.length (w + 1 + T.length) := by
  refine ⟨by simp [augL], fun k hk => ?_⟩
  rw [aug_row hk, List.length_append, List.length_append, h k hk, mark_len]; rfl
theorem aug_tab {T : List (List Int)} {b : List Int} {w k j : Nat} (h : ∀ k, k < T.length → (T.getD k []).length = w) (hk : k < T.length) (hj : j < w) : at2 (augL T b) k j = (T.getD k []).getD j 0 := by
  show (rowAt (augL T b) k).getD j 0 = _
  rw [aug_row hk, getD_app, if_pos (by rw [List.length_append, h k hk]; omega), getD_app, if_pos (by rw [h k hk]; exact hj)]
theorem aug_rt {T : List (List Int)} {b : List Int} {w k : Nat} (h : ∀ k, k < T.length → (T.getD k []).length = w) (hk : k < T.length) : at2 (augL T b) k w = b.getD k 0 := by
  show (rowAt (augL T b) k).getD w 0 = _
  rw [aug_row hk, getD_app, if_pos (by rw [List.length_append, h k hk]; simp), getD_app, if_neg (by rw [h k hk]; omega), h k hk, Nat.sub_self]; rfl
theorem aug_mark {T : List (List Int)} {b : List Int} {w k i : Nat} (h : ∀ k, k < T.length → (T.getD k []).length = w) (hk : k < T.length) (hi : i < T.length) : at2 (augL T b) k (w + 1 + i) = if i = k then 1 else 0 := by
  show (rowAt (augL T b) k).getD (w + 1 + i) 0 = _
  rw [aug_row hk, getD_app, if_neg (by rw [List.length_append, h k hk, List.length_singleton]; omega), List.length_append, h k hk, List.length_singleton, Nat.add_sub_cancel_left, mark_at hi]
theorem lowL_one {xs : List Int} {j : Nat} (h : xs.getD j 0 = 1) : lowL xs = xs := by
  have hd := gcdZ_dvd (xs := xs) (j := j)
  rw [h] at hd
  have e : gcdZ xs = 1 := Nat.dvd_one.mp (Int.natCast_dvd_natCast.mp hd)
  unfold lowL
  rw [e, if_neg (by decide)]
  conv => rhs; rw [← List.map_id xs]
  exact List.map_congr_left fun x _ => Int.ediv_one x
theorem aug_low {T : List (List Int)} {b : List Int} {w : Nat} (h : ∀ k, k < T.length → (T.getD k []).length = w) : (augL T b).map lowL = augL T b := by
  conv => rhs; rw [← List.map_id (augL T b)]
  refine List.map_congr_left fun x hx => ?_
  obtain ⟨k, hk, rfl⟩ := List.mem_map.mp hx
  have hk := List.mem_range.mp hk
  have m := aug_mark (b := b) h hk hk
  rw [if_pos rfl] at m
  refine lowL_one (j := w + 1 + k) ?_
  rw [← aug_row (b := b) hk]
  exact m
theorem aug_start {T : List (List Int)} {b : List Int} {w : Nat} (h : ∀ k, k < T.length → (T.getD k []).length = w) : EInv T.length (w + 1 + T.length) (w + 1) w 0 (at2 (augL T b)) (elimN (augL T b) 0) := by
  have e : elimN (augL T b) 0 = (augL T b, []) := by show ((augL T b).map lowL, _) = _; rw [aug_low h]
  rw [e]
  exact ⟨st_start fun k hk i hi => aug_mark h hk hi, aug_rect h, Nat.le_refl _, fun k _ _ j hj => absurd hj (Nat.not_lt_zero j)⟩
/-! ### sizes -/
theorem ite_ps {p : Prop} [Decidable p] {H : Nat} (h : 1 ≤ H) : 1 ≤ if p then H else 1 := by split; exact h; exact Nat.le_refl _
theorem pd_le {s : Nat → Bool} {B : Nat → Nat} {P H r0 : Nat} (hP : 1 ≤ P) (hH : 1 ≤ H) (h : ∀ r, B r ≤ P * (if r = r0 then H else 1)) : ∀ n, pd s B n ≤ P ^ ct s n * (if r0 < n then H else 1)
  | 0 => by
    show 1 ≤ _
    exact Nat.mul_pos (Nat.pow_pos hP) (ite_ps hH)
  | n + 1 => by
    have ih := pd_le (s := s) hP hH h n
    rw [ct_succ]
    show pd s B n * (if s n then B n else 1) ≤ _
    have up : (if r0 < n then H else 1) ≤ (if r0 < n + 1 then H else 1) := by
      by_cases e : r0 < n
      · rw [if_pos e, if_pos (by omega)]; exact Nat.le_refl _
      · rw [if_neg e]; exact ite_ps hH
    by_cases hs : s n = true
    · rw [if_pos hs, if_pos hs, Nat.pow_succ]
      have h1 : pd s B n * B n ≤ (P ^ ct s n * (if r0 < n then H else 1)) * (P * (if n = r0 then H else 1)) := Nat.mul_le_mul ih (h n)
      refine Nat.le_trans h1 ?_
      have e : (P ^ ct s n * (if r0 < n then H else 1)) * (P * (if n = r0 then H else 1)) = (P ^ ct s n * P) * ((if r0 < n then H else 1) * (if n = r0 then H else 1)) := by ac_rfl
      rw [e]
      refine Nat.mul_le_mul_left _ ?_
      by_cases e0 : n = r0
      · rw [if_neg (show ¬ r0 < n by omega), if_pos e0, if_pos (show r0 < n + 1 by omega), Nat.one_mul]; exact Nat.le_refl _
      · rw [if_neg e0, Nat.mul_one]; exact up
    · rw [if_neg hs, if_neg hs, Nat.mul_one, Nat.add_zero]
      exact Nat.le_trans ih (Nat.mul_le_mul_left _ up)
def QQ (w bb h : Nat) : Nat := (w + 1) ^ w * 2 ^ (bb * (w + 1) + 2 * h)
/-- equations of numbers that are not too great: in each, in one row greater ones, the right side too -/
structure Nice (T : List (List Int)) (b : List Int) (n w bb h r0 : Nat) : Prop where
  n1 : T.length = n
  n2 : b.length = n
  n3 : ∀ k, k < n → (T.getD k []).length = w
  b1 : ∀ r, r < n → ∀ c, c < w → ((T.getD r []).getD c 0).natAbs ≤ 2 ^ bb * (if r = r0 then 2 ^ h else 1)
  b2 : ∀ r, r < n → (b.getD r 0).natAbs ≤ 2 ^ bb * 2 ^ h
  sz : n * (QQ w bb h * 2 ^ (bb + h)) < 2 ^ 4400
theorem p2 (k : Nat) : 1 ≤ 2 ^ k := Nat.one_le_two_pow
theorem ct_le {n : Nat} {s : Nat → Bool} {xs : List Nat} (h : ∀ r, r < n → s r = true → r ∈ xs) : ct s n ≤ xs.length := by
  refine php _ _ (List.Nodup.sublist List.filter_sublist List.nodup_range) fun x hx => ?_
  obtain ⟨h1, h2⟩ := List.mem_filter.mp hx
  exact h x (List.mem_range.mp h1) h2
theorem qq_le {w bb h c p : Nat} (hc : c ≤ w + 1) (hp : p ≤ (2 ^ bb) ^ c * 2 ^ h * 2 ^ h) : c ^ (c - 1) * p ≤ QQ w bb h := by
  have h1 : c ^ (c - 1) ≤ (w + 1) ^ w := Nat.le_trans (Nat.pow_le_pow_left hc _) (Nat.pow_le_pow_right (by omega) (by omega))
  refine Nat.mul_le_mul h1 (Nat.le_trans hp ?_)
  rw [← Nat.pow_mul, ← Nat.pow_add, ← Nat.pow_add]
  refine Nat.pow_le_pow_right (by decide) ?_
  have := Nat.mul_le_mul_left bb hc
  omega
theorem Nice.aug {T : List (List Int)} {b : List Int} {n w bb h r0 : Nat} (N : Nice T b n w bb h r0) {i j : Nat} (hi : i < n) (hj : j < w + 1 + n) : (at2 (augL T b) i j).natAbs ≤ 2 ^ (bb + h) := by
  obtain ⟨rfl, -, n3, b1, b2, -⟩ := N
  rw [Nat.pow_add]
  by_cases h1 : j < w
  · rw [aug_tab n3 hi h1]
    refine Nat.le_trans (b1 i hi j h1) (Nat.mul_le_mul_left _ ?_)
    split
    · exact Nat.le_refl _
    · exact p2 h
  · by_cases h2 : j = w
    · rw [h2, aug_rt n3 hi]; exact b2 i hi
    · have e : j = w + 1 + (j - (w + 1)) := by omega
      rw [e, aug_mark n3 hi (by omega)]
      refine Nat.le_trans ?_ (Nat.mul_pos (p2 bb) (p2 h))
      split <;> decide
theorem Nice.inv {T : List (List Int)} {b : List Int} {n w bb h r0 : Nat} (N : Nice T b n w bb h r0) {c : Nat} (hc : c ≤ w) : EInv n (w + 1 + n) (w + 1) w c (at2 (augL T b)) (elimN (augL T b) c) := by
  obtain ⟨rfl, -, n3, -, -, -⟩ := N
  exact inv_all (aug_start n3) rfl (Nat.le_succ w) c hc
theorem Nice.mark {T : List (List Int)} {b : List Int} {n w bb h r0 : Nat} (N : Nice T b n w bb h r0) {c k i : Nat} (hc : c ≤ w) (hk : k < n) (hi : i < n) : (at2 (elimN (augL T b) c).1 k (w + 1 + i)).natAbs ≤ QQ w bb h := by
  have I := N.inv hc
  refine Nat.le_trans (I.sv.bound (Nat.le_refl _) (Nat.le_succ w) hk (B := fun r => 2 ^ bb * (if r = r0 then 2 ^ h else 1)) (Q := QQ w bb h) (fun r => Nat.mul_pos (p2 bb) (ite_ps (p2 h))) (fun r hr c hc => ?_) ?_ i hi) (Nat.div_le_self _ _)
  · have := N.b1 r hr c hc
    rw [aug_tab (by rw [N.n1]; exact N.n3) (by rw [N.n1]; exact hr) hc]
    exact this
  · have hct : ct (sel (elimN (augL T b) c).2 k) n ≤ w + 1 := by
      refine Nat.le_trans (ct_le (xs := k :: (elimN (augL T b) c).2.map (·.1)) fun r _ hr => ?_) ?_
      · have := of_decide_eq_true hr
        rcases this with rfl | z
        · exact List.mem_cons_self
        · exact List.mem_cons_of_mem _ z
      · rw [List.length_cons, List.length_map]
        have := I.few
        omega
    refine qq_le hct ?_
    refine Nat.le_trans (pd_le (p2 bb) (p2 h) (fun r => Nat.le_refl _) n) ?_
    rw [Nat.mul_assoc]
    refine Nat.mul_le_mul_left _ ?_
    split
    · exact Nat.le_mul_of_pos_right _ (p2 h)
    · exact Nat.mul_pos (p2 h) (p2 h)
/-- all numbers of the rows stay below this -/
theorem Nice.bd {T : List (List Int)} {b : List Int} {n w bb h r0 : Nat} (N : Nice T b n w bb h r0) {c k j : Nat} (hc : c ≤ w) (hk : k < n) (hj : j < w + 1 + n) : (at2 (elimN (augL T b) c).1 k j).natAbs < 2 ^ 4400 := by
  refine Nat.lt_of_le_of_lt ?_ N.sz
  rw [(N.inv hc).sv.comb k hk j hj]
  refine sm_bd fun i hi => ?_
  rw [Int.natAbs_mul]
  exact Nat.mul_le_mul (N.mark hc hk hi) (N.aug hi hj)
theorem Nice.qq {T : List (List Int)} {b : List Int} {n w bb h r0 : Nat} (N : Nice T b n w bb h r0) (hn : 0 < n) : QQ w bb h < 2 ^ 4400 := by
  refine Nat.lt_of_le_of_lt ?_ N.sz
  refine Nat.le_trans (Nat.le_mul_of_pos_right _ (p2 (bb + h))) (Nat.le_mul_of_pos_left _ hn)
/-! ### the bottoms of a point -/
def pw (W : Nat → Nat) : List Nat → Nat
  | [] => 1
  | c :: cs => W c * pw W cs
theorem box_pw {W : Nat → Nat} {X : Nat} (hW : ∀ c, 1 ≤ W c) : ∀ cs, boxN (cs.map fun c => X * W c) ≤ pw W cs * (X + 1) ^ cs.length
  | [] => Nat.le_refl _
  | c :: cs => by
    show (X * W c + 1) * boxN (cs.map fun c => X * W c) ≤ (W c * pw W cs) * (X + 1) ^ (cs.length + 1)
    have h1 : X * W c + 1 ≤ W c * (X + 1) := by rw [Nat.mul_add, Nat.mul_comm]; have := hW c; omega
    refine Nat.le_trans (Nat.mul_le_mul h1 (box_pw hW cs)) (Nat.le_of_eq ?_)
    rw [Nat.pow_succ]
    ac_rfl
/-- a small solution, unknowns and equations of several sizes -/
theorem smallW {n : Nat} {s : Nat → Bool} {B W : Nat → Nat} {Q : Nat} {A : Nat → Nat → Int} (cs : List Nat) (hB1 : ∀ r, 1 ≤ B r) (hW1 : ∀ c, 1 ≤ W c) (hB : ∀ r, r < n → ∀ c ∈ cs, (A r c).natAbs ≤ B r * W c) (hc : cs.length < ct s n) (hQ : ct s n ^ (ct s n - 1) * (pd s B n * pw W cs) ≤ Q) :
    ∃ m : Nat → Int, (∃ i, i < n ∧ m i ≠ 0) ∧ (∀ i, i < n → (m i).natAbs ≤ if s i then Q / B i else 0) ∧ ∀ c ∈ cs, sm n (fun i => m i * A i c) = 0 := by
  have hR : (cs.map fun c => ct s n * Q * W c).length = cs.length := List.length_map ..
  obtain ⟨m, h1, h2, h3⟩ := siegel (rng s B Q n) (cs.map fun c => ct s n * Q * W c) (fun i j => A i (cs.getD j 0)) (fun j hj => by
    rw [hR] at hj
    rw [rng_len]
    have hcm : cs.getD j 0 ∈ cs := by rw [List.getD_eq_getElem?_getD, List.getElem?_eq_getElem hj]; exact List.getElem_mem hj
    have e : (cs.map fun c => ct s n * Q * W c).getD j 0 = ct s n * (Q * W (cs.getD j 0)) := by
      rw [List.getD_eq_getElem?_getD, List.getElem?_map, List.getD_eq_getElem?_getD, List.getElem?_eq_getElem hj, ← Nat.mul_assoc]; rfl
    rw [e, ← sm_ct]
    refine sm_le fun i hi => ?_
    rw [rng_at hi]
    have hb := hB i hi _ hcm
    by_cases h : s i = true
    · rw [if_pos h, if_pos h]
      have h5 : (Q / B i) * (A i (cs.getD j 0)).natAbs ≤ Q * W (cs.getD j 0) := by
        refine Nat.le_trans (Nat.mul_le_mul_left _ hb) ?_
        rw [← Nat.mul_assoc]
        exact Nat.mul_le_mul_right _ (Nat.div_mul_le_self Q (B i))
      have : (((Q / B i : Nat) : Int) * (((A i (cs.getD j 0)).natAbs : Nat) : Int)) = (((Q / B i) * (A i (cs.getD j 0)).natAbs : Nat) : Int) := (Int.natCast_mul _ _).symm
      rw [this]
      exact Int.ofNat_le.mpr h5
    · rw [if_neg h, if_neg h]
      show (0 : Int) * _ ≤ 0
      rw [Int.zero_mul]; exact Int.le_refl _) (by
    have p0 := pd_pos (s := s) hB1 n
    have r := rng_box (s := s) (Q := Q) hB1 n
    have c0 := box_pw (X := ct s n * Q) hW1 cs
    have c1 : ct s n * Q + 1 ≤ ct s n * (Q + 1) := by rw [Nat.mul_add]; omega
    have c2 : (ct s n * Q + 1) ^ cs.length ≤ ct s n ^ (ct s n - 1) * (Q + 1) ^ (ct s n - 1) := by
      rw [← Nat.mul_pow]
      exact Nat.le_trans (Nat.pow_le_pow_left c1 _) (Nat.pow_le_pow_right (Nat.mul_pos (by omega) (by omega)) (by omega))
    apply Classical.byContradiction
    intro no
    have c3 : boxN (rng s B Q n) * pd s B n ≤ (pw W cs * (ct s n ^ (ct s n - 1) * (Q + 1) ^ (ct s n - 1))) * pd s B n := Nat.mul_le_mul_right _ (Nat.le_trans (by omega) (Nat.le_trans c0 (Nat.mul_le_mul_left _ c2)))
    have c4 : (pw W cs * (ct s n ^ (ct s n - 1) * (Q + 1) ^ (ct s n - 1))) * pd s B n ≤ Q * (Q + 1) ^ (ct s n - 1) := by
      have e : (pw W cs * (ct s n ^ (ct s n - 1) * (Q + 1) ^ (ct s n - 1))) * pd s B n = (ct s n ^ (ct s n - 1) * (pd s B n * pw W cs)) * (Q + 1) ^ (ct s n - 1) := by ac_rfl
      rw [e]
      exact Nat.mul_le_mul_right _ hQ
    have c5 : Q * (Q + 1) ^ (ct s n - 1) < (Q + 1) ^ ct s n := by
      have e : ct s n = ct s n - 1 + 1 := by omega
      rw (occs := .pos [2]) [e]
      rw [Nat.pow_succ, Nat.mul_comm]
      exact Nat.mul_lt_mul_of_pos_left (by omega) (Nat.pow_pos (by omega))
    omega)
  rw [rng_len] at h1 h2
  rw [hR] at h3
  refine ⟨m, h1, fun i hi => by rw [← rng_at (s := s) (B := B) (Q := Q) hi]; exact h2 i hi, fun c hc => ?_⟩
  obtain ⟨j, hj, rfl⟩ := List.mem_iff_getElem.mp hc
  have := h3 j hj
  rw [rng_len] at this
  rw [← this]
  refine sm_congr fun i _ => ?_
  rw [List.getD_eq_getElem?_getD, List.getElem?_eq_getElem hj]; rfl
theorem pw_le {W : Nat → Nat} {H r0 : Nat} (hH : 1 ≤ H) (h : ∀ c, W c ≤ if c = r0 then H else 1) : ∀ cs : List Nat, cs.Nodup → pw W cs ≤ if r0 ∈ cs then H else 1
  | [], _ => by rw [if_neg List.not_mem_nil]; exact Nat.le_refl _
  | c :: cs, hn => by
    obtain ⟨n1, n2⟩ := List.nodup_cons.mp hn
    have ih := pw_le hH h cs n2
    show W c * pw W cs ≤ _
    have hc := h c
    by_cases e : c = r0
    · subst e
      rw [if_pos rfl] at hc
      rw [if_neg n1] at ih
      rw [if_pos List.mem_cons_self]
      exact Nat.le_trans (Nat.mul_le_mul hc ih) (by rw [Nat.mul_one]; exact Nat.le_refl _)
    · rw [if_neg e] at hc
      refine Nat.le_trans (Nat.mul_le_mul hc ih) ?_
      rw [Nat.one_mul]
      by_cases m : r0 ∈ cs
      · rw [if_pos m, if_pos (List.mem_cons_of_mem _ m)]; exact Nat.le_refl _
      · rw [if_neg m]; exact ite_ps hH
theorem nd_of_map {α β : Type} {f : α → β} : ∀ {xs : List α}, (xs.map f).Nodup → xs.Nodup
  | [], _ => List.nodup_nil
  | x :: xs, h => by
    obtain ⟨h1, h2⟩ := List.nodup_cons.mp h
    exact List.nodup_cons.mpr ⟨fun z => h1 (List.mem_map.mpr ⟨x, z, rfl⟩), nd_of_map h2⟩
theorem St.cols {n L o w : Nat} {A E : Nat → Nat → Int} {P : List (Nat × Nat)} (s : St n L o w A E P) : (P.map (·.2)).Nodup := by
  refine nodup_map (fun x hx y hy e => ?_) (nd_of_map s.nr)
  obtain ⟨a1, a2, a3, a4⟩ := s.piv x hx
  obtain ⟨b1, b2, b3, b4⟩ := s.piv y hy
  have e1 : y.1 = x.1 := Classical.byContradiction fun ne => b3 (by
    have := a4 y.1 b1 ne
    rw [e] at this
    exact this)
  exact Prod.ext e1.symm e
/-- one number that clears all bottoms -/
theorem Nice.den {T : List (List Int)} {b : List Int} {n w bb h r0 : Nat} (N : Nice T b n w bb h r0) : ∃ t : Int, t ≠ 0 ∧ t.natAbs ≤ QQ w bb h ∧ ∀ p ∈ (elimN (augL T b) w).2, at2 (elimN (augL T b) w).1 p.1 p.2 ∣ t * at2 (elimN (augL T b) w).1 p.1 w := by
  have I := N.inv (Nat.le_refl w)
  have s := I.sv
  have few := I.few
  have n3 : ∀ k, k < T.length → (T.getD k []).length = w := by rw [N.n1]; exact N.n3
  generalize hP : (elimN (augL T b) w).2 = P at *
  generalize hE : at2 (elimN (augL T b) w).1 = E at *
  have hcol := s.cols
  let sl : Nat → Bool := fun j => decide (j = w ∨ j ∈ P.map (·.2))
  have hnd : (w :: P.map (·.2)).Nodup := List.nodup_cons.mpr ⟨fun z => by
    obtain ⟨p, hp, e⟩ := List.mem_map.mp z
    have := (s.piv p hp).2.1
    omega, hcol⟩
  have c1 : ct sl (w + 1) ≤ P.length + 1 := by
    have := ct_le (n := w + 1) (s := sl) (xs := w :: P.map (·.2)) fun r _ hr => by
      rcases of_decide_eq_true hr with rfl | z
      · exact List.mem_cons_self
      · exact List.mem_cons_of_mem _ z
    rwa [List.length_cons, List.length_map] at this
  have c2 : P.length + 1 ≤ ct sl (w + 1) := by
    have := php (w :: P.map (·.2)) ((List.range (w + 1)).filter sl) hnd fun x hx => by
      refine List.mem_filter.mpr ⟨List.mem_range.mpr ?_, decide_eq_true (List.mem_cons.mp hx)⟩
      rcases List.mem_cons.mp hx with rfl | z
      · omega
      · obtain ⟨p, hp, rfl⟩ := List.mem_map.mp z
        have := (s.piv p hp).2.1
        omega
    rwa [List.length_cons, List.length_map] at this
  obtain ⟨y, ⟨j0, hj0, y0⟩, y2, y3⟩ := smallW (n := w + 1) (s := sl) (A := fun j r => at2 (augL T b) r j) (B := fun j => 2 ^ bb * (if j = w then 2 ^ h else 1)) (W := fun r => if r = r0 then 2 ^ h else 1) (Q := QQ w bb h) (P.map (·.1)) (fun r => Nat.mul_pos (p2 bb) (ite_ps (p2 h))) (fun r => ite_ps (p2 h)) (fun j hj r hr => by
    obtain ⟨p, hp, rfl⟩ := List.mem_map.mp hr
    have hr := (s.piv p hp).1
    have hr' : p.1 < T.length := by rw [N.n1]; exact hr
    by_cases e : j = w
    · rw [if_pos e, e, aug_rt n3 hr']
      exact Nat.le_trans (N.b2 _ hr) (Nat.le_mul_of_pos_right _ (ite_ps (p2 h)))
    · rw [if_neg e, aug_tab n3 hr' (by omega), Nat.mul_one]
      exact N.b1 _ hr j (by omega)) (by rw [List.length_map]; omega) (by
    refine qq_le (by omega) ?_
    refine Nat.mul_le_mul (Nat.le_trans (pd_le (p2 bb) (p2 h) (fun r => Nat.le_refl _) (w + 1)) (Nat.mul_le_mul_left _ (by rw [if_pos (Nat.lt_succ_self w)]; exact Nat.le_refl _))) ?_
    refine Nat.le_trans (pw_le (r0 := r0) (p2 h) (fun c => Nat.le_refl _) _ s.nr) ?_
    split
    · exact Nat.le_refl _
    · exact p2 h)
  have rel : ∀ p ∈ P, y p.2 * E p.1 p.2 + y w * E p.1 w = 0 := fun p hp => by
    obtain ⟨p1, pc, p3, p4⟩ := s.piv p hp
    have full : sm (w + 1) (fun j => y j * E p.1 j) = 0 := by
      have e : sm (w + 1) (fun j => y j * E p.1 j) = sm n fun i => E p.1 (w + 1 + i) * sm (w + 1) fun j => y j * at2 (augL T b) i j := by
        rw [← sm_congr (n := n) (f := fun i => sm (w + 1) fun j => E p.1 (w + 1 + i) * (y j * at2 (augL T b) i j)) fun i hi => sm_mul, sm_comm]
        refine sm_congr fun j hj => ?_
        rw [s.comb p.1 p1 j (by omega), ← sm_mul]
        exact sm_congr fun i _ => Int.mul_left_comm _ _ _
      rw [e]
      refine sm_zero fun i hi => ?_
      by_cases z : E p.1 (w + 1 + i) = 0
      · rw [z, Int.zero_mul]
      · have him : i ∈ P.map (·.1) := by
          rcases s.sup p.1 p1 i hi z with h | h
          · rw [h]; exact List.mem_map.mpr ⟨p, hp, rfl⟩
          · exact h
        rw [y3 i him, Int.mul_zero]
    have e : sm (w + 1) (fun j => y j * E p.1 j) = sm w (fun j => y j * E p.1 j) + y w * E p.1 w := rfl
    rw [e, sm_one pc fun j hj hne => ?_] at full
    · exact full
    · by_cases hm : j ∈ P.map (·.2)
      · obtain ⟨q, hq, rfl⟩ := List.mem_map.mp hm
        obtain ⟨_, _, _, q4⟩ := s.piv q hq
        have : p.1 ≠ q.1 := fun z => by
          obtain ⟨_, _, q3, _⟩ := s.piv q hq
          have := p4 q.1 (s.piv q hq).1
          have e2 : p = q := by
            obtain ⟨u, hu, rfl⟩ := List.mem_iff_getElem.mp hp
            obtain ⟨v, hv, rfl⟩ := List.mem_iff_getElem.mp hq
            have := nodup_at s.nr (i := u) (j := v) (by rw [List.length_map]; exact hu) (by rw [List.length_map]; exact hv) (by rw [List.getElem_map, List.getElem_map]; exact z)
            subst this; rfl
          rw [e2] at hne; exact hne rfl
        rw [q4 p.1 p1 this, Int.mul_zero]
      · have := y2 j (by omega)
        have hs : ¬ (sl j = true) := fun z => by
          rcases of_decide_eq_true z with z | z
          · omega
          · exact hm z
        rw [if_neg hs] at this
        have : y j = 0 := by omega
        rw [this, Int.zero_mul]
  refine ⟨y w, fun z => y0 ?_, ?_, fun p hp => ⟨-(y p.2), ?_⟩⟩
  · by_cases hs : sl j0 = true
    · rcases of_decide_eq_true hs with e | e
      · rw [e]; exact z
      · obtain ⟨p, hp, rfl⟩ := List.mem_map.mp e
        have := rel p hp
        rw [z, Int.zero_mul, Int.add_zero] at this
        exact (Int.mul_eq_zero.mp this).resolve_right (s.piv p hp).2.2.1
    · have := y2 j0 hj0
      rw [if_neg hs] at this
      omega
  · have := y2 w (Nat.lt_succ_self w)
    rw [if_pos (decide_eq_true (.inl rfl))] at this
    exact Nat.le_trans this (Nat.div_le_self _ _)
  · have := rel p hp
    rw [Int.mul_neg, Int.mul_comm (E p.1 p.2)]
    omega
end EL
set_option Elab.async false
set_option linter.all false
/-! Elimination, part g: the answer: a point, or a bar. -/
namespace EL
open K00
theorem sm_sum (f : Nat → Int) : ∀ n, ((List.range n).map f).sum = sm n f
  | 0 => rfl
  | n + 1 => by
    rw [List.range_succ, List.map_append, List.sum_append_int, sm_sum f n]
    show sm n f + (f n + 0) = sm n f + f n
    rw [Int.add_zero]
theorem sm_cut {f : Nat → Int} {a : Nat} (h : ∀ j, a ≤ j → f j = 0) : ∀ n, sm (a + n) f = sm a f
  | 0 => rfl
  | n + 1 => by
    show sm (a + n) f + f (a + n) = _
    rw [sm_cut h n, h (a + n) (Nat.le_add_right a n), Int.add_zero]
/-- a ratio in lowest terms -/
def ratF (t b : Int) : Int × Int := ((if b < 0 then -t else t) / (Nat.gcd t.natAbs b.natAbs : Int), (if b < 0 then -b else b) / (Nat.gcd t.natAbs b.natAbs : Int))
structure RatIs (u v t b : Int) : Prop where
  pos : 1 ≤ v
  eq : u * b = t * v
  lu : u.natAbs ≤ t.natAbs
  lv : v.natAbs ≤ b.natAbs
  dv : ∀ s : Int, b ∣ s * t → v ∣ s
theorem ratF_ok {t b : Int} (hb : b ≠ 0) : RatIs (ratF t b).1 (ratF t b).2 t b := by
  have g0 : 0 < Nat.gcd t.natAbs b.natAbs := Nat.gcd_pos_of_pos_right _ (by omega)
  obtain ⟨t', ht⟩ := Nat.gcd_dvd_left t.natAbs b.natAbs
  obtain ⟨b', hb'⟩ := Nat.gcd_dvd_right t.natAbs b.natAbs
  have co : Nat.Coprime t' b' := by
    have := Nat.gcd_mul_left (Nat.gcd t.natAbs b.natAbs) t' b'
    rw [← ht, ← hb'] at this
    exact Nat.eq_of_mul_eq_mul_left g0 (by rw [Nat.mul_one]; exact this.symm)
  unfold ratF
  generalize Nat.gcd t.natAbs b.natAbs = g at *
  have gi : (g : Int) ≠ 0 := by omega
  -- the top's sign
  obtain ⟨σ, hσ, e1, e2⟩ : ∃ σ : Int, (σ = 1 ∨ σ = -1) ∧ (if b < 0 then -t else t) = σ * t ∧ (if b < 0 then -b else b) = σ * b := by
    by_cases h : b < 0
    · exact ⟨-1, .inr rfl, by rw [if_pos h, Int.neg_mul, Int.one_mul], by rw [if_pos h, Int.neg_mul, Int.one_mul]⟩
    · exact ⟨1, .inl rfl, by rw [if_neg h, Int.one_mul], by rw [if_neg h, Int.one_mul]⟩
  have bpos : σ * b = (b.natAbs : Int) := by
    rw [← e2]
    split <;> omega
  obtain ⟨τ, hτ, et⟩ : ∃ τ : Int, (τ = 1 ∨ τ = -1) ∧ σ * t = τ * (t.natAbs : Int) := by
    rcases hσ with rfl | rfl
    · by_cases h : t < 0
      · exact ⟨-1, .inr rfl, by omega⟩
      · exact ⟨1, .inl rfl, by omega⟩
    · by_cases h : t < 0
      · exact ⟨1, .inl rfl, by omega⟩
      · exact ⟨-1, .inr rfl, by omega⟩
  show RatIs ((if b < 0 then -t else t) / (g : Int)) ((if b < 0 then -b else b) / (g : Int)) t b
  rw [e1, e2, bpos, et, ht, hb']
  have q1 : τ * ((g * t' : Nat) : Int) / (g : Int) = τ * (t' : Int) := by
    rw [Int.natCast_mul, Int.mul_left_comm, Int.mul_ediv_cancel_left _ gi]
  have q2 : ((g * b' : Nat) : Int) / (g : Int) = (b' : Int) := by
    rw [Int.natCast_mul, Int.mul_ediv_cancel_left _ gi]
  rw [q1, q2]
  have b0 : 0 < b' := by
    rcases Nat.eq_zero_or_pos b' with z | z
    · rw [z, Nat.mul_zero] at hb'; omega
    · exact z
  have σσ : σ * σ = 1 := by rcases hσ with rfl | rfl <;> rfl
  have eb : b = σ * ((g : Int) * (b' : Int)) := by
    rw [← Int.natCast_mul, ← hb', ← bpos, ← Int.mul_assoc, σσ, Int.one_mul]
  have etop : t = σ * (τ * ((g : Int) * (t' : Int))) := by
    rw [← Int.natCast_mul, ← ht, ← et, ← Int.mul_assoc, σσ, Int.one_mul]
  refine ⟨by omega, ?_, ?_, ?_, fun s hs => ?_⟩
  · rw [eb, etop]
    ac_rfl
  · have : (τ * (t' : Int)).natAbs = t' := by
      rw [Int.natAbs_mul]
      rcases hτ with rfl | rfl
      · show 1 * _ = _; rw [Nat.one_mul]; rfl
      · show 1 * _ = _; rw [Nat.one_mul]; rfl
    rw [this, ht]
    exact Nat.le_mul_of_pos_left _ g0
  · rw [hb']
    exact Nat.le_mul_of_pos_left _ g0
  · have h1 : b.natAbs ∣ s.natAbs * t.natAbs := by rw [← Int.natAbs_mul]; exact Int.natAbs_dvd_natAbs.mpr hs
    rw [ht, hb', Nat.mul_left_comm] at h1
    have h2 : b' ∣ s.natAbs * t' := Nat.dvd_of_mul_dvd_mul_left g0 h1
    exact Int.ofNat_dvd_left.mpr (Nat.Coprime.dvd_of_dvd_mul_right co.symm h2)
/-! ### the row of the ratios -/
def lcmL (pts : List (Int × Int)) (a : Nat) : Nat := pts.foldl (fun l p => Nat.lcm l p.2.natAbs) a
theorem lcmL_cons {p : Int × Int} {ps : List (Int × Int)} {a : Nat} : lcmL (p :: ps) a = lcmL ps (Nat.lcm a p.2.natAbs) := rfl
theorem lcmL_snoc {p : Int × Int} {ps : List (Int × Int)} {a : Nat} : lcmL (ps ++ [p]) a = Nat.lcm (lcmL ps a) p.2.natAbs := by unfold lcmL; rw [List.foldl_append]; rfl
theorem lcmL_dvd {t : Nat} : ∀ {ps : List (Int × Int)} {a : Nat}, a ∣ t → (∀ p ∈ ps, p.2.natAbs ∣ t) → lcmL ps a ∣ t
  | [], a, h, _ => h
  | p :: ps, a, h, hp => lcmL_dvd (ps := ps) (Nat.lcm_dvd h (hp p List.mem_cons_self)) fun q hq => hp q (List.mem_cons_of_mem _ hq)
theorem dvd_lcmL : ∀ {ps : List (Int × Int)} {a : Nat}, a ∣ lcmL ps a ∧ ∀ p ∈ ps, p.2.natAbs ∣ lcmL ps a
  | [], a => ⟨Nat.dvd_refl _, fun p hp => by cases hp⟩
  | p :: ps, a => by
    obtain ⟨h1, h2⟩ := dvd_lcmL (ps := ps) (a := Nat.lcm a p.2.natAbs)
    rw [lcmL_cons]
    refine ⟨Nat.dvd_trans (Nat.dvd_lcm_left _ _) h1, fun q hq => ?_⟩
    rcases List.mem_cons.mp hq with rfl | hq
    · exact Nat.dvd_trans (Nat.dvd_lcm_right _ _) h1
    · exact h2 q hq
def topsL (pts : List (Int × Int)) : List Int := pts.map fun p => p.1 * ((lcmL pts 1 : Int) / p.2)
def rowOfF (pts : List (Int × Int)) : List Int × Int := ((topsL pts).map (· / ((gcdL (lcmL pts 1) (topsL pts) : Nat) : Int)), (lcmL pts 1 : Int) / ((gcdL (lcmL pts 1) (topsL pts) : Nat) : Int))
def ptsL (E : List (List Int)) (w : Nat) (P : List (Nat × Nat)) (l : List (Int × Int)) : List (Int × Int) := P.foldl (fun l p => l.set p.2 (ratF (at2 E p.1 w) (at2 E p.1 p.2))) l
theorem pts_at {E : List (List Int)} {w : Nat} : ∀ {P : List (Nat × Nat)} {l : List (Int × Int)}, (P.map (·.2)).Nodup → (∀ p ∈ P, p.2 < l.length) →
    (ptsL E w P l).length = l.length ∧ (∀ p ∈ P, (ptsL E w P l)[p.2]? = some (ratF (at2 E p.1 w) (at2 E p.1 p.2))) ∧ ∀ j, j ∉ P.map (·.2) → (ptsL E w P l)[j]? = l[j]?
  | [], l, _, _ => ⟨rfl, (fun p hp => nomatch hp), fun j _ => rfl⟩
  | p :: P, l, hn, hl => by
    obtain ⟨n1, n2⟩ := List.nodup_cons.mp hn
    have hp := hl p List.mem_cons_self
    obtain ⟨a, b, c⟩ := pts_at (E := E) (w := w) (P := P) (l := l.set p.2 (ratF (at2 E p.1 w) (at2 E p.1 p.2))) n2 fun q hq => by rw [List.length_set]; exact hl q (List.mem_cons_of_mem _ hq)
    show (ptsL E w P (l.set p.2 (ratF (at2 E p.1 w) (at2 E p.1 p.2)))).length = _ ∧ _
    refine ⟨by rw [a, List.length_set], fun q hq => ?_, fun j hj => ?_⟩
    · rcases List.mem_cons.mp hq with rfl | hq
      · show (ptsL E w P _)[q.2]? = _
        rw [c q.2 n1, List.getElem?_set, if_pos rfl, if_pos hp]
      · exact b q hq
    · show (ptsL E w P _)[j]? = _
      rw [c j fun z => hj (List.mem_cons_of_mem _ z), List.getElem?_set, if_neg fun z => hj (by rw [← z]; exact List.mem_cons_self)]
/-! ### the answers -/
def barL (es : List (List Int)) (us : List Nat) (w : Nat) : Option (List Int) := (freeL es us w).map fun k => if at2 es k w < 0 then (lowL ((rowAt es k).drop (w + 1))).map (fun x => -x) else lowL ((rowAt es k).drop (w + 1))
def pointL (st : Stt) (w : Nat) : List Int × Int := rowOfF (ptsL st.1 w st.2 (List.replicate w (0, 1)))
def solL (T : List (List Int)) (b : List Int) (w : Nat) : Sum (List Int) (List Int × Int) := match barL (elimN (augL T b) w).1 ((elimN (augL T b) w).2.map (·.1)) w with
  | some bar => .inl bar
  | none => .inr (pointL (elimN (augL T b) w) w)
abbrev aT (T : List (List Int)) (k j : Nat) : Int := (T.getD k []).getD j 0
structure BarOk (T : List (List Int)) (b : List Int) (n w : Nat) (bar : List Int) : Prop where
  len : bar.length = n
  zero : ∀ j, j < w → sm n (fun i => bar.getD i 0 * aT T i j) = 0
  pos : 0 < sm n fun i => bar.getD i 0 * b.getD i 0
  bd : ∀ x ∈ bar, x.natAbs < 2 ^ 4400
structure PtOk (T : List (List Int)) (b : List Int) (n w : Nat) (ps : List Int) (q : Int) : Prop where
  len : ps.length = w
  pos : 1 ≤ q
  gcd : gcdL q.natAbs ps = 1
  eq : ∀ k, k < n → sm w (fun j => aT T k j * ps.getD j 0) = b.getD k 0 * q
  bd : (∀ p ∈ ps, p.natAbs < 2 ^ 8800) ∧ q.natAbs < 2 ^ 4400
def AnsOk (T : List (List Int)) (b : List Int) (n w : Nat) : Sum (List Int) (List Int × Int) → Prop
  | .inl bar => BarOk T b n w bar
  | .inr x => PtOk T b n w x.1 x.2
theorem Nice.bar_ok {T : List (List Int)} {b : List Int} {n w bb h r0 : Nat} (N : Nice T b n w bb h r0) {bar : List Int} (hb : barL (elimN (augL T b) w).1 ((elimN (augL T b) w).2.map (·.1)) w = some bar) : BarOk T b n w bar := by
  have I := N.inv (Nat.le_refl w)
  have s := I.sv
  have R := I.rect
  have n3 : ∀ k, k < T.length → (T.getD k []).length = w := by rw [N.n1]; exact N.n3
  have bd := fun {k i} => N.bd (c := w) (k := k) (j := i) (Nat.le_refl w)
  have zz := I.zero
  unfold barL at hb
  generalize (elimN (augL T b) w).2 = P at *
  generalize (elimN (augL T b) w).1 = es at *
  cases hf : freeL es (P.map (·.1)) w with
  | none => rw [hf] at hb; cases hb
  | some k =>
    rw [hf] at hb
    have hb : (if at2 es k w < 0 then (lowL ((rowAt es k).drop (w + 1))).map (fun x => -x) else lowL ((rowAt es k).drop (w + 1))) = bar := Option.some.inj hb
    have h1 := List.find?_some hf
    have hk := List.mem_range.mp (List.mem_of_find?_eq_some hf)
    rw [decide_eq_true_eq] at h1
    rw [R.rows] at hk
    have hl := R.cols k hk
    have md : ∀ i, ((rowAt es k).drop (w + 1)).getD i 0 = at2 es k (w + 1 + i) := fun i => by
      show _ = (rowAt es k).getD _ 0
      rw [List.getD_eq_getElem?_getD, List.getElem?_drop, List.getD_eq_getElem?_getD]
    have mlen : ((rowAt es k).drop (w + 1)).length = n := by rw [List.length_drop, hl, Nat.add_sub_cancel_left]
    have hg : gcdZ ((rowAt es k).drop (w + 1)) = 1 := by
      have := s.prim k hk (gcdZ ((rowAt es k).drop (w + 1)) : Int) fun i hi => by rw [← md i]; exact gcdZ_dvd
      exact Nat.dvd_one.mp (Int.natCast_dvd_natCast.mp this)
    have elow : lowL ((rowAt es k).drop (w + 1)) = (rowAt es k).drop (w + 1) := by
      unfold lowL
      rw [hg, if_neg (by decide)]
      conv => rhs; rw [← List.map_id ((rowAt es k).drop (w + 1))]
      exact List.map_congr_left fun x _ => Int.ediv_one x
    rw [elow] at hb
    obtain ⟨σ, hσ, hpos, e⟩ : ∃ σ : Int, (σ = 1 ∨ σ = -1) ∧ 0 < σ * at2 es k w ∧ ∀ i, bar.getD i 0 = σ * at2 es k (w + 1 + i) := by
      by_cases hn : at2 es k w < 0
      · rw [if_pos hn] at hb
        refine ⟨-1, .inr rfl, by omega, fun i => ?_⟩
        rw [← hb, getD_neg, md i, Int.neg_mul, Int.one_mul]
      · rw [if_neg hn] at hb
        refine ⟨1, .inl rfl, by omega, fun i => ?_⟩
        rw [← hb, md i, Int.one_mul]
    have blen : bar.length = n := by
      rw [← hb]
      split
      · rw [List.length_map, mlen]
      · exact mlen
    have comb : ∀ j, j < w + 1 + n → sm n (fun i => bar.getD i 0 * at2 (augL T b) i j) = σ * at2 es k j := fun j hj => by
      rw [s.comb k hk j hj, ← sm_mul]
      exact sm_congr fun i _ => by rw [e i, Int.mul_assoc]
    refine ⟨blen, fun j hj => ?_, ?_, fun x hx => ?_⟩
    · have := comb j (by omega)
      rw [zz k hk h1.1 j hj, Int.mul_zero] at this
      exact (sm_congr fun i hi => by rw [aug_tab n3 (by rw [N.n1]; exact hi) hj]).trans this
    · have := comb w (by omega)
      rw [← this] at hpos
      refine Int.lt_of_lt_of_le hpos (Int.le_of_eq (sm_congr fun i hi => ?_))
      rw [aug_rt n3 (by rw [N.n1]; exact hi)]
    · obtain ⟨i, hi, rfl⟩ := List.mem_iff_getElem.mp hx
      have := e i
      rw [List.getD_eq_getElem?_getD, List.getElem?_eq_getElem hi] at this
      have this : bar[i] = _ := this
      rw [this]
      have q := bd (k := k) (i := w + 1 + i) hk (by omega)
      rcases hσ with rfl | rfl
      · rw [Int.one_mul]; exact q
      · rw [Int.neg_mul, Int.one_mul, Int.natAbs_neg]; exact q
theorem Nice.pt_ok {T : List (List Int)} {b : List Int} {n w bb h r0 : Nat} (N : Nice T b n w bb h r0) (hn : 0 < n) (hb : barL (elimN (augL T b) w).1 ((elimN (augL T b) w).2.map (·.1)) w = none) : PtOk T b n w (pointL (elimN (augL T b) w) w).1 (pointL (elimN (augL T b) w) w).2 ∧ (∀ p ∈ ptsL (elimN (augL T b) w).1 w (elimN (augL T b) w).2 (List.replicate w (0, 1)), 1 ≤ p.2 ∧ p.1.natAbs < 2 ^ 4400 ∧ ∃ t : Nat, 0 < t ∧ t < 2 ^ 4400 ∧ lcmL (ptsL (elimN (augL T b) w).1 w (elimN (augL T b) w).2 (List.replicate w (0, 1))) 1 ∣ t ∧ p.2.natAbs ∣ t) := by
  have I := N.inv (Nat.le_refl w)
  have s := I.sv
  have R := I.rect
  have n3 : ∀ k, k < T.length → (T.getD k []).length = w := by rw [N.n1]; exact N.n3
  have bd := fun {k i} => N.bd (c := w) (k := k) (j := i) (Nat.le_refl w)
  have zz := I.zero
  have dn := N.den
  unfold pointL
  unfold barL at hb
  generalize (elimN (augL T b) w).2 = P at *
  generalize (elimN (augL T b) w).1 = es at *
  have hf : freeL es (P.map (·.1)) w = none := by
    cases hf : freeL es (P.map (·.1)) w with
    | none => rfl
    | some k => rw [hf] at hb; cases hb
  obtain ⟨t, t0, tq, td⟩ := dn
  have lr : (List.replicate w ((0 : Int), (1 : Int))).length = w := List.length_replicate
  obtain ⟨pl, pp, pn⟩ := pts_at (E := es) (w := w) (l := List.replicate w ((0 : Int), (1 : Int))) s.cols fun p hp => by rw [lr]; exact (s.piv p hp).2.1
  rw [lr] at pl
  generalize hpts : ptsL es w P (List.replicate w ((0 : Int), (1 : Int))) = pts at *
  have tl : t.natAbs < 2 ^ 4400 := Nat.lt_of_le_of_lt tq (N.qq hn)
  have item : ∀ j, j < w → (∃ p ∈ P, p.2 = j ∧ pts[j]? = some (ratF (at2 es p.1 w) (at2 es p.1 p.2))) ∨ (j ∉ P.map (·.2) ∧ pts[j]? = some (0, 1)) := fun j hj => by
    by_cases hm : j ∈ P.map (·.2)
    · obtain ⟨p, hp, rfl⟩ := List.mem_map.mp hm
      exact .inl ⟨p, hp, rfl, pp p hp⟩
    · refine .inr ⟨hm, ?_⟩
      rw [pn j hm, List.getElem?_replicate, if_pos hj]
  have facts : ∀ p ∈ pts, 1 ≤ p.2 ∧ p.1.natAbs < 2 ^ 4400 ∧ p.2.natAbs ∣ t.natAbs := fun p hp => by
    obtain ⟨j, hj, rfl⟩ := List.mem_iff_getElem.mp hp
    rcases item j (by omega) with ⟨q, hq, e, h1⟩ | ⟨_, h1⟩
    · rw [List.getElem?_eq_getElem hj] at h1
      rw [Option.some.inj h1]
      obtain ⟨q1, q2, q3, q4⟩ := s.piv q hq
      have r := ratF_ok (t := at2 es q.1 w) q3
      exact ⟨r.pos, Nat.lt_of_le_of_lt r.lu (bd q1 (by omega)), Int.natAbs_dvd_natAbs.mpr (r.dv t (td q hq))⟩
    · rw [List.getElem?_eq_getElem hj] at h1
      rw [Option.some.inj h1]
      exact ⟨by decide, by show 0 < _; exact p2 4400, Nat.one_dvd _⟩
  have ld : lcmL pts 1 ∣ t.natAbs := lcmL_dvd (Nat.one_dvd _) fun p hp => (facts p hp).2.2
  have l0 : 0 < lcmL pts 1 := Nat.pos_of_dvd_of_pos ld (by omega)
  have ll : lcmL pts 1 < 2 ^ 4400 := Nat.lt_of_le_of_lt (Nat.le_of_dvd (by omega) ld) tl
  have Rw := row_math (ns := topsL pts) (ln := (lcmL pts 1 : Int)) (by omega)
  have eP : rowOfF pts = ((topsL pts).map (· / ((gcdL (lcmL pts 1 : Int).natAbs (topsL pts) : Nat) : Int)), (lcmL pts 1 : Int) / ((gcdL (lcmL pts 1 : Int).natAbs (topsL pts) : Nat) : Int)) := rfl
  have Rw : RowIs (rowOfF pts).1 (rowOfF pts).2 (topsL pts) (lcmL pts 1 : Int) := Rw
  generalize hps : (rowOfF pts).1 = ps at *
  generalize hq : (rowOfF pts).2 = q at *
  clear eP
  have tlen : (topsL pts).length = w := by unfold topsL; rw [List.length_map, pl]
  have pslen : ps.length = w := by rw [Rw.len, tlen]
  have row : ∀ j u v, pts[j]? = some (u, v) → (ps.getD j 0) * (lcmL pts 1 : Int) = u * ((lcmL pts 1 : Int) / v) * q ∧ (ps.getD j 0).natAbs ≤ u.natAbs * lcmL pts 1 := fun j u v hj => by
    have hjl : j < ps.length := by rw [pslen, ← pl]; exact (List.getElem?_eq_some_iff.mp hj).1
    have h1 : ps[j]? = some (ps.getD j 0) := by rw [List.getElem?_eq_getElem hjl, List.getD_eq_getElem?_getD, List.getElem?_eq_getElem hjl]; rfl
    have h2 : (topsL pts)[j]? = some (u * ((lcmL pts 1 : Int) / v)) := by unfold topsL; rw [List.getElem?_map, hj]; rfl
    refine ⟨Rw.eq j _ _ h1 h2, Nat.le_trans (Rw.lp j _ _ h1 h2) ?_⟩
    rw [Int.natAbs_mul]
    refine Nat.mul_le_mul_left _ ?_
    have hv := (facts (u, v) (List.mem_of_getElem? hj)).1
    have : (lcmL pts 1 : Int) / v ≤ (lcmL pts 1 : Int) := Int.ediv_le_self _ (by omega)
    have : 0 ≤ (lcmL pts 1 : Int) / v := Int.ediv_nonneg (by omega) (by omega)
    omega
  have lne : (lcmL pts 1 : Int) ≠ 0 := by omega
  have xp : ∀ p ∈ P, ps.getD p.2 0 * at2 es p.1 p.2 = at2 es p.1 w * q := fun p hp => by
    obtain ⟨q1, q2, q3, q4⟩ := s.piv p hp
    have r := ratF_ok (t := at2 es p.1 w) q3
    have hj := pp p hp
    have dv : (ratF (at2 es p.1 w) (at2 es p.1 p.2)).2 ∣ (lcmL pts 1 : Int) := by
      have := (dvd_lcmL (ps := pts) (a := 1)).2 _ (List.mem_of_getElem? hj)
      exact Int.natAbs_dvd_natAbs.mp this
    generalize hu : ratF (at2 es p.1 w) (at2 es p.1 p.2) = uv at *
    obtain ⟨u, v⟩ := uv
    have h1 := (row p.2 u v hj).1
    obtain ⟨m, hm⟩ := dv
    have hm : (lcmL pts 1 : Int) = v * m := hm
    have hv := r.pos
    have hv : 1 ≤ v := hv
    have e2 : (lcmL pts 1 : Int) / v = m := by rw [hm, Int.mul_ediv_cancel_left _ (by omega)]
    rw [e2] at h1
    have re : u * at2 es p.1 p.2 = at2 es p.1 w * v := r.eq
    refine Int.eq_of_mul_eq_mul_right lne ?_
    calc ps.getD p.2 0 * at2 es p.1 p.2 * (lcmL pts 1 : Int) = (ps.getD p.2 0 * (lcmL pts 1 : Int)) * at2 es p.1 p.2 := by ac_rfl
      _ = (u * m * q) * at2 es p.1 p.2 := by rw [h1]
      _ = (u * at2 es p.1 p.2) * (m * q) := by ac_rfl
      _ = (at2 es p.1 w * v) * (m * q) := by rw [re]
      _ = at2 es p.1 w * q * (v * m) := by ac_rfl
      _ = at2 es p.1 w * q * (lcmL pts 1 : Int) := by rw [← hm]
  have x0 : ∀ j, j < w → j ∉ P.map (·.2) → ps.getD j 0 = 0 := fun j hj hm => by
    rcases item j hj with ⟨p, hp, e, _⟩ | ⟨_, h1⟩
    · exact absurd (List.mem_map.mpr ⟨p, hp, e⟩) hm
    · have := (row j 0 1 h1).1
      rw [Int.zero_mul, Int.zero_mul] at this
      exact (Int.mul_eq_zero.mp this).resolve_right lne
  have back := s.back (fun j => if j < w then ps.getD j 0 else if j = w then -q else 0)
  have split : ∀ F : Nat → Int, sm (w + 1 + n) (fun j => (if j < w then ps.getD j 0 else if j = w then -q else 0) * F j) = sm w (fun j => ps.getD j 0 * F j) - q * F w := fun F => by
    rw [sm_cut (a := w + 1) fun j hj => by rw [if_neg (by omega), if_neg (by omega), Int.zero_mul]]
    show sm w _ + (if w < w then _ else if w = w then -q else 0) * F w = _
    rw [if_neg (Nat.lt_irrefl w), if_pos rfl, sm_congr (n := w) (g := fun j => ps.getD j 0 * F j) fun j hj => by rw [if_pos hj], Int.neg_mul]
    omega
  have key : ∀ k, k < n → sm (w + 1 + n) (fun j => (if j < w then ps.getD j 0 else if j = w then -q else 0) * at2 es k j) = 0 := fun k hk => by
    rw [split]
    by_cases hm : k ∈ P.map (·.1)
    · obtain ⟨p, hp, rfl⟩ := List.mem_map.mp hm
      obtain ⟨q1, q2, q3, q4⟩ := s.piv p hp
      rw [sm_one q2 fun j hj hne => ?_, xp p hp, Int.mul_comm q, Int.sub_self]
      by_cases hm2 : j ∈ P.map (·.2)
      · obtain ⟨p', hp', rfl⟩ := List.mem_map.mp hm2
        obtain ⟨r1, r2, r3, r4⟩ := s.piv p' hp'
        have : p.1 ≠ p'.1 := fun z => by
          obtain ⟨u, hu, rfl⟩ := List.mem_iff_getElem.mp hp
          obtain ⟨v, hv, rfl⟩ := List.mem_iff_getElem.mp hp'
          have := nodup_at s.nr (i := u) (j := v) (by rw [List.length_map]; exact hu) (by rw [List.length_map]; exact hv) (by rw [List.getElem_map, List.getElem_map]; exact z)
          subst this
          exact hne rfl
        rw [r4 p.1 q1 this, Int.mul_zero]
      · rw [x0 j hj hm2, Int.zero_mul]
    · have h1 := List.find?_eq_none.mp hf k (List.mem_range.mpr (by rw [R.rows]; exact hk))
      rw [decide_eq_true_eq] at h1
      have e0 : at2 es k w = 0 := Classical.byContradiction fun ne => h1 ⟨hm, ne⟩
      rw [e0, Int.mul_zero, Int.sub_zero]
      exact sm_zero fun j hj => by rw [zz k hk hm j hj, Int.mul_zero]
  refine ⟨⟨pslen, Rw.pos, ?_, fun k hk => ?_, fun p hp => ?_, ?_⟩, fun p hp => ⟨(facts p hp).1, (facts p hp).2.1, t.natAbs, by omega, tl, ld, (facts p hp).2.2⟩⟩
  · exact Rw.gcd
  · have := back key k hk
    rw [split] at this
    have hk' : k < T.length := by rw [N.n1]; exact hk
    rw [aug_rt n3 hk', sm_congr (n := w) (g := fun j => aT T k j * ps.getD j 0) fun j hj => by rw [aug_tab n3 hk' hj, Int.mul_comm]] at this
    rw [Int.mul_comm]
    omega
  · obtain ⟨j, hj, rfl⟩ := List.mem_iff_getElem.mp hp
    have hjp : j < pts.length := by rw [pl, ← pslen]; exact hj
    have h1 := (row j pts[j].1 pts[j].2 (List.getElem?_eq_getElem hjp)).2
    rw [List.getD_eq_getElem?_getD, List.getElem?_eq_getElem hj] at h1
    have h1 : (ps[j]).natAbs ≤ _ := h1
    refine Nat.lt_of_le_of_lt h1 ?_
    have h2 := (facts _ (List.getElem_mem hjp)).2.1
    have e : (2 : Nat) ^ 8800 = 2 ^ 4400 * 2 ^ 4400 := by rw [← Nat.pow_add]
    rw [e]
    refine Nat.lt_of_le_of_lt (Nat.mul_le_mul_right _ (Nat.le_of_lt h2)) (Nat.mul_lt_mul_of_pos_left ll (p2 4400))
  · have := Rw.lq
    have e : (lcmL pts 1 : Int).natAbs = lcmL pts 1 := rfl
    rw [e] at this
    exact Nat.lt_of_le_of_lt this ll
theorem Nice.sol {T : List (List Int)} {b : List Int} {n w bb h r0 : Nat} (N : Nice T b n w bb h r0) (hn : 0 < n) : AnsOk T b n w (solL T b w) := by
  unfold solL
  cases hb : barL (elimN (augL T b) w).1 ((elimN (augL T b) w).2.map (·.1)) w with
  | some bar => exact N.bar_ok hb
  | none => exact (N.pt_ok hn hb).1
def isPt : Sum (List Int) (List Int × Int) → Bool
  | .inl _ => false
  | .inr _ => true
/-- the columns and the right side as equations -/
def turnT (T : List (List Int)) (b : List Int) (w : Nat) : List (List Int) := (List.range w).map (fun j => T.map fun r => r.getD j 0) ++ [b]
def turnB (w : Nat) : List Int := List.replicate w 0 ++ [1]
theorem turn_at {T : List (List Int)} {b : List Int} {w j i : Nat} (hj : j < w) (hi : i < T.length) : aT (turnT T b w) j i = aT T i j := by
  unfold aT turnT
  have e : ((List.range w).map (fun j => T.map fun r => r.getD j 0) ++ [b]).getD j [] = T.map fun r => r.getD j 0 := by
    rw [List.getD_eq_getElem?_getD, List.getElem?_append_left (by simpa using hj), List.getElem?_map, List.getElem?_range hj]; rfl
  rw [e, List.getD_eq_getElem?_getD, List.getElem?_map, List.getElem?_eq_getElem hi, List.getD_eq_getElem?_getD (l := T), List.getElem?_eq_getElem hi]
  rfl
theorem turn_rt {T : List (List Int)} {b : List Int} {w i : Nat} : aT (turnT T b w) w i = b.getD i 0 := by
  unfold aT turnT
  have e : ((List.range w).map (fun j => T.map fun r => r.getD j 0) ++ [b]).getD w [] = b := by
    rw [List.getD_eq_getElem?_getD, List.getElem?_append_right (by simp)]; simp
  rw [e]
theorem turnB_at {w j : Nat} : (turnB w).getD j 0 = if j = w then 1 else 0 := by
  unfold turnB
  rw [getD_app, List.length_replicate]
  by_cases h : j < w
  · rw [if_pos h, if_neg (by omega), List.getD_eq_getElem?_getD, List.getElem?_replicate, if_pos h]; rfl
  · rw [if_neg h]
    by_cases e : j = w
    · rw [if_pos e, e, Nat.sub_self]; rfl
    · rw [if_neg e, List.getD_eq_getElem?_getD, List.getElem?_eq_none (by simp; omega)]; rfl
/-- exactly one of the two questions has a point -/
theorem turn_ok {T : List (List Int)} {b : List Int} {n w : Nat} {x y : Sum (List Int) (List Int × Int)} (hT : T.length = n) (hx : AnsOk T b n w x) (hy : AnsOk (turnT T b w) (turnB w) (w + 1) n y) : isPt y = !isPt x := by
  subst hT
  cases x with
  | inl bar =>
    cases y with
    | inr z => rfl
    | inl z =>
      exfalso
      obtain ⟨b1, b2, b3, -⟩ := hx
      obtain ⟨z1, z2, z3, -⟩ := hy
      -- z: the columns add up to the right side
      have e3 : sm (w + 1) (fun j => z.getD j 0 * (turnB w).getD j 0) = z.getD w 0 := by
        rw [sm_one (k := w) (Nat.lt_succ_self w) fun j _ hne => by rw [turnB_at, if_neg hne, Int.mul_zero], turnB_at, if_pos rfl, Int.mul_one]
      rw [e3] at z3
      have e2 : ∀ i, i < T.length → sm w (fun j => z.getD j 0 * aT T i j) + z.getD w 0 * b.getD i 0 = 0 := fun i hi => by
        have := z2 i hi
        have e : sm (w + 1) (fun j => z.getD j 0 * aT (turnT T b w) j i) = sm w (fun j => z.getD j 0 * aT T i j) + z.getD w 0 * b.getD i 0 := by
          show sm w _ + _ * aT (turnT T b w) w i = _
          rw [turn_rt, sm_congr (n := w) (g := fun j => z.getD j 0 * aT T i j) fun j hj => by rw [turn_at hj hi]]
        rw [← e]; exact this
      have e4 : sm T.length (fun i => bar.getD i 0 * (sm w (fun j => z.getD j 0 * aT T i j) + z.getD w 0 * b.getD i 0)) = 0 := sm_zero fun i hi => by rw [e2 i hi, Int.mul_zero]
      have e5 : sm T.length (fun i => bar.getD i 0 * (sm w (fun j => z.getD j 0 * aT T i j) + z.getD w 0 * b.getD i 0)) = sm w (fun j => z.getD j 0 * sm T.length fun i => bar.getD i 0 * aT T i j) + z.getD w 0 * sm T.length fun i => bar.getD i 0 * b.getD i 0 := by
        rw [← sm_mul, sm_congr (n := T.length) (g := fun i => sm w (fun j => z.getD j 0 * (bar.getD i 0 * aT T i j)) + z.getD w 0 * (bar.getD i 0 * b.getD i 0)) fun i hi => by
          rw [Int.mul_add, ← sm_mul, Int.mul_left_comm]
          congr 1
          exact sm_congr fun j _ => Int.mul_left_comm _ _ _, sm_add, sm_comm]
        congr 1
        exact sm_congr fun j _ => sm_mul
      rw [e5, sm_zero fun j hj => by rw [b2 j hj, Int.mul_zero], Int.zero_add] at e4
      have := Int.mul_pos z3 b3
      omega
  | inr z =>
    cases y with
    | inl z => rfl
    | inr y =>
      exfalso
      obtain ⟨x1, x2, -, x3, -⟩ := hx
      obtain ⟨y1, y2, -, y3, -⟩ := hy
      have e0 : ∀ j, j < w → sm T.length (fun i => aT T i j * y.1.getD i 0) = 0 := fun j hj => by
        have := y3 j (by omega)
        rw [turnB_at, if_neg (by omega), Int.zero_mul] at this
        exact (sm_congr fun i hi => by rw [turn_at hj hi]).trans this
      have e1 : sm T.length (fun i => b.getD i 0 * y.1.getD i 0) = y.2 := by
        have := y3 w (Nat.lt_succ_self w)
        rw [turnB_at, if_pos rfl, Int.one_mul] at this
        exact (sm_congr fun i hi => by rw [turn_rt]).trans this
      have e2 : sm T.length (fun i => (b.getD i 0 * z.2) * y.1.getD i 0) = y.2 * z.2 := by
        rw [← e1, ← sm_mul']
        exact sm_congr fun i _ => Int.mul_right_comm _ _ _
      have e3 : sm T.length (fun i => (b.getD i 0 * z.2) * y.1.getD i 0) = 0 := by
        rw [sm_congr (n := T.length) (g := fun i => sm w fun j => z.1.getD j 0 * (aT T i j * y.1.getD i 0)) fun i hi => by
          rw [← x3 i hi, ← sm_mul']
          exact sm_congr fun j _ => by rw [Int.mul_comm (aT T i j), Int.mul_assoc], sm_comm]
        refine sm_zero fun j hj => ?_
        rw [sm_mul, e0 j hj, Int.mul_zero]
      rw [e2] at e3
      have := Int.mul_pos (show 0 < y.2 by omega) (show 0 < z.2 by omega)
      omega
end EL
set_option Elab.async false
set_option linter.all false
set_option maxRecDepth 100000
set_option maxHeartbeats 2000000
/-! The deep machine, part a: a small language of resolved defs, and what each of its texts asks for (a weakest precondition over data). -/
namespace DL
open PySem PySem.Spec PyProof.Rows L2
inductive Bop where
  | add | sub | mul | div | mod | pow
  deriving DecidableEq
inductive Cop where
  | eq | ne | lt | le | gt | ge | is | isnot | inn | nin | eqi | nei
  deriving DecidableEq
inductive Ty where
  | int | bool | str | list | tuple
  deriving DecidableEq
inductive Bf where
  | len | int | abs | tuple | list | sum | max | min | gcd | lcm
  deriving DecidableEq
/-- a known thing: by name; what it is used for -/
inductive Kd where
  | fn | con | isc | len | eq | exc | fn0
  deriving DecidableEq
structure Fk where
  x : Str
  kd : Kd
  deriving DecidableEq
instance : Coe String Fk := ⟨fun s => ⟨Str.ofString s, .fn⟩⟩
mutual
/-- an expression; names are slots, defs stand by their number -/
inductive Xe where
  | var (i : Nat) | int (i : Int) | bl (b : Bool) | non | str (s : Str)
  | bin (o : Bop) (a b : Xe) | rep (a b : Xe) | neg (a : Xe) | not (a : Xe) | cmp (o : Cop) (a b : Xe)
  | and (as : Xl) | or (as : Xl) | ite (c a b : Xe) | itu (c a b : Xe)
  | ix (a b : Xe) | ixn (a : Xe) (n : Nat) | fld (a : Xe) (f : Str) | slc (a lo hi : Xe)
  | tup (as : Xl) | lst (as : Xl)
  | call (i : Nat) (as : Xl) | bi (f : Bf) (as : Xl) | isi (a : Xe) (t : Ty)
  | con (i : Nat) | isc (i : Nat) (a : Xe) | mlen (i : Nat) (a : Xe) | meq (i : Nat) (a b : Xe) | join (s : Str) (a : Xe) | lrg (a : Xe) | dct0 | call0 (i : Nat)
  | lc (v : Nat) (elt : Xe) (it : Xi) | lcf (v : Nat) (elt : Xe) (it : Xi) (c : Xe) | lct (is : List Nat) (elt : Xe) (it : Xi) | lc2 (v v2 : Nat) (elt : Xe) (it : Xi) (a : Xe)
inductive Xl where
  | nil | cons (a : Xe) (as : Xl)
inductive Xi where
  | rng (a : Xe) | rng2 (a b : Xe) | sq (a : Xe)
end
def Xl.none_ : Xl → Bool
  | .nil => true
  | .cons .. => false
/-! ### what operations ask, by data -/
def binD : Bop → D → D → (S → Prop) → Prop
  | .add, .int i, .int j, k => k (.sh (.int (i + j)))
  | .add, .sq true xs, .sq true ys, k => xs.length + ys.length ≤ 100000 ∧ k (.ow (.lst (xs ++ ys)))
  | .add, .sq false xs, .sq false ys, k => xs.length + ys.length ≤ 100000 ∧ k (.sh (.sq false (xs ++ ys)))
  | .add, .str a, .str b, k => a.length + b.length ≤ 16777216 ∧ k (.sh (.str (a ++ b)))
  | .sub, .int i, .int j, k => k (.sh (.int (i - j)))
  | .mul, .int i, .int j, k => CMulW i j ∧ k (.sh (.int (i * j)))
  | .div, .int i, .int j, k => (CDivW i j ∧ k (.sh (.int (i / j)))) ∨ (CDivX i j ∧ k (.sh (.int (i.fdiv j))))
  | .mod, .int i, .int j, k => 0 < j ∧ k (.sh (.int (i % j)))
  | .pow, .int i, .int j, k => (0 ≤ j ∧ j ≤ 1000000 ∧ i.natAbs < 2 ^ 64) ∧ k (.sh (.int (i ^ j.toNat)))
  | _, _, _, _ => False
def repD : S → D → (S → Prop) → Prop
  | .ow (.lst xs), .int n, k => (-1000000 ≤ n ∧ n ≤ 1000000 ∧ xs.length * n.toNat ≤ 100000) ∧ k (.ow (.lst (List.replicate n.toNat xs).flatten))
  | _, _, _ => False
def negD : D → (S → Prop) → Prop
  | .int i, k => k (.sh (.int (-i)))
  | _, _ => False
/-- == of two things: ints, texts, bools; else plain data -/
def eqD : D → D → (Bool → Prop) → Prop
  | .int i, .int j, k => k (decide (i = j))
  | .bl i, .bl j, k => k (decide (i = j))
  | .str i, .str j, k => k (decide (i = j))
  | x, y, k => (plB 60 x = true ∧ plB 60 y = true) ∧ ∀ b : Bool, (b = true ↔ x = y) → k b
def eqT : D → D → Prop → Prop → Prop
  | .int i, .int j, y, n => (i = j → y) ∧ (i ≠ j → n)
  | .bl i, .bl j, y, n => (i = j → y) ∧ (i ≠ j → n)
  | .str i, .str j, y, n => (i = j → y) ∧ (i ≠ j → n)
  | a, b, y, n => (plB 60 a = true ∧ plB 60 b = true) ∧ (a = b → y) ∧ (a ≠ b → n)
/-- things that in compares by kind -/
def isIntD : D → Bool
  | .int _ => true
  | _ => false
def isStrD : D → Bool
  | .str _ => true
  | _ => false
def isBlD : D → Bool
  | .bl _ => true
  | _ => false
def kin : D → List D → Bool
  | .bl _, ds => ds.all isBlD
  | .int _, ds => ds.all isIntD
  | .str _, ds => ds.all isStrD
  | _, _ => false
/-- a text within a text -/
def inS (c s : Str) : Bool := !(Builtin.Str.occurrences s c 0 s.length 1).isEmpty
/-- keys of a dict -/
def keyD : D → Option Key
  | .int i => some (.inl i)
  | .str s => some (.inr s)
  | _ => none
def hasK (kds : List (Key × D)) (κ : Key) : Bool := kds.any fun p => decide (p.1 = κ)
def putKD (kds : List (Key × D)) (κ : Key) (d : D) : List (Key × D) := if hasK kds κ = true then kds.map (fun p => if p.1 = κ then (p.1, d) else p) else kds ++ [(κ, d)]
def inK (x : D) (kds : List (Key × D)) (k : Bool → Prop) : Prop := match keyD x with
  | some κ => k (hasK kds κ)
  | none => False
def cmpB : Cop → D → D → (Bool → Prop) → Prop
  | .eq, x, y, k => eqD x y k
  | .ne, x, y, k => eqD x y fun b => k (!b)
  | .lt, .int i, .int j, k => k (decide (i < j))
  | .le, .int i, .int j, k => k (decide (i ≤ j))
  | .gt, .int i, .int j, k => k (decide (j < i))
  | .ge, .int i, .int j, k => k (decide (j ≤ i))
  | .is, x, .non, k => k (isNon x)
  | .isnot, x, .non, k => k (!isNon x)
  | .is, .bl i, .bl j, k => k (decide (i = j))
  | .isnot, .bl i, .bl j, k => k (!decide (i = j))
  | .inn, x, .sq _ ds, k => kin x ds = true ∧ ∀ b : Bool, (b = true ↔ x ∈ ds) → k b
  | .nin, x, .sq _ ds, k => kin x ds = true ∧ ∀ b : Bool, (b = true ↔ x ∈ ds) → k (!b)
  | .inn, .str c, .str s, k => k (inS c s)
  | .nin, .str c, .str s, k => k (!inS c s)
  | .inn, x, .dic kds, k => inK x kds k
  | .nin, x, .dic kds, k => inK x kds fun b => k (!b)
  | .eqi, x, y, k => (plC 60 x = true ∧ y = x) ∧ k true
  | .nei, x, y, k => (plC 60 x = true ∧ y = x) ∧ k false
  | _, _, _, _ => False
def cmpT : Cop → D → D → Prop → Prop → Prop
  | .eq, x, y, a, b => eqT x y a b
  | .ne, x, y, a, b => eqT x y b a
  | .lt, .int i, .int j, a, b => (i < j → a) ∧ (¬ i < j → b)
  | .le, .int i, .int j, a, b => (i ≤ j → a) ∧ (¬ i ≤ j → b)
  | .gt, .int i, .int j, a, b => (j < i → a) ∧ (¬ j < i → b)
  | .ge, .int i, .int j, a, b => (j ≤ i → a) ∧ (¬ j ≤ i → b)
  | .is, x, .non, a, b => match isNon x with | true => a | false => b
  | .isnot, x, .non, a, b => match isNon x with | true => b | false => a
  | .is, .bl i, .bl j, a, b => (i = j → a) ∧ (i ≠ j → b)
  | .isnot, .bl i, .bl j, a, b => (i = j → b) ∧ (i ≠ j → a)
  | .inn, x, .sq _ ds, a, b => kin x ds = true ∧ (x ∈ ds → a) ∧ (x ∉ ds → b)
  | .nin, x, .sq _ ds, a, b => kin x ds = true ∧ (x ∈ ds → b) ∧ (x ∉ ds → a)
  | .inn, .str c, .str s, a, b => (inS c s = true → a) ∧ (inS c s = false → b)
  | .nin, .str c, .str s, a, b => (inS c s = true → b) ∧ (inS c s = false → a)
  | .inn, x, .dic kds, a, b => inK x kds fun r => (r = true → a) ∧ (r = false → b)
  | .nin, x, .dic kds, a, b => inK x kds fun r => (r = true → b) ∧ (r = false → a)
  | .eqi, x, y, a, _ => (plC 60 x = true ∧ y = x) ∧ a
  | .nei, x, y, _, b => (plC 60 x = true ∧ y = x) ∧ b
  | _, _, _, _, _ => False
/-- the truth of a value -/
def truT : D → Prop → Prop → Prop
  | .bl b, y, n => (b = true → y) ∧ (b = false → n)
  | .int i, y, n => (i ≠ 0 → y) ∧ (i = 0 → n)
  | .sq _ xs, y, n => (xs ≠ [] → y) ∧ (xs = [] → n)
  | .non, _, n => n
  | _, _, _ => False
def ixD : D → D → (D → Prop) → Prop
  | .sq _ ds, .int i, k => ∃ d, atI ds i = some d ∧ k d
  | .scr ns, .int i, k => ∃ n, atI ns i = some n ∧ k (.int n)
  | .str z, .int i, k => ∃ c, (z.length ≤ 16777216 ∧ atI z.cps.toList i = some c) ∧ k (.str ⟨#[c]⟩)
  | _, _, _ => False
/-- at a written place from the left -/
def ixN' : D → Nat → (D → Prop) → Prop
  | .sq _ ds, n, k => match ds[n]? with
    | some d => k d
    | none => False
  | .str z, n, k => ∃ c, (z.length ≤ 16777216 ∧ z.cps.toList[n]? = some c) ∧ k (.str ⟨#[c]⟩)
  | _, _, _ => False
/-- a field -/
def fldD : D → Str → (D → Prop) → Prop
  | .ins _ gs, f, k => match gs.lookup f with
    | some d => k d
    | none => False
  | _, _, _ => False
/-- a slice -/
def cutD (ds : List D) (lo hi : Option Int) : List D := (ds.drop (HT.sIx ds.length 0 lo)).take (HT.sIx ds.length ds.length hi - HT.sIx ds.length 0 lo)
def optI : D → (Option Int → Prop) → Prop
  | .int i, k => k (some i)
  | _, _ => False
def isNonX : Xe → Bool
  | .non => true
  | _ => false
def slcD : D → Option Int → Option Int → (S → Prop) → Prop
  | .sq true ds, lo, hi, k => k (.ow (.lst (cutD ds lo hi)))
  | .sq false ds, lo, hi, k => k (.sh (.sq false (cutD ds lo hi)))
  | .str z, lo, hi, k => z.length ≤ 16777216 ∧ k (.sh (.str (Txt.slice z lo hi)))
  | _, _, _, _ => False
def isiD : D → Ty → Option Bool
  | .int _, .int => some true | .int _, _ => some false
  | .bl _, .int => some true | .bl _, .bool => some true | .bl _, _ => some false
  | .str _, .str => some true | .str _, _ => some false
  | .sq true _, .list => some true | .sq true _, _ => some false
  | .sq false _, .tuple => some true | .sq false _, _ => some false
  | .non, _ => some false
  | _, _ => none
structure SumW (xs : List D) (k : Int → Prop) : Prop where
  ex : ∃ ns : List Int, xs = ns.map .int ∧ k ns.sum
def bfD : Bf → List D → (S → Prop) → Prop
  | .len, [.sq _ xs], k => k (.sh (.int (xs.length : Int)))
  | .len, [.scr ns], k => k (.sh (.int (ns.length : Int)))
  | .len, [.str z], k => z.length ≤ 16777216 ∧ k (.sh (.int (z.length : Int)))
  | .int, [.int i], k => k (.sh (.int i))
  | .int, [.bl b], k => k (.sh (.int (if b then 1 else 0)))
  | .abs, [.int i], k => k (.sh (.int (i.natAbs : Int)))
  | .tuple, [.sq _ xs], k => k (.sh (.sq false xs))
  | .list, [.sq _ xs], k => k (.ow (.lst xs))
  | .sum, [.sq _ xs], k => SumW xs fun i => k (.sh (.int i))
  | .max, [.int i, .int j], k => k (.sh (.int (if j > i then j else i)))
  | .min, [.int i, .int j], k => k (.sh (.int (if j < i then j else i)))
  | .gcd, [.int i, .int j], k => k (.sh (.int ((Nat.gcd i.natAbs j.natAbs : Nat) : Int)))
  | .lcm, [.int i, .int j], k => (Bd 13000 i ∧ Bd 13000 j) ∧ k (.sh (.int ((Nat.lcm i.natAbs j.natAbs : Nat) : Int)))
  | _, _, _ => False
/-- a comprehension: what each item becomes -/
structure LcW (n : Nat) (item : Nat → D) (body : D → (D → Prop) → Prop) (k : List D → Prop) : Prop where
  ex : ∃ R : Nat → D → Prop, n ≤ 100000 ∧ (∀ i, i < n → body (item i) (R i)) ∧ ∀ es, EachN R n es → k es
structure LcfW (n : Nat) (item : Nat → D) (test : D → (Bool → Prop) → Prop) (body : D → (D → Prop) → Prop) (k : List D → Prop) : Prop where
  ex : ∃ (t : D → Bool) (g : D → D), n ≤ 100000 ∧ (∀ i, i < n → test (item i) fun b => b = t (item i) ∧ (b = true → body (item i) fun e => e = g (item i))) ∧ k ((((List.range n).map item).filter t).map g)
/-- the two names forgotten -/
def two_ (v v2 : Nat) (δ : List S) : List S := (δ.set v2 .no).set v .no
/-- all results, turn by turn -/
def flat2 (m : Nat → Nat) (g : Nat → Nat → D) (i : Nat) : List D := ((List.range i).map fun i' => (List.range (m i')).map (g i')).flatten
structure Lc2W (n : Nat) (item : Nat → D) (inner : D → (D → Prop) → Prop) (body : D → Nat → (D → Prop) → Prop) (k : List D → Prop) : Prop where
  ex : ∃ (m : Nat → Nat) (g : Nat → Nat → D), (n ≤ 100000 ∧ ∀ i, i < n → (flat2 m g i).length + m i ≤ 100000) ∧ (∀ i, i < n → inner (item i) (fun d => ∃ j : Int, d = .int j ∧ (-(2 ^ 62) ≤ j ∧ j < 2 ^ 62) ∧ m i = j.toNat) ∧ ∀ j, j < m i → body (item i) j (fun e => e = g i j)) ∧ k (flat2 m g n)
/-- a tuple's items under their names -/
def tgtD (is : List Nat) : D → List S → (List S → Prop) → Prop
  | .sq _ ds, δ, k => ds.length = is.length ∧ k (setL is ds δ)
  | _, _, _ => False
/-- a call: the def's promise -/
structure CallW (T : DSp) (ds : List D) (k : S → Prop) (x : XD) : Prop where
  ex : T ds k x
def noX : XD := fun _ _ => False
/-- two ways that meet: what is known of the value behind them -/
structure UpW (p : (S → Prop) → Prop) (k : S → Prop) : Prop where
  ex : ∃ M : S → Prop, p M ∧ ∀ r, M r → k r
/-- what is wanted of an expression: of its value; as a test, both ways -/
inductive Cn where
  | e (k : S → Prop) | t (y n : Prop)
def Cn.fn : Cn → S → Prop
  | .e k => k
  | .t y n => fun r => truT r.d y n
/-- of several: their values; joined by and, by or -/
inductive Cl where
  | a (k : List D → Prop) | and (c : Cn) | or (c : Cn)
def blK : D → Prop → Prop → Prop
  | .bl r, y, n => (r = true → y) ∧ (r = false → n)
  | _, _, _ => False
def rngI (m n : Int) (k : Nat → (Nat → D) → Prop) : Prop := (-(2 ^ 62) ≤ m ∧ m < 2 ^ 62 ∧ -(2 ^ 62) ≤ n ∧ n < 2 ^ 62) ∧ k (n - m).toNat (fun i => .int (m + (i : Int)))
def notD : D → (S → Prop) → Prop
  | .bl b, k => k (.sh (.bl (!b)))
  | _, _ => False
def isiT : Option Bool → Cn → Prop
  | some b, .e k => k (.sh (.bl b))
  | some true, .t y _ => y
  | some false, .t _ n => n
  | none, _ => False
def varD : Option S → (S → Prop) → Prop
  | some (.sh d), k => k (.sh d)
  | _, _ => False
def rng1 : D → (Nat → (Nat → D) → Prop) → Prop
  | .int n, k => (-(2 ^ 62) ≤ n ∧ n < 2 ^ 62) ∧ k n.toNat (fun i => .int (i : Int))
  | _, _ => False
def rng2D : D → D → (Nat → (Nat → D) → Prop) → Prop
  | .int m, .int n, k => rngI m n k
  | _, _, _ => False
def seqD : D → (Nat → (Nat → D) → Prop) → Prop
  | .sq _ ds, k => k ds.length (fun i => ds.getD i .non)
  | .scr ns, k => k ns.length (fun i => .int (ns.getD i 0))
  | .str z, k => k z.cps.size (fun i => .str ⟨#[z.cps.getD i 0]⟩)
  | _, _ => False
/-- "s".join(texts) -/
structure JoinS (s : Str) (ds : List D) (k : S → Prop) : Prop where
  ex : ∃ ys : List Str, ds = ys.map .str ∧ (ys.map (·.length)).sum + ys.length * s.length ≤ 16777216 ∧ k (.sh (.str (Txt.join s ys)))
def joinD (s : Str) : D → (S → Prop) → Prop
  | .sq _ ds, k => JoinS s ds k
  | _, _ => False
/-- list(range(n)) -/
def lrgD : D → (S → Prop) → Prop
  | .int n, k => (0 ≤ n ∧ n ≤ 100000) ∧ k (.ow (.lst ((List.range n.toNat).map fun i : Nat => D.int (i : Int))))
  | _, _ => False
def callD : Option DSp → List D → (S → Prop) → XD → Prop
  | some T, ds, k, x => CallW T ds k x
  | none, _, _, _ => False
mutual
def wpe (Γ : List DSp) : Xe → List S → XD → Cn → Prop
  | .var i, δ, _, c => varD δ[i]? c.fn
  | .int i, _, _, c => c.fn (.sh (.int i))
  | .bl b, _, _, c => c.fn (.sh (.bl b))
  | .non, _, _, c => c.fn (.sh .non)
  | .str s, _, _, c => c.fn (.sh (.str s))
  | .bin o a b, δ, x, c => wpe Γ a δ x (.e fun r => wpe Γ b δ x (.e fun q => binD o r.d q.d c.fn))
  | .rep a b, δ, x, c => wpe Γ a δ x (.e fun r => wpe Γ b δ x (.e fun q => repD r q.d c.fn))
  | .neg a, δ, x, c => wpe Γ a δ x (.e fun r => negD r.d c.fn)
  | .not a, δ, x, c => match c with
    | .e k => wpe Γ a δ x (.e fun r => notD r.d k)
    | .t y n => wpe Γ a δ x (.t n y)
  | .cmp o a b, δ, x, c => match c with
    | .e k => wpe Γ a δ x (.e fun r => wpe Γ b δ x (.e fun q => cmpB o r.d q.d fun c => k (.sh (.bl c))))
    | .t y n => wpe Γ a δ x (.e fun r => wpe Γ b δ x (.e fun q => cmpT o r.d q.d y n))
  | .and as, δ, x, c => wpl Γ as δ x (.and c)
  | .or as, δ, x, c => wpl Γ as δ x (.or c)
  | .ite t a b, δ, x, c => match c with
    | .e k => wpe Γ t δ x (.t (wpe Γ a δ x (.e k)) (wpe Γ b δ x (.e k)))
    | .t _ _ => False
  | .itu t a b, δ, x, c => match c with
    | .e k => UpW (fun M => wpe Γ t δ x (.t (wpe Γ a δ x (.e M)) (wpe Γ b δ x (.e M)))) k
    | .t _ _ => False
  | .ix a b, δ, x, c => wpe Γ a δ x (.e fun r => wpe Γ b δ x (.e fun q => ixD r.d q.d fun d => c.fn (.sh d)))
  | .ixn a n, δ, x, c => wpe Γ a δ x (.e fun r => ixN' r.d n fun d => c.fn (.sh d))
  | .fld a f, δ, x, c => wpe Γ a δ x (.e fun r => fldD r.d f fun d => c.fn (.sh d))
  | .slc a lo hi, δ, x, c => wpe Γ a δ x (.e fun r => match isNonX lo, isNonX hi with
    | true, true => slcD r.d none none c.fn
    | true, false => wpe Γ hi δ x (.e fun q => optI q.d fun u => slcD r.d none u c.fn)
    | false, true => wpe Γ lo δ x (.e fun p => optI p.d fun l => slcD r.d l none c.fn)
    | false, false => wpe Γ lo δ x (.e fun p => optI p.d fun l => wpe Γ hi δ x (.e fun q => optI q.d fun u => slcD r.d l u c.fn)))
  | .tup as, δ, x, c => wpl Γ as δ x (.a fun ds => c.fn (.sh (.sq false ds)))
  | .lst as, δ, x, c => wpl Γ as δ x (.a fun ds => c.fn (.ow (.lst ds)))
  | .call i as, δ, x, c => wpl Γ as δ x (.a fun ds => callD Γ[i]? ds c.fn x)
  | .bi f as, δ, x, c => wpl Γ as δ x (.a fun ds => bfD f ds c.fn)
  | .con i, _, x, c => callD Γ[i]? [] c.fn x
  | .isc i a, δ, x, c => wpe Γ a δ x (.e fun r => callD Γ[i]? [r.d] c.fn x)
  | .mlen i a, δ, x, c => wpe Γ a δ x (.e fun r => callD Γ[i]? [r.d] c.fn x)
  | .meq i a b, δ, x, c => wpe Γ a δ x (.e fun r => wpe Γ b δ x (.e fun q => callD Γ[i]? [r.d, q.d] c.fn x))
  | .join s a, δ, x, c => wpe Γ a δ x (.e fun r => joinD s r.d c.fn)
  | .lrg a, δ, x, c => wpe Γ a δ x (.e fun r => lrgD r.d c.fn)
  | .dct0, _, _, c => c.fn (.ow (.dic []))
  | .call0 i, _, x, c => callD Γ[i]? [] c.fn x
  | .isi a t, δ, x, c => wpe Γ a δ x (.e fun r => isiT (isiD r.d t) c)
  | .lc v elt it, δ, x, c => wpi Γ it δ x fun n item => LcW n item (fun d q => wpe Γ elt (δ.set v (.sh d)) noX (.e fun r => q r.d)) fun es => c.fn (.ow (.lst es))
  | .lcf v elt it t, δ, x, c => wpi Γ it δ x fun n item => LcfW n item (fun d q => wpe Γ t (δ.set v (.sh d)) noX (.t (q true) (q false))) (fun d q => wpe Γ elt (δ.set v (.sh d)) noX (.e fun r => q r.d)) fun es => c.fn (.ow (.lst es))
  | .lct is elt it, δ, x, c => wpi Γ it δ x fun n item => LcW n item (fun d q => tgtD is d δ fun δ' => wpe Γ elt δ' noX (.e fun r => q r.d)) fun es => c.fn (.ow (.lst es))
  | .lc2 v v2 elt it a, δ, x, c => wpi Γ it δ x fun n item => Lc2W n item (fun d q => wpe Γ a ((two_ v v2 δ).set v (.sh d)) noX (.e fun r => q r.d)) (fun d j q => wpe Γ elt (((two_ v v2 δ).set v (.sh d)).set v2 (.sh (.int (j : Int)))) noX (.e fun r => q r.d)) fun es => c.fn (.ow (.lst es))
def wpl (Γ : List DSp) : Xl → List S → XD → Cl → Prop
  | .nil, _, _, c => match c with
    | .a k => k []
    | _ => False
  | .cons a as, δ, x, c => match c with
    | .a k => wpe Γ a δ x (.e fun r => wpl Γ as δ x (.a fun ds => k (r.d :: ds)))
    | .and c => match as.none_ with
      | true => wpe Γ a δ x c
      | false => match c with
        | .e k => wpe Γ a δ x (.e fun r => blK r.d (wpl Γ as δ x (.and (.e k))) (k (.sh (.bl false))))
        | .t y n => wpe Γ a δ x (.t (wpl Γ as δ x (.and (.t y n))) n)
    | .or c => match as.none_ with
      | true => wpe Γ a δ x c
      | false => match c with
        | .e k => wpe Γ a δ x (.e fun r => blK r.d (k (.sh (.bl true))) (wpl Γ as δ x (.or (.e k))))
        | .t y n => wpe Γ a δ x (.t y (wpl Γ as δ x (.or (.t y n))))
def wpi (Γ : List DSp) : Xi → List S → XD → (Nat → (Nat → D) → Prop) → Prop
  | .rng a, δ, x, k => wpe Γ a δ x (.e fun r => rng1 r.d k)
  | .rng2 a b, δ, x, k => wpe Γ a δ x (.e fun r => wpe Γ b δ x (.e fun q => rng2D r.d q.d k))
  | .sq a, δ, x, k => wpe Γ a δ x (.e fun r => seqD r.d k)
end
/-! ### statements -/
inductive Xt where
  | nm (i : Nat) | tup (is : List Nat)
def isComp : Xe → Bool
  | .lc .. => true
  | .lcf .. => true
  | .lct .. => true
  | .lc2 .. => true
  | _ => false
/-! trees of owned lists: made (Xn), gone down (Xp) -/
mutual
inductive Xn where
  | e (bs : List Nat) (a : Xe) | lst (as : Xnl) | lc (v : Nat) (elt : Xn) (it : Xi) | mv (i : Nat)
inductive Xnl where
  | nil | cons (a : Xn) (as : Xnl)
end
inductive Xp where
  | nm | sub (p : Xp) (bs : List Nat) (ix : Xe)
mutual
inductive Xs where
  | set (i : Nat) (own : Bool) (bs : List Nat) (e : Xe)
  | setIx (i j : Nat) (e : Xe)
  | asg (t : Xt) (bs : List Nat) (e : Xe)
  | ite (bs : List Nat) (c : Xe) (t e : Xb)
  | itj (dd bs : List Nat) (c : Xe) (t e : Xb)
  | ret (bs : List Nat) (e : Xe) | retO (i : Nat) | retN
  | app (i : Nat) (bs : List Nat) (e : Xe)
  | sti (i : Nat) (bs : List Nat) (e ix : Xe)
  | expr (bs : List Nat) (e : Xe)
  | for_ (dd bs : List Nat) (t : Xt) (it : Xi) (body : Xb)
  | whl (dd bs : List Nat) (c : Xe) (body : Xb)
  | forT (dd bs : List Nat) (t : Xt) (e : Xe) (body : Xb)
  | ins (i : Nat) (bs : List Nat) (ix e : Xe) | forE (v i : Nat) (ix e : Xe) | setD (i : Nat) (is : List Nat) (a : Nat) (it : Xi)
  | brk | cnt | pass | rse | rsc (i : Nat) (bs : List Nat) (a : Xe)
  | fst (i : Nat) (f : Str) (bs : List Nat) (e : Xe)
  | setT (i : Nat) (e : Xn) | retT (e : Xn) | appT (i : Nat) (p : Xp) (e : Xn) | stiT (i : Nat) (p : Xp) (bs : List Nat) (ix : Xe) (e : Xn)
inductive Xb where
  | nil | cons (s : Xs) (r : Xb) | lend (is : List Nat) (r : Xb)
end
/-- where a text ends: behind it, by return, by break, by continue; what may be raised -/
structure Ed where
  nx : List S → Prop
  rt : S → Prop
  bk : List S → Prop
  ct : List S → Prop
  xw : List S → XD
/-- slots lent for good -/
def bor1 (i : Nat) (δ : List S) : List S := match δ[i]? with
  | some (.ow o) => δ.set i (.sh o.d)
  | _ => δ
def bor : List Nat → List S → List S
  | [], δ => δ
  | i :: is, δ => bor is (bor1 i δ)
/-- slots forgotten -/
def drp : List Nat → List S → List S
  | [], δ => δ
  | i :: is, δ => drp is (δ.set i .no)
def SafeR : S → Prop
  | .no => False
  | .sh d => FlatN d
  | .ow (.lst ds) => ∀ d ∈ ds, FlatN d
  | .ow _ => False
def S.un : S → S
  | .no => .no
  | s => .sh s.d
/-- a value comes into a slot: as it is (own), or to be read alone -/
def putS (own : Bool) (r : S) : S := match own with
  | true => r
  | false => r.un
/-- tuples and instances within one another, no list -/
inductive FlatI : D → Prop
  | flat {d : D} : Flat d → FlatI d
  | tup {ds : List D} : (∀ (i : Nat) d, ds[i]? = some d → FlatI d) → FlatI (.sq false ds)
  | ins {C : Addr} {gs : List (Str × D)} : (∀ (i : Nat) g, gs[i]? = some g → FlatI g.2) → FlatI (.ins C gs)
/-- no slot holds an own instance -/
def noIns (δ : List S) : Bool := δ.all fun
  | .ow (.self ..) => false
  | .ow (.ins ..) => false
  | _ => true
/-- the value was made while the slots bs were lent -/
structure KeepW (bs : List Nat) (r : S) (δ : List S) (k : List S → Prop) : Prop where
  ex : (SafeR r ∧ k δ) ∨ k (bor bs δ) ∨ ((∃ d, r = .sh d ∧ FlatI d) ∧ noIns δ = true ∧ k δ)
def keepW (bs : List Nat) (r : S) (δ : List S) (k : List S → Prop) : Prop := match bs with
  | [] => k δ
  | bs => KeepW bs r δ k
def setAll : List Nat → List D → List S → (List S → Prop) → Prop
  | [], [], δ, k => k δ
  | i :: is, d :: ds, δ, k => setAll is ds (δ.set i (.sh d)) k
  | _, _, _, _ => False
def wpt : Xt → D → List S → (List S → Prop) → Prop
  | .nm i, d, δ, k => k (δ.set i (.sh d))
  | .tup is, .sq _ ds, δ, k => setAll is ds δ k
  | _, _, _, _ => False
structure ForW (n : Nat) (item : Nat → D) (dd : List Nat) (tg : D → List S → (List S → Prop) → Prop) (body : List S → Ed → Prop) (δ : List S) (E : Ed) : Prop where
  ex : ∃ Iv : Nat → List S → Prop, Iv 0 (drp dd δ) ∧ (∀ i δ1, i < n → Iv i δ1 → tg (item i) δ1 fun δ2 => body δ2 ⟨fun δ => Iv (i + 1) (drp dd δ), E.rt, E.nx, fun δ => Iv (i + 1) (drp dd δ), E.xw⟩) ∧ ∀ δ1, Iv n δ1 → E.nx δ1
structure WhlW (dd bs : List Nat) (test : List S → XD → Prop → Prop → Prop) (body : List S → Ed → Prop) (δ : List S) (E : Ed) : Prop where
  ex : ∃ (Iv : Nat → List S → Prop) (m0 : Nat), Iv m0 (drp dd δ) ∧ ∀ m δ1, Iv m δ1 → test (bor bs δ1) (E.xw (bor bs δ1)) (body δ1 ⟨fun δ => ∃ m', m' < m ∧ Iv m' (drp dd δ), E.rt, E.nx, fun δ => ∃ m', m' < m ∧ Iv m' (drp dd δ), E.xw⟩) (E.nx δ1)
structure JoinW (p : (List S → Prop) → Prop) (q : List S → Prop) : Prop where
  ex : ∃ M : List S → Prop, p M ∧ ∀ δ, M δ → q δ
def appD (i : Nat) (d : D) (δ : List S) (k : List S → Prop) : Prop := match δ[i]? with
  | some (.ow (.lst ds)) => ds.length < 100000 ∧ k (δ.set i (.ow (.lst (ds ++ [d]))))
  | _ => False
def stiD (i : Nat) (ds : List D) (d : D) (q : D) (δ : List S) (k : List S → Prop) : Prop := match q with
  | .int n => ∃ j : Nat, n = j ∧ j < ds.length ∧ k (δ.set i (.ow (.lst (ds.set j d))))
  | _ => False
/-- a dict's key is put -/
def stiK (i : Nat) (kds : List (Key × D)) (d : D) (q : D) (δ : List S) (k : List S → Prop) : Prop := match keyD q with
  | some κ => kds.length < 100000 ∧ k (δ.set i (.ow (.dic (putKD kds κ d))))
  | none => False
def owC : Option S → (List D → Prop) → (List (Key × D) → Prop) → Prop
  | some (.ow (.lst ds)), k, _ => k ds
  | some (.ow (.dic kds)), _, k => k kds
  | _, _, _ => False
def insD (i : Nat) (q d : D) (δ : List S) (k : List S → Prop) : Prop := match q, δ[i]? with
  | .int n, some (.ow (.lst ds)) => (ds.length < 100000 ∧ 0 ≤ n ∧ n < 2 ^ 62) ∧ k (δ.set i (.ow (.lst (ds.take n.toNat ++ [d] ++ ds.drop n.toNat))))
  | _, _ => False
/-- each list of a list gets a number at the same place -/
def edT (j : Nat) (d : D) : Tr → Tr
  | .lst us => .lst (us.set j (.sh d))
  | t => t
structure ForEW (ts : List Tr) (pe pix : List Tr → (D → Prop) → Prop) (k : D → Nat → Prop) : Prop where
  ex : ∃ (d : D) (j : Nat), (Flat d ∧ ∀ t ∈ ts, ∃ us, t = .lst us ∧ j < us.length) ∧ (∀ us, pe us (fun x => x = d) ∧ pix us (fun x => x = .int (j : Int))) ∧ k d j
/-- {a: True for tuples} -/
structure SetDW (n : Nat) (item : Nat → D) (is : List Nat) (a : Nat) (m : Nat) (k : List (Key × D) → Prop) : Prop where
  ex : ∃ (f : Nat → List D) (ns : Nat → Int), (n ≤ 100000 ∧ ∀ k ∈ is, k < m) ∧ (∀ j, j < n → (∃ l, item j = .sq l (f j)) ∧ (f j).length = is.length ∧ (f j)[a]? = some (.int (ns j))) ∧ k ((List.range n).foldl (fun kds j => putKD kds (.inl (ns j)) (.bl true)) [])
def owL : Option S → (List D → Prop) → Prop
  | some (.ow (.lst ds)), k => k ds
  | _, _ => False
def tupD : D → (List D → Prop) → Prop
  | .sq false ds, k => k ds
  | _, _ => False
def retD (bs : List Nat) (r : S) (k : S → Prop) : Prop := match bs with
  | [] => k r
  | _ => k r.un
/-- a comprehension of trees -/
structure LctW (n : Nat) (item : Nat → D) (body : D → (Tr → Prop) → Prop) (k : List Tr → Prop) : Prop where
  ex : ∃ R : Nat → Tr → Prop, n ≤ 100000 ∧ (∀ i, i < n → body (item i) (R i)) ∧ ∀ ts : List Tr, ts.length = n → (∀ (i : Nat) t, ts[i]? = some t → R i t) → k ts
mutual
def wpn (Γ : List DSp) : Xn → List S → XD → (Tr → Prop) → Prop
  | .e bs a, δ, x, k => match bs with
    | [] => wpe Γ a δ x (.e fun r => k (asT r))
    | _ => False
  | .lst as, δ, x, k => wpns Γ as δ x fun ts => k (.lst ts)
  | .lc v elt it, δ, x, k => wpi Γ it δ x fun n item => LctW n item (fun d q => wpn Γ elt (δ.set v (.sh d)) noX q) fun ts => k (.lst ts)
  | .mv _, _, _, _ => False
def wpns (Γ : List DSp) : Xnl → List S → XD → (List Tr → Prop) → Prop
  | .nil, _, _, k => k []
  | .cons a as, δ, x, k => wpn Γ a δ x fun t => wpns Γ as δ x fun ts => k (t :: ts)
end
def moD : Option S → (Tr → Prop) → Prop
  | some (.ow (.lst ds)), k => k (.lst (ds.map .sh))
  | some (.ow (.tr ts)), k => k (.lst ts)
  | _, _ => False
mutual
def wpT (Γ : List DSp) : Xn → List S → (List S → XD) → (Tr → List S → Prop) → Prop
  | .e bs a, δ, x, k => match bs with
    | [] => wpe Γ a δ (x δ) (.e fun r => k (asT r) δ)
    | b :: bs => wpe Γ a (bor (b :: bs) δ) (x (bor (b :: bs) δ)) (.e fun r => FlatN r.d ∧ k (.sh r.d) δ)
  | .lst as, δ, x, k => wpTs Γ as δ x fun ts δ' => k (.lst ts) δ'
  | .lc v elt it, δ, x, k => wpi Γ it δ (x δ) fun n item => LctW n item (fun d q => wpn Γ elt (δ.set v (.sh d)) noX q) fun ts => k (.lst ts) δ
  | .mv i, δ, x, k => moD δ[i]? fun t => k t (δ.set i .no)
def wpTs (Γ : List DSp) : Xnl → List S → (List S → XD) → (List Tr → List S → Prop) → Prop
  | .nil, δ, _, k => k [] δ
  | .cons a as, δ, x, k => wpT Γ a δ x fun t δ' => wpTs Γ as δ' x fun ts δ'' => k (t :: ts) δ''
end
/-- a written place, from the left -/
structure NatW (i : Int) (k : Nat → Prop) : Prop where
  ex : ∃ j : Nat, i = j ∧ k j
def natD : D → (Nat → Prop) → Prop
  | .int i, k => NatW i k
  | _, _ => False
def trO : Option S → (List Tr → Prop) → Prop
  | some (.ow (.tr ts)), k => k ts
  | _, _ => False
/-- the list at a place of a tree -/
structure SubW (us : List Tr) (j : Nat) (k : List Tr → Prop) : Prop where
  ex : ∃ ws, us[j]? = some (.lst ws) ∧ k ws
def wpp (Γ : List DSp) : Xp → Nat → List S → (List S → XD) → (List Nat → List Tr → Prop) → Prop
  | .nm, i, δ, _, k => trO δ[i]? fun ts => k [] ts
  | .sub p bs ix, i, δ, x, k => wpp Γ p i δ x fun π us => wpe Γ ix (bor bs δ) (x (bor bs δ)) (.e fun q => natD q.d fun j => SubW us j fun ws => k (π ++ [j]) ws)
/-- a field is set -/
def putFD (f : Str) (d : D) : List (Str × D) → List (Str × D)
  | [] => [(f, d)]
  | (g, x) :: r => match g == f with
    | true => (g, d) :: r
    | false => (g, x) :: putFD f d r
def fstD : Option S → Str → D → (Ow → Prop) → Prop
  | some (.ow (.self a C ks gs)), f, d, k => (ks.elem f = true ∧ Nat.blt gs.length 1000 = true) ∧ k (.self a C ks (putFD f d gs))
  | _, _, _, _ => False
def lstT : Tr → (List Tr → Prop) → Prop
  | .lst us, k => k us
  | _, _ => False
def retV : Option S → (S → Prop) → Prop
  | some (.ow o), k => k (.ow o)
  | some (.sh d), k => k (.sh d)
  | _, _ => False
mutual
def wps (Γ : List DSp) : Xs → List S → Ed → Prop
  | .set i own bs e, δ, E => match isComp e with
    | true => wpe Γ e (bor bs δ) (E.xw (bor bs δ)) (.e fun r => E.nx ((bor bs δ).set i (putS own r)))
    | false => wpe Γ e (bor bs δ) (E.xw (bor bs δ)) (.e fun r => keepW bs r δ fun δ' => E.nx (δ'.set i (putS own r)))
  | .setIx i j e, δ, E => owL δ[j]? fun ds => wpe Γ e (bor [j] δ) (E.xw (bor [j] δ)) (.e fun q => ixD (.sq true ds) q.d fun d => E.nx (δ.set i (.sh d)))
  | .asg t bs e, δ, E => wpe Γ e (bor bs δ) (E.xw (bor bs δ)) (.e fun r => keepW bs r δ fun δ' => wpt t r.d δ' E.nx)
  | .ite bs c t e, δ, E => wpe Γ c (bor bs δ) (E.xw (bor bs δ)) (.t (wpb Γ t δ E) (wpb Γ e δ E))
  | .itj dd bs c t e, δ, E => JoinW (fun M => wpe Γ c (bor bs δ) (E.xw (bor bs δ)) (.t (wpb Γ t δ { E with nx := fun δ => M (drp dd δ) }) (wpb Γ e δ { E with nx := fun δ => M (drp dd δ) }))) E.nx
  | .ret bs e, δ, E => wpe Γ e (bor bs δ) (E.xw (bor bs δ)) (.e fun r => retD bs r E.rt)
  | .retO i, δ, E => retV δ[i]? E.rt
  | .retN, _, E => E.rt (.sh .non)
  | .app i bs e, δ, E => owL δ[i]? fun _ => wpe Γ e (bor bs δ) (E.xw (bor bs δ)) (.e fun r => keepW bs r δ fun δ' => appD i r.d δ' E.nx)
  | .sti i bs e ix, δ, E => wpe Γ e (bor bs δ) (E.xw (bor bs δ)) (.e fun r => keepW bs r δ fun δ' => owC δ'[i]? (fun ds => wpe Γ ix (bor bs δ') (E.xw (bor bs δ')) (.e fun q => stiD i ds r.d q.d δ' E.nx)) fun kds => wpe Γ ix (bor bs δ') (E.xw (bor bs δ')) (.e fun q => stiK i kds r.d q.d δ' E.nx))
  | .expr bs e, δ, E => wpe Γ e (bor bs δ) (E.xw (bor bs δ)) (.e fun _ => E.nx δ)
  | .for_ dd bs t it body, δ, E => wpi Γ it (bor bs δ) (E.xw (bor bs δ)) fun n item => match it with
    | .sq _ => ForW n item dd (wpt t) (wpb Γ body) (bor bs δ) E
    | _ => ForW n item dd (wpt t) (wpb Γ body) δ E
  | .forT dd bs t e body, δ, E => wpe Γ e (bor bs δ) (E.xw (bor bs δ)) (.e fun r => keepW bs r δ fun δ' => tupD r.d fun ds => ForW ds.length (fun i => ds.getD i .non) dd (wpt t) (wpb Γ body) δ' E)
  | .whl dd bs c body, δ, E => WhlW dd bs (fun δ x y n => wpe Γ c δ x (.t y n)) (wpb Γ body) δ E
  | .fst i f bs e, δ, E => wpe Γ e (bor bs δ) (E.xw (bor bs δ)) (.e fun r => keepW bs r δ fun δ' => fstD δ'[i]? f r.d fun o => E.nx (δ'.set i (.ow o)))
  | .setT i e, δ, E => wpT Γ e δ E.xw fun t δ' => lstT t fun us => E.nx (δ'.set i (.ow (.tr us)))
  | .retT e, δ, E => wpT Γ e δ E.xw fun t _ => lstT t fun us => E.rt (.ow (.tr us))
  | .appT i p e, δ, E => wpp Γ p i δ E.xw fun π us => us.length < 100000 ∧ wpT Γ e δ E.xw fun t δ' => trO δ'[i]? fun ts => subAt ts π = some us ∧ E.nx (δ'.set i (.ow (.tr (updAt ts π (us ++ [t])))))
  | .stiT i p bs ix e, δ, E => wpT Γ e δ E.xw fun t δ' => wpp Γ p i δ' E.xw fun π us => wpe Γ ix (bor bs δ') (E.xw (bor bs δ')) (.e fun q => natD q.d fun j => j < us.length ∧ trO δ'[i]? fun ts => E.nx (δ'.set i (.ow (.tr (updAt ts π (us.set j t))))))
  | .ins i bs ix e, δ, E => owL δ[i]? fun _ => wpe Γ ix (bor bs δ) (E.xw (bor bs δ)) (.e fun q => wpe Γ e (bor bs δ) (E.xw (bor bs δ)) (.e fun r => keepW bs r δ fun δ' => insD i q.d r.d δ' E.nx))
  | .forE v i ix e, δ, E => trO δ[i]? fun ts => Nat.blt v δ.length = true ∧ ForEW ts (fun us q => wpe Γ e ((δ.set v .no).set i (.ow (.tr us))) (E.xw ((δ.set v .no).set i (.ow (.tr us)))) (.e fun r => q r.d)) (fun us q => wpe Γ ix ((δ.set v .no).set i (.ow (.tr us))) (E.xw ((δ.set v .no).set i (.ow (.tr us)))) (.e fun r => q r.d)) fun d j => E.nx ((δ.set v .no).set i (.ow (.tr (ts.map (edT j d)))))
  | .setD i is a it, δ, E => wpi Γ it δ (E.xw δ) fun n item => SetDW n item is a δ.length fun kds => E.nx (δ.set i (.sh (.dic kds)))
  | .brk, δ, E => E.bk δ
  | .cnt, δ, E => E.ct δ
  | .pass, δ, E => E.nx δ
  | .rse, _, _ => False
  | .rsc i bs a, δ, E => wpe Γ a (bor bs δ) (E.xw (bor bs δ)) (.e fun r => callD Γ[i]? [r.d] (fun _ => False) (E.xw δ))
def wpb (Γ : List DSp) : Xb → List S → Ed → Prop
  | .nil, δ, E => E.nx δ
  | .cons s r, δ, E => wps Γ s δ { E with nx := fun δ' => wpb Γ r δ' E }
  | .lend is r, δ, E => wpb Γ r (bor is δ) E
end
end DL
set_option Elab.async false
set_option linter.all false
set_option maxRecDepth 100000
set_option maxHeartbeats 4000000
/-! The deep machine, part b: expressions are what they are said to be. -/
namespace DL
open PySem PySem.Spec PyProof.Rows L2
def Wu (X : Cx) (H0 : Hp) (e : Expr) (δ : List S) (k : S → Prop) : Prop := ∀ σ G, RelS X.K H0 σ G δ → semE X e σ G (fun v G' => ∃ r, RetIs X.K G v G' r ∧ k r)
section
variable {X : Cx} {H0 : Hp} {δ : List S} {a b c e : Expr} {es : List Expr} {k : S → Prop} {pos : Pos}
theorem Wu.mono {k' : S → Prop} (h : Wu X H0 e δ k) (m : ∀ r, k r → k' r) : Wu X H0 e δ k' := fun σ G R => (h σ G R).mono fun v G' ⟨r, i, q⟩ => ⟨r, i, m r q⟩
theorem wu_we (h : We X H0 e δ fun d => k (.sh d)) : Wu X H0 e δ k := fun σ G R => (h σ G R).mono fun v G' ⟨e, d, i, q⟩ => ⟨.sh d, ⟨e, i⟩, q⟩
theorem wu_wo (h : Wo X H0 e δ fun o => k (.ow o)) : Wu X H0 e δ k := fun σ G R => (h σ G R).mono fun v G' ⟨o, n, q⟩ => ⟨.ow o, n, q⟩
theorem we_wu {k : D → Prop} (h : Wu X H0 e δ fun r => k r.d) : We X H0 e δ k := fun σ G R => (h σ G R).mono fun v G' ⟨r, i, q⟩ => ⟨i.ex.1, _, i.ex.2, q⟩
theorem wo_wu {ko : Ow → Prop} (h : Wu X H0 e δ fun r => ∃ o, r = .ow o ∧ ko o) : Wo X H0 e δ ko := fun σ G R => (h σ G R).mono fun v G' ⟨r, i, o, eo, q⟩ => by subst eo; exact ⟨o, i, q⟩
/-- two operands, by data -/
theorem twoU {f : V → V → Hp → VK → Prop} {P : D → D → Prop} (h : We X H0 a δ (fun x => We X H0 b δ (fun y => P x y))) (hf : ∀ G v w x y, Is X.K G v x → Is X.K G w y → P x y → ∀ Q : VK, (∀ z G' r, RetIs X.K G z G' r → k r → Q z G') → f v w G Q) :
    ∀ σ G, RelS X.K H0 σ G δ → tOp f (semE X a) (semE X b) σ G (fun v G' => ∃ r, RetIs X.K G v G' r ∧ k r) := fun σ G R =>
  (h σ G R).mono fun v G1 ⟨e1, x, ix, q1⟩ => (q1 σ G1 (R.mono e1)).mono fun w G2 ⟨e2, y, iy, q2⟩ => hf G2 v w x y (ix.mono e2) iy q2 _ fun z G' r i kr => ⟨r, i.back (e1.trans e2), kr⟩
theorem op_or {f : Value → Value → Sem Value} {r1 r2 : R2} (h1 : OpR X f r1) (h2 : OpR X f r2) : OpR X f (fun v w H Q => r1 v w H Q ∨ r2 v w H Q) := fun pins s σ H x y v u Q I rx ry h =>
  h.elim (h1 pins s σ H x y v u Q I rx ry) (h2 pins s σ H x y v u Q I rx ry)
theorem sh_ret {K : PySem.W.Frag} {G : Hp} {v : V} {d : D} (i : Is K G v d) : RetIs K G v G (.sh d) := ⟨Same.refl _, i⟩
theorem wu_add (h : We X H0 a δ (fun x => We X H0 b δ (fun y => binD .add x y k))) : Wu X H0 (.BinOp a .Add b pos) δ k := fun σ G R => toE (pe_op (op_or (op_or (op_or op_add op_catR) op_catA) op_add_str) pe_sem pe_sem) (twoU h (fun G v w x y iv iw h Q q => by
  unfold binD at h
  split at h
  · cases iv; cases iw; exact .inl (.inl (.inl ⟨_, _, rfl, rfl, q _ _ _ (sh_ret (.int _)) h⟩))
  · obtain ⟨hl, hk⟩ := h
    obtain ⟨l, us, rfl, r1, l1⟩ := iv.lst_inv
    obtain ⟨l', ws, rfl, r2, l2⟩ := iw.lst_inv
    exact .inl (.inl (.inr ⟨l, l', us, ws, rfl, rfl, r1, r2, Nat.le_trans (by rw [l1.1, l2.1]; exact hl) (by decide), fun t ht => q _ _ (.ow (.lst _)) (NewIs.lst ht (l1.app l2)) hk⟩))
  · obtain ⟨hl, hk⟩ := h
    obtain ⟨l, us, rfl, r1, l1⟩ := iv.tup_inv
    obtain ⟨l', ws, rfl, r2, l2⟩ := iw.tup_inv
    refine .inl (.inr ⟨l, l', us, ws, rfl, rfl, r1, r2, Nat.le_trans (by rw [l1.1, l2.1]; exact hl) (by decide), fun z => ?_, fun _ z => ?_, fun _ _ t ht => ?_⟩)
    · have e : us = [] := z
      subst e
      have hx := List.length_eq_zero_iff.mp (l1.1.symm.trans rfl)
      exact q _ _ _ (sh_ret (by rw [hx, List.nil_append]; exact iw)) hk
    · have e : ws = [] := z
      subst e
      have hy := List.length_eq_zero_iff.mp (l2.1.symm.trans rfl)
      exact q _ _ _ (sh_ret (by rw [hy, List.append_nil]; exact iv)) hk
    · exact q _ _ (.sh _) ⟨Ex.new ht, .mkT (.inl (.inl upd_same)) ((l1.app l2).mono (Ex.new ht))⟩ hk
  · cases iv; cases iw; exact .inr ⟨_, _, rfl, rfl, by rw [sizeLine_eq]; exact h.1, q _ _ _ (sh_ret (.str _)) h.2⟩
  all_goals (first | (rename_i z; cases z; done) | exact h.elim | contradiction)) σ G R)
theorem wu_sub (h : We X H0 a δ (fun x => We X H0 b δ (fun y => binD .sub x y k))) : Wu X H0 (.BinOp a .Sub b pos) δ k := wu_we (we_sub (h.mono fun x hx => hx.mono fun y hy => by
  unfold binD at hy
  split at hy
  any_goals (first | exact hy.elim | contradiction)
  exact i2 hy))
theorem wu_mul (h : We X H0 a δ (fun x => We X H0 b δ (fun y => binD .mul x y k))) : Wu X H0 (.BinOp a .Mult b pos) δ k := wu_we (we_mul (h.mono fun x hx => hx.mono fun y hy => by
  unfold binD at hy
  split at hy
  any_goals (first | exact hy.elim | contradiction)
  exact i2 hy))
theorem wu_mod (h : We X H0 a δ (fun x => We X H0 b δ (fun y => binD .mod x y k))) : Wu X H0 (.BinOp a .Mod b pos) δ k := wu_we (we_mod (h.mono fun x hx => hx.mono fun y hy => by
  unfold binD at hy
  split at hy
  any_goals (first | exact hy.elim | contradiction)
  exact i2 hy))
theorem wu_pow (h : We X H0 a δ (fun x => We X H0 b δ (fun y => binD .pow x y k))) : Wu X H0 (.BinOp a .Pow b pos) δ k := wu_we (we_pow (h.mono fun x hx => hx.mono fun y hy => by
  unfold binD at hy
  split at hy
  any_goals (first | exact hy.elim | contradiction)
  exact i2 hy))
theorem wu_div (h : We X H0 a δ (fun x => We X H0 b δ (fun y => binD .div x y k))) : Wu X H0 (.BinOp a .FloorDiv b pos) δ k := fun σ G R => toE (pe_op (op_or op_fdivW op_fdivX) pe_sem pe_sem) (twoU h (fun G v w x y iv iw h Q q => by
  unfold binD at h
  split at h
  any_goals (first | exact h.elim | contradiction)
  cases iv; cases iw
  rcases h with ⟨h1, h2⟩ | ⟨h1, h2⟩
  · exact .inl ⟨_, _, rfl, rfl, h1, q _ _ _ (sh_ret (.int _)) h2⟩
  · exact .inr ⟨_, _, rfl, rfl, h1, q _ _ _ (sh_ret (.int _)) h2⟩) σ G R)
theorem wu_rep (h : Wu X H0 a δ (fun x => We X H0 b δ (fun y => repD x y k))) : Wu X H0 (.BinOp a .Mult b pos) δ k := fun σ G R => toE (pe_op op_rep pe_sem pe_sem) ((h σ G R).mono fun v G1 ⟨r, N, q1⟩ => (q1 σ G1 (R.mono N.ex.1)).mono fun w G2 ⟨e2, y, iy, hy⟩ => by
  have hy : repD r y k := hy
  unfold repD at hy
  split at hy
  any_goals (first | exact hy.elim | contradiction)
  obtain ⟨⟨n1, n2, hl⟩, hk⟩ := hy
  cases iy
  have e1 := N.ex.1
  obtain ⟨l, ⟨p, us, rfl, rfl, hp, il⟩, fr, ee, nd⟩ := N
  have iG := IsL.mono (cut_ex.trans e2) il
  exact ⟨p, _, us, rfl, rfl, e2 _ _ hp, by omega, by omega, by rw [il.1]; exact Nat.le_trans hl (by decide), fun t ht => ⟨.ow (.lst _), (NewIs.lst ht (iG.rep _)).back (e1.trans e2), hk⟩⟩)
theorem wu_neg (h : We X H0 a δ (fun x => negD x k)) : Wu X H0 (.UnaryOp .USub a pos) δ k := wu_we (we_neg (h.mono fun x hx => by
  cases x <;> first | exact i1 hx | exact hx.elim))
theorem wu_not (h : We X H0 a δ (fun x => notD x k)) : Wu X H0 (.UnaryOp .Not a pos) δ k := wu_we (we_not (h.mono fun x hx => by
  cases x <;> first | exact b1 hx | exact hx.elim))
/-! comparisons -/
theorem eqD_sem {x y : D} {kb : Bool → Prop} {G : Hp} {v w : V} (iv : Is X.K G v x) (iw : Is X.K G w y) (h : eqD x y kb) :
    (scal v w = true ∧ kb (decide (v = w))) ∨ ∃ p q, Pd x p ∧ Pd y q ∧ SeqAt.shaped p = true ∧ SeqAt.shaped q = true ∧ kb (PyData.eqv p q) := by
  unfold eqD at h
  split at h
  · cases iv; cases iw; exact .inl ⟨rfl, by simp only [V.int.injEq]; exact h⟩
  · cases iv; cases iw; exact .inl ⟨rfl, by simp only [V.bl.injEq]; exact h⟩
  · cases iv; cases iw; exact .inl ⟨rfl, by simp only [V.str.injEq]; exact h⟩
  · obtain ⟨⟨h1, h2⟩, h3⟩ := h
    obtain ⟨p, q, a1, a2, a3, a4, a5⟩ := eqP h1 h2 h3
    exact .inr ⟨p, q, a1, a2, a3, a4, a5⟩
theorem wu_eq (hu : X.A.units + 64 < cLine) (h : We X H0 a δ (fun x => We X H0 b δ (fun y => eqD x y fun r => k (.sh (.bl r))))) : Wu X H0 (.Compare a [.Eq] [b] pos) δ k := fun σ G R => toE (pe_cmpR (op_or op_eq (op_eqD hu)) pe_sem pe_sem (nomark _)) (twoU h (fun G v w x y iv iw h Q q => by
  rcases eqD_sem iv iw h with ⟨h1, h2⟩ | ⟨p, p', a1, a2, a3, a4, a5⟩
  · exact .inl ⟨h1, q _ _ _ (sh_ret (.bl _)) h2⟩
  · exact .inr ⟨p, p', a1.dp iv, a2.dp iw, a3, a4, q _ _ _ (sh_ret (.bl _)) a5⟩) σ G R)
theorem wu_ne (hu : X.A.units + 64 < cLine) (h : We X H0 a δ (fun x => We X H0 b δ (fun y => eqD x y fun r => k (.sh (.bl (!r)))))) : Wu X H0 (.Compare a [.NotEq] [b] pos) δ k := fun σ G R => toE (pe_cmpR (op_or op_ne (op_neD hu)) pe_sem pe_sem (nomark _)) (twoU h (fun G v w x y iv iw h Q q => by
  rcases eqD_sem iv iw h with ⟨h1, h2⟩ | ⟨p, p', a1, a2, a3, a4, a5⟩
  · exact .inl ⟨h1, q _ _ _ (sh_ret (.bl _)) h2⟩
  · exact .inr ⟨p, p', a1.dp iv, a2.dp iw, a3, a4, q _ _ _ (sh_ret (.bl _)) a5⟩) σ G R)
/-- a test of a value that is a bool -/
def tk (y n : Prop) (b : Bool) : Prop := (b = true → y) ∧ (b = false → n)
theorem eqT_D {x y : D} {p n : Prop} (h : eqT x y p n) : eqD x y (tk p n) := by
  unfold eqT at h
  split at h
  · exact ⟨fun e => h.1 (of_decide_eq_true e), fun e => h.2 (of_decide_eq_false e)⟩
  · exact ⟨fun e => h.1 (of_decide_eq_true e), fun e => h.2 (of_decide_eq_false e)⟩
  · exact ⟨fun e => h.1 (of_decide_eq_true e), fun e => h.2 (of_decide_eq_false e)⟩
  · rename_i n1 n2 n3
    obtain ⟨h1, h2, h3⟩ := h
    unfold eqD
    split
    · exact (n1 _ _ rfl rfl).elim
    · exact (n2 _ _ rfl rfl).elim
    · exact (n3 _ _ rfl rfl).elim
    · exact ⟨h1, fun b hb => ⟨fun e => h2 (hb.mp e), fun e => h3 fun z => by rw [hb.mpr z] at e; cases e⟩⟩
theorem eqD_mono {x y : D} {k k' : Bool → Prop} (h : eqD x y k) (m : ∀ b, k b → k' b) : eqD x y k' := by
  unfold eqD at h ⊢
  split at h
  · exact m _ h
  · exact m _ h
  · exact m _ h
  · exact ⟨h.1, fun b hb => m b (h.2 b hb)⟩
theorem inK_mono {x : D} {kds : List (Key × D)} {k k' : Bool → Prop} (h : inK x kds k) (m : ∀ b, k b → k' b) : inK x kds k' := by
  unfold inK at h ⊢
  split at h
  · exact m _ h
  · exact h
theorem cmpT_B {o : Cop} {x y : D} {p n : Prop} (h : cmpT o x y p n) : cmpB o x y (tk p n) := by
  unfold cmpT at h
  split at h
  · exact eqT_D h
  · exact eqD_mono (eqT_D h) fun b q => ⟨fun e => q.2 (by simpa using e), fun e => q.1 (by simpa using e)⟩
  · exact ⟨fun e => h.1 (of_decide_eq_true e), fun e => h.2 (of_decide_eq_false e)⟩
  · exact ⟨fun e => h.1 (of_decide_eq_true e), fun e => h.2 (of_decide_eq_false e)⟩
  · exact ⟨fun e => h.1 (of_decide_eq_true e), fun e => h.2 (of_decide_eq_false e)⟩
  · exact ⟨fun e => h.1 (of_decide_eq_true e), fun e => h.2 (of_decide_eq_false e)⟩
  · split at h
    · rename_i e; show tk _ _ (isNon _); rw [e]; exact ⟨fun _ => h, fun z => nomatch z⟩
    · rename_i e; show tk _ _ (isNon _); rw [e]; exact ⟨fun z => (nomatch z), fun _ => h⟩
  · split at h
    · rename_i e; show tk _ _ (!isNon _); rw [e]; exact ⟨fun z => (nomatch z), fun _ => h⟩
    · rename_i e; show tk _ _ (!isNon _); rw [e]; exact ⟨fun _ => h, fun z => nomatch z⟩
  · exact ⟨fun e => h.1 (of_decide_eq_true e), fun e => h.2 (of_decide_eq_false e)⟩
  · exact ⟨fun e => h.2 (fun z => (by rw [decide_eq_true z] at e; cases e)), fun e => h.1 (by simpa using e)⟩
  · exact ⟨h.1, fun b hb => ⟨fun e => h.2.1 (hb.mp e), fun e => h.2.2 fun z => by rw [hb.mpr z] at e; cases e⟩⟩
  · exact ⟨h.1, fun b hb => ⟨fun e => h.2.2 fun z => (by rw [hb.mpr z] at e; cases e), fun e => h.2.1 (hb.mp (by simpa using e))⟩⟩
  · exact h
  · exact ⟨fun e => h.2 (by simpa using e), fun e => h.1 (by simpa using e)⟩
  · exact inK_mono h fun b q => q
  · exact inK_mono (k' := fun b => tk p n (!b)) h fun b q => ⟨fun e => q.2 (by simpa using e), fun e => q.1 (by simpa using e)⟩
  · exact ⟨h.1, fun _ => h.2, fun z => nomatch z⟩
  · exact ⟨h.1, fun z => (nomatch z), fun _ => h.2⟩
  · exact h.elim
theorem wtD_eq {kt : Bool → Prop} (hu : X.A.units + 64 < cLine) (h : We X H0 a δ (fun x => We X H0 b δ (fun y => eqD x y kt))) : Wt X H0 (.Compare a [.Eq] [b] pos) δ kt := fun σ G R => toT (pt_cmpR (op_or op_eq (op_eqD hu)) pe_sem pe_sem (nomark _)) (twoT h (fun G v w x y iv iw h Q qq => by
  rcases eqD_sem iv iw h with ⟨h1, h2⟩ | ⟨p, p', a1, a2, a3, a4, a5⟩
  · exact .inl ⟨h1, qq _ h2⟩
  · exact .inr ⟨p, p', a1.dp iv, a2.dp iw, a3, a4, qq _ a5⟩) σ G R)
theorem wtD_ne {kt : Bool → Prop} (hu : X.A.units + 64 < cLine) (h : We X H0 a δ (fun x => We X H0 b δ (fun y => eqD x y fun r => kt (!r)))) : Wt X H0 (.Compare a [.NotEq] [b] pos) δ kt := fun σ G R => toT (pt_cmpR (op_or op_ne (op_neD hu)) pe_sem pe_sem (nomark _)) (twoT h (fun G v w x y iv iw h Q qq => by
  rcases eqD_sem iv iw h with ⟨h1, h2⟩ | ⟨p, p', a1, a2, a3, a4, a5⟩
  · exact .inl ⟨h1, qq _ h2⟩
  · exact .inr ⟨p, p', a1.dp iv, a2.dp iw, a3, a4, qq _ a5⟩) σ G R)
theorem truT_TR {d : D} {y n : Prop} (h : truT d y n) : TR d (tk y n) := by
  unfold truT at h
  split at h
  · exact tr rfl h
  · refine tr (r := _ != 0) rfl ⟨fun e => h.1 (by simpa using e), fun e => h.2 (by simpa using e)⟩
  · refine tr (r := !List.isEmpty _) rfl ⟨fun e => h.1 (by simpa using e), fun e => h.2 (by simpa using e)⟩
  · exact tr rfl ⟨fun z => (nomatch z), fun _ => h⟩
  · exact h.elim
theorem wtD_tru {y n : Prop} (h : Wu X H0 e δ (fun r => truT r.d y n)) (he : ∀ whole, isTrue e X.env whole = (do let v ← whole; standAt e.pos; holding [v] (truthy v))) : Wt X H0 e δ (tk y n) := wt_tru ((we_wu h).mono fun d hd => truT_TR hd) he
/-! and, or of values -/
theorem wu_one {op} (h : Wu X H0 a δ k) : Wu X H0 (.BoolOp op [a] pos) δ k := fun σ G R => toE (pe_one pe_sem) (h σ G R)
theorem wu_and (h : Wu X H0 a δ (fun r => blK r.d (Wu X H0 (.BoolOp .And (b :: es) pos) δ k) (k (.sh (.bl false))))) : Wu X H0 (.BoolOp .And (a :: b :: es) pos) δ k := fun σ G R => toE (pe_and pe_sem pe_sem) ((we_wu (k := fun d => blK d _ _) h σ G R).mono fun v G1 ⟨e1, d, i, hd⟩ => by
  have hd : blK d _ _ := hd
  cases d with
  | bl r =>
    cases i
    refine ⟨r, rfl, ?_⟩
    cases r with
    | true =>
      show semE X _ σ G1 _
      exact (hd.1 rfl σ G1 (R.mono e1)).mono fun _ _ ⟨r, i, q⟩ => ⟨r, i.back e1, q⟩
    | false => exact ⟨.sh _, ⟨e1, .bl false⟩, hd.2 rfl⟩
  | _ => exact hd.elim)
theorem wu_or (h : Wu X H0 a δ (fun r => blK r.d (k (.sh (.bl true))) (Wu X H0 (.BoolOp .Or (b :: es) pos) δ k))) : Wu X H0 (.BoolOp .Or (a :: b :: es) pos) δ k := fun σ G R => toE (pe_or pe_sem pe_sem) ((we_wu (k := fun d => blK d _ _) h σ G R).mono fun v G1 ⟨e1, d, i, hd⟩ => by
  have hd : blK d _ _ := hd
  cases d with
  | bl r =>
    cases i
    refine ⟨r, rfl, ?_⟩
    cases r with
    | false =>
      show semE X _ σ G1 _
      exact (hd.2 rfl σ G1 (R.mono e1)).mono fun _ _ ⟨r, i, q⟩ => ⟨r, i.back e1, q⟩
    | true => exact ⟨.sh _, ⟨e1, .bl true⟩, hd.1 rfl⟩
  | _ => exact hd.elim)
theorem wu_if {y n : Prop} (h : Wt X H0 c δ (tk y n)) (ha : y → Wu X H0 a δ k) (hb : n → Wu X H0 b δ k) : Wu X H0 (.IfExp c a b pos) δ k := fun σ G R => toE (pe_ifExp pt_sem pe_sem pe_sem) ((h σ G R).mono fun r G1 ⟨e1, h1, h2⟩ => by
  cases r with
  | true =>
    show semE X _ σ G1 _
    exact (ha (h1 rfl) σ G1 (R.mono e1)).mono fun _ _ ⟨r, i, q⟩ => ⟨r, i.back e1, q⟩
  | false =>
    show semE X _ σ G1 _
    exact (hb (h2 rfl) σ G1 (R.mono e1)).mono fun _ _ ⟨r, i, q⟩ => ⟨r, i.back e1, q⟩)
/-! subscripts -/
theorem wu_ix {k : D → Prop} (h : We X H0 a δ (fun x => We X H0 b δ (fun y => ixD x y k))) (hs : PlainIx b) : We X H0 (.Subscript a b pos) δ k := fun σ G R => toE (pe_ix ix_seq pe_sem pe_sem hs) (two h (fun G v w x y iv iw h Q q => by
  cases x with
  | sq l ds =>
    cases y with
    | int i =>
      obtain ⟨d, he, hk⟩ := h
      cases iw
      cases l with
      | true =>
        obtain ⟨p, xs, rfl, hq, hl⟩ := iv.lst_inv
        obtain ⟨z, hz, iz⟩ := hl.atI he
        exact .inl ⟨p, xs, i, z, rfl, rfl, .inl hq, hz, q _ G _ (Same.refl _) iz hk⟩
      | false =>
        obtain ⟨p, xs, rfl, hq, hl⟩ := iv.tup_inv
        obtain ⟨z, hz, iz⟩ := hl.atI he
        exact .inr (.inl ⟨p, xs, i, z, rfl, rfl, hq, hz, q _ G _ (Same.refl _) iz hk⟩)
    | _ => exact h.elim
  | scr ns =>
    cases y with
    | int i =>
      obtain ⟨n, he, hk⟩ := h
      cases iw
      obtain ⟨p, rfl, hq⟩ := iv.scr_inv
      refine .inl ⟨p, _, i, .int n, rfl, rfl, hq, ?_, q _ G _ (Same.refl _) (.int _) hk⟩
      unfold L2.atI at he ⊢
      rw [List.length_map]
      cases e : ixN ns.length i with
      | none => rw [e] at he; cases he
      | some j =>
        rw [e] at he
        show (ns.map V.int)[j]? = some (.int n)
        rw [List.getElem?_map, show ns[j]? = some n from he] <;> rfl
    | _ => exact h.elim
  | str z =>
    cases y with
    | int i =>
      obtain ⟨c, ⟨hz, he⟩, hk⟩ := h
      cases iv; cases iw
      exact .inr (.inr ⟨z, i, c, rfl, rfl, by rw [sizeLine_eq]; exact hz, he, q _ G _ (Same.refl _) (.str _) hk⟩)
    | _ => exact h.elim
  | _ => exact h.elim) σ G R)
end
end DL
set_option Elab.async false
set_option linter.all false
set_option maxRecDepth 100000
set_option maxHeartbeats 4000000
/-! The deep machine, part q: fields, slices, in, is of bools. -/
namespace DL
open PySem PySem.Spec PyProof.Rows L2
section
variable {X : Cx} {H0 : Hp} {δ : List S} {a b c e : Expr} {es : List Expr} {k : S → Prop} {pos : Pos}
def notCall : Expr → Bool
  | .Call .. => false
  | _ => true
theorem attr_plain {f : Str} {env : Env} {w : Sem Value} (h : notCall e = true) : attributeBase e f env w = w := by cases e <;> first | rfl | cases h
theorem fldD_inv {x : D} {f : Str} {k : D → Prop} (h : fldD x f k) : ∃ C gs d, x = .ins C gs ∧ gs.lookup f = some d ∧ k d := by
  unfold fldD at h
  split at h
  · split at h
    · rename_i hl
      exact ⟨_, _, _, rfl, hl, h⟩
    · exact h.elim
  · exact h.elim
theorem wu_fld {f : Str} (h : We X H0 a δ (fun x => fldD x f fun d => k (.sh d))) (hn : notCall a = true) : Wu X H0 (.Attribute a f pos) δ k := fun σ G R => toE (pe_fld pe_sem (attr_plain hn)) ((h σ G R).mono fun v G1 ⟨e1, d, iv, hd⟩ => by
  have hd : fldD d f (fun d => k (.sh d)) := hd
  obtain ⟨C, gs, d', rfl, hl, hd⟩ := fldD_inv hd
  cases iv with
  | ins c hH hk hf =>
    obtain ⟨v, hv, i⟩ := IsF.lookup ⟨hk, hf⟩ hl
    refine ⟨_, _, _, _, v, rfl, hH, c.cls, c.no f ?_, hv, .sh _, ⟨e1, i⟩, hd⟩
    obtain ⟨l1, l2, e2, _⟩ := List.lookup_eq_some_iff.mp hl
    rw [e2]
    simp)
/-! slices -/
def tlO (X : Cx) : Option Expr → TO
  | none => tNoPart
  | some e => tPart (semE X e)
theorem po_tl : ∀ {o : Option Expr}, PO X o (tlO X o)
  | none => po_none
  | some e => po_some pe_sem
def Po (X : Cx) (H0 : Hp) (o : Option Expr) (δ : List S) (k : Option Int → Prop) : Prop := ∀ σ G, RelS X.K H0 σ G δ → tlO X o σ G fun o G' => Ex G G' ∧ k o
theorem po_no {k : Option Int → Prop} (h : k none) : Po X H0 none δ k := fun σ G R => ⟨Same.refl _, h⟩
theorem po_e {k : Option Int → Prop} (h : We X H0 e δ fun d => ∃ i, d = .int i ∧ k (some i)) : Po X H0 (some e) δ k := fun σ G R => (h σ G R).mono fun v G1 ⟨e1, d, iv, i, ed, q⟩ => by
  subst ed
  exact ⟨i, iv.int_inv, e1, q⟩
theorem tlO_mono {o : Option Expr} {σ : L2.St} {H : Hp} {Q Q' : Option Int → Hp → Prop} (h : tlO X o σ H Q) (m : ∀ u H', Q u H' → Q' u H') : tlO X o σ H Q' := by
  cases o with
  | none => exact m _ _ h
  | some e => exact semE.mono h fun v H' ⟨i, ei, q⟩ => ⟨i, ei, m _ _ q⟩
theorem IsL.cut {K : PySem.W.Frag} {G : Hp} {xs : List V} {ds : List D} (h : IsL K G xs ds) (lo hi : Option Int) : IsL K G (cutV xs lo hi) (cutD ds lo hi) := by
  unfold cutV cutD
  rw [h.1]
  refine ⟨by rw [List.length_take, List.length_take, List.length_drop, List.length_drop, h.1], fun i x d e1 e2 => ?_⟩
  rw [List.getElem?_take] at e1 e2
  split at e1
  · rename_i hl
    rw [if_pos hl] at e2
    rw [List.getElem?_drop] at e1 e2
    exact h.2 _ x d e1 e2
  · cases e1
theorem cutD_all {ds : List D} {lo hi : Option Int} (h1 : HT.sIx ds.length 0 lo = 0) (h2 : HT.sIx ds.length ds.length hi = ds.length) : cutD ds lo hi = ds := by
  unfold cutD
  rw [h1, h2]
  simp
theorem slcD_inv {x : D} {lo hi : Option Int} {k : S → Prop} (h : slcD x lo hi k) : (∃ ds, (x = .sq true ds ∧ k (.ow (.lst (cutD ds lo hi)))) ∨ (x = .sq false ds ∧ k (.sh (.sq false (cutD ds lo hi))))) ∨ ∃ z, x = .str z ∧ z.length ≤ 16777216 ∧ k (.sh (.str (Txt.slice z lo hi))) := by
  unfold slcD at h
  split at h
  · exact .inl ⟨_, .inl ⟨rfl, h⟩⟩
  · exact .inl ⟨_, .inr ⟨rfl, h⟩⟩
  · exact .inr ⟨_, rfl, h⟩
  · exact h.elim
theorem wu_slc {lo hi : Option Expr} {p2 : Pos} (h : We X H0 a δ (fun x => Po X H0 lo δ fun l => Po X H0 hi δ fun u => slcD x l u k)) : Wu X H0 (.Subscript a (.Slice lo hi none p2) pos) δ k := fun σ G R =>
  toE (pe_slice (SlR.or (SlR.or sl_list sl_tupA) C8.sl_txt) pe_sem po_tl po_tl) ((h σ G R).mono fun v G1 ⟨e1, d, iv, hd⟩ => tlO_mono (hd σ G1 (R.mono e1)) fun l G2 ⟨e2, hd⟩ => tlO_mono (hd σ G2 ((R.mono e1).mono e2)) fun u G3 ⟨e3, hd⟩ => by
    have iv := (iv.mono e2).mono e3
    have e4 := (e1.trans e2).trans e3
    obtain ⟨ds, ⟨rfl, hd⟩ | ⟨rfl, hd⟩⟩ | ⟨z, rfl, hz, hd⟩ := slcD_inv hd
    · obtain ⟨p, xs, rfl, hq, hl⟩ := iv.lst_inv
      exact .inl (.inl ⟨p, xs, rfl, .inl hq, fun q hq => ⟨.ow (.lst _), (NewIs.lst hq (hl.cut _ _)).back e4, hd⟩⟩)
    · obtain ⟨p, xs, rfl, hq, hl⟩ := iv.tup_inv
      refine .inl (.inr ⟨p, xs, rfl, hq, fun hw => ⟨.sh (.sq false (cutD ds l u)), ⟨e4, ?_⟩, hd⟩, fun hw q hn => ⟨.sh (.sq false (cutD ds l u)), ⟨e4.trans (Ex.new hn), ?_⟩, hd⟩⟩)
      · rw [cutD_all (by rw [← hl.1]; exact hw.1) (by rw [← hl.1]; exact hw.2)]; exact iv
      · exact .mkT (.inl (.inl upd_same)) ((hl.cut _ _).mono (Ex.new hn))
    · cases iv
      exact .inr ⟨z, rfl, by rw [sizeLine_eq]; exact hz, .sh (.str _), ⟨e4, .str _⟩, hd⟩)
/-! in -/
theorem flat_ints {ds : List D} {xs : List V} {K : PySem.W.Frag} {G : Hp} (h : IsL K G xs ds) (f : ds.all isIntD = true) : ∃ ns : List Int, ds = ns.map .int ∧ xs = ns.map .int := by
  induction ds generalizing xs with
  | nil => exact ⟨[], rfl, h.inv_nil⟩
  | cons d ds ih =>
    obtain ⟨x, r, rfl, h1, h2⟩ := h.inv_cons
    rw [List.all_cons, Bool.and_eq_true] at f
    obtain ⟨ns, rfl, rfl⟩ := ih h2 f.2
    cases d with
    | int i => exact ⟨i :: ns, rfl, by rw [h1.int_inv]; rfl⟩
    | _ => exact absurd f.1 (by simp [isIntD])
theorem flat_strs {ds : List D} {xs : List V} {K : PySem.W.Frag} {G : Hp} (h : IsL K G xs ds) (f : ds.all isStrD = true) : ∃ ns : List Str, ds = ns.map .str ∧ xs = ns.map .str := by
  induction ds generalizing xs with
  | nil => exact ⟨[], rfl, h.inv_nil⟩
  | cons d ds ih =>
    obtain ⟨x, r, rfl, h1, h2⟩ := h.inv_cons
    rw [List.all_cons, Bool.and_eq_true] at f
    obtain ⟨ns, rfl, rfl⟩ := ih h2 f.2
    cases d with
    | str i => cases h1; exact ⟨i :: ns, rfl, rfl⟩
    | _ => exact absurd f.1 (by simp [isStrD])
theorem flat_bls {ds : List D} {xs : List V} {K : PySem.W.Frag} {G : Hp} (h : IsL K G xs ds) (f : ds.all isBlD = true) : ∃ ns : List Bool, ds = ns.map .bl ∧ xs = ns.map .bl := by
  induction ds generalizing xs with
  | nil => exact ⟨[], rfl, h.inv_nil⟩
  | cons d ds ih =>
    obtain ⟨x, r, rfl, h1, h2⟩ := h.inv_cons
    rw [List.all_cons, Bool.and_eq_true] at f
    obtain ⟨ns, rfl, rfl⟩ := ih h2 f.2
    cases d with
    | bl i => cases h1; exact ⟨i :: ns, rfl, rfl⟩
    | _ => exact absurd f.1 (by simp [isBlD])
theorem in_sem {K : PySem.W.Frag} {G : Hp} {v : V} {d : D} {xs : List V} {ds : List D} (iv : Is K G v d) (h : IsL K G xs ds) (f : kin d ds = true) : flatV v = true ∧ xs.all flatV = true ∧ (inV v xs = true ↔ d ∈ ds) := by
  cases d with
  | int i =>
    obtain ⟨ns, rfl, rfl⟩ := flat_ints h f
    cases iv
    refine ⟨rfl, by simp [flatV], ?_⟩
    unfold inV
    rw [List.any_map, List.any_eq_true, List.mem_map]
    constructor
    · rintro ⟨n, hn, q⟩
      refine ⟨n, hn, ?_⟩
      have : (n == i) = true := q
      rw [eq_of_beq this]
    · rintro ⟨n, hn, q⟩
      cases q
      exact ⟨_, hn, beq_self_eq_true _⟩
  | str i =>
    obtain ⟨ns, rfl, rfl⟩ := flat_strs h f
    cases iv
    refine ⟨rfl, by simp [flatV], ?_⟩
    unfold inV
    rw [List.any_map, List.any_eq_true, List.mem_map]
    constructor
    · rintro ⟨n, hn, q⟩
      refine ⟨n, hn, ?_⟩
      have : (n == i) = true := q
      rw [eq_of_beq this]
    · rintro ⟨n, hn, q⟩
      cases q
      exact ⟨_, hn, beq_self_eq_true _⟩
  | bl i =>
    obtain ⟨ns, rfl, rfl⟩ := flat_bls h f
    cases iv
    refine ⟨rfl, by simp [flatV], ?_⟩
    unfold inV
    rw [List.any_map, List.any_eq_true, List.mem_map]
    constructor
    · rintro ⟨n, hn, q⟩
      refine ⟨n, hn, ?_⟩
      have : (n == i) = true := q
      rw [eq_of_beq this]
    · rintro ⟨n, hn, q⟩
      cases q
      exact ⟨_, hn, beq_self_eq_true _⟩
  | _ => cases f
/-- y in a dict of ints and texts -/
def rInDic (neg : Bool) : R2 := fun x y H Q => ∃ a kvs κ, y = .ref a ∧ Rd H a (.dK kvs) ∧ x = kV κ ∧ Q (.bl (neg != (valV kvs κ).isSome)) H
theorem op_in_dic : OpR X (compareOp .In) (rInDic false) := fun pins s σ H x y v u Q I rx ry ⟨a, kvs, κ, e1, e2, e3, q⟩ => by
  subst e1 e3
  obtain rfl : u = Value.ref a := ry
  obtain ⟨z, hd, vs, rel, dd⟩ := dk_rd I.hok e2
  refine wpAny_in_of (kV_is rx) hd dd.mapOf ?_
  rw [← (rel.val κ).isSome_eq]
  have q : Q (.bl ((valV kvs κ).isSome)) H := by rw [Bool.false_bne] at q; exact q
  exact ⟨.bl _, H, I.tok _, rfl, q⟩
theorem op_notin_dic : OpR X (compareOp .NotIn) (rInDic true) := fun pins s σ H x y v u Q I rx ry ⟨a, kvs, κ, e1, e2, e3, q⟩ => by
  subst e1 e3
  obtain rfl : u = Value.ref a := ry
  obtain ⟨z, hd, vs, rel, dd⟩ := dk_rd I.hok e2
  refine wpAny_notIn_of (kV_is rx) hd dd.mapOf ?_
  rw [← (rel.val κ).isSome_eq]
  have q : Q (.bl (!(valV kvs κ).isSome)) H := by rw [Bool.true_bne] at q; exact q
  exact ⟨.bl _, H, I.tok _, rfl, q⟩
theorem hasK_val {K : PySem.W.Frag} {G : Hp} {kvs : List (Key × V)} {kds : List (Key × D)} (h : IsK K G kvs kds) (κ : Key) : (valV kvs κ).isSome = hasK kds κ := by
  rw [← valV_any]
  have e : ∀ {β : Type} (l : List (Key × β)), (l.any fun p => decide (p.1 = κ)) = (l.map (·.1)).any fun a => decide (a = κ) := fun l => by rw [List.any_map]; rfl
  unfold hasK
  rw [e, e, h.1]
theorem inK_sem {K : PySem.W.Frag} {G : Hp} {v w : V} {x : D} {kds : List (Key × D)} {kb : Bool → Prop} (iv : Is K G v x) (iw : Is K G w (.dic kds)) (h : inK x kds kb) : ∃ a kvs κ, w = .ref a ∧ Rd G a (.dK kvs) ∧ v = kV κ ∧ kb ((valV kvs κ).isSome) := by
  obtain ⟨a, kvs, rfl, hr, hk⟩ := iw.dic_inv
  unfold inK at h
  split at h
  · rename_i κ e
    refine ⟨a, kvs, κ, rfl, hr, ?_, by rw [hasK_val hk]; exact h⟩
    unfold keyD at e
    split at e
    · cases e; cases iv; rfl
    · cases e; cases iv; rfl
    · cases e
  · exact h.elim
theorem cmpB_inn {x y : D} {kb : Bool → Prop} (h : cmpB .inn x y kb) : (∃ l ds, y = .sq l ds ∧ kin x ds = true ∧ ∀ b : Bool, (b = true ↔ x ∈ ds) → kb b) ∨ (∃ c s, x = .str c ∧ y = .str s ∧ kb (inS c s)) ∨ ∃ kds, y = .dic kds ∧ inK x kds kb := by
  unfold cmpB at h
  split at h
  any_goals (first | exact h.elim | contradiction)
  · exact .inl ⟨_, _, rfl, h⟩
  · exact .inr (.inl ⟨_, _, rfl, rfl, h⟩)
  · exact .inr (.inr ⟨_, rfl, h⟩)
theorem cmpB_nin {x y : D} {kb : Bool → Prop} (h : cmpB .nin x y kb) : (∃ l ds, y = .sq l ds ∧ kin x ds = true ∧ ∀ b : Bool, (b = true ↔ x ∈ ds) → kb (!b)) ∨ (∃ c s, x = .str c ∧ y = .str s ∧ kb (!inS c s)) ∨ ∃ kds, y = .dic kds ∧ inK x kds fun b => kb (!b) := by
  unfold cmpB at h
  split at h
  any_goals (first | exact h.elim | contradiction)
  · exact .inl ⟨_, _, rfl, h⟩
  · exact .inr (.inl ⟨_, _, rfl, rfl, h⟩)
  · exact .inr (.inr ⟨_, rfl, h⟩)
theorem wu_in (hm : behindInMarks .In b = false) (h : We X H0 a δ (fun x => We X H0 b δ (fun y => cmpB .inn x y fun r => k (.sh (.bl r))))) : Wu X H0 (.Compare a [.In] [b] pos) δ k := fun σ G R => toE (pe_cmpR (op_or (op_or op_in_seq op_in_str) op_in_dic) pe_sem pe_sem hm) (twoU h (fun G v w x y iv iw h Q q => by
  obtain ⟨l, ds, rfl, f, h2⟩ | ⟨c, z, rfl, rfl, h2⟩ | ⟨kds, rfl, h2⟩ := cmpB_inn h
  rotate_left
  · cases iv; cases iw
    exact .inl (.inr ⟨c, z, rfl, rfl, q _ _ _ (sh_ret (.bl _)) h2⟩)
  · obtain ⟨a, kvs, κ, e1, e2, e3, h3⟩ := inK_sem iv iw h2
    exact .inr ⟨a, kvs, κ, e1, e2, e3, by rw [Bool.false_bne]; exact q _ _ _ (sh_ret (.bl _)) h3⟩
  cases l with
  | true =>
    obtain ⟨p, xs, rfl, hq, hl⟩ := iw.lst_inv
    obtain ⟨f1, f2, f3⟩ := in_sem iv hl f
    exact .inl (.inl ⟨p, xs, rfl, .inl (.inl hq), f1, f2, q _ _ _ (sh_ret (.bl _)) (h2 _ f3)⟩)
  | false =>
    obtain ⟨p, xs, rfl, hq, hl⟩ := iw.tup_inv
    obtain ⟨f1, f2, f3⟩ := in_sem iv hl f
    exact .inl (.inl ⟨p, xs, rfl, .inr hq, f1, f2, q _ _ _ (sh_ret (.bl _)) (h2 _ f3)⟩)) σ G R)
theorem wu_nin (hm : behindInMarks .NotIn b = false) (h : We X H0 a δ (fun x => We X H0 b δ (fun y => cmpB .nin x y fun r => k (.sh (.bl r))))) : Wu X H0 (.Compare a [.NotIn] [b] pos) δ k := fun σ G R => toE (pe_cmpR (op_or (op_or op_notIn_seq op_notin_str) op_notin_dic) pe_sem pe_sem hm) (twoU h (fun G v w x y iv iw h Q q => by
  obtain ⟨l, ds, rfl, f, h2⟩ | ⟨c, z, rfl, rfl, h2⟩ | ⟨kds, rfl, h2⟩ := cmpB_nin h
  rotate_left
  · cases iv; cases iw
    exact .inl (.inr ⟨c, z, rfl, rfl, q _ _ _ (sh_ret (.bl _)) h2⟩)
  · obtain ⟨a, kvs, κ, e1, e2, e3, h3⟩ := inK_sem iv iw h2
    exact .inr ⟨a, kvs, κ, e1, e2, e3, by rw [Bool.true_bne]; exact q _ _ _ (sh_ret (.bl _)) h3⟩
  cases l with
  | true =>
    obtain ⟨p, xs, rfl, hq, hl⟩ := iw.lst_inv
    obtain ⟨f1, f2, f3⟩ := in_sem iv hl f
    exact .inl (.inl ⟨p, xs, rfl, .inl (.inl hq), f1, f2, q _ _ _ (sh_ret (.bl _)) (h2 _ f3)⟩)
  | false =>
    obtain ⟨p, xs, rfl, hq, hl⟩ := iw.tup_inv
    obtain ⟨f1, f2, f3⟩ := in_sem iv hl f
    exact .inl (.inl ⟨p, xs, rfl, .inr hq, f1, f2, q _ _ _ (sh_ret (.bl _)) (h2 _ f3)⟩)) σ G R)
theorem wtD_in {kt : Bool → Prop} (hm : behindInMarks .In b = false) (h : We X H0 a δ (fun x => We X H0 b δ (fun y => cmpB .inn x y kt))) : Wt X H0 (.Compare a [.In] [b] pos) δ kt := fun σ G R => toT (pt_cmpR (op_or (op_or op_in_seq op_in_str) op_in_dic) pe_sem pe_sem hm) (twoT h (fun G v w x y iv iw h Q q => by
  obtain ⟨l, ds, rfl, f, h2⟩ | ⟨c, z, rfl, rfl, h2⟩ | ⟨kds, rfl, h2⟩ := cmpB_inn h
  rotate_left
  · cases iv; cases iw
    exact .inl (.inr ⟨c, z, rfl, rfl, q _ h2⟩)
  · obtain ⟨a, kvs, κ, e1, e2, e3, h3⟩ := inK_sem iv iw h2
    exact .inr ⟨a, kvs, κ, e1, e2, e3, by rw [Bool.false_bne]; exact q _ h3⟩
  cases l with
  | true =>
    obtain ⟨p, xs, rfl, hq, hl⟩ := iw.lst_inv
    obtain ⟨f1, f2, f3⟩ := in_sem iv hl f
    exact .inl (.inl ⟨p, xs, rfl, .inl (.inl hq), f1, f2, q _ (h2 _ f3)⟩)
  | false =>
    obtain ⟨p, xs, rfl, hq, hl⟩ := iw.tup_inv
    obtain ⟨f1, f2, f3⟩ := in_sem iv hl f
    exact .inl (.inl ⟨p, xs, rfl, .inr hq, f1, f2, q _ (h2 _ f3)⟩)) σ G R)
theorem wtD_nin {kt : Bool → Prop} (hm : behindInMarks .NotIn b = false) (h : We X H0 a δ (fun x => We X H0 b δ (fun y => cmpB .nin x y kt))) : Wt X H0 (.Compare a [.NotIn] [b] pos) δ kt := fun σ G R => toT (pt_cmpR (op_or (op_or op_notIn_seq op_notin_str) op_notin_dic) pe_sem pe_sem hm) (twoT h (fun G v w x y iv iw h Q q => by
  obtain ⟨l, ds, rfl, f, h2⟩ | ⟨c, z, rfl, rfl, h2⟩ | ⟨kds, rfl, h2⟩ := cmpB_nin h
  rotate_left
  · cases iv; cases iw
    exact .inl (.inr ⟨c, z, rfl, rfl, q _ h2⟩)
  · obtain ⟨a, kvs, κ, e1, e2, e3, h3⟩ := inK_sem iv iw h2
    exact .inr ⟨a, kvs, κ, e1, e2, e3, by rw [Bool.true_bne]; exact q _ h3⟩
  cases l with
  | true =>
    obtain ⟨p, xs, rfl, hq, hl⟩ := iw.lst_inv
    obtain ⟨f1, f2, f3⟩ := in_sem iv hl f
    exact .inl (.inl ⟨p, xs, rfl, .inl (.inl hq), f1, f2, q _ (h2 _ f3)⟩)
  | false =>
    obtain ⟨p, xs, rfl, hq, hl⟩ := iw.tup_inv
    obtain ⟨f1, f2, f3⟩ := in_sem iv hl f
    exact .inl (.inl ⟨p, xs, rfl, .inr hq, f1, f2, q _ (h2 _ f3)⟩)) σ G R)
theorem wu_is (h : We X H0 a δ (fun x => We X H0 b δ (fun y => cmpB .is x y fun r => k (.sh (.bl r))))) : Wu X H0 (.Compare a [.Is] [b] pos) δ k := fun σ G R => toE (pe_cmpR (op_or op_isN op_isBl) pe_sem pe_sem (nomark _)) (twoU h (fun G v w x y iv iw h Q q => by
  unfold cmpB at h
  split at h
  any_goals (first | exact h.elim | contradiction)
  · cases iw
    exact .inl ⟨rfl, by rw [isNon_is iv]; exact q _ _ _ (sh_ret (.bl _)) h⟩
  · cases iv; cases iw
    exact .inr ⟨_, _, rfl, rfl, q _ _ _ (sh_ret (.bl _)) h⟩) σ G R)
theorem wu_isnot (h : We X H0 a δ (fun x => We X H0 b δ (fun y => cmpB .isnot x y fun r => k (.sh (.bl r))))) : Wu X H0 (.Compare a [.IsNot] [b] pos) δ k := fun σ G R => toE (pe_cmpR (op_or op_notN op_notBl) pe_sem pe_sem (nomark _)) (twoU h (fun G v w x y iv iw h Q q => by
  unfold cmpB at h
  split at h
  any_goals (first | exact h.elim | contradiction)
  · cases iw
    exact .inl ⟨rfl, by rw [isNon_is iv]; exact q _ _ _ (sh_ret (.bl _)) h⟩
  · cases iv; cases iw
    exact .inr ⟨_, _, rfl, rfl, q _ _ _ (sh_ret (.bl _)) h⟩) σ G R)
theorem wtD_is {kt : Bool → Prop} (h : We X H0 a δ (fun x => We X H0 b δ (fun y => cmpB .is x y kt))) : Wt X H0 (.Compare a [.Is] [b] pos) δ kt := fun σ G R => toT (pt_cmpR (op_or op_isN op_isBl) pe_sem pe_sem (nomark _)) (twoT h (fun G v w x y iv iw h Q q => by
  unfold cmpB at h
  split at h
  any_goals (first | exact h.elim | contradiction)
  · cases iw
    exact .inl ⟨rfl, by rw [isNon_is iv]; exact q _ h⟩
  · cases iv; cases iw
    exact .inr ⟨_, _, rfl, rfl, q _ h⟩) σ G R)
theorem wtD_isnot {kt : Bool → Prop} (h : We X H0 a δ (fun x => We X H0 b δ (fun y => cmpB .isnot x y kt))) : Wt X H0 (.Compare a [.IsNot] [b] pos) δ kt := fun σ G R => toT (pt_cmpR (op_or op_notN op_notBl) pe_sem pe_sem (nomark _)) (twoT h (fun G v w x y iv iw h Q q => by
  unfold cmpB at h
  split at h
  any_goals (first | exact h.elim | contradiction)
  · cases iw
    exact .inl ⟨rfl, by rw [isNon_is iv]; exact q _ h⟩
  · cases iv; cases iw
    exact .inr ⟨_, _, rfl, rfl, q _ h⟩) σ G R)
def copB : Cop → CmpOp → Bool
  | .eq, .Eq => true | .ne, .NotEq => true | .lt, .Lt => true | .le, .LtE => true | .gt, .Gt => true | .ge, .GtE => true | .is, .Is => true | .isnot, .IsNot => true | .inn, .In => true | .nin, .NotIn => true | .eqi, .Eq => true | .nei, .NotEq => true
  | _, _ => false
theorem eqi_EQ {x y : D} {P : Bool → Prop} (h : (plC 60 x = true ∧ y = x) ∧ P true) : EQ x y P := by
  obtain ⟨⟨h1, rfl⟩, h2⟩ := h
  exact eqPC h1 h2
theorem wu_cmp (hu : X.A.units + 64 < cLine) {o : Cop} {op : CmpOp} (ho : copB o op = true) (hm : ∀ op, behindInMarks op b = false) (h : We X H0 a δ (fun x => We X H0 b δ (fun y => cmpB o x y fun r => k (.sh (.bl r))))) : Wu X H0 (.Compare a [op] [b] pos) δ k := by
  unfold copB at ho
  split at ho
  · exact wu_eq hu h
  · exact wu_ne hu h
  · exact wu_we (we_lt (h.mono fun x hx => hx.mono fun y hy => by
      unfold cmpB at hy
      split at hy
      any_goals (first | exact hy.elim | contradiction)
      exact i2 hy))
  · exact wu_we (we_le (h.mono fun x hx => hx.mono fun y hy => by
      unfold cmpB at hy
      split at hy
      any_goals (first | exact hy.elim | contradiction)
      exact i2 hy))
  · exact wu_we (we_gt (h.mono fun x hx => hx.mono fun y hy => by
      unfold cmpB at hy
      split at hy
      any_goals (first | exact hy.elim | contradiction)
      exact i2 hy))
  · exact wu_we (we_ge (h.mono fun x hx => hx.mono fun y hy => by
      unfold cmpB at hy
      split at hy
      any_goals (first | exact hy.elim | contradiction)
      exact i2 hy))
  · exact wu_is h
  · exact wu_isnot h
  · exact wu_in (hm _) h
  · exact wu_nin (hm _) h
  · exact wu_we (we_eqD hu (h.mono fun x hx => hx.mono fun y hy => eqi_EQ (P := fun r => k (.sh (.bl r))) hy))
  · exact wu_we (we_neD hu (h.mono fun x hx => hx.mono fun y hy => eqi_EQ (P := fun r => k (.sh (.bl (!r)))) hy))
  · cases ho
theorem wtD_cmp (hu : X.A.units + 64 < cLine) {o : Cop} {op : CmpOp} {kt : Bool → Prop} (ho : copB o op = true) (hm : ∀ op, behindInMarks op b = false) (h : We X H0 a δ (fun x => We X H0 b δ (fun y => cmpB o x y kt))) : Wt X H0 (.Compare a [op] [b] pos) δ kt := by
  unfold copB at ho
  split at ho
  · exact wtD_eq hu h
  · exact wtD_ne hu h
  · exact wt_lt (h.mono fun x hx => hx.mono fun y hy => by
      unfold cmpB at hy
      split at hy
      any_goals (first | exact hy.elim | contradiction)
      exact i2 hy)
  · exact wt_le (h.mono fun x hx => hx.mono fun y hy => by
      unfold cmpB at hy
      split at hy
      any_goals (first | exact hy.elim | contradiction)
      exact i2 hy)
  · exact wt_gt (h.mono fun x hx => hx.mono fun y hy => by
      unfold cmpB at hy
      split at hy
      any_goals (first | exact hy.elim | contradiction)
      exact i2 hy)
  · exact wt_ge (h.mono fun x hx => hx.mono fun y hy => by
      unfold cmpB at hy
      split at hy
      any_goals (first | exact hy.elim | contradiction)
      exact i2 hy)
  · exact wtD_is h
  · exact wtD_isnot h
  · exact wtD_in (hm _) h
  · exact wtD_nin (hm _) h
  · exact wt_eqD hu (h.mono fun x hx => hx.mono fun y hy => eqi_EQ (P := kt) hy)
  · exact wt_neD hu (h.mono fun x hx => hx.mono fun y hy => eqi_EQ (P := fun r => kt (!r)) hy)
  · cases ho
end
end DL
set_option Elab.async false
set_option linter.all false
set_option maxRecDepth 100000
set_option maxHeartbeats 4000000
/-! The deep machine, part h: len and == of an own class. -/
namespace DL
open PySem PySem.Spec PyProof.Rows L2
section
variable {X : Cx} {CX : CXT} {k : Nat} {f C : Addr} {fd : FuncData} {ps : List Str} {sp : Sp} {E : XK}
theorem env_in1 {P : Program} {w : World} {K : PySem.W.Frag} {mg : Str → Option Value} {base : Heap} {A : Around} {outer : List Env} {s : Shared} {H : Hp} (e : Env0 P w K mg base A outer s H) : Env0 P w K mg base A.in1 outer s H :=
  ⟨e.frames, e.mod, e.bs, e.bsz, e.funs, e.frf, e.hok, e.bare⟩
theorem run_in1 {pins : List (Addr × Obj)} {σ : L2.St} {H : Hp} {s : Shared} {Q : VK} {us : List Value} {vs : List V} (F : FnOk X.prog X.w X.K X.mg X.base CX k f fd ps sp) (hr : Room (k + 1) X.A) (hb : Binds X.K fd ps []) (hx : Passes CX X E)
    (I : Inv X pins σ H s) (r : Vals vs us) (h : sp vs H Q E) : wpAny (model X.prog X.w) X.A.in1 (call (.ref f) us) (EP X pins σ Q) X.xe s := by
  have hl : (us ++ []).length = ps.length := by rw [List.append_nil, ← r.length]; exact F.len _ _ _ _ h
  have hb' := hb s us I.kIn hl
  rw [List.append_nil] at hb'
  refine wpAny_call (codeAny_mono (F.run X.A.in1 X.stack s H ⟨us, []⟩ us vs Q E hr.in1 (env_in1 I.env0) hb' r h) fun r s' hq => ?_)
  cases r with
  | error e => exact hx pins σ H s e s' I hq
  | ok fl =>
    cases fl with
    | ret u => exact I.after hq
    | next => exact False.elim hq
    | brk => exact False.elim hq
    | cont => exact False.elim hq
/-- a method's place: as the model looks for it -/
structure Mt (K : PySem.W.Frag) (C : Addr) (m : Str) (f : Addr) : Prop where
  at_ : PySem.W.findIn K (.ref C) m = some (some (.ref f))
  fn : PySem.W.isFn K (.ref f) = true
theorem special_own {pins : List (Addr × Obj)} {σ : L2.St} {H : Hp} {s : Shared} {a dx : Addr} {fs : List (Str × V)} {m : Str} {args : List Value} {A : Around} {E : Value → Shared → Prop} {Q : Option Value → Shared → Prop} (I : Inv X pins σ H s) (e : H a = some (.ins C dx fs)) (t : Mt X.K C m f)
    (hc : wpAny (model X.prog X.w) A (call (.ref f) (.ref a :: args)) (fun v s' => Q (some v) s') E s) : wpAny (model X.prog X.w) A (callSpecial? (.ref a) m args) Q E s := by
  obtain ⟨mA, O, _⟩ := ins_get I.hok e
  obtain ⟨od, J, _⟩ := O.look
  unfold callSpecial? specialOf
  refine wpAny_bind (wpAny_bind (J.type.here ((PySem.W.looks_findIn I.kIn t.at_).here ?_)))
  refine wpAny_holding ?_
  refine wpAny_bind ((PySem.W.bind_fn I.kIn _ (beq_iff_eq.mp t.fn)).here ?_)
  exact wpAny_bind (wpAny_mono hc (fun v s' z => wpAny_pure z) fun _ _ z => z)
/-- len(x) of an own class -/
theorem call_lenM (t : Mt X.K C "__len__" f) (F : FnOk X.prog X.w X.K X.mg X.base CX k f fd ps sp) (hr : Room (k + 2) X.A) (hb : Binds X.K fd ps []) (hx : Passes CX X E) :
    CallR X (.builtin "len") (fun xs H Q => ∃ a dx fs, xs = [.ref a] ∧ H a = some (.ins C dx fs) ∧ sp [.ref a] H (fun v H2 => ∃ n : Int, v = .int n ∧ 0 ≤ n ∧ n < 2 ^ 63 ∧ Q (.int n) H2) E) := by
  intro pins s σ H xs us Q I r h
  obtain ⟨a, dx, fs, rfl, ha, q⟩ := h
  obtain ⟨u, rfl, ru⟩ := vals1 r
  obtain rfl : u = Value.ref a := ru
  refine Calls.call_function_entry kind_len plain_len entry_len (args_len1 _) ?_
  unfold Builtin.«len»
  refine wpAny_bind (m := oneArg "len" _) (wpAny_pure ?_)
  refine wpAny_bind (m := callSpecial? (.ref a) (PySem.Str.ofString "__len__")) (special_own I ha t (wpAny_mono (run_in1 (us := [Value.ref a]) (vs := [V.ref a]) F (hr.mono (Nat.le_succ _)) hb hx I (.cons rfl .nil) q) (fun v s' z => ?_) fun _ _ z => z))
  obtain ⟨v', H', I', rv, n, rfl, n0, n1, q'⟩ := z
  obtain ⟨tk, rfl⟩ := rv
  refine wpAny_bind (wpAny_holding (wpAny_pure ?_))
  refine wpAny_bind (wpAny_letGo ?_)
  show wpAny _ _ (if n < 0 then _ else _) _ _ _
  rw [if_neg (by omega)]
  show wpAny _ _ (if n ≥ 2 ^ 63 then _ else _) _ _ _
  rw [if_neg (by omega)]
  exact wpAny_bind (wpAny_mkInt (wpAny_pure ⟨_, rfl, .int n, H', I'.tok _, ⟨_, rfl⟩, q'⟩))
theorem bound_own {pins : List (Addr × Obj)} {σ : L2.St} {H : Hp} {s : Shared} {a dx : Addr} {fs : List (Str × V)} {m : Str} {args : List Value} {A : Around} {E : Value → Shared → Prop} {Q : Option Value → Shared → Prop} (I : Inv X pins σ H s) (e : H a = some (.ins C dx fs)) (t : Mt X.K C m f)
    (hc : wpAny (model X.prog X.w) A (call (.ref f) (.ref a :: args)) (fun v s' => Q (some v) s') E s) : wpAny (model X.prog X.w) A (callSpecialIfBound? (.ref a) m args) Q E s := by
  obtain ⟨mA, O, _⟩ := ins_get I.hok e
  obtain ⟨od, J, _⟩ := O.look
  simp only [callSpecialIfBound?, bindSpecialIfBound?]
  refine wpAny_holding (wpAny_bind (wpAny_bind (wpAny_bind (J.type.here ((PySem.W.looks_findIn I.kIn t.at_).here ?_)))))
  refine wpAny_bind (wpAny_askSetting (wpAny_ite ?_))
  have fin : wpAny (model X.prog X.w) A (call (.ref f) ([.ref a] ++ args) >>= fun v => pure (some v)) Q E s := wpAny_bind (wpAny_mono hc (fun v s' h' => wpAny_pure h') fun _ _ h' => h')
  split
  · exact wpAny_bind ((PySem.W.bind_fn I.kIn _ (beq_iff_eq.mp t.fn)).here (wpAny_pure (by exact fin)))
  · exact wpAny_tryCatch (wpAny_bind ((PySem.W.bind_fn I.kIn _ (beq_iff_eq.mp t.fn)).here (wpAny_pure (by exact fin))))
/-- x == y of an own class with its own __eq__ -/
theorem op_eqM (hu : X.A.units < cLine) (t : Mt X.K C "__eq__" f) (F : FnOk X.prog X.w X.K X.mg X.base CX k f fd ps sp) (hr : Room (k + 1) X.A) (hb : Binds X.K fd ps []) (hx : Passes CX X E) :
    OpR X (compareOp .Eq) (fun x y H Q => ∃ a b dx dy fs gs, x = .ref a ∧ y = .ref b ∧ H a = some (.ins C dx fs) ∧ H b = some (.ins C dy gs) ∧ sp [.ref a, .ref b] H (fun v H2 => ∃ r : Bool, v = .bl r ∧ Q (.bl r) H2) E) := by
  intro pins s σ H x y v u Q I rx ry h
  obtain ⟨a, b, dx, dy, fs, gs, rfl, rfl, ha, hb2, q⟩ := h
  cases rx
  cases ry
  show wpAny _ _ (richCompare .Eq (.ref a) (.ref b)) _ _ _
  obtain ⟨mA, O, _⟩ := ins_get I.hok ha
  obtain ⟨od, J, _⟩ := O.look
  obtain ⟨mB, O2, _⟩ := ins_get I.hok hb2
  obtain ⟨od2, J2, _⟩ := O2.look
  have one : wpAny (model X.prog X.w) X.A (tryCompare (.ref a) "__eq__" (.ref b)) (fun r s' => ∃ v H' c, r = some v ∧ v = .bool c ∧ Inv X pins σ H' s' ∧ Q (.bl c) H') X.xe s := by
    unfold tryCompare
    refine wpAny_bind (bound_own I ha t (wpAny_mono (run_fn (us := [Value.ref a, Value.ref b]) (vs := [V.ref a, V.ref b]) F (hr.mono (Nat.le_succ _)) hb .nil hx I (.cons rfl (.cons rfl .nil)) q) (fun v s' z => ?_) fun _ _ z => z))
    obtain ⟨v', H', I', rv, c, rfl, q'⟩ := z
    cases rv
    exact wpAny_pure ⟨_, H', c, rfl, rfl, I', q'⟩
  simp only [richCompare, cmpInfo_Eq, oneThing_ref]
  refine wpAny_holding (wpAny_bind (wpAny_cRoomFor hu ?_))
  refine wpAny_bind (J.type.here ?_)
  refine wpAny_bind (J2.type.here ?_)
  split
  · rename_i q
    exact absurd q (by simp)
  · refine wpAny_bind (wpAny_pure ?_)
    simp only [Bool.false_eq_true, if_false]
    refine wpAny_bind (m := tryCompare (.ref a) _ (.ref b)) (wpAny_mono one (fun r s1 z => ?_) fun _ _ e => e)
    obtain ⟨v, H', c, rfl, rfl, I', q'⟩ := z
    exact wpAny_pure ⟨.bl c, H', I', rfl, q'⟩
end
end DL
set_option Elab.async false
set_option linter.all false
set_option maxRecDepth 100000
set_option maxHeartbeats 4000000
/-! The deep machine, part k: classes that are called; what a name that is called stands for. -/
namespace DL
open PySem PySem.Spec PyProof.Rows L2
/-- a class that is known: T, what its call promises -/
structure Mf (P : Program) (w : World) (K : PySem.W.Frag) (mg : Str → Option Value) (base : Heap) (lvl : Nat) (x : Str) (T : DSp) : Prop where
  ex : ∃ (C f : Addr) (fd : FuncData) (ps : List Str) (sp : Sp) (ds : List Value) (dvs : List V), Mk K C f ∧ FnOk P w K mg base (L2N.CX P w) lvl f fd ps sp ∧ mg x = some (.ref C) ∧ Binds K fd ps ds ∧ Vals dvs ds ∧
    ∀ (H : Hp) (vs : List V) (as : List D) (kk : S → Prop) (xx : XD), IsL K H vs as → T as kk xx → ∀ (Q : VK) (E : XK), (∀ a H2 r, RetIs K H (.ref a) H2 r → kk r → Q (.ref a) H2) → (∀ c d H' fs, Ex H H' → ExcIs K H' d fs → xx c fs → E c d H') →
      ∀ a dx, H a = none → H dx = none → dx ≠ a → sp (.ref a :: (vs ++ dvs)) (upd (upd H dx (.own a)) a (.ins C dx [])) (fun v H2 => v = .non ∧ Q (.ref a) H2) E
section
variable {X : Cx} {CX : CXT} {k : Nat} {f C : Addr} {fd : FuncData} {ps : List Str} {sp : Sp} {dvs : List V} {ds : List Value} {E : L2.St → XK} {x : Str} {p pos : Pos} {e : Expr} {es : List Expr} {t : TA}
/-- a class is called; exceptions by the caller's names -/
theorem pe_makeSD (M : Mk X.K C f) (F : FnOk X.prog X.w X.K X.mg X.base CX k f fd ps sp) (hr : Room (k + 1) X.A) (hg : Gl X x) (hm : X.mg x = some (.ref C)) (hb : Binds X.K fd ps ds) (hd : Vals dvs ds) (hx : ∀ σ, PassesAt CX X σ (E σ))
    (ha : PA X (e :: es) t) (hdb : (x == ("__debug__" : Str)) = false) (he : starEach (e :: es) X.env = (false, eval e X.env) :: starEach es X.env) (hpl : (backTo pos (starEach es X.env)).any (·.1) = false) :
    PE X (.Call (.Name x p) (e :: es) [] pos) (fun σ H Q => t σ H fun vs H1 => ∀ x dx, H1 x = none → H1 dx = none → dx ≠ x → sp (.ref x :: (vs ++ dvs)) (upd (upd H1 dx (.own x)) x (.ins C dx [])) (fun v H2 => v = .non ∧ Q (.ref x) H2) (E σ)) := by
  refine ⟨fun pins s σ H Q I h => ?_⟩
  refine wpAny_Call_Name_kw (ld_glob I hg hm ?_ hdb)
  refine PySem.W.callWith_K (h₀ := X.base) I.ok.mod.kin M.kp (thn (ha.run pos pins s σ H _ I h) fun us s1 ⟨vs, H1, I1, r, q⟩ => ⟨I1.kIn, ?_⟩) he hpl
  have hq := q (s1.heap.objs.size + 1) s1.heap.objs.size (I1.hok.fresh (Nat.le_succ _)) (I1.hok.fresh (Nat.le_refl _)) (Nat.ne_of_lt (Nat.lt_succ_self _))
  have I2 := Inv.made (C := C) I1
  have r2 : Vals (V.ref (s1.heap.objs.size + 1) :: (vs ++ dvs)) (Value.ref (s1.heap.objs.size + 1) :: (us ++ ds)) := .cons rfl (r.append hd)
  have hl : (Value.ref (s1.heap.objs.size + 1) :: us ++ ds).length = ps.length := by
    have e := r2.length
    rw [F.len _ _ _ _ hq] at e
    exact e.symm
  refine wpAny_call (make_map (f := f) I1.kIn M.makes M.init (beq_iff_eq.mp M.fn) (codeAny_mono (F.run _ X.stack _ _ ⟨Value.ref (s1.heap.objs.size + 1) :: us, []⟩ (Value.ref (s1.heap.objs.size + 1) :: (us ++ ds)) _ _ (E σ) (hr.make C us [])
    (I2.env0.make C us []) (hb _ (Value.ref (s1.heap.objs.size + 1) :: us) I2.kIn hl) r2 hq) fun z s' hq' => ?_))
  cases z with
  | error e => exact hx σ pins _ _ e s' I2 hq'
  | ok fl =>
    cases fl with
    | ret u =>
      obtain ⟨v, H', I3, rv, ev, q3⟩ := I2.after hq'
      subst ev
      exact ⟨rv, ⟨V.ref (s1.heap.objs.size + 1), H', I3, rfl, q3⟩⟩
    | next => exact False.elim hq'
    | brk => exact False.elim hq'
    | cont => exact False.elim hq'
end
/-- what a known thing is: a def, a class, a text, a class that is tested, a class's own len and == -/
inductive Kn (X : Cx) : Fk → DSp → Prop
  | fn {x : Str} {T : DSp} {lvl : Nat} {ps : List Str} {T0 : DSp} {dds : List D} : Fn X.prog X.w X.K X.mg X.base lvl x ps T0 dds → Room lvl X.A → (∀ as k x, T as k x → T0 (as ++ dds) k x) → Kn X ⟨x, .fn⟩ T
  | mk {x : Str} {T : DSp} {lvl : Nat} : Mf X.prog X.w X.K X.mg X.base lvl x T → Room (lvl + 1) X.A → Kn X ⟨x, .fn⟩ T
  | con {x z : Str} {T : DSp} : (∃ t, X.mg x = some (.str z t)) → (∀ k xx, T [] k xx → k (.sh (.str z))) → Kn X ⟨x, .con⟩ T
  | isc {x : Str} {T : DSp} {C0 : Addr} : X.mg x = some (.ref C0) → (∀ G v d k xx, Is X.K G v d → T [d] k xx → ∃ t b, TyX X.K G v t ∧ PySem.W.kitOne X.K t (.ref C0) = some b ∧ k (.sh (.bl b))) → Kn X ⟨x, .isc⟩ T
  | len {T T0 : DSp} {C f : Addr} {fd : FuncData} {ps : List Str} {lvl : Nat} : Mt X.K C "__len__" f → FnOk X.prog X.w X.K X.mg X.base (L2N.CX X.prog X.w) lvl f fd ps (spD X.K T0) → Room (lvl + 2) X.A → Binds X.K fd ps [] →
      (∀ ds k xx, T ds k xx → ∃ gs, ds = [.ins C gs] ∧ T0 ds (fun r => ∃ n : Int, r = .sh (.int n) ∧ 0 ≤ n ∧ n < 2 ^ 63 ∧ k r) fun _ _ => False) → Kn X ⟨"len", .len⟩ T
  | eq {T T0 : DSp} {C f : Addr} {fd : FuncData} {ps : List Str} {lvl : Nat} : Mt X.K C "__eq__" f → FnOk X.prog X.w X.K X.mg X.base (L2N.CX X.prog X.w) lvl f fd ps (spD X.K T0) → Room (lvl + 2) X.A → Binds X.K fd ps [] →
      (∀ ds k xx, T ds k xx → ∃ gs gs', ds = [.ins C gs, .ins C gs'] ∧ T0 ds (fun r => ∃ b : Bool, r = .sh (.bl b) ∧ k r) fun _ _ => False) → Kn X ⟨"==", .eq⟩ T
  | exc {x f : Str} {T : DSp} {C : Addr} {lvl : Nat} : Exc1 X.prog X.w X.K X.mg X.base lvl x f C → Room (lvl + 1) X.A → (∀ d k xx, T [d] k xx → xx (.ref C) [(f, d)]) → Kn X ⟨x, .exc⟩ T
  | fn0 {x : Str} {T : DSp} {lvl : Nat} {ps : List Str} {T0 : DSp} {dds : List D} : Fn X.prog X.w X.K X.mg X.base lvl x ps T0 dds → Room lvl X.A → (∀ k x, T [] k x → T0 dds k x) → Kn X ⟨x, .fn0⟩ T
theorem Kn.blk {X : Cx} {x : Fk} {T : DSp} {sc : Scope} {s : Shared} {h : Hp} {C' : Addr} {cl : List (Str × Addr)} {fp : List Addr} (k : Kn X x T) : Kn (X.blk s h sc (compEnvC sc cl C' X.env) fp) x T := by
  cases k with
  | fn F r c => exact .fn F r c
  | mk M r => exact .mk M r
  | con a b => exact .con a b
  | isc a b => exact .isc a b
  | len a b c d e => exact .len a b c d e
  | eq a b c d e => exact .eq a b c d e
  | exc a b c => exact .exc a b c
  | fn0 a b c => exact .fn0 a b c
theorem pe_callSD0 {X : Cx} {CX : CXT} {k : Nat} {f : Addr} {fd : FuncData} {ps : List Str} {sp : Sp} {x : Str} {ds : List Value} {dvs : List V} {E : L2.St → Value → Option Addr → Hp → Prop} {p pos : Pos} (F : FnOk X.prog X.w X.K X.mg X.base CX k f fd ps sp) (hr : Room k X.A) (hg : Gl X x) (hm : X.mg x = some (.ref f)) (hk : PySem.W.keepIn X.K (.ref f) = true) (hb : Binds X.K fd ps ds) (hd : Vals dvs ds) (hx : ∀ σ, PassesAt CX X σ (E σ))
    (hdb : (x == ("__debug__" : Str)) = false) : PE X (.Call (.Name x p) [] [] pos) (tCallSD sp dvs E tNil) := by
  refine ⟨fun pins s σ H Q I h => ?_⟩
  refine wpAny_Call_Name_kw (ld_glob I hg hm ?_ hdb)
  exact PySem.W.callWith_K0 I.kIn hk (run_fnSD (us := []) F hr hb hd (hx σ) I .nil h)
section
variable {X : Cx} {H0 : Hp} {δ : List S} {x : Str} {a b e : Expr} {es : List Expr} {pos p p2 : Pos} {k : S → Prop} {T : DSp} {xw : List S → XD}
theorem kn_call (hk : Kn X ⟨x, .fn⟩ T) (hx : Xc X H0 xw) (g : Gl X x) (hdb : (x == ("__debug__" : Str)) = false) (hn : es ≠ []) (hs : es.all notStar = true)
    (h : Wa X H0 es δ (fun ds => T ds k (xw δ))) : Wu X H0 (.Call (.Name x p) es [] pos) δ k := by
  cases es with
  | nil => exact absurd rfl hn
  | cons e es =>
    rw [List.all_cons, Bool.and_eq_true] at hs
    cases hk with
    | fn F hr hTT =>
      intro σ G R
      obtain ⟨f, fd, ds, dvs, Fk, hm, hk, hb, hd, hdd⟩ := F.ex
      obtain ⟨W, tk, hW⟩ := hx.ex
      refine toE (pe_callSD Fk hr g hm hk hb hd (fun σ => L2N.passAt tk σ) pa_sem hdb (star_of hs.1) (star_any hs.2)) ((h σ G R).mono fun vs G1 ⟨e1, as, is, hT⟩ => ?_)
      exact ⟨_, _, _, is.app (hdd G1), hTT _ _ _ hT, fun v H' r hr' hk' => ⟨r, hr'.back e1, hk'⟩, fun c d H' fs e2 i q => hW σ H' δ c d fs ((R.mono e1).mono e2) i q⟩
    | mk M hr =>
      intro σ G R
      obtain ⟨C, f, fd, ps, sp, ds, dvs, M1, Fk, hm, hb, hd, hS⟩ := M.ex
      obtain ⟨W, tk, hW⟩ := hx.ex
      refine toE (pe_makeSD M1 Fk hr g hm hb hd (fun σ => L2N.passAt tk σ) pa_sem hdb (star_of hs.1) (star_any hs.2)) ((h σ G R).mono fun vs G1 ⟨e1, as, is, hT⟩ => ?_)
      exact fun a dx na nd ne => hS G1 vs as _ _ is hT (fun v G' => ∃ r, RetIs X.K G v G' r ∧ k r) (WE W σ) (fun a H2 r hr' hk' => ⟨r, hr'.back e1, hk'⟩) (fun c d H' fs e2 i q => hW σ H' δ c d fs ((R.mono e1).mono e2) i q) a dx na nd ne
theorem kn_call0 (hk : Kn X ⟨x, .fn0⟩ T) (hx : Xc X H0 xw) (g : Gl X x) (hdb : (x == ("__debug__" : Str)) = false) (h : T [] k (xw δ)) : Wu X H0 (.Call (.Name x p) [] [] pos) δ k := by
  cases hk with
  | fn0 F hr hTT =>
    intro σ G R
    obtain ⟨f, fd, ds, dvs, Fk, hm, hk, hb, hd, hdd⟩ := F.ex
    obtain ⟨W, tk, hW⟩ := hx.ex
    refine toE (pe_callSD0 Fk hr g hm hk hb hd (fun σ => L2N.passAt tk σ) hdb) ?_
    exact ⟨_, _, _, hdd G, hTT _ _ h, fun v H' r hr' hk' => ⟨r, hr', hk'⟩, fun c d H' fs e2 i q => hW σ H' δ c d fs (R.mono e2) i q⟩
theorem kn_con {xx : XD} (hk : Kn X ⟨x, .con⟩ T) (g : Gl X x) (hdb : (x == ("__debug__" : Str)) = false) (h : T [] k xx) : Wu X H0 (.Name x p) δ k := by
  cases hk with
  | con m q =>
    obtain ⟨t, hm⟩ := m
    exact fun σ G R => toE (pe_glob (v := .str _) g hm ⟨t, rfl⟩ hdb) ⟨.sh _, ⟨Same.refl _, .str _⟩, q _ _ h⟩
theorem kn_isc {xx : XD} (hk : Kn X ⟨x, .isc⟩ T) (hm : X.mg "isinstance" = none) (gi : Gl X "isinstance") (g : Gl X x) (hdb : (x == ("__debug__" : Str)) = false) (he : notStar e = true)
    (h : We X H0 e δ (fun d => T [d] k xx)) : Wu X H0 (.Call (.Name "isinstance" p) [e, .Name x p2] [] pos) δ k := by
  cases hk with
  | isc m q =>
    rename_i C0
    exact fun σ G R => toE (pe_callB call_isi gi hm (by decide +kernel) (pa_cons pe_sem (pa_cons (pe_glob (v := .ref C0) g m rfl hdb) pa_nil (star_of rfl)) (star_of he)) (by decide) (by decide) (star_of he) (star_any rfl)) ((h σ G R).mono fun v G1 ⟨e1, d, i, hT⟩ => by
      obtain ⟨t, b, h1, h2, h3⟩ := q _ _ _ _ _ i hT
      exact ⟨v, .ref C0, t, .ref C0, b, rfl, .own C0, h1, h2, .sh _, ⟨e1, .bl b⟩, h3⟩)
theorem kn_len {xx : XD} (hk : Kn X ⟨"len", .len⟩ T) (hc : X.calm = true) (hm : X.mg "len" = none) (g : Gl X "len") (he : notStar e = true) (h : We X H0 e δ (fun d => T [d] k xx)) : Wu X H0 (.Call (.Name "len" p) [e] [] pos) δ k := by
  cases hk with
  | len t F hr hb q =>
    exact fun σ G R => toE (pe_callB (call_lenM (E := fun _ _ _ => False) t F hr hb passN) g hm boot_len (pa_cons pe_sem pa_nil (star_of he)) (by decide) (by decide) (star_of he) (star_any rfl)) ((h σ G R).mono fun v G1 ⟨e1, d, i, hT⟩ => by
      obtain ⟨gs, ed, h3⟩ := q _ _ _ hT
      cases ed
      have i' := i
      cases i with
      | ins c hH hf hv => exact ⟨_, _, _, rfl, hH, [.ins _ gs], _, _, IsL.cons i' IsL.nil, h3, fun v H' r hr' ⟨n, er, n0, n1, hk⟩ => (by
          subst er
          have hi := hr'.ex.2
          cases hi
          exact ⟨n, rfl, n0, n1, .sh _, ⟨e1.trans hr'.ex.1, .int n⟩, hk⟩), fun _ _ _ _ _ _ z => z.elim⟩)
theorem kn_eq {xx : XD} (hk : Kn X ⟨"==", .eq⟩ T) (hu : X.A.units < cLine) (h : We X H0 a δ (fun x => We X H0 b δ (fun y => T [x, y] k xx))) : Wu X H0 (.Compare a [.Eq] [b] pos) δ k := by
  cases hk with
  | eq t F hr hb q =>
    exact fun σ G R => toE (pe_cmpR (op_eqM (E := fun _ _ _ => False) hu t F (hr.mono (Nat.le_succ _)) hb passN) pe_sem pe_sem (nomark _)) (twoU h (fun G v w x y iv iw hT Q hq => by
      obtain ⟨gs, gs', ed, h3⟩ := q _ _ _ hT
      cases ed
      have iv' := iv
      have iw' := iw
      cases iv with
      | ins c hH hf hv => cases iw with
        | ins c2 hH2 hf2 hv2 => exact ⟨_, _, _, _, _, _, rfl, rfl, hH, hH2, [.ins _ gs, .ins _ gs'], _, _, IsL.cons iv' (IsL.cons iw' IsL.nil), h3, fun v H' r hr' ⟨b, er, hk⟩ => (by
          subst er
          have hi := hr'.ex.2
          cases hi
          exact ⟨b, rfl, hq _ _ (.sh (.bl b)) ⟨hr'.ex.1, .bl b⟩ hk⟩), fun _ _ _ _ _ _ z => z.elim⟩) σ G R)
theorem twoT2 {f : V → V → Hp → VK → Prop} {kt : Bool → Prop} {P : D → D → Prop} (h : We X H0 a δ (fun x => We X H0 b δ (fun y => P x y))) (hf : ∀ G v w x y, Is X.K G v x → Is X.K G w y → P x y → ∀ Q : VK, (∀ z G', Ex G G' → kt z → Q (.bl z) G') → f v w G Q) :
    ∀ σ G, RelS X.K H0 σ G δ → tTest (tOp f (semE X a) (semE X b)) σ G (fun v G' => Ex G G' ∧ kt v) := fun σ G R =>
  (h σ G R).mono fun v G1 ⟨e1, x, ix, q1⟩ => (q1 σ G1 (R.mono e1)).mono fun w G2 ⟨e2, y, iy, q2⟩ => hf G2 v w x y (ix.mono e2) iy q2 _ fun z G' e3 kz => ⟨z, rfl, (e1.trans e2).trans e3, kz⟩
theorem kn_eqT {xx : XD} {y n : Prop} (hk : Kn X ⟨"==", .eq⟩ T) (hu : X.A.units < cLine) (h : We X H0 a δ (fun x => We X H0 b δ (fun z => T [x, z] (fun r => truT r.d y n) xx))) : Wt X H0 (.Compare a [.Eq] [b] pos) δ (tk y n) := by
  cases hk with
  | eq t F hr hb q =>
    exact fun σ G R => toT (pt_cmpR (op_eqM (E := fun _ _ _ => False) hu t F (hr.mono (Nat.le_succ _)) hb passN) pe_sem pe_sem (nomark _)) (twoT2 h (fun G v w x z iv iw hT Q hq => by
      obtain ⟨gs, gs', ed, h3⟩ := q _ _ _ hT
      cases ed
      have iv' := iv
      have iw' := iw
      cases iv with
      | ins c hH hf hv => cases iw with
        | ins c2 hH2 hf2 hv2 => exact ⟨_, _, _, _, _, _, rfl, rfl, hH, hH2, [.ins _ gs, .ins _ gs'], _, _, IsL.cons iv' (IsL.cons iw' IsL.nil), h3, fun v H' r hr' ⟨b, er, hk⟩ => (by
          subst er
          have hi := hr'.ex.2
          cases hi
          exact ⟨b, rfl, hq _ _ hr'.ex.1 hk⟩), fun _ _ _ _ _ _ z => z.elim⟩) σ G R)
end
end DL
set_option Elab.async false
set_option linter.all false
set_option maxRecDepth 100000
set_option maxHeartbeats 4000000
/-! The deep machine, part l: comprehensions with several names. -/
namespace DL
open PySem PySem.Spec PyProof.Rows L2
/-- a block's own names may stand in these slots -/
def blkBs (N : List Str) (s1 s2 : Scope) (own : List (Str × Nat)) : Bool := decide (s2.kind = .function) && (s2.names.all (fun y => decide (s2.names.lookup y.1 = some y.2)) && (own.all (fun p => decide (N[p.2]? = some p.1)) && (s2.names.all (fun y => decide (y.2 ≠ .free) || (decide (s1.names.lookup y.1 = some .cell) || decide (s1.names.lookup y.1 = some .free))) && s2.names.all (fun y => (decide (y.2 ≠ .local) && decide (y.2 ≠ .cell)) || (decide (y.1 ∈ own.map (·.1)) || decide (y.1 ∉ N))))))
theorem blkBs_ok {N : List Str} {s1 s2 : Scope} {own : List (Str × Nat)} (h : blkBs N s1 s2 own = true) : BlkOk N s1 s2 own := by
  simp only [blkBs, Bool.and_eq_true, List.all_eq_true, decide_eq_true_eq, Bool.or_eq_true] at h
  obtain ⟨h1, h2, h3, h4, h5⟩ := h
  refine ⟨h1, fun y hy => h2 y hy, fun p hp => h3 p hp, fun y hy e => ?_, fun y hy e => ?_⟩
  · rcases h4 y hy with z | z
    · exact absurd e z
    · exact z
  · rcases h5 y hy with ⟨z1, z2⟩ | z
    · rcases e with e | e
      · exact absurd e z1
      · exact absurd e z2
    · exact z
/-- the targets are the names at these slots -/
def nmsB (N : List Str) (sc : Scope) : List Nat → List Expr → Bool
  | [], es => es.isEmpty
  | i :: is, es => match es with
    | .Name x _ :: r => (decide (N[i]? = some x) && decide (sc.names.lookup x = some .local)) && nmsB N sc is r
    | _ => false
def nms : List Expr → List Str
  | .Name x _ :: r => x :: nms r
  | _ => []
theorem pgs_names {X : Cx} {N : List Str} {sc : Scope} (hN : X.N.Nodup) (e1 : X.N = N) (e2 : X.env.scope = sc) : ∀ {is : List Nat} {es : List Expr}, nmsB N sc is es = true → PGs X es (gNames is) ∧ (assignEach es X.env).length = is.length ∧ (assignEach es X.env).findIdx? (·.1) = none
  | [], es, h => by
    rw [nmsB, List.isEmpty_iff] at h
    subst h
    exact ⟨pgs_nil, rfl, rfl⟩
  | i :: is, es, h => by
    unfold nmsB at h
    split at h
    · obtain ⟨h1, h2⟩ := Bool.and_eq_true_iff.mp h
      obtain ⟨h3, h4⟩ := Bool.and_eq_true_iff.mp h1
      obtain ⟨a, b, c⟩ := pgs_names hN e1 e2 h2
      have hl := of_decide_eq_true h4
      rw [← e2] at hl
      refine ⟨pgs_cons (pg_name hN (by rw [e1]; exact of_decide_eq_true h3) (.inl hl) (.inr hl)) a rfl, ?_, ?_⟩
      · show (assignEach _ X.env).length + 1 = _
        rw [b]; rfl
      · show List.findIdx? _ ((false, _) :: assignEach _ X.env) = none
        rw [List.findIdx?_cons, c]; rfl
    · cases h
theorem setL_set {w : Nat} {s : S} : ∀ {is : List Nat} {ds : List D} {δ : List S}, w ∈ is → ds.length = is.length → setL is ds (δ.set w s) = setL is ds δ
  | [], _, _, h, _ => by cases h
  | i :: is, [], _, _, hl => by cases hl
  | i :: is, d :: ds, δ, h, hl => by
    show setL is ds ((δ.set w s).set i (.sh d)) = setL is ds (δ.set i (.sh d))
    by_cases e : w = i
    · subst e; rw [List.set_set]
    · rcases List.mem_cons.mp h with z | z
      · exact absurd z e
      · rw [List.set_comm _ _ e, setL_set z (Nat.succ.inj hl)]
theorem setL_wiped {is : List Nat} {ds : List D} {δ : List S} (hl : ds.length = is.length) : ∀ ws : List Nat, (∀ w ∈ ws, w ∈ is) → setL is ds (ws.foldr (fun w δ => δ.set w .no) δ) = setL is ds δ
  | [], _ => rfl
  | w :: ws, h => by
    show setL is ds ((ws.foldr (fun w δ => δ.set w .no) δ).set w .no) = _
    rw [setL_set (h w List.mem_cons_self) hl, setL_wiped hl ws fun v hv => h v (List.mem_cons_of_mem _ hv)]
section
variable {X : Cx} {H0 : Hp} {δ : List S} {elt it c : Expr} {sc : Scope} {pos p : Pos} {x : Str} {ko : Ow → Prop}
/-- a comprehension's name, also where an inner one reads it -/
theorem pgbC {v : Nat} (hN : X.N.Nodup) (hi : X.N[v]? = some x) (hl : ∀ cl C, (compEnvC sc cl C X.env).scope.names.lookup x = some .local ∨ ((compEnvC sc cl C X.env).scope.names.lookup x = some .cell ∧ sc.names.lookup x = some .cell)) : PGB X sc x p v := fun s H C cl fp => by
  rcases hl cl C with h | ⟨h1, h2⟩
  · exact pg_name hN hi (.inl h) (.inr h)
  · exact pg_name hN hi (.inr h1) (.inl (by show (sc.names.lookup x == some .cell) = true; rw [h2]; rfl))
theorem wo_lcC (v : Nat) (hN : X.N.Nodup) (h : Wi X H0 it δ (LC X sc H0 elt δ v fun es => ko (.lst es))) (hc : X.calm = true) (ok : blkB X.N X.env.scope sc x v = true) (hi : X.N[v]? = some x) (hl : ∀ cl C, (compEnvC sc cl C X.env).scope.names.lookup x = some .local ∨ ((compEnvC sc cl C X.env).scope.names.lookup x = some .cell ∧ sc.names.lookup x = some .cell))
    (hs : ∀ x, foldedSetIterable it X.env x = pure x) : Wo X H0 (.ListComp elt [⟨.Name x p, it, [], 0⟩] sc pos) δ ko := fun σ G R0 => by
  obtain ⟨wi, hpi, fri, hw⟩ := h
  refine toE (pe_lc hc hN (hpi _) (blkB_ok ok) (pgbC hN hi hl) (fun _ _ _ _ _ => pts_nil) pe_b hs) (fri_mono fri (hw σ G R0) fun J G1 ⟨e1, n, item, ⟨R, hl, hw, q⟩, g⟩ => ?_)
  refine lc_sem (X := X) (H0 := H0) (ps := []) (n := n) (wv := v) (item := item) (P := EachN R) (Q := fun v' G' => ∃ o, NewIs X.K G v' G' o ∧ ko o) fr_bE fr_yes (fun a ha => by cases ha) (by rw [cut_nil]; exact R0.mono e1) (by rw [cut_nil]; exact g) EachN.nil (turn_no hl hw) fun A G' as es N _ p => ?_
  rw [lcH_nil]
  rw [cut_nil] at N
  exact ⟨_, N.back e1, q es p⟩
theorem ws_setLcOC (i v : Nat) {y : Str} {py spos : Pos} {E : En} (hN : X.N.Nodup) (h : Wi X H0 it δ (LC X sc H0 elt δ v fun es => E.nx (δ.set i (.ow (.lst es))))) (hc : X.calm = true) (ok : blkB X.N X.env.scope sc x v = true) (hi : X.N[v]? = some x) (hl : ∀ cl C, (compEnvC sc cl C X.env).scope.names.lookup x = some .local ∨ ((compEnvC sc cl C X.env).scope.names.lookup x = some .cell ∧ sc.names.lookup x = some .cell))
    (hy : X.N[i]? = some y) (hyl : X.env.scope.names.lookup y = some .local) (hsw : swapsWith (.ListComp elt [⟨.Name x p, it, [], 0⟩] sc pos) (some (.Name y py)) spos.line X.env = pure true) (hs : ∀ x, foldedSetIterable it X.env x = pure x) :
    Ws X H0 (.Assign [.Name y py] (.ListComp elt [⟨.Name x p, it, [], 0⟩] sc pos) spos) δ E := fun B σ H own hB R => by
  obtain ⟨wi, hpi, fri, hw⟩ := h
  refine toS (ps_setLc hc hN hy hyl hsw (hpi _) (blkB_ok ok) (pgbC hN hi hl) (fun _ _ _ _ _ => pts_nil) pe_b hs) ?_
  exact set_lc (P := fun n item j es => ∃ R : Nat → D → Prop, n ≤ 100000 ∧ (∀ i, i < n → BWe X sc H0 elt (δ.set v (.sh (item i))) (R i)) ∧ (∀ es, EachN R n es → E.nx (δ.set i (.ow (.lst es)))) ∧ EachN R j es) fr_bE fr_yes fri hB R hw (fun n item ⟨R, a, b, c⟩ => ⟨R, a, b, c, EachN.nil⟩)
    (fun n item Hf ps _ i es hi ⟨R, a, b, c, q⟩ G σ' e R' => ⟨Same.refl _, fun _ s h' C cl fp => (b i hi s h' C cl fp σ' G R').mono fun y G2 ⟨e2, d, id, hd⟩ => ⟨e2, d, id, by rw [q.1]; omega, R, a, b, c, q.snoc hd⟩, fun z => nomatch z⟩) fun n item es _ ⟨R, a, b, c, q⟩ => c es q
theorem ws_setLcC (i v : Nat) {y : Str} {py spos : Pos} {E : En} (hN : X.N.Nodup) (h : Wi X H0 it δ (LC X sc H0 elt δ v fun es => E.nx (δ.set i (.sh (.sq true es))))) (hc : X.calm = true) (ok : blkB X.N X.env.scope sc x v = true) (hi : X.N[v]? = some x) (hl : ∀ cl C, (compEnvC sc cl C X.env).scope.names.lookup x = some .local ∨ ((compEnvC sc cl C X.env).scope.names.lookup x = some .cell ∧ sc.names.lookup x = some .cell))
    (hy : X.N[i]? = some y) (hyl : X.env.scope.names.lookup y = some .local) (hsw : swapsWith (.ListComp elt [⟨.Name x p, it, [], 0⟩] sc pos) (some (.Name y py)) spos.line X.env = pure true) (hs : ∀ x, foldedSetIterable it X.env x = pure x) :
    Ws X H0 (.Assign [.Name y py] (.ListComp elt [⟨.Name x p, it, [], 0⟩] sc pos) spos) δ E :=
  ws_post (ws_setLcOC i v hN (h.mono fun n item ⟨R, a, b, c⟩ => ⟨R, a, b, fun es p => ⟨_, vw_set, c es p⟩⟩) hc ok hi hl hy hyl hsw hs)
end
section
variable {X : Cx} {H0 : Hp} {δ : List S} {elt it : Expr} {es : List Expr} {sc : Scope} {pos p : Pos} {ko : Ow → Prop}
/-- (a, b, ..) = a tuple or a list of that length -/
def gBoth (K : PySem.W.Frag) (n : Nat) (t : TGs) : TG := fun v σ H Q => gTup K n t v σ H Q ∨ gUnl K n t v σ H Q
theorem pg_both {es : List Expr} {k : Nat} {t : TGs} {n : Nat} (hc : X.calm = true) (h : PGs X es t) (hn : (assignEach es X.env).length = n) (hst : (assignEach es X.env).findIdx? (·.1) = none) : PG X (.Tuple es k pos) (gBoth X.K n t) :=
  ⟨fun pins s σ H v u Q I r q => q.elim ((pg_tup hc h hn hst).run pins s σ H v u Q I r) ((pg_unl hc h hn hst).run pins s σ H v u Q I r)⟩
theorem both_of {K : PySem.W.Frag} {G H' : Hp} {x : V} {l : Bool} {ds : List D} {n : Nat} (ix : Is K G x (.sq l ds)) (e : Ex G H') (hl : ds.length = n) : ∃ xs, IsL K G xs ds ∧ ∀ (t : TGs) (σ : L2.St) (Q : L2.St → Hp → Prop), t xs σ H' Q → gBoth K n t x σ H' Q := by
  cases l with
  | true =>
    obtain ⟨a, xs, rfl, hq, il⟩ := ix.lst_inv
    exact ⟨xs, il, fun t σ Q q => .inr ⟨a, xs, rfl, .inl (Ex.rd e hq), by rw [il.1, hl], q⟩⟩
  | false =>
    obtain ⟨a, xs, rfl, hq, il⟩ := ix.tup_inv
    exact ⟨xs, il, fun t σ Q q => .inl ⟨a, xs, rfl, Ex.sqT e hq, by rw [il.1, hl], q⟩⟩
/-- a list's items under their names, at a statement -/
theorem wg_both {ts : List Expr} {x1 : Nat} {l : Bool} {ds : List D} {kn : List S → Prop} (hc : X.calm = true) (h : Wgs X H0 ts ds δ kn) (hn : (assignEach ts X.env).length = ds.length) (hst : (assignEach ts X.env).findIdx? (·.1) = none) : Wg X H0 (.Tuple ts x1 pos) (.sq l ds) δ kn := fun B σ H own v hB R iv => by
  obtain ⟨xs, il, q⟩ := both_of (H' := H) (n := ds.length) iv cut_ex rfl
  exact toG (pg_both hc pgs_sem hn hst) (q _ _ _ (h B σ H own xs hB R il))
/-- what the turns do -/
def LCt (X : Cx) (sc : Scope) (H0 : Hp) (elt : Expr) (δ : List S) (is : List Nat) (ko : List D → Prop) (n : Nat) (item : Nat → D) : Prop := ∃ R : Nat → D → Prop, n ≤ 100000 ∧ (∀ i, i < n → ∃ l ds, item i = .sq l ds ∧ ds.length = is.length ∧ BWe X sc H0 elt (setL is ds δ) (R i)) ∧ ∀ es, EachN R n es → ko es
def dsOf : D → List D
  | .sq _ ds => ds
  | _ => []
theorem wo_lct {is : List Nat} {x1 : Nat} (hN : X.N.Nodup) (h : Wi X H0 it δ (LCt X sc H0 elt δ is fun es => ko (.lst es))) (hc : X.calm = true) (ok : blkBs X.N X.env.scope sc ((nms es).zip is) = true) (hz : ((nms es).zip is).map (·.2) = is) (hi : nmsB X.N (relS sc X.env.scope) is es = true)
    (hs : ∀ x, foldedSetIterable it X.env x = pure x) : Wo X H0 (.ListComp elt [⟨.Tuple es x1 p, it, [], 0⟩] sc pos) δ ko := fun σ G R0 => by
  obtain ⟨wi, hpi, fri, hw⟩ := h
  have hg : ∀ (s : Shared) (H : Hp) (C : Addr) (cl : List (Str × Addr)) (fp : List Addr), PG (X.blk s H sc (compEnvC sc cl C X.env) fp) (.Tuple es x1 p) (gBoth X.K is.length (gNames is)) := fun s H C cl fp => by
    obtain ⟨a, b, c⟩ := pgs_names (X := X.blk s H sc (compEnvC sc cl C X.env) fp) (N := X.N) (sc := relS sc X.env.scope) hN rfl rfl hi
    exact pg_both hc a b c
  refine toE (pe_lc hc hN (hpi _) (blkBs_ok ok) hg (fun _ _ _ _ _ => pts_nil) pe_b hs) ?_
  rw [hz]
  refine fri_mono fri (hw σ G R0) fun J G1 ⟨e1, n, item, ⟨R, hl, hw, q⟩, g⟩ => ?_
  refine lcg_sem (X := X) (H0 := H0) (ps := []) (n := n) (ws := is) (g := gBoth X.K is.length (gNames is)) (item := item) (δi := fun i => setL is (dsOf (item i)) δ) (P := EachN R) (Q := fun v' G' => ∃ o, NewIs X.K G v' G' o ∧ ko o) fr_bE fr_yes (fun a ha => by cases ha) (fun i x H' hi e ix => ?_) (by rw [cut_nil]; exact g) EachN.nil (fun i es hi p G' σ' _ R' => ?_) fun A G' as es N _ p => ?_
  · obtain ⟨l0, ds, ei, hl, _⟩ := hw i hi
    rw [cut_nil] at e ix ⊢
    rw [ei] at ix ⊢
    obtain ⟨xs, il, qq⟩ := both_of ix e hl
    obtain ⟨σ2, a1, b1, c1⟩ := gNames_ok (X := X) (H0 := H0) (H' := H') (is := is) il hl (RelS.wipe (R0.mono e1) is)
    refine ⟨σ2, fun Qg q => qq _ _ _ (a1 Qg q), by rw [b1 is fun v hv => hv, wipe_wipe fun v hv => hv], ?_⟩
    rw [setL_wiped hl is fun v hv => hv] at c1
    exact c1
  · obtain ⟨l0, ds, ei, hl', hb⟩ := hw i hi
    have R' : RelS X.K H0 σ' G' (setL is ds δ) := by
      have e : dsOf (item i) = ds := by rw [ei]; rfl
      rw [← e]; exact R'
    exact ⟨Same.refl _, fun _ s h' C cl fp => (hb s h' C cl fp σ' G' R').mono fun y G2 ⟨e2, d, id, hd⟩ => ⟨e2, d, id, by rw [p.1]; omega, p.snoc hd⟩, fun z => nomatch z⟩
  · rw [lcH_nil]
    rw [cut_nil] at N
    exact ⟨_, N.back e1, q es p⟩
theorem ws_setLctO (i : Nat) {is : List Nat} {x1 : Nat} {y : Str} {py spos : Pos} {E : En} (hN : X.N.Nodup) (h : Wi X H0 it δ (LCt X sc H0 elt δ is fun es => E.nx (δ.set i (.ow (.lst es))))) (hc : X.calm = true) (ok : blkBs X.N X.env.scope sc ((nms es).zip is) = true) (hz : ((nms es).zip is).map (·.2) = is) (hi : nmsB X.N (relS sc X.env.scope) is es = true)
    (hy : X.N[i]? = some y) (hyl : X.env.scope.names.lookup y = some .local) (hsw : swapsWith (.ListComp elt [⟨.Tuple es x1 p, it, [], 0⟩] sc pos) (some (.Name y py)) spos.line X.env = pure true) (hs : ∀ x, foldedSetIterable it X.env x = pure x) :
    Ws X H0 (.Assign [.Name y py] (.ListComp elt [⟨.Tuple es x1 p, it, [], 0⟩] sc pos) spos) δ E := fun B σ H own hB R => by
  obtain ⟨wi, hpi, fri, hw⟩ := h
  have hg : ∀ (s : Shared) (H : Hp) (C : Addr) (cl : List (Str × Addr)) (fp : List Addr), PG (X.blk s H sc (compEnvC sc cl C X.env) fp) (.Tuple es x1 p) (gBoth X.K is.length (gNames is)) := fun s H C cl fp => by
    obtain ⟨a, b, c⟩ := pgs_names (X := X.blk s H sc (compEnvC sc cl C X.env) fp) (N := X.N) (sc := relS sc X.env.scope) hN rfl rfl hi
    exact pg_both hc a b c
  refine toS (ps_setLc hc hN hy hyl hsw (hpi _) (blkBs_ok ok) hg (fun _ _ _ _ _ => pts_nil) pe_b hs) ?_
  rw [hz]
  refine fri σ H own.flatten _ _ R.owned (hw σ _ (R.toS.weak hB)) fun J G1 n1 ⟨e1, n, item, ⟨R2, hl, hw, q⟩, g⟩ => ?_
  have R1 : Rel X.K B σ (mrg H own.flatten G1) δ own := R.step e1 n1
  have ec : cut (mrg H own.flatten G1) own.flatten = G1 := cut_mrg n1
  refine lcg_sem (X := X) (H0 := H0) (ps := own.flatten) (n := n) (ws := is) (g := gBoth X.K is.length (gNames is)) (item := item) (δi := fun i => setL is (dsOf (item i)) δ) (P := EachN R2) (Q := fun x H1 => gName i x σ H1 (toEnds X.K B E).nx) fr_bE fr_yes R1.owned (fun i x H' hi e ix => ?_) (by rw [ec]; exact g) EachN.nil (fun i es hi p G' σ' _ R' => ?_) fun A G as es N np p => ?_
  · obtain ⟨l0, ds, ei, hl, _⟩ := hw i hi
    rw [ec] at e ix ⊢
    rw [ei] at ix ⊢
    obtain ⟨xs, il, qq⟩ := both_of ix e hl
    have R0 : RelS X.K H0 σ G1 δ := by have := R1.toS.weak hB; rwa [ec] at this
    obtain ⟨σ2, a1, b1, c1⟩ := gNames_ok (X := X) (H0 := H0) (H' := H') (is := is) il hl (RelS.wipe R0 is)
    refine ⟨σ2, fun Qg q => qq _ _ _ (a1 Qg q), by rw [b1 is fun v hv => hv, wipe_wipe fun v hv => hv], ?_⟩
    rw [setL_wiped hl is fun v hv => hv] at c1
    exact c1
  · obtain ⟨l0, ds, ei, hl', hb⟩ := hw i hi
    have R' : RelS X.K H0 σ' G' (setL is ds δ) := by
      have e : dsOf (item i) = ds := by rw [ei]; rfl
      rw [← e]; exact R'
    exact ⟨Same.refl _, fun _ s h' C cl fp => (hb s h' C cl fp σ' G' R').mono fun y G2 ⟨e2, d, id, hd⟩ => ⟨e2, d, id, by rw [p.1]; omega, p.snoc hd⟩, fun z => nomatch z⟩
  · obtain ⟨l, hl, fr, ee, nd⟩ := N
    exact ⟨_, _, R1.setOw ee np nd hl, q es p⟩
end
end DL
set_option Elab.async false
set_option linter.all false
set_option maxRecDepth 100000
set_option maxHeartbeats 4000000
/-! The deep machine, part n: comprehensions with two clauses, the inner one over a range. -/
namespace DL
open PySem PySem.Spec PyProof.Rows L2
section
variable {X : Cx} {H0 : Hp} {δ : List S} {elt it a : Expr} {sc : Scope} {pos p p1 pr pc : Pos} {ko : Ow → Prop} {x y : Str}
theorem yes_eq (σ : L2.St) (H : Hp) (Q : Bool → Hp → Prop) : tYes σ H Q = Q true H := rfl
theorem ifT {A B : Prop} (h : A) : if true = true then A else B := by rw [if_pos rfl]; exact h
theorem RelS.none {K : PySem.W.Frag} {σ : L2.St} {G : Hp} {i : Nat} (R : RelS K H0 σ G δ) : RelS K H0 (σ.set i none) G (δ.set i .no) := by
  refine ⟨R.ex, by simp [R.len], fun j d' hj => ?_⟩
  rw [List.getElem?_set] at hj ⊢
  by_cases e : i = j
  · rw [if_pos e] at hj
    split at hj <;> cases hj
  · rw [if_neg e] at hj ⊢
    exact R.sh j d' hj
theorem flat2_succ (m : Nat → Nat) (g : Nat → Nat → D) (i : Nat) : flat2 m g (i + 1) = flat2 m g i ++ (List.range (m i)).map (g i) := by
  unfold flat2
  rw [List.range_succ, List.map_append, List.flatten_append]
  simp
structure LC2 (X : Cx) (sc : Scope) (H0 : Hp) (elt a : Expr) (δ : List S) (v v2 : Nat) (k : List D → Prop) (n : Nat) (item : Nat → D) : Prop where
  ex : ∃ (m : Nat → Nat) (g : Nat → Nat → D), (n ≤ 100000 ∧ ∀ i, i < n → (flat2 m g i).length + m i ≤ 100000) ∧ (∀ i, i < n → BWe X sc H0 a ((two_ v v2 δ).set v (.sh (item i))) (fun d => ∃ j : Int, d = .int j ∧ (-(2 ^ 62) ≤ j ∧ j < 2 ^ 62) ∧ m i = j.toNat) ∧ ∀ j, j < m i → BWe X sc H0 elt (((two_ v v2 δ).set v (.sh (item i))).set v2 (.sh (.int (j : Int)))) (fun e => e = g i j)) ∧ k (flat2 m g n)
theorem wo_lc2 (v v2 : Nat) (hN : X.N.Nodup) (h : Wi X H0 it δ (LC2 X sc H0 elt a δ v v2 fun es => ko (.lst es))) (hc : X.calm = true) (ok : blkBs X.N X.env.scope sc [(x, v), (y, v2)] = true) (hx : X.N[v]? = some x) (hy : X.N[v2]? = some y)
    (lx : (relS sc X.env.scope).names.lookup x = some .local) (ly : (relS sc X.env.scope).names.lookup y = some .local) (hne : v ≠ v2) (hm : X.mg "range" = none) (gr : (relS sc X.env.scope).names.lookup ("range" : Str) = some .globalImplicit) (hsa : notStar a = true)
    (hs : ∀ x, foldedSetIterable it X.env x = pure x) : Wo X H0 (.ListComp elt [⟨.Name x p, it, [], 0⟩, ⟨.Name y p1, .Call (.Name "range" pr) [a] [] pc, [], 0⟩] sc pos) δ ko := fun σ G R0 => by
  obtain ⟨wi, hpi, fri, hw⟩ := h
  have hg1 : PGB X sc x p v := pgb hN hx fun cl C => lx
  have hg2 : PGB X sc y p1 v2 := pgb hN hy fun cl C => ly
  refine toE (pe_lc2 (vs1 := [v2]) (wi1 := iRng1 (tCons (bE X sc a) tNil)) hc hN (hpi _) (blkBs_ok ok) (by simp) hg1 (fun _ _ _ _ _ => pts_nil) (fun s H C cl fp => pi_range1 gr hm (pa_cons (pe_b s H C cl fp) pa_nil (star_of hsa)) (star_of hsa)) hg2 (fun _ _ _ _ _ => pts_nil) pe_b hs (fun _ _ => rfl)) ?_
  refine fri_mono fri (hw σ G R0) fun J G1 ⟨e1, n, item, ⟨m, g, ⟨hl, hl2⟩, hb, q⟩, gJ⟩ => ?_
  have R1 := R0.mono e1
  intro A hA
  have nA : A ∉ ([] : List Addr) := by simp
  have hps : ∀ b ∈ ([] : List Addr), OwnAt G1 [] b := fun b hb => by cases hb
  have np : ∀ {G : Hp}, ∀ b ∈ ([] : List Addr), G b = none := fun {G} b hb => by cases hb
  have w0 : wipe σ [v, v2] = (σ.set v2 none).set v none := rfl
  have w1 : ∀ x : V, (wipe σ [v, v2]).set v (some x) = (σ.set v2 none).set v (some x) := fun x => by rw [w0, List.set_set]
  have RW : RelS X.K H0 (wipe σ [v, v2]) G1 (two_ v v2 δ) := RelS.none (RelS.none R1)
  refine ⟨fun i k H => k = n - i ∧ i ≤ n ∧ ∃ (G : Hp) (as : List V), H = lcH G1 [] A as G ∧ G A = none ∧ Ex G1 G ∧ IsL X.K G as (flat2 m g i), ⟨n, by simp, Nat.zero_le _, G1, [], by rw [lcH_nil], hA, Same.refl _, .nil⟩, ?_⟩
  rintro i k H ⟨rfl, hi, G2, as, rfl, hG, e2, il⟩
  obtain ⟨j1, j2⟩ := gJ i _ (e2.trans (lcH_ex (Hf := G1) (as := as) hG np))
  by_cases hlt : i < n
  · obtain ⟨g1, g2⟩ := j1 hlt
    refine .inr ⟨g1, fun H' => ∃ (G : Hp) (as : List V), H' = lcH G1 [] A as G ∧ G A = none ∧ Ex G1 G ∧ IsL X.K G as (flat2 m g (i + 1)), fun H' ⟨G, as, z⟩ => ⟨n - (i + 1), by omega, rfl, hlt, G, as, z⟩, fun x H' yy => ?_⟩
    obtain ⟨rfl, ix⟩ := g2 x H' yy
    show wipe ((wipe σ [v, v2]).set v (some x)) [v, v2] = wipe σ [v, v2] ∧ _
    refine ⟨by rw [w1]; show ((((σ.set v2 none).set v (some x)).set v2 none).set v none) = ((σ.set v2 none).set v none); rw [List.set_comm _ _ hne, List.set_set, List.set_set], ?_⟩
    have R2 : RelS X.K H0 ((wipe σ [v, v2]).set v (some x)) G2 ((two_ v v2 δ).set v (.sh (item i))) := RelS.set (RW.mono e2) (ix.mono e2)
    have t1 := fun s h' C cl fp => (hb i hlt).1 s h' C cl fp _ G2 R2
    rw [yes_eq]
    refine ifT ?_
    have fe : FrE (bE X sc a) := fr_bE
    have t1' : bE X sc a ((wipe σ [v, v2]).set v (some x)) (cut (lcH G1 [] A as G2) [A]) (fun w G' => Ex G2 G' ∧ ∃ d, Is X.K G' w d ∧ ∃ j : Int, d = .int j ∧ (-(2 ^ 62) ≤ j ∧ j < 2 ^ 62) ∧ m i = j.toNat) := by
      rw [lcH_cut (Hf := G1) (as := as) nA hG np]
      exact t1
    show bE X sc a _ _ _
    refine fe _ (lcH G1 [] A as G2) [A] _ _ (lcH_own nA hps) t1' fun w G3 n3 ⟨e3, d, iw, j, ed, ⟨jb1, jb2⟩, ej⟩ => ?_
    subst ed
    cases iw
    rw [lcH_mrg nA]
    have hA3 := n3 A (by simp)
    refine ⟨j, rfl, jb1, jb2, ?_⟩
    refine ⟨fun j' k H => k = m i - j' ∧ j' ≤ m i ∧ ∃ (G : Hp) (as : List V), H = lcH G1 [] A as G ∧ G A = none ∧ Ex G1 G ∧ IsL X.K G as (flat2 m g i ++ (List.range j').map (g i)), ⟨m i, by simp, Nat.zero_le _, G3, as, rfl, hA3, e2.trans e3, by rw [List.range_zero, List.map_nil, List.append_nil]; exact il.mono e3⟩, ?_⟩
    rintro j' k H ⟨rfl, hj, G4, as4, rfl, hG4, e4, il4⟩
    by_cases hjl : j' < m i
    · refine .inr ⟨by show j' < j.toNat; omega, fun H' => ∃ (G : Hp) (as : List V), H' = lcH G1 [] A as G ∧ G A = none ∧ Ex G1 G ∧ IsL X.K G as (flat2 m g i ++ (List.range (j' + 1)).map (g i)), fun H' ⟨G, as, z⟩ => ⟨m i - (j' + 1), by omega, rfl, hjl, G, as, z⟩, fun x2 H' y2 => ?_⟩
      obtain ⟨rfl, ex2⟩ : H' = _ ∧ x2 = .int (0 + (j' : Int)) := y2
      rw [Int.zero_add] at ex2
      subst ex2
      show wipe ((wipe ((wipe σ [v, v2]).set v (some x)) [v2]).set v2 (some (.int (j' : Int)))) [v2] = wipe ((wipe σ [v, v2]).set v (some x)) [v2] ∧ _
      refine ⟨by show ((((wipe σ [v, v2]).set v (some x)).set v2 none).set v2 _).set v2 none = ((wipe σ [v, v2]).set v (some x)).set v2 none; rw [List.set_set, List.set_set], ?_⟩
      rw [yes_eq]
      refine ifT ?_
      have es : (wipe ((wipe σ [v, v2]).set v (some x)) [v2]).set v2 (some (V.int (j' : Int))) = ((wipe σ [v, v2]).set v (some x)).set v2 (some (V.int (j' : Int))) := by
        show (((wipe σ [v, v2]).set v (some x)).set v2 none).set v2 _ = _
        rw [List.set_set]
      show bE X sc elt ((wipe ((wipe σ [v, v2]).set v (some x)) [v2]).set v2 (some (V.int (j' : Int)))) _ _
      rw [es]
      have e24 : Ex G1 G4 := e4
      have R4 : RelS X.K H0 (((wipe σ [v, v2]).set v (some x)).set v2 (some (V.int (j' : Int)))) G4 (((two_ v v2 δ).set v (.sh (item i))).set v2 (.sh (.int (j' : Int)))) := RelS.set (RelS.set (RW.mono e24) (ix.mono e24)) (.int _)
      have t2 := fun s h' C cl fp => (hb i hlt).2 j' hjl s h' C cl fp _ G4 R4
      have t2' : bE X sc elt (((wipe σ [v, v2]).set v (some x)).set v2 (some (V.int (j' : Int)))) (cut (lcH G1 [] A as4 G4) [A]) (fun w G' => Ex G4 G' ∧ ∃ d, Is X.K G' w d ∧ d = g i j') := by
        rw [lcH_cut (Hf := G1) (as := as4) nA hG4 np]
        exact t2
      refine fr_bE _ (lcH G1 [] A as4 G4) [A] _ _ (lcH_own nA hps) t2' fun w G5 n5 ⟨e5, d, iw, ed⟩ => ?_
      subst ed
      rw [lcH_mrg nA]
      have hlen : as4.length < 100000 := by
        have := hl2 i hlt
        rw [il4.1, List.length_append, List.length_map, List.length_range]
        omega
      refine ⟨as4, lcH_at nA, Nat.lt_of_lt_of_le (m := 100000) hlen (by decide), G5, as4 ++ [w], lcH_upd nA, n5 A (by simp), e4.trans e5, ?_⟩
      rw [List.range_succ, List.map_append, ← List.append_assoc]
      exact (il4.mono e5).snoc iw
    · have ee : j' = m i := by omega
      subst ee
      refine .inl ⟨by show j.toNat ≤ m i; omega, G4, as4, rfl, hG4, e4, ?_⟩
      rw [flat2_succ]; exact il4
  · have e : i = n := by omega
    subst e
    refine .inl ⟨j2 (Nat.le_refl _), ?_⟩
    rw [lcH_nil]
    exact ⟨_, (NewIs.lst hG il).back (e1.trans e2), q⟩
end
end DL
set_option Elab.async false
set_option linter.all false
set_option maxRecDepth 100000
set_option maxHeartbeats 4000000
/-! The deep machine, part c: a text and what it resolves to; expressions are sound. -/
namespace DL
open PySem PySem.Spec PyProof.Rows L2
/-- the built-in names that the top leaves alone -/
structure Bm (mg : Str → Option Value) : Prop where
  len : mg "len" = none
  range : mg "range" = none
  int : mg "int" = none
  abs : mg "abs" = none
  tuple : mg "tuple" = none
  list : mg "list" = none
  isinstance : mg "isinstance" = none
  bool : mg "bool" = none
  sum : mg "sum" = none
  min : mg "min" = none
  max : mg "max" = none
  str : mg "str" = none
/-- where a text stands: slots, scope, the names of defs that it calls -/
structure Ct where
  N : List Str
  sc : Scope
  fs : List Fk
  math : Bool
def visB (C : Ct) (i : Nat) (x : Str) : Bool := decide (C.N[i]? = some x) && ((match C.sc.names.lookup x with
  | some .local => true
  | some .cell => true
  | some .free => true
  | _ => false) && (decide ((x == ("__debug__" : Str)) = false) && decide ((x == ("__classdict__" : Str)) = false)))
def gloB (C : Ct) (x : Str) : Bool := decide (C.sc.names.lookup x = some .globalImplicit) && decide ((x == ("__debug__" : Str)) = false)
def bfName : Bf → Str
  | .len => "len" | .int => "int" | .abs => "abs" | .tuple => "tuple" | .list => "list" | .sum => "sum" | .max => "max" | .min => "min" | .gcd => "gcd" | .lcm => "lcm"
def bfAr : Bf → Nat
  | .max => 2 | .min => 2 | .gcd => 2 | .lcm => 2 | _ => 1
def bfMath : Bf → Bool
  | .gcd => true | .lcm => true | _ => false
def tyName : Ty → Str
  | .int => "int" | .bool => "bool" | .str => "str" | .list => "list" | .tuple => "tuple"
def bopB : Bop → Operator → Bool
  | .add, .Add => true | .sub, .Sub => true | .mul, .Mult => true | .div, .FloorDiv => true | .mod, .Mod => true | .pow, .Pow => true
  | _, _ => false
mutual
def chE (C : Ct) : Xe → Expr → Bool
  | .var i, e => match e with
    | .Name x _ => visB C i x
    | _ => false
  | .int i, e => match e with
    | .Constant (.int j) _ _ => decide (i = j)
    | _ => false
  | .bl i, e => match e with
    | .Constant (.bool j) _ _ => decide (i = j)
    | _ => false
  | .non, e => match e with
    | .Constant .none _ _ => true
    | _ => false
  | .str i, e => match e with
    | .Constant (.str j) _ _ => decide (i = j)
    | _ => false
  | .bin o a b, e => match e with
    | .BinOp l op r _ => bopB o op && (chE C a l && chE C b r)
    | _ => false
  | .rep a b, e => match e with
    | .BinOp l .Mult r _ => chE C a l && chE C b r
    | _ => false
  | .neg a, e => match e with
    | .UnaryOp .USub l _ => chE C a l
    | _ => false
  | .not a, e => match e with
    | .UnaryOp .Not l _ => chE C a l
    | _ => false
  | .cmp o a b, e => match e with
    | .Compare l [op] [r] _ => copB o op && (chE C a l && chE C b r)
    | _ => false
  | .and as, e => match e with
    | .BoolOp .And es _ => !es.isEmpty && chL C as es
    | _ => false
  | .or as, e => match e with
    | .BoolOp .Or es _ => !es.isEmpty && chL C as es
    | _ => false
  | .ite c a b, e => match e with
    | .IfExp t l r _ => chE C c t && (chE C a l && chE C b r)
    | _ => false
  | .itu c a b, e => match e with
    | .IfExp t l r _ => chE C c t && (chE C a l && chE C b r)
    | _ => false
  | .ix a b, e => match e with
    | .Subscript l r _ => chE C a l && chE C b r
    | _ => false
  | .ixn a n, e => match e with
    | .Subscript l (.Constant (.int j) _ _) _ => chE C a l && decide (j = (n : Int))
    | _ => false
  | .fld a f, e => match e with
    | .Attribute l x _ => decide (x = f) && (notCall l && chE C a l)
    | _ => false
  | .slc a lo hi, e => match e with
    | .Subscript l (.Slice p q none _) _ => chE C a l && ((match p with
      | none => isNonX lo
      | some p => !isNonX lo && chE C lo p) && (match q with
      | none => isNonX hi
      | some q => !isNonX hi && chE C hi q))
    | _ => false
  | .tup as, e => match e with
    | .Tuple es _ _ => Nat.ble es.length 100000 && chL C as es
    | _ => false
  | .lst as, e => match e with
    | .List es _ => Nat.ble es.length 100000 && chL C as es
    | _ => false
  | .call i as, e => match e with
    | .Call (.Name x _) es [] _ => decide (C.fs[i]? = some ⟨x, .fn⟩) && (gloB C x && (!es.isEmpty && chL C as es))
    | _ => false
  | .bi f as, e => match e with
    | .Call (.Name x _) es [] _ => decide (x = bfName f) && (gloB C x && ((C.math || !bfMath f) && (decide (es.length = bfAr f) && chL C as es)))
    | _ => false
  | .isi a t, e => match e with
    | .Call (.Name x _) [l, .Name y _] [] _ => decide (x = ("isinstance" : Str)) && (decide (y = tyName t) && (gloB C x && (gloB C y && chE C a l)))
    | _ => false
  | .con i, e => match e with
    | .Name x _ => decide (C.fs[i]? = some ⟨x, .con⟩) && gloB C x
    | _ => false
  | .isc i a, e => match e with
    | .Call (.Name x _) [l, .Name y _] [] _ => decide (x = ("isinstance" : Str)) && (decide (C.fs[i]? = some ⟨y, .isc⟩) && (gloB C x && (gloB C y && chE C a l)))
    | _ => false
  | .mlen i a, e => match e with
    | .Call (.Name x _) [l] [] _ => decide (x = ("len" : Str)) && (decide (C.fs[i]? = some ⟨x, .len⟩) && (gloB C x && chE C a l))
    | _ => false
  | .meq i a b, e => match e with
    | .Compare l [.Eq] [r] _ => decide (C.fs[i]? = some ⟨("==" : Str), .eq⟩) && (chE C a l && chE C b r)
    | _ => false
  | .join s a, e => match e with
    | .Call (.Attribute (.Constant (.str z) _ _) m apos) [l] [] cpos => decide (z = s) && (decide (m = ("join" : Str)) && ((apos.endLine == cpos.line) && chE C a l))
    | _ => false
  | .lrg a, e => match e with
    | .Call (.Name x _) [.Call (.Name y _) [l] [] _] [] _ => decide (x = ("list" : Str)) && (decide (y = ("range" : Str)) && (gloB C x && (gloB C y && chE C a l)))
    | _ => false
  | .dct0, e => match e with
    | .Dict [] [] _ => true
    | _ => false
  | .call0 i, e => match e with
    | .Call (.Name x _) [] [] _ => decide (C.fs[i]? = some ⟨x, .fn0⟩) && gloB C x
    | _ => false
  | .lc v elt it, e => match e with
    | .ListComp l [⟨.Name x _, itr, [], 0⟩] sc _ => blkB C.N C.sc sc x v && (decide (C.N[v]? = some x) && (decide ((relS sc C.sc).names.lookup x = some .local ∨ ((relS sc C.sc).names.lookup x = some .cell ∧ sc.names.lookup x = some .cell)) && (chI C it itr && chE { C with sc := relS sc C.sc } elt l)))
    | _ => false
  | .lcf v elt it c, e => match e with
    | .ListComp l [⟨.Name x _, itr, [t], 0⟩] sc _ => blkB C.N C.sc sc x v && (decide (C.N[v]? = some x) && (decide ((relS sc C.sc).names.lookup x = some .local) && (chI C it itr && (chE { C with sc := relS sc C.sc } elt l && chE { C with sc := relS sc C.sc } c t))))
    | _ => false
  | .lct is elt it, e => match e with
    | .ListComp l [⟨.Tuple es _ _, itr, [], 0⟩] sc _ => blkBs C.N C.sc sc ((nms es).zip is) && (decide (((nms es).zip is).map (·.2) = is) && (nmsB C.N (relS sc C.sc) is es && (chI C it itr && chE { C with sc := relS sc C.sc } elt l)))
    | _ => false
  | .lc2 v v2 elt it a, e => match e with
    | .ListComp l [⟨.Name x _, itr, [], 0⟩, ⟨.Name y _, .Call (.Name r _) [b] [] _, [], 0⟩] sc _ => blkBs C.N C.sc sc [(x, v), (y, v2)] && (decide (C.N[v]? = some x ∧ C.N[v2]? = some y ∧ v ≠ v2) && (decide ((relS sc C.sc).names.lookup x = some .local ∧ (relS sc C.sc).names.lookup y = some .local ∧ r = ("range" : Str)) && (gloB { C with sc := relS sc C.sc } r && (chI C it itr && (chE { C with sc := relS sc C.sc } elt l && chE { C with sc := relS sc C.sc } a b)))))
    | _ => false
def chL (C : Ct) : Xl → List Expr → Bool
  | .nil, es => es.isEmpty
  | .cons a as, es => match es with
    | e :: r => chE C a e && chL C as r
    | [] => false
def chI (C : Ct) : Xi → Expr → Bool
  | .rng a, e => match e with
    | .Call (.Name x _) [l] [] _ => decide (x = ("range" : Str)) && (gloB C x && chE C a l)
    | _ => false
  | .rng2 a b, e => match e with
    | .Call (.Name x _) [l, r] [] _ => decide (x = ("range" : Str)) && (gloB C x && (chE C a l && chE C b r))
    | _ => false
  | .sq a, e => chE C a e
end
/-- the context is the one that the text was resolved for -/
structure Ev (X : Cx) (C : Ct) (Γ : List DSp) : Prop where
  N : X.N = C.N
  nd : C.N.Nodup
  sc : X.env.scope = C.sc
  calm : X.calm = true
  bi : Bm X.mg
  math : C.math = true → X.mg "gcd" = some (.builtin "math.gcd") ∧ X.mg "lcm" = some (.builtin "math.lcm")
  units : X.A.units + 64 < cLine
  cov : ∀ (i : Nat) (x : Fk), C.fs[i]? = some x → ∃ T, Γ[i]? = some T
  fns : ∀ (i : Nat) (x : Fk) T, C.fs[i]? = some x → Γ[i]? = some T → Kn X x T
section
variable {X : Cx} {C : Ct} {Γ : List DSp} {H0 : Hp} {δ : List S} {e : Expr}
theorem Ev.blk (E : Ev X C Γ) {sc : Scope} {s : Shared} {h : Hp} {C' : Addr} {cl : List (Str × Addr)} {fp : List Addr} : Ev (X.blk s h sc (compEnvC sc cl C' X.env) fp) { C with sc := relS sc C.sc } Γ :=
  ⟨E.N, E.nd, by rw [← E.sc]; rfl, E.calm, E.bi, E.math, E.units, E.cov, fun i x T h1 h2 => (E.fns i x T h1 h2).blk⟩
theorem and3 {a b : Bool} (h : (a && b) = true) : a = true ∧ b = true := Bool.and_eq_true_iff.mp h
theorem chE_star {a : Xe} (h : chE C a e = true) : notStar e = true := by
  cases e with
  | Starred v p => cases a <;> (simp only [chE] at h; cases h)
  | _ => rfl
theorem chE_set {a : Xe} (h : chE C a e = true) : ∀ (env : Env) x, foldedSetIterable e env x = pure x := by
  cases e with
  | Set v p q => cases a <;> (simp only [chE] at h; cases h)
  | _ => intro env x; rfl
theorem chE_mark {a : Xe} (h : chE C a e = true) (op : CmpOp) : behindInMarks op e = false := by
  cases e with
  | Set v p q => cases a <;> (simp only [chE] at h; cases h)
  | _ => rfl
theorem chE_ix {a : Xe} (h : chE C a e = true) : PlainIx e := by
  cases e with
  | Slice v p q => cases a <;> (simp only [chE] at h; cases h)
  | _ => exact fun _ _ => rfl
theorem chI_set {a : Xi} (h : chI C a e = true) : ∀ (env : Env) x, foldedSetIterable e env x = pure x := by
  cases a with
  | sq a => rw [chI] at h; exact chE_set h
  | _ =>
    cases e with
    | Set v p q => simp only [chI] at h; cases h
    | _ => intro env x; rfl
theorem chL_star : ∀ {as : Xl} {es : List Expr}, chL C as es = true → es.all notStar = true
  | .nil, es, h => by
    rw [chL, List.isEmpty_iff] at h
    rw [h]; rfl
  | .cons a as, [], h => by rw [chL] at h; cases h
  | .cons a as, e :: es, h => by
    rw [chL] at h
    obtain ⟨h1, h2⟩ := and3 h
    rw [List.all_cons, chE_star h1, chL_star h2]; rfl
theorem Ev.glo (E : Ev X C Γ) {x : Str} (h : gloB C x = true) : Gl X x ∧ (x == ("__debug__" : Str)) = false := by
  obtain ⟨h1, h2⟩ := and3 h
  refine ⟨?_, of_decide_eq_true h2⟩
  show X.env.scope.names.lookup x = _
  rw [E.sc]
  exact of_decide_eq_true h1
theorem Ev.vis (E : Ev X C Γ) {i : Nat} {x : Str} {p : Pos} (h : visB C i x = true) : PE X (.Name x p) (tVar i) := by
  obtain ⟨h1, h⟩ := and3 h
  obtain ⟨h2, h⟩ := and3 h
  obtain ⟨h3, h4⟩ := and3 h
  refine pv i (by rw [E.N]; exact of_decide_eq_true h1) ?_ (of_decide_eq_true h3) (of_decide_eq_true h4)
  show X.env.scope.names.lookup x = _ ∨ X.env.scope.names.lookup x = _ ∨ X.env.scope.names.lookup x = _
  rw [E.sc]
  split at h2
  · rename_i e; exact .inl e
  · rename_i e; exact .inr (.inl e)
  · rename_i e; exact .inr (.inr e)
  · cases h2
structure SoE (a : Xe) : Prop where
  run : ∀ {X : Cx} {C : Ct} {Γ : List DSp} {H0 : Hp} {e : Expr}, Ev X C Γ → chE C a e = true → ∀ {xw : List S → XD} {δ : List S}, Xc X H0 xw →
  (∀ k, wpe Γ a δ (xw δ) (.e k) → Wu X H0 e δ k) ∧ ∀ y n, wpe Γ a δ (xw δ) (.t y n) → Wt X H0 e δ (tk y n)
structure SoL (as : Xl) : Prop where
  run : ∀ {X : Cx} {C : Ct} {Γ : List DSp} {H0 : Hp} {es : List Expr}, Ev X C Γ → chL C as es = true → ∀ {xw : List S → XD} {δ : List S}, Xc X H0 xw →
  (∀ k, wpl Γ as δ (xw δ) (.a k) → Wa X H0 es δ fun ds => ds.length = es.length ∧ k ds) ∧ (es ≠ [] → ∀ pos, (∀ k, wpl Γ as δ (xw δ) (.and (.e k)) → Wu X H0 (.BoolOp .And es pos) δ k) ∧ (∀ k, wpl Γ as δ (xw δ) (.or (.e k)) → Wu X H0 (.BoolOp .Or es pos) δ k) ∧
    (∀ y n, wpl Γ as δ (xw δ) (.and (.t y n)) → Ww X H0 (.BoolOp .And es pos) δ (tk y n)) ∧ (∀ y n, wpl Γ as δ (xw δ) (.or (.t y n)) → Ww X H0 (.BoolOp .Or es pos) δ (tk y n)))
structure SoI (a : Xi) : Prop where
  run : ∀ {X : Cx} {C : Ct} {Γ : List DSp} {H0 : Hp} {e : Expr}, Ev X C Γ → chI C a e = true → ∀ {xw : List S → XD} {δ : List S}, Xc X H0 xw →
  ∀ k, wpi Γ a δ (xw δ) k → Wi X H0 e δ k
theorem so_mk {P : Cn → Prop} (h : ∀ c, P c → Wu X H0 e δ c.fn) (he : ∀ whole, isTrue e X.env whole = (do let v ← whole; standAt e.pos; holding [v] (truthy v))) :
    (∀ k, P (.e k) → Wu X H0 e δ k) ∧ ∀ y n, P (.t y n) → Wt X H0 e δ (tk y n) := ⟨fun k q => h (.e k) q, fun y n q => wtD_tru (h (.t y n) q) he⟩
/-! what is gone through: a list or a tuple -/
def iSeq (K : PySem.W.Frag) (tl : TE) : TI := fun σ H R => tl σ H fun x H1 => ∃ a, x = .ref a ∧ (((∃ xs, SqL K H1 a xs) ∧ R (Itl K a) H1) ∨ ((∃ xs, SqT K H1 a xs) ∧ R (Itt K a) H1))
/-- a list, a tuple or a text -/
def iSeqS (K : PySem.W.Frag) (tl : TE) : TI := fun σ H R => tl σ H fun x H1 => (∃ a, x = .ref a ∧ (((∃ xs, SqL K H1 a xs) ∧ R (Itl K a) H1) ∨ ((∃ xs, SqT K H1 a xs) ∧ R (Itt K a) H1))) ∨ ∃ z, x = .str z ∧ R (Its z) H1
theorem pi_seq {tg l : Expr} {tl : TE} (hl : PE X l tl) : PI X tg l (iSeqS X.K tl) := by
  refine ⟨fun pins s σ H R I h => ?_⟩
  refine thn (hl.run pins s σ H _ I h) fun v s1 ⟨x, H1, I1, r1, q1⟩ => ?_
  obtain ⟨a, e, q⟩ | ⟨z, e, q⟩ := q1
  rotate_left
  · subst e
    obtain ⟨t, rfl⟩ := r1
    cases ha : z.cps.all (· < 128)
    · exact wpAny_pyIter_wide ha (pi_one (tk := s1.toks) I1 _ (turn_str _ z t "str_iterator" (.inr rfl)) ⟨_, Heap.get?_push_size _ rfl, rfl, rfl⟩ q)
    · exact wpAny_pyIter_ascii ha (pi_one (tk := s1.toks) I1 _ (turn_str _ z t "str_ascii_iterator" (.inl rfl)) ⟨_, Heap.get?_push_size _ rfl, rfl, rfl⟩ q)
  subst e
  cases r1
  rcases q with ⟨⟨xs, hq⟩, q⟩ | ⟨⟨xs, hq⟩, q⟩
  · obtain ⟨its, rv, p, hz⟩ := I1.list hq
    refine wpAny_pyIter_list p.isList ?_
    refine ⟨s1.heap.objs.size, [s1.heap.objs.size], _, _, H1, rfl, I1.kept (t' := s1.toks) fun b o e => Heap.get?_push_of_some _ e, turn_list a _, ⟨_, Heap.get?_push_size _ rfl, rfl, rfl⟩, fun b hb => ?_, q⟩
    have e : b = s1.heap.objs.size := by simpa using hb
    subst e
    exact I1.fpOk (Nat.le_refl _) (I1.hok.fresh (Nat.le_refl _))
  · obtain ⟨its, rv, p, hz⟩ := I1.tuple hq
    refine wpAny_pyIter_tuple (show s1.heap.IsTuple a its.toArray from p) ?_
    refine ⟨s1.heap.objs.size, [s1.heap.objs.size], _, _, H1, rfl, I1.kept (t' := s1.toks) fun b o e => Heap.get?_push_of_some _ e, turn_tuple a _, ⟨_, Heap.get?_push_size _ rfl, rfl, rfl⟩, fun b hb => ?_, q⟩
    have e : b = s1.heap.objs.size := by simpa using hb
    subst e
    exact I1.fpOk (Nat.le_refl _) (I1.hok.fresh (Nat.le_refl _))
theorem scr_is {K : PySem.W.Frag} {G : Hp} (ns : List Int) : IsL K G (ns.map V.int) (ns.map D.int) := IsL.ints ns
theorem wi_seq {it : Expr} {k : Nat → (Nat → D) → Prop} (h : We X H0 it δ (fun d => seqD d k)) : Wi X H0 it δ k := by
  refine ⟨_, fun tg => pi_seq pe_sem, fun σ H ps R R' hp hw m => ?_, fun σ G R0 => (h σ G R0).mono fun y G1 ⟨e1, d, iv, q⟩ => ?_⟩
  · refine (semE.frame hp hw).mono fun v H' ⟨G, e, n, q⟩ => ?_
    rcases q with ⟨a, ea, q⟩ | ⟨z, ez, q⟩
    · refine .inl ⟨a, ea, ?_⟩
      rcases q with ⟨⟨xs, hq⟩, q⟩ | ⟨⟨xs, hq⟩, q⟩
      · exact .inl ⟨⟨xs, by rw [e]; exact Ex.sqL (mrg_exG n) hq⟩, by rw [e]; exact m _ G n q⟩
      · exact .inr ⟨⟨xs, by rw [e]; exact Ex.sqT (mrg_exG n) hq⟩, by rw [e]; exact m _ G n q⟩
    · exact .inr ⟨z, ez, by rw [e]; exact m _ G n q⟩
  · cases d with
    | sq l ds =>
      cases l with
      | true =>
        obtain ⟨a, xs, rfl, hq, il⟩ := iv.lst_inv
        exact .inl ⟨a, rfl, .inl ⟨⟨xs, .inl hq⟩, e1, _, _, q, jl (.inl hq) il⟩⟩
      | false =>
        obtain ⟨a, xs, rfl, hq, il⟩ := iv.tup_inv
        exact .inl ⟨a, rfl, .inr ⟨⟨xs, hq⟩, e1, _, _, q, jt hq il⟩⟩
    | scr ns =>
      obtain ⟨a, rfl, hq⟩ := iv.scr_inv
      refine .inl ⟨a, rfl, .inl ⟨⟨_, hq⟩, e1, _, _, q, ?_⟩⟩
      have g := jl (K := X.K) (ds := ns.map D.int) hq (IsL.ints ns)
      intro i H eH
      obtain ⟨g1, g2⟩ := g i H eH
      rw [List.length_map] at g1 g2
      refine ⟨fun hi => ⟨(g1 hi).1, fun x H' y => ?_⟩, g2⟩
      obtain ⟨z1, z2⟩ := (g1 hi).2 x H' y
      refine ⟨z1, ?_⟩
      have e2 : (ns.map D.int).getD i .non = .int (ns.getD i 0) := by
        rw [List.getD_eq_getElem?_getD, List.getD_eq_getElem?_getD, List.getElem?_map, List.getElem?_eq_getElem hi]; rfl
      rw [e2] at z2
      exact z2
    | str z =>
      cases iv
      refine .inr ⟨z, rfl, e1, _, _, q, fun i H eH => ⟨fun hi => ⟨hi, fun x H' y => ?_⟩, fun hi => hi⟩⟩
      obtain ⟨y1, c, y2, rfl⟩ := y
      refine ⟨y1, ?_⟩
      have e2 : z.cps.getD i 0 = c := by
        rw [Array.getD_eq_getD_getElem?, y2]; rfl
      show Is X.K G1 (.str ⟨#[c]⟩) (.str ⟨#[z.cps.getD i 0]⟩)
      rw [e2]
      exact .str _
    | _ => exact q.elim
/-! sum of a list or a tuple of ints -/
theorem sum_rawT {prog : Program} {w : World} {A : Around} {E : Value → Shared → Prop} {s : Shared} {l : Addr} {its : List Value} {ns : List Int} {Q : Value → Shared → Prop} (hh : A.handled = none) (hl : s.heap.IsTuple l its.toArray) (hi : IntsAre its ns)
    (h : ∀ h' tk t', (∀ b o, s.heap.get? b = some o → h'.get? b = some o) → Q (.int ns.sum t') { s with heap := h', toks := tk }) : wpAny (model prog w) A (call (.builtin "sum") [.ref l]) Q E s := by
  obtain ⟨xs, e⟩ := hi.allInts.items
  have hn : numsOf (intItems xs).toList = ns := by rw [← e]; exact hi.numsOf
  rw [nums_intItems] at hn
  rw [e] at hl
  have hlt : l < s.heap.objs.size := by obtain ⟨_, e, _⟩ := hl; exact Heap.lt_size e
  have hne : l ≠ s.heap.objs.size := Nat.ne_of_lt hlt
  refine call_sum_walkG (wpAny_pyIter_tuple hl ⟨_, _, _, _, _, _, numAt xs, rfl, Walks.tuple (A := A.in1) hh _ l hne (intItems xs), ⟨⟨_, Heap.get?_push_size _ rfl, rfl, rfl⟩, ?_⟩, fun b hb => ?_, (fun _ _ => intItems_at), fun h' tk t' hk => ?_⟩)
  · obtain ⟨o, e1, e2⟩ := hl
    exact ⟨o, Heap.get?_push_of_some _ e1, e2⟩
  · show b < (s.heap.push _).objs.size
    rw [Heap.size_push]
    rcases List.mem_cons.mp hb with rfl | hb
    · exact Nat.lt_succ_self _
    · rcases List.mem_cons.mp hb with rfl | hb
      · exact Nat.lt_succ_of_lt hlt
      · cases hb
  · have := h h' tk t' fun b o e1 => hk b o (fun hm => by
      rcases List.mem_cons.mp hm with e2 | hm
      · exact absurd (e2 ▸ Heap.lt_size e1) (Nat.lt_irrefl _)
      · cases hm) (Heap.get?_push_of_some _ e1)
    rw [← hn] at this
    rw [preSum_eq, List.take_of_length_le (by simp [intItems])]; exact this
theorem cr_sumT {X : Cx} (hc : X.calm = true) : CallR X (.builtin "sum") (fun vs H Q => ∃ (a : Addr) (ns : List Int), vs = [V.ref a] ∧ SqT X.K H a (ns.map V.int) ∧ Q (.int ns.sum) H) := by
  intro pins s σ H vs us Q I r h
  obtain ⟨a, ns, rfl, hs, q⟩ := h
  obtain ⟨its, rv, hl, _⟩ := I.tuple hs
  rw [Vals.ref1 r]
  exact sum_rawT (I.ok.hd hc) hl rv.ints fun h' tk t' hk => ⟨.int _, H, I.kept hk, ⟨_, rfl⟩, q⟩
theorem we_sumQ {X : Cx} {H0 : Hp} {δ : List S} {e : Expr} {p pos : Pos} {k : S → Prop} (hm : X.mg "sum" = none) (h : Wa X H0 [e] δ (fun ds => bfD .sum ds k)) (hc : X.calm = true) (hg : Gl X "sum") (he : notStar e = true) :
    We X H0 (.Call (.Name "sum" p) [e] [] pos) δ (fun d => k (.sh d)) := we_callB (r := fun vs H Q => rSum X.K vs H Q ∨ ∃ (a : Addr) (ns : List Int), vs = [V.ref a] ∧ SqT X.K H a (ns.map V.int) ∧ Q (.int ns.sum) H) (fun pins s σ H vs us Q I r q => q.elim (fun q => cr_sum hc pins s σ H vs us Q I r q) (fun q => cr_sumT hc pins s σ H vs us Q I r q)) (by decide +kernel) (by decide) (by decide) (fun G vs ds is hk Q q => by
  unfold bfD at hk
  split at hk
  any_goals (first | exact hk.elim | contradiction)
  rename_i l xs _
  obtain ⟨ns, rfl, hk⟩ := hk
  obtain ⟨v, rfl, i⟩ := is.one
  cases l with
  | true =>
    obtain ⟨a, ys, rfl, hq, il⟩ := i.lst_inv
    rw [ints_of il] at hq
    exact .inl ⟨a, ns, rfl, .inl hq, q _ G _ (Same.refl _) (.int _) hk⟩
  | false =>
    obtain ⟨a, ys, rfl, hq, il⟩ := i.tup_inv
    rw [ints_of il] at hq
    exact .inr ⟨a, ns, rfl, hq, q _ G _ (Same.refl _) (.int _) hk⟩) hm h hg he rfl
/-! built-in functions -/
theorem wu_bi (E : Ev X C Γ) {f : Bf} {x : Str} {es : List Expr} {pos p : Pos} {k : S → Prop} (hx : x = bfName f) (hg : gloB C x = true) (hm : (C.math || !bfMath f) = true) (hn : es.length = bfAr f) (hs : es.all notStar = true)
    (h : Wa X H0 es δ (fun ds => bfD f ds k)) : Wu X H0 (.Call (.Name x p) es [] pos) δ k := by
  subst hx
  have g := (E.glo hg).1
  cases f with
  | len =>
    obtain ⟨e, rfl⟩ := List.length_eq_one_iff.mp hn
    have s1 : notStar e = true := by simpa using hs
    refine wu_we (we_callB (r := fun vs H Q => (∃ a xs, vs = [V.ref a] ∧ (SqL X.K H a xs ∨ SqT X.K H a xs) ∧ Q (.int xs.length) H) ∨ ∃ z, vs = [V.str z] ∧ z.length ≤ sizeLine ∧ Q (.int z.length) H) (fun pins s σ H vs us Q I r q => ?_) boot_len (by decide) (by decide) (fun G vs ds is hk Q q => ?_) E.bi.len h g s1 rfl)
    · rcases q with ⟨a, xs, e1, e2, e3⟩ | ⟨z, e1, e2⟩
      · exact call_len_seq pins s σ H vs us Q I r ⟨a, xs, e1, e2, e3⟩
      · exact call_len_str pins s σ H vs us Q I r ⟨z, e1, e2⟩
    · unfold bfD at hk
      split at hk
      any_goals (first | exact hk.elim | contradiction)
      · obtain ⟨v, rfl, i⟩ := is.one
        rename_i l xs _
        cases l with
        | true =>
          obtain ⟨a, ys, rfl, hq, hl⟩ := i.lst_inv
          exact .inl ⟨a, ys, rfl, .inl (.inl hq), q _ G _ (Same.refl _) (by rw [hl.1]; exact .int _) hk⟩
        | false =>
          obtain ⟨a, ys, rfl, hq, hl⟩ := i.tup_inv
          exact .inl ⟨a, ys, rfl, .inr hq, q _ G _ (Same.refl _) (by rw [hl.1]; exact .int _) hk⟩
      · obtain ⟨v, rfl, i⟩ := is.one
        obtain ⟨a, rfl, hq⟩ := i.scr_inv
        exact .inl ⟨a, _, rfl, .inl hq, q _ G _ (Same.refl _) (by rw [List.length_map]; exact .int _) hk⟩
      · obtain ⟨v, rfl, i⟩ := is.one
        cases i
        exact .inr ⟨_, rfl, by rw [sizeLine_eq]; exact hk.1, q _ G _ (Same.refl _) (.int _) hk.2⟩
  | int =>
    obtain ⟨e, rfl⟩ := List.length_eq_one_iff.mp hn
    have s1 : notStar e = true := by simpa using hs
    refine wu_we (we_cint E.bi.int (fun σ G R => (h σ G R).mono fun vs G' ⟨a, ds, is, hk⟩ => ⟨a, ds, is, ?_⟩) g s1)
    have hk : bfD .int ds k := hk
    unfold bfD at hk
    split at hk
    any_goals (first | exact hk.elim | contradiction)
    · exact a1 (ci hk)
    · exact a1 (cb hk)
  | abs =>
    obtain ⟨e, rfl⟩ := List.length_eq_one_iff.mp hn
    have s1 : notStar e = true := by simpa using hs
    refine wu_we (we_abs E.bi.abs (fun σ G R => (h σ G R).mono fun vs G' ⟨a, ds, is, hk⟩ => ⟨a, ds, is, ?_⟩) g s1)
    have hk : bfD .abs ds k := hk
    unfold bfD at hk
    split at hk
    any_goals (first | exact hk.elim | contradiction)
    exact a1 (i1 hk)
  | tuple =>
    obtain ⟨e, rfl⟩ := List.length_eq_one_iff.mp hn
    have s1 : notStar e = true := by simpa using hs
    refine wu_we (we_tuple E.bi.tuple (fun σ G R => (h σ G R).mono fun vs G' ⟨a, ds, is, hk⟩ => ⟨a, ds, is, ?_⟩) g s1)
    have hk : bfD .tuple ds k := hk
    unfold bfD at hk
    split at hk
    any_goals (first | exact hk.elim | contradiction)
    exact a1 (sqk hk)
  | list =>
    obtain ⟨e, rfl⟩ := List.length_eq_one_iff.mp hn
    have s1 : notStar e = true := by simpa using hs
    refine wu_wo (wo_list E.bi.list (fun σ G R => (h σ G R).mono fun vs G' ⟨a, ds, is, hk⟩ => ⟨a, ds, is, ?_⟩) g s1)
    have hk : bfD .list ds k := hk
    unfold bfD at hk
    split at hk
    any_goals (first | exact hk.elim | contradiction)
    exact a1 (sqk hk)
  | sum =>
    obtain ⟨e, rfl⟩ := List.length_eq_one_iff.mp hn
    have s1 : notStar e = true := by simpa using hs
    exact wu_we (we_sumQ E.bi.sum ((h : Wa X H0 [e] δ _)) E.calm g s1)
  | max =>
    match es, hn with
    | [e, e2], _ =>
      have s1 : notStar e = true ∧ notStar e2 = true := by simpa using hs
      refine wu_we (we_max2 E.bi.max (fun σ G R => (h σ G R).mono fun vs G' ⟨a, ds, is, hk⟩ => ⟨a, ds, is, ?_⟩) E.calm g s1.1 s1.2)
      have hk : bfD .max ds k := hk
      unfold bfD at hk
      split at hk
      any_goals (first | exact hk.elim | contradiction)
      exact a2 (i2 hk)
  | min =>
    match es, hn with
    | [e, e2], _ =>
      have s1 : notStar e = true ∧ notStar e2 = true := by simpa using hs
      refine wu_we (we_min2 E.bi.min (fun σ G R => (h σ G R).mono fun vs G' ⟨a, ds, is, hk⟩ => ⟨a, ds, is, ?_⟩) E.calm g s1.1 s1.2)
      have hk : bfD .min ds k := hk
      unfold bfD at hk
      split at hk
      any_goals (first | exact hk.elim | contradiction)
      exact a2 (i2 hk)
  | gcd =>
    have m := E.math (by simpa [bfMath] using hm)
    match es, hn with
    | [e, e2], _ =>
      have s1 : notStar e = true ∧ notStar e2 = true := by simpa using hs
      refine wu_we (we_gcd m.1 (fun σ G R => (h σ G R).mono fun vs G' ⟨a, ds, is, hk⟩ => ⟨a, ds, is, ?_⟩) g s1.1 s1.2)
      have hk : bfD .gcd ds k := hk
      unfold bfD at hk
      split at hk
      any_goals (first | exact hk.elim | contradiction)
      exact a2 (i2 hk)
  | lcm =>
    have m := E.math (by simpa [bfMath] using hm)
    match es, hn with
    | [e, e2], _ =>
      have s1 : notStar e = true ∧ notStar e2 = true := by simpa using hs
      refine wu_we (we_lcm m.2 (fun σ G R => (h σ G R).mono fun vs G' ⟨a, ds, is, hk⟩ => ⟨a, ds, is, ?_⟩) g s1.1 s1.2)
      have hk : bfD .lcm ds k := hk
      unfold bfD at hk
      split at hk
      any_goals (first | exact hk.elim | contradiction)
      exact a2 (i2 hk)
def tyStr : Ty → String
  | .int => "int" | .bool => "bool" | .str => "str" | .list => "list" | .tuple => "tuple"
theorem isiD_II {d : D} {t : Ty} {b : Bool} {k : Bool → Prop} (h : isiD d t = some b) (q : k b) : II d (tyStr t) k := by
  cases d with
  | sq l ds => cases l <;> cases t <;> cases h <;> exact ⟨_, _, rfl, by decide +kernel, q⟩
  | int i => cases t <;> cases h <;> exact ⟨_, _, rfl, by decide +kernel, q⟩
  | bl i => cases t <;> cases h <;> exact ⟨_, _, rfl, by decide +kernel, q⟩
  | str i => cases t <;> cases h <;> exact ⟨_, _, rfl, by decide +kernel, q⟩
  | non => cases t <;> cases h <;> exact ⟨_, _, rfl, by decide +kernel, q⟩
  | _ => cases t <;> cases h
theorem we_isiD (E : Ev X C Γ) {t : Ty} {e : Expr} {x y : Str} {pos p p2 : Pos} {k : D → Prop} (hx : x = "isinstance") (hy : y = tyName t) (hg : gloB C x = true) (hgy : gloB C y = true) (hs : notStar e = true) (h : We X H0 e δ (fun d => ∃ b, isiD d t = some b ∧ k (.bl b))) :
    We X H0 (.Call (.Name x p) [e, .Name y p2] [] pos) δ k := by
  subst hx hy
  have g := (E.glo hg).1
  have g2 := (E.glo hgy).1
  cases t with
  | int => exact we_isi E.bi.isinstance (isi_arg (T := "int") E.bi.int (by decide +kernel) g2 (by decide) (by decide)) (h.mono fun d ⟨b, h1, h2⟩ => isiD_II (k := fun b => k (.bl b)) h1 h2) g hs
  | bool => exact we_isi E.bi.isinstance (isi_arg (T := "bool") E.bi.bool (by decide +kernel) g2 (by decide) (by decide)) (h.mono fun d ⟨b, h1, h2⟩ => isiD_II (k := fun b => k (.bl b)) h1 h2) g hs
  | str => exact we_isi E.bi.isinstance (isi_arg (T := "str") E.bi.str (by decide +kernel) g2 (by decide) (by decide)) (h.mono fun d ⟨b, h1, h2⟩ => isiD_II (k := fun b => k (.bl b)) h1 h2) g hs
  | list => exact we_isi E.bi.isinstance (isi_arg (T := "list") E.bi.list (by decide +kernel) g2 (by decide) (by decide)) (h.mono fun d ⟨b, h1, h2⟩ => isiD_II (k := fun b => k (.bl b)) h1 h2) g hs
  | tuple => exact we_isi E.bi.isinstance (isi_arg (T := "tuple") E.bi.tuple (by decide +kernel) g2 (by decide) (by decide)) (h.mono fun d ⟨b, h1, h2⟩ => isiD_II (k := fun b => k (.bl b)) h1 h2) g hs
end
end DL
set_option Elab.async false
set_option linter.all false
set_option maxRecDepth 100000
set_option maxHeartbeats 4000000
/-! The deep machine, part d: expressions are sound. -/
namespace DL
open PySem PySem.Spec PyProof.Rows L2
section
variable {X : Cx} {C : Ct} {Γ : List DSp} {H0 : Hp} {δ : List S} {e : Expr}
theorem po_mono {o : Option Expr} {k k' : Option Int → Prop} (h : Po X H0 o δ k) (m : ∀ u, k u → k' u) : Po X H0 o δ k' := fun σ G R => tlO_mono (h σ G R) fun u H' ⟨e, q⟩ => ⟨e, m u q⟩
theorem wi_mono2 {it : Expr} {k k' : Nat → (Nat → D) → Prop} (h : Wi X H0 it δ k) (m : ∀ n item, k n item → k' n item) : Wi X H0 it δ k' := Wi.mono h m
theorem wa_mono {es : List Expr} {k k' : List D → Prop} (h : Wa X H0 es δ k) (m : ∀ ds, k ds → k' ds) : Wa X H0 es δ k' := fun σ G R => (h σ G R).mono fun vs G' ⟨a, ds, is, q⟩ => ⟨a, ds, is, m ds q⟩
theorem wu_call (E : Ev X C Γ) {xw : List S → XD} {i : Nat} {x : Str} {es : List Expr} {pos p : Pos} {k : S → Prop} {T : DSp} (hx : Xc X H0 xw) (hf : C.fs[i]? = some ⟨x, .fn⟩) (hg : gloB C x = true) (hT : Γ[i]? = some T) (hn : es ≠ []) (hs : es.all notStar = true)
    (h : Wa X H0 es δ (fun ds => T ds k (xw δ))) : Wu X H0 (.Call (.Name x p) es [] pos) δ k := by
  obtain ⟨g, hdb⟩ := E.glo hg
  exact kn_call (E.fns i ⟨x, .fn⟩ T hf hT) hx g hdb hn hs h
theorem ixN_D {d : D} {n : Nat} {k : D → Prop} (h : ixN' d n k) : ixD d (.int (n : Int)) k := by
  cases d with
  | sq l ds =>
    have h : (match ds[n]? with | some d => k d | none => False) := h
    cases hn : ds[n]? with
    | none => rw [hn] at h; exact h.elim
    | some d => rw [hn] at h; exact ⟨d, atI_nat hn, h⟩
  | str z =>
    obtain ⟨c, ⟨h1, h2⟩, h3⟩ := h
    exact ⟨c, ⟨h1, atI_nat h2⟩, h3⟩
  | _ => exact h.elim
theorem joinD_inv {s : Str} {d : D} {k : S → Prop} (h : joinD s d k) : ∃ l, ∃ ys : List Str, d = .sq l (ys.map .str) ∧ (ys.map (·.length)).sum + ys.length * s.length ≤ 16777216 ∧ k (.sh (.str (Txt.join s ys))) := by
  unfold joinD at h
  split at h
  · obtain ⟨ys, rfl, a, b⟩ := h
    exact ⟨_, ys, rfl, a, b⟩
  · exact h.elim
theorem strs_vals {K : PySem.W.Frag} {G : Hp} : ∀ {ys : List Str} {xs : List V}, IsL K G xs (ys.map D.str) → xs = ys.map V.str
  | [], xs, h => by
    cases xs with
    | nil => rfl
    | cons _ _ => cases h.1
  | y :: ys, xs, h => by
    cases xs with
    | nil => cases h.1
    | cons x xs =>
      have h0 := h.2 0 x (.str y) rfl rfl
      cases h0
      have hr : IsL K G xs (ys.map D.str) := ⟨by have := h.1; simpa using this, fun i a d e1 e2 => h.2 (i + 1) a d e1 e2⟩
      rw [strs_vals hr]; rfl
theorem wu_join {s : Str} {k0 : Nat} {p1 apos pos : Pos} {a : Expr} {k : S → Prop} (hs : notStar a = true) (hl : (apos.endLine == pos.line) = true) (h : We X H0 a δ (fun d => joinD s d k)) : Wu X H0 (.Call (.Attribute (.Constant (.str s) k0 p1) "join" apos) [a] [] pos) δ k := fun σ G R =>
  toE (pe_join pe_str pe_sem (star_of hs) rfl hl) (show (∃ b, V.str s = .str b) ∧ semE X a σ G _ from ⟨⟨s, rfl⟩, (h σ G R).mono fun v G1 ⟨e1, d, i, hd⟩ => by
    obtain ⟨l, ys, rfl, hb, hk⟩ := joinD_inv hd
    cases l with
    | true =>
      obtain ⟨p, xs, rfl, hq, hl⟩ := i.lst_inv
      rw [strs_vals hl] at hq
      exact ⟨s, p, ys, rfl, rfl, .inl (.inl hq), hb, .sh _, ⟨e1, .str _⟩, hk⟩
    | false =>
      obtain ⟨p, xs, rfl, hq, hl⟩ := i.tup_inv
      rw [strs_vals hl] at hq
      exact ⟨s, p, ys, rfl, rfl, .inr hq, hb, .sh _, ⟨e1, .str _⟩, hk⟩⟩)
theorem wo_dnew {pos : Pos} {k : S → Prop} (h : k (.ow (.dic []))) : Wu X H0 (.Dict [] [] pos) δ k := fun σ G R => toE pe_dnewK fun p hp => ⟨.ow (.dic []), NewIs.dic hp ⟨rfl, fun i x d h => by cases h⟩, h⟩
theorem isl_rg {K : PySem.W.Frag} {G : Hp} (n : Int) : IsL K G (rgV 0 n) ((List.range n.toNat).map fun i : Nat => D.int (i : Int)) := by
  refine ⟨by rw [rgV_length, List.length_map, List.length_range, Int.sub_zero], fun i x d e1 e2 => ?_⟩
  unfold rgV at e1
  rw [Int.sub_zero] at e1
  rw [List.getElem?_map] at e1 e2
  cases hr : (List.range n.toNat)[i]? with
  | none => rw [hr] at e1; cases e1
  | some j =>
    rw [hr] at e1 e2
    cases e1; cases e2
    show Is K G (.int (0 + (j : Int))) (.int (j : Int))
    rw [Int.zero_add]
    exact .int _
theorem wu_lrg {p p2 pos pos2 : Pos} {a : Expr} {k : S → Prop} (hc : X.calm = true) (hl : X.mg "list" = none) (hr : X.mg "range" = none) (gl : Gl X "list") (gr : Gl X "range") (hs : notStar a = true) (h : We X H0 a δ (fun d => lrgD d k)) : Wu X H0 (.Call (.Name "list" p) [.Call (.Name "range" p2) [a] [] pos2] [] pos) δ k := fun σ G R =>
  toE (pe_listRg hc gl hl (prg_1 gr hr pe_sem (star_of hs)) (star_of rfl)) (show semE X a σ G _ from (h σ G R).mono fun v G1 ⟨e1, d, i, hd⟩ => by
    have hd : lrgD d k := hd
    cases d with
    | int n =>
      obtain ⟨⟨h0, h1⟩, h2⟩ := hd
      cases i
      exact ⟨n, rfl, ⟨by omega, by omega, by omega, by omega, by omega⟩, fun q hq => ⟨.ow (.lst _), (NewIs.lst hq (isl_rg n)).back e1, h2⟩⟩
    | _ => exact hd.elim)
theorem tgtD_inv {is : List Nat} {d : D} {δ : List S} {k : List S → Prop} (h : tgtD is d δ k) : ∃ l ds, d = .sq l ds ∧ ds.length = is.length ∧ k (setL is ds δ) := by
  unfold tgtD at h
  split at h
  · exact ⟨_, _, rfl, h.1, h.2⟩
  · exact h.elim
theorem wu_bin {o : Bop} {op : Operator} {a b : Expr} {pos : Pos} {k : S → Prop} (h1 : bopB o op = true) (w : We X H0 a δ (fun x => We X H0 b δ (fun y => binD o x y k))) : Wu X H0 (.BinOp a op b pos) δ k := by
  unfold bopB at h1
  split at h1
  · exact wu_add w
  · exact wu_sub w
  · exact wu_mul w
  · exact wu_div w
  · exact wu_mod w
  · exact wu_pow w
  · cases h1
theorem wl_ne {a : Xe} {as : Xl} {es : List Expr} (h : chL C (.cons a as) es = true) : ∃ e r, es = e :: r ∧ chE C a e = true ∧ chL C as r = true := by
  cases es with
  | nil => rw [chL] at h; cases h
  | cons e r =>
    rw [chL] at h
    obtain ⟨h1, h2⟩ := and3 h
    exact ⟨e, r, rfl, h1, h2⟩
end
mutual
theorem so_e : ∀ a : Xe, SoE a
  | .var i => .mk <| by
    intro X C Γ H0 e E h xw δ hx
    cases e with
    | Name x p =>
      rw [chE] at h
      refine so_mk (fun c q => ?_) (fun _ => rfl)
      have q : varD δ[i]? c.fn := q
      cases hd : δ[i]? with
      | none => rw [hd] at q; exact q.elim
      | some s =>
        rw [hd] at q
        cases s with
        | sh d => exact wu_we (we_var i hd q (E.vis h))
        | _ => exact q.elim
    | _ => rw [chE] at h <;> first | cases h | (intro _ _ z; cases z)
  | .int i => .mk <| by
    intro X C Γ H0 e E h xw δ hx
    unfold chE at h
    split at h
    · obtain rfl := of_decide_eq_true h
      exact so_mk (fun c q => wu_we (we_int q)) (fun _ => rfl)
    · cases h
  | .bl i => .mk <| by
    intro X C Γ H0 e E h xw δ hx
    unfold chE at h
    split at h
    · obtain rfl := of_decide_eq_true h
      exact so_mk (fun c q => wu_we (we_bl q)) (fun _ => rfl)
    · cases h
  | .non => .mk <| by
    intro X C Γ H0 e E h xw δ hx
    unfold chE at h
    split at h
    · exact so_mk (fun c q => wu_we (we_non q)) (fun _ => rfl)
    · cases h
  | .str i => .mk <| by
    intro X C Γ H0 e E h xw δ hx
    unfold chE at h
    split at h
    · obtain rfl := of_decide_eq_true h
      exact so_mk (fun c q => wu_we (we_str q)) (fun _ => rfl)
    · cases h
  | .bin o a b => .mk <| by
    intro X C Γ H0 e E h xw δ hx
    unfold chE at h
    split at h
    · obtain ⟨h1, h⟩ := and3 h
      obtain ⟨h2, h3⟩ := and3 h
      have A := ((so_e a).run E h2 hx (xw := xw) (δ := δ)).1
      have B := ((so_e b).run E h3 hx (xw := xw) (δ := δ)).1
      refine so_mk (fun c q => ?_) (fun _ => rfl)
      have w := we_wu (k := fun x => We _ H0 _ δ fun y => binD o x y c.fn) ((A _ q).mono fun r q => we_wu (k := fun y => binD o r.d y c.fn) (B _ q))
      exact wu_bin h1 w
    · cases h
  | .rep a b => .mk <| by
    intro X C Γ H0 e E h xw δ hx
    unfold chE at h
    split at h
    · obtain ⟨h2, h3⟩ := and3 h
      have A := ((so_e a).run E h2 hx (xw := xw) (δ := δ)).1
      have B := ((so_e b).run E h3 hx (xw := xw) (δ := δ)).1
      exact so_mk (fun c q => wu_rep ((A _ q).mono fun r q => we_wu (k := fun y => repD r y c.fn) (B _ q))) (fun _ => rfl)
    · cases h
  | .neg a => .mk <| by
    intro X C Γ H0 e E h xw δ hx
    unfold chE at h
    split at h
    · have A := ((so_e a).run E h hx (xw := xw) (δ := δ)).1
      exact so_mk (fun c q => wu_neg (we_wu (k := fun x => negD x c.fn) (A _ q))) (fun _ => rfl)
    · cases h
  | .not a => .mk <| by
    intro X C Γ H0 e E h xw δ hx
    unfold chE at h
    split at h
    · have A := (so_e a).run E h hx (xw := xw) (δ := δ)
      exact ⟨fun k q => wu_not (we_wu (k := fun x => notD x k) (A.1 _ q)), fun y n q => wt_not ((A.2 _ _ q).mono fun b z => ⟨fun e => z.2 (by simpa using e), fun e => z.1 (by simpa using e)⟩)⟩
    · cases h
  | .cmp o a b => .mk <| by
    intro X C Γ H0 e E h xw δ hx
    unfold chE at h
    split at h
    · obtain ⟨h1, h⟩ := and3 h
      obtain ⟨h2, h3⟩ := and3 h
      have A := ((so_e a).run E h2 hx (xw := xw) (δ := δ)).1
      have B := ((so_e b).run E h3 hx (xw := xw) (δ := δ)).1
      refine ⟨fun k q => ?_, fun y n q => ?_⟩
      · exact wu_cmp E.units h1 (chE_mark h3) (we_wu (k := fun x => We _ H0 _ δ fun y => cmpB o x y fun r => k (.sh (.bl r))) ((A _ q).mono fun r q => we_wu (k := fun y => cmpB o r.d y fun r => k (.sh (.bl r))) (B _ q)))
      · exact wtD_cmp E.units h1 (chE_mark h3) (we_wu (k := fun x => We _ H0 _ δ fun z => cmpB o x z (tk y n)) ((A _ q).mono fun r q => we_wu (k := fun z => cmpB o r.d z (tk y n)) ((B _ q).mono fun r' q' => cmpT_B q')))
    · cases h
  | .and as => .mk <| by
    intro X C Γ H0 e E h xw δ hx
    unfold chE at h
    split at h
    · obtain ⟨h1, h2⟩ := and3 h
      have A := ((so_l as).run E h2 hx (xw := xw) (δ := δ)).2 (by intro z; rw [z] at h1; cases h1)
      exact ⟨(A _).1, fun y n q => wt_w ((A _).2.2.1 y n q)⟩
    · cases h
  | .or as => .mk <| by
    intro X C Γ H0 e E h xw δ hx
    unfold chE at h
    split at h
    · obtain ⟨h1, h2⟩ := and3 h
      have A := ((so_l as).run E h2 hx (xw := xw) (δ := δ)).2 (by intro z; rw [z] at h1; cases h1)
      exact ⟨(A _).2.1, fun y n q => wt_w ((A _).2.2.2 y n q)⟩
    · cases h
  | .ite c a b => .mk <| by
    intro X C Γ H0 e E h xw δ hx
    unfold chE at h
    split at h
    · obtain ⟨h1, h⟩ := and3 h
      obtain ⟨h2, h3⟩ := and3 h
      have T := ((so_e c).run E h1 hx (xw := xw) (δ := δ)).2
      have A := ((so_e a).run E h2 hx (xw := xw) (δ := δ)).1
      have B := ((so_e b).run E h3 hx (xw := xw) (δ := δ)).1
      exact ⟨fun k q => wu_if (T _ _ q) (A k) (B k), fun y n q => q.elim⟩
    · cases h
  | .itu c a b => .mk <| by
    intro X C Γ H0 e E h xw δ hx
    unfold chE at h
    split at h
    · obtain ⟨h1, h⟩ := and3 h
      obtain ⟨h2, h3⟩ := and3 h
      have T := ((so_e c).run E h1 hx (xw := xw) (δ := δ)).2
      have A := ((so_e a).run E h2 hx (xw := xw) (δ := δ)).1
      have B := ((so_e b).run E h3 hx (xw := xw) (δ := δ)).1
      refine ⟨fun k q => ?_, fun y n q => q.elim⟩
      obtain ⟨M, q1, q2⟩ := UpW.ex q
      exact (wu_if (T _ _ q1) (A M) (B M)).mono q2
    · cases h
  | .ix a b => .mk <| by
    intro X C Γ H0 e E h xw δ hx
    unfold chE at h
    split at h
    · obtain ⟨h2, h3⟩ := and3 h
      have A := ((so_e a).run E h2 hx (xw := xw) (δ := δ)).1
      have B := ((so_e b).run E h3 hx (xw := xw) (δ := δ)).1
      exact so_mk (fun c q => wu_we (wu_ix (we_wu (k := fun x => We _ H0 _ δ fun y => ixD x y fun d => c.fn (.sh d)) ((A _ q).mono fun r q => we_wu (k := fun y => ixD r.d y fun d => c.fn (.sh d)) (B _ q))) (chE_ix h3))) (fun _ => rfl)
    · cases h
  | .ixn a n => .mk <| by
    intro X C Γ H0 e E h xw δ hx
    unfold chE at h
    split at h
    · obtain ⟨h2, h3⟩ := and3 h
      have A := ((so_e a).run E h2 hx (xw := xw) (δ := δ)).1
      have e3 := of_decide_eq_true h3
      subst e3
      exact so_mk (fun c q => wu_we (wu_ix (we_wu (k := fun x => We _ H0 _ δ fun y => ixD x y fun d => c.fn (.sh d)) ((A _ q).mono fun r q => we_int (ixN_D q))) (fun _ _ => rfl))) (fun _ => rfl)
    · cases h
  | .fld a f => .mk <| by
    intro X C Γ H0 e E h xw δ hx
    unfold chE at h
    split at h
    · obtain ⟨h1, h⟩ := and3 h
      obtain ⟨h2, h3⟩ := and3 h
      obtain rfl := of_decide_eq_true h1
      have A := ((so_e a).run E h3 hx (xw := xw) (δ := δ)).1
      exact so_mk (fun c q => wu_fld (we_wu (k := fun x => fldD x _ fun d => c.fn (.sh d)) (A _ q)) h2) (fun _ => rfl)
    · cases h
  | .slc a lo hi => .mk <| by
    intro X C Γ H0 e E h xw δ hx
    unfold chE at h
    split at h
    · rename_i l p q p2 pos
      obtain ⟨h1, h⟩ := and3 h
      obtain ⟨h2, h3⟩ := and3 h
      have A := ((so_e a).run E h1 hx (xw := xw) (δ := δ)).1
      have P : ∀ (x : Xe) (o : Option Expr), SoE x → (match o with | none => isNonX x | some p => !isNonX x && chE C x p) = true → (isNonX x = true ∧ o = none) ∨ (isNonX x = false ∧ ∀ k : Option Int → Prop, wpe Γ x δ (xw δ) (.e fun p => optI p.d k) → Po X H0 o δ k) := fun x o so ho => by
        cases o with
        | none => exact .inl ⟨ho, rfl⟩
        | some p =>
          obtain ⟨g1, g2⟩ := and3 ho
          refine .inr ⟨by simpa using g1, fun k z => po_e ((we_wu (k := fun d => optI d k) ((so.run E g2 hx (xw := xw) (δ := δ)).1 _ z)).mono fun d z => ?_)⟩
          cases d with
          | int i => exact ⟨i, rfl, z⟩
          | _ => exact z.elim
      refine so_mk (fun c0 z => wu_slc (we_wu (k := fun x => Po X H0 p δ fun l => Po X H0 q δ fun u => slcD x l u c0.fn) ((A _ z).mono fun r z => ?_))) (fun _ => rfl)
      rcases P lo p (so_e lo) h2 with ⟨e1, rfl⟩ | ⟨e1, q1⟩
      · rcases P hi q (so_e hi) h3 with ⟨e2, rfl⟩ | ⟨e2, q2⟩
        · rw [e1, e2] at z; exact po_no (po_no z)
        · rw [e1, e2] at z; exact po_no (q2 _ z)
      · rcases P hi q (so_e hi) h3 with ⟨e2, rfl⟩ | ⟨e2, q2⟩
        · rw [e1, e2] at z
          exact po_mono (q1 (fun l => slcD r.d l none c0.fn) z) fun l y => po_no y
        · rw [e1, e2] at z
          exact po_mono (q1 (fun l => wpe Γ hi δ (xw δ) (.e fun q => optI q.d fun u => slcD r.d l u c0.fn)) z) fun l y => q2 _ y
    · cases h
  | .tup as => .mk <| by
    intro X C Γ H0 e E h xw δ hx
    unfold chE at h
    split at h
    · obtain ⟨h1, h⟩ := and3 h
      have A := ((so_l as).run E h hx (xw := xw) (δ := δ)).1
      exact so_mk (fun c q => wu_we (we_tup (wa_mono (A _ q) fun ds ⟨a, b⟩ => ⟨by rw [a]; exact Nat.le_of_ble_eq_true h1, b⟩))) (fun _ => rfl)
    · cases h
  | .lst as => .mk <| by
    intro X C Γ H0 e E h xw δ hx
    unfold chE at h
    split at h
    · obtain ⟨h1, h⟩ := and3 h
      have A := ((so_l as).run E h hx (xw := xw) (δ := δ)).1
      exact so_mk (fun c q => wu_wo (wo_lst (wa_mono (A _ q) fun ds ⟨a, b⟩ => ⟨by rw [a]; exact Nat.le_of_ble_eq_true h1, b⟩))) (fun _ => rfl)
    · cases h
  | .call i as => .mk <| by
    intro X C Γ H0 e E h xw δ hx
    unfold chE at h
    split at h
    · obtain ⟨h1, h⟩ := and3 h
      obtain ⟨h2, h⟩ := and3 h
      obtain ⟨h3, h4⟩ := and3 h
      have A := ((so_l as).run E h4 hx (xw := xw) (δ := δ)).1
      refine so_mk (fun c q => ?_) (fun _ => rfl)
      obtain ⟨T, hT⟩ := E.cov i _ (of_decide_eq_true h1)
      exact wu_call E hx (of_decide_eq_true h1) h2 hT (by intro z; rw [z] at h3; cases h3) (chL_star h4) (wa_mono (A (fun ds => callD Γ[i]? ds c.fn (xw δ)) q) fun _ z => by
        have z := z.2
        rw [hT] at z
        exact z.ex)
    · cases h
  | .con i => .mk <| by
    intro X C Γ H0 e E h xw δ hx
    cases e with
    | Name x p =>
      rw [chE] at h
      obtain ⟨h1, h2⟩ := and3 h
      refine so_mk (fun c q => ?_) (fun _ => rfl)
      obtain ⟨T, hT⟩ := E.cov i _ (of_decide_eq_true h1)
      have q : callD Γ[i]? [] c.fn (xw δ) := q
      rw [hT] at q
      exact kn_con (E.fns i _ T (of_decide_eq_true h1) hT) (E.glo h2).1 (E.glo h2).2 q.ex
    | _ => rw [chE] at h <;> first | cases h | (intro _ _ z; cases z)
  | .isc i a => .mk <| by
    intro X C Γ H0 e E h xw δ hx
    unfold chE at h
    split at h
    · obtain ⟨h1, h⟩ := and3 h
      obtain ⟨h2, h⟩ := and3 h
      obtain ⟨h3, h⟩ := and3 h
      obtain ⟨h4, h5⟩ := and3 h
      obtain rfl := of_decide_eq_true h1
      have A := ((so_e a).run E h5 hx (xw := xw) (δ := δ)).1
      refine so_mk (fun c q => ?_) (fun _ => rfl)
      obtain ⟨T, hT⟩ := E.cov i _ (of_decide_eq_true h2)
      exact kn_isc (E.fns i _ T (of_decide_eq_true h2) hT) E.bi.isinstance (E.glo h3).1 (E.glo h4).1 (E.glo h4).2 (chE_star h5) (we_wu (k := fun d => T [d] c.fn (xw δ)) ((A _ q).mono fun r z => by
        rw [hT] at z
        exact z.ex))
    · cases h
  | .mlen i a => .mk <| by
    intro X C Γ H0 e E h xw δ hx
    unfold chE at h
    split at h
    · obtain ⟨h1, h⟩ := and3 h
      obtain ⟨h2, h⟩ := and3 h
      obtain ⟨h3, h5⟩ := and3 h
      obtain rfl := of_decide_eq_true h1
      have A := ((so_e a).run E h5 hx (xw := xw) (δ := δ)).1
      refine so_mk (fun c q => ?_) (fun _ => rfl)
      obtain ⟨T, hT⟩ := E.cov i _ (of_decide_eq_true h2)
      exact kn_len (E.fns i _ T (of_decide_eq_true h2) hT) E.calm E.bi.len (E.glo h3).1 (chE_star h5) (we_wu (k := fun d => T [d] c.fn (xw δ)) ((A _ q).mono fun r z => by
        rw [hT] at z
        exact z.ex))
    · cases h
  | .meq i a b => .mk <| by
    intro X C Γ H0 e E h xw δ hx
    unfold chE at h
    split at h
    · obtain ⟨h2, h⟩ := and3 h
      obtain ⟨h4, h5⟩ := and3 h
      have A := ((so_e a).run E h4 hx (xw := xw) (δ := δ)).1
      have B := ((so_e b).run E h5 hx (xw := xw) (δ := δ)).1
      obtain ⟨T, hT⟩ := E.cov i _ (of_decide_eq_true h2)
      refine ⟨fun k q => ?_, fun y n q => ?_⟩
      · exact kn_eq (E.fns i _ T (of_decide_eq_true h2) hT) (by have := E.units; omega) (we_wu (k := fun x => We _ H0 _ δ fun y => T [x, y] k (xw δ)) ((A _ q).mono fun r q => we_wu (k := fun y => T [r.d, y] k (xw δ)) ((B _ q).mono fun r' z => by
          rw [hT] at z
          exact z.ex)))
      · exact kn_eqT (E.fns i _ T (of_decide_eq_true h2) hT) (by have := E.units; omega) (we_wu (k := fun x => We _ H0 _ δ fun z => T [x, z] (fun r => truT r.d y n) (xw δ)) ((A _ q).mono fun r q => we_wu (k := fun z => T [r.d, z] (fun r => truT r.d y n) (xw δ)) ((B _ q).mono fun r' z => by
          rw [hT] at z
          exact z.ex)))
    · cases h
  | .join s a => .mk <| by
    intro X C Γ H0 e E h xw δ hx
    unfold chE at h
    split at h
    · obtain ⟨h1, h⟩ := and3 h
      obtain ⟨h2, h⟩ := and3 h
      obtain ⟨h3, h5⟩ := and3 h
      obtain rfl := of_decide_eq_true h1
      obtain rfl := of_decide_eq_true h2
      have A := ((so_e a).run E h5 hx (xw := xw) (δ := δ)).1
      exact so_mk (fun c q => wu_join (chE_star h5) h3 (we_wu (k := fun d => joinD _ d c.fn) (A _ q))) (fun _ => rfl)
    · cases h
  | .lrg a => .mk <| by
    intro X C Γ H0 e E h xw δ hx
    unfold chE at h
    split at h
    · obtain ⟨h1, h⟩ := and3 h
      obtain ⟨h2, h⟩ := and3 h
      obtain ⟨h3, h⟩ := and3 h
      obtain ⟨h4, h5⟩ := and3 h
      obtain rfl := of_decide_eq_true h1
      obtain rfl := of_decide_eq_true h2
      have A := ((so_e a).run E h5 hx (xw := xw) (δ := δ)).1
      exact so_mk (fun c q => wu_lrg E.calm E.bi.list E.bi.range (E.glo h3).1 (E.glo h4).1 (chE_star h5) (we_wu (k := fun d => lrgD d c.fn) (A _ q))) (fun _ => rfl)
    · cases h
  | .dct0 => .mk <| by
    intro X C Γ H0 e E h xw δ hx
    unfold chE at h
    split at h
    · exact so_mk (fun c q => wo_dnew q) (fun _ => rfl)
    · cases h
  | .call0 i => .mk <| by
    intro X C Γ H0 e E h xw δ hx
    unfold chE at h
    split at h
    · obtain ⟨h1, h2⟩ := and3 h
      refine so_mk (fun c q => ?_) (fun _ => rfl)
      obtain ⟨T, hT⟩ := E.cov i _ (of_decide_eq_true h1)
      have q : callD Γ[i]? [] c.fn (xw δ) := q
      rw [hT] at q
      exact kn_call0 (E.fns i _ T (of_decide_eq_true h1) hT) hx (E.glo h2).1 (E.glo h2).2 q.ex
    · cases h
  | .bi f as => .mk <| by
    intro X C Γ H0 e E h xw δ hx
    unfold chE at h
    split at h
    · obtain ⟨h1, h⟩ := and3 h
      obtain ⟨h2, h⟩ := and3 h
      obtain ⟨h3, h⟩ := and3 h
      obtain ⟨h4, h5⟩ := and3 h
      have A := ((so_l as).run E h5 hx (xw := xw) (δ := δ)).1
      exact so_mk (fun c q => wu_bi E (of_decide_eq_true h1) h2 h3 (of_decide_eq_true h4) (chL_star h5) (wa_mono (A _ q) fun _ z => z.2)) (fun _ => rfl)
    · cases h
  | .isi a t => .mk <| by
    intro X C Γ H0 e E h xw δ hx
    unfold chE at h
    split at h
    · obtain ⟨h1, h⟩ := and3 h
      obtain ⟨h2, h⟩ := and3 h
      obtain ⟨h3, h⟩ := and3 h
      obtain ⟨h4, h5⟩ := and3 h
      have A := ((so_e a).run E h5 hx (xw := xw) (δ := δ)).1
      refine ⟨fun k q => ?_, fun y n q => ?_⟩
      · refine wu_we (we_isiD E (of_decide_eq_true h1) (of_decide_eq_true h2) h3 h4 (chE_star h5) ((we_wu (k := fun d => isiT (isiD d t) (.e k)) (A _ q)).mono fun d z => ?_))
        cases hd : isiD d t with
        | none => rw [hd] at z; exact z.elim
        | some b => rw [hd] at z; exact ⟨b, rfl, z⟩
      · refine wt_val (we_isiD E (of_decide_eq_true h1) (of_decide_eq_true h2) h3 h4 (chE_star h5) ((we_wu (k := fun d => isiT (isiD d t) (.t y n)) (A _ q)).mono fun d z => ?_)) (fun _ => rfl)
        cases hd : isiD d t with
        | none => rw [hd] at z; exact z.elim
        | some b =>
          rw [hd] at z
          cases b with
          | true => exact ⟨true, rfl, b1 ⟨fun _ => z, fun e => nomatch e⟩⟩
          | false => exact ⟨false, rfl, b1 ⟨fun e => (nomatch e), fun _ => z⟩⟩
    · cases h
  | .lc v elt it => .mk <| by
    intro X C Γ H0 e E h xw δ hx
    unfold chE at h
    split at h
    · obtain ⟨h1, h⟩ := and3 h
      obtain ⟨h2, h⟩ := and3 h
      obtain ⟨h3, h⟩ := and3 h
      obtain ⟨h4, h5⟩ := and3 h
      refine so_mk (fun c q => wu_wo (wo_lcC v (by rw [E.N]; exact E.nd) (((so_i it).run E h4 hx (xw := xw) (δ := δ) _ q).mono fun n item z => ?_) E.calm (by rw [E.N, E.sc]; exact h1) (by rw [E.N]; exact of_decide_eq_true h2) (fun cl C' => by
        show (relS _ _).names.lookup _ = _ ∨ ((relS _ _).names.lookup _ = _ ∧ _)
        rw [E.sc]
        exact of_decide_eq_true h3) (chI_set h4 _))) (fun _ => rfl)
      obtain ⟨R, a, b, c⟩ := z
      exact ⟨R, a, fun i hi s hh C' cl fp => we_wu (k := R i) (((so_e elt).run (E.blk) h5 (xw := fun _ => noX) (δ := δ.set v (.sh (item i))) xc0).1 _ (b i hi)), c⟩
    · cases h
  | .lcf v elt it c => .mk <| by
    intro X C Γ H0 e E h xw δ hx
    unfold chE at h
    split at h
    · obtain ⟨h1, h⟩ := and3 h
      obtain ⟨h2, h⟩ := and3 h
      obtain ⟨h3, h⟩ := and3 h
      obtain ⟨h4, h⟩ := and3 h
      obtain ⟨h5, h6⟩ := and3 h
      refine so_mk (fun c0 q => wu_wo (wo_lcf v (by rw [E.N]; exact E.nd) (((so_i it).run E h4 hx (xw := xw) (δ := δ) _ q).mono fun n item z => ?_) E.calm (by rw [E.N, E.sc]; exact h1) (by rw [E.N]; exact of_decide_eq_true h2) (fun cl C' => by
        show (relS _ _).names.lookup _ = _
        rw [E.sc]
        exact of_decide_eq_true h3) (chI_set h4 _))) (fun _ => rfl)
      obtain ⟨t, g, a, b, c'⟩ := z
      refine ⟨t, g, a, fun i hi s hh C' cl fp => (((so_e c).run (E.blk) h6 (xw := fun _ => noX) (δ := δ.set v (.sh (item i))) xc0).2 _ _ (b i hi)).mono fun r z => ?_, c'⟩
      have zz : r = t (item i) ∧ (r = true → wpe Γ elt (δ.set v (.sh (item i))) noX (.e fun r => r.d = g (item i))) := by
        cases r with
        | true => exact z.1 rfl
        | false => exact z.2 rfl
      exact ⟨zz.1, fun hr s2 hh2 C2 cl2 fp2 => we_wu (k := fun e => e = g (item i)) (((so_e elt).run (E.blk) h5 (xw := fun _ => noX) (δ := δ.set v (.sh (item i))) xc0).1 _ (zz.2 hr))⟩
    · cases h
  | .lct is elt it => .mk <| by
    intro X C Γ H0 e E h xw δ hx
    unfold chE at h
    split at h
    · obtain ⟨h1, h⟩ := and3 h
      obtain ⟨h2, h⟩ := and3 h
      obtain ⟨h3, h⟩ := and3 h
      obtain ⟨h4, h5⟩ := and3 h
      refine so_mk (fun c q => wu_wo (wo_lct (is := is) (by rw [E.N]; exact E.nd) (((so_i it).run E h4 hx (xw := xw) (δ := δ) _ q).mono fun n item z => ?_) E.calm (by rw [E.N, E.sc]; exact h1) (of_decide_eq_true h2) (by rw [E.N, E.sc]; exact h3) (chI_set h4 _))) (fun _ => rfl)
      obtain ⟨R, a, b, c⟩ := z
      refine ⟨R, a, fun i hi => ?_, c⟩
      obtain ⟨l0, ds, e1, e2, q2⟩ := tgtD_inv (b i hi)
      exact ⟨l0, ds, e1, e2, fun s hh C' cl fp => we_wu (k := R i) (((so_e elt).run (E.blk) h5 (xw := fun _ => noX) (δ := setL is ds δ) xc0).1 _ q2)⟩
    · cases h
  | .lc2 v v2 elt it a => .mk <| by
    intro X C Γ H0 e E h xw δ hx
    unfold chE at h
    split at h
    · obtain ⟨h1, h⟩ := and3 h
      obtain ⟨h2, h⟩ := and3 h
      obtain ⟨h3, h⟩ := and3 h
      obtain ⟨h4, h⟩ := and3 h
      obtain ⟨h5, h⟩ := and3 h
      obtain ⟨h6, h7⟩ := and3 h
      obtain ⟨n1, n2, n3⟩ := of_decide_eq_true h2
      obtain ⟨l1, l2, rfl⟩ := of_decide_eq_true h3
      obtain ⟨g1, _⟩ := and3 h4
      refine so_mk (fun c q => wu_wo (wo_lc2 v v2 (by rw [E.N]; exact E.nd) (((so_i it).run E h5 hx (xw := xw) (δ := δ) _ q).mono fun n item z => ?_) E.calm (by rw [E.N, E.sc]; exact h1) (by rw [E.N]; exact n1) (by rw [E.N]; exact n2) (by rw [E.sc]; exact l1) (by rw [E.sc]; exact l2) n3 E.bi.range (by rw [E.sc]; exact of_decide_eq_true g1) (chE_star h7) (chI_set h5 _))) (fun _ => rfl)
      obtain ⟨m, g, b, d, k⟩ := z
      exact ⟨m, g, b, fun i hi => ⟨fun s hh C' cl fp => we_wu (k := fun d => ∃ j : Int, d = .int j ∧ (-(2 ^ 62) ≤ j ∧ j < 2 ^ 62) ∧ m i = j.toNat) (((so_e a).run (E.blk) h7 (xw := fun _ => noX) (δ := (two_ v v2 δ).set v (.sh (item i))) xc0).1 _ (d i hi).1), fun j hj s hh C' cl fp => we_wu (k := fun e => e = g i j) (((so_e elt).run (E.blk) h6 (xw := fun _ => noX) (δ := ((two_ v v2 δ).set v (.sh (item i))).set v2 (.sh (.int (j : Int)))) xc0).1 _ ((d i hi).2 j hj))⟩, k⟩
    · cases h
theorem so_l : ∀ as : Xl, SoL as
  | .nil => .mk <| by
    intro X C Γ H0 es E h xw δ hx
    rw [chL, List.isEmpty_iff] at h
    subst h
    exact ⟨fun k q => wa_nil ⟨rfl, q⟩, fun z => absurd rfl z⟩
  | .cons a as => .mk <| by
    intro X C Γ H0 es E h xw δ hx
    obtain ⟨e, r, rfl, h1, h2⟩ := wl_ne h
    have A := (so_e a).run E h1 hx (xw := xw) (δ := δ)
    have B := (so_l as).run E h2 hx (xw := xw) (δ := δ)
    refine ⟨fun k q => wa_cons (we_wu (k := fun d => Wa _ H0 r δ fun ds => (d :: ds).length = (e :: r).length ∧ k (d :: ds)) ((A.1 _ q).mono fun x q => wa_mono (B.1 _ q) fun ds z => ⟨by rw [List.length_cons, List.length_cons, z.1], z.2⟩)) (chE_star h1), fun _ pos => ?_⟩
    cases as with
    | nil =>
      rw [chL, List.isEmpty_iff] at h2
      subst h2
      exact ⟨fun k q => wu_one (A.1 k q), fun k q => wu_one (A.1 k q), fun y n q => ww_and1 (A.2 y n q), fun y n q => ww_or1 (A.2 y n q)⟩
    | cons a' as' =>
      obtain ⟨e', r', rfl, h3, h4⟩ := wl_ne h2
      obtain ⟨b1', b2', b3', b4'⟩ := B.2 (by simp) pos
      refine ⟨fun k q => wu_and ((A.1 _ q).mono fun x q => ?_), fun k q => wu_or ((A.1 _ q).mono fun x q => ?_), fun y n q => ww_and ((A.2 _ _ q).mono fun b z => ⟨fun hb => b3' _ _ (z.1 hb), fun hb => ⟨fun e => (nomatch e), fun _ => z.2 hb⟩⟩), fun y n q => ww_or ((A.2 _ _ q).mono fun b z => ⟨fun hb => b4' _ _ (z.2 hb), fun hb => ⟨fun _ => z.1 hb, fun e => nomatch e⟩⟩)⟩
      · cases hd : x.d with
        | bl r => rw [hd] at q; exact ⟨fun hr => b1' k (q.1 hr), q.2⟩
        | _ => rw [hd] at q; exact q.elim
      · cases hd : x.d with
        | bl r => rw [hd] at q; exact ⟨q.1, fun hr => b2' k (q.2 hr)⟩
        | _ => rw [hd] at q; exact q.elim
theorem so_i : ∀ a : Xi, SoI a
  | .rng a => .mk <| by
    intro X C Γ H0 e E h xw δ hx k q
    unfold chI at h
    split at h
    · obtain ⟨h1, h⟩ := and3 h
      obtain ⟨h2, h3⟩ := and3 h
      obtain rfl := of_decide_eq_true h1
      have A := ((so_e a).run E h3 hx (xw := xw) (δ := δ)).1
      refine wi_rng E.bi.range (wa_cons (we_wu (k := fun d => Wa _ H0 [] δ fun ds => A1 (d :: ds) _) ((A _ q).mono fun r z => wa_nil (a1 ?_))) (chE_star h3)) (E.glo h2).1 (chE_star h3)
      cases hd : r.d with
      | int n => rw [hd] at z; exact i1 z
      | _ => rw [hd] at z; exact z.elim
    · cases h
  | .rng2 a b => .mk <| by
    intro X C Γ H0 e E h xw δ hx k q
    unfold chI at h
    split at h
    · obtain ⟨h1, h⟩ := and3 h
      obtain ⟨h2, h⟩ := and3 h
      obtain ⟨h3, h4⟩ := and3 h
      obtain rfl := of_decide_eq_true h1
      have A := ((so_e a).run E h3 hx (xw := xw) (δ := δ)).1
      have B := ((so_e b).run E h4 hx (xw := xw) (δ := δ)).1
      refine wi_rng2 E.bi.range (wa_cons (we_wu (k := fun d => Wa _ H0 _ δ fun ds => A2 (d :: ds) _) ((A _ q).mono fun r z => wa_cons (we_wu (k := fun d => Wa _ H0 [] δ fun ds => A2 (r.d :: d :: ds) _) ((B _ z).mono fun r' z' => wa_nil (a2 ?_))) (chE_star h4))) (chE_star h3)) (E.glo h2).1 (chE_star h3) (chE_star h4)
      cases hd : r.d with
      | int n =>
        rw [hd] at z'
        cases hd' : r'.d with
        | int m => rw [hd'] at z'; exact i2 z'
        | _ => rw [hd'] at z'; exact z'.elim
      | _ => rw [hd] at z'; exact z'.elim
    · cases h
  | .sq a => .mk <| by
    intro X C Γ H0 e E h xw δ hx k q
    rw [chI] at h
    exact wi_seq (we_wu (((so_e a).run E h hx (xw := xw) (δ := δ)).1 _ q))
end
end DL
set_option Elab.async false
set_option linter.all false
set_option maxRecDepth 100000
set_option maxHeartbeats 4000000
/-! The deep machine, part e: statements. -/
namespace DL
open PySem PySem.Spec PyProof.Rows L2
theorem Vw.trans {a b : List S} (h : Vw a b) : ∀ {c : List S}, Vw b c → Vw a c := by
  induction h with
  | nil => intro c h2; exact h2
  | keep _ ih => intro c h2; cases h2 with
    | keep h3 => exact .keep (ih h3)
    | drop h3 => exact .drop (ih h3)
    | bor h3 => exact .bor (ih h3)
  | drop _ ih => intro c h2; cases h2 with
    | keep h3 => exact .drop (ih h3)
    | drop h3 => exact .drop (ih h3)
  | bor _ ih => intro c h2; cases h2 with
    | keep h3 => exact .bor (ih h3)
    | drop h3 => exact .drop (ih h3)
theorem vw_bor1 {i : Nat} {δ : List S} : Vw δ (bor1 i δ) := by
  unfold bor1
  split
  · rename_i o e; exact Vw.borAt e
  · exact Vw.refl _
theorem vw_bor : ∀ {bs : List Nat} {δ : List S}, Vw δ (bor bs δ)
  | [], δ => Vw.refl _
  | i :: is, δ => vw_bor1.trans (vw_bor (bs := is))
theorem vw_no : ∀ {δ : List S} {i : Nat}, Vw δ (δ.set i .no)
  | [], _ => .nil
  | s :: r, 0 => .drop (Vw.refl r)
  | s :: r, i + 1 => .keep (vw_no (i := i))
theorem vw_drp : ∀ {dd : List Nat} {δ : List S}, Vw δ (drp dd δ)
  | [], δ => Vw.refl _
  | i :: is, δ => vw_no.trans (vw_drp (dd := is))
theorem FlatN.isP {K : PySem.W.Frag} {H : Hp} {ps : List Addr} {d : D} (no : ∀ p ∈ ps, ∀ ys, ¬ Rd H p (.tup ys)) (f : FlatN d) : ∀ {v : V}, Is K H v d → Is K (cut H ps) v d := by
  induction f with
  | flat f => intro v h; exact h.flat f
  | tup _ ih =>
    intro v h
    obtain ⟨a, xs, rfl, h1, il⟩ := h.tup_inv
    refine .mkT ?_ (IsL.of_get il.1 fun i x d hx hd => ih i d hd (il.2 i x d hx hd))
    rcases h1 with z | z
    · refine .inl ?_
      have na : a ∉ ps := fun hp => no a hp xs z
      rcases z with z | ⟨ob, z⟩
      · exact .inl (by rw [cut_out na]; exact z)
      · exact .inr ⟨ob, by rw [cut_out na]; exact z⟩
    · exact .inr z
section
variable {K : PySem.W.Frag} {X : Cx} {H0 B H G : Hp} {σ : L2.St} {δ δ' : List S} {own : List (List Addr)} {v : V} {r : S} {e c : Expr} {pos p : Pos}
theorem Rel.notup (R : Rel K B σ H δ own) : ∀ p ∈ own.flatten, ∀ ys, ¬ Rd H p (.tup ys) := fun p hp ys z => by
  rcases R.owned p hp with ⟨_, e⟩ | ⟨_, e⟩ | ⟨_, _, _, e, _⟩ | ⟨_, _, _, e, _⟩
  all_goals (rcases z with z | ⟨_, z⟩ <;> rw [e] at z <;> cases z)
theorem Rel.noins (R : Rel K B σ H δ own) (ni : noIns δ = true) : ∀ p ∈ own.flatten, (∃ xs, H p = some (.lst xs)) ∨ ∃ kvs, H p = some (.dK kvs) := fun p hp => by
  obtain ⟨l, hl, hpl⟩ := List.mem_flatten.mp hp
  obtain ⟨i, hi⟩ := List.mem_iff_getElem?.mp hl
  have h1 : i < own.length := (List.getElem?_eq_some_iff.mp hi).1
  have h2 : i < δ.length := by rw [← R.len2]; exact h1
  obtain ⟨x, l', _, e2, h⟩ := R.idx (List.getElem?_eq_getElem h2)
  rw [hi] at e2
  cases e2
  have hm := List.all_eq_true.mp ni _ (List.getElem_mem h2)
  cases hs : δ[i] with
  | no =>
    rw [hs] at h
    have h : l = [] := h
    rw [h] at hpl; cases hpl
  | sh d =>
    rw [hs] at h
    have h : l = [] ∧ _ := h
    rw [h.1] at hpl; cases hpl
  | ow o =>
    rw [hs] at h hm
    obtain ⟨v, _, h⟩ := h
    cases o with
    | lst ds =>
      obtain ⟨q, xs, _, rfl, e, _⟩ := h
      rw [List.mem_singleton.mp hpl]
      exact .inl ⟨xs, e⟩
    | dic kds =>
      obtain ⟨q, xs, _, rfl, e, _⟩ := h
      rw [List.mem_singleton.mp hpl]
      exact .inr ⟨xs, e⟩
    | tr ts => exact .inl (TrIs.lst_at _ v l h p hpl)
    | ins C gs => cases hm
    | self a C ks gs => cases hm
theorem FlatI.is {ps : List Addr} {d : D} (no : ∀ p ∈ ps, (∃ xs, H p = some (.lst xs)) ∨ ∃ kvs, H p = some (.dK kvs)) (f : FlatI d) : ∀ {v : V}, Is K H v d → Is K (cut H ps) v d := by
  induction f with
  | flat f => intro v h; exact h.flat f
  | tup _ ih =>
    intro v h
    obtain ⟨a, xs, rfl, h1, il⟩ := h.tup_inv
    refine .mkT ?_ (IsL.of_get il.1 fun i x d hx hd => ih i d hd (il.2 i x d hx hd))
    rcases h1 with z | z
    · refine .inl ?_
      rcases z with z | ⟨ob, z⟩
      · have na : a ∉ ps := fun hp => by
          rcases no a hp with ⟨_, e⟩ | ⟨_, e⟩ <;> rw [e] at z <;> cases z
        exact .inl (by rw [cut_out na]; exact z)
      · have na : a ∉ ps := fun hp => by
          rcases no a hp with ⟨_, e⟩ | ⟨_, e⟩ <;> rw [e] at z <;> cases z
        exact .inr ⟨ob, by rw [cut_out na]; exact z⟩
    · exact .inr z
  | ins _ ih =>
    intro v h
    cases h with
    | ins c hH hk hf =>
      rename_i a dx fs
      have na : a ∉ ps := fun hp => by
        rcases no a hp with ⟨_, e⟩ | ⟨_, e⟩ <;> rw [e] at hH <;> cases hH
      exact .ins c (by rw [cut_out na]; exact hH) hk fun i x d hx hd => ih i d hd (hf i x d hx hd)
/-- a value has come: it may be put into any slot -/
def PutOk (K : PySem.W.Frag) (B : Hp) (σ : L2.St) (H : Hp) (δ : List S) (v : V) (r : S) : Prop := ∀ i b, ∃ own', Rel K B (σ.set i (some v)) H (δ.set i (putS b r)) own'
theorem put_sh {d : D} (R : Rel K B σ H δ own) (h : Is K (cut H own.flatten) v d) : PutOk K B σ H δ v (.sh d) := fun i b => by
  cases b with
  | true => exact ⟨_, R.setSh h⟩
  | false => exact ⟨_, R.setSh h⟩
theorem put_ow {o : Ow} {G1 : Hp} {l0 : List Addr} (R : Rel K B σ H δ own) (e : Ex (cut H own.flatten) (cut G1 l0)) (n : ∀ a ∈ own.flatten, G1 a = none) (nd : l0.Nodup) (h : OwIs K G1 (cut G1 l0) v l0 o) : PutOk K B σ (mrg H own.flatten G1) δ v (.ow o) := fun i b => by
  cases b with
  | true => exact ⟨_, R.setOw e n nd h⟩
  | false =>
    have R' := R.step (e.trans cut_ex) n
    exact ⟨_, R'.setSh (by rw [cut_mrg n]; exact h.is cut_ex)⟩
theorem put_ok (R : Rel K B σ H δ own) (n : ∀ a ∈ own.flatten, G a = none) (i : RetIs K (cut H own.flatten) v G r) :
    Rel K B σ (mrg H own.flatten G) δ own ∧ PutOk K B σ (mrg H own.flatten G) δ v r ∧ RetIs K B v (mrg H own.flatten G) r ∧ Is K (cut (mrg H own.flatten G) own.flatten) v r.d := by
  have R' := R.step i.ex.1 n
  cases r with
  | no => exact i.elim
  | sh d => exact ⟨R', put_sh R' (by rw [cut_mrg n]; exact i.2), ⟨R'.toEx, i.2.mono fun a o ha => by
      rw [mrg_out fun z => by rw [n a z] at ha; cases ha]; exact ha⟩, by rw [cut_mrg n]; exact i.2⟩
  | ow o =>
    obtain ⟨l, hl, fr, ee, nd⟩ := i
    have eG : Ex G (mrg H own.flatten G) := fun a u ha => by
      rw [mrg_out fun z => by rw [n a z] at ha; cases ha]
      exact ha
    refine ⟨R', put_ow R ee n nd hl, ?_, by rw [cut_mrg n]; exact hl.is cut_ex⟩
    have dis : ∀ a ∈ l, mrg H own.flatten G a = G a := fun a ha => by
      obtain ⟨u, hu⟩ := (hl.at (fun a h => h) a ha).some
      rw [hu]
      exact eG a u hu
    have e2 : Ex (cut G l) (cut (mrg H own.flatten G) l) := cut_mono eG
    exact ⟨l, hl.mono e2 dis, fun a ha => R.ex.free (fr a ha), (R.ex.trans ee).trans e2, nd⟩
theorem Wu.at {k : S → Prop} (h : Wu X H0 e δ k) (hB : Ex H0 B) (R : Rel X.K B σ H δ own) : semE X e σ H (fun v H' => ∃ r, Rel X.K B σ H' δ own ∧ PutOk X.K B σ H' δ v r ∧ RetIs X.K B v H' r ∧ Is X.K (cut H' own.flatten) v r.d ∧ k r) :=
  (semE.frame R.owned (h σ _ (R.toS.weak hB))).mono fun v H' ⟨G, eq, n, r, i, q⟩ => by
    subst eq
    obtain ⟨a, b, c, d⟩ := put_ok R n i
    exact ⟨r, a, b, c, d, q⟩
/-- while slots were lent -/
theorem Wu.keep {bs : List Nat} {k : S → List S → Prop} (h : Wu X H0 e (bor bs δ) (fun r => keepW bs r δ (k r))) (hB : Ex H0 B) (R : Rel X.K B σ H δ own) :
    semE X e σ H (fun v H' => ∃ r δ1 own1, Rel X.K B σ H' δ1 own1 ∧ Is X.K (cut H' own1.flatten) v r.d ∧ PutOk X.K B σ H' δ1 v r ∧ k r δ1) := by
  cases bs with
  | nil => exact (Wu.at (k := fun r => k r δ) h hB R).mono fun v H' ⟨r, a, b, c, d, q⟩ => ⟨r, δ, own, a, d, b, q⟩
  | cons j js =>
    obtain ⟨R', sub⟩ := R.view (vw_bor (bs := j :: js))
    refine (semE.frame R'.owned (h σ _ (R'.toS.weak hB))).mono fun v H' ⟨G, eq, n, r, i, q⟩ => ?_
    obtain ⟨a, b, c, d⟩ := put_ok R' n i
    rw [← eq] at a b c d
    rcases q.ex with ⟨sf, q⟩ | q | ⟨⟨dd, er, sf⟩, ni, q⟩
    rotate_left 2
    · subst er
      have gr : Ex H H' := by rw [eq]; exact mrg_ex i.ex.1
      have RH : Rel X.K B σ H' δ own := R.grow gr
      have iv : Is X.K (cut H' own.flatten) v dd := FlatI.is (RH.noins ni) sf (d.mono cut_ex)
      exact ⟨.sh dd, δ, own, RH, iv, put_sh RH iv, q⟩
    · refine ⟨r, δ, own, ?_⟩
      have gr : Ex H H' := by rw [eq]; exact mrg_ex i.ex.1
      have RH : Rel X.K B σ H' δ own := R.grow gr
      cases r with
      | no => exact sf.elim
      | sh dd =>
        have iv : Is X.K (cut H' own.flatten) v dd := FlatN.is RH sf (d.mono cut_ex)
        exact ⟨RH, iv, put_sh RH iv, q⟩
      | ow o =>
        cases o with
        | lst ds =>
          obtain ⟨l, ⟨p, xs, rfl, rfl, hp, il⟩, fr, ee, nd⟩ := i
          have hpG : H' p = some (.lst xs) := by
            rw [eq, mrg_out (fun z => by rw [n p z] at hp; cases hp)]
            exact hp
          have hpo : p ∉ own.flatten := fun z => by
            obtain ⟨u, hu⟩ := (R.owned p z).some
            have := fr p (by simp)
            by_cases hz : p ∈ (keepOw own (bor (j :: js) δ)).flatten
            · rw [n p hz] at hp; cases hp
            · rw [cut_out hz, hu] at this; cases this
          have same : ∀ a ∈ own.flatten, H' a = H a := fun a ha => by
            obtain ⟨u, hu⟩ := (R.owned a ha).some
            rw [hu]
            exact gr a u hu
          have eqm : mrg H own.flatten (cut H' own.flatten) = H' := by
            funext a
            by_cases z : a ∈ own.flatten
            · rw [mrg_in z, same a z]
            · rw [mrg_out z, cut_out z]
          have noT : ∀ q ∈ p :: own.flatten, ∀ ys, ¬ Rd H' q (.tup ys) := fun q hq ys z => by
            rcases List.mem_cons.mp hq with rfl | hq
            · rcases z with z | ⟨_, z⟩ <;> rw [hpG] at z <;> cases z
            · exact RH.notup q hq ys z
          have cc : cut (cut H' own.flatten) [p] = cut H' (p :: own.flatten) := by
            funext a
            by_cases z : a = p
            · subst z; rw [cut_in (by simp), cut_in (by simp)]
            · by_cases y : a ∈ own.flatten
              · rw [cut_out (by simpa using z), cut_in y, cut_in (by simp [y])]
              · rw [cut_out (by simpa using z), cut_out y, cut_out (by simp [z, y])]
          have items : IsL X.K (cut (cut H' own.flatten) [p]) xs ds := by
            rw [cc]
            refine IsL.of_get il.1 fun i x d hx hd => FlatN.isP noT (sf d (List.mem_of_getElem? hd)) ?_
            refine (il.2 i x d hx hd).mono ((cut_ex).trans ?_)
            rw [eq]
            intro a u ha
            rw [mrg_out fun z => by rw [n a z] at ha; cases ha]
            exact ha
          have ow : OwIs X.K (cut H' own.flatten) (cut (cut H' own.flatten) [p]) (.ref p) [p] (.lst ds) := ⟨p, xs, rfl, rfl, by rw [cut_out hpo]; exact hpG, items⟩
          have e1 : Ex (cut H own.flatten) (cut (cut H' own.flatten) [p]) := fun a u ha => by
            obtain ⟨n1, n2⟩ := cut_some ha
            have : a ≠ p := by
              rintro rfl
              have hz := fr a (by simp)
              by_cases hk : a ∈ (keepOw own (bor (j :: js) δ)).flatten
              · exact n1 (sub a hk)
              · rw [cut_out hk, n2] at hz; cases hz
            rw [cut_out (by simpa using this), cut_out n1]
            exact gr a u n2
          have P := put_ow R e1 (fun a ha => cut_in ha) nd ow
          rw [eqm] at P
          exact ⟨RH, ow.is cut_ex, P, q⟩
        | dic _ => exact sf.elim
        | ins _ _ => exact sf.elim
        | tr _ => exact sf.elim
        | self _ _ _ _ => exact sf.elim
    · exact ⟨r, bor (j :: js) δ, _, a, d, b, q⟩
end
/-- the ends, as the lower judgements read them -/
def toEn (E : Ed) : En := { nx := E.nx, rt := fun _ r => E.rt r, bk := E.bk, ct := E.ct }
section
variable {X : Cx} {C : Ct} {Γ : List DSp} {H0 : Hp} {δ δ' : List S} {e c it : Expr} {pos p : Pos} {E : En} {sts : List Stmt}
theorem ws_setU (i : Nat) {x : Str} {pos' : Pos} {own : Bool} {bs : List Nat} (hN : X.N.Nodup) (h : Wu X H0 e (bor bs δ) (fun r => keepW bs r δ fun δ' => E.nx (δ'.set i (putS own r)))) (hi : X.N[i]? = some x) (hx : Loc X.env.scope x) (hs : swapsWith e (some (.Name x pos')) pos.line X.env = pure false) (hf : X.fn x = true ∨ X.env.scope.names.lookup x = some .local) :
    Ws X H0 (.Assign [.Name x pos'] e pos) δ E := fun B σ H ow hB R => toS (ps_set hN hi hx pe_sem hs hf) ((Wu.keep (k := fun r δ' => E.nx (δ'.set i (putS own r))) h hB R).mono fun v H' ⟨r, δ1, own1, R1, iv, P, q⟩ => by
  obtain ⟨own', R'⟩ := P i own
  exact ⟨_, own', R', q⟩)
theorem IsF.put {K : PySem.W.Frag} {G : Hp} {f : Str} {v : V} {d : D} (i : Is K G v d) : ∀ {fs : List (Str × V)} {gs : List (Str × D)}, IsF K G fs gs → IsF K G (putF f v fs) (putFD f d gs)
  | [], [], h => ⟨rfl, fun j x y a b => by
    cases j with
    | zero => cases a; cases b; exact i
    | succ j => cases a⟩
  | [], _ :: _, h => by cases h.1
  | _ :: _, [], h => by cases h.1
  | (g, x) :: fs, (g', y) :: gs, h => by
    have h1 := h.1
    simp only [List.map_cons, List.cons.injEq] at h1
    obtain ⟨rfl, h2⟩ := h1
    have i0 : Is K G x y := h.2 0 (g, x) (g, y) rfl rfl
    have ir : IsF K G fs gs := ⟨h2, fun j x d q1 q2 => h.2 (j + 1) x d q1 q2⟩
    unfold putF putFD
    by_cases e : g = f
    · rw [if_pos e, show (g == f) = true from by rw [e]; exact beq_self_eq_true f]
      refine ⟨by simp only [List.map_cons, h2], fun j x' d' q1 q2 => ?_⟩
      cases j with
      | zero => cases q1; cases q2; exact i
      | succ j => exact ir.2 j x' d' q1 q2
    · rw [if_neg e, show (g == f) = false from beq_eq_false_iff_ne.mpr e]
      obtain ⟨p1, p2⟩ := IsF.put (f := f) i ir
      refine ⟨by simp only [List.map_cons, p1], fun j x' d' q1 q2 => ?_⟩
      cases j with
      | zero => cases q1; cases q2; exact i0
      | succ j => exact p2 j x' d' q1 q2
theorem putFD_keys {f g : Str} {d : D} : ∀ {gs : List (Str × D)}, g ∈ (putFD f d gs).map (·.1) → g = f ∨ g ∈ gs.map (·.1)
  | [], h => by simpa [putFD] using h
  | (x, y) :: r, h => by
    unfold putFD at h
    split at h
    · right; exact h
    · rw [List.map_cons] at h
      rcases List.mem_cons.mp h with z | z
      · right; rw [z]; simp
      · rcases putFD_keys z with w | w
        · exact .inl w
        · right; exact List.mem_cons_of_mem _ w
theorem fstD_inv {s : Option S} {f : Str} {d : D} {k : Ow → Prop} (h : fstD s f d k) : ∃ a C ks gs, s = some (.ow (.self a C ks gs)) ∧ ks.elem f = true ∧ Nat.blt gs.length 1000 = true ∧ k (.self a C ks (putFD f d gs)) := by
  unfold fstD at h
  split at h
  · exact ⟨_, _, _, _, rfl, h.1.1, h.1.2, h.2⟩
  · exact h.elim
theorem ws_fstU (i : Nat) {x f : Str} {p1 p2 : Pos} {bs : List Nat} (h : Wu X H0 e (bor bs δ) (fun r => keepW bs r δ fun δ' => fstD δ'[i]? f r.d fun o => E.nx (δ'.set i (.ow o)))) (hp : PE X (.Name x p1) (tVar i))
    (hs : swapsWith e (some (.Attribute (.Name x p1) f p2)) pos.line X.env = pure false) : Ws X H0 (.Assign [.Attribute (.Name x p1) f p2] e pos) δ E := fun B σ H own hB R =>
  toS (ps_fld hp pe_sem hs) ((Wu.keep (k := fun r δ' => fstD δ'[i]? f r.d fun o => E.nx (δ'.set i (.ow o))) h hB R).mono fun v H' ⟨r, δ1, own1, R1, iv, P, q⟩ => by
    have q : fstD δ1[i]? f r.d fun o => E.nx (δ1.set i (.ow o)) := q
    obtain ⟨a, C, ks, gs, hd, q1, q2, q3⟩ := fstD_inv q
    · obtain ⟨x0, l, h1, h2, v0, rfl, ⟨c1, c2⟩, dx, fs, rfl, rfl, hH, hdx, hf⟩ := R1.idx hd
      have hm : f ∈ ks := List.elem_iff.mp q1
      have hl : fs.length = gs.length := by have := congrArg List.length hf.1; simpa using this
      refine ⟨_, h1, a, C, dx, fs, rfl, hH, c1.cls, c1.no f hm, ?_, ?_⟩
      · rw [hl]; exact Nat.le_of_ble_eq_true q2
      · have hne : a ≠ dx := fun z => by rw [z, hdx] at hH; cases hH
        exact ⟨_, _, R1.write (o' := .self a C ks (putFD f r.d gs)) h2 (by simp) h1 ⟨⟨c1, fun g hg => (putFD_keys hg).elim (fun z => by rw [z]; exact hm) (c2 g)⟩, dx, _, rfl, rfl, upd_same, by rw [upd_ne hne.symm]; exact hdx, hf.put iv⟩, q3⟩)
theorem ws_asgU {tg : Expr} {bs : List Nat} (h : Wu X H0 e (bor bs δ) (fun r => keepW bs r δ fun δ' => Wg X H0 tg r.d δ' E.nx)) (hs : swapsWithSole [tg] e pos.line X.env = pure false) (hw : swappedStores [tg] e X.env = pure none)
    (h1 : (assignEach [tg] X.env).map (·.2) = [assign tg X.env]) : Ws X H0 (.Assign [tg] e pos) δ E := fun B σ H own hB R => toS (ps_asg pe_sem pg_sem hs hw h1) ((Wu.keep (k := fun r δ' => Wg X H0 tg r.d δ' E.nx) h hB R).mono fun v H1 ⟨r, δ1, own1, R1, iv, P, q⟩ => q B σ H1 own1 v hB R1 iv)
theorem ws_retU {bs : List Nat} (h : Wu X H0 e (bor bs δ) (fun r => retD bs r (E.rt δ))) : Ws X H0 (.Return (some e) pos) δ E := fun B σ H own hB R => by
  cases bs with
  | nil => exact toS (ps_ret pe_sem) ((Wu.at (k := fun r => E.rt δ r) h hB R).mono fun v H' ⟨r, R', P, ir, id, q⟩ => ⟨σ, δ, own, r, R', ir, q⟩)
  | cons j js =>
    obtain ⟨R', sub⟩ := R.view (vw_bor (bs := j :: js))
    refine toS (ps_ret pe_sem) ((semE.frame R'.owned (h σ _ (R'.toS.weak hB))).mono fun v H' ⟨G, eq, n, r, i, q⟩ => ?_)
    subst eq
    have q : E.rt δ r.un := q
    have gr : Ex H (mrg H (keepOw own (bor (j :: js) δ)).flatten G) := mrg_ex i.ex.1
    have eG : Ex G (mrg H (keepOw own (bor (j :: js) δ)).flatten G) := fun a u ha => by
      rw [mrg_out fun z => by rw [n a z] at ha; cases ha]
      exact ha
    have RH := R.grow gr
    cases r with
    | no => exact i.elim
    | sh d => exact ⟨σ, δ, own, .sh d, RH, ⟨RH.toEx, i.2.mono eG⟩, q⟩
    | ow o => exact ⟨σ, δ, own, .sh o.d, RH, ⟨RH.toEx, i.ex.2.mono eG⟩, q⟩
theorem ws_appU (i : Nat) {x : Str} {px apos cpos : Pos} {bs : List Nat} (h : Wu X H0 e (bor bs δ) (fun r => keepW bs r δ fun δ' => appD i r.d δ' E.nx)) (hd : ∃ ds, δ[i]? = some (.ow (.lst ds))) (hp : PE X (.Name x px) (tVar i))
    (hline : (apos.endLine == cpos.line) = true) (hs : notStar e = true) : Ws X H0 (.Expr (.Call (.Attribute (.Name x px) "append" apos) [e] [] cpos) pos) δ E := fun B σ H own hB R =>
  toS (ps_expr (pe_bm PySem.F.plainAttrs_list PySem.F.slot_list_append PySem.F.type_list_append mt_append hp (pa_cons pe_sem pa_nil (star_of hs)) rfl (few_of hs) hline (star_of hs) rfl) rfl) (by
    obtain ⟨ds0, hi⟩ := hd
    obtain ⟨x0, l, h1, h2, v, rfl, p, xs, rfl, rfl, h3, h4⟩ := R.idx hi
    refine ⟨_, h1, .inl ⟨rfl, xs, SqL.of h3⟩, (Wu.keep (k := fun r δ' => appD i r.d δ' E.nx) h hB R).mono fun w H' ⟨r, δ1, own1, R', id, P, q⟩ => ?_⟩
    unfold appD at q
    split at q
    · rename_i ds hj
      obtain ⟨q1, q2⟩ := q
      obtain ⟨x0, l, g1, g2, v', rfl, p', xs', ev, rfl, g3, g4⟩ := R'.idx hj
      rw [h1] at g1; cases g1
      have e1 : xs'.length = ds.length := g4.1
      cases ev
      refine ⟨p, xs', w, rfl, rfl, g3, Nat.lt_trans (by rw [e1]; exact q1) (by decide), _, _, R'.write (o' := .lst _) g2 (by simp) h1 ⟨p, xs' ++ [w], rfl, rfl, upd_same, g4.snoc id⟩, q2⟩
    · exact q.elim)
theorem ws_stiU (i : Nat) {x : Str} {px spos : Pos} {ix : Expr} {bs : List Nat} {k : S → List S → Prop} (h : Wu X H0 e (bor bs δ) (fun r => keepW bs r δ (k r))) (hk : ∀ r δ', k r δ' → ∃ ds, δ'[i]? = some (.ow (.lst ds)) ∧ We X H0 ix (bor bs δ') fun q => stiD i ds r.d q δ' E.nx)
    (hg : PG X (.Subscript (.Name x px) ix spos) (gSub (tVar i) (semE X ix) rSetL))
    (hs : swapsWithSole [.Subscript (.Name x px) ix spos] e pos.line X.env = pure false) (hw : swappedStores [.Subscript (.Name x px) ix spos] e X.env = pure none) : Ws X H0 (.Assign [.Subscript (.Name x px) ix spos] e pos) δ E := fun B σ H own hB R =>
  toS (ps_asg pe_sem hg hs hw rfl) ((Wu.keep (k := k) h hB R).mono fun w H1 ⟨r, δ1, own1, R1, id, P, q⟩ => by
    obtain ⟨ds, hj, q⟩ := hk r δ1 q
    obtain ⟨x0, l, h1, h2, v, rfl, p, xs, rfl, rfl, h3, h4⟩ := R1.idx hj
    obtain ⟨R', sub⟩ := R1.view (vw_bor (bs := bs))
    refine ⟨_, h1, (semE.frame R'.owned (q σ _ (R'.toS.weak hB))).mono fun n H2 ⟨G, eq, nn, e2, dn, inn, q⟩ => ?_⟩
    have q : stiD i ds r.d dn δ1 E.nx := q
    cases dn with
    | int m =>
      obtain ⟨j, ej, hjl, q2⟩ := q
      have gr : Ex H1 H2 := by rw [eq]; exact mrg_ex e2
      have R2 : Rel X.K B σ H2 δ1 own1 := R1.grow gr
      have id2 : Is X.K (cut H2 own1.flatten) w r.d := id.mono (cut_mono gr)
      obtain ⟨x0, l, g1, g2, v', rfl, p', xs', ev, rfl, g3, g4⟩ := R2.idx hj
      rw [h1] at g1; cases g1
      subst ej
      cases inn
      refine ⟨p', xs', (j : Int), j, ev, rfl, g3, ?_, _, _, R2.write (o' := .lst _) g2 (by simp) h1 ⟨p', xs'.set j w, ev, rfl, upd_same, g4.set id2⟩, q2⟩
      unfold ixN
      have e1 : xs'.length = ds.length := g4.1
      rw [if_pos (by omega), if_pos (by omega)]
      simp
    | _ => exact q.elim)
/-! loops over a list or a tuple -/
theorem ws_forQ (hp : PassesOwn (model X.prog X.w) X.A X.env X.xe) (hc : X.calm = true) {tg it : Expr} (h : Wi X H0 it δ fun n item => ∃ Iv : Nat → List S → Prop, Upto (Iv 0) δ ∧ (∀ (i : Nat) δ1, i < n → Iv i δ1 → Wg X H0 tg (item i) δ1 fun δ2 => Wb X H0 sts δ2 (turnE E (Iv (i + 1)))) ∧ (∀ δ1, Iv n δ1 → E.nx δ1))
    (hs : ∀ x, foldedSetIterable it X.env x = pure x) : Ws X H0 (.For tg it sts [] pos) δ E := fun B σ H own hB R => by
  obtain ⟨wi, hpi, fri, hw⟩ := h
  refine toS (ps_for hp hc (hpi _) pg_sem pb_sem hs) (fri σ H own.flatten _ _ R.owned (hw σ _ (R.toS.weak hB)) fun J G nn ⟨e1, n, item, ⟨Iv, h0, ht, he⟩, g⟩ => ?_)
  have ec : cut (mrg H own.flatten G) own.flatten = G := cut_mrg nn
  have hB1 : Ex B G := R.ex.trans e1
  have R0 : Rel X.K G σ (mrg H own.flatten G) δ own := by
    have := R.step e1 nn
    exact ⟨by rw [ec]; exact Same.refl _, this.len1, this.len2, this.sl, this.nd⟩
  refine ⟨fun i m σ' H' => m = n - i ∧ i ≤ n ∧ ∃ δ own', Rel X.K G σ' H' δ own' ∧ Upto (Iv i) δ, ⟨n, by simp, Nat.zero_le _, δ, own, R0, h0⟩, ?_⟩
  rintro i m σ' H' ⟨rfl, hi, δ1, own1, Ra, δ2, hv2, q⟩
  obtain ⟨j1, j2⟩ := g i H' Ra.toEx
  have Rw := (Ra.view hv2).1
  by_cases hlt : i < n
  · obtain ⟨g1, g2⟩ := j1 hlt
    refine .inr ⟨g1, fun σ' H' => ∃ δ own', Rel X.K G σ' H' δ own' ∧ Upto (Iv (i + 1)) δ, fun σ' H' z => ⟨n - (i + 1), by omega, rfl, hlt, z⟩, fun x H2 y => ?_⟩
    obtain ⟨rfl, ix⟩ := g2 x H2 y
    refine (ht i δ2 hlt q G σ' _ _ x (hB.trans hB1) Rw (ix.mono Rw.ex)).mono fun σ3 H3 ⟨δ3, own3, R3, q3⟩ => ?_
    exact (q3 _ σ3 H3 own3 (hB.trans hB1) R3).mono (fun _ _ z => z) (fun v H ⟨σ, δ, own, r, Rr, ri, qq⟩ => ⟨σ, δ, own, r, Rr.weak hB1, ri.back hB1, qq⟩) (fun σ H ⟨δ, own, Rr, qq⟩ => ⟨δ, own, Rr.weak hB1, qq⟩) (fun _ _ z => z)
  · have e : i = n := by omega
    subst e
    exact .inl ⟨j2 (Nat.le_refl _), δ2, _, Rw.weak hB1, he δ2 q⟩
/-- a loop over a tuple that was reached while slots were lent -/
theorem ws_forT {bs : List Nat} (hp : PassesOwn (model X.prog X.w) X.A X.env X.xe) (hc : X.calm = true) {tg it : Expr} (h : Wu X H0 it (bor bs δ) (fun r => keepW bs r δ fun δ' => ∃ ds, r.d = .sq false ds ∧ ∃ Iv : Nat → List S → Prop, Upto (Iv 0) δ' ∧ (∀ (i : Nat) δ1, i < ds.length → Iv i δ1 → Wg X H0 tg (ds.getD i .non) δ1 fun δ2 => Wb X H0 sts δ2 (turnE E (Iv (i + 1)))) ∧ (∀ δ1, Iv ds.length δ1 → E.nx δ1)))
    (hs : ∀ x, foldedSetIterable it X.env x = pure x) : Ws X H0 (.For tg it sts [] pos) δ E := fun B σ H own hB R => by
  refine toS (ps_for hp hc (pi_tup pe_sem) pg_sem pb_sem hs) ((Wu.keep (k := fun r δ' => ∃ ds, r.d = .sq false ds ∧ ∃ Iv : Nat → List S → Prop, Upto (Iv 0) δ' ∧ (∀ (i : Nat) δ1, i < ds.length → Iv i δ1 → Wg X H0 tg (ds.getD i .non) δ1 fun δ2 => Wb X H0 sts δ2 (turnE E (Iv (i + 1)))) ∧ (∀ δ1, Iv ds.length δ1 → E.nx δ1)) h hB R).mono fun v H1 ⟨r, δ0, own0, R1, iv, _, ds, ed, Iv, h0, ht, he⟩ => ?_)
  rw [ed] at iv
  obtain ⟨a, xs, rfl, hq, il⟩ := iv.tup_inv
  have hq1 : SqT X.K H1 a xs := Ex.sqT cut_ex hq
  refine ⟨a, rfl, ⟨xs, hq1⟩, ?_⟩
  have g := jt (K := X.K) hq il
  have hB1 : Ex B (cut H1 own0.flatten) := R1.ex
  have R0 : Rel X.K (cut H1 own0.flatten) σ H1 δ0 own0 := ⟨Same.refl _, R1.len1, R1.len2, R1.sl, R1.nd⟩
  refine ⟨fun i m σ' H' => m = ds.length - i ∧ i ≤ ds.length ∧ ∃ δ own', Rel X.K (cut H1 own0.flatten) σ' H' δ own' ∧ Upto (Iv i) δ, ⟨ds.length, by simp, Nat.zero_le _, δ0, own0, R0, h0⟩, ?_⟩
  rintro i m σ' H' ⟨rfl, hi, δ1, own1, Ra, δ2, hv2, q⟩
  obtain ⟨j1, j2⟩ := g i H' Ra.toEx
  have Rw := (Ra.view hv2).1
  by_cases hlt : i < ds.length
  · obtain ⟨g1, g2⟩ := j1 hlt
    refine .inr ⟨g1, fun σ' H' => ∃ δ own', Rel X.K (cut H1 own0.flatten) σ' H' δ own' ∧ Upto (Iv (i + 1)) δ, fun σ' H' z => ⟨ds.length - (i + 1), by omega, rfl, hlt, z⟩, fun x H2 y => ?_⟩
    obtain ⟨rfl, ix⟩ := g2 x H2 y
    refine (ht i δ2 hlt q (cut H1 own0.flatten) σ' _ _ x (hB.trans hB1) Rw (ix.mono Rw.ex)).mono fun σ3 H3 ⟨δ3, own3, R3, q3⟩ => ?_
    exact (q3 _ σ3 H3 own3 (hB.trans hB1) R3).mono (fun _ _ z => z) (fun v H ⟨σ, δ, own, r, Rr, ri, qq⟩ => ⟨σ, δ, own, r, Rr.weak hB1, ri.back hB1, qq⟩) (fun σ H ⟨δ, own, Rr, qq⟩ => ⟨δ, own, Rr.weak hB1, qq⟩) (fun _ _ z => z)
  · have e : i = ds.length := by omega
    subst e
    exact .inl ⟨j2 (Nat.le_refl _), δ2, _, Rw.weak hB1, he δ2 q⟩
end
end DL
set_option Elab.async false
set_option linter.all false
set_option maxRecDepth 100000
set_option maxHeartbeats 4000000
/-! The deep machine, part t: statements with trees. -/
namespace DL
open PySem PySem.Spec PyProof.Rows L2
section
variable {K : PySem.W.Frag} {H H' G G' H0 B : Hp} {v w : V} {t : Tr} {l : List Addr} {σ : L2.St} {δ δ' : List S} {own : List (List Addr)}
theorem RT.child {i j : Nat} {ts0 us vs' : List Tr} {π : List Nat} {root : V} {q : Addr} {vs : List V} {ts : List Tr} {ls0 : List (List Addr)} (R : RT K B σ H δ own vs ts ls0) (hi : δ[i]? = some (.ow (.tr ts0))) (hr : σ[i]? = some (some root)) (hs : subAt ts0 π = some us) (hp : AtP H root π q) (hj : us[j]? = some (.lst vs')) :
    ∃ xs q', H q = some (.lst xs) ∧ xs.length = us.length ∧ xs[j]? = some (.ref q') := by
  obtain ⟨x0, L, g1, g2, root', e3, tx⟩ := R.idx hi
  rw [hr] at g1; cases g1
  cases e3
  obtain ⟨hq, xs, ls, f1, f2, -⟩ := tr_edit (xs' := []) (us' := []) (ls' := []) π tx (nd_part (List.nodup_append.mp R.nd).1 g2) hs hp
  obtain ⟨x, l, k1, k2, p, ys, ms, e, _⟩ := trs_get f2 hj
  exact ⟨xs, p, f1, (trs_len f2).1, by rw [k1, e]⟩
end
section
variable {X : Cx} {H0 B H : Hp} {σ : L2.St} {δ δ' : List S} {own : List (List Addr)} {e o ix : Expr} {pos p : Pos} {E : En} {vs : List V} {ts : List Tr} {ls : List (List Addr)}
/-- evaluated while slots are lent; nothing is kept of it -/
theorem RT.view (R : RT X.K B σ H δ own vs ts ls) (hv : Vw δ δ') {k : D → Prop} (h : We X H0 e δ' k) (hB : Ex H0 B) : semE X e σ H (fun v H' => ∃ d, RT X.K B σ H' δ own vs ts ls ∧ Ex H H' ∧ Is X.K H' v d ∧ k d) := by
  obtain ⟨R', sub⟩ := R.rel.view hv
  refine (semE.frame R'.owned (h σ _ (R'.toS.weak hB))).mono fun v H' ⟨G, eq, n, e, d, i, q⟩ => ?_
  subst eq
  refine ⟨d, R.grow (mrg_ex e), mrg_ex e, i.mono fun a o ha => ?_, q⟩
  rw [mrg_out fun z => by rw [n a z] at ha; cases ha]
  exact ha
structure PthS (K : PySem.W.Frag) (B : Hp) (σ : L2.St) (H : Hp) (δ : List S) (own : List (List Addr)) (vs : List V) (ts : List Tr) (ls : List (List Addr)) (i : Nat) (v : V) (k : List Nat → List Tr → Prop) : Prop where
  rt : RT K B σ H δ own vs ts ls
  ex : ∃ ts0 root π q us, δ[i]? = some (.ow (.tr ts0)) ∧ σ[i]? = some (some root) ∧ v = .ref q ∧ AtP H root π q ∧ subAt ts0 π = some us ∧ k π us
/-- o is a list within the tree of slot i -/
def PthW (X : Cx) (H0 : Hp) (o : Expr) (δ : List S) (i : Nat) (k : List Nat → List Tr → Prop) : Prop := ∀ B σ H own vs ts ls, Ex H0 B → RT X.K B σ H δ own vs ts ls → semE X o σ H (fun v H' => PthS X.K B σ H' δ own vs ts ls i v k)
theorem pth_var {k : List Nat → List Tr → Prop} {x : Str} (i : Nat) {ts0 : List Tr} (hi : δ[i]? = some (.ow (.tr ts0))) (h : k [] ts0) (hp : PE X (.Name x pos) (tVar i)) : PthW X H0 (.Name x pos) δ i k := fun B σ H own vs ts ls hB R => by
  obtain ⟨x0, l, h1, h2, v, rfl, q, xs, ms, rfl, _, hq, _⟩ := R.idx hi
  exact toE hp ⟨_, h1, R, ts0, _, [], q, ts0, hi, h1, rfl, rfl, rfl, h⟩
theorem pth_sub {k : List Nat → List Tr → Prop} {i : Nat} (hv : Vw δ δ') (h : PthW X H0 o δ i fun π us => We X H0 ix δ' fun y => ∃ j : Nat, y = .int j ∧ ∃ ws, us[j]? = some (.lst ws) ∧ k (π ++ [j]) ws) (hs : PlainIx ix) : PthW X H0 (.Subscript o ix pos) δ i k := fun B σ H own vs ts ls hB R =>
  toE (pe_ix ix_list pe_sem pe_sem hs) ((h B σ H own vs ts ls hB R).mono fun v H1 ⟨R1, ts0, root, π, q, us, a1, a2, a3, a4, a5, w⟩ => (R1.view hv w hB).mono fun y H2 ⟨d, R2, e2, iy, j, ej, ws, hj, q2⟩ => by
    subst a3 ej
    cases iy
    have a4 := a4.mono e2
    obtain ⟨xs, q', g1, g2, g3⟩ := R2.child a1 a2 a5 a4 hj
    exact ⟨q, xs, j, .ref q', rfl, rfl, .inl (.inl g1), atI_nat g3, R2, ts0, root, π ++ [j], q', ws, a1, a2, rfl, a4.snoc g1 g3, subAt_snoc a5 hj, q2⟩)
theorem app1 {α : Type} (x : α) : ([] : List α) ++ [x] = [x] := rfl
theorem ws_setW (i : Nat) {x : Str} {pos' : Pos} (hN : X.N.Nodup) (h : WT X H0 e δ fun t δ' => ∃ us, t = .lst us ∧ E.nx (δ'.set i (.ow (.tr us)))) (hi : X.N[i]? = some x) (hx : L2.Loc X.env.scope x) (hs : swapsWith e (some (.Name x pos')) pos.line X.env = pure false) (hf : X.fn x = true ∨ X.env.scope.names.lookup x = some .local) :
    Ws X H0 (.Assign [.Name x pos'] e pos) δ E := fun B σ H own hB R => toS (ps_set hN hi hx pe_sem hs hf) ((h B σ H own [] [] [] hB R.rt).mono fun v H' ⟨t, δ', own', l, R', _, us, et, q⟩ => ⟨_, _, R'.set et, q⟩)
theorem ws_retW (h : WT X H0 e δ fun t δ' => ∃ us, t = .lst us ∧ E.rt δ' (.ow (.tr us))) : Ws X H0 (.Return (some e) pos) δ E := fun B σ H own hB R => toS (ps_ret pe_sem) ((h B σ H own [] [] [] hB R.rt).mono fun v H' ⟨t, δ', own', l, R', _, us, et, q⟩ => ⟨σ, δ', own', .ow (.tr us), R'.rel, RT.ret R' et, q⟩)
/-- o.append(e), o within the tree of slot i -/
theorem ws_appW (i : Nat) {apos cpos : Pos} (h : PthW X H0 o δ i fun π us => us.length < 100000 ∧ WT X H0 e δ fun t δ' => ∃ ts0, δ'[i]? = some (.ow (.tr ts0)) ∧ subAt ts0 π = some us ∧ E.nx (δ'.set i (.ow (.tr (updAt ts0 π (us ++ [t]))))))
    (hbase : attributeBase o "append" X.env (eval o X.env) = eval o X.env) (hline : (apos.endLine == cpos.line) = true) (hs : notStar e = true) : Ws X H0 (.Expr (.Call (.Attribute o "append" apos) [e] [] cpos) pos) δ E := fun B σ H own hB R =>
  toS (ps_expr (pe_bm PySem.F.plainAttrs_list PySem.F.slot_list_append PySem.F.type_list_append mt_append pe_sem (pa_cons pe_sem pa_nil (star_of hs)) hbase (few_of hs) hline (star_of hs) rfl) rfl) ((h B σ H own [] [] [] hB R.rt).mono fun v H1 ⟨R1, ts0, root, π, q, us, a1, a2, a3, a4, a5, hl, w⟩ => by
    subst a3
    obtain ⟨xs, hq, hlen⟩ := R1.node a1 a2 a5 a4
    refine ⟨.inl ⟨rfl, xs, .inl (.inl hq)⟩, (w B σ H1 own [] [] [] hB R1).mono fun y H2 ⟨t, δ', own', l, R2, e2, ts1, b1, b2, q2⟩ => ?_⟩
    obtain ⟨xs2, c1, c2, own3, R3⟩ := RT.editApp R2 b1 a2 b2 (a4.mono e2)
    exact ⟨q, xs2, y, rfl, rfl, c1, Nat.lt_of_lt_of_le (by rw [c2]; exact hl) (by decide), _, own3, R3, q2⟩)
/-- o[ix] = e, o within the tree of slot i -/
theorem ws_stiW (i : Nat) {spos : Pos} {vw : List S → List S} (hv : ∀ δ, Vw δ (vw δ)) (h : WT X H0 e δ fun t δ' => PthW X H0 o δ' i fun π us => We X H0 ix (vw δ') fun y => ∃ j : Nat, y = .int j ∧ j < us.length ∧ ∃ ts0, δ'[i]? = some (.ow (.tr ts0)) ∧ E.nx (δ'.set i (.ow (.tr (updAt ts0 π (us.set j t))))))
    (hg : PG X (.Subscript o ix spos) (gSub (semE X o) (semE X ix) rSetL)) (hs : swapsWithSole [.Subscript o ix spos] e pos.line X.env = pure false) (hw : swappedStores [.Subscript o ix spos] e X.env = pure none) : Ws X H0 (.Assign [.Subscript o ix spos] e pos) δ E := fun B σ H own hB R =>
  toS (ps_asg pe_sem hg hs hw rfl) ((h B σ H own [] [] [] hB R.rt).mono fun w H1 ⟨t, δ', own', l, R1, e1, P⟩ => (P B σ H1 own' _ _ _ hB R1).mono fun v H2 ⟨R2, ts0, root, π, q, us, a1, a2, a3, a4, a5, I⟩ => (R2.view (hv δ') I hB).mono fun y H3 ⟨d, R3, e3, iy, j, ej, hj, ts1, b1, q2⟩ => by
    subst a3 ej
    cases iy
    rw [a1] at b1; cases b1
    obtain ⟨xs2, c1, c2, own3, R4⟩ := RT.editSet (j := j) R3 a1 a2 a5 (a4.mono e3)
    refine ⟨q, xs2, (j : Int), j, rfl, rfl, c1, ?_, _, own3, R4, q2⟩
    unfold ixN
    rw [if_pos (by omega), if_pos (by omega)]
    simp)
/-! x = [..] on one line, a tree -/
theorem ws_setLcT (i v : Nat) {elt it : Expr} {sc : Scope} {x y : Str} {py spos : Pos} (hN : X.N.Nodup) (h : Wi X H0 it δ (LCT X sc H0 elt δ v fun ts => E.nx (δ.set i (.ow (.tr ts))))) (hc : X.calm = true) (ok : blkB X.N X.env.scope sc x v = true) (hi : X.N[v]? = some x) (hl : ∀ cl C, (compEnvC sc cl C X.env).scope.names.lookup x = some .local)
    (hy : X.N[i]? = some y) (hyl : X.env.scope.names.lookup y = some .local) (hsw : swapsWith (.ListComp elt [⟨.Name x p, it, [], 0⟩] sc pos) (some (.Name y py)) spos.line X.env = pure true) (hs : ∀ x, foldedSetIterable it X.env x = pure x) :
    Ws X H0 (.Assign [.Name y py] (.ListComp elt [⟨.Name x p, it, [], 0⟩] sc pos) spos) δ E := fun B σ H own hB R => by
  obtain ⟨wi, hpi, fri, hw⟩ := h
  refine toS (ps_setLc hc hN hy hyl hsw (hpi _) (blkB_ok ok) (pgb hN hi hl) (fun _ _ _ _ _ => pts_nil) pe_b hs) ?_
  refine fri σ H own.flatten _ _ R.owned (hw σ _ (R.toS.weak hB)) fun J G1 n1 ⟨e1, n, item, ⟨R3, hl, hw, q⟩, g⟩ => ?_
  have R1 : Rel X.K B σ (mrg H own.flatten G1) δ own := R.step e1 n1
  have ec : cut (mrg H own.flatten G1) own.flatten = G1 := cut_mrg n1
  refine lct_sem (X := X) (H0 := H0) (δ := δ) (ps := own.flatten) (n := n) (wv := v) (item := item) (P := fun i ts => ∀ (j : Nat) t, ts[j]? = some t → R3 j t) (Q := fun x H1 => gName i x σ H1 (toEnds X.K B E).nx) fr_bE R1.owned (R1.toS.weak hB) (by rw [ec]; exact g) (fun j t z => by cases z) hl (fun i ts hi p hlen G2 σ' e2 R' s h' C cl fp => ?_) fun A G ts N np hlen p => ?_
  · refine (hw i hi s h' C cl fp σ' G2 R').mono fun y G3 ⟨t, nt, rt⟩ => ⟨t, nt, fun j u z => ?_⟩
    by_cases hj : j < ts.length
    · rw [List.getElem?_append_left hj] at z
      exact p j u z
    · rw [List.getElem?_append_right (by omega)] at z
      have e0 : j - ts.length = 0 := by
        cases w : j - ts.length with
        | zero => rfl
        | succ m => rw [w] at z; cases z
      rw [e0] at z
      cases z
      have : j = i := by omega
      rw [this]; exact rt
  · obtain ⟨l, hl, fr, ee, nd⟩ := N
    exact ⟨_, _, R1.setOw (o := .tr ts) ee np nd hl, q ts hlen p⟩
end
end DL
set_option Elab.async false
set_option linter.all false
set_option maxRecDepth 100000
set_option maxHeartbeats 4000000
/-! The deep machine, part r: trees are sound. -/
namespace DL
open PySem PySem.Spec PyProof.Rows L2
mutual
def chN (C : Ct) : Xn → Expr → Bool
  | .e bs a, e => chE C a e
  | .lst as, e => match e with
    | .List es _ => Nat.ble es.length 100000 && chNL C as es
    | _ => false
  | .lc v elt it, e => match e with
    | .ListComp l [⟨.Name x _, itr, [], 0⟩] sc _ => blkB C.N C.sc sc x v && (decide (C.N[v]? = some x) && (decide ((relS sc C.sc).names.lookup x = some .local) && (chI C it itr && chN { C with sc := relS sc C.sc } elt l)))
    | _ => false
  | .mv i, e => match e with
    | .Name x _ => visB C i x
    | _ => false
def chNL (C : Ct) : Xnl → List Expr → Bool
  | .nil, es => es.isEmpty
  | .cons a as, es => match es with
    | e :: r => chN C a e && chNL C as r
    | [] => false
end
def chP (C : Ct) : Xp → Nat → Expr → Bool
  | .nm, i, e => match e with
    | .Name x _ => visB C i x
    | _ => false
  | .sub p bs ix, i, e => match e with
    | .Subscript l r _ => chP C p i l && chE C ix r
    | _ => false
section
variable {X : Cx} {C : Ct} {Γ : List DSp} {H0 B H : Hp} {σ : L2.St} {δ : List S} {own : List (List Addr)} {e : Expr} {pos : Pos}
theorem RT.leaf {K : PySem.W.Frag} {vs : List V} {ts : List Tr} {ls : List (List Addr)} {v : V} {d : D} (R : RT K B σ H δ own vs ts ls) (h : Is K (cut H (own.flatten ++ ls.flatten)) v d) : RT K B σ H δ own (vs ++ [v]) (ts ++ [.sh d]) (ls ++ [[]]) := by
  have e : (ls ++ [[]]).flatten = ls.flatten := by simp
  exact ⟨by rw [e]; exact R.ex, R.len1, R.len2, by rw [e]; exact R.sl, by rw [e]; exact trs_snoc R.tr ⟨rfl, h⟩, by rw [e]; exact R.nd⟩
theorem wt_view {bs : List Nat} {k : Tr → List S → Prop} (h : We X H0 e (bor bs δ) fun d => FlatN d ∧ k (.sh d) δ) : WT X H0 e δ k := fun B σ H own vs ts ls hB R =>
  (R.view (vw_bor (bs := bs)) h hB).mono fun v H' ⟨d, R', e1, iv, f, q⟩ => by
    refine ⟨.sh d, δ, own, [], R'.leaf (FlatN.isP (fun p hp ys r => ?_) f iv), e1, q⟩
    rcases R'.owned p hp with ⟨_, z⟩ | ⟨_, z⟩ | ⟨_, _, _, z, _⟩ | ⟨_, _, _, z, _⟩
    all_goals (rcases r with r | ⟨_, r⟩ <;> rw [z] at r <;> cases r)
theorem chN_star {a : Xn} (h : chN C a e = true) : notStar e = true := by
  cases a with
  | e bs a => exact chE_star h
  | _ =>
    cases e with
    | Starred v p => simp only [chN] at h; cases h
    | _ => rfl
structure SoN (a : Xn) : Prop where
  run : ∀ {X : Cx} {C : Ct} {Γ : List DSp} {H0 : Hp} {e : Expr}, Ev X C Γ → chN C a e = true → ∀ {xw : List S → XD} {δ : List S}, Xc X H0 xw →
  (∀ k, wpn Γ a δ (xw δ) k → WN X H0 e δ k) ∧ ∀ k, wpT Γ a δ xw k → WT X H0 e δ k
structure SoNL (as : Xnl) : Prop where
  run : ∀ {X : Cx} {C : Ct} {Γ : List DSp} {H0 : Hp} {es : List Expr}, Ev X C Γ → chNL C as es = true → ∀ {xw : List S → XD} {δ : List S}, Xc X H0 xw →
  (∀ k, wpns Γ as δ (xw δ) k → WNs X H0 es δ fun ts => ts.length = es.length ∧ k ts) ∧ ∀ k, wpTs Γ as δ xw k → WTs X H0 es δ k
theorem wn_mono {k k' : Tr → Prop} (h : WN X H0 e δ k) (m : ∀ t, k t → k' t) : WN X H0 e δ k' := fun σ G R => (h σ G R).mono fun v G' ⟨t, n, q⟩ => ⟨t, n, m t q⟩
theorem wns_mono {es : List Expr} {k k' : List Tr → Prop} (h : WNs X H0 es δ k) (m : ∀ t, k t → k' t) : WNs X H0 es δ k' := fun σ G H vs ts ls R0 R => (h σ G H vs ts ls R0 R).mono fun v G' ⟨us, ls', R', q⟩ => ⟨us, ls', R', m us q⟩
theorem wt_mono {k k' : Tr → List S → Prop} (h : WT X H0 e δ k) (m : ∀ t δ, k t δ → k' t δ) : WT X H0 e δ k' := fun B σ H own vs ts ls hB R => (h B σ H own vs ts ls hB R).mono fun v H' ⟨t, δ', own', l, R', e1, q⟩ => ⟨t, δ', own', l, R', e1, m t δ' q⟩
end
mutual
theorem so_n : ∀ a : Xn, SoN a
  | .e bs a => .mk <| by
    intro X C Γ H0 e E h xw δ hx
    have A : ∀ {δ}, (∀ k, wpe Γ a δ (xw δ) (.e k) → Wu X H0 e δ k) := fun {δ} => ((so_e a).run E h hx (xw := xw) (δ := δ)).1
    cases bs with
    | nil => exact ⟨fun k q => wn_wu fun {σ G} R => A _ q σ G R, fun k q => wt_wn (wn_wu fun {σ G} R => A _ q σ G R)⟩
    | cons b bs =>
      exact ⟨fun k q => q.elim, fun k q => wt_view (bs := b :: bs) (we_wu (k := fun d => FlatN d ∧ k (.sh d) δ) (((so_e a).run E h hx (xw := xw) (δ := bor (b :: bs) δ)).1 _ q))⟩
  | .lst as => .mk <| by
    intro X C Γ H0 e E h xw δ hx
    unfold chN at h
    split at h
    · obtain ⟨h1, h2⟩ := and3 h
      have A := (so_nl as).run E h2 hx (xw := xw) (δ := δ)
      exact ⟨fun k q => wn_lst (A.1 _ q) h1, fun k q => wt_lst (A.2 _ q) h1⟩
    · cases h
  | .lc v elt it => .mk <| by
    intro X C Γ H0 e E h xw δ hx
    unfold chN at h
    split at h
    · rename_i l x p itr sc pos
      obtain ⟨h1, h⟩ := and3 h
      obtain ⟨h2, h⟩ := and3 h
      obtain ⟨h3, h⟩ := and3 h
      obtain ⟨h4, h5⟩ := and3 h
      have W : ∀ k : Tr → Prop, wpi Γ it δ (xw δ) (fun n item => LctW n item (fun d q => wpn Γ elt (δ.set v (.sh d)) noX q) fun ts => k (.lst ts)) → WN X H0 (.ListComp l [⟨.Name x p, itr, [], 0⟩] sc pos) δ k := fun k q => wn_lc v (by rw [E.N]; exact E.nd) (((so_i it).run E h4 hx (xw := xw) (δ := δ) _ q).mono fun n item z => by
        obtain ⟨R, a, b, c⟩ := z
        exact ⟨R, a, fun i hi s hh C' cl fp => ((so_n elt).run (E.blk) h5 (xw := fun _ => noX) (δ := δ.set v (.sh (item i))) xc0).1 _ (b i hi), c⟩) E.calm (by rw [E.N, E.sc]; exact h1) (by rw [E.N]; exact of_decide_eq_true h2) (fun cl C' => by
        show (relS _ _).names.lookup _ = _
        rw [E.sc]
        exact of_decide_eq_true h3) (chI_set h4 _)
      exact ⟨fun k q => W k q, fun k q => wt_wn (W _ q)⟩
    · cases h
  | .mv i => .mk <| by
    intro X C Γ H0 e E h xw δ hx
    unfold chN at h
    split at h
    · refine ⟨fun k q => q.elim, fun k q => ?_⟩
      have q : moD δ[i]? fun t => k t (δ.set i .no) := q
      unfold moD at q
      split at q
      · rename_i ds hd
        exact wt_mv i hd rfl q (E.vis h)
      · rename_i ts hd
        exact wt_mv i hd rfl q (E.vis h)
      · exact q.elim
    · cases h
theorem so_nl : ∀ as : Xnl, SoNL as
  | .nil => .mk <| by
    intro X C Γ H0 es E h xw δ hx
    rw [chNL, List.isEmpty_iff] at h
    subst h
    exact ⟨fun k q => wns_nil ⟨rfl, q⟩, fun k q => wts_nil q⟩
  | .cons a as => .mk <| by
    intro X C Γ H0 es E h xw δ hx
    unfold chNL at h
    split at h
    · obtain ⟨h1, h2⟩ := and3 h
      have A := (so_n a).run E h1 hx (xw := xw) (δ := δ)
      refine ⟨fun k q => wns_cons (wn_mono (A.1 _ q) fun t z => wns_mono (((so_nl as).run E h2 hx (xw := xw) (δ := δ)).1 _ z) fun ts y => ⟨by rw [List.length_cons, List.length_cons, y.1], y.2⟩) (chN_star h1), fun k q => wts_cons (wt_mono (A.2 _ q) fun t δ' z => ((so_nl as).run E h2 hx (xw := xw) (δ := δ')).2 _ z) (chN_star h1)⟩
    · cases h
end
theorem pth_mono {X : Cx} {H0 : Hp} {o : Expr} {δ : List S} {i : Nat} {k k' : List Nat → List Tr → Prop} (h : PthW X H0 o δ i k) (m : ∀ π us, k π us → k' π us) : PthW X H0 o δ i k' := fun B σ H own vs ts ls hB R =>
  (h B σ H own vs ts ls hB R).mono fun v H' ⟨R', ts0, root, π, q, us, a, b, c, d, e, f⟩ => ⟨R', ts0, root, π, q, us, a, b, c, d, e, m _ _ f⟩
theorem natD_inv {d : D} {k : Nat → Prop} (h : natD d k) : ∃ j : Nat, d = .int j ∧ k j := by
  unfold natD at h
  split at h
  · obtain ⟨j, e, q⟩ := h.ex
    exact ⟨j, by rw [e], q⟩
  · exact h.elim
theorem so_p {X : Cx} {C : Ct} {Γ : List DSp} {H0 : Hp} : ∀ (p : Xp) {i : Nat} {e : Expr}, Ev X C Γ → chP C p i e = true → ∀ {xw : List S → XD} {δ : List S}, Xc X H0 xw → ∀ {k : List Nat → List Tr → Prop}, wpp Γ p i δ xw k → PthW X H0 e δ i k
  | .nm, i, e, E, h, xw, δ, hx, k, q => by
    unfold chP at h
    split at h
    · have q : trO δ[i]? fun ts => k [] ts := q
      unfold trO at q
      split at q
      · rename_i ts hd
        exact pth_var i hd q (E.vis h)
      · exact q.elim
    · cases h
  | .sub p bs ix, i, e, E, h, xw, δ, hx, k, q => by
    unfold chP at h
    split at h
    · obtain ⟨h1, h2⟩ := and3 h
      refine pth_sub (δ' := bor bs δ) vw_bor ?_ (chE_ix h2)
      have P := so_p p E h1 hx (xw := xw) (δ := δ) (k := fun π us => wpe Γ ix (bor bs δ) (xw (bor bs δ)) (.e fun q => natD q.d fun j => SubW us j fun ws => k (π ++ [j]) ws)) q
      refine pth_mono P fun π us z => ((we_wu (k := fun d => natD d fun j => SubW us j fun ws => k (π ++ [j]) ws) (((so_e ix).run E h2 hx (xw := xw) (δ := bor bs δ)).1 _ z)).mono fun d y => ?_)
      obtain ⟨j, rfl, ⟨ws, a, b⟩⟩ := natD_inv y
      exact ⟨j, rfl, ws, a, b⟩
    · cases h
end DL
set_option Elab.async false
set_option linter.all false
set_option maxRecDepth 100000
set_option maxHeartbeats 4000000
/-! The deep machine, part p: dicts written to, list.insert, a number into each list of a list, {a: True for ..}. -/
namespace DL
open PySem PySem.Spec PyProof.Rows L2
theorem set_or {X : Cx} {t1 t2 : TSet} (h1 : PSet X t1) (h2 : PSet X t2) : PSet X (fun o i v H Q => t1 o i v H Q ∨ t2 o i v H Q) := fun pins s σ H o i v ov iv u Q I ro ri rv h => h.elim (fun z => h1 pins s σ H o i v ov iv u Q I ro ri rv z) (fun z => h2 pins s σ H o i v ov iv u Q I ro ri rv z)
theorem keyD_is {K : PySem.W.Frag} {G : Hp} {v : V} {d : D} {κ : Key} (h : keyD d = some κ) (i : Is K G v d) : v = kV κ := by
  unfold keyD at h
  split at h
  · cases h; cases i; rfl
  · cases h; cases i; rfl
  · cases h
theorem isK_len {K : PySem.W.Frag} {G : Hp} {kvs : List (Key × V)} {kds : List (Key × D)} (h : IsK K G kvs kds) : kvs.length = kds.length := by
  have := congrArg List.length h.1
  rwa [List.length_map, List.length_map] at this
theorem isK_key {K : PySem.W.Frag} {G : Hp} {kvs : List (Key × V)} {kds : List (Key × D)} (h : IsK K G kvs kds) {i : Nat} {x : Key × V} {d : Key × D} (a : kvs[i]? = some x) (b : kds[i]? = some d) : x.1 = d.1 := by
  have := congrArg (fun l => l[i]?) h.1
  simp only [List.getElem?_map, a, b] at this
  exact Option.some.inj this
theorem isK_put {K : PySem.W.Frag} {G : Hp} {kvs : List (Key × V)} {kds : List (Key × D)} {κ : Key} {v : V} {d : D} (h : IsK K G kvs kds) (iv : Is K G v d) : IsK K G (putK kvs κ v) (putKD kds κ d) := by
  have e : (kvs.any fun kv => decide (kv.1 = κ)) = hasK kds κ := by rw [valV_any]; exact hasK_val h κ
  unfold putK putKD
  rw [e]
  by_cases c : hasK kds κ = true
  · rw [if_pos c, if_pos c]
    refine ⟨?_, fun i x y a b => ?_⟩
    · rw [List.map_map, List.map_map]
      have e1 : ((fun p : Key × V => p.1) ∘ fun kv : Key × V => if kv.1 = κ then (kv.1, v) else kv) = fun p => p.1 := by
        funext p
        show (if p.1 = κ then (p.1, v) else p).1 = p.1
        split <;> rfl
      have e2 : ((fun p : Key × D => p.1) ∘ fun p : Key × D => if p.1 = κ then (p.1, d) else p) = fun p => p.1 := by
        funext p
        show (if p.1 = κ then (p.1, d) else p).1 = p.1
        split <;> rfl
      rw [e1, e2]
      exact h.1
    · rw [List.getElem?_map] at a b
      cases ha : kvs[i]? with
      | none => rw [ha] at a; cases a
      | some x0 =>
        cases hb : kds[i]? with
        | none => rw [hb] at b; cases b
        | some y0 =>
          rw [ha] at a
          rw [hb] at b
          have k := isK_key h ha hb
          have a : (if x0.1 = κ then (x0.1, v) else x0) = x := Option.some.inj a
          have b : (if y0.1 = κ then (y0.1, d) else y0) = y := Option.some.inj b
          by_cases q : x0.1 = κ
          · rw [if_pos q] at a
            rw [if_pos (k ▸ q)] at b
            rw [← a, ← b]
            exact iv
          · rw [if_neg q] at a
            rw [if_neg (k ▸ q)] at b
            rw [← a, ← b]
            exact h.2 i x0 y0 ha hb
  · rw [if_neg c, if_neg c]
    refine ⟨by rw [List.map_append, List.map_append, h.1]; rfl, fun i x y a b => ?_⟩
    have hl := isK_len h
    by_cases q : i < kvs.length
    · rw [List.getElem?_append_left q] at a
      rw [List.getElem?_append_left (by omega)] at b
      exact h.2 i x y a b
    · rw [List.getElem?_append_right (by omega)] at a
      rw [List.getElem?_append_right (by omega), ← hl] at b
      cases hi : i - kvs.length with
      | zero =>
        rw [hi] at a b
        cases a; cases b
        exact iv
      | succ m =>
        rw [hi] at a
        cases a
section
variable {X : Cx} {H0 B H : Hp} {σ : L2.St} {δ δ' : List S} {own : List (List Addr)} {e ee ix it : Expr} {pos p : Pos} {E : En}
theorem ws_stiC (i : Nat) {x : Str} {px spos : Pos} {bs : List Nat} {k : S → List S → Prop} (h : Wu X H0 e (bor bs δ) (fun r => keepW bs r δ (k r))) (hk : ∀ r δ', k r δ' → (∃ ds, δ'[i]? = some (.ow (.lst ds)) ∧ We X H0 ix (bor bs δ') fun q => stiD i ds r.d q δ' E.nx) ∨ ∃ kds, δ'[i]? = some (.ow (.dic kds)) ∧ We X H0 ix (bor bs δ') fun q => stiK i kds r.d q δ' E.nx)
    (hg : PG X (.Subscript (.Name x px) ix spos) (gSub (tVar i) (semE X ix) (fun o i v H Q => rSetL o i v H Q ∨ rSetD o i v H Q)))
    (hs : swapsWithSole [.Subscript (.Name x px) ix spos] e pos.line X.env = pure false) (hw : swappedStores [.Subscript (.Name x px) ix spos] e X.env = pure none) : Ws X H0 (.Assign [.Subscript (.Name x px) ix spos] e pos) δ E := fun B σ H own hB R =>
  toS (ps_asg pe_sem hg hs hw rfl) ((Wu.keep (k := k) h hB R).mono fun w H1 ⟨r, δ1, own1, R1, id, P, q⟩ => by
    rcases hk r δ1 q with ⟨ds, hj, q⟩ | ⟨kds, hj, q⟩
    · obtain ⟨x0, l, h1, h2, v, rfl, p, xs, rfl, rfl, h3, h4⟩ := R1.idx hj
      obtain ⟨R', sub⟩ := R1.view (vw_bor (bs := bs))
      refine ⟨_, h1, (semE.frame R'.owned (q σ _ (R'.toS.weak hB))).mono fun n H2 ⟨G, eq, nn, e2, dn, inn, q⟩ => .inl ?_⟩
      have q : stiD i ds r.d dn δ1 E.nx := q
      cases dn with
      | int m =>
        obtain ⟨j, ej, hjl, q2⟩ := q
        have gr : Ex H1 H2 := by rw [eq]; exact mrg_ex e2
        have R2 : Rel X.K B σ H2 δ1 own1 := R1.grow gr
        have id2 : Is X.K (cut H2 own1.flatten) w r.d := id.mono (cut_mono gr)
        obtain ⟨x0, l, g1, g2, v', rfl, p', xs', ev, rfl, g3, g4⟩ := R2.idx hj
        rw [h1] at g1; cases g1
        subst ej
        cases inn
        refine ⟨p', xs', (j : Int), j, ev, rfl, g3, ?_, _, _, R2.write (o' := .lst _) g2 (by simp) h1 ⟨p', xs'.set j w, ev, rfl, upd_same, g4.set id2⟩, q2⟩
        unfold ixN
        have e1 : xs'.length = ds.length := g4.1
        rw [if_pos (by omega), if_pos (by omega)]
        simp
      | _ => exact q.elim
    · obtain ⟨x0, l, h1, h2, v, rfl, p, kvs, rfl, rfl, h3, h4⟩ := R1.idx hj
      obtain ⟨R', sub⟩ := R1.view (vw_bor (bs := bs))
      refine ⟨_, h1, (semE.frame R'.owned (q σ _ (R'.toS.weak hB))).mono fun n H2 ⟨G, eq, nn, e2, dn, inn, q⟩ => .inr ?_⟩
      have q : stiK i kds r.d dn δ1 E.nx := q
      have gr : Ex H1 H2 := by rw [eq]; exact mrg_ex e2
      have R2 : Rel X.K B σ H2 δ1 own1 := R1.grow gr
      have id2 : Is X.K (cut H2 own1.flatten) w r.d := id.mono (cut_mono gr)
      obtain ⟨x0, l, g1, g2, v', rfl, p', kvs', ev, rfl, g3, g4⟩ := R2.idx hj
      rw [h1] at g1; cases g1
      unfold stiK at q
      split at q
      · rename_i κ ek
        obtain ⟨q1, q2⟩ := q
        have en := keyD_is ek inn
        subst en
        exact ⟨p', _, ev, DPut.k g3 (by rw [isK_len g4]; exact Nat.lt_trans q1 (by decide)), _, _, R2.write (o' := .dic _) g2 (by simp) h1 ⟨p', _, ev, rfl, upd_same, isK_put g4 id2⟩, q2⟩
      · exact q.elim)
theorem few_2 {env : Env} {cpos : Pos} {a b : Expr} (h1 : notStar a = true) (h2 : notStar b = true) : ((backTo cpos (starEach [a, b] env)).all (fun x => !x.1) && (backToKw cpos (keywordEach [] env)).all (fun x => x.1.isSome) && decide ([a, b].length + ([] : List Keyword).length + (if ([] : List Keyword).isEmpty then 0 else 1) < 30)) = true := by
  rw [star_of h1, star_of h2]
  rfl
/-- xs.insert(ix, e) -/
theorem ws_insU (i : Nat) {x : Str} {px apos cpos : Pos} {bs : List Nat} (h : Wu X H0 ix (bor bs δ) (fun q => Wu X H0 e (bor bs δ) (fun r => keepW bs r δ fun δ' => insD i q.d r.d δ' E.nx))) (hd : ∃ ds, δ[i]? = some (.ow (.lst ds))) (hp : PE X (.Name x px) (tVar i))
    (hline : (apos.endLine == cpos.line) = true) (hs1 : notStar ix = true) (hs : notStar e = true) : Ws X H0 (.Expr (.Call (.Attribute (.Name x px) "insert" apos) [ix, e] [] cpos) pos) δ E := fun B σ H own hB R =>
  toS (ps_expr (pe_bm PySem.F.plainAttrs_list PySem.F.slot_list_insert PySem.F.type_list_insert mt_insert hp (pa_cons pe_sem (pa_cons pe_sem pa_nil (star_of hs)) (by rw [star_of hs1])) rfl (few_2 hs1 hs) hline (by rw [star_of hs1]) (by rw [star_of hs]; rfl)) rfl) (by
    obtain ⟨ds0, hi⟩ := hd
    obtain ⟨x0, l, h1, h2, v, rfl, p, xs, rfl, rfl, h3, h4⟩ := R.idx hi
    refine ⟨_, h1, .inl ⟨rfl, xs, SqL.of h3⟩, ?_⟩
    obtain ⟨R', sub⟩ := R.view (vw_bor (bs := bs))
    refine (semE.frame R'.owned (h σ _ (R'.toS.weak hB))).mono fun n H1 ⟨G, eq, nn, qr, iq, q⟩ => ?_
    have gr : Ex H H1 := by rw [eq]; exact mrg_ex iq.ex.1
    have R1 := R.grow gr
    have iqd := iq.ex.2
    refine (Wu.keep (k := fun r δ' => insD i qr.d r.d δ' E.nx) q hB R1).mono fun w H' ⟨r, δ1, own1, R2, id, P, q⟩ => ?_
    unfold insD at q
    split at q
    · rename_i m ds eq1 hj
      obtain ⟨⟨q1, q2, q3⟩, q4⟩ := q
      rw [eq1] at iqd
      cases iqd
      obtain ⟨x0, l, g1, g2, v', rfl, p', xs', ev, rfl, g3, g4⟩ := R2.idx hj
      rw [h1] at g1; cases g1
      have e1 : xs'.length = ds.length := g4.1
      cases ev
      have il : IsL X.K (cut H' own1.flatten) (xs'.take m.toNat ++ [w] ++ xs'.drop m.toNat) (ds.take m.toNat ++ [r.d] ++ ds.drop m.toNat) := by
        refine IsL.app (IsL.app ?_ ⟨rfl, fun j y d a b => ?_⟩) ?_
        · refine ⟨by rw [List.length_take, List.length_take, e1], fun j y d a b => ?_⟩
          rw [List.getElem?_take] at a b
          by_cases z : j < m.toNat
          · rw [if_pos z] at a b
            exact g4.2 j y d a b
          · rw [if_neg z] at a
            cases a
        · cases j with
          | zero => cases a; cases b; exact id
          | succ j => cases a
        · refine ⟨by rw [List.length_drop, List.length_drop, e1], fun j y d a b => ?_⟩
          rw [List.getElem?_drop] at a b
          exact g4.2 _ y d a b
      exact ⟨p, xs', m, w, rfl, rfl, g3, Nat.lt_trans (by rw [e1]; exact q1) (by decide), q2, Int.lt_trans q3 (by decide), _, _, R2.write (o' := .lst _) g2 (by simp) h1 ⟨p, _, rfl, rfl, upd_same, il⟩, q4⟩
    · exact q.elim)
theorem Rel.setAny {K : PySem.W.Frag} {H0 H : Hp} {σ : L2.St} {δ : List S} {own : List (List Addr)} {v : Nat} {y : Option V} (R : Rel K H0 σ H δ own) (h : δ[v]? = some .no) : Rel K H0 (σ.set v y) H δ own := by
  refine ⟨R.ex, by rw [List.length_set]; exact R.len1, R.len2, fun i s x l h1 h2 h3 => ?_, R.nd⟩
  by_cases z : v = i
  · subst z
    rw [h] at h1; cases h1
    obtain ⟨x0, l0, a, b, q⟩ := R.idx h
    rw [h3] at b; cases b
    exact q
  · rw [List.getElem?_set_ne z] at h2
    exact R.sl i s x l h1 h2 h3
def edN (j : Nat) (d : D) (ts : List Tr) (m : Nat) : List Tr := (ts.take m).map (edT j d) ++ ts.drop m
theorem edN_all {j : Nat} {d : D} {ts : List Tr} : edN j d ts ts.length = ts.map (edT j d) := by simp [edN]
theorem edN_at {j : Nat} {d : D} {ts : List Tr} {m : Nat} (h : m < ts.length) : (edN j d ts m)[m]? = ts[m]? := by
  unfold edN
  rw [List.getElem?_append_right (by rw [List.length_map, List.length_take]; omega), List.length_map, List.length_take, List.getElem?_drop]
  congr 1
  omega
theorem edN_succ {j : Nat} {d : D} {ts us : List Tr} {m : Nat} (h : ts[m]? = some (.lst us)) : updAt (edN j d ts m) [m] (us.set j (.sh d)) = edN j d ts (m + 1) := by
  have hm : m < ts.length := (List.getElem?_eq_some_iff.mp h).1
  have e : (edN j d ts m)[m]? = some (.lst us) := (edN_at hm).trans h
  unfold updAt
  rw [e]
  show (edN j d ts m).set m (.lst (us.set j (.sh d))) = _
  unfold edN
  have hl : ((ts.take m).map (edT j d)).length = m := by rw [List.length_map, List.length_take]; omega
  rw [List.set_append, if_neg (by omega), hl, Nat.sub_self, List.take_add_one, h, List.map_append, List.append_assoc]
  congr 1
  have hd : ts.drop m = .lst us :: ts.drop (m + 1) := by rw [List.drop_eq_getElem_cons hm]; rw [List.getElem?_eq_getElem hm] at h; rw [Option.some.inj h]
  rw [hd]
  rfl
/-- for x in ts: x[ix] = ee, ts a list of lists that the frame alone holds -/
theorem ws_forE (i v : Nat) {x y : Str} {p1 p2 p3 p4 p5 : Pos} {ts : List Tr} {d : D} {j : Nat} (hpo : PassesOwn (model X.prog X.w) X.A X.env X.xe) (hc : X.calm = true) (hi : δ[i]? = some (.ow (.tr ts))) (hv : v < δ.length) (hne : v ≠ i)
    (fl : Flat d) (ch : ∀ t ∈ ts, ∃ us, t = .lst us ∧ j < us.length) (he : ∀ us, We X H0 ee ((δ.set v .no).set i (.ow (.tr us))) (fun x => x = d)) (hix : ∀ us, We X H0 ix ((δ.set v .no).set i (.ow (.tr us))) (fun x => x = .int (j : Int)))
    (hn : E.nx ((δ.set v .no).set i (.ow (.tr (ts.map (edT j d)))))) (hy : PE X (.Name y p2) (tVar i)) (hxv : PE X (.Name x p3) (tVar v)) (hxg : PG X (.Name x p1) (gName v)) (hsub : ∀ u, assign (.Subscript (.Name x p3) ix p4) X.env u = (do
      let ov ← holding [u] (eval (.Name x p3) X.env)
      let iv ← holding [u, ov] (eval ix X.env)
      standAt p4
      holding [u, ov, iv] (setItem ov iv u)
      release [u, ov, iv] [])) (hsw : swapsWithSole [.Subscript (.Name x p3) ix p4] ee p5.line X.env = pure false) (hst : swappedStores [.Subscript (.Name x p3) ix p4] ee X.env = pure none) (hfs : ∀ z, foldedSetIterable (.Name y p2) X.env z = pure z) :
    Ws X H0 (.For (.Name x p1) (.Name y p2) [.Assign [.Subscript (.Name x p3) ix p4] ee p5] [] pos) δ E := fun B σ H own hB R => by
  refine toS (ps_for hpo hc (pi_list hy) hxg (pss_cons (ps_asg pe_sem (pg_sub hxv pe_sem set_list hsub) hsw hst rfl) pss_nil) hfs) ?_
  obtain ⟨x0, l, h1, h2, v0, rfl, pa, xs, ms, rfl, el, hq, htr⟩ := R.idx hi
  refine ⟨_, h1, pa, rfl, ⟨xs, SqL.of hq⟩, ?_⟩
  have R0 := (R.view (vw_drp (dd := [v]))).1
  have e0 : (δ.set v .no).set i (.ow (.tr (edN j d ts 0))) = δ.set v .no := by
    have : edN j d ts 0 = ts := by simp [edN]
    rw [this]
    refine List.ext_getElem? fun k => ?_
    by_cases z : i = k
    · subst z
      rw [List.getElem?_set_self (by rw [List.length_set]; exact (List.getElem?_eq_some_iff.mp hi).1), List.getElem?_set_ne hne, hi]
    · rw [List.getElem?_set_ne z]
  have xl : xs.length = ts.length := (trs_len htr).1
  refine for_list (K := X.K) (xs := xs) (fun m σ' H' => σ'[i]? = some (some (.ref pa)) ∧ H' pa = some (.lst xs) ∧ ∃ own', Rel X.K B σ' H' ((δ.set v .no).set i (.ow (.tr (edN j d ts m)))) own') ⟨h1, hq, _, by rw [e0]; exact R0⟩ (fun m σ' H' _ ⟨_, q, _⟩ => SqL.of q) (fun m y σ' H' hm ⟨a1, a2, own1, a3⟩ => ?_) (fun σ' H' ⟨_, _, own1, a3⟩ => ?_)
  · have hmt : m < ts.length := by rw [← xl]; exact (List.getElem?_eq_some_iff.mp hm).1
    have hdl : ((δ.set v .no).set i (.ow (.tr (edN j d ts m))))[v]? = some .no := by
      rw [List.getElem?_set_ne (Ne.symm hne), List.getElem?_set_self hv]
    have hdi : ((δ.set v .no).set i (.ow (.tr (edN j d ts m))))[i]? = some (.ow (.tr (edN j d ts m))) := List.getElem?_set_self (by rw [List.length_set]; exact (List.getElem?_eq_some_iff.mp hi).1)
    have R1 := Rel.setAny (y := some y) a3 hdl
    have b1 : (σ'.set v (some y))[i]? = some (some (.ref pa)) := by rw [List.getElem?_set_ne hne]; exact a1
    have bv : (σ'.set v (some y))[v]? = some (some y) := List.getElem?_set_self (by have := a3.len1; rw [List.length_set, List.length_set] at this; omega)
    show semE X ee (σ'.set v (some y)) H' _
    refine (RT.view (R1.rt) (vw_bor (bs := [])) (he _) hB).mono fun w H2 ⟨d1, R2, e2, iw, ed⟩ => ?_
    subst ed
    refine ⟨y, bv, (RT.view R2 (vw_bor (bs := [])) (hix _) hB).mono fun n H3 ⟨d2, R3, e3, inn, ed2⟩ => ?_⟩
    subst ed2
    cases inn
    obtain ⟨us, et, hj⟩ := ch ts[m] (List.getElem_mem hmt)
    have htm : ts[m]? = some (.lst us) := by rw [List.getElem?_eq_getElem hmt, et]
    have c1 : (edN j d1 ts m)[m]? = some (.lst us) := (edN_at hmt).trans htm
    have hq3 : H3 pa = some (.lst xs) := e3 _ _ (e2 _ _ a2)
    have R4 := RT.leaf R3 (v := w) (d := d1) (iw.flat fl)
    obtain ⟨ys0, q', g1, g2, g3⟩ := RT.child (π := []) (q := pa) R4 hdi b1 rfl rfl c1
    rw [hq3] at g1; cases g1
    rw [hm] at g3
    obtain rfl : y = .ref q' := Option.some.inj g3
    have at1 : AtP H3 (.ref pa) [m] q' := ⟨pa, xs, _, rfl, hq3, hm, rfl⟩
    have sub1 : subAt (edN j d1 ts m) [m] = some us := by unfold subAt; rw [c1]; rfl
    obtain ⟨ys, f1, f2, own3, R5⟩ := RT.editSet (j := j) R4 hdi b1 sub1 at1
    rw [List.set_set, edN_succ htm] at R5
    have npq : pa ≠ q' := by
      obtain ⟨x1, L, k1, k2, v1, kv, tx⟩ := R4.idx hdi
      rw [b1] at k1; cases k1
      cases kv
      obtain ⟨pa', xs', ms', ep, eL, hq', tr'⟩ := tx
      cases ep
      have nd := nd_part (List.nodup_append.mp R4.nd).1 k2
      obtain ⟨x2, l2, m1, m2, qa, ya, msa, e5, e6, _⟩ := trs_get tr' c1
      rw [hq3] at hq'
      cases hq'
      rw [hm] at m1
      cases m1
      cases e5
      rw [eL] at nd
      intro z
      refine (List.nodup_cons.mp nd).1 ?_
      rw [z]
      exact List.mem_flatten.mpr ⟨l2, List.mem_of_getElem? m2, by rw [e6]; exact List.mem_cons_self⟩
    refine ⟨q', ys, (j : Int), j, rfl, rfl, f1, ?_, b1, by rw [upd_ne npq]; exact hq3, own3, R5⟩
    unfold ixN
    rw [if_pos (by omega), if_pos (by omega)]
    simp
  · rw [xl, edN_all] at a3
    exact ⟨_, own1, a3, hn⟩
/-! ### x = {a: True for (..) in it} -/
theorem ps_setDc {i : Nat} {y : Str} {py : Pos} {kx vx tg iter : Expr} {ifs : List Expr} {scope : Scope} {own : List (Str × Nat)} {pos spos : Pos} {wi : TI} {g : TG} {tt : TT} {tk tv : TE} (hc : X.calm = true) (hN : X.N.Nodup) (hy : X.N[i]? = some y) (hyl : X.env.scope.names.lookup y = some .local)
    (hsw : swapsWith (.DictComp kx vx [⟨tg, iter, ifs, 0⟩] scope pos) (some (.Name y py)) spos.line X.env = pure true) (hi : PI X tg iter wi) (ok : BlkOk X.N X.env.scope scope own)
    (hg : ∀ (s : Shared) (H : Hp) (C : Addr) (cl : List (Str × Addr)) (fp : List Addr), PG (X.blk s H scope (compEnvC scope cl C X.env) fp) tg g) (ht : ∀ (s : Shared) (H : Hp) (C : Addr) (cl : List (Str × Addr)) (fp : List Addr), PTs (X.blk s H scope (compEnvC scope cl C X.env) fp) ifs tt)
    (hk : ∀ (s : Shared) (H : Hp) (C : Addr) (cl : List (Str × Addr)) (fp : List Addr), PE (X.blk s H scope (compEnvC scope cl C X.env) fp) kx tk)
    (he : ∀ (s : Shared) (H : Hp) (C : Addr) (cl : List (Str × Addr)) (fp : List Addr), PE (X.blk s H scope (compEnvC scope cl C X.env) fp) vx tv) (hs : ∀ x, foldedSetIterable iter X.env x = pure x) :
    PS X (.Assign [.Name y py] (.DictComp kx vx [⟨tg, iter, ifs, 0⟩] scope pos) spos) (tAsg (tDc wi g tt tk tv (own.map (·.2))) (gName i)) := by
  refine ⟨fun pins s σ H D I h => ?_⟩
  rw [exec_Assign_Name_used _ _ _ _ hsw]
  refine wpAny_bind (wpAny_standAt (wpAny_bind ?_))
  show wpAny _ X.A (do let _ ← comprehension (.DictComp kx vx [⟨tg, iter, ifs, 0⟩] scope pos) scope X.env (firstIterPos [⟨tg, iter, ifs, 0⟩] pos) newDict false (eval iter X.env) (some (assign (.Name y py) X.env))) _ _ s
  have h : tDc wi g tt tk tv (own.map (·.2)) σ H (fun x H1 => gName i x σ H1 D.nx) := h
  refine wpAny_bind (thn (dc_core (Qf := fun _ s' => SP X pins D .next s') hc hN I hi ok hg ht hk he hs h fun L C s' m H' I' q hn f => ?_) fun _ s' hq => wpAny_pure (wpAny_pure hq))
  show wpAny _ _ (assign (.Name y py) X.env (.ref L)) _ _ _
  refine wpAny_assign_Name (store_ok2 (v := V.ref L) I' hN hy (.inl hyl) rfl (fun s2 I2 ⟨a, sb, ha⟩ => ?_) (.inr hyl))
  obtain ⟨f0, f1, f2, f3, f4, f5⟩ := f
  have haC : C ≠ a := by
    rcases ha with z | z
    · rw [z]; exact f1
    · exact fun e => f4 y a z e.symm
  refine ⟨m, hn.sameBut sb haC, fun h3 sb3 => ?_⟩
  exact ⟨_, H', I2.turned (t' := s2.toks) (fun b o hb e => (sb3.2 b hb).trans e) f0 f1 f3 f4 f5, q⟩
theorem sw_trueD {kx vx : Expr} {gs : List Comprehension} {scope : Scope} {pos py : Pos} {y : Str} {l : Nat} {env : Env} (hk : env.scope.kind = .function) (hy : env.scope.names.lookup y = some .local) (hl : (py.line == pos.line) = true)
    (ha : (scope.names.any fun (n, k) => n == y && (k == .local || k == .cell)) = false) : swapsWith (.DictComp kx vx gs scope pos) (some (.Name y py)) l env = pure true := by
  have ky : env.kindOf y = some .local := hy
  have hb : env.blockKind = .function := by unfold Env.blockKind; rw [hk]; rfl
  unfold swapsWith
  simp only [hb, ky, ha, Expr.pos, hl]
  rfl
theorem setL_get : ∀ {is : List Nat} {ds : List D} {δ : List S} {a ia : Nat} {d : D}, is.Nodup → (∀ k ∈ is, k < δ.length) → ds.length = is.length → is[a]? = some ia → ds[a]? = some d → (setL is ds δ)[ia]? = some (.sh d)
  | [], _, _, _, _, _, _, _, _, h, _ => by cases h
  | i :: is, [], _, _, _, _, _, _, h, _, _ => by cases h
  | i :: is, d0 :: ds, δ, a, ia, d, nd, hl, hlen, h1, h2 => by
    obtain ⟨n1, n2⟩ := List.nodup_cons.mp nd
    show (setL is ds (δ.set i (.sh d0)))[ia]? = _
    cases a with
    | zero =>
      cases h1; cases h2
      have keep : ∀ {is : List Nat} {ds : List D} {δ : List S}, i ∉ is → (setL is ds δ)[i]? = δ[i]? := by
        intro is
        induction is with
        | nil => intro ds δ _; cases ds <;> rfl
        | cons k ks ih =>
          intro ds δ hn
          cases ds with
          | nil => rfl
          | cons e es =>
            show (setL ks es (δ.set k (.sh e)))[i]? = _
            rw [ih fun z => hn (List.mem_cons_of_mem _ z), List.getElem?_set_ne fun z => hn (by rw [z]; exact List.mem_cons_self)]
      rw [keep n1, List.getElem?_set_self (hl i List.mem_cons_self)]
    | succ a => exact setL_get n2 (fun k hk => by rw [List.length_set]; exact hl k (List.mem_cons_of_mem _ hk)) (Nat.succ.inj hlen) h1 h2
theorem ws_setD (i a ia : Nat) {is : List Nat} {x1 : Nat} {y ka : Str} {es : List Expr} {py spos pk pv : Pos} {jc : Nat} {sc : Scope} (hN : X.N.Nodup) (h : Wi X H0 it δ (fun n item => SetDW n item is a δ.length fun kds => E.nx (δ.set i (.sh (.dic kds))))) (hisn : is.Nodup) (hia : is[a]? = some ia)
    (hc : X.calm = true) (ok : blkBs X.N X.env.scope sc ((nms es).zip is) = true) (hz : ((nms es).zip is).map (·.2) = is) (hi : nmsB X.N (relS sc X.env.scope) is es = true) (hka : ∀ (s : Shared) (H : Hp) (C : Addr) (cl : List (Str × Addr)) (fp : List Addr), PE (X.blk s H sc (compEnvC sc cl C X.env) fp) (.Name ka pk) (tVar ia))
    (hy : X.N[i]? = some y) (hyl : X.env.scope.names.lookup y = some .local) (hsw : swapsWith (.DictComp (.Name ka pk) (.Constant (.bool true) jc pv) [⟨.Tuple es x1 p, it, [], 0⟩] sc pos) (some (.Name y py)) spos.line X.env = pure true) (hs : ∀ x, foldedSetIterable it X.env x = pure x) :
    Ws X H0 (.Assign [.Name y py] (.DictComp (.Name ka pk) (.Constant (.bool true) jc pv) [⟨.Tuple es x1 p, it, [], 0⟩] sc pos) spos) δ E := fun B σ H own hB R => by
  obtain ⟨wi, hpi, fri, hw⟩ := h
  have hg : ∀ (s : Shared) (H : Hp) (C : Addr) (cl : List (Str × Addr)) (fp : List Addr), PG (X.blk s H sc (compEnvC sc cl C X.env) fp) (.Tuple es x1 p) (gBoth X.K is.length (gNames is)) := fun s H C cl fp => by
    obtain ⟨a, b, c⟩ := pgs_names (X := X.blk s H sc (compEnvC sc cl C X.env) fp) (N := X.N) (sc := relS sc X.env.scope) hN rfl rfl hi
    exact pg_both hc a b c
  refine toS (ps_setDc hc hN hy hyl hsw (hpi _) (blkBs_ok ok) hg (fun _ _ _ _ _ => pts_nil) hka (fun _ _ _ _ _ => pe_bl) hs) ?_
  rw [hz]
  refine fri σ H own.flatten _ _ R.owned (hw σ _ (R.toS.weak hB)) fun J G1 n1 ⟨e1, n, item, ⟨f, ns, ⟨hl, hisl⟩, ht, q⟩, g⟩ => ?_
  have R1 : Rel X.K B σ (mrg H own.flatten G1) δ own := R.step e1 n1
  have ec : cut (mrg H own.flatten G1) own.flatten = G1 := cut_mrg n1
  generalize mrg H own.flatten G1 = Hf at *
  have eG : Ex G1 Hf := by rw [← ec]; exact cut_ex
  have R0 : RelS X.K H0 σ G1 δ := by have := R1.toS.weak hB; rwa [ec] at this
  intro A hA
  have eA : ∀ u, Ex Hf (upd Hf A u) := fun u b w hb => by
    have : b ≠ A := ne_of_none hb hA
    rw [upd_ne this]; exact hb
  refine ⟨fun j m H' => m = n - j ∧ j ≤ n ∧ ∃ kvs, H' = upd Hf A (.dK kvs) ∧ IsK X.K G1 kvs ((List.range j).foldl (fun kds j => putKD kds (.inl (ns j)) (.bl true)) []) ∧ kvs.length ≤ j, ⟨n, by simp, Nat.zero_le _, [], rfl, ⟨rfl, fun i x d h => by cases h⟩, Nat.le_refl _⟩, ?_⟩
  rintro j m H' ⟨rfl, hj, kvs, rfl, ik, hkl⟩
  obtain ⟨j1, j2⟩ := g j _ (eG.trans (eA _))
  by_cases hlt : j < n
  · obtain ⟨g1, g2⟩ := j1 hlt
    refine .inr ⟨g1, fun H' => ∃ kvs, H' = upd Hf A (.dK kvs) ∧ IsK X.K G1 kvs ((List.range (j + 1)).foldl (fun kds j => putKD kds (.inl (ns j)) (.bl true)) []) ∧ kvs.length ≤ j + 1, fun H' z => ⟨n - (j + 1), by omega, rfl, hlt, z⟩, fun x H' yy => ?_⟩
    obtain ⟨rfl, ix⟩ := g2 x H' yy
    obtain ⟨⟨l0, ei⟩, hfl, hfa⟩ := ht j hlt
    rw [ei] at ix
    obtain ⟨xs, il, qq⟩ := both_of (H' := upd Hf A (.dK kvs)) (n := is.length) ix (eG.trans (eA _)) hfl
    obtain ⟨σ2, a1, b1, c1⟩ := gNames_ok (X := X) (H0 := H0) (H' := upd Hf A (.dK kvs)) (is := is) il hfl (RelS.wipe R0 is)
    refine qq _ _ _ (a1 _ ⟨by rw [b1 is fun v hv => hv, wipe_wipe fun v hv => hv], ?_⟩)
    unfold tYes
    refine ifT ?_
    rw [setL_wiped hfl is fun v hv => hv] at c1
    obtain ⟨v, sv, iv⟩ := c1.sh ia _ (setL_get hisn hisl hfl hia hfa)
    cases iv
    refine ⟨_, sv, ?_⟩
    refine ⟨kvs, .inl (ns j), rfl, upd_same, Nat.lt_of_le_of_lt hkl (Nat.lt_of_lt_of_le hlt (Nat.le_trans hl (by decide))), _, upd_upd, ?_, Nat.le_trans (length_putK _ _ _) (by omega)⟩
    rw [List.range_succ, List.foldl_append]
    exact isK_put ik (.bl true)
  · have e : j = n := by omega
    subst e
    refine .inl ⟨j2 (Nat.le_refl _), ?_⟩
    have nA : A ∉ own.flatten := fun z => by
      obtain ⟨u, hu⟩ := (R1.owned A z).some
      rw [hA] at hu; cases hu
    have eC : Ex G1 (cut (upd Hf A (.dK kvs)) own.flatten) := fun b w hb => by
      rw [← ec] at hb
      obtain ⟨m1, m2⟩ := cut_some hb
      rw [cut_out m1, upd_ne (ne_of_none m2 hA)]
      exact m2
    have ik := ik.mono eC
    exact ⟨_, _, (R1.grow (eA (.dK kvs))).setSh (.dic (.inl (by rw [cut_out nA]; exact upd_same)) ik.1 ik.2), q⟩
end
end DL
set_option Elab.async false
set_option linter.all false
set_option maxRecDepth 100000
set_option maxHeartbeats 4000000
/-! The deep machine, part f: statements are sound; a def. -/
namespace DL
open PySem PySem.Spec PyProof.Rows L2
def locB (C : Ct) (i : Nat) (x : Str) : Bool := decide (C.N[i]? = some x) && (decide (C.sc.names.lookup x = some .local) || decide (C.sc.names.lookup x = some .cell))
def locsB (C : Ct) : List Nat → List Expr → Bool
  | [], es => es.isEmpty
  | i :: is, es => match es with
    | .Name x _ :: r => locB C i x && locsB C is r
    | _ => false
def chT (C : Ct) : Xt → Expr → Bool
  | .nm i, e => match e with
    | .Name x _ => locB C i x
    | _ => false
  | .tup is, e => match e with
    | .Tuple es _ _ => locsB C is es
    | _ => false
def swB (C : Ct) (x : Str) (p : Pos) (e : Expr) : Bool := match e with
  | .ListComp _ _ s pos => (C.sc.kind == .function && C.sc.names.lookup x == some .local && p.line == pos.line && !(s.names.any fun (n, k) => n == x && (k == .local || k == .cell)))
  | _ => false
def notName : Expr → Bool
  | .Name .. => false
  | _ => true
def notTup : Expr → Bool
  | .Tuple .. => false
  | _ => true
def notLc2 : Xe → Bool
  | .lc2 .. => false
  | _ => true
def compN : Xn → Expr → Bool
  | .e _ a, _ => !isComp a
  | .lc .., _ => true
  | _, e => match e with
    | .ListComp .. => false
    | .SetComp .. => false
    | .DictComp .. => false
    | _ => true
mutual
def chS (C : Ct) : Xs → Stmt → Bool
  | .set i own bs e, st => match st with
    | .Assign [.Name x p] ex pos => locB C i x && (chE C e ex && notLc2 e)
    | _ => false
  | .setIx i j e, st => match st with
    | .Assign [.Name x p] (.Subscript (.Name y p1) ix ps) pos => locB C i x && (visB C j y && chE C e ix)
    | _ => false
  | .asg t bs e, st => match st with
    | .Assign [tg] ex pos => chT C t tg && (!notTup tg && (notTup ex && chE C e ex))
    | _ => false
  | .ite bs c t e, st => match st with
    | .If cx a b _ => chE C c cx && (chB C t a && chB C e b)
    | _ => false
  | .itj dd bs c t e, st => match st with
    | .If cx a b _ => chE C c cx && (chB C t a && chB C e b)
    | _ => false
  | .ret bs e, st => match st with
    | .Return (some ex) _ => chE C e ex
    | _ => false
  | .retO i, st => match st with
    | .Return (some (.Name x _)) _ => visB C i x
    | _ => false
  | .retN, st => match st with
    | .Return none _ => true
    | _ => false
  | .app i bs e, st => match st with
    | .Expr (.Call (.Attribute (.Name x px) at_ apos) [ex] [] cpos) _ => visB C i x && (decide (at_ = ("append" : Str)) && ((apos.endLine == cpos.line) && chE C e ex))
    | _ => false
  | .sti i bs e ix, st => match st with
    | .Assign [.Subscript (.Name x px) ixe spos] ex pos => visB C i x && (chE C e ex && chE C ix ixe)
    | _ => false
  | .expr bs e, st => match st with
    | .Expr ex _ => !isComp e && chE C e ex
    | _ => false
  | .for_ dd bs t it body, st => match st with
    | .For tg itx sts [] _ => chT C t tg && (chI C it itx && chB C body sts)
    | _ => false
  | .forT dd bs t e body, st => match st with
    | .For tg itx sts [] _ => chT C t tg && (chE C e itx && chB C body sts)
    | _ => false
  | .whl dd bs c body, st => match st with
    | .While cx sts [] _ => chE C c cx && chB C body sts
    | _ => false
  | .fst i f bs e, st => match st with
    | .Assign [.Attribute (.Name x p) f' p2] ex pos => visB C i x && (decide (f' = f) && chE C e ex)
    | _ => false
  | .setT i e, st => match st with
    | .Assign [.Name x p] ex pos => locB C i x && (chN C e ex && compN e ex)
    | _ => false
  | .retT e, st => match st with
    | .Return (some ex) _ => chN C e ex
    | _ => false
  | .appT i p e, st => match st with
    | .Expr (.Call (.Attribute o at_ apos) [ex] [] cpos) _ => chP C p i o && (decide (at_ = ("append" : Str)) && ((apos.endLine == cpos.line) && chN C e ex))
    | _ => false
  | .stiT i p bs ix e, st => match st with
    | .Assign [.Subscript o ixe spos] ex pos => chP C p i o && (chE C ix ixe && chN C e ex)
    | _ => false
  | .ins i bs ix e, st => match st with
    | .Expr (.Call (.Attribute (.Name x px) at_ apos) [ixe, ex] [] cpos) _ => visB C i x && (decide (at_ = ("insert" : Str)) && ((apos.endLine == cpos.line) && (chE C ix ixe && chE C e ex)))
    | _ => false
  | .forE v i ix e, st => match st with
    | .For (.Name x _) (.Name y _) [.Assign [.Subscript (.Name z _) ixe _] ex _] [] _ => locB C v x && (decide (x = z) && (visB C v x && (visB C i y && (decide (v ≠ i) && (chE C ix ixe && chE C e ex)))))
    | _ => false
  | .setD i is a it, st => match st with
    | .Assign [.Name y py] (.DictComp (.Name ka _) (.Constant (.bool true) _ _) [⟨.Tuple es _ _, itr, [], 0⟩] sc pos) _ => decide (C.N[i]? = some y) && ((C.sc.kind == .function && (decide (C.sc.names.lookup y = some .local) && ((py.line == pos.line) && !(sc.names.any fun (n, k) => n == y && (k == .local || k == .cell))))) &&
      (blkBs C.N C.sc sc ((nms es).zip is) && (decide (((nms es).zip is).map (·.2) = is) && (nmsB C.N (relS sc C.sc) is es && (chI C it itr && (decide is.Nodup && (match is[a]? with
        | some ia => visB { C with sc := relS sc C.sc } ia ka
        | none => false)))))))
    | _ => false
  | .brk, st => match st with
    | .Break _ => true
    | _ => false
  | .cnt, st => match st with
    | .Continue _ => true
    | _ => false
  | .pass, st => match st with
    | .Pass _ => true
    | _ => false
  | .rse, st => match st with
    | .Raise _ _ _ => true
    | _ => false
  | .rsc i bs a, st => match st with
    | .Raise (some (.Call (.Name x _) [ex] [] _)) none _ => decide (C.fs[i]? = some ⟨x, .exc⟩) && (gloB C x && chE C a ex)
    | _ => false
def chB (C : Ct) : Xb → List Stmt → Bool
  | .nil, sts => sts.isEmpty
  | .cons s r, sts => match sts with
    | st :: rest => chS C s st && chB C r rest
    | [] => false
  | .lend _ r, sts => chB C r sts
end
/-- a def's body runs -/
structure Es (X : Cx) (C : Ct) (Γ : List DSp) : Prop where
  ev : Ev X C Γ
  fn : ∀ x, X.fn x = true
  hp : PassesOwn (model X.prog X.w) X.A X.env X.xe
  kind : C.sc.kind = .function
section
variable {X : Cx} {C : Ct} {Γ : List DSp} {H0 : Hp} {δ δ' : List S} {e c it : Expr} {pos p : Pos} {E : Ed}
theorem owL_inv {o : Option S} {k : List D → Prop} (h : owL o k) : ∃ ds, o = some (.ow (.lst ds)) ∧ k ds := by
  unfold owL at h
  split at h
  · exact ⟨_, rfl, h⟩
  · exact h.elim
theorem owC_inv {o : Option S} {k : List D → Prop} {k' : List (Key × D) → Prop} (h : owC o k k') : (∃ ds, o = some (.ow (.lst ds)) ∧ k ds) ∨ ∃ kds, o = some (.ow (.dic kds)) ∧ k' kds := by
  unfold owC at h
  split at h
  · exact .inl ⟨_, rfl, h⟩
  · exact .inr ⟨_, rfl, h⟩
  · exact h.elim
theorem keepW_mono {bs : List Nat} {r : S} {k k' : List S → Prop} (h : keepW bs r δ k) (m : ∀ δ, k δ → k' δ) : keepW bs r δ k' := by
  cases bs with
  | nil => exact m _ h
  | cons j js =>
    rcases h.ex with ⟨a, b⟩ | b | ⟨a, b, c⟩
    · exact ⟨.inl ⟨a, m _ b⟩⟩
    · exact ⟨.inr (.inl (m _ b))⟩
    · exact ⟨.inr (.inr ⟨a, b, m _ c⟩)⟩
theorem tup_name (h : notTup e = false) (h2 : notName e = false) : False := by cases e <;> first | (cases h; done) | cases h2
theorem nn_tup (h : notTup e = false) : notName e = true := by cases e <;> first | (cases h; done) | rfl
theorem sub_asg {a : Xe} {o ix : Expr} {p : Pos} {env : Env} {v : Value} (h : chE C a ix = true) : assign (.Subscript o ix p) env v = (do
    let ov ← holding [v] (eval o env)
    let iv ← holding [v, ov] (eval ix env)
    standAt p
    holding [v, ov, iv] (setItem ov iv v)
    release [v, ov, iv] []) := by
  cases ix with
  | Slice v p q => cases a <;> (simp only [chE] at h; cases h)
  | _ => rfl
theorem wg_mono {tg : Expr} {d : D} {k k' : List S → Prop} (h : Wg X H0 tg d δ k) (m : ∀ δ, k δ → k' δ) : Wg X H0 tg d δ k' := fun B σ H own v hB R iv => (h B σ H own v hB R iv).mono fun σ' H' ⟨δ', own', R', q⟩ => ⟨δ', own', R', m _ q⟩
theorem ws_forRx {e : Expr} {sts : List Stmt} {E : En} (hm : X.mg "range" = none) (hp : PassesOwn (model X.prog X.w) X.A X.env X.xe) (hc : X.calm = true) {tg : Expr} {pr pc : Pos} (hv : Vw δ δ')
    (h : Wa X H0 [e] δ' (fun ds => A1 ds fun x => I1 x fun n => (-(2 ^ 62) ≤ n ∧ n < 2 ^ 62) ∧ ∃ Iv : Nat → List S → Prop, Upto (Iv 0) δ ∧ (∀ (i : Nat) δ1, i < n.toNat → Iv i δ1 → Wg X H0 tg (.int (i : Int)) δ1 fun δ2 => Wb X H0 sts δ2 (turnE E (Iv (i + 1)))) ∧ (∀ δ1, Iv n.toNat δ1 → E.nx δ1)))
    (hg : Gl X "range") (hs1 : notStar e = true) : Ws X H0 (.For tg (.Call (.Name "range" pr) [e] [] pc) sts [] pos) δ E := fun B σ H own hB R =>
  toS (ps_for hp hc (pi_range1 hg hm pa_sem (star_of hs1)) pg_sem pb_sem (fun _ => rfl)) ((h.atV hv hB R).mono fun vs H1 ⟨ds, R1, is, x, ed, n, ex, ⟨b1, b2⟩, Iv, h0, ht, he⟩ => by
    subst ed ex
    obtain ⟨v, rfl, i⟩ := is.one
    cases i
    refine ⟨n, rfl, b1, b2, for_range (lo := 0) (n := n.toNat) (fun i σ H => ∃ δ own, Rel X.K B σ H δ own ∧ Upto (Iv i) δ) ⟨δ, own, R1, h0⟩ (fun i σ' H' hi ⟨δ1, own1, R', δ2, hv2, q⟩ => ?_) (fun σ' H' ⟨δ1, own1, R', δ2, hv2, q⟩ => ⟨_, _, (R'.view hv2).1, he _ q⟩)⟩
    rw [Int.zero_add]
    exact (ht i δ2 hi q B σ' H' _ _ hB (R'.view hv2).1 (.int _)).mono fun σ3 H3 ⟨δ3, own3, R3, q3⟩ => q3 B σ3 H3 own3 hB R3)
theorem ws_forRx2 {e e2 : Expr} {sts : List Stmt} {E : En} (hm : X.mg "range" = none) (hp : PassesOwn (model X.prog X.w) X.A X.env X.xe) (hc : X.calm = true) {tg : Expr} {pr pc : Pos} (hv : Vw δ δ')
    (h : Wa X H0 [e, e2] δ' (fun ds => A2 ds fun x y => I2 x y fun m n => (-(2 ^ 62) ≤ m ∧ m < 2 ^ 62 ∧ -(2 ^ 62) ≤ n ∧ n < 2 ^ 62) ∧ ∃ Iv : Nat → List S → Prop, Upto (Iv 0) δ ∧ (∀ (i : Nat) δ1, i < (n - m).toNat → Iv i δ1 → Wg X H0 tg (.int (m + (i : Int))) δ1 fun δ2 => Wb X H0 sts δ2 (turnE E (Iv (i + 1)))) ∧ (∀ δ1, Iv (n - m).toNat δ1 → E.nx δ1)))
    (hg : Gl X "range") (hs1 : notStar e = true) (hs2 : notStar e2 = true) : Ws X H0 (.For tg (.Call (.Name "range" pr) [e, e2] [] pc) sts [] pos) δ E := fun B σ H own hB R =>
  toS (ps_for hp hc (pi_range2 hg hm pa_sem ((star_of hs1).trans (congrArg _ (star_of hs2))) (star_of hs2)) pg_sem pb_sem (fun _ => rfl)) ((h.atV hv hB R).mono fun vs H1 ⟨ds, R1, is, x, y, ed, m, n, ex, ey, bb, Iv, h0, ht, he⟩ => by
    subst ed ex ey
    obtain ⟨v, w, rfl, i, j⟩ := is.two
    cases i
    cases j
    refine ⟨m, n, rfl, bb, for_range (lo := m) (n := (n - m).toNat) (fun i σ H => ∃ δ own, Rel X.K B σ H δ own ∧ Upto (Iv i) δ) ⟨δ, own, R1, h0⟩ (fun i σ' H' hi ⟨δ1, own1, R', δ2, hv2, q⟩ => ?_) (fun σ' H' ⟨δ1, own1, R', δ2, hv2, q⟩ => ⟨_, _, (R'.view hv2).1, he _ q⟩)⟩
    exact (ht i δ2 hi q B σ' H' _ _ hB (R'.view hv2).1 (.int _)).mono fun σ3 H3 ⟨δ3, own3, R3, q3⟩ => q3 B σ3 H3 own3 hB R3)
theorem Es.loc (SS : Es X C Γ) {i : Nat} {x : Str} (h : locB C i x = true) : X.N[i]? = some x ∧ L2.Loc X.env.scope x := by
  obtain ⟨h1, h2⟩ := and3 h
  refine ⟨by rw [SS.ev.N]; exact of_decide_eq_true h1, ?_⟩
  show X.env.scope.names.lookup x = _ ∨ X.env.scope.names.lookup x = _
  rw [SS.ev.sc]
  rcases Bool.or_eq_true_iff.mp h2 with z | z
  · exact .inl (of_decide_eq_true z)
  · exact .inr (of_decide_eq_true z)
theorem Es.nd (SS : Es X C Γ) : X.N.Nodup := by rw [SS.ev.N]; exact SS.ev.nd
theorem sw_no {a : Xe} (h : chE C a e = true) (hc : isComp a = false) (t : Option Expr) (l : Nat) (env : Env) : swapsWith e t l env = pure false := by
  cases e with
  | ListComp v p q => cases a <;> first | (cases hc; done) | (simp only [chE] at h; cases h)
  | SetComp v p q => cases a <;> (simp only [chE] at h; cases h)
  | DictComp v p q => cases a <;> (simp only [chE] at h; cases h)
  | _ => rfl
theorem lstT_inv {t : Tr} {k : List Tr → Prop} (h : lstT t k) : ∃ us, t = .lst us ∧ k us := by
  unfold lstT at h
  split at h
  · exact ⟨_, rfl, h⟩
  · exact h.elim
theorem trO_inv {o : Option S} {k : List Tr → Prop} (h : trO o k) : ∃ ts, o = some (.ow (.tr ts)) ∧ k ts := by
  unfold trO at h
  split at h
  · exact ⟨_, rfl, h⟩
  · exact h.elim
theorem sw_att {o : Expr} {f : Str} {p2 : Pos} (l : Nat) (env : Env) : swapsWith e (some (.Attribute o f p2)) l env = pure false := by
  cases e with
  | ListComp v p q => rfl
  | SetComp v p q => rfl
  | DictComp v p q => rfl
  | _ => rfl
theorem chP_nc {C : Ct} {p : Xp} {i : Nat} {e : Expr} (h : chP C p i e = true) : notCall e = true := by
  cases e with
  | Call v q r s => cases p <;> (simp only [chP] at h; cases h)
  | _ => rfl
theorem sw_sole {tg : Expr} (h : notName tg = true) (l : Nat) (env : Env) : swapsWithSole [tg] e l env = pure false := by
  show swapsWith e (some tg) l env = pure false
  cases e with
  | ListComp v p q => cases tg <;> first | rfl | cases h
  | SetComp v p q => cases tg <;> first | rfl | cases h
  | DictComp v p q => cases tg <;> first | rfl | cases h
  | _ => rfl
theorem locs_ok (SS : Es X C Γ) : ∀ {is : List Nat} {es : List Expr}, locsB C is es = true → ((assignEach es X.env).length = es.length ∧ (assignEach es X.env).findIdx? (·.1) = none) ∧ ∀ {ds : List D} {δ : List DL.S} {k : List DL.S → Prop}, setAll is ds δ k → ds.length = es.length ∧ Wgs X H0 es ds δ k
  | [], es, h => by
    rw [locsB, List.isEmpty_iff] at h
    subst h
    refine ⟨⟨rfl, rfl⟩, fun {ds δ k} q => ?_⟩
    cases ds with
    | nil => exact ⟨rfl, wgs_nil q⟩
    | cons d ds => exact q.elim
  | i :: is, es, h => by
    unfold locsB at h
    split at h
    · obtain ⟨h1, h2⟩ := and3 h
      obtain ⟨⟨a1, a2⟩, a3⟩ := locs_ok SS h2
      refine ⟨⟨?_, ?_⟩, fun {ds δ k} q => ?_⟩
      · show (assignEach _ X.env).length + 1 = _
        rw [a1]; rfl
      · show List.findIdx? _ ((false, _) :: assignEach _ X.env) = none
        rw [List.findIdx?_cons, a2]; rfl
      · cases ds with
        | nil => exact q.elim
        | cons d ds =>
          obtain ⟨l, w⟩ := a3 q
          obtain ⟨n1, n2⟩ := SS.loc h1
          exact ⟨by rw [List.length_cons, List.length_cons, l], wgs_cons (wg_name i SS.nd w n1 n2 (.inl (SS.fn _))) fun a b => pgs_cons a b rfl⟩
    · cases h
theorem wg_t (SS : Es X C Γ) {t : Xt} {tg : Expr} (h : chT C t tg = true) {d : D} {k : List S → Prop} (q : wpt t d δ k) : Wg X H0 tg d δ k := by
  cases t with
  | nm i =>
    simp only [chT] at h
    split at h
    · obtain ⟨n1, n2⟩ := SS.loc h
      exact wg_name i SS.nd q n1 n2 (.inl (SS.fn _))
    · cases h
  | tup is =>
    simp only [chT] at h
    split at h
    · obtain ⟨⟨a1, a2⟩, a3⟩ := locs_ok (H0 := H0) SS h
      cases d with
      | sq l ds =>
        obtain ⟨n, w⟩ := a3 q
        exact wg_both SS.ev.calm w (by rw [a1, n]) a2
      | _ => exact q.elim
    · cases h
theorem swappedN {tg : Expr} (h : notTup e = true) (env : Env) : swappedStores [tg] e env = pure none := by
  cases e <;> first | (cases h; done) | (cases tg <;> rfl)
theorem asg_one {tg : Expr} (h : notTup tg = false) (env : Env) : (assignEach [tg] env).map (·.2) = [assign tg env] := by
  cases tg <;> first | rfl | cases h
theorem sw_eq {el : Expr} {gs : List Comprehension} {sc : Scope} {x : Str} {p' : Pos} (SS : Es X C Γ) (l : Nat) :
    swapsWith (.ListComp el gs sc pos) (some (.Name x p')) l X.env = pure (swB C x p' (.ListComp el gs sc pos)) := by
  have e0 : X.env.blockKind = .function := by
    unfold Env.blockKind
    rw [SS.ev.sc, SS.kind]; rfl
  show pure (X.env.blockKind == .function && X.env.kindOf x == some .local && p'.line == pos.line && !(sc.names.any fun (n, k) => n == x && (k == .local || k == .cell))) = _
  rw [e0]
  show pure (_ && X.env.scope.names.lookup x == some .local && _ && _) = _
  rw [SS.ev.sc]
  show _ = pure (C.sc.kind == .function && _ && _ && _)
  rw [SS.kind]
theorem sw_loc {C : Ct} {x : Str} {p : Pos} {e : Expr} (h : swB C x p e = true) : C.sc.names.lookup x = some .local := by
  unfold swB at h
  split at h
  · obtain ⟨h, _⟩ := and3 h
    obtain ⟨h, _⟩ := and3 h
    obtain ⟨_, h⟩ := and3 h
    exact eq_of_beq h
  · cases h
theorem so_setlc {i v : Nat} {x : Str} {p pos : Pos} {ex : Expr} {own : Bool} {elt : Xe} {it : Xi} {xw : List S → XD} {E : En} (SS : Es X C Γ) (h : chE C (.lc v elt it) ex = true) (n1 : X.N[i]? = some x) (n2 : L2.Loc X.env.scope x) (hx : Xc X H0 xw)
    (q : wpe Γ (.lc v elt it) δ (xw δ) (.e fun r => E.nx (δ.set i (putS own r)))) : Ws X H0 (.Assign [.Name x p] ex pos) δ E := by
  have A := ((so_e (.lc v elt it)).run SS.ev h hx (δ := δ)).1 _ q
  unfold chE at h
  split at h
  · rename_i l y py itr sc pos'
    cases hb : swB C x p (.ListComp l [⟨.Name y py, itr, [], 0⟩] sc pos') with
    | false => exact ws_setU i (bs := []) SS.nd A n1 n2 (by rw [sw_eq SS, hb]) (.inl (SS.fn _))
    | true =>
      have hl : X.env.scope.names.lookup x = some .local := by rw [SS.ev.sc]; exact sw_loc hb
      obtain ⟨h1, h⟩ := and3 h
      obtain ⟨h2, h⟩ := and3 h
      obtain ⟨h3, h⟩ := and3 h
      obtain ⟨h4, h5⟩ := and3 h
      have hsw : swapsWith (.ListComp l [⟨.Name y py, itr, [], 0⟩] sc pos') (some (.Name x p)) pos.line X.env = pure true := by rw [sw_eq SS, hb]
      have hbk : blkB X.N X.env.scope sc y v = true := by rw [SS.ev.N, SS.ev.sc]; exact h1
      have hv : X.N[v]? = some y := by rw [SS.ev.N]; exact of_decide_eq_true h2
      have hlk : ∀ cl C', (compEnvC sc cl C' X.env).scope.names.lookup y = some .local ∨ ((compEnvC sc cl C' X.env).scope.names.lookup y = some .cell ∧ sc.names.lookup y = some .cell) := fun cl C' => by
        show (relS _ _).names.lookup _ = _ ∨ ((relS _ _).names.lookup _ = _ ∧ _)
        rw [SS.ev.sc]
        exact of_decide_eq_true h3
      have W := (so_i it).run SS.ev h4 hx (δ := δ) _ q
      cases own with
      | true => exact ws_setLcOC i v SS.nd (W.mono fun n item ⟨R, a, b, c⟩ => ⟨R, a, fun i hi s hh C' cl fp => we_wu (k := R i) (((so_e elt).run (SS.ev.blk) h5 (xw := fun _ => noX) (δ := δ.set v (.sh (item i))) xc0).1 _ (b i hi)), c⟩) SS.ev.calm hbk hv hlk n1 hl hsw (chI_set h4 _)
      | false => exact ws_setLcC i v SS.nd (W.mono fun n item ⟨R, a, b, c⟩ => ⟨R, a, fun i hi s hh C' cl fp => we_wu (k := R i) (((so_e elt).run (SS.ev.blk) h5 (xw := fun _ => noX) (δ := δ.set v (.sh (item i))) xc0).1 _ (b i hi)), c⟩) SS.ev.calm hbk hv hlk n1 hl hsw (chI_set h4 _)
  · cases h
theorem so_setlcf {i v : Nat} {x : Str} {p pos : Pos} {ex : Expr} {own : Bool} {elt c : Xe} {it : Xi} {xw : List S → XD} {E : En} (SS : Es X C Γ) (h : chE C (.lcf v elt it c) ex = true) (n1 : X.N[i]? = some x) (n2 : L2.Loc X.env.scope x) (hx : Xc X H0 xw)
    (q : wpe Γ (.lcf v elt it c) δ (xw δ) (.e fun r => E.nx (δ.set i (putS own r)))) : Ws X H0 (.Assign [.Name x p] ex pos) δ E := by
  have A := ((so_e (.lcf v elt it c)).run SS.ev h hx (δ := δ)).1 _ q
  unfold chE at h
  split at h
  · rename_i l y py itr t sc pos'
    cases hb : swB C x p (.ListComp l [⟨.Name y py, itr, [t], 0⟩] sc pos') with
    | false => exact ws_setU i (bs := []) SS.nd A n1 n2 (by rw [sw_eq SS, hb]) (.inl (SS.fn _))
    | true =>
      have hl : X.env.scope.names.lookup x = some .local := by rw [SS.ev.sc]; exact sw_loc hb
      obtain ⟨h1, h⟩ := and3 h
      obtain ⟨h2, h⟩ := and3 h
      obtain ⟨h3, h⟩ := and3 h
      obtain ⟨h4, h⟩ := and3 h
      obtain ⟨h5, h6⟩ := and3 h
      have hsw : swapsWith (.ListComp l [⟨.Name y py, itr, [t], 0⟩] sc pos') (some (.Name x p)) pos.line X.env = pure true := by rw [sw_eq SS, hb]
      have hbk : blkB X.N X.env.scope sc y v = true := by rw [SS.ev.N, SS.ev.sc]; exact h1
      have hv : X.N[v]? = some y := by rw [SS.ev.N]; exact of_decide_eq_true h2
      have hlk : ∀ cl C', (compEnvC sc cl C' X.env).scope.names.lookup y = some .local := fun cl C' => by
        show (relS _ _).names.lookup _ = _
        rw [SS.ev.sc]
        exact of_decide_eq_true h3
      have W := (so_i it).run SS.ev h4 hx (δ := δ) _ q
      have conv : ∀ {n item} {ko : List D → Prop}, LcfW n item (fun d q => wpe Γ c (δ.set v (.sh d)) noX (.t (q true) (q false))) (fun d q => wpe Γ elt (δ.set v (.sh d)) noX (.e fun r => q r.d)) ko → LCF X sc H0 t l δ v ko n item := fun {n item ko} z => by
        obtain ⟨tt, g, a, b, c'⟩ := z
        refine ⟨tt, g, a, fun i hi s hh C' cl fp => (((so_e c).run (SS.ev.blk) h6 (xw := fun _ => noX) (δ := δ.set v (.sh (item i))) xc0).2 _ _ (b i hi)).mono fun r z => ?_, c'⟩
        have zz : r = tt (item i) ∧ (r = true → wpe Γ elt (δ.set v (.sh (item i))) noX (.e fun r => r.d = g (item i))) := by
          cases r with
          | true => exact z.1 rfl
          | false => exact z.2 rfl
        exact ⟨zz.1, fun hr s2 hh2 C2 cl2 fp2 => we_wu (k := fun e => e = g (item i)) (((so_e elt).run (SS.ev.blk) h5 (xw := fun _ => noX) (δ := δ.set v (.sh (item i))) xc0).1 _ (zz.2 hr))⟩
      cases own with
      | true => exact ws_setLcfO i v SS.nd (W.mono fun n item z => conv z) SS.ev.calm hbk hv hlk n1 hl hsw (chI_set h4 _)
      | false => exact ws_setLcf i v SS.nd (W.mono fun n item z => conv z) SS.ev.calm hbk hv hlk n1 hl hsw (chI_set h4 _)
  · cases h
theorem so_setlct {i : Nat} {is : List Nat} {x : Str} {p pos : Pos} {ex : Expr} {own : Bool} {elt : Xe} {it : Xi} {xw : List S → XD} {E : En} (SS : Es X C Γ) (h : chE C (.lct is elt it) ex = true) (n1 : X.N[i]? = some x) (n2 : L2.Loc X.env.scope x) (hx : Xc X H0 xw)
    (q : wpe Γ (.lct is elt it) δ (xw δ) (.e fun r => E.nx (δ.set i (putS own r)))) : Ws X H0 (.Assign [.Name x p] ex pos) δ E := by
  have A := ((so_e (.lct is elt it)).run SS.ev h hx (δ := δ)).1 _ q
  unfold chE at h
  split at h
  · rename_i l es y1 py itr sc pos'
    cases hb : swB C x p (.ListComp l [⟨.Tuple es y1 py, itr, [], 0⟩] sc pos') with
    | false => exact ws_setU i (bs := []) SS.nd A n1 n2 (by rw [sw_eq SS, hb]) (.inl (SS.fn _))
    | true =>
      have hl : X.env.scope.names.lookup x = some .local := by rw [SS.ev.sc]; exact sw_loc hb
      obtain ⟨h1, h⟩ := and3 h
      obtain ⟨h2, h⟩ := and3 h
      obtain ⟨h3, h⟩ := and3 h
      obtain ⟨h4, h5⟩ := and3 h
      have hsw : swapsWith (.ListComp l [⟨.Tuple es y1 py, itr, [], 0⟩] sc pos') (some (.Name x p)) pos.line X.env = pure true := by rw [sw_eq SS, hb]
      have W := (so_i it).run SS.ev h4 hx (δ := δ) _ q
      have O : ∀ {E : En}, (∀ es, E.nx (δ.set i (.ow (.lst es))) = E.nx (δ.set i (.ow (.lst es)))) → Wi X H0 itr δ (LCt X sc H0 l δ is fun es => E.nx (δ.set i (.ow (.lst es)))) → Ws X H0 (.Assign [.Name x p] (.ListComp l [⟨.Tuple es y1 py, itr, [], 0⟩] sc pos') pos) δ E := fun {E} _ w =>
        ws_setLctO i SS.nd w SS.ev.calm (by rw [SS.ev.N, SS.ev.sc]; exact h1) (of_decide_eq_true h2) (by rw [SS.ev.N, SS.ev.sc]; exact h3) n1 hl hsw (chI_set h4 _)
      have conv : ∀ {n : Nat} {item : Nat → D} {k k' : List D → Prop}, LcW n item (fun d q => tgtD is d δ fun δ' => wpe Γ elt δ' noX (.e fun r => q r.d)) k → (∀ es, k es → k' es) → LCt X sc H0 l δ is k' n item := fun z m => by
        obtain ⟨R, a, b, c⟩ := z
        refine ⟨R, a, fun i hi => ?_, fun es p => m es (c es p)⟩
        obtain ⟨l0, ds, e1, e2, q2⟩ := tgtD_inv (b i hi)
        exact ⟨l0, ds, e1, e2, fun s hh C' cl fp => we_wu (k := R i) (((so_e elt).run (SS.ev.blk) h5 (xw := fun _ => noX) (δ := setL is ds δ) xc0).1 _ q2)⟩
      cases own with
      | true => exact O (fun _ => rfl) (W.mono fun n item z => conv z fun es p => p)
      | false => exact ws_post (O (E := { E with nx := fun δ' => ∃ δ'', Vw δ' δ'' ∧ E.nx δ'' }) (fun _ => rfl) (W.mono fun n item z => conv z fun es p => ⟨_, vw_set, p⟩))
  · cases h
theorem so_rng {P : Nat → (Nat → D) → Prop} {tg : Expr} {sts : List Stmt} {bs : List Nat} {a : Xe} {xw : List S → XD} {E : En} (SS : Es X C Γ) (h : chI C (.rng a) it = true) (hx : Xc X H0 xw) (q : wpi Γ (.rng a) (bor bs δ) (xw (bor bs δ)) P)
    (m : ∀ n, P n (fun i => .int (i : Int)) → ∃ Iv : Nat → List S → Prop, Upto (Iv 0) δ ∧ (∀ (i : Nat) δ1, i < n → Iv i δ1 → Wg X H0 tg (.int (i : Int)) δ1 fun δ2 => Wb X H0 sts δ2 (turnE E (Iv (i + 1)))) ∧ (∀ δ1, Iv n δ1 → E.nx δ1)) : Ws X H0 (.For tg it sts [] pos) δ E := by
  unfold chI at h
  split at h
  · obtain ⟨h1, h⟩ := and3 h
    obtain ⟨h2, h3⟩ := and3 h
    obtain rfl := of_decide_eq_true h1
    have A := ((so_e a).run SS.ev h3 hx (δ := bor bs δ)).1
    refine ws_forRx SS.ev.bi.range SS.hp SS.ev.calm (vw_bor (bs := bs)) (wa_cons (we_wu (k := fun d => Wa _ H0 [] (bor bs δ) fun ds => A1 (d :: ds) _) ((A _ q).mono fun r z => wa_nil (a1 ?_))) (chE_star h3)) (SS.ev.glo h2).1 (chE_star h3)
    cases hd : r.d with
    | int n => rw [hd] at z; exact i1 ⟨z.1, m _ z.2⟩
    | _ => rw [hd] at z; exact z.elim
  · cases h
theorem so_rng2 {P : Nat → (Nat → D) → Prop} {tg : Expr} {sts : List Stmt} {bs : List Nat} {a b : Xe} {xw : List S → XD} {E : En} (SS : Es X C Γ) (h : chI C (.rng2 a b) it = true) (hx : Xc X H0 xw) (q : wpi Γ (.rng2 a b) (bor bs δ) (xw (bor bs δ)) P)
    (m : ∀ (m : Int) n, P n (fun i => .int (m + (i : Int))) → ∃ Iv : Nat → List S → Prop, Upto (Iv 0) δ ∧ (∀ (i : Nat) δ1, i < n → Iv i δ1 → Wg X H0 tg (.int (m + (i : Int))) δ1 fun δ2 => Wb X H0 sts δ2 (turnE E (Iv (i + 1)))) ∧ (∀ δ1, Iv n δ1 → E.nx δ1)) : Ws X H0 (.For tg it sts [] pos) δ E := by
  unfold chI at h
  split at h
  · obtain ⟨h1, h⟩ := and3 h
    obtain ⟨h2, h⟩ := and3 h
    obtain ⟨h3, h4⟩ := and3 h
    obtain rfl := of_decide_eq_true h1
    have A := ((so_e a).run SS.ev h3 hx (δ := bor bs δ)).1
    have B := ((so_e b).run SS.ev h4 hx (δ := bor bs δ)).1
    refine ws_forRx2 SS.ev.bi.range SS.hp SS.ev.calm (vw_bor (bs := bs)) (wa_cons (we_wu (k := fun d => Wa _ H0 _ (bor bs δ) fun ds => A2 (d :: ds) _) ((A _ q).mono fun r z => wa_cons (we_wu (k := fun d => Wa _ H0 [] (bor bs δ) fun ds => A2 (r.d :: d :: ds) _) ((B _ z).mono fun r' z' => wa_nil (a2 ?_))) (chE_star h4))) (chE_star h3)) (SS.ev.glo h2).1 (chE_star h3) (chE_star h4)
    cases hd : r.d with
    | int n =>
      rw [hd] at z'
      cases hd' : r'.d with
      | int n' => rw [hd'] at z'; exact i2 ⟨z'.1, m _ _ z'.2⟩
      | _ => rw [hd'] at z'; exact z'.elim
    | _ => rw [hd] at z'; exact z'.elim
  · cases h
structure SoS (s : Xs) : Prop where
  run : ∀ {X : Cx} {C : Ct} {Γ : List DSp} {H0 : Hp} {st : Stmt}, Es X C Γ → chS C s st = true → ∀ {δ : List S} {E : Ed}, Xc X H0 E.xw → wps Γ s δ E → Ws X H0 st δ (toEn E)
structure SoB (s : Xb) : Prop where
  run : ∀ {X : Cx} {C : Ct} {Γ : List DSp} {H0 : Hp} {sts : List Stmt}, Es X C Γ → chB C s sts = true → ∀ {δ : List S} {E : Ed}, Xc X H0 E.xw → wpb Γ s δ E → Wb X H0 sts δ (toEn E)
end
mutual
theorem so_s : ∀ s : Xs, SoS s
  | .set i own bs e => .mk <| by
    intro X C Γ H0 st SS h δ E hx q
    unfold chS at h
    split at h
    · rename_i x p ex pos
      obtain ⟨h1, h⟩ := and3 h
      obtain ⟨h2, h3⟩ := and3 h
      obtain ⟨n1, n2⟩ := SS.loc h1
      have A := ((so_e e).run SS.ev h2 hx (δ := bor bs δ)).1
      cases hc : isComp e with
      | false =>
        simp only [wps, hc] at q
        exact ws_setU i SS.nd (A _ q) n1 n2 (sw_no h2 hc _ _ _) (.inl (SS.fn _))
      | true =>
        simp only [wps, hc] at q
        have w := A _ q
        refine ws_view (vw_bor (bs := bs)) ?_
        cases e with
        | lc v elt it => exact so_setlc SS h2 n1 n2 hx q
        | lcf v elt it c => exact so_setlcf SS h2 n1 n2 hx q
        | lct is elt it => exact so_setlct SS h2 n1 n2 hx q
        | lc2 v v2 elt it a => cases h3
        | _ => cases hc
    · cases h
  | .setIx i j e => .mk <| by
    intro X C Γ H0 st SS h δ E hx q
    unfold chS at h
    split at h
    · obtain ⟨h1, h⟩ := and3 h
      obtain ⟨h2, h3⟩ := and3 h
      obtain ⟨n1, n2⟩ := SS.loc h1
      have A := ((so_e e).run SS.ev h3 hx (δ := bor [j] δ)).1
      unfold wps at q
      obtain ⟨ds, hj, q⟩ := owL_inv q
      · refine ws_setIx i j SS.nd hj (vw_bor (bs := [j])) ((we_wu (k := fun d => ixD (.sq true ds) d fun d => E.nx (δ.set i (.sh d))) (A _ q)).mono fun d z => ?_) n1 n2 (SS.ev.vis h2) (chE_ix h3) rfl (.inl (SS.fn _))
        cases d with
        | int m => obtain ⟨d', e1, e2⟩ := z; exact ⟨m, d', rfl, e1, e2⟩
        | _ => exact z.elim
    · cases h
  | .asg t bs e => .mk <| by
    intro X C Γ H0 st SS h δ E hx q
    unfold chS at h
    split at h
    · obtain ⟨h1, h⟩ := and3 h
      obtain ⟨h2, h⟩ := and3 h
      obtain ⟨h3, h4⟩ := and3 h
      have A := ((so_e e).run SS.ev h4 hx (δ := bor bs δ)).1
      rw [Bool.not_eq_true'] at h2
      have t2 := h2
      refine ws_asgU (bs := bs) ((A _ q).mono fun r z => keepW_mono z fun δ' z => wg_t SS h1 z) (sw_sole (nn_tup t2) _ _) (swappedN h3 _) (asg_one t2 _)
    · cases h
  | .ite bs c t e => .mk <| by
    intro X C Γ H0 st SS h δ E hx q
    unfold chS at h
    split at h
    · obtain ⟨h1, h⟩ := and3 h
      obtain ⟨h2, h3⟩ := and3 h
      exact ws_if (vw_bor (bs := bs)) ((((so_e c).run SS.ev h1 hx (δ := bor bs δ)).2 _ _ q).mono fun r z => ⟨fun hr => (so_b t).run SS h2 hx (z.1 hr), fun hr => (so_b e).run SS h3 hx (z.2 hr)⟩)
    · cases h
  | .itj dd bs c t e => .mk <| by
    intro X C Γ H0 st SS h δ E hx q
    unfold chS at h
    split at h
    · obtain ⟨h1, h⟩ := and3 h
      obtain ⟨h2, h3⟩ := and3 h
      obtain ⟨M, q, hM⟩ := q.ex
      have back : ∀ δ1, M (drp dd δ1) → ∃ δ2, Vw δ1 δ2 ∧ E.nx δ2 := fun δ1 z => ⟨_, vw_drp, hM _ z⟩
      refine ws_post (ws_if (vw_bor (bs := bs)) ((((so_e c).run SS.ev h1 (xw := E.xw) hx (δ := bor bs δ)).2 _ _ q).mono fun r z => ⟨fun hr => ?_, fun hr => ?_⟩))
      · exact ((so_b t).run SS h2 (E := { E with nx := fun δ => M (drp dd δ) }) hx (z.1 hr)).mono (fun δ1 z => back δ1 z) (fun _ _ z => z) (fun _ z => z) (fun _ z => z)
      · exact ((so_b e).run SS h3 (E := { E with nx := fun δ => M (drp dd δ) }) hx (z.2 hr)).mono (fun δ1 z => back δ1 z) (fun _ _ z => z) (fun _ z => z) (fun _ z => z)
    · cases h
  | .ret bs e => .mk <| by
    intro X C Γ H0 st SS h δ E hx q
    unfold chS at h
    split at h
    · exact ws_retU (bs := bs) (((so_e e).run SS.ev h hx (δ := bor bs δ)).1 _ q)
    · cases h
  | .retO i => .mk <| by
    intro X C Γ H0 st SS h δ E hx q
    unfold chS at h
    split at h
    · unfold wps retV at q
      split at q
      · rename_i o ho
        exact ws_retOwn i ho q (SS.ev.vis h)
      · rename_i d hd
        exact ws_ret (Vw.refl _) (we_var i hd q (SS.ev.vis h))
      · exact q.elim
    · cases h
  | .retN => .mk <| by
    intro X C Γ H0 st SS h δ E hx q
    unfold chS at h
    split at h
    · exact ws_retN q
    · cases h
  | .app i bs e => .mk <| by
    intro X C Γ H0 st SS h δ E hx q
    unfold chS at h
    split at h
    · obtain ⟨h1, h⟩ := and3 h
      obtain ⟨h2, h⟩ := and3 h
      obtain ⟨h3, h4⟩ := and3 h
      obtain rfl := of_decide_eq_true h2
      unfold wps at q
      obtain ⟨ds, hj, q⟩ := owL_inv q
      exact ws_appU i (((so_e e).run SS.ev h4 hx (δ := bor bs δ)).1 _ q) ⟨ds, hj⟩ (SS.ev.vis h1) h3 (chE_star h4)
    · cases h
  | .sti i bs e ix => .mk <| by
    intro X C Γ H0 st SS h δ E hx q
    unfold chS at h
    split at h
    · obtain ⟨h1, h⟩ := and3 h
      obtain ⟨h2, h3⟩ := and3 h
      refine ws_stiC i (bs := bs) (((so_e e).run SS.ev h2 hx (δ := bor bs δ)).1 _ q) (fun r δ' z => ?_) (pg_sub (SS.ev.vis h1) pe_sem (set_or set_list (set_dict (by have := SS.ev.units; omega))) (fun v => ?_)) (sw_sole rfl _ _) rfl
      · rcases owC_inv z with ⟨ds, hj, z⟩ | ⟨kds, hj, z⟩
        · exact .inl ⟨ds, hj, we_wu (k := fun d => stiD i ds r.d d δ' E.nx) (((so_e ix).run SS.ev h3 hx (δ := bor bs δ')).1 _ z)⟩
        · exact .inr ⟨kds, hj, we_wu (k := fun d => stiK i kds r.d d δ' E.nx) (((so_e ix).run SS.ev h3 hx (δ := bor bs δ')).1 _ z)⟩
      · exact sub_asg h3
    · cases h
  | .ins i bs ix e => .mk <| by
    intro X C Γ H0 st SS h δ E hx q
    unfold chS at h
    split at h
    · obtain ⟨h1, h⟩ := and3 h
      obtain ⟨h2, h⟩ := and3 h
      obtain ⟨h3, h⟩ := and3 h
      obtain ⟨h4, h5⟩ := and3 h
      obtain rfl := of_decide_eq_true h2
      unfold wps at q
      obtain ⟨ds, hj, q⟩ := owL_inv q
      exact ws_insU i (((so_e ix).run SS.ev h4 hx (δ := bor bs δ)).1 _ q |>.mono fun r z => ((so_e e).run SS.ev h5 hx (δ := bor bs δ)).1 _ z) ⟨ds, hj⟩ (SS.ev.vis h1) h3 (chE_star h4) (chE_star h5)
    · cases h
  | .forE v i ix e => .mk <| by
    intro X C Γ H0 st SS h δ E hx q
    unfold chS at h
    split at h
    · obtain ⟨h1, h⟩ := and3 h
      obtain ⟨h2, h⟩ := and3 h
      obtain ⟨h3, h⟩ := and3 h
      obtain ⟨h4, h⟩ := and3 h
      obtain ⟨h5, h⟩ := and3 h
      obtain ⟨h6, h7⟩ := and3 h
      obtain rfl := of_decide_eq_true h2
      unfold wps at q
      obtain ⟨ts, hj, hb, q⟩ := trO_inv q
      obtain ⟨d, j, ⟨fl, ch⟩, he, hn⟩ := q.ex
      obtain ⟨n1, n2⟩ := SS.loc h1
      exact ws_forE i v SS.hp SS.ev.calm hj (Nat.le_of_ble_eq_true hb) (of_decide_eq_true h5) fl ch (fun us => we_wu (k := fun x => x = d) (((so_e e).run SS.ev h7 hx).1 _ (he us).1)) (fun us => we_wu (k := fun x => x = .int (j : Int)) (((so_e ix).run SS.ev h6 hx).1 _ (he us).2)) hn (SS.ev.vis h4) (SS.ev.vis h3) (pg_name SS.nd n1 n2 (.inl (SS.fn _))) (fun u => sub_asg h6) (sw_sole rfl _ _) rfl (fun _ => rfl)
    · cases h
  | .setD i is a it => .mk <| by
    intro X C Γ H0 st SS h δ E hx q
    unfold chS at h
    split at h
    · obtain ⟨h1, h⟩ := and3 h
      obtain ⟨hs, h⟩ := and3 h
      obtain ⟨h2, h⟩ := and3 h
      obtain ⟨h3, h⟩ := and3 h
      obtain ⟨h4, h⟩ := and3 h
      obtain ⟨h5, h⟩ := and3 h
      obtain ⟨h6, h7⟩ := and3 h
      obtain ⟨s1, hs⟩ := and3 hs
      obtain ⟨s2, hs⟩ := and3 hs
      obtain ⟨s3, s4⟩ := and3 hs
      split at h7
      · rename_i ia hia
        exact ws_setD i a ia SS.nd ((so_i it).run SS.ev h5 hx (δ := δ) _ q) (of_decide_eq_true h6) hia SS.ev.calm (by rw [SS.ev.N, SS.ev.sc]; exact h2) (of_decide_eq_true h3) (by rw [SS.ev.N, SS.ev.sc]; exact h4) (fun s H C' cl fp => SS.ev.blk.vis h7) (by rw [SS.ev.N]; exact of_decide_eq_true h1) (by rw [SS.ev.sc]; exact of_decide_eq_true s2) (sw_trueD (by rw [SS.ev.sc]; exact eq_of_beq s1) (by rw [SS.ev.sc]; exact of_decide_eq_true s2) s3 (by simpa using s4)) (chI_set h5 _)
      · cases h7
    · cases h
  | .expr bs e => .mk <| by
    intro X C Γ H0 st SS h δ E hx q
    unfold chS at h
    split at h
    · obtain ⟨h1, h2⟩ := and3 h
      exact ws_expr (vw_bor (bs := bs)) (we_wu (k := fun _ => E.nx δ) (((so_e e).run SS.ev h2 hx (δ := bor bs δ)).1 _ q)) (sw_no h2 (by simpa using h1) _ _ _)
    · cases h
  | .for_ dd bs t it body => .mk <| by
    intro X C Γ H0 st SS h δ E hx q
    unfold chS at h
    split at h
    · obtain ⟨h1, h⟩ := and3 h
      obtain ⟨h2, h3⟩ := and3 h
      have turn : ∀ {n : Nat} {item : Nat → D} (Iv : Nat → List S → Prop), (∀ i δ1, i < n → Iv i δ1 → wpt t (item i) δ1 fun δ2 => wpb Γ body δ2 ⟨fun δ => Iv (i + 1) (drp dd δ), E.rt, E.nx, fun δ => Iv (i + 1) (drp dd δ), E.xw⟩) →
          ∀ (i : Nat) δ1, i < n → Iv i δ1 → Wg X H0 _ (item i) δ1 fun δ2 => Wb X H0 _ δ2 (turnE (toEn E) (Iv (i + 1))) := fun Iv ht i δ1 hi hI =>
        wg_mono (wg_t SS h1 (ht i δ1 hi hI)) fun δ2 z => ((so_b body).run SS h3 (E := ⟨fun δ => Iv (i + 1) (drp dd δ), E.rt, E.nx, fun δ => Iv (i + 1) (drp dd δ), E.xw⟩) hx z).mono (fun δ3 z => ⟨_, vw_drp, z⟩) (fun _ _ z => z) (fun _ z => z) (fun δ3 z => ⟨_, vw_drp, z⟩)
      cases it with
      | sq a =>
        have q : wpi Γ (.sq a) (bor bs δ) (E.xw (bor bs δ)) (fun n item => ForW n item dd (wpt t) (wpb Γ body) (bor bs δ) E) := q
        refine ws_view (vw_bor (bs := bs)) (ws_forQ SS.hp SS.ev.calm (((so_i (.sq a)).run SS.ev h2 hx (δ := bor bs δ) _ q).mono fun n item z => ?_) (chI_set h2 _))
        obtain ⟨Iv, i0, ht, he⟩ := z.ex
        exact ⟨Iv, ⟨_, vw_drp, i0⟩, turn Iv ht, he⟩
      | rng a =>
        have q : wpi Γ (.rng a) (bor bs δ) (E.xw (bor bs δ)) (fun n item => ForW n item dd (wpt t) (wpb Γ body) δ E) := q
        exact so_rng SS h2 hx q fun n z => by
          obtain ⟨Iv, i0, ht, he⟩ := z.ex
          exact ⟨Iv, ⟨_, vw_drp, i0⟩, turn Iv ht, he⟩
      | rng2 a b =>
        have q : wpi Γ (.rng2 a b) (bor bs δ) (E.xw (bor bs δ)) (fun n item => ForW n item dd (wpt t) (wpb Γ body) δ E) := q
        exact so_rng2 SS h2 hx q fun m n z => by
          obtain ⟨Iv, i0, ht, he⟩ := z.ex
          exact ⟨Iv, ⟨_, vw_drp, i0⟩, turn Iv ht, he⟩
    · cases h
  | .forT dd bs t e body => .mk <| by
    intro X C Γ H0 st SS h δ E hx q
    unfold chS at h
    split at h
    · obtain ⟨h1, h⟩ := and3 h
      obtain ⟨h2, h3⟩ := and3 h
      have turn : ∀ {n : Nat} {item : Nat → D} (Iv : Nat → List S → Prop), (∀ i δ1, i < n → Iv i δ1 → wpt t (item i) δ1 fun δ2 => wpb Γ body δ2 ⟨fun δ => Iv (i + 1) (drp dd δ), E.rt, E.nx, fun δ => Iv (i + 1) (drp dd δ), E.xw⟩) →
          ∀ (i : Nat) δ1, i < n → Iv i δ1 → Wg X H0 _ (item i) δ1 fun δ2 => Wb X H0 _ δ2 (turnE (toEn E) (Iv (i + 1))) := fun Iv ht i δ1 hi hI =>
        wg_mono (wg_t SS h1 (ht i δ1 hi hI)) fun δ2 z => ((so_b body).run SS h3 (E := ⟨fun δ => Iv (i + 1) (drp dd δ), E.rt, E.nx, fun δ => Iv (i + 1) (drp dd δ), E.xw⟩) hx z).mono (fun δ3 z => ⟨_, vw_drp, z⟩) (fun _ _ z => z) (fun _ z => z) (fun δ3 z => ⟨_, vw_drp, z⟩)
      have A := ((so_e e).run SS.ev h2 hx (δ := bor bs δ)).1
      refine ws_forT (bs := bs) SS.hp SS.ev.calm ((A _ q).mono fun r z => keepW_mono z fun δ' z => ?_) (chE_set h2 _)
      unfold tupD at z
      split at z
      · rename_i ds er
        obtain ⟨Iv, i0, ht, he⟩ := z.ex
        exact ⟨ds, er, Iv, ⟨_, vw_drp, i0⟩, turn Iv ht, he⟩
      · exact z.elim
    · cases h
  | .whl dd bs c body => .mk <| by
    intro X C Γ H0 st SS h δ E hx q
    unfold chS at h
    split at h
    · obtain ⟨h1, h2⟩ := and3 h
      obtain ⟨Iv, m0, i0, ht⟩ := q.ex
      refine ws_while SS.hp Iv m0 ⟨_, vw_drp, i0⟩ fun m δ1 hI => ⟨bor bs δ1, vw_bor, (((so_e c).run SS.ev h1 (xw := E.xw) hx (δ := bor bs δ1)).2 _ _ (ht m δ1 hI)).mono fun r z => ⟨fun hr => ?_, z.2⟩⟩
      exact ((so_b body).run SS h2 (E := ⟨fun δ => ∃ m', m' < m ∧ Iv m' (drp dd δ), E.rt, E.nx, fun δ => ∃ m', m' < m ∧ Iv m' (drp dd δ), E.xw⟩) hx (z.1 hr)).mono (fun δ3 ⟨m', l, z⟩ => ⟨m', l, _, vw_drp, z⟩) (fun _ _ z => z) (fun _ z => z) (fun δ3 ⟨m', l, z⟩ => ⟨m', l, _, vw_drp, z⟩)
    · cases h
  | .fst i f bs e => .mk <| by
    intro X C Γ H0 st SS h δ E hx q
    unfold chS at h
    split at h
    · obtain ⟨h1, h⟩ := and3 h
      obtain ⟨h2, h3⟩ := and3 h
      obtain rfl := of_decide_eq_true h2
      exact ws_fstU i (bs := bs) (((so_e e).run SS.ev h3 hx (δ := bor bs δ)).1 _ q) (SS.ev.vis h1) (sw_att _ _)
    · cases h
  | .setT i e => .mk <| by
    intro X C Γ H0 st SS h δ E hx q
    unfold chS at h
    split at h
    · rename_i x p ex pos
      obtain ⟨h1, h⟩ := and3 h
      obtain ⟨h2, h3⟩ := and3 h
      obtain ⟨n1, n2⟩ := SS.loc h1
      have A : ∀ k, wpT Γ e δ E.xw k → WT X H0 ex δ k := ((so_n e).run SS.ev h2 hx (δ := δ)).2
      have A := wt_mono (k' := fun t δ' => ∃ us, t = .lst us ∧ E.nx (δ'.set i (.ow (.tr us)))) (A _ q) fun t δ' z => lstT_inv z
      have plain : swapsWith ex (some (.Name x p)) pos.line X.env = pure false → Ws X H0 (.Assign [.Name x p] ex pos) δ (toEn E) := fun hs => ws_setW i SS.nd A n1 n2 hs (.inl (SS.fn _))
      cases e with
      | e bs a =>
        have h3 : isComp a = false := by simpa [compN] using h3
        exact plain (sw_no h2 h3 _ _ _)
      | lst as =>
        unfold chN at h2
        split at h2
        · exact plain rfl
        · cases h2
      | mv j =>
        unfold chN at h2
        split at h2
        · exact plain rfl
        · cases h2
      | lc v elt it =>
        unfold chN at h2
        split at h2
        · rename_i l y py itr sc pos' _ _
          cases hb : swB C x p (.ListComp l [⟨.Name y py, itr, [], 0⟩] sc pos') with
          | false => exact plain (by rw [sw_eq SS, hb])
          | true =>
            have hl : X.env.scope.names.lookup x = some .local := by rw [SS.ev.sc]; exact sw_loc hb
            obtain ⟨g1, h⟩ := and3 h2
            obtain ⟨g2, h⟩ := and3 h
            obtain ⟨g3, h⟩ := and3 h
            obtain ⟨g4, g5⟩ := and3 h
            have hsw : swapsWith (.ListComp l [⟨.Name y py, itr, [], 0⟩] sc pos') (some (.Name x p)) pos.line X.env = pure true := by rw [sw_eq SS, hb]
            exact ws_setLcT i v SS.nd (((so_i it).run SS.ev g4 hx (xw := E.xw) (δ := δ) _ q).mono fun n item z => by
              obtain ⟨R, a, b, c⟩ := z
              exact ⟨R, a, fun i hi s hh C' cl fp => ((so_n elt).run (SS.ev.blk) g5 (xw := fun _ => noX) (δ := δ.set v (.sh (item i))) xc0).1 _ (b i hi), fun ts e1 e2 => c ts e1 e2⟩) SS.ev.calm (by rw [SS.ev.N, SS.ev.sc]; exact g1) (by rw [SS.ev.N]; exact of_decide_eq_true g2) (fun cl C' => by
              show (relS _ _).names.lookup _ = _
              rw [SS.ev.sc]
              exact of_decide_eq_true g3) n1 hl hsw (chI_set g4 _)
        · cases h2
    · cases h
  | .retT e => .mk <| by
    intro X C Γ H0 st SS h δ E hx q
    unfold chS at h
    split at h
    · exact ws_retW (wt_mono (((so_n e).run SS.ev h hx (δ := δ)).2 _ q) fun t δ' z => lstT_inv z)
    · cases h
  | .appT i p e => .mk <| by
    intro X C Γ H0 st SS h δ E hx q
    unfold chS at h
    split at h
    · obtain ⟨h1, h⟩ := and3 h
      obtain ⟨h2, h⟩ := and3 h
      obtain ⟨h3, h4⟩ := and3 h
      obtain rfl := of_decide_eq_true h2
      refine ws_appW i (pth_mono (so_p p SS.ev h1 hx (δ := δ) (k := fun π us => us.length < 100000 ∧ wpT Γ e δ E.xw fun t δ' => trO δ'[i]? fun ts => subAt ts π = some us ∧ E.nx (δ'.set i (.ow (.tr (updAt ts π (us ++ [t])))))) q) fun π us z => ⟨z.1, wt_mono (((so_n e).run SS.ev h4 hx (δ := δ)).2 _ z.2) fun t δ' y => ?_⟩) (attr_plain (chP_nc h1)) h3 (chN_star h4)
      obtain ⟨ts, a, b⟩ := trO_inv y
      exact ⟨ts, a, b⟩
    · cases h
  | .stiT i p bs ix e => .mk <| by
    intro X C Γ H0 st SS h δ E hx q
    unfold chS at h
    split at h
    · obtain ⟨h1, h⟩ := and3 h
      obtain ⟨h2, h3⟩ := and3 h
      refine ws_stiW i (vw := bor bs) (fun δ => vw_bor) (wt_mono (((so_n e).run SS.ev h3 hx (δ := δ)).2 _ q) fun t δ' z => pth_mono (so_p p SS.ev h1 hx (δ := δ') z) fun π us y => ((we_wu (k := fun d => natD d fun j => j < us.length ∧ trO δ'[i]? fun ts => E.nx (δ'.set i (.ow (.tr (updAt ts π (us.set j t)))))) (((so_e ix).run SS.ev h2 hx (δ := bor bs δ')).1 _ y)).mono fun d w => ?_)) (pg_sub pe_sem pe_sem set_list (fun v => sub_asg h2)) (sw_sole rfl _ _) rfl
      obtain ⟨j, rfl, a, b⟩ := natD_inv w
      obtain ⟨ts, a2, b2⟩ := trO_inv b
      exact ⟨j, rfl, a, ts, a2, b2⟩
    · cases h
  | .brk => .mk <| by
    intro X C Γ H0 st SS h δ E hx q
    unfold chS at h
    split at h
    · exact ws_break q
    · cases h
  | .cnt => .mk <| by
    intro X C Γ H0 st SS h δ E hx q
    unfold chS at h
    split at h
    · exact ws_cont q
    · cases h
  | .pass => .mk <| by
    intro X C Γ H0 st SS h δ E hx q
    unfold chS at h
    split at h
    · exact ws_pass q
    · cases h
  | .rse => .mk <| by
    intro X C Γ H0 st SS h δ E hx q
    exact q.elim
  | .rsc i bs a => .mk <| by
    intro X C Γ H0 st SS h δ E hx q
    unfold chS at h
    split at h
    · obtain ⟨h1, h⟩ := and3 h
      obtain ⟨h2, h3⟩ := and3 h
      obtain ⟨T, hT⟩ := SS.ev.cov i _ (of_decide_eq_true h1)
      have kn := SS.ev.fns i _ T (of_decide_eq_true h1) hT
      have A := ((so_e a).run SS.ev h3 hx (δ := bor bs δ)).1
      cases kn with
      | exc T1 hr c =>
        refine ws_raise1 T1 hr SS.ev.calm hx (vw_bor (bs := bs)) (wa_cons (we_wu (k := fun d => Wa _ H0 [] (bor bs δ) fun ds => A1 (d :: ds) fun d => E.xw δ _ [(_, d)]) ((A _ q).mono fun r z => wa_nil ?_)) (chE_star h3)) (SS.ev.glo h2).1 (SS.ev.glo h2).2 (chE_star h3)
        rw [hT] at z
        exact ⟨_, rfl, c _ _ _ z.ex⟩
    · cases h
theorem so_b : ∀ s : Xb, SoB s
  | .nil => .mk <| by
    intro X C Γ H0 sts SS h δ E hx q
    rw [chB, List.isEmpty_iff] at h
    subst h
    exact wb_nil q
  | .cons s r => .mk <| by
    intro X C Γ H0 sts SS h δ E hx q
    unfold chB at h
    split at h
    · obtain ⟨h1, h2⟩ := and3 h
      exact wb_cons (((so_s s).run SS h1 (E := { E with nx := fun δ' => wpb Γ r δ' E }) hx q).mono (fun δ1 z => (so_b r).run SS h2 hx z) (fun _ _ z => z) (fun _ z => z) (fun _ z => z))
    · cases h
  | .lend is r => .mk <| by
    intro X C Γ H0 sts SS h δ E hx q
    unfold chB at h
    exact wb_view (vw_bor (bs := is)) ((so_b r).run SS h hx q)
end
end DL
set_option Elab.async false
set_option linter.all false
set_option maxRecDepth 100000
set_option maxHeartbeats 4000000
/-! The deep machine, part g: a def; helps for the proofs over it. -/
namespace DL
open PySem PySem.Spec PyProof.Rows L2
/-- what a def knows, by names -/
inductive FnL (P : Program) (w : World) (K : PySem.W.Frag) (mg : Str → Option Value) (base : Heap) (k : Nat) : List Fk → List DSp → Prop
  | nil : FnL P w K mg base k [] []
  | cons {lvl : Nat} {x : Str} {ps : List Str} {T : DSp} {dds : List D} {fs : List Fk} {Γ : List DSp} : Fn P w K mg base lvl x ps T dds → lvl ≤ k → FnL P w K mg base k fs Γ → FnL P w K mg base k (⟨x, .fn⟩ :: fs) ((fun as => T (as ++ dds)) :: Γ)
  | cons0 {lvl : Nat} {x : Str} {ps : List Str} {T : DSp} {fs : List Fk} {Γ : List DSp} : Fn P w K mg base lvl x ps T [] → lvl ≤ k → FnL P w K mg base k fs Γ → FnL P w K mg base k (⟨x, .fn⟩ :: fs) (T :: Γ)
  | mk {lvl : Nat} {x : Str} {T : DSp} {fs : List Fk} {Γ : List DSp} : Mf P w K mg base lvl x T → lvl + 1 ≤ k → FnL P w K mg base k fs Γ → FnL P w K mg base k (⟨x, .fn⟩ :: fs) (T :: Γ)
  | con {x z : Str} {T : DSp} {fs : List Fk} {Γ : List DSp} : (∃ t, mg x = some (.str z t)) → (∀ k xx, T [] k xx → k (.sh (.str z))) → FnL P w K mg base k fs Γ → FnL P w K mg base k (⟨x, .con⟩ :: fs) (T :: Γ)
  | isc {x : Str} {T : DSp} {C0 : Addr} {fs : List Fk} {Γ : List DSp} : mg x = some (.ref C0) → (∀ G v d k xx, Is K G v d → T [d] k xx → ∃ t b, TyX K G v t ∧ PySem.W.kitOne K t (.ref C0) = some b ∧ k (.sh (.bl b))) → FnL P w K mg base k fs Γ → FnL P w K mg base k (⟨x, .isc⟩ :: fs) (T :: Γ)
  | len {T T0 : DSp} {C f : Addr} {fd : FuncData} {ps : List Str} {lvl : Nat} {fs : List Fk} {Γ : List DSp} : Mt K C "__len__" f → FnOk P w K mg base (L2N.CX P w) lvl f fd ps (spD K T0) → lvl + 2 ≤ k → Binds K fd ps [] →
      (∀ ds k xx, T ds k xx → ∃ gs, ds = [.ins C gs] ∧ T0 ds (fun r => ∃ n : Int, r = .sh (.int n) ∧ 0 ≤ n ∧ n < 2 ^ 63 ∧ k r) fun _ _ => False) → FnL P w K mg base k fs Γ → FnL P w K mg base k (⟨"len", .len⟩ :: fs) (T :: Γ)
  | eq {T T0 : DSp} {C f : Addr} {fd : FuncData} {ps : List Str} {lvl : Nat} {fs : List Fk} {Γ : List DSp} : Mt K C "__eq__" f → FnOk P w K mg base (L2N.CX P w) lvl f fd ps (spD K T0) → lvl + 2 ≤ k → Binds K fd ps [] →
      (∀ ds k xx, T ds k xx → ∃ gs gs', ds = [.ins C gs, .ins C gs'] ∧ T0 ds (fun r => ∃ b : Bool, r = .sh (.bl b) ∧ k r) fun _ _ => False) → FnL P w K mg base k fs Γ → FnL P w K mg base k (⟨"==", .eq⟩ :: fs) (T :: Γ)
  | exc {x f : Str} {T : DSp} {C : Addr} {lvl : Nat} {fs : List Fk} {Γ : List DSp} : Exc1 P w K mg base lvl x f C → lvl + 1 ≤ k → (∀ d k xx, T [d] k xx → xx (.ref C) [(f, d)]) → FnL P w K mg base k fs Γ → FnL P w K mg base k (⟨x, .exc⟩ :: fs) (T :: Γ)
  | fn0 {lvl : Nat} {x : Str} {ps : List Str} {T : DSp} {fs : List Fk} {Γ : List DSp} : Fn P w K mg base lvl x ps T [] → lvl ≤ k → FnL P w K mg base k fs Γ → FnL P w K mg base k (⟨x, .fn0⟩ :: fs) (T :: Γ)
theorem FnL.kn {X : Cx} {k : Nat} {fs : List Fk} {Γ : List DSp} (h : FnL X.prog X.w X.K X.mg X.base k fs Γ) (hr : Room k X.A) : ∀ (i : Nat) x T, fs[i]? = some x → Γ[i]? = some T → Kn X x T := by
  induction h with
  | nil => intro i x T h; cases h
  | cons F l _ ih =>
    intro i x T h1 h2
    cases i with
    | zero => cases h1; cases h2; exact .fn F (hr.mono l) fun _ _ _ z => z
    | succ i => exact ih i x T h1 h2
  | cons0 F l _ ih =>
    intro i x T h1 h2
    cases i with
    | zero => cases h1; cases h2; exact .fn F (hr.mono l) fun as k x z => by rw [List.append_nil]; exact z
    | succ i => exact ih i x T h1 h2
  | mk M l _ ih =>
    intro i x T h1 h2
    cases i with
    | zero => cases h1; cases h2; exact .mk M (hr.mono l)
    | succ i => exact ih i x T h1 h2
  | con a b _ ih =>
    intro i x T h1 h2
    cases i with
    | zero => cases h1; cases h2; exact .con a b
    | succ i => exact ih i x T h1 h2
  | isc a b _ ih =>
    intro i x T h1 h2
    cases i with
    | zero => cases h1; cases h2; exact .isc a b
    | succ i => exact ih i x T h1 h2
  | len a b l c d _ ih =>
    intro i x T h1 h2
    cases i with
    | zero => cases h1; cases h2; exact .len a b (hr.mono l) c d
    | succ i => exact ih i x T h1 h2
  | eq a b l c d _ ih =>
    intro i x T h1 h2
    cases i with
    | zero => cases h1; cases h2; exact .eq a b (hr.mono l) c d
    | succ i => exact ih i x T h1 h2
  | exc a l b _ ih =>
    intro i x T h1 h2
    cases i with
    | zero => cases h1; cases h2; exact .exc a (hr.mono l) b
    | succ i => exact ih i x T h1 h2
  | fn0 F l _ ih =>
    intro i x T h1 h2
    cases i with
    | zero => cases h1; cases h2; exact .fn0 F (hr.mono l) fun k x z => z
    | succ i => exact ih i x T h1 h2
theorem FnL.cov {P : Program} {w : World} {K : PySem.W.Frag} {mg : Str → Option Value} {base : Heap} {k : Nat} {fs : List Fk} {Γ : List DSp} (h : FnL P w K mg base k fs Γ) : ∀ (i : Nat) (x : Fk), fs[i]? = some x → ∃ T, Γ[i]? = some T := by
  have e : fs.length = Γ.length := by
    induction h with
    | nil => rfl
    | _ => simp [*]
  intro i x h1
  have hi := (List.getElem?_eq_some_iff.mp h1).1
  exact ⟨_, List.getElem?_eq_getElem (by omega)⟩
def edOf (kk : S → Prop) (xx : XD) : Ed := ⟨fun _ => kk (.sh .non), kk, fun _ => False, fun _ => False, fun _ => xx⟩
/-- what is shown of a def's text: it keeps its promise -/
def Deep (Γ : List DSp) (N : List Str) (b : Xb) (T : DSp) : Prop := ∀ ds kk xx, T ds kk xx → wpb Γ b (startD N ds) (edOf kk xx)
section
variable {P : Program} {w : World} {K : PySem.W.Frag} {mg : Str → Option Value} {base : Heap} {x qual : Str} {params : Arguments} {body : List Stmt} {scope : Scope} {dvs : List V} {kws : List (Str × V)} {f : Addr} {fd : FuncData}
theorem fn_deep {N ps : List Str} {fs : List Fk} {k : Nat} {T : DSp} {b : Xb} {math : Bool} {Γ : List DSp} (F : FunD K x qual params body scope dvs kws f fd) (S : FnScope N ps scope) (hN : ps.length ≤ N.length) (hlen : ∀ ds k x, T ds k x → ds.length = ps.length)
    (hch : chB ⟨N, scope, fs, math⟩ b body = true) (M : Bm mg) (hm : math = true → mg "gcd" = some (.builtin "math.gcd") ∧ mg "lcm" = some (.builtin "math.lcm")) (L : FnL P w K mg base k fs Γ) (hw : Deep Γ N b T) : FnOk P w K mg base (L2N.CX P w) (k + 1) f fd ps (spD K T) :=
  fn_ok F S hN hlen fun cdv A outer s H E ds kk xx hr hT hx => by
    refine (so_b b).run (C := ⟨N, scope, fs, math⟩) (Γ := Γ) (E := edOf kk xx) ⟨⟨rfl, S.nd, rfl, rfl, M, hm, hr.units, L.cov, ?_⟩, fun _ => rfl, passes_of rfl, S.kind⟩ hch hx (hw ds kk xx hT)
    exact FnL.kn (X := cxOf (L2N.CX P w) P w K mg base N qual scope f cdv A outer s H E) L hr
end
/-! ### helps -/
section
variable {body : D → (D → Prop) → Prop} {k : List D → Prop}
theorem lcw_d {ds : List D} (R : D → D → Prop) (hl : ds.length ≤ 100000) (h : ∀ d ∈ ds, body d (R d)) (q : ∀ es, Each R ds es → k es) : LcW ds.length (fun i => ds.getD i .non) body k :=
  ⟨fun i e => R (ds.getD i .non) e, hl, fun i hi => h _ (getD_lt hi).2, fun es p => q es (each_of p)⟩
/-- each item becomes g of it -/
theorem lcw {α : Type} (emb : α → D) (g : α → D) {xs : List α} (hl : xs.length ≤ 100000) (h : ∀ x ∈ xs, body (emb x) (fun e => e = g x)) (q : k (xs.map g)) : LcW (xs.map emb).length (fun i => (xs.map emb).getD i .non) body k :=
  ⟨fun i e => ∀ x, xs[i]? = some x → e = g x, by rw [List.length_map]; exact hl, fun i hi => by
    rw [List.length_map] at hi
    have e1 : (xs.map emb).getD i .non = emb xs[i] := by rw [List.getD_eq_getElem?_getD, List.getElem?_map, List.getElem?_eq_getElem hi]; rfl
    show body ((xs.map emb).getD i .non) _
    rw [e1]
    show body (emb xs[i]) (fun e => ∀ x, xs[i]? = some x → e = g x)
    rw [show (fun e => ∀ x, xs[i]? = some x → e = g x) = (fun e => e = g xs[i]) from by
      funext e
      rw [List.getElem?_eq_getElem hi]
      exact propext ⟨fun z => z _ rfl, fun z x hx => by cases hx; exact z⟩]
    exact h _ (List.getElem_mem hi), fun es p => by
    have e : es = xs.map g := by
      refine List.ext_getElem? fun i => ?_
      have hl := p.1
      rw [List.length_map] at hl
      by_cases hi : i < xs.length
      · rw [List.getElem?_map, List.getElem?_eq_getElem hi, List.getElem?_eq_getElem (show i < es.length by omega)]
        exact congrArg some (p.2 i _ (List.getElem?_eq_getElem (by omega)) _ (List.getElem?_eq_getElem hi))
      · rw [List.getElem?_eq_none (by omega), List.getElem?_eq_none (by rw [List.length_map]; omega)]
    rw [e]; exact q⟩
theorem lcw_rng {n : Nat} (g : Nat → D) (hl : n ≤ 100000) (h : ∀ i, i < n → body (.int (i : Int)) (fun e => e = g i)) (q : k ((List.range n).map g)) : LcW n (fun i => .int (i : Int)) body k :=
  ⟨_, hl, h, fun es p => by rw [EachN.map p]; exact q⟩
theorem lcfw {test : D → (Bool → Prop) → Prop} {α : Type} (emb : α → D) (t : α → Bool) (g : α → D) (inj : ∀ x y, emb x = emb y → x = y) {xs : List α} (hl : xs.length ≤ 100000)
    (h : ∀ x ∈ xs, test (emb x) fun b => b = t x ∧ (b = true → body (emb x) fun e => e = g x)) (q : k ((xs.filter t).map g)) : LcfW (xs.map emb).length (fun i => (xs.map emb).getD i .non) test body k := by
  classical
  let un : D → Option α := fun d => if z : ∃ x, emb x = d then some z.choose else none
  have hun : ∀ x, un (emb x) = some x := fun x => by
    have z : ∃ y, emb y = emb x := ⟨x, rfl⟩
    show (if z : ∃ y, emb y = emb x then some z.choose else none) = some x
    rw [dif_pos z]
    exact congrArg some (inj _ _ z.choose_spec)
  let t' : D → Bool := fun d => ((un d).map t).getD false
  let g' : D → D := fun d => ((un d).map g).getD .non
  have ht : ∀ x, t' (emb x) = t x := fun x => by show (((un (emb x)).map t).getD false) = _; rw [hun]; rfl
  have hg : ∀ x, g' (emb x) = g x := fun x => by show (((un (emb x)).map g).getD .non) = _; rw [hun]; rfl
  refine ⟨t', g', by rw [List.length_map]; exact hl, fun i hi => ?_, ?_⟩
  · rw [List.length_map] at hi
    have e1 : (xs.map emb).getD i .non = emb xs[i] := by rw [List.getD_eq_getElem?_getD, List.getElem?_map, List.getElem?_eq_getElem hi]; rfl
    show test ((xs.map emb).getD i .non) (fun b => b = t' ((xs.map emb).getD i .non) ∧ (b = true → body ((xs.map emb).getD i .non) fun e => e = g' ((xs.map emb).getD i .non)))
    rw [e1, ht, hg]
    exact h _ (List.getElem_mem hi)
  · rw [range_getD]
    have e : ((xs.map emb).filter t').map g' = (xs.filter t).map g := by
      rw [List.filter_map, List.map_map]
      have e1 : (t' ∘ emb) = t := funext ht
      have e2 : (g' ∘ emb) = g := funext hg
      rw [e1, e2]
    rw [e]; exact q
end
/-- a loop that ends the def with False at the first item that is not right -/
theorem for_all {n m : Nat} (hm : n = m) {item : Nat → D} {dd : List Nat} {tg : D → List S → (List S → Prop) → Prop} {body : List S → Ed → Prop} {δ : List S} {E : Ed} (p : Nat → Bool) (δ0 : List S) (h0 : drp dd δ = δ0)
    (turn : ∀ i, i < m → ∀ nx : List S → Prop, (p i = true → ∀ δ', drp dd δ' = δ0 → nx δ') → (p i = false → E.rt (.sh (.bl false))) → tg (item i) δ0 fun δ2 => body δ2 ⟨nx, E.rt, E.nx, nx, E.xw⟩)
    (bad : (List.range m).all p = false → E.rt (.sh (.bl false))) (good : (List.range m).all p = true → E.nx δ0) : ForW n item dd tg body δ E := by
  subst hm
  refine ⟨fun i δ => δ = δ0 ∧ ∀ j, j < i → p j = true, ⟨h0, fun j hj => absurd hj (Nat.not_lt_zero j)⟩, fun i δ1 hi hI => ?_, fun δ1 hI => ?_⟩
  · obtain ⟨rfl, ha⟩ := hI
    refine turn i hi _ (fun hp δ' e => ⟨e, fun j hj => ?_⟩) fun hp => bad (Bool.eq_false_iff.mpr fun z => ?_)
    · rcases Nat.lt_succ_iff_lt_or_eq.mp hj with w | w
      · exact ha j w
      · rw [w]; exact hp
    · rw [List.all_eq_true.mp z i (List.mem_range.mpr hi)] at hp; cases hp
  · obtain ⟨rfl, ha⟩ := hI
    exact good (List.all_eq_true.mpr fun j hj => ha j (List.mem_range.mp hj))
/-- a loop whose turns leave the slots as they were -/
theorem for_each {n m : Nat} (hm : n = m) {item : Nat → D} {dd : List Nat} {tg : D → List S → (List S → Prop) → Prop} {body : List S → Ed → Prop} {δ : List S} {E : Ed} (δ0 : List S) (h0 : drp dd δ = δ0)
    (turn : ∀ i, i < m → ∀ nx : List S → Prop, (∀ δ', drp dd δ' = δ0 → nx δ') → tg (item i) δ0 fun δ2 => body δ2 ⟨nx, E.rt, E.nx, nx, E.xw⟩)
    (good : E.nx δ0) : ForW n item dd tg body δ E := by
  subst hm
  refine ⟨fun i δ => δ = δ0, h0, fun i δ1 hi hI => ?_, fun δ1 hI => ?_⟩
  · subst hI
    exact turn i hi _ fun δ' e => e
  · subst hI; exact good
/-- join two ways -/
theorem join {p : (List S → Prop) → Prop} {q : List S → Prop} (M : List S → Prop) (h : p M) (h2 : ∀ δ, M δ → q δ) : JoinW p q := ⟨M, h, h2⟩
/-- a comprehension of trees, item by item -/
theorem lctw {n : Nat} {item : Nat → D} {body : D → (Tr → Prop) → Prop} {k : List Tr → Prop} (g : Nat → Tr) (hn : n ≤ 100000) (h : ∀ i, i < n → body (item i) (fun t => t = g i)) (q : k ((List.range n).map g)) : LctW n item body k :=
  ⟨fun i t => t = g i, hn, h, fun ts hl ht => by
    have e : ts = (List.range n).map g := List.ext_getElem? fun i => by
      by_cases hi : i < n
      · have e1 := List.getElem?_eq_getElem (show i < ts.length by omega)
        rw [e1, ht i _ e1, List.getElem?_map, List.getElem?_range hi]; rfl
      · rw [List.getElem?_eq_none (by omega), List.getElem?_eq_none (by rw [List.length_map, List.length_range]; omega)]
    rw [e]; exact q⟩
theorem keep_safe {bs : List Nat} {r : S} {δ : List S} {k : List S → Prop} (h : SafeR r) (q : k δ) : KeepW bs r δ k := ⟨.inl ⟨h, q⟩⟩
theorem keep_lend {bs : List Nat} {r : S} {δ : List S} {k : List S → Prop} (q : k (bor bs δ)) : KeepW bs r δ k := ⟨.inr (.inl q)⟩
theorem keep_ins {bs : List Nat} {d : D} {δ : List S} {k : List S → Prop} (h : FlatI d) (n : noIns δ = true) (q : k δ) : KeepW bs (.sh d) δ k := ⟨.inr (.inr ⟨⟨d, rfl, h⟩, n, q⟩)⟩
end DL
set_option Elab.async false
set_option linter.all false
set_option maxRecDepth 100000
set_option maxHeartbeats 4000000
/-! The deep machine, part i: __init__. -/
namespace DL
open PySem PySem.Spec PyProof.Rows L2
/-- the frame's new object is made: what holds of its fields -/
structure SelfW (s : Option S) (a C : Addr) (ks : List Str) (k : List (Str × D) → Prop) : Prop where
  ex : ∃ fs, s = some (.ow (.self a C ks fs)) ∧ k fs
def startI (N : List Str) (a C : Addr) (ks : List Str) (ds : List D) : List S := .ow (.self a C ks []) :: (ds.map .sh ++ List.replicate (N.length - ds.length) .no)
def edI (a C : Addr) (ks : List Str) (kk : S → Prop) (xx : XD) : Ed := ⟨fun δ => SelfW δ[0]? a C ks fun fs => kk (.sh (.ins C fs)), fun _ => False, fun _ => False, fun _ => False, fun _ => xx⟩
/-- an __init__ keeps its class's promise; N: the names behind self -/
def DeepI (Γ : List DSp) (N : List Str) (b : Xb) (C : Addr) (ks : List Str) (T : DSp) : Prop := ∀ a ds kk xx, T ds kk xx → wpb Γ b (startI N a C ks ds) (edI a C ks kk xx)
def spI (K : PySem.W.Frag) (C : Addr) (ks : List Str) (T : DSp) : Sp := fun vs H Q E => ∃ a dx rest ds kk xx, vs = .ref a :: rest ∧ H a = some (.ins C dx []) ∧ H dx = some (.own a) ∧ IsL K (cut H [a, dx]) rest ds ∧ T ds kk xx ∧
  (∀ H' dx' fs, OwIs K H' (cut H' [a, dx']) (.ref a) [a, dx'] (.self a C ks fs) → Ex (cut H [a, dx]) (cut H' [a, dx']) → kk (.sh (.ins C fs)) → Q .non H') ∧ (∀ c d H' fs, Ex (cut H [a, dx]) H' → ExcIs K H' d fs → xx c fs → E c d H')
theorem rel_startI {K : PySem.W.Frag} {H : Hp} {N : List Str} {n : Str} {vs : List V} {ds : List D} {a dx C : Addr} {ks : List Str} (hc : ClsF K C ks) (ha : H a = some (.ins C dx [])) (hd : H dx = some (.own a)) (h : IsL K (cut H [a, dx]) vs ds) (hl : ds.length ≤ N.length) :
    Rel K (cut H [a, dx]) (L2.start (n :: N) (.ref a :: vs)) H (startI N a C ks ds) ([a, dx] :: List.replicate N.length []) := by
  have R := rel_start (N := N) h hl
  have e0 : (List.replicate N.length ([] : List Addr)).flatten = [] := flat_rep _
  have eF : ([a, dx] :: List.replicate N.length ([] : List Addr)).flatten = [a, dx] := by rw [List.flatten_cons, e0, List.append_nil]
  have es : L2.start (n :: N) (.ref a :: vs) = some (.ref a) :: L2.start N vs := by
    show (some (V.ref a) :: vs.map some) ++ List.replicate (N.length + 1 - (vs.length + 1)) none = _
    rw [Nat.add_sub_add_right]; rfl
  have ne : a ≠ dx := fun z => by rw [z, hd] at ha; cases ha
  rw [es]
  refine ⟨by rw [eF]; exact Same.refl _, congrArg (· + 1) R.len1, congrArg (· + 1) R.len2, fun i s x l h1 h2 h3 => ?_, by rw [eF]; simp [ne]⟩
  rw [eF]
  cases i with
  | zero =>
    cases h1; cases h2; cases h3
    exact ⟨_, rfl, ⟨hc, fun f hf => by cases hf⟩, dx, [], rfl, rfl, ha, hd, ⟨rfl, fun i x d q => by cases q⟩⟩
  | succ i =>
    have q := R.sl i s x l h1 h2 h3
    rw [e0, cut_nil] at q
    have el : l = [] := by
      have h3 : (List.replicate N.length ([] : List Addr))[i]? = some l := h3
      rw [List.getElem?_replicate] at h3
      split at h3 <;> cases h3
      rfl
    subst el
    exact q.mono (Same.refl _) fun b hb => by cases hb
section
variable {P : Program} {w : World} {K : PySem.W.Frag} {mg : Str → Option Value} {base : Heap} {x qual : Str} {params : Arguments} {body : List Stmt} {scope : Scope} {dvs : List V} {kws : List (Str × V)} {f : Addr} {fd : FuncData}
theorem init_deep {N ps : List Str} {fs : List Fk} {n : Str} {k : Nat} {T : DSp} {b : Xb} {math : Bool} {Γ : List DSp} {C : Addr} {ks : List Str} (F : FunD K x qual params body scope dvs kws f fd) (S : FnScope (n :: N) (n :: ps) scope) (hN : ps.length ≤ N.length) (hlen : ∀ ds k x, T ds k x → ds.length = ps.length)
    (hc : ClsF K C ks) (hch : chB ⟨n :: N, scope, fs, math⟩ b body = true) (M : Bm mg) (hm : math = true → mg "gcd" = some (.builtin "math.gcd") ∧ mg "lcm" = some (.builtin "math.lcm")) (L : FnL P w K mg base k fs Γ) (hw : DeepI Γ N b C ks T) : FnOk P w K mg base (L2N.CX P w) (k + 1) f fd (n :: ps) (spI K C ks T) := by
  refine F.ok S (fun vs H Q E ⟨a, dx, rest, ds, kk, xx, ev, _, _, is, hT, _⟩ => by rw [ev, List.length_cons, is.1, hlen _ _ _ hT]; rfl) (fun cdv A outer s H vs Q E hr h => ?_)
  obtain ⟨a, dx, rest, ds, kk, xx, rfl, ha, hd, is, hT, hQ, hE⟩ := h
  have tk : L2N.Takes (cxOf (L2N.CX P w) P w K mg base (n :: N) qual scope f cdv A outer s H E) (fun cls d _ H' => E cls d H') := L2N.takes_of rfl rfl rfl rfl
  have xc : Xc (cxOf (L2N.CX P w) P w K mg base (n :: N) qual scope f cdv A outer s H E) (cut H [a, dx]) (fun _ => xx) := ⟨⟨_, tk, fun σ G δ c d fs R i q => hE c d G fs R.ex i q⟩⟩
  have W : Wb (cxOf (L2N.CX P w) P w K mg base (n :: N) qual scope f cdv A outer s H E) (cut H [a, dx]) body (startI N a C ks ds) (toEn (edI a C ks kk xx)) := by
    refine (so_b b).run (C := ⟨n :: N, scope, fs, math⟩) (Γ := Γ) (E := edI a C ks kk xx) ⟨⟨rfl, S.nd, rfl, rfl, M, hm, hr.units, L.cov, ?_⟩, fun _ => rfl, passes_of rfl, S.kind⟩ hch xc (hw a ds kk xx hT)
    exact FnL.kn (X := cxOf (L2N.CX P w) P w K mg base (n :: N) qual scope f cdv A outer s H E) L hr
  refine ⟨_, pb_sem, (W _ _ H _ (Same.refl _) (rel_startI (n := n) hc ha hd is (by rw [hlen _ _ _ hT]; exact hN))).mono (fun σ' H' ⟨δ, own, R, q⟩ => ?_) (fun v H' ⟨σ', δ, own, r, R, i, q⟩ => q.elim) (fun _ _ ⟨_, _, _, z⟩ => z) (fun _ _ ⟨_, _, _, z⟩ => z)⟩
  obtain ⟨gs, e0, hk⟩ := SelfW.ex q
  obtain ⟨x0, l, h1, h2, v, rfl, hc2, dx', fs', rfl, rfl, g1, g2, g3⟩ := R.idx e0
  have sub : ∀ b ∈ [a, dx'], b ∈ own.flatten := fun b hb => mem_flat h2 hb
  have ee : Ex (cut H' own.flatten) (cut H' [a, dx']) := cut_sub sub
  exact hQ H' dx' gs ⟨hc2, dx', fs', rfl, rfl, g1, g2, g3.mono ee⟩ (R.ex.trans ee) hk
/-- a class, from its __init__ -/
theorem mk_mf {lvl : Nat} {ps : List Str} {n y : Str} {T : DSp} {C : Addr} {ks : List Str} (M : Mk K C f) (ok : FnOk P w K mg base (L2N.CX P w) lvl f fd (n :: ps) (spI K C ks T)) (g : mg y = some (.ref C)) (hb : Binds K fd (n :: ps) []) : Mf P w K mg base lvl y T := by
  refine ⟨C, f, fd, n :: ps, _, [], [], M, ok, g, hb, .nil, fun H vs as kk xx is hT Q E hQ hE a dx na nd ne => ?_⟩
  rw [List.append_nil]
  have ec : Ex H (cut (upd (upd H dx (.own a)) a (.ins C dx [])) [a, dx]) := fun b u hb => by
    have n1 := ne_of_none hb na
    have n2 := ne_of_none hb nd
    rw [cut_out (by simp [n1, n2]), upd_ne n1, upd_ne n2]
    exact hb
  refine ⟨a, dx, vs, as, kk, xx, rfl, upd_same, by rw [upd_ne ne]; exact upd_same, is.mono ec, hT, fun H' dx' gs ow e hk => ⟨rfl, hQ a H' (.sh (.ins C gs)) ⟨(ec.trans e).trans cut_ex, ow.is cut_ex⟩ hk⟩, fun c d H' fs e i q => hE c d H' fs (ec.trans e) i q⟩
end
end DL
set_option Elab.async false
set_option linter.all false
set_option maxRecDepth 100000
set_option maxHeartbeats 4000000
set_option pp.maxSteps 600
set_option exponentiation.threshold 50000
/-! The laws' own small defs, no law in sight: cells, digits, Euclid, one forms. -/
namespace K00
open PySem PySem.Spec PyProof.Rows L2 DL
/-! _law_whole(value): slots value=0; calls  -/
def N__law_whole : List Str := ["value"]
def fs__law_whole : List Fk := []
def b__law_whole : Xb := (.cons (.ret [] (.and (.cons (.isi (.var 0) .int) (.cons (.not (.isi (.var 0) .bool)) .nil))))
 .nil)
/-! _law_cell(script, k): slots script=0 k=1 seed=2 cell=3; calls  -/
def N__law_cell : List Str := ["script", "k", "seed", "cell"]
def fs__law_cell : List Fk := []
def b__law_cell : Xb := (.cons (.ite [] (.cmp .lt (.var 1) (.bi .len (.cons (.var 0) .nil))) (.cons (.ret [] (.ix (.var 0) (.var 1)))
 .nil) .nil)
 (.cons (.set 2 false [] (.int 17))
 (.cons (.for_ [0, 3] [] (.nm 3) (.sq (.var 0)) (.cons (.set 2 false [] (.bin .mod (.bi .int (.cons (.bin .add (.bin .mul (.var 2) (.int 31)) (.bin .mod (.bi .int (.cons (.var 3) .nil)) (.int 1000003))) .nil)) (.int 1000003)))
 .nil))
 (.cons (.ret [] (.bin .mod (.bi .int (.cons (.bin .mul (.bin .mul (.bin .add (.var 2) (.int 7)) (.bin .add (.var 1) (.int 3))) (.int 69621)) .nil)) (.int 2147483647)))
 .nil))))
/-! _law_digits(cell, sizes): slots cell=0 sizes=1 found=2 rest=3 size=4 seed=5 k=6 twice=7; calls  -/
def N__law_digits : List Str := ["cell", "sizes", "found", "rest", "size", "seed", "k", "twice"]
def fs__law_digits : List Fk := []
def b__law_digits : Xb := (.cons (.set 2 true [] (.lst .nil))
 (.cons (.set 3 false [] (.bi .int (.cons (.var 0) .nil)))
 (.cons (.ite [] (.cmp .ge (.var 3) (.bin .pow (.int 10) (.int 18))) (.cons (.set 3 false [] (.bin .sub (.var 3) (.bin .pow (.int 10) (.int 18))))
 (.cons (.for_ [0, 1, 4, 5, 6, 7] [] (.nm 4) (.sq (.var 1)) (.cons (.app 2 [] (.bin .mod (.bi .int (.cons (.var 3) .nil)) (.var 4)))
 (.cons (.set 3 false [] (.bin .div (.bi .int (.cons (.var 3) .nil)) (.var 4)))
 .nil)))
 (.cons (.retO 2)
 .nil))) .nil)
 (.cons (.set 5 false [] (.bin .mod (.bi .int (.cons (.var 3) .nil)) (.int 2147483629)))
 (.cons (.for_ [0, 3, 4, 6, 7] [] (.nm 6) (.rng (.bi .len (.cons (.var 1) .nil))) (.cons (.set 5 false [] (.bin .mod (.bi .int (.cons (.bin .add (.bin .add (.bin .mul (.var 5) (.int 48271)) (.bin .mul (.int 974711) (.var 6))) (.int 12345)) .nil)) (.int 2147483647)))
 (.cons (.set 7 false [] (.bin .mod (.bi .int (.cons (.bin .mul (.var 5) (.bin .add (.bin .div (.var 5) (.int 65537)) (.int 3))) .nil)) (.int 2147483629)))
 (.cons (.app 2 [] (.bin .mod (.bin .div (.var 7) (.int 19)) (.ix (.var 1) (.var 6))))
 .nil))))
 (.cons (.retO 2)
 .nil))))))
/-! _law_gcd(one, two): slots one=0 two=1 left=2 right=3 turn=4 held=5; calls  -/
def N__law_gcd : List Str := ["one", "two", "left", "right", "turn", "held"]
def fs__law_gcd : List Fk := []
def b__law_gcd : Xb := (.cons (.set 2 false [] (.bi .abs (.cons (.var 0) .nil)))
 (.cons (.set 3 false [] (.bi .abs (.cons (.var 1) .nil)))
 (.cons (.for_ [0, 1, 4, 5] [] (.nm 4) (.rng (.int 100000)) (.cons (.ite [] (.cmp .eq (.var 3) (.int 0)) (.cons .brk
 .nil) .nil)
 (.cons (.set 5 false [] (.bin .mod (.bi .int (.cons (.var 2) .nil)) (.var 3)))
 (.cons (.set 2 false [] (.var 3))
 (.cons (.set 3 false [] (.var 5))
 .nil)))))
 (.cons (.ret [] (.var 2))
 .nil))))
/-! _law_is_ratio(value): slots value=0; calls _law_whole/1 _law_gcd/2 -/
def N__law_is_ratio : List Str := ["value"]
def fs__law_is_ratio : List Fk := ["_law_whole", "_law_gcd"]
def b__law_is_ratio : Xb := (.cons (.ite [] (.or (.cons (.not (.isi (.var 0) .tuple)) (.cons (.cmp .ne (.bi .len (.cons (.var 0) .nil)) (.int 2)) (.cons (.not (.call 0 (.cons (.ixn (.var 0) 0) .nil))) (.cons (.not (.call 0 (.cons (.ixn (.var 0) 1) .nil))) .nil))))) (.cons (.ret [] (.bl false))
 .nil) .nil)
 (.cons (.ret [] (.and (.cons (.cmp .ge (.ixn (.var 0) 1) (.int 1)) (.cons (.cmp .eq (.call 1 (.cons (.ixn (.var 0) 0) (.cons (.ixn (.var 0) 1) .nil))) (.int 1)) .nil))))
 .nil))
/-! _law_is_row(value, size): slots value=0 size=1 common=2 top=3; calls _law_whole/1 _law_gcd/2 -/
def N__law_is_row : List Str := ["value", "size", "common", "top"]
def fs__law_is_row : List Fk := ["_law_whole", "_law_gcd"]
def b__law_is_row : Xb := (.cons (.ite [] (.or (.cons (.not (.isi (.var 0) .tuple)) (.cons (.cmp .ne (.bi .len (.cons (.var 0) .nil)) (.int 2)) (.cons (.not (.isi (.ixn (.var 0) 0) .tuple)) (.cons (.cmp .ne (.bi .len (.cons (.ixn (.var 0) 0) .nil)) (.var 1)) .nil))))) (.cons (.ret [] (.bl false))
 .nil) .nil)
 (.cons (.ite [] (.or (.cons (.not (.call 0 (.cons (.ixn (.var 0) 1) .nil))) (.cons (.cmp .lt (.ixn (.var 0) 1) (.int 1)) .nil))) (.cons (.ret [] (.bl false))
 .nil) .nil)
 (.cons (.set 2 false [] (.ixn (.var 0) 1))
 (.cons (.for_ [0, 1, 3] [] (.nm 3) (.sq (.ixn (.var 0) 0)) (.cons (.ite [] (.not (.call 0 (.cons (.var 3) .nil))) (.cons (.ret [] (.bl false))
 .nil) .nil)
 (.cons (.set 2 false [] (.call 1 (.cons (.var 2) (.cons (.var 3) .nil))))
 .nil)))
 (.cons (.ret [] (.cmp .eq (.var 2) (.int 1)))
 .nil)))))
theorem getInt {ns : List Int} {i : Nat} (h : i < ns.length) : (ns.map D.int).getD i .non = .int ns[i] := by rw [List.getD_eq_getElem?_getD, List.getElem?_map, List.getElem?_eq_getElem h]; rfl
theorem atInt {ns : List Int} {i : Nat} (h : i < ns.length) : atI (ns.map D.int) (i : Int) = some (.int ns[i]) := atI_nat (by rw [List.getElem?_map, List.getElem?_eq_getElem h]; rfl)
theorem deq {P : D → Prop} {d e : D} (h : d = e) (q : P e) : P d := by rw [h]; exact q
def T_whole : DSp := fun ds kk _ => ∃ i : Int, ds = [.int i] ∧ kk (.sh (.bl true))
theorem w_whole : Deep [] N__law_whole b__law_whole T_whole := by
  rintro _ kk xx ⟨i, rfl, hk⟩
  exact ⟨fun _ => hk, fun h => nomatch h⟩
def T_cell : DSp := fun ds kk _ => ∃ (ns : List Int) (k : Int), ds = [.scr ns, .int k] ∧ 0 ≤ k ∧ k ≤ 1000000 ∧ ∀ v : Int, kk (.sh (.int v))
theorem w_cell : Deep [] N__law_cell b__law_cell T_cell := by
  rintro _ kk xx ⟨ns, k, rfl, h0, h1, hk⟩
  refine ⟨fun hb => ?_, fun hb => ?_⟩
  · obtain ⟨j, rfl⟩ : ∃ j : Nat, k = j := ⟨k.toNat, by omega⟩
    have hj : j < ns.length := by omega
    exact ⟨_, atI_nat (List.getElem?_eq_getElem hj), hk _⟩
  refine ⟨fun i δ => ∃ q : Int, 0 ≤ q ∧ q < 1000003 ∧ δ = [.no, .sh (.int k), .sh (.int q), .no], ⟨17, by decide, by decide, rfl⟩, fun i δ1 hi hI => ?_, fun δ1 hI => ?_⟩
  · obtain ⟨q, q0, q1, rfl⟩ := hI
    refine ⟨mul64 (by omega) (by omega), by decide, by decide, _, ?_, ?_, rfl⟩ <;> omega
  obtain ⟨q, q0, q1, rfl⟩ := hI
  have e1 : (q + 7) * (k + 3) < 1000010 * 1000004 := Int.mul_lt_mul (by omega) (by omega) (by omega) (by omega)
  have e2 : 0 ≤ (q + 7) * (k + 3) := Int.mul_nonneg (by omega) (by omega)
  exact ⟨mul64 (by omega) (by omega), mul64 (by omega) (by omega), by decide, hk _⟩
/-- digits below their sizes -/
def Digs (r sizes : List Int) : Prop := r.length = sizes.length ∧ ∀ (i : Nat) x s, r[i]? = some x → sizes[i]? = some s → 0 ≤ x ∧ x < s
theorem Digs.nil {sizes : List Int} : Digs [] (sizes.take 0) := ⟨by simp, fun i x s h => by cases h⟩
theorem Digs.snoc {r sizes : List Int} {i : Nat} {s x : Int} (h : Digs r (sizes.take i)) (hs : sizes[i]? = some s) (h0 : 0 ≤ x) (h1 : x < s) : Digs (r ++ [x]) (sizes.take (i + 1)) := by
  have hi : i < sizes.length := (List.getElem?_eq_some_iff.mp hs).1
  have hl : r.length = i := by rw [h.1, List.length_take]; omega
  refine ⟨by simp [hl]; omega, fun j y t h2 h3 => ?_⟩
  by_cases hj : j < i
  · rw [List.getElem?_append_left (by omega)] at h2
    rw [List.getElem?_take_of_lt (by omega)] at h3
    exact h.2 j y t h2 (by rw [List.getElem?_take_of_lt hj]; exact h3)
  · have hj2 : j < i + 1 := by
      have := (List.getElem?_eq_some_iff.mp h2).1
      simp [hl] at this
      omega
    have e : j = i := by omega
    subst e
    rw [List.getElem?_take_of_lt (by omega), hs] at h3
    rw [List.getElem?_append_right (by omega), hl, Nat.sub_self] at h2
    cases h2; cases h3
    exact ⟨h0, h1⟩
theorem Digs.all {r sizes : List Int} {i : Nat} (h : Digs r (sizes.take i)) (hi : sizes.length ≤ i) : Digs r sizes := by rwa [List.take_of_length_le hi] at h
theorem snocI {r : List Int} {x : Int} : (r.map D.int) ++ [.int x] = (r ++ [x]).map .int := by rw [List.map_append]; rfl
def T_digits : DSp := fun ds kk _ => ∃ (c : Int) (l : Bool) (sizes : List Int), ds = [.int c, .sq l (sizes.map .int)] ∧ sizes.length ≤ 10000 ∧ (∀ s ∈ sizes, 0 < s ∧ s < 18446744073709551616) ∧ ∀ r, Digs r sizes → kk (.ow (.lst (r.map .int)))
theorem w_digits : Deep [] N__law_digits b__law_digits T_digits := by
  rintro _ kk xx ⟨c, l, sizes, rfl, hl, hs, hk⟩
  refine ⟨⟨by decide, by decide, by decide⟩, fun hb => ?_, fun hb => ?_⟩
  · refine ⟨⟨by decide, by decide, by decide⟩, ?_⟩
    refine ⟨fun i δ => ∃ (r : List Int) (q : Int), Digs r (sizes.take i) ∧ δ = [.no, .no, .ow (.lst (r.map .int)), .sh (.int q), .no, .no, .no, .no], ⟨[], _, .nil, rfl⟩, fun i δ1 hi hI => ?_, fun δ1 hI => ?_⟩
    · rw [List.length_map] at hi
      refine deq (P := fun d => wpt (.nm 4) d _ _) (getInt hi) ?_
      obtain ⟨r, q, hr, rfl⟩ := hI
      have hn := List.getElem?_eq_getElem hi
      have hn' := hs _ (List.getElem_mem hi)
      refine ⟨hn'.1, ?_, .inl ⟨div64 hn'.1 hn'.2, r ++ [q % sizes[i]], q / sizes[i], hr.snoc hn (Int.emod_nonneg _ (by omega)) (Int.emod_lt_of_pos _ hn'.1), ?_⟩⟩
      · rw [List.length_map, hr.1, List.length_take]; omega
      · rw [← snocI]; rfl
    · obtain ⟨r, q, hr, rfl⟩ := hI
      exact hk _ (hr.all (by rw [List.length_map]; exact Nat.le_refl _))
  refine ⟨by decide, ?_⟩
  refine ⟨by rw [List.length_map]; omega, fun i δ => ∃ (r : List Int) (q : Int), 0 ≤ q ∧ q < 2147483647 ∧ Digs r (sizes.take i) ∧ δ = [.no, .sh (.sq l (sizes.map .int)), .ow (.lst (r.map .int)), .no, .no, .sh (.int q), .no, .no], ⟨[], c % 2147483629, by omega, by omega, .nil, rfl⟩, fun i δ1 hi hI => ?_, fun δ1 hI => ?_⟩
  · obtain ⟨r, q, q0, q1, hr, rfl⟩ := hI
    rw [Int.toNat_natCast, List.length_map] at hi
    have hn := List.getElem?_eq_getElem hi
    have hn' := hs _ (List.getElem_mem hi)
    refine ⟨mul64 (by omega) (by omega), mul64 (by omega) (by omega), by decide, ?_⟩
    generalize hq2 : (q * 48271 + 974711 * (i : Int) + 12345) % 2147483647 = q2
    have b2 : 0 ≤ q2 ∧ q2 < 2147483647 := by omega
    refine .inl ⟨div64 (by decide) (by decide), mul64 (by omega) (by omega), by decide, .inl ⟨div64 (by decide) (by decide), _, atInt hi, hn'.1, ?_, r ++ [q2 * (q2 / 65537 + 3) % 2147483629 / 19 % sizes[i]], q2, b2.1, b2.2, hr.snoc hn (Int.emod_nonneg _ (by omega)) (Int.emod_lt_of_pos _ hn'.1), ?_⟩⟩
    · rw [List.length_map, hr.1, List.length_take]; omega
    · rw [← snocI]; rfl
  · obtain ⟨r, q, q0, q1, hr, rfl⟩ := hI
    exact hk _ (hr.all (by rw [Int.toNat_natCast, List.length_map]; exact Nat.le_refl _))
def T_gcd : DSp := fun ds kk _ => ∃ (a b : Int), ds = [.int a, .int b] ∧ Bd 40000 a ∧ Bd 40000 b ∧ kk (.sh (.int ((Nat.gcd a.natAbs b.natAbs : Nat) : Int)))
theorem w_gcd : Deep [] N__law_gcd b__law_gcd T_gcd := by
  rintro _ kk xx ⟨a, b, rfl, ha, hb, hk⟩
  obtain ⟨n, hn, hab⟩ : ∃ n, n < 100000 ∧ 2 * (a.natAbs * b.natAbs) ≤ 2 ^ n := ⟨80001, by decide, by
    have e1 : a.natAbs * b.natAbs ≤ 2 ^ 40000 * 2 ^ 40000 := Nat.mul_le_mul (Nat.le_of_lt ha) (Nat.le_of_lt hb)
    have e2 : ∀ m k : Nat, k = m + m + 1 → (2 : Nat) ^ k = 2 * (2 ^ m * 2 ^ m) := fun m k e => by rw [e, ← Nat.pow_add, Nat.mul_comm, ← Nat.pow_succ]
    rw [e2 40000 80001 rfl]
    exact Nat.mul_le_mul_left 2 e1⟩
  have fin : ∀ l : Nat, l = Nat.gcd a.natAbs b.natAbs → kk (.sh (.int (l : Int))) := fun l e => by rw [e]; exact hk
  refine ⟨⟨by decide, by decide⟩, fun i δ => ∃ l r : Nat, l * r * 2 ^ i ≤ 2 ^ n ∧ (i = 0 → 2 * (l * r) ≤ 2 ^ n) ∧ (0 < i → r < l) ∧ Nat.gcd l r = Nat.gcd a.natAbs b.natAbs ∧ δ = [.no, .no, .sh (.int (l : Int)), .sh (.int (r : Int)), .no, .no], ⟨a.natAbs, b.natAbs, by rw [Nat.pow_zero, Nat.mul_one]; omega, fun _ => hab, fun z => absurd z (by decide), rfl, rfl⟩, fun i δ1 hi hI => ?_, fun δ1 hI => ?_⟩
  · obtain ⟨l, r, h1, h0, hl, hg, rfl⟩ := hI
    refine ⟨fun hb => ?_, fun hb => ?_⟩
    · refine fin l ?_
      rw [← hg, show r = 0 by omega, Nat.gcd_zero_right]
    obtain ⟨g1, g2⟩ := euclid_step (show 0 < r by omega) h1 h0 hl
    refine ⟨show (0 : Int) < (r : Int) by omega, r, l % r, g1, fun z => absurd z (Nat.succ_ne_zero i), fun _ => g2, ?_, rfl⟩
    rw [Nat.gcd_comm, ← Nat.gcd_rec, Nat.gcd_comm]
    exact hg
  obtain ⟨l, r, h1, h0, hl, hg, rfl⟩ := hI
  have hz := euclid_end h1 hn (hl (by decide))
  subst hz
  refine fin l ?_
  rw [← hg, Nat.gcd_zero_right]
abbrev pr (l : Bool) (a b : Int) : D := .sq l [.int a, .int b]
def T_isr : DSp := fun ds kk _ => ∃ p q : Int, ds = [pr false p q] ∧ 1 ≤ q ∧ Nat.gcd p.natAbs q.natAbs = 1 ∧ Bd 40000 p ∧ Bd 40000 q ∧ kk (.sh (.bl true))
theorem w_isr : Deep [T_whole, T_gcd] N__law_is_ratio b__law_is_ratio T_isr := by
  rintro _ kk xx ⟨p, q, rfl, hq, hg, bp, bq, hk⟩
  refine ⟨fun _ => ⟨_, rfl, fun _ => ⟨_, rfl, fun _ => ?_, fun h => nomatch h⟩, fun h => nomatch h⟩, fun h => absurd rfl h⟩
  refine ⟨fun _ => ?_, fun h => absurd (decide_eq_true hq) (by rw [h]; exact Bool.false_ne_true)⟩
  refine ⟨p, q, rfl, bp, bq, ?_⟩
  rw [hg]
  exact hk
abbrev rw_ (l l' : Bool) (ps : List Int) (q : Int) : D := .sq l [.sq l' (ps.map .int), .int q]
def T_isrow : DSp := fun ds kk _ => ∃ (ps : List Int) (q : Int), ds = [rw_ false false ps q, .int (ps.length : Int)] ∧ 1 ≤ q ∧ gcdL q.natAbs ps = 1 ∧ (∀ p ∈ ps, Bd 40000 p) ∧ Bd 40000 q ∧ kk (.sh (.bl true))
theorem w_isrow : Deep [T_whole, T_gcd] N__law_is_row b__law_is_row T_isrow := by
  rintro _ kk xx ⟨ps, q, rfl, hq, hg, bp, bq, hk⟩
  refine ⟨fun _ => ⟨fun _ => ?_, fun h => absurd (by rw [List.length_map]) h⟩, fun h => absurd rfl h⟩
  refine ⟨_, rfl, fun _ => ⟨fun h => absurd h (by omega), fun _ => ?_⟩, fun h => nomatch h⟩
  have bg : ∀ i, Bd 40000 ((gcdL q.natAbs (ps.take i) : Nat) : Int) := fun i => Bd.of_le bq (by
    have := (dvd_gcdL (d := gcdL q.natAbs (ps.take i)) (ns := ps.take i) (a := q.natAbs)).mp (Nat.dvd_refl _)
    rw [Int.natAbs_natCast]
    exact Nat.le_of_dvd (by omega) this.1)
  refine ⟨fun i δ => δ = [.no, .no, .sh (.int ((gcdL q.natAbs (ps.take i) : Nat) : Int)), .no], ?_, fun i δ1 hi hI => ?_, fun δ1 hI => ?_⟩
  · show [S.no, S.no, .sh (.int q), S.no] = _
    rw [List.take_zero]
    show _ = [S.no, S.no, .sh (.int ((q.natAbs : Nat) : Int)), S.no]
    rw [show ((q.natAbs : Nat) : Int) = q from by omega]
  · subst hI
    rw [List.length_map] at hi
    refine deq (P := fun d => wpt (.nm 3) d _ _) (getInt hi) ?_
    refine ⟨_, rfl, fun _ => ⟨_, _, rfl, bg i, bp _ (List.getElem_mem hi), ?_⟩, fun h => nomatch h⟩
    show _ = [S.no, S.no, S.sh (.int ((gcdL q.natAbs (ps.take (i + 1)) : Nat) : Int)), S.no]
    rw [List.take_succ_eq_append_getElem hi, gcdL_snoc, Int.natAbs_natCast]
    rfl
  · subst hI
    rw [List.length_map, List.take_length, hg]
    exact hk
end K00
set_option Elab.async false
set_option linter.all false
set_option maxRecDepth 100000
set_option maxHeartbeats 4000000
set_option pp.maxSteps 800
set_option exponentiation.threshold 50000
/-! k02: the program's defs of rows and elimination, for every law. -/
namespace K00
open PySem PySem.Spec PyProof.Rows L2 DL EL
/-! ratio(top, bottom): slots top=0 bottom=1 common=2; calls  -/
def N_ratio : List Str := ["top", "bottom", "common"]
def fs_ratio : List Fk := []
def b_ratio : Xb := (.cons (.ite [] (.cmp .eq (.var 1) (.int 0)) (.cons .rse
 .nil) .nil)
 (.cons (.itj [2] [] (.cmp .lt (.var 1) (.int 0)) (.cons (.set 0 false [] (.neg (.var 0)))
 (.cons (.set 1 false [] (.neg (.var 1)))
 .nil)) .nil)
 (.cons (.set 2 false [] (.bi .gcd (.cons (.var 0) (.cons (.var 1) .nil))))
 (.cons (.ret [] (.tup (.cons (.bin .div (.var 0) (.var 2)) (.cons (.bin .div (.var 1) (.var 2)) .nil))))
 .nil))))
/-! row(tops, line): slots tops=0 line=1 numbers=2 number=3 common=4; calls  -/
def N_row : List Str := ["tops", "line", "numbers", "number", "common"]
def fs_row : List Fk := []
def b_row : Xb := (.cons (.set 2 false [] (.bi .list (.cons (.var 0) .nil)))
 (.cons (.itj [0, 3, 4] [] (.cmp .lt (.var 1) (.int 0)) (.cons (.set 2 false [] (.lc 3 (.neg (.var 3)) (.sq (.var 2))))
 (.cons (.set 1 false [] (.neg (.var 1)))
 .nil)) .nil)
 (.cons (.set 4 false [] (.var 1))
 (.cons (.for_ [0, 3] [] (.nm 3) (.sq (.var 2)) (.cons (.set 4 false [] (.bi .gcd (.cons (.var 4) (.cons (.var 3) .nil))))
 .nil))
 (.cons (.ret [] (.tup (.cons (.bi .tuple (.cons (.lc 3 (.bin .div (.var 3) (.var 4)) (.sq (.var 2))) .nil)) (.cons (.bin .div (.var 1) (.var 4)) .nil))))
 .nil)))))
/-! row_of(ratios): slots ratios=0 line=1 one=2; calls row/2 -/
def N_row_of : List Str := ["ratios", "line", "one"]
def fs_row_of : List Fk := ["row"]
def b_row_of : Xb := (.cons (.set 1 false [] (.int 1))
 (.cons (.for_ [2] [] (.nm 2) (.sq (.var 0)) (.cons (.set 1 false [] (.bi .lcm (.cons (.var 1) (.cons (.ixn (.var 2) 1) .nil))))
 .nil))
 (.cons (.ret [] (.call 0 (.cons (.lc 2 (.bin .mul (.ixn (.var 2) 0) (.bin .div (.var 1) (.ixn (.var 2) 1))) (.sq (.var 0))) (.cons (.var 1) .nil))))
 .nil)))
/-! lowest(numbers): slots numbers=0 common=1 number=2; calls  -/
def N_lowest : List Str := ["numbers", "common", "number"]
def fs_lowest : List Fk := []
def b_lowest : Xb := (.cons (.set 1 false [] (.int 0))
 (.cons (.for_ [2] [] (.nm 2) (.sq (.var 0)) (.cons (.set 1 false [] (.bi .gcd (.cons (.var 1) (.cons (.var 2) .nil))))
 (.cons (.ite [] (.cmp .eq (.var 1) (.int 1)) (.cons (.ret [] (.bi .list (.cons (.var 0) .nil)))
 .nil) .nil)
 .nil)))
 (.cons (.ite [] (.cmp .eq (.var 1) (.int 0)) (.cons (.ret [] (.bi .list (.cons (.var 0) .nil)))
 .nil) .nil)
 (.cons (.ret [] (.lc 2 (.bin .div (.var 2) (.var 1)) (.sq (.var 0))))
 .nil))))
/-! cleared(entries, at, column): slots entries=0 at=1 column=2 chosen=3 factor=4 result=5 k=6 entry=7 part=8 j=9; calls lowest/1 -/
def N_cleared : List Str := ["entries", "at", "column", "chosen", "factor", "result", "k", "entry", "part", "j"]
def fs_cleared : List Fk := ["lowest"]
def b_cleared : Xb := (.cons (.set 3 false [] (.ix (.var 0) (.var 1)))
 (.cons (.set 4 false [] (.ix (.var 3) (.var 2)))
 (.cons (.set 5 true [] (.lst .nil))
 (.cons (.for_ [6, 7, 8, 9] [] (.nm 6) (.rng (.bi .len (.cons (.var 0) .nil))) (.cons (.set 7 false [] (.ix (.var 0) (.var 6)))
 (.cons (.ite [] (.or (.cons (.cmp .eq (.var 6) (.var 1)) (.cons (.cmp .eq (.ix (.var 7) (.var 2)) (.int 0)) .nil))) (.cons (.app 5 [] (.var 7))
 .nil) (.cons (.set 8 false [] (.ix (.var 7) (.var 2)))
 (.cons (.app 5 [] (.call 0 (.cons (.lc 9 (.bin .sub (.bin .mul (.ix (.var 7) (.var 9)) (.var 4)) (.bin .mul (.ix (.var 3) (.var 9)) (.var 8))) (.rng (.bi .len (.cons (.var 7) .nil)))) .nil)))
 .nil)))
 .nil)))
 (.cons (.retO 5)
 .nil)))))
/-! free_entry(entries, used, column): slots entries=0 used=1 column=2 k=3; calls  -/
def N_free_entry : List Str := ["entries", "used", "column", "k"]
def fs_free_entry : List Fk := []
def b_free_entry : Xb := (.cons (.for_ [3] [] (.nm 3) (.rng (.bi .len (.cons (.var 0) .nil))) (.cons (.ite [] (.and (.cons (.cmp .nin (.var 3) (.var 1)) (.cons (.cmp .ne (.ix (.ix (.var 0) (.var 3)) (.var 2)) (.int 0)) .nil))) (.cons (.ret [] (.var 3))
 .nil) .nil)
 .nil))
 (.cons (.ret [] .non)
 .nil))
/-! eliminated(entries, width): slots entries=0 width=1 entry=2 used=3 pivots=4 column=5 at=6 number=7; calls lowest/1 free_entry/3 cleared/3 -/
def N_eliminated : List Str := ["entries", "width", "entry", "used", "pivots", "column", "at", "number"]
def fs_eliminated : List Fk := ["lowest", "free_entry", "cleared"]
def b_eliminated : Xb := (.cons (.set 0 true [0] (.lc 2 (.call 0 (.cons (.var 2) .nil)) (.sq (.var 0))))
 (.cons (.set 3 true [] .dct0)
 (.cons (.set 4 true [] (.lst .nil))
 (.cons (.for_ [1, 2, 5, 6, 7] [] (.nm 5) (.rng (.var 1)) (.cons (.set 6 false [0, 3] (.call 1 (.cons (.var 0) (.cons (.var 3) (.cons (.var 5) .nil)))))
 (.cons (.ite [] (.cmp .isnot (.var 6) .non) (.cons (.itj [1, 2, 7] [0] (.cmp .lt (.ix (.ix (.var 0) (.var 6)) (.var 5)) (.int 0)) (.cons (.sti 0 [0] (.lc 7 (.neg (.var 7)) (.sq (.ix (.var 0) (.var 6)))) (.var 6))
 .nil) .nil)
 (.cons (.set 0 true [0] (.call 2 (.cons (.var 0) (.cons (.var 6) (.cons (.var 5) .nil)))))
 (.cons (.sti 3 [] (.bl true) (.var 6))
 (.cons (.app 4 [] (.tup (.cons (.var 6) (.cons (.var 5) .nil))))
 .nil)))) .nil)
 .nil)))
 (.cons (.ret [0, 4] (.tup (.cons (.var 0) (.cons (.var 4) .nil))))
 .nil)))))
/-! Solution.__init__(self, point, bar): slots self=0 point=1 bar=2; calls  -/
def N_Solution___init__ : List Str := ["point", "bar"]
def fs_Solution___init__ : List Fk := []
def b_Solution___init__ : Xb := (.cons (.fst 0 "point" [] (.var 1))
 (.cons (.fst 0 "bar" [] (.var 2))
 .nil))
/-! bar_of(entries, pivots, width): slots entries=0 pivots=1 width=2 at=3 _=4 used=5 k=6 right=7 bar=8 number=9; calls lowest/1 -/
def N_bar_of : List Str := ["entries", "pivots", "width", "at", "_", "used", "k", "right", "bar", "number"]
def fs_bar_of : List Fk := ["lowest"]
def b_bar_of : Xb := (.cons (.setD 5 [3, 4] 0 (.sq (.var 1)))
 (.cons (.for_ [1, 3, 4, 6, 7, 8, 9] [] (.nm 6) (.rng (.bi .len (.cons (.var 0) .nil))) (.cons (.set 7 false [] (.ix (.ix (.var 0) (.var 6)) (.var 2)))
 (.cons (.ite [] (.and (.cons (.cmp .nin (.var 6) (.var 5)) (.cons (.cmp .ne (.var 7) (.int 0)) .nil))) (.cons (.set 8 false [] (.call 0 (.cons (.slc (.ix (.var 0) (.var 6)) (.bin .add (.var 2) (.int 1)) .non) .nil)))
 (.cons (.ite [] (.cmp .lt (.var 7) (.int 0)) (.cons (.ret [] (.bi .tuple (.cons (.lc 9 (.neg (.var 9)) (.sq (.var 8))) .nil)))
 .nil) .nil)
 (.cons (.ret [] (.bi .tuple (.cons (.var 8) .nil)))
 .nil))) .nil)
 .nil)))
 (.cons (.ret [] .non)
 .nil)))
/-! solved(table, right): slots table=0 right=1 width=2 size=3 entries=4 k=5 marks=6 pivots=7 bar=8 point=9 at=10 column=11; calls eliminated/2 bar_of/3 Solution/2 ratio/2 row_of/1 -/
def N_solved : List Str := ["table", "right", "width", "size", "entries", "k", "marks", "pivots", "bar", "point", "at", "column"]
def fs_solved : List Fk := ["eliminated", "bar_of", "Solution", "ratio", "row_of"]
def b_solved : Xb := (.cons (.set 2 false [] (.bi .len (.cons (.ixn (.var 0) 0) .nil)))
 (.cons (.set 3 false [] (.bi .len (.cons (.var 0) .nil)))
 (.cons (.set 4 true [] (.lst .nil))
 (.cons (.for_ [5, 6, 7, 8, 9, 10, 11] [] (.nm 5) (.rng (.var 3)) (.cons (.set 6 true [] (.rep (.lst (.cons (.int 0) .nil)) (.var 3)))
 (.cons (.sti 6 [] (.int 1) (.var 5))
 (.cons (.app 4 [6] (.bin .add (.bin .add (.bi .list (.cons (.ix (.var 0) (.var 5)) .nil)) (.lst (.cons (.ix (.var 1) (.var 5)) .nil))) (.var 6)))
 .nil))))
 (.cons (.asg (.tup [4, 7]) [4] (.call 0 (.cons (.var 4) (.cons (.var 2) .nil))))
 (.cons (.set 8 false [4] (.call 1 (.cons (.var 4) (.cons (.var 7) (.cons (.var 2) .nil)))))
 (.cons (.ite [] (.cmp .isnot (.var 8) .non) (.cons (.ret [] (.call 2 (.cons .non (.cons (.var 8) .nil))))
 .nil) .nil)
 (.cons (.set 9 true [] (.rep (.lst (.cons (.tup (.cons (.int 0) (.cons (.int 1) .nil))) .nil)) (.var 2)))
 (.cons (.for_ [0, 1, 3, 5, 6, 7, 8, 10, 11] [] (.tup [10, 11]) (.sq (.var 7)) (.cons (.sti 9 [4] (.call 3 (.cons (.ix (.ix (.var 4) (.var 10)) (.var 2)) (.cons (.ix (.ix (.var 4) (.var 10)) (.var 11)) .nil))) (.var 11))
 .nil))
 (.cons (.ret [9] (.call 2 (.cons (.call 4 (.cons (.var 9) .nil)) (.cons .non .nil))))
 .nil))))))))))
abbrev rD (l : Bool) (r : List Int) : D := .sq l (r.map .int)
abbrev esD (es : List (List Int)) : D := .sq true (es.map (rD true))
abbrev pvD (P : List (Nat × Nat)) : D := .sq true (P.map fun p => .sq false [.int (p.1 : Int), .int (p.2 : Int)])
theorem gdI {ps : List Int} {i : Nat} (h : i < ps.length) : (ps.map D.int)[i]? = some (.int (ps.getD i 0)) := by
  rw [List.getElem?_map, List.getD_eq_getElem?_getD, List.getElem?_eq_getElem h]; rfl
theorem gmI {ps : List Int} {i : Nat} (h : i < ps.length) : ps.getD i 0 ∈ ps := by
  rw [List.getD_eq_getElem?_getD, List.getElem?_eq_getElem h]; exact List.getElem_mem h
theorem aI {ps : List Int} {i : Nat} (h : i < ps.length) : atI (ps.map D.int) (i : Int) = some (.int (ps.getD i 0)) := atI_nat (gdI h)
theorem aR {l : Bool} {es : List (List Int)} {k : Nat} (h : k < es.length) : atI (es.map (rD l)) (k : Int) = some (rD l (rowAt es k)) := atI_nat (by
  rw [List.getElem?_map, List.getElem?_eq_getElem h]
  show some (rD l es[k]) = some (rD l (es.getD k []))
  rw [List.getD_eq_getElem?_getD, List.getElem?_eq_getElem h]; rfl)
theorem gR {l : Bool} {es : List (List Int)} {k : Nat} (h : k < es.length) : (es.map (rD l)).getD k .non = rD l (rowAt es k) := by
  rw [List.getD_eq_getElem?_getD, List.getElem?_map, List.getElem?_eq_getElem h]
  show rD l es[k] = rD l (es.getD k [])
  rw [List.getD_eq_getElem?_getD, List.getElem?_eq_getElem h]; rfl
theorem gI {ns : List Int} {i : Nat} (h : i < ns.length) : (ns.map D.int).getD i .non = .int (ns.getD i 0) := by
  rw [List.getD_eq_getElem?_getD, gdI h]; rfl
/-! ratio, row, row_of -/
def T_ratio : DSp := fun ds kk _ => ∃ t b : Int, ds = [.int t, .int b] ∧ b ≠ 0 ∧ Bd 8900 b ∧ kk (.sh (pr false (ratF t b).1 (ratF t b).2))
theorem w_ratio : Deep [] N_ratio b_ratio T_ratio := by
  rintro _ kk xx ⟨t, b, rfl, hb, bb, hk⟩
  have g0 : 0 < Nat.gcd t.natAbs b.natAbs := Nat.gcd_pos_of_pos_right _ (by omega)
  have gb : Bd 8900 ((Nat.gcd t.natAbs b.natAbs : Nat) : Int) := Bd.of_le bb (by
    rw [Int.natAbs_natCast]
    exact Nat.gcd_le_right _ (by omega))
  refine ⟨fun h => absurd h hb, fun _ => ?_⟩
  refine join (fun δ => δ = [.sh (.int (if b < 0 then -t else t)), .sh (.int (if b < 0 then -b else b)), .no]) ⟨fun h => ?_, fun h => ?_⟩ fun δ hδ => ?_
  · rw [if_pos h, if_pos h]; rfl
  · rw [if_neg h, if_neg h]; rfl
  subst hδ
  have e : Nat.gcd (if b < 0 then -t else t).natAbs (if b < 0 then -b else b).natAbs = Nat.gcd t.natAbs b.natAbs := by
    by_cases h : b < 0
    · rw [if_pos h, if_pos h, Int.natAbs_neg, Int.natAbs_neg]
    · rw [if_neg h, if_neg h]
  show (CDivW (if b < 0 then -t else t) ((Nat.gcd (if b < 0 then -t else t).natAbs (if b < 0 then -b else b).natAbs : Nat) : Int) ∧ _) ∨ _
  rw [e]
  refine .inl ⟨Bd.div (b := 8900) (by omega) gb (by decide), .inl ⟨Bd.div (b := 8900) (by omega) gb (by decide), hk⟩⟩
def T_row : DSp := fun ds kk _ => ∃ (l : Bool) (ts : List Int) (line : Int), ds = [rD l ts, .int line] ∧ 1 ≤ line ∧ Bd 8900 line ∧ ts.length ≤ 1000 ∧ kk (.sh (rw_ false false (ts.map (· / ((gcdL line.natAbs ts : Nat) : Int))) (line / ((gcdL line.natAbs ts : Nat) : Int))))
theorem w_row : Deep [] N_row b_row T_row := by
  rintro _ kk xx ⟨l, ts, line, rfl, h1, hb, hl, hk⟩
  have gp : ∀ i, 0 < gcdL line.natAbs (ts.take i) := fun i => gcdL_pos (by omega) _
  refine join (fun δ => δ = [.no, .sh (.int line), .sh (rD true ts), .no, .no]) ⟨fun h => absurd h (by omega), fun _ => rfl⟩ fun δ hδ => ?_
  subst hδ
  refine ⟨fun i δ => δ = [.no, .sh (.int line), .sh (rD true ts), .no, .sh (.int ((gcdL line.natAbs (ts.take i) : Nat) : Int))], ?_, fun i δ1 hi hI => ?_, fun δ1 hI => ?_⟩
  · show [S.no, .sh (.int line), .sh (rD true ts), S.no, .sh (.int line)] = _
    rw [List.take_zero]
    show _ = [S.no, .sh (.int line), .sh (rD true ts), S.no, .sh (.int ((line.natAbs : Nat) : Int))]
    rw [show ((line.natAbs : Nat) : Int) = line from by omega]
  · subst hI
    rw [List.length_map] at hi
    refine deq (P := fun d => wpt (.nm 3) d _ _) (getInt hi) ?_
    show [S.no, .sh (.int line), .sh (rD true ts), S.no, S.sh (.int _)] = [S.no, .sh (.int line), .sh (rD true ts), S.no, S.sh (.int ((gcdL line.natAbs (ts.take (i + 1)) : Nat) : Int))]
    rw [List.take_succ_eq_append_getElem hi, gcdL_snoc, Int.natAbs_natCast]
  · subst hI
    rw [List.length_map, List.take_length]
    have g0 := gp ts.length
    rw [List.take_length] at g0
    have gb : Bd 8900 ((gcdL line.natAbs ts : Nat) : Int) := Bd.of_le hb (by
      rw [Int.natAbs_natCast]
      exact Nat.le_of_dvd (by omega) (dvd_gcdL.mp (Nat.dvd_refl _)).1)
    refine lcw .int (fun n => .int (n / ((gcdL line.natAbs ts : Nat) : Int))) (by omega) (fun x _ => .inl ⟨Bd.div (b := 8900) (by omega) gb (by decide), rfl⟩) (.inl ⟨Bd.div (b := 8900) (by omega) gb (by decide), ?_⟩)
    have e : ts.map (fun n => D.int (n / ((gcdL line.natAbs ts : Nat) : Int))) = (ts.map (· / ((gcdL line.natAbs ts : Nat) : Int))).map .int := by rw [List.map_map]; rfl
    show kk (.sh (.sq false [.sq false (ts.map fun n => D.int (n / _)), _]))
    rw [e]
    exact hk
theorem lcmL_take {pts : List (Int × Int)} {i : Nat} (h : i < pts.length) : lcmL (pts.take (i + 1)) 1 = Nat.lcm (lcmL (pts.take i) 1) pts[i].2.natAbs := by
  rw [List.take_succ_eq_append_getElem h, lcmL_snoc]
def T_row_of : DSp := fun ds kk _ => ∃ (l : Bool) (pts : List (Int × Int)), ds = [.sq l (pts.map fun p => pr false p.1 p.2)] ∧ pts.length ≤ 1000 ∧ (∀ p ∈ pts, 1 ≤ p.2 ∧ p.1.natAbs < 2 ^ 4400 ∧ ∃ t : Nat, 0 < t ∧ t < 2 ^ 4400 ∧ lcmL pts 1 ∣ t ∧ p.2.natAbs ∣ t) ∧ kk (.sh (rw_ false false (rowOfF pts).1 (rowOfF pts).2))
theorem w_row_of : Deep [T_row] N_row_of b_row_of T_row_of := by
  rintro _ kk xx ⟨l, pts, rfl, hl, hp, hk⟩
  have lp : ∀ i, 0 < lcmL (pts.take i) 1 := fun i => by
    have : lcmL (pts.take i) 1 ≠ 0 := fun z => by
      have : ∀ (ps : List (Int × Int)) (a : Nat), 0 < a → (∀ p ∈ ps, 1 ≤ p.2) → 0 < lcmL ps a := by
        intro ps
        induction ps with
        | nil => intro a h _; exact h
        | cons p ps ih =>
          intro a h hh
          have := hh p List.mem_cons_self
          exact ih _ (Nat.lcm_pos h (by omega)) fun q hq => hh q (List.mem_cons_of_mem _ hq)
      have := this (pts.take i) 1 Nat.one_pos fun p hh => (hp p (List.mem_of_mem_take hh)).1
      omega
    omega
  have mono : ∀ i, lcmL (pts.take i) 1 ∣ lcmL pts 1 := fun i => lcmL_dvd (Nat.one_dvd _) fun p hh => dvd_lcmL.2 p (List.mem_of_mem_take hh)
  have lb : Bd 4400 ((lcmL pts 1 : Nat) : Int) := by
    show (((lcmL pts 1 : Nat) : Int)).natAbs < 2 ^ 4400
    rw [Int.natAbs_natCast]
    cases pts with
    | nil => exact Nat.one_lt_two_pow (by decide)
    | cons p ps =>
      obtain ⟨_, _, t, t0, t1, t2, _⟩ := hp p List.mem_cons_self
      exact Nat.lt_of_le_of_lt (Nat.le_of_dvd t0 t2) t1
  have l0 := lp pts.length
  rw [List.take_length] at l0
  have tb : ∀ i, Bd 4400 ((lcmL (pts.take i) 1 : Nat) : Int) := fun i => Bd.of_le lb (by
    rw [Int.natAbs_natCast, Int.natAbs_natCast]
    exact Nat.le_of_dvd l0 (mono i))
  have qb : ∀ p ∈ pts, Bd 4400 p.2 := fun p hh => by
    obtain ⟨_, _, t, t0, t1, _, t3⟩ := hp p hh
    exact Nat.lt_of_le_of_lt (Nat.le_of_dvd t0 t3) t1
  refine ⟨fun i δ => δ = [.sh (.sq l (pts.map fun p => pr false p.1 p.2)), .sh (.int ((lcmL (pts.take i) 1 : Nat) : Int)), .no], rfl, fun i δ1 hi hI => ?_, fun δ1 hI => ?_⟩
  · subst hI
    rw [List.length_map] at hi
    refine deq (P := fun d => wpt (.nm 2) d _ _) (show (pts.map fun p => pr false p.1 p.2).getD i .non = pr false pts[i].1 pts[i].2 from by rw [List.getD_eq_getElem?_getD, List.getElem?_map, List.getElem?_eq_getElem hi]; rfl) ?_
    refine ⟨⟨(tb i).le (by decide), (qb _ (List.getElem_mem hi)).le (by decide)⟩, ?_⟩
    show [_, S.sh (.int _), S.no] = [_, S.sh (.int ((lcmL (pts.take (i + 1)) 1 : Nat) : Int)), S.no]
    rw [lcmL_take hi, Int.natAbs_natCast]
  · subst hI
    rw [List.length_map, List.take_length]
    refine lcw (fun p : Int × Int => pr false p.1 p.2) (fun p => .int (p.1 * (((lcmL pts 1 : Nat) : Int) / p.2))) (by omega) (fun p hh => ?_) ?_
    · have := (hp p hh).1
      have db : Bd 4400 (((lcmL pts 1 : Nat) : Int) / p.2) := Bd.of_le lb (by
        rw [Int.natAbs_ediv_of_nonneg (by omega)]
        exact Nat.div_le_self _ _)
      exact .inl ⟨Bd.div (b := 4400) (by omega) (qb p hh) (by decide), (show Bd 4400 p.1 from (hp p hh).2.1).mulW db (by decide), rfl⟩
    · have e : pts.map (fun p => D.int (p.1 * (((lcmL pts 1 : Nat) : Int) / p.2))) = (topsL pts).map .int := by unfold topsL; rw [List.map_map]; rfl
      refine ⟨true, topsL pts, ((lcmL pts 1 : Nat) : Int), ?_, by omega, lb.le (by decide), by unfold topsL; rw [List.length_map]; omega, ?_⟩
      · show [D.sq true (pts.map fun p => D.int (p.1 * (((lcmL pts 1 : Nat) : Int) / p.2))), _] = _
        rw [e]
        rfl
      · exact hk
end K00
set_option Elab.async false
set_option linter.all false
set_option maxRecDepth 100000
set_option maxHeartbeats 4000000
set_option pp.maxSteps 800
set_option exponentiation.threshold 50000
/-! k02: lowest, cleared, free_entry, eliminated, bar_of, Solution, solved. -/
namespace K00
open PySem PySem.Spec PyProof.Rows L2 DL EL
theorem gcdZ_lt {M : Nat} {xs : List Int} (hM : 0 < M) (h : ∀ x ∈ xs, x.natAbs < M) : gcdZ xs < M := by
  by_cases z : ∃ x ∈ xs, x ≠ 0
  · obtain ⟨x, hx, ne⟩ := z
    have := (dvd_gcdL (d := gcdZ xs) (ns := xs) (a := 0)).mp (Nat.dvd_refl _)
    exact Nat.lt_of_le_of_lt (Nat.le_of_dvd (by omega) (this.2 x hx)) (h x hx)
  · have e : gcdZ xs = 0 := Nat.eq_zero_of_zero_dvd (dvd_gcdL.mpr ⟨Nat.dvd_refl _, fun n hn => by
      have : n = 0 := Classical.byContradiction fun ne => z ⟨n, hn, ne⟩
      rw [this]; exact Nat.dvd_refl _⟩)
    rw [e]; exact hM
theorem gcdZ_one {xs : List Int} {i : Nat} (h : gcdZ (xs.take i) = 1) : lowL xs = xs := by
  have h1 : gcdZ xs ∣ 1 := by
    rw [← h]
    have := (dvd_gcdL (d := gcdZ xs) (ns := xs) (a := 0)).mp (Nat.dvd_refl _)
    exact dvd_gcdL.mpr ⟨this.1, fun n hn => this.2 n (List.mem_of_mem_take hn)⟩
  have e : gcdZ xs = 1 := Nat.dvd_one.mp h1
  unfold lowL
  rw [e, if_neg (by decide)]
  conv => rhs; rw [← List.map_id xs]
  exact List.map_congr_left fun x _ => Int.ediv_one x
def T_lowest : DSp := fun ds kk _ => ∃ (l : Bool) (xs : List Int), ds = [rD l xs] ∧ xs.length ≤ 1000 ∧ (∀ x ∈ xs, Bd 8900 x) ∧ kk (.ow (.lst ((lowL xs).map .int)))
theorem w_lowest : Deep [] N_lowest b_lowest T_lowest := by
  rintro _ kk xx ⟨l, xs, rfl, hl, hb, hk⟩
  refine ⟨fun i δ => δ = [.sh (rD l xs), .sh (.int ((gcdZ (xs.take i) : Nat) : Int)), .no], rfl, fun i δ1 hi hI => ?_, fun δ1 hI => ?_⟩
  · subst hI
    rw [List.length_map] at hi
    refine deq (P := fun d => wpt (.nm 2) d _ _) (getInt hi) ?_
    have e : Nat.gcd ((gcdZ (xs.take i) : Nat) : Int).natAbs xs[i].natAbs = gcdZ (xs.take (i + 1)) := by
      rw [Int.natAbs_natCast]
      unfold gcdZ
      rw [List.take_succ_eq_append_getElem hi, gcdL_snoc]
    refine ⟨fun h => ?_, fun _ => ?_⟩
    · have h : ((Nat.gcd ((gcdZ (xs.take i) : Nat) : Int).natAbs xs[i].natAbs : Nat) : Int) = 1 := h
      rw [e] at h
      have := gcdZ_one (xs := xs) (i := i + 1) (by omega)
      rw [this] at hk
      exact hk
    · show [S.sh (rD l xs), S.sh (.int ((Nat.gcd _ _ : Nat) : Int)), S.no] = _
      rw [e]
  · subst hI
    rw [List.length_map, List.take_length]
    refine ⟨fun h => ?_, fun h => ?_⟩
    · have h : ((gcdZ xs : Nat) : Int) = 0 := h
      unfold lowL at hk
      rw [if_pos (by omega)] at hk
      exact hk
    · have h : ((gcdZ xs : Nat) : Int) ≠ 0 := h
      unfold lowL at hk
      rw [if_neg (by omega)] at hk
      have gb : Bd 8900 ((gcdZ xs : Nat) : Int) := by
        show ((gcdZ xs : Nat) : Int).natAbs < 2 ^ 8900
        rw [Int.natAbs_natCast]
        exact gcdZ_lt (p2 8900) hb
      refine lcw .int (fun n => .int (n / ((gcdZ xs : Nat) : Int))) (by omega) (fun x _ => .inl ⟨Bd.div (b := 8900) (by omega) gb (by decide), rfl⟩) ?_
      have e : xs.map (fun n => D.int (n / ((gcdZ xs : Nat) : Int))) = (xs.map (· / ((gcdZ xs : Nat) : Int))).map .int := by rw [List.map_map]; rfl
      show kk (.ow (.lst (xs.map fun n => D.int (n / ((gcdZ xs : Nat) : Int)))))
      rw [e]
      exact hk
/-- rows of n by L numbers, none of them too great -/
structure Tame (es : List (List Int)) (n L : Nat) : Prop where
  r : Rect es n L
  b : ∀ k, k < n → ∀ j, j < L → (at2 es k j).natAbs < 2 ^ 4400
theorem Tame.mem {es : List (List Int)} {n L k : Nat} (t : Tame es n L) (hk : k < n) : ∀ x ∈ rowAt es k, Bd 4400 x := fun x hx => by
  obtain ⟨j, hj, rfl⟩ := List.mem_iff_getElem.mp hx
  have := t.b k hk j (by rw [← t.r.cols k hk]; exact hj)
  have e : at2 es k j = (rowAt es k)[j] := by
    show (rowAt es k).getD j 0 = _
    rw [List.getD_eq_getElem?_getD, List.getElem?_eq_getElem hj]; rfl
  rw [e] at this
  exact this
theorem bd_sub {x y : Int} (hx : Bd 8800 x) (hy : Bd 8800 y) : Bd 8900 (x - y) := by
  have h1 : x.natAbs < 2 ^ 8800 := hx
  have h2 : y.natAbs < 2 ^ 8800 := hy
  have e : (2 : Nat) ^ 8801 = 2 ^ 8800 + 2 ^ 8800 := by rw [Nat.pow_succ, Nat.mul_two]
  show (x - y).natAbs < 2 ^ 8900
  refine Nat.lt_of_lt_of_le ?_ (Nat.pow_le_pow_right (by decide) (show 8801 ≤ 8900 by decide))
  rw [e]
  omega
theorem bd_mul {x y : Int} (hx : Bd 4400 x) (hy : Bd 4400 y) : Bd 8800 (x * y) := by
  show (x * y).natAbs < 2 ^ 8800
  rw [Int.natAbs_mul, show (2 : Nat) ^ 8800 = 2 ^ 4400 * 2 ^ 4400 from (Nat.pow_add 2 4400 4400)]
  exact Nat.mul_lt_mul'' hx hy
def T_cleared : DSp := fun ds kk _ => ∃ (es : List (List Int)) (n L a c : Nat), ds = [esD es, .int (a : Int), .int (c : Int)] ∧ Tame es n L ∧ a < n ∧ c < L ∧ n ≤ 1000 ∧ L ≤ 1000 ∧ kk (.ow (.lst ((clearL es a c).map (rD true))))
theorem w_cleared : Deep [T_lowest] N_cleared b_cleared T_cleared := by
  rintro _ kk xx ⟨es, n, L, a, c, rfl, t, ha, hc, hn, hL, hk⟩
  have el := t.r.rows
  have la := t.r.cols a ha
  refine ⟨_, aR (by omega), _, aI (by omega), ?_⟩
  refine ⟨by rw [List.length_map]; omega, fun i δ => δ = [.sh (esD es), .sh (.int (a : Int)), .sh (.int (c : Int)), .sh (rD true (rowAt es a)), .sh (.int ((rowAt es a).getD c 0)), .ow (.lst (((clearL es a c).take i).map (rD true))), .no, .no, .no, .no], rfl, fun i δ1 hi hI => ?_, fun δ1 hI => ?_⟩
  · subst hI
    rw [Int.toNat_natCast, List.length_map] at hi
    have li := t.r.cols i (by omega)
    have nxt : ∀ r, (if i = a ∨ at2 es i c = 0 then rowAt es i else lowL (preL (rowAt es i) (rowAt es a) c)) = r → ((clearL es a c).take i).map (rD true) ++ [rD true r] = ((clearL es a c).take (i + 1)).map (rD true) := fun r e => by
      have hl : i < (clearL es a c).length := by unfold clearL; rw [List.length_map, List.length_range]; exact hi
      rw [List.take_succ_eq_append_getElem hl, List.map_append]
      congr 1
      have h0 : (clearL es a c)[i]? = some r := by
        unfold clearL
        rw [List.getElem?_map, List.getElem?_range hi]
        exact congrArg some e
      rw [List.getElem?_eq_getElem hl] at h0
      rw [Option.some.inj h0]; rfl
    have ll : (((clearL es a c).take i).map (rD true)).length < 100000 := by
      rw [List.length_map, List.length_take]
      have : (clearL es a c).length = es.length := by unfold clearL; rw [List.length_map, List.length_range]
      omega
    refine ⟨_, aR hi, ?_⟩
    have yes : (i = a ∨ at2 es i c = 0) → ((((clearL es a c).take i).map (rD true)).length < 100000 ∧ [S.sh (esD es), .sh (.int (a : Int)), .sh (.int (c : Int)), .sh (rD true (rowAt es a)), .sh (.int ((rowAt es a).getD c 0)), .ow (.lst (((clearL es a c).take i).map (rD true) ++ [rD true (rowAt es i)])), S.no, .no, .no, .no] = [S.sh (esD es), .sh (.int (a : Int)), .sh (.int (c : Int)), .sh (rD true (rowAt es a)), .sh (.int ((rowAt es a).getD c 0)), .ow (.lst (((clearL es a c).take (i + 1)).map (rD true))), S.no, .no, .no, .no]) := fun h => ⟨ll, by rw [nxt _ (if_pos h)]⟩
    refine ⟨fun e => yes (.inl (by have e : (i : Int) = a := e; omega)), fun ne => ⟨_, aI (by omega), fun e => yes (.inr e), fun ne2 => ?_⟩⟩
    refine ⟨_, aI (by omega), ?_⟩
    refine ⟨by rw [List.length_map]; omega, lcw_rng (fun j => .int ((rowAt es i).getD j 0 * (rowAt es a).getD c 0 - (rowAt es a).getD j 0 * (rowAt es i).getD c 0)) (by rw [Int.toNat_natCast, List.length_map]; omega) (fun j hj => ?_) ?_⟩
    · rw [Int.toNat_natCast, List.length_map] at hj
      have b1 : Bd 4400 ((rowAt es i).getD j 0) := t.b i (by omega) j (by omega)
      have b2 : Bd 4400 ((rowAt es a).getD c 0) := t.b a ha c hc
      have b3 : Bd 4400 ((rowAt es a).getD j 0) := t.b a ha j (by omega)
      have b4 : Bd 4400 ((rowAt es i).getD c 0) := t.b i (by omega) c hc
      exact ⟨_, aI (by omega), b1.mulW b2 (by decide), _, aI (by omega), b3.mulW b4 (by decide), rfl⟩
    · have e : ((List.range (((rowAt es i).map D.int).length : Int).toNat).map fun j => D.int ((rowAt es i).getD j 0 * (rowAt es a).getD c 0 - (rowAt es a).getD j 0 * (rowAt es i).getD c 0)) = (preL (rowAt es i) (rowAt es a) c).map .int := by
        unfold preL
        rw [List.map_map, Int.toNat_natCast, List.length_map]; rfl
      refine ⟨true, preL (rowAt es i) (rowAt es a) c, ?_, by unfold preL; rw [List.length_map, List.length_range]; omega, fun x hx => ?_, ll, ?_⟩
      · show [D.sq true _] = [D.sq true _]
        rw [e]
      · unfold preL at hx
        obtain ⟨j, hj, rfl⟩ := List.mem_map.mp hx
        have hj := List.mem_range.mp hj
        exact bd_sub (bd_mul (t.b i (by omega) j (by omega)) (t.b a ha c hc)) (bd_mul (t.b a ha j (by omega)) (t.b i (by omega) c hc))
      · show [S.sh (esD es), .sh (.int (a : Int)), .sh (.int (c : Int)), .sh (rD true (rowAt es a)), .sh (.int ((rowAt es a).getD c 0)), .ow (.lst (((clearL es a c).take i).map (rD true) ++ [rD true _])), S.no, .no, .no, .no] = _
        rw [nxt _ (if_neg fun z => z.elim (fun z => ne (by rw [z])) fun z => ne2 z)]
  · subst hI
    rw [Int.toNat_natCast, List.length_map] at *
    have e : (clearL es a c).take es.length = clearL es a c := List.take_of_length_le (by unfold clearL; rw [List.length_map, List.length_range]; exact Nat.le_refl _)
    rw [e]
    exact hk
/-! the dict of the rows that are used -/
def UsD (kds : List (Key × D)) (us : List Nat) : Prop := ∀ k : Nat, hasK kds (.inl (k : Int)) = decide (k ∈ us)
theorem hasK_put {kds : List (Key × D)} {κ κ' : Key} {d : D} : hasK (putKD kds κ d) κ' = (hasK kds κ' || decide (κ = κ')) := by
  unfold putKD
  by_cases c : hasK kds κ = true
  · rw [if_pos c]
    have e : hasK (kds.map fun p => if p.1 = κ then (p.1, d) else p) κ' = hasK kds κ' := by
      unfold hasK
      rw [List.any_map]
      congr 1
      funext p
      show decide ((if p.1 = κ then (p.1, d) else p).1 = κ') = decide (p.1 = κ')
      split <;> rfl
    rw [e]
    by_cases q : κ = κ'
    · rw [q] at c; rw [c]; rfl
    · rw [decide_eq_false q, Bool.or_false]
  · rw [if_neg c]
    unfold hasK
    rw [List.any_append]
    simp
theorem UsD.put {kds : List (Key × D)} {us : List Nat} {a : Nat} {d : D} (h : UsD kds us) : UsD (putKD kds (.inl (a : Int)) d) (us ++ [a]) := fun k => by
  rw [hasK_put, h k]
  by_cases e : k = a
  · subst e; simp
  · have : ¬ (Sum.inl (a : Int) : Key) = .inl (k : Int) := fun z => e (by have := Sum.inl.inj z; omega)
    rw [decide_eq_false this, Bool.or_false]
    simp [e]
theorem put_len {kds : List (Key × D)} {κ : Key} {d : D} : (putKD kds κ d).length ≤ kds.length + 1 := by
  unfold putKD
  split
  · rw [List.length_map]; omega
  · rw [List.length_append]; exact Nat.le_refl _
theorem find_first {n i : Nat} {p : Nat → Bool} (hi : i < n) (hp : p i = true) (hn : ∀ j, j < i → p j = false) : (List.range n).find? p = some i := by
  rw [List.find?_eq_some_iff_getElem]
  refine ⟨hp, i, by rw [List.length_range]; exact hi, by rw [List.getElem_range], fun j hj => ?_⟩
  rw [List.getElem_range, hn j hj]; rfl
theorem find_no {n : Nat} {p : Nat → Bool} (hn : ∀ j, j < n → p j = false) : (List.range n).find? p = none := List.find?_eq_none.mpr fun x hx => by rw [hn x (List.mem_range.mp hx)]; exact Bool.false_ne_true
def T_free : DSp := fun ds kk _ => ∃ (es : List (List Int)) (kds : List (Key × D)) (us : List Nat) (n L c : Nat), ds = [esD es, .dic kds, .int (c : Int)] ∧ UsD kds us ∧ Rect es n L ∧ c < L ∧ n ≤ 1000 ∧ kk (.sh (match freeL es us c with | some k => .int (k : Int) | none => .non))
theorem w_free : Deep [] N_free_entry b_free_entry T_free := by
  rintro _ kk xx ⟨es, kds, us, n, L, c, rfl, hu, R, hc, hn, hk⟩
  have el := R.rows
  refine ⟨by rw [List.length_map]; omega, fun i δ => δ = [.sh (esD es), .sh (.dic kds), .sh (.int (c : Int)), .no] ∧ ∀ j, j < i → decide (j ∉ us ∧ at2 es j c ≠ 0) = false, ⟨rfl, fun j hj => absurd hj (Nat.not_lt_zero j)⟩, fun i δ1 hi hI => ?_, fun δ1 hI => ?_⟩
  · obtain ⟨rfl, ha⟩ := hI
    rw [Int.toNat_natCast, List.length_map] at hi
    have li := R.cols i (by omega)
    have nxt : ¬ (i ∉ us ∧ at2 es i c ≠ 0) → ([S.sh (esD es), .sh (.dic kds), .sh (.int (c : Int)), S.no] = [S.sh (esD es), .sh (.dic kds), .sh (.int (c : Int)), S.no] ∧ ∀ j, j < i + 1 → decide (j ∉ us ∧ at2 es j c ≠ 0) = false) := fun h => ⟨rfl, fun j hj => by
      rcases Nat.lt_succ_iff_lt_or_eq.mp hj with w | w
      · exact ha j w
      · rw [w]; exact decide_eq_false h⟩
    refine ⟨fun h => ?_, fun h => ?_⟩
    · have h : hasK kds (.inl (i : Int)) = true := h
      rw [hu i] at h
      exact nxt fun z => z.1 (of_decide_eq_true h)
    · have h : hasK kds (.inl (i : Int)) = false := h
      rw [hu i] at h
      refine ⟨_, aR hi, _, aI (by omega), fun e => nxt fun z => z.2 e, fun ne => ?_⟩
      have := find_first (p := fun k => decide (k ∉ us ∧ at2 es k c ≠ 0)) hi (decide_eq_true ⟨of_decide_eq_false h, ne⟩) ha
      have this : freeL es us c = some i := this
      rw [this] at hk
      exact hk
  · obtain ⟨rfl, ha⟩ := hI
    rw [Int.toNat_natCast, List.length_map] at ha
    have : freeL es us c = none := find_no ha
    rw [this] at hk
    exact hk
/-- what an elimination asks for: no number gets too great -/
structure Elim (es : List (List Int)) (n L w : Nat) : Prop where
  wL : w ≤ L
  r : Rect es n L
  b0 : ∀ x ∈ es.flatten, Bd 8900 x
  b : ∀ c, c ≤ w → ∀ k, k < n → ∀ j, j < L → (at2 (elimN es c).1 k j).natAbs < 2 ^ 4400
theorem low_rect {es : List (List Int)} {n L : Nat} (R : Rect es n L) : Rect (es.map lowL) n L := by
  refine ⟨by rw [List.length_map]; exact R.rows, fun k hk => ?_⟩
  have hk' : k < es.length := by rw [R.rows]; exact hk
  have e : rowAt (es.map lowL) k = lowL (rowAt es k) := by
    show (es.map lowL).getD k [] = lowL (es.getD k [])
    rw [List.getD_eq_getElem?_getD, List.getElem?_map, List.getElem?_eq_getElem hk', List.getD_eq_getElem?_getD, List.getElem?_eq_getElem hk']; rfl
  rw [e, lowL_len]
  exact R.cols k hk
theorem free_lt {es : List (List Int)} {us : List Nat} {c a : Nat} (h : freeL es us c = some a) : a < es.length ∧ a ∉ us ∧ at2 es a c ≠ 0 := by
  have h1 := List.find?_some h
  have h2 := List.mem_range.mp (List.mem_of_find?_eq_some h)
  rw [decide_eq_true_eq] at h1
  exact ⟨h2, h1⟩
theorem elim_rect {es : List (List Int)} {n L : Nat} (R : Rect es n L) : ∀ c, Rect (elimN es c).1 n L
  | 0 => low_rect R
  | c + 1 => by
    have ih := elim_rect R c
    show Rect (stepL (elimN es c) c).1 n L
    unfold stepL
    cases h : freeL (elimN es c).1 ((elimN es c).2.map (·.1)) c with
    | none => exact ih
    | some a => exact clear_rect (neg_rect ih (by rw [← ih.rows]; exact (free_lt h).1))
theorem elim_few {es : List (List Int)} : ∀ c, (elimN es c).2.length ≤ c
  | 0 => Nat.le_refl _
  | c + 1 => by
    have ih := elim_few (es := es) c
    show (stepL (elimN es c) c).2.length ≤ _
    unfold stepL
    cases h : freeL (elimN es c).1 ((elimN es c).2.map (·.1)) c with
    | none => exact Nat.le_succ_of_le ih
    | some a => show (_ ++ [_]).length ≤ _; rw [List.length_append]; exact Nat.succ_le_succ ih
theorem neg_tame {es : List (List Int)} {n L a c : Nat} (t : Tame es n L) (ha : a < n) : Tame (negL es a c) n L := ⟨neg_rect t.r ha, fun k hk j hj => by
  show ((rowAt (negL es a c) k).getD j 0).natAbs < _
  rw [neg_row t.r ha]
  split
  · rename_i h
    rw [getD_neg, Int.natAbs_neg]
    exact t.b a ha j hj
  · exact t.b k hk j hj⟩
theorem flat_row {es : List (List Int)} {r : List Int} (h : r ∈ es) {x : Int} (hx : x ∈ r) : x ∈ es.flatten := List.mem_flatten.mpr ⟨r, h, hx⟩
def elimI (st : Stt) (c : Nat) (δ : List S) : Prop := ∃ kds, UsD kds (st.2.map (·.1)) ∧ kds.length ≤ c ∧ δ = [.ow (.lst (st.1.map (rD true))), .no, .no, .ow (.dic kds), .ow (.lst (st.2.map fun p => .sq false [.int (p.1 : Int), .int (p.2 : Int)])), .no, .no, .no]
def T_elim : DSp := fun ds kk _ => ∃ (es : List (List Int)) (n L w : Nat), ds = [esD es, .int (w : Int)] ∧ Elim es n L w ∧ n ≤ 1000 ∧ L ≤ 1000 ∧ kk (.sh (.sq false [esD (elimN es w).1, pvD (elimN es w).2]))
theorem w_elim : Deep [T_lowest, T_free, T_cleared] N_eliminated b_eliminated T_elim := by
  rintro _ kk xx ⟨es, n, L, w, rfl, E, hn, hL, hk⟩
  have el := E.r.rows
  refine lcw (rD true) (fun r => rD true (lowL r)) (by omega) (fun r hr => ?_) ?_
  · obtain ⟨k, hk, rfl⟩ := List.mem_iff_getElem.mp hr
    have lk := E.r.cols k (by omega)
    have e : rowAt es k = es[k] := by show es.getD k [] = _; rw [List.getD_eq_getElem?_getD, List.getElem?_eq_getElem hk]; rfl
    rw [e] at lk
    exact ⟨true, _, rfl, by omega, fun x hx => E.b0 x (flat_row (List.getElem_mem hk) hx), rfl⟩
  have e0 : es.map (fun r => rD true (lowL r)) = (elimN es 0).1.map (rD true) := by show _ = (es.map lowL).map (rD true); rw [List.map_map]; rfl
  rw [e0]
  have rr := fun c => elim_rect E.r c
  have tm : ∀ c, c ≤ w → Tame (elimN es c).1 n L := fun c hc => ⟨rr c, E.b c hc⟩
  have wl := E.wL
  refine ⟨by omega, fun c δ => elimI (elimN es c) c δ, ⟨[], fun k => rfl, Nat.le_refl _, rfl⟩, fun c δ1 hi hI => ?_, fun δ1 hI => ?_⟩
  · rw [Int.toNat_natCast] at hi
    obtain ⟨kds, hu, hl, rfl⟩ := hI
    have few := elim_few (es := es) c
    have t := tm c (by omega)
    have Rc := t.r
    have step : elimN es (c + 1) = stepL (elimN es c) c := rfl
    generalize elimN es c = st at *
    obtain ⟨ec, P⟩ := st
    unfold stepL at step
    have step : elimN es (c + 1) = (match freeL ec (P.map (·.1)) c with | none => (ec, P) | some a => (clearL (negL ec a c) a c, P ++ [(a, c)])) := step
    refine ⟨ec, kds, P.map (·.1), n, L, c, rfl, hu, Rc, by omega, hn, ?_⟩
    cases hf : freeL ec (P.map (·.1)) c with
    | none =>
      rw [hf] at step
      refine keep_safe (show FlatN .non from .flat trivial) ?_
      show elimI (elimN es (c + 1)) (c + 1) _
      rw [step]
      exact ⟨kds, hu, Nat.le_succ_of_le hl, rfl⟩
    | some a =>
      rw [hf] at step
      refine keep_safe (show FlatN (.int (a : Int)) from .flat trivial) ?_
      have ecl : ec.length = n := Rc.rows
      obtain ⟨f1, f2, f3⟩ := free_lt hf
      have la := Rc.cols a (by omega)
      refine join (fun δ => δ = [.ow (.lst ((negL ec a c).map (rD true))), .no, .no, .ow (.dic kds), .ow (.lst (P.map fun p => .sq false [.int (p.1 : Int), .int (p.2 : Int)])), .sh (.int (c : Int)), .sh (.int (a : Int)), .no]) ?_ fun δ hδ => ?_
      · refine ⟨_, aR f1, _, aI (by omega), fun h => ?_, fun h => ?_⟩
        · have h : at2 ec a c < 0 := h
          refine ⟨_, aR f1, lcw .int (fun x => .int (-x)) (by omega) (fun x _ => rfl) ?_⟩
          have e : (rowAt ec a).map (fun x => D.int (-x)) = ((rowAt ec a).map fun x => -x).map .int := by rw [List.map_map]; rfl
          rw [e]
          refine keep_safe (fun d hd => by obtain ⟨x, _, rfl⟩ := List.mem_map.mp hd; exact .flat trivial) ?_
          refine ⟨a, rfl, by rw [List.length_map]; exact f1, ?_⟩
          have e2 : (ec.map (rD true)).set a (rD true ((rowAt ec a).map fun x => -x)) = (negL ec a c).map (rD true) := by
            unfold negL
            rw [if_pos h, List.map_set]
          show [S.ow (.lst ((ec.map (rD true)).set a (rD true ((rowAt ec a).map fun x => -x)))), S.no, .no, .ow (.dic kds), _, _, _, S.no] = _
          rw [e2]
          rfl
        · have h : ¬ at2 ec a c < 0 := h
          have e2 : negL ec a c = ec := by unfold negL; rw [if_neg h]
          rw [e2]
          rfl
      · subst hδ
        have t2 := neg_tame (c := c) t (by omega : a < n)
        refine ⟨negL ec a c, n, L, a, c, rfl, t2, by omega, by omega, hn, hL, keep_lend ?_⟩
        refine ⟨Nat.lt_of_le_of_lt hl (by omega), by rw [List.length_map]; have few : P.length ≤ c := few; omega, ?_⟩
        show elimI (elimN es (c + 1)) (c + 1) _
        rw [step]
        refine ⟨putKD kds (.inl (a : Int)) (.bl true), by
          show UsD _ ((P ++ [(a, c)]).map (·.1))
          rw [List.map_append]
          exact UsD.put hu, Nat.le_trans put_len (by omega), ?_⟩
        show _ = [_, _, _, _, S.ow (.lst ((P ++ [(a, c)]).map _)), _, _, _]
        rw [List.map_append]
        rfl
  · rw [Int.toNat_natCast] at hI
    obtain ⟨kds, hu, hl, rfl⟩ := hI
    exact hk
end K00
set_option Elab.async false
set_option linter.all false
set_option maxRecDepth 100000
set_option maxHeartbeats 4000000
set_option pp.maxSteps 800
set_option exponentiation.threshold 50000
/-! k02: bar_of, Solution, solved. -/
namespace K00
open PySem PySem.Spec PyProof.Rows L2 DL EL
theorem cutFrom {ds : List D} {n : Nat} : DL.cutD ds (some (n : Int)) none = ds.drop n := by
  unfold DL.cutD
  rw [HT.sIx_none, HT.sIx_nat]
  have e : ds.drop (min n ds.length) = ds.drop n := by
    by_cases h : n ≤ ds.length
    · rw [Nat.min_eq_left h]
    · rw [Nat.min_eq_right (by omega), List.drop_of_length_le (Nat.le_refl _), List.drop_of_length_le (by omega)]
  rw [e]
  exact List.take_of_length_le (by rw [List.length_drop]; omega)
theorem ixNat {l : Bool} {ds : List D} {n : Nat} {d : D} {k : D → Prop} (h : ds[n]? = some d) (q : k d) : ixN' (.sq l ds) n k := by
  show match ds[n]? with | some d => k d | none => False
  rw [h]; exact q
theorem usD_fold {P : List (Nat × Nat)} : ∀ n, n ≤ P.length → UsD ((List.range n).foldl (fun kds j => putKD kds (.inl (((P.getD j (0, 0)).1 : Nat) : Int)) (.bl true)) []) ((P.take n).map (·.1))
  | 0, _ => fun k => rfl
  | n + 1, h => by
    have ih := usD_fold (P := P) n (by omega)
    rw [List.range_succ, List.foldl_append, List.take_succ_eq_append_getElem (by omega), List.map_append]
    have e : P.getD n (0, 0) = P[n] := by rw [List.getD_eq_getElem?_getD, List.getElem?_eq_getElem (by omega)]; rfl
    show UsD (putKD _ (.inl (((P.getD n (0, 0)).1 : Nat) : Int)) _) _
    rw [e]
    exact ih.put
theorem gP {P : List (Nat × Nat)} {i : Nat} (h : i < P.length) : (P.map fun p => D.sq false [.int (p.1 : Int), .int (p.2 : Int)]).getD i .non = .sq false [.int ((P.getD i (0, 0)).1 : Int), .int ((P.getD i (0, 0)).2 : Int)] := by
  rw [List.getD_eq_getElem?_getD, List.getElem?_map, List.getElem?_eq_getElem h, List.getD_eq_getElem?_getD, List.getElem?_eq_getElem h]; rfl
def T_bar_of : DSp := fun ds kk _ => ∃ (l : Bool) (es : List (List Int)) (P : List (Nat × Nat)) (n L w : Nat), ds = [esD es, .sq l (P.map fun p => .sq false [.int (p.1 : Int), .int (p.2 : Int)]), .int (w : Int)] ∧ Tame es n L ∧ w < L ∧ n ≤ 1000 ∧ L ≤ 1000 ∧ P.length ≤ 1000 ∧ kk (.sh (match barL es (P.map (·.1)) w with | some bar => .sq false (bar.map .int) | none => .non))
theorem w_bar_of : Deep [T_lowest] N_bar_of b_bar_of T_bar_of := by
  rintro _ kk xx ⟨l, es, P, n, L, w, rfl, t, hw, hn, hL, hP, hk⟩
  have el := t.r.rows
  refine ⟨fun j => [.int ((P.getD j (0, 0)).1 : Int), .int ((P.getD j (0, 0)).2 : Int)], fun j => ((P.getD j (0, 0)).1 : Int), ⟨by rw [List.length_map]; omega, fun k hk => by
    show k < 10
    rcases List.mem_cons.mp hk with rfl | hk
    · decide
    · rw [List.mem_singleton.mp hk]; decide⟩, fun j hj => ⟨⟨false, gP (by rw [List.length_map] at hj; exact hj)⟩, rfl, rfl⟩, ?_⟩
  rw [List.length_map]
  have hu := usD_fold (P := P) P.length (Nat.le_refl _)
  rw [List.take_length] at hu
  generalize ((List.range P.length).foldl (fun kds j => putKD kds (.inl (((P.getD j (0, 0)).1 : Nat) : Int)) (.bl true)) []) = kds at *
  refine ⟨by rw [List.length_map]; omega, fun i δ => δ = [.sh (esD es), .no, .sh (.int (w : Int)), .no, .no, .sh (.dic kds), .no, .no, .no, .no] ∧ ∀ j, j < i → decide (j ∉ P.map (·.1) ∧ at2 es j w ≠ 0) = false, ⟨rfl, fun j hj => absurd hj (Nat.not_lt_zero j)⟩, fun i δ1 hi hI => ?_, fun δ1 hI => ?_⟩
  · obtain ⟨rfl, ha⟩ := hI
    rw [Int.toNat_natCast, List.length_map] at hi
    have li := t.r.cols i (by omega)
    have nxt : ¬ (i ∉ P.map (·.1) ∧ at2 es i w ≠ 0) → ([S.sh (esD es), .no, .sh (.int (w : Int)), .no, .no, .sh (.dic kds), .no, .no, .no, .no] = [S.sh (esD es), .no, .sh (.int (w : Int)), .no, .no, .sh (.dic kds), .no, .no, .no, .no] ∧ ∀ j, j < i + 1 → decide (j ∉ P.map (·.1) ∧ at2 es j w ≠ 0) = false) := fun h => ⟨rfl, fun j hj => by
      rcases Nat.lt_succ_iff_lt_or_eq.mp hj with q | q
      · exact ha j q
      · rw [q]; exact decide_eq_false h⟩
    refine ⟨_, aR hi, _, aI (by omega), fun h => ?_, fun h => ?_⟩
    · have h : hasK kds (.inl (i : Int)) = true := h
      rw [hu i] at h
      exact nxt fun z => z.1 (of_decide_eq_true h)
    · have h : hasK kds (.inl (i : Int)) = false := h
      rw [hu i] at h
      refine ⟨fun e => nxt fun z => z.2 e, fun ne => ?_⟩
      have hf : freeL es (P.map (·.1)) w = some i := find_first (n := es.length) (p := fun k => decide (k ∉ P.map (fun x : Nat × Nat => x.1) ∧ at2 es k w ≠ 0)) hi (decide_eq_true ⟨of_decide_eq_false h, ne⟩) ha
      unfold barL at hk
      rw [hf] at hk
      refine ⟨_, aR hi, ?_⟩
      show CallW T_lowest [.sq true (DL.cutD ((rowAt es i).map .int) (some ((w : Int) + 1)) none)] _ _
      have ec : DL.cutD ((rowAt es i).map D.int) (some ((w : Int) + 1)) none = ((rowAt es i).drop (w + 1)).map .int := by
        have : (w : Int) + 1 = ((w + 1 : Nat) : Int) := by omega
        rw [this, cutFrom, List.map_drop]
      rw [ec]
      refine ⟨true, _, rfl, by rw [List.length_drop]; omega, fun x hx => (t.mem (by omega : i < n) x (List.mem_of_mem_drop hx)).le (by decide), ?_⟩
      refine ⟨fun hl => ?_, fun hl => ?_⟩
      · have hl : at2 es i w < 0 := hl
        have hk : kk (.sh (.sq false ((if at2 es i w < 0 then (lowL ((rowAt es i).drop (w + 1))).map (fun x => -x) else lowL ((rowAt es i).drop (w + 1))).map .int))) := hk
        rw [if_pos hl] at hk
        refine lcw .int (fun x => .int (-x)) (by rw [lowL_len, List.length_drop]; omega) (fun x _ => rfl) ?_
        have e : (lowL ((rowAt es i).drop (w + 1))).map (fun x => D.int (-x)) = ((lowL ((rowAt es i).drop (w + 1))).map fun x => -x).map .int := by rw [List.map_map]; rfl
        show kk (.sh (.sq false ((lowL ((rowAt es i).drop (w + 1))).map fun x => D.int (-x))))
        rw [e]
        exact hk
      · have hl : ¬ at2 es i w < 0 := hl
        have hk : kk (.sh (.sq false ((if at2 es i w < 0 then (lowL ((rowAt es i).drop (w + 1))).map (fun x => -x) else lowL ((rowAt es i).drop (w + 1))).map .int))) := hk
        rw [if_neg hl] at hk
        exact hk
  · obtain ⟨rfl, ha⟩ := hI
    rw [Int.toNat_natCast, List.length_map] at ha
    have hf : freeL es (P.map (·.1)) w = none := find_no ha
    unfold barL at hk
    rw [hf] at hk
    exact hk
def ksSolution : List Str := ["point", "bar"]
abbrev solI (CS : Addr) (p b : D) : D := .ins CS [("point", p), ("bar", b)]
def T_Solution (CS : Addr) : DSp := fun ds kk _ => ∃ p b : D, ds = [p, b] ∧ kk (.sh (solI CS p b))
theorem w_Solution (CS : Addr) : DeepI [] N_Solution___init__ b_Solution___init__ CS ksSolution (T_Solution CS) := by
  rintro a _ kk xx ⟨p, b, rfl, hk⟩
  exact ⟨⟨rfl, rfl⟩, ⟨rfl, rfl⟩, _, rfl, hk⟩
def solD (CS : Addr) : Sum (List Int) (List Int × Int) → D
  | .inl bar => solI CS .non (.sq false (bar.map .int))
  | .inr x => solI CS (rw_ false false x.1 x.2) .non
theorem repI (n : Nat) (x : Int) : (List.replicate n [D.int x]).flatten = (List.replicate n x).map D.int := by
  induction n with
  | zero => rfl
  | succ n ih => rw [List.replicate_succ, List.flatten_cons, ih]; rfl
theorem repP (n : Nat) (d : D) : (List.replicate n [d]).flatten = List.replicate n d := by
  induction n with
  | zero => rfl
  | succ n ih => rw [List.replicate_succ, List.flatten_cons, ih]; rfl
theorem _root_.EL.Nice.low {T : List (List Int)} {b : List Int} {n w bb h r0 : Nat} (N : Nice T b n w bb h r0) (hn : 0 < n) : 2 ^ (bb + h) < 2 ^ 4400 := by
  refine Nat.lt_of_le_of_lt ?_ N.sz
  refine Nat.le_trans (Nat.le_mul_of_pos_left _ (Nat.mul_pos (Nat.pow_pos (Nat.succ_pos w)) (p2 _) : 0 < QQ w bb h)) (Nat.le_mul_of_pos_left _ hn)
theorem _root_.EL.Nice.elim {T : List (List Int)} {b : List Int} {n w bb h r0 : Nat} (N : Nice T b n w bb h r0) (hn : 0 < n) : Elim (augL T b) n (w + 1 + n) w := by
  have R : Rect (augL T b) n (w + 1 + n) := by
    have := aug_rect (T := T) (b := b) (w := w) (by rw [N.n1]; exact N.n3)
    rw [N.n1] at this
    exact this
  refine ⟨by omega, R, fun x hx => ?_, fun c hc k hk j hj => N.bd hc hk hj⟩
  obtain ⟨r, hr, hx⟩ := List.mem_flatten.mp hx
  obtain ⟨k, hk, rfl⟩ := List.mem_iff_getElem.mp hr
  obtain ⟨j, hj, rfl⟩ := List.mem_iff_getElem.mp hx
  have hk' : k < n := by rw [← R.rows]; exact hk
  have er : rowAt (augL T b) k = (augL T b)[k] := by show (augL T b).getD k [] = _; rw [List.getD_eq_getElem?_getD, List.getElem?_eq_getElem hk]; rfl
  have lk := R.cols k hk'
  rw [er] at lk
  have := N.aug hk' (j := j) (by omega)
  have e2 : at2 (augL T b) k j = (augL T b)[k][j] := by
    show (rowAt (augL T b) k).getD j 0 = _
    rw [er, List.getD_eq_getElem?_getD, List.getElem?_eq_getElem hj]; rfl
  rw [e2] at this
  exact (show Bd 4400 _ from Nat.lt_of_le_of_lt this (N.low hn)).le (by decide)
theorem aug_data {T : List (List Int)} {b : List Int} {k : Nat} (hk : k < T.length) (hb : b.length = T.length) : ((rowAt T k).map D.int ++ [D.int (b.getD k 0)]) ++ ((List.replicate T.length [D.int 0]).flatten.set k (.int 1)) = (rowAt (augL T b) k).map .int := by
  rw [aug_row hk, repI, List.map_append, List.map_append]
  unfold EL.markL
  rw [List.map_set]; rfl
theorem aug_take {T : List (List Int)} {b : List Int} {k : Nat} (hk : k < T.length) : ((augL T b).take k).map (rD true) ++ [rD true (rowAt (augL T b) k)] = ((augL T b).take (k + 1)).map (rD true) := by
  have hl : k < (augL T b).length := by unfold augL; rw [List.length_map, List.length_range]; exact hk
  rw [List.take_succ_eq_append_getElem hl, List.map_append]
  have er : rowAt (augL T b) k = (augL T b)[k] := by show (augL T b).getD k [] = _; rw [List.getD_eq_getElem?_getD, List.getElem?_eq_getElem hl]; rfl
  rw [er]; rfl
def T_solved (CS : Addr) : DSp := fun ds kk _ => ∃ (l g h : Bool) (T : List (List Int)) (b : List Int) (n w bb hh r0 : Nat), ds = [.sq l (T.map (rD g)), .sq h (b.map .int)] ∧ Nice T b n w bb hh r0 ∧ 0 < n ∧ n ≤ 200 ∧ w ≤ 200 ∧ kk (.sh (solD CS (solL T b w)))
theorem w_solved (CS : Addr) : Deep [T_elim, T_bar_of, T_Solution CS, T_ratio, T_row_of] N_solved b_solved (T_solved CS) := by
  rintro _ kk xx ⟨l, g, hf, T, b, n, w, bb, hh, r0, rfl, N, hn, hn2, hw2, hk⟩
  have n1 := N.n1
  have n2 := N.n2
  have n3 := N.n3
  have hNn : (T.map (rD g)).length = n := by rw [List.length_map]; exact n1
  have h0 : 0 < T.length := by omega
  have hT0 : (T.map (rD g))[0]? = some (rD g (rowAt T 0)) := by
    rw [List.getElem?_map, List.getElem?_eq_getElem h0]
    show some (rD g T[0]) = some (rD g (T.getD 0 []))
    rw [List.getD_eq_getElem?_getD, List.getElem?_eq_getElem h0]; rfl
  refine ixNat (l := l) hT0 ?_
  have hW : ((rowAt T 0).map D.int).length = w := by rw [List.length_map]; exact n3 0 hn
  have elm := N.elim hn
  refine ⟨by omega, fun i δ => δ = [.sh (.sq l (T.map (rD g))), .sh (.sq hf (b.map .int)), .sh (.int (w : Int)), .sh (.int (n : Int)), .ow (.lst (((augL T b).take i).map (rD true))), .no, .no, .no, .no, .no, .no, .no], ?_, fun i δ1 hi hI => ?_, fun δ1 hI => ?_⟩
  · show [_, _, S.sh (.int ((((rowAt T 0).map D.int).length : Nat) : Int)), S.sh (.int (((T.map (rD g)).length : Nat) : Int)), _, _, _, _, _, _, _, _] = _
    rw [hW, hNn]
    rfl
  · subst hI
    rw [hNn, Int.toNat_natCast] at hi
    have hiT : i < T.length := by omega
    refine ⟨⟨by omega, by omega, by rw [Int.toNat_natCast]; show 1 * n ≤ _; omega⟩, ?_⟩
    have rl : (List.replicate ((n : Int)).toNat [D.int 0]).flatten.length = n := by rw [repI, Int.toNat_natCast, List.length_map, List.length_replicate]
    refine ⟨i, rfl, by show i < (List.replicate ((n : Int)).toNat [D.int 0]).flatten.length; rw [rl]; exact hi, ?_⟩
    refine ⟨_, aR hiT, _, aI (by omega), ?_⟩
    have li : (rowAt T i).length = w := n3 i hi
    refine ⟨by rw [List.length_map, li]; show w + 1 ≤ _; omega, ?_⟩
    refine ⟨by rw [List.length_append, List.length_map, li, List.length_set]; show w + 1 + (List.replicate ((n : Int)).toNat [D.int 0]).flatten.length ≤ _; rw [rl]; omega, ?_⟩
    have ed : ((rowAt T i).map D.int ++ [D.int (b.getD i 0)]) ++ ((List.replicate ((n : Int)).toNat [D.int 0]).flatten.set i (.int 1)) = (rowAt (augL T b) i).map .int := by
      rw [Int.toNat_natCast, ← n1]
      exact aug_data hiT (by omega)
    refine keep_safe (r := .ow (.lst (((rowAt T i).map D.int ++ [D.int (b.getD i 0)]) ++ ((List.replicate ((n : Int)).toNat [D.int 0]).flatten.set i (.int 1))))) (show ∀ d ∈ _, FlatN d from fun d hd => by
      rw [ed] at hd
      obtain ⟨x, _, rfl⟩ := List.mem_map.mp hd
      exact .flat trivial) ?_
    refine ⟨by rw [List.length_map, List.length_take]; unfold augL; rw [List.length_map, List.length_range]; omega, ?_⟩
    show [_, _, _, _, S.ow (.lst (((augL T b).take i).map (rD true) ++ [D.sq true (((rowAt T i).map D.int ++ [D.int (b.getD i 0)]) ++ ((List.replicate ((n : Int)).toNat [D.int 0]).flatten.set i (.int 1)))])), S.no, _, _, _, _, _, _] = _
    rw [ed, ← aug_take hiT]
  · subst hI
    rw [hNn, Int.toNat_natCast]
    have ea : (augL T b).take n = augL T b := List.take_of_length_le (by unfold augL; rw [List.length_map, List.length_range]; omega)
    rw [ea]
    refine ⟨augL T b, n, w + 1 + n, w, rfl, elm, by omega, by omega, keep_lend ?_⟩
    have I := N.inv (Nat.le_refl w)
    have hS : solL T b w = (match barL (elimN (augL T b) w).1 ((elimN (augL T b) w).2.map (·.1)) w with | some bar => .inl bar | none => .inr (pointL (elimN (augL T b) w) w)) := rfl
    have few := I.few
    have tm : Tame (elimN (augL T b) w).1 n (w + 1 + n) := ⟨I.rect, fun k hk j hj => N.bd (Nat.le_refl w) hk hj⟩
    have PT := N.pt_ok hn
    rw [hS] at hk
    clear hS
    unfold pointL at hk
    have s := I.sv
    generalize elimN (augL T b) w = st at *
    obtain ⟨es, P⟩ := st
    refine ⟨true, es, P, n, w + 1 + n, w, rfl, tm, by omega, by omega, by omega, by have : P.length ≤ w := few; omega, keep_lend ?_⟩
    cases hb : barL es (P.map (·.1)) w with
    | some bar =>
      have hk : kk (.sh (solD CS (match barL es (P.map (·.1)) w with | some bar => .inl bar | none => .inr _))) := hk
      rw [hb] at hk
      exact ⟨_, _, rfl, hk⟩
    | none =>
      have hk : kk (.sh (solD CS (match barL es (P.map (·.1)) w with | some bar => .inl bar | none => .inr (rowOfF (ptsL es w P (List.replicate w (0, 1))))))) := hk
      rw [hb] at hk
      have PT := (PT hb).2
      have PT : ∀ p ∈ ptsL es w P (List.replicate w (0, 1)), _ := PT
      have el : es.length = n := tm.r.rows
      refine ⟨⟨by omega, by omega, by rw [Int.toNat_natCast]; show 1 * w ≤ _; omega⟩, ?_⟩
      refine ⟨fun i δ => δ = [.no, .no, .sh (.int (w : Int)), .no, .sh (esD es), .no, .no, .no, .no, .ow (.lst ((ptsL es w (P.take i) (List.replicate w (0, 1))).map fun p => pr false p.1 p.2)), .no, .no], ?_, fun i δ1 hi hI => ?_, fun δ1 hI => ?_⟩
      · show [S.no, .no, .sh (.int (w : Int)), .no, .sh (esD es), .no, .no, .no, .no, .ow (.lst (List.replicate ((w : Int)).toNat [pr false 0 1]).flatten), .no, .no] = _
        rw [repP, Int.toNat_natCast]
        show _ = [S.no, .no, .sh (.int (w : Int)), .no, .sh (esD es), .no, .no, .no, .no, .ow (.lst ((List.replicate w ((0 : Int), (1 : Int))).map fun p => pr false p.1 p.2)), .no, .no]
        rw [List.map_replicate]
      · subst hI
        rw [List.length_map] at hi
        have eP : P.getD i (0, 0) = P[i] := by rw [List.getD_eq_getElem?_getD, List.getElem?_eq_getElem hi]; rfl
        obtain ⟨q1, q2, q3, q4⟩ := s.piv P[i] (List.getElem_mem hi)
        have q5 : P[i].2 < w := q2
        have lr : (rowAt es P[i].1).length = w + 1 + n := tm.r.cols _ q1
        have hlen : ((ptsL es w (P.take i) (List.replicate w (0, 1))).map fun p => pr false p.1 p.2).length = w := by
          rw [List.length_map]
          have : ∀ (Q : List (Nat × Nat)) (l : List (Int × Int)), (ptsL es w Q l).length = l.length := by
            intro Q
            induction Q with
            | nil => intro l; rfl
            | cons q Q ih => intro l; show (ptsL es w Q (l.set _ _)).length = _; rw [ih, List.length_set]
          rw [this, List.length_replicate]
        refine deq (P := fun d => wpt (.tup [10, 11]) d _ _) (gP hi) ?_
        rw [eP]
        refine ⟨_, aR (by omega), _, aI (by omega), _, aR (by omega), _, aI (by omega), ?_⟩
        refine ⟨_, _, rfl, q3, (show Bd 4400 _ from tm.b _ q1 _ (by omega)).le (by decide), keep_lend ?_⟩
        refine ⟨P[i].2, rfl, by rw [hlen]; exact q5, ?_⟩
        show [S.no, .no, .sh (.int (w : Int)), .no, .sh (esD es), .no, .no, .no, .no, .ow (.lst (((ptsL es w (P.take i) (List.replicate w (0, 1))).map fun p => pr false p.1 p.2).set P[i].2 (pr false (ratF (at2 es P[i].1 w) (at2 es P[i].1 P[i].2)).1 (ratF (at2 es P[i].1 w) (at2 es P[i].1 P[i].2)).2))), .no, .no] = _
        have en : ptsL es w (P.take (i + 1)) (List.replicate w (0, 1)) = (ptsL es w (P.take i) (List.replicate w (0, 1))).set P[i].2 (ratF (at2 es P[i].1 w) (at2 es P[i].1 P[i].2)) := by
          unfold ptsL
          rw [List.take_succ_eq_append_getElem hi, List.foldl_append]; rfl
        rw [en, List.map_set]
      · subst hI
        rw [List.length_map, List.take_length]
        have hlen : (ptsL es w P (List.replicate w (0, 1))).length = w := by
          rw [(pts_at (E := es) (w := w) (l := List.replicate w ((0 : Int), (1 : Int))) s.cols fun p hp => by rw [List.length_replicate]; exact (s.piv p hp).2.1).1, List.length_replicate]
        exact ⟨true, ptsL es w P (List.replicate w (0, 1)), rfl, by omega, PT, _, _, rfl, hk⟩
end K00
set_option Elab.async false
set_option linter.all false
set_option maxRecDepth 100000
set_option maxHeartbeats 4000000
set_option pp.maxSteps 800
set_option exponentiation.threshold 50000
/-! k02: the law's drawn tables. -/
namespace K00
open PySem PySem.Spec PyProof.Rows L2 DL EL
/-! _law_numbers(cell, many, most): slots cell=0 many=1 most=2 found=3 rest=4 k=5 size=6 parts=7 menu=8 number=9; calls _law_digits/2 -/
def N__law_numbers : List Str := ["cell", "many", "most", "found", "rest", "k", "size", "parts", "menu", "number"]
def fs__law_numbers : List Fk := ["_law_digits"]
def b__law_numbers : Xb := (.cons (.set 3 true [] (.lst .nil))
 (.cons (.set 4 false [] (.bi .int (.cons (.var 0) .nil)))
 (.cons (.ite [] (.cmp .ge (.var 4) (.bin .pow (.int 10) (.int 18))) (.cons (.set 4 false [] (.bin .sub (.var 4) (.bin .pow (.int 10) (.int 18))))
 (.cons (.for_ [0, 1, 5, 6, 7, 8, 9] [] (.nm 5) (.rng (.var 1)) (.cons (.set 6 false [] (.bin .mod (.bi .int (.cons (.var 4) .nil)) (.bin .add (.bin .mul (.int 2) (.var 2)) (.int 1))))
 (.cons (.app 3 [] (.itu (.cmp .eq (.bin .mod (.bi .int (.cons (.var 6) .nil)) (.int 2)) (.int 1)) (.bin .add (.bin .div (.var 6) (.int 2)) (.int 1)) (.neg (.bin .div (.var 6) (.int 2)))))
 (.cons (.set 4 false [] (.bin .div (.bi .int (.cons (.var 4) .nil)) (.bin .add (.bin .mul (.int 2) (.var 2)) (.int 1))))
 .nil))))
 (.cons (.retO 3)
 .nil))) .nil)
 (.cons (.set 7 false [] (.call 0 (.cons (.var 4) (.cons (.bin .add (.lst (.cons (.int 4) .nil)) (.rep (.lst (.cons (.int 1000003) .nil)) (.var 1))) .nil))))
 (.cons (.for_ [0, 1, 4, 5, 6, 8, 9] [] (.nm 5) (.rng (.var 1)) (.cons (.set 6 false [] (.ix (.var 7) (.bin .add (.int 1) (.var 5))))
 (.cons (.set 8 false [] (.lst (.cons (.ix (.lst (.cons (.int 0) (.cons (.int 0) (.cons (.int 1) (.cons (.int 0) (.cons (.neg (.int 1)) (.cons (.int 0) (.cons (.int 2) .nil)))))))) (.bin .mod (.bi .int (.cons (.var 6) .nil)) (.int 7))) (.cons (.bin .sub (.bin .mod (.bi .int (.cons (.var 6) .nil)) (.int 9)) (.int 4)) (.cons (.ix (.lst (.cons (.int 0) (.cons (.int 1) (.cons (.int 0) (.cons (.int 2) (.cons (.neg (.int 1)) (.cons (.int 3) (.cons (.int 0) (.cons (.int 5) (.cons (.neg (.int 2)) .nil)))))))))) (.bin .mod (.bi .int (.cons (.var 6) .nil)) (.int 9))) .nil)))))
 (.cons (.set 8 false [] (.bin .add (.var 8) (.lst (.cons (.bin .sub (.bin .mod (.bi .int (.cons (.var 6) .nil)) (.int 2001)) (.int 1000)) .nil))))
 (.cons (.set 9 false [] (.ix (.var 8) (.ixn (.var 7) 0)))
 (.cons (.app 3 [] (.itu (.cmp .gt (.var 2) (.bin .pow (.int 10) (.int 6))) (.bin .mul (.bin .mul (.var 9) (.bin .pow (.int 10) (.int 50))) (.bin .add (.bin .pow (.int 10) (.int 40)) (.var 6))) (.var 9)))
 .nil))))))
 (.cons (.retO 3)
 .nil))))))
/-! _law_band(cell, many, width): slots cell=0 many=1 width=2 parts=3 base=4 k=5 mine=6 at=7; calls _law_digits/2 -/
def N__law_band : List Str := ["cell", "many", "width", "parts", "base", "k", "mine", "at"]
def fs__law_band : List Fk := ["_law_digits"]
def b__law_band : Xb := (.cons (.set 3 false [] (.call 0 (.cons (.var 0) (.cons (.bin .add (.lst (.cons (.var 2) .nil)) (.rep (.lst (.cons (.int 5) (.cons (.int 6) .nil))) (.var 1))) .nil))))
 (.cons (.setT 4 (.e [] (.lst .nil)))
 (.cons (.for_ [0, 1, 5, 6, 7] [] (.nm 5) (.rng (.var 1)) (.cons (.set 6 true [] (.rep (.lst (.cons (.int 0) .nil)) (.var 2)))
 (.cons (.set 7 false [] (.bin .mod (.bi .int (.cons (.bin .add (.ixn (.var 3) 0) (.var 5)) .nil)) (.var 2)))
 (.cons (.sti 6 [] (.ix (.lst (.cons (.int 0) (.cons (.int 1) (.cons (.int 0) (.cons (.neg (.int 1)) (.cons (.int 0) (.cons (.int 2) .nil))))))) (.ix (.var 3) (.bin .add (.int 2) (.bin .mul (.int 2) (.var 5))))) (.bin .mod (.bi .int (.cons (.bin .add (.var 7) (.int 1)) .nil)) (.var 2)))
 (.cons (.sti 6 [] (.ix (.lst (.cons (.int 1) (.cons (.int 2) (.cons (.neg (.int 1)) (.cons (.int 1) (.cons (.int 3) .nil)))))) (.ix (.var 3) (.bin .add (.int 1) (.bin .mul (.int 2) (.var 5))))) (.var 7))
 (.cons (.appT 4 .nm (.mv 6))
 .nil))))))
 (.cons (.retO 4)
 .nil))))
/-! _law_equations(cell, base, many, width): slots cell=0 base=1 many=2 width=3 picks=4 mine=5 table=6 i=7 k=8 factor=9 chosen=10 j=11; calls _law_digits/2 -/
def N__law_equations : List Str := ["cell", "base", "many", "width", "picks", "mine", "table", "i", "k", "factor", "chosen", "j"]
def fs__law_equations : List Fk := ["_law_digits"]
def b__law_equations : Xb := (.cons (.set 4 false [] (.call 0 (.cons (.var 0) (.cons (.rep (.lst (.cons (.bi .max (.cons (.int 1) (.cons (.bi .len (.cons (.var 1) .nil)) .nil))) (.cons (.int 9) .nil))) (.bin .mul (.int 3) (.var 2))) .nil))))
 (.cons (.set 6 true [] (.lc 5 (.bi .list (.cons (.var 5) .nil)) (.sq (.var 1))))
 (.cons (.for_ [0, 2, 5, 7, 8, 9, 10, 11] [] (.nm 7) (.rng2 (.bi .len (.cons (.var 1) .nil)) (.var 2)) (.cons (.set 5 false [] (.rep (.lst (.cons (.int 0) .nil)) (.var 3)))
 (.cons (.for_ [0, 2, 8, 9, 10, 11] [] (.nm 8) (.rng (.int 3)) (.cons (.set 9 false [] (.ix (.lst (.cons (.int 0) (.cons (.int 1) (.cons (.int 0) (.cons (.int 2) (.cons (.neg (.int 1)) (.cons (.int 3) (.cons (.int 1) (.cons (.neg (.int 2)) (.cons (.int 12) .nil)))))))))) (.ix (.var 4) (.bin .add (.bin .add (.bin .mul (.int 6) (.var 7)) (.bin .mul (.int 2) (.var 8))) (.int 1)))))
 (.cons (.ite [] (.and (.cons (.cmp .gt (.bi .len (.cons (.var 1) .nil)) (.int 0)) (.cons (.cmp .ne (.var 9) (.int 0)) .nil))) (.cons (.set 10 false [] (.ix (.var 1) (.ix (.var 4) (.bin .add (.bin .mul (.int 6) (.var 7)) (.bin .mul (.int 2) (.var 8))))))
 (.cons (.set 5 false [] (.lc 11 (.bin .add (.ix (.var 5) (.var 11)) (.bin .mul (.var 9) (.ix (.var 10) (.var 11)))) (.rng (.var 3))))
 .nil)) .nil)
 .nil)))
 (.cons (.app 6 [] (.var 5))
 .nil))))
 (.cons (.retO 6)
 .nil))))
/-! _law_sum(one, two): slots one=0 two=1 j=2; calls  -/
def N__law_sum : List Str := ["one", "two", "j"]
def fs__law_sum : List Fk := []
def b__law_sum : Xb := (.cons (.ret [] (.bi .sum (.cons (.lc 2 (.bin .mul (.ix (.var 0) (.var 2)) (.ix (.var 1) (.var 2))) (.rng (.bi .len (.cons (.var 0) .nil)))) .nil)))
 .nil)
/-! _law_planted(table, tops, line): slots table=0 tops=1 line=2 held=3 mine=4 total=5 number=6; calls _law_sum/2 -/
def N__law_planted : List Str := ["table", "tops", "line", "held", "mine", "total", "number"]
def fs__law_planted : List Fk := ["_law_sum"]
def b__law_planted : Xb := (.cons (.setT 3 (.e [] (.lst .nil)))
 (.cons (.for_ [0, 4, 5, 6] [] (.nm 4) (.sq (.var 0)) (.cons (.set 5 false [] (.call 0 (.cons (.var 4) (.cons (.var 1) .nil))))
 (.cons (.ite [] (.cmp .eq (.bin .mod (.bi .int (.cons (.var 5) .nil)) (.var 2)) (.int 0)) (.cons (.appT 3 .nm (.lst (.cons (.e [] (.var 4)) (.cons (.e [] (.bin .div (.var 5) (.var 2))) .nil))))
 .nil) (.cons (.appT 3 .nm (.lst (.cons (.e [] (.lc 6 (.bin .mul (.var 2) (.var 6)) (.sq (.var 4)))) (.cons (.e [] (.var 5)) .nil))))
 .nil))
 .nil)))
 (.cons (.retO 3)
 .nil)))
theorem aZ {ns : List Int} {r : Int} (h0 : 0 ≤ r) (h1 : r < ns.length) : atI (ns.map D.int) r = some (.int (ns.getD r.toNat 0)) := by
  obtain ⟨j, rfl⟩ : ∃ j : Nat, r = j := ⟨r.toNat, by omega⟩
  rw [Int.toNat_natCast]
  exact aI (by omega)
theorem mZ {ns : List Int} {r : Int} {P : Int → Prop} (h : ∀ x ∈ ns, P x) (h0 : 0 ≤ r) (h1 : r < ns.length) : P (ns.getD r.toNat 0) := h _ (gmI (by omega))
theorem Digs.z {r sizes : List Int} {k : Int} {s : Int} (h : Digs r sizes) (h0 : 0 ≤ k) (h1 : sizes[k.toNat]? = some s) : k < r.length ∧ 0 ≤ r.getD k.toNat 0 ∧ r.getD k.toNat 0 < s := by
  have hi := (List.getElem?_eq_some_iff.mp h1).1
  have hl : k.toNat < r.length := by rw [h.1]; exact hi
  refine ⟨by omega, h.2 k.toNat _ s ?_ h1⟩
  rw [List.getD_eq_getElem?_getD, List.getElem?_eq_getElem hl]; rfl
theorem bd_le {x : Int} {M n : Nat} (h : x.natAbs ≤ M) (hM : M < 2 ^ n) : Bd n x := Nat.lt_of_le_of_lt h hM
/-! numbers -/
def T_numbers : DSp := fun ds kk _ => ∃ (c : Int) (many : Nat) (most : Int), ds = [.int c, .int (many : Int), .int most] ∧ many ≤ 1000 ∧ (most = 1000000 ∨ most = (10 : Int) ^ Int.toNat 50 * (10 : Int) ^ Int.toNat 50) ∧ ∀ xs : List Int, xs.length = many → (∀ x ∈ xs, x.natAbs ≤ most.natAbs + 1) → kk (.ow (.lst (xs.map .int)))
abbrev mA : List Int := [0, 0, 1, 0, -1, 0, 2]
abbrev mB : List Int := [0, 1, 0, 2, -1, 3, 0, 5, -2]
theorem w_numbers : Deep [T_digits] N__law_numbers b__law_numbers T_numbers := by
  rintro _ kk xx ⟨c, many, most, rfl, hm, hmost, hk⟩
  have m0 : 1000000 ≤ most := by
    rcases hmost with rfl | rfl
    · decide
    · decide +kernel
  have mb : Bd 340 most := by
    rcases hmost with rfl | rfl
    · unfold Bd; decide +kernel
    · unfold Bd; decide +kernel
  have mb2 : Bd 342 (2 * most + 1) := by
    have h : most.natAbs < 2 ^ 340 := mb
    show (2 * most + 1).natAbs < 2 ^ 342
    have e : (2 : Nat) ^ 342 = 4 * 2 ^ 340 := by rw [show 342 = 340 + 2 from rfl, Nat.pow_add, Nat.mul_comm]
    rw [e]
    omega
  refine ⟨⟨by decide, by decide, by decide⟩, fun hb => ?_, fun hb => ?_⟩
  · refine ⟨⟨by decide, by decide, by decide⟩, ⟨by omega, by omega⟩, fun i δ => ∃ (xs : List Int) (q : Int), xs.length = i ∧ (∀ x ∈ xs, x.natAbs ≤ most.natAbs + 1) ∧ δ = [.no, .no, .sh (.int most), .ow (.lst (xs.map .int)), .sh (.int q), .no, .no, .no, .no, .no], ⟨[], _, rfl, (fun x hx => nomatch hx), rfl⟩, fun i δ1 hi hI => ?_, fun δ1 hI => ?_⟩
    · obtain ⟨xs, q, hl, hx, rfl⟩ := hI
      rw [Int.toNat_natCast] at hi
      refine ⟨(show Bd 3 2 from by unfold Bd; decide).mulW mb (by decide), by omega, ?_⟩
      have s0 : 0 ≤ q % (2 * most + 1) := Int.emod_nonneg _ (by omega)
      have s1 : q % (2 * most + 1) < 2 * most + 1 := Int.emod_lt_of_pos _ (by omega)
      generalize q % (2 * most + 1) = size at *
      have key : ∀ x : Int, x.natAbs ≤ most.natAbs + 1 → (xs.map D.int).length < 100000 ∧ CMulW 2 most ∧ ((CDivW q (2 * most + 1) ∧ ∃ (xs' : List Int) (q' : Int), xs'.length = i + 1 ∧ (∀ x ∈ xs', x.natAbs ≤ most.natAbs + 1) ∧ [S.no, S.no, .sh (.int most), .ow (.lst (xs.map .int ++ [D.int x])), .sh (.int (q / (2 * most + 1))), .no, .no, .no, .no, .no] = [S.no, S.no, .sh (.int most), .ow (.lst (xs'.map .int)), .sh (.int q'), .no, .no, .no, .no, .no]) ∨ (CDivX q (2 * most + 1) ∧ ∃ (xs' : List Int) (q' : Int), xs'.length = i + 1 ∧ (∀ x ∈ xs', x.natAbs ≤ most.natAbs + 1) ∧ [S.no, S.no, .sh (.int most), .ow (.lst (xs.map .int ++ [D.int x])), .sh (.int (q.fdiv (2 * most + 1))), .no, .no, .no, .no, .no] = [S.no, S.no, .sh (.int most), .ow (.lst (xs'.map .int)), .sh (.int q'), .no, .no, .no, .no, .no])) := fun x hxx => ⟨by rw [List.length_map]; omega, (show Bd 3 2 from by unfold Bd; decide).mulW mb (by decide), .inl ⟨Bd.div (by omega) mb2 (by decide), xs ++ [x], _, by rw [List.length_append, hl]; rfl, fun y hy => by
        rcases List.mem_append.mp hy with hy | hy
        · exact hx y hy
        · rw [List.mem_singleton.mp hy]; exact hxx, by rw [snocI]⟩⟩
      refine ⟨fun r => ∃ x : Int, r = .sh (.int x) ∧ x.natAbs ≤ most.natAbs + 1, ⟨by decide, fun _ => ?_, fun _ => ?_⟩, fun r hr => ?_⟩
      · exact .inl ⟨div64 (by decide) (by decide), _, rfl, by omega⟩
      · exact .inl ⟨div64 (by decide) (by decide), _, rfl, by omega⟩
      · obtain ⟨x, rfl, hxx⟩ := hr
        exact key x hxx
    · obtain ⟨xs, q, hl, hx, rfl⟩ := hI
      rw [Int.toNat_natCast] at hl
      exact hk xs hl hx
  refine ⟨⟨by omega, by omega, by show 1 * Int.toNat (many : Int) ≤ _; omega⟩, by show 1 + (List.replicate (Int.toNat (many : Int)) [D.int 1000003]).flatten.length ≤ _; rw [repI, List.length_map, List.length_replicate]; omega, ?_⟩
  refine ⟨c, true, 4 :: List.replicate many 1000003, ?_, by rw [List.length_cons, List.length_replicate]; omega, fun s hs => ?_, fun r hr => ?_⟩
  · show [_, D.sq true ([D.int 4] ++ (List.replicate (Int.toNat (many : Int)) [D.int 1000003]).flatten)] = _
    rw [repI, Int.toNat_natCast]
    rfl
  · rcases List.mem_cons.mp hs with rfl | hs
    · omega
    · rw [(List.mem_replicate.mp hs).2]; omega
  have rl : r.length = many + 1 := by rw [hr.1, List.length_cons, List.length_replicate]
  obtain ⟨-, z0, z1⟩ := hr.z (k := 0) (by decide) rfl
  have z0 : 0 ≤ r.getD 0 0 := z0
  have z1 : r.getD 0 0 < 4 := z1
  refine ⟨⟨by omega, by omega⟩, fun i δ => ∃ (xs : List Int), xs.length = i ∧ (∀ x ∈ xs, x.natAbs ≤ most.natAbs + 1) ∧ δ = [.no, .no, .sh (.int most), .ow (.lst (xs.map .int)), .no, .no, .no, .sh (.sq true (r.map .int)), .no, .no], ⟨[], rfl, (fun x hx => nomatch hx), rfl⟩, fun i δ1 hi hI => ?_, fun δ1 hI => ?_⟩
  · obtain ⟨xs, hl, hx, rfl⟩ := hI
    rw [Int.toNat_natCast] at hi
    obtain ⟨y1, y2, y3⟩ := hr.z (k := 1 + (i : Int)) (s := 1000003) (by omega) (by
      have e : (1 + (i : Int)).toNat = i + 1 := by omega
      rw [e, List.getElem?_cons_succ, List.getElem?_replicate, if_pos hi])
    refine ⟨_, aZ (by omega) y1, ?_⟩
    generalize r.getD (1 + (i : Int)).toNat 0 = size at *
    have a0 := Int.emod_nonneg size (show (7 : Int) ≠ 0 by decide)
    have a1 := Int.emod_lt_of_pos size (show (0 : Int) < 7 by decide)
    have b0 := Int.emod_nonneg size (show (9 : Int) ≠ 0 by decide)
    have b1 := Int.emod_lt_of_pos size (show (0 : Int) < 9 by decide)
    have c0 := Int.emod_nonneg size (show (2001 : Int) ≠ 0 by decide)
    have c1 := Int.emod_lt_of_pos size (show (0 : Int) < 2001 by decide)
    have p1 := mZ (ns := mA) (P := fun x => x.natAbs ≤ 1000) (by decide) a0 a1
    have p2 := mZ (ns := mB) (P := fun x => x.natAbs ≤ 1000) (by decide) b0 b1
    refine ⟨by decide, _, aZ (ns := mA) a0 a1, by decide, by decide, _, aZ (ns := mB) b0 b1, by decide, (show 3 + 1 ≤ 100000 by decide), ?_⟩
    refine ixNat (l := true) (gdI (by omega)) ?_
    refine ⟨_, aZ (ns := [mA.getD (size % 7).toNat 0, size % 9 - 4, mB.getD (size % 9).toNat 0, size % 2001 - 1000]) z0 z1, ?_⟩
    have p3 : (([mA.getD (size % 7).toNat 0, size % 9 - 4, mB.getD (size % 9).toNat 0, size % 2001 - 1000] : List Int).getD (r.getD 0 0).toNat 0).natAbs ≤ 1000 := mZ (ns := [mA.getD (size % 7).toNat 0, size % 9 - 4, mB.getD (size % 9).toNat 0, size % 2001 - 1000]) (P := fun x => x.natAbs ≤ 1000) (fun x hx => by
      simp only [List.mem_cons, List.not_mem_nil, or_false] at hx
      rcases hx with rfl | rfl | rfl | rfl
      · exact p1
      · omega
      · exact p2
      · omega) z0 z1
    generalize (([mA.getD (size % 7).toNat 0, size % 9 - 4, mB.getD (size % 9).toNat 0, size % 2001 - 1000] : List Int).getD (r.getD 0 0).toNat 0) = number at *
    have key : ∀ x : Int, x.natAbs ≤ most.natAbs + 1 → (xs.map D.int).length < 100000 ∧ ∃ (xs' : List Int), xs'.length = i + 1 ∧ (∀ x ∈ xs', x.natAbs ≤ most.natAbs + 1) ∧ [S.no, S.no, .sh (.int most), .ow (.lst (xs.map .int ++ [D.int x])), .no, .no, .no, .sh (.sq true (r.map .int)), .no, .no] = [S.no, S.no, .sh (.int most), .ow (.lst (xs'.map .int)), .no, .no, .no, .sh (.sq true (r.map .int)), .no, .no] := fun x hxx => ⟨by rw [List.length_map]; omega, xs ++ [x], by rw [List.length_append, hl]; rfl, fun y hy => by
        rcases List.mem_append.mp hy with hy | hy
        · exact hx y hy
        · rw [List.mem_singleton.mp hy]; exact hxx, by rw [snocI]⟩
    refine ⟨fun r => ∃ x : Int, r = .sh (.int x) ∧ x.natAbs ≤ most.natAbs + 1, ⟨⟨by decide, by decide, by decide⟩, fun hgt => ?_, fun hgt => ?_⟩, fun r hr => ?_⟩
    · have b50 : Bd 170 ((10 : Int) ^ Int.toNat 50) := by unfold Bd; decide +kernel
      have b40 : ((10 : Int) ^ Int.toNat 40).natAbs = 10 ^ 40 := by decide +kernel
      have bs : ((10 : Int) ^ Int.toNat 40 + size).natAbs ≤ 10 ^ 40 + 1000003 := by omega
      have bn : Bd 10 number := bd_le p3 (by decide)
      have b4 : Bd 140 ((10 : Int) ^ Int.toNat 40 + size) := bd_le bs (by decide +kernel)
      refine ⟨⟨by decide, by decide, by decide⟩, bn.mulW b50 (by decide), ⟨by decide, by decide, by decide⟩, (Bd.mul bn b50).mulW b4 (by decide), _, rfl, ?_⟩
      rw [Int.natAbs_mul, Int.natAbs_mul]
      have e50 : ((10 : Int) ^ Int.toNat 50).natAbs = 10 ^ 50 := by decide +kernel
      rw [e50]
      have em : most.natAbs = 10 ^ 100 := by
        rcases hmost with rfl | rfl
        · exfalso
          revert hgt
          decide +kernel
        · decide +kernel
      rw [em]
      refine Nat.le_trans (Nat.mul_le_mul (Nat.mul_le_mul_right _ p3) bs) ?_
      decide +kernel
    · exact ⟨_, rfl, by omega⟩
    · obtain ⟨x, rfl, hxx⟩ := hr
      exact key x hxx
  · obtain ⟨xs, hl, hx, rfl⟩ := hI
    rw [Int.toNat_natCast] at hl
    exact hk xs hl hx
end K00
set_option Elab.async false
set_option linter.all false
set_option maxRecDepth 100000
set_option maxHeartbeats 4000000
set_option pp.maxSteps 800
set_option exponentiation.threshold 50000
/-! k02: sums, bands, equations, planted rows. -/
namespace K00
open PySem PySem.Spec PyProof.Rows L2 DL EL
theorem sumSm {n : Nat} {f : Nat → Int} {body : D → (D → Prop) → Prop} {K : Int → Prop} (hl : n ≤ 100000) (h : ∀ i, i < n → body (.int (i : Int)) (fun e => e = .int (f i))) (q : K (sm n f)) : LcW n (fun i => .int (i : Int)) body (fun es => SumW es K) :=
  lcw_rng (fun i => .int (f i)) hl h ⟨(List.range n).map f, by rw [List.map_map]; rfl, by rw [sm_sum]; exact q⟩
def T_lsum : DSp := fun ds kk _ => ∃ (l l' : Bool) (ps ts : List Int), ds = [rD l ps, rD l' ts] ∧ ps.length ≤ ts.length ∧ ps.length ≤ 1000 ∧ (∀ p ∈ ps, Bd 20000 p) ∧ (∀ t ∈ ts, Bd 20000 t) ∧ kk (.sh (.int (sm ps.length fun j => ps.getD j 0 * ts.getD j 0)))
theorem w_lsum : Deep [] N__law_sum b__law_sum T_lsum := by
  rintro _ kk xx ⟨l, l', ps, ts, rfl, hl, h1, hp, ht, hk⟩
  refine ⟨by rw [List.length_map]; omega, ?_⟩
  rw [List.length_map, Int.toNat_natCast]
  exact sumSm (f := fun j => ps.getD j 0 * ts.getD j 0) (by omega) (fun i hi => ⟨_, aI hi, _, aI (by omega), (hp _ (gmI hi)).mulW (ht _ (gmI (by omega))) (by decide), rfl⟩) hk
/-! bands -/
abbrev trI (r : List Int) : Tr := .lst ((r.map D.int).map .sh)
theorem rep2 (n : Nat) (a b : Int) : (List.replicate n [D.int a, D.int b]).flatten = (List.replicate n [a, b]).flatten.map D.int := by
  induction n with
  | zero => rfl
  | succ n ih => rw [List.replicate_succ, List.flatten_cons, ih, List.replicate_succ, List.flatten_cons, List.map_append]; rfl
theorem rep2_len (n : Nat) (a b : Int) : (List.replicate n [a, b]).flatten.length = 2 * n := by
  induction n with
  | zero => rfl
  | succ n ih => rw [List.replicate_succ, List.flatten_cons, List.length_append, ih]; show 2 + 2 * n = _; omega
theorem rep2_at {n k : Nat} {a b : Int} (h : k < n) : (List.replicate n [a, b]).flatten[2 * k]? = some a ∧ (List.replicate n [a, b]).flatten[2 * k + 1]? = some b := by
  induction n generalizing k with
  | zero => exact absurd h (Nat.not_lt_zero k)
  | succ n ih =>
    rw [List.replicate_succ, List.flatten_cons]
    cases k with
    | zero => exact ⟨rfl, rfl⟩
    | succ k =>
      obtain ⟨h1, h2⟩ := ih (k := k) (by omega)
      have e1 : 2 * (k + 1) = 2 * k + 1 + 1 := by omega
      rw [e1]
      exact ⟨h1, h2⟩
abbrev mC : List Int := [0, 1, 0, -1, 0, 2]
abbrev mD : List Int := [1, 2, -1, 1, 3]
/-- rows of so many numbers, none greater than M -/
def RowsM (ls : List (List Int)) (w M : Nat) : Prop := ∀ r ∈ ls, r.length = w ∧ ∀ x ∈ r, x.natAbs ≤ M
theorem RowsM.snoc {ls : List (List Int)} {w M : Nat} {r : List Int} (h : RowsM ls w M) (h1 : r.length = w) (h2 : ∀ x ∈ r, x.natAbs ≤ M) : RowsM (ls ++ [r]) w M := fun q hq => by
  rcases List.mem_append.mp hq with hq | hq
  · exact h q hq
  · rw [List.mem_singleton.mp hq]; exact ⟨h1, h2⟩
theorem set_mem {xs : List Int} {i : Nat} {v : Int} {P : Int → Prop} (h : ∀ x ∈ xs, P x) (hv : P v) : ∀ x ∈ xs.set i v, P x := fun x hx => by
  rcases List.mem_or_eq_of_mem_set hx with hx | rfl
  · exact h x hx
  · exact hv
def T_band : DSp := fun ds kk _ => ∃ (c : Int) (many width : Nat), ds = [.int c, .int (many : Int), .int (width : Int)] ∧ 1 ≤ width ∧ width ≤ 1000 ∧ many ≤ 1000 ∧ ∀ ls : List (List Int), ls.length = many → RowsM ls width 3 → kk (.ow (.tr (ls.map trI)))
theorem w_band : Deep [T_digits] N__law_band b__law_band T_band := by
  rintro _ kk xx ⟨c, many, width, rfl, hw, hw2, hm, hk⟩
  have e0 : (Int.toNat (many : Int)) = many := Int.toNat_natCast many
  refine ⟨⟨by omega, by omega, by show 2 * Int.toNat (many : Int) ≤ _; omega⟩, by show 1 + (List.replicate (Int.toNat (many : Int)) [D.int 5, D.int 6]).flatten.length ≤ _; rw [rep2, List.length_map, rep2_len]; omega, ?_⟩
  refine ⟨c, true, (width : Int) :: (List.replicate many [(5 : Int), 6]).flatten, ?_, by rw [List.length_cons, rep2_len]; omega, fun s hs => ?_, fun r hr => ?_⟩
  · show [_, D.sq true ([D.int (width : Int)] ++ (List.replicate (Int.toNat (many : Int)) [D.int 5, D.int 6]).flatten)] = _
    rw [rep2, e0]
    rfl
  · rcases List.mem_cons.mp hs with rfl | hs
    · omega
    · obtain ⟨l, hl, hs⟩ := List.mem_flatten.mp hs
      rw [(List.mem_replicate.mp hl).2] at hs
      simp only [List.mem_cons, List.not_mem_nil, or_false] at hs
      rcases hs with rfl | rfl <;> omega
  have rl : r.length = 2 * many + 1 := by rw [hr.1, List.length_cons, rep2_len]
  obtain ⟨-, z0, z1⟩ := hr.z (k := 0) (by decide) rfl
  have z0 : 0 ≤ r.getD 0 0 := z0
  have z1 : r.getD 0 0 < (width : Int) := z1
  refine ⟨⟨by omega, by omega⟩, fun i δ => ∃ ls : List (List Int), ls.length = i ∧ RowsM ls width 3 ∧ δ = [.no, .no, .sh (.int (width : Int)), .sh (.sq true (r.map .int)), .ow (.tr (ls.map trI)), .no, .no, .no], ⟨[], rfl, (fun x hx => nomatch hx), rfl⟩, fun i δ1 hi hI => ?_, fun δ1 hI => ?_⟩
  · obtain ⟨ls, hl, hx, rfl⟩ := hI
    rw [e0] at hi
    obtain ⟨h1, h2⟩ := rep2_at (a := 5) (b := 6) hi
    obtain ⟨y1, y2, y3⟩ := hr.z (k := 2 + 2 * (i : Int)) (s := 6) (by omega) (by
      have e : (2 + 2 * (i : Int)).toNat = (2 * i + 1) + 1 := by omega
      rw [e, List.getElem?_cons_succ]; exact h2)
    obtain ⟨u1, u2, u3⟩ := hr.z (k := 1 + 2 * (i : Int)) (s := 5) (by omega) (by
      have e : (1 + 2 * (i : Int)).toNat = (2 * i) + 1 := by omega
      rw [e, List.getElem?_cons_succ]; exact h1)
    have ew : (Int.toNat (width : Int)) = width := Int.toNat_natCast width
    refine ⟨⟨by omega, by omega, by show 1 * Int.toNat (width : Int) ≤ _; omega⟩, ?_⟩
    refine ixNat (l := true) (gdI (by omega)) ?_
    refine ⟨by omega, ?_⟩
    have p0 : 0 ≤ (r.getD 0 0 + (i : Int)) % (width : Int) := Int.emod_nonneg _ (by omega)
    have p1 : (r.getD 0 0 + (i : Int)) % (width : Int) < width := Int.emod_lt_of_pos _ (by omega)
    generalize (r.getD 0 0 + (i : Int)) % (width : Int) = at_ at *
    have q0 : 0 ≤ (at_ + 1) % (width : Int) := Int.emod_nonneg _ (by omega)
    have q1 : (at_ + 1) % (width : Int) < width := Int.emod_lt_of_pos _ (by omega)
    have m1 := mZ (ns := mC) (P := fun x => x.natAbs ≤ 3) (by decide) y2 y3
    have m2 := mZ (ns := mD) (P := fun x => x.natAbs ≤ 3) (by decide) u2 u3
    have zl : (List.replicate (Int.toNat (width : Int)) [D.int 0]).flatten.length = width := by rw [repI, List.length_map, List.length_replicate, ew]
    refine ⟨mul64 (by omega) (by omega), _, aZ (by omega) y1, _, aZ (ns := mC) y2 y3, by omega, ((at_ + 1) % (width : Int)).toNat, by show (at_ + 1) % (width : Int) = _; omega, by show _ < (List.replicate (Int.toNat (width : Int)) [D.int 0]).flatten.length; rw [zl]; omega, ?_⟩
    refine ⟨mul64 (by omega) (by omega), _, aZ (by omega) u1, _, aZ (ns := mD) u2 u3, at_.toNat, by show at_ = _; omega, by rw [List.length_set]; show _ < (List.replicate (Int.toNat (width : Int)) [D.int 0]).flatten.length; rw [zl]; omega, ?_⟩
    refine ⟨by rw [List.length_map]; omega, rfl, ?_⟩
    refine ⟨ls ++ [((List.replicate width (0 : Int)).set ((at_ + 1) % (width : Int)).toNat (mC.getD (r.getD (2 + 2 * (i : Int)).toNat 0).toNat 0)).set at_.toNat (mD.getD (r.getD (1 + 2 * (i : Int)).toNat 0).toNat 0)], by rw [List.length_append, hl]; rfl, hx.snoc (by rw [List.length_set, List.length_set, List.length_replicate]) (set_mem (P := fun x => x.natAbs ≤ 3) (set_mem (P := fun x => x.natAbs ≤ 3) (fun x hx => by rw [(List.mem_replicate.mp hx).2]; decide) m1) m2), ?_⟩
    show [S.no, .no, .sh (.int (width : Int)), .sh (.sq true (r.map .int)), .ow (.tr (ls.map trI ++ [.lst (((((List.replicate (Int.toNat (width : Int)) [D.int 0]).flatten.set ((at_ + 1) % (width : Int)).toNat (.int _)).set at_.toNat (.int _))).map .sh)])), .no, .no, .no] = _
    rw [repI, ew, List.map_append, ← List.map_set, ← List.map_set]
    rfl
  · obtain ⟨ls, hl, hx, rfl⟩ := hI
    rw [e0] at hl
    exact hk ls hl hx
end K00
set_option Elab.async false
set_option linter.all false
set_option maxRecDepth 100000
set_option maxHeartbeats 4000000
set_option pp.maxSteps 800
set_option exponentiation.threshold 50000
/-! k02: equations, planted rows. -/
namespace K00
open PySem PySem.Spec PyProof.Rows L2 DL EL
abbrev mE : List Int := [0, 1, 0, 2, -1, 3, 1, -2, 12]
theorem zerosB {w : Nat} {P : Int → Prop} (h : P 0) : ∀ x ∈ List.replicate w (0 : Int), P x := fun x hx => by rw [(List.mem_replicate.mp hx).2]; exact h
theorem rowsM_at {ls : List (List Int)} {w M k : Nat} (h : RowsM ls w M) (hk : k < ls.length) : (rowAt ls k).length = w ∧ ∀ j, ((rowAt ls k).getD j 0).natAbs ≤ M := by
  have e : rowAt ls k = ls[k] := by show ls.getD k [] = _; rw [List.getD_eq_getElem?_getD, List.getElem?_eq_getElem hk]; rfl
  rw [e]
  obtain ⟨h1, h2⟩ := h _ (List.getElem_mem hk)
  refine ⟨h1, fun j => ?_⟩
  by_cases hj : j < ls[k].length
  · rw [List.getD_eq_getElem?_getD, List.getElem?_eq_getElem hj]; exact h2 _ (List.getElem_mem hj)
  · rw [List.getD_eq_getElem?_getD, List.getElem?_eq_none (by omega)]; exact Nat.zero_le _
theorem aRZ {l : Bool} {es : List (List Int)} {r : Int} (h0 : 0 ≤ r) (h1 : r < es.length) : atI (es.map (rD l)) r = some (rD l (rowAt es r.toNat)) := by
  obtain ⟨j, rfl⟩ : ∃ j : Nat, r = j := ⟨r.toNat, by omega⟩
  rw [Int.toNat_natCast]
  exact aR (by omega)
theorem flN (n : Nat) (a b : Int) {s : Int} (h : s ∈ (List.replicate n [a, b]).flatten) : s = a ∨ s = b := by
  obtain ⟨l, hl, hs⟩ := List.mem_flatten.mp h
  rw [(List.mem_replicate.mp hl).2] at hs
  simpa using hs
def T_eqs : DSp := fun ds kk _ => ∃ (c : Int) (ls : List (List Int)) (many width M : Nat), ds = [.int c, .sq true (ls.map (rD true)), .int (many : Int), .int (width : Int)] ∧ ls.length ≤ many ∧ 1 ≤ many ∧ many ≤ 1000 ∧ width ≤ 1000 ∧ RowsM ls width M ∧ M < 2 ^ 400 ∧ ∀ T : List (List Int), T.length = many → RowsM T width (36 * M) → kk (.ow (.lst (T.map (rD true))))
theorem w_eqs : Deep [T_digits] N__law_equations b__law_equations T_eqs := by
  rintro _ kk xx ⟨c, ls, many, width, M, rfl, hlm, hm1, hm, hw, hR, hM, hk⟩
  have em : (Int.toNat (3 * (many : Int))) = 3 * many := by omega
  obtain ⟨mx, emx, mx1, mx2⟩ : ∃ mx : Int, (if (((ls.map (rD true)).length : Nat) : Int) > 1 then (((ls.map (rD true)).length : Nat) : Int) else 1) = mx ∧ 1 ≤ mx ∧ mx ≤ 1000 ∧ (0 < ls.length → mx ≤ ls.length) := by
    by_cases h : (((ls.map (rD true)).length : Nat) : Int) > 1
    · exact ⟨_, if_pos h, by omega, by rw [List.length_map]; omega, by rw [List.length_map]; omega⟩
    · exact ⟨_, if_neg h, by omega, by omega, by omega⟩
  refine ⟨mul64 (by omega) (by omega), ⟨by omega, by omega, by show 2 * Int.toNat (3 * (many : Int)) ≤ _; omega⟩, ?_⟩
  refine ⟨c, true, (List.replicate (3 * many) [mx, (9 : Int)]).flatten, ?_, by rw [rep2_len]; omega, fun s hs => ?_, fun r hr => ?_⟩
  · show [_, D.sq true (List.replicate (Int.toNat (3 * (many : Int))) [D.int (if (((ls.map (rD true)).length : Nat) : Int) > 1 then (((ls.map (rD true)).length : Nat) : Int) else 1), D.int 9]).flatten] = _
    rw [emx, rep2, em]
    rfl
  · rcases flN _ _ _ hs with rfl | rfl <;> omega
  have rl : r.length = 6 * many := by rw [hr.1, rep2_len]; omega
  have eld : ls.map (fun r => rD true r) = ls.map (rD true) := rfl
  refine lcw (rD true) (fun r => rD true r) (by omega) (fun r hr => rfl) ?_
  refine ⟨⟨by rw [List.length_map]; omega, by rw [List.length_map]; omega, by omega, by omega⟩, fun i δ => ∃ T : List (List Int), T.length = ls.length + i ∧ RowsM T width (36 * M) ∧ δ = [.no, .sh (.sq true (ls.map (rD true))), .no, .sh (.int (width : Int)), .sh (.sq true (r.map .int)), .no, .ow (.lst (T.map (rD true))), .no, .no, .no, .no, .no], ⟨ls, rfl, fun q hq => ⟨(hR q hq).1, fun x hx => Nat.le_trans ((hR q hq).2 x hx) (by omega)⟩, rfl⟩, fun i δ1 hi hI => ?_, fun δ1 hI => ?_⟩
  · obtain ⟨T, hl, hx, rfl⟩ := hI
    have hi : i < many - ls.length := by
      rw [List.length_map] at hi
      omega
    have ew : (Int.toNat (width : Int)) = width := Int.toNat_natCast width
    refine ⟨⟨by omega, by omega, by show 1 * Int.toNat (width : Int) ≤ _; omega⟩, ?_⟩
    refine ⟨⟨by decide, by decide⟩, fun k δ => ∃ mine : List Int, mine.length = width ∧ (∀ x ∈ mine, x.natAbs ≤ 12 * k * M) ∧ δ = [.no, .sh (.sq true (ls.map (rD true))), .no, .sh (.int (width : Int)), .sh (.sq true (r.map .int)), .sh (.sq true (mine.map .int)), .ow (.lst (T.map (rD true))), .sh (.int ((((ls.map (rD true)).length : Nat) : Int) + (i : Int))), .no, .no, .no, .no], ?_, fun k δ2 hk2 hI => ?_, fun δ2 hI => ?_⟩
    · refine ⟨List.replicate width 0, List.length_replicate, zerosB (by omega), ?_⟩
      show [S.no, .sh (.sq true (ls.map (rD true))), .no, .sh (.int (width : Int)), .sh (.sq true (r.map .int)), .sh (.sq true (List.replicate (Int.toNat (width : Int)) [D.int 0]).flatten), _, _, _, _, _, _] = _
      rw [repI, ew]
    · obtain ⟨mine, ml, mb, rfl⟩ := hI
      have hk3 : k < 3 := hk2
      have hll : (((ls.map (rD true)).length : Nat) : Int) = (ls.length : Int) := by rw [List.length_map]
      have kk1 : (3 * (ls.length + i) + k) < 3 * many := by omega
      obtain ⟨h1, h2⟩ := rep2_at (a := mx) (b := 9) kk1
      obtain ⟨y1, y2, y3⟩ := hr.z (k := 6 * ((((ls.map (rD true)).length : Nat) : Int) + (i : Int)) + 2 * (k : Int) + 1) (s := 9) (by omega) (by
        have e : (6 * ((((ls.map (rD true)).length : Nat) : Int) + (i : Int)) + 2 * (k : Int) + 1).toNat = 2 * (3 * (ls.length + i) + k) + 1 := by omega
        rw [e]; exact h2)
      obtain ⟨u1, u2, u3⟩ := hr.z (k := 6 * ((((ls.map (rD true)).length : Nat) : Int) + (i : Int)) + 2 * (k : Int)) (s := mx) (by omega) (by
        have e : (6 * ((((ls.map (rD true)).length : Nat) : Int) + (i : Int)) + 2 * (k : Int)).toNat = 2 * (3 * (ls.length + i) + k) := by omega
        rw [e]; exact h1)
      have fb := mZ (ns := mE) (P := fun x => x.natAbs ≤ 12) (by decide) y2 y3
      have stay : ∃ mine' : List Int, mine'.length = width ∧ (∀ x ∈ mine', x.natAbs ≤ 12 * (k + 1) * M) ∧ [S.no, .sh (.sq true (ls.map (rD true))), .no, .sh (.int (width : Int)), .sh (.sq true (r.map .int)), .sh (.sq true (mine.map .int)), .ow (.lst (T.map (rD true))), .sh (.int ((((ls.map (rD true)).length : Nat) : Int) + (i : Int))), .no, .no, .no, .no] = [S.no, .sh (.sq true (ls.map (rD true))), .no, .sh (.int (width : Int)), .sh (.sq true (r.map .int)), .sh (.sq true (mine'.map .int)), .ow (.lst (T.map (rD true))), .sh (.int ((((ls.map (rD true)).length : Nat) : Int) + (i : Int))), .no, .no, .no, .no] := ⟨mine, ml, fun x hx => Nat.le_trans (mb x hx) (Nat.mul_le_mul_right _ (by omega)), rfl⟩
      refine ⟨mul64 (by omega) (by omega), mul64 (by omega) (by omega), _, aZ (by omega) y1, _, aZ (ns := mE) y2 y3, ?_⟩
      generalize (mE.getD (r.getD (6 * ((((ls.map (rD true)).length : Nat) : Int) + (i : Int)) + 2 * (k : Int) + 1).toNat 0).toNat 0) = factor at *
      refine ⟨fun hpos => ⟨fun he => stay, fun hne => ?_⟩, fun hpos => stay⟩
      have hpos : 0 < ls.length := by
        have hpos : (0 : Int) < (((ls.map (rD true)).length : Nat) : Int) := hpos
        rw [List.length_map] at hpos
        omega
      have u4 : r.getD (6 * ((((ls.map (rD true)).length : Nat) : Int) + (i : Int)) + 2 * (k : Int)).toNat 0 < (ls.length : Int) := by have := mx2.2 hpos; omega
      refine ⟨mul64 (by omega) (by omega), mul64 (by omega) (by omega), _, aZ (by omega) u1, _, aRZ u2 u4, ?_⟩
      generalize hch : rowAt ls (r.getD (6 * ((((ls.map (rD true)).length : Nat) : Int) + (i : Int)) + 2 * (k : Int)).toNat 0).toNat = chosen at *
      obtain ⟨c1, c2⟩ := rowsM_at hR (k := (r.getD (6 * ((((ls.map (rD true)).length : Nat) : Int) + (i : Int)) + 2 * (k : Int)).toNat 0).toNat) (by omega)
      rw [hch] at c1 c2
      have cb : ∀ j, Bd 400 (chosen.getD j 0) := fun j => bd_le (c2 j) hM
      have fb2 : Bd 4 factor := bd_le fb (by decide)
      refine ⟨⟨by omega, by omega⟩, lcw_rng (fun j => .int (mine.getD j 0 + factor * chosen.getD j 0)) (by omega) (fun j hj => ?_) ?_⟩
      · rw [ew] at hj
        exact ⟨_, aI (by omega), _, aI (by omega), fb2.mulW (cb j) (by decide), rfl⟩
      · refine ⟨(List.range width).map fun j => mine.getD j 0 + factor * chosen.getD j 0, by rw [List.length_map, List.length_range], fun x hx => ?_, ?_⟩
        · obtain ⟨j, hj, rfl⟩ := List.mem_map.mp hx
          have hj := List.mem_range.mp hj
          have b1 := mb _ (gmI (show j < mine.length by omega))
          have b2 : (factor * chosen.getD j 0).natAbs ≤ 12 * M := by rw [Int.natAbs_mul]; exact Nat.mul_le_mul fb (c2 j)
          have e : 12 * (k + 1) * M = 12 * k * M + 12 * M := by rw [Nat.mul_add, Nat.add_mul]
          rw [e]
          omega
        · show [S.no, .sh (.sq true (ls.map (rD true))), .no, .sh (.int (width : Int)), .sh (.sq true (r.map .int)), .sh (.sq true ((List.range (Int.toNat (width : Int))).map fun j => D.int (mine.getD j 0 + factor * chosen.getD j 0))), .ow (.lst (T.map (rD true))), .sh (.int ((((ls.map (rD true)).length : Nat) : Int) + (i : Int))), .no, .no, .no, .no] = _
          rw [ew, List.map_map]
          rfl
    · obtain ⟨mine, ml, mb, rfl⟩ := hI
      refine ⟨by rw [List.length_map]; omega, T ++ [mine], by rw [List.length_append, hl]; rfl, hx.snoc ml (fun x hx => Nat.le_trans (mb x hx) (Nat.le_of_eq (by rfl))), ?_⟩
      rw [List.map_append]
      rfl
  · obtain ⟨T, hl, hx, rfl⟩ := hI
    refine hk T ?_ hx
    rw [hl, List.length_map]
    omega
/-! planted rows -/
abbrev hD (h : List Int × Int) : D := .sq true [rD true h.1, .int h.2]
def HT (t : Tr) (h : List Int × Int) : Prop := ∃ t0, t = .lst [t0, .sh (.int h.2)] ∧ t0.d = rD true h.1
theorem HT.d {t : Tr} {h : List Int × Int} (q : HT t h) : t.d = hD h := by
  obtain ⟨t0, rfl, e⟩ := q
  show D.sq true [t0.d, _] = _
  rw [e]; rfl
/-- trees of such pairs -/
def HTs (ts : List Tr) (H : List (List Int × Int)) : Prop := ts.length = H.length ∧ ∀ (i : Nat) t h, ts[i]? = some t → H[i]? = some h → HT t h
theorem HTs.snoc {ts : List Tr} {H : List (List Int × Int)} {t : Tr} {h : List Int × Int} (q : HTs ts H) (q2 : HT t h) : HTs (ts ++ [t]) (H ++ [h]) := by
  refine ⟨by rw [List.length_append, List.length_append, q.1]; rfl, fun i t' h' a b => ?_⟩
  have hl := q.1
  by_cases z : i < ts.length
  · rw [List.getElem?_append_left z] at a
    rw [List.getElem?_append_left (by omega)] at b
    exact q.2 i t' h' a b
  · rw [List.getElem?_append_right (by omega)] at a
    rw [List.getElem?_append_right (by omega), ← hl] at b
    cases hi : i - ts.length with
    | zero => rw [hi] at a b; cases a; cases b; exact q2
    | succ m => rw [hi] at a; cases a
structure Qb (B1 B2 width : Nat) (q : List Int × Int) : Prop where
  l : q.1.length = width
  a : ∀ x ∈ q.1, x.natAbs ≤ B1
  b : q.2.natAbs ≤ B2
def T_planted : DSp := fun ds kk _ => ∃ (l : Bool) (T : List (List Int)) (tops : List Int) (line : Int) (width B M : Nat), ds = [.sq l (T.map (rD true)), rD true tops, .int line] ∧ T.length ≤ 1000 ∧ tops.length = width ∧ width ≤ 1000 ∧ 1 ≤ line ∧ line ≤ 60 ∧ RowsM T width B ∧ B < 2 ^ 400 ∧ M < 2 ^ 400 ∧ (∀ x ∈ tops, x.natAbs ≤ M) ∧
  ∀ ts H, HTs ts H → H.length = T.length → (∀ h ∈ H, Qb (60 * B) (width * (B * M)) width h) → kk (.ow (.tr ts))
theorem w_planted : Deep [T_lsum] N__law_planted b__law_planted T_planted := by
  rintro _ kk xx ⟨l, T, tops, line, width, B, M, rfl, hT, htl, hw, hl1, hl2, hR, hB, hM, hMt, hk⟩
  have htb : ∀ t ∈ tops, Bd 20000 t := fun t ht => (bd_le (hMt t ht) hM).le (by decide)
  refine ⟨fun i δ => ∃ ts H, HTs ts H ∧ H.length = i ∧ (∀ h ∈ H, Qb (60 * B) (width * (B * M)) width h) ∧ δ = [.no, .sh (rD true tops), .sh (.int line), .ow (.tr ts), .no, .no, .no], ⟨[], [], ⟨rfl, fun i t h a => nomatch a⟩, rfl, (fun h hh => nomatch hh), rfl⟩, fun i δ1 hi hI => ?_, fun δ1 hI => ?_⟩
  · obtain ⟨ts, H, q, hl, hq, rfl⟩ := hI
    rw [List.length_map] at hi
    refine deq (P := fun d => wpt (.nm 4) d _ _) (gR hi) ?_
    obtain ⟨c1, c2⟩ := rowsM_at hR hi
    generalize rowAt T i = mine at *
    have mb : ∀ x ∈ mine, x.natAbs ≤ B := fun x hx => by
      obtain ⟨j, hj, rfl⟩ := List.mem_iff_getElem.mp hx
      have := c2 j
      rw [List.getD_eq_getElem?_getD, List.getElem?_eq_getElem hj] at this
      exact this
    have hmb : ∀ t ∈ mine, Bd 20000 t := fun t ht => (bd_le (mb t ht) hB).le (by decide)
    refine ⟨true, true, mine, tops, rfl, by omega, by omega, hmb, htb, ?_⟩
    have tb : (sm mine.length fun j => mine.getD j 0 * tops.getD j 0).natAbs ≤ width * (B * M) := by
      rw [← c1]
      refine sm_bd fun j hj => ?_
      rw [Int.natAbs_mul]
      exact Nat.mul_le_mul (c2 j) (hMt _ (gmI (by omega)))
    generalize (sm mine.length fun j => mine.getD j 0 * tops.getD j 0) = total at *
    have tl : ts.length < 100000 := by have := q.1; omega
    refine ⟨by omega, fun hz => ?_, fun hz => ?_⟩
    · refine ⟨tl, .inl ⟨div64 (by omega) (by omega), rfl, _, H ++ [(mine, total / line)], q.snoc ⟨.sh (rD true mine), rfl, rfl⟩, by rw [List.length_append, hl]; rfl, fun h hh => ?_, rfl⟩⟩
      rcases List.mem_append.mp hh with hh | hh
      · exact hq h hh
      · rw [List.mem_singleton.mp hh]
        refine ⟨c1, fun x hx => Nat.le_trans (mb x hx) (by omega), Nat.le_trans ?_ tb⟩
        exact Int.natAbs_ediv_le_natAbs total line
    · refine ⟨tl, lcw .int (fun x => .int (line * x)) (by omega) (fun x hx => ?_) ?_⟩
      · exact ⟨(show Bd 10 line from by show line.natAbs < 2 ^ 10; omega).mulW (hmb x hx) (by decide), rfl⟩
      · refine ⟨rfl, _, H ++ [(mine.map fun x => line * x, total)], q.snoc ⟨.lst ((mine.map fun x => D.int (line * x)).map .sh), rfl, ?_⟩, by rw [List.length_append, hl]; rfl, fun h hh => ?_, rfl⟩
        · show D.sq true (Tr.ds ((mine.map fun x => D.int (line * x)).map .sh)) = .sq true ((mine.map fun x => line * x).map .int)
          rw [ds_sh, List.map_map]; rfl
        rcases List.mem_append.mp hh with hh | hh
        · exact hq h hh
        · rw [List.mem_singleton.mp hh]
          refine ⟨by rw [List.length_map]; exact c1, fun x hx => ?_, tb⟩
          obtain ⟨y, hy, rfl⟩ := List.mem_map.mp hx
          rw [Int.natAbs_mul]
          exact Nat.mul_le_mul (by omega) (mb y hy)
  · obtain ⟨ts, H, q, hl, hq, rfl⟩ := hI
    rw [List.length_map] at hl
    exact hk ts H q hl hq
end K00
set_option Elab.async false
set_option linter.all false
set_option maxRecDepth 100000
set_option maxHeartbeats 4000000
set_option pp.maxSteps 800
set_option exponentiation.threshold 50000
/-! k02: the law's question. -/
namespace K00
open PySem PySem.Spec PyProof.Rows L2 DL EL
/-! _law_question(script, head, many, width): slots script=0 head=1 many=2 width=3 huge=4 most=5 free=6 base=7 k=8 blank=9 mine=10 table=11 line=12 tops=13 held=14 right=15 i=16 places=17 placed=18; calls _law_cell/2 _law_band/3 _law_numbers/3 _law_digits/2 _law_equations/4 _law_planted/3 -/
def N__law_question : List Str := ["script", "head", "many", "width", "huge", "most", "free", "base", "k", "blank", "mine", "table", "line", "tops", "held", "right", "i", "places", "placed"]
def fs__law_question : List Fk := ["_law_cell", "_law_band", "_law_numbers", "_law_digits", "_law_equations", "_law_planted"]
def b__law_question : Xb := (.cons (.set 4 false [] (.cmp .eq (.ixn (.var 1) 0) (.int 6)))
 (.cons (.set 5 false [] (.itu (.var 4) (.bin .mul (.bin .pow (.int 10) (.int 50)) (.bin .pow (.int 10) (.int 50))) (.bin .pow (.int 10) (.int 6))))
 (.cons (.set 6 false [] (.itu (.cmp .gt (.ixn (.var 1) 3) (.int 6)) (.var 2) (.bin .add (.int 1) (.bin .mod (.bi .int (.cons (.ixn (.var 1) 3) .nil)) (.var 2)))))
 (.cons (.itj [4, 7, 8, 9, 10, 11, 12, 13, 14, 15, 16, 17, 18] [] (.and (.cons (.cmp .gt (.ixn (.var 1) 4) (.int 2)) (.cons (.cmp .lt (.ixn (.var 1) 4) (.int 6)) .nil))) (.cons (.set 6 false [] (.bi .min (.cons (.var 6) (.cons (.bin .sub (.var 2) (.int 1)) .nil))))
 .nil) .nil)
 (.cons (.itj [4, 6, 8, 9, 10, 11, 12, 13, 14, 15, 16, 17, 18] [] (.and (.cons (.cmp .eq (.ixn (.var 1) 0) (.int 5)) (.cons (.cmp .gt (.ixn (.var 1) 5) (.int 0)) .nil))) (.cons (.set 7 true [] (.call 1 (.cons (.call 0 (.cons (.var 0) (.cons (.int 1) .nil))) (.cons (.bi .min (.cons (.var 6) (.cons (.var 3) .nil))) (.cons (.var 3) .nil)))))
 .nil) (.cons (.itj [4, 7, 8, 9, 10, 11, 12, 13, 14, 15, 16, 17, 18] [] (.cmp .eq (.ixn (.var 1) 0) (.int 5)) (.cons (.set 6 false [] (.bi .min (.cons (.var 6) (.cons (.int 6) .nil))))
 .nil) .nil)
 (.cons (.setT 7 (.lc 8 (.e [] (.call 2 (.cons (.call 0 (.cons (.var 0) (.cons (.bin .add (.int 1) (.var 8)) .nil))) (.cons (.var 3) (.cons (.var 5) .nil))))) (.rng (.var 6))))
 .nil)))
 (.cons (.set 9 false [] (.call 3 (.cons (.call 0 (.cons (.var 0) (.cons (.int 8) .nil))) (.cons (.lst (.cons (.int 6) (.cons (.var 3) .nil))) .nil))))
 (.cons (.itj [4, 6, 8, 9, 10, 11, 12, 13, 14, 15, 16, 17, 18] [] (.cmp .eq (.ixn (.var 9) 0) (.int 1)) (.cons (.forE 10 7 (.ixn (.var 9) 1) (.int 0))
 .nil) .nil)
 (.cons (.set 11 false [7] (.call 4 (.cons (.call 0 (.cons (.var 0) (.cons (.int 9) .nil))) (.cons (.var 7) (.cons (.var 2) (.cons (.var 3) .nil))))))
 (.cons (.set 12 false [] (.call 3 (.cons (.call 0 (.cons (.var 0) (.cons (.int 10) .nil))) (.cons (.lst (.cons (.int 9) (.cons (.int 7) .nil))) .nil))))
 (.cons (.set 13 false [] (.call 2 (.cons (.call 0 (.cons (.var 0) (.cons (.int 11) .nil))) (.cons (.var 3) (.cons (.var 5) .nil)))))
 (.cons (.set 14 true [] (.call 5 (.cons (.var 11) (.cons (.var 13) (.cons (.ix (.lst (.cons (.int 1) (.cons (.int 2) (.cons (.int 1) (.cons (.int 3) (.cons (.int 6) (.cons (.int 7) (.cons (.int 1) (.cons (.int 60) (.cons (.int 35) .nil)))))))))) (.ixn (.var 12) 0)) .nil)))))
 (.cons (.itj [3, 4, 6, 7, 8, 9, 10, 12, 13, 15, 16, 17, 18] [] (.and (.cons (.cmp .gt (.ixn (.var 1) 4) (.int 2)) (.cons (.cmp .lt (.ixn (.var 1) 4) (.int 6)) .nil))) (.cons (.stiT 14 (.sub .nm [] (.bin .sub (.var 2) (.int 1))) [] (.int 1) (.e [14] (.bin .add (.ixn (.ix (.var 14) (.bin .sub (.var 2) (.int 1))) 1) (.ix (.lst (.cons (.int 1) (.cons (.neg (.int 1)) (.cons (.int 2) (.cons (.neg (.int 3)) (.cons (.int 1000) (.cons (.bin .add (.bin .pow (.int 10) (.int 18)) (.int 9)) (.cons (.neg (.bin .pow (.int 10) (.int 30))) .nil)))))))) (.ixn (.var 12) 1)))))
 .nil) .nil)
 (.cons (.itj [1, 3, 4, 5, 6, 7, 8, 9, 10, 11, 12, 13, 15, 16, 17, 18] [] (.cmp .gt (.ixn (.var 1) 4) (.int 5)) (.cons (.set 15 false [] (.call 2 (.cons (.call 0 (.cons (.var 0) (.cons (.int 12) .nil))) (.cons (.var 2) (.cons (.var 5) .nil)))))
 (.cons (.setT 14 (.lc 16 (.lst (.cons (.e [] (.ix (.var 11) (.var 16))) (.cons (.e [] (.ix (.var 15) (.var 16))) .nil))) (.rng (.var 2))))
 .nil)) .nil)
 (.cons (.set 17 false [] (.call 3 (.cons (.call 0 (.cons (.var 0) (.cons (.int 13) .nil))) (.cons (.lc 8 (.bin .add (.var 8) (.int 1)) (.rng (.var 2))) .nil))))
 (.lend [14]
 (.cons (.set 18 true [] (.lst .nil))
 (.cons (.for_ [0, 1, 2, 3, 4, 5, 6, 7, 8, 9, 10, 11, 12, 13, 15, 16] [] (.nm 8) (.rng (.var 2)) (.cons (.ins 18 [14] (.ix (.var 17) (.var 8)) (.ix (.var 14) (.var 8)))
 .nil))
 (.cons (.retO 18)
 .nil))))))))))))))))))
theorem ds_trI (ls : List (List Int)) : Tr.ds (ls.map trI) = ls.map (rD true) := by
  rw [ds_map, List.map_map]
  refine List.map_congr_left fun r _ => ?_
  show D.sq true (Tr.ds ((r.map D.int).map .sh)) = _
  rw [ds_sh]
theorem ds_hts {ts : List Tr} {H : List (List Int × Int)} (q : HTs ts H) : Tr.ds ts = H.map hD := by
  rw [ds_map]
  refine List.ext_getElem? fun i => ?_
  rw [List.getElem?_map, List.getElem?_map]
  by_cases hi : i < ts.length
  · have h2 : i < H.length := by rw [← q.1]; exact hi
    rw [List.getElem?_eq_getElem hi, List.getElem?_eq_getElem h2]
    exact congrArg some (q.2 i _ _ (List.getElem?_eq_getElem hi) (List.getElem?_eq_getElem h2)).d
  · rw [List.getElem?_eq_none (by omega), List.getElem?_eq_none (by have := q.1; omega)]
    rfl
theorem trees_of {P : List Int → Prop} : ∀ {ts : List Tr}, (∀ (i : Nat) t, ts[i]? = some t → ∃ r, t = trI r ∧ P r) → ∃ ls : List (List Int), ts = ls.map trI ∧ ∀ r ∈ ls, P r
  | [], _ => ⟨[], rfl, fun r hr => nomatch hr⟩
  | t :: ts, h => by
    obtain ⟨r, rfl, hp⟩ := h 0 t rfl
    obtain ⟨ls, rfl, hl⟩ := trees_of fun i t q => h (i + 1) t q
    exact ⟨r :: ls, rfl, List.forall_mem_cons.mpr ⟨hp, hl⟩⟩
theorem HTs.edit {ts us : List Tr} {H : List (List Int × Int)} {j : Nat} {h : List Int × Int} {v : Int} (q : HTs ts H) (a : ts[j]? = some (.lst us)) (b : H[j]? = some h) : 1 < us.length ∧ HTs (updAt ts [j] (us.set 1 (.sh (.int v)))) (H.set j (h.1, v)) := by
  obtain ⟨t0, e, e2⟩ := q.2 j _ _ a b
  cases e
  refine ⟨by show 1 < 2; decide, ?_⟩
  unfold updAt
  rw [a]
  show HTs (ts.set j (.lst [t0, .sh (.int v)])) _
  refine ⟨by rw [List.length_set, List.length_set, q.1], fun i t h' x y => ?_⟩
  by_cases z : j = i
  · subst z
    rw [List.getElem?_set_self (List.getElem?_eq_some_iff.mp a).1] at x
    rw [List.getElem?_set_self (List.getElem?_eq_some_iff.mp b).1] at y
    cases x; cases y
    exact ⟨t0, rfl, e2⟩
  · rw [List.getElem?_set_ne z] at x y
    exact q.2 i t h' x y
theorem ed_rows {ls : List (List Int)} {j : Nat} : (ls.map trI).map (edT j (.int 0)) = (ls.map fun r => r.set j 0).map trI := by
  rw [List.map_map, List.map_map]
  refine List.map_congr_left fun r _ => ?_
  show Tr.lst (((r.map D.int).map Tr.sh).set j (.sh (.int 0))) = .lst (((r.set j 0).map D.int).map .sh)
  rw [List.map_set, List.map_set]
theorem hD_at {H : List (List Int × Int)} {k : Nat} (h : k < H.length) : atI (H.map hD) (k : Int) = some (hD H[k]) := atI_nat (by rw [List.getElem?_map, List.getElem?_eq_getElem h]; rfl)
theorem dig2 {r : List Int} {a b : Int} (h : Digs r [a, b]) : ∃ x y, r = [x, y] ∧ (0 ≤ x ∧ x < a) ∧ 0 ≤ y ∧ y < b := by
  have hl := h.1
  match r, hl with
  | [x, y], _ => exact ⟨x, y, rfl, h.2 0 x a rfl rfl, h.2 1 y b rfl rfl⟩
abbrev mL : List Int := [1, 2, 1, 3, 6, 7, 1, 60, 35]
abbrev mF : List Int := [1, -1, 2, -3, 1000, (10 : Int) ^ Int.toNat 18 + 9, -((10 : Int) ^ Int.toNat 30)]
def T_question : DSp := fun ds kk _ => ∃ (ns : List Int) (x0 x1 x2 x3 x4 x5 : Int) (many width : Nat), ds = [.scr ns, .sq true [.int x0, .int x1, .int x2, .int x3, .int x4, .int x5], .int (many : Int), .int (width : Int)] ∧ (0 ≤ x3 ∧ x3 < 14) ∧ (0 ≤ x4 ∧ x4 < 8) ∧ (1 ≤ many ∧ 1 ≤ width) ∧ (many ≤ 100 ∧ width ≤ 80) ∧ (x0 ≠ 5 → width ≤ 7) ∧
  ∀ (Q : List (List Int × Int)) (B1 B2 : Nat), Q.length = many → (∀ q ∈ Q, Qb B1 B2 width q) → (x0 = 6 → B1 + 2000 ≤ 2 ^ 345 ∧ B2 + 2000 ≤ 2 ^ 680) → (x0 ≠ 6 → B1 + 2000 ≤ 2 ^ 32 ∧ B2 + 2000 ≤ 2 ^ 101) → kk (.ow (.lst (Q.map hD)))
theorem w_question : Deep [T_cell, T_band, T_numbers, T_digits, T_eqs, T_planted] N__law_question b__law_question T_question := by
  rintro _ kk xx ⟨ns, x0, x1, x2, x3, x4, x5, many, width, rfl, ⟨a0, a1⟩, ⟨b0, b1⟩, ⟨m1, w1⟩, ⟨m2, w2⟩, hw5, hk⟩
  refine ⟨fun r => ∃ most : Int, r = .sh (.int most) ∧ ((x0 = 6 ∧ most = (10 : Int) ^ Int.toNat 50 * (10 : Int) ^ Int.toNat 50) ∨ (x0 ≠ 6 ∧ most = 1000000)), ⟨fun h => ?_, fun h => ?_⟩, fun r hr => ?_⟩
  · exact ⟨⟨by decide, by decide, by decide⟩, ⟨by decide, by decide, by decide⟩, (show Bd 170 ((10 : Int) ^ Int.toNat 50) from by unfold Bd; decide +kernel).mulW (show Bd 170 ((10 : Int) ^ Int.toNat 50) from by unfold Bd; decide +kernel) (by decide), _, rfl, .inl ⟨of_decide_eq_true h, rfl⟩⟩
  · exact ⟨⟨by decide, by decide, by decide⟩, _, rfl, .inr ⟨of_decide_eq_false h, by decide⟩⟩
  obtain ⟨most, rfl, hmost⟩ := hr
  have hmost2 : most = 1000000 ∨ most = (10 : Int) ^ Int.toNat 50 * (10 : Int) ^ Int.toNat 50 := by
    rcases hmost with h | h
    · exact .inr h.2
    · exact .inl h.2
  obtain ⟨M, hM, M1, M2⟩ : ∃ M : Nat, most.natAbs + 1 = M ∧ 3 ≤ M ∧ M < 2 ^ 340 := ⟨_, rfl, by
    rcases hmost2 with rfl | rfl
    · decide
    · decide +kernel, by
    rcases hmost2 with rfl | rfl
    · decide +kernel
    · decide +kernel⟩
  refine ⟨fun r => ∃ f : Int, r = .sh (.int f) ∧ 0 ≤ f ∧ f ≤ many, ⟨fun h => ⟨_, rfl, by omega, by omega⟩, fun h => ⟨by omega, _, rfl, by have := Int.emod_nonneg x3 (show (many : Int) ≠ 0 by omega); omega, by have := Int.emod_lt_of_pos x3 (show (0 : Int) < many by omega); omega⟩⟩, fun r hr => ?_⟩
  obtain ⟨f, rfl, f0, f1⟩ := hr
  refine join (fun δ => ∃ f : Int, 0 ≤ f ∧ f ≤ many ∧ δ = [.sh (.scr ns), .sh (.sq true [.int x0, .int x1, .int x2, .int x3, .int x4, .int x5]), .sh (.int (many : Int)), .sh (.int (width : Int)), .no, .sh (.int most), .sh (.int f), .no, .no, .no, .no, .no, .no, .no, .no, .no, .no, .no, .no]) ⟨fun _ => ⟨fun _ => ?_, fun _ => ⟨f, f0, f1, by kernel_rfl⟩⟩, fun _ => ⟨f, f0, f1, by kernel_rfl⟩⟩ fun δ hδ => ?_
  · refine ⟨if (many : Int) - 1 < f then (many : Int) - 1 else f, ?_, ?_, by kernel_rfl⟩ <;> split <;> omega
  obtain ⟨f, f0, f1, rfl⟩ := hδ
  -- the free equations
  refine join (fun δ => ∃ ls : List (List Int), ls.length ≤ many ∧ RowsM ls width M ∧ δ = [.sh (.scr ns), .sh (.sq true [.int x0, .int x1, .int x2, .int x3, .int x4, .int x5]), .sh (.int (many : Int)), .sh (.int (width : Int)), .no, .sh (.int most), .no, .ow (.tr (ls.map trI)), .no, .no, .no, .no, .no, .no, .no, .no, .no, .no, .no]) ?_ fun δ hδ => ?_
  · refine ⟨fun _ => ⟨fun _ => ?a, fun _ => ?b⟩, fun _ => ?b2⟩
    case a =>
      refine ⟨ns, 1, rfl, by decide, by decide, fun v => ?_⟩
      obtain ⟨mf, emf, g0, g1⟩ : ∃ mf : Nat, (if (width : Int) < f then (width : Int) else f) = (mf : Int) ∧ mf ≤ many ∧ mf ≤ 1000 := by
        by_cases h : (width : Int) < f
        · exact ⟨width, by rw [if_pos h], by omega, by omega⟩
        · exact ⟨f.toNat, by rw [if_neg h]; omega, by omega, by omega⟩
      refine ⟨v, mf, width, ?_, w1, by omega, g1, fun ls h1 h2 => ?_⟩
      · show [_, D.int (if (width : Int) < f then (width : Int) else f), _] = _
        rw [emf]
        rfl
      · exact ⟨ls, by omega, fun r hr => ⟨(h2 r hr).1, fun x hx => Nat.le_trans ((h2 r hr).2 x hx) M1⟩, by kernel_rfl⟩
    all_goals
      refine join (fun δ => ∃ f : Int, 0 ≤ f ∧ f ≤ many ∧ δ = [.sh (.scr ns), .sh (.sq true [.int x0, .int x1, .int x2, .int x3, .int x4, .int x5]), .sh (.int (many : Int)), .sh (.int (width : Int)), .no, .sh (.int most), .sh (.int f), .no, .no, .no, .no, .no, .no, .no, .no, .no, .no, .no, .no]) ⟨fun _ => ⟨if (6 : Int) < f then 6 else f, by split <;> omega, by split <;> omega, by kernel_rfl⟩, fun _ => ⟨f, f0, f1, by kernel_rfl⟩⟩ fun δ hδ => ?_
      obtain ⟨f, f0, f1, rfl⟩ := hδ
      refine ⟨⟨by omega, by omega⟩, fun i t => ∃ r, t = trI r ∧ r.length = width ∧ ∀ x ∈ r, x.natAbs ≤ M, by omega, fun i hi => ?_, fun ts hl ht => ?_⟩
      · exact ⟨ns, 1 + (i : Int), rfl, by omega, by omega, fun v => ⟨v, width, most, rfl, by omega, hmost2, fun xs h1 h2 => ⟨xs, rfl, h1, fun x hx => by rw [← hM]; exact h2 x hx⟩⟩⟩
      · obtain ⟨ls, rfl, hls⟩ := trees_of ht
        rw [List.length_map] at hl
        exact ⟨ls, by omega, hls, by kernel_rfl⟩
  obtain ⟨ls, l1, l2, rfl⟩ := hδ
  refine ⟨ns, 8, rfl, by decide, by decide, fun v => ⟨v, true, [6, (width : Int)], rfl, (show 2 ≤ 10000 by decide), fun s hs => ?_, fun r hr => ?_⟩⟩
  · simp only [List.mem_cons, List.not_mem_nil, or_false] at hs
    rcases hs with rfl | rfl <;> omega
  obtain ⟨z0, z1, rfl, ⟨-, -⟩, y0, y1⟩ := dig2 hr
  refine join (fun δ => ∃ ls : List (List Int), ls.length ≤ many ∧ RowsM ls width M ∧ δ = [.sh (.scr ns), .sh (.sq true [.int x0, .int x1, .int x2, .int x3, .int x4, .int x5]), .sh (.int (many : Int)), .sh (.int (width : Int)), .no, .sh (.int most), .no, .ow (.tr (ls.map trI)), .no, .no, .no, .no, .no, .no, .no, .no, .no, .no, .no]) ⟨fun _ => ?_, fun _ => ⟨ls, l1, l2, by kernel_rfl⟩⟩ fun δ hδ => ?_
  · refine ⟨rfl, .int 0, z1.toNat, ⟨trivial, fun t ht => ?_⟩, fun us => ⟨rfl, ?_⟩, ls.map fun r => r.set z1.toNat 0, by rw [List.length_map]; exact l1, fun q hq => ?_, ?_⟩
    · obtain ⟨r, hr, rfl⟩ := List.mem_map.mp ht
      exact ⟨_, rfl, by rw [List.length_map, List.length_map, (l2 r hr).1]; omega⟩
    · show D.int z1 = .int (z1.toNat : Int)
      rw [Int.toNat_of_nonneg y0]
    · obtain ⟨r, hr, rfl⟩ := List.mem_map.mp hq
      exact ⟨by rw [List.length_set]; exact (l2 r hr).1, set_mem (P := fun x => x.natAbs ≤ M) (l2 r hr).2 (Nat.zero_le _)⟩
    · rw [ed_rows]
      kernel_rfl
  obtain ⟨ls, l1, l2, rfl⟩ := hδ
  refine ⟨ns, 9, rfl, by decide, by decide, fun v => ⟨v, ls, many, width, M, ?_, l1, m1, by omega, by omega, l2, Nat.lt_trans M2 (Nat.pow_lt_pow_right (by decide) (by decide)), fun T t1 t2 => keep_lend ?_⟩⟩
  · show [_, D.sq true (Tr.ds (ls.map trI)), _, _] = _
    rw [ds_trI]
    rfl
  refine ⟨ns, 10, rfl, by decide, by decide, fun v => ⟨v, true, [9, 7], rfl, by decide, fun s hs => ?_, fun r hr => ?_⟩⟩
  · simp only [List.mem_cons, List.not_mem_nil, or_false] at hs
    rcases hs with rfl | rfl <;> omega
  obtain ⟨n0, n1, rfl, ⟨o0, o1⟩, p0, p1⟩ := dig2 hr
  refine ⟨ns, 11, rfl, by decide, by decide, fun v => ⟨v, width, most, rfl, by omega, hmost2, fun tops u1 u2 => ?_⟩⟩
  have hline := mZ (ns := mL) (P := fun x => 1 ≤ x ∧ x ≤ 60) (by decide) o0 o1
  refine ⟨_, aZ (ns := mL) o0 o1, ?_⟩
  have MB : 36 * M < 2 ^ 400 := by
    have e : (2 : Nat) ^ 400 = 2 ^ 60 * 2 ^ 340 := by rw [← Nat.pow_add]
    rw [e]
    exact Nat.mul_lt_mul'' (by decide) M2
  refine ⟨true, T, tops, _, width, 36 * M, M, rfl, by omega, u1, by omega, hline.1, hline.2, t2, MB, Nat.lt_trans M2 (Nat.pow_lt_pow_right (by decide) (by decide)), fun x hx => by rw [← hM]; exact u2 x hx, fun ts H q1 q2 q3 => ?_⟩
  rw [t1] at q2
  have hB2 : ∀ h ∈ H, Qb (60 * (36 * M)) (width * (36 * M * M) + 10 ^ 30) width h := fun h hh => ⟨(q3 h hh).l, (q3 h hh).a, Nat.le_trans (q3 h hh).b (Nat.le_add_right _ _)⟩
  refine join (fun δ => ∃ ts H, HTs ts H ∧ H.length = many ∧ (∀ h ∈ H, Qb (60 * (36 * M)) (width * (36 * M * M) + 10 ^ 30) width h) ∧ δ = [.sh (.scr ns), .sh (.sq true [.int x0, .int x1, .int x2, .int x3, .int x4, .int x5]), .sh (.int (many : Int)), .no, .no, .sh (.int most), .no, .no, .no, .no, .no, .sh (.sq true (T.map (rD true))), .no, .no, .ow (.tr ts), .no, .no, .no, .no]) ⟨fun _ => ⟨fun _ => ?_, fun _ => ⟨ts, H, q1, q2, hB2, by kernel_rfl⟩⟩, fun _ => ⟨ts, H, q1, q2, hB2, by kernel_rfl⟩⟩ fun δ hδ => ?_
  · obtain ⟨m, em⟩ : ∃ m : Nat, many = m + 1 := ⟨many - 1, by omega⟩
    have em2 : (many : Int) - 1 = (m : Int) := by omega
    have hm : m < H.length := by omega
    have hmt : m < ts.length := by have := q1.1; omega
    have ea : atI (Tr.ds ts) ((many : Int) - 1) = some (hD H[m]) := by rw [ds_hts q1, em2]; exact hD_at hm
    refine ⟨_, ea, ⟨by decide, by decide, by decide⟩, ⟨by decide, by decide, by decide⟩, _, aZ (ns := mF) p0 p1, .flat trivial, m, em2, ?_⟩
    obtain ⟨us, hus⟩ : ∃ us, ts[m]? = some (.lst us) := by
      obtain ⟨t0, e, -⟩ := q1.2 m _ _ (List.getElem?_eq_getElem hmt) (List.getElem?_eq_getElem hm)
      exact ⟨_, by rw [List.getElem?_eq_getElem hmt, e]⟩
    obtain ⟨k1, k2⟩ := HTs.edit (v := H[m].2 + mF.getD n1.toNat 0) q1 hus (List.getElem?_eq_getElem hm)
    refine ⟨us, hus, 1, rfl, k1, _, H.set m (H[m].1, H[m].2 + mF.getD n1.toNat 0), k2, by rw [List.length_set]; exact q2, fun h hh => ?_, ?_⟩
    · rcases List.mem_or_eq_of_mem_set hh with hh | rfl
      · exact hB2 h hh
      · have q := q3 _ (List.getElem_mem hm)
        refine ⟨q.l, q.a, ?_⟩
        have fb := mZ (ns := mF) (P := fun x => x.natAbs ≤ 10 ^ 30) (by decide +kernel) p0 p1
        have := q.b
        show (H[m].2 + mF.getD n1.toNat 0).natAbs ≤ _
        omega
    · kernel_rfl
  obtain ⟨ts, H, q1, q2, q3, rfl⟩ := hδ
  refine join (fun δ => ∃ ts H, HTs ts H ∧ H.length = many ∧ (∀ h ∈ H, Qb (60 * (36 * M)) (width * (36 * M * M) + 10 ^ 30) width h) ∧ δ = [.sh (.scr ns), .no, .sh (.int (many : Int)), .no, .no, .no, .no, .no, .no, .no, .no, .no, .no, .no, .ow (.tr ts), .no, .no, .no, .no]) ⟨fun _ => ?_, fun _ => ⟨ts, H, q1, q2, q3, by kernel_rfl⟩⟩ fun δ hδ => ?_
  · refine ⟨ns, 12, rfl, by decide, by decide, fun v => ⟨v, many, most, rfl, by omega, hmost2, fun rs v1 v2 => ?_⟩⟩
    refine ⟨⟨by omega, by omega⟩, fun i t => t = .lst [.sh (rD true (rowAt T i)), .sh (.int (rs.getD i 0))], by omega, fun i hi => ?_, fun ts hl ht => ?_⟩
    · rw [Int.toNat_natCast] at hi
      exact ⟨_, aR (by omega), _, aI (by omega), rfl⟩
    · rw [Int.toNat_natCast] at hl
      refine ⟨ts, (List.range many).map fun i => (rowAt T i, rs.getD i 0), ⟨by rw [List.length_map, List.length_range]; exact hl, fun i t h a b => ?_⟩, by rw [List.length_map, List.length_range], fun h hh => ?_, by kernel_rfl⟩
      · have hi : i < many := by rw [← hl]; exact (List.getElem?_eq_some_iff.mp a).1
        rw [List.getElem?_map, List.getElem?_range hi] at b
        cases b
        exact ⟨.sh (rD true (rowAt T i)), ht i t a, rfl⟩
      · obtain ⟨i, hi, rfl⟩ := List.mem_map.mp hh
        have hi := List.mem_range.mp hi
        obtain ⟨c1, c2⟩ := rowsM_at t2 (show i < T.length by omega)
        refine ⟨c1, fun x hx => ?_, ?_⟩
        · obtain ⟨j, hj, rfl⟩ := List.mem_iff_getElem.mp hx
          have := c2 j
          rw [List.getD_eq_getElem?_getD, List.getElem?_eq_getElem hj] at this
          have this : ((rowAt T i)[j]).natAbs ≤ 36 * M := this
          exact Nat.le_trans this (by omega)
        · have := v2 _ (gmI (show i < rs.length by omega))
          rw [hM] at this
          refine Nat.le_trans this (Nat.le_trans ?_ (Nat.le_add_right _ _))
          refine Nat.le_trans ?_ (Nat.le_mul_of_pos_left _ w1)
          exact Nat.le_mul_of_pos_left _ (by omega)
  obtain ⟨ts, H, q1, q2, q3, rfl⟩ := hδ
  refine ⟨ns, 13, rfl, by decide, by decide, fun v => ?_⟩
  refine ⟨⟨by omega, by omega⟩, lcw_rng (fun k => .int ((k : Int) + 1)) (by omega) (fun i hi => rfl) ?_⟩
  refine ⟨v, true, (List.range many).map fun k : Nat => ((k : Int) + 1), ?_, by rw [List.length_map, List.length_range]; omega, fun s hs => ?_, fun r hr => ?_⟩
  · show [_, D.sq true ((List.range (Int.toNat (many : Int))).map fun k : Nat => D.int ((k : Int) + 1))] = _
    rw [Int.toNat_natCast, List.map_map]
    rfl
  · obtain ⟨k, hk, rfl⟩ := List.mem_map.mp hs
    have := List.mem_range.mp hk
    omega
  have rl : r.length = many := by rw [hr.1, List.length_map, List.length_range]
  have ed := ds_hts q1
  refine ⟨⟨by omega, by omega⟩, fun k δ => ∃ Q : List (List Int × Int), Q.length = k ∧ (∀ q ∈ Q, q ∈ H) ∧ δ = [.no, .no, .no, .no, .no, .no, .no, .no, .no, .no, .no, .no, .no, .no, .sh (.sq true (Tr.ds ts)), .no, .no, .sh (.sq true (r.map .int)), .ow (.lst (Q.map hD))], ⟨[], rfl, (fun q hq => nomatch hq), by kernel_rfl⟩, fun k δ1 hk2 hI => ?_, fun δ1 hI => ?_⟩
  · obtain ⟨Q, hl, hQ, rfl⟩ := hI
    rw [Int.toNat_natCast] at hk2
    have hkH : k < H.length := by omega
    have ea : atI (Tr.ds ts) (k : Int) = some (hD H[k]) := by rw [ed]; exact hD_at hkH
    obtain ⟨-, g0, g1⟩ := hr.z (k := (k : Int)) (s := (k : Int) + 1) (by omega) (by rw [Int.toNat_natCast, List.getElem?_map, List.getElem?_range hk2]; rfl)
    rw [Int.toNat_natCast] at g0 g1
    refine ⟨_, aI (by omega), _, ea, keep_lend ⟨⟨by rw [List.length_map]; omega, g0, by omega⟩, Q.take (r.getD k 0).toNat ++ [H[k]] ++ Q.drop (r.getD k 0).toNat, ?_, fun q hq => ?_, ?_⟩⟩
    · rw [List.length_append, List.length_append, List.length_take, List.length_drop, List.length_singleton]
      omega
    · rcases List.mem_append.mp hq with hq | hq
      · rcases List.mem_append.mp hq with hq | hq
        · exact hQ q (List.mem_of_mem_take hq)
        · rw [List.mem_singleton.mp hq]; exact List.getElem_mem hkH
      · exact hQ q (List.mem_of_mem_drop hq)
    · rw [show (Q.take (r.getD k 0).toNat ++ [H[k]] ++ Q.drop (r.getD k 0).toNat).map hD = (Q.map hD).take (r.getD k 0).toNat ++ [hD H[k]] ++ (Q.map hD).drop (r.getD k 0).toNat from by rw [List.map_append, List.map_append, List.map_take, List.map_drop]; rfl]
      kernel_rfl
  · obtain ⟨Q, hl, hQ, rfl⟩ := hI
    rw [Int.toNat_natCast] at hl
    refine hk Q _ _ hl (fun q hq => q3 q (hQ q hq)) (fun h6 => ?_) (fun h6 => ?_)
    · have hw7 := hw5 (by omega)
      rcases hmost with ⟨_, rfl⟩ | ⟨h, _⟩
      · subst hM
        refine ⟨by decide +kernel, Nat.le_trans (Nat.add_le_add_right (Nat.add_le_add_right (Nat.mul_le_mul_right _ hw7) _) _) (by decide +kernel)⟩
      · exact absurd h6 h
    · rcases hmost with ⟨h, _⟩ | ⟨_, rfl⟩
      · exact absurd h h6
      · subst hM
        refine ⟨by decide +kernel, Nat.le_trans (Nat.add_le_add_right (Nat.add_le_add_right (Nat.mul_le_mul_right _ w2) _) _) (by decide +kernel)⟩
end K00
set_option Elab.async false
set_option linter.all false
set_option maxRecDepth 100000
set_option maxHeartbeats 4000000
set_option pp.maxSteps 800
set_option exponentiation.threshold 50000
/-! k02: the law's judge, its ways to ask. -/
namespace K00
open PySem PySem.Spec PyProof.Rows L2 DL EL
/-! _law_right(told, table, right): slots told=0 table=1 right=2 i=3 number=4 j=5; calls Solution/0:isc _law_is_row/2 _law_sum/2 _law_whole/1 -/
def N__law_right : List Str := ["told", "table", "right", "i", "number", "j"]
def fs__law_right : List Fk := [⟨"Solution", .isc⟩, "_law_is_row", "_law_sum", "_law_whole"]
def b__law_right : Xb := (.cons (.ite [] (.or (.cons (.not (.isc 0 (.var 0))) (.cons (.cmp .eq (.cmp .is (.fld (.var 0) "point") .non) (.cmp .is (.fld (.var 0) "bar") .non)) .nil))) (.cons (.ret [] (.bl false))
 .nil) .nil)
 (.cons (.ite [] (.cmp .isnot (.fld (.var 0) "point") .non) (.cons (.ite [] (.not (.call 1 (.cons (.fld (.var 0) "point") (.cons (.bi .len (.cons (.ixn (.var 1) 0) .nil)) .nil)))) (.cons (.ret [] (.bl false))
 .nil) .nil)
 (.cons (.for_ [3, 4, 5] [] (.nm 3) (.rng (.bi .len (.cons (.var 1) .nil))) (.cons (.ite [] (.cmp .ne (.call 2 (.cons (.ix (.var 1) (.var 3)) (.cons (.ixn (.fld (.var 0) "point") 0) .nil))) (.bin .mul (.ix (.var 2) (.var 3)) (.ixn (.fld (.var 0) "point") 1))) (.cons (.ret [] (.bl false))
 .nil) .nil)
 .nil))
 (.cons (.ret [] (.bl true))
 .nil))) .nil)
 (.cons (.ite [] (.or (.cons (.not (.isi (.fld (.var 0) "bar") .tuple)) (.cons (.cmp .ne (.bi .len (.cons (.fld (.var 0) "bar") .nil)) (.bi .len (.cons (.var 1) .nil))) .nil))) (.cons (.ret [] (.bl false))
 .nil) .nil)
 (.cons (.for_ [3, 4, 5] [] (.nm 4) (.sq (.fld (.var 0) "bar")) (.cons (.ite [] (.not (.call 3 (.cons (.var 4) .nil))) (.cons (.ret [] (.bl false))
 .nil) .nil)
 .nil))
 (.cons (.for_ [3, 4, 5] [] (.nm 5) (.rng (.bi .len (.cons (.ixn (.var 1) 0) .nil))) (.cons (.ite [] (.cmp .ne (.bi .sum (.cons (.lc 3 (.bin .mul (.ix (.fld (.var 0) "bar") (.var 3)) (.ix (.ix (.var 1) (.var 3)) (.var 5))) (.rng (.bi .len (.cons (.var 1) .nil)))) .nil)) (.int 0)) (.cons (.ret [] (.bl false))
 .nil) .nil)
 .nil))
 (.cons (.ret [] (.cmp .gt (.call 2 (.cons (.fld (.var 0) "bar") (.cons (.var 2) .nil))) (.int 0)))
 .nil))))))
/-! _law_form(table, how): slots table=0 how=1 mine=2 inner=3; calls  -/
def N__law_form : List Str := ["table", "how", "mine", "inner"]
def fs__law_form : List Fk := []
def b__law_form : Xb := (.cons (.itj [0, 2] [] (.cmp .eq (.bin .mod (.bi .int (.cons (.var 1) .nil)) (.int 2)) (.int 1)) (.cons (.set 3 false [] (.lc 2 (.bi .list (.cons (.var 2) .nil)) (.sq (.var 0))))
 .nil) (.cons (.set 3 false [] (.lc 2 (.bi .tuple (.cons (.var 2) .nil)) (.sq (.var 0))))
 .nil))
 (.cons (.ret [] (.itu (.cmp .eq (.bin .mod (.bi .int (.cons (.bin .div (.var 1) (.int 2)) .nil)) (.int 2)) (.int 1)) (.var 3) (.bi .tuple (.cons (.var 3) .nil))))
 .nil))
/-! _law_asked(table, right, how): slots table=0 right=1 how=2 passed=3 given=4 told=5 i=6; calls _law_form/2 solved/2 _law_right/3 -/
def N__law_asked : List Str := ["table", "right", "how", "passed", "given", "told", "i"]
def fs__law_asked : List Fk := ["_law_form", "solved", "_law_right"]
def b__law_asked : Xb := (.cons (.set 3 false [] (.call 0 (.cons (.var 0) (.cons (.var 2) .nil))))
 (.cons (.set 4 false [] (.itu (.cmp .eq (.bin .mod (.bi .int (.cons (.bin .div (.var 2) (.int 4)) .nil)) (.int 2)) (.int 1)) (.bi .list (.cons (.var 1) .nil)) (.bi .tuple (.cons (.var 1) .nil))))
 (.cons (.set 5 false [] (.call 1 (.cons (.var 3) (.cons (.var 4) .nil))))
 (.cons (.ite [] (.or (.cons (.not (.call 2 (.cons (.var 5) (.cons (.var 0) (.cons (.var 1) .nil))))) (.cons (.cmp .ne (.bi .list (.cons (.var 4) .nil)) (.var 1)) (.cons (.cmp .ne (.bi .len (.cons (.var 3) .nil)) (.bi .len (.cons (.var 0) .nil))) .nil)))) (.cons (.ret [] .non)
 .nil) .nil)
 (.cons (.for_ [1, 2, 4, 6] [] (.nm 6) (.rng (.bi .len (.cons (.var 0) .nil))) (.cons (.ite [] (.cmp .ne (.bi .list (.cons (.ix (.var 3) (.var 6)) .nil)) (.ix (.var 0) (.var 6))) (.cons (.ret [] .non)
 .nil) .nil)
 .nil))
 (.cons (.ret [] (.var 5))
 .nil))))))
/-! _law_turned(table, right): slots table=0 right=1 j=2 mine=3 turned=4; calls  -/
def N__law_turned : List Str := ["table", "right", "j", "mine", "turned"]
def fs__law_turned : List Fk := []
def b__law_turned : Xb := (.cons (.set 4 true [] (.lc 2 (.lc 3 (.ix (.var 3) (.var 2)) (.sq (.var 0))) (.rng (.bi .len (.cons (.ixn (.var 0) 0) .nil)))))
 (.cons (.app 4 [] (.bi .list (.cons (.var 1) .nil)))
 (.cons (.retO 4)
 .nil)))
/-! _law_changed(table, right, place, column, more): slots table=0 right=1 place=2 column=3 more=4 mine=5 due=6 other=7 passed=8 given=9 first=10 second=11 third=12; calls solved/2 _law_right/3 -/
def N__law_changed : List Str := ["table", "right", "place", "column", "more", "mine", "due", "other", "passed", "given", "first", "second", "third"]
def fs__law_changed : List Fk := ["solved", "_law_right"]
def b__law_changed : Xb := (.cons (.setT 6 (.lc 5 (.e [] (.bi .list (.cons (.var 5) .nil))) (.sq (.var 0))))
 (.cons (.stiT 6 (.sub .nm [] (.var 2)) [] (.var 3) (.e [6] (.bin .add (.ix (.ix (.var 6) (.var 2)) (.var 3)) (.var 4))))
 (.cons (.set 7 true [] (.bi .list (.cons (.var 1) .nil)))
 (.cons (.sti 7 [7] (.bin .sub (.ix (.var 7) (.var 2)) (.var 4)) (.var 2))
 (.cons (.setT 8 (.lc 5 (.e [] (.bi .list (.cons (.var 5) .nil))) (.sq (.var 0))))
 (.cons (.set 9 true [] (.bi .list (.cons (.var 1) .nil)))
 (.cons (.set 10 false [8, 9] (.call 0 (.cons (.var 8) (.cons (.var 9) .nil))))
 (.cons (.ite [8, 9] (.or (.cons (.cmp .ne (.var 8) (.var 0)) (.cons (.cmp .ne (.var 9) (.var 1)) .nil))) (.cons (.ret [] (.bl false))
 .nil) .nil)
 (.cons (.stiT 8 (.sub .nm [] (.var 2)) [] (.var 3) (.e [6] (.ix (.ix (.var 6) (.var 2)) (.var 3))))
 (.cons (.set 11 false [8, 9] (.call 0 (.cons (.var 8) (.cons (.var 9) .nil))))
 (.cons (.sti 9 [7] (.ix (.var 7) (.var 2)) (.var 2))
 (.cons (.set 12 false [8, 9] (.call 0 (.cons (.var 8) (.cons (.var 9) .nil))))
 (.cons (.ite [6, 7] (.or (.cons (.not (.call 1 (.cons (.var 10) (.cons (.var 0) (.cons (.var 1) .nil))))) (.cons (.not (.call 1 (.cons (.var 11) (.cons (.var 6) (.cons (.var 1) .nil))))) (.cons (.not (.call 1 (.cons (.var 12) (.cons (.var 6) (.cons (.var 7) .nil))))) .nil)))) (.cons (.ret [] (.bl false))
 .nil) .nil)
 (.cons (.ret [6, 7, 8, 9] (.and (.cons (.cmp .eq (.var 8) (.var 6)) (.cons (.cmp .eq (.var 9) (.var 7)) .nil))))
 .nil))))))))))))))
/-! _law_fields(): slots one=0 two=1; calls Solution/2 Solution/0:isc -/
def N__law_fields : List Str := ["one", "two"]
def fs__law_fields : List Fk := ["Solution", ⟨"Solution", .isc⟩]
def b__law_fields : Xb := (.cons (.set 0 false [] (.call 0 (.cons (.tup (.cons (.tup (.cons (.int 0) (.cons (.neg (.int 2)) .nil))) (.cons (.int 3) .nil))) (.cons .non .nil))))
 (.cons (.set 1 false [] (.call 0 (.cons .non (.cons (.tup (.cons (.int 0) (.cons (.neg (.int 1)) (.cons (.int 5) .nil)))) .nil))))
 (.cons (.ite [] (.or (.cons (.cmp .ne (.fld (.var 0) "point") (.tup (.cons (.tup (.cons (.int 0) (.cons (.neg (.int 2)) .nil))) (.cons (.int 3) .nil)))) (.cons (.cmp .isnot (.fld (.var 0) "bar") .non) (.cons (.cmp .isnot (.fld (.var 1) "point") .non) .nil)))) (.cons (.ret [] (.bl false))
 .nil) .nil)
 (.cons (.ret [] (.and (.cons (.isc 1 (.var 1)) (.cons (.cmp .eq (.fld (.var 1) "bar") (.tup (.cons (.int 0) (.cons (.neg (.int 1)) (.cons (.int 5) .nil))))) .nil))))
 .nil))))
def T_isC (C : Addr) : DSp := fun ds kk _ => ∃ gs, ds = [.ins C gs] ∧ kk (.sh (.bl true))
theorem isc_ok {K : PySem.W.Frag} {C : Addr} (ic : C8.InsC K C) : ∀ G v d k xx, Is K G v d → T_isC C [d] k xx → ∃ t b, TyX K G v t ∧ PySem.W.kitOne K t (.ref C) = some b ∧ k (.sh (.bl b)) := by
  rintro G v d k xx i ⟨gs, e, z⟩
  cases e
  obtain ⟨a, dx, fs, rfl, _, e, _⟩ := i.ins_inv
  exact ⟨_, true, .base (.ins e ic.cl ic.ha ic.hn ic.htk ic.hm), ic.me, z⟩
/-- a table and its right side, no number too great -/
structure Tbl (T : List (List Int)) (b : List Int) (n w : Nat) : Prop where
  n1 : T.length = n
  n2 : b.length = n
  n3 : ∀ k, k < n → (rowAt T k).length = w
  n0 : 0 < n
  nb : n ≤ 200
  wb : w ≤ 200
  b1 : ∀ k, k < n → ∀ x ∈ rowAt T k, Bd 4400 x
  b2 : ∀ x ∈ b, Bd 4400 x
theorem Tbl.hd {T : List (List Int)} {b : List Int} {n w : Nat} {l : Bool} (t : Tbl T b n w) : (T.map (rD l))[0]? = some (rD l (rowAt T 0)) := by
  have h0 : 0 < T.length := by rw [t.n1]; exact t.n0
  rw [List.getElem?_map, List.getElem?_eq_getElem h0]
  show some (rD l T[0]) = some (rD l (T.getD 0 []))
  rw [List.getD_eq_getElem?_getD, List.getElem?_eq_getElem h0]; rfl
theorem getD_b {ps : List Int} {P : Int → Prop} (h : ∀ p ∈ ps, P p) (h0 : P 0) (j : Nat) : P (ps.getD j 0) := by
  by_cases hj : j < ps.length
  · exact h _ (gmI hj)
  · rw [List.getD_eq_getElem?_getD, List.getElem?_eq_none (by omega)]; exact h0
theorem bd_zero {n : Nat} : Bd n 0 := Nat.pow_pos (by decide)
def T_lright (CS : Addr) : DSp := fun ds kk _ => ∃ (T : List (List Int)) (b : List Int) (n w : Nat) (x : Sum (List Int) (List Int × Int)), ds = [solD CS x, .sq true (T.map (rD true)), .sq true (b.map .int)] ∧ Tbl T b n w ∧ AnsOk T b n w x ∧ kk (.sh (.bl true))
theorem w_lright (CS : Addr) : Deep [T_isC CS, T_isrow, T_lsum, T_whole] N__law_right b__law_right (T_lright CS) := by
  rintro _ kk xx ⟨T, b, n, w, x, rfl, t, ok, hk⟩
  have n1 := t.n1
  have n2 := t.n2
  have n3 := t.n3
  have lT : (T.map (rD true)).length = n := by rw [List.length_map]; exact n1
  have l0 : ((rowAt T 0).map D.int).length = w := by rw [List.length_map]; exact n3 0 t.n0
  have nb := t.nb
  have wb := t.wb
  cases x with
  | inr y =>
    obtain ⟨ps, q⟩ := y
    obtain ⟨o1, o2, o3, o4, o5, o6⟩ := ok
    refine ⟨⟨_, rfl, fun _ => ⟨(fun h => nomatch h), fun _ => ?_⟩, fun h => nomatch h⟩⟩
    refine ixNat (l := true) t.hd ?_
    refine ⟨ps, q, ?_, o2, o3, fun p hp => (show Bd 8800 p from o5 p hp).le (by decide), (show Bd 4400 q from o6).le (by decide), fun _ => ?_, fun h => nomatch h⟩
    · show [_, D.int ((((rowAt T 0).map D.int).length : Nat) : Int)] = _
      rw [l0, ← o1]
      rfl
    refine ⟨by omega, ?_⟩
    refine for_each (m := n) (by rw [Int.toNat_natCast]; exact lT) [.sh (solD CS (.inr (ps, q))), .sh (.sq true (T.map (rD true))), .sh (.sq true (b.map .int)), .no, .no, .no] rfl (fun i hi nx hnx => ?_) hk
    have li := n3 i hi
    refine ⟨_, aR (by omega), true, false, rowAt T i, ps, rfl, by rw [li, o1]; exact Nat.le_refl _, by omega, fun p hp => (t.b1 i hi p hp).le (by decide), fun p hp => (show Bd 8800 p from o5 p hp).le (by decide), ?_⟩
    have e4 := o4 i hi
    refine ⟨_, aI (by omega), (t.b2 _ (gmI (show i < b.length by omega))).mulW (show Bd 4400 q from o6) (by decide), fun _ => hnx _ rfl, fun hne => absurd ?_ hne⟩
    rw [li]
    exact e4
  | inl bar =>
    obtain ⟨o1, o2, o3, o4⟩ := ok
    refine ⟨⟨_, rfl, fun _ => ⟨(fun h => nomatch h), fun _ => ?_⟩, fun h => nomatch h⟩⟩
    refine ⟨fun _ => ?_, fun h => absurd (show (((bar.map D.int).length : Nat) : Int) = (((T.map (rD true)).length : Nat) : Int) from by rw [List.length_map, lT, o1]) h⟩
    have st : [S.sh (solD CS (.inl bar)), .sh (.sq true (T.map (rD true))), .sh (.sq true (b.map .int)), .no, .no, .no] = [S.sh (solD CS (.inl bar)), .sh (.sq true (T.map (rD true))), .sh (.sq true (b.map .int)), .no, .no, .no] := rfl
    refine for_each (m := n) (by rw [List.length_map, o1]) [S.sh (solD CS (.inl bar)), .sh (.sq true (T.map (rD true))), .sh (.sq true (b.map .int)), .no, .no, .no] rfl (fun i hi nx hnx => ?_) ?_
    · refine deq (P := fun d => wpt (.nm 4) d _ _) (gI (show i < bar.length by omega)) ?_
      exact ⟨_, rfl, fun _ => hnx _ rfl, fun h => nomatch h⟩
    refine ixNat (l := true) t.hd ?_
    refine ⟨by omega, for_each (m := w) (by rw [Int.toNat_natCast]; exact l0) [S.sh (solD CS (.inl bar)), .sh (.sq true (T.map (rD true))), .sh (.sq true (b.map .int)), .no, .no, .no] rfl (fun j hj nx hnx => ?_) ?_⟩
    · refine ⟨by omega, ?_⟩
      refine sumSm (f := fun i => bar.getD i 0 * (rowAt T i).getD j 0) (by rw [Int.toNat_natCast]; omega) (fun i hi => ?_) ?_
      · rw [Int.toNat_natCast, lT] at hi
        have li := n3 i hi
        exact ⟨_, aI (by omega), _, aR (by omega), _, aI (by omega), (show Bd 4400 _ from o4 _ (gmI (show i < bar.length by omega))).mulW (t.b1 i hi _ (gmI (by omega))) (by decide), rfl⟩
      · rw [Int.toNat_natCast, lT]
        exact ⟨fun _ => hnx _ rfl, fun hne => absurd (o2 j hj) hne⟩
    · refine ⟨false, true, bar, b, rfl, by omega, by omega, fun p hp => (show Bd 4400 p from o4 p hp).le (by decide), fun p hp => (t.b2 p hp).le (by decide), ?_⟩
      rw [o1]
      show kk (.sh (.bl (decide ((0 : Int) < _))))
      rw [decide_eq_true o3]
      exact hk
def T_form : DSp := fun ds kk _ => ∃ (T : List (List Int)) (how : Int), ds = [.sq true (T.map (rD true)), .int how] ∧ T.length ≤ 1000 ∧ 0 ≤ how ∧ ∀ l g, kk (.sh (.sq l (T.map (rD g))))
theorem w_form : Deep [] N__law_form b__law_form T_form := by
  rintro _ kk xx ⟨T, how, rfl, hT, h0, hk⟩
  refine join (fun δ => ∃ g, δ = [.no, .sh (.int how), .no, .sh (.sq true (T.map (rD g)))]) ⟨by decide, fun _ => ?_, fun _ => ?_⟩ fun δ hδ => ?_
  · exact lcw (rD true) (rD true) (by omega) (fun r hr => rfl) ⟨true, rfl⟩
  · exact lcw (rD true) (rD false) (by omega) (fun r hr => rfl) ⟨false, rfl⟩
  obtain ⟨g, rfl⟩ := hδ
  refine ⟨fun r => ∃ l, r = .sh (.sq l (T.map (rD g))), (.inl ⟨div64 (by decide) (by decide), by decide, fun _ => ⟨true, rfl⟩, fun _ => ⟨false, rfl⟩⟩), fun r hr => ?_⟩
  obtain ⟨l, rfl⟩ := hr
  exact hk l g
theorem plT {l l' : Bool} {T : List (List Int)} : plB 60 (.sq l (T.map (rD l'))) = true := plB_sq (n := 59) fun d hd => by
  obtain ⟨r, _, rfl⟩ := List.mem_map.mp hd
  exact plB_ints (n := 58)
def T_asked (CS : Addr) : DSp := fun ds kk _ => ∃ (T : List (List Int)) (b : List Int) (n w bb hh r0 : Nat) (how : Int), ds = [.sq true (T.map (rD true)), .sq true (b.map .int), .int how] ∧ Tbl T b n w ∧ Nice T b n w bb hh r0 ∧ 0 ≤ how ∧ kk (.sh (solD CS (solL T b w)))
theorem w_asked (CS : Addr) : Deep [T_form, T_solved CS, T_lright CS] N__law_asked b__law_asked (T_asked CS) := by
  rintro _ kk xx ⟨T, b, n, w, bb, hh, r0, how, rfl, t, N, h0, hk⟩
  have n1 := t.n1
  have n2 := t.n2
  have n3 := t.n3
  have nb := t.nb
  have wb := t.wb
  have lT : (T.map (rD true)).length = n := by rw [List.length_map]; exact n1
  refine ⟨T, how, rfl, by omega, h0, fun l g => ?_⟩
  have ok : AnsOk T b n w (solL T b w) := N.sol t.n0
  refine ⟨fun r => r = .ow (.lst (b.map .int)) ∨ r = .sh (rD false b), (.inl ⟨div64 (by decide) (by decide), by decide, fun _ => .inl rfl, fun _ => .inr rfl⟩), fun r hr => ?_⟩
  rcases hr with rfl | rfl
  all_goals
    refine ⟨_, _, _, T, b, n, w, bb, hh, r0, rfl, N, t.n0, nb, wb, ?_⟩
    refine ⟨T, b, n, w, _, rfl, t, ok, fun _ => ⟨⟨plB_ints (n := 59), plB_ints (n := 59)⟩, fun _ => ⟨fun _ => ?_, fun h => absurd (show (((T.map (rD g)).length : Nat) : Int) = (((T.map (rD true)).length : Nat) : Int) from by rw [List.length_map, List.length_map]) h⟩, fun h => absurd rfl h⟩, fun h => nomatch h⟩
    refine ⟨by omega, for_each (m := n) (by rw [Int.toNat_natCast]; exact lT) [.sh (.sq true (T.map (rD true))), .no, .no, .sh (.sq l (T.map (rD g))), .no, .sh (solD CS (solL T b w)), .no] rfl (fun i hi nx hnx => ?_) hk⟩
    exact ⟨_, aR (by omega), _, aR (by omega), ⟨plB_ints (n := 59), plB_ints (n := 59)⟩, fun _ => hnx _ rfl, fun h => absurd rfl h⟩
def T_lturned : DSp := fun ds kk _ => ∃ (T : List (List Int)) (b : List Int) (n w : Nat), ds = [.sq true (T.map (rD true)), .sq true (b.map .int)] ∧ Tbl T b n w ∧ kk (.ow (.lst ((turnT T b w).map (rD true))))
theorem w_lturned : Deep [] N__law_turned b__law_turned T_lturned := by
  rintro _ kk xx ⟨T, b, n, w, rfl, t, hk⟩
  have n1 := t.n1
  have n3 := t.n3
  have nb := t.nb
  have wb := t.wb
  have l0 : ((rowAt T 0).map D.int).length = w := by rw [List.length_map]; exact n3 0 t.n0
  refine ixNat (l := true) t.hd ?_
  refine ⟨by omega, lcw_rng (fun j => rD true (T.map fun r => r.getD j 0)) (by omega) (fun j hj => ?_) ?_⟩
  · have hj : j < w := by omega
    refine lcw (rD true) (fun r => .int (r.getD j 0)) (by omega) (fun r hr => ?_) ?_
    · obtain ⟨k, hk, rfl⟩ := List.mem_iff_getElem.mp hr
      have := n3 k (by omega)
      have e : rowAt T k = T[k] := by show T.getD k [] = _; rw [List.getD_eq_getElem?_getD, List.getElem?_eq_getElem hk]; rfl
      rw [e] at this
      exact ⟨_, aI (by omega), rfl⟩
    · show D.sq true (T.map fun r => D.int (r.getD j 0)) = .sq true ((T.map fun r => r.getD j 0).map .int)
      rw [List.map_map]; rfl
  · refine ⟨by rw [List.length_map, List.length_range]; omega, ?_⟩
    have e : ((List.range (Int.toNat ((((rowAt T 0).map D.int).length : Nat) : Int))).map fun j => rD true (T.map fun r => r.getD j 0)) ++ [D.sq true (b.map .int)] = (turnT T b w).map (rD true) := by
      rw [Int.toNat_natCast, l0]
      unfold turnT
      rw [List.map_append, List.map_map]; rfl
    show kk (.ow (.lst (((List.range (Int.toNat ((((rowAt T 0).map D.int).length : Nat) : Int))).map fun j => rD true (T.map fun r => r.getD j 0)) ++ [D.sq true (b.map .int)])))
    rw [e]
    exact hk
end K00
set_option Elab.async false
set_option linter.all false
set_option maxRecDepth 100000
set_option maxHeartbeats 4000000
set_option pp.maxSteps 800
set_option exponentiation.threshold 50000
/-! k02: changed tables, fields. -/
namespace K00
open PySem PySem.Spec PyProof.Rows L2 DL EL
/-- one number changed -/
def chT (T : List (List Int)) (p c : Nat) (m : Int) : List (List Int) := T.set p ((rowAt T p).set c ((rowAt T p).getD c 0 + m))
def chBo (b : List Int) (p : Nat) (m : Int) : List Int := b.set p (b.getD p 0 - m)
theorem rowAt_ch {T : List (List Int)} {p k : Nat} {r : List Int} (hp : p < T.length) : rowAt (T.set p r) k = if k = p then r else rowAt T k := rowAt_set hp
theorem upd_rows {T : List (List Int)} {p c : Nat} {v : Int} (hp : p < T.length) : updAt (T.map trI) [p] ((((rowAt T p).map D.int).map Tr.sh).set c (.sh (.int v))) = (T.set p ((rowAt T p).set c v)).map trI := by
  have e : (T.map trI)[p]? = some (trI (rowAt T p)) := by
    rw [List.getElem?_map, List.getElem?_eq_getElem hp]
    show some (trI T[p]) = some (trI (T.getD p []))
    rw [List.getD_eq_getElem?_getD, List.getElem?_eq_getElem hp]; rfl
  unfold updAt
  rw [e]
  show (T.map trI).set p (.lst ((((rowAt T p).map D.int).map Tr.sh).set c (.sh (.int v)))) = _
  rw [List.map_set]
  congr 1
  show Tr.lst _ = Tr.lst ((((rowAt T p).set c v).map D.int).map .sh)
  rw [List.map_set, List.map_set]
theorem tr_at {T : List (List Int)} {p : Nat} (hp : p < T.length) : (T.map trI)[p]? = some (.lst (((rowAt T p).map D.int).map .sh)) := by
  rw [List.getElem?_map, List.getElem?_eq_getElem hp]
  show some (trI T[p]) = some (trI (T.getD p []))
  rw [List.getD_eq_getElem?_getD, List.getElem?_eq_getElem hp]; rfl
theorem ads {T : List (List Int)} {p : Nat} (hp : p < T.length) : atI (Tr.ds (T.map trI)) (p : Int) = some (rD true (rowAt T p)) := by rw [ds_trI]; exact aR hp
theorem flatSol {CS : Addr} : ∀ x : Sum (List Int) (List Int × Int), FlatI (solD CS x) := by
  have fI : ∀ ns : List Int, FlatI (.sq false (ns.map D.int)) := fun ns => .tup fun i d h => by
    obtain ⟨x, _, rfl⟩ := List.mem_map.mp (List.mem_of_getElem? h)
    exact .flat trivial
  intro x
  cases x with
  | inl bar =>
    refine .ins fun i g h => ?_
    match i, h with
    | 0, h => cases h; exact .flat trivial
    | 1, h => cases h; exact fI bar
  | inr y =>
    refine .ins fun i g h => ?_
    match i, h with
    | 0, h =>
      cases h
      refine .tup fun i d h => ?_
      match i, h with
      | 0, h => cases h; exact fI y.1
      | 1, h => cases h; exact .flat trivial
    | 1, h => cases h; exact .flat trivial
theorem copyT {T : List (List Int)} {k : List Tr → Prop} (hT : T.length ≤ 1000) (q : k (T.map trI)) : LctW (T.map (rD true)).length (fun i => (T.map (rD true)).getD i .non) (fun d q => ∃ r, d = rD true r ∧ q (trI r)) k := by
  refine ⟨fun i t => t = trI (rowAt T i), by rw [List.length_map]; omega, fun i hi => ⟨_, gR (by rw [List.length_map] at hi; exact hi), rfl⟩, fun ts hl ht => ?_⟩
  rw [List.length_map] at hl
  have e : ts = T.map trI := List.ext_getElem? fun i => by
    by_cases hi : i < T.length
    · have e1 := List.getElem?_eq_getElem (show i < ts.length by omega)
      rw [e1, ht i _ e1, tr_at hi]
    · rw [List.getElem?_eq_none (by omega), List.getElem?_eq_none (by rw [List.length_map]; omega)]
  rw [e]; exact q
theorem lct_imp {n : Nat} {item : Nat → D} {body body' : D → (Tr → Prop) → Prop} {k : List Tr → Prop} (h : LctW n item body k) (m : ∀ d q, body d q → body' d q) : LctW n item body' k := by
  obtain ⟨R, a, b, c⟩ := h
  exact ⟨R, a, fun i hi => m _ _ (b i hi), c⟩
structure ChOk (T : List (List Int)) (b : List Int) (n w p c : Nat) (m : Int) : Prop where
  hp : p < n
  hc : c < w
  t1 : Tbl T b n w
  t2 : Tbl (chT T p c m) b n w
  t3 : Tbl (chT T p c m) (chBo b p m) n w
  n1 : ∃ bb hh r0, Nice T b n w bb hh r0
  n2 : ∃ bb hh r0, Nice (chT T p c m) b n w bb hh r0
  n3 : ∃ bb hh r0, Nice (chT T p c m) (chBo b p m) n w bb hh r0
def T_changed (CS : Addr) : DSp := fun ds kk _ => ∃ (T : List (List Int)) (b : List Int) (n w p c : Nat) (m : Int), ds = [.sq true (T.map (rD true)), .sq true (b.map .int), .int (p : Int), .int (c : Int), .int m] ∧ ChOk T b n w p c m ∧ kk (.sh (.bl true))
theorem w_changed (CS : Addr) : Deep [T_solved CS, T_lright CS] N__law_changed b__law_changed (T_changed CS) := by
  rintro _ kk xx ⟨T, b, n, w, p, c, m, rfl, ok, hk⟩
  have hp := ok.hp
  have hc := ok.hc
  have t1 := ok.t1
  have t2 := ok.t2
  have t3 := ok.t3
  obtain ⟨b1, h1, r1, N1⟩ := ok.n1
  obtain ⟨b2, h2, r2, N2⟩ := ok.n2
  obtain ⟨b3, h3, r3, N3⟩ := ok.n3
  have nn := t1.n1
  have nb := t1.n2
  have hpT : p < T.length := by omega
  have lp := t1.n3 p hp
  have hn := t1.nb
  have hw := t1.wb
  refine lct_imp (copyT (T := T) (by omega) ?_) fun d q ⟨r, e, z⟩ => by subst e; exact z
  -- due
  refine ⟨_, ads hpT, _, aI (by omega), .flat trivial, p, rfl, _, tr_at hpT, c, rfl, by rw [List.length_map, List.length_map]; omega, ?_⟩
  show wpb _ _ [.sh (.sq true (T.map (rD true))), .sh (.sq true (b.map .int)), .sh (.int (p : Int)), .sh (.int (c : Int)), .sh (.int m), .no, .ow (.tr (updAt (T.map trI) [p] ((((rowAt T p).map D.int).map Tr.sh).set c (.sh (.int ((rowAt T p).getD c 0 + m)))))), .no, .no, .no, .no, .no, .no] _
  rw [upd_rows hpT]
  change wpb _ _ [.sh (.sq true (T.map (rD true))), .sh (.sq true (b.map .int)), .sh (.int (p : Int)), .sh (.int (c : Int)), .sh (.int m), .no, .ow (.tr ((chT T p c m).map trI)), .no, .no, .no, .no, .no, .no] _
  have hpT2 : p < (chT T p c m).length := by rw [t2.n1]; exact hp
  have ev : (rowAt (chT T p c m) p).getD c 0 = (rowAt T p).getD c 0 + m := by
    unfold chT
    rw [rowAt_ch hpT, if_pos rfl, List.getD_eq_getElem?_getD, List.getElem?_set_self (by omega)]; rfl
  have ech : chT T p c m = T.set p ((rowAt T p).set c ((rowAt (chT T p c m) p).getD c 0)) := by rw [ev]; rfl
  -- other
  refine ⟨_, aI (by omega), keep_safe (show FlatN _ from .flat trivial) ⟨p, rfl, by rw [List.length_map]; omega, ?_⟩⟩
  show wpb _ _ [.sh (.sq true (T.map (rD true))), .sh (.sq true (b.map .int)), .sh (.int (p : Int)), .sh (.int (c : Int)), .sh (.int m), .no, .ow (.tr ((chT T p c m).map trI)), .ow (.lst ((b.map D.int).set p (.int (b.getD p 0 - m)))), .no, .no, .no, .no, .no] _
  rw [← List.map_set]
  change wpb _ _ [.sh (.sq true (T.map (rD true))), .sh (.sq true (b.map .int)), .sh (.int (p : Int)), .sh (.int (c : Int)), .sh (.int m), .no, .ow (.tr ((chT T p c m).map trI)), .ow (.lst ((chBo b p m).map .int)), .no, .no, .no, .no, .no] _
  have eb : (chBo b p m).getD p 0 = b.getD p 0 - m := by
    unfold chBo
    rw [List.getD_eq_getElem?_getD, List.getElem?_set_self (by omega)]; rfl
  have ebh : chBo b p m = b.set p ((chBo b p m).getD p 0) := by rw [eb]; rfl
  generalize chT T p c m = T2 at *
  generalize chBo b p m = bb2 at *
  -- passed, given, first
  refine lct_imp (copyT (T := T) (by omega) ?_) fun d q ⟨r, e, z⟩ => by subst e; exact z
  refine ⟨true, true, true, T, b, n, w, b1, h1, r1, ?_, N1, t1.n0, hn, hw, keep_ins (flatSol _) rfl ?_⟩
  · show [D.sq true (Tr.ds (T.map trI)), _] = _
    rw [ds_trI]
    rfl
  refine ⟨⟨by show plB 60 (.sq true (Tr.ds (T.map trI))) = true; rw [ds_trI]; exact plT, plT⟩, fun _ => ⟨⟨plB_ints (n := 59), plB_ints (n := 59)⟩, fun _ => ?_, fun h => absurd rfl h⟩, fun h => absurd (show D.sq true (Tr.ds (T.map trI)) = D.sq true (T.map (rD true)) from by rw [ds_trI]) h⟩
  -- the table is changed
  refine ⟨_, ads hpT2, _, aI (by have := t2.n3 p hp; omega), .flat trivial, p, rfl, _, tr_at hpT, c, rfl, by rw [List.length_map, List.length_map]; omega, ?_⟩
  show wpb _ _ [.sh (.sq true (T.map (rD true))), .sh (.sq true (b.map .int)), .sh (.int (p : Int)), .sh (.int (c : Int)), .sh (.int m), .no, .ow (.tr (T2.map trI)), .ow (.lst (bb2.map .int)), .ow (.tr (updAt (T.map trI) [p] ((((rowAt T p).map D.int).map Tr.sh).set c (.sh (.int ((rowAt T2 p).getD c 0)))))), .ow (.lst (b.map .int)), .sh (solD CS (solL T b w)), .no, .no] _
  rw [upd_rows hpT, ← ech]
  refine ⟨true, true, true, T2, b, n, w, b2, h2, r2, ?_, N2, t1.n0, hn, hw, keep_ins (flatSol _) rfl ?_⟩
  · show [D.sq true (Tr.ds (T2.map trI)), _] = _
    rw [ds_trI]
    rfl
  have lb2 : bb2.length = n := t3.n2
  refine ⟨_, aI (by omega), keep_safe (show FlatN _ from .flat trivial) ⟨p, rfl, by rw [List.length_map]; omega, ?_⟩⟩
  show wpb _ _ [.sh (.sq true (T.map (rD true))), .sh (.sq true (b.map .int)), .sh (.int (p : Int)), .sh (.int (c : Int)), .sh (.int m), .no, .ow (.tr (T2.map trI)), .ow (.lst (bb2.map .int)), .ow (.tr (T2.map trI)), .ow (.lst ((b.map D.int).set p (.int (bb2.getD p 0)))), .sh (solD CS (solL T b w)), .sh (solD CS (solL T2 b w)), .no] _
  rw [← List.map_set, ← ebh]
  refine ⟨true, true, true, T2, bb2, n, w, b3, h3, r3, ?_, N3, t1.n0, hn, hw, keep_ins (flatSol _) rfl ?_⟩
  · show [D.sq true (Tr.ds (T2.map trI)), _] = _
    rw [ds_trI]
    rfl
  refine ⟨T, b, n, w, _, rfl, t1, N1.sol t1.n0, fun _ => ⟨T2, b, n, w, solL T2 b w, ?_, t2, N2.sol t1.n0, fun _ => ⟨T2, bb2, n, w, solL T2 bb2 w, ?_, t3, N3.sol t1.n0, fun _ => ?_, fun h => nomatch h⟩, fun h => nomatch h⟩, fun h => nomatch h⟩
  · show [_, D.sq true (Tr.ds (T2.map trI)), _] = _
    rw [ds_trI]
    rfl
  · show [_, D.sq true (Tr.ds (T2.map trI)), _] = _
    rw [ds_trI]
    rfl
  refine ⟨⟨by show plB 60 (.sq true (Tr.ds (T2.map trI))) = true; rw [ds_trI]; exact plT, by show plB 60 (.sq true (Tr.ds (T2.map trI))) = true; rw [ds_trI]; exact plT⟩, fun bo hbo => ?_⟩
  obtain rfl : bo = true := hbo.mpr rfl
  refine ⟨fun _ => ⟨⟨plB_ints (n := 59), plB_ints (n := 59)⟩, fun bo hbo => ?_⟩, fun h => nomatch h⟩
  obtain rfl : bo = true := hbo.mpr rfl
  exact hk
def T_fields : DSp := fun ds kk _ => ds = [] ∧ kk (.sh (.bl true))
theorem w_fields (CS : Addr) : Deep [T_Solution CS, T_isC CS] N__law_fields b__law_fields T_fields := by
  rintro _ kk xx ⟨rfl, hk⟩
  have pl1 : plB 60 (.sq false [.sq false [.int 0, .int (-2)], .int 3]) = true := by decide +kernel
  have pl2 : plB 60 (.sq false [.int 0, .int (-1), .int 5]) = true := by decide +kernel
  refine ⟨_, _, rfl, _, _, rfl, ⟨pl1, pl1⟩, fun _ => ⟨_, rfl, fun _ => ⟨⟨pl2, pl2⟩, fun bo hbo => ?_⟩, fun h => nomatch h⟩, fun h => absurd rfl h⟩
  obtain rfl : bo = true := hbo.mpr rfl
  exact hk
end K00
set_option Elab.async false
set_option linter.all false
set_option maxRecDepth 100000
set_option maxHeartbeats 4000000
set_option pp.maxSteps 800
set_option exponentiation.threshold 50000
/-! k02: the law. -/
namespace K00
open PySem PySem.Spec PyProof.Rows L2 DL EL
/-! law(script): slots script=0 head=1 many=2 width=3 question=4 one=5 table=6 right=7 hows=8 told=9 point=10 bar=11 turned=12 other=13 spoilt=14 again=15; calls _law_cell/2 _law_digits/2 _law_question/4 _law_asked/3 _law_turned/2 _law_changed/5 _law_fields/0:fn0 -/
def N_law : List Str := ["script", "head", "many", "width", "question", "one", "table", "right", "hows", "told", "point", "bar", "turned", "other", "spoilt", "again"]
def fs_law : List Fk := ["_law_cell", "_law_digits", "_law_question", "_law_asked", "_law_turned", "_law_changed", ⟨"_law_fields", .fn0⟩]
def b_law : Xb := (.cons (.set 1 false [] (.call 1 (.cons (.call 0 (.cons (.var 0) (.cons (.int 0) .nil))) (.cons (.lst (.cons (.int 8) (.cons (.int 100) (.cons (.int 80) (.cons (.int 14) (.cons (.int 8) (.cons (.int 3) .nil))))))) .nil))))
 (.cons (.set 2 false [] (.itu (.cmp .eq (.ixn (.var 1) 0) (.int 5)) (.bin .add (.int 1) (.ixn (.var 1) 1)) (.bin .add (.int 1) (.bin .mod (.bi .int (.cons (.bin .add (.ixn (.var 1) 1) (.int 3)) .nil)) (.int 7)))))
 (.cons (.set 3 false [] (.itu (.cmp .eq (.ixn (.var 1) 0) (.int 5)) (.bin .add (.int 1) (.ixn (.var 1) 2)) (.bin .add (.int 1) (.bin .mod (.bi .int (.cons (.ixn (.var 1) 2) .nil)) (.int 7)))))
 (.cons (.set 4 false [] (.call 2 (.cons (.var 0) (.cons (.var 1) (.cons (.var 2) (.cons (.var 3) .nil))))))
 (.cons (.set 6 false [] (.lc 5 (.ixn (.var 5) 0) (.sq (.var 4))))
 (.cons (.set 7 false [] (.lc 5 (.ixn (.var 5) 1) (.sq (.var 4))))
 (.cons (.set 8 false [] (.call 1 (.cons (.call 0 (.cons (.var 0) (.cons (.int 14) .nil))) (.cons (.lst (.cons (.int 8) (.cons (.int 8) (.cons (.int 8) .nil)))) .nil))))
 (.cons (.set 9 false [] (.call 3 (.cons (.var 6) (.cons (.var 7) (.cons (.ixn (.var 8) 0) .nil)))))
 (.cons (.ite [] (.cmp .is (.var 9) .non) (.cons (.ret [] (.bl false))
 .nil) .nil)
 (.cons (.set 10 false [] (.fld (.var 9) "point"))
 (.cons (.set 11 false [] (.fld (.var 9) "bar"))
 (.cons (.itj [4, 5, 12, 13, 14, 15] [] (.and (.cons (.cmp .le (.var 2) (.int 80)) (.cons (.or (.cons (.cmp .ne (.ixn (.var 1) 0) (.int 5)) (.cons (.cmp .eq (.ixn (.var 1) 5) (.int 0)) .nil))) .nil))) (.cons (.set 12 false [] (.call 4 (.cons (.var 6) (.cons (.var 7) .nil))))
 (.cons (.set 13 false [] (.call 3 (.cons (.var 12) (.cons (.bin .add (.rep (.lst (.cons (.int 0) .nil)) (.var 3)) (.lst (.cons (.int 1) .nil))) (.cons (.ixn (.var 8) 1) .nil)))))
 (.cons (.ite [] (.or (.cons (.cmp .is (.var 13) .non) (.cons (.cmp .eq (.cmp .is (.fld (.var 13) "point") .non) (.cmp .is (.var 10) .non)) .nil))) (.cons (.ret [] (.bl false))
 .nil) .nil)
 .nil))) .nil)
 (.cons (.set 14 false [] (.call 1 (.cons (.call 0 (.cons (.var 0) (.cons (.int 15) .nil))) (.cons (.lst (.cons (.var 2) (.cons (.var 3) (.cons (.int 6) .nil)))) .nil))))
 (.cons (.ite [] (.not (.call 5 (.cons (.var 6) (.cons (.var 7) (.cons (.ixn (.var 14) 0) (.cons (.ixn (.var 14) 1) (.cons (.ix (.lst (.cons (.int 1) (.cons (.neg (.int 1)) (.cons (.int 2) (.cons (.neg (.int 3)) (.cons (.int 7) (.cons (.int 1000) .nil))))))) (.ixn (.var 14) 2)) .nil))))))) (.cons (.ret [] (.bl false))
 .nil) .nil)
 (.cons (.itj [0, 1, 2, 3, 4, 5, 6, 7, 8, 12, 13, 14, 15] [] (.cmp .ne (.ixn (.var 1) 0) (.int 5)) (.cons (.set 15 false [] (.call 3 (.cons (.var 6) (.cons (.var 7) (.cons (.ixn (.var 8) 2) .nil)))))
 (.cons (.ite [] (.or (.cons (.cmp .is (.var 15) .non) (.cons (.cmp .ne (.fld (.var 15) "point") (.var 10)) (.cons (.cmp .ne (.fld (.var 15) "bar") (.var 11)) .nil)))) (.cons (.ret [] (.bl false))
 .nil) .nil)
 .nil)) .nil)
 (.cons (.ret [] (.and (.cons (.cmp .eq (.fld (.var 9) "point") (.var 10)) (.cons (.cmp .eq (.fld (.var 9) "bar") (.var 11)) (.cons (.call0 6) .nil)))))
 .nil))))))))))))))))
theorem qq_mono {w w' bb h : Nat} (hw : w ≤ w') : QQ w bb h ≤ QQ w' bb h := by
  unfold QQ
  refine Nat.mul_le_mul (Nat.le_trans (Nat.pow_le_pow_left (by omega) _) (Nat.pow_le_pow_right (by omega) hw)) (Nat.pow_le_pow_right (by decide) ?_)
  have := Nat.mul_le_mul_left bb (show w + 1 ≤ w' + 1 by omega)
  omega
/-- how many, how great -/
def Reg (n w B1 B2 : Nat) : Prop := (n ≤ 128 ∧ w ≤ 80 ∧ B1 ≤ 2 ^ 32 ∧ B2 ≤ 2 ^ 101) ∨ (n ≤ 8 ∧ w ≤ 7 ∧ B1 ≤ 2 ^ 345 ∧ B2 ≤ 2 ^ 680)
theorem reg_sz {n w B1 B2 : Nat} (r : Reg n w B1 B2) : ∃ bb h, B1 ≤ 2 ^ bb ∧ B2 ≤ 2 ^ bb * 2 ^ h ∧ n * (QQ w bb h * 2 ^ (bb + h)) < 2 ^ 4400 := by
  rcases r with ⟨r1, r2, r3, r4⟩ | ⟨r1, r2, r3, r4⟩
  · refine ⟨32, 69, r3, by rw [← Nat.pow_add]; exact r4, ?_⟩
    refine Nat.lt_of_le_of_lt (Nat.mul_le_mul r1 (Nat.mul_le_mul_right _ (qq_mono r2))) ?_
    unfold QQ
    decide +kernel
  · refine ⟨345, 335, r3, by rw [← Nat.pow_add]; exact r4, ?_⟩
    refine Nat.lt_of_le_of_lt (Nat.mul_le_mul r1 (Nat.mul_le_mul_right _ (qq_mono r2))) ?_
    unfold QQ
    decide +kernel
structure Sized (T : List (List Int)) (b : List Int) (n w B1 B2 : Nat) : Prop where
  n1 : T.length = n
  n2 : b.length = n
  n3 : ∀ r ∈ T, r.length = w ∧ ∀ x ∈ r, x.natAbs ≤ B1
  b2 : ∀ x ∈ b, x.natAbs ≤ B2
theorem Sized.row {T : List (List Int)} {b : List Int} {n w B1 B2 k : Nat} (s : Sized T b n w B1 B2) (hk : k < n) : (rowAt T k).length = w ∧ ∀ x ∈ rowAt T k, x.natAbs ≤ B1 := by
  have h : k < T.length := by rw [s.n1]; exact hk
  have e : rowAt T k = T[k] := by show T.getD k [] = _; rw [List.getD_eq_getElem?_getD, List.getElem?_eq_getElem h]; rfl
  rw [e]
  exact s.n3 _ (List.getElem_mem h)
theorem Sized.at2 {T : List (List Int)} {b : List Int} {n w B1 B2 k j : Nat} (s : Sized T b n w B1 B2) (hk : k < n) : (aT T k j).natAbs ≤ B1 := getD_b (P := fun x => x.natAbs ≤ B1) (s.row hk).2 (Nat.zero_le _) j
theorem Sized.tbl {T : List (List Int)} {b : List Int} {n w B1 B2 : Nat} (s : Sized T b n w B1 B2) (n0 : 0 < n) (nb : n ≤ 200) (wb : w ≤ 200) (h1 : B1 < 2 ^ 4400) (h2 : B2 < 2 ^ 4400) : Tbl T b n w :=
  ⟨s.n1, s.n2, fun k hk => (s.row hk).1, n0, nb, wb, fun k hk x hx => Nat.lt_of_le_of_lt ((s.row hk).2 x hx) h1, fun x hx => Nat.lt_of_le_of_lt (s.b2 x hx) h2⟩
theorem Sized.nice {T : List (List Int)} {b : List Int} {n w B1 B2 : Nat} (s : Sized T b n w B1 B2) (r : Reg n w B1 B2) : ∃ bb h r0, Nice T b n w bb h r0 := by
  obtain ⟨bb, h, h1, h2, h3⟩ := reg_sz r
  refine ⟨bb, h, n, s.n1, s.n2, fun k hk => (s.row hk).1, fun k hk c _ => ?_, fun k hk => ?_, h3⟩
  · rw [if_neg (by omega), Nat.mul_one]
    exact Nat.le_trans (s.at2 hk) h1
  · exact Nat.le_trans (getD_b (P := fun x => x.natAbs ≤ B2) s.b2 (Nat.zero_le _) k) h2
/-- the question turned about -/
theorem Sized.turn {T : List (List Int)} {b : List Int} {n w B1 B2 : Nat} (s : Sized T b n w B1 B2) (r : Reg (w + 1) n B1 B2) : ∃ bb h r0, Nice (turnT T b w) (turnB w) (w + 1) n bb h r0 := by
  obtain ⟨bb, h, h1, h2, h3⟩ := reg_sz r
  refine ⟨bb, h, w, by unfold turnT; simp, by unfold turnB; simp, fun k hk => ?_, fun k hk c hc => ?_, fun k hk => ?_, h3⟩
  · unfold turnT
    by_cases e : k < w
    · rw [List.getD_eq_getElem?_getD, List.getElem?_append_left (by simpa using e), List.getElem?_map, List.getElem?_range e]
      show (T.map _).length = n
      rw [List.length_map, s.n1]
    · have e : k = w := by omega
      rw [e, List.getD_eq_getElem?_getD, List.getElem?_append_right (by simp)]
      simp [s.n2]
  · show (aT (turnT T b w) k c).natAbs ≤ _
    by_cases e : k < w
    · rw [turn_at e (by rw [s.n1]; exact hc), if_neg (by omega), Nat.mul_one]
      exact Nat.le_trans (s.at2 hc) h1
    · have e : k = w := by omega
      rw [e, turn_rt, if_pos rfl]
      exact Nat.le_trans (getD_b (P := fun x => x.natAbs ≤ B2) s.b2 (Nat.zero_le _) c) h2
  · rw [turnB_at]
    refine Nat.le_trans ?_ (Nat.mul_pos (p2 bb) (p2 h))
    split <;> decide
theorem Sized.turn_tbl {T : List (List Int)} {b : List Int} {n w B1 B2 : Nat} (s : Sized T b n w B1 B2) (hw : w < 200) (hn : n ≤ 200) (h1 : B1 < 2 ^ 4400) (h2 : B2 < 2 ^ 4400) : Tbl (turnT T b w) (turnB w) (w + 1) n := by
  have row : ∀ r ∈ turnT T b w, r.length = n ∧ ∀ x ∈ r, Bd 4400 x := fun r hr => by
    unfold turnT at hr
    rcases List.mem_append.mp hr with hr | hr
    · obtain ⟨j, hj, rfl⟩ := List.mem_map.mp hr
      refine ⟨by rw [List.length_map, s.n1], fun x hx => ?_⟩
      obtain ⟨q, hq, rfl⟩ := List.mem_map.mp hx
      exact Nat.lt_of_le_of_lt (getD_b (P := fun x => x.natAbs ≤ B1) (s.n3 q hq).2 (Nat.zero_le _) j) h1
    · rw [List.mem_singleton.mp hr]
      exact ⟨s.n2, fun x hx => Nat.lt_of_le_of_lt (s.b2 x hx) h2⟩
  have len : (turnT T b w).length = w + 1 := by unfold turnT; simp
  have at_ : ∀ k, k < w + 1 → rowAt (turnT T b w) k ∈ turnT T b w := fun k hk => by
    show (turnT T b w).getD k [] ∈ _
    rw [List.getD_eq_getElem?_getD, List.getElem?_eq_getElem (by omega)]
    exact List.getElem_mem _
  refine ⟨len, by unfold turnB; simp, fun k hk => (row _ (at_ k hk)).1, Nat.succ_pos w, by omega, hn, fun k hk => (row _ (at_ k hk)).2, fun x hx => ?_⟩
  unfold turnB at hx
  rcases List.mem_append.mp hx with hx | hx
  · rw [(List.mem_replicate.mp hx).2]; exact bd_zero
  · rw [List.mem_singleton.mp hx]
    show (1 : Int).natAbs < 2 ^ 4400
    exact Nat.one_lt_two_pow (by decide)
theorem Sized.ch {T : List (List Int)} {b : List Int} {n w B1 B2 p c : Nat} {m : Int} (s : Sized T b n w B1 B2) (hp : p < n) (hm : m.natAbs ≤ 1000) : Sized (chT T p c m) b n w (B1 + 1000) B2 := by
  have r := s.row hp
  refine ⟨by unfold chT; rw [List.length_set]; exact s.n1, s.n2, fun q hq => ?_, s.b2⟩
  unfold chT at hq
  rcases List.mem_or_eq_of_mem_set hq with hq | rfl
  · exact ⟨(s.n3 q hq).1, fun x hx => Nat.le_add_right_of_le ((s.n3 q hq).2 x hx)⟩
  · refine ⟨by rw [List.length_set]; exact r.1, set_mem (P := fun x => x.natAbs ≤ B1 + 1000) (fun x hx => Nat.le_add_right_of_le (r.2 x hx)) ?_⟩
    have := getD_b (P := fun x => x.natAbs ≤ B1) r.2 (Nat.zero_le _) c
    show ((rowAt T p).getD c 0 + m).natAbs ≤ _
    have this : ((rowAt T p).getD c 0).natAbs ≤ B1 := this
    omega
theorem Sized.chb {T : List (List Int)} {b : List Int} {n w B1 B2 p : Nat} {m : Int} (s : Sized T b n w B1 B2) (hm : m.natAbs ≤ 1000) : Sized T (chBo b p m) n w B1 (B2 + 1000) := by
  refine ⟨s.n1, by unfold chBo; rw [List.length_set]; exact s.n2, s.n3, ?_⟩
  unfold chBo
  refine set_mem (P := fun x => x.natAbs ≤ B2 + 1000) (fun x hx => Nat.le_add_right_of_le (s.b2 x hx)) ?_
  have := getD_b (P := fun x => x.natAbs ≤ B2) s.b2 (Nat.zero_le _) p
  show (b.getD p 0 - m).natAbs ≤ _
  have this : (b.getD p 0).natAbs ≤ B2 := this
  omega
theorem reg_mono {n w B1 B2 B1' B2' : Nat} (r : Reg n w B1 B2) (h1 : B1' ≤ B1) (h2 : B2' ≤ B2) : Reg n w B1' B2' := by
  rcases r with ⟨r1, r2, r3, r4⟩ | ⟨r1, r2, r3, r4⟩
  · exact .inl ⟨r1, r2, Nat.le_trans h1 r3, Nat.le_trans h2 r4⟩
  · exact .inr ⟨r1, r2, Nat.le_trans h1 r3, Nat.le_trans h2 r4⟩
theorem reg_lt {n w B1 B2 : Nat} (r : Reg n w B1 B2) : B1 < 2 ^ 4400 ∧ B2 < 2 ^ 4400 := by
  rcases r with ⟨r1, r2, r3, r4⟩ | ⟨r1, r2, r3, r4⟩
  · exact ⟨Nat.lt_of_le_of_lt r3 (Nat.pow_lt_pow_right (by decide) (by decide)), Nat.lt_of_le_of_lt r4 (Nat.pow_lt_pow_right (by decide) (by decide))⟩
  · exact ⟨Nat.lt_of_le_of_lt r3 (Nat.pow_lt_pow_right (by decide) (by decide)), Nat.lt_of_le_of_lt r4 (Nat.pow_lt_pow_right (by decide) (by decide))⟩
theorem Sized.chok {T : List (List Int)} {b : List Int} {n w B1 B2 p c : Nat} {m : Int} (s : Sized T b n w B1 B2) (hp : p < n) (hc : c < w) (hm : m.natAbs ≤ 1000) (hn : n ≤ 200) (hw : w ≤ 200) (r : Reg n w (B1 + 2000) (B2 + 2000)) : ChOk T b n w p c m := by
  have l := reg_lt r
  have s2 := s.ch (c := c) hp hm
  have s3 := s2.chb (p := p) hm
  exact ⟨hp, hc, s.tbl (by omega) hn hw (by omega) (by omega), s2.tbl (by omega) hn hw (by omega) (by omega), s3.tbl (by omega) hn hw (by omega) (by omega), s.nice (reg_mono r (by omega) (by omega)), s2.nice (reg_mono r (by omega) (by omega)), s3.nice (reg_mono r (by omega) (by omega))⟩
theorem dig3 {r : List Int} {a b c : Int} (h : Digs r [a, b, c]) : ∃ x y z, r = [x, y, z] ∧ (0 ≤ x ∧ x < a) ∧ (0 ≤ y ∧ y < b) ∧ 0 ≤ z ∧ z < c := by
  have hl := h.1
  match r, hl with
  | [x, y, z], _ => exact ⟨x, y, z, rfl, h.2 0 x a rfl rfl, h.2 1 y b rfl rfl, h.2 2 z c rfl rfl⟩
theorem dig6 {r : List Int} {a b c d e f : Int} (h : Digs r [a, b, c, d, e, f]) : ∃ x0 x1 x2 x3 x4 x5, r = [x0, x1, x2, x3, x4, x5] ∧ (0 ≤ x0 ∧ x0 < a) ∧ (0 ≤ x1 ∧ x1 < b) ∧ (0 ≤ x2 ∧ x2 < c) ∧ (0 ≤ x3 ∧ x3 < d) ∧ (0 ≤ x4 ∧ x4 < e) ∧ 0 ≤ x5 ∧ x5 < f := by
  have hl := h.1
  match r, hl with
  | [x0, x1, x2, x3, x4, x5], _ => exact ⟨x0, x1, x2, x3, x4, x5, rfl, h.2 0 x0 a rfl rfl, h.2 1 x1 b rfl rfl, h.2 2 x2 c rfl rfl, h.2 3 x3 d rfl rfl, h.2 4 x4 e rfl rfl, h.2 5 x5 f rfl rfl⟩
end K00
set_option Elab.async false
set_option linter.all false
set_option maxRecDepth 100000
set_option maxHeartbeats 4000000
set_option pp.maxSteps 800
set_option exponentiation.threshold 50000
/-! k02: the law. -/
namespace K00
open PySem PySem.Spec PyProof.Rows L2 DL EL
abbrev mG : List Int := [1, -1, 2, -3, 7, 1000]
def T_law : DSp := fun ds kk _ => ∃ ns : List Int, ds = [.scr ns] ∧ kk (.sh (.bl true))
def pD : Sum (List Int) (List Int × Int) → D
  | .inl _ => .non
  | .inr x => rw_ false false x.1 x.2
def bD : Sum (List Int) (List Int × Int) → D
  | .inl bar => .sq false (bar.map .int)
  | .inr _ => .non
theorem sol_eq {CS : Addr} (x : Sum (List Int) (List Int × Int)) : solD CS x = solI CS (pD x) (bD x) := by cases x <;> rfl
theorem plRow {ps : List Int} {q : Int} : plB 60 (rw_ false false ps q) = true := plB_sq (n := 59) fun d hd => by
  rcases List.mem_cons.mp hd with rfl | hd
  · exact plB_ints (n := 58)
  · rw [List.mem_singleton.mp hd]; exact plB_int
theorem cnE {f : S → Prop} {s : S} (h : f s) : (Cn.e f).fn s := h
theorem keepN {r : S} {δ : List S} {k : List S → Prop} (h : k δ) : keepW [] r δ k := h
theorem nxW {Γ : List DSp} {r : Xb} {E : Ed} {δ δ' : List S} (e : δ = δ') (h : wpb Γ r δ' E) : Ed.nx { E with nx := fun δ' => wpb Γ r δ' E } δ := by rw [e]; exact h
theorem wpb_eq {Γ : List DSp} {b : Xb} {δ δ' : List S} {E : Ed} (e : δ = δ') (h : wpb Γ b δ' E) : wpb Γ b δ E := by rw [e]; exact h
theorem turn_data (width : Nat) : (List.replicate (Int.toNat (width : Int)) [D.int 0]).flatten ++ [D.int 1] = (turnB width).map .int := by
  rw [repI, Int.toNat_natCast]
  unfold turnB
  rw [List.map_append]; rfl
/-- the question turned about, asked -/
theorem law_turn (CS : Addr) {T : List (List Int)} {b : List Int} {n width : Nat} {E : Ed} {s0 s1 s2 s4 s5 s9 s11 s14 s15 : S} {g0 g1 g2 : Int} {y : Sum (List Int) (List Int × Int)} {P : D} (Tb : Tbl T b n width) (hw : width ≤ 80) (hy2 : ∀ k x, k (.sh (solD CS y)) → T_asked CS [.sq true ((turnT T b width).map (rD true)), .sq true ((turnB width).map .int), .int g1] k x)
    (hP : isNon (pD y) ≠ isNon P) (hnx : ∀ s12 s13, E.nx [s0, s1, s2, .sh (.int (width : Int)), s4, s5, .sh (.sq true (T.map (rD true))), .sh (.sq true (b.map .int)), .sh (.sq true [.int g0, .int g1, .int g2]), s9, .sh P, s11, s12, s13, s14, s15]) :
    wpb [T_cell, T_digits, T_question, T_asked CS, T_lturned, T_changed CS, T_fields] (.cons (.set 12 false [] (.call 4 (.cons (.var 6) (.cons (.var 7) .nil))))
 (.cons (.set 13 false [] (.call 3 (.cons (.var 12) (.cons (.bin .add (.rep (.lst (.cons (.int 0) .nil)) (.var 3)) (.lst (.cons (.int 1) .nil))) (.cons (.ixn (.var 8) 1) .nil)))))
 (.cons (.ite [] (.or (.cons (.cmp .is (.var 13) .non) (.cons (.cmp .eq (.cmp .is (.fld (.var 13) "point") .non) (.cmp .is (.var 10) .non)) .nil))) (.cons (.ret [] (.bl false))
 .nil) .nil)
 .nil))) [s0, s1, s2, .sh (.int (width : Int)), s4, s5, .sh (.sq true (T.map (rD true))), .sh (.sq true (b.map .int)), .sh (.sq true [.int g0, .int g1, .int g2]), s9, .sh P, s11, .no, .no, s14, s15] E := by
  refine ⟨T, b, n, width, rfl, Tb, ⟨by omega, by omega, by show 1 * Int.toNat (width : Int) ≤ _; omega⟩, by show (List.replicate (Int.toNat (width : Int)) [D.int 0]).flatten.length + 1 ≤ _; rw [repI, List.length_map, List.length_replicate]; omega, ⟨?_⟩⟩
  show T_asked CS [_, .sq true ((List.replicate (Int.toNat (width : Int)) [D.int 0]).flatten ++ [D.int 1]), _] _ _
  rw [turn_data]
  refine hy2 _ _ ?_
  rw [sol_eq]
  exact ⟨fun h => absurd h hP, fun _ => hnx _ _⟩
theorem w_law (CS : Addr) : Deep [T_cell, T_digits, T_question, T_asked CS, T_lturned, T_changed CS, T_fields] N_law b_law T_law := by
  rintro _ kk xx ⟨ns, rfl, hk⟩
  refine ⟨ns, 0, rfl, by decide, by decide, fun v => ⟨v, true, [8, 100, 80, 14, 8, 3], rfl, (show 6 ≤ 10000 by decide), by decide, fun r hr => ?_⟩⟩
  obtain ⟨x0, x1, x2, x3, x4, x5, rfl, ⟨a0, a0'⟩, ⟨a1, a1'⟩, ⟨a2, a2'⟩, ha3, ha4, a5, a5'⟩ := dig6 hr
  refine ⟨fun r => ∃ many : Nat, r = .sh (.int (many : Int)) ∧ 1 ≤ many ∧ many ≤ 100 ∧ (x0 ≠ 5 → many ≤ 7), ⟨fun h => ⟨(1 + x1).toNat, by show S.sh (.int (1 + x1)) = .sh (.int ((1 + x1).toNat : Int)); rw [Int.toNat_of_nonneg (by omega)], by omega, by omega, fun z => absurd h z⟩, fun h => ⟨by decide, (1 + (x1 + 3) % 7).toNat, by show S.sh (.int (1 + (x1 + 3) % 7)) = .sh (.int ((1 + (x1 + 3) % 7).toNat : Int)); rw [Int.toNat_of_nonneg (by omega)], by omega, by omega, fun z => by omega⟩⟩, fun r hr => ?_⟩
  obtain ⟨many, rfl, m1, m2, m3⟩ := hr
  refine ⟨fun r => ∃ width : Nat, r = .sh (.int (width : Int)) ∧ 1 ≤ width ∧ width ≤ 80 ∧ (x0 ≠ 5 → width ≤ 7), ⟨fun h => ⟨(1 + x2).toNat, by show S.sh (.int (1 + x2)) = .sh (.int ((1 + x2).toNat : Int)); rw [Int.toNat_of_nonneg (by omega)], by omega, by omega, fun z => absurd h z⟩, fun h => ⟨by decide, (1 + x2 % 7).toNat, by show S.sh (.int (1 + x2 % 7)) = .sh (.int ((1 + x2 % 7).toNat : Int)); rw [Int.toNat_of_nonneg (by omega)], by omega, by omega, fun z => by omega⟩⟩, fun r hr => ?_⟩
  obtain ⟨width, rfl, w1, w2, w3⟩ := hr
  refine ⟨ns, x0, x1, x2, x3, x4, x5, many, width, rfl, ha3, ha4, ⟨m1, w1⟩, ⟨m2, w2⟩, w3, fun Q B1 B2 hQ hq h6 h5 => ?_⟩
  have S0 : Sized (Q.map (·.1)) (Q.map (·.2)) many width B1 B2 := ⟨by rw [List.length_map]; exact hQ, by rw [List.length_map]; exact hQ, fun r hr => by
    obtain ⟨q, hq', rfl⟩ := List.mem_map.mp hr
    exact ⟨(hq q hq').l, (hq q hq').a⟩, fun x hx => by
    obtain ⟨q, hq', rfl⟩ := List.mem_map.mp hx
    exact (hq q hq').b⟩
  have R0 : Reg many width (B1 + 2000) (B2 + 2000) := by
    by_cases h : x0 = 6
    · exact .inr ⟨by have := m3 (by omega); omega, by have := w3 (by omega); omega, (h6 h).1, (h6 h).2⟩
    · exact .inl ⟨by omega, w2, (h5 h).1, (h5 h).2⟩
  have R1 : many ≤ 80 → Reg (width + 1) many (B1 + 2000) (B2 + 2000) := fun h80 => by
    by_cases h : x0 = 6
    · exact .inr ⟨by have := w3 (by omega); omega, by have := m3 (by omega); omega, (h6 h).1, (h6 h).2⟩
    · exact .inl ⟨by omega, h80, (h5 h).1, (h5 h).2⟩
  have lt := reg_lt R0
  have Tb := S0.tbl (by omega) (by omega) (by omega) (by omega) (by omega)
  obtain ⟨bb, hh, r0, N0⟩ := S0.nice (reg_mono R0 (Nat.le_add_right _ _) (Nat.le_add_right _ _))
  have eT : Q.map (fun q => rD true q.1) = (Q.map (·.1)).map (rD true) := by rw [List.map_map]; rfl
  have eB : Q.map (fun q => D.int q.2) = (Q.map (·.2)).map .int := by rw [List.map_map]; rfl
  refine lcw hD (fun q => rD true q.1) (by omega) (fun q _ => rfl) ?_
  refine lcw hD (fun q => .int q.2) (by omega) (fun q _ => rfl) ?_
  rw [eT, eB]
  generalize Q.map (·.1) = T at *
  generalize Q.map (·.2) = b at *
  clear hq hQ eT eB
  refine ⟨ns, 14, rfl, by decide, by decide, fun v => ⟨v, true, [8, 8, 8], rfl, (show 3 ≤ 10000 by decide), by decide, fun r hr => ?_⟩⟩
  obtain ⟨g0, g1, g2, rfl, ⟨c0, -⟩, ⟨c1, -⟩, c2, -⟩ := dig3 hr
  refine ⟨T, b, many, width, bb, hh, r0, g0, rfl, Tb, N0, c0, ?_⟩
  have ok := N0.sol (by omega)
  have hasked : ∀ how : Int, 0 ≤ how → ∀ k x, k (.sh (solD CS (solL T b width))) → T_asked CS [.sq true (T.map (rD true)), .sq true (b.map .int), .int how] k x := fun how h0 k x q => ⟨T, b, many, width, bb, hh, r0, how, rfl, Tb, N0, h0, q⟩
  have hturn : many ≤ 80 → ∃ y : Sum (List Int) (List Int × Int), isPt y = !isPt (solL T b width) ∧ ∀ how : Int, 0 ≤ how → ∀ k x, k (.sh (solD CS y)) → T_asked CS [.sq true ((turnT T b width).map (rD true)), .sq true ((turnB width).map .int), .int how] k x := fun h80 => by
    obtain ⟨bb, hh, r0, N1⟩ := S0.turn (reg_mono (R1 h80) (Nat.le_add_right _ _) (Nat.le_add_right _ _))
    have T1 := S0.turn_tbl (by omega) (by omega) (by omega) (by omega)
    exact ⟨_, turn_ok S0.n1 ok (N1.sol (by omega)), fun how h0 k x q => ⟨_, _, _, _, bb, hh, r0, how, rfl, T1, N1, h0, q⟩⟩
  have hch : ∀ (p c m : Int), 0 ≤ p → p < many → 0 ≤ c → c < width → m.natAbs ≤ 1000 → ∀ k x, k (.sh (.bl true)) → T_changed CS [.sq true (T.map (rD true)), .sq true (b.map .int), .int p, .int c, .int m] k x := fun p c m p0 p1 c0 c1 hm k x q => ⟨T, b, many, width, p.toNat, c.toNat, m, by rw [Int.toNat_of_nonneg p0, Int.toNat_of_nonneg c0], S0.chok (by omega) (by omega) hm (by omega) (by omega) R0, q⟩
  clear ok N0 S0 R0 R1 lt h6 h5
  generalize hx : solL T b width = x at *
  rw [sol_eq]
  refine cnE ?_
  refine keepN ?_
  refine nxW (δ' := [.sh (.scr ns), .sh (.sq true [.int x0, .int x1, .int x2, .int x3, .int x4, .int x5]), .sh (.int (many : Int)), .sh (.int (width : Int)), .sh (.sq true (Q.map hD)), .no, .sh (.sq true (T.map (rD true))), .sh (.sq true (b.map .int)), .sh (.sq true [.int g0, .int g1, .int g2]), .sh (solI CS (pD x) (bD x)), .no, .no, .no, .no, .no, .no]) (by kernel_rfl) ?_
  cases x with
  | inl bar =>
    have plp : plB 60 (.non) = true := rfl
    have plq : plB 60 (.sq false (bar.map .int)) = true := plB_ints (n := 59)
    refine join (fun δ => True ∧ δ = [.sh (.scr ns), .sh (.sq true [.int x0, .int x1, .int x2, .int x3, .int x4, .int x5]), .sh (.int (many : Int)), .sh (.int (width : Int)), .no, .no, .sh (.sq true (T.map (rD true))), .sh (.sq true (b.map .int)), .sh (.sq true [.int g0, .int g1, .int g2]), .sh (solI CS (.non) (.sq false (bar.map .int))), .sh (.non), .sh (.sq false (bar.map .int)), .no, .no, .no, .no]) ?_ fun δ hδ => ?_
    · refine ⟨fun h80 => ⟨fun _ => ⟨fun _ => ?_, fun _ => ⟨trivial, by kernel_rfl⟩⟩, fun _ => ?_⟩, fun _ => ⟨trivial, by kernel_rfl⟩⟩
      all_goals
        have h80 : (many : Int) ≤ 80 := h80
        obtain ⟨y, hy, hy2⟩ := hturn (by omega)
        refine law_turn CS (n := many) Tb w2 (fun k x q => hy2 g1 c1 k x q) ?_ fun s12 s13 => ⟨trivial, by kernel_rfl⟩
        cases y with
        | inr z => exact (show (false : Bool) ≠ true from by decide)
        | inl z => exact absurd (show (false : Bool) = true from hy) (by decide)
    obtain ⟨-, rfl⟩ := hδ
    refine ⟨ns, 15, rfl, by decide, by decide, fun v => ⟨v, true, [(many : Int), (width : Int), 6], rfl, (show 3 ≤ 10000 by decide), fun s hs => ?_, fun r hr => ?_⟩⟩
    · simp only [List.mem_cons, List.not_mem_nil, or_false] at hs
      rcases hs with rfl | rfl | rfl <;> omega
    obtain ⟨s0, s1, s2, rfl, ⟨d0, d0'⟩, ⟨d1, d1'⟩, d2, d2'⟩ := dig3 hr
    have mb := mZ (ns := mG) (P := fun x => x.natAbs ≤ 1000) (by decide) d2 d2'
    refine ⟨_, aZ (ns := mG) d2 d2', ⟨hch _ _ _ d0 d0' d1 d1' mb _ _ ⟨fun _ => ?_, fun h => nomatch h⟩⟩⟩
    refine join (fun δ => True ∧ δ = [.no, .no, .no, .no, .no, .no, .no, .no, .no, .sh (solI CS (.non) (.sq false (bar.map .int))), .sh (.non), .sh (.sq false (bar.map .int)), .no, .no, .no, .no]) ⟨fun _ => ⟨trivial, by kernel_rfl⟩, fun _ => ⟨hasked g2 c2 _ _ ?_⟩⟩ fun δ hδ => ?_
    · rw [sol_eq]
      exact ⟨⟨plp, plp⟩, fun _ => ⟨⟨plq, plq⟩, fun _ => ⟨trivial, by kernel_rfl⟩, fun h => absurd rfl h⟩, fun h => absurd rfl h⟩
    obtain ⟨-, rfl⟩ := hδ
    refine ⟨⟨plp, plp⟩, fun bo hbo => ?_⟩
    obtain rfl : bo = true := hbo.mpr rfl
    refine ⟨fun _ => ⟨⟨plq, plq⟩, fun bo hbo => ?_⟩, fun h => nomatch h⟩
    obtain rfl : bo = true := hbo.mpr rfl
    exact ⟨fun _ => ⟨rfl, hk⟩, fun h => nomatch h⟩
  | inr y0 =>
    obtain ⟨ps0, q0⟩ := y0
    have plp : plB 60 (rw_ false false ps0 q0) = true := plRow
    have plq : plB 60 (.non) = true := rfl
    refine join (fun δ => True ∧ δ = [.sh (.scr ns), .sh (.sq true [.int x0, .int x1, .int x2, .int x3, .int x4, .int x5]), .sh (.int (many : Int)), .sh (.int (width : Int)), .no, .no, .sh (.sq true (T.map (rD true))), .sh (.sq true (b.map .int)), .sh (.sq true [.int g0, .int g1, .int g2]), .sh (solI CS (rw_ false false ps0 q0) (.non)), .sh (rw_ false false ps0 q0), .sh (.non), .no, .no, .no, .no]) ?_ fun δ hδ => ?_
    · refine ⟨fun h80 => ⟨fun _ => ⟨fun _ => ?_, fun _ => ⟨trivial, by kernel_rfl⟩⟩, fun _ => ?_⟩, fun _ => ⟨trivial, by kernel_rfl⟩⟩
      all_goals
        have h80 : (many : Int) ≤ 80 := h80
        obtain ⟨y, hy, hy2⟩ := hturn (by omega)
        refine law_turn CS (n := many) Tb w2 (fun k x q => hy2 g1 c1 k x q) ?_ fun s12 s13 => ⟨trivial, by kernel_rfl⟩
        cases y with
        | inl z => exact (show (true : Bool) ≠ false from by decide)
        | inr z => exact absurd (show (true : Bool) = false from hy) (by decide)
    obtain ⟨-, rfl⟩ := hδ
    refine ⟨ns, 15, rfl, by decide, by decide, fun v => ⟨v, true, [(many : Int), (width : Int), 6], rfl, (show 3 ≤ 10000 by decide), fun s hs => ?_, fun r hr => ?_⟩⟩
    · simp only [List.mem_cons, List.not_mem_nil, or_false] at hs
      rcases hs with rfl | rfl | rfl <;> omega
    obtain ⟨s0, s1, s2, rfl, ⟨d0, d0'⟩, ⟨d1, d1'⟩, d2, d2'⟩ := dig3 hr
    have mb := mZ (ns := mG) (P := fun x => x.natAbs ≤ 1000) (by decide) d2 d2'
    refine ⟨_, aZ (ns := mG) d2 d2', ⟨hch _ _ _ d0 d0' d1 d1' mb _ _ ⟨fun _ => ?_, fun h => nomatch h⟩⟩⟩
    refine join (fun δ => True ∧ δ = [.no, .no, .no, .no, .no, .no, .no, .no, .no, .sh (solI CS (rw_ false false ps0 q0) (.non)), .sh (rw_ false false ps0 q0), .sh (.non), .no, .no, .no, .no]) ⟨fun _ => ⟨trivial, by kernel_rfl⟩, fun _ => ⟨hasked g2 c2 _ _ ?_⟩⟩ fun δ hδ => ?_
    · rw [sol_eq]
      exact ⟨⟨plp, plp⟩, fun _ => ⟨⟨plq, plq⟩, fun _ => ⟨trivial, by kernel_rfl⟩, fun h => absurd rfl h⟩, fun h => absurd rfl h⟩
    obtain ⟨-, rfl⟩ := hδ
    refine ⟨⟨plp, plp⟩, fun bo hbo => ?_⟩
    obtain rfl : bo = true := hbo.mpr rfl
    refine ⟨fun _ => ⟨⟨plq, plq⟩, fun bo hbo => ?_⟩, fun h => nomatch h⟩
    obtain rfl : bo = true := hbo.mpr rfl
    exact ⟨fun _ => ⟨rfl, hk⟩, fun h => nomatch h⟩
end K00
set_option Elab.async false
set_option linter.all false
set_option maxRecDepth 100000
set_option maxHeartbeats 0
set_option pp.maxSteps 1500
namespace K00
open PySem PySem.Spec PyProof.Rows L2 DL He
theorem sc_ratio : FnScope N_ratio ["top", "bottom"] (defScope s_ratio) := ⟨rfl, rfl, rfl, by decide +kernel, rfl, by decide +kernel, by decide +kernel⟩
theorem ch_ratio : chB ⟨N_ratio, defScope s_ratio, fs_ratio, true⟩ b_ratio (defBody s_ratio) = true := by decide +kernel
theorem sc_row : FnScope N_row ["tops", "line"] (defScope s_row) := ⟨rfl, rfl, rfl, by decide +kernel, rfl, by decide +kernel, by decide +kernel⟩
theorem ch_row : chB ⟨N_row, defScope s_row, fs_row, true⟩ b_row (defBody s_row) = true := by decide +kernel
theorem sc_row_of : FnScope N_row_of ["ratios"] (defScope s_row_of) := ⟨rfl, rfl, rfl, by decide +kernel, rfl, by decide +kernel, by decide +kernel⟩
theorem ch_row_of : chB ⟨N_row_of, defScope s_row_of, fs_row_of, true⟩ b_row_of (defBody s_row_of) = true := by decide +kernel
theorem sc_lowest : FnScope N_lowest ["numbers"] (defScope s_lowest) := ⟨rfl, rfl, rfl, by decide +kernel, rfl, by decide +kernel, by decide +kernel⟩
theorem ch_lowest : chB ⟨N_lowest, defScope s_lowest, fs_lowest, true⟩ b_lowest (defBody s_lowest) = true := by decide +kernel
theorem sc_cleared : FnScope N_cleared ["entries", "at", "column"] (defScope s_cleared) := ⟨rfl, rfl, rfl, by decide +kernel, rfl, by decide +kernel, by decide +kernel⟩
theorem ch_cleared : chB ⟨N_cleared, defScope s_cleared, fs_cleared, false⟩ b_cleared (defBody s_cleared) = true := by decide +kernel
theorem sc_free_entry : FnScope N_free_entry ["entries", "used", "column"] (defScope s_free_entry) := ⟨rfl, rfl, rfl, by decide +kernel, rfl, by decide +kernel, by decide +kernel⟩
theorem ch_free_entry : chB ⟨N_free_entry, defScope s_free_entry, fs_free_entry, false⟩ b_free_entry (defBody s_free_entry) = true := by decide +kernel
theorem sc_eliminated : FnScope N_eliminated ["entries", "width"] (defScope s_eliminated) := ⟨rfl, rfl, rfl, by decide +kernel, rfl, by decide +kernel, by decide +kernel⟩
theorem ch_eliminated : chB ⟨N_eliminated, defScope s_eliminated, fs_eliminated, false⟩ b_eliminated (defBody s_eliminated) = true := by decide +kernel
theorem sc_bar_of : FnScope N_bar_of ["entries", "pivots", "width"] (defScope s_bar_of) := ⟨rfl, rfl, rfl, by decide +kernel, rfl, by decide +kernel, by decide +kernel⟩
theorem ch_bar_of : chB ⟨N_bar_of, defScope s_bar_of, fs_bar_of, false⟩ b_bar_of (defBody s_bar_of) = true := by decide +kernel
theorem sc_solved : FnScope N_solved ["table", "right"] (defScope s_solved) := ⟨rfl, rfl, rfl, by decide +kernel, rfl, by decide +kernel, by decide +kernel⟩
theorem ch_solved : chB ⟨N_solved, defScope s_solved, fs_solved, false⟩ b_solved (defBody s_solved) = true := by decide +kernel
theorem sc__law_whole : FnScope N__law_whole ["value"] (defScope s__law_whole) := ⟨rfl, rfl, rfl, by decide +kernel, rfl, by decide +kernel, by decide +kernel⟩
theorem ch__law_whole : chB ⟨N__law_whole, defScope s__law_whole, fs__law_whole, false⟩ b__law_whole (defBody s__law_whole) = true := by decide +kernel
theorem sc__law_cell : FnScope N__law_cell ["script", "k"] (defScope s__law_cell) := ⟨rfl, rfl, rfl, by decide +kernel, rfl, by decide +kernel, by decide +kernel⟩
theorem ch__law_cell : chB ⟨N__law_cell, defScope s__law_cell, fs__law_cell, false⟩ b__law_cell (defBody s__law_cell) = true := by decide +kernel
theorem sc__law_digits : FnScope N__law_digits ["cell", "sizes"] (defScope s__law_digits) := ⟨rfl, rfl, rfl, by decide +kernel, rfl, by decide +kernel, by decide +kernel⟩
theorem ch__law_digits : chB ⟨N__law_digits, defScope s__law_digits, fs__law_digits, false⟩ b__law_digits (defBody s__law_digits) = true := by decide +kernel
theorem sc__law_gcd : FnScope N__law_gcd ["one", "two"] (defScope s__law_gcd) := ⟨rfl, rfl, rfl, by decide +kernel, rfl, by decide +kernel, by decide +kernel⟩
theorem ch__law_gcd : chB ⟨N__law_gcd, defScope s__law_gcd, fs__law_gcd, false⟩ b__law_gcd (defBody s__law_gcd) = true := by decide +kernel
theorem sc__law_is_row : FnScope N__law_is_row ["value", "size"] (defScope s__law_is_row) := ⟨rfl, rfl, rfl, by decide +kernel, rfl, by decide +kernel, by decide +kernel⟩
theorem ch__law_is_row : chB ⟨N__law_is_row, defScope s__law_is_row, fs__law_is_row, false⟩ b__law_is_row (defBody s__law_is_row) = true := by decide +kernel
theorem sc__law_numbers : FnScope N__law_numbers ["cell", "many", "most"] (defScope s__law_numbers) := ⟨rfl, rfl, rfl, by decide +kernel, rfl, by decide +kernel, by decide +kernel⟩
theorem ch__law_numbers : chB ⟨N__law_numbers, defScope s__law_numbers, fs__law_numbers, false⟩ b__law_numbers (defBody s__law_numbers) = true := by decide +kernel
theorem sc__law_band : FnScope N__law_band ["cell", "many", "width"] (defScope s__law_band) := ⟨rfl, rfl, rfl, by decide +kernel, rfl, by decide +kernel, by decide +kernel⟩
theorem ch__law_band : chB ⟨N__law_band, defScope s__law_band, fs__law_band, false⟩ b__law_band (defBody s__law_band) = true := by decide +kernel
theorem sc__law_equations : FnScope N__law_equations ["cell", "base", "many", "width"] (defScope s__law_equations) := ⟨rfl, rfl, rfl, by decide +kernel, rfl, by decide +kernel, by decide +kernel⟩
theorem ch__law_equations : chB ⟨N__law_equations, defScope s__law_equations, fs__law_equations, false⟩ b__law_equations (defBody s__law_equations) = true := by decide +kernel
theorem sc__law_sum : FnScope N__law_sum ["one", "two"] (defScope s__law_sum) := ⟨rfl, rfl, rfl, by decide +kernel, rfl, by decide +kernel, by decide +kernel⟩
theorem ch__law_sum : chB ⟨N__law_sum, defScope s__law_sum, fs__law_sum, false⟩ b__law_sum (defBody s__law_sum) = true := by decide +kernel
theorem sc__law_planted : FnScope N__law_planted ["table", "tops", "line"] (defScope s__law_planted) := ⟨rfl, rfl, rfl, by decide +kernel, rfl, by decide +kernel, by decide +kernel⟩
theorem ch__law_planted : chB ⟨N__law_planted, defScope s__law_planted, fs__law_planted, false⟩ b__law_planted (defBody s__law_planted) = true := by decide +kernel
theorem sc__law_question : FnScope N__law_question ["script", "head", "many", "width"] (defScope s__law_question) := ⟨rfl, rfl, rfl, by decide +kernel, rfl, by decide +kernel, by decide +kernel⟩
theorem ch__law_question : chB ⟨N__law_question, defScope s__law_question, fs__law_question, false⟩ b__law_question (defBody s__law_question) = true := by decide +kernel
theorem sc__law_right : FnScope N__law_right ["told", "table", "right"] (defScope s__law_right) := ⟨rfl, rfl, rfl, by decide +kernel, rfl, by decide +kernel, by decide +kernel⟩
theorem ch__law_right : chB ⟨N__law_right, defScope s__law_right, fs__law_right, false⟩ b__law_right (defBody s__law_right) = true := by decide +kernel
theorem sc__law_form : FnScope N__law_form ["table", "how"] (defScope s__law_form) := ⟨rfl, rfl, rfl, by decide +kernel, rfl, by decide +kernel, by decide +kernel⟩
theorem ch__law_form : chB ⟨N__law_form, defScope s__law_form, fs__law_form, false⟩ b__law_form (defBody s__law_form) = true := by decide +kernel
theorem sc__law_asked : FnScope N__law_asked ["table", "right", "how"] (defScope s__law_asked) := ⟨rfl, rfl, rfl, by decide +kernel, rfl, by decide +kernel, by decide +kernel⟩
theorem ch__law_asked : chB ⟨N__law_asked, defScope s__law_asked, fs__law_asked, false⟩ b__law_asked (defBody s__law_asked) = true := by decide +kernel
theorem sc__law_turned : FnScope N__law_turned ["table", "right"] (defScope s__law_turned) := ⟨rfl, rfl, rfl, by decide +kernel, rfl, by decide +kernel, by decide +kernel⟩
theorem ch__law_turned : chB ⟨N__law_turned, defScope s__law_turned, fs__law_turned, false⟩ b__law_turned (defBody s__law_turned) = true := by decide +kernel
theorem sc__law_changed : FnScope N__law_changed ["table", "right", "place", "column", "more"] (defScope s__law_changed) := ⟨rfl, rfl, rfl, by decide +kernel, rfl, by decide +kernel, by decide +kernel⟩
theorem ch__law_changed : chB ⟨N__law_changed, defScope s__law_changed, fs__law_changed, false⟩ b__law_changed (defBody s__law_changed) = true := by decide +kernel
theorem sc__law_fields : FnScope N__law_fields [] (defScope s__law_fields) := ⟨rfl, rfl, rfl, by decide +kernel, rfl, by decide +kernel, by decide +kernel⟩
theorem ch__law_fields : chB ⟨N__law_fields, defScope s__law_fields, fs__law_fields, false⟩ b__law_fields (defBody s__law_fields) = true := by decide +kernel
theorem sc_law : FnScope N_law ["script"] (defScope s_law) := ⟨rfl, rfl, rfl, by decide +kernel, rfl, by decide +kernel, by decide +kernel⟩
theorem ch_law : chB ⟨N_law, defScope s_law, fs_law, false⟩ b_law (defBody s_law) = true := by decide +kernel
/-! ### the head -/
theorem sc_Solution___init__ : FnScope ("self" :: N_Solution___init__) ["self", "point", "bar"] (defScope s_Solution___init__) := ⟨rfl, rfl, rfl, by decide +kernel, rfl, by decide +kernel, by decide +kernel⟩
theorem ch_Solution___init__ : chB ⟨"self" :: N_Solution___init__, defScope s_Solution___init__, fs_Solution___init__, false⟩ b_Solution___init__ (defBody s_Solution___init__) = true := by decide +kernel
theorem facts {P : Program} {w : World} {K : PySem.W.Frag} {h : Heap} {mg : Str → Option Value} {f : Addr} (X : K.In h) (G : h.Ns mainGlobals mg) (hfa : mg ("law" : Str) = some (.ref f)) (c : SaysM fa ex fn K) :
    ∃ fd : FuncData, (∀ (s : Shared) (v : Value), BindsTo s fd ⟨[v], []⟩ [("script", v)]) ∧ ∀ base : Heap, FnOk P w K mg base (L2N.CX P w) 6 f fd ["script"] (spD K T_law) := by
  obtain ⟨fd5, F5⟩ := c.def_ 0 (d := dTop "ratio" (top 5) [.int 1]) rfl
  obtain ⟨fd7, F7⟩ := c.def_ 1 (d := dTop "row" (top 7) [.int 1]) rfl
  obtain ⟨fd8, F8⟩ := c.def_ 2 (d := dTop "row_of" (top 8) []) rfl
  obtain ⟨fd10, F10⟩ := c.def_ 3 (d := dTop "lowest" (top 10) []) rfl
  obtain ⟨fd11, F11⟩ := c.def_ 4 (d := dTop "cleared" (top 11) []) rfl
  obtain ⟨fd12, F12⟩ := c.def_ 5 (d := dTop "free_entry" (top 12) []) rfl
  obtain ⟨fd13, F13⟩ := c.def_ 6 (d := dTop "eliminated" (top 13) []) rfl
  obtain ⟨fd15, F15⟩ := c.def_ 7 (d := dTop "bar_of" (top 15) []) rfl
  obtain ⟨fd16, F16⟩ := c.def_ 8 (d := dTop "solved" (top 16) []) rfl
  obtain ⟨fd18, F18⟩ := c.def_ 9 (d := dTop "_law_whole" (top 18) []) rfl
  obtain ⟨fd19, F19⟩ := c.def_ 10 (d := dTop "_law_cell" (top 19) []) rfl
  obtain ⟨fd20, F20⟩ := c.def_ 11 (d := dTop "_law_digits" (top 20) []) rfl
  obtain ⟨fd21, F21⟩ := c.def_ 12 (d := dTop "_law_gcd" (top 21) []) rfl
  obtain ⟨fd22, F22⟩ := c.def_ 13 (d := dTop "_law_is_row" (top 22) []) rfl
  obtain ⟨fd23, F23⟩ := c.def_ 14 (d := dTop "_law_numbers" (top 23) []) rfl
  obtain ⟨fd24, F24⟩ := c.def_ 15 (d := dTop "_law_band" (top 24) []) rfl
  obtain ⟨fd25, F25⟩ := c.def_ 16 (d := dTop "_law_equations" (top 25) []) rfl
  obtain ⟨fd26, F26⟩ := c.def_ 17 (d := dTop "_law_sum" (top 26) []) rfl
  obtain ⟨fd27, F27⟩ := c.def_ 18 (d := dTop "_law_planted" (top 27) []) rfl
  obtain ⟨fd28, F28⟩ := c.def_ 19 (d := dTop "_law_question" (top 28) []) rfl
  obtain ⟨fd29, F29⟩ := c.def_ 20 (d := dTop "_law_right" (top 29) []) rfl
  obtain ⟨fd30, F30⟩ := c.def_ 21 (d := dTop "_law_form" (top 30) []) rfl
  obtain ⟨fd31, F31⟩ := c.def_ 22 (d := dTop "_law_asked" (top 31) []) rfl
  obtain ⟨fd32, F32⟩ := c.def_ 23 (d := dTop "_law_turned" (top 32) []) rfl
  obtain ⟨fd33, F33⟩ := c.def_ 24 (d := dTop "_law_changed" (top 33) []) rfl
  obtain ⟨fd34, F34⟩ := c.def_ 25 (d := dTop "_law_fields" (top 34) []) rfl
  obtain ⟨fd35, F35⟩ := c.def_ 26 (d := dTop "law" (top 35) []) rfl
  obtain ⟨fdC_Solution, FC_Solution⟩ := c.def_ 27 (d := dC_Solution) rfl
  have e := hfa.symm.trans (glo_ok X G (c.fact 29 (f := .glo "law") rfl))
  cases e
  have b := FunD.bindsA (ps := ["script"]) F35 (fun _ _ _ _ _ _ us hl => match us, hl with | [_], _ => rfl)
  refine ⟨fd35, fun s v => b s [v] rfl, fun base => ?_⟩
  have M : Bi mg := ⟨(free_ok X G (c.fact 30 (f := .free "len") rfl)), (free_ok X G (c.fact 31 (f := .free "range") rfl)), (free_ok X G (c.fact 32 (f := .free "int") rfl)), (free_ok X G (c.fact 33 (f := .free "abs") rfl)), (free_ok X G (c.fact 34 (f := .free "tuple") rfl)), (free_ok X G (c.fact 35 (f := .free "list") rfl)), (free_ok X G (c.fact 36 (f := .free "isinstance") rfl)), (free_ok X G (c.fact 37 (f := .free "bool") rfl)), (free_ok X G (c.fact 38 (f := .free "sum") rfl))⟩
  have BM : Bm mg := ⟨(free_ok X G (c.fact 30 (f := .free "len") rfl)), (free_ok X G (c.fact 31 (f := .free "range") rfl)), (free_ok X G (c.fact 32 (f := .free "int") rfl)), (free_ok X G (c.fact 33 (f := .free "abs") rfl)), (free_ok X G (c.fact 34 (f := .free "tuple") rfl)), (free_ok X G (c.fact 35 (f := .free "list") rfl)), (free_ok X G (c.fact 36 (f := .free "isinstance") rfl)), (free_ok X G (c.fact 37 (f := .free "bool") rfl)), (free_ok X G (c.fact 38 (f := .free "sum") rfl)), (free_ok X G (c.fact 39 (f := .free "min") rfl)), (free_ok X G (c.fact 40 (f := .free "max") rfl)), (free_ok X G (c.fact 41 (f := .free "str") rfl))⟩
  have mgcd : mg "gcd" = some (.builtin "math.gcd") := PySem.W.mg_of X G (eqO_ok (c.xt 0 rfl))
  have mlcm : mg "lcm" = some (.builtin "math.lcm") := PySem.W.mg_of X G (eqO_ok (c.xt 1 rfl))
  have I_Solution : C8.InsC K (ga K "Solution") := ⟨cls_ok (c.fact 42 (f := .cls "Solution") rfl), eqO_ok (c.xt 2 rfl), eqO_ok (c.xt 3 rfl), of_decide_eq_true (c.xt 4 rfl), of_decide_eq_true (c.xt 5 rfl), of_decide_eq_true (c.xt 6 rfl)⟩
  have l_whole := (.nil : FnL P w K mg base 0 _ _)
  have f_whole := mk_fn (P := P) (w := w) (base := base) F18 (fn_deep F18 sc__law_whole (by decide) (by intro ds k x h; repeat (first | (obtain ⟨rfl, _⟩ := h; rfl) | (obtain ⟨_, h⟩ := h))) ch__law_whole BM (fun h => nomatch h) l_whole w_whole) (glo_ok X G (c.fact 12 (f := .glo "_law_whole") rfl)) (fun _ _ _ _ _ _ us hl => match us, hl with | [_], _ => rfl)
  have l_cell := (.nil : FnL P w K mg base 0 _ _)
  have f_cell := mk_fn (P := P) (w := w) (base := base) F19 (fn_deep F19 sc__law_cell (by decide) (by intro ds k x h; repeat (first | (obtain ⟨rfl, _⟩ := h; rfl) | (obtain ⟨_, h⟩ := h))) ch__law_cell BM (fun h => nomatch h) l_cell w_cell) (glo_ok X G (c.fact 13 (f := .glo "_law_cell") rfl)) (fun _ _ _ _ _ _ us hl => match us, hl with | [_, _], _ => rfl)
  have l_digits := (.nil : FnL P w K mg base 0 _ _)
  have f_digits := mk_fn (P := P) (w := w) (base := base) F20 (fn_deep F20 sc__law_digits (by decide) (by intro ds k x h; repeat (first | (obtain ⟨rfl, _⟩ := h; rfl) | (obtain ⟨_, h⟩ := h))) ch__law_digits BM (fun h => nomatch h) l_digits w_digits) (glo_ok X G (c.fact 14 (f := .glo "_law_digits") rfl)) (fun _ _ _ _ _ _ us hl => match us, hl with | [_, _], _ => rfl)
  have l_gcd := (.nil : FnL P w K mg base 0 _ _)
  have f_gcd := mk_fn (P := P) (w := w) (base := base) F21 (fn_deep F21 sc__law_gcd (by decide) (by intro ds k x h; repeat (first | (obtain ⟨rfl, _⟩ := h; rfl) | (obtain ⟨_, h⟩ := h))) ch__law_gcd BM (fun h => nomatch h) l_gcd w_gcd) (glo_ok X G (c.fact 15 (f := .glo "_law_gcd") rfl)) (fun _ _ _ _ _ _ us hl => match us, hl with | [_, _], _ => rfl)
  have l_is_row := (.cons0 f_whole (by decide) <| .cons0 f_gcd (by decide) <| .nil : FnL P w K mg base 1 _ _)
  have f_is_row := mk_fn (P := P) (w := w) (base := base) F22 (fn_deep F22 sc__law_is_row (by decide) (by intro ds k x h; repeat (first | (obtain ⟨rfl, _⟩ := h; rfl) | (obtain ⟨_, h⟩ := h))) ch__law_is_row BM (fun h => nomatch h) l_is_row w_isrow) (glo_ok X G (c.fact 16 (f := .glo "_law_is_row") rfl)) (fun _ _ _ _ _ _ us hl => match us, hl with | [_, _], _ => rfl)
  have l_ratio := (.nil : FnL P w K mg base 0 _ _)
  have o_ratio := fn_deep F5 sc_ratio (by decide) (by intro ds k x h; repeat (first | (obtain ⟨rfl, _⟩ := h; rfl) | (obtain ⟨_, h⟩ := h))) ch_ratio BM (fun _ => ⟨mgcd, mlcm⟩) l_ratio w_ratio
  have f_ratio1 := mk_fnD (P := P) (w := w) (base := base) (dds := [.int 1]) F5 o_ratio (glo_ok X G (c.fact 3 (f := .glo "ratio") rfl)) 1 0 (List.cons_ne_nil _ _) rfl (fun _ => .cons (.int 1) .nil) (fun _ _ _ _ _ _ _ us its hl hl2 => match us, its, hl, hl2 with | [_], [_], _, _ => ⟨_, rfl, rfl⟩)
  have f_ratio := mk_fnD (P := P) (w := w) (base := base) (dds := []) F5 o_ratio (glo_ok X G (c.fact 3 (f := .glo "ratio") rfl)) 2 1 (List.cons_ne_nil _ _) rfl (fun _ => .nil) (fun _ _ _ _ _ _ _ us its hl hl2 => match us, its, hl, hl2 with | [_, _], [_], _, _ => ⟨_, rfl, rfl⟩)
  have l_row := (.nil : FnL P w K mg base 0 _ _)
  have o_row := fn_deep F7 sc_row (by decide) (by intro ds k x h; repeat (first | (obtain ⟨rfl, _⟩ := h; rfl) | (obtain ⟨_, h⟩ := h))) ch_row BM (fun _ => ⟨mgcd, mlcm⟩) l_row w_row
  have f_row1 := mk_fnD (P := P) (w := w) (base := base) (dds := [.int 1]) F7 o_row (glo_ok X G (c.fact 4 (f := .glo "row") rfl)) 1 0 (List.cons_ne_nil _ _) rfl (fun _ => .cons (.int 1) .nil) (fun _ _ _ _ _ _ _ us its hl hl2 => match us, its, hl, hl2 with | [_], [_], _, _ => ⟨_, rfl, rfl⟩)
  have f_row := mk_fnD (P := P) (w := w) (base := base) (dds := []) F7 o_row (glo_ok X G (c.fact 4 (f := .glo "row") rfl)) 2 1 (List.cons_ne_nil _ _) rfl (fun _ => .nil) (fun _ _ _ _ _ _ _ us its hl hl2 => match us, its, hl, hl2 with | [_, _], [_], _, _ => ⟨_, rfl, rfl⟩)
  have l_row_of := (.cons0 f_row (by decide) <| .nil : FnL P w K mg base 1 _ _)
  have f_row_of := mk_fn (P := P) (w := w) (base := base) F8 (fn_deep F8 sc_row_of (by decide) (by intro ds k x h; repeat (first | (obtain ⟨rfl, _⟩ := h; rfl) | (obtain ⟨_, h⟩ := h))) ch_row_of BM (fun _ => ⟨mgcd, mlcm⟩) l_row_of w_row_of) (glo_ok X G (c.fact 5 (f := .glo "row_of") rfl)) (fun _ _ _ _ _ _ us hl => match us, hl with | [_], _ => rfl)
  have l_lowest := (.nil : FnL P w K mg base 0 _ _)
  have f_lowest := mk_fn (P := P) (w := w) (base := base) F10 (fn_deep F10 sc_lowest (by decide) (by intro ds k x h; repeat (first | (obtain ⟨rfl, _⟩ := h; rfl) | (obtain ⟨_, h⟩ := h))) ch_lowest BM (fun _ => ⟨mgcd, mlcm⟩) l_lowest w_lowest) (glo_ok X G (c.fact 6 (f := .glo "lowest") rfl)) (fun _ _ _ _ _ _ us hl => match us, hl with | [_], _ => rfl)
  have l_cleared := (.cons0 f_lowest (by decide) <| .nil : FnL P w K mg base 1 _ _)
  have f_cleared := mk_fn (P := P) (w := w) (base := base) F11 (fn_deep F11 sc_cleared (by decide) (by intro ds k x h; repeat (first | (obtain ⟨rfl, _⟩ := h; rfl) | (obtain ⟨_, h⟩ := h))) ch_cleared BM (fun h => nomatch h) l_cleared w_cleared) (glo_ok X G (c.fact 7 (f := .glo "cleared") rfl)) (fun _ _ _ _ _ _ us hl => match us, hl with | [_, _, _], _ => rfl)
  have l_free_entry := (.nil : FnL P w K mg base 0 _ _)
  have f_free_entry := mk_fn (P := P) (w := w) (base := base) F12 (fn_deep F12 sc_free_entry (by decide) (by intro ds k x h; repeat (first | (obtain ⟨rfl, _⟩ := h; rfl) | (obtain ⟨_, h⟩ := h))) ch_free_entry BM (fun h => nomatch h) l_free_entry w_free) (glo_ok X G (c.fact 8 (f := .glo "free_entry") rfl)) (fun _ _ _ _ _ _ us hl => match us, hl with | [_, _, _], _ => rfl)
  have l_eliminated := (.cons0 f_lowest (by decide) <| .cons0 f_free_entry (by decide) <| .cons0 f_cleared (by decide) <| .nil : FnL P w K mg base 2 _ _)
  have f_eliminated := mk_fn (P := P) (w := w) (base := base) F13 (fn_deep F13 sc_eliminated (by decide) (by intro ds k x h; repeat (first | (obtain ⟨rfl, _⟩ := h; rfl) | (obtain ⟨_, h⟩ := h))) ch_eliminated BM (fun h => nomatch h) l_eliminated w_elim) (glo_ok X G (c.fact 9 (f := .glo "eliminated") rfl)) (fun _ _ _ _ _ _ us hl => match us, hl with | [_, _], _ => rfl)
  have l_bar_of := (.cons0 f_lowest (by decide) <| .nil : FnL P w K mg base 1 _ _)
  have f_bar_of := mk_fn (P := P) (w := w) (base := base) F15 (fn_deep F15 sc_bar_of (by decide) (by intro ds k x h; repeat (first | (obtain ⟨rfl, _⟩ := h; rfl) | (obtain ⟨_, h⟩ := h))) ch_bar_of BM (fun h => nomatch h) l_bar_of w_bar_of) (glo_ok X G (c.fact 10 (f := .glo "bar_of") rfl)) (fun _ _ _ _ _ _ us hl => match us, hl with | [_, _, _], _ => rfl)
  have l_Solution := (.nil : FnL P w K mg base 0 _ _)
  have m_Solution := mk_mf (P := P) (w := w) (base := base) (mkr_ok (c.fact 43 (f := .mkr "Solution") rfl)) (init_deep FC_Solution sc_Solution___init__ (by decide) (by intro ds k x h; repeat (first | (obtain ⟨rfl, _⟩ := h; rfl) | (obtain ⟨_, h⟩ := h))) (⟨cls_ok (c.fact 42 (f := .cls "Solution") rfl), List.forall_mem_cons.mpr ⟨noat_ok (c.fact 44 (f := .noat "Solution" "point") rfl), List.forall_mem_cons.mpr ⟨noat_ok (c.fact 45 (f := .noat "Solution" "bar") rfl), fun f hf => nomatch hf⟩⟩⟩ : ClsF K (ga K "Solution") ["point", "bar"]) ch_Solution___init__ BM (fun h => nomatch h) l_Solution ((w_Solution (ga K "Solution")))) (glo_ok X G (c.fact 2 (f := .glo "Solution") rfl)) (FC_Solution.bindsN (fun _ _ _ _ _ _ us hl => match us, hl with | [_, _, _], _ => rfl))
  have l_solved := (.cons0 f_eliminated (by decide) <| .cons0 f_bar_of (by decide) <| .mk m_Solution (by decide) <| .cons0 f_ratio (by decide) <| .cons0 f_row_of (by decide) <| .nil : FnL P w K mg base 3 _ _)
  have f_solved := mk_fn (P := P) (w := w) (base := base) F16 (fn_deep F16 sc_solved (by decide) (by intro ds k x h; repeat (first | (obtain ⟨rfl, _⟩ := h; rfl) | (obtain ⟨_, h⟩ := h))) ch_solved BM (fun h => nomatch h) l_solved (w_solved (ga K "Solution"))) (glo_ok X G (c.fact 11 (f := .glo "solved") rfl)) (fun _ _ _ _ _ _ us hl => match us, hl with | [_, _], _ => rfl)
  have l_numbers := (.cons0 f_digits (by decide) <| .nil : FnL P w K mg base 1 _ _)
  have f_numbers := mk_fn (P := P) (w := w) (base := base) F23 (fn_deep F23 sc__law_numbers (by decide) (by intro ds k x h; repeat (first | (obtain ⟨rfl, _⟩ := h; rfl) | (obtain ⟨_, h⟩ := h))) ch__law_numbers BM (fun h => nomatch h) l_numbers w_numbers) (glo_ok X G (c.fact 17 (f := .glo "_law_numbers") rfl)) (fun _ _ _ _ _ _ us hl => match us, hl with | [_, _, _], _ => rfl)
  have l_band := (.cons0 f_digits (by decide) <| .nil : FnL P w K mg base 1 _ _)
  have f_band := mk_fn (P := P) (w := w) (base := base) F24 (fn_deep F24 sc__law_band (by decide) (by intro ds k x h; repeat (first | (obtain ⟨rfl, _⟩ := h; rfl) | (obtain ⟨_, h⟩ := h))) ch__law_band BM (fun h => nomatch h) l_band w_band) (glo_ok X G (c.fact 18 (f := .glo "_law_band") rfl)) (fun _ _ _ _ _ _ us hl => match us, hl with | [_, _, _], _ => rfl)
  have l_equations := (.cons0 f_digits (by decide) <| .nil : FnL P w K mg base 1 _ _)
  have f_equations := mk_fn (P := P) (w := w) (base := base) F25 (fn_deep F25 sc__law_equations (by decide) (by intro ds k x h; repeat (first | (obtain ⟨rfl, _⟩ := h; rfl) | (obtain ⟨_, h⟩ := h))) ch__law_equations BM (fun h => nomatch h) l_equations w_eqs) (glo_ok X G (c.fact 19 (f := .glo "_law_equations") rfl)) (fun _ _ _ _ _ _ us hl => match us, hl with | [_, _, _, _], _ => rfl)
  have l_sum := (.nil : FnL P w K mg base 0 _ _)
  have f_sum := mk_fn (P := P) (w := w) (base := base) F26 (fn_deep F26 sc__law_sum (by decide) (by intro ds k x h; repeat (first | (obtain ⟨rfl, _⟩ := h; rfl) | (obtain ⟨_, h⟩ := h))) ch__law_sum BM (fun h => nomatch h) l_sum w_lsum) (glo_ok X G (c.fact 20 (f := .glo "_law_sum") rfl)) (fun _ _ _ _ _ _ us hl => match us, hl with | [_, _], _ => rfl)
  have l_planted := (.cons0 f_sum (by decide) <| .nil : FnL P w K mg base 1 _ _)
  have f_planted := mk_fn (P := P) (w := w) (base := base) F27 (fn_deep F27 sc__law_planted (by decide) (by intro ds k x h; repeat (first | (obtain ⟨rfl, _⟩ := h; rfl) | (obtain ⟨_, h⟩ := h))) ch__law_planted BM (fun h => nomatch h) l_planted w_planted) (glo_ok X G (c.fact 21 (f := .glo "_law_planted") rfl)) (fun _ _ _ _ _ _ us hl => match us, hl with | [_, _, _], _ => rfl)
  have l_question := (.cons0 f_cell (by decide) <| .cons0 f_band (by decide) <| .cons0 f_numbers (by decide) <| .cons0 f_digits (by decide) <| .cons0 f_equations (by decide) <| .cons0 f_planted (by decide) <| .nil : FnL P w K mg base 2 _ _)
  have f_question := mk_fn (P := P) (w := w) (base := base) F28 (fn_deep F28 sc__law_question (by decide) (by intro ds k x h; repeat (first | (obtain ⟨rfl, _⟩ := h; rfl) | (obtain ⟨_, h⟩ := h))) ch__law_question BM (fun h => nomatch h) l_question w_question) (glo_ok X G (c.fact 22 (f := .glo "_law_question") rfl)) (fun _ _ _ _ _ _ us hl => match us, hl with | [_, _, _, _], _ => rfl)
  have l_right := (.isc (glo_ok X G (c.fact 2 (f := .glo "Solution") rfl)) (isc_ok I_Solution) <| .cons0 f_is_row (by decide) <| .cons0 f_sum (by decide) <| .cons0 f_whole (by decide) <| .nil : FnL P w K mg base 2 _ _)
  have f_right := mk_fn (P := P) (w := w) (base := base) F29 (fn_deep F29 sc__law_right (by decide) (by intro ds k x h; repeat (first | (obtain ⟨rfl, _⟩ := h; rfl) | (obtain ⟨_, h⟩ := h))) ch__law_right BM (fun h => nomatch h) l_right (w_lright (ga K "Solution"))) (glo_ok X G (c.fact 23 (f := .glo "_law_right") rfl)) (fun _ _ _ _ _ _ us hl => match us, hl with | [_, _, _], _ => rfl)
  have l_form := (.nil : FnL P w K mg base 0 _ _)
  have f_form := mk_fn (P := P) (w := w) (base := base) F30 (fn_deep F30 sc__law_form (by decide) (by intro ds k x h; repeat (first | (obtain ⟨rfl, _⟩ := h; rfl) | (obtain ⟨_, h⟩ := h))) ch__law_form BM (fun h => nomatch h) l_form w_form) (glo_ok X G (c.fact 24 (f := .glo "_law_form") rfl)) (fun _ _ _ _ _ _ us hl => match us, hl with | [_, _], _ => rfl)
  have l_asked := (.cons0 f_form (by decide) <| .cons0 f_solved (by decide) <| .cons0 f_right (by decide) <| .nil : FnL P w K mg base 4 _ _)
  have f_asked := mk_fn (P := P) (w := w) (base := base) F31 (fn_deep F31 sc__law_asked (by decide) (by intro ds k x h; repeat (first | (obtain ⟨rfl, _⟩ := h; rfl) | (obtain ⟨_, h⟩ := h))) ch__law_asked BM (fun h => nomatch h) l_asked (w_asked (ga K "Solution"))) (glo_ok X G (c.fact 25 (f := .glo "_law_asked") rfl)) (fun _ _ _ _ _ _ us hl => match us, hl with | [_, _, _], _ => rfl)
  have l_turned := (.nil : FnL P w K mg base 0 _ _)
  have f_turned := mk_fn (P := P) (w := w) (base := base) F32 (fn_deep F32 sc__law_turned (by decide) (by intro ds k x h; repeat (first | (obtain ⟨rfl, _⟩ := h; rfl) | (obtain ⟨_, h⟩ := h))) ch__law_turned BM (fun h => nomatch h) l_turned w_lturned) (glo_ok X G (c.fact 26 (f := .glo "_law_turned") rfl)) (fun _ _ _ _ _ _ us hl => match us, hl with | [_, _], _ => rfl)
  have l_changed := (.cons0 f_solved (by decide) <| .cons0 f_right (by decide) <| .nil : FnL P w K mg base 4 _ _)
  have f_changed := mk_fn (P := P) (w := w) (base := base) F33 (fn_deep F33 sc__law_changed (by decide) (by intro ds k x h; repeat (first | (obtain ⟨rfl, _⟩ := h; rfl) | (obtain ⟨_, h⟩ := h))) ch__law_changed BM (fun h => nomatch h) l_changed (w_changed (ga K "Solution"))) (glo_ok X G (c.fact 27 (f := .glo "_law_changed") rfl)) (fun _ _ _ _ _ _ us hl => match us, hl with | [_, _, _, _, _], _ => rfl)
  have l_fields := (.mk m_Solution (by decide) <| .isc (glo_ok X G (c.fact 2 (f := .glo "Solution") rfl)) (isc_ok I_Solution) <| .nil : FnL P w K mg base 2 _ _)
  have f_fields := mk_fn (P := P) (w := w) (base := base) F34 (fn_deep F34 sc__law_fields (by decide) (by intro ds k x h; repeat (first | (obtain ⟨rfl, _⟩ := h; rfl) | (obtain ⟨_, h⟩ := h))) ch__law_fields BM (fun h => nomatch h) l_fields (w_fields (ga K "Solution"))) (glo_ok X G (c.fact 28 (f := .glo "_law_fields") rfl)) (fun _ _ _ _ _ _ us hl => match us, hl with | [], _ => rfl)
  have l_law := (.cons0 f_cell (by decide) <| .cons0 f_digits (by decide) <| .cons0 f_question (by decide) <| .cons0 f_asked (by decide) <| .cons0 f_turned (by decide) <| .cons0 f_changed (by decide) <| .fn0 f_fields (by decide) <| .nil : FnL P w K mg base 5 _ _)
  exact fn_deep F35 sc_law (by decide) (by intro ds k x h; repeat (first | (obtain ⟨rfl, _⟩ := h; rfl) | (obtain ⟨_, h⟩ := h))) ch_law BM (fun h => nomatch h) l_law (w_law (ga K "Solution"))
end K00
open PySem PySem.W PySem.Calls PyProof.Rows
theorem PySem.Challenge.cw_ledbymarks_k02_solved_or_bar_holds : PySem.Challenge.rw_ledbymarks_k02_solved_or_bar.Holds := by
  w_on; o_law
  refine HandSHeadRun.head_imp (r := OpenLaw.row PySem.Challenge.rw_ledbymarks_k02_solved_or_bar) (q := view (OpenLaw.row PySem.Challenge.rw_ledbymarks_k02_solved_or_bar).prog [0, 35]) (H := K00.hk) (ob := K00.ob) (M := 20000) (loose := K00.loose) (d := HandSHeadRun.topDef (OpenLaw.row PySem.Challenge.rw_ledbymarks_k02_solved_or_bar).prog 35) (kwd := [])
    K00.ob_eq K00.run (by kernel_rfl) (by kernel_rfl) (by kernel_rfl) (by rfl) (by first | assumption | decide +kernel) (by decide +kernel) ⟨rfl, rfl, rfl, rfl, rfl, by decide +kernel⟩ ?hw ?hc
  case hw => w_witness2
  case hc =>
    refine DL.walk_ofM (l := PySem.Challenge.rw_ledbymarks_k02_solved_or_bar) (n := 63) (k := 6) (x := "script") (T := K00.T_law) rfl (by decide) (by kernel_rfl) ⟨rfl, by decide, by decide⟩ (fun ns kk xx h => ⟨ns, rfl, h⟩) ?_
    intro w mg fa h Y G hmg0
    obtain ⟨K, KX, c⟩ := Y
    have hmg : mg ("law" : PySem.Str) = some (.ref fa) := by
      have e : (HandSHeadRun.topDef (OpenLaw.row PySem.Challenge.rw_ledbymarks_k02_solved_or_bar).prog 35).name = ("law" : PySem.Str) := by kernel_rfl
      rw [← e]
      exact hmg0
    obtain ⟨fd, hb, hF⟩ := K00.facts (P := (PySem.Challenge.rw_ledbymarks_k02_solved_or_bar).prog) (w := w) KX G hmg c
    exact ⟨K, fd, KX, hb, fun base _ _ => hF base⟩
