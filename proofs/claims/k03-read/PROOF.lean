import PyProof.Rows.All
import Wide.All
import OpenK.AllK
import Wide.FinOn
import HandS.ForMost
import HandS.Evl
import HandS.TupAny
import HandS.TupMul
import HandS.Conv
import HandS.Style
import HandS.Deep
import HandS.IsInst
import HandS.RevRange
import HandS.SortInts
import HandS.Zip
import HandS.Replace
import HandS.Strs
import HandS.Steps
import KE.KRevSl
import KE.KTupSum
import KE.KSortedM
import KE.GoesMore
import HandS.SetFor
import KE.SortData
import HandS.ForExc
import HandS.ExcIs
import HandS.TryOnly
import KE.GoesComp
import HandS.CallSlots
import HandS.StrMore
import HandS.Codes
import PySem.Challenge.RW_strandhall_k03_whole_read
section
set_option Elab.async false
set_option linter.all false
set_option maxRecDepth 100000
set_option maxHeartbeats 2000000
/-! DV: values as data. Pure code over a frozen part F of the tracked heap; lists and dicts that the def owns and changes are slots of their own. -/
namespace DV
open PySem L2 Evl

/-! ### data in a heap -/
mutual
/-- the value v is the data d: its lists are tracked, its tuples read; the script (a list of ints that is only read) is told as a dict of its ints -/
inductive Dv (K : PySem.W.Frag) (F : Hp) : V → PyData → Prop
  | non : Dv K F .non .none
  | bl (b : Bool) : Dv K F (.bl b) (.bool b)
  | int (i : Int) : Dv K F (.int i) (.int i)
  | str (x : Str) : Dv K F (.str x) (.str x)
  | lst {a : Addr} {xs : List V} {ds : List PyData} : F a = some (.lst xs) → DvAll K F xs ds → Dv K F (.ref a) (.list ds)
  | tup {a : Addr} {o : Obj} {xs : List V} {ds : List PyData} : F a = some (.frz o (.tup xs)) → o.dict = none → DvAll K F xs ds → Dv K F (.ref a) (.tuple ds)
  | scr {a : Addr} {ns : List Int} : SqL K F a (ns.map V.int) → Dv K F (.ref a) (.dict (ns.map fun n => (.int n, .none)))
inductive DvAll (K : PySem.W.Frag) (F : Hp) : List V → List PyData → Prop
  | nil : DvAll K F [] []
  | cons {v : V} {vs : List V} {d : PyData} {ds : List PyData} : Dv K F v d → DvAll K F vs ds → DvAll K F (v :: vs) (d :: ds)
end
mutual
theorem dv_mono {K : PySem.W.Frag} {F F' : Hp} (e : Ex F F') : ∀ {v : V} {d : PyData}, Dv K F v d → Dv K F' v d
  | _, _, .non => .non
  | _, _, .bl b => .bl b
  | _, _, .int i => .int i
  | _, _, .str x => .str x
  | _, _, .lst h a => .lst (e _ _ h) (dvAll_mono e a)
  | _, _, .tup h z a => .tup (e _ _ h) z (dvAll_mono e a)
  | _, _, .scr h => .scr (ex_l e h)
theorem dvAll_mono {K : PySem.W.Frag} {F F' : Hp} (e : Ex F F') : ∀ {vs : List V} {ds : List PyData}, DvAll K F vs ds → DvAll K F' vs ds
  | _, _, .nil => .nil
  | _, _, .cons h t => .cons (dv_mono e h) (dvAll_mono e t)
end
mutual
theorem dv_dp {K : PySem.W.Frag} {F : Hp} : ∀ {v : V} {d : PyData}, Dv K F v d → d.canLay0 = true → Dp K F v d
  | _, _, .non, _ => .non
  | _, _, .bl b, _ => .bl b
  | _, _, .int i, _ => .int i
  | _, _, .str x, _ => .str x
  | _, _, .lst h a, c => .lst (sq_of h) (dvAll_dp a (by simpa [PyData.canLay0] using c))
  | _, _, .tup h _ a, c => .tup (.inl (.inr ⟨_, h⟩)) (dvAll_dp a (by simpa [PyData.canLay0] using c))
  | _, _, .scr h, c => by simp [PyData.canLay0] at c
theorem dvAll_dp {K : PySem.W.Frag} {F : Hp} : ∀ {vs : List V} {ds : List PyData}, DvAll K F vs ds → PyData.canLayAll0 ds = true → DpAll K F vs ds
  | _, _, .nil, _ => .nil
  | _, _, .cons h t, c => by
    have c' := (Bool.and_eq_true_iff.mp (show (_ && _) = true by simpa [PyData.canLayAll0] using c))
    exact .cons (dv_dp h c'.1) (dvAll_dp t c'.2)
end
theorem dvAll_len {K : PySem.W.Frag} {F : Hp} : ∀ {vs : List V} {ds : List PyData}, DvAll K F vs ds → vs.length = ds.length
  | _, _, .nil => rfl
  | _, _, .cons _ t => by rw [List.length_cons, List.length_cons, dvAll_len t]
theorem dvAll_get {K : PySem.W.Frag} {F : Hp} : ∀ {vs : List V} {ds : List PyData} {i : Nat} {d : PyData}, DvAll K F vs ds → ds[i]? = some d → ∃ v, vs[i]? = some v ∧ Dv K F v d
  | _, _, _, _, .nil, h => by simp at h
  | _, _, 0, _, .cons a _, h => by
    simp at h
    subst h
    exact ⟨_, rfl, a⟩
  | _, _, i + 1, _, .cons _ t, h => by
    obtain ⟨v, h1, h2⟩ := dvAll_get (i := i) t (by simpa using h)
    exact ⟨v, by simpa using h1, h2⟩
theorem dvAll_app {K : PySem.W.Frag} {F : Hp} : ∀ {vs ws : List V} {ds es : List PyData}, DvAll K F vs ds → DvAll K F ws es → DvAll K F (vs ++ ws) (ds ++ es)
  | _, _, _, _, .nil, h => h
  | _, _, _, _, .cons a t, h => .cons a (dvAll_app t h)
theorem dvAll_take {K : PySem.W.Frag} {F : Hp} : ∀ {vs : List V} {ds : List PyData} (n : Nat), DvAll K F vs ds → DvAll K F (vs.take n) (ds.take n)
  | _, _, 0, _ => .nil
  | _, _, _ + 1, .nil => .nil
  | _, _, n + 1, .cons a t => .cons a (dvAll_take n t)
theorem dvAll_drop {K : PySem.W.Frag} {F : Hp} : ∀ {vs : List V} {ds : List PyData} (n : Nat), DvAll K F vs ds → DvAll K F (vs.drop n) (ds.drop n)
  | _, _, 0, h => h
  | _, _, _ + 1, .nil => .nil
  | _, _, n + 1, .cons _ t => dvAll_drop n t
theorem dvAll_set {K : PySem.W.Frag} {F : Hp} {x : V} {d : PyData} (hx : Dv K F x d) : ∀ {vs : List V} {ds : List PyData} (n : Nat), DvAll K F vs ds → DvAll K F (vs.set n x) (ds.set n d)
  | _, _, _, .nil => .nil
  | _, _, 0, .cons _ t => .cons hx t
  | _, _, n + 1, .cons a t => .cons a (dvAll_set hx n t)
theorem dvAll_rev {K : PySem.W.Frag} {F : Hp} : ∀ {vs : List V} {ds : List PyData}, DvAll K F vs ds → DvAll K F vs.reverse ds.reverse
  | _, _, .nil => .nil
  | _, _, .cons a t => by
    rw [List.reverse_cons, List.reverse_cons]
    exact dvAll_app (dvAll_rev t) (.cons a .nil)
theorem dvAll_rep {K : PySem.W.Frag} {F : Hp} {vs : List V} {ds : List PyData} (h : DvAll K F vs ds) : ∀ n : Nat, DvAll K F (List.replicate n vs).flatten (List.replicate n ds).flatten
  | 0 => .nil
  | n + 1 => by
    rw [List.replicate_succ, List.replicate_succ, List.flatten_cons, List.flatten_cons]
    exact dvAll_app h (dvAll_rep h n)
theorem dvAll_ints {K : PySem.W.Frag} {F : Hp} : ∀ (ns : List Int), DvAll K F (ns.map V.int) (ns.map PyData.int)
  | [] => .nil
  | n :: r => .cons (.int n) (dvAll_ints r)
theorem dvAll_ints_of {K : PySem.W.Frag} {F : Hp} : ∀ {vs : List V} {ns : List Int}, DvAll K F vs (ns.map PyData.int) → vs = ns.map V.int
  | _, [], h => by cases h; rfl
  | _, n :: r, h => by
    cases h with
    | cons a t =>
      cases a
      rw [dvAll_ints_of t]
      rfl
theorem dvAll_bls_of {K : PySem.W.Frag} {F : Hp} : ∀ {vs : List V} {ns : List Bool}, DvAll K F vs (ns.map PyData.bool) → vs = ns.map V.bl
  | _, [], h => by cases h; rfl
  | _, n :: r, h => by
    cases h with
    | cons a t =>
      cases a
      rw [dvAll_bls_of t]
      rfl
theorem dvAll_strs_of {K : PySem.W.Frag} {F : Hp} : ∀ {vs : List V} {ns : List Str}, DvAll K F vs (ns.map PyData.str) → vs = ns.map V.str
  | _, [], h => by cases h; rfl
  | _, n :: r, h => by
    cases h with
    | cons a t =>
      cases a
      rw [dvAll_strs_of t]
      rfl
theorem dvAll_strs {K : PySem.W.Frag} {F : Hp} : ∀ (ns : List Str), DvAll K F (ns.map V.str) (ns.map PyData.str)
  | [] => .nil
  | n :: r => .cons (.str n) (dvAll_strs r)

/-! ### growth -/
structure Grow (F H F' H' : Hp) : Prop where
  ff : Ex F F'
  hh : Ex H H'
  sub : Ex F' H'
  own : ∀ a, F a = none → H a ≠ none → F' a = none
theorem Grow.refl {F H : Hp} (s : Ex F H) : Grow F H F H := ⟨Ex.refl F, Ex.refl H, s, fun _ h _ => h⟩
theorem ne_none {H : Hp} {a : Addr} {o : HO} (h : H a = some o) : H a ≠ none := by rw [h]; exact fun z => nomatch z
theorem Ex.nn {H H' : Hp} (e : Ex H H') {a : Addr} (h : H a ≠ none) : H' a ≠ none := by
  cases q : H a with
  | none => exact absurd q h
  | some o => exact ne_none (e a o q)
theorem Grow.trans {F H F1 H1 F2 H2 : Hp} (a : Grow F H F1 H1) (b : Grow F1 H1 F2 H2) : Grow F H F2 H2 :=
  ⟨a.ff.trans b.ff, a.hh.trans b.hh, b.sub, fun x h k => b.own x (a.own x h k) (Ex.nn a.hh k)⟩
/-- a new object, frozen at once -/
theorem Grow.new {F H : Hp} {p : Addr} {o : HO} (s : Ex F H) (h : H p = none) : Grow F H (upd F p o) (upd H p o) := by
  have hf : F p = none := fresh_back s h
  refine ⟨Ex.new hf, Ex.new h, fun a u e => ?_, fun a e k => ?_⟩
  · by_cases ha : a = p
    · subst ha
      rw [upd_same] at e ⊢
      exact e
    · rw [upd_ne ha] at e ⊢
      exact s a u e
  · rw [upd_ne (fun z => k (by rw [z]; exact h))]
    exact e
/-- a new object that stays out of the frozen part -/
theorem Grow.newH {F H : Hp} {p : Addr} {o : HO} (s : Ex F H) (h : H p = none) : Grow F H F (upd H p o) :=
  ⟨Ex.refl F, Ex.new h, s.trans (Ex.new h), fun _ e _ => e⟩

/-! ### slots -/
inductive Slot where
  | any
  | im (d : PyData)
  | ow (ds : List PyData)
  | dk (kvs : List (Key × PyData))
  | dt (kvs : List (List Key × PyData))
  | kt (ks : List Int)
  /-- a name with this very value -/
  | pin (v : V)
  /-- an owned list at this very address -/
  | owp (a : Addr) (ds : List PyData)
  /-- an owned list of owned lists -/
  | oo (rs : List (List PyData))
  /-- an owned instance of a class, at p, its dict at dx -/
  | ob (C p dx : Addr) (fs : List (Str × PyData))
  /-- an instance of the caller's, only read -/
  | rob (C p dx : Addr) (fs : List (Str × PyData))
def Slot.owned : Slot → Bool
  | .ow _ => true
  | .dk _ => true
  | .dt _ => true
  | .owp _ _ => true
  | .ob _ _ _ _ => true
  | _ => false
/-- rows of an owned list of owned lists -/
inductive RowsOk (K : PySem.W.Frag) (H0 F H : Hp) : List V → List (List PyData) → Prop
  | nil : RowsOk K H0 F H [] []
  | cons {b : Addr} {vs bs : List V} {ds : List PyData} {rs : List (List PyData)} : H0 b = none → F b = none → H b = some (.lst vs) → DvAll K F vs ds → V.ref b ∉ bs → RowsOk K H0 F H bs rs → RowsOk K H0 F H (.ref b :: bs) (ds :: rs)
def SlotOk (K : PySem.W.Frag) (H0 F H : Hp) (x : Option (Option V)) : Slot → Prop
  | .any => True
  | .im d => ∃ v, x = some (some v) ∧ Dv K F v d
  | .ow ds => ∃ a vs, x = some (some (.ref a)) ∧ H0 a = none ∧ F a = none ∧ H a = some (.lst vs) ∧ DvAll K F vs ds
  | .dk kvs => ∃ a vs, x = some (some (.ref a)) ∧ H0 a = none ∧ F a = none ∧ H a = some (.dK vs) ∧ vs.map (·.1) = kvs.map (·.1) ∧ DvAll K F (vs.map (·.2)) (kvs.map (·.2))
  | .kt ks => ∃ b, x = some (some (.ref b)) ∧ H b = some (.tup (ks.map V.int))
  | .dt kvs => ∃ a vs, x = some (some (.ref a)) ∧ H0 a = none ∧ F a = none ∧ H a = some (.dT vs) ∧ vs.map (·.1) = kvs.map (·.1) ∧ DvAll K F (vs.map (·.2)) (kvs.map (·.2))
  | .pin v => x = some (some v)
  | .owp a ds => ∃ vs, x = some (some (.ref a)) ∧ H0 a = none ∧ F a = none ∧ H a = some (.lst vs) ∧ DvAll K F vs ds
  | .oo rs => ∃ a as, x = some (some (.ref a)) ∧ H0 a = none ∧ F a = none ∧ H a = some (.lst as) ∧ V.ref a ∉ as ∧ RowsOk K H0 F H as rs
  | .ob C p dx fs => ∃ vs, x = some (some (.ref p)) ∧ H0 p = none ∧ F p = none ∧ H p = some (.ins C dx vs) ∧ vs.map (·.1) = fs.map (·.1) ∧ DvAll K F (vs.map (·.2)) (fs.map (·.2))
  | .rob C p dx fs => ∃ vs, x = some (some (.ref p)) ∧ H0 p ≠ none ∧ F p = none ∧ H p = some (.ins C dx vs) ∧ vs.map (·.1) = fs.map (·.1) ∧ DvAll K F (vs.map (·.2)) (fs.map (·.2))
/-- the slot s, whose name has the value x, owns what stands at c -/
def Slot.holds (H : Hp) (x : Option (Option V)) (c : Addr) : Slot → Prop
  | .ow _ => x = some (some (.ref c))
  | .dk _ => x = some (some (.ref c))
  | .dt _ => x = some (some (.ref c))
  | .owp _ _ => x = some (some (.ref c))
  | .ob _ _ _ _ => x = some (some (.ref c))
  | .oo _ => x = some (some (.ref c)) ∨ ∃ a vs, x = some (some (.ref a)) ∧ H a = some (.lst vs) ∧ V.ref c ∈ vs
  | _ => False
theorem RowsOk.mono {K : PySem.W.Frag} {H0 F H F' H' : Hp} (ff : Ex F F') (hh : Ex H H') : ∀ {as : List V} {rs : List (List PyData)}, (∀ b, V.ref b ∈ as → F b = none → H b ≠ none → F' b = none) → RowsOk K H0 F H as rs → RowsOk K H0 F' H' as rs
  | _, _, _, .nil => .nil
  | _, _, k, .cons h0 hf hb hd nb r => .cons h0 (k _ List.mem_cons_self hf (ne_none hb)) (hh _ _ hb) (dvAll_mono ff hd) nb (RowsOk.mono ff hh (fun b m => k b (List.mem_cons_of_mem _ m)) r)
theorem RowsOk.mem {K : PySem.W.Frag} {H0 F H : Hp} {c : Addr} : ∀ {as : List V} {rs : List (List PyData)}, RowsOk K H0 F H as rs → V.ref c ∈ as → H0 c = none ∧ F c = none ∧ ∃ vs, H c = some (.lst vs)
  | _, _, .nil, m => by cases m
  | _, _, .cons h0 hf hb hd nb r, m => by
    rcases List.mem_cons.mp m with e | m
    · cases e
      exact ⟨h0, hf, _, hb⟩
    · exact r.mem m
theorem RowsOk.upd {K : PySem.W.Frag} {H0 F H : Hp} {c : Addr} {u : HO} : ∀ {as : List V} {rs : List (List PyData)}, V.ref c ∉ as → RowsOk K H0 F H as rs → RowsOk K H0 F (upd H c u) as rs
  | _, _, _, .nil => .nil
  | _, _, n, .cons h0 hf hb hd nb r => .cons h0 hf (by rw [upd_ne (fun z => n (by rw [z]; exact List.mem_cons_self))]; exact hb) hd nb (RowsOk.upd (fun m => n (List.mem_cons_of_mem _ m)) r)
theorem RowsOk.refs {K : PySem.W.Frag} {H0 F H : Hp} {v : V} : ∀ {as : List V} {rs : List (List PyData)}, RowsOk K H0 F H as rs → v ∈ as → ∃ c, v = .ref c
  | _, _, .nil, m => by cases m
  | _, _, .cons _ _ _ _ _ r, m => by
    rcases List.mem_cons.mp m with e | m
    · exact ⟨_, e⟩
    · exact r.refs m
theorem RowsOk.len {K : PySem.W.Frag} {H0 F H : Hp} : ∀ {as : List V} {rs : List (List PyData)}, RowsOk K H0 F H as rs → as.length = rs.length
  | _, _, .nil => rfl
  | _, _, .cons _ _ _ _ _ r => by rw [List.length_cons, List.length_cons, r.len]
theorem SlotOk.grow {K : PySem.W.Frag} {H0 F H F' H' : Hp} {x : Option (Option V)} (g : Grow F H F' H') : ∀ {s : Slot}, SlotOk K H0 F H x s → SlotOk K H0 F' H' x s
  | .any, _ => trivial
  | .im _, ⟨v, e, h⟩ => ⟨v, e, dv_mono g.ff h⟩
  | .ow _, ⟨a, vs, e, h0, hf, hh, hd⟩ => ⟨a, vs, e, h0, g.own a hf (ne_none hh), g.hh a _ hh, dvAll_mono g.ff hd⟩
  | .dk _, ⟨a, vs, e, h0, hf, hh, hk, hd⟩ => ⟨a, vs, e, h0, g.own a hf (ne_none hh), g.hh a _ hh, hk, dvAll_mono g.ff hd⟩
  | .dt _, ⟨a, vs, e, h0, hf, hh, hk, hd⟩ => ⟨a, vs, e, h0, g.own a hf (ne_none hh), g.hh a _ hh, hk, dvAll_mono g.ff hd⟩
  | .kt _, ⟨b, e, hh⟩ => ⟨b, e, g.hh b _ hh⟩
  | .pin _, h => h
  | .owp a _, ⟨vs, e, h0, hf, hh, hd⟩ => ⟨vs, e, h0, g.own a hf (ne_none hh), g.hh a _ hh, dvAll_mono g.ff hd⟩
  | .oo _, ⟨a, as, e, h0, hf, hh, na, hr⟩ => ⟨a, as, e, h0, g.own a hf (ne_none hh), g.hh a _ hh, na, hr.mono g.ff g.hh (fun b _ f n => g.own b f n)⟩
  | .ob _ p _ _, ⟨vs, e, h0, hf, hh, hk, hd⟩ => ⟨vs, e, h0, g.own p hf (ne_none hh), g.hh p _ hh, hk, dvAll_mono g.ff hd⟩
  | .rob _ p _ _, ⟨vs, e, h0, hf, hh, hk, hd⟩ => ⟨vs, e, h0, g.own p hf (ne_none hh), g.hh p _ hh, hk, dvAll_mono g.ff hd⟩
/-- an owned slot's address -/
theorem SlotOk.addr {K : PySem.W.Frag} {H0 F H : Hp} {x : Option (Option V)} : ∀ {s : Slot}, s.owned = true → SlotOk K H0 F H x s → ∃ a, x = some (some (.ref a)) ∧ H0 a = none ∧ F a = none ∧ H a ≠ none
  | .ow _, _, ⟨a, _, e, h0, hf, hh, _⟩ => ⟨a, e, h0, hf, ne_none hh⟩
  | .dk _, _, ⟨a, _, e, h0, hf, hh, _⟩ => ⟨a, e, h0, hf, ne_none hh⟩
  | .dt _, _, ⟨a, _, e, h0, hf, hh, _⟩ => ⟨a, e, h0, hf, ne_none hh⟩
  | .owp a _, _, ⟨_, e, h0, hf, hh, _⟩ => ⟨a, e, h0, hf, ne_none hh⟩
  | .ob _ p _ _, _, ⟨_, e, h0, hf, hh, _⟩ => ⟨p, e, h0, hf, ne_none hh⟩
/-- what a slot holds is not from ahead, not frozen, there, and no tuple -/
theorem SlotOk.hold {K : PySem.W.Frag} {H0 F H : Hp} {x : Option (Option V)} {c : Addr} : ∀ {s : Slot}, SlotOk K H0 F H x s → s.holds H x c → H0 c = none ∧ F c = none ∧ H c ≠ none ∧ ∀ ks, H c ≠ some (.tup ks)
  | .ow _, ⟨a, _, e, h0, hf, hh, _⟩, q => by
    rw [e] at q; cases q
    exact ⟨h0, hf, ne_none hh, fun ks z => by rw [hh] at z; cases z⟩
  | .dk _, ⟨a, _, e, h0, hf, hh, _⟩, q => by
    rw [e] at q; cases q
    exact ⟨h0, hf, ne_none hh, fun ks z => by rw [hh] at z; cases z⟩
  | .dt _, ⟨a, _, e, h0, hf, hh, _⟩, q => by
    rw [e] at q; cases q
    exact ⟨h0, hf, ne_none hh, fun ks z => by rw [hh] at z; cases z⟩
  | .owp a _, ⟨_, e, h0, hf, hh, _⟩, q => by
    rw [e] at q; cases q
    exact ⟨h0, hf, ne_none hh, fun ks z => by rw [hh] at z; cases z⟩
  | .ob _ p _ _, ⟨_, e, h0, hf, hh, _⟩, q => by
    rw [e] at q; cases q
    exact ⟨h0, hf, ne_none hh, fun ks z => by rw [hh] at z; cases z⟩
  | .oo _, ⟨a, as, e, h0, hf, hh, na, hr⟩, q => by
    rcases q with q | ⟨a', vs, q, hv, m⟩
    · rw [e] at q; cases q
      exact ⟨h0, hf, ne_none hh, fun ks z => by rw [hh] at z; cases z⟩
    · rw [e] at q; cases q
      rw [hh] at hv; cases hv
      obtain ⟨z0, zf, vs, hc⟩ := hr.mem m
      exact ⟨z0, zf, ne_none hc, fun ks z => by rw [hc] at z; cases z⟩
/-- what a slot holds later it holds now -/
theorem SlotOk.heldThen {K : PySem.W.Frag} {H0 F H H' : Hp} {x : Option (Option V)} {c : Addr} : ∀ {s : Slot}, SlotOk K H0 F H x s → (∀ a u, s.holds H x a → H a = some u → H' a = some u) → s.holds H' x c → s.holds H x c
  | .ow _, _, _, q => q
  | .dk _, _, _, q => q
  | .dt _, _, _, q => q
  | .owp _ _, _, _, q => q
  | .ob _ _ _ _, _, _, q => q
  | .oo _, ⟨a, as, e, h0, hf, hh, na, hr⟩, k, q => by
    rcases q with q | ⟨a', vs, q, hv, m⟩
    · exact .inl q
    · rw [e] at q; cases q
      rw [k a _ (.inl e) hh] at hv
      exact .inr ⟨a, vs, e, by rw [hh]; exact hv, m⟩
/-- a change elsewhere -/
theorem SlotOk.upd {K : PySem.W.Frag} {H0 F H : Hp} {x : Option (Option V)} {c : Addr} {u : HO} : ∀ {s : Slot}, SlotOk K H0 F H x s → ¬ s.holds H x c → H0 c = none → (∀ ks, H c ≠ some (.tup ks)) → SlotOk K H0 F (upd H c u) x s
  | .any, _, _, _, _ => trivial
  | .im _, h, _, _, _ => h
  | .pin _, h, _, _, _ => h
  | .rob _ p _ _, ⟨vs, e, h0, hf, hh, hd⟩, _, hc, _ => ⟨vs, e, h0, hf, by rw [upd_ne (fun z => h0 (by rw [z]; exact hc))]; exact hh, hd⟩
  | .kt _, ⟨b, e, hb⟩, _, _, k => ⟨b, e, by rw [upd_ne (fun z => k _ (by rw [← z]; exact hb))]; exact hb⟩
  | .ow _, ⟨a, vs, e, h0, hf, hh, hd⟩, n, _, _ => ⟨a, vs, e, h0, hf, by rw [upd_ne (fun z => n (by rw [← z]; exact e))]; exact hh, hd⟩
  | .dk _, ⟨a, vs, e, h0, hf, hh, hd⟩, n, _, _ => ⟨a, vs, e, h0, hf, by rw [upd_ne (fun z => n (by rw [← z]; exact e))]; exact hh, hd⟩
  | .dt _, ⟨a, vs, e, h0, hf, hh, hd⟩, n, _, _ => ⟨a, vs, e, h0, hf, by rw [upd_ne (fun z => n (by rw [← z]; exact e))]; exact hh, hd⟩
  | .owp _ _, ⟨vs, e, h0, hf, hh, hd⟩, n, _, _ => ⟨vs, e, h0, hf, by rw [upd_ne (fun z => n (by rw [← z]; exact e))]; exact hh, hd⟩
  | .ob _ _ _ _, ⟨vs, e, h0, hf, hh, hd⟩, n, _, _ => ⟨vs, e, h0, hf, by rw [upd_ne (fun z => n (by rw [← z]; exact e))]; exact hh, hd⟩
  | .oo _, ⟨a, as, e, h0, hf, hh, na, hr⟩, n, _, _ => ⟨a, as, e, h0, hf, by rw [upd_ne (fun z => n (.inl (by rw [← z]; exact e)))]; exact hh, na, hr.upd fun m => n (.inr ⟨a, as, e, hh, m⟩)⟩
theorem Slot.holds_own {H : Hp} {x : Option (Option V)} {c : Addr} : ∀ {s : Slot}, s.owned = true → (s.holds H x c ↔ x = some (some (.ref c)))
  | .ow _, _ => Iff.rfl
  | .dk _, _ => Iff.rfl
  | .dt _, _ => Iff.rfl
  | .owp _ _, _ => Iff.rfl
  | .ob _ _ _ _, _ => Iff.rfl
structure EOk (K : PySem.W.Frag) (F0 H0 : Hp) (σ : L2.St) (F H : Hp) (env : List Slot) : Prop where
  g : Grow F0 H0 F H
  len : σ.length = env.length
  at_ : ∀ (i : Nat) (s : Slot), env[i]? = some s → SlotOk K H0 F H σ[i]? s
  dis : ∀ (i j : Nat) (s t : Slot) (c : Addr), i ≠ j → env[i]? = some s → env[j]? = some t → s.holds H σ[i]? c → t.holds H σ[j]? c → False
section
variable {K : PySem.W.Frag} {F0 H0 F H F' H' : Hp} {σ : L2.St} {env : List Slot}
theorem EOk.sub (o : EOk K F0 H0 σ F H env) : Ex F H := o.g.sub
theorem EOk.grow (o : EOk K F0 H0 σ F H env) (g : Grow F H F' H') : EOk K F0 H0 σ F' H' env :=
  ⟨o.g.trans g, o.len, fun i s h => (o.at_ i s h).grow g, fun i j s t c ne e1 e2 q1 q2 => o.dis i j s t c ne e1 e2 ((o.at_ i s e1).heldThen (fun a u _ h => g.hh a u h) q1) ((o.at_ j t e2).heldThen (fun a u _ h => g.hh a u h) q2)⟩
theorem get_set_self {α : Type} {l : List α} {i : Nat} {x : α} (h : i < l.length) : (l.set i x)[i]? = some x := List.getElem?_set_self h
theorem set_fix {α : Type} {l : List α} {i m : Nat} {x z : α} (em : (l.set i x)[m]? = some z) : (m = i ∧ i < l.length ∧ z = x) ∨ (i ≠ m ∧ l[m]? = some z) := by
  by_cases hm : i = m
  · subst hm
    have hl : i < l.length := by
      have := (List.getElem?_eq_some_iff.mp em).1
      rwa [List.length_set] at this
    rw [List.getElem?_set_self hl] at em
    cases em
    exact .inl ⟨rfl, hl, rfl⟩
  · rw [List.getElem?_set_ne hm] at em
    exact .inr ⟨hm, em⟩
/-- a name gets a value; what its new slot holds is new -/
theorem EOk.setNew {i : Nat} {w : Option V} {s' : Slot} (o : EOk K F0 H0 σ F H env) (g : Grow F H F' H') (hs : SlotOk K H0 F' H' (some w) s') (hn : ∀ c, s'.holds H' (some w) c → H c = none) : EOk K F0 H0 (σ.set i w) F' H' (env.set i s') := by
  have o' := o.grow g
  have old : ∀ (l : Nat) (t : Slot) (c : Addr), env[l]? = some t → t.holds H' σ[l]? c → H c = none → False := fun l t c e q hc => by
    have q' := (o.at_ l t e).heldThen (fun a u _ h => g.hh a u h) q
    exact ((o.at_ l t e).hold q').2.2.1 hc
  refine ⟨o'.g, by rw [List.length_set, List.length_set, o.len], fun j s e => ?_, fun j k s t c ne e1 e2 q1 q2 => ?_⟩
  · rcases set_fix e with ⟨rfl, hl, rfl⟩ | ⟨nj, z⟩
    · rw [List.getElem?_set_self (by rw [o.len]; exact hl)]
      exact hs
    · rw [List.getElem?_set_ne nj]
      exact o'.at_ j s z
  · rcases set_fix e1 with ⟨rfl, hl, rfl⟩ | ⟨nj, z1⟩
    · rw [List.getElem?_set_self (by rw [o.len]; exact hl)] at q1
      rcases set_fix e2 with ⟨rfl, _, rfl⟩ | ⟨nk, z2⟩
      · exact ne rfl
      · rw [List.getElem?_set_ne nk] at q2
        exact old k t c z2 q2 (hn c q1)
    · rw [List.getElem?_set_ne nj] at q1
      rcases set_fix e2 with ⟨rfl, hl, rfl⟩ | ⟨nk, z2⟩
      · rw [List.getElem?_set_self (by rw [o.len]; exact hl)] at q2
        exact old j s c z1 q1 (hn c q2)
      · rw [List.getElem?_set_ne nk] at q2
        exact o'.dis j k s t c ne z1 z2 q1 q2
/-- a name gets a value that is frozen -/
theorem EOk.set {i : Nat} {v : V} {d : PyData} (o : EOk K F0 H0 σ F H env) (h : Dv K F v d) : EOk K F0 H0 (σ.set i (some v)) F H (env.set i (.im d)) :=
  o.setNew (Grow.refl o.sub) ⟨v, rfl, h⟩ fun _ q => q.elim
/-- a name gets a new object of its own -/
theorem EOk.setOwn {i : Nat} {p : Addr} {u : HO} {s' : Slot} (o : EOk K F0 H0 σ F H env) (hp : H p = none) (hs : SlotOk K H0 F (L2.upd H p u) (some (some (.ref p))) s') (ow : s'.owned = true := by rfl) : EOk K F0 H0 (σ.set i (some (.ref p))) F (L2.upd H p u) (env.set i s') :=
  o.setNew (Grow.newH o.sub hp) hs fun c q => by
    have := (Slot.holds_own ow).mp q
    cases this
    exact hp
/-- what a slot holds is changed -/
theorem EOk.mutG {i : Nat} {a : Addr} {u : HO} {s s' : Slot} (o : EOk K F0 H0 σ F H env) (e : env[i]? = some s) (ha : s.holds H σ[i]? a) (hs : SlotOk K H0 F (L2.upd H a u) σ[i]? s') (hn : ∀ c, s'.holds (L2.upd H a u) σ[i]? c → s.holds H σ[i]? c) : EOk K F0 H0 σ F (L2.upd H a u) (env.set i s') := by
  obtain ⟨h0, hf, hb, hk⟩ := (o.at_ i s e).hold ha
  have hl : i < env.length := (List.getElem?_eq_some_iff.mp e).1
  have oth : ∀ (m : Nat) (z : Slot), i ≠ m → env[m]? = some z → ¬ z.holds H σ[m]? a := fun m z hm em q => o.dis i m s z a hm e em ha q
  have back : ∀ (m : Nat) (z : Slot) (c : Addr), i ≠ m → env[m]? = some z → z.holds (L2.upd H a u) σ[m]? c → z.holds H σ[m]? c := fun m z c hm em q =>
    (o.at_ m z em).heldThen (fun b v hb hv => by rw [upd_ne (fun w => oth m z hm em (by rw [← w]; exact hb))]; exact hv) q
  refine ⟨⟨o.g.ff, Ex.mut o.g.hh h0, Ex.mut o.g.sub hf, o.g.own⟩, by rw [List.length_set, o.len], fun j t ej => ?_, fun j k s1 t1 c ne e1 e2 q1 q2 => ?_⟩
  · rcases set_fix ej with ⟨rfl, _, rfl⟩ | ⟨nj, z⟩
    · exact hs
    · exact (o.at_ j t z).upd (oth j t nj z) h0 hk
  · rcases set_fix e1 with ⟨rfl, _, rfl⟩ | ⟨nj, z1⟩
    · rcases set_fix e2 with ⟨rfl, _, rfl⟩ | ⟨nk, z2⟩
      · exact ne rfl
      · exact o.dis j k s t1 c ne e z2 (hn c q1) (back k t1 c nk z2 q2)
    · rcases set_fix e2 with ⟨rfl, _, rfl⟩ | ⟨nk, z2⟩
      · exact o.dis j k s1 s c ne z1 e (back j s1 c nj z1 q1) (hn c q2)
      · exact o.dis j k s1 t1 c ne z1 z2 (back j s1 c nj z1 q1) (back k t1 c nk z2 q2)
/-- what an owned slot holds is changed -/
theorem EOk.mut {i : Nat} {a : Addr} {u : HO} {s s' : Slot} (o : EOk K F0 H0 σ F H env) (e : env[i]? = some s) (ow : s.owned = true) (ow' : s'.owned = true) (x : σ[i]? = some (some (.ref a)))
    (hs : SlotOk K H0 F (L2.upd H a u) (some (some (.ref a))) s') : EOk K F0 H0 σ F (L2.upd H a u) (env.set i s') :=
  o.mutG e ((Slot.holds_own ow).mpr x) (by rw [x]; exact hs) fun c q => (Slot.holds_own ow).mpr ((Slot.holds_own ow').mp q)
/-- what a slot owns is owned no more -/
theorem EOk.freezeG {i : Nat} {s s' : Slot} {F' : Hp} (o : EOk K F0 H0 σ F H env) (e : env[i]? = some s) (ff : Ex F F') (sub : Ex F' H) (new : ∀ b, F b = none → ¬ s.holds H σ[i]? b → F' b = none) (hs : SlotOk K H0 F' H σ[i]? s') (no : ∀ c, ¬ s'.holds H σ[i]? c) :
    EOk K F0 H0 σ F' H (env.set i s') := by
  have oth : ∀ (m : Nat) (z : Slot) (c : Addr), i ≠ m → env[m]? = some z → z.holds H σ[m]? c → F' c = none := fun m z c hm em q => new c ((o.at_ m z em).hold q).2.1 fun q' => o.dis i m s z c hm e em q' q
  refine ⟨⟨o.g.ff.trans ff, o.g.hh, sub, fun b f h => ?_⟩, by rw [List.length_set, o.len], fun j t ej => ?_, fun j k s1 t1 c ne e1 e2 q1 q2 => ?_⟩
  · refine new b (o.g.own b f h) fun q => ?_
    exact h ((o.at_ i s e).hold q).1
  · rcases set_fix ej with ⟨rfl, _, rfl⟩ | ⟨nj, z⟩
    · exact hs
    · have q := o.at_ j t z
      have hq := oth j t
      cases t with
      | any => trivial
      | im d =>
        obtain ⟨v, ev, hv⟩ := q
        exact ⟨v, ev, dv_mono ff hv⟩
      | pin v => exact q
      | kt ks => exact q
      | ow es =>
        obtain ⟨c, ws, ec, hc0, hcf, hch, hcd⟩ := q
        exact ⟨c, ws, ec, hc0, hq c nj z ec, hch, dvAll_mono ff hcd⟩
      | dk es =>
        obtain ⟨c, ws, ec, hc0, hcf, hch, hk, hcd⟩ := q
        exact ⟨c, ws, ec, hc0, hq c nj z ec, hch, hk, dvAll_mono ff hcd⟩
      | dt es =>
        obtain ⟨c, ws, ec, hc0, hcf, hch, hk, hcd⟩ := q
        exact ⟨c, ws, ec, hc0, hq c nj z ec, hch, hk, dvAll_mono ff hcd⟩
      | owp c es =>
        obtain ⟨ws, ec, hc0, hcf, hch, hcd⟩ := q
        exact ⟨ws, ec, hc0, hq c nj z ec, hch, dvAll_mono ff hcd⟩
      | ob C c dx es =>
        obtain ⟨ws, ec, hc0, hcf, hch, hk, hcd⟩ := q
        exact ⟨ws, ec, hc0, hq c nj z ec, hch, hk, dvAll_mono ff hcd⟩
      | rob C c dx es =>
        obtain ⟨ws, ec, hc0, hcf, hch, hk, hcd⟩ := q
        exact ⟨ws, ec, hc0, new c hcf (fun z => hc0 ((o.at_ i s e).hold z).1), hch, hk, dvAll_mono ff hcd⟩
      | oo rs =>
        obtain ⟨c, as, ec, hc0, hcf, hch, na, hr⟩ := q
        exact ⟨c, as, ec, hc0, hq c nj z (.inl ec), hch, na, hr.mono ff (Ex.refl H) fun b m _ _ => hq b nj z (.inr ⟨c, as, ec, hch, m⟩)⟩
  · rcases set_fix e1 with ⟨rfl, _, rfl⟩ | ⟨nj, z1⟩
    · exact no c q1
    · rcases set_fix e2 with ⟨rfl, _, rfl⟩ | ⟨nk, z2⟩
      · exact no c q2
      · exact o.dis j k s1 t1 c ne z1 z2 q1 q2
/-- an owned list is owned no more -/
theorem EOk.freeze {i : Nat} {ds : List PyData} (o : EOk K F0 H0 σ F H env) (e : env[i]? = some (.ow ds)) :
    ∃ F', Ex F F' ∧ EOk K F0 H0 σ F' H (env.set i (.im (.list ds))) ∧ (∀ b, F b = none → σ[i]? ≠ some (some (.ref b)) → F' b = none) := by
  obtain ⟨a, vs, ea, h0, hf, hh, hd⟩ := o.at_ i _ e
  have ff : Ex F (L2.upd F a (.lst vs)) := Ex.new hf
  have nw : ∀ b, F b = none → σ[i]? ≠ some (some (.ref b)) → L2.upd F a (.lst vs) b = none := fun b hb nb => by
    have : b ≠ a := fun z => nb (by rw [z]; exact ea)
    rw [upd_ne this]
    exact hb
  refine ⟨L2.upd F a (.lst vs), ff, o.freezeG e ff (fun b u eb => ?_) nw ⟨.ref a, ea, .lst upd_same (dvAll_mono ff hd)⟩ (fun _ q => q), nw⟩
  by_cases hb : b = a
  · subst hb
    rw [upd_same] at eb
    rw [← eb]
    exact hh
  · rw [upd_ne hb] at eb
    exact o.g.sub b u eb
/-- less is known -/
theorem EOk.weak {env' : List Slot} (o : EOk K F0 H0 σ F H env) (hl : env'.length = env.length) (h : ∀ (i : Nat) (s : Slot), env'[i]? = some s → s = .any ∨ env[i]? = some s) : EOk K F0 H0 σ F H env' := by
  refine ⟨o.g, by rw [hl]; exact o.len, fun i s e => ?_, fun i j s t a ne e1 e2 q1 q2 => ?_⟩
  · rcases h i s e with z | z
    · subst z
      trivial
    · exact o.at_ i s z
  · rcases h i s e1 with z | z1
    · subst z
      cases q1
    · rcases h j t e2 with z | z2
      · subst z
        cases q2
      · exact o.dis i j s t a ne z1 z2 q1 q2
end

/-! ### readings -/
def tD (K : PySem.W.Frag) (env : List Slot) (m : Option PyData) : TE := fun σ H Q => ∃ F0 H0 F d, EOk K F0 H0 σ F H env ∧ m = some d ∧ ∀ v F' H', Grow F H F' H' → Dv K F' v d → Q v H'
def tDs (K : PySem.W.Frag) (env : List Slot) (m : Option (List PyData)) : TA := fun σ H Q => ∃ F0 H0 F ds, EOk K F0 H0 σ F H env ∧ m = some ds ∧ ∀ vs F' H', Grow F H F' H' → DvAll K F' vs ds → Q vs H'
def tDT (K : PySem.W.Frag) (env : List Slot) (m : Option Bool) : TT := fun σ H Q => ∃ F0 H0 F b, EOk K F0 H0 σ F H env ∧ m = some b ∧ ∀ F' H', Grow F H F' H' → Q b H'
abbrev DE (X : Cx) (e : Expr) (env : List Slot) (m : Option PyData) : Prop := PE X e (tD X.K env m)
abbrev DA (X : Cx) (es : List Expr) (env : List Slot) (m : Option (List PyData)) : Prop := PA X es (tDs X.K env m)
abbrev DT (X : Cx) (e : Expr) (env : List Slot) (m : Option Bool) : Prop := PT X e (tDT X.K env m)
abbrev DW (X : Cx) (e : Expr) (env : List Slot) (m : Option Bool) : Prop := PW X e (tDT X.K env m)
theorem PE.mono {X : Cx} {e : Expr} {t t' : TE} (h : PE X e t) (k : ∀ σ H Q, t' σ H Q → t σ H Q) : PE X e t' := ⟨fun pins s σ H Q I q => h.run pins s σ H Q I (k σ H Q q)⟩
theorem PT.mono {X : Cx} {e : Expr} {t t' : TT} (h : PT X e t) (k : ∀ σ H Q, t' σ H Q → t σ H Q) : PT X e t' := ⟨fun pins s σ H Q I q => h.run pins s σ H Q I (k σ H Q q)⟩
theorem PW.mono {X : Cx} {e : Expr} {t t' : TT} (h : PW X e t) (k : ∀ σ H Q, t' σ H Q → t σ H Q) : PW X e t' := ⟨fun wh pins s σ H Q I q => h.run wh pins s σ H Q I (k σ H Q q)⟩
theorem PA.mono {X : Cx} {e : List Expr} {t t' : TA} (h : PA X e t) (k : ∀ σ H Q, t' σ H Q → t σ H Q) : PA X e t' := ⟨fun ps pins s σ H Q I q => h.run ps pins s σ H Q I (k σ H Q q)⟩
theorem PSs.mono {X : Cx} {e : List Stmt} {t t' : TS} (h : PSs X e t) (k : ∀ D σ H, t' D σ H → t D σ H) : PSs X e t' := ⟨fun pins s σ H D I q => h.run pins s σ H D I (k D σ H q)⟩
theorem PS.mono {X : Cx} {e : Stmt} {t t' : TS} (h : PS X e t) (k : ∀ D σ H, t' D σ H → t D σ H) : PS X e t' := ⟨fun pins s σ H D I q => h.run pins s σ H D I (k D σ H q)⟩
theorem pe_ex {X : Cx} {e : Expr} {α : Sort _} {t : α → TE} (h : ∀ a, PE X e (t a)) : PE X e (fun σ H Q => ∃ a, t a σ H Q) := ⟨fun pins s σ H Q I ⟨a, q⟩ => (h a).run pins s σ H Q I q⟩
theorem pt_ex {X : Cx} {e : Expr} {α : Sort _} {t : α → TT} (h : ∀ a, PT X e (t a)) : PT X e (fun σ H Q => ∃ a, t a σ H Q) := ⟨fun pins s σ H Q I ⟨a, q⟩ => (h a).run pins s σ H Q I q⟩
theorem pss_ex {X : Cx} {e : List Stmt} {α : Sort _} {t : α → TS} (h : ∀ a, PSs X e (t a)) : PSs X e (fun D σ H => ∃ a, t a D σ H) := ⟨fun pins s σ H D I ⟨a, q⟩ => (h a).run pins s σ H D I q⟩

section
variable {X : Cx} {env : List Slot} {a b e : Expr} {es : List Expr} {pos : Pos} {ma mb m : Option PyData}
/-! ### names and constants -/
theorem de_var (i : Nat) {x : Str} {d : PyData} (he : env[i]? = some (.im d) := by rfl) (hN : X.N[i]? = some x := by rfl) (hv : Vis X.env.scope x := by first | exact Or.inl rfl | exact Or.inr (Or.inl rfl) | exact Or.inr (Or.inr rfl))
    (hd : (x == ("__debug__" : Str)) = false := by decide) (hcd : (x == ("__classdict__" : Str)) = false := by decide) : DE X (.Name x pos) env (some d) :=
  PE.mono (pe_var (i := i) hN hv hd hcd) fun σ H Q ⟨F0, H0, F, d', o, em, q⟩ => by
    cases em
    obtain ⟨v, ev, hv⟩ := o.at_ i _ he
    exact ⟨v, ev, q v F H (Grow.refl o.sub) hv⟩
theorem de_c {v : V} {d : PyData} (h : PE X e (tC v)) (hd : ∀ F, Dv X.K F v d) : DE X e env (some d) :=
  PE.mono h fun σ H Q ⟨F0, H0, F, d', o, em, q⟩ => by
    cases em
    exact q v F H (Grow.refl o.sub) (hd F)
theorem de_int {i : Int} {j} : DE X (.Constant (.int i) j pos) env (some (.int i)) := de_c pe_int fun _ => .int i
theorem de_bl {i : Bool} {j} : DE X (.Constant (.bool i) j pos) env (some (.bool i)) := de_c pe_bl fun _ => .bl i
theorem de_non {j} : DE X (.Constant .none j pos) env (some .none) := de_c pe_non fun _ => .non
theorem de_str {i : Str} {j} : DE X (.Constant (.str i) j pos) env (some (.str i)) := de_c pe_str fun _ => .str i
/-- a constant of the module -/
theorem de_glob {x : Str} {v : V} {d : PyData} {u : Value} (hg : Gl X x) (hm : X.mg x = some u) (r : RelV v u) (hd : ∀ F, Dv X.K F v d) (hdb : (x == ("__debug__" : Str)) = false := by decide) : DE X (.Name x pos) env (some d) := de_c (pe_glob hg hm r hdb) hd
/-! ### arguments -/
theorem da_nil : DA X [] env (some []) := PA.mono pa_nil fun σ H Q ⟨F0, H0, F, ds, o, em, q⟩ => by
  cases em
  exact q [] F H (Grow.refl o.sub) .nil
theorem da_cons {ms : Option (List PyData)} (ha : DE X a env ma) (hr : DA X es env ms) (hs : starEach (a :: es) X.env = (false, eval a X.env) :: starEach es X.env := by rfl) :
    DA X (a :: es) env (ma.bind fun d => ms.bind fun ds => some (d :: ds)) := PA.mono (pa_cons ha hr hs) fun σ H Q ⟨F0, H0, F, ds, o, em, q⟩ => by
  cases ha : ma with
  | none => rw [ha] at em; cases em
  | some d =>
    rw [ha] at em
    cases hb : ms with
    | none => rw [hb] at em; cases em
    | some es' =>
      rw [hb] at em
      cases em
      refine ⟨F0, H0, F, d, o, rfl, fun v F1 H1 g1 h1 => ?_⟩
      refine ⟨F0, H0, F1, es', o.grow g1, rfl, fun vs F2 H2 g2 h2 => ?_⟩
      exact q _ F2 H2 (g1.trans g2) (.cons (dv_mono g2.ff h1) h2)
/-! ### operators: what a rule on values says of data -/
/-- r on data: told by p -/
def R2D (K : PySem.W.Frag) (r : R2) (p : PyData → PyData → Option PyData) : Prop :=
  ∀ x y F H d e z (Q : VK), Ex F H → Dv K F x d → Dv K F y e → p d e = some z → (∀ v F' H', Grow F H F' H' → Dv K F' v z → Q v H') → r x y H Q
theorem de_op {r : R2} {p : PyData → PyData → Option PyData} {op : Operator} (ho : OpR X (binaryOp op) r) (hp : R2D X.K r p) (ha : DE X a env ma) (hb : DE X b env mb) : DE X (.BinOp a op b pos) env (ma.bind fun x => mb.bind fun y => p x y) :=
  PE.mono (pe_op ho ha hb) fun σ H Q ⟨F0, H0, F, d, o, em, q⟩ => by
    obtain ⟨x, hx, em⟩ := Option.bind_eq_some_iff.mp em
    obtain ⟨y, hy, em⟩ := Option.bind_eq_some_iff.mp em
    refine ⟨F0, H0, F, x, o, hx, fun v F1 H1 g1 h1 => ⟨F0, H0, F1, y, o.grow g1, hy, fun u F2 H2 g2 h2 => ?_⟩⟩
    exact hp v u F2 H2 x y d Q g2.sub (dv_mono g2.ff h1) h2 em fun z F3 H3 g3 h3 => q z F3 H3 ((g1.trans g2).trans g3) h3
theorem de_cmp {r : R2} {p : PyData → PyData → Option PyData} {op : CmpOp} (ho : OpR X (compareOp op) r) (hp : R2D X.K r p) (ha : DE X a env ma) (hb : DE X b env mb) (hm : behindInMarks op b = false) :
    DE X (.Compare a [op] [b] pos) env (ma.bind fun x => mb.bind fun y => p x y) :=
  PE.mono (pe_cmpR ho ha hb hm) fun σ H Q ⟨F0, H0, F, d, o, em, q⟩ => by
    obtain ⟨x, hx, em⟩ := Option.bind_eq_some_iff.mp em
    obtain ⟨y, hy, em⟩ := Option.bind_eq_some_iff.mp em
    refine ⟨F0, H0, F, x, o, hx, fun v F1 H1 g1 h1 => ⟨F0, H0, F1, y, o.grow g1, hy, fun u F2 H2 g2 h2 => ?_⟩⟩
    exact hp v u F2 H2 x y d Q g2.sub (dv_mono g2.ff h1) h2 em fun z F3 H3 g3 h3 => q z F3 H3 ((g1.trans g2).trans g3) h3
def asB : PyData → Option Bool
  | .bool b => some b
  | _ => none
theorem asB_some {d : PyData} {b : Bool} (h : asB d = some b) : d = .bool b := by
  cases d <;> simp [asB] at h
  rw [h]
theorem dv_bool {K : PySem.W.Frag} {F : Hp} {v : V} {b : Bool} (h : Dv K F v (.bool b)) : v = .bl b := by cases h; rfl
theorem dv_int {K : PySem.W.Frag} {F : Hp} {v : V} {b : Int} (h : Dv K F v (.int b)) : v = .int b := by cases h; rfl
theorem dv_str {K : PySem.W.Frag} {F : Hp} {v : V} {b : Str} (h : Dv K F v (.str b)) : v = .str b := by cases h; rfl
theorem dv_non {K : PySem.W.Frag} {F : Hp} {v : V} (h : Dv K F v .none) : v = .non := by cases h; rfl
theorem dt_cmp {r : R2} {p : PyData → PyData → Option PyData} {op : CmpOp} (ho : OpR X (compareOp op) r) (hp : R2D X.K r p) (ha : DE X a env ma) (hb : DE X b env mb) (hm : behindInMarks op b = false) :
    DT X (.Compare a [op] [b] pos) env (ma.bind fun x => mb.bind fun y => (p x y).bind asB) :=
  PT.mono (pt_cmpR ho ha hb hm) fun σ H Q ⟨F0, H0, F, d, o, em, q⟩ => by
    obtain ⟨x, hx, em⟩ := Option.bind_eq_some_iff.mp em
    obtain ⟨y, hy, em⟩ := Option.bind_eq_some_iff.mp em
    obtain ⟨z, hz, em⟩ := Option.bind_eq_some_iff.mp em
    have ez := asB_some em
    subst ez
    refine ⟨F0, H0, F, x, o, hx, fun v F1 H1 g1 h1 => ⟨F0, H0, F1, y, o.grow g1, hy, fun u F2 H2 g2 h2 => ?_⟩⟩
    exact hp v u F2 H2 x y _ _ g2.sub (dv_mono g2.ff h1) h2 hz fun z F3 H3 g3 h3 => ⟨d, dv_bool h3, q F3 H3 ((g1.trans g2).trans g3)⟩
theorem dt_val (h : DE X e env m) (he : ∀ whole, isTrue e X.env whole = (do let v ← whole; standAt e.pos; holding [v] (truthy v)) := by intro _; rfl) : DT X e env (m.bind asB) :=
  PT.mono (pt_val h he) fun σ H Q ⟨F0, H0, F, d, o, em, q⟩ => by
    obtain ⟨z, hz, em⟩ := Option.bind_eq_some_iff.mp em
    have ez := asB_some em
    subst ez
    exact ⟨F0, H0, F, _, o, hz, fun v F1 H1 g1 h1 => ⟨d, dv_bool h1, q F1 H1 g1⟩⟩
variable {rest : List Expr} {ta tb : Option Bool}
theorem dw_pt (h : DW X e env ta) : DT X e env ta := PW.pt h
theorem dw_and1 (ha : DT X a env ta) : DW X (.BoolOp .And [a] pos) env ta := pw_and1 ha
theorem dw_or1 (ha : DT X a env ta) : DW X (.BoolOp .Or [a] pos) env ta := pw_or1 ha
theorem dw_and (ha : DT X a env ta) (hb : DW X (.BoolOp .And (b :: rest) pos) env tb) : DW X (.BoolOp .And (a :: b :: rest) pos) env (ta.bind fun c => if c = true then tb else some false) :=
  PW.mono (pw_and ha hb) fun σ H Q ⟨F0, H0, F, d, o, em, q⟩ => by
    obtain ⟨x, hx, em⟩ := Option.bind_eq_some_iff.mp em
    refine ⟨F0, H0, F, x, o, hx, fun F1 H1 g1 => ?_⟩
    cases x with
    | true => exact ⟨F0, H0, F1, d, o.grow g1, em, fun F2 H2 g2 => q F2 H2 (g1.trans g2)⟩
    | false =>
      cases em
      exact q F1 H1 g1
theorem dw_or (ha : DT X a env ta) (hb : DW X (.BoolOp .Or (b :: rest) pos) env tb) : DW X (.BoolOp .Or (a :: b :: rest) pos) env (ta.bind fun c => if c = true then some true else tb) :=
  PW.mono (pw_or ha hb) fun σ H Q ⟨F0, H0, F, d, o, em, q⟩ => by
    obtain ⟨x, hx, em⟩ := Option.bind_eq_some_iff.mp em
    refine ⟨F0, H0, F, x, o, hx, fun F1 H1 g1 => ?_⟩
    cases x with
    | false => exact ⟨F0, H0, F1, d, o.grow g1, em, fun F2 H2 g2 => q F2 H2 (g1.trans g2)⟩
    | true =>
      cases em
      exact q F1 H1 g1
theorem dt_not (ha : DT X a env ta) : DT X (.UnaryOp .Not a pos) env (ta.bind fun c => some (!c)) :=
  PT.mono (pt_not ha) fun σ H Q ⟨F0, H0, F, d, o, em, q⟩ => by
    obtain ⟨x, hx, em⟩ := Option.bind_eq_some_iff.mp em
    cases em
    exact ⟨F0, H0, F, x, o, hx, fun F1 H1 g1 => q F1 H1 g1⟩
/-! ### as values -/
theorem de_one {op} (h : DE X a env ma) : DE X (.BoolOp op [a] pos) env ma := pe_one h
theorem de_and (ha : DE X a env ma) (hb : DE X (.BoolOp .And (b :: rest) pos) env mb) : DE X (.BoolOp .And (a :: b :: rest) pos) env (ma.bind fun x => (asB x).bind fun c => if c = true then mb else some (.bool false)) :=
  PE.mono (pe_and ha hb) fun σ H Q ⟨F0, H0, F, d, o, em, q⟩ => by
    obtain ⟨x, hx, em⟩ := Option.bind_eq_some_iff.mp em
    obtain ⟨c, hc, em⟩ := Option.bind_eq_some_iff.mp em
    have ez := asB_some hc
    subst ez
    refine ⟨F0, H0, F, _, o, hx, fun v F1 H1 g1 h1 => ⟨c, dv_bool h1, ?_⟩⟩
    cases c with
    | true => exact ⟨F0, H0, F1, d, o.grow g1, em, fun v F2 H2 g2 => q v F2 H2 (g1.trans g2)⟩
    | false =>
      cases em
      exact q _ F1 H1 g1 (.bl false)
theorem de_or (ha : DE X a env ma) (hb : DE X (.BoolOp .Or (b :: rest) pos) env mb) : DE X (.BoolOp .Or (a :: b :: rest) pos) env (ma.bind fun x => (asB x).bind fun c => if c = true then some (.bool true) else mb) :=
  PE.mono (pe_or ha hb) fun σ H Q ⟨F0, H0, F, d, o, em, q⟩ => by
    obtain ⟨x, hx, em⟩ := Option.bind_eq_some_iff.mp em
    obtain ⟨c, hc, em⟩ := Option.bind_eq_some_iff.mp em
    have ez := asB_some hc
    subst ez
    refine ⟨F0, H0, F, _, o, hx, fun v F1 H1 g1 h1 => ⟨c, dv_bool h1, ?_⟩⟩
    cases c with
    | false => exact ⟨F0, H0, F1, d, o.grow g1, em, fun v F2 H2 g2 => q v F2 H2 (g1.trans g2)⟩
    | true =>
      cases em
      exact q _ F1 H1 g1 (.bl true)
theorem de_not (ha : DE X a env ma) : DE X (.UnaryOp .Not a pos) env (ma.bind fun x => (asB x).bind fun c => some (.bool (!c))) :=
  PE.mono (pe_not ha) fun σ H Q ⟨F0, H0, F, d, o, em, q⟩ => by
    obtain ⟨x, hx, em⟩ := Option.bind_eq_some_iff.mp em
    obtain ⟨c, hc, em⟩ := Option.bind_eq_some_iff.mp em
    have ez := asB_some hc
    subst ez
    cases em
    exact ⟨F0, H0, F, _, o, hx, fun v F1 H1 g1 h1 => ⟨c, dv_bool h1, q _ F1 H1 g1 (.bl _)⟩⟩
/-- low <= x <= high -/
theorem de_chain {op op' : CmpOp} {r r' : R2} {p p' : PyData → PyData → Option PyData} {c : Expr} {mc : Option PyData} (ho : OpR X (compareOp op) r) (ho' : OpR X (compareOp op') r') (hp : R2D X.K r p) (hp' : R2D X.K r' p') (ha : DE X a env ma) (hb : DE X b env mb) (hc : DE X c env mc)
    (hm : lastMarks [op, op'] [b, c] = false := by with_unfolding_all rfl) :
    DE X (.Compare a [op, op'] [b, c] pos) env (ma.bind fun x => mb.bind fun y => (p x y).bind fun z => (asB z).bind fun k => if k = true then (mc.bind fun w => p' y w) else some (.bool false)) := by
  refine PE.mono (pe_chain ho ho' ha hb hc hm) fun σ H Q ⟨F0, H0, F, d, o, em, q⟩ => ?_
  obtain ⟨x, hx, em⟩ := Option.bind_eq_some_iff.mp em
  obtain ⟨y, hy, em⟩ := Option.bind_eq_some_iff.mp em
  obtain ⟨z, hz, em⟩ := Option.bind_eq_some_iff.mp em
  obtain ⟨k, hk, em⟩ := Option.bind_eq_some_iff.mp em
  have ez := asB_some hk
  subst ez
  refine ⟨F0, H0, F, x, o, hx, fun v F1 H1 g1 h1 => ⟨F0, H0, F1, y, o.grow g1, hy, fun u F2 H2 g2 h2 => ?_⟩⟩
  refine hp v u F2 H2 x y _ _ g2.sub (dv_mono g2.ff h1) h2 hz fun z F3 H3 g3 h3 => ⟨k, dv_bool h3, ?_⟩
  have g13 := (g1.trans g2).trans g3
  cases k with
  | true =>
    have em : (mc.bind fun w => p' y w) = some d := em
    obtain ⟨w, hw, em⟩ := Option.bind_eq_some_iff.mp em
    refine ⟨F0, H0, F3, w, o.grow g13, hw, fun t F4 H4 g4 h4 => ?_⟩
    exact hp' u t F4 H4 y w d Q g4.sub (dv_mono (g3.trans g4).ff h2) h4 em fun z F5 H5 g5 h5 => q z F5 H5 ((g13.trans g4).trans g5) h5
  | false =>
    cases em
    exact q _ F3 H3 g13 (.bl false)
end
end DV
end
section
set_option Elab.async false
set_option linter.all false
set_option maxRecDepth 100000
set_option maxHeartbeats 2000000
namespace DV
open PySem L2 Evl

/-! ### statements -/
/-- what is wanted of an outcome; less is wanted of a greater frozen part -/
structure Wk (β : Type) where
  run : Hp → Hp → Hp → Ends → β → Prop
  mono : ∀ {F0 H0 F F' : Hp} {D : Ends} {b : β}, Ex F F' → run F0 H0 F D b → run F0 H0 F' D b
inductive Out (α : Type) where
  | go (a : α)
  | ret (d : PyData)
def Out.next {α β : Type} : Out α → (α → Option (Out β)) → Option (Out β)
  | .go a, k => k a
  | .ret d, _ => some (.ret d)
def Out.fin {α : Type} : Out α → (α → Option PyData) → Option PyData
  | .go a, k => k a
  | .ret d, _ => some d
section
variable {α β γ : Type}
def wR (K : PySem.W.Frag) : Wk PyData := ⟨fun F0 H0 _ D d => ∀ v F' H', Grow F0 H0 F' H' → Dv K F' v d → D.rt v H', fun _ h => h⟩
def wN (K : PySem.W.Frag) (ev : α → List Slot) : Wk α := ⟨fun F0 H0 F D a => ∀ σ' F' H', Ex F F' → EOk K F0 H0 σ' F' H' (ev a) → D.nx σ' H', fun e h σ' F' H' x o => h σ' F' H' (e.trans x) o⟩
def wSrun (K : PySem.W.Frag) (ev : α → List Slot) (F0 H0 F : Hp) (D : Ends) : Out α → Prop
  | .go a => (wN K ev).run F0 H0 F D a
  | .ret d => (wR K).run F0 H0 F D d
def wS (K : PySem.W.Frag) (ev : α → List Slot) : Wk (Out α) := ⟨wSrun K ev, fun {F0 H0 F F' D b} e h => match b, h with
  | .go _, h => (wN K ev).mono e h
  | .ret _, h => (wR K).mono e h⟩
def tG (K : PySem.W.Frag) (W : Wk β) (env : List Slot) (m : Option β) : TS := fun D σ H => ∃ F0 H0 F o, EOk K F0 H0 σ F H env ∧ m = some o ∧ W.run F0 H0 F D o
abbrev DG (X : Cx) (ss : List Stmt) (W : Wk β) (env : List Slot) (m : Option β) : Prop := PSs X ss (tG X.K W env m)
/-- a block that returns; that falls through; that does either -/
abbrev DR (X : Cx) (ss : List Stmt) (env : List Slot) (m : Option PyData) : Prop := DG X ss (wR X.K) env m
abbrev DN (X : Cx) (ss : List Stmt) (ev : α → List Slot) (env : List Slot) (m : Option α) : Prop := DG X ss (wN X.K ev) env m
abbrev DS (X : Cx) (ss : List Stmt) (ev : α → List Slot) (env : List Slot) (m : Option (Out α)) : Prop := DG X ss (wS X.K ev) env m

/-- what is known behind: the same, or nothing -/
def Weak : List Slot → List Slot → Prop
  | [], [] => True
  | _ :: e, .any :: e' => Weak e e'
  | s :: e, s' :: e' => s = s' ∧ Weak e e'
  | _, _ => False
theorem Weak.len : ∀ {e e' : List Slot}, Weak e e' → e'.length = e.length
  | [], [], _ => rfl
  | _ :: e, .any :: e', h => by rw [List.length_cons, List.length_cons, Weak.len (e := e) (e' := e') h]
  | _ :: e, .im _ :: e', h => by rw [List.length_cons, List.length_cons, Weak.len (e := e) (e' := e') h.2]
  | _ :: e, .ow _ :: e', h => by rw [List.length_cons, List.length_cons, Weak.len (e := e) (e' := e') h.2]
  | _ :: e, .dk _ :: e', h => by rw [List.length_cons, List.length_cons, Weak.len (e := e) (e' := e') h.2]
  | _ :: e, .dt _ :: e', h => by rw [List.length_cons, List.length_cons, Weak.len (e := e) (e' := e') h.2]
  | _ :: e, .kt _ :: e', h => by rw [List.length_cons, List.length_cons, Weak.len (e := e) (e' := e') h.2]
  | _ :: e, .pin _ :: e', h => by rw [List.length_cons, List.length_cons, Weak.len (e := e) (e' := e') h.2]
  | _ :: e, .owp _ _ :: e', h => by rw [List.length_cons, List.length_cons, Weak.len (e := e) (e' := e') h.2]
  | _ :: e, .oo _ :: e', h => by rw [List.length_cons, List.length_cons, Weak.len (e := e) (e' := e') h.2]
  | _ :: e, .ob _ _ _ _ :: e', h => by rw [List.length_cons, List.length_cons, Weak.len (e := e) (e' := e') h.2]
  | _ :: e, .rob _ _ _ _ :: e', h => by rw [List.length_cons, List.length_cons, Weak.len (e := e) (e' := e') h.2]
  | [], _ :: _, h => by cases h
  | _ :: _, [], h => by cases h
theorem Weak.get : ∀ {e e' : List Slot}, Weak e e' → ∀ (i : Nat) (s : Slot), e'[i]? = some s → s = .any ∨ e[i]? = some s
  | [], [], _, _, _, h => by simp at h
  | _ :: e, .any :: e', h, 0, s, q => by
    left
    simpa using q.symm
  | _ :: e, .any :: e', h, i + 1, s, q => by
    simpa using Weak.get (e := e) (e' := e') h i s (by simpa using q)
  | _ :: e, .im _ :: e', h, 0, s, q => .inr (by rw [h.1]; simpa using q)
  | _ :: e, .im _ :: e', h, i + 1, s, q => by simpa using Weak.get (e := e) (e' := e') h.2 i s (by simpa using q)
  | _ :: e, .ow _ :: e', h, 0, s, q => .inr (by rw [h.1]; simpa using q)
  | _ :: e, .ow _ :: e', h, i + 1, s, q => by simpa using Weak.get (e := e) (e' := e') h.2 i s (by simpa using q)
  | _ :: e, .dk _ :: e', h, 0, s, q => .inr (by rw [h.1]; simpa using q)
  | _ :: e, .dk _ :: e', h, i + 1, s, q => by simpa using Weak.get (e := e) (e' := e') h.2 i s (by simpa using q)
  | _ :: e, .dt _ :: e', h, 0, s, q => .inr (by rw [h.1]; simpa using q)
  | _ :: e, .kt _ :: e', h, 0, s, q => .inr (by rw [h.1]; simpa using q)
  | _ :: e, .dt _ :: e', h, i + 1, s, q => by simpa using Weak.get (e := e) (e' := e') h.2 i s (by simpa using q)
  | _ :: e, .kt _ :: e', h, i + 1, s, q => by simpa using Weak.get (e := e) (e' := e') h.2 i s (by simpa using q)
  | _ :: e, .pin _ :: e', h, 0, s, q => .inr (by rw [h.1]; simpa using q)
  | _ :: e, .pin _ :: e', h, i + 1, s, q => by simpa using Weak.get (e := e) (e' := e') h.2 i s (by simpa using q)
  | _ :: e, .owp _ _ :: e', h, 0, s, q => .inr (by rw [h.1]; simpa using q)
  | _ :: e, .owp _ _ :: e', h, i + 1, s, q => by simpa using Weak.get (e := e) (e' := e') h.2 i s (by simpa using q)
  | _ :: e, .oo _ :: e', h, 0, s, q => .inr (by rw [h.1]; simpa using q)
  | _ :: e, .oo _ :: e', h, i + 1, s, q => by simpa using Weak.get (e := e) (e' := e') h.2 i s (by simpa using q)
  | _ :: e, .ob _ _ _ _ :: e', h, 0, s, q => .inr (by rw [h.1]; simpa using q)
  | _ :: e, .ob _ _ _ _ :: e', h, i + 1, s, q => by simpa using Weak.get (e := e) (e' := e') h.2 i s (by simpa using q)
  | _ :: e, .rob _ _ _ _ :: e', h, 0, s, q => .inr (by rw [h.1]; simpa using q)
  | _ :: e, .rob _ _ _ _ :: e', h, i + 1, s, q => by simpa using Weak.get (e := e) (e' := e') h.2 i s (by simpa using q)
  | [], _ :: _, h, _, _, _ => by cases h
  | _ :: _, [], h, _, _, _ => by cases h
theorem EOk.wk {K : PySem.W.Frag} {F0 H0 F H : Hp} {σ : L2.St} {env env' : List Slot} (o : EOk K F0 H0 σ F H env) (h : Weak env env') : EOk K F0 H0 σ F H env' := o.weak h.len h.get
end

section
variable {X : Cx} {env : List Slot} {e c : Expr} {pos : Pos} {α β γ : Type} {W : Wk β} {rest : List Stmt} {me : Option PyData}
theorem dg_ex {ss : List Stmt} {κ : Sort _} {en : κ → List Slot} {m : κ → Option β} (h : ∀ a, DG X ss W (en a) (m a)) : PSs X ss (fun D σ H => ∃ a, tG X.K W (en a) (m a) D σ H) := pss_ex h
theorem DG.cast {ss : List Stmt} {m m' : Option β} (h : DG X ss W env m) (e : m' = m) : DG X ss W env m' := by
  rw [e]
  exact h
theorem dg_weak {ss : List Stmt} {env' : List Slot} {m : Option β} (h : DG X ss W env' m) (hw : Weak env env') : DG X ss W env m := PSs.mono h fun D σ H ⟨F0, H0, F, o, ok, em, q⟩ => ⟨F0, H0, F, o, ok.wk hw, em, q⟩
theorem dg_freeze {ss : List Stmt} {m : Option β} (i : Nat) {ds : List PyData} {env' : List Slot} (h : DG X ss W env' m) (he : env[i]? = some (.ow ds) := by rfl) (hs : env.set i (.im (.list ds)) = env' := by rfl) : DG X ss W env m :=
  PSs.mono h fun D σ H ⟨F0, H0, F, o, ok, em, q⟩ => by
    obtain ⟨F', ff, ok', _⟩ := ok.freeze he
    rw [hs] at ok'
    exact ⟨F0, H0, F', o, ok', em, W.mono ff q⟩
theorem dn_nil {ev : α → List Slot} {a : α} (h : Weak env (ev a)) : DN X [] ev env (some a) := PSs.mono pss_nil fun D σ H ⟨F0, H0, F, o, ok, em, q⟩ => by
  cases em
  exact q σ F H (Ex.refl F) (ok.wk h)
theorem ds_nil {ev : α → List Slot} {a : α} (h : Weak env (ev a)) : DS X [] ev env (some (.go a)) := PSs.mono pss_nil fun D σ H ⟨F0, H0, F, o, ok, em, q⟩ => by
  cases em
  exact q σ F H (Ex.refl F) (ok.wk h)
theorem dr_ret (he : DE X e env me) : DR X [.Return (some e) pos] env me := PSs.mono (pss_one (ps_ret he)) fun D σ H ⟨F0, H0, F, d, ok, em, q⟩ =>
  ⟨F0, H0, F, d, ok, em, fun v F' H' g h => q v F' H' (ok.g.trans g) h⟩
theorem ds_ret {ev : α → List Slot} (he : DE X e env me) : DS X [.Return (some e) pos] ev env (me.bind fun d => some (.ret d)) := PSs.mono (pss_one (ps_ret he)) fun D σ H ⟨F0, H0, F, o, ok, em, q⟩ => by
  obtain ⟨d, hd, em⟩ := Option.bind_eq_some_iff.mp em
  cases em
  exact ⟨F0, H0, F, d, ok, hd, fun v F' H' g h => q v F' H' (ok.g.trans g) h⟩
/-- a block that returns is one that may -/
theorem ds_of_r {ev : α → List Slot} {ss : List Stmt} {m : Option PyData} (h : DR X ss env m) : DS X ss ev env (m.bind fun d => some (.ret d)) := PSs.mono h fun D σ H ⟨F0, H0, F, o, ok, em, q⟩ => by
  obtain ⟨d, hd, em⟩ := Option.bind_eq_some_iff.mp em
  cases em
  exact ⟨F0, H0, F, d, ok, hd, q⟩
theorem dg_asg (i : Nat) {x : Str} {pos' : Pos} {k : PyData → Option β} {env' : PyData → List Slot} (hN : X.N.Nodup) (hx : Loc X.env.scope x) (he : DE X e env me) (hr : ∀ d, DG X rest W (env' d) (k d)) (hs : ∀ d, env.set i (.im d) = env' d := by intro _; rfl)
    (hi : X.N[i]? = some x := by rfl) (hsw : swapsWith e (some (.Name x pos')) pos.line X.env = pure false := by rfl) (hf : X.fn x = true ∨ X.env.scope.names.lookup x = some .local := by first | exact .inl rfl | exact .inr rfl | assumption) :
    DG X (.Assign [.Name x pos'] e pos :: rest) W env (me.bind k) := PSs.mono (pss_cons (ps_set (i := i) hN hi hx he hsw hf) (pss_ex hr)) fun D σ H ⟨F0, H0, F, o, ok, em, q⟩ => by
  obtain ⟨d, hd, em⟩ := Option.bind_eq_some_iff.mp em
  refine ⟨F0, H0, F, d, ok, hd, fun v F' H' g h => ⟨d, F0, H0, F', o, ?_, em, W.mono g.ff q⟩⟩
  rw [← hs]
  exact (ok.grow g).set h
/-- x = y, y an owned list: owned no more -/
theorem dg_ifs {ev : α → List Slot} {b1 b2 : List Stmt} {mc : Option Bool} {m1 m2 : Option α} {k : α → Option β} (hc : DT X c env mc) (h1 : DN X b1 ev env m1) (h2 : DN X b2 ev env m2) (hr : ∀ a, DG X rest W (ev a) (k a)) :
    DG X (.If c b1 b2 pos :: rest) W env (mc.bind fun b => (if b = true then m1 else m2).bind k) := PSs.mono (pss_cons (ps_if hc h1 h2) (pss_ex hr)) fun D σ H ⟨F0, H0, F, o, ok, em, q⟩ => by
  obtain ⟨b, hb, em1⟩ := Option.bind_eq_some_iff.mp em
  obtain ⟨a, ha, em2⟩ := Option.bind_eq_some_iff.mp em1
  refine ⟨F0, H0, F, b, ok, hb, fun F1 H1 g => ?_⟩
  cases b with
  | true => exact ⟨F0, H0, F1, a, ok.grow g, ha, fun σ' F' H' x o' => ⟨a, F0, H0, F', o, o', em2, W.mono (g.ff.trans x) q⟩⟩
  | false => exact ⟨F0, H0, F1, a, ok.grow g, ha, fun σ' F' H' x o' => ⟨a, F0, H0, F', o, o', em2, W.mono (g.ff.trans x) q⟩⟩
/-- if c: .. return; rest -/
theorem dr_ifr {b1 : List Stmt} {mc : Option Bool} {m1 m2 : Option PyData} (hc : DT X c env mc) (h1 : DR X b1 env m1) (h2 : DR X rest env m2) :
    DR X (.If c b1 [] pos :: rest) env (mc.bind fun b => if b = true then m1 else m2) := PSs.mono (pss_cons (ps_if hc h1 pss_nil) h2) fun D σ H ⟨F0, H0, F, o, ok, em, q⟩ => by
  obtain ⟨b, hb, em⟩ := Option.bind_eq_some_iff.mp em
  refine ⟨F0, H0, F, b, ok, hb, fun F1 H1 g => ?_⟩
  cases b with
  | true => exact ⟨F0, H0, F1, o, ok.grow g, em, q⟩
  | false => exact ⟨F0, H0, F1, o, ok.grow g, em, q⟩
theorem ds_ifr {ev : α → List Slot} {b1 : List Stmt} {mc : Option Bool} {m1 : Option PyData} {m2 : Option (Out α)} (hc : DT X c env mc) (h1 : DR X b1 env m1) (h2 : DS X rest ev env m2) :
    DS X (.If c b1 [] pos :: rest) ev env (mc.bind fun b => if b = true then (m1.bind fun d => some (.ret d)) else m2) := PSs.mono (pss_cons (ps_if hc h1 pss_nil) h2) fun D σ H ⟨F0, H0, F, o, ok, em, q⟩ => by
  obtain ⟨b, hb, em⟩ := Option.bind_eq_some_iff.mp em
  refine ⟨F0, H0, F, b, ok, hb, fun F1 H1 g => ?_⟩
  cases b with
  | true =>
    have em : (m1.bind fun d => some (Out.ret d)) = some o := em
    obtain ⟨d, hd, em⟩ := Option.bind_eq_some_iff.mp em
    cases em
    exact ⟨F0, H0, F1, d, ok.grow g, hd, q⟩
  | false => exact ⟨F0, H0, F1, o, ok.grow g, em, (wS X.K ev).mono g.ff q⟩
/-- an if whose ways may return -/
theorem ds_if {ev : α → List Slot} {ev2 : γ → List Slot} {b1 b2 : List Stmt} {mc : Option Bool} {m1 m2 : Option (Out α)} {k : α → Option (Out γ)} (hc : DT X c env mc) (h1 : DS X b1 ev env m1) (h2 : DS X b2 ev env m2) (hr : ∀ a, DS X rest ev2 (ev a) (k a)) :
    DS X (.If c b1 b2 pos :: rest) ev2 env (mc.bind fun b => (if b = true then m1 else m2).bind fun o => o.next k) := PSs.mono (pss_cons (ps_if hc h1 h2) (pss_ex hr)) fun D σ H ⟨F0, H0, F, o, ok, em, q⟩ => by
  obtain ⟨b, hb, em⟩ := Option.bind_eq_some_iff.mp em
  obtain ⟨z, hz, em⟩ := Option.bind_eq_some_iff.mp em
  have key : ∀ F1 H1, Grow F H F1 H1 → (wS X.K ev).run F0 H0 F1 { D with nx := fun σ H => ∃ a, tG X.K (wS X.K ev2) (ev a) (k a) D σ H } z := fun F1 H1 g => by
    cases z with
    | go a => exact fun σ' F' H' x o' => ⟨a, F0, H0, F', o, o', em, (wS X.K ev2).mono (g.ff.trans x) q⟩
    | ret d =>
      cases em
      exact q
  refine ⟨F0, H0, F, b, ok, hb, fun F1 H1 g => ?_⟩
  cases b with
  | true => exact ⟨F0, H0, F1, z, ok.grow g, hz, key F1 H1 g⟩
  | false => exact ⟨F0, H0, F1, z, ok.grow g, hz, key F1 H1 g⟩
theorem dr_if {ev : α → List Slot} {b1 b2 : List Stmt} {mc : Option Bool} {m1 m2 : Option (Out α)} {k : α → Option PyData} (hc : DT X c env mc) (h1 : DS X b1 ev env m1) (h2 : DS X b2 ev env m2) (hr : ∀ a, DR X rest (ev a) (k a)) :
    DR X (.If c b1 b2 pos :: rest) env (mc.bind fun b => (if b = true then m1 else m2).bind fun o => o.fin k) := PSs.mono (pss_cons (ps_if hc h1 h2) (pss_ex hr)) fun D σ H ⟨F0, H0, F, o, ok, em, q⟩ => by
  obtain ⟨b, hb, em⟩ := Option.bind_eq_some_iff.mp em
  obtain ⟨z, hz, em⟩ := Option.bind_eq_some_iff.mp em
  have key : ∀ F1 H1, Grow F H F1 H1 → (wS X.K ev).run F0 H0 F1 { D with nx := fun σ H => ∃ a, tG X.K (wR X.K) (ev a) (k a) D σ H } z := fun F1 H1 g => by
    cases z with
    | go a => exact fun σ' F' H' x o' => ⟨a, F0, H0, F', o, o', em, q⟩
    | ret d =>
      cases em
      exact q
  refine ⟨F0, H0, F, b, ok, hb, fun F1 H1 g => ?_⟩
  cases b with
  | true => exact ⟨F0, H0, F1, z, ok.grow g, hz, key F1 H1 g⟩
  | false => exact ⟨F0, H0, F1, z, ok.grow g, hz, key F1 H1 g⟩

/-! ### what is walked -/
/-- J walks the data ds, from any later state -/
structure ItD (K : PySem.W.Frag) (J : It) (F H : Hp) (ds : List PyData) : Prop where
  go : ∀ (i : Nat) (d : PyData) (F1 H1 : Hp), Ex F F1 → Ex F1 H1 → ds[i]? = some d → J.go i H1 ∧ ∀ x H2, J.yld i H1 x H2 → ∃ F2, Grow F1 H1 F2 H2 ∧ Dv K F2 x d
  stop : ∀ (i : Nat) (F1 H1 : Hp), Ex F F1 → Ex F1 H1 → ds.length ≤ i → J.stop i H1
def tI (K : PySem.W.Frag) (env : List Slot) (m : Option (List PyData)) : TI := fun σ H R => ∃ F0 H0 F ds, EOk K F0 H0 σ F H env ∧ m = some ds ∧ ∀ J F' H', Grow F H F' H' → ItD K J F' H' ds → R J H'
abbrev DI (X : Cx) (tg iter : Expr) (env : List Slot) (m : Option (List PyData)) : Prop := PI X tg iter (tI X.K env m)
theorem PI.mono {tg it : Expr} {t t' : TI} (h : PI X tg it t) (k : ∀ σ H R, t' σ H R → t σ H R) : PI X tg it t' := ⟨fun pins s σ H R I q => h.run pins s σ H R I (k σ H R q)⟩
def itemsOf : PyData → Option (List PyData)
  | .list ds => some ds
  | .tuple ds => some ds
  | .dict kvs => some (kvs.map (·.1))
  | _ => none
theorem itd_list {K : PySem.W.Frag} {F H : Hp} {a : Addr} {xs : List V} {ds : List PyData} (h : SqL K F a xs) (hd : DvAll K F xs ds) : ItD K (Itl K a) F H ds := by
  refine ⟨fun i d F1 H1 e1 s1 hi => ?_, fun i F1 H1 e1 s1 hi => ⟨xs, ex_l s1 (ex_l e1 h), by rw [dvAll_len hd]; exact hi⟩⟩
  obtain ⟨v, hv, dv⟩ := dvAll_get hd hi
  refine ⟨⟨xs, v, ex_l s1 (ex_l e1 h), hv⟩, fun x H2 y => ?_⟩
  obtain ⟨rfl, y⟩ := y
  have e := y xs (ex_l s1 (ex_l e1 h))
  rw [hv] at e
  cases e
  exact ⟨F1, Grow.refl s1, dv_mono e1 dv⟩
theorem itd_tup {K : PySem.W.Frag} {F H : Hp} {a : Addr} {xs : List V} {ds : List PyData} (h : SqT K F a xs) (hd : DvAll K F xs ds) : ItD K (Itt K a) F H ds := by
  refine ⟨fun i d F1 H1 e1 s1 hi => ?_, fun i F1 H1 e1 s1 hi => ⟨xs, ex_t s1 (ex_t e1 h), by rw [dvAll_len hd]; exact hi⟩⟩
  obtain ⟨v, hv, dv⟩ := dvAll_get hd hi
  refine ⟨⟨xs, v, ex_t s1 (ex_t e1 h), hv⟩, fun x H2 y => ?_⟩
  obtain ⟨rfl, y⟩ := y
  have e := y xs (ex_t s1 (ex_t e1 h))
  rw [hv] at e
  cases e
  exact ⟨F1, Grow.refl s1, dv_mono e1 dv⟩
/-- two ways to walk, by what it is -/
theorem pi_or {tg it : Expr} {t u : TI} (h : PI X tg it t) (k : PI X tg it u) : PI X tg it (fun σ H R => t σ H R ∨ u σ H R) := ⟨fun pins s σ H R I q => q.elim (h.run pins s σ H R I) (k.run pins s σ H R I)⟩
theorem pi_ex {tg it : Expr} {κ : Sort _} {t : κ → TI} (h : ∀ a, PI X tg it (t a)) : PI X tg it (fun σ H R => ∃ a, t a σ H R) := ⟨fun pins s σ H R I ⟨a, q⟩ => (h a).run pins s σ H R I q⟩
theorem di_seq {tg l : Expr} {m : Option PyData} (h : DE X l env m) : DI X tg l env (m.bind itemsOf) := by
  refine PI.mono (pi_or (pi_list h) (pi_tup h)) fun σ H R ⟨F0, H0, F, ds, ok, em, q⟩ => ?_
  obtain ⟨d, hd, em⟩ := Option.bind_eq_some_iff.mp em
  cases d with
  | list es =>
    cases em
    refine .inl ⟨F0, H0, F, _, ok, hd, fun v F1 H1 g h1 => ?_⟩
    cases h1 with
    | lst hs ha => exact ⟨_, rfl, ⟨_, ex_l g.sub (sq_of hs)⟩, q _ F1 H1 g (itd_list (sq_of hs) ha)⟩
  | tuple es =>
    cases em
    refine .inr ⟨F0, H0, F, _, ok, hd, fun v F1 H1 g h1 => ?_⟩
    cases h1 with
    | tup hs _ ha => exact ⟨_, rfl, ⟨_, ex_t g.sub (.inl (.inr ⟨_, hs⟩))⟩, q _ F1 H1 g (itd_tup (.inl (.inr ⟨_, hs⟩)) ha)⟩
  | dict es =>
    cases em
    refine .inl ⟨F0, H0, F, _, ok, hd, fun v F1 H1 g h1 => ?_⟩
    cases h1 with
    | scr hs =>
      rename_i ns
      refine ⟨_, rfl, ⟨_, ex_l g.sub hs⟩, q _ F1 H1 g (itd_list hs ?_)⟩
      rw [List.map_map]
      exact dvAll_ints ns
  | _ => cases em
def intsUp (lo : Int) (n : Nat) : List PyData := (List.range n).map fun i => .int (lo + ((i : Nat) : Int))
theorem intsUp_get {lo : Int} {n i : Nat} (h : i < n) : (intsUp lo n)[i]? = some (.int (lo + (i : Int))) := by
  unfold intsUp
  rw [List.getElem?_map, List.getElem?_range h]
  rfl
theorem intsUp_len {lo : Int} {n : Nat} : (intsUp lo n).length = n := by
  unfold intsUp
  rw [List.length_map, List.length_range]
theorem itd_rng {K : PySem.W.Frag} {F H : Hp} {lo : Int} {n : Nat} : ItD K (Itr lo n) F H (intsUp lo n) := by
  refine ⟨fun i d F1 H1 e1 s1 hi => ?_, fun i F1 H1 e1 s1 hi => by rw [intsUp_len] at hi; exact hi⟩
  have hl : i < n := by
    have := (List.getElem?_eq_some_iff.mp hi).1
    rwa [intsUp_len] at this
  rw [intsUp_get hl] at hi
  cases hi
  refine ⟨hl, fun x H2 y => ?_⟩
  obtain ⟨rfl, rfl⟩ := y
  exact ⟨F1, Grow.refl s1, .int _⟩
def pRange : List PyData → Option (List PyData)
  | [.int j] => if -4611686018427387904 ≤ j ∧ j < 4611686018427387904 then some (intsUp 0 j.toNat) else none
  | [.int i, .int j] => if -4611686018427387904 ≤ i ∧ i < 4611686018427387904 ∧ -4611686018427387904 ≤ j ∧ j < 4611686018427387904 then some (intsUp i (j - i).toNat) else none
  | _ => none
theorem di_range1 {tg a : Expr} {p : Pos} {ms : Option (List PyData)} (hg : Gl X "range") (hm : X.mg "range" = none) (ha : DA X [a] env ms) (hs : starEach [a] X.env = [(false, eval a X.env)] := by rfl) : DI X tg (.Call (.Name "range" p) [a] [] pos) env (ms.bind fun ds => if ds.length = 1 then pRange ds else none) := by
  refine PI.mono (pi_range1 hg hm ha hs) fun σ H R ⟨F0, H0, F, ds, ok, em, q⟩ => ?_
  obtain ⟨vs, hd, em⟩ := Option.bind_eq_some_iff.mp em
  refine ⟨F0, H0, F, vs, ok, hd, fun us F1 H1 g h1 => ?_⟩
  split at em
  · rename_i hl
    match vs, hl, h1, em with
    | [.int j], _, .cons h .nil, em =>
      have em : (if -4611686018427387904 ≤ j ∧ j < 4611686018427387904 then some (intsUp 0 j.toNat) else none) = some ds := em
      split at em
      · rename_i hj
        cases em
        cases h
        exact ⟨j, rfl, hj.1, hj.2, q _ F1 H1 g itd_rng⟩
      · cases em
    | [.none], _, _, em => cases em
    | [.bool _], _, _, em => cases em
    | [.str _], _, _, em => cases em
    | [.list _], _, _, em => cases em
    | [.tuple _], _, _, em => cases em
    | [.dict _], _, _, em => cases em
  · cases em
theorem di_range2 {tg a b : Expr} {p : Pos} {ms : Option (List PyData)} (hg : Gl X "range") (hm : X.mg "range" = none) (ha : DA X [a, b] env ms) (hs : starEach [a, b] X.env = [(false, eval a X.env), (false, eval b X.env)] := by rfl) (hs2 : starEach [b] X.env = [(false, eval b X.env)] := by rfl) :
    DI X tg (.Call (.Name "range" p) [a, b] [] pos) env (ms.bind fun ds => if ds.length = 2 then pRange ds else none) := by
  refine PI.mono (pi_range2 hg hm ha hs hs2) fun σ H R ⟨F0, H0, F, ds, ok, em, q⟩ => ?_
  obtain ⟨vs, hd, em⟩ := Option.bind_eq_some_iff.mp em
  refine ⟨F0, H0, F, vs, ok, hd, fun us F1 H1 g h1 => ?_⟩
  split at em
  · rename_i hl
    unfold pRange at em
    split at em
    · simp at hl
    · rename_i i j
      split at em
      · rename_i hj
        cases em
        cases h1 with
        | cons p1 t1 =>
          cases t1 with
          | cons p2 t2 =>
            cases t2
            cases p1
            cases p2
            exact ⟨i, j, rfl, hj, q _ F1 H1 g itd_rng⟩
      · cases em
    · cases em
  · cases em

/-! ### loops -/
/-- the target is a name -/
theorem dg_for (j : Nat) {ev : α → List Slot} {x : Str} {px : Pos} {iter : Expr} {body : List Stmt} {ml : Option (List PyData)} {f : α → PyData → Option α} {k : α → Option β} {a0 : α} {env' : α → PyData → List Slot}
    (hp : PassesOwn (model X.prog X.w) X.A X.env X.xe) (hc : X.calm = true) (hN : X.N.Nodup) (hx : Loc X.env.scope x) (hi : DI X (.Name x px) iter env ml) (h0 : Weak env (ev a0)) (hb : ∀ a d, DN X body ev (env' a d) (f a d)) (hr : ∀ a, DG X rest W (ev a) (k a))
    (hs : ∀ a d, (ev a).set j (.im d) = env' a d := by intro _ _; rfl) (hj : X.N[j]? = some x := by rfl) (hf : X.fn x = true ∨ X.env.scope.names.lookup x = some .local := by first | exact .inl rfl | exact .inr rfl | assumption) (hfs : ∀ x, foldedSetIterable iter X.env x = pure x := by intro _; rfl) :
    DG X (.For (.Name x px) iter body [] pos :: rest) W env (ml.bind fun ds => (ds.foldlM f a0).bind k) := by
  refine PSs.mono (pss_cons (ps_for hp hc hi (pg_name (i := j) hN hj hx hf) (pss_ex fun a => pss_ex fun d => hb a d) hfs) (pss_ex hr)) fun D σ H ⟨F0, H0, F, o, ok, em, q⟩ => ?_
  obtain ⟨ds, hd, em⟩ := Option.bind_eq_some_iff.mp em
  obtain ⟨a1, ha1, em⟩ := Option.bind_eq_some_iff.mp em
  refine ⟨F0, H0, F, ds, ok, hd, fun J F1 H1 g it => ?_⟩
  refine ⟨fun i m σ' H' => i + m = ds.length ∧ ∃ a F', Ex F1 F' ∧ EOk X.K F0 H0 σ' F' H' (ev a) ∧ (ds.drop i).foldlM f a = some a1, ⟨ds.length, by omega, a0, F1, Ex.refl F1, (ok.grow g).wk h0, ha1⟩, ?_⟩
  rintro i m σ' H' ⟨hm, a, F', x1, ok', hf'⟩
  by_cases hlt : i < ds.length
  · have hget : ds[i]? = some ds[i] := List.getElem?_eq_getElem hlt
    obtain ⟨hgo, hyl⟩ := it.go i _ F' H' x1 ok'.sub hget
    rw [List.drop_eq_getElem_cons hlt, List.foldlM_cons] at hf'
    obtain ⟨a2, ha2, hf'⟩ := Option.bind_eq_some_iff.mp hf'
    refine .inr ⟨hgo, fun σ2 H2 => ∃ F2, Ex F1 F2 ∧ EOk X.K F0 H0 σ2 F2 H2 (ev a2), fun σ2 H2 ⟨F2, y1, y2⟩ => ⟨m - 1, by omega, by omega, a2, F2, y1, y2, hf'⟩, fun v H2 hy => ?_⟩
    obtain ⟨F2, g2, dv⟩ := hyl v H2 hy
    refine ⟨a, ds[i], F0, H0, F2, a2, ?_, ha2, fun σ3 F3 H3 x3 o3 => ⟨F3, (x1.trans g2.ff).trans x3, o3⟩⟩
    rw [← hs]
    exact (ok'.grow g2).set dv
  · have e : ds.drop i = [] := List.drop_eq_nil_of_le (by omega)
    rw [e] at hf'
    cases hf'
    exact .inl ⟨it.stop i F' H' x1 ok'.sub (by omega), _, F0, H0, F', o, ok', em, W.mono (g.ff.trans x1) q⟩
/-- a loop that may return -/
def forO (f : α → PyData → Option (Out α)) : α → List PyData → Option (Out α)
  | a, [] => some (.go a)
  | a, d :: ds => (f a d).bind fun o => match o with
    | .go b => forO f b ds
    | .ret r => some (.ret r)
theorem forO_cons (f : α → PyData → Option (Out α)) (a : α) (d : PyData) (ds : List PyData) : forO f a (d :: ds) = (f a d).bind fun o => o.next fun b => forO f b ds := by
  show ((f a d).bind fun o => match o with
    | .go b => forO f b ds
    | .ret r => some (.ret r)) = _
  cases f a d with
  | none => rfl
  | some o => cases o <;> rfl
theorem ps_forS (j : Nat) {ev : α → List Slot} {x : Str} {px : Pos} {iter : Expr} {body : List Stmt} {ml : Option (List PyData)} {f : α → PyData → Option (Out α)} {a0 : α} {env' : α → PyData → List Slot}
    (hp : PassesOwn (model X.prog X.w) X.A X.env X.xe) (hc : X.calm = true) (hN : X.N.Nodup) (hx : Loc X.env.scope x) (hi : DI X (.Name x px) iter env ml) (h0 : Weak env (ev a0)) (hb : ∀ a d, DS X body ev (env' a d) (f a d))
    (hs : ∀ a d, (ev a).set j (.im d) = env' a d := by intro _ _; rfl) (hj : X.N[j]? = some x := by rfl) (hf : X.fn x = true ∨ X.env.scope.names.lookup x = some .local := by first | exact .inl rfl | exact .inr rfl | assumption) (hfs : ∀ x, foldedSetIterable iter X.env x = pure x := by intro _; rfl) :
    PS X (.For (.Name x px) iter body [] pos) (tG X.K (wS X.K ev) env (ml.bind fun ds => forO f a0 ds)) := by
  refine PS.mono (ps_for hp hc hi (pg_name (i := j) hN hj hx hf) (pss_ex fun a => pss_ex fun d => hb a d) hfs) fun D σ H ⟨F0, H0, F, o, ok, em, q⟩ => ?_
  obtain ⟨ds, hd, em⟩ := Option.bind_eq_some_iff.mp em
  refine ⟨F0, H0, F, ds, ok, hd, fun J F1 H1 g it => ?_⟩
  refine ⟨fun i m σ' H' => i + m = ds.length ∧ ∃ a F', Ex F1 F' ∧ EOk X.K F0 H0 σ' F' H' (ev a) ∧ forO f a (ds.drop i) = some o, ⟨ds.length, by omega, a0, F1, Ex.refl F1, (ok.grow g).wk h0, em⟩, ?_⟩
  rintro i m σ' H' ⟨hm, a, F', x1, ok', hf'⟩
  by_cases hlt : i < ds.length
  · have hget : ds[i]? = some ds[i] := List.getElem?_eq_getElem hlt
    obtain ⟨hgo, hyl⟩ := it.go i _ F' H' x1 ok'.sub hget
    rw [List.drop_eq_getElem_cons hlt, forO_cons] at hf'
    obtain ⟨z, hz, hf'⟩ := Option.bind_eq_some_iff.mp hf'
    cases z with
    | go a2 =>
      refine .inr ⟨hgo, fun σ2 H2 => ∃ F2, Ex F1 F2 ∧ EOk X.K F0 H0 σ2 F2 H2 (ev a2), fun σ2 H2 ⟨F2, y1, y2⟩ => ⟨m - 1, by omega, by omega, a2, F2, y1, y2, hf'⟩, fun v H2 hy => ?_⟩
      obtain ⟨F2, g2, dv⟩ := hyl v H2 hy
      refine ⟨a, ds[i], F0, H0, F2, .go a2, ?_, hz, fun σ3 F3 H3 x3 o3 => ⟨F3, (x1.trans g2.ff).trans x3, o3⟩⟩
      rw [← hs]
      exact (ok'.grow g2).set dv
    | ret r =>
      cases hf'
      refine .inr ⟨hgo, fun _ _ => False, fun _ _ z => z.elim, fun v H2 hy => ?_⟩
      obtain ⟨F2, g2, dv⟩ := hyl v H2 hy
      refine ⟨a, ds[i], F0, H0, F2, .ret r, ?_, hz, q⟩
      rw [← hs]
      exact (ok'.grow g2).set dv
  · have e : ds.drop i = [] := List.drop_eq_nil_of_le (by omega)
    rw [e] at hf'
    cases hf'
    exact .inl ⟨it.stop i F' H' x1 ok'.sub (by omega), q _ F' H' (g.ff.trans x1) ok'⟩
theorem ds_st {st : Stmt} {ev : α → List Slot} {ev2 : γ → List Slot} {m : Option (Out α)} {k : α → Option (Out γ)} (h : PS X st (tG X.K (wS X.K ev) env m)) (hr : ∀ a, DS X rest ev2 (ev a) (k a)) : DS X (st :: rest) ev2 env (m.bind fun o => o.next k) :=
  PSs.mono (pss_cons h (pss_ex hr)) fun D σ H ⟨F0, H0, F, o, ok, em, q⟩ => by
    obtain ⟨z, hz, em⟩ := Option.bind_eq_some_iff.mp em
    refine ⟨F0, H0, F, z, ok, hz, ?_⟩
    cases z with
    | go a => exact fun σ' F' H' x o' => ⟨a, F0, H0, F', o, o', em, (wS X.K ev2).mono x q⟩
    | ret d =>
      cases em
      exact q
theorem dr_st {st : Stmt} {ev : α → List Slot} {m : Option (Out α)} {k : α → Option PyData} (h : PS X st (tG X.K (wS X.K ev) env m)) (hr : ∀ a, DR X rest (ev a) (k a)) : DR X (st :: rest) env (m.bind fun o => o.fin k) :=
  PSs.mono (pss_cons h (pss_ex hr)) fun D σ H ⟨F0, H0, F, o, ok, em, q⟩ => by
    obtain ⟨z, hz, em⟩ := Option.bind_eq_some_iff.mp em
    refine ⟨F0, H0, F, z, ok, hz, ?_⟩
    cases z with
    | go a => exact fun σ' F' H' x o' => ⟨a, F0, H0, F', o, o', em, q⟩
    | ret d =>
      cases em
      exact q
def whileN (t : α → Option Bool) (f : α → Option α) : Nat → α → Option α
  | 0, _ => none
  | n + 1, a => (t a).bind fun b => if b = true then (f a).bind fun a' => whileN t f n a' else some a
theorem dg_while {ev : α → List Slot} {body : List Stmt} {t : α → Option Bool} {f : α → Option α} {k : α → Option β} {a0 : α} (n : Nat)
    (hp : PassesOwn (model X.prog X.w) X.A X.env X.xe) (h0 : Weak env (ev a0)) (hc : ∀ a, DT X c (ev a) (t a)) (hb : ∀ a, DN X body ev (ev a) (f a)) (hr : ∀ a, DG X rest W (ev a) (k a)) :
    DG X (.While c body [] pos :: rest) W env ((whileN t f n a0).bind k) := by
  refine PSs.mono (pss_cons (ps_while hp (pt_ex hc) (pss_ex hb)) (pss_ex hr)) fun D σ H ⟨F0, H0, F, o, ok, em, q⟩ => ?_
  obtain ⟨a1, ha1, em⟩ := Option.bind_eq_some_iff.mp em
  refine ⟨fun m σ' H' => ∃ a F', Ex F F' ∧ EOk X.K F0 H0 σ' F' H' (ev a) ∧ whileN t f m a = some a1, ⟨n, a0, F, Ex.refl F, ok.wk h0, ha1⟩, ?_⟩
  rintro m σ' H' ⟨a, F', x1, ok', hw⟩
  cases m with
  | zero => cases hw
  | succ m =>
    have hw : ((t a).bind fun b => if b = true then (f a).bind fun a' => whileN t f m a' else some a) = some a1 := hw
    obtain ⟨b, hb', hw⟩ := Option.bind_eq_some_iff.mp hw
    refine ⟨a, F0, H0, F', b, ok', hb', fun F2 H2 g => ?_⟩
    cases b with
    | true =>
      have hw : ((f a).bind fun a' => whileN t f m a') = some a1 := hw
      obtain ⟨a2, ha2, hw⟩ := Option.bind_eq_some_iff.mp hw
      exact ⟨fun σ3 H3 => ∃ F3, Ex F F3 ∧ EOk X.K F0 H0 σ3 F3 H3 (ev a2), fun σ3 H3 ⟨F3, y1, y2⟩ => ⟨m, Nat.lt_succ_self m, a2, F3, y1, y2, hw⟩, a, F0, H0, F2, a2, ok'.grow g, ha2, fun σ3 F3 H3 x3 o3 => ⟨F3, (x1.trans g.ff).trans x3, o3⟩⟩
    | false =>
      cases hw
      exact ⟨_, F0, H0, F2, o, ok'.grow g, em, W.mono (x1.trans g.ff) q⟩
end
end DV
end
section
set_option Elab.async false
set_option linter.all false
set_option maxRecDepth 100000
set_option maxHeartbeats 4000000
/-! new tuples whose object is known (it has no dict): rules as the layer's, the object kept -/
namespace DV
open PySem PySem.Spec PyProof.Rows L2 Evl HT
abbrev tO (its : List Value) : Obj := { cls := .type "tuple", data := .seq its.toArray }
/-- a new tuple of xs -/
def NewT (xs : List V) (H : Hp) (Q : VK) : Prop := ∀ p o, H p = none → o.dict = none → Q (.ref p) (upd H p (.frz o (.tup xs)))
section
variable {X : Cx} {pins : List (Addr × Obj)} {σ : L2.St} {H : Hp} {s : Shared}
theorem newT_ok {h' : Heap} {xs : List V} {its : List Value} {Q : VK} {t' : Nat} (I : Inv X pins σ H { s with heap := h' }) (z : xs.length ≤ sizeLine) (r : Vals xs its) (q : NewT xs H Q) :
    EP X pins σ Q (.ref h'.objs.size) { s with heap := h'.push (tO its), toks := t' } := by
  have hf : H h'.objs.size = none := I.hok.fresh (Nat.le_refl _)
  refine ⟨.ref h'.objs.size, upd H h'.objs.size (.frz (tO its) (.tup xs)), I.laid (t' := t') (fun b u e => Heap.get?_push_of_some _ e) (Nat.le_refl _) ?_, rfl, q _ _ hf rfl⟩
  exact ⟨Heap.get?_push_size _ rfl, z, its, r, IsTup.new _ _⟩
def tTupK (t : TA) : TE := fun σ H Q => t σ H fun xs H1 => xs.length ≤ sizeLine ∧ NewT xs H1 Q
theorem pe_tupK {es : List Expr} {t : TA} {pos : Pos} {x1} (h : PA X es t) : PE X (.Tuple es x1 pos) (tTupK t) := by
  refine ⟨fun pins s σ H Q I hq => ?_⟩
  refine wpAny_Tuple_spliced (thn (h.run pos pins s σ H _ I hq) fun us s1 ⟨xs, H1, I1, r, z, q⟩ => ⟨by rw [← r.length]; exact z, ?_⟩)
  exact newT_ok (s := s1) (t' := s1.toks) I1 z r q
def rTupOf (K : PySem.W.Frag) : List V → Hp → VK → Prop := fun xs H Q => ∃ p ys, xs = [.ref p] ∧ ((SqL K H p ys ∧ NewT ys H Q) ∨ (SqT K H p ys ∧ Q (.ref p) H))
theorem call_tupK : CallR X (.type "tuple") (rTupOf X.K) := by
  intro pins s σ H xs us Q I r h
  obtain ⟨p, ys, rfl, h⟩ := h
  obtain ⟨u, rfl, rx⟩ := vals1 r
  cases rx
  rcases h with ⟨hq, q⟩ | ⟨hq, q⟩
  · obtain ⟨its, r', pl, hz⟩ := I.list hq
    have hlen := r'.length
    refine call_tuple_list pl.isList (fun h' kp => ?_) (by simp only [List.size_toArray] <;> omega)
    exact newT_ok (s := s) (t' := s.toks) (I.kept (t' := s.toks) kp) hz r' q
  · obtain ⟨its, r', pl, hz⟩ := I.tuple hq
    exact call_tuple_same pl ⟨.ref p, H, I, rfl, q⟩
def tTupRgK (te : L2.St → Hp → (Int → Int → Hp → Prop) → Prop) : TE := fun σ H Q => te σ H fun a b H1 => RgOk a b ∧ NewT (rgV a b) H1 Q
theorem pe_tupRgK {e : Expr} {te : L2.St → Hp → (Int → Int → Hp → Prop) → Prop} {p pos : Pos} (hc : X.calm = true) (hg : Gl X "tuple") (hm : X.mg "tuple" = none) (he : PRg X e te) (na : starEach [e] X.env = (false, eval e X.env) :: starEach [] X.env := by rfl) : PE X (.Call (.Name "tuple" p) [e] [] pos) (tTupRgK te) := by
  refine ⟨fun pins s σ H Q I h => ?_⟩
  refine Call_ (ld_blt I hg hm boot_tuple (PyProof.Rows.callWith_type1 (args_cons (thn (he pins s σ H _ I h) fun x s1 ⟨r, a, b, t, u, v, H1, ex, hr, I1, ok, q⟩ => args_nil ?_) na) na))
  subst ex
  obtain ⟨b1, b2, b3, b4, b5⟩ := ok
  refine call_tuple_range (n := (b - a).toNat) (I1.ok.hd hc) hr (small_one b1 b2 b3 b4) (rangeSize_nat a b) b5 fun h' tk acc hk hi => ?_
  have I2 : Inv X pins σ H1 { s1 with heap := h', toks := tk } := I1.kept hk
  have := newT_ok (s := { s1 with toks := tk }) (t' := tk) (its := acc.toList) (xs := rgV a b) I2 (by rw [rgV_length, sizeLine_eq]; omega) (vals_rg hi) q
  rw [show tO acc.toList = { cls := .type "tuple", data := .seq acc } by unfold tO; rw [Array.toArray_toList]] at this
  exact this
def rCatK (K : PySem.W.Frag) : R2 := fun x y H Q => ∃ a b xs ys, x = .ref a ∧ y = .ref b ∧ SqT K H a xs ∧ SqT K H b ys ∧ xs.length + ys.length ≤ sizeLine ∧
  (xs = [] → Q (.ref b) H) ∧ (xs ≠ [] → ys = [] → Q (.ref a) H) ∧ (xs ≠ [] → ys ≠ [] → NewT (xs ++ ys) H Q)
theorem op_catK : OpR X (binaryOp .Add) (rCatK X.K) := by
  intro pins s σ H x y v u Q I rx ry h
  obtain ⟨a, b, xs, ys, rfl, rfl, ha, hb, hz, q0, q1, q2⟩ := h
  cases rx
  cases ry
  obtain ⟨its, r1, p1, _⟩ := I.tuple ha
  obtain ⟨its2, r2, p2, _⟩ := I.tuple hb
  by_cases hx : xs = []
  · subst hx
    cases r1
    exact cat_tup0 p1 p2 ⟨.ref b, H, I, rfl, q0 rfl⟩
  · refine HT.cat_tup p1 p2 (fun z => hx (r1.nil_iff.mp z)) (fun z => ⟨.ref a, H, I, rfl, q1 hx (r2.nil_iff.mp z)⟩) (fun z => ?_) (by rw [← r1.length, ← r2.length]; exact hz)
    exact newT_ok (s := s) (t' := s.toks) I (by rw [List.length_append]; exact hz) (r1.append r2) (q2 hx fun w => z (r2.nil_iff.mpr w))
def rSlK (K : PySem.W.Frag) : V → Option Int → Option Int → Hp → VK → Prop := fun x lo hi H Q => ∃ a xs, x = .ref a ∧ SqT K H a xs ∧
  (HT.sIx xs.length 0 lo = 0 ∧ HT.sIx xs.length xs.length hi = xs.length → Q (.ref a) H) ∧ (¬ (HT.sIx xs.length 0 lo = 0 ∧ HT.sIx xs.length xs.length hi = xs.length) → NewT (cutV xs lo hi) H Q)
theorem sl_tupK : SlR X (rSlK X.K) := by
  intro pins s σ H x v vl vu lo hi sl Q I rx hs pl pu h
  obtain ⟨a, xs, rfl, hx, q1, q2⟩ := h
  by_cases hw : HT.sIx xs.length 0 lo = 0 ∧ HT.sIx xs.length xs.length hi = xs.length
  · exact sl_tupA pins s σ H _ v vl vu lo hi sl Q I rx hs pl pu ⟨a, xs, rfl, hx, q1, fun z => absurd hw z⟩
  · cases rx
    obtain ⟨its, r, ht, hz⟩ := I.tuple hx
    have hlen : its.toArray.size = xs.length := by rw [List.size_toArray]; exact r.length.symm
    refine ⟨"tuple", _, PyProof.Rows.slot_tuple_getitem.lookup, ht.typeIs, ?_⟩
    refine HT.getItem_tuple_cut ht hs pl pu (by rw [hlen]; exact hw) ?_ (by rw [hlen]; exact hz)
    rw [hlen]
    exact newT_ok (s := s) (t' := s.toks) I (Nat.le_trans (cutV_length xs lo hi) hz) ((r.drop (HT.sIx xs.length 0 lo)).take (HT.sIx xs.length xs.length hi - HT.sIx xs.length 0 lo)) (q2 hw)
end
end DV
end
section
set_option Elab.async false
set_option linter.all false
set_option maxRecDepth 100000
set_option maxHeartbeats 4000000
/-! tuples: t[::-1], t * n, t.index(x), x in t at any depth -/
namespace DV
open PySem PySem.Spec PyProof.Rows L2 Evl HT
section
variable {prog : Program} {w : World} {A : Around} {E : Value → Shared → Prop} {s : Shared}
theorem rev_applied {sl : Addr} {vs : Value} {n : Nat} {Q : Int × Int × Nat → Shared → Prop} (hs : s.heap.IsSliceOf sl .none .none vs) (ps : IsPart vs (some (-1)))
    (h : Q ((n : Int) - 1, -1, n) s) : wpAny (model prog w) A (Builtin.Slice.sliceApplied (.ref sl) (pure (n : Int))) Q E s := by
  obtain ⟨os, hos, hcs, hds⟩ := id hs
  unfold Builtin.Slice.sliceApplied Builtin.Slice.sliceFields
  refine wpAny_bind (wpAny_bind (wpAny_field hos hds (x := .none) rfl (wpAny_bind (wpAny_field hos hds (x := .none) rfl (wpAny_bind (wpAny_field hos hds (x := vs) rfl (wpAny_pure ?_)))))))
  refine wpAny_bind (slicePart_ ps ?_)
  show wpAny _ _ (if ((-1 : Int) == 0) = true then _ else _) _ _ s
  rw [if_neg (by decide)]
  refine wpAny_bind (slicePart_none (wpAny_bind (slicePart_none (wpAny_bind (wpAny_pure ?_)))))
  show wpAny _ _ (pure ((n : Int) - 1, (-1 : Int), Builtin.Slice.slicePlaces ((n : Int) - 1) (-1) (-1))) _ _ s
  have e : Builtin.Slice.slicePlaces ((n : Int) - 1) (-1) (-1) = n := by
    unfold Builtin.Slice.slicePlaces
    rw [if_neg (by decide)]
    by_cases h : (n : Int) - 1 > -1
    · rw [if_pos h]
      have e1 : ((n : Int) - 1 - -1 - 1) / (- -1) + 1 = (n : Int) := by
        rw [show (- -1 : Int) = 1 by decide, Int.ediv_one]
        omega
      rw [e1]
      omega
    · rw [if_neg h]
      omega
  rw [e]
  exact wpAny_pure h
theorem fm_congr {α β : Type} {f g : α → Option β} : ∀ {l : List α}, (∀ x ∈ l, f x = g x) → l.filterMap f = l.filterMap g
  | [], _ => rfl
  | a :: l, h => by
    rw [List.filterMap_cons, List.filterMap_cons, h a List.mem_cons_self, fm_congr fun x hx => h x (List.mem_cons_of_mem _ hx)]
theorem rev_pick (xs : Array Value) : ((List.range xs.size).filterMap fun (k : Nat) => xs[(((xs.size : Nat) : Int) - 1 + (k : Int) * (-1)).toNat]?).toArray = xs.toList.reverse.toArray := by
  have h := PySem.W.krv_pick xs
  unfold slicePick at h
  rw [PySem.W.krv_bounds] at h
  have h : ((sliceRange ((xs.size : Int) - 1) (-1) (-1)).filterMap (xs[·]?)).toArray = xs.toList.reverse.toArray := h
  rw [PySem.W.krv_sliceRange, List.filterMap_map] at h
  rw [← h]
  congr 1
  apply fm_congr
  intro k hk
  have := List.mem_range.mp hk
  show xs[(((xs.size : Nat) : Int) - 1 + (k : Int) * (-1)).toNat]? = xs[xs.size - 1 - k]?
  congr 1
  omega
theorem getItem_tuple_rev {t sl : Addr} {items : Array Value} {vs : Value} {Q : Value → Shared → Prop} (ht : IsTup s.heap t items) (hs : s.heap.IsSliceOf sl .none .none vs) (ps : IsPart vs (some (-1)))
    (h : Q (.ref s.heap.objs.size) { s with heap := s.heap.push { cls := .type "tuple", data := .seq items.toList.reverse.toArray } })
    (hsz : items.size ≤ sizeLine) : wpAny (model prog w) A (getItem (.ref t) (.ref sl)) Q E s := by
  have htake : sizeOk (.seq items.toList.reverse.toArray) := by
    show items.toList.reverse.toArray.size ≤ sizeLine
    rw [List.size_toArray, List.length_reverse, Array.length_toList]
    exact hsz
  obtain ⟨os, hos, hcs, hds⟩ := id hs
  have hTs : s.TypeIs (.ref sl) "slice" := ⟨os, hos, hcs⟩
  unfold getItem
  try with_reducible refine wpAny_holding ?_
  first | refine wpAny_bind (wpAny_pure ?_) | skip
  refine wpAny_bind (wpAny_sequenceKey ht.typeIs (by decide) ?_)
  refine wpAny_bind (wpAny_callSpecial?_slot (name := Str.ofString "__getitem__") ht.typeIs PyProof.Rows.slot_tuple_getitem
    (wpAny_call_entry PyProof.Rows.slot_tuple_getitem ht.typeIs entry_tuple_getitem ?_ (args_tuple_getitem _ _)))
  show wpAny _ _ (Builtin.Tuple.tupleItemsOf (.ref t) >>= _) _ _ s
  refine wpAny_bind (tupleItemsOf_ ht ?_)
  refine wpAny_bind (wpAny_typeOf hTs ?_)
  rw [if_pos (by decide)]
  refine wpAny_bind (rev_applied hs ps ?_)
  have hno : ¬ ((((items.size : Nat) : Int) - 1 == 0 && (-1 : Int) == 1 && items.size == items.size) = true) := by
    intro q
    rw [Bool.and_eq_true, Bool.and_eq_true] at q
    exact absurd q.1.2 (by decide)
  show wpAny _ _ (if (((items.size : Nat) : Int) - 1 == 0 && (-1 : Int) == 1 && items.size == items.size) = true then _ else _) _ _ s
  rw [if_neg hno]
  rw [rev_pick]
  first
    | exact wpAny_bind (m := Builtin.Tuple.tupleExact _) (wpAny_newObj_type (wpAny_pure ⟨_, rfl, wpAny_pure h⟩) htake)
    | exact wpAny_bind (m := Builtin.Tuple.tupleExact _) (wpAny_newObj_type (wpAny_bind (wpAny_pure (wpAny_pure ⟨_, rfl, wpAny_pure h⟩))) htake)
    | exact wpAny_bind (wpAny_bind (m := Builtin.Tuple.tupleExact _) (wpAny_newObj_type (wpAny_pure (wpAny_pure ⟨_, rfl, wpAny_pure h⟩)) htake))
    | exact wpAny_bind (wpAny_bind (m := Builtin.Tuple.tupleExact _) (wpAny_newObj_type (wpAny_pure ⟨_, rfl, wpAny_pure h⟩) htake))
end
section
variable {X : Cx}
/-- e[::-1] of a list or a tuple -/
def tRevS (K : PySem.W.Frag) (te : TE) : TE := fun σ H Q => te σ H fun x H1 => (∃ a xs, x = .ref a ∧ SqL K H1 a xs ∧ ∀ p, H1 p = none → Q (.ref p) (upd H1 p (.lst xs.reverse))) ∨ (∃ a xs, x = .ref a ∧ SqT K H1 a xs ∧ NewT xs.reverse H1 Q)
theorem pe_revS {e : Expr} {te : TE} {k : Nat} {p1 p2 p3 pos : Pos} (he : PE X e te) : PE X (.Subscript e (.Slice none none (some (.UnaryOp .USub (.Constant (.int 1) k p1) p2)) p3) pos) (tRevS X.K te) := by
  refine ⟨fun pins s σ H Q I h => ?_⟩
  refine Subscript_ (thn (he.run pins s σ H _ I h) fun v s1 ⟨x, H1, I1, r1, q1⟩ => ?_)
  rcases q1 with ⟨a, xs, ex, hx, q⟩ | ⟨a, xs, ex, hx, q⟩
  · subst ex
    cases r1
    have hst : PO X (some (.UnaryOp .USub (.Constant (.int 1) k p1) p2)) (tPart (tUn (rU fun i => .int (-i)) (tC (.int 1)))) := po_some (pe_un un_neg pe_int)
    refine wpAny_Slice ?_
    rw [evalPart_none]
    refine wpAny_pure (wpAny_pure ?_)
    refine thn (hst.run pins s1 σ H1 (fun o H4 => o = some (-1) ∧ H4 = H1) I1 ⟨1, rfl, -1, rfl, rfl, rfl⟩) fun vs s4 ⟨o, H4, I4, ps, eo, e4⟩ => ?_
    subst eo e4
    have I5 : Inv X pins σ H4 { s4 with heap := s4.heap.push { cls := .type "slice", data := .fields #[.none, .none, vs] } } := I4.kept (t' := s4.toks) fun b ob q => Heap.get?_push_of_some _ q
    obtain ⟨its, r, ht, hz⟩ := I5.list hx
    have hlen := r.length
    show wpAny (model X.prog X.w) X.A (subscriptTail e (.Slice none none (some (.UnaryOp .USub (.Constant (.int 1) k p1) p2)) p3) (.ref a) (.ref s4.heap.objs.size)) (EP X pins σ Q) X.xe { s4 with heap := s4.heap.push { cls := .type "slice", data := .fields #[.none, .none, vs] } }
    refine tail_any (ops := [.ref a, .ref s4.heap.objs.size]) ht.isList.typeIs (PySem.slot_list_getitem.lookup) ?_ (by with_unfolding_all rfl)
    refine wpAny_getItem_list_slice ht.isList (Heap.IsSliceOf.new _ .none .none vs) IsPart.none IsPart.none ps (by decide) ?_ (by rw [List.size_toArray]; omega)
    rw [PySem.W.krv_pick]
    refine ⟨.ref _, _, I5.laid (t' := s4.toks) (o := .lst xs.reverse) (fun b ob q => Heap.get?_push_of_some _ q) (Nat.le_refl _) ?_, rfl, q _ (I5.hok.fresh (Nat.le_refl _))⟩
    exact ⟨by rw [List.length_reverse]; exact hz, _, 0, r.reverse, Heap.get?_push_size _ rfl⟩
  · subst ex
    cases r1
    have hst : PO X (some (.UnaryOp .USub (.Constant (.int 1) k p1) p2)) (tPart (tUn (rU fun i => .int (-i)) (tC (.int 1)))) := po_some (pe_un un_neg pe_int)
    refine wpAny_Slice ?_
    rw [evalPart_none]
    refine wpAny_pure (wpAny_pure ?_)
    refine thn (hst.run pins s1 σ H1 (fun o H4 => o = some (-1) ∧ H4 = H1) I1 ⟨1, rfl, -1, rfl, rfl, rfl⟩) fun vs s4 ⟨o, H4, I4, ps, eo, e4⟩ => ?_
    subst eo e4
    have I5 : Inv X pins σ H4 { s4 with heap := s4.heap.push { cls := .type "slice", data := .fields #[.none, .none, vs] } } := I4.kept (t' := s4.toks) fun b ob q => Heap.get?_push_of_some _ q
    obtain ⟨its, r, ht, hz⟩ := I5.tuple hx
    have hlen := r.length
    show wpAny (model X.prog X.w) X.A (subscriptTail e (.Slice none none (some (.UnaryOp .USub (.Constant (.int 1) k p1) p2)) p3) (.ref a) (.ref s4.heap.objs.size)) (EP X pins σ Q) X.xe { s4 with heap := s4.heap.push { cls := .type "slice", data := .fields #[.none, .none, vs] } }
    refine tail_any (ops := [.ref a, .ref s4.heap.objs.size]) ht.typeIs (PyProof.Rows.slot_tuple_getitem.lookup) ?_ (by with_unfolding_all rfl)
    refine getItem_tuple_rev ht (Heap.IsSliceOf.new _ .none .none vs) ps ?_ (by rw [List.size_toArray]; omega)
    have e1 : its.toArray.toList.reverse.toArray = its.reverse.toArray := by simp
    rw [e1]
    exact newT_ok (s := { s4 with heap := s4.heap.push { cls := .type "slice", data := .fields #[.none, .none, vs] } }) (t' := s4.toks) I5 (by rw [List.length_reverse]; exact hz) r.reverse q
/-! ### t.index(x) -/
def rIndexT (K : PySem.W.Frag) : V → List V → Hp → VK → Prop := fun x xs H Q => ∃ (a : Addr) (o : Obj) (ys : List V) (y : V) (d : PyData) (ds : List PyData) (j : Nat) (z : PyData), x = V.ref a ∧ xs = [y] ∧ H a = some (.frz o (.tup ys)) ∧ o.dict = none ∧ DpAll K H ys ds ∧ Dp K H y d ∧
  SeqAt.shaped (.tuple ds) = true ∧ SeqAt.shaped d = true ∧ ds[j]? = some z ∧ PyData.eqv z d = true ∧ (∀ (m : Nat) (z' : PyData), m < j → ds[m]? = some z' → PyData.eqv z' d = false) ∧ Q (.int (j : Nat)) H
theorem room_in_sh {A : Around} {ds : List PyData} {d : PyData} (h : SeqAt.shaped d = true) (hu : A.units + 65 < cLine) : A.units + 1 + min (PyData.depthAll ds) d.depth < cLine := by
  have h1 := SeqAt.depth_of_shaped h
  have h2 : min (PyData.depthAll ds) d.depth ≤ d.depth := Nat.min_le_right _ _
  omega
theorem mt_indexT (hu : X.A.units + 65 < cLine) : MtR X "tuple.index" (rIndexT X.K) := by
  intro pins s σ H x xs v us Q I rx rxs h
  obtain ⟨a, ob, ys, y, d, ds, j, z, rfl, rfl, hl, _, hys, hy, sl, sd, hz, hzj, hno, q⟩ := h
  cases rx
  cases rxs with
  | cons ry rt =>
    rename_i uy ut
    cases rt
    obtain ⟨bs, r1⟩ := Dp.reads I d y uy hy ry
    have hxs : PyData.canLayAll0 ds = true := SeqAt.canLay_of_shaped sl
    have hroom : X.A.units + 1 + min (PyData.depthAll ds) d.depth < cLine := room_in_sh sd hu
    obtain ⟨its, rv, ⟨⟨cls, dd, data, sls⟩, ho, hc, n, hdt⟩, hlen⟩ := I.tuple (X := X) (.inl (.inr ⟨ob, hl⟩))
    simp only at hc hdt
    subst hc hdt
    obtain ⟨as, h4⟩ := Dp.readsAll I ds _ its hys rv
    have hn : its.length = ds.length := SeqAt.ReadsAll.length ds its as h4
    have hmap : its.map (SeqAt.readOf s.heap) = ds := SeqAt.readsAll_map ds its as hxs h4
    have hvl := rv.length
    obtain ⟨hjd, _⟩ := List.getElem?_eq_some_iff.mp hz
    have hjl : j < its.length := by omega
    have hj : j < its.toArray.size := by simpa using hjl
    have at_ : ∀ (m : Nat) (hm : m < its.toArray.size) (z' : PyData), ds[m]? = some z' → SeqAt.readOf s.heap its.toArray[m] = z' := by
      intro m hm z' hz'
      have hml : m < its.length := by simpa using hm
      rw [← hmap, List.getElem?_map, List.getElem?_eq_getElem hml] at hz'
      have e1 : SeqAt.readOf s.heap its[m] = z' := Option.some.inj (show some (SeqAt.readOf s.heap its[m]) = some z' from hz')
      simpa using e1
    refine call_meets PySem.F.slot_tuple_index ⟨_, ho, rfl⟩ PySem.F.entry_tuple_index (PySem.F.args_tuple_index_2 _ _)
      (TI.tuple_indexAt a its.toArray n dd sls uy (fun u => PyData.eqv (SeqAt.readOf s.heap u) d) j hj ?_ ?_) ⟨ho, SeqAt.items_eqAt (vs := its.toArray) (show ReadsAll s.heap its.toArray.toList ds as from h4) r1 hxs (SeqAt.canLay_of_shaped sd) hroom, ?_⟩
    · show PyData.eqv (SeqAt.readOf s.heap its.toArray[j]) d = true
      rw [at_ j hj z hz]
      exact hzj
    · intro m hm hmj
      have hmd : m < ds.length := by omega
      have hz' : ds[m]? = some ds[m] := List.getElem?_eq_getElem hmd
      show PyData.eqv (SeqAt.readOf s.heap its.toArray[m]) d = false
      rw [at_ m hm _ hz']
      exact hno m _ hmj hz'
    · exact ⟨.int (j : Nat), H, I.tok _, ⟨_, rfl⟩, q⟩
/-- a method of a tuple whose object is known -/
def tBMT (r : V → List V → Hp → VK → Prop) (to : TE) (t : TA) : TE := fun σ H Q => to σ H fun x H1 => (∃ a o xs, x = .ref a ∧ H1 a = some (.frz o (.tup xs)) ∧ o.dict = none) ∧ t σ H1 fun ys H2 => r x ys H2 Q
theorem pe_bmT {name : Str} {id : String} {r : V → List V → Hp → VK → Prop} {o e : Expr} {es : List Expr} {to : TE} {t : TA} {apos cpos : Pos} (pa : PlainAttrs "tuple") (slot : PySem.Slot "tuple" name id) (hty : typeOf (.builtin id) = pure (.type "method_descriptor")) (hm : MtR X id r) (ho : PE X o to) (ha : PA X (e :: es) t)
    (hbase : attributeBase o name X.env (eval o X.env) = eval o X.env := by rfl)
    (hfew : ((backTo cpos (starEach (e :: es) X.env)).all (fun x => !x.1) && (backToKw cpos (keywordEach [] X.env)).all (fun x => x.1.isSome)
      && decide ((e :: es).length + ([] : List Keyword).length + (if ([] : List Keyword).isEmpty then 0 else 1) < 30)) = true := by rfl)
    (hline : (apos.endLine == cpos.line) = true := by rfl) (hs : starEach (e :: es) X.env = (false, eval e X.env) :: starEach es X.env := by rfl) (hplain : (backTo cpos (starEach es X.env)).any (·.1) = false := by rfl) :
    PE X (.Call (.Attribute o name apos) (e :: es) [] cpos) (tBMT r to t) := by
  refine ⟨fun pins s σ H Q I h => ?_⟩
  refine wpAny_Call_method_late hbase hfew hline rfl (thn (ho.run pins s σ H _ I h) fun v s1 ⟨x, H1, I1, r1, ⟨a, ob, xs, ex, hx, hd⟩, q1⟩ => ?_)
  subst ex
  cases r1
  obtain ⟨hget, _, _, _, hT⟩ := (show ObjOk X.prog X.w H1 s1.heap a (.frz ob (.tup xs)) from I1.hok a _ hx)
  refine ⟨"tuple", id, pa, slot, hty, hT.typeIs, fun b eb => by cases eb; exact ⟨ob, hget, hd⟩, ?_⟩
  have hA := ha.run cpos pins s1 σ H1 _ I1 q1
  rw [hs] at hA ⊢
  refine Calls.callWith_builtin (by show (false || (backTo cpos (starEach es X.env)).any (·.1)) = false; rw [hplain] <;> rfl) (Calls.evalArgs_plain ?_)
  exact thn hA fun us s2 ⟨vs, H2, I2, r2, q2⟩ => hm pins s2 σ H2 (.ref a) vs (.ref a) us Q I2 rfl r2 q2
/-! ### x in t at any depth -/
def rInT (K : PySem.W.Frag) : R2 := fun x y H Q => ∃ d ds, Dp K H x d ∧ Dp K H y (.tuple ds) ∧ SeqAt.shaped d = true ∧ SeqAt.shaped (.tuple ds) = true ∧ Q (.bl (ds.any fun z => PyData.eqv z d)) H
def rNotInT (K : PySem.W.Frag) : R2 := fun x y H Q => ∃ d ds, Dp K H x d ∧ Dp K H y (.tuple ds) ∧ SeqAt.shaped d = true ∧ SeqAt.shaped (.tuple ds) = true ∧ Q (.bl (!ds.any fun z => PyData.eqv z d)) H
theorem op_inT (hu : X.A.units + 65 < cLine) : OpR X (compareOp .In) (rInT X.K) := by
  intro pins s σ H x y v u Q I rx ry h
  obtain ⟨d, ds, hd, he, sd, se, q⟩ := h
  obtain ⟨as, r1⟩ := Dp.reads I d x v hd rx
  obtain ⟨bs, r2⟩ := Dp.reads I (.tuple ds) y u he ry
  exact SeqAt.in_tuple_reads r2 r1 (SeqAt.canLay_of_shaped se) (SeqAt.canLay_of_shaped sd) (room_in_sh sd hu) ⟨.bl _, H, I, rfl, q⟩
theorem op_notInT (hu : X.A.units + 65 < cLine) : OpR X (compareOp .NotIn) (rNotInT X.K) := by
  intro pins s σ H x y v u Q I rx ry h
  obtain ⟨d, ds, hd, he, sd, se, q⟩ := h
  obtain ⟨as, r1⟩ := Dp.reads I d x v hd rx
  obtain ⟨bs, r2⟩ := Dp.reads I (.tuple ds) y u he ry
  exact SeqAt.notIn_tuple_reads r2 r1 (SeqAt.canLay_of_shaped se) (SeqAt.canLay_of_shaped sd) (room_in_sh sd hu) ⟨.bl _, H, I, rfl, q⟩
/-! ### t * n -/
theorem tuple_mulS (l : Addr) (items : Array Value) (n : Nat) (dd : Option Addr) (sl : Array (Option Value)) (x : Int) (u : Tok) (c0 : (decide (x < -(2 ^ 63)) || decide (x ≥ 2 ^ 63)) = false) (c1 : (items.isEmpty || x == 1) = true) :
    Meets (Builtin.«tuple.__mul__» ⟨[.ref l, .int x u], []⟩) (fun _ R s => s.heap.get? l = some { cls := .type "tuple", dict := dd, data := .seq items n, slots := sl } ∧
      R (.ok (.ret (Value.ref l))) s) :=
  .of_wp fun prog w A R s h => by
    obtain ⟨hp, g, d, tk, os⟩ := s
    obtain ⟨hl, h⟩ := h
    have f1 := AutoSeq1.idx_int
    wp_walk using AutoSeq1.wpAny_loadPart' hl
    repeat (first
      | (refine wpAny_ite_false (decide_eq_false (by rw [c0]; exact Bool.false_ne_true)) ?_; wp_walk using AutoSeq1.wpAny_loadPart' hl)
      | (refine wpAny_ite_true (decide_eq_true c1) ?_; wp_walk using AutoSeq1.wpAny_loadPart' hl))
    exact ⟨_, rfl, h⟩
theorem tuple_mulZ (l : Addr) (items : Array Value) (n : Nat) (dd : Option Addr) (sl : Array (Option Value)) (x : Int) (u : Tok) (c0 : (decide (x < -(2 ^ 63)) || decide (x ≥ 2 ^ 63)) = false) (c1 : (items.isEmpty || x == 1) = false) (c2 : (decide (x ≤ 0) || items.isEmpty) = true) :
    Meets (Builtin.«tuple.__mul__» ⟨[.ref l, .int x u], []⟩) (fun _ R s => s.heap.get? l = some { cls := .type "tuple", dict := dd, data := .seq items n, slots := sl } ∧
      R (.ok (.ret (Value.ref s.heap.objs.size))) { s with heap := s.heap.push { cls := Value.type "tuple", data := Data.seq #[] }, toks := s.toks }) :=
  .of_wp fun prog w A R s h => by
    obtain ⟨hp, g, d, tk, os⟩ := s
    obtain ⟨hl, h⟩ := h
    have f1 := AutoSeq1.idx_int
    wp_walk using AutoSeq1.wpAny_loadPart' hl
    repeat (first
      | (refine wpAny_ite_false (decide_eq_false (by rw [c0]; exact Bool.false_ne_true)) ?_; wp_walk using AutoSeq1.wpAny_loadPart' hl)
      | (refine wpAny_ite_false (decide_eq_false (by rw [c1]; exact Bool.false_ne_true)) ?_; wp_walk using AutoSeq1.wpAny_loadPart' hl)
      | (refine wpAny_ite_true (decide_eq_true c2) ?_; wp_walk using AutoSeq1.wpAny_loadPart' hl))
    all_goals first | exact ⟨_, rfl, h⟩ | (simp; done) | skip
def rRepK (K : PySem.W.Frag) : R2 := fun x y H Q => ∃ l k xs, x = .ref l ∧ y = .int k ∧ SqT K H l xs ∧ -1000000 ≤ k ∧ k ≤ 1000 ∧ xs.length ≤ 1000 ∧ (xs = [] ∨ k = 1 → Q (.ref l) H) ∧ (xs ≠ [] → k ≠ 1 → NewT (List.replicate k.toNat xs).flatten H Q)
theorem op_repK : OpR X (binaryOp .Mult) (rRepK X.K) := by
  intro pins s σ H x y v u Q I rx ry h
  obtain ⟨l, k, xs, rfl, rfl, hT, h0, h2, hz, q1, q2⟩ := h
  cases rx
  obtain ⟨t, rfl⟩ := ry
  obtain ⟨its, r, ⟨⟨cls, dd, data, sl⟩, ho, hc, n, hd⟩, hs⟩ := I.tuple hT
  simp only at hc hd
  subst hc hd
  have hle : its.length = xs.length := r.length.symm
  have c0 : (decide (k < -(2 ^ 63)) || decide (k ≥ 2 ^ 63)) = false := by
    rw [decide_eq_false (by omega), decide_eq_false (by omega)] <;> rfl
  have hsz0 : its.toArray.size = xs.length := by rw [List.size_toArray, hle]
  refine wpAny_binaryOp_repeat_ref (T := "tuple") (U := "int") (by decide) ⟨_, ho, rfl⟩ (fun s' => typeIs_int s' k t) noFill_tuple_mul F.fills_int_mul F.slot_int_rmul repeat_tuple F.slot_int_index.lookup
    (call_meets F.slot_int_rmul (typeIs_int s k t) F.entry_int_rmul (F.args_int_rmul_2 _ _) (int_rmul_tuple k t l its.toArray n dd sl) ⟨ho, rfl, ⟨_, ho, rfl⟩, ?_⟩)
  by_cases hx : xs = [] ∨ k = 1
  · have c1 : (its.toArray.isEmpty || k == 1) = true := by
      rcases hx with hx | hx
      · have : its = [] := List.eq_nil_of_length_eq_zero (by rw [hle, hx]; rfl)
        rw [this]
        rfl
      · rw [hx]
        simp
    exact call_meets F.slot_tuple_mul ⟨_, ho, rfl⟩ F.entry_tuple_mul (F.args_tuple_mul_2 _ _) (tuple_mulS l its.toArray n dd sl k t c0 c1) ⟨ho, .ref l, H, I, rfl, q1 hx⟩
  · have hne : xs ≠ [] := fun z => hx (.inl z)
    have hk1 : k ≠ 1 := fun z => hx (.inr z)
    have hi : its.toArray.isEmpty = false := by
      cases its with
      | nil => exact absurd (List.eq_nil_of_length_eq_zero hle.symm) hne
      | cons a b => rfl
    have c1 : (its.toArray.isEmpty || k == 1) = false := by
      rw [hi, Bool.false_or]
      exact beq_eq_false_iff_ne.mpr hk1
    have q := q2 hne hk1
    by_cases hk : k ≤ 0
    · have c2 : (decide (k ≤ 0) || its.toArray.isEmpty) = true := by rw [decide_eq_true hk] <;> rfl
      refine call_meets F.slot_tuple_mul ⟨_, ho, rfl⟩ F.entry_tuple_mul (F.args_tuple_mul_2 _ _) (tuple_mulZ l its.toArray n dd sl k t c0 c1 c2) ⟨ho, ?_⟩
      have e0 : k.toNat = 0 := by omega
      rw [e0] at q
      exact newT_ok (s := s) (t' := s.toks) (its := []) (xs := []) I (Nat.zero_le _) .nil q
    · have hm : ((its.toArray.size : Nat) : Int) * k ≤ 1000000 := by
        rw [hsz0]
        have a1 : ((xs.length : Nat) : Int) * k ≤ 1000 * k := Int.mul_le_mul_of_nonneg_right (by omega) (by omega)
        omega
      have flen : (List.replicate k.toNat its).flatten.length ≤ sizeLine := by
        rw [PyProof.Rows.lm_len_rep_flat, hle, sizeLine_eq]
        have a1 : k.toNat * xs.length ≤ 1000 * 1000 := Nat.mul_le_mul (by omega) hz
        omega
      have c2 : (decide (k ≤ 0) || its.toArray.isEmpty) = false := by
        rw [hi, Bool.or_false]
        exact decide_eq_false hk
      have c4 : Builtin.Tuple.tupleTooMany (((its.toArray.size : Nat) : Int) * k) = false := by
        unfold Builtin.Tuple.tupleTooMany
        rw [sizeLine_eq]
        exact decide_eq_false (by omega)
      refine call_meets F.slot_tuple_mul ⟨_, ho, rfl⟩ F.entry_tuple_mul (F.args_tuple_mul_2 _ _) (tuple_mulW l its.toArray n dd sl k t c0 c1 c2 (by omega) c4 (by rw [size_rep, List.size_toArray]; exact flen)) ⟨ho, ?_⟩
      rw [size_rep]
      exact newT_ok (s := s) (t' := s.toks) I (by rw [PyProof.Rows.lm_len_rep_flat, sizeLine_eq]; have a1 : k.toNat * xs.length ≤ 1000 * 1000 := Nat.mul_le_mul (by omega) hz; omega) (r.rep k.toNat) q
end
end DV
end
section
set_option Elab.async false
set_option linter.all false
set_option maxRecDepth 100000
set_option maxHeartbeats 4000000
/-! operators on data -/
namespace DV
open PySem PySem.Spec PyProof.Rows L2 Evl
def szOk (n : Nat) : Prop := n ≤ 8000000
instance (n : Nat) : Decidable (szOk n) := inferInstanceAs (Decidable (n ≤ 8000000))
theorem szOk.line {n : Nat} (h : szOk n) : n ≤ sizeLine := Nat.le_trans h (by decide)
theorem szOk.lt {n : Nat} (h : szOk n) : n < sizeLine := Nat.lt_of_le_of_lt h (by decide)
section
variable {K : PySem.W.Frag} {F H : Hp}
theorem dv_sqT {a : Addr} {o : Obj} {xs : List V} (h : F a = some (.frz o (.tup xs))) : SqT K F a xs := .inl (.inr ⟨o, h⟩)
/-- a new tuple is data -/
theorem newT_dv {xs : List V} {ds : List PyData} {Q : VK} (s : Ex F H) (h : DvAll K F xs ds) (q : ∀ v F' H', Grow F H F' H' → Dv K F' v (.tuple ds) → Q v H') : NewT xs H Q := fun p o hp ho =>
  have g : Grow F H (upd F p (.frz o (.tup xs))) (upd H p (.frz o (.tup xs))) := Grow.new s hp
  q _ _ _ g (.tup upd_same ho (dvAll_mono g.ff h))
theorem newL_dv {xs : List V} {ds : List PyData} {Q : VK} (s : Ex F H) (h : DvAll K F xs ds) (q : ∀ v F' H', Grow F H F' H' → Dv K F' v (.list ds) → Q v H') : ∀ p, H p = none → Q (.ref p) (upd H p (.lst xs)) := fun p hp =>
  have g : Grow F H (upd F p (.lst xs)) (upd H p (.lst xs)) := Grow.new s hp
  q _ _ _ g (.lst upd_same (dvAll_mono g.ff h))
theorem dvAll_nil_iff {xs : List V} {ds : List PyData} (h : DvAll K F xs ds) : xs = [] ↔ ds = [] := by
  have := dvAll_len h
  constructor
  · intro e
    rw [e] at this
    exact List.eq_nil_of_length_eq_zero this.symm
  · intro e
    rw [e] at this
    exact List.eq_nil_of_length_eq_zero this
end

/-! ### + - * // % ** -/
def pAdd : PyData → PyData → Option PyData
  | .int i, .int j => some (.int (i + j))
  | .tuple xs, .tuple ys => if szOk (xs.length + ys.length) then some (.tuple (xs ++ ys)) else none
  | .list xs, .list ys => if szOk (xs.length + ys.length) then some (.list (xs ++ ys)) else none
  | .str x, .str y => if szOk (x.length + y.length) then some (.str (x ++ y)) else none
  | _, _ => none
def rAddA (K : PySem.W.Frag) : R2 := fun x y H Q => ((((rI0 fun i j => .int (i + j)) x y H Q ∨ rCatK K x y H Q) ∨ rCat x y H Q) ∨ (∃ i j, x = .str i ∧ y = .str j ∧ i.length + j.length ≤ sizeLine ∧ Q (.str (i ++ j)) H))
theorem op_addA {X : Cx} : OpR X (binaryOp .Add) (rAddA X.K) := OpR.or (OpR.or (OpR.or op_add op_catK) op_cat) op_add_str
theorem r2_add {K : PySem.W.Frag} : R2D K (rAddA K) pAdd := by
  intro x y F H d e z Q s hx hy hp q
  cases hx with
  | int i =>
    cases hy with
    | int j =>
      cases hp
      exact .inl (.inl (.inl ⟨i, j, rfl, rfl, q _ F H (Grow.refl s) (.int _)⟩))
    | _ => cases hp
  | str i =>
    cases hy with
    | str j =>
      have hp : (if szOk (i.length + j.length) then some (PyData.str (i ++ j)) else none) = some z := hp
      split at hp
      · rename_i hz
        cases hp
        exact .inr ⟨i, j, rfl, rfl, hz.line, q _ F H (Grow.refl s) (.str _)⟩
      · cases hp
    | _ => cases hp
  | tup h1 o1 a1 =>
    cases hy with
    | tup h2 o2 a2 =>
      rename_i a oa xs ds b ob ys es
      have hp : (if szOk (ds.length + es.length) then some (PyData.tuple (ds ++ es)) else none) = some z := hp
      split at hp
      · rename_i hz
        cases hp
        refine .inl (.inl (.inr ⟨a, b, xs, ys, rfl, rfl, ex_t s (dv_sqT h1), ex_t s (dv_sqT h2), by rw [dvAll_len a1, dvAll_len a2]; exact hz.line, fun e => ?_, fun e1 e2 => ?_, fun e1 e2 => ?_⟩))
        · rw [(dvAll_nil_iff a1).mp e, List.nil_append] at q
          exact q _ F H (Grow.refl s) (.tup h2 o2 a2)
        · rw [(dvAll_nil_iff a2).mp e2, List.append_nil] at q
          exact q _ F H (Grow.refl s) (.tup h1 o1 a1)
        · exact newT_dv s (dvAll_app a1 a2) q
      · cases hp
    | _ => cases hp
  | lst h1 a1 =>
    cases hy with
    | lst h2 a2 =>
      rename_i a xs ds b ys es
      have hp : (if szOk (ds.length + es.length) then some (PyData.list (ds ++ es)) else none) = some z := hp
      split at hp
      · rename_i hz
        cases hp
        exact .inl (.inr ⟨a, b, xs, ys, rfl, rfl, s _ _ h1, s _ _ h2, by rw [dvAll_len a1, dvAll_len a2]; exact hz.line, newL_dv s (dvAll_app a1 a2) q⟩)
      · cases hp
    | _ => cases hp
  | _ => cases hp
def pSub : PyData → PyData → Option PyData
  | .int i, .int j => some (.int (i - j))
  | _, _ => none
/-- from a rule on ints -/
theorem r2_int {K : PySem.W.Frag} {C : Int → Int → Prop} {g : Int → Int → V} {p : PyData → PyData → Option PyData} {gd : Int → Int → PyData}
    (hp : ∀ d e z, p d e = some z → ∃ i j, d = .int i ∧ e = .int j ∧ C i j ∧ z = gd i j) (hg : ∀ F i j, Dv K F (g i j) (gd i j)) : R2D K (rI C g) p := by
  intro x y F H d e z Q s hx hy h q
  obtain ⟨i, j, rfl, rfl, c, rfl⟩ := hp d e z h
  cases hx
  cases hy
  exact ⟨i, j, rfl, rfl, c, q _ F H (Grow.refl s) (hg F i j)⟩
theorem r2_int0 {K : PySem.W.Frag} {g : Int → Int → V} {p : PyData → PyData → Option PyData} {gd : Int → Int → PyData}
    (hp : ∀ d e z, p d e = some z → ∃ i j, d = .int i ∧ e = .int j ∧ z = gd i j) (hg : ∀ F i j, Dv K F (g i j) (gd i j)) : R2D K (rI0 g) p := by
  intro x y F H d e z Q s hx hy h q
  obtain ⟨i, j, rfl, rfl, rfl⟩ := hp d e z h
  cases hx
  cases hy
  exact ⟨i, j, rfl, rfl, q _ F H (Grow.refl s) (hg F i j)⟩
theorem r2_sub {K : PySem.W.Frag} : R2D K (rI0 fun i j => .int (i - j)) pSub := r2_int0 (gd := fun i j => .int (i - j)) (fun d e z h => by
  cases d <;> cases e <;> first | (cases h; done) | (cases h; exact ⟨_, _, rfl, rfl, rfl⟩)) fun _ _ _ => .int _
def pMul : PyData → PyData → Option PyData
  | .int i, .int j => if i.natAbs < 18446744073709551616 ∨ j.natAbs < 18446744073709551616 then some (.int (i * j)) else none
  | .tuple xs, .int k => if -1000000 ≤ k ∧ k ≤ 1000 ∧ xs.length ≤ 1000 then some (.tuple (List.replicate k.toNat xs).flatten) else none
  | .list xs, .int k => if -1000000 ≤ k ∧ k ≤ 1000 ∧ xs.length ≤ 1000 then some (.list (List.replicate k.toNat xs).flatten) else none
  | _, _ => none
def rMulA (K : PySem.W.Frag) : R2 := fun x y H Q => (((rI CMul fun i j => .int (i * j)) x y H Q ∨ rRepK K x y H Q) ∨ rRep x y H Q)
theorem op_mulA {X : Cx} : OpR X (binaryOp .Mult) (rMulA X.K) := OpR.or (OpR.or op_mul op_repK) op_rep
theorem flat_one {α : Type} (xs : List α) : (List.replicate 1 xs).flatten = xs := by simp
theorem flat_nil {α : Type} : ∀ n : Nat, (List.replicate n ([] : List α)).flatten = []
  | 0 => rfl
  | n + 1 => by rw [List.replicate_succ, List.flatten_cons, flat_nil n]; rfl
theorem r2_mul {K : PySem.W.Frag} : R2D K (rMulA K) pMul := by
  intro x y F H d e z Q s hx hy hp q
  cases hx with
  | int i =>
    cases hy with
    | int j =>
      have hp : (if i.natAbs < 18446744073709551616 ∨ j.natAbs < 18446744073709551616 then some (PyData.int (i * j)) else none) = some z := hp
      split at hp
      · rename_i hz
        cases hp
        refine .inl (.inl ⟨i, j, rfl, rfl, ?_, q _ F H (Grow.refl s) (.int _)⟩)
        rcases hz with hz | hz
        · exact .inl ⟨by omega, by omega⟩
        · exact .inr ⟨by omega, by omega⟩
      · cases hp
    | _ => cases hp
  | tup h1 o1 a1 =>
    cases hy with
    | int k =>
      rename_i a oa xs ds
      have hp : (if -1000000 ≤ k ∧ k ≤ 1000 ∧ ds.length ≤ 1000 then some (PyData.tuple (List.replicate k.toNat ds).flatten) else none) = some z := hp
      split at hp
      · rename_i hz
        cases hp
        refine .inl (.inr ⟨a, k, xs, rfl, rfl, ex_t s (dv_sqT h1), hz.1, hz.2.1, by rw [dvAll_len a1]; exact hz.2.2, fun e => ?_, fun e1 e2 => ?_⟩)
        · have e2 : (List.replicate k.toNat ds).flatten = ds := by
            rcases e with e | e
            · rw [(dvAll_nil_iff a1).mp e, flat_nil]
            · rw [e]
              exact flat_one ds
          rw [e2] at q
          exact q _ F H (Grow.refl s) (.tup h1 o1 a1)
        · exact newT_dv s (dvAll_rep a1 _) q
      · cases hp
    | _ => cases hp
  | lst h1 a1 =>
    cases hy with
    | int k =>
      rename_i a xs ds
      have hp : (if -1000000 ≤ k ∧ k ≤ 1000 ∧ ds.length ≤ 1000 then some (PyData.list (List.replicate k.toNat ds).flatten) else none) = some z := hp
      split at hp
      · rename_i hz
        cases hp
        refine .inr ⟨a, k, xs, rfl, rfl, s _ _ h1, by omega, by omega, ?_, newL_dv s (dvAll_rep a1 _) q⟩
        rw [dvAll_len a1]
        have a1 : ds.length * k.toNat ≤ 1000 * 1000 := Nat.mul_le_mul (by omega) (by omega)
        exact Nat.le_trans a1 (by decide)
      · cases hp
    | _ => cases hp
  | _ => cases hp
def pFdiv : PyData → PyData → Option PyData
  | .int i, .int j => if 0 < j ∧ j < 1073741824 then some (.int (i / j)) else none
  | _, _ => none
theorem r2_fdiv {K : PySem.W.Frag} : R2D K (rI CDiv fun i j => .int (i / j)) pFdiv := r2_int (gd := fun i j => .int (i / j)) (fun d e z h => by
  cases d <;> cases e <;> first
    | (cases h; done)
    | (rename_i i j
       have h : (if 0 < j ∧ j < 1073741824 then some (PyData.int (i / j)) else none) = some z := h
       split at h
       · rename_i c
         cases h
         exact ⟨_, _, rfl, rfl, c, rfl⟩
       · cases h)) fun _ _ _ => .int _
def pMod : PyData → PyData → Option PyData
  | .int i, .int j => if 0 < j then some (.int (i % j)) else none
  | _, _ => none
theorem r2_mod {K : PySem.W.Frag} : R2D K (rI (fun _ j => 0 < j) fun i j => .int (i % j)) pMod := r2_int (gd := fun i j => .int (i % j)) (fun d e z h => by
  cases d <;> cases e <;> first
    | (cases h; done)
    | (rename_i i j
       have h : (if 0 < j then some (PyData.int (i % j)) else none) = some z := h
       split at h
       · rename_i c
         cases h
         exact ⟨_, _, rfl, rfl, c, rfl⟩
       · cases h)) fun _ _ _ => .int _
def pPow : PyData → PyData → Option PyData
  | .int i, .int j => if 0 ≤ j ∧ j ≤ 1000000 ∧ i.natAbs < 18446744073709551616 then some (.int (i ^ j.toNat)) else none
  | _, _ => none
theorem r2_pow {K : PySem.W.Frag} : R2D K (rI CPow fun i j => .int (i ^ j.toNat)) pPow := r2_int (gd := fun i j => .int (i ^ j.toNat)) (fun d e z h => by
  cases d <;> cases e <;> first
    | (cases h; done)
    | (rename_i i j
       have h : (if 0 ≤ j ∧ j ≤ 1000000 ∧ i.natAbs < 18446744073709551616 then some (PyData.int (i ^ j.toNat)) else none) = some z := h
       split at h
       · rename_i c
         cases h
         exact ⟨_, _, rfl, rfl, ⟨c.1, c.2.1, by omega⟩, rfl⟩
       · cases h)) fun _ _ _ => .int _
/-! ### comparisons -/
def pLt : PyData → PyData → Option PyData
  | .int i, .int j => some (.bool (decide (i < j)))
  | _, _ => none
def pLe : PyData → PyData → Option PyData
  | .int i, .int j => some (.bool (decide (i ≤ j)))
  | _, _ => none
def pGt : PyData → PyData → Option PyData
  | .int i, .int j => some (.bool (decide (j < i)))
  | _, _ => none
def pGe : PyData → PyData → Option PyData
  | .int i, .int j => some (.bool (decide (j ≤ i)))
  | _, _ => none
theorem r2_lt {K : PySem.W.Frag} : R2D K (rI0 fun i j => .bl (decide (i < j))) pLt := r2_int0 (gd := fun i j => .bool (decide (i < j))) (fun d e z h => by
  cases d <;> cases e <;> first | (cases h; done) | (cases h; exact ⟨_, _, rfl, rfl, rfl⟩)) fun _ _ _ => .bl _
theorem r2_le {K : PySem.W.Frag} : R2D K (rI0 fun i j => .bl (decide (i ≤ j))) pLe := r2_int0 (gd := fun i j => .bool (decide (i ≤ j))) (fun d e z h => by
  cases d <;> cases e <;> first | (cases h; done) | (cases h; exact ⟨_, _, rfl, rfl, rfl⟩)) fun _ _ _ => .bl _
theorem r2_gt {K : PySem.W.Frag} : R2D K (rI0 fun i j => .bl (decide (j < i))) pGt := r2_int0 (gd := fun i j => .bool (decide (j < i))) (fun d e z h => by
  cases d <;> cases e <;> first | (cases h; done) | (cases h; exact ⟨_, _, rfl, rfl, rfl⟩)) fun _ _ _ => .bl _
theorem r2_ge {K : PySem.W.Frag} : R2D K (rI0 fun i j => .bl (decide (j ≤ i))) pGe := r2_int0 (gd := fun i j => .bool (decide (j ≤ i))) (fun d e z h => by
  cases d <;> cases e <;> first | (cases h; done) | (cases h; exact ⟨_, _, rfl, rfl, rfl⟩)) fun _ _ _ => .bl _
def pEq (d e : PyData) : Option PyData := if SeqAt.shaped d = true ∧ SeqAt.shaped e = true then some (.bool (PyData.eqv d e)) else none
def pNe (d e : PyData) : Option PyData := if SeqAt.shaped d = true ∧ SeqAt.shaped e = true then some (.bool (!PyData.eqv d e)) else none
theorem r2_eq {K : PySem.W.Frag} : R2D K (rEqD K) pEq := by
  intro x y F H d e z Q s hx hy hp q
  unfold pEq at hp
  split at hp
  · rename_i c
    cases hp
    exact ⟨d, e, dv_dp (dv_mono s hx) (SeqAt.canLay_of_shaped c.1), dv_dp (dv_mono s hy) (SeqAt.canLay_of_shaped c.2), c.1, c.2, q _ F H (Grow.refl s) (.bl _)⟩
  · cases hp
theorem r2_ne {K : PySem.W.Frag} : R2D K (rNeD K) pNe := by
  intro x y F H d e z Q s hx hy hp q
  unfold pNe at hp
  split at hp
  · rename_i c
    cases hp
    exact ⟨d, e, dv_dp (dv_mono s hx) (SeqAt.canLay_of_shaped c.1), dv_dp (dv_mono s hy) (SeqAt.canLay_of_shaped c.2), c.1, c.2, q _ F H (Grow.refl s) (.bl _)⟩
  · cases hp
/-! ### in, not in -/
def hasD (d : PyData) (ds : List PyData) : Bool := ds.any fun z => PyData.eqv z d
def subS (i j : Str) : Bool := !(Builtin.Str.occurrences j i 0 j.length 1).isEmpty
def pIn (d : PyData) : PyData → Option PyData
  | .list ds => if SeqAt.shaped d = true ∧ SeqAt.shaped (.list ds) = true then some (.bool (hasD d ds)) else none
  | .tuple ds => if SeqAt.shaped d = true ∧ SeqAt.shaped (.tuple ds) = true then some (.bool (hasD d ds)) else none
  | .str j => match d with
    | .str i => some (.bool (subS i j))
    | _ => none
  | _ => none
def pNotIn (d e : PyData) : Option PyData := (pIn d e).bind fun z => match z with
  | .bool b => some (.bool (!b))
  | _ => none
def rInA (K : PySem.W.Frag) : R2 := fun x y H Q => (rInD K x y H Q ∨ rInT K x y H Q) ∨ (∃ i j, x = .str i ∧ y = .str j ∧ Q (.bl (!(Builtin.Str.occurrences j i 0 j.length 1).isEmpty)) H)
def rNotInA (K : PySem.W.Frag) : R2 := fun x y H Q => (rNotInD K x y H Q ∨ rNotInT K x y H Q) ∨ (∃ i j, x = .str i ∧ y = .str j ∧ Q (.bl (!(!(Builtin.Str.occurrences j i 0 j.length 1).isEmpty))) H)
theorem op_inA {X : Cx} (hu : X.A.units + 65 < cLine) : OpR X (compareOp .In) (rInA X.K) := OpR.or (OpR.or (op_inD hu) (op_inT hu)) op_in_str
theorem op_notInA {X : Cx} (hu : X.A.units + 65 < cLine) : OpR X (compareOp .NotIn) (rNotInA X.K) := OpR.or (OpR.or (op_notInD hu) (op_notInT hu)) op_notin_str
theorem r2_in {K : PySem.W.Frag} : R2D K (rInA K) pIn := by
  intro x y F H d e z Q s hx hy hp q
  cases e with
  | list ds =>
    have hp : (if SeqAt.shaped d = true ∧ SeqAt.shaped (.list ds) = true then some (PyData.bool (hasD d ds)) else none) = some z := hp
    split at hp
    · rename_i c
      cases hp
      exact .inl (.inl ⟨d, ds, dv_dp (dv_mono s hx) (SeqAt.canLay_of_shaped c.1), dv_dp (dv_mono s hy) (SeqAt.canLay_of_shaped c.2), c.1, c.2, q _ F H (Grow.refl s) (.bl _)⟩)
    · cases hp
  | tuple ds =>
    have hp : (if SeqAt.shaped d = true ∧ SeqAt.shaped (.tuple ds) = true then some (PyData.bool (hasD d ds)) else none) = some z := hp
    split at hp
    · rename_i c
      cases hp
      exact .inl (.inr ⟨d, ds, dv_dp (dv_mono s hx) (SeqAt.canLay_of_shaped c.1), dv_dp (dv_mono s hy) (SeqAt.canLay_of_shaped c.2), c.1, c.2, q _ F H (Grow.refl s) (.bl _)⟩)
    · cases hp
  | str j =>
    cases d with
    | str i =>
      cases hp
      exact .inr ⟨i, j, dv_str hx, dv_str hy, q _ F H (Grow.refl s) (.bl _)⟩
    | _ => cases hp
  | _ => cases hp
theorem r2_notIn {K : PySem.W.Frag} : R2D K (rNotInA K) pNotIn := by
  intro x y F H d e z Q s hx hy hp q
  obtain ⟨b, hb, hp⟩ := Option.bind_eq_some_iff.mp hp
  cases e with
  | list ds =>
    have hb : (if SeqAt.shaped d = true ∧ SeqAt.shaped (.list ds) = true then some (PyData.bool (hasD d ds)) else none) = some b := hb
    split at hb
    · rename_i c
      cases hb
      cases hp
      exact .inl (.inl ⟨d, ds, dv_dp (dv_mono s hx) (SeqAt.canLay_of_shaped c.1), dv_dp (dv_mono s hy) (SeqAt.canLay_of_shaped c.2), c.1, c.2, q _ F H (Grow.refl s) (.bl _)⟩)
    · cases hb
  | tuple ds =>
    have hb : (if SeqAt.shaped d = true ∧ SeqAt.shaped (.tuple ds) = true then some (PyData.bool (hasD d ds)) else none) = some b := hb
    split at hb
    · rename_i c
      cases hb
      cases hp
      exact .inl (.inr ⟨d, ds, dv_dp (dv_mono s hx) (SeqAt.canLay_of_shaped c.1), dv_dp (dv_mono s hy) (SeqAt.canLay_of_shaped c.2), c.1, c.2, q _ F H (Grow.refl s) (.bl _)⟩)
    · cases hb
  | str j =>
    cases d with
    | str i =>
      cases hb
      cases hp
      exact .inr ⟨i, j, dv_str hx, dv_str hy, q _ F H (Grow.refl s) (.bl _)⟩
    | _ => cases hb
  | _ => cases hb
/-! ### is None, is True -/
def isNone : PyData → Bool
  | .none => true
  | _ => false
def pIs : PyData → PyData → Option PyData
  | d, .none => some (.bool (isNone d))
  | .bool a, .bool b => some (.bool (decide (a = b)))
  | _, _ => none
def pIsNot : PyData → PyData → Option PyData
  | d, .none => some (.bool (!isNone d))
  | .bool a, .bool b => some (.bool (!decide (a = b)))
  | _, _ => none
def rIsA : R2 := fun x y H Q => rIsN x y H Q ∨ rIsB x y H Q
def rIsNotA : R2 := fun x y H Q => rNotN x y H Q ∨ rNotB x y H Q
theorem op_isA {X : Cx} : OpR X (compareOp .Is) rIsA := OpR.or op_isN1 op_isBl
theorem op_isNotA {X : Cx} : OpR X (compareOp .IsNot) rIsNotA := OpR.or op_notN1 op_notBl
theorem dv_isNone {K : PySem.W.Frag} {F : Hp} {v : V} {d : PyData} (h : Dv K F v d) : decide (v = .non) = isNone d := by cases h <;> rfl
theorem r2_is {K : PySem.W.Frag} : R2D K rIsA pIs := by
  intro x y F H d e z Q s hx hy hp q
  cases e with
  | none =>
    have hp : some (PyData.bool (isNone d)) = some z := by cases d <;> exact hp
    cases hp
    exact .inl ⟨dv_non hy, by rw [dv_isNone hx]; exact q _ F H (Grow.refl s) (.bl _)⟩
  | bool b =>
    cases d with
    | bool a =>
      cases hp
      exact .inr ⟨a, b, dv_bool hx, dv_bool hy, q _ F H (Grow.refl s) (.bl _)⟩
    | _ => cases hp
  | _ => cases d <;> cases hp
theorem r2_isNot {K : PySem.W.Frag} : R2D K rIsNotA pIsNot := by
  intro x y F H d e z Q s hx hy hp q
  cases e with
  | none =>
    have hp : some (PyData.bool (!isNone d)) = some z := by cases d <;> exact hp
    cases hp
    exact .inl ⟨dv_non hy, by rw [dv_isNone hx]; exact q _ F H (Grow.refl s) (.bl _)⟩
  | bool b =>
    cases d with
    | bool a =>
      cases hp
      exact .inr ⟨a, b, dv_bool hx, dv_bool hy, q _ F H (Grow.refl s) (.bl _)⟩
    | _ => cases hp
  | _ => cases d <;> cases hp
/-! ### subscripts -/
def pIdx : PyData → PyData → Option PyData
  | .list ds, .int i => atI ds i
  | .tuple ds, .int i => atI ds i
  | .dict kvs, .int i => (atI kvs i).map (·.1)
  | .str x, .int i => if szOk x.length then (atI x.cps.toList i).map fun c => .str ⟨#[c]⟩ else none
  | _, _ => none
theorem atI_dv {K : PySem.W.Frag} {F : Hp} {vs : List V} {ds : List PyData} {i : Int} {d : PyData} (h : DvAll K F vs ds) (e : atI ds i = some d) : ∃ v, atI vs i = some v ∧ Dv K F v d := by
  unfold atI at e ⊢
  rw [dvAll_len h]
  obtain ⟨j, hj, e⟩ := Option.bind_eq_some_iff.mp e
  obtain ⟨v, hv, dv⟩ := dvAll_get h e
  exact ⟨v, by rw [hj]; exact hv, dv⟩
theorem atI_map {α β : Type} (f : α → β) (xs : List α) (i : Int) : atI (xs.map f) i = (atI xs i).map f := by
  unfold atI
  rw [List.length_map]
  cases ixN xs.length i with
  | none => rfl
  | some j => exact List.getElem?_map
theorem r2_idx {K : PySem.W.Frag} : R2D K (rIx K) pIdx := by
  intro x y F H d e z Q s hx hy hp q
  cases hx with
  | lst h1 a1 =>
    cases hy with
    | int i =>
      obtain ⟨v, hv, dv⟩ := atI_dv a1 (show atI _ i = some z from hp)
      exact .inl ⟨_, _, i, v, rfl, rfl, sq_of (s _ _ h1), hv, q _ F H (Grow.refl s) dv⟩
    | _ => cases hp
  | tup h1 o1 a1 =>
    cases hy with
    | int i =>
      obtain ⟨v, hv, dv⟩ := atI_dv a1 (show atI _ i = some z from hp)
      exact .inr (.inl ⟨_, _, i, v, rfl, rfl, ex_t s (dv_sqT h1), hv, q _ F H (Grow.refl s) dv⟩)
    | _ => cases hp
  | scr h1 =>
    cases hy with
    | int i =>
      rename_i a ns
      have hp : (atI (ns.map fun n => (PyData.int n, PyData.none)) i).map (·.1) = some z := hp
      rw [atI_map] at hp
      cases hn : atI ns i with
      | none => rw [hn] at hp; cases hp
      | some n =>
        rw [hn] at hp
        cases hp
        refine .inl ⟨_, _, i, .int n, rfl, rfl, ex_l s h1, by rw [atI_map, hn]; rfl, q _ F H (Grow.refl s) (.int n)⟩
    | _ => cases hp
  | str x =>
    cases hy with
    | int i =>
      have hp : (if szOk x.length then (atI x.cps.toList i).map fun c => PyData.str ⟨#[c]⟩ else none) = some z := hp
      split at hp
      · rename_i hz
        cases hn : atI x.cps.toList i with
        | none => rw [hn] at hp; cases hp
        | some c =>
          rw [hn] at hp
          cases hp
          exact .inr (.inr ⟨x, i, c, rfl, rfl, hz.line, hn, q _ F H (Grow.refl s) (.str _)⟩)
      · cases hp
    | _ => cases hp
  | _ => cases hp
section
variable {X : Cx} {env : List Slot} {a b e : Expr} {es : List Expr} {pos : Pos} {ma mb m : Option PyData}
theorem de_idx (ha : DE X a env ma) (hb : DE X b env mb) (hs : PlainIx b := by intro _ _; rfl) : DE X (.Subscript a b pos) env (ma.bind fun x => mb.bind fun y => pIdx x y) :=
  PE.mono (pe_ix ix_seq ha hb hs) fun σ H Q ⟨F0, H0, F, d, o, em, q⟩ => by
    obtain ⟨x, hx, em⟩ := Option.bind_eq_some_iff.mp em
    obtain ⟨y, hy, em⟩ := Option.bind_eq_some_iff.mp em
    refine ⟨F0, H0, F, x, o, hx, fun v F1 H1 g1 h1 => ⟨F0, H0, F1, y, o.grow g1, hy, fun u F2 H2 g2 h2 => ?_⟩⟩
    exact r2_idx v u F2 H2 x y d Q g2.sub (dv_mono g2.ff h1) h2 em fun z F3 H3 g3 h3 => q z F3 H3 ((g1.trans g2).trans g3) h3
def pNeg : PyData → Option PyData
  | .int i => some (.int (-i))
  | _ => none
theorem de_neg (ha : DE X a env ma) : DE X (.UnaryOp .USub a pos) env (ma.bind pNeg) :=
  PE.mono (pe_un un_neg ha) fun σ H Q ⟨F0, H0, F, d, o, em, q⟩ => by
    obtain ⟨x, hx, em⟩ := Option.bind_eq_some_iff.mp em
    cases x with
    | int i =>
      cases em
      exact ⟨F0, H0, F, _, o, hx, fun v F1 H1 g1 h1 => ⟨i, dv_int h1, q _ F1 H1 g1 (.int _)⟩⟩
    | _ => cases em
/-! ### slices -/
def cutD (ds : List PyData) (lo hi : Option Int) : List PyData := (ds.drop (HT.sIx ds.length 0 lo)).take (HT.sIx ds.length ds.length hi - HT.sIx ds.length 0 lo)
def pCut (d : PyData) (lo hi : Option Int) : Option PyData := match d with
  | .list ds => some (.list (cutD ds lo hi))
  | .tuple ds => some (.tuple (cutD ds lo hi))
  | .str z => if szOk z.length then some (.str (cutS z lo hi)) else none
  | _ => none
theorem cut_dv {K : PySem.W.Frag} {F : Hp} {vs : List V} {ds : List PyData} {lo hi : Option Int} (h : DvAll K F vs ds) : DvAll K F (cutV vs lo hi) (cutD ds lo hi) := by
  unfold cutV cutD
  rw [dvAll_len h]
  exact dvAll_take _ (dvAll_drop _ h)
theorem cutD_whole {ds : List PyData} {lo hi : Option Int} (h : HT.sIx ds.length 0 lo = 0 ∧ HT.sIx ds.length ds.length hi = ds.length) : cutD ds lo hi = ds := by
  unfold cutD
  rw [h.1, h.2, List.drop_zero, Nat.sub_zero, List.take_length]
/-- a part of a slice -/
def tDO (K : PySem.W.Frag) (env : List Slot) (m : Option (Option Int)) : TO := fun σ H Q => ∃ F0 H0 F o, EOk K F0 H0 σ F H env ∧ m = some o ∧ ∀ F' H', Grow F H F' H' → Q o H'
abbrev DO (X : Cx) (e : Option Expr) (env : List Slot) (m : Option (Option Int)) : Prop := PO X e (tDO X.K env m)
theorem PO.mono {e : Option Expr} {t t' : TO} (h : PO X e t) (k : ∀ σ H Q, t' σ H Q → t σ H Q) : PO X e t' := ⟨fun pins s σ H Q I q => h.run pins s σ H Q I (k σ H Q q)⟩
theorem do_none : DO X none env (some none) := PO.mono po_none fun σ H Q ⟨F0, H0, F, d, o, em, q⟩ => by
  cases em
  exact q F H (Grow.refl o.sub)
def asI : PyData → Option Int
  | .int i => some i
  | _ => none
theorem asI_some {d : PyData} {i : Int} (h : asI d = some i) : d = .int i := by
  cases d <;> simp [asI] at h
  rw [h]
theorem do_some (h : DE X e env m) : DO X (some e) env (m.bind fun d => (asI d).map some) := PO.mono (po_some h) fun σ H Q ⟨F0, H0, F, d, o, em, q⟩ => by
  obtain ⟨x, hx, em⟩ := Option.bind_eq_some_iff.mp em
  cases hi : asI x with
  | none => rw [hi] at em; cases em
  | some i =>
    rw [hi] at em
    cases em
    have e := asI_some hi
    subst e
    exact ⟨F0, H0, F, _, o, hx, fun v F1 H1 g1 h1 => ⟨i, dv_int h1, q F1 H1 g1⟩⟩
theorem de_slice {lo hi : Option Expr} {p2 : Pos} {ml mh : Option (Option Int)} (ha : DE X a env ma) (hl : DO X lo env ml) (hh : DO X hi env mh) : DE X (.Subscript a (.Slice lo hi none p2) pos) env (ma.bind fun d => ml.bind fun l => mh.bind fun h => pCut d l h) :=
  PE.mono (pe_slice (SlR.or (SlR.or sl_list sl_tupK) sl_str) ha hl hh) fun σ H Q ⟨F0, H0, F, d, o, em, q⟩ => by
    obtain ⟨x, hx, em⟩ := Option.bind_eq_some_iff.mp em
    obtain ⟨l, hl, em⟩ := Option.bind_eq_some_iff.mp em
    obtain ⟨h, hh, em⟩ := Option.bind_eq_some_iff.mp em
    refine ⟨F0, H0, F, x, o, hx, fun v F1 H1 g1 h1 => ⟨F0, H0, F1, l, o.grow g1, hl, fun F2 H2 g2 => ⟨F0, H0, F2, h, o.grow (g1.trans g2), hh, fun F3 H3 g3 => ?_⟩⟩⟩
    have h3 := dv_mono (g2.trans g3).ff h1
    have g13 := (g1.trans g2).trans g3
    cases h3 with
    | lst hs hd =>
      cases em
      exact .inl (.inl ⟨_, _, rfl, sq_of (g3.sub _ _ hs), newL_dv g3.sub (cut_dv hd) fun v F4 H4 g4 h4 => q v F4 H4 (g13.trans g4) h4⟩)
    | tup hs ho hd =>
      cases em
      refine .inl (.inr ⟨_, _, rfl, ex_t g3.sub (dv_sqT hs), fun hw => ?_, fun hw => newT_dv g3.sub (cut_dv hd) fun v F4 H4 g4 h4 => q v F4 H4 (g13.trans g4) h4⟩)
      rw [dvAll_len hd] at hw
      rw [cutD_whole hw] at q
      exact q _ F3 H3 g13 (.tup hs ho hd)
    | str z =>
      have em : (if szOk z.length then some (PyData.str (cutS z l h)) else none) = some d := em
      split at em
      · rename_i hz
        cases em
        exact .inr ⟨z, rfl, hz.line, q _ F3 H3 g13 (.str _)⟩
      · cases em
    | _ => cases em
def pRev : PyData → Option PyData
  | .list ds => some (.list ds.reverse)
  | .tuple ds => some (.tuple ds.reverse)
  | _ => none
theorem de_rev {k : Nat} {p1 p2 p3 : Pos} (ha : DE X a env ma) : DE X (.Subscript a (.Slice none none (some (.UnaryOp .USub (.Constant (.int 1) k p1) p2)) p3) pos) env (ma.bind pRev) :=
  PE.mono (pe_revS ha) fun σ H Q ⟨F0, H0, F, d, o, em, q⟩ => by
    obtain ⟨x, hx, em⟩ := Option.bind_eq_some_iff.mp em
    refine ⟨F0, H0, F, x, o, hx, fun v F1 H1 g1 h1 => ?_⟩
    cases h1 with
    | lst hs hd =>
      cases em
      exact .inl ⟨_, _, rfl, sq_of (g1.sub _ _ hs), newL_dv g1.sub (dvAll_rev hd) fun v F4 H4 g4 h4 => q v F4 H4 (g1.trans g4) h4⟩
    | tup hs ho hd =>
      cases em
      exact .inr ⟨_, _, rfl, ex_t g1.sub (dv_sqT hs), newT_dv g1.sub (dvAll_rev hd) fun v F4 H4 g4 h4 => q v F4 H4 (g1.trans g4) h4⟩
    | _ => cases em
/-! ### displays -/
def mkTup (ds : List PyData) : Option PyData := if szOk ds.length then some (.tuple ds) else none
def mkLst (ds : List PyData) : Option PyData := if szOk ds.length then some (.list ds) else none
theorem de_tup {x1} {ms : Option (List PyData)} (h : DA X es env ms) : DE X (.Tuple es x1 pos) env (ms.bind mkTup) := PE.mono (pe_tupK h) fun σ H Q ⟨F0, H0, F, d, o, em, q⟩ => by
  obtain ⟨ds, hds, em⟩ := Option.bind_eq_some_iff.mp em
  unfold mkTup at em
  split at em
  · rename_i hz
    cases em
    exact ⟨F0, H0, F, ds, o, hds, fun vs F1 H1 g1 h1 => ⟨by rw [dvAll_len h1]; exact hz.line, newT_dv g1.sub h1 fun v F2 H2 g2 h2 => q v F2 H2 (g1.trans g2) h2⟩⟩
  · cases em
theorem de_lst {ms : Option (List PyData)} (h : DA X es env ms) : DE X (.List es pos) env (ms.bind mkLst) := PE.mono (pe_lst h) fun σ H Q ⟨F0, H0, F, d, o, em, q⟩ => by
  obtain ⟨ds, hds, em⟩ := Option.bind_eq_some_iff.mp em
  unfold mkLst at em
  split at em
  · rename_i hz
    cases em
    exact ⟨F0, H0, F, ds, o, hds, fun vs F1 H1 g1 h1 => ⟨by rw [dvAll_len h1]; exact hz.line, newL_dv g1.sub h1 fun v F2 H2 g2 h2 => q v F2 H2 (g1.trans g2) h2⟩⟩
  · cases em
theorem de_ifExp {c : Expr} {mc : Option Bool} (hc : DT X c env mc) (ha : DE X a env ma) (hb : DE X b env mb) : DE X (.IfExp c a b pos) env (mc.bind fun k => if k = true then ma else mb) :=
  PE.mono (pe_ifExp hc ha hb) fun σ H Q ⟨F0, H0, F, d, o, em, q⟩ => by
    obtain ⟨k, hk, em⟩ := Option.bind_eq_some_iff.mp em
    refine ⟨F0, H0, F, k, o, hk, fun F1 H1 g1 => ?_⟩
    cases k with
    | true => exact ⟨F0, H0, F1, d, o.grow g1, em, fun v F2 H2 g2 h2 => q v F2 H2 (g1.trans g2) h2⟩
    | false => exact ⟨F0, H0, F1, d, o.grow g1, em, fun v F2 H2 g2 h2 => q v F2 H2 (g1.trans g2) h2⟩
end
end DV
end
section
set_option Elab.async false
set_option linter.all false
set_option maxRecDepth 100000
set_option maxHeartbeats 4000000
/-! calls of built-ins on data -/
namespace DV
open PySem PySem.Spec PySem.Calls PyProof.Rows PyProof.V L2 Evl
section
variable {prog : Program} {w : World} {A : Around} {E : Value → Shared → Prop} {s : Shared}
theorem collect_tup {l : Addr} {vs : List Value} {Q : List Value → Shared → Prop} (hl : IsTup s.heap l vs.toArray)
    (h : Q vs { s with heap := (s.heap.push (seqObj "list" #[] 0)).update s.heap.objs.size (Obj.mapSeq (· ++ vs.toArray)) }) (hsz : vs.length ≤ sizeLine := by size_fits) :
    wpAny (model prog w) A (collect (.ref l)) Q E s := by
  obtain ⟨o, ho, hc, n, hd⟩ := id hl
  unfold collect
  refine wpAny_bind (wpAny_runValue (codeAny_builtin entry_proto_collect' ?_))
  show wpAny _ _ (do again (.builtin "list.__iadd__" ⟨[← newList [], .ref l], []⟩)) _ _ s
  refine wpAny_bind (wpAny_newList (wpAny_pure ⟨Code.quiet_builtin _ (by decide +kernel), codeAny_builtin entry_list_iadd' ?_⟩))
  show wpAny _ _ (Builtin.List.listExtendWith (.ref s.heap.objs.size) (.ref l) (.ref s.heap.objs.size)) _ _ { s with heap := s.heap.push (seqObj "list" #[] 0) }
  unfold Builtin.List.listExtendWith
  have ho' : (s.heap.push (seqObj "list" #[] 0)).get? l = some o := Heap.get?_push_of_some _ ho
  refine wpAny_bind (wpAny_typeOf (T := "tuple") ⟨o, ho', hc⟩ ?_)
  have ht : (Value.type "tuple" == Value.type "tuple") = true := by rfl
  rw [if_pos (by rw [ht]; simp)]
  refine wpAny_bind (listItems_at ho' hd ?_)
  refine wpAny_bind (listItems_at (xs := #[]) (n := 0) (Heap.get?_push_size _ rfl) rfl ?_)
  rw [if_neg (by simp)]
  refine wpAny_bind (listUpdate_at (xs := #[]) (n := 0) (Heap.get?_push_size _ rfl) rfl ?_ (Nat.zero_le _) (by show (#[] ++ vs.toArray).size ≤ sizeLine + 1; simp only [Array.size_append, List.size_toArray, List.length_nil]; omega))
  refine wpAny_pure ?_
  show wpAny (model prog w) A (do
      let o ← load s.heap.objs.size
      match o.data with
      | .seq xs _ => pure xs.toList
      | _ => unsupported "internal:collect") Q E { s with heap := (s.heap.push (seqObj "list" #[] 0)).update s.heap.objs.size (Obj.mapSeq (· ++ vs.toArray)) }
  refine wpAny_bind (wpAny_load (get?_update_seq (Heap.get?_push_size _ rfl) _) ?_)
  show wpAny _ _ (pure ((#[] : Array Value) ++ vs.toArray).toList) Q E _
  rw [show ((#[] : Array Value) ++ vs.toArray).toList = vs by simp]
  exact wpAny_pure h
open SrtO in
theorem sorted_ordT {l : Addr} {vs : List Value} {ltv : Value → Value → Bool} {Q : Value → Shared → Prop} (O : Swo ltv) (hl : IsTup s.heap l vs.toArray) (hz : vs.length ≤ sizeLine)
    (hS : 2 ≤ vs.length → ∀ (h₁ : Heap) (a : Addr), h₁.get? a = some (seqObj "list" vs.toArray 0) → (∀ b o, s.heap.get? b = some o → b ≠ a ∧ h₁.get? b = some o) → SortableO prog w A.in1.in1 { s with heap := h₁ } a vs ltv)
    (h : ∀ out : List Value, Srtd ltv out → Stb ltv out vs → Q (.ref (s.heap.objs.size + 1)) { s with heap := sortedAll s.heap vs out.toArray }) :
    wpAny (model prog w) A (call (.builtin "sorted") [.ref l]) Q E s := by
  refine Calls.call_function_entry kind_sorted plain_sorted entry_sorted (args_sorted1 _) ?_
  unfold Builtin.«sorted»
  refine wpAny_bind (m := checkCount "sorted" 1 1 _) (wpAny_pure ?_)
  refine wpAny_bind (collect_tup hl ?_ hz)
  refine wpAny_bind (wpAny_newList ?_ hz)
  have hsz : ((s.heap.push (seqObj "list" #[] 0)).update s.heap.objs.size (Obj.mapSeq (· ++ vs.toArray))).objs.size = s.heap.objs.size + 1 := by
    rw [Heap.size_update, size_push']
  have hoL : (((s.heap.push (seqObj "list" #[] 0)).update s.heap.objs.size (Obj.mapSeq (· ++ vs.toArray))).push (seqObj "list" vs.toArray 0)).get? (s.heap.objs.size + 1) = some (seqObj "list" vs.toArray 0) := by
    rw [← hsz]; exact Heap.get?_push_size _ rfl
  have keep : ∀ b o, s.heap.get? b = some o → b ≠ s.heap.objs.size + 1 ∧ (((s.heap.push (seqObj "list" #[] 0)).update s.heap.objs.size (Obj.mapSeq (· ++ vs.toArray))).push (seqObj "list" vs.toArray 0)).get? b = some o := fun b o q => by
    have hlt : b < s.heap.objs.size := Heap.lt_size q
    refine ⟨Nat.ne_of_lt (Nat.lt_succ_of_lt hlt), Heap.get?_push_of_some _ ?_⟩
    rw [Heap.get?_update_ne _ _ _ _ (Nat.ne_of_lt hlt)]
    exact Heap.get?_push_of_some _ q
  show wpAny _ _ _ _ _ { s with heap := ((s.heap.push (seqObj "list" #[] 0)).update s.heap.objs.size (Obj.mapSeq (· ++ vs.toArray))).push (seqObj "list" vs.toArray 0) }
  rw [hsz]
  refine wpAny_bind (wpAny_holding (wpAny_call_entry slot_list_sort ⟨_, hoL, rfl⟩ entry_list_sort (list_sort_ord O hoL hz (fun h2 => hS h2 _ _ hoL keep) fun out hs hb => ⟨_, rfl, ?_⟩) (args_list_sort _)))
  exact wpAny_pure ⟨_, rfl, h out hs hb⟩
end
section
variable {X : Cx}
def rSortedIT (K : PySem.W.Frag) : List V → Hp → VK → Prop := fun vs H Q => ∃ (a : Addr) (ns : List Int), vs = [V.ref a] ∧ SqT K H a (ns.map V.int) ∧
  ∀ (ns' : List Int) (p : Addr), ns'.Perm ns → ns'.Pairwise (· ≤ ·) → H p = none → Q (.ref p) (upd H p (.lst (ns'.map V.int)))
theorem cr_sortedIT : CallR X (.builtin "sorted") (rSortedIT X.K) := by
  intro pins s σ H vs us Q I r h
  obtain ⟨a, ns, rfl, hs, q⟩ := h
  obtain ⟨its, rv, hl, hz⟩ := I.tuple hs
  rw [Vals.ref1 r]
  have hi := rv.ints
  refine sorted_ordT SrtO.swo_int hl (by rw [← rv.length]; exact hz) (fun h2 h₁ a' _ _ => SrtO.ints_sortable hi h2) fun out h1 h2 => ?_
  obtain ⟨k1, k2, k3⟩ := SrtO.ints_out hi h1 h2
  obtain ⟨ep, he'⟩ := PyProof.Rows.sortedAll_at s.heap its out.toArray
  have hlen : ((out.map SrtO.iv).map V.int).length ≤ sizeLine := by
    rw [List.length_map, k2.length_eq]
    rw [List.length_map] at hz
    exact hz
  exact ⟨.ref _, upd H (s.heap.objs.size + 1) (.lst ((out.map SrtO.iv).map V.int)), I.laid (t' := s.toks) (fun _ _ => PyProof.Rows.sortedAll_old) (Nat.le_succ _) ⟨hlen, out, ep, vals_of_ints k1, he'⟩, rfl, q _ _ k2 k3 (I.hok.fresh (Nat.le_succ _))⟩
def rSumT (K : PySem.W.Frag) : List V → Hp → VK → Prop := fun vs H Q => ∃ (a : Addr) (ns : List Int), vs = [V.ref a] ∧ SqT K H a (ns.map V.int) ∧ Q (.int ns.sum) H
theorem cr_sumT (hc : X.calm = true) : CallR X (.builtin "sum") (rSumT X.K) := by
  intro pins s σ H vs us Q I r h
  obtain ⟨a, ns, rfl, hs, q⟩ := h
  obtain ⟨its, rv, hl, _⟩ := I.tuple hs
  rw [Vals.ref1 r]
  obtain ⟨xs, hx⟩ := rv.ints.allInts.items
  have hn : numsOf its.toArray.toList = ns := by rw [show its.toArray.toList = its from rfl, rv.ints.numsOf]
  rw [hx] at hl hn
  rw [nums_intItems] at hn
  refine PySem.W.ktm_sumG (I.ok.hd hc) hl fun h' tk t' hk => ?_
  rw [preSum_eq, List.take_of_length_le (by simp), hn]
  exact ⟨.int _, H, I.kept hk, ⟨_, rfl⟩, q⟩
end
end DV
end
section
set_option Elab.async false
set_option linter.all false
set_option maxRecDepth 100000
set_option maxHeartbeats 4000000
/-! calls, comprehensions, defs, owned lists -/
namespace DV
open PySem PySem.Spec PyProof.Rows L2 Evl

/-! ### numbers in data -/
def intsOf : List PyData → Option (List Int)
  | [] => some []
  | .int i :: r => (intsOf r).map (i :: ·)
  | _ :: _ => none
theorem intsOf_map : ∀ ns : List Int, intsOf (ns.map PyData.int) = some ns
  | [] => rfl
  | n :: r => by
    show (intsOf (r.map PyData.int)).map (n :: ·) = _
    rw [intsOf_map r]
    rfl
theorem intsOf_some : ∀ {ds : List PyData} {ns : List Int}, intsOf ds = some ns → ds = ns.map PyData.int
  | [], ns, h => by
    cases h
    rfl
  | d :: r, ns, h => by
    cases d with
    | int i =>
      have h : (intsOf r).map (i :: ·) = some ns := h
      cases hr : intsOf r with
      | none => rw [hr] at h; cases h
      | some ms =>
        rw [hr] at h
        cases h
        rw [intsOf_some hr]
        rfl
    | _ => cases h
def bolsOf : List PyData → Option (List Bool)
  | [] => some []
  | .bool i :: r => (bolsOf r).map (i :: ·)
  | _ :: _ => none
theorem bolsOf_map : ∀ ns : List Bool, bolsOf (ns.map PyData.bool) = some ns
  | [] => rfl
  | n :: r => by
    show (bolsOf (r.map PyData.bool)).map (n :: ·) = _
    rw [bolsOf_map r]
    rfl
theorem bolsOf_some : ∀ {ds : List PyData} {ns : List Bool}, bolsOf ds = some ns → ds = ns.map PyData.bool
  | [], ns, h => by
    cases h
    rfl
  | d :: r, ns, h => by
    cases d with
    | bool i =>
      have h : (bolsOf r).map (i :: ·) = some ns := h
      cases hr : bolsOf r with
      | none => rw [hr] at h; cases h
      | some ms =>
        rw [hr] at h
        cases h
        rw [bolsOf_some hr]
        rfl
    | _ => cases h
def insI (x : Int) : List Int → List Int
  | [] => [x]
  | y :: r => if x ≤ y then x :: y :: r else y :: insI x r
def sortI : List Int → List Int
  | [] => []
  | x :: r => insI x (sortI r)
theorem insI_perm (x : Int) : ∀ l : List Int, (insI x l).Perm (x :: l)
  | [] => List.Perm.refl _
  | y :: r => by
    unfold insI
    split
    · exact List.Perm.refl _
    · exact ((insI_perm x r).cons y).trans (List.Perm.swap x y r)
theorem sortI_perm : ∀ l : List Int, (sortI l).Perm l
  | [] => List.Perm.refl _
  | x :: r => (insI_perm x (sortI r)).trans ((sortI_perm r).cons x)
theorem insI_pw (x : Int) : ∀ {l : List Int}, l.Pairwise (· ≤ ·) → (insI x l).Pairwise (· ≤ ·)
  | [], _ => List.pairwise_singleton _ _
  | y :: r, h => by
    have h' := List.pairwise_cons.mp h
    unfold insI
    split
    · rename_i c
      refine List.pairwise_cons.mpr ⟨fun z hz => ?_, h⟩
      rcases List.mem_cons.mp hz with e | hz
      · rw [e]; exact c
      · exact Int.le_trans c (h'.1 z hz)
    · rename_i c
      refine List.pairwise_cons.mpr ⟨fun z hz => ?_, insI_pw x h'.2⟩
      rcases List.mem_cons.mp ((insI_perm x r).mem_iff.mp hz) with e | hz
      · rw [e]; omega
      · exact h'.1 z hz
theorem sortI_pw : ∀ l : List Int, (sortI l).Pairwise (· ≤ ·)
  | [] => List.Pairwise.nil
  | x :: r => insI_pw x (sortI_pw r)
theorem sortI_eq {l m : List Int} (hp : m.Perm l) (hs : m.Pairwise (· ≤ ·)) : m = sortI l := PySem.W.ksm_same (hp.trans (sortI_perm l).symm) hs (sortI_pw l)
def minL : Int → List Int → Int
  | n, [] => n
  | n, y :: r => minL (if y < n then y else n) r
theorem minL_mem : ∀ (r : List Int) (n : Int), minL n r ∈ n :: r
  | [], n => List.mem_cons_self
  | y :: r, n => by
    have := minL_mem r (if y < n then y else n)
    rcases List.mem_cons.mp this with e | h
    · show minL (if y < n then y else n) r ∈ _
      rw [e]
      split
      · exact List.mem_cons_of_mem _ List.mem_cons_self
      · exact List.mem_cons_self
    · exact List.mem_cons_of_mem _ (List.mem_cons_of_mem _ h)
theorem minL_le : ∀ (r : List Int) (n : Int), ∀ y ∈ n :: r, minL n r ≤ y
  | [], n, y, h => by
    rcases List.mem_cons.mp h with e | h
    · rw [e]; exact Int.le_refl _
    · cases h
  | z :: r, n, y, h => by
    have ih := minL_le r (if z < n then z else n)
    show minL (if z < n then z else n) r ≤ y
    have h0 := ih _ List.mem_cons_self
    have h1 : (if z < n then z else n) ≤ n := by split <;> omega
    have h2 : (if z < n then z else n) ≤ z := by split <;> omega
    rcases List.mem_cons.mp h with e | h
    · rw [e]
      exact Int.le_trans h0 h1
    · rcases List.mem_cons.mp h with e | h
      · rw [e]
        exact Int.le_trans h0 h2
      · exact ih y (List.mem_cons_of_mem _ h)

/-! ### calls of built-ins -/
def RCD (K : PySem.W.Frag) (r : List V → Hp → VK → Prop) (p : List PyData → Option PyData) : Prop :=
  ∀ vs F H ds z (Q : VK), Ex F H → DvAll K F vs ds → p ds = some z → (∀ v F' H', Grow F H F' H' → Dv K F' v z → Q v H') → r vs H Q
section
variable {X : Cx} {env : List DV.Slot} {a b e : Expr} {es : List Expr} {pos p : Pos} {ma mb m : Option PyData} {ms : Option (List PyData)} {x : Str}
theorem de_callB {id : String} {r : List V → Hp → VK → Prop} {f : List PyData → Option PyData} (hc : CallR X (.builtin id) r) (hf : RCD X.K r f) (hg : Gl X x) (hm : X.mg x = none) (hv : bootBuiltins x = some (.builtin id)) (ha : DA X (e :: es) env ms)
    (hn : x ≠ "__name__" := by decide) (hdb : (x == ("__debug__" : Str)) = false := by decide) (he : starEach (e :: es) X.env = (false, eval e X.env) :: starEach es X.env := by rfl) (hpl : (backTo pos (starEach es X.env)).any (·.1) = false := by rfl) :
    DE X (.Call (.Name x p) (e :: es) [] pos) env (ms.bind f) := PE.mono (pe_callB hc hg hm hv ha hn hdb he hpl) fun σ H Q ⟨F0, H0, F, d, o, em, q⟩ => by
  obtain ⟨ds, hds, em⟩ := Option.bind_eq_some_iff.mp em
  exact ⟨F0, H0, F, ds, o, hds, fun vs F1 H1 g1 h1 => hf vs F1 H1 ds d Q g1.sub h1 em fun v F2 H2 g2 h2 => q v F2 H2 (g1.trans g2) h2⟩
theorem de_callTy {T : String} {r : List V → Hp → VK → Prop} {f : List PyData → Option PyData} (hc : CallR X (.type T) r) (hf : RCD X.K r f) (hg : Gl X x) (hm : X.mg x = none) (hv : bootBuiltins x = some (.type T)) (ha : DA X (e :: es) env ms)
    (hn : x ≠ "__name__" := by decide) (hdb : (x == ("__debug__" : Str)) = false := by decide) (he : starEach (e :: es) X.env = (false, eval e X.env) :: starEach es X.env := by rfl) (hpl : (backTo pos (starEach es X.env)).any (·.1) = false := by rfl) :
    DE X (.Call (.Name x p) (e :: es) [] pos) env (ms.bind f) := PE.mono (pe_callTy hc hg hm hv ha hn hdb he hpl) fun σ H Q ⟨F0, H0, F, d, o, em, q⟩ => by
  obtain ⟨ds, hds, em⟩ := Option.bind_eq_some_iff.mp em
  exact ⟨F0, H0, F, ds, o, hds, fun vs F1 H1 g1 h1 => hf vs F1 H1 ds d Q g1.sub h1 em fun v F2 H2 g2 h2 => q v F2 H2 (g1.trans g2) h2⟩
end
section
variable {K : PySem.W.Frag}
def pLen : List PyData → Option PyData
  | [.list ds] => some (.int (ds.length : Nat))
  | [.tuple ds] => some (.int (ds.length : Nat))
  | [.dict kvs] => some (.int (kvs.length : Nat))
  | [.str z] => if szOk z.length then some (.int (z.length : Nat)) else none
  | _ => none
/-- one argument -/
theorem one_of {F : Hp} {vs : List V} {d : PyData} (h : DvAll K F vs [d]) : ∃ v, vs = [v] ∧ Dv K F v d := by
  cases h with
  | cons h1 t =>
    cases t
    exact ⟨_, rfl, h1⟩
theorem two_of {F : Hp} {vs : List V} {d e : PyData} (h : DvAll K F vs [d, e]) : ∃ v u, vs = [v, u] ∧ Dv K F v d ∧ Dv K F u e := by
  cases h with
  | cons h1 t =>
    cases t with
    | cons h2 t =>
      cases t
      exact ⟨_, _, rfl, h1, h2⟩
def rLenA (K : PySem.W.Frag) : List V → Hp → VK → Prop := fun xs H Q => (∃ p ys, xs = [.ref p] ∧ (SqL K H p ys ∨ SqT K H p ys) ∧ Q (.int ys.length) H) ∨ (∃ z, xs = [.str z] ∧ z.length ≤ sizeLine ∧ Q (.int z.length) H)
theorem call_lenA {X : Cx} : CallR X (.builtin "len") (rLenA X.K) := CallR.or call_len_seq call_len_str
theorem rc_len : RCD K (rLenA K) pLen := by
  intro vs F H ds z Q s hd hp q
  match ds, hp with
  | [.list es], hp =>
    cases hp
    obtain ⟨v, rfl, h⟩ := one_of hd
    cases h with
    | lst h1 a1 =>
      rw [← dvAll_len a1] at q
      exact .inl ⟨_, _, rfl, .inl (sq_of (s _ _ h1)), q _ F H (Grow.refl s) (.int _)⟩
  | [.tuple es], hp =>
    cases hp
    obtain ⟨v, rfl, h⟩ := one_of hd
    cases h with
    | tup h1 o1 a1 =>
      rw [← dvAll_len a1] at q
      exact .inl ⟨_, _, rfl, .inr (ex_t s (dv_sqT h1)), q _ F H (Grow.refl s) (.int _)⟩
  | [.dict kvs], hp =>
    cases hp
    obtain ⟨v, rfl, h⟩ := one_of hd
    cases h with
    | scr h1 =>
      rename_i a ns
      rw [List.length_map, ← List.length_map (f := V.int)] at q
      exact .inl ⟨_, _, rfl, .inl (ex_l s h1), q _ F H (Grow.refl s) (.int _)⟩
  | [.str x], hp =>
    have hp : (if szOk x.length then some (PyData.int (x.length : Nat)) else none) = some z := hp
    split at hp
    · rename_i hz
      cases hp
      obtain ⟨v, rfl, h⟩ := one_of hd
      rw [dv_str h]
      exact .inr ⟨x, rfl, hz.line, q _ F H (Grow.refl s) (.int _)⟩
    · cases hp
  | [.none], hp => cases hp
  | [.bool _], hp => cases hp
  | [.int _], hp => cases hp
  | [], hp => cases hp
  | _ :: _ :: _, hp => simp [pLen] at hp
def pAbs : List PyData → Option PyData
  | [.int i] => some (.int (if i < 0 then -i else i))
  | _ => none
theorem rc_abs : RCD K (fun xs H Q => ∃ i, xs = [.int i] ∧ Q (.int (if i < 0 then -i else i)) H) pAbs := by
  intro vs F H ds z Q s hd hp q
  unfold pAbs at hp
  split at hp
  · cases hp
    obtain ⟨v, rfl, h⟩ := one_of hd
    rw [dv_int h]
    exact ⟨_, rfl, q _ F H (Grow.refl s) (.int _)⟩
  · cases hp
def pInt : List PyData → Option PyData
  | [.int i] => some (.int i)
  | [.bool b] => some (.int (if b then 1 else 0))
  | _ => none
theorem rc_int : RCD K (fun xs H Q => (∃ i, xs = [.int i] ∧ Q (.int i) H) ∨ ∃ k, xs = [.bl k] ∧ Q (.int (if k then 1 else 0)) H) pInt := by
  intro vs F H ds z Q s hd hp q
  unfold pInt at hp
  split at hp
  · cases hp
    obtain ⟨v, rfl, h⟩ := one_of hd
    rw [dv_int h]
    exact .inl ⟨_, rfl, q _ F H (Grow.refl s) (.int _)⟩
  · cases hp
    obtain ⟨v, rfl, h⟩ := one_of hd
    rw [dv_bool h]
    exact .inr ⟨_, rfl, q _ F H (Grow.refl s) (.int _)⟩
  · cases hp
def pTuple : List PyData → Option PyData
  | [.list ds] => some (.tuple ds)
  | [.tuple ds] => some (.tuple ds)
  | _ => none
theorem rc_tuple : RCD K (rTupOf K) pTuple := by
  intro vs F H ds z Q s hd hp q
  unfold pTuple at hp
  split at hp
  · cases hp
    obtain ⟨v, rfl, h⟩ := one_of hd
    cases h with
    | lst h1 a1 => exact ⟨_, _, rfl, .inl ⟨sq_of (s _ _ h1), newT_dv s a1 q⟩⟩
  · cases hp
    obtain ⟨v, rfl, h⟩ := one_of hd
    cases h with
    | tup h1 o1 a1 => exact ⟨_, _, rfl, .inr ⟨ex_t s (dv_sqT h1), q _ F H (Grow.refl s) (.tup h1 o1 a1)⟩⟩
  · cases hp
def pList : List PyData → Option PyData
  | [.list ds] => some (.list ds)
  | [.tuple ds] => some (.list ds)
  | _ => none
def rListOf (K : PySem.W.Frag) : List V → Hp → VK → Prop := fun xs H Q => ∃ p ys, xs = [.ref p] ∧ (SqL K H p ys ∨ SqT K H p ys) ∧ ∀ l, H l = none → Q (.ref l) (upd H l (.lst ys))
theorem call_listA {X : Cx} : CallR X (.type "list") (rListOf X.K) := call_list_of
theorem rc_list : RCD K (rListOf K) pList := by
  intro vs F H ds z Q s hd hp q
  unfold pList at hp
  split at hp
  · cases hp
    obtain ⟨v, rfl, h⟩ := one_of hd
    cases h with
    | lst h1 a1 => exact ⟨_, _, rfl, .inl (sq_of (s _ _ h1)), newL_dv s a1 q⟩
  · cases hp
    obtain ⟨v, rfl, h⟩ := one_of hd
    cases h with
    | tup h1 o1 a1 => exact ⟨_, _, rfl, .inr (ex_t s (dv_sqT h1)), newL_dv s a1 q⟩
  · cases hp
def pSorted : List PyData → Option PyData
  | [.list ds] => (intsOf ds).map fun ns => .list ((sortI ns).map .int)
  | [.tuple ds] => (intsOf ds).map fun ns => .list ((sortI ns).map .int)
  | _ => none
def rSortA (K : PySem.W.Frag) : List V → Hp → VK → Prop := fun xs H Q => rSortedI K xs H Q ∨ rSortedIT K xs H Q
theorem call_sortA {X : Cx} : CallR X (.builtin "sorted") (rSortA X.K) := CallR.or cr_sortedI cr_sortedIT
theorem rc_sorted : RCD K (rSortA K) pSorted := by
  intro vs F H ds z Q s hd hp q
  unfold pSorted at hp
  split at hp
  · rename_i es
    cases hi : intsOf es with
    | none => rw [hi] at hp; cases hp
    | some ns =>
      rw [hi] at hp
      cases hp
      obtain ⟨v, rfl, h⟩ := one_of hd
      cases h with
      | lst h1 a1 =>
        have e := intsOf_some hi
        subst e
        have e2 := dvAll_ints_of a1
        subst e2
        refine .inl ⟨_, ns, rfl, sq_of (s _ _ h1), fun ns' p hp hs hn => ?_⟩
        rw [sortI_eq hp hs]
        exact newL_dv s (dvAll_ints _) q p hn
  · rename_i es
    cases hi : intsOf es with
    | none => rw [hi] at hp; cases hp
    | some ns =>
      rw [hi] at hp
      cases hp
      obtain ⟨v, rfl, h⟩ := one_of hd
      cases h with
      | tup h1 o1 a1 =>
        have e := intsOf_some hi
        subst e
        have e2 := dvAll_ints_of a1
        subst e2
        refine .inr ⟨_, ns, rfl, ex_t s (dv_sqT h1), fun ns' p hp hs hn => ?_⟩
        rw [sortI_eq hp hs]
        exact newL_dv s (dvAll_ints _) q p hn
  · cases hp
def pSum : List PyData → Option PyData
  | [.list ds] => (intsOf ds).map fun ns => .int ns.sum
  | [.tuple ds] => (intsOf ds).map fun ns => .int ns.sum
  | _ => none
def rSumA (K : PySem.W.Frag) : List V → Hp → VK → Prop := fun xs H Q => rSum K xs H Q ∨ rSumT K xs H Q
theorem call_sumA {X : Cx} (hc : X.calm = true) : CallR X (.builtin "sum") (rSumA X.K) := CallR.or (cr_sum hc) (cr_sumT hc)
theorem rc_sum : RCD K (rSumA K) pSum := by
  intro vs F H ds z Q s hd hp q
  unfold pSum at hp
  split at hp
  · rename_i es
    cases hi : intsOf es with
    | none => rw [hi] at hp; cases hp
    | some ns =>
      rw [hi] at hp
      cases hp
      obtain ⟨v, rfl, h⟩ := one_of hd
      cases h with
      | lst h1 a1 =>
        have e := intsOf_some hi
        subst e
        have e2 := dvAll_ints_of a1
        subst e2
        exact .inl ⟨_, ns, rfl, sq_of (s _ _ h1), q _ F H (Grow.refl s) (.int _)⟩
  · rename_i es
    cases hi : intsOf es with
    | none => rw [hi] at hp; cases hp
    | some ns =>
      rw [hi] at hp
      cases hp
      obtain ⟨v, rfl, h⟩ := one_of hd
      cases h with
      | tup h1 o1 a1 =>
        have e := intsOf_some hi
        subst e
        have e2 := dvAll_ints_of a1
        subst e2
        exact .inr ⟨_, ns, rfl, ex_t s (dv_sqT h1), q _ F H (Grow.refl s) (.int _)⟩
  · cases hp
def pAll : List PyData → Option PyData
  | [.list ds] => (bolsOf ds).map fun bs => .bool (bs.all id)
  | _ => none
theorem rc_all : RCD K (rAll K) pAll := by
  intro vs F H ds z Q s hd hp q
  unfold pAll at hp
  split at hp
  · rename_i es
    cases hi : bolsOf es with
    | none => rw [hi] at hp; cases hp
    | some ns =>
      rw [hi] at hp
      cases hp
      obtain ⟨v, rfl, h⟩ := one_of hd
      cases h with
      | lst h1 a1 =>
        have e := bolsOf_some hi
        subst e
        have e2 := dvAll_bls_of a1
        subst e2
        exact ⟨_, ns, rfl, sq_of (s _ _ h1), q _ F H (Grow.refl s) (.bl _)⟩
  · cases hp
def pMin : List PyData → Option PyData
  | [.int i, .int j] => some (.int (if j < i then j else i))
  | [.list ds] => (intsOf ds).bind fun ns => match ns with
    | [] => none
    | n :: r => some (.int (minL n r))
  | _ => none
def rMinA (K : PySem.W.Frag) : List V → Hp → VK → Prop := fun xs H Q => (∃ i j, xs = [.int i, .int j] ∧ Q (.int (if j < i then j else i)) H) ∨ rMin K xs H Q
theorem call_minA {X : Cx} (hc : X.calm = true) : CallR X (.builtin "min") (rMinA X.K) := CallR.or (call_min2 hc) (cr_min hc)
theorem rc_min : RCD K (rMinA K) pMin := by
  intro vs F H ds z Q s hd hp q
  unfold pMin at hp
  split at hp
  · cases hp
    obtain ⟨v, u, rfl, h1, h2⟩ := two_of hd
    rw [dv_int h1, dv_int h2]
    exact .inl ⟨_, _, rfl, q _ F H (Grow.refl s) (.int _)⟩
  · rename_i es
    obtain ⟨ns, hi, hp⟩ := Option.bind_eq_some_iff.mp hp
    cases ns with
    | nil => cases hp
    | cons n r =>
      cases hp
      obtain ⟨v, rfl, h⟩ := one_of hd
      cases h with
      | lst h1 a1 =>
        have e := intsOf_some hi
        subst e
        have e2 := dvAll_ints_of a1
        subst e2
        refine .inr ⟨_, n :: r, rfl, sq_of (s _ _ h1), by simp, fun m hm hle => ?_⟩
        have : m = minL n r := Int.le_antisymm (hle _ (minL_mem r n)) (minL_le r n m hm)
        rw [this]
        exact q _ F H (Grow.refl s) (.int _)
  · cases hp
def pMax : List PyData → Option PyData
  | [.int i, .int j] => some (.int (if j > i then j else i))
  | _ => none
theorem rc_max : RCD K (fun xs H Q => ∃ i j, xs = [.int i, .int j] ∧ Q (.int (if j > i then j else i)) H) pMax := by
  intro vs F H ds z Q s hd hp q
  unfold pMax at hp
  split at hp
  · cases hp
    obtain ⟨v, u, rfl, h1, h2⟩ := two_of hd
    rw [dv_int h1, dv_int h2]
    exact ⟨_, _, rfl, q _ F H (Grow.refl s) (.int _)⟩
  · cases hp
end

def pLenSet : PyData → Option PyData
  | .tuple ds => (intsOf ds).bind fun ns => if ns.length ≤ 1000 then some (.int ((ns.foldl (fun acc n => if n ∈ acc then acc else acc ++ [n]) []).length : Nat)) else none
  | _ => none
def rg3D (a b c : Int) : List PyData := (List.range ((a - b).toNat)).map fun i => .int (a - ((i : Nat) : Int))
def tupleRg3 : List PyData → Option PyData
  | [.int a, .int b, .int c] => if c = -1 ∧ -1000 ≤ a ∧ a ≤ 1000 ∧ -1000 ≤ b ∧ b ≤ 1000 then some (.tuple (rg3D a b c)) else none
  | _ => none
/-! ### isinstance -/
def tyN : PyData → Option String
  | .none => some "NoneType"
  | .bool _ => some "bool"
  | .int _ => some "int"
  | .str _ => some "str"
  | .list _ => some "list"
  | .tuple _ => some "tuple"
  | .dict _ => none
def pIsI (T : String) (d : PyData) : Option PyData := (tyN d).bind fun a => (kitB a T).map .bool
theorem tyX_of {K : PySem.W.Frag} {F : Hp} {v : V} {d : PyData} {n : String} (h : Dv K F v d) (e : tyN d = some n) : TyX K F v (.type n) := by
  cases h with
  | non => cases e; exact .base .non
  | bl b => cases e; exact .base (.bl b)
  | int i => cases e; exact .base (.int i)
  | str x => cases e; exact .base (.str x)
  | lst h1 _ => cases e; exact .base (.lst h1)
  | tup h1 _ _ => cases e; exact .fTuple h1
  | scr _ => cases e
section
variable {X : Cx} {env : List DV.Slot} {a b e : Expr} {es : List Expr} {pos p p2 : Pos} {ma mb m : Option PyData} {ms : Option (List PyData)} {x : Str}
theorem de_isi {T : Str} {n : String} (hg : Gl X "isinstance") (hm : X.mg "isinstance" = none) (hgT : Gl X T) (hmT : X.mg T = none) (hv : bootBuiltins T = some (.type n)) (ha : DE X a env ma)
    (hnT : T ≠ "__name__" := by decide) (hdT : (T == ("__debug__" : Str)) = false := by decide)
    (hs1 : starEach [a, .Name T p2] X.env = (false, eval a X.env) :: starEach [.Name T p2] X.env := by rfl) (hs2 : starEach [.Name T p2] X.env = (false, eval (.Name T p2) X.env) :: starEach [] X.env := by rfl) (hpl : (backTo pos (starEach [.Name T p2] X.env)).any (·.1) = false := by rfl) :
    DE X (.Call (.Name "isinstance" p) [a, .Name T p2] [] pos) env (ma.bind (pIsI n)) :=
  PE.mono (pe_callB call_isi hg hm (by decide +kernel) (pa_cons ha (pa_cons (pe_bltn (v := .ty n) hgT hmT hv rfl hnT hdT) pa_nil hs2) hs1) (by decide) (by decide) hs1 hpl) fun σ H Q ⟨F0, H0, F, d, o, em, q⟩ => by
    obtain ⟨y, hy, em⟩ := Option.bind_eq_some_iff.mp em
    obtain ⟨t, ht, em⟩ := Option.bind_eq_some_iff.mp em
    refine ⟨F0, H0, F, y, o, hy, fun v F1 H1 g1 h1 => ?_⟩
    cases hk : kitB t n with
    | none => rw [hk] at em; cases em
    | some b =>
      rw [hk] at em
      cases em
      exact ⟨v, .ty n, .type t, .type n, b, rfl, .ty n, tyX_of (dv_mono g1.sub h1) ht, kit_ty hk, q _ F1 H1 g1 (.bl b)⟩
/-! ### tuple(range(..)), list(range(..)) -/
def rgD (a b : Int) : List PyData := intsUp a (b - a).toNat
theorem rg_dv {K : PySem.W.Frag} {F : Hp} (a b : Int) : DvAll K F (rgV a b) (rgD a b) := by
  unfold rgV rgD intsUp
  generalize List.range (b - a).toNat = l
  induction l with
  | nil => exact .nil
  | cons i r ih => exact .cons (.int _) ih
def tDR2 (K : PySem.W.Frag) (env : List DV.Slot) (m : Option (Int × Int)) : L2.St → Hp → (Int → Int → Hp → Prop) → Prop := fun σ H Q => ∃ F0 H0 F ab, EOk K F0 H0 σ F H env ∧ m = some ab ∧ ∀ F' H', Grow F H F' H' → Q ab.1 ab.2 H'
abbrev DRg (X : Cx) (e : Expr) (env : List DV.Slot) (m : Option (Int × Int)) : Prop := PRg X e (tDR2 X.K env m)
theorem PRg.mono {e : Expr} {t t' : L2.St → Hp → (Int → Int → Hp → Prop) → Prop} (h : PRg X e t) (k : ∀ σ H Q, t' σ H Q → t σ H Q) : PRg X e t' := fun pins s σ H Q I q => h pins s σ H Q I (k σ H Q q)
theorem drg_1 (hg : Gl X "range") (hm : X.mg "range" = none) (ha : DE X a env ma) (na : starEach [a] X.env = (false, eval a X.env) :: starEach [] X.env := by rfl) : DRg X (.Call (.Name "range" p) [a] [] pos) env (ma.bind fun d => (asI d).map fun i => (0, i)) :=
  PRg.mono (prg_1 hg hm ha na) fun σ H Q ⟨F0, H0, F, ab, o, em, q⟩ => by
    obtain ⟨y, hy, em⟩ := Option.bind_eq_some_iff.mp em
    cases hi : asI y with
    | none => rw [hi] at em; cases em
    | some i =>
      rw [hi] at em
      cases em
      have e := asI_some hi
      subst e
      exact ⟨F0, H0, F, _, o, hy, fun v F1 H1 g1 h1 => ⟨i, dv_int h1, q F1 H1 g1⟩⟩
theorem drg_2 (hg : Gl X "range") (hm : X.mg "range" = none) (ha : DE X a env ma) (hb : DE X b env mb) (na : starEach [a, b] X.env = (false, eval a X.env) :: starEach [b] X.env := by rfl)
    (nb : starEach [b] X.env = (false, eval b X.env) :: starEach [] X.env := by rfl) (hp : (backTo pos (starEach [b] X.env)).any (·.1) = false := by rfl) : DRg X (.Call (.Name "range" p) [a, b] [] pos) env (ma.bind fun d => mb.bind fun e => (asI d).bind fun i => (asI e).map fun j => (i, j)) :=
  PRg.mono (prg_2 hg hm ha hb na nb hp) fun σ H Q ⟨F0, H0, F, ab, o, em, q⟩ => by
    obtain ⟨y, hy, em⟩ := Option.bind_eq_some_iff.mp em
    obtain ⟨z, hz, em⟩ := Option.bind_eq_some_iff.mp em
    obtain ⟨i, hi, em⟩ := Option.bind_eq_some_iff.mp em
    cases hj : asI z with
    | none => rw [hj] at em; cases em
    | some j =>
      rw [hj] at em
      cases em
      have e := asI_some hi
      subst e
      have e := asI_some hj
      subst e
      exact ⟨F0, H0, F, _, o, hy, fun v F1 H1 g1 h1 => ⟨F0, H0, F1, _, o.grow g1, hz, fun u F2 H2 g2 h2 => ⟨i, j, dv_int h1, dv_int h2, q F2 H2 (g1.trans g2)⟩⟩⟩
def rgSmall (ab : Int × Int) : Prop := -100000 ≤ ab.1 ∧ ab.1 ≤ 100000 ∧ -100000 ≤ ab.2 ∧ ab.2 ≤ 100000
instance (ab : Int × Int) : Decidable (rgSmall ab) := inferInstanceAs (Decidable (_ ∧ _ ∧ _ ∧ _))
theorem rgSmall.ok {ab : Int × Int} (h : rgSmall ab) : RgOk ab.1 ab.2 := by
  obtain ⟨h1, h2, h3, h4⟩ := h
  exact ⟨by omega, by omega, by omega, by omega, by omega⟩
theorem de_tupRg {mr : Option (Int × Int)} (hc : X.calm = true) (hg : Gl X "tuple") (hm : X.mg "tuple" = none) (he : DRg X e env mr) (na : starEach [e] X.env = (false, eval e X.env) :: starEach [] X.env := by rfl) :
    DE X (.Call (.Name "tuple" p) [e] [] pos) env (mr.bind fun ab => if rgSmall ab then some (.tuple (rgD ab.1 ab.2)) else none) :=
  PE.mono (pe_tupRgK hc hg hm he na) fun σ H Q ⟨F0, H0, F, d, o, em, q⟩ => by
    obtain ⟨ab, hab, em⟩ := Option.bind_eq_some_iff.mp em
    split at em
    · rename_i hs
      cases em
      exact ⟨F0, H0, F, ab, o, hab, fun F1 H1 g1 => ⟨hs.ok, newT_dv g1.sub (rg_dv _ _) fun v F2 H2 g2 h2 => q v F2 H2 (g1.trans g2) h2⟩⟩
    · cases em
theorem de_lstRg {mr : Option (Int × Int)} (hc : X.calm = true) (hg : Gl X "list") (hm : X.mg "list" = none) (he : DRg X e env mr) (na : starEach [e] X.env = (false, eval e X.env) :: starEach [] X.env := by rfl) :
    DE X (.Call (.Name "list" p) [e] [] pos) env (mr.bind fun ab => if rgSmall ab then some (.list (rgD ab.1 ab.2)) else none) :=
  PE.mono (pe_listRg hc hg hm he na) fun σ H Q ⟨F0, H0, F, d, o, em, q⟩ => by
    obtain ⟨ab, hab, em⟩ := Option.bind_eq_some_iff.mp em
    split at em
    · rename_i hs
      cases em
      exact ⟨F0, H0, F, ab, o, hab, fun F1 H1 g1 => ⟨hs.ok, newL_dv g1.sub (rg_dv _ _) fun v F2 H2 g2 h2 => q v F2 H2 (g1.trans g2) h2⟩⟩
    · cases em
/-! ### t.index(x) -/
def firstIx (d : PyData) : List PyData → Option Nat
  | [] => none
  | z :: r => if PyData.eqv z d = true then some 0 else (firstIx d r).map (· + 1)
theorem firstIx_some {d : PyData} : ∀ {ds : List PyData} {j : Nat}, firstIx d ds = some j → (∃ z, ds[j]? = some z ∧ PyData.eqv z d = true) ∧ ∀ (m : Nat) (z' : PyData), m < j → ds[m]? = some z' → PyData.eqv z' d = false
  | [], _, h => by cases h
  | z :: r, j, h => by
    unfold firstIx at h
    split at h
    · rename_i c
      cases h
      exact ⟨⟨z, rfl, c⟩, fun m z' hm => absurd hm (Nat.not_lt_zero m)⟩
    · rename_i c
      cases hr : firstIx d r with
      | none => rw [hr] at h; cases h
      | some k =>
        rw [hr] at h
        cases h
        obtain ⟨⟨y, h1, h2⟩, h3⟩ := firstIx_some hr
        refine ⟨⟨y, by simpa using h1, h2⟩, fun m z' hm hz => ?_⟩
        cases m with
        | zero =>
          simp at hz
          subst hz
          simpa using c
        | succ m => exact h3 m z' (Nat.lt_of_succ_lt_succ hm) (by simpa using hz)
def pIndex (t : PyData) (d : PyData) : Option PyData := match t with
  | .tuple ds => if SeqAt.shaped (.tuple ds) = true ∧ SeqAt.shaped d = true then (firstIx d ds).map fun j => .int ((j : Nat) : Int) else none
  | _ => none
theorem de_index {o : Expr} {apos : Pos} {mo : Option PyData} (hu : X.A.units + 65 < cLine) (ho : DE X o env mo) (he : DE X e env m)
    (hbase : attributeBase o "index" X.env (eval o X.env) = eval o X.env := by rfl)
    (hfew : ((backTo pos (starEach [e] X.env)).all (fun x => !x.1) && (backToKw pos (keywordEach [] X.env)).all (fun x => x.1.isSome)
      && decide ([e].length + ([] : List Keyword).length + (if ([] : List Keyword).isEmpty then 0 else 1) < 30)) = true := by rfl)
    (hline : (apos.endLine == pos.line) = true := by rfl) (hs : starEach [e] X.env = (false, eval e X.env) :: starEach [] X.env := by rfl) (hplain : (backTo pos (starEach [] X.env)).any (·.1) = false := by rfl) :
    DE X (.Call (.Attribute o "index" apos) [e] [] pos) env (mo.bind fun t => m.bind fun d => pIndex t d) :=
  PE.mono (pe_bmT PySem.F.plainAttrs_tuple PySem.F.slot_tuple_index PySem.F.type_tuple_index (mt_indexT hu) ho (pa_cons he pa_nil hs) hbase hfew hline hs hplain) fun σ H Q ⟨F0, H0, F, d, ok, em, q⟩ => by
    obtain ⟨t, ht, em⟩ := Option.bind_eq_some_iff.mp em
    obtain ⟨y, hy, em⟩ := Option.bind_eq_some_iff.mp em
    refine ⟨F0, H0, F, t, ok, ht, fun v F1 H1 g1 h1 => ?_⟩
    cases t with
    | tuple ds =>
      have em : (if SeqAt.shaped (.tuple ds) = true ∧ SeqAt.shaped y = true then (firstIx y ds).map fun j => PyData.int ((j : Nat) : Int) else none) = some d := em
      split at em
      · rename_i c
        cases hj : firstIx y ds with
        | none => rw [hj] at em; cases em
        | some j =>
          rw [hj] at em
          cases em
          cases h1 with
          | tup hs ho hd =>
            rename_i a ob xs
            refine ⟨⟨a, ob, xs, rfl, g1.sub _ _ hs, ho⟩, ?_⟩
            refine ⟨F0, H0, F1, y, ok.grow g1, hy, fun u F2 H2 g2 h2 => ?_⟩
            obtain ⟨⟨z, z1, z2⟩, z3⟩ := firstIx_some hj
            have hxs := SeqAt.canLay_of_shaped c.1
            exact ⟨a, ob, xs, u, y, ds, j, z, rfl, rfl, g2.sub _ _ (g2.ff _ _ hs), ho, dvAll_dp (dvAll_mono (g2.ff.trans g2.sub) hd) (by simpa [PyData.canLay0] using hxs), dv_dp (dv_mono g2.sub h2) (SeqAt.canLay_of_shaped c.2), c.1, c.2, z1, z2, z3, q _ F2 H2 (g1.trans g2) (.int _)⟩
      · cases em
    | _ => cases em
/-! ### a def's promise -/
def spD (K : PySem.W.Frag) (n : Nat) (f : List PyData → Option PyData) : Sp := fun vs H Q _ => ∃ F ds d, vs.length = n ∧ Ex F H ∧ DvAll K F vs ds ∧ f ds = some d ∧ ∀ v F' H', Grow F H F' H' → Dv K F' v d → Q v H'
theorem de_call {CX : CXT} {E : XK} {k n : Nat} {f : Addr} {fd : FuncData} {ps : List Str} {fm : List PyData → Option PyData} (G : FnOk X.prog X.w X.K X.mg X.base CX k f fd ps (spD X.K n fm)) (hr : Room k X.A) (hg : Gl X x) (hm : X.mg x = some (.ref f)) (hk : PySem.W.keepIn X.K (.ref f) = true) (hb : Binds X.K fd ps [])
    (hx : Passes CX X E) (hlen : ∀ ds d, fm ds = some d → ds.length = n) (ha : DA X (e :: es) env ms) (hdb : (x == ("__debug__" : Str)) = false := by decide) (he : starEach (e :: es) X.env = (false, eval e X.env) :: starEach es X.env := by rfl) (hpl : (backTo pos (starEach es X.env)).any (·.1) = false := by rfl) :
    DE X (.Call (.Name x p) (e :: es) [] pos) env (ms.bind fm) := PE.mono (pe_call G hr hg hm hk hb .nil hx ha hdb he hpl) fun σ H Q ⟨F0, H0, F, d, o, em, q⟩ => by
  obtain ⟨ds, hds, em⟩ := Option.bind_eq_some_iff.mp em
  refine ⟨F0, H0, F, ds, o, hds, fun vs F1 H1 g1 h1 => ?_⟩
  show spD X.K n fm (vs ++ []) H1 Q E
  rw [List.append_nil]
  exact ⟨F1, ds, d, by rw [dvAll_len h1]; exact hlen ds d em, g1.sub, h1, em, fun v F2 H2 g2 h2 => q v F2 H2 (g1.trans g2) h2⟩
def ap1 (g : PyData → Option PyData) : List PyData → Option PyData
  | [a] => g a
  | _ => none
def ap2 (g : PyData → PyData → Option PyData) : List PyData → Option PyData
  | [a, b] => g a b
  | _ => none
def ap3 (g : PyData → PyData → PyData → Option PyData) : List PyData → Option PyData
  | [a, b, c] => g a b c
  | _ => none
def ap4 (g : PyData → PyData → PyData → PyData → Option PyData) : List PyData → Option PyData
  | [a, b, c, d] => g a b c d
  | _ => none
theorem ap1_len {g : PyData → Option PyData} (ds : List PyData) (d : PyData) (h : ap1 g ds = some d) : ds.length = 1 := by
  unfold ap1 at h
  split at h
  · rfl
  · cases h
theorem ap2_len {g : PyData → PyData → Option PyData} (ds : List PyData) (d : PyData) (h : ap2 g ds = some d) : ds.length = 2 := by
  unfold ap2 at h
  split at h
  · rfl
  · cases h
theorem ap3_len {g : PyData → PyData → PyData → Option PyData} (ds : List PyData) (d : PyData) (h : ap3 g ds = some d) : ds.length = 3 := by
  unfold ap3 at h
  split at h
  · rfl
  · cases h
theorem ap4_len {g : PyData → PyData → PyData → PyData → Option PyData} (ds : List PyData) (d : PyData) (h : ap4 g ds = some d) : ds.length = 4 := by
  unfold ap4 at h
  split at h
  · rfl
  · cases h
end
/-! ### a def's body -/
def env0 (n k : Nat) (ds : List PyData) : List DV.Slot := ds.map .im ++ List.replicate k .any
theorem start_ok {K : PySem.W.Frag} {N : List Str} {F H : Hp} {vs : List V} {ds : List PyData} (s : Ex F H) (h : DvAll K F vs ds) (hn : vs.length ≤ N.length) : EOk K F H (L2.start N vs) F H (env0 ds.length (N.length - ds.length) ds) := by
  have hl := dvAll_len h
  refine ⟨Grow.refl s, ?_, fun i sl e => ?_, fun i j sl t a ne e1 e2 o1 o2 => ?_⟩
  · unfold L2.start env0
    rw [List.length_append, List.length_append, List.length_map, List.length_map, List.length_replicate, List.length_replicate, hl]
  · unfold env0 at e
    by_cases hi : i < ds.length
    · rw [List.getElem?_append_left (by rw [List.length_map]; exact hi), List.getElem?_map, List.getElem?_eq_getElem hi] at e
      cases e
      obtain ⟨v, hv, dv⟩ := dvAll_get h (List.getElem?_eq_getElem hi)
      refine ⟨v, ?_, dv⟩
      unfold L2.start
      rw [List.getElem?_append_left (by rw [List.length_map, hl]; exact hi), List.getElem?_map, hv]
      rfl
    · rw [List.getElem?_append_right (by rw [List.length_map]; omega)] at e
      have : sl = .any := by
        have := List.mem_of_getElem? e
        exact (List.mem_replicate.mp this).2
      subst this
      trivial
  · unfold env0 at e1
    have := List.mem_of_getElem? e1
    rcases List.mem_append.mp this with h | h
    · obtain ⟨d, _, rfl⟩ := List.mem_map.mp h
      cases o1
    · rw [(List.mem_replicate.mp h).2] at o1
      cases o1
section
variable {P : Program} {w : World} {K : PySem.W.Frag} {mg : Str → Option Value} {base : Heap}
theorem fn_ok {x qual : Str} {st : Stmt} {f : Addr} {fd : FuncData} {N ps : List Str} {k n : Nat} {fm : List PyData → Option PyData} (G : Fun K x qual st f fd) (S : FnScope N ps (defScope st)) (hn : ps.length = n) (hN : n ≤ N.length) (hlen : ∀ ds d, fm ds = some d → ds.length = n)
    (hb : ∀ (cdv : Value) (A : Around) (outer : List Env) (s : Shared) (H : Hp) (E : XK) (ds : List PyData), Room k (A.deeper (envOfC qual (defScope st) s.heap.objs.size f cdv)) → ds.length = n →
      DR (cxOf CX0 P w K mg base N qual (defScope st) f cdv A outer s H E).nox (defBody st) (env0 n (N.length - n) ds) (fm ds)) : FnOk P w K mg base CX0 (k + 1) f fd ps (spD K n fm) := by
  refine G.ok S (fun vs H Q E h => ?_) (fun cdv A outer s H vs Q E hr h => ?_)
  · obtain ⟨F, ds, d, h1, _⟩ := h
    rw [h1, hn]
  · obtain ⟨F, ds, d, h1, h2, h3, h4, h5⟩ := h
    have hl := hlen ds d h4
    refine ⟨_, hb cdv A outer s H E ds hr hl, ⟨F, H, F, d, ?_, h4, fun v F' H' g hv => h5 v F' H' g hv⟩⟩
    rw [← hl]
    exact start_ok h2 h3 (by omega)
end

/-! ### comprehensions -/
def compM (t : PyData → Option Bool) (f : PyData → Option PyData) : List PyData → Option (List PyData)
  | [] => some []
  | d :: r => (t d).bind fun b => if b = true then (f d).bind fun y => (compM t f r).bind fun ys => some (y :: ys) else compM t f r
theorem compM_len {t : PyData → Option Bool} {f : PyData → Option PyData} : ∀ {ds es : List PyData}, compM t f ds = some es → es.length ≤ ds.length
  | [], es, h => by
    cases h
    exact Nat.le_refl _
  | d :: r, es, h => by
    unfold compM at h
    obtain ⟨b, _, h⟩ := Option.bind_eq_some_iff.mp h
    cases b with
    | true =>
      have h : ((f d).bind fun y => (compM t f r).bind fun ys => some (y :: ys)) = some es := h
      obtain ⟨y, _, h⟩ := Option.bind_eq_some_iff.mp h
      obtain ⟨ys, hy, h⟩ := Option.bind_eq_some_iff.mp h
      cases h
      have := compM_len hy
      rw [List.length_cons, List.length_cons]
      omega
    | false =>
      have h : compM t f r = some es := h
      have := compM_len h
      rw [List.length_cons]
      omega
def compL (t : PyData → Option Bool) (f : PyData → Option PyData) (ds : List PyData) : Option PyData := if szOk ds.length then (compM t f ds).map .list else none
section
variable {X : Cx} {env : List DV.Slot} {elt iter : Expr} {ifs : List Expr} {scope : Scope} {pos px : Pos} {x : Str} {ml : Option (List PyData)} {t : PyData → Option Bool} {f : PyData → Option PyData}
theorem lc_read (j : Nat) (hj : j < env.length) {σ : L2.St} {H : Hp} {Q : VK} (h : tD X.K env (ml.bind (compL t f)) σ H Q) :
    tLc (tI X.K env ml) (gName j) (fun σ H Q => ∃ d, tDT X.K (env.set j (.im d)) (t d) σ H Q) (fun σ H Q => ∃ d, tD X.K (env.set j (.im d)) (f d) σ H Q) [j] σ H Q := by
  obtain ⟨F0, H0, F, d, ok, em, q⟩ := h
  obtain ⟨ds, hds, em⟩ := Option.bind_eq_some_iff.mp em
  unfold compL at em
  split at em
  case isFalse => cases em
  rename_i hz
  cases hcm : compM t f ds with
  | none => rw [hcm] at em; cases em
  | some res =>
  rw [hcm] at em
  cases em
  refine ⟨F0, H0, F, ds, ok, hds, fun J F1 H1 g it D hD => ?_⟩
  have ok1 := ok.grow g
  have fD : F1 D = none := fresh_back g.sub hD
  refine ⟨fun i m H' => i + m = ds.length ∧ ∃ F' acc done rest, Grow F1 H1 F' H' ∧ F' D = none ∧ H' D = some (.lst acc) ∧ DvAll X.K F' acc done ∧ done.length ≤ i ∧ compM t f (ds.drop i) = some rest ∧ done ++ rest = res,
    ⟨ds.length, by omega, F1, [], [], res, Grow.newH g.sub hD, fD, upd_same, .nil, Nat.le_refl _, hcm, rfl⟩, ?_⟩
  rintro i m H' ⟨hm, F', acc, done, rest, g', fD', hD', hacc, hdl, hc, hres⟩
  have ok' := ok1.grow g'
  by_cases hlt : i < ds.length
  · have hget : ds[i]? = some ds[i] := List.getElem?_eq_getElem hlt
    obtain ⟨hgo, hyl⟩ := it.go i _ F' H' g'.ff g'.sub hget
    rw [List.drop_eq_getElem_cons hlt] at hc
    unfold compM at hc
    obtain ⟨b, hb, hc⟩ := Option.bind_eq_some_iff.mp hc
    refine .inr ⟨hgo, fun H2 => ∃ m', m' < m ∧ (i + 1 + m' = ds.length ∧ ∃ F' acc done rest, Grow F1 H1 F' H2 ∧ F' D = none ∧ H2 D = some (.lst acc) ∧ DvAll X.K F' acc done ∧ done.length ≤ i + 1 ∧ compM t f (ds.drop (i + 1)) = some rest ∧ done ++ rest = res), fun H2 h2 => h2, fun v H2 hy => ?_⟩
    obtain ⟨F2, g2, dv⟩ := hyl v H2 hy
    have e1 : (wipe σ [j]).set j (some v) = σ.set j (some v) := by
      show (σ.set j none).set j (some v) = _
      rw [List.set_set]
    have e2 : wipe ((wipe σ [j]).set j (some v)) [j] = wipe σ [j] := by
      show (((σ.set j none).set j (some v)).set j none) = σ.set j none
      rw [List.set_set, List.set_set]
    refine ⟨e2, ?_⟩
    rw [e1]
    have ok2 : EOk X.K F0 H0 (σ.set j (some v)) F2 H2 (env.set j (.im ds[i])) := (ok'.grow g2).set dv
    refine ⟨ds[i], F0, H0, F2, b, ok2, hb, fun F3 H3 g3 => ?_⟩
    have g13 := (g'.trans g2).trans g3
    have fD3 : F3 D = none := (g2.trans g3).own D fD' (ne_none hD')
    have hD3 : H3 D = some (.lst acc) := (g2.trans g3).hh _ _ hD'
    cases b with
    | true =>
      have hc : ((f ds[i]).bind fun y => (compM t f (ds.drop (i + 1))).bind fun ys => some (y :: ys)) = some rest := hc
      obtain ⟨y, hyv, hc⟩ := Option.bind_eq_some_iff.mp hc
      obtain ⟨ys, hys, hc⟩ := Option.bind_eq_some_iff.mp hc
      cases hc
      refine ⟨ds[i], F0, H0, F3, y, ok2.grow g3, hyv, fun u F4 H4 g4 hu => ?_⟩
      have fD4 : F4 D = none := g4.own D fD3 (ne_none hD3)
      refine ⟨acc, g4.hh _ _ hD3, ?_, m - 1, by omega, by omega, F4, acc ++ [u], done ++ [y], ys, ?_, fD4, upd_same, ?_, ?_, hys, ?_⟩
      · rw [dvAll_len hacc]
        have : szOk done.length := Nat.le_trans hdl (Nat.le_trans (Nat.le_of_lt hlt) hz)
        exact this.lt
      · have g14 := g13.trans g4
        exact ⟨g14.ff, Ex.mut g14.hh hD, Ex.mut g14.sub fD4, g14.own⟩
      · exact dvAll_app (dvAll_mono ((g2.trans g3).trans g4).ff hacc) (.cons hu .nil)
      · rw [List.length_append]
        show done.length + 1 ≤ i + 1
        omega
      · rw [List.append_assoc]
        exact hres
    | false =>
      exact ⟨m - 1, by omega, by omega, F3, acc, done, rest, g13, fD3, hD3, dvAll_mono (g2.trans g3).ff hacc, by omega, hc, hres⟩
  · have e : ds.drop i = [] := List.drop_eq_nil_of_le (by omega)
    rw [e] at hc
    cases hc
    rw [List.append_nil] at hres
    subst hres
    refine .inl ⟨it.stop i F' H' g'.ff g'.sub (by omega), ?_⟩
    have ff : Ex F' (upd F' D (.lst acc)) := Ex.new fD'
    refine q _ (upd F' D (.lst acc)) H' ⟨(g.ff.trans g'.ff).trans ff, g.hh.trans g'.hh, fun b u eb => ?_, fun b hb k => ?_⟩ (.lst upd_same (dvAll_mono ff hacc))
    · by_cases hbD : b = D
      · subst hbD
        rw [upd_same] at eb
        rw [← eb]
        exact hD'
      · rw [upd_ne hbD] at eb
        exact g'.sub b u eb
    · have nb : b ≠ D := fun z => Ex.nn g.hh k (by rw [z]; exact hD)
      rw [upd_ne nb]
      exact (g.trans g').own b hb k
theorem dts_nil {env : List DV.Slot} : PTs X [] (tDT X.K env (some true)) := ⟨fun pins s σ H Q I ⟨F0, H0, F, b, o, em, q⟩ => by
  cases em
  exact pts_nil.run pins s σ H Q I (q F H (Grow.refl o.sub))⟩
theorem dts_one {env : List DV.Slot} {c : Expr} {mc : Option Bool} (h : DT X c env mc) : PTs X [c] (tDT X.K env mc) := pts_one h
theorem pts_ex {ifs : List Expr} {κ : Sort _} {t : κ → TT} (h : ∀ a, PTs X ifs (t a)) : PTs X ifs (fun σ H Q => ∃ a, t a σ H Q) := ⟨fun pins s σ H Q I ⟨a, q⟩ => (h a).run pins s σ H Q I q⟩
theorem de_lc (j : Nat) {env' : PyData → List DV.Slot} (hc : X.calm = true) (hN : X.N.Nodup) (hi : DI X (.Name x px) iter env ml) (ok : BlkOk X.N X.env.scope scope [(x, j)])
    (hg : ∀ (s : Shared) (H : Hp) (C : Addr) (cl : List (Str × Addr)) (fp : List Addr), PG (X.blk s H scope (compEnvC scope cl C X.env) fp) (.Name x px) (gName j))
    (ht : ∀ (d : PyData) (s : Shared) (H : Hp) (C : Addr) (cl : List (Str × Addr)) (fp : List Addr), PTs (X.blk s H scope (compEnvC scope cl C X.env) fp) ifs (tDT X.K (env' d) (t d)))
    (he : ∀ (d : PyData) (s : Shared) (H : Hp) (C : Addr) (cl : List (Str × Addr)) (fp : List Addr), DE (X.blk s H scope (compEnvC scope cl C X.env) fp) elt (env' d) (f d))
    (hs : ∀ d, env.set j (.im d) = env' d := by intro _; rfl) (hj : j < env.length := by exact Nat.le_of_ble_eq_true rfl) (hfs : ∀ x, foldedSetIterable iter X.env x = pure x := by intro _; rfl) :
    DE X (.ListComp elt [⟨.Name x px, iter, ifs, 0⟩] scope pos) env (ml.bind (compL t f)) := by
  have e : env' = fun d => env.set j (.im d) := funext fun d => (hs d).symm
  subst e
  exact PE.mono (pe_lc (own := [(x, j)]) hc hN hi ok hg (fun s H C cl fp => pts_ex fun d => ht d s H C cl fp) (fun s H C cl fp => pe_ex fun d => he d s H C cl fp) hfs) fun σ H Q h => lc_read j hj h
variable {β : Type} {W : Wk β} {rest : List Stmt} {spos py : Pos} {y : Str}
theorem dg_asgLc (i j : Nat) {env' env2 : PyData → List DV.Slot} {k : PyData → Option β} (hc : X.calm = true) (hN : X.N.Nodup) (hyl : X.env.scope.names.lookup y = some .local)
    (hsw : swapsWith (.ListComp elt [⟨.Name x px, iter, ifs, 0⟩] scope pos) (some (.Name y py)) spos.line X.env = pure true) (hi : DI X (.Name x px) iter env ml) (ok : BlkOk X.N X.env.scope scope [(x, j)])
    (hg : ∀ (s : Shared) (H : Hp) (C : Addr) (cl : List (Str × Addr)) (fp : List Addr), PG (X.blk s H scope (compEnvC scope cl C X.env) fp) (.Name x px) (gName j))
    (ht : ∀ (d : PyData) (s : Shared) (H : Hp) (C : Addr) (cl : List (Str × Addr)) (fp : List Addr), PTs (X.blk s H scope (compEnvC scope cl C X.env) fp) ifs (tDT X.K (env' d) (t d)))
    (he : ∀ (d : PyData) (s : Shared) (H : Hp) (C : Addr) (cl : List (Str × Addr)) (fp : List Addr), DE (X.blk s H scope (compEnvC scope cl C X.env) fp) elt (env' d) (f d)) (hr : ∀ d, DG X rest W (env2 d) (k d))
    (hs : ∀ d, env.set j (.im d) = env' d := by intro _; rfl) (hs2 : ∀ d, env.set i (.im d) = env2 d := by intro _; rfl) (hj : j < env.length := by exact Nat.le_of_ble_eq_true rfl) (hy : X.N[i]? = some y := by rfl) (hfs : ∀ x, foldedSetIterable iter X.env x = pure x := by intro _; rfl) :
    DG X (.Assign [.Name y py] (.ListComp elt [⟨.Name x px, iter, ifs, 0⟩] scope pos) spos :: rest) W env ((ml.bind (compL t f)).bind k) := by
  have e : env' = fun d => env.set j (.im d) := funext fun d => (hs d).symm
  subst e
  refine PSs.mono (pss_cons (ps_setLc (i := i) (own := [(x, j)]) (tt := fun σ H Q => ∃ d, tDT X.K (env.set j (.im d)) (t d) σ H Q) (te := fun σ H Q => ∃ d, tD X.K (env.set j (.im d)) (f d) σ H Q) hc hN hy hyl hsw hi ok hg (fun s H C cl fp => pts_ex fun d => ht d s H C cl fp) (fun s H C cl fp => pe_ex fun d => he d s H C cl fp) hfs) (pss_ex hr)) fun D σ H ⟨F0, H0, F, o, ok', em, q⟩ => ?_
  obtain ⟨d, hd, em⟩ := Option.bind_eq_some_iff.mp em
  show tLc (tI X.K env ml) (gName j) (fun σ H Q => ∃ d, tDT X.K (env.set j (.im d)) (t d) σ H Q) (fun σ H Q => ∃ d, tD X.K (env.set j (.im d)) (f d) σ H Q) [j] σ H (fun v H1 => ∃ a, tG X.K W (env2 a) (k a) D (σ.set i (some v)) H1)
  refine lc_read (X := X) (ml := ml) j hj ⟨F0, H0, F, d, ok', hd, fun v F' H' g h => ⟨d, F0, H0, F', o, ?_, em, W.mono g.ff q⟩⟩
  rw [← hs2]
  exact (ok'.grow g).set h
end
end DV
end
section
set_option Elab.async false
set_option linter.all false
set_option maxRecDepth 100000
set_option maxHeartbeats 4000000
/-! lists and dicts that a def owns; several targets -/
namespace DV
open PySem PySem.Spec PyProof.Rows L2 Evl
section
variable {X : Cx} {env : List DV.Slot} {a b e : Expr} {es : List Expr} {pos p : Pos} {ma mb m : Option PyData} {ms : Option (List PyData)} {x : Str} {β : Type} {W : Wk β} {rest : List Stmt}
/-! ### a list that is new -/
def tDF (K : PySem.W.Frag) (env : List DV.Slot) (m : Option (List PyData)) : TE := fun σ H Q => ∃ F0 H0 F ds, EOk K F0 H0 σ F H env ∧ m = some ds ∧ ∀ p xs F' H', Grow F H F' H' → H' p = none → DvAll K F' xs ds → Q (.ref p) (upd H' p (.lst xs))
abbrev DF (X : Cx) (e : Expr) (env : List DV.Slot) (m : Option (List PyData)) : Prop := PE X e (tDF X.K env m)
def szL (ds : List PyData) : Option (List PyData) := if szOk ds.length then some ds else none
theorem df_lst (h : DA X es env ms) : DF X (.List es pos) env (ms.bind szL) := PE.mono (pe_lst h) fun σ H Q ⟨F0, H0, F, d, o, em, q⟩ => by
  obtain ⟨ds, hds, em1⟩ := Option.bind_eq_some_iff.mp em
  unfold szL at em1
  split at em1
  · rename_i hz
    cases em1
    exact ⟨F0, H0, F, _, o, hds, fun vs F1 H1 g1 h1 => ⟨by rw [dvAll_len h1]; exact hz.line, fun p hp => q p vs F1 H1 g1 hp h1⟩⟩
  · cases em1
def pListL : List PyData → Option (List PyData)
  | [.list ds] => some ds
  | [.tuple ds] => some ds
  | _ => none
theorem df_list (hg : Gl X "list") (hm : X.mg "list" = none) (ha : DA X [e] env ms) (he : starEach [e] X.env = (false, eval e X.env) :: starEach [] X.env := by rfl) (hpl : (backTo pos (starEach [] X.env)).any (·.1) = false := by rfl) :
    DF X (.Call (.Name "list" p) [e] [] pos) env (ms.bind pListL) := PE.mono (pe_callTy call_listA hg hm (by decide +kernel) ha (by decide) (by decide) he hpl) fun σ H Q ⟨F0, H0, F, d, o, em, q⟩ => by
  obtain ⟨ds, hds, em1⟩ := Option.bind_eq_some_iff.mp em
  refine ⟨F0, H0, F, ds, o, hds, fun vs F1 H1 g1 h1 => ?_⟩
  unfold pListL at em1
  split at em1
  · cases em1
    obtain ⟨v, rfl, h⟩ := one_of h1
    cases h with
    | lst h2 a2 => exact ⟨_, _, rfl, .inl (sq_of (g1.sub _ _ h2)), fun p hp => q p _ F1 H1 g1 hp a2⟩
  · cases em1
    obtain ⟨v, rfl, h⟩ := one_of h1
    cases h with
    | tup h2 o2 a2 => exact ⟨_, _, rfl, .inr (ex_t g1.sub (dv_sqT h2)), fun p hp => q p _ F1 H1 g1 hp a2⟩
  · cases em1
theorem df_lstRg {mr : Option (Int × Int)} (hc : X.calm = true) (hg : Gl X "list") (hm : X.mg "list" = none) (he : DRg X e env mr) (na : starEach [e] X.env = (false, eval e X.env) :: starEach [] X.env := by rfl) :
    DF X (.Call (.Name "list" p) [e] [] pos) env (mr.bind fun ab => if rgSmall ab then some (rgD ab.1 ab.2) else none) :=
  PE.mono (pe_listRg hc hg hm he na) fun σ H Q ⟨F0, H0, F, d, o, em, q⟩ => by
    obtain ⟨ab, hab, em1⟩ := Option.bind_eq_some_iff.mp em
    split at em1
    · rename_i hs
      cases em1
      exact ⟨F0, H0, F, ab, o, hab, fun F1 H1 g1 => ⟨hs.ok, fun p hp => q p _ F1 H1 g1 hp (rg_dv _ _)⟩⟩
    · cases em1
def pCatL : PyData → PyData → Option (List PyData)
  | .list xs, .list ys => if szOk (xs.length + ys.length) then some (xs ++ ys) else none
  | _, _ => none
theorem df_cat (ha : DE X a env ma) (hb : DE X b env mb) : DF X (.BinOp a .Add b pos) env (ma.bind fun x => mb.bind fun y => pCatL x y) := PE.mono (pe_op op_cat ha hb) fun σ H Q ⟨F0, H0, F, d, o, em, q⟩ => by
  obtain ⟨x, hx, em1⟩ := Option.bind_eq_some_iff.mp em
  obtain ⟨y, hy, em2⟩ := Option.bind_eq_some_iff.mp em1
  refine ⟨F0, H0, F, x, o, hx, fun v F1 H1 g1 h1 => ⟨F0, H0, F1, y, o.grow g1, hy, fun u F2 H2 g2 h2 => ?_⟩⟩
  have h1 := dv_mono g2.ff h1
  cases h1 with
  | @lst p1 xs ds l1 a1 =>
    cases h2 with
    | @lst p2 ys es l2 a2 =>
      have em2 : (if szOk (ds.length + es.length) then some (ds ++ es) else none) = some d := em2
      split at em2
      · rename_i hz
        cases em2
        exact ⟨_, _, _, _, rfl, rfl, g2.sub _ _ l1, g2.sub _ _ l2, by rw [dvAll_len a1, dvAll_len a2]; exact hz.line, fun p hp => q p _ F2 H2 (g1.trans g2) hp (dvAll_app a1 a2)⟩
      · cases em2
    | _ => cases em2
  | _ => cases em2
theorem dg_asgF (i : Nat) {pos' : Pos} {mf : Option (List PyData)} {k : List PyData → Option β} {env' : List PyData → List DV.Slot} (hN : X.N.Nodup) (hx : Loc X.env.scope x) (he : DF X e env mf) (hr : ∀ d, DG X rest W (env' d) (k d)) (hs : ∀ d, env.set i (.ow d) = env' d := by intro _; rfl)
    (hi : X.N[i]? = some x := by rfl) (hsw : swapsWith e (some (.Name x pos')) pos.line X.env = pure false := by rfl) (hf : X.fn x = true ∨ X.env.scope.names.lookup x = some .local := by first | exact .inl rfl | exact .inr rfl | assumption) :
    DG X (.Assign [.Name x pos'] e pos :: rest) W env (mf.bind k) := PSs.mono (pss_cons (ps_set (i := i) hN hi hx he hsw hf) (pss_ex hr)) fun D σ H ⟨F0, H0, F, o, ok, em, q⟩ => by
  obtain ⟨d, hd, em1⟩ := Option.bind_eq_some_iff.mp em
  refine ⟨F0, H0, F, d, ok, hd, fun p xs F' H' g hp hxs => ⟨d, F0, H0, F', o, ?_, em1, W.mono g.ff q⟩⟩
  rw [← hs]
  have ok' := ok.grow g
  exact ok'.setOwn hp ⟨p, xs, rfl, fresh_back ok'.g.hh hp, fresh_back g.sub hp, upd_same, hxs⟩
/-! ### reads and changes -/
theorem ow_at {K : PySem.W.Frag} {F0 H0 F H : Hp} {σ : L2.St} {env : List DV.Slot} {i : Nat} {ds : List PyData} (o : EOk K F0 H0 σ F H env) (e : env[i]? = some (.ow ds)) : ∃ a vs, σ[i]? = some (some (.ref a)) ∧ H0 a = none ∧ F a = none ∧ H a = some (.lst vs) ∧ DvAll K F vs ds := o.at_ i _ e
theorem de_ixO (i : Nat) {px : Pos} {ds : List PyData} (hb : DE X b env mb) (he : env[i]? = some (.ow ds) := by rfl) (hs : PlainIx b := by intro _ _; rfl) (hN : X.N[i]? = some x := by rfl) (hv : Vis X.env.scope x := by first | exact Or.inl rfl | exact Or.inr (Or.inl rfl) | exact Or.inr (Or.inr rfl))
    (hd : (x == ("__debug__" : Str)) = false := by decide) (hcd : (x == ("__classdict__" : Str)) = false := by decide) : DE X (.Subscript (.Name x px) b pos) env (mb.bind fun y => pIdx (.list ds) y) :=
  PE.mono (pe_ix ix_list (pe_var (i := i) hN hv hd hcd) hb hs) fun σ H Q ⟨F0, H0, F, d, o, em, q⟩ => by
    obtain ⟨y, hy, em1⟩ := Option.bind_eq_some_iff.mp em
    obtain ⟨a, vs, e1, _⟩ := ow_at o he
    refine ⟨.ref a, e1, F0, H0, F, y, o, hy, fun v F1 H1 g1 h1 => ?_⟩
    obtain ⟨a', vs', e1', _, _, hh, hds⟩ := ow_at (o.grow g1) he
    rw [e1] at e1'
    cases e1'
    cases h1 with
    | int k =>
      obtain ⟨u, hu, du⟩ := atI_dv hds (show atI ds k = some d from em1)
      exact ⟨a, vs', k, u, rfl, rfl, sq_of hh, hu, q u F1 H1 g1 du⟩
    | _ => cases em1
theorem dg_app (i : Nat) {px apos cpos : Pos} {ds : List PyData} {me : Option PyData} {k : PyData → Option β} {env' : PyData → List DV.Slot} (he : DE X e env me) (hr : ∀ d, DG X rest W (env' d) (k d)) (ho : env[i]? = some (.ow ds) := by rfl) (hs : ∀ d, env.set i (.ow (ds ++ [d])) = env' d := by intro _; rfl)
    (hN : X.N[i]? = some x := by rfl) (hv : Vis X.env.scope x := by first | exact Or.inl rfl | exact Or.inr (Or.inl rfl) | exact Or.inr (Or.inr rfl)) (hd : (x == ("__debug__" : Str)) = false := by decide) (hcd : (x == ("__classdict__" : Str)) = false := by decide)
    (hbase : attributeBase (.Name x px) "append" X.env (eval (.Name x px) X.env) = eval (.Name x px) X.env := by rfl)
    (hfew : ((backTo cpos (starEach [e] X.env)).all (fun x => !x.1) && (backToKw cpos (keywordEach [] X.env)).all (fun x => x.1.isSome)
      && decide ([e].length + ([] : List Keyword).length + (if ([] : List Keyword).isEmpty then 0 else 1) < 30)) = true := by rfl)
    (hline : (apos.endLine == cpos.line) = true := by rfl) (hst : starEach [e] X.env = (false, eval e X.env) :: starEach [] X.env := by rfl) (hplain : (backTo cpos (starEach [] X.env)).any (·.1) = false := by rfl)
    (hsw : swapsWith (.Call (.Attribute (.Name x px) "append" apos) [e] [] cpos) none pos.line X.env = pure false := by rfl) :
    DG X (.Expr (.Call (.Attribute (.Name x px) "append" apos) [e] [] cpos) pos :: rest) W env (me.bind fun d => if szOk ds.length then k d else none) :=
  PSs.mono (pss_cons (ps_expr (pe_bm PySem.F.plainAttrs_list PySem.F.slot_list_append PySem.F.type_list_append mt_append (pe_var (i := i) hN hv hd hcd) (pa_cons he pa_nil hst) hbase hfew hline hst hplain) hsw) (pss_ex hr)) fun D σ H ⟨F0, H0, F, o, ok, em, q⟩ => by
    obtain ⟨d, hd, em1⟩ := Option.bind_eq_some_iff.mp em
    split at em1
    case isFalse => cases em1
    rename_i hz
    obtain ⟨a, vs, e1, _, _, hh, _⟩ := ow_at ok ho
    refine ⟨.ref a, e1, .inl ⟨rfl, vs, sq_of hh⟩, F0, H0, F, d, ok, hd, fun v F1 H1 g1 h1 => ?_⟩
    have ok1 := ok.grow g1
    obtain ⟨a', vs', e1', h0, hf, hh', hds⟩ := ow_at ok1 ho
    rw [e1] at e1'
    cases e1'
    refine ⟨a, vs', v, rfl, rfl, hh', by rw [dvAll_len hds]; exact hz.lt, d, F0, H0, F1, o, ?_, em1, W.mono g1.ff q⟩
    rw [← hs]
    exact ok1.mut ho rfl rfl e1 ⟨a, _, rfl, h0, hf, upd_same, dvAll_app hds (.cons h1 .nil)⟩
theorem dropLast_dv {K : PySem.W.Frag} {F : Hp} {vs : List V} {ds : List PyData} (h : DvAll K F vs ds) : DvAll K F vs.dropLast ds.dropLast := by
  rw [List.dropLast_eq_take, List.dropLast_eq_take, dvAll_len h]
  exact dvAll_take _ h
theorem dg_pop (i : Nat) {px apos cpos : Pos} {ds : List PyData} {k : Option β} {env' : List DV.Slot} (hr : DG X rest W env' k) (ho : env[i]? = some (.ow ds) := by rfl) (hs : env.set i (.ow ds.dropLast) = env' := by rfl)
    (hN : X.N[i]? = some x := by rfl) (hv : Vis X.env.scope x := by first | exact Or.inl rfl | exact Or.inr (Or.inl rfl) | exact Or.inr (Or.inr rfl)) (hd : (x == ("__debug__" : Str)) = false := by decide) (hcd : (x == ("__classdict__" : Str)) = false := by decide)
    (hbase : attributeBase (.Name x px) "pop" X.env (eval (.Name x px) X.env) = eval (.Name x px) X.env := by rfl) (hline : (apos.endLine == cpos.line) = true := by rfl)
    (hsw : swapsWith (.Call (.Attribute (.Name x px) "pop" apos) [] [] cpos) none pos.line X.env = pure false := by rfl) :
    DG X (.Expr (.Call (.Attribute (.Name x px) "pop" apos) [] [] cpos) pos :: rest) W env (if ds.isEmpty = true then none else k) :=
  PSs.mono (pss_cons (ps_expr (pe_bm0 PySem.F.plainAttrs_list PySem.F.slot_list_pop PySem.F.type_list_pop mt_pop (pe_var (i := i) hN hv hd hcd) hbase hline) hsw) hr) fun D σ H ⟨F0, H0, F, o, ok, em, q⟩ => by
    split at em
    · cases em
    rename_i hne
    obtain ⟨a, vs, e1, h0, hf, hh, hds⟩ := ow_at ok ho
    have hl := dvAll_len hds
    have hpos : vs.length ≠ 0 := by
      rw [hl]
      intro z
      exact hne (by rw [List.eq_nil_of_length_eq_zero z]; rfl)
    have hlt : vs.length - 1 < vs.length := by omega
    refine ⟨.ref a, e1, .inl ⟨rfl, vs, sq_of hh⟩, a, vs, vs[vs.length - 1], rfl, rfl, hh, List.getElem?_eq_getElem hlt, F0, H0, F, o, ?_, em, q⟩
    rw [← hs]
    exact ok.mut ho rfl rfl e1 ⟨a, _, rfl, h0, hf, upd_same, dropLast_dv hds⟩
/-- x[e1], x[e2] = a pair -/
def ixD (ds : List PyData) : PyData → Option Nat
  | .int k => ixN ds.length k
  | _ => none
def asPair : PyData → Option (PyData × PyData)
  | .tuple [a, b] => some (a, b)
  | _ => none
theorem asPair_some {d : PyData} {p : PyData × PyData} (h : asPair d = some p) : d = .tuple [p.1, p.2] := by
  unfold asPair at h
  split at h
  · cases h
    rfl
  · cases h
theorem dg_set2 (i : Nat) {e1 e2 : Expr} {p1 p2 q1 q2 pt : Pos} {kt : Nat} {ds : List PyData} {mr m1 m2 : Option PyData} {k : List PyData → Option β} {env' : List PyData → List DV.Slot} (hc : X.calm = true) (he : DE X e env mr) (h1 : DE X e1 env m1) (h2 : ∀ ds', DE X e2 (env' ds') m2) (hr : ∀ ds', DG X rest W (env' ds') (k ds'))
    (ho : env[i]? = some (.ow ds) := by rfl) (hs : ∀ ds', env.set i (.ow ds') = env' ds' := by intro _; rfl)
    (hN : X.N[i]? = some x := by rfl) (hv : Vis X.env.scope x := by first | exact Or.inl rfl | exact Or.inr (Or.inl rfl) | exact Or.inr (Or.inr rfl)) (hd : (x == ("__debug__" : Str)) = false := by decide) (hcd : (x == ("__classdict__" : Str)) = false := by decide)
    (ha1 : ∀ v, assign (.Subscript (.Name x p1) e1 q1) X.env v = (do
      let ov ← holding [v] (eval (.Name x p1) X.env)
      let iv ← holding [v, ov] (eval e1 X.env)
      standAt q1
      holding [v, ov, iv] (setItem ov iv v)
      release [v, ov, iv] []) := by intro _; rfl)
    (ha2 : ∀ v, assign (.Subscript (.Name x p2) e2 q2) X.env v = (do
      let ov ← holding [v] (eval (.Name x p2) X.env)
      let iv ← holding [v, ov] (eval e2 X.env)
      standAt q2
      holding [v, ov, iv] (setItem ov iv v)
      release [v, ov, iv] []) := by intro _; rfl)
    (hs1 : (assignEach [.Subscript (.Name x p1) e1 q1, .Subscript (.Name x p2) e2 q2] X.env).map (·.2) = assign (.Subscript (.Name x p1) e1 q1) X.env :: (assignEach [.Subscript (.Name x p2) e2 q2] X.env).map (·.2) := by rfl)
    (hs2 : (assignEach [.Subscript (.Name x p2) e2 q2] X.env).map (·.2) = assign (.Subscript (.Name x p2) e2 q2) X.env :: (assignEach [] X.env).map (·.2) := by rfl)
    (hn : (assignEach [.Subscript (.Name x p1) e1 q1, .Subscript (.Name x p2) e2 q2] X.env).length = 2 := by rfl) (hst : (assignEach [.Subscript (.Name x p1) e1 q1, .Subscript (.Name x p2) e2 q2] X.env).findIdx? (·.1) = none := by rfl)
    (hsw : swapsWithSole [.Tuple [.Subscript (.Name x p1) e1 q1, .Subscript (.Name x p2) e2 q2] kt pt] e pos.line X.env = pure false := by rfl) (hw : swappedStores [.Tuple [.Subscript (.Name x p1) e1 q1, .Subscript (.Name x p2) e2 q2] kt pt] e X.env = pure none := by rfl)
    (hts : (assignEach [.Tuple [.Subscript (.Name x p1) e1 q1, .Subscript (.Name x p2) e2 q2] kt pt] X.env).map (·.2) = [assign (.Tuple [.Subscript (.Name x p1) e1 q1, .Subscript (.Name x p2) e2 q2] kt pt) X.env] := by rfl) :
    DG X (.Assign [.Tuple [.Subscript (.Name x p1) e1 q1, .Subscript (.Name x p2) e2 q2] kt pt] e pos :: rest) W env
      (mr.bind fun r => (asPair r).bind fun ab => m1.bind fun i1 => (ixD ds i1).bind fun j1 => m2.bind fun i2 => (ixD ds i2).bind fun j2 => k ((ds.set j1 ab.1).set j2 ab.2)) := by
  refine PSs.mono (pss_cons (ps_asg he (pg_tup hc (pgs_cons (pg_sub (pe_var (i := i) hN hv hd hcd) h1 set_list ha1) (pgs_cons (pg_sub (pe_var (i := i) hN hv hd hcd) (pe_ex h2) set_list ha2) pgs_nil hs2) hs1) hn hst) hsw hw hts) (pss_ex hr)) fun D σ H ⟨F0, H0, F, o, ok, em, q⟩ => ?_
  obtain ⟨r, hr', em1⟩ := Option.bind_eq_some_iff.mp em
  obtain ⟨ab, hab, em2⟩ := Option.bind_eq_some_iff.mp em1
  obtain ⟨i1, hi1, em3⟩ := Option.bind_eq_some_iff.mp em2
  obtain ⟨j1, hj1, em4⟩ := Option.bind_eq_some_iff.mp em3
  obtain ⟨i2, hi2, em5⟩ := Option.bind_eq_some_iff.mp em4
  obtain ⟨j2, hj2, em6⟩ := Option.bind_eq_some_iff.mp em5
  have er := asPair_some hab
  subst er
  refine ⟨F0, H0, F, _, ok, hr', fun v F1 H1 g1 hv1 => ?_⟩
  have ok1 := ok.grow g1
  cases hv1 with
  | tup ht hto htd =>
    rename_i pt' ob xs
    match xs, htd with
    | [va, vb], .cons da (.cons db .nil) =>
    refine ⟨pt', [va, vb], rfl, ex_t g1.sub (dv_sqT ht), rfl, va, [vb], rfl, ?_⟩
    obtain ⟨a, vs, ea, h0, hf, hh, hds⟩ := ow_at ok1 ho
    refine ⟨.ref a, ea, F0, H0, F1, i1, ok1, hi1, fun w1 F2 H2 g2 hw1 => ?_⟩
    have ok2 := ok1.grow g2
    obtain ⟨a', vs2, ea', h02, hf2, hh2, hds2⟩ := ow_at ok2 ho
    rw [ea] at ea'
    cases ea'
    cases hw1 with
    | int n1 =>
      refine ⟨a, vs2, n1, j1, rfl, rfl, hh2, by rw [dvAll_len hds2]; exact hj1, ?_⟩
      have ok3 : EOk X.K F0 H0 σ F2 (upd H2 a (.lst (vs2.set j1 va))) (env.set i (.ow (ds.set j1 ab.1))) := ok2.mut ho rfl rfl ea ⟨a, _, rfl, h02, hf2, upd_same, dvAll_set (dv_mono g2.ff da) j1 hds2⟩
      refine ⟨vb, [], rfl, .ref a, ea, ds.set j1 ab.1, F0, H0, F2, i2, ?_, hi2, fun w2 F4 H4 g4 hw2 => ?_⟩
      · rw [← hs]
        exact ok3
      have ok4 := ok3.grow g4
      have hl : i < env.length := (List.getElem?_eq_some_iff.mp ho).1
      have ho' : (env.set i (.ow (ds.set j1 ab.1)))[i]? = some (.ow (ds.set j1 ab.1)) := List.getElem?_set_self hl
      obtain ⟨a', vs4, ea', h04, hf4, hh4, hds4⟩ := ow_at ok4 ho'
      rw [ea] at ea'
      cases ea'
      cases hw2 with
      | int n2 =>
        refine ⟨a, vs4, n2, j2, rfl, rfl, hh4, ?_, rfl, (ds.set j1 ab.1).set j2 ab.2, F0, H0, F4, o, ?_, em6, W.mono ((g1.trans g2).ff.trans g4.ff) q⟩
        · rw [dvAll_len hds4, List.length_set]
          exact hj2
        · have ok5 := ok4.mut (s' := .ow ((ds.set j1 ab.1).set j2 ab.2)) ho' rfl rfl ea ⟨a, _, rfl, h04, hf4, upd_same, dvAll_set (dv_mono (g2.ff.trans g4.ff) db) j2 hds4⟩
          rw [List.set_set] at ok5
          rw [← hs]
          exact ok5
      | _ => cases hj2
    | _ => cases hj1
/-! ### several names -/
/-- a, b = e, e a pair -/
theorem dg_unp2 (i j : Nat) {y : Str} {px py pt : Pos} {kt : Nat} {me : Option PyData} {k : PyData → PyData → Option β} {env' : PyData → PyData → List DV.Slot} (hc : X.calm = true) (hN : X.N.Nodup) (hx : Loc X.env.scope x) (hy : Loc X.env.scope y) (he : DE X e env me) (hr : ∀ a b, DG X rest W (env' a b) (k a b))
    (hs : ∀ a b, (env.set i (.im a)).set j (.im b) = env' a b := by intro _ _; rfl) (hi : X.N[i]? = some x := by rfl) (hj : X.N[j]? = some y := by rfl)
    (hfx : X.fn x = true ∨ X.env.scope.names.lookup x = some .local := by first | exact .inl rfl | exact .inr rfl | assumption) (hfy : X.fn y = true ∨ X.env.scope.names.lookup y = some .local := by first | exact .inl rfl | exact .inr rfl | assumption)
    (hs1 : (assignEach [.Name x px, .Name y py] X.env).map (·.2) = assign (.Name x px) X.env :: (assignEach [.Name y py] X.env).map (·.2) := by rfl)
    (hs2 : (assignEach [.Name y py] X.env).map (·.2) = assign (.Name y py) X.env :: (assignEach [] X.env).map (·.2) := by rfl)
    (hn : (assignEach [.Name x px, .Name y py] X.env).length = 2 := by rfl) (hst : (assignEach [.Name x px, .Name y py] X.env).findIdx? (·.1) = none := by rfl)
    (hsw : swapsWithSole [.Tuple [.Name x px, .Name y py] kt pt] e pos.line X.env = pure false := by rfl) (hw : swappedStores [.Tuple [.Name x px, .Name y py] kt pt] e X.env = pure none := by rfl)
    (hts : (assignEach [.Tuple [.Name x px, .Name y py] kt pt] X.env).map (·.2) = [assign (.Tuple [.Name x px, .Name y py] kt pt) X.env] := by rfl) :
    DG X (.Assign [.Tuple [.Name x px, .Name y py] kt pt] e pos :: rest) W env (me.bind fun r => (asPair r).bind fun ab => k ab.1 ab.2) := by
  refine PSs.mono (pss_cons (ps_asg he (pg_tup hc (pgs_cons (pg_name (i := i) hN hi hx hfx) (pgs_cons (pg_name (i := j) hN hj hy hfy) pgs_nil hs2) hs1) hn hst) hsw hw hts) (pss_ex fun a => pss_ex fun b => hr a b)) fun D σ H ⟨F0, H0, F, o, ok, em, q⟩ => ?_
  obtain ⟨r, hr', em1⟩ := Option.bind_eq_some_iff.mp em
  obtain ⟨ab, hab, em2⟩ := Option.bind_eq_some_iff.mp em1
  have er := asPair_some hab
  subst er
  refine ⟨F0, H0, F, _, ok, hr', fun v F1 H1 g1 hv1 => ?_⟩
  cases hv1 with
  | tup ht hto htd =>
    rename_i pt' ob xs
    match xs, htd with
    | [va, vb], .cons da (.cons db .nil) =>
    refine ⟨pt', [va, vb], rfl, ex_t g1.sub (dv_sqT ht), rfl, va, [vb], rfl, vb, [], rfl, rfl, ab.1, ab.2, F0, H0, F1, o, ?_, em2, W.mono g1.ff q⟩
    rw [← hs]
    exact ((ok.grow g1).set da).set db
/-- a, b = e1, e2, plain locals -/
theorem dg_par (i j : Nat) {y : Str} {px py pt : Pos} {kt k2 pt2} {k : PyData → PyData → Option β} {env' : PyData → PyData → List DV.Slot} (hc : X.calm = true) (hN : X.N.Nodup) (ha : DE X a env ma) (hb : DE X b env mb) (hr : ∀ a b, DG X rest W (env' a b) (k a b))
    (hw : swappedStores [.Tuple [.Name x px, .Name y py] kt pt] (.Tuple [a, b] k2 pt2) X.env = pure (some [x, y]))
    (hs : ∀ a b, (env.set i (.im a)).set j (.im b) = env' a b := by intro _ _; rfl) (hi : X.N[i]? = some x := by rfl) (hj : X.N[j]? = some y := by rfl) (hij : i ≠ j := by decide)
    (hx : X.env.scope.names.lookup x = some .local := by rfl) (hy : X.env.scope.names.lookup y = some .local := by rfl)
    (hs1 : starEach [a, b] X.env = (false, eval a X.env) :: starEach [b] X.env := by rfl) (hs2 : starEach [b] X.env = (false, eval b X.env) :: starEach [] X.env := by rfl)
    (hsw : swapsWithSole [.Tuple [.Name x px, .Name y py] kt pt] (.Tuple [a, b] k2 pt2) pos.line X.env = pure false := by rfl) :
    DG X (.Assign [.Tuple [.Name x px, .Name y py] kt pt] (.Tuple [a, b] k2 pt2) pos :: rest) W env (ma.bind fun x => mb.bind fun y => k x y) := by
  refine PSs.mono (pss_cons (ps_par hc hN hi hj hij hx hy (pa_cons ha (pa_cons hb pa_nil hs2) hs1) hw hsw) (pss_ex fun a => pss_ex fun b => hr a b)) fun D σ H ⟨F0, H0, F, o, ok, em, q⟩ => ?_
  obtain ⟨da, hda, em1⟩ := Option.bind_eq_some_iff.mp em
  obtain ⟨db, hdb, em2⟩ := Option.bind_eq_some_iff.mp em1
  refine ⟨F0, H0, F, da, ok, hda, fun v F1 H1 g1 h1 => ⟨F0, H0, F1, db, ok.grow g1, hdb, fun u F2 H2 g2 h2 => ?_⟩⟩
  refine ⟨v, u, rfl, da, db, F0, H0, F2, o, ?_, em2, W.mono (g1.trans g2).ff q⟩
  rw [← hs]
  exact ((ok.grow (g1.trans g2)).set (dv_mono g2.ff h1)).set h2
/-! ### an owned list read whole, where only a truth or a number comes of it -/
theorem dt_freeze (i : Nat) {ds : List PyData} {env' : List DV.Slot} {mt : Option Bool} (h : DT X e env' mt) (ho : env[i]? = some (.ow ds) := by rfl) (hs : env.set i (.im (.list ds)) = env' := by rfl) : DT X e env mt := PT.mono h fun σ H Q ⟨F0, H0, F, b, ok, em, q⟩ => by
  obtain ⟨F', ff, ok', _⟩ := ok.freeze ho
  rw [hs] at ok'
  exact ⟨F0, H0, F', b, ok', em, fun F2 H2 g => q F H2 ⟨Ex.refl F, g.hh, (ff.trans g.ff).trans g.sub, fun _ h _ => h⟩⟩
def scalar : PyData → Option PyData
  | .int i => some (.int i)
  | .bool b => some (.bool b)
  | _ => none
theorem de_freeze (i : Nat) {ds : List PyData} {env' : List DV.Slot} (h : DE X e env' m) (ho : env[i]? = some (.ow ds) := by rfl) (hs : env.set i (.im (.list ds)) = env' := by rfl) : DE X e env (m.bind scalar) := PE.mono h fun σ H Q ⟨F0, H0, F, d, ok, em, q⟩ => by
  obtain ⟨F', ff, ok', _⟩ := ok.freeze ho
  rw [hs] at ok'
  obtain ⟨d', hd, em1⟩ := Option.bind_eq_some_iff.mp em
  refine ⟨F0, H0, F', d', ok', hd, fun v F2 H2 g hv => ?_⟩
  have gg : Grow F H F H2 := ⟨Ex.refl F, g.hh, (ff.trans g.ff).trans g.sub, fun _ h _ => h⟩
  cases hv with
  | int i =>
    cases em1
    exact q _ F H2 gg (.int i)
  | bl i =>
    cases em1
    exact q _ F H2 gg (.bl i)
  | _ => cases em1
end

/-! ### dicts -/
section
variable {κ : Type} [DecidableEq κ]
def valD (kvs : List (κ × PyData)) (k : κ) : Option PyData := (kvs.find? fun kv => decide (kv.1 = k)).map (·.2)
def putD (kvs : List (κ × PyData)) (k : κ) (v : PyData) : List (κ × PyData) :=
  if (kvs.any fun kv => decide (kv.1 = k)) = true then kvs.map (fun kv => if kv.1 = k then (kv.1, v) else kv) else kvs ++ [(k, v)]
/-- pairs of values are pairs of data -/
inductive KvD (K : PySem.W.Frag) (F : Hp) : List (κ × V) → List (κ × PyData) → Prop
  | nil : KvD K F [] []
  | cons {k : κ} {v : V} {d : PyData} {vs : List (κ × V)} {ds : List (κ × PyData)} : Dv K F v d → KvD K F vs ds → KvD K F ((k, v) :: vs) ((k, d) :: ds)
theorem kvd_of {K : PySem.W.Frag} {F : Hp} : ∀ {vs : List (κ × V)} {ds : List (κ × PyData)}, vs.map (·.1) = ds.map (·.1) → DvAll K F (vs.map (·.2)) (ds.map (·.2)) → KvD K F vs ds
  | [], [], _, _ => .nil
  | [], _ :: _, h, _ => by cases h
  | _ :: _, [], h, _ => by cases h
  | (k, v) :: vs, (k', d) :: ds, h, a => by
    have h1 : k = k' := (List.cons.inj h).1
    have h2 : vs.map (·.1) = ds.map (·.1) := (List.cons.inj h).2
    subst h1
    cases a with
    | cons a1 a2 => exact .cons a1 (kvd_of h2 a2)
theorem KvD.keys {K : PySem.W.Frag} {F : Hp} {vs : List (κ × V)} {ds : List (κ × PyData)} (h : KvD K F vs ds) : vs.map (·.1) = ds.map (·.1) := by
  induction h with
  | nil => rfl
  | cons _ _ ih => rw [List.map_cons, List.map_cons, ih]
theorem KvD.vals {K : PySem.W.Frag} {F : Hp} {vs : List (κ × V)} {ds : List (κ × PyData)} (h : KvD K F vs ds) : DvAll K F (vs.map (·.2)) (ds.map (·.2)) := by
  induction h with
  | nil => exact .nil
  | cons a _ ih => exact .cons a ih
theorem KvD.mono {K : PySem.W.Frag} {F F' : Hp} (e : Ex F F') {vs : List (κ × V)} {ds : List (κ × PyData)} (h : KvD K F vs ds) : KvD K F' vs ds := by
  induction h with
  | nil => exact .nil
  | cons a _ ih => exact .cons (dv_mono e a) ih
theorem KvD.val {K : PySem.W.Frag} {F : Hp} {vs : List (κ × V)} {ds : List (κ × PyData)} (h : KvD K F vs ds) (k : κ) : (valV vs k = none ∧ valD ds k = none) ∨ ∃ v d, valV vs k = some v ∧ valD ds k = some d ∧ Dv K F v d := by
  induction h with
  | nil => exact .inl ⟨rfl, rfl⟩
  | @cons k' v d vs ds a t ih =>
    by_cases e : k' = k
    · right
      refine ⟨v, d, ?_, ?_, a⟩
      · exact valV_pos e
      · simp [valD, List.find?_cons, e]
    · have e1 : valV ((k', v) :: vs) k = valV vs k := valV_neg e
      have e2 : valD ((k', d) :: ds) k = valD ds k := by simp [valD, List.find?_cons, e]
      rw [e1, e2]
      exact ih
theorem KvD.any {K : PySem.W.Frag} {F : Hp} {vs : List (κ × V)} {ds : List (κ × PyData)} (h : KvD K F vs ds) (k : κ) : (vs.any fun kv => decide (kv.1 = k)) = (ds.any fun kv => decide (kv.1 = k)) := by
  induction h with
  | nil => rfl
  | cons _ _ ih => rw [List.any_cons, List.any_cons, ih]
theorem KvD.app {K : PySem.W.Frag} {F : Hp} {vs vs' : List (κ × V)} {ds ds' : List (κ × PyData)} (h : KvD K F vs ds) (h' : KvD K F vs' ds') : KvD K F (vs ++ vs') (ds ++ ds') := by
  induction h with
  | nil => exact h'
  | cons a _ ih => exact .cons a ih
theorem KvD.put {K : PySem.W.Frag} {F : Hp} {vs : List (κ × V)} {ds : List (κ × PyData)} (h : KvD K F vs ds) {k : κ} {v : V} {d : PyData} (hv : Dv K F v d) : KvD K F (putK vs k v) (putD ds k d) := by
  unfold putK putD
  rw [h.any k]
  split
  · induction h with
    | nil => exact .nil
    | @cons k' v' d' vs ds a t ih =>
      rw [List.map_cons, List.map_cons]
      by_cases e : k' = k
      · simp only [e, if_true]
        refine .cons hv ?_
        clear ih
        rename_i hany
        clear hany
        induction t with
        | nil => exact .nil
        | @cons k2 v2 d2 vs ds a t ih2 =>
          rw [List.map_cons, List.map_cons]
          by_cases e2 : k2 = k
          · simp only [e2, if_true]
            exact .cons hv ih2
          · simp only [e2, if_false]
            exact .cons a ih2
      · simp only [e, if_false]
        rename_i hany
        refine .cons a (ih ?_)
        rw [List.any_cons] at hany
        simpa [e] using hany
  · exact h.app (.cons hv .nil)
theorem KvD.len {K : PySem.W.Frag} {F : Hp} {vs : List (κ × V)} {ds : List (κ × PyData)} (h : KvD K F vs ds) : vs.length = ds.length := by
  induction h with
  | nil => rfl
  | cons _ _ ih => rw [List.length_cons, List.length_cons, ih]
end
theorem dk_at {K : PySem.W.Frag} {F0 H0 F H : Hp} {σ : L2.St} {env : List DV.Slot} {i : Nat} {ds : List (Key × PyData)} (o : EOk K F0 H0 σ F H env) (e : env[i]? = some (.dk ds)) : ∃ a vs, σ[i]? = some (some (.ref a)) ∧ H0 a = none ∧ F a = none ∧ H a = some (.dK vs) ∧ KvD K F vs ds := by
  obtain ⟨a, vs, h1, h2, h3, h4, h5, h6⟩ := o.at_ i _ e
  exact ⟨a, vs, h1, h2, h3, h4, kvd_of h5 h6⟩
section
variable {X : Cx} {env : List DV.Slot} {a b e f : Expr} {es : List Expr} {pos p : Pos} {ma mb m : Option PyData} {ms : Option (List PyData)} {x : Str} {β : Type} {W : Wk β} {rest : List Stmt}
theorem de_dsub (i : Nat) {px : Pos} {kvs : List (Key × PyData)} (hu : X.A.units + 1 < cLine) (hb : DE X b env mb) (he : env[i]? = some (.dk kvs) := by rfl) (hs : NoSl b := by intro _ _; rfl) (hN : X.N[i]? = some x := by rfl) (hv : Vis X.env.scope x := by first | exact Or.inl rfl | exact Or.inr (Or.inl rfl) | exact Or.inr (Or.inr rfl))
    (hd : (x == ("__debug__" : Str)) = false := by decide) (hcd : (x == ("__classdict__" : Str)) = false := by decide) : DE X (.Subscript (.Name x px) b pos) env (mb.bind fun y => (asI y).bind fun k => valD kvs (Sum.inl k)) :=
  PE.mono (pe_dget hu (pe_var (i := i) hN hv hd hcd) hb hs) fun σ H Q ⟨F0, H0, F, d, o, em, q⟩ => by
    obtain ⟨y, hy, em1⟩ := Option.bind_eq_some_iff.mp em
    obtain ⟨n, hn, em2⟩ := Option.bind_eq_some_iff.mp em1
    have ey := asI_some hn
    subst ey
    obtain ⟨a, vs, e1, _⟩ := dk_at o he
    refine ⟨.ref a, e1, F0, H0, F, _, o, hy, fun v F1 H1 g1 h1 => ?_⟩
    obtain ⟨a', vs', e1', _, _, hh, hds⟩ := dk_at (o.grow g1) he
    rw [e1] at e1'
    cases e1'
    rcases hds.val (Sum.inl n) with ⟨_, z⟩ | ⟨u, d', z1, z2, dd⟩
    · rw [z] at em2
      cases em2
    · rw [z2] at em2
      cases em2
      rw [dv_int h1]
      refine ⟨a, u, rfl, ?_, q u F1 H1 g1 dd⟩
      rw [← z1]
      exact DGet.k (k := Sum.inl n) hh
theorem de_dget2 (i : Nat) {px apos : Pos} {kvs : List (Key × PyData)} {me mf : Option PyData} (hu : X.A.units + 1 < cLine) (h1 : DE X e env me) (h2 : DE X f env mf) (he : env[i]? = some (.dk kvs) := by rfl) (hN : X.N[i]? = some x := by rfl) (hv : Vis X.env.scope x := by first | exact Or.inl rfl | exact Or.inr (Or.inl rfl) | exact Or.inr (Or.inr rfl))
    (hd : (x == ("__debug__" : Str)) = false := by decide) (hcd : (x == ("__classdict__" : Str)) = false := by decide) (hM : M2 X (.Name x px) "get" apos e f pos := by exact ⟨rfl, rfl, rfl, rfl⟩) :
    DE X (.Call (.Attribute (.Name x px) "get" apos) [e, f] [] pos) env (me.bind fun y => mf.bind fun z => (asI y).map fun k => (valD kvs (Sum.inl k)).getD z) :=
  PE.mono (pe_dget2 hu (pe_var (i := i) hN hv hd hcd) h1 h2 hM) fun σ H Q ⟨F0, H0, F, d, o, em, q⟩ => by
    obtain ⟨y, hy, em1⟩ := Option.bind_eq_some_iff.mp em
    obtain ⟨z, hz, em2⟩ := Option.bind_eq_some_iff.mp em1
    cases hn : asI y with
    | none => rw [hn] at em2; cases em2
    | some n =>
    rw [hn] at em2
    cases em2
    have ey := asI_some hn
    subst ey
    obtain ⟨a, vs, e1, _, _, hh0, _⟩ := dk_at o he
    refine ⟨.ref a, e1, a, rfl, .inl ⟨vs, .inl hh0⟩, F0, H0, F, _, o, hy, fun v F1 H1 g1 h1 => ⟨F0, H0, F1, z, o.grow g1, hz, fun u F2 H2 g2 h2 => ?_⟩⟩
    obtain ⟨a', vs', e1', _, _, hh, hds⟩ := dk_at (o.grow (g1.trans g2)) he
    rw [e1] at e1'
    cases e1'
    rw [dv_int h1]
    refine ⟨valV vs' (Sum.inl n), DGet.k (k := Sum.inl n) hh, ?_⟩
    have q : ∀ v F' H', Grow F H F' H' → Dv X.K F' v ((valD kvs (Sum.inl n)).getD z) → Q v H' := q
    rcases hds.val (Sum.inl n) with ⟨z1, z2⟩ | ⟨w', d', z1, z2, dd⟩
    · rw [z1]
      rw [z2] at q
      exact q u F2 H2 (g1.trans g2) h2
    · rw [z1]
      rw [z2] at q
      exact q w' F2 H2 (g1.trans g2) dd
/-- x = {} -/
theorem dg_asgD0 (i : Nat) {pos' p0 : Pos} {k : Option β} {env' : List DV.Slot} (hN : X.N.Nodup) (hx : Loc X.env.scope x) (hr : DG X rest W env' k) (hs : env.set i (.dk []) = env' := by rfl)
    (hi : X.N[i]? = some x := by rfl) (hsw : swapsWith (.Dict [] [] p0) (some (.Name x pos')) pos.line X.env = pure false := by rfl) (hf : X.fn x = true ∨ X.env.scope.names.lookup x = some .local := by first | exact .inl rfl | exact .inr rfl | assumption) :
    DG X (.Assign [.Name x pos'] (.Dict [] [] p0) pos :: rest) W env k := PSs.mono (pss_cons (ps_set (i := i) hN hi hx pe_dnewK hsw hf) hr) fun D σ H ⟨F0, H0, F, o, ok, em, q⟩ => by
  intro p hp
  refine ⟨F0, H0, F, o, ?_, em, q⟩
  rw [← hs]
  exact ok.setOwn hp ⟨p, [], rfl, fresh_back ok.g.hh hp, fresh_back ok.sub hp, upd_same, rfl, .nil⟩
/-- x = {k1: v1, k2: v2} -/
theorem dg_asgD2 (i : Nat) {k1 v1 k2 v2 : Expr} {pos' p0 : Pos} {mk1 mv1 mk2 mv2 : Option PyData} {k : List (Key × PyData) → Option β} {env' : List (Key × PyData) → List DV.Slot} (hN : X.N.Nodup) (hx : Loc X.env.scope x)
    (h1 : DE X k1 env mk1) (h2 : DE X v1 env mv1) (h3 : DE X k2 env mk2) (h4 : DE X v2 env mv2) (hr : ∀ kvs, DG X rest W (env' kvs) (k kvs)) (hs : ∀ kvs, env.set i (.dk kvs) = env' kvs := by intro _; rfl)
    (hi : X.N[i]? = some x := by rfl) (hsw : swapsWith (.Dict [some k1, some k2] [v1, v2] p0) (some (.Name x pos')) pos.line X.env = pure false := by rfl) (hf : X.fn x = true ∨ X.env.scope.names.lookup x = some .local := by first | exact .inl rfl | exact .inr rfl | assumption)
    (hpp : ∀ {t1 t2 t3 t4 : TE}, PE X k1 t1 → PE X v1 t2 → PE X k2 t3 → PE X v2 t4 → PPs X p0 [some k1, some k2] [v1, v2] [(t1, t2), (t3, t4)] := by exact fun a b c d => pps_cons a b (pps_cons c d pps_nil)) :
    DG X (.Assign [.Name x pos'] (.Dict [some k1, some k2] [v1, v2] p0) pos :: rest) W env (mk1.bind fun a => mv1.bind fun b => mk2.bind fun c => mv2.bind fun d => (asI a).bind fun i => (asI c).bind fun j => k (putD (putD [] (Sum.inl i) b) (Sum.inl j) d)) :=
  PSs.mono (pss_cons (ps_set (i := i) hN hi hx (pe_disp (hpp h1 h2 h3 h4) rfl rfl (fun z => by cases z) (by show 2 ≤ 15; decide)) hsw hf) (pss_ex hr)) fun D σ H ⟨F0, H0, F, o, ok, em, q⟩ => by
    obtain ⟨a, ha, em1⟩ := Option.bind_eq_some_iff.mp em
    obtain ⟨b, hb, em2⟩ := Option.bind_eq_some_iff.mp em1
    obtain ⟨c, hc, em3⟩ := Option.bind_eq_some_iff.mp em2
    obtain ⟨d, hd, em4⟩ := Option.bind_eq_some_iff.mp em3
    obtain ⟨n1, hn1, em5⟩ := Option.bind_eq_some_iff.mp em4
    obtain ⟨n2, hn2, em6⟩ := Option.bind_eq_some_iff.mp em5
    have e1 := asI_some hn1
    subst e1
    have e2 := asI_some hn2
    subst e2
    intro p hp
    have g0 : Grow F H F (upd H p (.dK [])) := Grow.newH ok.sub hp
    have ok0 := ok.grow g0
    have fp : F p = none := fresh_back ok.sub hp
    refine ⟨F0, H0, F, _, ok0, ha, fun w1 F1 H1 g1 d1 => ⟨F0, H0, F1, _, ok0.grow g1, hb, fun w2 F2 H2 g2 d2 => ⟨F0, H0, F2, _, ok0.grow (g1.trans g2), hc, fun w3 F3 H3 g3 d3 => ⟨F0, H0, F3, _, ok0.grow ((g1.trans g2).trans g3), hd, fun w4 F4 H4 g4 d4 => ?_⟩⟩⟩⟩
    have g14 := ((g1.trans g2).trans g3).trans g4
    have hp4 : H4 p = some (.dK []) := g14.hh _ _ upd_same
    have fp4 : F4 p = none := g14.own p fp (by rw [upd_same]; exact fun z => nomatch z)
    rw [dv_int d1, dv_int d3]
    have hkv : KvD X.K F4 (mergeK [] [(Sum.inl n1, w2), (Sum.inl n2, w4)]) (putD (putD [] (Sum.inl n1) b) (Sum.inl n2) d) := ((KvD.nil).put (dv_mono (g3.trans g4).ff d2)).put d4
    refine ⟨hp4, [(Sum.inl n1, w2), (Sum.inl n2, w4)], rfl, by show 2 ≤ 15; decide, putD (putD [] (Sum.inl n1) b) (Sum.inl n2) d, F0, H0, F4, o, ?_, em6, W.mono g14.ff q⟩
    rw [← hs]
    have gH : Grow F H F4 (upd H4 p (.dK (mergeK [] [(Sum.inl n1, w2), (Sum.inl n2, w4)]))) := ⟨g14.ff, Ex.mut (g0.hh.trans g14.hh) hp, Ex.mut g14.sub fp4, fun y h k => g14.own y h (Ex.nn g0.hh k)⟩
    have okE := ok.grow gH
    have h00 : H0 p = none := fresh_back ok.g.hh hp
    -- the new dict goes to its slot
    exact ok.setNew gH ⟨p, _, rfl, h00, fp4, upd_same, hkv.keys, hkv.vals⟩ fun c q => by
      cases q
      exact hp
/-- x[e] = v -/
theorem dg_dput (i : Nat) {v : Expr} {px q0 : Pos} {me mv : Option PyData} {kvs : List (Key × PyData)} {k : List (Key × PyData) → Option β} {env' : List (Key × PyData) → List DV.Slot} (hu : X.A.units + 1 < cLine) (hv : DE X v env mv) (he : DE X e env me) (hr : ∀ kvs, DG X rest W (env' kvs) (k kvs))
    (ho : env[i]? = some (.dk kvs) := by rfl) (hs : ∀ kvs, env.set i (.dk kvs) = env' kvs := by intro _; rfl) (hN : X.N[i]? = some x := by rfl) (hvi : Vis X.env.scope x := by first | exact Or.inl rfl | exact Or.inr (Or.inl rfl) | exact Or.inr (Or.inr rfl))
    (hd : (x == ("__debug__" : Str)) = false := by decide) (hcd : (x == ("__classdict__" : Str)) = false := by decide) (hsw : swapsWith v (some (.Subscript (.Name x px) e q0)) pos.line X.env = pure false := by rfl) :
    DG X (.Assign [.Subscript (.Name x px) e q0] v pos :: rest) W env (mv.bind fun d => me.bind fun y => (asI y).bind fun n => if szOk kvs.length then k (putD kvs (Sum.inl n) d) else none) :=
  PSs.mono (pss_cons (ps_dput hu (pe_var (i := i) hN hvi hd hcd) he hv hsw) (pss_ex hr)) fun D σ H ⟨F0, H0, F, o, ok, em, q⟩ => by
    obtain ⟨d, hd, em1⟩ := Option.bind_eq_some_iff.mp em
    obtain ⟨y, hy, em2⟩ := Option.bind_eq_some_iff.mp em1
    obtain ⟨n, hn, em3⟩ := Option.bind_eq_some_iff.mp em2
    split at em3
    case isFalse => cases em3
    rename_i hz
    have ey := asI_some hn
    subst ey
    refine ⟨F0, H0, F, d, ok, hd, fun w1 F1 H1 g1 d1 => ?_⟩
    have ok1 := ok.grow g1
    obtain ⟨a, vs, e1, _⟩ := dk_at ok1 ho
    refine ⟨.ref a, e1, F0, H0, F1, _, ok1, hy, fun w2 F2 H2 g2 d2 => ?_⟩
    have ok2 := ok1.grow g2
    obtain ⟨a', vs', e1', h0, hf, hh, hds⟩ := dk_at ok2 ho
    rw [e1] at e1'
    cases e1'
    rw [dv_int d2]
    refine ⟨a, _, rfl, DPut.k (k := Sum.inl n) hh (by rw [hds.len]; exact hz.lt), putD kvs (Sum.inl n) d, F0, H0, F2, o, ?_, em3, W.mono (g1.trans g2).ff q⟩
    rw [← hs]
    have hkv := hds.put (k := Sum.inl n) (dv_mono g2.ff d1)
    exact ok2.mut ho rfl rfl e1 ⟨a, _, rfl, h0, hf, upd_same, hkv.keys, hkv.vals⟩
end
end DV
end
section
set_option Elab.async false
set_option linter.all false
set_option maxRecDepth 100000
set_option maxHeartbeats 4000000
/-! small words for the printed walks -/
namespace DV
open PySem PySem.Spec PyProof.Rows L2 Evl
theorem wk_nil : Weak [] [] := trivial
theorem wk_any {s : DV.Slot} {e e' : List DV.Slot} (h : Weak e e') : Weak (s :: e) (.any :: e') := h
theorem wk_same {s : DV.Slot} {e e' : List DV.Slot} (h : Weak e e') : Weak (s :: e) (s :: e') := by
  cases s with
  | any => exact h
  | im d => exact ⟨rfl, h⟩
  | ow d => exact ⟨rfl, h⟩
  | dk d => exact ⟨rfl, h⟩
  | dt d => exact ⟨rfl, h⟩
  | kt d => exact ⟨rfl, h⟩
  | pin d => exact ⟨rfl, h⟩
  | owp a d => exact ⟨rfl, h⟩
  | oo d => exact ⟨rfl, h⟩
  | ob a b c d => exact ⟨rfl, h⟩
  | rob a b c d => exact ⟨rfl, h⟩
theorem hu65 {k : Nat} {A : Around} (hr : Room k A) : A.units + 65 < cLine := by
  have := hr.un
  omega
theorem hu64 {k : Nat} {A : Around} (hr : Room k A) : A.units + 64 < cLine := hr.units
theorem hu1 {k : Nat} {A : Around} (hr : Room k A) : A.units + 1 < cLine := by
  have := hr.un
  omega
theorem bt_len : bootBuiltins "len" = some (.builtin "len") := by decide +kernel
theorem bt_abs : bootBuiltins "abs" = some (.builtin "abs") := by decide +kernel
theorem bt_min : bootBuiltins "min" = some (.builtin "min") := by decide +kernel
theorem bt_max : bootBuiltins "max" = some (.builtin "max") := by decide +kernel
theorem bt_sum : bootBuiltins "sum" = some (.builtin "sum") := by decide +kernel
theorem bt_all : bootBuiltins "all" = some (.builtin "all") := by decide +kernel
theorem bt_sorted : bootBuiltins "sorted" = some (.builtin "sorted") := by decide +kernel
theorem bt_int : bootBuiltins "int" = some (.type "int") := by decide +kernel
theorem bt_bool : bootBuiltins "bool" = some (.type "bool") := by decide +kernel
theorem bt_tuple : bootBuiltins "tuple" = some (.type "tuple") := by decide +kernel
theorem bt_list : bootBuiltins "list" = some (.type "list") := by decide +kernel
theorem bt_str : bootBuiltins "str" = some (.type "str") := by decide +kernel
theorem kit_n_int : kitB "NoneType" "int" = some false := by decide +kernel
theorem kit_b_int : kitB "bool" "int" = some true := by decide +kernel
theorem kit_i_int : kitB "int" "int" = some true := by decide +kernel
theorem kit_s_int : kitB "str" "int" = some false := by decide +kernel
theorem kit_l_int : kitB "list" "int" = some false := by decide +kernel
theorem kit_t_int : kitB "tuple" "int" = some false := by decide +kernel
theorem kit_n_bool : kitB "NoneType" "bool" = some false := by decide +kernel
theorem kit_b_bool : kitB "bool" "bool" = some true := by decide +kernel
theorem kit_i_bool : kitB "int" "bool" = some false := by decide +kernel
theorem kit_s_bool : kitB "str" "bool" = some false := by decide +kernel
theorem kit_l_bool : kitB "list" "bool" = some false := by decide +kernel
theorem kit_t_bool : kitB "tuple" "bool" = some false := by decide +kernel
theorem kit_n_str : kitB "NoneType" "str" = some false := by decide +kernel
theorem kit_b_str : kitB "bool" "str" = some false := by decide +kernel
theorem kit_i_str : kitB "int" "str" = some false := by decide +kernel
theorem kit_s_str : kitB "str" "str" = some true := by decide +kernel
theorem kit_l_str : kitB "list" "str" = some false := by decide +kernel
theorem kit_t_str : kitB "tuple" "str" = some false := by decide +kernel
theorem kit_n_tuple : kitB "NoneType" "tuple" = some false := by decide +kernel
theorem kit_b_tuple : kitB "bool" "tuple" = some false := by decide +kernel
theorem kit_i_tuple : kitB "int" "tuple" = some false := by decide +kernel
theorem kit_s_tuple : kitB "str" "tuple" = some false := by decide +kernel
theorem kit_l_tuple : kitB "list" "tuple" = some false := by decide +kernel
theorem kit_t_tuple : kitB "tuple" "tuple" = some true := by decide +kernel
/-- the law's own promise -/
def spLaw (K : PySem.W.Frag) : Sp := fun vs H Q _ => ∃ (a : Addr) (ns : List Int), vs = [.ref a] ∧ SqL K H a (ns.map V.int) ∧ ns.length ≤ 63 ∧ ∀ H', Q (.bl true) H'
def scrD (ns : List Int) : PyData := .dict (ns.map fun n => (.int n, .none))
theorem law_imp {P : Program} {w : World} {K : PySem.W.Frag} {mg : Str → Option Value} {base : Heap} {CX : CXT} {k : Nat} {f : Addr} {fd : FuncData} {ps : List Str} {fm : PyData → Option PyData} (G : FnOk P w K mg base CX k f fd ps (spD K 1 (ap1 fm)))
    (h : ∀ ns : List Int, ns.length ≤ 63 → fm (scrD ns) = some (.bool true)) : FnOk P w K mg base CX k f fd ps (spLaw K) := G.imp fun vs H Q E ⟨a, ns, e, hs, hl, q⟩ => by
  subst e
  refine ⟨H, [scrD ns], .bool true, rfl, Ex.refl H, .cons (.scr hs) .nil, h ns hl, fun v F' H' g hv => ?_⟩
  rw [dv_bool hv]
  exact q H'
end DV
end
section
set_option Elab.async false
set_option linter.all false
set_option maxRecDepth 100000
set_option maxHeartbeats 4000000
/-! DV: reversed(range(..)), tuple(range(a, b, -1)) -/
namespace DV
open PySem PySem.Spec PyProof.Rows L2 Evl
section
variable {X : Cx} {env : List DV.Slot} {a b c e : Expr} {es : List Expr} {pos p p2 pos2 : Pos} {ma mb m : Option PyData} {ms : Option (List PyData)} {x : Str}
def stepD (lo c : Int) (n : Nat) : List PyData := (List.range n).map fun i => .int (lo + ((i : Nat) : Int) * c)
theorem stepD_len (lo c : Int) (n : Nat) : (stepD lo c n).length = n := by
  unfold stepD
  rw [List.length_map, List.length_range]
theorem itd_rngC {K : PySem.W.Frag} {F H : Hp} {lo c : Int} {n : Nat} : ItD K (Itc lo c n) F H (stepD lo c n) := by
  refine ⟨fun i d F1 H1 e1 s1 hi => ?_, fun i F1 H1 e1 s1 hi => by rw [stepD_len] at hi; exact hi⟩
  have hl : i < n := by
    have := (List.getElem?_eq_some_iff.mp hi).1
    rwa [stepD_len] at this
  unfold stepD at hi
  rw [List.getElem?_map, List.getElem?_range hl] at hi
  cases hi
  refine ⟨hl, fun x H2 y => ?_⟩
  obtain ⟨rfl, rfl⟩ := y
  exact ⟨F1, Grow.refl s1, .int _⟩
theorem rev_step (i j : Int) : (rgD i j).reverse = stepD (i + (((j - i).toNat : Nat) : Int) - 1) (-1) (j - i).toNat := by
  unfold rgD intsUp stepD
  apply List.ext_getElem?
  intro k
  generalize hn : (j - i).toNat = n
  by_cases h : k < n
  · rw [List.getElem?_reverse (by rw [List.length_map, List.length_range]; exact h), List.getElem?_map, List.getElem?_map, List.length_map, List.length_range, List.getElem?_range (by omega), List.getElem?_range h]
    show some (PyData.int (i + ((n - 1 - k : Nat) : Int))) = some (PyData.int (i + (n : Int) - 1 + (k : Int) * -1))
    congr 2
    omega
  · rw [List.getElem?_eq_none (by simp; omega), List.getElem?_eq_none (by simp; omega)]
theorem di_revR {tg : Expr} {mr : Option (Int × Int)} (hg : Gl X "reversed") (hm : X.mg "reversed" = none) (he : DRg X e env mr) (hs : starEach [e] X.env = (false, eval e X.env) :: starEach [] X.env := by rfl) :
    DI X tg (.Call (.Name "reversed" p) [e] [] pos) env (mr.bind fun ab => if rgSmall ab then some (rgD ab.1 ab.2).reverse else none) := by
  refine PI.mono (pi_revR hg hm he hs) fun σ H R ⟨F0, H0, F, ds, ok, em, q⟩ => ?_
  obtain ⟨ab, hab, em⟩ := Option.bind_eq_some_iff.mp em
  split at em
  · rename_i hsm
    cases em
    obtain ⟨h1, h2, h3, h4⟩ := hsm
    refine ⟨F0, H0, F, ab, ok, hab, fun F1 H1 g1 => ⟨by omega, by omega, by omega, by omega, q _ F1 H1 g1 ?_⟩⟩
    rw [rev_step]
    exact itd_rngC
  · cases em
def rgV3 (i c : Int) (n : Nat) : List V := (List.range n).map fun k => V.int (i + ((k : Nat) : Int) * c)
theorem vals_rg3 {i c : Int} {n : Nat} {acc : Array Value} (h : ItemsOf (fun k v => ∃ t, v = .int (i + k * c) t) acc n) : Vals (rgV3 i c n) acc.toList := by
  have e : acc.toList.length = n := by rw [Array.length_toList]; exact h.1
  unfold rgV3
  rw [← e]
  refine vals_of_get acc.toList _ fun j u hj => ?_
  obtain ⟨t, rfl⟩ := h.2 j u (by rw [← hj, Array.getElem?_toList])
  exact ⟨t, rfl⟩
theorem rg3_dv {K : PySem.W.Frag} {F : Hp} (i j : Int) : DvAll K F (rgV3 i (-1) (i - j).toNat) (rg3D i j (-1)) := by
  unfold rgV3 rg3D
  generalize List.range (i - j).toNat = l
  induction l with
  | nil => exact .nil
  | cons k r ih =>
    refine .cons ?_ ih
    show Dv K F (V.int (i + ((k : Nat) : Int) * -1)) (PyData.int (i - ((k : Nat) : Int)))
    rw [show i + ((k : Nat) : Int) * -1 = i - ((k : Nat) : Int) by omega]
    exact .int _
def tTup3 (ta : TA) : TE := fun σ H Q => ta σ H fun vs H1 => ∃ i j, vs = [.int i, .int j, .int (-1)] ∧ -1000 ≤ i ∧ i ≤ 1000 ∧ -1000 ≤ j ∧ j ≤ 1000 ∧ NewT (rgV3 i (-1) (i - j).toNat) H1 Q
theorem pe_tup3 {ta : TA} (hc : X.calm = true) (hg : Gl X "tuple") (hm : X.mg "tuple" = none) (hg2 : Gl X "range") (hm2 : X.mg "range" = none) (ha : PA X [a, b, c] ta)
    (hs : starEach [a, b, c] X.env = (false, eval a X.env) :: starEach [b, c] X.env := by rfl) (hpl : (backTo pos2 (starEach [b, c] X.env)).any (·.1) = false := by rfl)
    (na : starEach [.Call (.Name "range" p2) [a, b, c] [] pos2] X.env = (false, eval (.Call (.Name "range" p2) [a, b, c] [] pos2) X.env) :: starEach [] X.env := by rfl) :
    PE X (.Call (.Name "tuple" p) [.Call (.Name "range" p2) [a, b, c] [] pos2] [] pos) (tTup3 ta) := by
  refine ⟨fun pins s σ H Q I h => ?_⟩
  refine Call_ (ld_blt I hg hm boot_tuple (PyProof.Rows.callWith_type1 (args_cons (thn (Q := fun x s' => ∃ r i j t u v H', x = .ref r ∧ IsRange s'.heap r i j (-1) t u v ∧ Inv X pins σ H' s' ∧ -1000 ≤ i ∧ i ≤ 1000 ∧ -1000 ≤ j ∧ j ≤ 1000 ∧ NewT (rgV3 i (-1) (i - j).toNat) H' Q) ?_ fun x s1 ⟨r, i, j, t, u, v, H1, ex, hr, I1, b1, b2, b3, b4, q⟩ => args_nil ?_) na) na))
  · refine Call_ (ld_blt I hg2 hm2 boot_range (PyProof.Rows.callWith_type1 (thn (ha.run pos2 pins s σ H _ I h) fun us s1 ⟨vs, H1, I1, r1, q1⟩ => ?_) hs hpl))
    obtain ⟨i, j, e, b1, b2, b3, b4, q⟩ := q1
    subst e
    cases r1 with
    | cons r rr =>
      cases rr with
      | cons r' rr =>
        cases rr with
        | cons r'' rr =>
          cases rr
          obtain ⟨t, rfl⟩ := r
          obtain ⟨t', rfl⟩ := r'
          obtain ⟨t'', rfl⟩ := r''
          refine call_range_3 (by decide) ?_ (.inl (PyProof.noPylong_small (by decide)))
          exact ⟨_, i, j, t, t', t'', H1, rfl, IsRange.new .., I1.kept (t' := s1.toks) fun b o e => Heap.get?_push_of_some _ e, b1, b2, b3, b4, q⟩
  · subst ex
    refine call_tuple_range (n := (i - j).toNat) (I1.ok.hd hc) hr (PySem.W.small_down (by omega) (by omega) (by omega) (by omega)) (PySem.W.rangeSize_downNat i j) (by omega) fun h' tk acc hk hi => ?_
    have I2 : Inv X pins σ H1 { s1 with heap := h', toks := tk } := I1.kept hk
    have := newT_ok (s := { s1 with toks := tk }) (t' := tk) (its := acc.toList) (xs := rgV3 i (-1) (i - j).toNat) I2 (by unfold rgV3; rw [List.length_map, List.length_range, sizeLine_eq]; omega) (vals_rg3 hi) q
    rw [show tO acc.toList = { cls := .type "tuple", data := .seq acc } by unfold tO; rw [Array.toArray_toList]] at this
    exact this
theorem de_tupleRg3 (hc : X.calm = true) (hg : Gl X "tuple") (hm : X.mg "tuple" = none) (hg2 : Gl X "range") (hm2 : X.mg "range" = none) (ha : DA X [a, b, c] env ms)
    (hs : starEach [a, b, c] X.env = (false, eval a X.env) :: starEach [b, c] X.env := by rfl) (hpl : (backTo pos2 (starEach [b, c] X.env)).any (·.1) = false := by rfl)
    (na : starEach [.Call (.Name "range" p2) [a, b, c] [] pos2] X.env = (false, eval (.Call (.Name "range" p2) [a, b, c] [] pos2) X.env) :: starEach [] X.env := by rfl) :
    DE X (.Call (.Name "tuple" p) [.Call (.Name "range" p2) [a, b, c] [] pos2] [] pos) env (ms.bind tupleRg3) :=
  PE.mono (pe_tup3 hc hg hm hg2 hm2 ha hs hpl na) fun σ H Q ⟨F0, H0, F, d, ok, em, q⟩ => by
    obtain ⟨ds, hd, em⟩ := Option.bind_eq_some_iff.mp em
    refine ⟨F0, H0, F, ds, ok, hd, fun us F1 H1 g h1 => ?_⟩
    unfold tupleRg3 at em
    split at em
    · split at em
      · rename_i i j k hk
        cases em
        obtain ⟨rfl, b1, b2, b3, b4⟩ := hk
        cases h1 with
        | cons p1 h1 =>
          cases h1 with
          | cons p2 h1 =>
            cases h1 with
            | cons p3 h1 =>
              cases h1
              cases p1
              cases p2
              cases p3
              exact ⟨i, j, rfl, b1, b2, b3, b4, newT_dv g.sub (rg3_dv i j) fun v F2 H2 g2 h2 => q v F2 H2 (g.trans g2) h2⟩
      · cases em
    · cases em
/-! a comprehension inside of a comprehension -/
theorem lookup_rel {en : Env} : ∀ {names : List (Str × NameKind)} {y : Str}, (match names.lookup y with | some .cell => true | some .free => true | _ => false) = true →
    (match (names.map fun (n, k) => if (k == NameKind.free && en.scope.kind == .function && en.kindOf n == some .cell) then (n, NameKind.cell) else (n, k)).lookup y with | some .cell => true | some .free => true | _ => false) = true
  | [], _, h => h
  | (m, k) :: r, y, h => by
    rw [List.map_cons]
    by_cases hy : y = m
    · subst hy
      have e : ∀ k' : NameKind, List.lookup y ((y, k') :: r) = some k' := fun k' => by simp [List.lookup]
      rw [e] at h
      by_cases hc : (k == NameKind.free && en.scope.kind == .function && en.kindOf y == some .cell) = true
      · simp only [hc, if_true]
        simp [List.lookup]
      · simp only [hc, Bool.false_eq_true, if_false]
        simp only [List.lookup, beq_self_eq_true]
        exact h
    · have hb : (y == m) = false := by simpa using hy
      have h2 : (match r.lookup y with | some .cell => true | some .free => true | _ => false) = true := by
        simp only [List.lookup, hb] at h
        exact h
      have ih := lookup_rel (en := en) h2
      by_cases hc : (k == NameKind.free && en.scope.kind == .function && en.kindOf m == some .cell) = true
      · simp only [hc, if_true, List.lookup, hb]
        exact ih
      · simp only [hc, Bool.false_eq_true, if_false, List.lookup, hb]
        exact ih
theorem blkOk_rel {N : List Str} {sc scope : Scope} {own : List (Str × Nat)} {en : Env} (h : blkC N sc scope own = true) : BlkOk N (relabel sc en) scope own := by
  refine blkOk_by ?_
  unfold blkC at h ⊢
  rw [Bool.and_eq_true] at h ⊢
  refine ⟨h.1, ?_⟩
  rw [List.all_eq_true] at h ⊢
  intro y hy
  have := h.2 y hy
  obtain ⟨a, k⟩ := y
  cases k <;> first | exact this | exact lookup_rel this
end
end DV
end
section
set_option Elab.async false
set_option linter.all false
set_option maxRecDepth 100000
set_option maxHeartbeats 4000000
/-! DV: loops over pairs -/
namespace DV
open PySem PySem.Spec PyProof.Rows L2 Evl
section
variable {X : Cx} {env : List DV.Slot} {a b e : Expr} {es : List Expr} {pos p : Pos} {x y : Str} {α β : Type} {W : Wk β} {rest : List Stmt}
theorem pair_in {K : PySem.W.Frag} {F0 H0 F H : Hp} {σ : L2.St} {env : List DV.Slot} {i j : Nat} {v : V} {d : PyData} {ab : PyData × PyData} (hd : asPair d = some ab) (hv : Dv K F v d) (ok : EOk K F0 H0 σ F H env) {Q : L2.St → Hp → Prop}
    (q : ∀ σ', EOk K F0 H0 σ' F H ((env.set i (.im ab.1)).set j (.im ab.2)) → Q σ' H) : gTup K 2 (gCons (gName i) (gCons (gName j) gNil)) v σ H Q := by
  have er := asPair_some hd
  subst er
  cases hv with
  | tup ht hto htd =>
    rename_i pt' ob xs
    match xs, htd with
    | [va, vb], .cons da (.cons db .nil) => exact ⟨pt', [va, vb], rfl, ex_t ok.sub (dv_sqT ht), rfl, va, [vb], rfl, vb, [], rfl, rfl, q _ ((ok.set da).set db)⟩
theorem dg_for2 (i j : Nat) {ev : α → List DV.Slot} {px py pt : Pos} {kt : Nat} {iter : Expr} {body : List Stmt} {ml : Option (List PyData)} {f : α → PyData → PyData → Option α} {k : α → Option β} {a0 : α} {env' : α → PyData → PyData → List DV.Slot}
    (hp : PassesOwn (model X.prog X.w) X.A X.env X.xe) (hc : X.calm = true) (hN : X.N.Nodup) (hx : Loc X.env.scope x) (hy : Loc X.env.scope y) (hi : DI X (.Tuple [.Name x px, .Name y py] kt pt) iter env ml) (h0 : Weak env (ev a0)) (hb : ∀ a d e, DN X body ev (env' a d e) (f a d e)) (hr : ∀ a, DG X rest W (ev a) (k a))
    (hs : ∀ a d e, ((ev a).set i (.im d)).set j (.im e) = env' a d e := by intro _ _ _; rfl) (hxi : X.N[i]? = some x := by rfl) (hyj : X.N[j]? = some y := by rfl) (hfx : X.fn x = true ∨ X.env.scope.names.lookup x = some .local := by first | exact .inl rfl | exact .inr rfl | assumption) (hfy : X.fn y = true ∨ X.env.scope.names.lookup y = some .local := by first | exact .inl rfl | exact .inr rfl | assumption)
    (hs1 : (assignEach [.Name x px, .Name y py] X.env).map (·.2) = assign (.Name x px) X.env :: (assignEach [.Name y py] X.env).map (·.2) := by rfl)
    (hs2 : (assignEach [.Name y py] X.env).map (·.2) = assign (.Name y py) X.env :: (assignEach [] X.env).map (·.2) := by rfl)
    (hn : (assignEach [.Name x px, .Name y py] X.env).length = 2 := by rfl) (hst : (assignEach [.Name x px, .Name y py] X.env).findIdx? (·.1) = none := by rfl) (hfs : ∀ x, foldedSetIterable iter X.env x = pure x := by intro _; rfl) :
    DG X (.For (.Tuple [.Name x px, .Name y py] kt pt) iter body [] pos :: rest) W env (ml.bind fun ds => (ds.foldlM (fun a d => (asPair d).bind fun ab => f a ab.1 ab.2) a0).bind k) := by
  refine PSs.mono (pss_cons (ps_for hp hc hi (pg_tup hc (pgs_cons (pg_name (i := i) hN hxi hx hfx) (pgs_cons (pg_name (i := j) hN hyj hy hfy) pgs_nil hs2) hs1) hn hst) (pss_ex fun a => pss_ex fun d => pss_ex fun e => hb a d e) hfs) (pss_ex hr)) fun D σ H ⟨F0, H0, F, o, ok, em, q⟩ => ?_
  obtain ⟨ds, hd, em⟩ := Option.bind_eq_some_iff.mp em
  obtain ⟨a1, ha1, em⟩ := Option.bind_eq_some_iff.mp em
  refine ⟨F0, H0, F, ds, ok, hd, fun J F1 H1 g it => ?_⟩
  refine ⟨fun n m σ' H' => n + m = ds.length ∧ ∃ a F', Ex F1 F' ∧ EOk X.K F0 H0 σ' F' H' (ev a) ∧ (ds.drop n).foldlM (fun a d => (asPair d).bind fun ab => f a ab.1 ab.2) a = some a1, ⟨ds.length, by omega, a0, F1, Ex.refl F1, (ok.grow g).wk h0, ha1⟩, ?_⟩
  rintro n m σ' H' ⟨hm, a, F', x1, ok', hf'⟩
  by_cases hlt : n < ds.length
  · have hget : ds[n]? = some ds[n] := List.getElem?_eq_getElem hlt
    obtain ⟨hgo, hyl⟩ := it.go n _ F' H' x1 ok'.sub hget
    rw [List.drop_eq_getElem_cons hlt, List.foldlM_cons] at hf'
    obtain ⟨a2, ha2, hf'⟩ := Option.bind_eq_some_iff.mp hf'
    obtain ⟨ab, hab, ha2⟩ := Option.bind_eq_some_iff.mp ha2
    refine .inr ⟨hgo, fun σ2 H2 => ∃ F2, Ex F1 F2 ∧ EOk X.K F0 H0 σ2 F2 H2 (ev a2), fun σ2 H2 ⟨F2, y1, y2⟩ => ⟨m - 1, by omega, by omega, a2, F2, y1, y2, hf'⟩, fun v H2 hy => ?_⟩
    obtain ⟨F2, g2, dv⟩ := hyl v H2 hy
    refine pair_in hab dv (ok'.grow g2) fun σ3 o3 => ⟨a, ab.1, ab.2, F0, H0, F2, a2, ?_, ha2, fun σ3 F3 H3 x3 o3 => ⟨F3, (x1.trans g2.ff).trans x3, o3⟩⟩
    rw [← hs]
    exact o3
  · have e : ds.drop n = [] := List.drop_eq_nil_of_le (by omega)
    rw [e] at hf'
    cases hf'
    exact .inl ⟨it.stop n F' H' x1 ok'.sub (by omega), _, F0, H0, F', o, ok', em, W.mono (g.ff.trans x1) q⟩
theorem ps_forS2 (i j : Nat) {ev : α → List DV.Slot} {px py pt : Pos} {kt : Nat} {iter : Expr} {body : List Stmt} {ml : Option (List PyData)} {f : α → PyData → PyData → Option (Out α)} {a0 : α} {env' : α → PyData → PyData → List DV.Slot}
    (hp : PassesOwn (model X.prog X.w) X.A X.env X.xe) (hc : X.calm = true) (hN : X.N.Nodup) (hx : Loc X.env.scope x) (hy : Loc X.env.scope y) (hi : DI X (.Tuple [.Name x px, .Name y py] kt pt) iter env ml) (h0 : Weak env (ev a0)) (hb : ∀ a d e, DS X body ev (env' a d e) (f a d e))
    (hs : ∀ a d e, ((ev a).set i (.im d)).set j (.im e) = env' a d e := by intro _ _ _; rfl) (hxi : X.N[i]? = some x := by rfl) (hyj : X.N[j]? = some y := by rfl) (hfx : X.fn x = true ∨ X.env.scope.names.lookup x = some .local := by first | exact .inl rfl | exact .inr rfl | assumption) (hfy : X.fn y = true ∨ X.env.scope.names.lookup y = some .local := by first | exact .inl rfl | exact .inr rfl | assumption)
    (hs1 : (assignEach [.Name x px, .Name y py] X.env).map (·.2) = assign (.Name x px) X.env :: (assignEach [.Name y py] X.env).map (·.2) := by rfl)
    (hs2 : (assignEach [.Name y py] X.env).map (·.2) = assign (.Name y py) X.env :: (assignEach [] X.env).map (·.2) := by rfl)
    (hn : (assignEach [.Name x px, .Name y py] X.env).length = 2 := by rfl) (hst : (assignEach [.Name x px, .Name y py] X.env).findIdx? (·.1) = none := by rfl) (hfs : ∀ x, foldedSetIterable iter X.env x = pure x := by intro _; rfl) :
    PS X (.For (.Tuple [.Name x px, .Name y py] kt pt) iter body [] pos) (tG X.K (wS X.K ev) env (ml.bind fun ds => forO (fun a d => (asPair d).bind fun ab => f a ab.1 ab.2) a0 ds)) := by
  refine PS.mono (ps_for hp hc hi (pg_tup hc (pgs_cons (pg_name (i := i) hN hxi hx hfx) (pgs_cons (pg_name (i := j) hN hyj hy hfy) pgs_nil hs2) hs1) hn hst) (pss_ex fun a => pss_ex fun d => pss_ex fun e => hb a d e) hfs) fun D σ H ⟨F0, H0, F, o, ok, em, q⟩ => ?_
  obtain ⟨ds, hd, em⟩ := Option.bind_eq_some_iff.mp em
  refine ⟨F0, H0, F, ds, ok, hd, fun J F1 H1 g it => ?_⟩
  refine ⟨fun n m σ' H' => n + m = ds.length ∧ ∃ a F', Ex F1 F' ∧ EOk X.K F0 H0 σ' F' H' (ev a) ∧ forO (fun a d => (asPair d).bind fun ab => f a ab.1 ab.2) a (ds.drop n) = some o, ⟨ds.length, by omega, a0, F1, Ex.refl F1, (ok.grow g).wk h0, em⟩, ?_⟩
  rintro n m σ' H' ⟨hm, a, F', x1, ok', hf'⟩
  by_cases hlt : n < ds.length
  · have hget : ds[n]? = some ds[n] := List.getElem?_eq_getElem hlt
    obtain ⟨hgo, hyl⟩ := it.go n _ F' H' x1 ok'.sub hget
    rw [List.drop_eq_getElem_cons hlt, forO_cons] at hf'
    obtain ⟨z, hz, hf'⟩ := Option.bind_eq_some_iff.mp hf'
    obtain ⟨ab, hab, hz⟩ := Option.bind_eq_some_iff.mp hz
    cases z with
    | go a2 =>
      refine .inr ⟨hgo, fun σ2 H2 => ∃ F2, Ex F1 F2 ∧ EOk X.K F0 H0 σ2 F2 H2 (ev a2), fun σ2 H2 ⟨F2, y1, y2⟩ => ⟨m - 1, by omega, by omega, a2, F2, y1, y2, hf'⟩, fun v H2 hy => ?_⟩
      obtain ⟨F2, g2, dv⟩ := hyl v H2 hy
      refine pair_in hab dv (ok'.grow g2) fun σ3 o3 => ⟨a, ab.1, ab.2, F0, H0, F2, .go a2, ?_, hz, fun σ3 F3 H3 x3 o3 => ⟨F3, (x1.trans g2.ff).trans x3, o3⟩⟩
      rw [← hs]
      exact o3
    | ret r =>
      cases hf'
      refine .inr ⟨hgo, fun _ _ => False, fun _ _ z => z.elim, fun v H2 hy => ?_⟩
      obtain ⟨F2, g2, dv⟩ := hyl v H2 hy
      refine pair_in hab dv (ok'.grow g2) fun σ3 o3 => ⟨a, ab.1, ab.2, F0, H0, F2, .ret r, ?_, hz, q⟩
      rw [← hs]
      exact o3
  · have e : ds.drop n = [] := List.drop_eq_nil_of_le (by omega)
    rw [e] at hf'
    cases hf'
    exact .inl ⟨it.stop n F' H' x1 ok'.sub (by omega), q _ F' H' (g.ff.trans x1) ok'⟩
end
end DV
end
section
set_option Elab.async false
set_option linter.all false
set_option maxRecDepth 100000
set_option maxHeartbeats 4000000
/-! DV: tuples that are handed out one by one (zip, enumerate), targets of several names -/
namespace DV
open PySem PySem.Spec PyProof.Rows L2 Evl RZ
/-- J walks tuples of data -/
structure ItP (K : PySem.W.Frag) (J : It) (F H : Hp) (ds : List PyData) : Prop where
  go : ∀ (i : Nat) (es : List PyData) (F1 H1 : Hp), Ex F F1 → Ex F1 H1 → ds[i]? = some (.tuple es) → J.go i H1 ∧ ∀ v H2, J.yld i H1 v H2 → ∃ F2 a xs, v = .ref a ∧ Grow F1 H1 F2 H2 ∧ SqT K H2 a xs ∧ DvAll K F2 xs es
  stop : ∀ (i : Nat) (F1 H1 : Hp), Ex F F1 → Ex F1 H1 → ds.length ≤ i → J.stop i H1
def tP (K : PySem.W.Frag) (env : List DV.Slot) (m : Option (List PyData)) : TI := fun σ H R => ∃ F0 H0 F ds, EOk K F0 H0 σ F H env ∧ m = some ds ∧ ∀ J F' H', Grow F H F' H' → ItP K J F' H' ds → R J H'
abbrev DP (X : Cx) (tg iter : Expr) (env : List DV.Slot) (m : Option (List PyData)) : Prop := PI X tg iter (tP X.K env m)
def pZip : List PyData → Option (List PyData)
  | [.tuple as, .tuple bs] => some ((as.zip bs).map fun p => .tuple [p.1, p.2])
  | _ => none
def enumD : Nat → List PyData → List PyData
  | _, [] => []
  | n, d :: r => .tuple [.int (n : Nat), d] :: enumD (n + 1) r
theorem enumD_len : ∀ (ds : List PyData) (n : Nat), (enumD n ds).length = ds.length
  | [], _ => rfl
  | d :: r, n => by
    show (enumD (n + 1) r).length + 1 = r.length + 1
    rw [enumD_len r (n + 1)]
theorem enumD_get : ∀ (ds : List PyData) (n i : Nat) (z : PyData), (enumD n ds)[i]? = some z → ∃ d, ds[i]? = some d ∧ z = .tuple [.int ((n + i : Nat) : Int), d]
  | [], n, i, z, h => by
    cases i <;> cases h
  | d :: r, n, 0, z, h => by
    cases h
    exact ⟨d, rfl, rfl⟩
  | d :: r, n, i + 1, z, h => by
    obtain ⟨e, h1, h2⟩ := enumD_get r (n + 1) i z h
    refine ⟨e, h1, ?_⟩
    rw [h2, show n + 1 + i = n + (i + 1) by omega]
def pEnum : List PyData → Option (List PyData)
  | [.tuple ds] => some (enumD 0 ds)
  | _ => none
theorem itp_of {K : PySem.W.Frag} {J : It} {F H : Hp} {ds : List PyData} (h : ItD K J F H ds) : ItP K J F H ds := by
  refine ⟨fun i es F1 H1 e1 s1 hi => ?_, h.stop⟩
  obtain ⟨hgo, hy⟩ := h.go i _ F1 H1 e1 s1 hi
  refine ⟨hgo, fun v H2 y => ?_⟩
  obtain ⟨F2, g2, dv⟩ := hy v H2 y
  cases dv with
  | tup ht hto htd => exact ⟨F2, _, _, rfl, g2, ex_t g2.sub (dv_sqT ht), htd⟩
/-! enumerate of a tuple -/
def IteT (K : PySem.W.Frag) (a : Addr) : It :=
  ⟨fun i H => ∃ (xs : List V) (x : V), SqT K H a xs ∧ xs[i]? = some x, fun i H v H' => ∃ T x, v = .ref T ∧ H T = none ∧ H' = upd H T (.tup [.int (i : Nat), x]) ∧ ∀ xs, SqT K H a xs → xs[i]? = some x, fun i H => ∃ xs : List V, SqT K H a xs ∧ xs.length ≤ i⟩
theorem enumT_end {prog : Program} {w : World} {A : Around} {E : Value → Shared → Prop} {s : Shared} {e it a : Addr} {items : Array Value} {i : Nat} {c : Int} {old : Value} {Q : Option Value → Shared → Prop}
    (hh : A.in1.handled = none) (he : IsEnum s.heap e it c old) (hit : s.heap.IsTupleIter it a i) (hl : s.heap.IsTuple a items) (hx : items[i]? = none)
    (hQ : ∀ h', Heap.ExtBut it s.heap h' → Q none { s with heap := h' }) : wpAny (model prog w) A (pyNext (.ref e)) Q E s := by
  have hT : s.TypeIs (.ref e) "enumerate" := ⟨_, he, rfl⟩
  unfold pyNext
  refine wpAny_bind (wpAny_attempt (wpAny_callSpecial?_slot (name := Str.ofString "__next__") hT F.slot_enumerate_next
    (wpAny_call_entry F.slot_enumerate_next hT F.entry_enumerate_next ?_ (F.args_enumerate_next_1 _))))
  show wpAny _ _ (field (.ref e) 2 >>= _) _ _ _
  refine wpAny_bind (wpAny_field he rfl (x := .ref it) rfl ?_)
  refine wpAny_bind (nextOf_tuple_end hh hit hl hx fun h' x he' hx' => ?_)
  obtain ⟨o, ho, hc⟩ := hx'
  refine wpAny_bind (wpAny_isInstance (T := "StopIteration") (b := true) ⟨o, ho, hc⟩ isSubtype_stop ?_)
  exact wpAny_pure (hQ _ he')
theorem turn_enumT {P : Program} {w : World} {K : PySem.W.Frag} {elts : List Expr} {kk : Nat} {tpos : Pos} (a e it : Addr) (hai : a ≠ it) (hae : a ≠ e) (hei : e ≠ it) :
    Turn P w K (.Tuple elts kk tpos) (IteT K a) [e, it] e (fun i h => (∃ old, IsEnum h e it ((i : Nat) : Int) old) ∧ h.IsTupleIter it a i) where
  mem := by simp
  obj := fun i h st b hb => by
    obtain ⟨⟨old, he⟩, ⟨o, ho, hc, hd⟩⟩ := st
    have e' : b = e ∨ b = it := by simpa using hb
    rcases e' with z | z
    · rw [z]; exact ⟨_, he, fun v q => nomatch q⟩
    · rw [z]; exact ⟨o, ho, fun v q => by rw [hd] at q; cases q⟩
  keep := fun i h h' st k => let ⟨⟨old, he⟩, hi⟩ := st; ⟨⟨old, k e (by simp) _ he⟩, hi.at fun o q => k it (by simp) o q⟩
  item := by
    intro X hP hw hK hc i pins s σ H E I hf st hg
    subst hP hw hK
    obtain ⟨⟨old, he⟩, hit⟩ := st
    obtain ⟨xs, x, hq, hx⟩ := hg
    obtain ⟨its, rv, p, hz⟩ := I.tuple hq
    obtain ⟨u, hu, ru⟩ := rv.get hx
    have hel : e < s.heap.objs.size := Heap.lt_size he
    have hil : it < s.heap.objs.size := by obtain ⟨_, q, _⟩ := hit; exact Heap.lt_size q
    have hlt : i < its.toArray.size := by
      have := (List.getElem?_eq_some_iff.mp hu).1
      simpa using this
    refine wpAny_pyNext_enum_itemD (Draws.tuple (show X.A.in1.handled = none from I.ok.hd hc) it a hai its.toArray) he ⟨hit, p⟩ hlt hei (by
      intro hm
      have e' : e = it ∨ e = a := by simpa using hm
      rcases e' with z | z
      · exact hei z
      · exact hae z.symm) fun x' h' tk hP ho hit' hT hsz hk => ?_
    have ex : x' = u := by
      have h1 : its[i]? = some x' := by simpa using hP
      rw [hu] at h1
      cases h1
      rfl
    subst ex
    refine ⟨_, rfl, wpAny_letOwnedTupleGo_enum (s := { s with heap := h', toks := tk + 1 }) ho fun h'' he' sb => ?_⟩
    have hT2 : h''.get? s.heap.objs.size = some { cls := .type "tuple", data := .seq #[.int i tk, x'] } := (sb.2 _ (Nat.ne_of_gt hel)).trans hT
    have new : ObjOk X.prog X.w (upd H s.heap.objs.size (.tup [.int (i : Nat), x])) h'' s.heap.objs.size (.tup [.int (i : Nat), x]) :=
      ⟨by show 2 ≤ sizeLine; decide, [.int i tk, x'], .cons ⟨_, rfl⟩ (.cons ru .nil), ⟨_, hT2, rfl, _, rfl⟩⟩
    have I1 : Inv X pins σ (upd H s.heap.objs.size (.tup [.int (i : Nat), x])) { s with heap := h'', toks := tk + 1 } :=
      I.turnedNew (ch := [e, it]) (fun b ob hb q => (sb.2 b (fun z => hb (by simp [z]))).trans (hk b ob (fun z => hb (by simp [z])) (fun z => hb (by simp [z])) q)) hf (Nat.le_refl _) new
    refine ⟨.ref s.heap.objs.size, _, I1, rfl, ⟨_, x, rfl, I.hok.fresh (Nat.le_refl _), rfl, fun ys hy => by rw [I.tuple_inj hy hq]; exact hx⟩, ⟨⟨x', ?_⟩, hit'.1.at fun o q => (sb.2 it (Ne.symm hei)).trans q⟩, fun b hb => ?_⟩
    · have e1 : ((i + 1 : Nat) : Int) = (i : Int) + 1 := by omega
      rw [e1]; exact he'
    · have hb' : b < s.heap.objs.size := by
        have e' : b = e ∨ b = it := by simpa using hb
        rcases e' with z | z
        · rw [z]; exact hel
        · rw [z]; exact hil
      rw [upd_ne (Nat.ne_of_lt hb')]
      exact (hf b hb).1
  done := by
    intro X hP hw hK hc i pins s σ H E I hf st hg
    subst hP hw hK
    obtain ⟨⟨old, he⟩, hit⟩ := st
    obtain ⟨xs, hq, hx⟩ := hg
    obtain ⟨its, rv, p, hz⟩ := I.tuple hq
    obtain ⟨f0, f1, f2, f3, f4, f5⟩ := hf it (by simp)
    have hl := rv.length
    have hh : X.A.in1.handled = none := I.ok.hd hc
    have hsz : its.toArray[i]? = none := by simp; omega
    exact enumT_end hh he hit p hsz fun h' eb => ⟨rfl, I.turned (t' := s.toks) (fun b o hb q => eb b o hb q) f0 f1 f3 f4 f5⟩
  self := fun A i s Q E st h => let ⟨⟨_, he⟩, _⟩ := st; wpAny_pyIter_enum he h
open AutoSeq1 (wpAny_loadPart') in
set_option maxHeartbeats 4000000 in
theorem meets_enumerate_newT (l : Addr) (items : Array Value) (n : Nat) (dct : Option Addr) (sl : Array (Option Value)) :
    Meets (Builtin.«enumerate.__new__» ⟨[.type "enumerate", .ref l], []⟩) (fun _ R s => s.heap.get? l = some { cls := .type "tuple", dict := dct, data := .seq items n, slots := sl } ∧
      R (.ok (.ret (.ref (s.heap.push { cls := .type "tuple_iterator", data := .fields #[.ref l, .int 0 0] }).objs.size)))
        { s with heap := (s.heap.push { cls := .type "tuple_iterator", data := .fields #[.ref l, .int 0 0] }).push { cls := .type "enumerate", data := .fields #[.none, .bool false, .ref s.heap.objs.size, rawInt 0, .none, .none] } }) :=
  .of_wp fun prog w A R s h => by
    obtain ⟨hp, g, d, tk, os⟩ := s; obtain ⟨hl, h⟩ := h
    have hsub := sub_enumerate
    have hL : Heap.IsTuple (Shared.heap ⟨hp, g, d, tk, os⟩) l items := ⟨_, hl, rfl, n, rfl⟩
    wp_walk using wpAny_loadPart' hl
    refine wpAny_stack_any fun st => wpAny_pure ?_
    split
    · rename_i c _ _ _ _ _
      cases (c == Value.type "enumerate")
      · wp_walk using wpAny_loadPart' hl, wpAny_pyIter_tuple hL
        exact ⟨_, rfl, h⟩
      · wp_walk using wpAny_loadPart' hl, wpAny_pyIter_tuple hL
        exact ⟨_, rfl, h⟩
    · wp_walk using wpAny_loadPart' hl, wpAny_pyIter_tuple hL
      exact ⟨_, rfl, h⟩
theorem call_enumerate_tuple {prog : Program} {w : World} {A : Around} {E : Value → Shared → Prop} {s : Shared} {l : Addr} {items : Array Value} {Q : Value → Shared → Prop} (hL : s.heap.IsTuple l items)
    (h : ∀ h', IsEnum h' (s.heap.objs.size + 1) s.heap.objs.size 0 .none → h'.IsTupleIter s.heap.objs.size l 0 → h'.objs.size = s.heap.objs.size + 2 →
      (∀ b o, s.heap.get? b = some o → h'.get? b = some o) → Q (.ref (s.heap.objs.size + 1)) { s with heap := h' }) :
    wpAny (model prog w) A (call (.type "enumerate") [.ref l]) Q E s := by
  obtain ⟨⟨c, dct, dt, sl⟩, hl, hc, n, hd⟩ := hL
  replace hc : c = .type "tuple" := hc
  replace hd : dt = .seq items n := hd
  subst hc hd
  refine callType_new F.called_enumerate (by decide) (F.typeCall_enumerate_1 _) (F.newCall_enumerate_1 _) (fun obj => F.args_object_init_2 obj _) F.entry_enumerate_new
    (meets_enumerate_newT l items n dct sl) ⟨hl, ?_⟩
  have hz : (s.heap.push { cls := .type "tuple_iterator", data := .fields #[.ref l, .int 0 0] }).objs.size = s.heap.objs.size + 1 := Heap.size_push ..
  show _ ∧ _
  rw [hz]
  have he : IsEnum ((s.heap.push { cls := .type "tuple_iterator", data := .fields #[.ref l, .int 0 0] }).push
      { cls := .type "enumerate", data := .fields #[.none, .bool false, .ref s.heap.objs.size, rawInt 0, .none, .none] }) (s.heap.objs.size + 1) s.heap.objs.size 0 .none := by
    have := Heap.get?_push_size (s.heap.push { cls := .type "tuple_iterator", data := .fields #[.ref l, .int 0 0] })
      (o := { cls := .type "enumerate", data := .fields #[.none, .bool false, .ref s.heap.objs.size, rawInt 0, .none, .none] }) rfl
    rw [hz] at this; exact this
  refine ⟨⟨_, he, rfl⟩, h _ he ⟨_, Heap.get?_push_of_some _ (Heap.get?_push_size _ rfl), rfl, rfl⟩ (by rw [Heap.size_push, hz]) fun b o x => Heap.get?_push_of_some _ (Heap.get?_push_of_some _ x)⟩
def iEnumT (K : PySem.W.Frag) (ta : TA) : TI := fun σ H R => ta σ H fun vs H1 => ∃ a xs, vs = [.ref a] ∧ SqT K H1 a xs ∧ R (IteT K a) H1
theorem pi_enumT {X : Cx} {e : Expr} {ta : TA} {p pos tpos : Pos} {elts : List Expr} {kk : Nat} (hg : Gl X "enumerate") (hm : X.mg "enumerate" = none) (ha : PA X [e] ta) (hs : starEach [e] X.env = [(false, eval e X.env)] := by rfl) :
    PI X (.Tuple elts kk tpos) (.Call (.Name "enumerate" p) [e] [] pos) (iEnumT X.K ta) := by
  refine ⟨fun pins s σ H R I h => ?_⟩
  refine Call_ (ld_blt I hg hm boot_enumerate (PyProof.Rows.callWith_type1 (thn (ha.run pos pins s σ H _ I h) fun us s1 ⟨vs, H1, I1, r1, q1⟩ => ?_) hs rfl))
  obtain ⟨a, xs, ex, hq, q⟩ := q1
  subst ex
  cases r1 with
  | cons r rr =>
    cases rr
    cases r
    obtain ⟨its, rv, p', hz⟩ := I1.tuple hq
    obtain ⟨o1, ho1, _⟩ := id p'
    have hlt := Heap.lt_size ho1
    refine call_enumerate_tuple (show s1.heap.IsTuple a its.toArray from p') fun h' he hit hsz hk => wpAny_pyIter_enum he ?_
    have I2 : Inv X pins σ H1 { s1 with heap := h' } := I1.kept (t' := s1.toks) hk
    refine ⟨s1.heap.objs.size + 1, [s1.heap.objs.size + 1, s1.heap.objs.size], _, _, H1, rfl, I2, turn_enumT a (s1.heap.objs.size + 1) s1.heap.objs.size (Nat.ne_of_lt hlt) (Nat.ne_of_lt (Nat.lt_succ_of_lt hlt)) (Nat.succ_ne_self _), ⟨⟨.none, he⟩, hit⟩, fun b hb => ?_, q⟩
    have e' : b = s1.heap.objs.size + 1 ∨ b = s1.heap.objs.size := by simpa using hb
    have hle : s1.heap.objs.size ≤ b := by
      rcases e' with z | z
      · rw [z]; exact Nat.le_add_right _ _
      · rw [z]; exact Nat.le_refl _
    exact I1.fpOk hle (I1.hok.fresh hle)
/-! both, on data -/
section
variable {X : Cx} {env : List DV.Slot} {a b e : Expr} {es : List Expr} {pos p : Pos} {x y : Str} {ms : Option (List PyData)}
theorem dp_of {tg iter : Expr} {ml : Option (List PyData)} (h : DI X tg iter env ml) : DP X tg iter env ml := PI.mono h fun σ H R ⟨F0, H0, F, ds, ok, em, q⟩ => ⟨F0, H0, F, ds, ok, em, fun J F' H' g it => q J F' H' g (itp_of it)⟩
theorem itp_zip {K : PySem.W.Frag} {F H : Hp} {a b : Addr} {xs ys : List V} {ds es : List PyData} (hs : Ex F H) (ha : SqT K F a xs) (hb : SqT K F b ys) (da : DvAll K F xs ds) (db : DvAll K F ys es) : ItP K (ItzT K a b) F H ((ds.zip es).map fun p => .tuple [p.1, p.2]) := by
  refine ⟨fun i ts F1 H1 e1 s1 hi => ?_, fun i F1 H1 e1 s1 hi => ?_⟩
  · have ha1 := ex_t s1 (ex_t e1 ha)
    have hb1 := ex_t s1 (ex_t e1 hb)
    rw [List.getElem?_map] at hi
    obtain ⟨⟨d1, d2⟩, hi1, ht⟩ := Option.map_eq_some_iff.mp hi
    cases ht
    have hi2 := List.getElem?_zip_eq_some.mp hi1
    obtain ⟨u, hu, du⟩ := dvAll_get da hi2.1
    obtain ⟨v, hv, dv⟩ := dvAll_get db hi2.2
    refine ⟨⟨xs, ys, u, v, ha1, hb1, hu, hv⟩, ?_⟩
    rintro v' H2 ⟨T, x, y, rfl, hT, rfl, hx, hy⟩
    have ex := hx xs ha1
    have ey := hy ys hb1
    rw [hu] at ex
    rw [hv] at ey
    cases ex
    cases ey
    exact ⟨F1, T, [u, v], rfl, Grow.newH s1 hT, .inl (.inl upd_same), .cons (dv_mono e1 du) (.cons (dv_mono e1 dv) .nil)⟩
  · have hl : xs.length = ds.length := dvAll_len da
    have hl2 : ys.length = es.length := dvAll_len db
    rw [List.length_map, List.length_zip] at hi
    exact ⟨xs, ys, ex_t s1 (ex_t e1 ha), ex_t s1 (ex_t e1 hb), by omega⟩
theorem itp_enum {K : PySem.W.Frag} {F H : Hp} {a : Addr} {xs : List V} {ds : List PyData} (hs : Ex F H) (ha : SqT K F a xs) (da : DvAll K F xs ds) : ItP K (IteT K a) F H (enumD 0 ds) := by
  refine ⟨fun i ts F1 H1 e1 s1 hi => ?_, fun i F1 H1 e1 s1 hi => ?_⟩
  · have ha1 := ex_t s1 (ex_t e1 ha)
    obtain ⟨d, hd, ht⟩ := enumD_get ds 0 i _ hi
    cases ht
    obtain ⟨u, hu, du⟩ := dvAll_get da hd
    refine ⟨⟨xs, u, ha1, hu⟩, ?_⟩
    rintro v' H2 ⟨T, x, rfl, hT, rfl, hx⟩
    have ex := hx xs ha1
    rw [hu] at ex
    cases ex
    rw [Nat.zero_add]
    exact ⟨F1, T, [.int (i : Nat), u], rfl, Grow.newH s1 hT, .inl (.inl upd_same), .cons (.int _) (.cons (dv_mono e1 du) .nil)⟩
  · have hl : xs.length = ds.length := dvAll_len da
    rw [enumD_len] at hi
    exact ⟨xs, ex_t s1 (ex_t e1 ha), by omega⟩
theorem dp_zip {elts : List Expr} {kk : Nat} {tpos : Pos} (hg : Gl X "zip") (hm : X.mg "zip" = none) (ha : DA X [a, b] env ms)
    (hs : starEach [a, b] X.env = (false, eval a X.env) :: starEach [b] X.env := by rfl) (hpl : (backTo pos (starEach [b] X.env)).any (·.1) = false := by rfl) :
    DP X (.Tuple elts kk tpos) (.Call (.Name "zip" p) [a, b] [] pos) env (ms.bind pZip) := by
  refine PI.mono (pi_zipA hg hm ha hs hpl) fun σ H R ⟨F0, H0, F, ds, ok, em, q⟩ => ?_
  obtain ⟨vs, hd, em⟩ := Option.bind_eq_some_iff.mp em
  refine ⟨F0, H0, F, vs, ok, hd, fun us F1 H1 g h1 => ?_⟩
  unfold pZip at em
  split at em
  · cases em
    cases h1 with
    | cons p1 h1 =>
      cases h1 with
      | cons p2 h1 =>
        cases h1
        cases p1 with
        | tup t1 o1 d1 =>
          cases p2 with
          | tup t2 o2 d2 =>
            exact ⟨_, _, _, _, rfl, .inr ⟨ex_t g.sub (dv_sqT t1), ex_t g.sub (dv_sqT t2), q _ F1 H1 g (itp_zip g.sub (dv_sqT t1) (dv_sqT t2) d1 d2)⟩⟩
  · cases em
theorem dp_enum {elts : List Expr} {kk : Nat} {tpos : Pos} (hg : Gl X "enumerate") (hm : X.mg "enumerate" = none) (ha : DA X [a] env ms) (hs : starEach [a] X.env = [(false, eval a X.env)] := by rfl) :
    DP X (.Tuple elts kk tpos) (.Call (.Name "enumerate" p) [a] [] pos) env (ms.bind pEnum) := by
  refine PI.mono (pi_enumT hg hm ha hs) fun σ H R ⟨F0, H0, F, ds, ok, em, q⟩ => ?_
  obtain ⟨vs, hd, em⟩ := Option.bind_eq_some_iff.mp em
  refine ⟨F0, H0, F, vs, ok, hd, fun us F1 H1 g h1 => ?_⟩
  unfold pEnum at em
  split at em
  · cases em
    cases h1 with
    | cons p1 h1 =>
      cases h1
      cases p1 with
      | tup t1 o1 d1 => exact ⟨_, _, rfl, ex_t g.sub (dv_sqT t1), q _ F1 H1 g (itp_enum g.sub (dv_sqT t1) d1)⟩
  · cases em
end
end DV
end
section
set_option Elab.async false
set_option linter.all false
set_option maxRecDepth 100000
set_option maxHeartbeats 400000
/-! DV: loops and comprehensions with targets of several names -/
namespace DV
open PySem PySem.Spec PyProof.Rows L2 Evl RZ
theorem wipe_get (σ : L2.St) (m : Nat) : ∀ vs : List Nat, (wipe σ vs)[m]? = if m ∈ vs then σ[m]?.map (fun _ => none) else σ[m]?
  | [] => by simp [wipe]
  | v :: vs => by
    unfold wipe
    by_cases h : v = m
    · subst h
      rw [if_pos (List.mem_cons_self : v ∈ v :: vs), List.getElem?_set, if_pos rfl, wipe_length]
      by_cases hl : v < σ.length
      · rw [if_pos hl, List.getElem?_eq_getElem hl]
        rfl
      · rw [if_neg hl, List.getElem?_eq_none (by omega)]
        rfl
    · rw [List.getElem?_set_ne h, wipe_get σ m vs]
      by_cases hm : m ∈ vs
      · rw [if_pos hm, if_pos (List.mem_cons_of_mem _ hm)]
      · rw [if_neg hm, if_neg (by
          intro z
          rcases List.mem_cons.mp z with z | z
          · exact h z.symm
          · exact hm z)]
theorem map_none {α β : Type} {l l' : List α} (hl : l'.length = l.length) (m : Nat) : l'[m]?.map (fun _ => (none : Option β)) = l[m]?.map (fun _ => none) := by
  by_cases h : m < l.length
  · rw [List.getElem?_eq_getElem h, List.getElem?_eq_getElem (by omega)]
    rfl
  · rw [List.getElem?_eq_none (show l.length ≤ m by omega), List.getElem?_eq_none (show l'.length ≤ m by omega)]
theorem wipe_eq {σ σ' : L2.St} {vs : List Nat} (hl : σ'.length = σ.length) (h : ∀ m, m ∉ vs → σ'[m]? = σ[m]?) : wipe σ' vs = wipe σ vs := by
  apply List.ext_getElem?
  intro m
  rw [wipe_get, wipe_get]
  by_cases hm : m ∈ vs
  · rw [if_pos hm, if_pos hm]
    exact map_none hl m
  · rw [if_neg hm, if_neg hm]
    exact h m hm
theorem wipe_wipe (σ : L2.St) (vs : List Nat) : wipe (wipe σ vs) vs = wipe σ vs := wipe_eq (wipe_length σ vs) fun m hm => by rw [wipe_get, if_neg hm]
theorem EOk.forget {K : PySem.W.Frag} {F0 H0 F H : Hp} {σ : L2.St} {env : List DV.Slot} (i : Nat) (o : EOk K F0 H0 σ F H env) : EOk K F0 H0 (σ.set i none) F H (env.set i .any) :=
  o.setNew (w := none) (s' := .any) (Grow.refl o.sub) trivial fun _ q => q.elim
def wipeE (env : List DV.Slot) : List Nat → List DV.Slot
  | [] => env
  | v :: vs => (wipeE env vs).set v .any
theorem EOk.wiped {K : PySem.W.Frag} {F0 H0 F H : Hp} {σ : L2.St} {env : List DV.Slot} (o : EOk K F0 H0 σ F H env) : ∀ vs : List Nat, EOk K F0 H0 (wipe σ vs) F H (wipeE env vs)
  | [] => o
  | v :: vs => (EOk.wiped o vs).forget v
/-- what a target does with a tuple of data -/
structure Bnd (K : PySem.W.Frag) (g : TG) (own : List Nat) {δ : Type} (rd : PyData → Option δ) (put : List DV.Slot → δ → List DV.Slot) : Prop where
  tup : ∀ {d : PyData} {x : δ}, rd d = some x → ∃ es, d = .tuple es
  run : ∀ {es : List PyData} {x : δ} {F0 H0 F H : Hp} {σ : L2.St} {env : List DV.Slot} {a : Addr} {xs : List V} {Q : L2.St → Hp → Prop}, rd (.tuple es) = some x → SqT K H a xs → DvAll K F xs es → EOk K F0 H0 σ F H env →
    (∀ σ', EOk K F0 H0 σ' F H (put env x) → wipe σ' own = wipe σ own → Q σ' H) → g (.ref a) σ H Q
def put2 (i j : Nat) (env : List DV.Slot) (x : PyData × PyData) : List DV.Slot := (env.set i (.im x.1)).set j (.im x.2)
def put3 (i j k : Nat) (env : List DV.Slot) (x : PyData × PyData × PyData) : List DV.Slot := ((env.set i (.im x.1)).set j (.im x.2.1)).set k (.im x.2.2)
def asTrip : PyData → Option (PyData × PyData × PyData)
  | .tuple [a, b, c] => some (a, b, c)
  | _ => none
theorem asTrip_some {d : PyData} {x : PyData × PyData × PyData} (h : asTrip d = some x) : d = .tuple [x.1, x.2.1, x.2.2] := by
  unfold asTrip at h
  split at h
  · cases h
    rfl
  · cases h
theorem bnd2 {K : PySem.W.Frag} {i j : Nat} : Bnd K (gTup K 2 (gCons (gName i) (gCons (gName j) gNil))) [i, j] asPair (put2 i j) := by
  refine ⟨fun h => ⟨_, asPair_some h⟩, fun {es x F0 H0 F H σ env a xs Q} h hq hx ok q => ?_⟩
  have er : es = [x.1, x.2] := by
    have := asPair_some h
    injection this
  clear h
  subst er
  cases hx with
  | cons da hx =>
   cases hx with
   | cons db hx =>
    cases hx
    rename_i va vb
    have fin := q ((σ.set i (some va)).set j (some vb)) ((ok.set da).set db) (wipe_eq (by rw [List.length_set, List.length_set]) fun m hm => by
      rw [List.getElem?_set_ne (fun z => hm (by simp [z])), List.getElem?_set_ne (fun z => hm (by simp [z]))])
    exact ⟨a, [va, vb], rfl, hq, rfl, va, [vb], rfl, vb, [], rfl, rfl, fin⟩
theorem bnd3 {K : PySem.W.Frag} {i j k : Nat} : Bnd K (gTup K 3 (gCons (gName i) (gCons (gName j) (gCons (gName k) gNil)))) [i, j, k] asTrip (put3 i j k) := by
  refine ⟨fun h => ⟨_, asTrip_some h⟩, fun {es x F0 H0 F H σ env a xs Q} h hq hx ok q => ?_⟩
  have er : es = [x.1, x.2.1, x.2.2] := by
    have := asTrip_some h
    injection this
  clear h
  subst er
  cases hx with
  | cons da hx =>
   cases hx with
   | cons db hx =>
    cases hx with
    | cons dc hx =>
    cases hx
    rename_i va vb vc
    have fin := q (((σ.set i (some va)).set j (some vb)).set k (some vc)) (((ok.set da).set db).set dc) (wipe_eq (by rw [List.length_set, List.length_set, List.length_set]) fun m hm => by
      rw [List.getElem?_set_ne (fun z => hm (by simp [z])), List.getElem?_set_ne (fun z => hm (by simp [z])), List.getElem?_set_ne (fun z => hm (by simp [z]))])
    exact ⟨a, [va, vb, vc], rfl, hq, rfl, va, [vb, vc], rfl, vb, [vc], rfl, vc, [], rfl, rfl, fin⟩
section
variable {X : Cx} {env : List DV.Slot} {a b e tg : Expr} {es : List Expr} {pos p : Pos} {x y : Str} {α β δ : Type} {W : Wk β} {rest : List Stmt} {g : TG} {own : List Nat} {rd : PyData → Option δ} {put : List DV.Slot → δ → List DV.Slot}
theorem dg_forB (B : Bnd X.K g own rd put) {ev : α → List DV.Slot} {iter : Expr} {body : List Stmt} {ml : Option (List PyData)} {f : α → δ → Option α} {k : α → Option β} {a0 : α}
    (hp : PassesOwn (model X.prog X.w) X.A X.env X.xe) (hc : X.calm = true) (hg : PG X tg g) (hi : DP X tg iter env ml) (h0 : Weak env (ev a0)) (hb : ∀ a x, DN X body ev (put (ev a) x) (f a x)) (hr : ∀ a, DG X rest W (ev a) (k a)) (hfs : ∀ x, foldedSetIterable iter X.env x = pure x := by intro _; rfl) :
    DG X (.For tg iter body [] pos :: rest) W env (ml.bind fun ds => (ds.foldlM (fun a d => (rd d).bind fun x => f a x) a0).bind k) := by
  refine PSs.mono (pss_cons (ps_for hp hc hi hg (pss_ex fun a => pss_ex fun x => hb a x) hfs) (pss_ex hr)) fun D σ H ⟨F0, H0, F, o, ok, em, q⟩ => ?_
  obtain ⟨ds, hd, em⟩ := Option.bind_eq_some_iff.mp em
  obtain ⟨a1, ha1, em⟩ := Option.bind_eq_some_iff.mp em
  refine ⟨F0, H0, F, ds, ok, hd, fun J F1 H1 g it => ?_⟩
  refine ⟨fun n m σ' H' => n + m = ds.length ∧ ∃ a F', Ex F1 F' ∧ EOk X.K F0 H0 σ' F' H' (ev a) ∧ (ds.drop n).foldlM (fun a d => (rd d).bind fun x => f a x) a = some a1, ⟨ds.length, by omega, a0, F1, Ex.refl F1, (ok.grow g).wk h0, ha1⟩, ?_⟩
  rintro n m σ' H' ⟨hm, a, F', x1, ok', hf'⟩
  by_cases hlt : n < ds.length
  · have hget : ds[n]? = some ds[n] := List.getElem?_eq_getElem hlt
    rw [List.drop_eq_getElem_cons hlt, List.foldlM_cons] at hf'
    obtain ⟨a2, ha2, hf'⟩ := Option.bind_eq_some_iff.mp hf'
    obtain ⟨ab, hab, ha2⟩ := Option.bind_eq_some_iff.mp ha2
    obtain ⟨es, hes⟩ := B.tup hab
    rw [hes] at hget hab
    obtain ⟨hgo, hyl⟩ := it.go n es F' H' x1 ok'.sub hget
    refine .inr ⟨hgo, fun σ2 H2 => ∃ F2, Ex F1 F2 ∧ EOk X.K F0 H0 σ2 F2 H2 (ev a2), fun σ2 H2 ⟨F2, y1, y2⟩ => ⟨m - 1, by omega, by omega, a2, F2, y1, y2, hf'⟩, fun v H2 hy => ?_⟩
    obtain ⟨F2, va, xs, rfl, g2, hq, hx⟩ := hyl v H2 hy
    exact B.run hab hq hx (ok'.grow g2) fun σ3 o3 _ => ⟨a, ab, F0, H0, F2, a2, o3, ha2, fun σ3 F3 H3 x3 o3 => ⟨F3, (x1.trans g2.ff).trans x3, o3⟩⟩
  · have e : ds.drop n = [] := List.drop_eq_nil_of_le (by omega)
    rw [e] at hf'
    cases hf'
    exact .inl ⟨it.stop n F' H' x1 ok'.sub (by omega), _, F0, H0, F', o, ok', em, W.mono (g.ff.trans x1) q⟩
theorem ps_forSB (B : Bnd X.K g own rd put) {ev : α → List DV.Slot} {iter : Expr} {body : List Stmt} {ml : Option (List PyData)} {f : α → δ → Option (Out α)} {a0 : α}
    (hp : PassesOwn (model X.prog X.w) X.A X.env X.xe) (hc : X.calm = true) (hg : PG X tg g) (hi : DP X tg iter env ml) (h0 : Weak env (ev a0)) (hb : ∀ a x, DS X body ev (put (ev a) x) (f a x)) (hfs : ∀ x, foldedSetIterable iter X.env x = pure x := by intro _; rfl) :
    PS X (.For tg iter body [] pos) (tG X.K (wS X.K ev) env (ml.bind fun ds => forO (fun a d => (rd d).bind fun x => f a x) a0 ds)) := by
  refine PS.mono (ps_for hp hc hi hg (pss_ex fun a => pss_ex fun x => hb a x) hfs) fun D σ H ⟨F0, H0, F, o, ok, em, q⟩ => ?_
  obtain ⟨ds, hd, em⟩ := Option.bind_eq_some_iff.mp em
  refine ⟨F0, H0, F, ds, ok, hd, fun J F1 H1 g it => ?_⟩
  refine ⟨fun n m σ' H' => n + m = ds.length ∧ ∃ a F', Ex F1 F' ∧ EOk X.K F0 H0 σ' F' H' (ev a) ∧ forO (fun a d => (rd d).bind fun x => f a x) a (ds.drop n) = some o, ⟨ds.length, by omega, a0, F1, Ex.refl F1, (ok.grow g).wk h0, em⟩, ?_⟩
  rintro n m σ' H' ⟨hm, a, F', x1, ok', hf'⟩
  by_cases hlt : n < ds.length
  · have hget : ds[n]? = some ds[n] := List.getElem?_eq_getElem hlt
    rw [List.drop_eq_getElem_cons hlt, forO_cons] at hf'
    obtain ⟨z, hz, hf'⟩ := Option.bind_eq_some_iff.mp hf'
    obtain ⟨ab, hab, hz⟩ := Option.bind_eq_some_iff.mp hz
    obtain ⟨es, hes⟩ := B.tup hab
    rw [hes] at hget hab
    obtain ⟨hgo, hyl⟩ := it.go n es F' H' x1 ok'.sub hget
    cases z with
    | go a2 =>
      refine .inr ⟨hgo, fun σ2 H2 => ∃ F2, Ex F1 F2 ∧ EOk X.K F0 H0 σ2 F2 H2 (ev a2), fun σ2 H2 ⟨F2, y1, y2⟩ => ⟨m - 1, by omega, by omega, a2, F2, y1, y2, hf'⟩, fun v H2 hy => ?_⟩
      obtain ⟨F2, va, xs, rfl, g2, hq, hx⟩ := hyl v H2 hy
      exact B.run hab hq hx (ok'.grow g2) fun σ3 o3 _ => ⟨a, ab, F0, H0, F2, .go a2, o3, hz, fun σ3 F3 H3 x3 o3 => ⟨F3, (x1.trans g2.ff).trans x3, o3⟩⟩
    | ret r =>
      cases hf'
      refine .inr ⟨hgo, fun _ _ => False, fun _ _ z => z.elim, fun v H2 hy => ?_⟩
      obtain ⟨F2, va, xs, rfl, g2, hq, hx⟩ := hyl v H2 hy
      exact B.run hab hq hx (ok'.grow g2) fun σ3 o3 _ => ⟨a, ab, F0, H0, F2, .ret r, o3, hz, q⟩
  · have e : ds.drop n = [] := List.drop_eq_nil_of_le (by omega)
    rw [e] at hf'
    cases hf'
    exact .inl ⟨it.stop n F' H' x1 ok'.sub (by omega), q _ F' H' (g.ff.trans x1) ok'⟩
variable {elt iter : Expr} {ifs : List Expr} {scope : Scope} {px : Pos} {ml : Option (List PyData)} {t : δ → Option Bool} {f : δ → Option PyData}
def compT (rd : PyData → Option δ) (t : δ → Option Bool) (d : PyData) : Option Bool := (rd d).bind t
def compF (rd : PyData → Option δ) (f : δ → Option PyData) (d : PyData) : Option PyData := (rd d).bind f
theorem lc_readB (B : Bnd X.K g own rd put) {σ : L2.St} {H : Hp} {Q : VK} (h : tD X.K env (ml.bind (compL (compT rd t) (compF rd f))) σ H Q) :
    tLc (tP X.K env ml) g (fun σ H Q => ∃ d, tDT X.K (put (wipeE env own) d) (t d) σ H Q) (fun σ H Q => ∃ d, tD X.K (put (wipeE env own) d) (f d) σ H Q) own σ H Q := by
  obtain ⟨F0, H0, F, d, ok, em, q⟩ := h
  obtain ⟨ds, hds, em⟩ := Option.bind_eq_some_iff.mp em
  unfold compL at em
  split at em
  case isFalse => cases em
  rename_i hz
  cases hcm : compM (compT rd t) (compF rd f) ds with
  | none => rw [hcm] at em; cases em
  | some res =>
  rw [hcm] at em
  cases em
  refine ⟨F0, H0, F, ds, ok, hds, fun J F1 H1 g it D hD => ?_⟩
  have ok1 := ok.grow g
  have fD : F1 D = none := fresh_back g.sub hD
  refine ⟨fun i m H' => i + m = ds.length ∧ ∃ F' acc done rest, Grow F1 H1 F' H' ∧ F' D = none ∧ H' D = some (.lst acc) ∧ DvAll X.K F' acc done ∧ done.length ≤ i ∧ compM (compT rd t) (compF rd f) (ds.drop i) = some rest ∧ done ++ rest = res,
    ⟨ds.length, by omega, F1, [], [], res, Grow.newH g.sub hD, fD, upd_same, .nil, Nat.le_refl _, hcm, rfl⟩, ?_⟩
  rintro i m H' ⟨hm, F', acc, done, rest, g', fD', hD', hacc, hdl, hc, hres⟩
  have ok' := ok1.grow g'
  by_cases hlt : i < ds.length
  · have hget : ds[i]? = some ds[i] := List.getElem?_eq_getElem hlt
    rw [List.drop_eq_getElem_cons hlt] at hc
    unfold compM at hc
    obtain ⟨b, hb, hc⟩ := Option.bind_eq_some_iff.mp hc
    obtain ⟨ab, hab, hb⟩ := Option.bind_eq_some_iff.mp hb
    obtain ⟨es, hes⟩ := B.tup hab
    have hf0 : compF rd f ds[i] = f ab := by
      unfold compF
      rw [hab]
      rfl
    rw [hf0] at hc
    rw [hes] at hget hab
    obtain ⟨hgo, hyl⟩ := it.go i es F' H' g'.ff g'.sub hget
    refine .inr ⟨hgo, fun H2 => ∃ m', m' < m ∧ (i + 1 + m' = ds.length ∧ ∃ F' acc done rest, Grow F1 H1 F' H2 ∧ F' D = none ∧ H2 D = some (.lst acc) ∧ DvAll X.K F' acc done ∧ done.length ≤ i + 1 ∧ compM (compT rd t) (compF rd f) (ds.drop (i + 1)) = some rest ∧ done ++ rest = res), fun H2 h2 => h2, fun v H2 hy => ?_⟩
    obtain ⟨F2, va, xs, rfl, g2, hq, hx⟩ := hyl v H2 hy
    refine B.run hab hq hx ((ok'.grow g2).wiped own) fun σ3 ok2 hw => ⟨hw.trans (wipe_wipe σ own), ?_⟩
    refine ⟨ab, F0, H0, F2, b, ok2, hb, fun F3 H3 g3 => ?_⟩
    have g13 := (g'.trans g2).trans g3
    have fD3 : F3 D = none := (g2.trans g3).own D fD' (ne_none hD')
    have hD3 : H3 D = some (.lst acc) := (g2.trans g3).hh _ _ hD'
    cases b with
    | true =>
      have hc : ((f ab).bind fun y => (compM (compT rd t) (compF rd f) (ds.drop (i + 1))).bind fun ys => some (y :: ys)) = some rest := hc
      obtain ⟨y, hyv, hc⟩ := Option.bind_eq_some_iff.mp hc
      obtain ⟨ys, hys, hc⟩ := Option.bind_eq_some_iff.mp hc
      cases hc
      refine ⟨ab, F0, H0, F3, y, ok2.grow g3, hyv, fun u F4 H4 g4 hu => ?_⟩
      have fD4 : F4 D = none := g4.own D fD3 (ne_none hD3)
      refine ⟨acc, g4.hh _ _ hD3, ?_, m - 1, by omega, by omega, F4, acc ++ [u], done ++ [y], ys, ?_, fD4, upd_same, ?_, ?_, hys, ?_⟩
      · rw [dvAll_len hacc]
        have : szOk done.length := Nat.le_trans hdl (Nat.le_trans (Nat.le_of_lt hlt) hz)
        exact this.lt
      · have g14 := g13.trans g4
        exact ⟨g14.ff, Ex.mut g14.hh hD, Ex.mut g14.sub fD4, g14.own⟩
      · exact dvAll_app (dvAll_mono ((g2.trans g3).trans g4).ff hacc) (.cons hu .nil)
      · rw [List.length_append]
        show done.length + 1 ≤ i + 1
        omega
      · rw [List.append_assoc]
        exact hres
    | false =>
      exact ⟨m - 1, by omega, by omega, F3, acc, done, rest, g13, fD3, hD3, dvAll_mono (g2.trans g3).ff hacc, by omega, hc, hres⟩
  · have e : ds.drop i = [] := List.drop_eq_nil_of_le (by omega)
    rw [e] at hc
    cases hc
    rw [List.append_nil] at hres
    subst hres
    refine .inl ⟨it.stop i F' H' g'.ff g'.sub (by omega), ?_⟩
    have ff : Ex F' (upd F' D (.lst acc)) := Ex.new fD'
    refine q _ (upd F' D (.lst acc)) H' ⟨(g.ff.trans g'.ff).trans ff, g.hh.trans g'.hh, fun b u eb => ?_, fun b hb k => ?_⟩ (.lst upd_same (dvAll_mono ff hacc))
    · by_cases hbD : b = D
      · subst hbD
        rw [upd_same] at eb
        rw [← eb]
        exact hD'
      · rw [upd_ne hbD] at eb
        exact g'.sub b u eb
    · have nb : b ≠ D := fun z => Ex.nn g.hh k (by rw [z]; exact hD)
      rw [upd_ne nb]
      exact (g.trans g').own b hb k
theorem de_lcB {ow : List (Str × Nat)} (B : Bnd X.K g (ow.map (·.2)) rd put) (hc : X.calm = true) (hN : X.N.Nodup) (hi : DP X tg iter env ml) (ok : BlkOk X.N X.env.scope scope ow)
    (hg : ∀ (s : Shared) (H : Hp) (C : Addr) (cl : List (Str × Addr)) (fp : List Addr), PG (X.blk s H scope (compEnvC scope cl C X.env) fp) tg g)
    (ht : ∀ (d : δ) (s : Shared) (H : Hp) (C : Addr) (cl : List (Str × Addr)) (fp : List Addr), PTs (X.blk s H scope (compEnvC scope cl C X.env) fp) ifs (tDT X.K (put (wipeE env (ow.map (·.2))) d) (t d)))
    (he : ∀ (d : δ) (s : Shared) (H : Hp) (C : Addr) (cl : List (Str × Addr)) (fp : List Addr), DE (X.blk s H scope (compEnvC scope cl C X.env) fp) elt (put (wipeE env (ow.map (·.2))) d) (f d))
    (hfs : ∀ x, foldedSetIterable iter X.env x = pure x := by intro _; rfl) :
    DE X (.ListComp elt [⟨tg, iter, ifs, 0⟩] scope pos) env (ml.bind (compL (compT rd t) (compF rd f))) :=
  PE.mono (pe_lc (own := ow) hc hN hi ok hg (fun s H C cl fp => pts_ex fun d => ht d s H C cl fp) (fun s H C cl fp => pe_ex fun d => he d s H C cl fp) hfs) fun σ H Q h => lc_readB B h
/-! targets -/
theorem pg_two {i j : Nat} {px py pt : Pos} {kt : Nat} (hc : X.calm = true) (hN : X.N.Nodup) (hx : Loc X.env.scope x) (hy : Loc X.env.scope y)
    (hxi : X.N[i]? = some x := by rfl) (hyj : X.N[j]? = some y := by rfl) (hfx : X.fn x = true ∨ X.env.scope.names.lookup x = some .local := by first | exact .inl rfl | exact .inr rfl | assumption) (hfy : X.fn y = true ∨ X.env.scope.names.lookup y = some .local := by first | exact .inl rfl | exact .inr rfl | assumption)
    (hs1 : (assignEach [.Name x px, .Name y py] X.env).map (·.2) = assign (.Name x px) X.env :: (assignEach [.Name y py] X.env).map (·.2) := by rfl)
    (hs2 : (assignEach [.Name y py] X.env).map (·.2) = assign (.Name y py) X.env :: (assignEach [] X.env).map (·.2) := by rfl)
    (hn : (assignEach [.Name x px, .Name y py] X.env).length = 2 := by rfl) (hst : (assignEach [.Name x px, .Name y py] X.env).findIdx? (·.1) = none := by rfl) :
    PG X (.Tuple [.Name x px, .Name y py] kt pt) (gTup X.K 2 (gCons (gName i) (gCons (gName j) gNil))) :=
  pg_tup hc (pgs_cons (pg_name (i := i) hN hxi hx hfx) (pgs_cons (pg_name (i := j) hN hyj hy hfy) pgs_nil hs2) hs1) hn hst
theorem pg_three {i j k : Nat} {z : Str} {px py pz pt : Pos} {kt : Nat} (hc : X.calm = true) (hN : X.N.Nodup) (hx : Loc X.env.scope x) (hy : Loc X.env.scope y) (hz : Loc X.env.scope z)
    (hxi : X.N[i]? = some x := by rfl) (hyj : X.N[j]? = some y := by rfl) (hzk : X.N[k]? = some z := by rfl) (hfx : X.fn x = true ∨ X.env.scope.names.lookup x = some .local := by first | exact .inl rfl | exact .inr rfl | assumption) (hfy : X.fn y = true ∨ X.env.scope.names.lookup y = some .local := by first | exact .inl rfl | exact .inr rfl | assumption) (hfz : X.fn z = true ∨ X.env.scope.names.lookup z = some .local := by first | exact .inl rfl | exact .inr rfl | assumption)
    (hs1 : (assignEach [.Name x px, .Name y py, .Name z pz] X.env).map (·.2) = assign (.Name x px) X.env :: (assignEach [.Name y py, .Name z pz] X.env).map (·.2) := by rfl)
    (hs2 : (assignEach [.Name y py, .Name z pz] X.env).map (·.2) = assign (.Name y py) X.env :: (assignEach [.Name z pz] X.env).map (·.2) := by rfl)
    (hs3 : (assignEach [.Name z pz] X.env).map (·.2) = assign (.Name z pz) X.env :: (assignEach [] X.env).map (·.2) := by rfl)
    (hn : (assignEach [.Name x px, .Name y py, .Name z pz] X.env).length = 3 := by rfl) (hst : (assignEach [.Name x px, .Name y py, .Name z pz] X.env).findIdx? (·.1) = none := by rfl) :
    PG X (.Tuple [.Name x px, .Name y py, .Name z pz] kt pt) (gTup X.K 3 (gCons (gName i) (gCons (gName j) (gCons (gName k) gNil)))) :=
  pg_tup hc (pgs_cons (pg_name (i := i) hN hxi hx hfx) (pgs_cons (pg_name (i := j) hN hyj hy hfy) (pgs_cons (pg_name (i := k) hN hzk hz hfz) pgs_nil hs3) hs2) hs1) hn hst
/-! as the walk prints them -/
theorem dg_forP (i j : Nat) {ev : α → List DV.Slot} {body : List Stmt} {f : α → PyData → PyData → Option α} {k : α → Option β} {a0 : α} {env' : α → PyData → PyData → List DV.Slot} (hp : PassesOwn (model X.prog X.w) X.A X.env X.xe) (hc : X.calm = true) (hg : PG X tg (gTup X.K 2 (gCons (gName i) (gCons (gName j) gNil)))) (hi : DP X tg iter env ml) (h0 : Weak env (ev a0))
    (hb : ∀ a d e, DN X body ev (env' a d e) (f a d e)) (hr : ∀ a, DG X rest W (ev a) (k a)) (hs : ∀ a d e, ((ev a).set i (.im d)).set j (.im e) = env' a d e := by intro _ _ _; rfl) (hfs : ∀ x, foldedSetIterable iter X.env x = pure x := by intro _; rfl) :
    DG X (.For tg iter body [] pos :: rest) W env (ml.bind fun ds => (ds.foldlM (fun a d => (asPair d).bind fun ab => f a ab.1 ab.2) a0).bind k) :=
  dg_forB (bnd2 (i := i) (j := j)) (f := fun a ab => f a ab.1 ab.2) hp hc hg hi h0 (fun a x => by rw [show put2 i j (ev a) x = env' a x.1 x.2 from hs a x.1 x.2]; exact hb a x.1 x.2) hr hfs
theorem ps_forSP (i j : Nat) {ev : α → List DV.Slot} {body : List Stmt} {f : α → PyData → PyData → Option (Out α)} {a0 : α} {env' : α → PyData → PyData → List DV.Slot} (hp : PassesOwn (model X.prog X.w) X.A X.env X.xe) (hc : X.calm = true) (hg : PG X tg (gTup X.K 2 (gCons (gName i) (gCons (gName j) gNil)))) (hi : DP X tg iter env ml) (h0 : Weak env (ev a0))
    (hb : ∀ a d e, DS X body ev (env' a d e) (f a d e)) (hs : ∀ a d e, ((ev a).set i (.im d)).set j (.im e) = env' a d e := by intro _ _ _; rfl) (hfs : ∀ x, foldedSetIterable iter X.env x = pure x := by intro _; rfl) :
    PS X (.For tg iter body [] pos) (tG X.K (wS X.K ev) env (ml.bind fun ds => forO (fun a d => (asPair d).bind fun ab => f a ab.1 ab.2) a0 ds)) :=
  ps_forSB (bnd2 (i := i) (j := j)) (f := fun a ab => f a ab.1 ab.2) hp hc hg hi h0 (fun a x => by rw [show put2 i j (ev a) x = env' a x.1 x.2 from hs a x.1 x.2]; exact hb a x.1 x.2) hfs
theorem de_lcP {xi yi : Str} (i j : Nat) {env' : PyData → PyData → List DV.Slot} {t : PyData → PyData → Option Bool} {f : PyData → PyData → Option PyData} (hc : X.calm = true) (hN : X.N.Nodup) (hi : DP X tg iter env ml) (ok : BlkOk X.N X.env.scope scope [(xi, i), (yi, j)])
    (hg : ∀ (s : Shared) (H : Hp) (C : Addr) (cl : List (Str × Addr)) (fp : List Addr), PG (X.blk s H scope (compEnvC scope cl C X.env) fp) tg (gTup X.K 2 (gCons (gName i) (gCons (gName j) gNil))))
    (ht : ∀ (d e : PyData) (s : Shared) (H : Hp) (C : Addr) (cl : List (Str × Addr)) (fp : List Addr), PTs (X.blk s H scope (compEnvC scope cl C X.env) fp) ifs (tDT X.K (env' d e) (t d e)))
    (he : ∀ (d e : PyData) (s : Shared) (H : Hp) (C : Addr) (cl : List (Str × Addr)) (fp : List Addr), DE (X.blk s H scope (compEnvC scope cl C X.env) fp) elt (env' d e) (f d e))
    (hs : ∀ d e, (((env.set j .any).set i .any).set i (.im d)).set j (.im e) = env' d e := by intro _ _; rfl) (hfs : ∀ x, foldedSetIterable iter X.env x = pure x := by intro _; rfl) :
    DE X (.ListComp elt [⟨tg, iter, ifs, 0⟩] scope pos) env (ml.bind (compL (compT asPair fun ab => t ab.1 ab.2) (compF asPair fun ab => f ab.1 ab.2))) :=
  de_lcB (ow := [(xi, i), (yi, j)]) (bnd2 (i := i) (j := j)) (t := fun ab => t ab.1 ab.2) (f := fun ab => f ab.1 ab.2) hc hN hi ok hg
    (fun x s H C cl fp => by rw [show put2 i j (wipeE env ([(xi, i), (yi, j)].map (·.2))) x = env' x.1 x.2 from hs x.1 x.2]; exact ht x.1 x.2 s H C cl fp)
    (fun x s H C cl fp => by rw [show put2 i j (wipeE env ([(xi, i), (yi, j)].map (·.2))) x = env' x.1 x.2 from hs x.1 x.2]; exact he x.1 x.2 s H C cl fp) hfs
theorem de_lcT {xi yi zi : Str} (i j k : Nat) {env' : PyData → PyData → PyData → List DV.Slot} {t : PyData → PyData → PyData → Option Bool} {f : PyData → PyData → PyData → Option PyData} (hc : X.calm = true) (hN : X.N.Nodup) (hi : DP X tg iter env ml) (ok : BlkOk X.N X.env.scope scope [(xi, i), (yi, j), (zi, k)])
    (hg : ∀ (s : Shared) (H : Hp) (C : Addr) (cl : List (Str × Addr)) (fp : List Addr), PG (X.blk s H scope (compEnvC scope cl C X.env) fp) tg (gTup X.K 3 (gCons (gName i) (gCons (gName j) (gCons (gName k) gNil)))))
    (ht : ∀ (d e c : PyData) (s : Shared) (H : Hp) (C : Addr) (cl : List (Str × Addr)) (fp : List Addr), PTs (X.blk s H scope (compEnvC scope cl C X.env) fp) ifs (tDT X.K (env' d e c) (t d e c)))
    (he : ∀ (d e c : PyData) (s : Shared) (H : Hp) (C : Addr) (cl : List (Str × Addr)) (fp : List Addr), DE (X.blk s H scope (compEnvC scope cl C X.env) fp) elt (env' d e c) (f d e c))
    (hs : ∀ d e c, (((((env.set k .any).set j .any).set i .any).set i (.im d)).set j (.im e)).set k (.im c) = env' d e c := by intro _ _ _; rfl) (hfs : ∀ x, foldedSetIterable iter X.env x = pure x := by intro _; rfl) :
    DE X (.ListComp elt [⟨tg, iter, ifs, 0⟩] scope pos) env (ml.bind (compL (compT asTrip fun x => t x.1 x.2.1 x.2.2) (compF asTrip fun x => f x.1 x.2.1 x.2.2))) :=
  de_lcB (ow := [(xi, i), (yi, j), (zi, k)]) (bnd3 (i := i) (j := j) (k := k)) (t := fun x => t x.1 x.2.1 x.2.2) (f := fun x => f x.1 x.2.1 x.2.2) hc hN hi ok hg
    (fun x s H C cl fp => by rw [show put3 i j k (wipeE env ([(xi, i), (yi, j), (zi, k)].map (·.2))) x = env' x.1 x.2.1 x.2.2 from hs x.1 x.2.1 x.2.2]; exact ht x.1 x.2.1 x.2.2 s H C cl fp)
    (fun x s H C cl fp => by rw [show put3 i j k (wipeE env ([(xi, i), (yi, j), (zi, k)].map (·.2))) x = env' x.1 x.2.1 x.2.2 from hs x.1 x.2.1 x.2.2]; exact he x.1 x.2.1 x.2.2 s H C cl fp) hfs
end
end DV
end
section
set_option Elab.async false
set_option linter.all false
set_option maxRecDepth 100000
set_option maxHeartbeats 1000000
/-! DV: len(set(t)) of a tuple of ints -/
namespace DV
open PySem PySem.Spec PyProof.Rows L2 Evl RZ
def dedup (ns : List Int) : List Int := ns.foldl (fun acc n => if n ∈ acc then acc else acc ++ [n]) []
theorem dedup_go : ∀ (ns acc : List Int), acc.Nodup → (ns.foldl (fun acc n => if n ∈ acc then acc else acc ++ [n]) acc).Nodup ∧ ∀ k, k ∈ ns.foldl (fun acc n => if n ∈ acc then acc else acc ++ [n]) acc ↔ k ∈ acc ∨ k ∈ ns
  | [], acc, h => ⟨h, fun k => by simp⟩
  | n :: r, acc, h => by
    rw [List.foldl_cons]
    by_cases hn : n ∈ acc
    · rw [if_pos hn]
      obtain ⟨h1, h2⟩ := dedup_go r acc h
      refine ⟨h1, fun k => ?_⟩
      rw [h2 k, List.mem_cons]
      constructor
      · rintro (z | z)
        · exact .inl z
        · exact .inr (.inr z)
      · rintro (z | z | z)
        · exact .inl z
        · exact .inl (z ▸ hn)
        · exact .inr z
    · rw [if_neg hn]
      obtain ⟨h1, h2⟩ := dedup_go r (acc ++ [n]) (by
        rw [List.nodup_append]
        refine ⟨h, by simp, fun a ha b hb => ?_⟩
        rw [List.mem_singleton] at hb
        subst hb
        exact fun z => hn (z ▸ ha))
      refine ⟨h1, fun k => ?_⟩
      rw [h2 k, List.mem_append, List.mem_singleton, List.mem_cons]
      constructor
      · rintro ((z | z) | z)
        · exact .inl z
        · exact .inr (.inl z)
        · exact .inr (.inr z)
      · rintro (z | z | z)
        · exact .inl (.inl z)
        · exact .inl (.inr z)
        · exact .inr z
theorem nodup_len : ∀ {l m : List Int}, l.Nodup → m.Nodup → (∀ k, k ∈ l ↔ k ∈ m) → l.length = m.length
  | [], m, _, _, h => by
    cases m with
    | nil => rfl
    | cons a r => exact absurd ((h a).mpr List.mem_cons_self) (by simp)
  | a :: l, m, hl, hm, h => by
    have ha : a ∈ m := (h a).mp List.mem_cons_self
    have hl' := List.nodup_cons.mp hl
    have := nodup_len (l := l) (m := m.erase a) hl'.2 (hm.erase a) (fun k => by
      rw [hm.mem_erase_iff]
      constructor
      · intro hk
        exact ⟨fun z => hl'.1 (z ▸ hk), (h k).mp (List.mem_cons_of_mem _ hk)⟩
      · rintro ⟨hk, hm'⟩
        rcases List.mem_cons.mp ((h k).mpr hm') with z | z
        · exact absurd z hk
        · exact z)
    rw [List.length_cons, this, List.length_erase_of_mem ha]
    have : 0 < m.length := List.length_pos_of_mem ha
    omega
def tLenSetT (K : PySem.W.Frag) (ta : TE) : TE := fun σ H Q => ta σ H fun x H1 => ∃ (l : Addr) (ns : List Int), x = .ref l ∧ SqT K H1 l (ns.map V.int) ∧ ns.length ≤ 4000 ∧ Q (.int ((dedup ns).length : Nat)) H1
theorem pe_lenSetT {X : Cx} {a : Expr} {ta : TE} {p p2 q pos : Pos} (hc : X.calm = true) (hg : Gl X "len") (hm : X.mg "len" = none) (hg2 : Gl X "set") (hm2 : X.mg "set" = none) (ha : PE X a ta)
    (na : starEach [a] X.env = (false, eval a X.env) :: starEach [] X.env := by rfl) : PE X (.Call (.Name "len" p) [.Call (.Name "set" p2) [a] [] q] [] pos) (tLenSetT X.K ta) := by
  refine ⟨fun pins s σ H Q I h => ?_⟩
  refine Call_ (ld_blt I hg hm boot_len ?_)
  refine PyProof.Rows.callWith_builtin1 (PyProof.Rows.args_cons ?_ rfl) rfl rfl
  refine Call_ (ld_blt I hg2 hm2 boot_set ?_)
  refine PyProof.Rows.callWith_type1 (PyProof.Rows.args_cons (thn (ha.run pins s σ H _ I h) fun v s1 ⟨x, H1, I1, r1, q1⟩ => PyProof.Rows.args_nil ?_) na) na rfl
  obtain ⟨l, ns, rfl, hq, hl, q1⟩ := q1
  cases r1
  obtain ⟨its, r, pl, hz⟩ := I1.tuple hq
  refine call_set_tupI ns (I1.ok.hd hc) (show s1.heap.IsTuple l its.toArray from pl) (by simpa using intsAre_vals r) (by unfold scanBound; omega) fun h' tk c hS hcl hk => ?_
  refine PyProof.Rows.args_nil ?_
  obtain ⟨o, es, ep, t, ho, hex, hd, _, hnd, hmem, _, hf, hn, _⟩ := hS
  have I2 : Inv X pins σ H1 { s1 with heap := h', toks := tk } := I1.kept fun b o e => hk b o e
  have hdd := dedup_go ns [] List.nodup_nil
  have e : (dedup ns).length = es.size := by
    have := nodup_len hdd.1 hnd (fun k => by
      rw [hdd.2 k, ← hmem k]
      simp)
    rw [List.length_map, Array.length_toList] at this
    exact this
  rw [e] at q1
  exact call_len_set ho hex hd hf (by rw [hn] <;> omega) ⟨.int es.size, H1, I2.tok _, ⟨_, rfl⟩, q1⟩
section
variable {X : Cx} {env : List DV.Slot} {a : Expr} {m : Option PyData}
theorem de_lenSet {p p2 q pos : Pos} (hc : X.calm = true) (hg : Gl X "len") (hm : X.mg "len" = none) (hg2 : Gl X "set") (hm2 : X.mg "set" = none) (ha : DE X a env m)
    (na : starEach [a] X.env = (false, eval a X.env) :: starEach [] X.env := by rfl) : DE X (.Call (.Name "len" p) [.Call (.Name "set" p2) [a] [] q] [] pos) env (m.bind pLenSet) :=
  PE.mono (pe_lenSetT hc hg hm hg2 hm2 ha na) fun σ H Q ⟨F0, H0, F, d, ok, em, q⟩ => by
    obtain ⟨z, hz, em⟩ := Option.bind_eq_some_iff.mp em
    refine ⟨F0, H0, F, z, ok, hz, fun v F1 H1 g h1 => ?_⟩
    unfold pLenSet at em
    split at em
    · obtain ⟨ns, hns, em⟩ := Option.bind_eq_some_iff.mp em
      split at em
      · rename_i hle
        cases em
        have e := intsOf_some hns
        subst e
        cases h1 with
        | tup t1 o1 d1 =>
          have e2 := dvAll_ints_of d1
          subst e2
          exact ⟨_, ns, rfl, ex_t g.sub (dv_sqT t1), by omega, q _ F1 H1 g (.int _)⟩
      · cases em
    · cases em
end
end DV
end
section
set_option Elab.async false
set_option linter.all false
set_option maxRecDepth 100000
set_option maxHeartbeats 1000000
/-! DV: str(int) -/
namespace DV
open PySem PySem.Spec PyProof.Rows L2 Evl RZ
def pStr : List PyData → Option PyData
  | [.int i] => if i.natAbs.log2 < 1920 then some (.str (toString i)) else none
  | _ => none
theorem rc_str {K : PySem.W.Frag} : RCD K (fun xs H Q => ∃ i, xs = [.int i] ∧ i.natAbs.log2 < 1920 ∧ Q (.str (toString i)) H) pStr := by
  intro vs F H ds z Q s hd hp q
  unfold pStr at hp
  split at hp
  · split at hp
    · rename_i i hi
      cases hp
      obtain ⟨v, rfl, h⟩ := one_of hd
      rw [dv_int h]
      exact ⟨_, rfl, hi, q _ F H (Grow.refl s) (.str _)⟩
    · cases hp
  · cases hp
end DV
end
section
set_option Elab.async false
set_option linter.all false
set_option maxRecDepth 100000
set_option maxHeartbeats 1000000
/-! DV: dicts whose keys are tuples of ints; names of such keys; owned lists made by a comprehension -/
namespace DV
open PySem PySem.Spec PyProof.Rows L2 Evl RZ
/-! ### keys -/
def tKy (K : PySem.W.Frag) (env : List DV.Slot) (m : Option (List Int)) : TE := fun σ H Q => ∃ F0 H0 F ks, EOk K F0 H0 σ F H env ∧ m = some ks ∧ ∀ b F' H', Grow F H F' H' → H' b = some (.tup (ks.map V.int)) → Q (.ref b) H'
abbrev DKy (X : Cx) (e : Expr) (env : List DV.Slot) (m : Option (List Int)) : Prop := PE X e (tKy X.K env m)
def keyI (ds : List PyData) : Option (List Int) := (intsOf ds).bind fun ns => if szOk ns.length then some ns else none
def keyL : List PyData → Option (List Int)
  | [.list ds] => intsOf ds
  | _ => none
theorem kvs_int (ks : List Int) : (ks.map (Sum.inl : Int → Key)).map kV = ks.map V.int := by
  rw [List.map_map]
  rfl
section
variable {X : Cx} {env : List DV.Slot} {a b e f : Expr} {es : List Expr} {pos p : Pos} {ma mb m : Option PyData} {ms : Option (List PyData)} {mk : Option (List Int)} {x : Str} {β : Type} {W : Wk β} {rest : List Stmt}
theorem dky_tup {x1} (h : DA X es env ms) : DKy X (.Tuple es x1 pos) env (ms.bind keyI) := PE.mono (pe_tup h) fun σ H Q ⟨F0, H0, F, ks, ok, em, q⟩ => by
  obtain ⟨ds, hds, em⟩ := Option.bind_eq_some_iff.mp em
  obtain ⟨ns, hns, em⟩ := Option.bind_eq_some_iff.mp em
  split at em
  · rename_i hz
    cases em
    have e := intsOf_some hns
    subst e
    refine ⟨F0, H0, F, _, ok, hds, fun vs F1 H1 g1 h1 => ?_⟩
    have e2 := dvAll_ints_of h1
    subst e2
    exact ⟨by rw [List.length_map]; exact hz.line, fun p hp => q p F1 _ (g1.trans (Grow.newH g1.sub hp)) upd_same⟩
  · cases em
theorem dky_var (i : Nat) {ks : List Int} (he : env[i]? = some (.kt ks) := by rfl) (hN : X.N[i]? = some x := by rfl) (hv : Vis X.env.scope x := by first | exact Or.inl rfl | exact Or.inr (Or.inl rfl) | exact Or.inr (Or.inr rfl))
    (hd : (x == ("__debug__" : Str)) = false := by decide) (hcd : (x == ("__classdict__" : Str)) = false := by decide) : DKy X (.Name x pos) env (some ks) :=
  PE.mono (pe_var (i := i) hN hv hd hcd) fun σ H Q ⟨F0, H0, F, ks', ok, em, q⟩ => by
    cases em
    obtain ⟨b, eb, hb⟩ := ok.at_ i _ he
    exact ⟨.ref b, eb, q b F H (Grow.refl ok.sub) hb⟩
theorem dky_tuple (hg : Gl X "tuple") (hm : X.mg "tuple" = none) (ha : DA X [e] env ms) (he : starEach [e] X.env = (false, eval e X.env) :: starEach [] X.env := by rfl) (hpl : (backTo pos (starEach [] X.env)).any (·.1) = false := by rfl) :
    DKy X (.Call (.Name "tuple" p) [e] [] pos) env (ms.bind keyL) := PE.mono (pe_callTy call_tuple_of hg hm (by decide +kernel) ha (by decide) (by decide) he hpl) fun σ H Q ⟨F0, H0, F, d, o, em, q⟩ => by
  obtain ⟨ds, hds, em1⟩ := Option.bind_eq_some_iff.mp em
  refine ⟨F0, H0, F, ds, o, hds, fun vs F1 H1 g1 h1 => ?_⟩
  unfold keyL at em1
  split at em1
  · have e := intsOf_some em1
    subst e
    obtain ⟨v, rfl, h⟩ := one_of h1
    cases h with
    | lst h2 a2 =>
      have e2 := dvAll_ints_of a2
      subst e2
      exact ⟨_, _, rfl, .inl ⟨sq_of (g1.sub _ _ h2), fun l hl => q l F1 _ (g1.trans (Grow.newH g1.sub hl)) upd_same⟩⟩
  · cases em1
theorem EOk.setK {K : PySem.W.Frag} {F0 H0 F H : Hp} {σ : L2.St} {env : List DV.Slot} {i : Nat} {b : Addr} {ks : List Int} (o : EOk K F0 H0 σ F H env) (h : H b = some (.tup (ks.map V.int))) : EOk K F0 H0 (σ.set i (some (.ref b))) F H (env.set i (.kt ks)) :=
  o.setNew (s' := .kt ks) (Grow.refl o.sub) ⟨b, rfl, h⟩ fun _ q => q.elim
theorem dg_asgK (i : Nat) {pos' : Pos} {k : List Int → Option β} {env' : List Int → List DV.Slot} (hN : X.N.Nodup) (hx : Loc X.env.scope x) (he : DKy X e env mk) (hr : ∀ d, DG X rest W (env' d) (k d)) (hs : ∀ d, env.set i (.kt d) = env' d := by intro _; rfl)
    (hi : X.N[i]? = some x := by rfl) (hsw : swapsWith e (some (.Name x pos')) pos.line X.env = pure false := by rfl) (hf : X.fn x = true ∨ X.env.scope.names.lookup x = some .local := by first | exact .inl rfl | exact .inr rfl | assumption) :
    DG X (.Assign [.Name x pos'] e pos :: rest) W env (mk.bind k) := PSs.mono (pss_cons (ps_set (i := i) hN hi hx he hsw hf) (pss_ex hr)) fun D σ H ⟨F0, H0, F, o, ok, em, q⟩ => by
  obtain ⟨d, hd, em1⟩ := Option.bind_eq_some_iff.mp em
  refine ⟨F0, H0, F, d, ok, hd, fun b F' H' g hb => ⟨d, F0, H0, F', o, ?_, em1, W.mono g.ff q⟩⟩
  rw [← hs]
  exact (ok.grow g).setK hb
/-! ### the dict -/
theorem dt_at {K : PySem.W.Frag} {F0 H0 F H : Hp} {σ : L2.St} {env : List DV.Slot} {i : Nat} {ds : List (List Key × PyData)} (o : EOk K F0 H0 σ F H env) (e : env[i]? = some (.dt ds)) : ∃ a vs, σ[i]? = some (some (.ref a)) ∧ H0 a = none ∧ F a = none ∧ H a = some (.dT vs) ∧ KvD K F vs ds := by
  obtain ⟨a, vs, h1, h2, h3, h4, h5, h6⟩ := o.at_ i _ e
  exact ⟨a, vs, h1, h2, h3, h4, kvd_of h5 h6⟩
def kI (ks : List Int) : List Key := ks.map Sum.inl
theorem de_tget2 (i : Nat) {px apos : Pos} {kvs : List (List Key × PyData)} {mf : Option PyData} (hu : X.A.units + 1 < cLine) (h1 : DKy X e env mk) (h2 : DE X f env mf) (he : env[i]? = some (.dt kvs) := by rfl) (hN : X.N[i]? = some x := by rfl) (hv : Vis X.env.scope x := by first | exact Or.inl rfl | exact Or.inr (Or.inl rfl) | exact Or.inr (Or.inr rfl))
    (hd : (x == ("__debug__" : Str)) = false := by decide) (hcd : (x == ("__classdict__" : Str)) = false := by decide) (hM : M2 X (.Name x px) "get" apos e f pos := by exact ⟨rfl, rfl, rfl, rfl⟩) :
    DE X (.Call (.Attribute (.Name x px) "get" apos) [e, f] [] pos) env (mk.bind fun k => mf.map fun z => (valD kvs (kI k)).getD z) :=
  PE.mono (pe_dget2 hu (pe_var (i := i) hN hv hd hcd) h1 h2 hM) fun σ H Q ⟨F0, H0, F, d, o, em, q⟩ => by
    obtain ⟨n, hn, em1⟩ := Option.bind_eq_some_iff.mp em
    cases hz : mf with
    | none => rw [hz] at em1; cases em1
    | some z =>
    rw [hz] at em1
    cases em1
    obtain ⟨a, vs, e1, _, _, hh0, _⟩ := dt_at o he
    refine ⟨.ref a, e1, a, rfl, .inr ⟨vs, .inl hh0⟩, F0, H0, F, n, o, hn, fun b F1 H1 g1 hb => ⟨F0, H0, F1, z, o.grow g1, rfl, fun u F2 H2 g2 h2 => ?_⟩⟩
    obtain ⟨a', vs', e1', _, _, hh, hds⟩ := dt_at (o.grow (g1.trans g2)) he
    rw [e1] at e1'
    cases e1'
    have hb2 : H2 b = some (.tup ((kI n).map kV)) := by
      unfold kI
      rw [kvs_int]
      exact g2.hh _ _ hb
    refine ⟨valV vs' (kI n), DGet.t hh hb2, ?_⟩
    have q : ∀ v F' H', Grow F H F' H' → Dv X.K F' v ((valD kvs (kI n)).getD z) → Q v H' := q
    rcases hds.val (kI n) with ⟨z1, z2⟩ | ⟨w', d', z1, z2, dd⟩
    · rw [z1]
      rw [z2] at q
      exact q u F2 H2 (g1.trans g2) h2
    · rw [z1]
      rw [z2] at q
      exact q w' F2 H2 (g1.trans g2) dd
theorem dg_asgT0 (i : Nat) {pos' p0 : Pos} {k : Option β} {env' : List DV.Slot} (hN : X.N.Nodup) (hx : Loc X.env.scope x) (hr : DG X rest W env' k) (hs : env.set i (.dt []) = env' := by rfl)
    (hi : X.N[i]? = some x := by rfl) (hsw : swapsWith (.Dict [] [] p0) (some (.Name x pos')) pos.line X.env = pure false := by rfl) (hf : X.fn x = true ∨ X.env.scope.names.lookup x = some .local := by first | exact .inl rfl | exact .inr rfl | assumption) :
    DG X (.Assign [.Name x pos'] (.Dict [] [] p0) pos :: rest) W env k := PSs.mono (pss_cons (ps_set (i := i) hN hi hx pe_dnewT hsw hf) hr) fun D σ H ⟨F0, H0, F, o, ok, em, q⟩ => by
  intro p hp
  refine ⟨F0, H0, F, o, ?_, em, q⟩
  rw [← hs]
  exact ok.setOwn hp ⟨p, [], rfl, fresh_back ok.g.hh hp, fresh_back ok.sub hp, upd_same, rfl, .nil⟩
theorem dg_tput (i : Nat) {v : Expr} {px q0 : Pos} {mv : Option PyData} {kvs : List (List Key × PyData)} {k : List (List Key × PyData) → Option β} {env' : List (List Key × PyData) → List DV.Slot} (hu : X.A.units + 1 < cLine) (hv : DE X v env mv) (he : DKy X e env mk) (hr : ∀ kvs, DG X rest W (env' kvs) (k kvs))
    (ho : env[i]? = some (.dt kvs) := by rfl) (hs : ∀ kvs, env.set i (.dt kvs) = env' kvs := by intro _; rfl) (hN : X.N[i]? = some x := by rfl) (hvi : Vis X.env.scope x := by first | exact Or.inl rfl | exact Or.inr (Or.inl rfl) | exact Or.inr (Or.inr rfl))
    (hd : (x == ("__debug__" : Str)) = false := by decide) (hcd : (x == ("__classdict__" : Str)) = false := by decide) (hsw : swapsWith v (some (.Subscript (.Name x px) e q0)) pos.line X.env = pure false := by rfl) :
    DG X (.Assign [.Subscript (.Name x px) e q0] v pos :: rest) W env (mv.bind fun d => mk.bind fun n => if szOk kvs.length then k (putD kvs (kI n) d) else none) :=
  PSs.mono (pss_cons (ps_dput hu (pe_var (i := i) hN hvi hd hcd) he hv hsw) (pss_ex hr)) fun D σ H ⟨F0, H0, F, o, ok, em, q⟩ => by
    obtain ⟨d, hd, em1⟩ := Option.bind_eq_some_iff.mp em
    obtain ⟨n, hn, em3⟩ := Option.bind_eq_some_iff.mp em1
    split at em3
    case isFalse => cases em3
    rename_i hz
    refine ⟨F0, H0, F, d, ok, hd, fun w1 F1 H1 g1 d1 => ?_⟩
    have ok1 := ok.grow g1
    obtain ⟨a, vs, e1, _⟩ := dt_at ok1 ho
    refine ⟨.ref a, e1, F0, H0, F1, n, ok1, hn, fun b F2 H2 g2 hb => ?_⟩
    have ok2 := ok1.grow g2
    obtain ⟨a', vs', e1', h0, hf, hh, hds⟩ := dt_at ok2 ho
    rw [e1] at e1'
    cases e1'
    have hb2 : H2 b = some (.tup ((kI n).map kV)) := by
      unfold kI
      rw [kvs_int]
      exact hb
    refine ⟨a, _, rfl, DPut.t hh hb2 (by rw [hds.len]; exact hz.lt), putD kvs (kI n) d, F0, H0, F2, o, ?_, em3, W.mono (g1.trans g2).ff q⟩
    rw [← hs]
    have hkv := hds.put (k := kI n) (dv_mono g2.ff d1)
    exact ok2.mut ho rfl rfl e1 ⟨a, _, rfl, h0, hf, upd_same, hkv.keys, hkv.vals⟩
end
/-! ### d.get(y, x), the key a tuple that is read -/
theorem key_of2 {X : Cx} {pins : List (Addr × Obj)} {σ : L2.St} {H : Hp} {s : Shared} {b : Addr} {ks : List Key} (I : Inv X pins σ H s) (h : SqT X.K H b (ks.map kV)) : (tupleKind (mixKind X.prog X.w)).is s.heap ks b := by
  obtain ⟨its, rv, p, _⟩ := I.tuple h
  obtain ⟨o, h1, h2, n, h3⟩ := (show s.heap.IsTuple b its.toArray from p)
  exact ⟨o, its.toArray, n, h1, h2, h3, by simpa using items_are rv⟩
theorem d_get2F {X : Cx} {pins : List (Addr × Obj)} {σ : L2.St} {H : Hp} {s : Shared} {a b : Addr} {d : V} {r : Value} {kvs : List (List Key × V)} {k : List Key} {A : Around} {E : Value → Shared → Prop} {Q : Value → Shared → Prop} (hu : A.units + 1 < cLine) (I : Inv X pins σ H s) (e : Rd H a (.dT kvs)) (eb : SqT X.K H b (k.map kV)) (rd : RelV d r)
    (h : ∀ w' s', Inv X pins σ H s' → RelV ((valV kvs k).getD d) w' → Q w' s') : wpAny (model X.prog X.w) A (call (.builtin "dict.get") [.ref a, .ref b, r]) Q E s := by
  obtain ⟨z, hd, xs, rel, dd⟩ := dt_rd I.hok e
  refine call_meetsIn PySem.F.slot_dict_get dd.typeIs PySem.F.entry_dict_get (PySem.F.args_dict_get_3 _ _ _) (meetsH_dict_get_default (tupleKind (mixKind X.prog X.w)) a b hd r) ⟨tupleKind_room_in1 hu, k, xs, key_of2 I eb, dd, h _ _ (I.tok _) ?_⟩
  exact (rel.val k).getD rd
def tDGet2F (K : PySem.W.Frag) (td ty tx : TE) : TE := fun σ H Q => td σ H fun x H1 => ∃ a, x = .ref a ∧ IsD H1 a ∧ ty σ H1 fun y H2 => tx σ H2 fun z H3 => ∃ b kvs k, y = .ref b ∧ Rd H3 a (.dT kvs) ∧ SqT K H3 b (k.map kV) ∧ Q ((valV kvs k).getD z) H3
theorem pe_dget2F {X : Cx} {o e f : Expr} {apos cpos : Pos} {td ty tx : TE} (hu : X.A.units + 1 < cLine) (ho : PE X o td) (he : PE X e ty) (hf : PE X f tx) (m : M2 X o "get" apos e f cpos) : PE X (.Call (.Attribute o "get" apos) [e, f] [] cpos) (tDGet2F X.K td ty tx) := by
  refine ⟨fun pins s σ H Q I h => ?_⟩
  refine wpAny_Call_method m.base m.few m.line PySem.F.plainAttrs_dict PySem.F.slot_dict_get PySem.F.type_dict_get (thn (ho.run pins s σ H _ I h) fun u s1 ⟨x, H1, I1, rx, a, ex, d, q1⟩ => ?_)
  subst ex
  obtain rfl : u = Value.ref a := rx
  obtain ⟨t1, t2, _⟩ := isD_at I1 d
  refine ⟨t1, t2, ?_⟩
  rw [m.trees]
  refine Calls.callWith_builtin rfl (Calls.evalArgs_plain (Calls.spliced_cons (thn (he.run pins s1 σ H1 _ I1 q1) fun iv s2 ⟨y, H2, I2, ry, q2⟩ =>
    Calls.spliced_cons (thn (hf.run pins s2 σ H2 _ I2 q2) fun fv s3 ⟨z, H3, I3, rz, b, kvs, k, ey, ea, eb, q3⟩ => Calls.spliced_nil ?_))))
  subst ey
  obtain rfl : iv = Value.ref b := ry
  exact d_get2F hu I3 ea eb rz fun w' s4 I4 rw' => ⟨_, H3, I4, rw', q3⟩
def keyD : PyData → Option (List Int)
  | .tuple ds => intsOf ds
  | _ => none
theorem de_tgetD {X : Cx} {env : List DV.Slot} {e f : Expr} {pos : Pos} {x : Str} (i : Nat) {px apos : Pos} {kvs : List (List Key × PyData)} {me mf : Option PyData} (hu : X.A.units + 1 < cLine) (h1 : DE X e env me) (h2 : DE X f env mf) (he : env[i]? = some (.dt kvs) := by rfl) (hN : X.N[i]? = some x := by rfl) (hv : Vis X.env.scope x := by first | exact Or.inl rfl | exact Or.inr (Or.inl rfl) | exact Or.inr (Or.inr rfl))
    (hd : (x == ("__debug__" : Str)) = false := by decide) (hcd : (x == ("__classdict__" : Str)) = false := by decide) (hM : M2 X (.Name x px) "get" apos e f pos := by exact ⟨rfl, rfl, rfl, rfl⟩) :
    DE X (.Call (.Attribute (.Name x px) "get" apos) [e, f] [] pos) env (me.bind fun y => mf.bind fun z => (keyD y).map fun k => (valD kvs (kI k)).getD z) :=
  PE.mono (pe_dget2F hu (pe_var (i := i) hN hv hd hcd) h1 h2 hM) fun σ H Q ⟨F0, H0, F, d, o, em, q⟩ => by
    obtain ⟨y, hy, em1⟩ := Option.bind_eq_some_iff.mp em
    obtain ⟨z, hz, em2⟩ := Option.bind_eq_some_iff.mp em1
    obtain ⟨n, hn, em3⟩ := Option.map_eq_some_iff.mp em2
    subst em3
    obtain ⟨a, vs, e1, _, _, hh0, _⟩ := dt_at o he
    refine ⟨.ref a, e1, a, rfl, .inr ⟨vs, .inl hh0⟩, F0, H0, F, y, o, hy, fun v F1 H1 g1 h1 => ⟨F0, H0, F1, z, o.grow g1, hz, fun u F2 H2 g2 h2 => ?_⟩⟩
    obtain ⟨a', vs', e1', _, _, hh, hds⟩ := dt_at (o.grow (g1.trans g2)) he
    rw [e1] at e1'
    cases e1'
    unfold keyD at hn
    split at hn
    · have e := intsOf_some hn
      subst e
      have h1' := dv_mono g2.ff h1
      cases h1' with
      | tup t1 o1 d1 =>
        have e2 := dvAll_ints_of d1
        subst e2
        refine ⟨_, vs', kI n, rfl, .inl hh, by unfold kI; rw [kvs_int]; exact ex_t g2.sub (dv_sqT t1), ?_⟩
        rcases hds.val (kI n) with ⟨z1, z2⟩ | ⟨w', d', z1, z2, dd⟩
        · rw [z1]
          rw [z2] at q
          exact q u F2 H2 (g1.trans g2) h2
        · rw [z1]
          rw [z2] at q
          exact q w' F2 H2 (g1.trans g2) dd
    · cases hn
/-! ### an owned list made by a comprehension -/
def compO (t : PyData → Option Bool) (f : PyData → Option PyData) (ds : List PyData) : Option (List PyData) := if szOk ds.length then compM t f ds else none
section
variable {X : Cx} {env : List DV.Slot} {elt iter : Expr} {ifs : List Expr} {scope : Scope} {pos px : Pos} {x : Str} {ml : Option (List PyData)} {t : PyData → Option Bool} {f : PyData → Option PyData}
theorem lc_readO (j : Nat) (hj : j < env.length) {σ : L2.St} {H : Hp} {Q : VK} (h : tDF X.K env (ml.bind (compO t f)) σ H Q) :
    tLc (tI X.K env ml) (gName j) (fun σ H Q => ∃ d, tDT X.K (env.set j (.im d)) (t d) σ H Q) (fun σ H Q => ∃ d, tD X.K (env.set j (.im d)) (f d) σ H Q) [j] σ H Q := by
  obtain ⟨F0, H0, F, res, ok, em, q⟩ := h
  obtain ⟨ds, hds, em⟩ := Option.bind_eq_some_iff.mp em
  unfold compO at em
  split at em
  case isFalse => cases em
  rename_i hz
  have hcm := em
  refine ⟨F0, H0, F, ds, ok, hds, fun J F1 H1 g it D hD => ?_⟩
  have ok1 := ok.grow g
  have fD : F1 D = none := fresh_back g.sub hD
  refine ⟨fun i m H' => i + m = ds.length ∧ ∃ F' acc done rest, Grow F1 H1 F' H' ∧ F' D = none ∧ H' D = some (.lst acc) ∧ DvAll X.K F' acc done ∧ done.length ≤ i ∧ compM t f (ds.drop i) = some rest ∧ done ++ rest = res,
    ⟨ds.length, by omega, F1, [], [], res, Grow.newH g.sub hD, fD, upd_same, .nil, Nat.le_refl _, hcm, rfl⟩, ?_⟩
  rintro i m H' ⟨hm, F', acc, done, rest, g', fD', hD', hacc, hdl, hc, hres⟩
  have ok' := ok1.grow g'
  by_cases hlt : i < ds.length
  · have hget : ds[i]? = some ds[i] := List.getElem?_eq_getElem hlt
    obtain ⟨hgo, hyl⟩ := it.go i _ F' H' g'.ff g'.sub hget
    rw [List.drop_eq_getElem_cons hlt] at hc
    unfold compM at hc
    obtain ⟨b, hb, hc⟩ := Option.bind_eq_some_iff.mp hc
    refine .inr ⟨hgo, fun H2 => ∃ m', m' < m ∧ (i + 1 + m' = ds.length ∧ ∃ F' acc done rest, Grow F1 H1 F' H2 ∧ F' D = none ∧ H2 D = some (.lst acc) ∧ DvAll X.K F' acc done ∧ done.length ≤ i + 1 ∧ compM t f (ds.drop (i + 1)) = some rest ∧ done ++ rest = res), fun H2 h2 => h2, fun v H2 hy => ?_⟩
    obtain ⟨F2, g2, dv⟩ := hyl v H2 hy
    have e1 : (wipe σ [j]).set j (some v) = σ.set j (some v) := by
      show (σ.set j none).set j (some v) = _
      rw [List.set_set]
    have e2 : wipe ((wipe σ [j]).set j (some v)) [j] = wipe σ [j] := by
      show (((σ.set j none).set j (some v)).set j none) = σ.set j none
      rw [List.set_set, List.set_set]
    refine ⟨e2, ?_⟩
    rw [e1]
    have ok2 : EOk X.K F0 H0 (σ.set j (some v)) F2 H2 (env.set j (.im ds[i])) := (ok'.grow g2).set dv
    refine ⟨ds[i], F0, H0, F2, b, ok2, hb, fun F3 H3 g3 => ?_⟩
    have g13 := (g'.trans g2).trans g3
    have fD3 : F3 D = none := (g2.trans g3).own D fD' (ne_none hD')
    have hD3 : H3 D = some (.lst acc) := (g2.trans g3).hh _ _ hD'
    cases b with
    | true =>
      have hc : ((f ds[i]).bind fun y => (compM t f (ds.drop (i + 1))).bind fun ys => some (y :: ys)) = some rest := hc
      obtain ⟨y, hyv, hc⟩ := Option.bind_eq_some_iff.mp hc
      obtain ⟨ys, hys, hc⟩ := Option.bind_eq_some_iff.mp hc
      cases hc
      refine ⟨ds[i], F0, H0, F3, y, ok2.grow g3, hyv, fun u F4 H4 g4 hu => ?_⟩
      have fD4 : F4 D = none := g4.own D fD3 (ne_none hD3)
      refine ⟨acc, g4.hh _ _ hD3, ?_, m - 1, by omega, by omega, F4, acc ++ [u], done ++ [y], ys, ?_, fD4, upd_same, ?_, ?_, hys, ?_⟩
      · rw [dvAll_len hacc]
        have : szOk done.length := Nat.le_trans hdl (Nat.le_trans (Nat.le_of_lt hlt) hz)
        exact this.lt
      · have g14 := g13.trans g4
        exact ⟨g14.ff, Ex.mut g14.hh hD, Ex.mut g14.sub fD4, g14.own⟩
      · exact dvAll_app (dvAll_mono ((g2.trans g3).trans g4).ff hacc) (.cons hu .nil)
      · rw [List.length_append]
        show done.length + 1 ≤ i + 1
        omega
      · rw [List.append_assoc]
        exact hres
    | false =>
      exact ⟨m - 1, by omega, by omega, F3, acc, done, rest, g13, fD3, hD3, dvAll_mono (g2.trans g3).ff hacc, by omega, hc, hres⟩
  · have e : ds.drop i = [] := List.drop_eq_nil_of_le (by omega)
    rw [e] at hc
    cases hc
    rw [List.append_nil] at hres
    subst hres
    refine .inl ⟨it.stop i F' H' g'.ff g'.sub (by omega), ?_⟩
    -- the list apart from the heap
    have gg := g.trans g'
    have eH : upd (fun b => if b = D then none else H' b) D (.lst acc) = H' := by
      funext b
      by_cases hb : b = D
      · subst hb
        rw [upd_same]
        exact hD'.symm
      · rw [upd_ne hb, if_neg hb]
    have := q D acc F' (fun b => if b = D then none else H' b) ⟨gg.ff, fun b u eb => ?_, fun b u eb => ?_, gg.own⟩ (if_pos rfl) hacc
    · rw [eH] at this
      exact this
    · have nb : b ≠ D := fun z => by
        have := g.hh b u eb
        rw [z, hD] at this
        cases this
      show (if b = D then none else H' b) = some u
      rw [if_neg nb]
      exact gg.hh b u eb
    · have nb : b ≠ D := fun z => by
        rw [z, fD'] at eb
        cases eb
      show (if b = D then none else H' b) = some u
      rw [if_neg nb]
      exact g'.sub b u eb
variable {β : Type} {W : Wk β} {rest : List Stmt} {spos py : Pos} {y : Str}
theorem dg_asgLcO (i j : Nat) {env' : PyData → List DV.Slot} {env2 : List PyData → List DV.Slot} {k : List PyData → Option β} (hc : X.calm = true) (hN : X.N.Nodup) (hyl : X.env.scope.names.lookup y = some .local)
    (hsw : swapsWith (.ListComp elt [⟨.Name x px, iter, ifs, 0⟩] scope pos) (some (.Name y py)) spos.line X.env = pure true) (hi : DI X (.Name x px) iter env ml) (ok : BlkOk X.N X.env.scope scope [(x, j)])
    (hg : ∀ (s : Shared) (H : Hp) (C : Addr) (cl : List (Str × Addr)) (fp : List Addr), PG (X.blk s H scope (compEnvC scope cl C X.env) fp) (.Name x px) (gName j))
    (ht : ∀ (d : PyData) (s : Shared) (H : Hp) (C : Addr) (cl : List (Str × Addr)) (fp : List Addr), PTs (X.blk s H scope (compEnvC scope cl C X.env) fp) ifs (tDT X.K (env' d) (t d)))
    (he : ∀ (d : PyData) (s : Shared) (H : Hp) (C : Addr) (cl : List (Str × Addr)) (fp : List Addr), DE (X.blk s H scope (compEnvC scope cl C X.env) fp) elt (env' d) (f d)) (hr : ∀ d, DG X rest W (env2 d) (k d))
    (hs : ∀ d, env.set j (.im d) = env' d := by intro _; rfl) (hs2 : ∀ d, env.set i (.ow d) = env2 d := by intro _; rfl) (hj : j < env.length := by exact Nat.le_of_ble_eq_true rfl) (hy : X.N[i]? = some y := by rfl) (hfs : ∀ x, foldedSetIterable iter X.env x = pure x := by intro _; rfl) :
    DG X (.Assign [.Name y py] (.ListComp elt [⟨.Name x px, iter, ifs, 0⟩] scope pos) spos :: rest) W env ((ml.bind (compO t f)).bind k) := by
  have e : env' = fun d => env.set j (.im d) := funext fun d => (hs d).symm
  subst e
  refine PSs.mono (pss_cons (ps_setLc (i := i) (own := [(x, j)]) (tt := fun σ H Q => ∃ d, tDT X.K (env.set j (.im d)) (t d) σ H Q) (te := fun σ H Q => ∃ d, tD X.K (env.set j (.im d)) (f d) σ H Q) hc hN hy hyl hsw hi ok hg (fun s H C cl fp => pts_ex fun d => ht d s H C cl fp) (fun s H C cl fp => pe_ex fun d => he d s H C cl fp) hfs) (pss_ex hr)) fun D σ H ⟨F0, H0, F, o, ok', em, q⟩ => ?_
  obtain ⟨d, hd, em⟩ := Option.bind_eq_some_iff.mp em
  show tLc (tI X.K env ml) (gName j) (fun σ H Q => ∃ d, tDT X.K (env.set j (.im d)) (t d) σ H Q) (fun σ H Q => ∃ d, tD X.K (env.set j (.im d)) (f d) σ H Q) [j] σ H (fun v H1 => ∃ a, tG X.K W (env2 a) (k a) D (σ.set i (some v)) H1)
  refine lc_readO (X := X) (ml := ml) j hj ⟨F0, H0, F, d, ok', hd, fun p xs F' H' g hp hxs => ⟨d, F0, H0, F', o, ?_, em, W.mono g.ff q⟩⟩
  rw [← hs2]
  have ok2 := ok'.grow g
  exact ok2.setOwn hp ⟨p, xs, rfl, fresh_back ok2.g.hh hp, fresh_back g.sub hp, upd_same, hxs⟩
end
end DV
end
section
set_option Elab.async false
set_option linter.all false
set_option maxRecDepth 100000
set_option maxHeartbeats 4000000
/-! sorted() of lists and tuples of tuples of ints -/
namespace DV
open PySem PySem.Spec PySem.Calls PyProof.Rows PyProof.V L2 Evl
open PySem.W (EachIs SortsAt AllAlike Sortable dataLe sortVals copyHeap sortingHeap)
section
variable {prog : Program} {w : World} {A : Around} {E : Value → Shared → Prop} {s : Shared} {β : Type} {vs : List Value} {bs : List β} {enc : β → PyData} {R : Value → β → Prop}
theorem sortedT_of_sort {l : Addr} {vs : List Value} {Q : Value → Shared → Prop} (hl : IsTup s.heap l vs.toArray) (hL : vs.length ≤ sizeLine)
    (body : ∀ E' : Value → Shared → Prop, wpAny (model prog w) A.in1.in1 (Builtin.«list.sort» ⟨[.ref (s.heap.objs.size + 1)], []⟩) (fun f s' => f = .done (.ret .none) ∧ Q (.ref (s.heap.objs.size + 1)) s') E' { s with heap := copyHeap s.heap vs }) :
    wpAny (model prog w) A (call (.builtin "sorted") [.ref l]) Q E s := by
  refine Calls.call_function_entry kind_sorted plain_sorted entry_sorted (args_sorted1 _) ?_
  unfold Builtin.«sorted»
  refine wpAny_bind (m := checkCount "sorted" 1 1 _) (wpAny_pure ?_)
  refine wpAny_bind (collect_tup hl ?_ hL)
  refine wpAny_bind (wpAny_newList ?_ hL)
  have hsz : ((s.heap.push (seqObj "list" #[] 0)).update s.heap.objs.size (Obj.mapSeq (· ++ vs.toArray))).objs.size = s.heap.objs.size + 1 := by
    rw [Heap.size_update, size_push']
  show wpAny _ _ _ _ _ { s with heap := copyHeap s.heap vs }
  rw [hsz]
  refine wpAny_bind (wpAny_holding (wpAny_call_entry slot_list_sort ⟨_, PySem.W.copyHeap_at s.heap vs, rfl⟩ entry_list_sort ?body (args_list_sort _)))
  case body =>
    show wpAny (model prog w) A.in1.in1 (Builtin.«list.sort» ⟨[.ref (s.heap.objs.size + 1)], []⟩) _ _ _
    refine wpAny_mono (body _) (fun f s' hf => ?_) fun _ _ e => e
    obtain ⟨rfl, hq⟩ := hf
    exact ⟨_, rfl, wpAny_pure ⟨_, rfl, hq⟩⟩
theorem sortedT_data {l : Addr} {Q : Value → Shared → Prop} (hl : IsTup s.heap l vs.toArray) (e : EachIs R vs bs) (er : EachIs (fun v b => ∃ as, Reads s.heap v (enc b) as) vs bs) (hal : AllAlike (bs.map enc)) (hk : Sortable (bs.map enc)) (hL : bs.length ≤ sizeLine)
    (hu : ∀ b, b ∈ bs → A.units + 2 + (enc b).depth < cLine) (h : ∀ out, out.length = bs.length → EachIs R out (bs.mergeSort (dataLe false enc)) → Q (.ref (s.heap.objs.size + 1)) { s with heap := PyProof.Rows.sortedAll s.heap vs (List.toArray out) }) :
    wpAny (model prog w) A (call (.builtin "sorted") [.ref l]) Q E s := by
  have er' : EachIs (fun v b => ∃ as, Reads (sortingHeap (copyHeap s.heap vs) (s.heap.objs.size + 1) vs) v (enc b) as) vs bs := er.mono fun _ _ ⟨as, r⟩ => ⟨as, PyProof.Rows.Reads.keeps (fun _ _ => PySem.W.sorting_copy_old) r⟩
  refine sortedT_of_sort hl (by rw [e.length]; exact hL) fun E' => PySem.W.list_sort_vals (s := { s with heap := copyHeap s.heap vs }) (PySem.W.copyHeap_at s.heap vs) (SortsAt.data (s := { s with heap := sortingHeap (copyHeap s.heap vs) (s.heap.objs.size + 1) vs }) (PySem.W.each_map (R := fun v d => ∃ as, Reads (sortingHeap (copyHeap s.heap vs) (s.heap.objs.size + 1) vs) v d as) enc er') hal hk (PySem.W.bound_map hu)) (by rw [e.length]; exact hL) ⟨rfl, ?_⟩
  exact h _ (by rw [PySem.W.sortVals_length false rfl]; exact e.length) (PySem.W.sortVals_data false e er' hal)
end
def tuD (l : List Int) : PyData := .tuple (l.map .int)
def leT (x y : List Int) : Bool := dataLe false tuD x y
section
variable {X : Cx}
def rSortD (K : PySem.W.Frag) : List V → Hp → VK → Prop := fun vs H Q => ∃ (a : Addr) (bs : List (V × List Int)), vs = [V.ref a] ∧ (SqL K H a (bs.map (·.1)) ∨ SqT K H a (bs.map (·.1))) ∧ (∀ b ∈ bs, Dp K H b.1 (tuD b.2) ∧ b.2 ≠ []) ∧
  ∀ p, H p = none → Q (.ref p) (upd H p (.lst ((bs.mergeSort (fun x y => leT x.2 y.2)).map (·.1))))
theorem each_rel : ∀ {bs : List (V × List Int)} {us : List Value}, Vals (bs.map (·.1)) us → EachIs (fun u b => RelV b.1 u) us bs
  | [], _, h => by cases h; exact .nil
  | b :: bs, _, h => by
    cases h with
    | cons r t => exact .cons r (each_rel t)
theorem rel_each : ∀ {bs : List (V × List Int)} {us : List Value}, EachIs (fun u b => RelV b.1 u) us bs → Vals (bs.map (·.1)) us
  | [], _, h => by cases h; exact .nil
  | b :: bs, _, h => by
    cases h with
    | cons r t => exact .cons r (rel_each t)
theorem depth_tuD (l : List Int) : (tuD l).depth = 1 := by
  unfold tuD
  rw [PyData.depth, PySem.W.depth_ints]
theorem call_sortD (hu : X.A.units + 64 < cLine) : CallR X (.builtin "sorted") (rSortD X.K) := by
  intro pins s σ H vs us Q I r h
  obtain ⟨a, bs, rfl, hs, hb, q⟩ := h
  rw [Vals.ref1 r]
  have fin : ∀ (its out : List Value), (bs.map (·.1)).length ≤ sizeLine → EachIs (fun u b => RelV b.1 u) out (bs.mergeSort (dataLe false fun b => tuD b.2)) →
      ∃ v H', L2.Inv X pins σ H' { s with heap := PyProof.Rows.sortedAll s.heap its (List.toArray out) } ∧ RelV v (.ref (s.heap.objs.size + 1)) ∧ Q v H' := by
    intro its out hz eo
    obtain ⟨ep, he'⟩ := PyProof.Rows.sortedAll_at s.heap its out.toArray
    have e : (fun (x y : V × List Int) => leT x.2 y.2) = dataLe false fun b => tuD b.2 := rfl
    have hlen : (((bs.mergeSort (fun x y => leT x.2 y.2)).map (·.1)).length) ≤ sizeLine := by
      rw [List.length_map, List.length_mergeSort]
      rw [List.length_map] at hz
      exact hz
    exact ⟨.ref _, upd H (s.heap.objs.size + 1) (.lst ((bs.mergeSort (fun x y => leT x.2 y.2)).map (·.1))), I.laid (t' := s.toks) (fun _ _ => PyProof.Rows.sortedAll_old) (Nat.le_succ _) ⟨hlen, out, ep, rel_each eo, he'⟩, rfl, q _ (I.hok.fresh (Nat.le_succ _))⟩
  have al : AllAlike (bs.map fun b => tuD b.2) := by
    intro d hd d' hd'
    obtain ⟨b, _, rfl⟩ := List.mem_map.mp hd
    obtain ⟨b', _, rfl⟩ := List.mem_map.mp hd'
    exact PySem.W.alike_ints _ _
  have so : Sortable (bs.map fun b => tuD b.2) := .inl fun d hd => by
    obtain ⟨b, hm, rfl⟩ := List.mem_map.mp hd
    have := (hb b hm).2
    cases hl : b.2 with
    | nil => exact absurd hl this
    | cons x r => exact ⟨_, _, rfl⟩
  have hu2 : ∀ b ∈ bs, X.A.units + 2 + (tuD b.2).depth < cLine := fun b _ => by
    rw [depth_tuD]
    omega
  have rd : ∀ {us : List Value}, EachIs (fun u b => RelV b.1 u) us bs → EachIs (fun v b => ∃ as, Reads s.heap v (tuD b.2) as) us bs := fun e =>
    (PySem.W.each_mem e).mono fun v b ⟨r, hm⟩ => Dp.reads I _ _ _ (hb b hm).1 r
  rcases hs with hs | hs
  · obtain ⟨its, rv, hl, hz⟩ := I.list hs
    have e := each_rel rv
    refine PySem.W.sorted_data (R := fun u (b : V × List Int) => RelV b.1 u) (enc := fun (b : V × List Int) => tuD b.2) hl.isList e (rd e) al so (by rw [List.length_map] at hz; exact hz) hu2 fun out h1 h2 => ?_
    exact fin its out hz h2
  · obtain ⟨its, rv, hl, hz⟩ := I.tuple hs
    have e := each_rel rv
    refine sortedT_data (R := fun u (b : V × List Int) => RelV b.1 u) (enc := fun (b : V × List Int) => tuD b.2) hl e (rd e) al so (by rw [List.length_map] at hz; exact hz) hu2 fun out h1 h2 => ?_
    exact fin its out hz h2
end
def rowOf : PyData → Option (List Int)
  | .tuple ds => (intsOf ds).bind fun ns => if ns = [] then none else some ns
  | _ => none
def rowsOf : List PyData → Option (List (List Int))
  | [] => some []
  | d :: ds => (rowOf d).bind fun l => (rowsOf ds).map fun ls => l :: ls
theorem rowOf_some {d : PyData} {l : List Int} (h : rowOf d = some l) : d = tuD l ∧ l ≠ [] := by
  unfold rowOf at h
  split at h
  · rename_i ds
    cases hi : intsOf ds with
    | none => rw [hi] at h; cases h
    | some ns =>
      rw [hi] at h
      replace h : (if ns = [] then none else some ns) = some l := h
      split at h
      · cases h
      · rename_i hn
        cases h
        exact ⟨by rw [intsOf_some hi]; rfl, hn⟩
  · cases h
theorem rowsOf_some : ∀ {ds : List PyData} {ls : List (List Int)}, rowsOf ds = some ls → ds = ls.map tuD ∧ ∀ l ∈ ls, l ≠ []
  | [], _, h => by cases h; exact ⟨rfl, fun _ hm => absurd hm List.not_mem_nil⟩
  | d :: ds, ls, h => by
    unfold rowsOf at h
    cases h1 : rowOf d with
    | none => rw [h1] at h; cases h
    | some l =>
      rw [h1] at h
      cases h2 : rowsOf ds with
      | none => rw [h2] at h; cases h
      | some ms =>
        rw [h2] at h
        cases h
        obtain ⟨e1, n1⟩ := rowOf_some h1
        obtain ⟨e2, n2⟩ := rowsOf_some h2
        refine ⟨by rw [e1, e2]; rfl, fun x hx => ?_⟩
        rcases List.mem_cons.mp hx with rfl | hx
        · exact n1
        · exact n2 x hx
def pSortD : List PyData → Option PyData
  | [.list ds] => (rowsOf ds).map fun ls => .list ((ls.mergeSort leT).map tuD)
  | [.tuple ds] => (rowsOf ds).map fun ls => .list ((ls.mergeSort leT).map tuD)
  | _ => none
section
variable {K : PySem.W.Frag} {F H : Hp}
theorem dvAll_zip : ∀ {xs : List V} {ls : List (List Int)}, DvAll K F xs (ls.map tuD) → (xs.zip ls).map (·.1) = xs ∧ (xs.zip ls).map (·.2) = ls ∧ ∀ b ∈ xs.zip ls, Dv K F b.1 (tuD b.2)
  | [], [], _ => ⟨rfl, rfl, fun _ h => absurd h List.not_mem_nil⟩
  | [], _ :: _, h => by cases h
  | _ :: _, [], h => by cases h
  | x :: xs, l :: ls, h => by
    cases h with
    | cons a t =>
      obtain ⟨e1, e2, e3⟩ := dvAll_zip t
      refine ⟨by rw [List.zip_cons_cons, List.map_cons, e1], by rw [List.zip_cons_cons, List.map_cons, e2], fun b hb => ?_⟩
      rw [List.zip_cons_cons] at hb
      rcases List.mem_cons.mp hb with rfl | hb
      · exact a
      · exact e3 b hb
theorem dvAll_of : ∀ {bs : List (V × List Int)}, (∀ b ∈ bs, Dv K F b.1 (tuD b.2)) → DvAll K F (bs.map (·.1)) ((bs.map (·.2)).map tuD)
  | [], _ => .nil
  | b :: bs, h => .cons (h b List.mem_cons_self) (dvAll_of fun x hx => h x (List.mem_cons_of_mem _ hx))
theorem canLay_tuD (l : List Int) : (tuD l).canLay0 = true := by
  unfold tuD
  rw [PyData.canLay0]
  induction l with
  | nil => rfl
  | cons a l ih =>
    rw [List.map_cons, PyData.canLayAll0, ih]
    rfl
theorem sortD_main {a : Addr} {xs : List V} {ls : List (List Int)} {Q : VK} (s : Ex F H) (hs : SqL K H a xs ∨ SqT K H a xs) (ha : DvAll K F xs (ls.map tuD)) (hn : ∀ l ∈ ls, l ≠ [])
    (q : ∀ v F' H', Grow F H F' H' → Dv K F' v (.list ((ls.mergeSort leT).map tuD)) → Q v H') : rSortD K [.ref a] H Q := by
  obtain ⟨e1, e2, e3⟩ := dvAll_zip ha
  refine ⟨a, xs.zip ls, rfl, by rw [e1]; exact hs, fun b hb => ⟨dv_dp (dv_mono s (e3 b hb)) (canLay_tuD _), hn _ ?_⟩, ?_⟩
  · rw [← e2]
    exact List.mem_map.mpr ⟨b, hb, rfl⟩
  · refine newL_dv s ?_ q
    have := dvAll_of (bs := (xs.zip ls).mergeSort fun x y => leT x.2 y.2) fun b hb => e3 b (List.mem_mergeSort.mp hb)
    rw [List.map_mergeSort (f := fun b : V × List Int => b.2) (s := leT) (fun _ _ _ _ => rfl), e2] at this
    exact this
theorem rc_sortD : RCD K (rSortD K) pSortD := by
  intro vs F H ds z Q s hd hp q
  unfold pSortD at hp
  split at hp
  · rename_i es
    cases hi : rowsOf es with
    | none => rw [hi] at hp; cases hp
    | some ls =>
      rw [hi] at hp
      cases hp
      obtain ⟨v, rfl, h⟩ := one_of hd
      obtain ⟨rfl, hn⟩ := rowsOf_some hi
      cases h with
      | lst h1 a1 => exact sortD_main s (.inl (sq_of (s _ _ h1))) a1 hn q
  · rename_i es
    cases hi : rowsOf es with
    | none => rw [hi] at hp; cases hp
    | some ls =>
      rw [hi] at hp
      cases hp
      obtain ⟨v, rfl, h⟩ := one_of hd
      obtain ⟨rfl, hn⟩ := rowsOf_some hi
      cases h with
      | tup h1 o1 a1 => exact sortD_main s (.inr (ex_t s (dv_sqT h1))) a1 hn q
  · cases hp
end
end DV
end
section
set_option Elab.async false
set_option linter.all false
set_option maxRecDepth 100000
set_option maxHeartbeats 4000000
/-! DV: owned lists of owned lists -/
namespace DV
open PySem PySem.Spec PyProof.Rows L2 Evl

/-! ### rows -/
section
variable {K : PySem.W.Frag} {H0 F H F' H' : Hp}
theorem RowsOk.snoc {p : Addr} {xs : List V} {ds : List PyData} (h0 : H0 p = none) (hf : F p = none) (hp : H p = some (.lst xs)) (hd : DvAll K F xs ds) : ∀ {as : List V} {rs : List (List PyData)}, V.ref p ∉ as → RowsOk K H0 F H as rs → RowsOk K H0 F H (as ++ [.ref p]) (rs ++ [ds])
  | _, _, _, .nil => .cons h0 hf hp hd (by simp) .nil
  | _, _, n, .cons a b c d e r => .cons a b c d (fun m => by
      rcases List.mem_append.mp m with m | m
      · exact e m
      · rw [List.mem_singleton] at m
        exact n (by rw [m]; exact List.mem_cons_self)) (RowsOk.snoc h0 hf hp hd (fun m => n (List.mem_cons_of_mem _ m)) r)
theorem RowsOk.base {H1 : Hp} (k : ∀ b, H0 b = none → H1 b = none) : ∀ {as : List V} {rs : List (List PyData)}, RowsOk K H0 F H as rs → RowsOk K H1 F H as rs
  | _, _, .nil => .nil
  | _, _, .cons a b c d e r => .cons (k _ a) b c d e (RowsOk.base k r)
theorem RowsOk.get {n : Nat} {ds : List PyData} : ∀ {as : List V} {rs : List (List PyData)}, RowsOk K H0 F H as rs → rs[n]? = some ds → ∃ b vs, as[n]? = some (.ref b) ∧ H b = some (.lst vs) ∧ DvAll K F vs ds
  | _, _, .nil, h => by simp at h
  | _, _, .cons a b c d e r, h => by
    cases n with
    | zero =>
      simp at h
      subst h
      exact ⟨_, _, rfl, c, d⟩
    | succ n =>
      obtain ⟨b', vs, h1, h2, h3⟩ := RowsOk.get (n := n) r (by simpa using h)
      exact ⟨b', vs, by simpa using h1, h2, h3⟩
theorem RowsOk.keep {as : List V} {rs : List (List PyData)} (ff : Ex F F') (rr : RowsOk K H0 F H as rs) : (∀ x, V.ref x ∈ as → F' x = none ∧ H' x = H x) → RowsOk K H0 F' H' as rs := by
  induction rr with
  | nil => exact fun _ => .nil
  | cons a2 b2 c2 d2 e2 r2 ih =>
    intro kk
    have kx := kk _ List.mem_cons_self
    exact .cons a2 kx.1 (by rw [kx.2]; exact c2) (dvAll_mono ff d2) e2 (ih fun y m => kk y (List.mem_cons_of_mem _ m))
theorem RowsOk.change {b : Addr} {vs' : List V} {ds' : List PyData} (ff : Ex F F') (hf : F' b = none) (hb : H' b = some (.lst vs')) (hd : DvAll K F' vs' ds') {as : List V} {rs : List (List PyData)} (rr : RowsOk K H0 F H as rs) : ∀ {n : Nat}, (∀ c, c ≠ b → V.ref c ∈ as → F' c = none ∧ H' c = H c) → as[n]? = some (.ref b) → RowsOk K H0 F' H' as (rs.set n ds') := by
  induction rr with
  | nil => exact fun _ h => by simp at h
  | cons a1 b1 c1 d1 e1 r ih =>
    rename_i c vs bs ds rs
    intro n k h
    cases n with
    | zero =>
      simp at h
      subst h
      exact .cons a1 hf hb hd e1 (r.keep ff fun x m => k x (fun z => e1 (by rw [← z]; exact m)) (List.mem_cons_of_mem _ m))
    | succ n =>
      have h' : bs[n]? = some (V.ref b) := by simpa using h
      have nx : c ≠ b := fun z => e1 (by rw [z]; exact List.mem_of_getElem? h')
      have kx := k c nx List.mem_cons_self
      exact .cons a1 kx.1 (by rw [kx.2]; exact c1) (dvAll_mono ff d1) e1 (ih (fun x nx m => k x nx (List.mem_cons_of_mem _ m)) h')
/-- frozen rows are data -/
theorem RowsOk.data (ff : Ex F F') : ∀ {as : List V} {rs : List (List PyData)}, (∀ c u, V.ref c ∈ as → H c = some u → F' c = some u) → RowsOk K H0 F H as rs → DvAll K F' as (rs.map .list)
  | _, _, _, .nil => .nil
  | _, _, k, .cons a b c d e r => .cons (.lst (k _ _ List.mem_cons_self c) (dvAll_mono ff d)) (RowsOk.data ff (fun x u m => k x u (List.mem_cons_of_mem _ m)) r)
theorem oo_at {F0 : Hp} {σ : L2.St} {env : List DV.Slot} {i : Nat} {rs : List (List PyData)} (o : EOk K F0 H0 σ F H env) (e : env[i]? = some (.oo rs)) : ∃ a as, σ[i]? = some (some (.ref a)) ∧ H0 a = none ∧ F a = none ∧ H a = some (.lst as) ∧ V.ref a ∉ as ∧ RowsOk K H0 F H as rs := o.at_ i _ e
open Classical in
theorem EOk.freezeO {F0 : Hp} {σ : L2.St} {env : List DV.Slot} {i : Nat} {rs : List (List PyData)} (o : EOk K F0 H0 σ F H env) (e : env[i]? = some (.oo rs)) : ∃ F', Ex F F' ∧ EOk K F0 H0 σ F' H (env.set i (.im (.list (rs.map .list)))) := by
  obtain ⟨a, as, ea, h0, hf, hh, na, hr⟩ := oo_at o e
  have hn : ∀ b, (b = a ∨ V.ref b ∈ as) → F b = none := fun b hb => by
    rcases hb with rfl | hb
    · exact hf
    · exact (hr.mem hb).2.1
  let F' : Hp := fun b => if b = a ∨ V.ref b ∈ as then H b else F b
  have ff : Ex F F' := fun b u eb => by
    show (if _ then _ else _) = _
    rw [if_neg (fun z => by rw [hn b z] at eb; cases eb)]
    exact eb
  have at' : ∀ b u, (b = a ∨ V.ref b ∈ as) → H b = some u → F' b = some u := fun b u hb hu => by
    show (if _ then _ else _) = _
    rw [if_pos hb]
    exact hu
  refine ⟨F', ff, o.freezeG e ff (fun b u eb => ?_) (fun b hb nb => ?_) ⟨.ref a, ea, .lst (at' a _ (.inl rfl) hh) (hr.data ff fun c u m hu => at' c u (.inr m) hu)⟩ (fun _ q => q)⟩
  · have eb : (if b = a ∨ V.ref b ∈ as then H b else F b) = some u := eb
    split at eb
    · exact eb
    · exact o.g.sub b u eb
  · show (if _ then _ else _) = _
    rw [if_neg (fun z => nb ?_)]
    · exact hb
    · rcases z with rfl | z
      · exact .inl ea
      · exact .inr ⟨a, as, ea, hh, z⟩
end
section
variable {X : Cx} {env : List DV.Slot} {a b e : Expr} {es : List Expr} {pos p : Pos} {ma mb m : Option PyData} {ms : Option (List PyData)} {x : Str} {β : Type} {W : Wk β} {rest : List Stmt}
theorem dg_freezeO {ss : List Stmt} {m : Option β} (i : Nat) {rs : List (List PyData)} {env' : List DV.Slot} (h : DG X ss W env' m) (he : env[i]? = some (.oo rs) := by rfl) (hs : env.set i (.im (.list (rs.map .list))) = env' := by rfl) : DG X ss W env m :=
  PSs.mono h fun D σ H ⟨F0, H0, F, o, ok, em, q⟩ => by
    obtain ⟨F', ff, ok'⟩ := ok.freezeO he
    rw [hs] at ok'
    exact ⟨F0, H0, F', o, ok', em, W.mono ff q⟩
/-! ### new lists -/
/-- [..] * k -/
def pRepL : PyData → PyData → Option (List PyData)
  | .list ds, .int k => if 0 ≤ k ∧ k ≤ 1000 ∧ ds.length ≤ 1000 then some (List.replicate k.toNat ds).flatten else none
  | _, _ => none
theorem df_rep (ha : DE X a env ma) (hb : DE X b env mb) : DF X (.BinOp a .Mult b pos) env (ma.bind fun x => mb.bind fun y => pRepL x y) := PE.mono (pe_op op_rep ha hb) fun σ H Q ⟨F0, H0, F, d, o, em, q⟩ => by
  obtain ⟨x, hx, em1⟩ := Option.bind_eq_some_iff.mp em
  obtain ⟨y, hy, em2⟩ := Option.bind_eq_some_iff.mp em1
  refine ⟨F0, H0, F, x, o, hx, fun v F1 H1 g1 h1 => ⟨F0, H0, F1, y, o.grow g1, hy, fun u F2 H2 g2 h2 => ?_⟩⟩
  have h1 := dv_mono g2.ff h1
  cases h1 with
  | @lst p1 xs ds l1 a1 =>
    cases h2 with
    | int k =>
      have em2 : (if 0 ≤ k ∧ k ≤ 1000 ∧ ds.length ≤ 1000 then some (List.replicate k.toNat ds).flatten else none) = some d := em2
      split at em2
      · rename_i hz
        cases em2
        have hl := dvAll_len a1
        have hsz : xs.length * k.toNat ≤ sizeLine := by
          have h1 : xs.length * k.toNat ≤ 1000 * 1000 := Nat.mul_le_mul (by omega) (by omega)
          exact Nat.le_trans h1 (by decide)
        exact ⟨_, _, _, rfl, rfl, g2.sub _ _ l1, by omega, by omega, hsz, fun p hp => q p _ F2 H2 (g1.trans g2) hp (dvAll_rep a1 _)⟩
      · cases em2
    | _ => cases em2
  | _ => cases em2
end
/-! ### comprehensions that make new lists -/
section
variable {X : Cx} {env : List DV.Slot} {elt iter : Expr} {ifs : List Expr} {scope : Scope} {pos px : Pos} {x : Str} {ml : Option (List PyData)} {t : PyData → Option Bool}
theorem df_lc {f : PyData → Option PyData} (j : Nat) {env' : PyData → List DV.Slot} (hc : X.calm = true) (hN : X.N.Nodup) (hi : DI X (.Name x px) iter env ml) (ok : BlkOk X.N X.env.scope scope [(x, j)])
    (hg : ∀ (s : Shared) (H : Hp) (C : Addr) (cl : List (Str × Addr)) (fp : List Addr), PG (X.blk s H scope (compEnvC scope cl C X.env) fp) (.Name x px) (gName j))
    (ht : ∀ (d : PyData) (s : Shared) (H : Hp) (C : Addr) (cl : List (Str × Addr)) (fp : List Addr), PTs (X.blk s H scope (compEnvC scope cl C X.env) fp) ifs (tDT X.K (env' d) (t d)))
    (he : ∀ (d : PyData) (s : Shared) (H : Hp) (C : Addr) (cl : List (Str × Addr)) (fp : List Addr), DE (X.blk s H scope (compEnvC scope cl C X.env) fp) elt (env' d) (f d))
    (hs : ∀ d, env.set j (.im d) = env' d := by intro _; rfl) (hj : j < env.length := by exact Nat.le_of_ble_eq_true rfl) (hfs : ∀ x, foldedSetIterable iter X.env x = pure x := by intro _; rfl) :
    DF X (.ListComp elt [⟨.Name x px, iter, ifs, 0⟩] scope pos) env (ml.bind (compO t f)) := by
  have e : env' = fun d => env.set j (.im d) := funext fun d => (hs d).symm
  subst e
  exact PE.mono (pe_lc (own := [(x, j)]) hc hN hi ok hg (fun s H C cl fp => pts_ex fun d => ht d s H C cl fp) (fun s H C cl fp => pe_ex fun d => he d s H C cl fp) hfs) fun σ H Q h => lc_readO j hj h
def compMO (t : PyData → Option Bool) (f : PyData → Option (List PyData)) : List PyData → Option (List (List PyData))
  | [] => some []
  | d :: ds => (t d).bind fun b => if b = true then (f d).bind fun y => (compMO t f ds).bind fun ys => some (y :: ys) else compMO t f ds
def compOO (t : PyData → Option Bool) (f : PyData → Option (List PyData)) (ds : List PyData) : Option (List (List PyData)) := if szOk ds.length then compMO t f ds else none
def tDOO (K : PySem.W.Frag) (env : List DV.Slot) (m : Option (List (List PyData))) : TE := fun σ H Q => ∃ F0 H0 F rs, EOk K F0 H0 σ F H env ∧ m = some rs ∧ ∀ a as F' H', Grow F H F' H' → H a = none → F' a = none → H' a = some (.lst as) → V.ref a ∉ as → RowsOk K H F' H' as rs → Q (.ref a) H'
theorem lc_readOO {f : PyData → Option (List PyData)} (j : Nat) (hj : j < env.length) {σ : L2.St} {H : Hp} {Q : VK} (h : tDOO X.K env (ml.bind (compOO t f)) σ H Q) :
    tLc (tI X.K env ml) (gName j) (fun σ H Q => ∃ d, tDT X.K (env.set j (.im d)) (t d) σ H Q) (fun σ H Q => ∃ d, tDF X.K (env.set j (.im d)) (f d) σ H Q) [j] σ H Q := by
  obtain ⟨F0, H0, F, res, ok, em, q⟩ := h
  obtain ⟨ds, hds, em⟩ := Option.bind_eq_some_iff.mp em
  unfold compOO at em
  split at em
  case isFalse => cases em
  rename_i hz
  have hcm := em
  refine ⟨F0, H0, F, ds, ok, hds, fun J F1 H1 g it D hD => ?_⟩
  have ok1 := ok.grow g
  have fD : F1 D = none := fresh_back g.sub hD
  refine ⟨fun i m H' => i + m = ds.length ∧ ∃ F' acc done rest, Grow F1 H1 F' H' ∧ F' D = none ∧ H' D = some (.lst acc) ∧ V.ref D ∉ acc ∧ RowsOk X.K H1 F' H' acc done ∧ done.length ≤ i ∧ compMO t f (ds.drop i) = some rest ∧ done ++ rest = res,
    ⟨ds.length, by omega, F1, [], [], res, Grow.newH g.sub hD, fD, upd_same, by simp, .nil, Nat.le_refl _, hcm, rfl⟩, ?_⟩
  rintro i m H' ⟨hm, F', acc, done, rest, g', fD', hD', nD, hacc, hdl, hc, hres⟩
  have ok' := ok1.grow g'
  by_cases hlt : i < ds.length
  · have hget : ds[i]? = some ds[i] := List.getElem?_eq_getElem hlt
    obtain ⟨hgo, hyl⟩ := it.go i _ F' H' g'.ff g'.sub hget
    rw [List.drop_eq_getElem_cons hlt] at hc
    unfold compMO at hc
    obtain ⟨b, hb, hc⟩ := Option.bind_eq_some_iff.mp hc
    refine .inr ⟨hgo, fun H2 => ∃ m', m' < m ∧ (i + 1 + m' = ds.length ∧ ∃ F' acc done rest, Grow F1 H1 F' H2 ∧ F' D = none ∧ H2 D = some (.lst acc) ∧ V.ref D ∉ acc ∧ RowsOk X.K H1 F' H2 acc done ∧ done.length ≤ i + 1 ∧ compMO t f (ds.drop (i + 1)) = some rest ∧ done ++ rest = res), fun H2 h2 => h2, fun v H2 hy => ?_⟩
    obtain ⟨F2, g2, dv⟩ := hyl v H2 hy
    have e1 : (wipe σ [j]).set j (some v) = σ.set j (some v) := by
      show (σ.set j none).set j (some v) = _
      rw [List.set_set]
    have e2 : wipe ((wipe σ [j]).set j (some v)) [j] = wipe σ [j] := by
      show (((σ.set j none).set j (some v)).set j none) = σ.set j none
      rw [List.set_set, List.set_set]
    refine ⟨e2, ?_⟩
    rw [e1]
    have ok2 : EOk X.K F0 H0 (σ.set j (some v)) F2 H2 (env.set j (.im ds[i])) := (ok'.grow g2).set dv
    refine ⟨ds[i], F0, H0, F2, b, ok2, hb, fun F3 H3 g3 => ?_⟩
    have g13 := (g'.trans g2).trans g3
    have fD3 : F3 D = none := (g2.trans g3).own D fD' (ne_none hD')
    have hD3 : H3 D = some (.lst acc) := (g2.trans g3).hh _ _ hD'
    have hacc3 : RowsOk X.K H1 F3 H3 acc done := hacc.mono (g2.trans g3).ff (g2.trans g3).hh fun b _ f n => (g2.trans g3).own b f n
    cases b with
    | true =>
      have hc : ((f ds[i]).bind fun y => (compMO t f (ds.drop (i + 1))).bind fun ys => some (y :: ys)) = some rest := hc
      obtain ⟨y, hyv, hc⟩ := Option.bind_eq_some_iff.mp hc
      obtain ⟨ys, hys, hc⟩ := Option.bind_eq_some_iff.mp hc
      cases hc
      refine ⟨ds[i], F0, H0, F3, y, ok2.grow g3, hyv, fun p xs F4 H4 g4 hp hxs => ?_⟩
      have fD4 : F4 D = none := g4.own D fD3 (ne_none hD3)
      have hD4 : H4 D = some (.lst acc) := g4.hh _ _ hD3
      have npD : D ≠ p := fun z => by rw [z, hp] at hD4; cases hD4
      have fp4 : F4 p = none := fresh_back g4.sub hp
      have hacc4 : RowsOk X.K H1 F4 H4 acc done := hacc3.mono g4.ff g4.hh fun b _ f n => g4.own b f n
      have npa : V.ref p ∉ acc := fun m => by
        obtain ⟨_, _, vs, hv⟩ := hacc4.mem m
        rw [hp] at hv
        cases hv
      have h1p : H1 p = none := fresh_back (g13.trans g4).hh hp
      refine ⟨acc, by rw [upd_ne npD]; exact hD4, ?_, m - 1, by omega, by omega, F4, acc ++ [.ref p], done ++ [y], ys, ?_, fD4, upd_same, ?_, ?_, ?_, hys, ?_⟩
      · rw [hacc.len]
        have : szOk done.length := Nat.le_trans hdl (Nat.le_trans (Nat.le_of_lt hlt) hz)
        exact this.lt
      · have g14 := g13.trans g4
        have g15 := g14.trans (Grow.newH (o := .lst xs) g4.sub hp)
        exact ⟨g15.ff, Ex.mut g15.hh hD, Ex.mut g15.sub fD4, g15.own⟩
      · intro mm
        rcases List.mem_append.mp mm with mm | mm
        · exact nD mm
        · rw [List.mem_singleton] at mm
          cases mm
          exact npD rfl
      · refine RowsOk.snoc h1p fp4 (by rw [upd_ne (Ne.symm npD), upd_same]) hxs npa ?_
        exact (hacc4.upd npa).upd nD
      · rw [List.length_append]
        show done.length + 1 ≤ i + 1
        omega
      · rw [List.append_assoc]
        exact hres
    | false =>
      exact ⟨m - 1, by omega, by omega, F3, acc, done, rest, g13, fD3, hD3, nD, hacc3, by omega, hc, hres⟩
  · have e : ds.drop i = [] := List.drop_eq_nil_of_le (by omega)
    rw [e] at hc
    cases hc
    rw [List.append_nil] at hres
    subst hres
    refine .inl ⟨it.stop i F' H' g'.ff g'.sub (by omega), ?_⟩
    exact q D acc F' H' (g.trans g') (fresh_back g.hh hD) fD' hD' nD (hacc.base fun b hb => fresh_back g.hh hb)
variable {β : Type} {W : Wk β} {rest : List Stmt} {spos py : Pos} {y : Str}
theorem dg_asgOO {f : PyData → Option (List PyData)} (i j : Nat) {env' : PyData → List DV.Slot} {env2 : List (List PyData) → List DV.Slot} {k : List (List PyData) → Option β} (hc : X.calm = true) (hN : X.N.Nodup) (hyl : X.env.scope.names.lookup y = some .local)
    (hsw : swapsWith (.ListComp elt [⟨.Name x px, iter, ifs, 0⟩] scope pos) (some (.Name y py)) spos.line X.env = pure true) (hi : DI X (.Name x px) iter env ml) (ok : BlkOk X.N X.env.scope scope [(x, j)])
    (hg : ∀ (s : Shared) (H : Hp) (C : Addr) (cl : List (Str × Addr)) (fp : List Addr), PG (X.blk s H scope (compEnvC scope cl C X.env) fp) (.Name x px) (gName j))
    (ht : ∀ (d : PyData) (s : Shared) (H : Hp) (C : Addr) (cl : List (Str × Addr)) (fp : List Addr), PTs (X.blk s H scope (compEnvC scope cl C X.env) fp) ifs (tDT X.K (env' d) (t d)))
    (he : ∀ (d : PyData) (s : Shared) (H : Hp) (C : Addr) (cl : List (Str × Addr)) (fp : List Addr), DF (X.blk s H scope (compEnvC scope cl C X.env) fp) elt (env' d) (f d)) (hr : ∀ d, DG X rest W (env2 d) (k d))
    (hs : ∀ d, env.set j (.im d) = env' d := by intro _; rfl) (hs2 : ∀ d, env.set i (.oo d) = env2 d := by intro _; rfl) (hj : j < env.length := by exact Nat.le_of_ble_eq_true rfl) (hy : X.N[i]? = some y := by rfl) (hfs : ∀ x, foldedSetIterable iter X.env x = pure x := by intro _; rfl) :
    DG X (.Assign [.Name y py] (.ListComp elt [⟨.Name x px, iter, ifs, 0⟩] scope pos) spos :: rest) W env ((ml.bind (compOO t f)).bind k) := by
  have e : env' = fun d => env.set j (.im d) := funext fun d => (hs d).symm
  subst e
  refine PSs.mono (pss_cons (ps_setLc (i := i) (own := [(x, j)]) (tt := fun σ H Q => ∃ d, tDT X.K (env.set j (.im d)) (t d) σ H Q) (te := fun σ H Q => ∃ d, tDF X.K (env.set j (.im d)) (f d) σ H Q) hc hN hy hyl hsw hi ok hg (fun s H C cl fp => pts_ex fun d => ht d s H C cl fp) (fun s H C cl fp => pe_ex fun d => he d s H C cl fp) hfs) (pss_ex hr)) fun D σ H ⟨F0, H0, F, o, ok', em, q⟩ => ?_
  obtain ⟨d, hd, em⟩ := Option.bind_eq_some_iff.mp em
  show tLc (tI X.K env ml) (gName j) (fun σ H Q => ∃ d, tDT X.K (env.set j (.im d)) (t d) σ H Q) (fun σ H Q => ∃ d, tDF X.K (env.set j (.im d)) (f d) σ H Q) [j] σ H (fun v H1 => ∃ a, tG X.K W (env2 a) (k a) D (σ.set i (some v)) H1)
  refine lc_readOO (X := X) (ml := ml) j hj ⟨F0, H0, F, d, ok', hd, fun a as F' H' g ha fa hha na hrs => ⟨d, F0, H0, F', o, ?_, em, W.mono g.ff q⟩⟩
  rw [← hs2]
  refine ok'.setNew g ⟨a, as, rfl, fresh_back ok'.g.hh ha, fa, hha, na, hrs.base fun b hb => fresh_back ok'.g.hh hb⟩ fun c qc => ?_
  rcases qc with qc | ⟨a', vs, qa, hv, m⟩
  · cases qc
    exact ha
  · cases qa
    rw [hha] at hv
    cases hv
    exact (hrs.mem m).1
end
/-! ### rows changed -/
def Slot.plain : DV.Slot → Bool
  | .any => true
  | .im _ => true
  | .kt _ => true
  | .pin _ => true
  | _ => false
theorem plain_ok {K : PySem.W.Frag} {H0 H1 F H : Hp} {x : Option (Option V)} : ∀ {s : DV.Slot}, s.plain = true → SlotOk K H0 F H x s → SlotOk K H1 F H x s
  | .any, _, h => h
  | .im _, _, h => h
  | .kt _, _, h => h
  | .pin _, _, h => h
theorem plain_no {H : Hp} {x : Option (Option V)} {c : Addr} : ∀ {s : DV.Slot}, s.plain = true → ¬ s.holds H x c
  | .any, _, h => h
  | .im _, _, h => h
  | .kt _, _, h => h
  | .pin _, _, h => h
section
variable {X : Cx} {env : List DV.Slot} {a b e : Expr} {es : List Expr} {pos p : Pos} {ma mb m : Option PyData} {ms : Option (List PyData)} {x y : Str} {β : Type} {W : Wk β} {rest : List Stmt}
theorem owp_at {K : PySem.W.Frag} {F0 H0 F H : Hp} {σ : L2.St} {env : List DV.Slot} {i : Nat} {p : Addr} {ds : List PyData} (o : EOk K F0 H0 σ F H env) (e : env[i]? = some (.owp p ds)) : ∃ vs, σ[i]? = some (some (.ref p)) ∧ H0 p = none ∧ F p = none ∧ H p = some (.lst vs) ∧ DvAll K F vs ds := o.at_ i _ e
theorem de_ixP (i : Nat) {px : Pos} {q : Addr} {ds : List PyData} (hb : DE X b env mb) (he : env[i]? = some (.owp q ds) := by rfl) (hs : PlainIx b := by intro _ _; rfl) (hN : X.N[i]? = some x := by rfl) (hv : Vis X.env.scope x := by first | exact Or.inl rfl | exact Or.inr (Or.inl rfl) | exact Or.inr (Or.inr rfl))
    (hd : (x == ("__debug__" : Str)) = false := by decide) (hcd : (x == ("__classdict__" : Str)) = false := by decide) : DE X (.Subscript (.Name x px) b pos) env (mb.bind fun y => pIdx (.list ds) y) :=
  PE.mono (pe_ix ix_list (pe_var (i := i) hN hv hd hcd) hb hs) fun σ H Q ⟨F0, H0, F, d, o, em, q⟩ => by
    obtain ⟨y, hy, em1⟩ := Option.bind_eq_some_iff.mp em
    obtain ⟨vs, e1, _⟩ := owp_at o he
    refine ⟨_, e1, F0, H0, F, y, o, hy, fun v F1 H1 g1 h1 => ?_⟩
    obtain ⟨vs', e1', _, _, hh, hds⟩ := owp_at (o.grow g1) he
    cases h1 with
    | int k =>
      obtain ⟨u, hu, du⟩ := atI_dv hds (show atI ds k = some d from em1)
      exact ⟨_, vs', k, u, rfl, rfl, sq_of hh, hu, q u F1 H1 g1 du⟩
    | _ => cases em1
/-- row[e] = v -/
theorem dg_setP (i : Nat) {v : Expr} {px q0 : Pos} {q : Addr} {ds : List PyData} {me mv : Option PyData} {k : List PyData → Option β} {env' : List PyData → List DV.Slot} (hv : DE X v env mv) (he : DE X e env me) (hr : ∀ ds', DG X rest W (env' ds') (k ds'))
    (ho : env[i]? = some (.owp q ds) := by rfl) (hs : ∀ ds', env.set i (.owp q ds') = env' ds' := by intro _; rfl)
    (hN : X.N[i]? = some x := by rfl) (hvi : Vis X.env.scope x := by first | exact Or.inl rfl | exact Or.inr (Or.inl rfl) | exact Or.inr (Or.inr rfl)) (hd : (x == ("__debug__" : Str)) = false := by decide) (hcd : (x == ("__classdict__" : Str)) = false := by decide)
    (ha1 : ∀ v, assign (.Subscript (.Name x px) e q0) X.env v = (do
      let ov ← holding [v] (eval (.Name x px) X.env)
      let iv ← holding [v, ov] (eval e X.env)
      standAt q0
      holding [v, ov, iv] (setItem ov iv v)
      release [v, ov, iv] []) := by intro _; rfl)
    (hsw : swapsWithSole [.Subscript (.Name x px) e q0] v pos.line X.env = pure false := by rfl) (hw : swappedStores [.Subscript (.Name x px) e q0] v X.env = pure none := by rfl)
    (hts : (assignEach [.Subscript (.Name x px) e q0] X.env).map (·.2) = [assign (.Subscript (.Name x px) e q0) X.env] := by rfl) :
    DG X (.Assign [.Subscript (.Name x px) e q0] v pos :: rest) W env (mv.bind fun d => me.bind fun i1 => (ixD ds i1).bind fun j1 => k (ds.set j1 d)) := by
  refine PSs.mono (pss_cons (ps_asg hv (pg_sub (pe_var (i := i) hN hvi hd hcd) he set_list ha1) hsw hw hts) (pss_ex hr)) fun D σ H ⟨F0, H0, F, o, ok, em, qq⟩ => ?_
  obtain ⟨d, hd', em1⟩ := Option.bind_eq_some_iff.mp em
  obtain ⟨i1, hi1, em2⟩ := Option.bind_eq_some_iff.mp em1
  obtain ⟨j1, hj1, em3⟩ := Option.bind_eq_some_iff.mp em2
  refine ⟨F0, H0, F, d, ok, hd', fun u F1 H1 g1 hu => ?_⟩
  have ok1 := ok.grow g1
  obtain ⟨vs, ea, _⟩ := owp_at ok1 ho
  refine ⟨_, ea, F0, H0, F1, i1, ok1, hi1, fun w1 F2 H2 g2 hw1 => ?_⟩
  have ok2 := ok1.grow g2
  obtain ⟨vs2, ea', h02, hf2, hh2, hds2⟩ := owp_at ok2 ho
  cases hw1 with
  | int n1 =>
    refine ⟨q, vs2, n1, j1, rfl, rfl, hh2, by rw [dvAll_len hds2]; exact hj1, ds.set j1 d, F0, H0, F2, o, ?_, em3, W.mono (g1.trans g2).ff qq⟩
    rw [← hs]
    exact ok2.mut ho rfl rfl ea' ⟨_, rfl, h02, hf2, upd_same, dvAll_set (dv_mono g2.ff hu) j1 hds2⟩
  | _ => cases hj1
/-- for row in rows: each row is changed by itself -/
theorem dg_forRow (i j : Nat) {px py : Pos} {rs : List (List PyData)} {e0 : List DV.Slot} {enb : V → Addr → List PyData → List DV.Slot} {env2 : List (List PyData) → List DV.Slot} {body : List Stmt} {f : List PyData → Option (List PyData)} {k : List (List PyData) → Option β}
    (hp : PassesOwn (model X.prog X.w) X.A X.env X.xe) (hc : X.calm = true) (hN : X.N.Nodup) (hyl : Loc X.env.scope y) (hw : Weak env (env2 rs)) (hb : ∀ v q ds, DN X body (fun ds' => enb v q ds') (enb v q ds) (f ds)) (hr : ∀ rs', DG X rest W (env2 rs') (k rs'))
    (h0 : ∀ rs', e0.set i (.oo rs') = env2 rs' := by intro _; rfl) (hs : ∀ v q ds, (e0.set i (.pin v)).set j (.owp q ds) = enb v q ds := by intro _ _ _; rfl) (hpl : e0.all Slot.plain = true := by rfl) (hi0 : i < e0.length := by exact Nat.le_of_ble_eq_true rfl) (hj0 : e0[j]? = some .any := by rfl) (hij : i ≠ j := by decide)
    (hi : X.N[i]? = some x := by rfl) (hv : Vis X.env.scope x := by first | exact Or.inl rfl | exact Or.inr (Or.inl rfl) | exact Or.inr (Or.inr rfl)) (hd : (x == ("__debug__" : Str)) = false := by decide) (hcd : (x == ("__classdict__" : Str)) = false := by decide)
    (hj : X.N[j]? = some y := by rfl) (hf : X.fn y = true ∨ X.env.scope.names.lookup y = some .local := by first | exact .inl rfl | exact .inr rfl | assumption) (hfs : ∀ z, foldedSetIterable (.Name x px) X.env z = pure z := by intro _; rfl) :
    DG X (.For (.Name y py) (.Name x px) body [] pos :: rest) W env ((rs.mapM f).bind k) := by
  refine PSs.mono (pss_cons (ps_for hp hc (pi_list (pe_var (i := i) hi hv hd hcd)) (pg_name (i := j) hN hj hyl hf) (pss_ex fun v => pss_ex fun q => pss_ex fun ds => hb v q ds) hfs) (pss_ex hr)) fun D σ H ⟨F0, H0, F, o, ok, em, qq⟩ => ?_
  obtain ⟨res, hres, em1⟩ := Option.bind_eq_some_iff.mp em
  have okw := ok.wk hw
  have e2i : ∀ rs', (env2 rs')[i]? = some (.oo rs') := fun rs' => by rw [← h0]; exact List.getElem?_set_self hi0
  obtain ⟨a, as0, ea, _, _, hh0, _, _⟩ := oo_at okw (e2i rs)
  refine ⟨.ref a, ea, a, rfl, ⟨_, sq_of hh0⟩, ?_⟩
  refine ⟨fun n m σ' H' => n + m = rs.length ∧ ∃ F' rs1 rs2, Ex F F' ∧ EOk X.K F0 H0 σ' F' H' (env2 (rs1 ++ rs.drop n)) ∧ σ'[i]? = some (some (.ref a)) ∧ rs1.length = n ∧ (rs.drop n).mapM f = some rs2 ∧ rs1 ++ rs2 = res,
    ⟨rs.length, by omega, F, [], res, Ex.refl F, okw, ea, rfl, hres, rfl⟩, ?_⟩
  rintro n m σ' H' ⟨hm, F', rs1, rs2, x1, ok', ea', hl1, hmp, hres'⟩
  obtain ⟨a', as, ea2, h0a, hfa, hha, na, hrow⟩ := oo_at ok' (e2i _)
  rw [ea'] at ea2
  cases ea2
  have hlen := hrow.len
  rw [List.length_append, List.length_drop, hl1] at hlen
  by_cases hlt : n < rs.length
  · have hgr : (rs1 ++ rs.drop n)[n]? = some rs[n] := by
      rw [List.getElem?_append_right (by omega), hl1, Nat.sub_self, List.drop_eq_getElem_cons hlt]
      rfl
    obtain ⟨b, vs, hb1, hb2, hb3⟩ := hrow.get hgr
    have mb : V.ref b ∈ as := List.mem_of_getElem? hb1
    obtain ⟨hb0, hbf, _⟩ := hrow.mem mb
    have nab : a ≠ b := fun z => na (by rw [z]; exact mb)
    rw [List.drop_eq_getElem_cons hlt, List.mapM_cons] at hmp
    obtain ⟨ds', hds', hmp⟩ := Option.bind_eq_some_iff.mp hmp
    obtain ⟨rs3, hrs3, hmp⟩ := Option.bind_eq_some_iff.mp hmp
    cases hmp
    refine .inr ⟨⟨as, .ref b, sq_of hha, hb1⟩, fun σ2 H2 => ∃ F2, Ex F F2 ∧ EOk X.K F0 H0 σ2 F2 H2 (env2 ((rs1 ++ [ds']) ++ rs.drop (n + 1))) ∧ σ2[i]? = some (some (.ref a)), fun σ2 H2 ⟨F2, y1, y2, y3⟩ => ⟨m - 1, by omega, by omega, F2, rs1 ++ [ds'], rs3, y1, y2, y3, by rw [List.length_append, hl1]; rfl, hrs3, by rw [List.append_assoc]; exact hres'⟩, fun v H2 hy => ?_⟩
    obtain ⟨rfl, hy⟩ := hy
    have ev := hy as (sq_of hha)
    rw [hb1] at ev
    cases ev
    -- the body, over what stands but for the row
    let Hb : Hp := fun c => if c = b then none else H2 c
    have hbne : ∀ c u, c ≠ b → H2 c = some u → Hb c = some u := fun c u nc hu => by
      show (if c = b then none else H2 c) = some u
      rw [if_neg nc]
      exact hu
    have hbx : Ex Hb H2 := fun c u hu => by
      have hu : (if c = b then none else H2 c) = some u := hu
      split at hu
      · cases hu
      · exact hu
    have hbb : Hb b = none := if_pos rfl
    have hle : σ'.length = e0.length := by
      have := ok'.len
      rw [← h0, List.length_set] at this
      exact this
    have hj0l : j < e0.length := (List.getElem?_eq_some_iff.mp hj0).1
    refine ⟨.ref a, b, rs[n], F', Hb, F', ds', ⟨⟨Ex.refl F', hbx, ok'.sub, fun _ h _ => h⟩, ?_, ?_, ?_⟩, hds', fun σ3 F3 H3 x3 o3 => ?_⟩
    · rw [List.length_set, ← hs, List.length_set, List.length_set, hle]
    · intro l s el
      rw [← hs] at el
      rcases set_fix el with ⟨rfl, _, rfl⟩ | ⟨nj, el⟩
      · rw [List.getElem?_set_self (by rw [hle]; exact hj0l)]
        exact ⟨vs, rfl, hbb, hbf, hb2, hb3⟩
      · rw [List.getElem?_set_ne nj]
        rcases set_fix el with ⟨rfl, _, rfl⟩ | ⟨ni, el⟩
        · exact ea'
        · have hp : s.plain = true := List.all_eq_true.mp hpl s (List.mem_of_getElem? el)
          refine plain_ok hp (ok'.at_ l s ?_)
          rw [← h0, List.getElem?_set_ne ni]
          exact el
    · intro l1 l2 s t c ne e1 e2 q1 q2
      rw [← hs] at e1 e2
      have noj : ∀ (l : Nat) (s : DV.Slot), j ≠ l → ((e0.set i (.pin (.ref a))).set j (.owp b rs[n]))[l]? = some s → ¬ s.holds H2 (σ'.set j (some (.ref b)))[l]? c := fun l s nl el => by
        rw [List.getElem?_set_ne nl] at el
        rcases set_fix el with ⟨rfl, _, rfl⟩ | ⟨ni, el⟩
        · exact fun z => z
        · exact plain_no (List.all_eq_true.mp hpl s (List.mem_of_getElem? el))
      by_cases h1 : j = l1
      · exact noj l2 t (fun z => ne (by rw [← h1, z])) e2 q2
      · exact noj l1 s h1 e1 q1
    · -- behind the body
      have sj : (enb (.ref a) b ds')[j]? = some (.owp b ds') := by
        rw [← hs]
        exact List.getElem?_set_self (by rw [List.length_set]; exact hj0l)
      have si : (enb (.ref a) b ds')[i]? = some (.pin (.ref a)) := by
        rw [← hs, List.getElem?_set_ne (Ne.symm hij)]
        exact List.getElem?_set_self hi0
      obtain ⟨vs3, _, _, fb3, hb3', db3⟩ := owp_at o3 sj
      have ea3 : σ3[i]? = some (some (.ref a)) := o3.at_ i _ si
      have g3 := o3.g
      have fa3 : F3 a = none := g3.own a hfa (ne_none (hbne a _ nab hha))
      have ha3 : H3 a = some (.lst as) := g3.hh _ _ (hbne a _ nab hha)
      have hrow3 : RowsOk X.K H0 F3 H3 as ((rs1 ++ rs.drop n).set n ds') := hrow.change g3.ff fb3 hb3' db3 (n := n) (fun c nc mc => by
        obtain ⟨_, fc, ws, hc⟩ := hrow.mem mc
        exact ⟨g3.own c fc (ne_none (hbne c _ nc hc)), by rw [hc]; exact g3.hh _ _ (hbne c _ nc hc)⟩) hb1
      have eset : (rs1 ++ rs.drop n).set n ds' = (rs1 ++ [ds']) ++ rs.drop (n + 1) := by
        rw [List.set_append_right (h := by omega), hl1, Nat.sub_self, List.drop_eq_getElem_cons hlt, List.set_cons_zero, List.append_assoc]
        rfl
      rw [eset] at hrow3
      refine ⟨F3, x1.trans x3, ⟨⟨ok'.g.ff.trans g3.ff, fun c u hu => ?_, g3.sub, fun c hc0 hc => ?_⟩, ?_, ?_, ?_⟩, ea3⟩
      · have nc : c ≠ b := fun z => by rw [z, hb0] at hu; cases hu
        exact g3.hh _ _ (hbne c u nc (ok'.g.hh _ _ hu))
      · have fc := ok'.g.own c hc0 hc
        have nc : c ≠ b := fun z => hc (by rw [z]; exact hb0)
        obtain ⟨u, hu⟩ := Option.ne_none_iff_exists'.mp (Ex.nn ok'.g.hh hc)
        exact g3.own c fc (ne_none (hbne c u nc hu))
      · have : σ3.length = (enb (.ref a) b ds').length := o3.len
        rw [← hs, List.length_set, List.length_set] at this
        rw [← h0, List.length_set]
        exact this
      · intro l s el
        rw [← h0] at el
        rcases set_fix el with ⟨rfl, _, rfl⟩ | ⟨ni, el⟩
        · rw [ea3]
          exact ⟨a, as, rfl, h0a, fa3, ha3, na, hrow3⟩
        · by_cases nj : j = l
          · subst nj
            rw [hj0] at el
            cases el
            trivial
          · have hp : s.plain = true := List.all_eq_true.mp hpl s (List.mem_of_getElem? el)
            refine plain_ok hp (o3.at_ l s ?_)
            show (enb (.ref a) b ds')[l]? = some s
            rw [← hs, List.getElem?_set_ne nj, List.getElem?_set_ne ni]
            exact el
      · intro l1 l2 s t c ne e1 e2 q1 q2
        rw [← h0] at e1 e2
        rcases set_fix e1 with ⟨rfl, _, rfl⟩ | ⟨n1, e1⟩
        · rcases set_fix e2 with ⟨rfl, _, rfl⟩ | ⟨n2, e2⟩
          · exact ne rfl
          · exact plain_no (List.all_eq_true.mp hpl t (List.mem_of_getElem? e2)) q2
        · exact plain_no (List.all_eq_true.mp hpl s (List.mem_of_getElem? e1)) q1
  · have e : rs.drop n = [] := List.drop_eq_nil_of_le (by omega)
    rw [e] at hmp ok'
    rw [List.append_nil] at ok'
    rw [List.mapM_nil] at hmp
    cases hmp
    rw [List.append_nil] at hres'
    subst hres'
    exact .inl ⟨⟨as, sq_of hha, by omega⟩, _, F0, H0, F', o, ok', em1, W.mono x1 qq⟩
/-! ### rows[a][b] += e -/
theorem get_list : PGet X (fun x y H Q => ∃ p xs i v, x = .ref p ∧ y = .int i ∧ SqL X.K H p xs ∧ atI xs i = some v ∧ Q v H) := by
  intro pins s σ H x y v u Q I rx ry h
  obtain ⟨p, xs, i, z, rfl, rfl, hq, he, q⟩ := h
  cases rx
  obtain ⟨t, rfl⟩ := ry
  obtain ⟨its, r, pl, hz⟩ := I.list hq
  obtain ⟨j, h1, h2, h3, h4, h5⟩ := atI_get he
  obtain ⟨w, ew, rw'⟩ := r.get h2
  have hl := r.length
  have hn := line63
  have fin : EP X pins σ Q w s := ⟨z, H, I, rw', q⟩
  by_cases h0 : 0 ≤ i
  · have hj : i.toNat = j := by
      rw [seqIndex_of h0 h5] at h1
      exact Option.some.inj h1
    exact wpAny_getItem_list pl.isList h0 (by omega) (by rw [hj]; simpa using ew) fin
  · have hj : (i + (its.toArray.size : Int)).toNat = j := by
      rw [seqIndex_neg (by omega) h4] at h1
      rw [List.size_toArray, ← hl]
      exact Option.some.inj h1
    exact wpAny_getItem_list_neg pl.isList (by omega) (by rw [List.size_toArray] <;> omega) (by omega) (by rw [hj]; simpa using ew) fin
def pAddI : PyData → PyData → Option PyData
  | .int i, .int j => some (.int (i + j))
  | _, _ => none
theorem pAddI_some {a b c : PyData} (h : pAddI a b = some c) : ∃ i j, a = .int i ∧ b = .int j ∧ c = .int (i + j) := by
  unfold pAddI at h
  split at h
  · cases h
    exact ⟨_, _, rfl, rfl, rfl⟩
  · cases h
def ixR (n : Nat) : PyData → Option Nat
  | .int k => ixN n k
  | _ => none
theorem atI_of {α : Type} {xs : List α} {k : Int} {j : Nat} {v : α} (h : ixN xs.length k = some j) (hv : xs[j]? = some v) : atI xs k = some v := by
  unfold atI
  rw [h]
  exact hv
theorem dg_augRow (i : Nat) {px q1 q2 : Pos} {rs : List (List PyData)} {me : Option PyData} {k : List (List PyData) → Option β} {env' : List (List PyData) → List DV.Slot} (ha : DE X a env ma) (hb : DE X b env mb) (he : DE X e env me) (hr : ∀ rs', DG X rest W (env' rs') (k rs'))
    (ho : env[i]? = some (.oo rs) := by rfl) (hs : ∀ rs', env.set i (.oo rs') = env' rs' := by intro _; rfl) (hpa : PlainIx a := by intro _ _; rfl)
    (hN : X.N[i]? = some x := by rfl) (hvi : Vis X.env.scope x := by first | exact Or.inl rfl | exact Or.inr (Or.inl rfl) | exact Or.inr (Or.inr rfl)) (hd : (x == ("__debug__" : Str)) = false := by decide) (hcd : (x == ("__classdict__" : Str)) = false := by decide)
    (hau : ∀ ov iv new, augStore b ov iv new = (do holding [new, ov, iv] (setItem ov iv new); release [new, ov, iv] []; pure .next) := by intros; rfl) :
    DG X (.AugAssign (.Subscript (.Subscript (.Name x px) a q1) b q2) .Add e pos :: rest) W env
      (ma.bind fun x1 => (ixR rs.length x1).bind fun j1 => rs[j1]?.bind fun row => mb.bind fun y1 => (ixR row.length y1).bind fun j2 => row[j2]?.bind fun old => me.bind fun z => (pAddI old z).bind fun nw => k (rs.set j1 (row.set j2 nw))) := by
  refine PSs.mono (pss_cons (ps_augS (pe_ix ix_list (pe_var (i := i) hN hvi hd hcd) ha hpa) hb get_list he ip_add set_list hau) (pss_ex hr)) fun D σ H ⟨F0, H0, F, o, ok, em, qq⟩ => ?_
  obtain ⟨x1, hx1, em⟩ := Option.bind_eq_some_iff.mp em
  obtain ⟨j1, hj1, em⟩ := Option.bind_eq_some_iff.mp em
  obtain ⟨row, hrow, em⟩ := Option.bind_eq_some_iff.mp em
  obtain ⟨y1, hy1, em⟩ := Option.bind_eq_some_iff.mp em
  obtain ⟨j2, hj2, em⟩ := Option.bind_eq_some_iff.mp em
  obtain ⟨old, hold, em⟩ := Option.bind_eq_some_iff.mp em
  obtain ⟨z, hz, em⟩ := Option.bind_eq_some_iff.mp em
  obtain ⟨nw, hnw, em⟩ := Option.bind_eq_some_iff.mp em
  obtain ⟨a0, as, ea, _⟩ := oo_at ok ho
  refine ⟨.ref a0, ea, F0, H0, F, x1, ok, hx1, fun v F1 H1 g1 h1 => ?_⟩
  have ok1 := ok.grow g1
  obtain ⟨a', as1, ea1, h01, hf1, hh1, na1, hr1⟩ := oo_at ok1 ho
  rw [ea] at ea1
  cases ea1
  cases h1 with
  | int k1 =>
    obtain ⟨b0, vs, hb1, hb2, hb3⟩ := hr1.get hrow
    have hj1 : ixN rs.length k1 = some j1 := hj1
    refine ⟨a0, as1, k1, .ref b0, rfl, rfl, sq_of hh1, atI_of (by rw [hr1.len]; exact hj1) hb1, F0, H0, F1, y1, ok1, hy1, fun u F2 H2 g2 h2 => ?_⟩
    have ok2 := ok1.grow g2
    cases h2 with
    | int k2 =>
      have hj2 : ixN row.length k2 = some j2 := hj2
      have hb2' := g2.hh _ _ hb2
      have hd2 := dvAll_mono g2.ff hb3
      obtain ⟨vo, hvo, dvo⟩ := dvAll_get hd2 hold
      refine ⟨b0, vs, k2, vo, rfl, rfl, sq_of hb2', atI_of (by rw [dvAll_len hd2]; exact hj2) hvo, F0, H0, F2, z, ok2, hz, fun w F3 H3 g3 h3 => ?_⟩
      have ok3 := ok2.grow g3
      obtain ⟨i0, j0, rfl, rfl, rfl⟩ := pAddI_some hnw
      rw [dv_int dvo, dv_int h3]
      have hd3 := dvAll_mono g3.ff hd2
      have hb3' := g3.hh _ _ hb2'
      refine ⟨i0, j0, rfl, rfl, b0, vs, k2, j2, rfl, rfl, hb3', by rw [dvAll_len hd3]; exact hj2, rs.set j1 (row.set j2 (.int (i0 + j0))), F0, H0, F3, o, ?_, em, W.mono ((g1.trans g2).trans g3).ff qq⟩
      rw [← hs]
      obtain ⟨a', as3, ea3, h03, hf3, hh3, na3, hr3⟩ := oo_at ok3 ho
      rw [ea] at ea3
      cases ea3
      have e3 : as3 = as1 := by
        have := (g2.trans g3).hh _ _ hh1
        rw [hh3] at this
        cases this
        rfl
      subst e3
      have mb : V.ref b0 ∈ as3 := List.mem_of_getElem? hb1
      have nab : a0 ≠ b0 := fun z => na3 (by rw [z]; exact mb)
      have hfb := (hr3.mem mb).2.1
      have hha : L2.upd H3 b0 (.lst (vs.set j2 (.int (i0 + j0)))) a0 = some (.lst as3) := by rw [upd_ne nab]; exact hh3
      refine ok3.mutG ho (.inr ⟨a0, as3, ea, hh3, mb⟩) ?_ fun c qc => ?_
      · rw [ea]
        exact ⟨a0, as3, rfl, h03, hf3, hha, na3, hr3.change (Ex.refl F3) hfb upd_same (dvAll_set (.int _) j2 hd3) (fun c nc mc => ⟨(hr3.mem mc).2.1, upd_ne nc⟩) hb1⟩
      · rcases qc with qc | ⟨a', ws, qa, hv, m⟩
        · exact .inl qc
        · rw [ea] at qa
          cases qa
          rw [hha] at hv
          cases hv
          exact .inr ⟨a0, _, ea, hh3, m⟩
    | _ => cases hj2
  | _ => cases hj1
end
end DV
end
section
set_option Elab.async false
set_option linter.all false
set_option maxRecDepth 100000
set_option maxHeartbeats 4000000
/-! DV: exceptions of own classes, raised and caught -/
namespace DV
open PySem PySem.Spec PyProof.Rows L2 Evl
inductive Xc where
  | noWord
  | noText
  | noBack
deriving DecidableEq
/-- what a def that may raise ends with -/
inductive Rx where
  | ok (d : PyData)
  | ex (c : Xc)
def Rx.only : Rx → Option PyData
  | .ok d => some d
  | .ex _ => none
def wXrun (K : PySem.W.Frag) (cA : Xc → Addr) (Y : WX) (F0 H0 F : Hp) (D : Ends) : Rx → Prop
  | .ok d => (wR K).run F0 H0 F D d
  | .ex c => ∀ σ F' H', Grow F0 H0 F' H' → Y (.ref (cA c)) none σ H'
def wX (K : PySem.W.Frag) (cA : Xc → Addr) (Y : WX) : Wk Rx := ⟨wXrun K cA Y, fun {F0 H0 F F' D b} e h => match b, h with
  | .ok _, h => (wR K).mono e h
  | .ex _, h => h⟩
abbrev DX (X : Cx) (cA : Xc → Addr) (Y : WX) (ss : List Stmt) (env : List DV.Slot) (m : Option Rx) : Prop := DG X ss (wX X.K cA Y) env m
/-- facts of a class of exceptions that the text raises -/
structure ExcCls (K : PySem.W.Frag) (mg : Str → Option Value) (x : Str) (C : Addr) : Prop where
  g : mg x = some (.ref C)
  x : PySem.W.excIn K C [.type "ValueError", .type "Exception", .type "BaseException", .type "object"] "ValueError.__new__" = true
  k : PySem.W.keepIn K (.ref C) = true
  b : PySem.W.subIn K (.ref C) (.type "BaseException") = some true
  t : PySem.W.typeIn K (.ref C) = some (.type "type")
  hd : PySem.W.hasDictIn K C = true
  hg : PySem.W.findIn K (.ref C) "__getattribute__" = some (some (.builtin "BaseException.__getattribute__"))
  hk : PySem.W.findIn K (.ref C) "__getattr__" = some none
  ha : PySem.W.findIn K (.ref C) "__class__" = some (some (.builtin "object.__class__"))
  hn : PySem.W.specialIn K (.builtin "object.__class__") "__get__" = some (some (.builtin "getset_descriptor.__get__"))
  ht : PySem.W.takesIn K (.builtin "object.__class__") = some true
  hm : PySem.W.mroIn K C (.type "object") = some true
theorem ExcCls.exc {K : PySem.W.Frag} {mg : Str → Option Value} {x : Str} {C : Addr} (h : ExcCls K mg x C) : ExcC K C := ⟨h.hg, h.hk, h.b, h.hd, h.ha, h.hn, h.ht, h.hm⟩
theorem ExcCls.exm {K : PySem.W.Frag} {mg : Str → Option Value} {x : Str} {C D : Addr} {b : Bool} (h : ExcCls K mg x C) (s : PySem.W.subIn K (.ref D) (.ref C) = some b) : PySem.W.exmOne K (.ref D) (.ref C) = some b := PySem.W.exm_ref h.b h.hd h.t s
section
variable {X : Cx} {cA : Xc → Addr} {Y : WX} {env : List DV.Slot} {e c : Expr} {es : List Expr} {pos p : Pos} {rest : List Stmt} {me : Option PyData} {ms : Option (List PyData)} {x : Str}
theorem dx_ret (he : DE X e env me) : DX X cA Y [.Return (some e) pos] env (me.map Rx.ok) := PSs.mono (pss_one (ps_ret he)) fun D σ H ⟨F0, H0, F, o, ok, em, q⟩ => by
  obtain ⟨d, hd, rfl⟩ := Option.map_eq_some_iff.mp em
  exact ⟨F0, H0, F, d, ok, hd, fun v F' H' g h => q v F' H' (ok.g.trans g) h⟩
theorem dx_raise (n : Xc) {m : Str} {j : Nat} {p2 pos2 : Pos} (hc : X.calm = true) (tk : Takes X Y) (h : ExcCls X.K X.mg x (cA n)) (hg : Gl X x) (hdb : (x == ("__debug__" : Str)) = false := by decide) :
    DX X cA Y (.Raise (some (.Call (.Name x p) [.Constant (.str m) j p2] [] pos)) none pos2 :: rest) env (some (.ex n)) :=
  PSs.mono (pss_cons (ps_raise hc tk (pmk_own PySem.F.excBase_ValueError h.x h.g h.k (raises_own h.b h.t) hg hdb)) (PSs.mono (t' := fun _ _ _ => False) pss_never fun D σ H z => z)) fun D σ H ⟨F0, H0, F, o, ok, em, q⟩ => by
    cases em
    exact q σ F H ok.g
theorem dx_ifr {b1 : List Stmt} {mc : Option Bool} {m1 m2 : Option Rx} (hc : DT X c env mc) (h1 : DX X cA Y b1 env m1) (h2 : DX X cA Y rest env m2) :
    DX X cA Y (.If c b1 [] pos :: rest) env (mc.bind fun b => if b = true then m1 else m2) := PSs.mono (pss_cons (ps_if hc h1 pss_nil) h2) fun D σ H ⟨F0, H0, F, o, ok, em, q⟩ => by
  obtain ⟨b, hb, em⟩ := Option.bind_eq_some_iff.mp em
  have key : ∀ F1 H1, Grow F H F1 H1 → (wX X.K cA Y).run F0 H0 F1 { D with nx := fun σ H => tG X.K (wX X.K cA Y) env m2 D σ H } o := fun F1 H1 g => by
    cases o with
    | ok d => exact q
    | ex c => exact q
  refine ⟨F0, H0, F, b, ok, hb, fun F1 H1 g => ?_⟩
  cases b with
  | true => exact ⟨F0, H0, F1, o, ok.grow g, em, key F1 H1 g⟩
  | false => exact ⟨F0, H0, F1, o, ok.grow g, em, (wX X.K cA Y).mono g.ff q⟩
/-- a promise of a def that may raise -/
def spX (K : PySem.W.Frag) (cA : Xc → Addr) (n : Nat) (f : List PyData → Option Rx) : Sp := fun vs H Q E => ∃ F ds r, vs.length = n ∧ Ex F H ∧ DvAll K F vs ds ∧ f ds = some r ∧
  (∀ d, r = .ok d → ∀ v F' H', Grow F H F' H' → Dv K F' v d → Q v H') ∧ (∀ c, r = .ex c → ∀ F' H', Grow F H F' H' → E (.ref (cA c)) none H')
/-- a call of such a def where it does not raise -/
theorem de_callX {k n : Nat} {f : Addr} {fd : FuncData} {ps : List Str} {fm : List PyData → Option Rx} (G : FnOk X.prog X.w X.K X.mg X.base (L2.CX X.prog X.w) k f fd ps (spX X.K cA n fm)) (hr : Room k X.A) (hg : Gl X x) (hm : X.mg x = some (.ref f)) (hk : PySem.W.keepIn X.K (.ref f) = true) (hb : Binds X.K fd ps [])
    (hlen : ∀ ds d, fm ds = some d → ds.length = n) (ha : DA X (e :: es) env ms) (hdb : (x == ("__debug__" : Str)) = false := by decide) (he : starEach (e :: es) X.env = (false, eval e X.env) :: starEach es X.env := by rfl) (hpl : (backTo pos (starEach es X.env)).any (·.1) = false := by rfl) :
    DE X (.Call (.Name x p) (e :: es) [] pos) env (ms.bind fun ds => (fm ds).bind Rx.only) := PE.mono (pe_call (E := fun _ _ _ => False) G hr hg hm hk hb .nil (passes_call takes0 fun _ _ _ _ h => h) ha hdb he hpl) fun σ H Q ⟨F0, H0, F, d, o, em, q⟩ => by
  obtain ⟨ds, hds, em⟩ := Option.bind_eq_some_iff.mp em
  obtain ⟨r, hr', em⟩ := Option.bind_eq_some_iff.mp em
  refine ⟨F0, H0, F, ds, o, hds, fun vs F1 H1 g1 h1 => ?_⟩
  show spX X.K cA n fm (vs ++ []) H1 Q (fun _ _ _ => False)
  rw [List.append_nil]
  refine ⟨F1, ds, r, by rw [dvAll_len h1]; exact hlen ds r hr', g1.sub, h1, hr', fun d' e' v F2 H2 g2 h2 => ?_, fun c e' => ?_⟩
  · subst e'
    cases em
    exact q v F2 H2 (g1.trans g2) h2
  · subst e'
    cases em
/-! ### try: f(..) / except x: suite, the suite returns -/
def tryM (sub : Xc → Bool) (m0 : Option PyData) (ms : Xc → Option PyData) : Rx → Option PyData
  | .ok _ => m0
  | .ex c => if sub c = true then ms c else none
theorem dr_try_only {k n : Nat} {f : Addr} {fd : FuncData} {ps : List Str} {fm : List PyData → Option Rx} {f0 y : Str} {C : Addr} {b₀ : Stmt} {suite : List Stmt} {p1 np pos' epos : Pos} {sub : Xc → Bool} {m0 : Option PyData} {msu : Xc → Option PyData}
    (hs : X.stack = X.env :: X.outer) (hf : X.env.frame = some X.env.locals) (hc : Names X y (.ref C)) (hsub : ∀ c, PySem.W.exmOne X.K (.ref (cA c)) (.ref C) = some (sub c))
    (G : FnOk X.prog X.w X.K X.mg X.base (L2.CX X.prog X.w) k f fd ps (spX X.K cA n fm)) (hr : Room k X.A) (hg : Gl X f0) (hm : X.mg f0 = some (.ref f)) (hk : PySem.W.keepIn X.K (.ref f) = true) (hb : Binds X.K fd ps [])
    (hlen : ∀ ds d, fm ds = some d → ds.length = n) (ha : ∀ (pn : List (Addr × Obj)) (xe : Value → Shared → Prop), DA (X.tr pn xe) (e :: es) env ms)
    (hsu : ∀ (c : Xc) (a : Addr) (oe : Obj) (pn : List (Addr × Obj)), Zc (.ref (cA c)) none oe → (∃ vs, oe.data = .fields vs) → DR (X.suite a ((a, oe) :: pn)) (b₀ :: suite) env (msu c)) (hrest : DR X rest env m0)
    (hdb : (f0 == ("__debug__" : Str)) = false := by decide) (he : starEach (e :: es) X.env = (false, eval e X.env) :: starEach es X.env := by rfl) (hpl : (backTo p1 (starEach es X.env)).any (·.1) = false := by rfl)
    (hsw : swapsWith (.Call (.Name f0 p) (e :: es) [] p1) none epos.line X.env = pure false := by rfl) :
    DR X (.Try [.Expr (.Call (.Name f0 p) (e :: es) [] p1) epos] [.ExceptHandler (some (.Name y np)) none (b₀ :: suite) pos'] [] [] pos :: rest) env (ms.bind fun ds => (fm ds).bind (tryM sub m0 msu)) := by
  refine PSs.mono (pss_cons (ps_try_only (Wout := fun _ _ _ _ => False) (ts := fun a cls d D σ H => ∃ c, cls = .ref (cA c) ∧ d = none ∧ tG X.K (wR X.K) env (msu c) D σ H) hs hf hc takes0
    (fun W pn xe tk po => pss_one (ps_expr (pe_callS (X := X.tr pn xe) (E := WE W) G hr hg hm hk hb (fun σ => passAt tk σ) (show PA (X.tr pn xe) (e :: es) (tDs X.K env ms) from ha pn xe) hdb he hpl) hsw))
    (fun a oe cls d pn hz hfl => ⟨fun pins s σ H D I ⟨c, e1, e2, q⟩ => by
      subst e1
      subst e2
      exact (hsu c a oe pn hz hfl).run pins s σ H D I q⟩)) hrest) fun D σ H ⟨F0, H0, F, d, ok, em, q⟩ => ?_
  obtain ⟨ds, hds, em⟩ := Option.bind_eq_some_iff.mp em
  obtain ⟨r, hr', em⟩ := Option.bind_eq_some_iff.mp em
  refine ⟨F0, H0, F, ds, ok, hds, fun vs F1 H1 g1 h1 => ⟨F1, ds, r, by rw [dvAll_len h1]; exact hlen ds r hr', g1.sub, h1, hr', fun d' e' v F2 H2 g2 h2 => ?_, fun c e' F2 H2 g2 => ?_⟩⟩
  · subst e'
    exact ⟨F0, H0, F2, d, ok.grow (g1.trans g2), em, q⟩
  · subst e'
    have em : (if sub c = true then msu c else none) = some d := em
    refine ⟨sub c, hsub c, fun hb a na => ?_, fun hb => ?_⟩
    · rw [if_pos hb] at em
      exact ⟨c, rfl, rfl, F0, H0, F2, d, ok.grow (g1.trans g2), em, q⟩
    · rw [hb] at em
      cases em
/-- the same with a name for the exception -/
theorem dr_try_as (i : Nat) {k n : Nat} {f : Addr} {fd : FuncData} {ps : List Str} {fm : List PyData → Option Rx} {f0 y nm : Str} {C : Addr} {b₀ : Stmt} {suite : List Stmt} {p1 np pos' epos : Pos} {sub : Xc → Bool} {m0 : Option PyData} {msu : Xc → Option PyData} {env' : Addr → List DV.Slot}
    (hs : X.stack = X.env :: X.outer) (hf : X.env.frame = some X.env.locals) (hN : X.N.Nodup) (hc : Names X y (.ref C)) (hsub : ∀ c, PySem.W.exmOne X.K (.ref (cA c)) (.ref C) = some (sub c))
    (G : FnOk X.prog X.w X.K X.mg X.base (L2.CX X.prog X.w) k f fd ps (spX X.K cA n fm)) (hr : Room k X.A) (hg : Gl X f0) (hm : X.mg f0 = some (.ref f)) (hk : PySem.W.keepIn X.K (.ref f) = true) (hb : Binds X.K fd ps [])
    (hlen : ∀ ds d, fm ds = some d → ds.length = n) (ha : ∀ (pn : List (Addr × Obj)) (xe : Value → Shared → Prop), DA (X.tr pn xe) (e :: es) env ms)
    (hsu : ∀ (c : Xc) (a : Addr) (oe : Obj) (pn : List (Addr × Obj)), Zc (.ref (cA c)) none oe → (∃ vs, oe.data = .fields vs) → DR (X.suite a ((a, oe) :: pn)) (b₀ :: suite) (env' a) (msu c)) (hrest : DR X rest env m0)
    (hi : X.N[i]? = some nm := by rfl) (hln : X.env.kindOf nm = some .local := by rfl) (hse : ∀ a, env.set i (.pin (.ref a)) = env' a := by intro _; rfl)
    (hdb : (f0 == ("__debug__" : Str)) = false := by decide) (he : starEach (e :: es) X.env = (false, eval e X.env) :: starEach es X.env := by rfl) (hpl : (backTo p1 (starEach es X.env)).any (·.1) = false := by rfl)
    (hsw : swapsWith (.Call (.Name f0 p) (e :: es) [] p1) none epos.line X.env = pure false := by rfl) :
    DR X (.Try [.Expr (.Call (.Name f0 p) (e :: es) [] p1) epos] [.ExceptHandler (some (.Name y np)) (some nm) (b₀ :: suite) pos'] [] [] pos :: rest) env (ms.bind fun ds => (fm ds).bind (tryM sub m0 msu)) := by
  refine PSs.mono (pss_cons (ps_try_as (i := i) (Wout := fun _ _ _ _ => False) (ts := fun a cls d D σ H => ∃ c, cls = .ref (cA c) ∧ d = none ∧ tG X.K (wR X.K) (env' a) (msu c) D σ H) hs hf hN hi hln hc takes0
    (fun W pn xe tk po => pss_one (ps_expr (pe_callS (X := X.tr pn xe) (E := WE W) G hr hg hm hk hb (fun σ => passAt tk σ) (show PA (X.tr pn xe) (e :: es) (tDs X.K env ms) from ha pn xe) hdb he hpl) hsw))
    (fun a oe cls d pn hz hfl => ⟨fun pins s σ H D I ⟨c, e1, e2, q⟩ => by
      subst e1
      subst e2
      exact (hsu c a oe pn hz hfl).run pins s σ H D I q⟩)) hrest) fun D σ H ⟨F0, H0, F, d, ok, em, q⟩ => ?_
  obtain ⟨ds, hds, em⟩ := Option.bind_eq_some_iff.mp em
  obtain ⟨r, hr', em⟩ := Option.bind_eq_some_iff.mp em
  refine ⟨F0, H0, F, ds, ok, hds, fun vs F1 H1 g1 h1 => ⟨F1, ds, r, by rw [dvAll_len h1]; exact hlen ds r hr', g1.sub, h1, hr', fun d' e' v F2 H2 g2 h2 => ?_, fun c e' F2 H2 g2 => ?_⟩⟩
  · subst e'
    exact ⟨F0, H0, F2, d, ok.grow (g1.trans g2), em, q⟩
  · subst e'
    have em : (if sub c = true then msu c else none) = some d := em
    refine ⟨sub c, hsub c, fun hb a na => ?_, fun hb => ?_⟩
    · rw [if_pos hb] at em
      refine ⟨c, rfl, rfl, F0, H0, F2, d, ?_, em, q⟩
      rw [← hse]
      exact (ok.grow (g1.trans g2)).setNew (s' := .pin (.ref a)) (Grow.refl g2.sub) rfl fun _ z => z.elim
    · rw [hb] at em
      cases em
/-- isinstance(e, C), e the caught exception -/
theorem de_isE (i : Nat) {a D : Addr} {oe : Obj} {pn : List (Addr × Obj)} {nm y : Str} {cv : Value} {cl : V} {b : Bool} {p1 p2 : Pos} (hE : ExcC X.K D) (hz : Zc (.ref D) none oe) (hfl : ∃ vs, oe.data = .fields vs) (hg : Gl X "isinstance") (hm : X.mg "isinstance" = none)
    (hcl : PE (X.suite a ((a, oe) :: pn)) (.Name y p2) (tC cl)) (hcv : ∀ u, RelV cl u → u = cv) (hkit : PySem.W.kitOne X.K (.ref D) cv = some b)
    (he : env[i]? = some (.pin (.ref a)) := by rfl) (hN : X.N[i]? = some nm := by rfl) (hv : Vis X.env.scope nm := by first | exact Or.inl rfl | exact Or.inr (Or.inl rfl) | exact Or.inr (Or.inr rfl))
    (hd : (nm == ("__debug__" : Str)) = false := by decide) (hcd : (nm == ("__classdict__" : Str)) = false := by decide)
    (hs1 : starEach [.Name nm p1, .Name y p2] X.env = (false, eval (.Name nm p1) X.env) :: starEach [.Name y p2] X.env := by rfl) (hs2 : starEach [.Name y p2] X.env = (false, eval (.Name y p2) X.env) :: starEach [] X.env := by rfl) (hpl : (backTo pos (starEach [.Name y p2] X.env)).any (·.1) = false := by rfl) :
    DE (X.suite a ((a, oe) :: pn)) (.Call (.Name "isinstance" p) [.Name nm p1, .Name y p2] [] pos) env (some (.bool b)) :=
  PE.mono (pe_callB (X := X.suite a ((a, oe) :: pn)) (call_isE hE hz hfl) hg hm (by decide +kernel) (pa_cons (pe_var (i := i) hN hv hd hcd) (pa_cons hcl pa_nil hs2) hs1) (by decide) (by decide) hs1 hpl) fun σ H Q ⟨F0, H0, F, d, o, em, q⟩ => by
    cases em
    have e1 : σ[i]? = some (some (.ref a)) := o.at_ i _ he
    exact ⟨_, e1, cl, cv, b, rfl, hcv, hkit, q _ F H (Grow.refl o.sub) (.bl b)⟩
end
section
variable {P : Program} {w : World} {K : PySem.W.Frag} {mg : Str → Option Value} {base : Heap}
theorem fn_okX {x qual : Str} {st : Stmt} {f : Addr} {fd : FuncData} {N ps : List Str} {k n : Nat} {cA : Xc → Addr} {fm : List PyData → Option Rx} (G : Fun K x qual st f fd) (S : FnScope N ps (defScope st)) (hn : ps.length = n) (hN : n ≤ N.length) (hlen : ∀ ds d, fm ds = some d → ds.length = n)
    (hb : ∀ (cdv : Value) (A : Around) (outer : List Env) (s : Shared) (H : Hp) (E : XK) (ds : List PyData), Room k (A.deeper (envOfC qual (defScope st) s.heap.objs.size f cdv)) → ds.length = n →
      DX (cxOf (L2.CX P w) P w K mg base N qual (defScope st) f cdv A outer s H E) cA (fun cls d _ H' => E cls d H') (defBody st) (env0 n (N.length - n) ds) (fm ds)) : FnOk P w K mg base (L2.CX P w) (k + 1) f fd ps (spX K cA n fm) := by
  refine G.okX S (fun vs H Q E h => ?_) (fun cdv A outer s H vs Q E hr h => ?_)
  · obtain ⟨F, ds, d, h1, _⟩ := h
    rw [h1, hn]
  · obtain ⟨F, ds, r, h1, h2, h3, h4, h5, h6⟩ := h
    have hl := hlen ds r h4
    refine ⟨_, hb cdv A outer s H E ds hr hl, F, H, F, r, ?_, h4, ?_⟩
    · have := start_ok (N := N) h2 h3 (by rw [h1]; exact hN)
      rw [hl] at this
      exact this
    · cases r with
      | ok d => exact fun v F' H' g hv => h5 d rfl v F' H' g hv
      | ex c => exact fun σ F' H' g => h6 c rfl F' H' g
end
end DV
end
section
set_option Elab.async false
set_option linter.all false
set_option maxRecDepth 100000
set_option maxHeartbeats 4000000
/-! DV: texts joined and split; mirrors of defs that may raise -/
namespace DV
open PySem PySem.Spec PyProof.Rows L2 Evl
def ax1 (g : PyData → Option Rx) : List PyData → Option Rx
  | [a] => g a
  | _ => none
def ax2 (g : PyData → PyData → Option Rx) : List PyData → Option Rx
  | [a, b] => g a b
  | _ => none
def ax3 (g : PyData → PyData → PyData → Option Rx) : List PyData → Option Rx
  | [a, b, c] => g a b c
  | _ => none
theorem ax1_len {g : PyData → Option Rx} (ds : List PyData) (d : Rx) (h : ax1 g ds = some d) : ds.length = 1 := by
  unfold ax1 at h
  split at h
  · rfl
  · cases h
theorem ax2_len {g : PyData → PyData → Option Rx} (ds : List PyData) (d : Rx) (h : ax2 g ds = some d) : ds.length = 2 := by
  unfold ax2 at h
  split at h
  · rfl
  · cases h
theorem ax3_len {g : PyData → PyData → PyData → Option Rx} (ds : List PyData) (d : Rx) (h : ax3 g ds = some d) : ds.length = 3 := by
  unfold ax3 at h
  split at h
  · rfl
  · cases h
def strsOf : List PyData → Option (List Str)
  | [] => some []
  | .str i :: r => (strsOf r).map (i :: ·)
  | _ :: _ => none
theorem strsOf_map : ∀ ns : List Str, strsOf (ns.map PyData.str) = some ns
  | [] => rfl
  | n :: r => by
    show (strsOf (r.map PyData.str)).map (n :: ·) = _
    rw [strsOf_map r]
    rfl
theorem strsOf_some : ∀ {ds : List PyData} {ns : List Str}, strsOf ds = some ns → ds = ns.map PyData.str
  | [], ns, h => by
    cases h
    rfl
  | d :: r, ns, h => by
    cases d with
    | str i =>
      have h : (strsOf r).map (i :: ·) = some ns := h
      cases hr : strsOf r with
      | none => rw [hr] at h; cases h
      | some ms =>
        rw [hr] at h
        cases h
        rw [strsOf_some hr]
        rfl
    | _ => cases h
def pJoin : PyData → PyData → Option PyData
  | .str a, .list ds => (strsOf ds).bind fun ys => if (ys.map (·.length)).sum + ys.length * a.length ≤ 16777216 then some (.str (Txt.join a ys)) else none
  | _, _ => none
def pSplit : PyData → PyData → Option PyData
  | .str a, .str b => if (b.length == 0) = false ∧ a.length + 2 ≤ 8000000 then some (.list ((Txt.split a b).map .str)) else none
  | _, _ => none
section
variable {X : Cx} {env : List DV.Slot} {a b e : Expr} {pos p apos : Pos} {ma mb m : Option PyData}
theorem de_gstr {x z : Str} (hg : Gl X x) (hm : ∃ t, X.mg x = some (.str z t)) (hdb : (x == ("__debug__" : Str)) = false := by decide) : DE X (.Name x pos) env (some (.str z)) := by
  obtain ⟨t, hm⟩ := hm
  exact de_glob (v := .str z) hg hm ⟨t, rfl⟩ (fun _ => .str z) hdb
theorem de_join (ha : DE X a env ma) (hb : DE X b env mb) (hs : starEach [b] X.env = [(false, eval b X.env)] := by rfl) (hbase : attributeBase a "join" X.env (eval a X.env) = eval a X.env := by rfl) (hline : (apos.endLine == pos.line) = true := by rfl) :
    DE X (.Call (.Attribute a "join" apos) [b] [] pos) env (ma.bind fun x => mb.bind fun y => pJoin x y) := PE.mono (pe_join ha hb hs hbase hline) fun σ H Q ⟨F0, H0, F, d, o, em, q⟩ => by
  obtain ⟨x, hx, em1⟩ := Option.bind_eq_some_iff.mp em
  obtain ⟨y, hy, em2⟩ := Option.bind_eq_some_iff.mp em1
  cases x with
  | str z =>
    cases y with
    | list ds =>
      have em2 : ((strsOf ds).bind fun ys => if (ys.map (·.length)).sum + ys.length * z.length ≤ 16777216 then some (.str (Txt.join z ys)) else none) = some d := em2
      obtain ⟨ys, hys, em3⟩ := Option.bind_eq_some_iff.mp em2
      split at em3
      · rename_i hz
        cases em3
        refine ⟨F0, H0, F, _, o, hx, fun v F1 H1 g1 h1 => ?_⟩
        rw [dv_str h1]
        refine ⟨⟨_, rfl⟩, F0, H0, F1, _, o.grow g1, hy, fun u F2 H2 g2 h2 => ?_⟩
        have e := strsOf_some hys
        subst e
        cases h2 with
        | lst l2 a2 =>
          have e2 := dvAll_strs_of a2
          subst e2
          exact ⟨z, _, ys, rfl, rfl, .inl (sq_of (g2.sub _ _ l2)), hz, q _ F2 H2 (g1.trans g2) (.str _)⟩
      · cases em3
    | _ => cases em2
  | _ => cases em2
theorem de_split (ha : DE X a env ma) (hb : DE X b env mb) (hs : starEach [b] X.env = [(false, eval b X.env)] := by rfl) (hbase : attributeBase a "split" X.env (eval a X.env) = eval a X.env := by rfl) (hline : (apos.endLine == pos.line) = true := by rfl) :
    DE X (.Call (.Attribute a "split" apos) [b] [] pos) env (ma.bind fun x => mb.bind fun y => pSplit x y) := PE.mono (pe_split ha hb hs hbase hline) fun σ H Q ⟨F0, H0, F, d, o, em, q⟩ => by
  obtain ⟨x, hx, em1⟩ := Option.bind_eq_some_iff.mp em
  obtain ⟨y, hy, em2⟩ := Option.bind_eq_some_iff.mp em1
  cases x with
  | str z =>
    cases y with
    | str y =>
      have em2 : (if (y.length == 0) = false ∧ z.length + 2 ≤ 8000000 then some (PyData.list ((Txt.split z y).map .str)) else none) = some d := em2
      split at em2
      · rename_i hz
        cases em2
        refine ⟨F0, H0, F, _, o, hx, fun v F1 H1 g1 h1 => ?_⟩
        rw [dv_str h1]
        refine ⟨⟨_, rfl⟩, F0, H0, F1, _, o.grow g1, hy, fun u F2 H2 g2 h2 => ?_⟩
        rw [dv_str h2]
        exact ⟨z, y, rfl, rfl, hz.1, Nat.le_trans hz.2 (by decide), newL_dv g2.sub (dvAll_strs _) fun v F3 H3 g3 h3 => q v F3 H3 ((g1.trans g2).trans g3) h3⟩
      · cases em2
    | _ => cases em2
  | _ => cases em2
end
end DV
end
section
set_option Elab.async false
set_option linter.all false
set_option maxRecDepth 100000
set_option maxHeartbeats 4000000
/-! DV: a list comprehension that lets an exception out -/
namespace DV
open PySem PySem.Spec PyProof.Rows L2 Evl
/-- the block's own way out, back to the def -/
abbrev outOf (X : Cx) (ce : Env) : Value → Shared → Prop := notedBy (model X.prog X.w) X.A ce (CompFails (model X.prog X.w) X.A X.xe ce)
section
variable {X : Cx} {E : XK}
theorem blk_passes {pins : List (Addr × Obj)} {σ σ' : L2.St} {H3 : Hp} {s3 : Shared} {scope : Scope} {ce : Env} {fp : List Addr} (hs : X.stack = X.env :: X.outer) (hf : X.env.frame = some X.env.locals) (tk : Takes X (fun cls d _ H => E cls d H))
    (I3 : Inv X pins σ H3 s3) (f3 : ∀ b ∈ fp, FpOk X pins H3 b) (hce : ce.frame = X.env.frame) :
    PassesAt (L2.CX X.prog X.w) ((X.blk s3 H3 scope ce fp).wish (outOf X ce)) σ' E := by
  intro pins' H s u s' I c
  obtain ⟨a, B, H', cls, d, rfl, fl, hok, ub, na, os, ag, hE⟩ := c
  have fl : HandSPX.FlyingZ B X.stack a (Zc cls d) s'.heap := fl
  have ub : UB (frs X.stack) H H' s.heap B s'.heap := ub
  have hfr : X.A.frames = some (X.env :: X.outer) := by rw [I3.ok.frames, hs]
  have ib : Un (frs X.stack) fp H3 H s3.heap s.heap := I.base
  have above : s3.heap.objs.size ≤ ce.locals := I.ok.above
  -- the block's names are no frame
  have cfr : ce.locals ∉ frs X.stack := fun hm => by
    obtain ⟨_, o, ho, _⟩ := I.ok.funs.mem (show ce.locals ∈ frs X.stack from hm)
    exact Nat.lt_irrefl _ (Nat.lt_of_lt_of_le (Heap.lt_size (show s3.heap.get? ce.locals = some o from ho)) above)
  obtain ⟨m, hn, _⟩ := I.loc
  have hn : s.heap.Ns ce.locals m := hn
  have hcn : H ce.locals = none := I.free
  obtain ⟨oc, es, ep, hoc, hrc⟩ := hn
  have cB : B.get? ce.locals = some oc := ub.keep _ _ hoc hcn cfr
  have cH' : H' ce.locals = none := ub.free _ _ hoc hcn
  show wpAny (model X.prog X.w) X.A (noteFrame (.ref a) ce) _ _ s'
  have en : noteFrame (.ref a) ce = noteFrame (.ref a) X.env := by
    unfold noteFrame PySem.frameOf
    rw [hce]
  rw [en]
  rw [hs] at fl
  refine HandSPX.looks_onZ Zc.steady hfr hf fl fun h1 hh up1 => ?_
  obtain ⟨g1, g2, g3, oe, vs, T, oT, ts, he, hz, hd, hv1, hnT, hTe, hT, hdT, h3⟩ := hh
  refine ⟨m, ⟨oc, es, ep, g1 _ _ cB, hrc⟩, fun h' m' hn' sb => ?_⟩
  have sb1 : ∀ b, b ≠ ce.locals → h'.get? b = h1.get? b := fun b hb => sb.2 b hb
  obtain ⟨B', b1, b2⟩ := restrict B fun b => decide (b ≠ ce.locals)
  have bB : ∀ b o, B'.get? b = some o → B.get? b = some o ∧ b ≠ ce.locals := fun b o e => by
    by_cases hb : b = ce.locals
    · rw [b2 b (by simp [hb])] at e
      cases e
    · rw [b1 b (by simp [hb])] at e
      exact ⟨e, hb⟩
  have Bb : ∀ b o, B.get? b = some o → b ≠ ce.locals → B'.get? b = some o := fun b o e hb => by
    rw [b1 b (by simp [hb])]
    exact e
  have bn : ∀ b, B.get? b = none → B'.get? b = none := fun b e => by
    cases q : B'.get? b with
    | none => rfl
    | some o =>
      rw [(bB b o q).1] at e
      cases e
  have ne_ : ∀ b, B.get? b = none → b ≠ ce.locals := fun b e z => by
    rw [z, cB] at e
    cases e
  have frB : ∀ b, b ∈ frs (X.env :: X.outer) → B.get? b = none ∧ b ≠ ce.locals := fun b hb => by
    have := (g3.mem hb).1
    exact ⟨this, ne_ b this⟩
  have nofld : ∀ b, b ∈ frs (X.env :: X.outer) → ∀ o, h1.get? b = some o → ∀ vs, o.data ≠ .fields vs := fun b hb o e => by
    obtain ⟨_, o', e', hnf⟩ := g3.mem hb
    rw [e] at e'
    cases e'
    exact hnf
  have ff : h'.FunFrames B' (X.env :: X.outer) := by
    refine funFrames_none (base := B) ?_ fun b hb => bn b (frB b hb).1
    have : ∀ l : List Env, (∀ b ∈ frs l, b ≠ ce.locals) → h1.FunFrames B l → h'.FunFrames B l := fun l => by
      induction l with
      | nil => exact fun _ _ => trivial
      | cons e l ih =>
        intro hb hh
        obtain ⟨hk, ⟨L, o, hfL, hnL, ho, hdL⟩, hr⟩ := hh
        refine ⟨hk, ⟨L, o, hfL, hnL, ?_, hdL⟩, ih (fun b hb' => hb b ?_) hr⟩
        · rw [sb1 L (hb L (List.mem_filterMap.mpr ⟨e, List.mem_cons_self, hfL⟩))]
          exact ho
        · obtain ⟨e', he', q⟩ := List.mem_filterMap.mp hb'
          exact List.mem_filterMap.mpr ⟨e', List.mem_cons_of_mem _ he', q⟩
    exact this _ (fun b hb => (frB b hb).2) g3
  have hh' : HandSPX.HeldZ B' (X.env :: X.outer) a (Zc cls d) X.env.locals h' := by
    refine ⟨fun b o e => ?_, bn a g2, ff, oe, vs, T, oT, ts, ?_, hz, hd, hv1, bn T hnT, hTe, ?_, hdT, h3⟩
    · obtain ⟨e1, e2⟩ := bB b o e
      rw [sb1 b e2]
      exact g1 b o e1
    · rw [sb1 a (ne_ a g2)]
      exact he
    · rw [sb1 T (ne_ T hnT)]
      exact hT
  have hfield : h'.get? a = some oe := by
    rw [sb1 a (ne_ a g2)]
    exact he
  unfold PySem.passOn
  refine wpAny_bind (wpAny_field (s := { s' with heap := h' }) hfield hd hv1 ?_)
  rw [if_neg (show ¬ ((Value.ref T == Value.none) = true) from by simp)]
  rw [hce, hf]
  refine wpAny_bind (HandSPX.setFlight_onZ (s := { s' with heap := h' }) hh' fun h2 hh2 up2 => ?_)
  refine wpAny_throw (tk _ _ ?_)
  have st2 : B'.StaysIn h2 := hh2.1
  obtain ⟨G, q1, q2⟩ := restrict h2 fun b => (B'.get? b).isSome || decide (b ∈ frs X.stack)
  have gB : ∀ b o, B'.get? b = some o → G.get? b = some o := fun b o e => by
    rw [q1 b (by simp [e])]
    exact st2 b o e
  have gF : ∀ b, b ∈ frs X.stack → G.get? b = h2.get? b := fun b hb => q1 b (by simp [hb])
  have og : ∀ b o, G.get? b = some o → h2.get? b = some o ∧ ((B'.get? b).isSome = true ∨ b ∈ frs X.stack) := fun b o e => by
    cases q : ((B'.get? b).isSome || decide (b ∈ frs X.stack)) with
    | false => rw [q2 b q] at e; cases e
    | true =>
      rw [q1 b q] at e
      exact ⟨e, by simpa [Bool.or_eq_true] using q⟩
  have old : ∀ b o, s3.heap.get? b = some o → b ≠ ce.locals := fun b o e z => by
    rw [z] at e
    exact Nat.lt_irrefl _ (Nat.lt_of_lt_of_le (Heap.lt_size e) above)
  have slot : ∀ b o, s3.heap.get? b = some o → H3 b = none → b ∈ frs X.stack → b ∉ fp → ∃ sl, G.get? b = some { o with slots := sl } := fun b o e n hb hx => by
    obtain ⟨sl1, e1⟩ := ib.slot b o e n hb hx
    obtain ⟨sl2, e2⟩ := ub.slot b _ e1 hb
    have hb' : b ∈ frs (X.env :: X.outer) := by
      rw [← hs]
      exact hb
    obtain ⟨_, o0, e0, hnf0⟩ := (fl.2.2.1).mem hb'
    rw [e2] at e0
    cases e0
    obtain ⟨sl3, e3⟩ := up1 b _ e2 hnf0
    have e4 : h'.get? b = some _ := (sb1 b (old b o e)).trans e3
    obtain ⟨sl5, e5⟩ := up2 b _ e4 hnf0
    exact ⟨sl5, by rw [gF b hb]; exact e5⟩
  refine ⟨a, B', { s3 with heap := G, gens := s'.gens, drawn := s'.drawn, toks := s'.toks }, pins, σ, H', cls, d, rfl, ?_, fun b o e hb => ?_, Heap.UpToSlots.of_keeps fun b o e => (og b o e).1, ?_, na, ?_, ag, hE⟩
  · refine I3.call (ch := fp) ⟨fun b o e n hb hx => ?_, fun b o e n hb hx => slot b o e n hb hx, fun b o e n hx => ?_, fun b o e hx => ?_, fun b xs e => ub.tups b xs (ib.tups b xs e), fun b o' u e => ub.frzs b o' u (ib.frzs b o' u e), fun b ps e => ?_⟩ ?_ ag fun b hb => ⟨(f3 b hb).2.2.2.1, (f3 b hb).2.1, (f3 b hb).2.2.2.2.1, (f3 b hb).2.2.2.2.2⟩
    · exact gB b o (Bb b o (ub.keep b o (ib.keep b o e n hb hx) (ib.free b o e n hx) hb) (old b o e))
    · obtain ⟨o', e'⟩ := ib.there b o e hx
      exact ub.free b o' e' (ib.free b o e n hx)
    · obtain ⟨o', e'⟩ := ib.there b o e hx
      by_cases hb : b ∈ frs X.stack
      · obtain ⟨sl, z⟩ := ub.slot b o' e' hb
        have hb' : b ∈ frs (X.env :: X.outer) := by
          rw [← hs]
          exact hb
        obtain ⟨_, o0, e0, hnf0⟩ := (fl.2.2.1).mem hb'
        rw [z] at e0
        cases e0
        obtain ⟨sl3, e3⟩ := up1 b _ z hnf0
        have e4 : h'.get? b = some _ := (sb1 b (old b o e)).trans e3
        obtain ⟨sl5, e5⟩ := up2 b _ e4 hnf0
        exact ⟨_, by rw [gF b hb]; exact e5⟩
      · obtain ⟨o'', e''⟩ := ub.there b o' e' hb
        exact ⟨o'', gB b o'' (Bb b o'' e'' (old b o e))⟩
    · obtain ⟨m1, e1⟩ := ib.tbls b ps e
      obtain ⟨m2, e2⟩ := ub.tbls b _ e1
      exact ⟨m1 ++ m2, by rw [e2, Array.append_assoc]⟩
    · intro b o q
      refine (hok b o q).stay (fun c u hc r => gB c u (Bb c u r fun z => ?_)) (fun _ r => r) fun _ _ r => r
      subst z
      rcases hc with hc | hc
      · rw [← hc, cH'] at q
        cases q
      · rw [cH'] at hc
        cases hc
  · obtain ⟨e', h⟩ := og b o e
    rcases h with h | h
    · obtain ⟨o', q⟩ := Option.isSome_iff_exists.mp h
      have z := st2 b o' q
      rw [e'] at z
      cases z
      exact q
    · exact absurd h hb
  · rw [hs]
    exact .inr (.inr hh2)
  · show s'.os = s3.os
    exact os.trans I.os
/-- [elt for target in iter if ..], the element may raise -/
theorem pe_lcX {elt tg iter : Expr} {ifs : List Expr} {scope : Scope} {own : List (Str × Nat)} {pos : Pos} {wi : TI} {g : TG} {tt : TT} {te : TE} (hs0 : X.stack = X.env :: X.outer) (hf0 : X.env.frame = some X.env.locals) (tk : Takes X (fun cls d _ H => E cls d H))
    (hc : X.calm = true) (hN : X.N.Nodup) (hi : PI X tg iter wi) (ok : BlkOk X.N X.env.scope scope own)
    (hg : ∀ (s : Shared) (H : Hp) (C : Addr) (cl : List (Str × Addr)) (fp : List Addr), PG (X.blk s H scope (compEnvC scope cl C X.env) fp) tg g) (ht : ∀ (s : Shared) (H : Hp) (C : Addr) (cl : List (Str × Addr)) (fp : List Addr), PTs (X.blk s H scope (compEnvC scope cl C X.env) fp) ifs tt)
    (he : ∀ (s : Shared) (H : Hp) (C : Addr) (cl : List (Str × Addr)) (fp : List Addr) (xe : Value → Shared → Prop), (∀ σ, PassesAt (L2.CX X.prog X.w) ((X.blk s H scope (compEnvC scope cl C X.env) fp).wish xe) σ E) → PE ((X.blk s H scope (compEnvC scope cl C X.env) fp).wish xe) elt te)
    (hs : ∀ x, foldedSetIterable iter X.env x = pure x := by intro _; rfl) :
    PE X (.ListComp elt [⟨tg, iter, ifs, 0⟩] scope pos) (tLc wi g tt te (own.map (·.2))) := by
  refine ⟨fun pins s σ H Q I h => ?_⟩
  rw [eval_ListComp]
  have hfree : ∀ y ∈ scope.names, y.2 = .free → ∃ c, X.env.cells.lookup y.1 = some c := fun y hy e => by
    rcases ok.free y hy e with k | k
    · exact I.ok.has _ (.inl k)
    · exact I.ok.has _ (.inr k)
  refine comprehension_at (use := none) rfl hs (closure_ok hfree) ok.kind (fun y hy e => by rw [ok.uniq y hy, e])
    (thn (hi.run pins s σ H _ I h) fun xv s1 hx => thn hx fun itv s2 h2 => ?_)
  obtain ⟨it, fp, tn, J, H2, e, I2, T, st2, f2, q⟩ := h2
  subst e
  refine wpAny_newObj_type (newEnv_comp ?_) (by show 0 ≤ sizeLine; decide)
  generalize hD : s2.heap.objs.size = D
  have hDn : H2 D = none := I2.hok.fresh (Nat.le_of_eq hD)
  obtain ⟨W, ⟨m0, w0⟩, turn⟩ := q D hDn
  generalize hs3 : ({ s2 with heap := s2.heap.push { cls := .type "list", data := .seq ([] : List Value).toArray } } : Shared) = s3
  have I3 : Inv X pins σ (upd H2 D (.lst [])) s3 := by
    rw [← hs3]
    refine I2.laid (t' := s2.toks) (fun b o e => Heap.get?_push_of_some _ e) (Nat.le_of_eq hD) ⟨Nat.zero_le _, [], 0, .nil, ?_⟩
    rw [← hD]
    exact Heap.get?_push_size _ rfl
  have h3 : s3.heap = s2.heap.push { cls := .type "list", data := .seq ([] : List Value).toArray } := by rw [← hs3]
  have sz : ∀ b ∈ fp, b < s2.heap.objs.size := fun b hb => by
    obtain ⟨o, e, _⟩ := T.obj _ _ st2 b hb
    exact Heap.lt_size e
  have f3 : ∀ b ∈ fp, FpOk X pins (upd H2 D (.lst [])) b ∧ b < s3.heap.objs.size := fun b hb => by
    have hlt := sz b hb
    refine ⟨⟨?_, (f2 b hb).2⟩, by rw [h3, Heap.size_push]; exact Nat.lt_succ_of_lt hlt⟩
    rw [upd_ne (by rw [← hD]; exact Nat.ne_of_lt hlt)]
    exact (f2 b hb).1
  have st3 : tn 0 s3.heap := T.keep _ _ _ st2 fun b _ o e => by rw [h3]; exact Heap.get?_push_of_some _ e
  have I4 := block_start I3 ok hN f3
  have pg := hg s3 (upd H2 D (.lst [])) s3.heap.objs.size (cellsFrom (s3.heap.objs.size + 1) scope.names (cloFrom X.env.cells scope.names [])) fp
  have pt := ht s3 (upd H2 D (.lst [])) s3.heap.objs.size (cellsFrom (s3.heap.objs.size + 1) scope.names (cloFrom X.env.cells scope.names [])) fp
  have pe := he s3 (upd H2 D (.lst [])) s3.heap.objs.size (cellsFrom (s3.heap.objs.size + 1) scope.names (cloFrom X.env.cells scope.names [])) fp
    (outOf X (compEnvC scope (cellsFrom (s3.heap.objs.size + 1) scope.names (cloFrom X.env.cells scope.names [])) s3.heap.objs.size X.env)) (fun σ' => blk_passes hs0 hf0 tk I3 (fun b hb => (f3 b hb).1) rfl)
  show codeAny _ _ (.compStart (.ListComp elt [⟨tg, iter, ifs, 0⟩] scope pos) 0 (.ref it) (.ref D) (compEnvC scope (cellsFrom (s3.heap.objs.size + 1) scope.names (cloFrom X.env.cells scope.names [])) s3.heap.objs.size X.env)) (compEnds (model X.prog X.w) X.A X.xe none _ (.ref D) (compEnvC scope (cellsFrom (s3.heap.objs.size + 1) scope.names (cloFrom X.env.cells scope.names [])) s3.heap.objs.size X.env)) { s3 with heap := pushCells (s3.heap.push { cls := .type "dict", data := .dict #[] }) scope.names }
  have nfp : ∀ b ∈ fp, (upd H2 D (.lst [])) b = none := fun b hb => (f3 b hb).1.1
  generalize hce : compEnvC scope (cellsFrom (s3.heap.objs.size + 1) scope.names (cloFrom X.env.cells scope.names [])) s3.heap.objs.size X.env = ce at I4 pg pt pe ⊢
  have cL : ce.locals = s3.heap.objs.size := by subst hce; rfl
  generalize hH3 : upd H2 D (.lst []) = H3 at I3 I4 pg pt pe w0 nfp f3
  generalize hs4 : ({ s3 with heap := pushCells (s3.heap.push { cls := .type "dict", data := .dict #[] }) scope.names } : Shared) = s4 at I4 ⊢
  have st4 : tn 0 s4.heap := T.keep _ _ _ st3 fun b _ o e => by rw [← hs4]; exact pushCells_keeps _ _ _ _ (Heap.get?_push_of_some _ e)
  have stat : ∀ {σ' : L2.St} {H' : Hp} {s' : Shared}, Inv (X.blk s3 H3 scope ce fp) [] σ' H' s' → (∀ b ∈ fp, H' b = none) → ∀ b ∈ fp, FpOk (X.blk s3 H3 scope ce fp) [] H' b := fun {σ' H' s'} I' hn b hb =>
    ⟨hn b hb, (I'.ok.exf b hb).1, I'.ok.exfs b hb, .inl hb, fun x c e => (I'.ok.exf b hb).2 x c e, fun p hp => absurd (show p ∈ ([] : List (Addr × Obj)) ++ [] from hp) (by simp)⟩
  have loop : codeAny (model X.prog X.w) X.A (.compLoop (.ListComp elt [⟨tg, iter, ifs, 0⟩] scope pos) 0 (.ref it) (.ref D) ce) (compEnds (model X.prog X.w) X.A X.xe none (EP X pins σ Q) (.ref D) ce) s4 := by
    refine compLoop_any (fun n s' => ∃ i H', Inv (X.blk s3 H3 scope ce fp) [] (wipe σ (own.map (·.2))) H' s' ∧ tn i s'.heap ∧ (∀ b ∈ fp, H' b = none) ∧ W i n H') ?_ m0 ⟨0, H3, I4, st4, nfp, w0⟩
    rintro n s5 ⟨i, H5, I5, st5, n5, w5⟩
    rcases turn i n H5 w5 with ⟨stop, qq⟩ | ⟨go, Nx, hNx, step⟩
    · have td := T.done (X.blk s3 H3 scope ce fp) rfl rfl rfl hc i [] s5 _ H5 (fun _ _ => False) I5 (stat I5 n5) st5 stop
      refine thnF td fun r s6 ⟨hr, I6⟩ => ?_
      subst hr
      have I7 : Inv X pins σ H5 s6 := I3.call' (ch := fp) I6.os I6.base I6.hok I6.bare fun b hb => ⟨(f3 b hb).1.2.2.2.1, (f3 b hb).1.2.1, (f3 b hb).1.2.2.2.2.1, (f3 b hb).1.2.2.2.2.2⟩
      have nC : H5 s3.heap.objs.size = none := by
        have z : H5 ce.locals = none := I6.free
        rw [cL] at z
        exact z
      obtain ⟨m, hn, _⟩ := I6.loc
      have hn : s6.heap.Ns ce.locals m := hn
      obtain ⟨f0, f1, f2', f3', f4, f5⟩ := I3.fpOk (b := s3.heap.objs.size) (Nat.le_refl _) nC
      refine ⟨m, hn, fun h'' sb => ?_⟩
      rw [cL] at sb
      exact ⟨.ref D, H5, I7.turned (t' := s6.toks) (fun b o hb e => (sb.2 b hb).trans e) f0 f1 f3' f4 f5, rfl, qq⟩
    · have ti := T.item (X.blk s3 H3 scope ce fp) rfl rfl rfl hc i [] s5 _ H5 (fun _ _ => False) I5 (stat I5 n5) st5 go
      refine thnF ti fun r s6 ⟨u, hr, h6⟩ => ?_
      subst hr
      refine thnF h6 fun _ s7 ⟨x, H7, I7, r7, y7, st7, n7⟩ => ?_
      have I7' := I7.pinned (stat I7 n7) (T.obj _ _ st7)
      refine thnF (pg.run _ s7 _ H7 x u _ I7' r7 (step x H7 y7)) fun _ s8 ⟨σ8, H8, I8, hw8, q8⟩ => ?_
      refine thnF (pt.run _ s8 σ8 H8 _ I8 q8) fun b s9 ⟨H9, I9, q9⟩ => ?_
      have fin : ∀ {s' : Shared} {H' : Hp}, Inv (X.blk s3 H3 scope ce fp) ([] ++ pinsAt fp s7.heap) σ8 H' s' → Nx H' → ∃ m, m < n ∧ ∃ i H', Inv (X.blk s3 H3 scope ce fp) [] (wipe σ (own.map (·.2))) H' s' ∧ tn i s'.heap ∧ (∀ b ∈ fp, H' b = none) ∧ W i m H' := fun {s' H'} I' nx => by
        obtain ⟨m', hm, w'⟩ := hNx H' nx
        have pin' : ∀ b ∈ fp, ∀ o, s7.heap.get? b = some o → s'.heap.get? b = some o ∧ H' b = none := fun b hb o e =>
          let z := I'.pin (b, o) (List.mem_append_right _ (List.mem_append_right _ (mem_pinsAt hb e)))
          ⟨z.1, z.2.1⟩
        have hl : (wipe σ (own.map (·.2))).length = σ8.length := by rw [← hw8, wipe_length]
        refine ⟨m', hm, i + 1, H', (I'.unpinned (pins := [])).weak hl (fun j v e => ?_), T.keep _ _ _ st7 fun b hb o e => (pin' b hb o e).1, fun b hb => ?_, w'⟩
        · rw [← hw8] at e
          exact (wipe_some e).1
        · obtain ⟨o, e, _⟩ := T.obj _ _ st7 b hb
          exact (pin' b hb o e).2
      cases b with
      | false =>
        simp only [Bool.false_eq_true, if_false] at q9 ⊢
        exact fin I9 q9
      | true =>
        simp only [if_true] at q9 ⊢
        refine thn (pe.run _ s9 σ8 H9 _ (I9.wish _) q9) fun z s10 ⟨yv, H10, I10, r10, acc, hD10, hz10, nx⟩ => ?_
        exact thnF (app_ok (X := X.blk s3 H3 scope ce fp) (Q := fun _ s' => ∃ m, m < n ∧ ∃ i H', Inv (X.blk s3 H3 scope ce fp) [] (wipe σ (own.map (·.2))) H' s' ∧ tn i s'.heap ∧ (∀ b ∈ fp, H' b = none) ∧ W i m H') I10.unwish hD10 hz10 r10 fun s11 I11 => fin I11 nx) fun _ _ z => z
  exact codeAny_compStart_list loop (T.self X.A 0 _ _ _ st4 loop)
end
end DV
end
section
set_option Elab.async false
set_option linter.all false
set_option maxRecDepth 100000
set_option maxHeartbeats 4000000
/-! DV: expressions that may raise -/
namespace DV
open PySem PySem.Spec PyProof.Rows L2 Evl
def tDX (K : PySem.W.Frag) (cA : Xc → Addr) (E : XK) (env : List DV.Slot) (m : Option Rx) : TE := fun σ H Q => ∃ F0 H0 F r, EOk K F0 H0 σ F H env ∧ m = some r ∧
  (∀ d, r = .ok d → ∀ v F' H', Grow F H F' H' → Dv K F' v d → Q v H') ∧ (∀ c, r = .ex c → ∀ F' H', Grow F0 H0 F' H' → E (.ref (cA c)) none H')
abbrev DEX (X : Cx) (cA : Xc → Addr) (E : XK) (e : Expr) (env : List DV.Slot) (m : Option Rx) : Prop := PE X e (tDX X.K cA E env m)
/-- what comes behind an expression that may raise -/
def Rx.andThen (k : PyData → Option Rx) : Rx → Option Rx
  | .ok d => k d
  | .ex c => some (.ex c)
/-- the elements in turn, up to the first that raises -/
def compX (f : PyData → Option Rx) : List PyData → Option (Xc ⊕ List PyData)
  | [] => some (.inr [])
  | d :: r => (f d).bind fun x => match x with
    | .ex c => some (.inl c)
    | .ok y => (compX f r).map fun z => match z with
      | .inl c => .inl c
      | .inr ys => .inr (y :: ys)
def compXf : Xc ⊕ List PyData → Rx
  | .inl c => .ex c
  | .inr ys => .ok (.list ys)
def compXL (f : PyData → Option Rx) (ds : List PyData) : Option Rx := if szOk ds.length then (compX f ds).map compXf else none
section
variable {X : Cx} {cA : Xc → Addr} {E : XK} {env : List DV.Slot} {e c : Expr} {es : List Expr} {pos p px : Pos} {rest : List Stmt} {me : Option PyData} {ms : Option (List PyData)} {x : Str}
theorem pex_ex {κ : Sort _} {t : κ → TE} (h : ∀ a, PE X e (t a)) : PE X e (fun σ H Q => ∃ a, t a σ H Q) := ⟨fun pins s σ H Q I ⟨a, q⟩ => (h a).run pins s σ H Q I q⟩
/-- f(..), f a def that may raise -/
theorem dex_call {k n : Nat} {f : Addr} {fd : FuncData} {ps : List Str} {fm : List PyData → Option Rx} (G : FnOk X.prog X.w X.K X.mg X.base (L2.CX X.prog X.w) k f fd ps (spX X.K cA n fm)) (hr : Room k X.A) (hg : Gl X x) (hm : X.mg x = some (.ref f)) (hk : PySem.W.keepIn X.K (.ref f) = true) (hb : Binds X.K fd ps [])
    (hlen : ∀ ds d, fm ds = some d → ds.length = n) (hx : ∀ σ, PassesAt (L2.CX X.prog X.w) X σ E) (ha : DA X (e :: es) env ms) (hdb : (x == ("__debug__" : Str)) = false := by decide) (he : starEach (e :: es) X.env = (false, eval e X.env) :: starEach es X.env := by rfl) (hpl : (backTo pos (starEach es X.env)).any (·.1) = false := by rfl) :
    DEX X cA E (.Call (.Name x p) (e :: es) [] pos) env (ms.bind fm) := PE.mono (pe_callSD (E := fun _ => E) (dvs := []) G hr hg hm hk hb .nil hx ha hdb he hpl) fun σ H Q ⟨F0, H0, F, r, o, em, q1, q2⟩ => by
  obtain ⟨ds, hds, em⟩ := Option.bind_eq_some_iff.mp em
  refine ⟨F0, H0, F, ds, o, hds, fun vs F1 H1 g1 h1 => ?_⟩
  show spX X.K cA n fm (vs ++ []) H1 Q E
  rw [List.append_nil]
  exact ⟨F1, ds, r, by rw [dvAll_len h1]; exact hlen ds r em, g1.sub, h1, em, fun d e' v F2 H2 g2 h2 => q1 d e' v F2 H2 (g1.trans g2) h2, fun c e' F2 H2 g2 => q2 c e' F2 H2 (o.g.trans (g1.trans g2))⟩
theorem lc_readX (j : Nat) (hj : j < env.length) {ml : Option (List PyData)} {f : PyData → Option Rx} {σ : L2.St} {H : Hp} {Q : VK} (h : tDX X.K cA E env (ml.bind (compXL f)) σ H Q) :
    tLc (tI X.K env ml) (gName j) (fun σ H Q => ∃ d, tDT X.K (env.set j (.im d)) (some true) σ H Q) (fun σ H Q => ∃ d, tDX X.K cA E (env.set j (.im d)) (f d) σ H Q) [j] σ H Q := by
  obtain ⟨F0, H0, F, r, ok, em, q, qx⟩ := h
  obtain ⟨ds, hds, em⟩ := Option.bind_eq_some_iff.mp em
  unfold compXL at em
  split at em
  case isFalse => cases em
  rename_i hz
  obtain ⟨z0, hcm, hz0⟩ := Option.map_eq_some_iff.mp em
  refine ⟨F0, H0, F, ds, ok, hds, fun J F1 H1 g it D hD => ?_⟩
  have ok1 := ok.grow g
  have fD : F1 D = none := fresh_back g.sub hD
  refine ⟨fun i m H' => i + m = ds.length ∧ ∃ F' acc done z, Grow F1 H1 F' H' ∧ F' D = none ∧ H' D = some (.lst acc) ∧ DvAll X.K F' acc done ∧ done.length ≤ i ∧ compX f (ds.drop i) = some z ∧ (match z with | .inl c => Rx.ex c | .inr ys => Rx.ok (.list (done ++ ys))) = r,
    ⟨ds.length, by omega, F1, [], [], z0, Grow.newH g.sub hD, fD, upd_same, .nil, Nat.le_refl _, hcm, by cases z0 <;> exact hz0⟩, ?_⟩
  rintro i m H' ⟨hm, F', acc, done, z, g', fD', hD', hacc, hdl, hc, hres⟩
  have ok' := ok1.grow g'
  by_cases hlt : i < ds.length
  · have hget : ds[i]? = some ds[i] := List.getElem?_eq_getElem hlt
    obtain ⟨hgo, hyl⟩ := it.go i _ F' H' g'.ff g'.sub hget
    rw [List.drop_eq_getElem_cons hlt] at hc
    unfold compX at hc
    refine .inr ⟨hgo, fun H2 => ∃ m', m' < m ∧ (i + 1 + m' = ds.length ∧ ∃ F' acc done z, Grow F1 H1 F' H2 ∧ F' D = none ∧ H2 D = some (.lst acc) ∧ DvAll X.K F' acc done ∧ done.length ≤ i + 1 ∧ compX f (ds.drop (i + 1)) = some z ∧ (match z with | .inl c => Rx.ex c | .inr ys => Rx.ok (.list (done ++ ys))) = r), fun H2 h2 => h2, fun v H2 hy => ?_⟩
    obtain ⟨F2, g2, dv⟩ := hyl v H2 hy
    have e1 : (wipe σ [j]).set j (some v) = σ.set j (some v) := by
      show (σ.set j none).set j (some v) = _
      rw [List.set_set]
    have e2 : wipe ((wipe σ [j]).set j (some v)) [j] = wipe σ [j] := by
      show (((σ.set j none).set j (some v)).set j none) = σ.set j none
      rw [List.set_set, List.set_set]
    refine ⟨e2, ?_⟩
    rw [e1]
    have ok2 : EOk X.K F0 H0 (σ.set j (some v)) F2 H2 (env.set j (.im ds[i])) := (ok'.grow g2).set dv
    refine ⟨ds[i], F0, H0, F2, true, ok2, rfl, fun F3 H3 g3 => ?_⟩
    have g13 := (g'.trans g2).trans g3
    have fD3 : F3 D = none := (g2.trans g3).own D fD' (ne_none hD')
    have hD3 : H3 D = some (.lst acc) := (g2.trans g3).hh _ _ hD'
    obtain ⟨y, hyv, hc⟩ := Option.bind_eq_some_iff.mp hc
    refine ⟨ds[i], F0, H0, F3, y, ok2.grow g3, hyv, fun d' ey u F4 H4 g4 hu => ?_, fun c ey F4 H4 g4 => ?_⟩
    · subst ey
      obtain ⟨z', hz', ez⟩ := Option.map_eq_some_iff.mp hc
      have fD4 : F4 D = none := g4.own D fD3 (ne_none hD3)
      refine ⟨acc, g4.hh _ _ hD3, ?_, m - 1, by omega, by omega, F4, acc ++ [u], done ++ [d'], z', ?_, fD4, upd_same, ?_, ?_, hz', ?_⟩
      · rw [dvAll_len hacc]
        have : szOk done.length := Nat.le_trans hdl (Nat.le_trans (Nat.le_of_lt hlt) hz)
        exact this.lt
      · have g14 := g13.trans g4
        exact ⟨g14.ff, Ex.mut g14.hh hD, Ex.mut g14.sub fD4, g14.own⟩
      · exact dvAll_app (dvAll_mono ((g2.trans g3).trans g4).ff hacc) (.cons hu .nil)
      · rw [List.length_append]
        show done.length + 1 ≤ i + 1
        omega
      · rw [← ez] at hres
        cases z' with
        | inl c => exact hres
        | inr ys =>
          rw [← hres]
          simp
    · subst ey
      have hc : some (Sum.inl c) = some z := hc
      cases hc
      exact qx c hres.symm F4 H4 g4
  · have e : ds.drop i = [] := List.drop_eq_nil_of_le (by omega)
    rw [e] at hc
    cases hc
    simp only [List.append_nil] at hres
    refine .inl ⟨it.stop i F' H' g'.ff g'.sub (by omega), ?_⟩
    have ff : Ex F' (upd F' D (.lst acc)) := Ex.new fD'
    refine q _ hres.symm _ (upd F' D (.lst acc)) H' ⟨(g.ff.trans g'.ff).trans ff, g.hh.trans g'.hh, fun b u eb => ?_, fun b hb k => ?_⟩ (.lst upd_same (dvAll_mono ff hacc))
    · by_cases hbD : b = D
      · subst hbD
        rw [upd_same] at eb
        rw [← eb]
        exact hD'
      · rw [upd_ne hbD] at eb
        exact g'.sub b u eb
    · have nb : b ≠ D := fun z => Ex.nn g.hh k (by rw [z]; exact hD)
      rw [upd_ne nb]
      exact (g.trans g').own b hb k
/-- [elt for x in iter], the element may raise -/
theorem dex_lc (j : Nat) {iter elt : Expr} {scope : Scope} {ml : Option (List PyData)} {f : PyData → Option Rx} {env' : PyData → List DV.Slot} (hs0 : X.stack = X.env :: X.outer) (hf0 : X.env.frame = some X.env.locals) (tk : Takes X (fun cls d _ H => E cls d H)) (hc : X.calm = true) (hN : X.N.Nodup) (hi : DI X (.Name x px) iter env ml) (ok : BlkOk X.N X.env.scope scope [(x, j)])
    (hg : ∀ (s : Shared) (H : Hp) (C : Addr) (cl : List (Str × Addr)) (fp : List Addr), PG (X.blk s H scope (compEnvC scope cl C X.env) fp) (.Name x px) (gName j))
    (he : ∀ (d : PyData) (s : Shared) (H : Hp) (C : Addr) (cl : List (Str × Addr)) (fp : List Addr) (xe : Value → Shared → Prop), (∀ σ, PassesAt (L2.CX X.prog X.w) ((X.blk s H scope (compEnvC scope cl C X.env) fp).wish xe) σ E) → DEX ((X.blk s H scope (compEnvC scope cl C X.env) fp).wish xe) cA E elt (env' d) (f d))
    (hs : ∀ d, env.set j (.im d) = env' d := by intro _; rfl) (hj : j < env.length := by exact Nat.le_of_ble_eq_true rfl) (hfs : ∀ x, foldedSetIterable iter X.env x = pure x := by intro _; rfl) :
    DEX X cA E (.ListComp elt [⟨.Name x px, iter, [], 0⟩] scope pos) env (ml.bind (compXL f)) := by
  have e : env' = fun d => env.set j (.im d) := funext fun d => (hs d).symm
  subst e
  exact PE.mono (pe_lcX (own := [(x, j)]) hs0 hf0 tk hc hN hi ok hg (fun s H C cl fp => pts_ex fun d => dts_nil) (fun s H C cl fp xe hx => pex_ex fun d => he d s H C cl fp xe hx) hfs) fun σ H Q h => lc_readX j hj h
/-- T(e), e may raise -/
theorem dex_callTy {T : String} {r : List V → Hp → VK → Prop} {f : List PyData → Option PyData} {mx : Option Rx} (hc : CallR X (.type T) r) (hf : RCD X.K r f) (hg : Gl X x) (hm : X.mg x = none) (hv : bootBuiltins x = some (.type T)) (ha : DEX X cA E e env mx)
    (hdb : (x == ("__debug__" : Str)) = false := by decide) (hbl : x ≠ "__name__" := by decide) (hs : starEach [e] X.env = (false, eval e X.env) :: starEach [] X.env := by rfl) (hpl : (backTo pos (starEach [] X.env)).any (·.1) = false := by rfl) :
    DEX X cA E (.Call (.Name x p) [e] [] pos) env (mx.bind (Rx.andThen fun d => (f [d]).map Rx.ok)) := PE.mono (pe_callTy hc hg hm hv (pa_cons ha pa_nil hs) hbl hdb hs hpl) fun σ H Q ⟨F0, H0, F, r, o, em, q1, q2⟩ => by
  obtain ⟨y, hy, em⟩ := Option.bind_eq_some_iff.mp em
  refine ⟨F0, H0, F, y, o, hy, fun d ed v F1 H1 g1 h1 => ?_, fun c ec => ?_⟩
  · subst ed
    obtain ⟨d2, hd2, e2⟩ := Option.map_eq_some_iff.mp em
    exact hf [v] F1 H1 [d] d2 Q g1.sub (.cons h1 .nil) hd2 fun v2 F2 H2 g2 h2 => q1 d2 e2.symm v2 F2 H2 (g1.trans g2) h2
  · subst ec
    have em : some (Rx.ex c) = some r := em
    cases em
    exact q2 c rfl
/-- if c: x = e (e may raise); rest -/
theorem dx_ifX (i : Nat) {mc : Option Bool} {mx : Option Rx} {d0 : PyData} {k : PyData → Option Rx} {env' : PyData → List DV.Slot} {pos' pos2 : Pos} (hN : X.N.Nodup) (hx : Loc X.env.scope x) (hc : DT X c env mc) (he : DEX X cA E e env mx) (hr : ∀ d, DX X cA (fun cls d _ H => E cls d H) rest (env' d) (k d))
    (h0 : env = env' d0 := by rfl) (hs : ∀ d, env.set i (.im d) = env' d := by intro _; rfl) (hi : X.N[i]? = some x := by rfl) (hsw : swapsWith e (some (.Name x pos')) pos.line X.env = pure false := by rfl) (hf : X.fn x = true ∨ X.env.scope.names.lookup x = some .local := by first | exact .inl rfl | exact .inr rfl | assumption) :
    DX X cA (fun cls d _ H => E cls d H) (.If c [.Assign [.Name x pos'] e pos] [] pos2 :: rest) env (mc.bind fun b => if b = true then mx.bind (Rx.andThen k) else k d0) :=
  PSs.mono (pss_cons (ps_if hc (pss_one (ps_set (i := i) hN hi hx he hsw hf)) pss_nil) (pss_ex hr)) fun D σ H ⟨F0, H0, F, o, ok, em, q⟩ => by
    obtain ⟨b, hb, em⟩ := Option.bind_eq_some_iff.mp em
    refine ⟨F0, H0, F, b, ok, hb, fun F1 H1 g => ?_⟩
    have q1 : (wX X.K cA (fun cls d _ H => E cls d H)).run F0 H0 F1 D o := (wX X.K cA (fun cls d _ H => E cls d H)).mono g.ff q
    cases b with
    | true =>
      have em : mx.bind (Rx.andThen k) = some o := em
      obtain ⟨r, hr', em⟩ := Option.bind_eq_some_iff.mp em
      refine ⟨F0, H0, F1, r, ok.grow g, hr', fun d ed v F2 H2 g2 h2 => ?_, fun c' ec F2 H2 g2 => ?_⟩
      · subst ed
        refine ⟨d, F0, H0, F2, o, ?_, em, ?_⟩
        · rw [← hs]
          exact ((ok.grow g).grow g2).set h2
        · exact (wX X.K cA (fun cls d _ H => E cls d H)).mono g2.ff q1
      · subst ec
        have em : some (Rx.ex c') = some o := em
        cases em
        exact q σ F2 H2 g2
    | false =>
      refine ⟨d0, F0, H0, F1, o, ?_, em, q1⟩
      rw [← h0]
      exact ok.grow g
/-- try: x = f(..) / except y as nm: suite, the suite returns; rest -/
def tryMV (sub : Xc → Bool) (m0 : PyData → Option PyData) (ms : Xc → Option PyData) : Rx → Option PyData
  | .ok d => m0 d
  | .ex c => if sub c = true then ms c else none
theorem dr_try_asV (i j : Nat) {k n : Nat} {f : Addr} {fd : FuncData} {ps : List Str} {fm : List PyData → Option Rx} {f0 y nm : Str} {C : Addr} {b₀ : Stmt} {suite : List Stmt} {p1 np pos' pv : Pos} {apos : Pos} {sub : Xc → Bool} {m0 : PyData → Option PyData} {msu : Xc → Option PyData} {env' : Addr → List DV.Slot} {envr : PyData → List DV.Slot}
    (hs : X.stack = X.env :: X.outer) (hf : X.env.frame = some X.env.locals) (hN : X.N.Nodup) (hc : Names X y (.ref C)) (hsub : ∀ c, PySem.W.exmOne X.K (.ref (cA c)) (.ref C) = some (sub c))
    (G : FnOk X.prog X.w X.K X.mg X.base (L2.CX X.prog X.w) k f fd ps (spX X.K cA n fm)) (hr : Room k X.A) (hg : Gl X f0) (hm : X.mg f0 = some (.ref f)) (hk : PySem.W.keepIn X.K (.ref f) = true) (hb : Binds X.K fd ps [])
    (hlen : ∀ ds d, fm ds = some d → ds.length = n) (ha : ∀ (pn : List (Addr × Obj)) (xe : Value → Shared → Prop), DA (X.tr pn xe) (e :: es) env ms)
    (hsu : ∀ (c : Xc) (a : Addr) (oe : Obj) (pn : List (Addr × Obj)), Zc (.ref (cA c)) none oe → (∃ vs, oe.data = .fields vs) → DR (X.suite a ((a, oe) :: pn)) (b₀ :: suite) (env' a) (msu c)) (hx : Loc X.env.scope x) (hrest : ∀ d, DR X rest (envr d) (m0 d))
    (hi : X.N[i]? = some nm := by rfl) (hln : X.env.kindOf nm = some .local := by rfl) (hse : ∀ a, env.set i (.pin (.ref a)) = env' a := by intro _; rfl) (hj : X.N[j]? = some x := by rfl) (hsr : ∀ d, env.set j (.im d) = envr d := by intro _; rfl)
    (hdb : (f0 == ("__debug__" : Str)) = false := by decide) (he : starEach (e :: es) X.env = (false, eval e X.env) :: starEach es X.env := by rfl) (hpl : (backTo p1 (starEach es X.env)).any (·.1) = false := by rfl)
    (hsw : swapsWith (.Call (.Name f0 p) (e :: es) [] p1) (some (.Name x pv)) apos.line X.env = pure false := by rfl) (hfx : X.fn x = true ∨ X.env.scope.names.lookup x = some .local := by first | exact .inl rfl | exact .inr rfl | assumption) :
    DR X (.Try [.Assign [.Name x pv] (.Call (.Name f0 p) (e :: es) [] p1) apos] [.ExceptHandler (some (.Name y np)) (some nm) (b₀ :: suite) pos'] [] [] pos :: rest) env (ms.bind fun ds => (fm ds).bind (tryMV sub m0 msu)) := by
  refine PSs.mono (pss_cons (ps_try_as (i := i) (Wout := fun _ _ _ _ => False) (ts := fun a cls d D σ H => ∃ c, cls = .ref (cA c) ∧ d = none ∧ tG X.K (wR X.K) (env' a) (msu c) D σ H) hs hf hN hi hln hc takes0
    (fun W pn xe tk po => pss_one (ps_set (X := X.tr pn xe) (i := j) hN hj hx (pe_callS (X := X.tr pn xe) (E := WE W) G hr hg hm hk hb (fun σ => passAt tk σ) (show PA (X.tr pn xe) (e :: es) (tDs X.K env ms) from ha pn xe) hdb he hpl) hsw hfx))
    (fun a oe cls d pn hz hfl => ⟨fun pins s σ H D I ⟨c, e1, e2, q⟩ => by
      subst e1
      subst e2
      exact (hsu c a oe pn hz hfl).run pins s σ H D I q⟩)) (pss_ex hrest)) fun D σ H ⟨F0, H0, F, d, ok, em, q⟩ => ?_
  obtain ⟨ds, hds, em⟩ := Option.bind_eq_some_iff.mp em
  obtain ⟨r, hr', em⟩ := Option.bind_eq_some_iff.mp em
  refine ⟨F0, H0, F, ds, ok, hds, fun vs F1 H1 g1 h1 => ⟨F1, ds, r, by rw [dvAll_len h1]; exact hlen ds r hr', g1.sub, h1, hr', fun d' e' v F2 H2 g2 h2 => ?_, fun c e' F2 H2 g2 => ?_⟩⟩
  · subst e'
    refine ⟨d', F0, H0, F2, d, ?_, em, q⟩
    rw [← hsr]
    exact (ok.grow (g1.trans g2)).set h2
  · subst e'
    have em : (if sub c = true then msu c else none) = some d := em
    refine ⟨sub c, hsub c, fun hb a na => ?_, fun hb => ?_⟩
    · rw [if_pos hb] at em
      refine ⟨c, rfl, rfl, F0, H0, F2, d, ?_, em, q⟩
      rw [← hse]
      exact (ok.grow (g1.trans g2)).setNew (s' := .pin (.ref a)) (Grow.refl g2.sub) rfl fun _ z => z.elim
    · rw [hb] at em
      cases em
end
/-! ### s.index(y), y is there -/
def pIndexS : PyData → PyData → Option PyData
  | .str a, .str b => (Txt.index0 a b).map fun k => .int (k : Nat)
  | _, _ => none
theorem mt_indexS {X : Cx} : MtR X "str.index" (fun x xs H Q => ∃ (a b : Str) (k : Nat), x = .str a ∧ xs = [.str b] ∧ Txt.index0 a b = some k ∧ Q (.int (k : Nat)) H) := by
  intro pins s σ H x xs v us Q I rx rs h
  obtain ⟨a, b, k, rfl, rfl, hk, w⟩ := h
  obtain ⟨t, rfl⟩ := rx
  cases rs with
  | cons r1 rs =>
    cases rs
    obtain ⟨u, rfl⟩ := r1
    cases q : Builtin.Str.occurrences a b 0 a.length 1 with
    | nil =>
      unfold Txt.index0 at hk
      rw [q] at hk
      cases hk
    | cons k' rest =>
      unfold Txt.index0 at hk
      rw [q] at hk
      cases hk
      exact PySem.SC.index q ⟨.int (k : Nat), H, I.tok _, ⟨_, rfl⟩, w⟩
theorem de_indexS {X : Cx} {env : List DV.Slot} {a b : Expr} {pos apos : Pos} {ma mb : Option PyData} (ha : DE X a env ma) (hb : DE X b env mb) (hs : starEach [b] X.env = [(false, eval b X.env)] := by rfl) (hbase : attributeBase a "index" X.env (eval a X.env) = eval a X.env := by rfl) (hline : (apos.endLine == pos.line) = true := by rfl) :
    DE X (.Call (.Attribute a "index" apos) [b] [] pos) env (ma.bind fun x => mb.bind fun y => pIndexS x y) := PE.mono (pe_m1 PySem.F.slot_str_index PySem.F.type_str_index mt_indexS ha hb hs hbase hline) fun σ H Q ⟨F0, H0, F, d, o, em, q⟩ => by
  obtain ⟨x, hx, em1⟩ := Option.bind_eq_some_iff.mp em
  obtain ⟨y, hy, em2⟩ := Option.bind_eq_some_iff.mp em1
  cases x with
  | str z =>
    cases y with
    | str y =>
      have em2 : (Txt.index0 z y).map (fun k => PyData.int (k : Nat)) = some d := em2
      obtain ⟨k, hk, ek⟩ := Option.map_eq_some_iff.mp em2
      subst ek
      refine ⟨F0, H0, F, _, o, hx, fun v F1 H1 g1 h1 => ?_⟩
      rw [dv_str h1]
      refine ⟨⟨_, rfl⟩, F0, H0, F1, _, o.grow g1, hy, fun u F2 H2 g2 h2 => ?_⟩
      rw [dv_str h2]
      exact ⟨z, y, k, rfl, rfl, hk, q _ F2 H2 (g1.trans g2) (.int _)⟩
    | _ => cases em2
  | _ => cases em2
end DV
end
section
set_option Elab.async false
set_option linter.all false
set_option maxRecDepth 100000
set_option maxHeartbeats 4000000
namespace Mir
open PySem PySem.Spec PyProof.Rows L2 DV
def m_is_number (thing low high : PyData) : Option PyData :=
  (((some thing).bind (pIsI "int")).bind fun x => (asB x).bind fun c => if c = true then ((((some thing).bind (pIsI "bool")).bind fun x => (asB x).bind fun c => some (.bool (!c))).bind fun x => (asB x).bind fun c => if c = true then ((some low).bind fun x => (some thing).bind fun y => (pLe x y).bind fun z => (asB z).bind fun k => if k = true then ((some high).bind fun w => pLe y w) else some (.bool false)) else some (.bool false)) else some (.bool false))
def m_is_word (thing many : PyData) : Option PyData :=
  (((((some thing).bind (pIsI "tuple")).bind asB).bind fun c => some (!c)).bind fun b => if b = true then (some (PyData.bool false)) else (((((some thing).bind itemsOf).bind (compL (fun part_1 => (some true)) (fun part_1 => ((((some part_1).bind fun d => (((some (PyData.int 1)).bind fun x => (some many).bind fun y => pSub x y).bind fun d => (((some many).bind fun x => (some (PyData.int 1)).bind fun y => pSub x y).bind fun d => (some []).bind fun ds => some (d :: ds)).bind fun ds => some (d :: ds)).bind fun ds => some (d :: ds)).bind (ap3 m_is_number)).bind fun x => (asB x).bind fun c => if c = true then ((some part_1).bind fun x => (some (PyData.int 0)).bind fun y => pNe x y) else some (.bool false))))).bind fun d => (some []).bind fun ds => some (d :: ds)).bind pAll))
def m_is_order (thing many : PyData) : Option PyData :=
  ((((((some thing).bind (pIsI "tuple")).bind asB).bind fun c => some (!c)).bind fun c => if c = true then some true else ((((some thing).bind fun d => (some []).bind fun ds => some (d :: ds)).bind pLen).bind fun x => (some many).bind fun y => (pNe x y).bind asB)).bind fun b => if b = true then (some (PyData.bool false)) else ((((((some thing).bind itemsOf).bind (compL (fun part_1 => (some true)) (fun part_1 => (((some part_1).bind fun d => ((some (PyData.int 1)).bind fun d => ((some many).bind fun d => (some []).bind fun ds => some (d :: ds)).bind fun ds => some (d :: ds)).bind fun ds => some (d :: ds)).bind (ap3 m_is_number))))).bind fun d => (some []).bind fun ds => some (d :: ds)).bind pAll).bind fun x => (asB x).bind fun c => if c = true then (((some thing).bind pLenSet).bind fun x => (some many).bind fun y => pEq x y) else some (.bool false)))
def m_rest (many : PyData) : Option PyData :=
  (((some (PyData.int 1)).bind fun d => ((some many).bind fun x => (some (PyData.int 1)).bind fun y => pAdd x y).bind fun e => (asI d).bind fun i => (asI e).map fun j => (i, j)).bind fun ab => if rgSmall ab then some (.tuple (rgD ab.1 ab.2)) else none)
def m_full (many : PyData) : Option PyData :=
  ((((some many).bind fun d => (some []).bind fun ds => some (d :: ds)).bind (ap1 m_rest)).bind pRev)
def m_crossed_ahead (order k : PyData) : Option PyData :=
  ((((some order).bind fun d => (some none).bind fun l => (((some k).bind fun x => (some (PyData.int 1)).bind fun y => pSub x y).bind fun d => (asI d).map some).bind fun h => pCut d l h).bind fun x => ((((some order).bind fun x => (some k).bind fun y => pIdx x y).bind fun d => (((some order).bind fun x => ((some k).bind fun x => (some (PyData.int 1)).bind fun y => pSub x y).bind fun y => pIdx x y).bind fun d => (some []).bind fun ds => some (d :: ds)).bind fun ds => some (d :: ds)).bind mkTup).bind fun y => pAdd x y).bind fun x => ((some order).bind fun d => (((some k).bind fun x => (some (PyData.int 1)).bind fun y => pAdd x y).bind fun d => (asI d).map some).bind fun l => (some none).bind fun h => pCut d l h).bind fun y => pAdd x y)
def m_crossed_behind (order k : PyData) : Option PyData :=
  ((some k).bind fun a => ((some k).bind fun x => (some (PyData.int 1)).bind fun y => pAdd x y).bind fun b => ((some k).bind fun x => (some (PyData.int 1)).bind fun y => pAdd x y).bind fun c => (some k).bind fun d => (asI a).bind fun i => (asI c).bind fun j => (fun (moved_1 : List (Key × PyData)) => (((((some order).bind itemsOf).bind (compL (fun place_2 => (some true)) (fun place_2 => ((some place_2).bind fun y => (some place_2).bind fun z => (asI y).map fun k => (valD moved_1 (Sum.inl k)).getD z)))).bind fun d => (some []).bind fun ds => some (d :: ds)).bind pTuple)) (putD (putD [] (Sum.inl i) b) (Sum.inl j) d))
def m_way_back (order : PyData) : Option PyData :=
  (((((((((some order).bind fun d => (some []).bind fun ds => some (d :: ds)).bind pLen).bind fun d => (some []).bind fun ds => some (d :: ds)).bind (ap1 m_rest)).bind itemsOf).bind (compL (fun place_1 => (some true)) (fun place_1 => (((some order).bind fun t => (some place_1).bind fun d => pIndex t d).bind fun x => (some (PyData.int 1)).bind fun y => pAdd x y)))).bind fun d => (some []).bind fun ds => some (d :: ds)).bind pTuple)
def m_begins_with (order : PyData) : Option PyData :=
  ((((some (PyData.int 1)).bind fun d => ((((some order).bind fun d => (some []).bind fun ds => some (d :: ds)).bind pLen).bind fun d => (some []).bind fun ds => some (d :: ds)).bind fun ds => some (d :: ds)).bind fun ds => if ds.length = 2 then pRange ds else none).bind (compL (fun k_1 => (((some order).bind fun x => ((some k_1).bind fun x => (some (PyData.int 1)).bind fun y => pSub x y).bind fun y => pIdx x y).bind fun x => ((some order).bind fun x => (some k_1).bind fun y => pIdx x y).bind fun y => (pGt x y).bind asB)) (fun k_1 => (some k_1))))
def m_ends_with (order : PyData) : Option PyData :=
  (((((some order).bind fun d => (some []).bind fun ds => some (d :: ds)).bind (ap1 m_way_back)).bind fun d => (some []).bind fun ds => some (d :: ds)).bind (ap1 m_begins_with))
def m_fits (one other : PyData) : Option PyData :=
  ((((some one).bind fun d => (some []).bind fun ds => some (d :: ds)).bind (ap1 m_ends_with)).bind fun ends_1 => (((((((some other).bind fun d => (some []).bind fun ds => some (d :: ds)).bind (ap1 m_begins_with)).bind itemsOf).bind (compL (fun k_2 => (some true)) (fun k_2 => ((some k_2).bind fun x => (some ends_1).bind fun y => pIn x y)))).bind fun d => (some []).bind fun ds => some (d :: ds)).bind pAll))
def m_is_part (thing many : PyData) : Option PyData :=
  ((((some thing).bind fun d => ((some many).bind fun d => (some []).bind fun ds => some (d :: ds)).bind fun ds => some (d :: ds)).bind (ap2 m_is_order)).bind fun x => (asB x).bind fun c => if c = true then ((some thing).bind fun x => (((((some many).bind fun d => (some []).bind fun ds => some (d :: ds)).bind (ap1 m_rest)).bind fun d => ((((some many).bind fun d => (some []).bind fun ds => some (d :: ds)).bind (ap1 m_full)).bind fun d => (some []).bind fun ds => some (d :: ds)).bind fun ds => some (d :: ds)).bind mkTup).bind fun y => pNotIn x y) else some (.bool false))
def m_is_plain (thing many : PyData) : Option PyData :=
  ((((((some thing).bind (pIsI "tuple")).bind asB).bind fun c => some (!c)).bind fun c => if c = true then some true else (((((some thing).bind fun d => (some []).bind fun ds => some (d :: ds)).bind pLen).bind fun x => (some (PyData.int 2)).bind fun y => (pNe x y).bind asB).bind fun c => if c = true then some true else ((((((some thing).bind fun x => (some (PyData.int 0)).bind fun y => pIdx x y).bind (pIsI "int")).bind asB).bind fun c => some (!c)).bind fun c => if c = true then some true else ((((some thing).bind fun x => (some (PyData.int 0)).bind fun y => pIdx x y).bind (pIsI "bool")).bind asB)))).bind fun b => if b = true then (some (PyData.bool false)) else (((((((some thing).bind fun x => (some (PyData.int 1)).bind fun y => pIdx x y).bind (pIsI "tuple")).bind asB).bind fun c => some (!c)).bind fun c => if c = true then some true else ((((((((some thing).bind fun x => (some (PyData.int 1)).bind fun y => pIdx x y).bind itemsOf).bind (compL (fun part_1 => (some true)) (fun part_1 => (((some part_1).bind fun d => ((some many).bind fun d => (some []).bind fun ds => some (d :: ds)).bind fun ds => some (d :: ds)).bind (ap2 m_is_part))))).bind fun d => (some []).bind fun ds => some (d :: ds)).bind pAll).bind asB).bind fun c => some (!c))).bind fun b => if b = true then (some (PyData.bool false)) else ((((((((some thing).bind fun x => (some (PyData.int 1)).bind fun y => pIdx x y).bind fun d => (some none).bind fun l => (((some (PyData.int 1)).bind pNeg).bind fun d => (asI d).map some).bind fun h => pCut d l h).bind fun d => ((((some thing).bind fun x => (some (PyData.int 1)).bind fun y => pIdx x y).bind fun d => ((some (PyData.int 1)).bind fun d => (asI d).map some).bind fun l => (some none).bind fun h => pCut d l h).bind fun d => (some []).bind fun ds => some (d :: ds)).bind fun ds => some (d :: ds)).bind pZip).bind (compL (compT asPair fun ab => (fun one_2 other_3 => (some true)) ab.1 ab.2) (compF asPair fun ab => (fun one_2 other_3 => (((some one_2).bind fun d => ((some other_3).bind fun d => (some []).bind fun ds => some (d :: ds)).bind fun ds => some (d :: ds)).bind (ap2 m_fits))) ab.1 ab.2))).bind fun d => (some []).bind fun ds => some (d :: ds)).bind pAll)))
def m_weighted (one other : PyData) : Option PyData :=
  ((((((some other).bind fun d => (some []).bind fun ds => some (d :: ds)).bind (ap1 m_begins_with)).bind itemsOf).bind (compL (fun k_2 => ((some k_2).bind fun x => (((some one).bind fun d => (some []).bind fun ds => some (d :: ds)).bind (ap1 m_ends_with)).bind fun y => (pNotIn x y).bind asB)) (fun k_2 => (some k_2)))).bind fun some__1 => ((whileN (fun (st_3 : PyData × PyData × PyData) => ((((some st_3.2.2).bind fun d => (some []).bind fun ds => some (d :: ds)).bind pLen).bind fun x => (some (PyData.int 0)).bind fun y => (pGt x y).bind asB)) (fun (st_3 : PyData × PyData × PyData) => ((((some st_3.1).bind fun d => (((some st_3.2.2).bind fun x => (some (PyData.int 0)).bind fun y => pIdx x y).bind fun d => (some []).bind fun ds => some (d :: ds)).bind fun ds => some (d :: ds)).bind (ap2 m_crossed_behind)).bind fun one_4 => ((((some st_3.2.1).bind fun d => (((some st_3.2.2).bind fun x => (some (PyData.int 0)).bind fun y => pIdx x y).bind fun d => (some []).bind fun ds => some (d :: ds)).bind fun ds => some (d :: ds)).bind (ap2 m_crossed_ahead)).bind fun other_5 => ((((((some other_5).bind fun d => (some []).bind fun ds => some (d :: ds)).bind (ap1 m_begins_with)).bind itemsOf).bind (compL (fun k_7 => ((some k_7).bind fun x => (((some one_4).bind fun d => (some []).bind fun ds => some (d :: ds)).bind (ap1 m_ends_with)).bind fun y => (pNotIn x y).bind asB)) (fun k_7 => (some k_7)))).bind fun some__6 => (some (one_4, other_5, some__6)))))) 1000 (one, other, some__1)).bind fun st_3 => (((some st_3.1).bind fun d => ((some st_3.2.1).bind fun d => (some []).bind fun ds => some (d :: ds)).bind fun ds => some (d :: ds)).bind mkTup)))
def m_mirrored_order (order : PyData) : Option PyData :=
  ((((some order).bind fun d => (some []).bind fun ds => some (d :: ds)).bind pLen).bind fun many_1 => ((((((some order).bind pRev).bind itemsOf).bind (compL (fun place_2 => (some true)) (fun place_2 => (((some many_1).bind fun x => (some (PyData.int 1)).bind fun y => pAdd x y).bind fun x => (some place_2).bind fun y => pSub x y)))).bind fun d => (some []).bind fun ds => some (d :: ds)).bind pTuple))
def m_with_order (parts order : PyData) : Option PyData :=
  (((some parts).bind fun x => (((some order).bind fun d => (some []).bind fun ds => some (d :: ds)).bind mkLst).bind fun y => pCatL x y).bind fun found_1 => ((((((((some (.list found_1)).bind fun d => (some []).bind fun ds => some (d :: ds)).bind pLen).bind scalar).bind fun x => (some (PyData.int 1)).bind fun y => pSub x y).bind fun d => (asI d).map fun i => (0, i)).bind fun ab => if rgSmall ab then some (rgD ab.1 ab.2).reverse else none).bind fun ds => (ds.foldlM (fun (st_2 : List PyData) at__3 => (((((some at__3).bind fun y => pIdx (.list st_2) y).bind fun d => ((((some at__3).bind fun x => (some (PyData.int 1)).bind fun y => pAdd x y).bind fun y => pIdx (.list st_2) y).bind fun d => (some []).bind fun ds => some (d :: ds)).bind fun ds => some (d :: ds)).bind (ap2 m_weighted)).bind fun r => (asPair r).bind fun ab => (some at__3).bind fun i1 => (ixD st_2 i1).bind fun j1 => ((some at__3).bind fun x => (some (PyData.int 1)).bind fun y => pAdd x y).bind fun i2 => (ixD st_2 i2).bind fun j2 => (fun found_4 => (some found_4)) ((st_2.set j1 ab.1).set j2 ab.2))) found_1).bind fun st_2 => (some (.list st_2))))
def m_stripped (times parts many : PyData) : Option PyData :=
  ((((((some parts).bind itemsOf).bind (compL (fun order_2 => ((some order_2).bind fun x => (((some many).bind fun d => (some []).bind fun ds => some (d :: ds)).bind (ap1 m_full)).bind fun y => (pEq x y).bind asB)) (fun order_2 => (some order_2)))).bind fun d => (some []).bind fun ds => some (d :: ds)).bind pLen).bind fun more_1 => ((((some parts).bind itemsOf).bind (compL (fun order_4 => ((some order_4).bind fun x => (((((some many).bind fun d => (some []).bind fun ds => some (d :: ds)).bind (ap1 m_rest)).bind fun d => ((((some many).bind fun d => (some []).bind fun ds => some (d :: ds)).bind (ap1 m_full)).bind fun d => (some []).bind fun ds => some (d :: ds)).bind fun ds => some (d :: ds)).bind mkTup).bind fun y => (pNotIn x y).bind asB)) (fun order_4 => (some order_4)))).bind fun left_3 => ((((some times).bind fun x => (some more_1).bind fun y => pAdd x y).bind fun d => ((some left_3).bind fun d => (some []).bind fun ds => some (d :: ds)).bind fun ds => some (d :: ds)).bind mkTup)))
def m_plain (word many : PyData) : Option PyData :=
  ((some (PyData.int 0)).bind fun times_1 => (((some []).bind mkLst).bind fun parts_2 => (((some word).bind itemsOf).bind fun ds => (ds.foldlM (fun (st_3 : PyData × PyData) part_4 => ((((((some many).bind fun d => (some []).bind fun ds => some (d :: ds)).bind (ap1 m_rest)).bind fun d => ((((some part_4).bind fun d => (some []).bind fun ds => some (d :: ds)).bind pAbs).bind fun d => (some []).bind fun ds => some (d :: ds)).bind fun ds => some (d :: ds)).bind (ap2 m_crossed_behind)).bind fun order_5 => (((some part_4).bind fun x => (some (PyData.int 0)).bind fun y => (pLt x y).bind asB).bind fun b => (if b = true then (((some st_3.1).bind fun x => (some (PyData.int 1)).bind fun y => pSub x y).bind fun times_7 => ((((some st_3.2).bind itemsOf).bind (compL (fun one_9 => (some true)) (fun one_9 => (((some one_9).bind fun d => (some []).bind fun ds => some (d :: ds)).bind (ap1 m_mirrored_order))))).bind fun parts_8 => ((((((some many).bind fun d => (some []).bind fun ds => some (d :: ds)).bind (ap1 m_full)).bind fun d => (((some part_4).bind pNeg).bind fun d => (some []).bind fun ds => some (d :: ds)).bind fun ds => some (d :: ds)).bind (ap2 m_crossed_behind)).bind fun order_10 => (some (times_7, parts_8, order_10))))) else (some (st_3.1, st_3.2, order_5))).bind fun (st_6 : PyData × PyData × PyData) => ((((some st_6.1).bind fun d => ((((some st_6.2.1).bind fun d => ((some st_6.2.2).bind fun d => (some []).bind fun ds => some (d :: ds)).bind fun ds => some (d :: ds)).bind (ap2 m_with_order)).bind fun d => ((some many).bind fun d => (some []).bind fun ds => some (d :: ds)).bind fun ds => some (d :: ds)).bind fun ds => some (d :: ds)).bind (ap3 m_stripped)).bind fun r => (asPair r).bind fun ab => (fun times_11 parts_12 => (some (times_11, parts_12))) ab.1 ab.2)))) (times_1, parts_2)).bind fun st_3 => (((some st_3.1).bind fun d => ((((some st_3.2).bind fun d => (some []).bind fun ds => some (d :: ds)).bind pTuple).bind fun d => (some []).bind fun ds => some (d :: ds)).bind fun ds => some (d :: ds)).bind mkTup))))
def m_law_cell_at (script k : PyData) : Option PyData :=
  (((some k).bind fun x => (((some script).bind fun d => (some []).bind fun ds => some (d :: ds)).bind pLen).bind fun y => (pLt x y).bind asB).bind fun b => if b = true then ((some script).bind fun x => (some k).bind fun y => pIdx x y) else (some (PyData.int 0)))
def m_law_mixed (script k : PyData) : Option PyData :=
  ((((((((some script).bind fun d => ((some k).bind fun d => (some []).bind fun ds => some (d :: ds)).bind fun ds => some (d :: ds)).bind (ap2 m_law_cell_at)).bind fun x => ((some (PyData.int 7919)).bind fun x => (some k).bind fun y => pMul x y).bind fun y => pAdd x y).bind fun x => (some (PyData.int 1)).bind fun y => pAdd x y).bind fun x => (some (PyData.int 48271)).bind fun y => pMul x y).bind fun x => (some (PyData.int 2147483647)).bind fun y => pMod x y).bind fun drawn_1 => (((((some drawn_1).bind fun x => (some drawn_1).bind fun y => pMul x y).bind fun x => ((some (PyData.int 7)).bind fun x => (some drawn_1).bind fun y => pMul x y).bind fun y => pAdd x y).bind fun x => (some k).bind fun y => pAdd x y).bind fun x => (some (PyData.int 2147483629)).bind fun y => pMod x y))
def m_law_drawn (number k : PyData) : Option PyData :=
  ((((((some number).bind fun x => ((some (PyData.int 104729)).bind fun x => (some k).bind fun y => pMul x y).bind fun y => pAdd x y).bind fun x => (some (PyData.int 17)).bind fun y => pAdd x y).bind fun x => (some (PyData.int 69621)).bind fun y => pMul x y).bind fun x => (some (PyData.int 2147483647)).bind fun y => pMod x y).bind fun drawn_1 => (((((some drawn_1).bind fun x => (some drawn_1).bind fun y => pMul x y).bind fun x => ((some (PyData.int 3)).bind fun x => (some drawn_1).bind fun y => pMul x y).bind fun y => pAdd x y).bind fun x => (some k).bind fun y => pAdd x y).bind fun x => (some (PyData.int 2147483629)).bind fun y => pMod x y))
def m_law_word (number many most : PyData) : Option PyData :=
  (((some []).bind mkTup).bind fun found_1 => (((((some number).bind fun x => ((some most).bind fun x => (some (PyData.int 1)).bind fun y => pAdd x y).bind fun y => pMod x y).bind fun d => (some []).bind fun ds => some (d :: ds)).bind fun ds => if ds.length = 1 then pRange ds else none).bind fun ds => (ds.foldlM (fun (st_2 : PyData) k_3 => ((((some number).bind fun d => ((some k_3).bind fun d => (some []).bind fun ds => some (d :: ds)).bind fun ds => some (d :: ds)).bind (ap2 m_law_drawn)).bind fun drawn_4 => (((some st_2).bind fun x => (((((some (PyData.int 1)).bind fun x => ((some drawn_4).bind fun x => ((some many).bind fun x => (some (PyData.int 1)).bind fun y => pSub x y).bind fun y => pMod x y).bind fun y => pAdd x y).bind fun x => ((some (PyData.int 1)).bind fun x => ((((some drawn_4).bind fun x => (some (PyData.int 7)).bind fun y => pFdiv x y).bind fun x => (some (PyData.int 2)).bind fun y => pMod x y).bind fun x => (some (PyData.int 2)).bind fun y => pMul x y).bind fun y => pSub x y).bind fun y => pMul x y).bind fun d => (some []).bind fun ds => some (d :: ds)).bind mkTup).bind fun y => pAdd x y).bind fun found_5 => (some found_5)))) found_1).bind fun st_2 => (some st_2)))
def m_law_number (thing low high : PyData) : Option PyData :=
  (((some thing).bind (pIsI "int")).bind fun x => (asB x).bind fun c => if c = true then ((((some thing).bind (pIsI "bool")).bind fun x => (asB x).bind fun c => some (.bool (!c))).bind fun x => (asB x).bind fun c => if c = true then ((some low).bind fun x => (some thing).bind fun y => (pLe x y).bind fun z => (asB z).bind fun k => if k = true then ((some high).bind fun w => pLe y w) else some (.bool false)) else some (.bool false)) else some (.bool false))
def m_law_is_word (thing many : PyData) : Option PyData :=
  (((((some thing).bind (pIsI "tuple")).bind asB).bind fun c => some (!c)).bind fun b => if b = true then (some (PyData.bool false)) else ((((some thing).bind itemsOf).bind (compL (fun part_1 => ((((((some part_1).bind fun d => (((some (PyData.int 1)).bind fun x => (some many).bind fun y => pSub x y).bind fun d => (((some many).bind fun x => (some (PyData.int 1)).bind fun y => pSub x y).bind fun d => (some []).bind fun ds => some (d :: ds)).bind fun ds => some (d :: ds)).bind fun ds => some (d :: ds)).bind (ap3 m_law_number)).bind asB).bind fun c => some (!c)).bind fun c => if c = true then some true else ((some part_1).bind fun x => (some (PyData.int 0)).bind fun y => (pEq x y).bind asB))) (fun part_1 => (some part_1)))).bind fun x => ((some []).bind mkLst).bind fun y => pEq x y))
def m_law_is_order (thing many : PyData) : Option PyData :=
  ((((((some thing).bind (pIsI "tuple")).bind asB).bind fun c => some (!c)).bind fun c => if c = true then some true else ((((some thing).bind fun d => (some []).bind fun ds => some (d :: ds)).bind pLen).bind fun x => (some many).bind fun y => (pNe x y).bind asB)).bind fun b => if b = true then (some (PyData.bool false)) else (((((some thing).bind itemsOf).bind (compL (fun part_1 => (((((some part_1).bind fun d => ((some (PyData.int 1)).bind fun d => ((some many).bind fun d => (some []).bind fun ds => some (d :: ds)).bind fun ds => some (d :: ds)).bind fun ds => some (d :: ds)).bind (ap3 m_law_number)).bind asB).bind fun c => some (!c))) (fun part_1 => (some part_1)))).bind fun x => ((some []).bind mkLst).bind fun y => (pNe x y).bind asB).bind fun b => if b = true then (some (PyData.bool false)) else ((((some thing).bind fun d => (some []).bind fun ds => some (d :: ds)).bind pSorted).bind fun x => (((some (PyData.int 1)).bind fun d => ((some many).bind fun x => (some (PyData.int 1)).bind fun y => pAdd x y).bind fun e => (asI d).bind fun i => (asI e).map fun j => (i, j)).bind fun ab => if rgSmall ab then some (.list (rgD ab.1 ab.2)) else none).bind fun y => pEq x y)))
def m_law_ends (order : PyData) : Option PyData :=
  (((((some (PyData.int 1)).bind fun d => (((((some order).bind fun d => (some []).bind fun ds => some (d :: ds)).bind pLen).bind fun x => (some (PyData.int 1)).bind fun y => pAdd x y).bind fun d => (some []).bind fun ds => some (d :: ds)).bind fun ds => some (d :: ds)).bind fun ds => if ds.length = 2 then pRange ds else none).bind (compL (fun place_2 => (some true)) (fun place_2 => ((some order).bind fun t => (some place_2).bind fun d => pIndex t d)))).bind fun back_1 => ((((some (PyData.int 1)).bind fun d => ((((some order).bind fun d => (some []).bind fun ds => some (d :: ds)).bind pLen).bind fun d => (some []).bind fun ds => some (d :: ds)).bind fun ds => some (d :: ds)).bind fun ds => if ds.length = 2 then pRange ds else none).bind (compL (fun k_3 => (((some back_1).bind fun x => ((some k_3).bind fun x => (some (PyData.int 1)).bind fun y => pSub x y).bind fun y => pIdx x y).bind fun x => ((some back_1).bind fun x => (some k_3).bind fun y => pIdx x y).bind fun y => (pGt x y).bind asB)) (fun k_3 => (some k_3)))))
def m_law_is_plain (thing many : PyData) : Option PyData :=
  ((((((some thing).bind (pIsI "tuple")).bind asB).bind fun c => some (!c)).bind fun c => if c = true then some true else (((((some thing).bind fun d => (some []).bind fun ds => some (d :: ds)).bind pLen).bind fun x => (some (PyData.int 2)).bind fun y => (pNe x y).bind asB).bind fun c => if c = true then some true else ((((((some thing).bind fun x => (some (PyData.int 0)).bind fun y => pIdx x y).bind fun d => ((((some (PyData.int 10)).bind fun x => (some (PyData.int 30)).bind fun y => pPow x y).bind pNeg).bind fun d => (((some (PyData.int 10)).bind fun x => (some (PyData.int 30)).bind fun y => pPow x y).bind fun d => (some []).bind fun ds => some (d :: ds)).bind fun ds => some (d :: ds)).bind fun ds => some (d :: ds)).bind (ap3 m_law_number)).bind asB).bind fun c => some (!c)))).bind fun b => if b = true then (some (PyData.bool false)) else ((((((some thing).bind fun x => (some (PyData.int 1)).bind fun y => pIdx x y).bind (pIsI "tuple")).bind asB).bind fun c => some (!c)).bind fun b => if b = true then (some (PyData.bool false)) else ((((((some thing).bind fun x => (some (PyData.int 1)).bind fun y => pIdx x y).bind fun d => (some []).bind fun ds => some (d :: ds)).bind pEnum).bind fun ds => forO (fun (st_1 : Unit) dd => (asPair dd).bind fun ab => (fun at__2 part_3 => (((((((some part_3).bind fun d => ((some many).bind fun d => (some []).bind fun ds => some (d :: ds)).bind fun ds => some (d :: ds)).bind (ap2 m_law_is_order)).bind asB).bind fun c => some (!c)).bind fun c => if c = true then some true else ((((some part_3).bind fun d => (some []).bind fun ds => some (d :: ds)).bind pList).bind fun x => (((((some part_3).bind fun d => (some []).bind fun ds => some (d :: ds)).bind pSorted).bind fun d => (((((some part_3).bind fun d => (some []).bind fun ds => some (d :: ds)).bind pSorted).bind pRev).bind fun d => (some []).bind fun ds => some (d :: ds)).bind fun ds => some (d :: ds)).bind mkTup).bind fun y => (pIn x y).bind asB)).bind fun b => if b = true then ((some (PyData.bool false)).bind fun d => some (Out.ret d)) else (((((some (PyData.int 1)).bind fun d => ((some many).bind fun d => (some []).bind fun ds => some (d :: ds)).bind fun ds => some (d :: ds)).bind fun ds => if ds.length = 2 then pRange ds else none).bind (compL (fun k_5 => (((some part_3).bind fun x => ((some k_5).bind fun x => (some (PyData.int 1)).bind fun y => pSub x y).bind fun y => pIdx x y).bind fun x => ((some part_3).bind fun x => (some k_5).bind fun y => pIdx x y).bind fun y => (pGt x y).bind asB)) (fun k_5 => (some k_5)))).bind fun begins_4 => ((((some at__2).bind fun x => (some (PyData.int 0)).bind fun y => (pGt x y).bind asB).bind fun c => if c = true then ((((some begins_4).bind itemsOf).bind (compL (fun k_6 => ((some k_6).bind fun x => (((((some thing).bind fun x => (some (PyData.int 1)).bind fun y => pIdx x y).bind fun x => ((some at__2).bind fun x => (some (PyData.int 1)).bind fun y => pSub x y).bind fun y => pIdx x y).bind fun d => (some []).bind fun ds => some (d :: ds)).bind (ap1 m_law_ends)).bind fun y => (pNotIn x y).bind asB)) (fun k_6 => (some k_6)))).bind fun x => ((some []).bind mkLst).bind fun y => (pNe x y).bind asB) else some false).bind fun b => if b = true then ((some (PyData.bool false)).bind fun d => some (Out.ret d)) else (some (Out.go ())))))) ab.1 ab.2) () ds).bind fun o => Out.fin o fun st_1 => (some (PyData.bool true)))))
def m_law_order (number many : PyData) : Option PyData :=
  (((some []).bind mkLst).bind fun found_1 => ((((some (PyData.int 1)).bind fun d => (((some many).bind fun x => (some (PyData.int 1)).bind fun y => pAdd x y).bind fun d => (some []).bind fun ds => some (d :: ds)).bind fun ds => some (d :: ds)).bind fun ds => if ds.length = 2 then pRange ds else none).bind fun ds => (ds.foldlM (fun (st_2 : PyData) k_3 => (((((some number).bind fun d => (((some (PyData.int 60)).bind fun x => (some k_3).bind fun y => pAdd x y).bind fun d => (some []).bind fun ds => some (d :: ds)).bind fun ds => some (d :: ds)).bind (ap2 m_law_drawn)).bind fun x => (some k_3).bind fun y => pMod x y).bind fun at__4 => (((((some st_2).bind fun d => (some none).bind fun l => ((some at__4).bind fun d => (asI d).map some).bind fun h => pCut d l h).bind fun x => (((some k_3).bind fun d => (some []).bind fun ds => some (d :: ds)).bind mkLst).bind fun y => pAdd x y).bind fun x => ((some st_2).bind fun d => ((some at__4).bind fun d => (asI d).map some).bind fun l => (some none).bind fun h => pCut d l h).bind fun y => pAdd x y).bind fun found_5 => (some found_5)))) found_1).bind fun st_2 => (((some st_2).bind fun d => (some []).bind fun ds => some (d :: ds)).bind pTuple)))
def m_law_odd (number : PyData) : Option PyData :=
  (((((some (PyData.int 1)).bind pNeg).bind fun d => ((some (PyData.int 0)).bind fun d => ((some (PyData.int 1)).bind fun d => ((some (PyData.int 2)).bind fun d => ((some (PyData.int 3)).bind fun d => ((some (PyData.int 5)).bind fun d => ((some (PyData.bool true)).bind fun d => ((some (PyData.bool false)).bind fun d => ((some PyData.none).bind fun d => ((some (PyData.str ("" : Str))).bind fun d => ((some (PyData.str ("a" : Str))).bind fun d => (((some []).bind mkTup).bind fun d => (((some []).bind mkLst).bind fun d => ((((some (PyData.int 0)).bind fun d => (some []).bind fun ds => some (d :: ds)).bind mkTup).bind fun d => ((((some (PyData.int 1)).bind fun d => ((some (PyData.int 2)).bind fun d => (some []).bind fun ds => some (d :: ds)).bind fun ds => some (d :: ds)).bind mkTup).bind fun d => ((((some (PyData.int 2)).bind fun d => ((some (PyData.int 1)).bind fun d => (some []).bind fun ds => some (d :: ds)).bind fun ds => some (d :: ds)).bind mkTup).bind fun d => ((((some (PyData.int 1)).bind fun d => ((some (PyData.int 1)).bind fun d => (some []).bind fun ds => some (d :: ds)).bind fun ds => some (d :: ds)).bind mkTup).bind fun d => ((((some (PyData.int 0)).bind fun d => (((some []).bind mkTup).bind fun d => (some []).bind fun ds => some (d :: ds)).bind fun ds => some (d :: ds)).bind mkTup).bind fun d => (some []).bind fun ds => some (d :: ds)).bind fun ds => some (d :: ds)).bind fun ds => some (d :: ds)).bind fun ds => some (d :: ds)).bind fun ds => some (d :: ds)).bind fun ds => some (d :: ds)).bind fun ds => some (d :: ds)).bind fun ds => some (d :: ds)).bind fun ds => some (d :: ds)).bind fun ds => some (d :: ds)).bind fun ds => some (d :: ds)).bind fun ds => some (d :: ds)).bind fun ds => some (d :: ds)).bind fun ds => some (d :: ds)).bind fun ds => some (d :: ds)).bind fun ds => some (d :: ds)).bind fun ds => some (d :: ds)).bind fun ds => some (d :: ds)).bind mkLst).bind fun some__1 => (((some some__1).bind fun x => (((((some (PyData.int 0)).bind fun d => ((((((some (PyData.int 2)).bind fun d => ((some (PyData.int 1)).bind fun d => (some []).bind fun ds => some (d :: ds)).bind fun ds => some (d :: ds)).bind mkTup).bind fun d => (some []).bind fun ds => some (d :: ds)).bind mkTup).bind fun d => (some []).bind fun ds => some (d :: ds)).bind fun ds => some (d :: ds)).bind mkTup).bind fun d => (some []).bind fun ds => some (d :: ds)).bind mkLst).bind fun y => pAdd x y).bind fun x => ((some number).bind fun x => (some (PyData.int 19)).bind fun y => pMod x y).bind fun y => pIdx x y))
def m_law_same (found due : PyData) : Option PyData :=
  (((some found).bind (pIsI "bool")).bind fun x => (asB x).bind fun c => if c = true then ((some found).bind fun x => (some due).bind fun y => pEq x y) else some (.bool false))
def m_letter_of (part : PyData) : Option PyData :=
  (((some part).bind fun x => (some (PyData.int 0)).bind fun y => (pGt x y).bind asB).bind fun b => if b = true then ((some (PyData.str ("abcd" : Str))).bind fun x => ((some part).bind fun x => (some (PyData.int 1)).bind fun y => pSub x y).bind fun y => pIdx x y) else ((some (PyData.str ("ABCD" : Str))).bind fun x => (((some part).bind pNeg).bind fun x => (some (PyData.int 1)).bind fun y => pSub x y).bind fun y => pIdx x y))
def m_text_of (word : PyData) : Option PyData :=
  (((((some word).bind fun d => (some []).bind fun ds => some (d :: ds)).bind pLen).bind fun x => (some (PyData.int 0)).bind fun y => (pEq x y).bind asB).bind fun b => if b = true then (some (PyData.str ("none" : Str))) else ((some (PyData.str (" " : Str))).bind fun x => (((some word).bind itemsOf).bind (compL (fun part_1 => (some true)) (fun part_1 => (((some part_1).bind fun d => (some []).bind fun ds => some (d :: ds)).bind (ap1 m_letter_of))))).bind fun y => pJoin x y))
def m_written (word many : PyData) : Option Rx :=
  ((((((some word).bind fun d => ((some many).bind fun d => (some []).bind fun ds => some (d :: ds)).bind fun ds => some (d :: ds)).bind (ap2 m_is_word)).bind asB).bind fun c => some (!c)).bind fun b => if b = true then (some (Rx.ex .noWord)) else ((((some word).bind fun d => (some []).bind fun ds => some (d :: ds)).bind (ap1 m_text_of)).map Rx.ok))
def m_law_written (word : PyData) : Option PyData :=
  ((some (PyData.str ("" : Str))).bind fun found_1 => (((some word).bind itemsOf).bind fun ds => (ds.foldlM (fun (st_2 : PyData) part_3 => ((((some st_2).bind fun x => (some (PyData.str (" " : Str))).bind fun y => pAdd x y).bind fun x => ((some (PyData.str (" abcdDCBA" : Str))).bind fun x => (some part_3).bind fun y => pIdx x y).bind fun y => pAdd x y).bind fun found_4 => (some found_4))) found_1).bind fun st_2 => (((some st_2).bind fun x => (some (PyData.str ("" : Str))).bind fun y => (pEq x y).bind asB).bind fun b => if b = true then (some (PyData.str ("none" : Str))) else ((some st_2).bind fun d => ((some (PyData.int 1)).bind fun d => (asI d).map some).bind fun l => (some none).bind fun h => pCut d l h))))
def m_law_refused (thing many : PyData) : Option PyData :=
  (((some thing).bind fun d => ((some many).bind fun d => (some []).bind fun ds => some (d :: ds)).bind fun ds => some (d :: ds)).bind fun ds => (ax2 m_written ds).bind (tryM (fun c => match c with | .noWord => true | .noText => false | .noBack => true) (some (PyData.bool false)) (fun c => match c with | .noWord => (some (PyData.bool true)) | .noText => (some (PyData.bool true)) | .noBack => (some (PyData.bool true)))))
def m_law_refused_by_base (thing many : PyData) : Option PyData :=
  (((some thing).bind fun d => ((some many).bind fun d => (some []).bind fun ds => some (d :: ds)).bind fun ds => some (d :: ds)).bind fun ds => (ax2 m_written ds).bind (tryM (fun c => match c with | .noWord => true | .noText => true | .noBack => true) (some (PyData.bool false)) (fun c => match c with | .noWord => ((some (PyData.bool true)).bind fun x => (asB x).bind fun c => if c = true then ((some (PyData.bool true)).bind fun x => (asB x).bind fun c => if c = true then ((some (PyData.bool false)).bind fun x => (asB x).bind fun c => some (.bool (!c))) else some (.bool false)) else some (.bool false)) | .noText => ((some (PyData.bool false)).bind fun x => (asB x).bind fun c => if c = true then ((some (PyData.bool true)).bind fun x => (asB x).bind fun c => if c = true then ((some (PyData.bool true)).bind fun x => (asB x).bind fun c => some (.bool (!c))) else some (.bool false)) else some (.bool false)) | .noBack => ((some (PyData.bool true)).bind fun x => (asB x).bind fun c => if c = true then ((some (PyData.bool true)).bind fun x => (asB x).bind fun c => if c = true then ((some (PyData.bool false)).bind fun x => (asB x).bind fun c => some (.bool (!c))) else some (.bool false)) else some (.bool false)))))
def m_part_of (letter : PyData) : Option Rx :=
  (((((some letter).bind fun d => (some []).bind fun ds => some (d :: ds)).bind pLen).bind fun x => (some (PyData.int 1)).bind fun y => (pNe x y).bind asB).bind fun b => if b = true then (some (Rx.ex .noText)) else (((some letter).bind fun x => (some (PyData.str ("abcd" : Str))).bind fun y => (pIn x y).bind asB).bind fun b => if b = true then ((((some (PyData.str ("abcd" : Str))).bind fun t => (some letter).bind fun d => pIndexS t d).bind fun x => (some (PyData.int 1)).bind fun y => pAdd x y).map Rx.ok) else (((some letter).bind fun x => (some (PyData.str ("ABCD" : Str))).bind fun y => (pIn x y).bind asB).bind fun b => if b = true then (((((some (PyData.str ("ABCD" : Str))).bind fun t => (some letter).bind fun d => pIndexS t d).bind pNeg).bind fun x => (some (PyData.int 1)).bind fun y => pSub x y).map Rx.ok) else (some (Rx.ex .noText)))))
def m_read (text many : PyData) : Option Rx :=
  (((((some text).bind (pIsI "str")).bind asB).bind fun c => some (!c)).bind fun b => if b = true then (some (Rx.ex .noText)) else (((some []).bind mkTup).bind fun found_1 => (((some text).bind fun x => (some (PyData.str ("none" : Str))).bind fun y => (pNe x y).bind asB).bind fun b => if b = true then (((((some text).bind fun x => (some (PyData.str (" " : Str))).bind fun y => pSplit x y).bind itemsOf).bind (compXL fun letter_2 => ((some letter_2).bind fun d => (some []).bind fun ds => some (d :: ds)).bind (ax1 m_part_of))).bind (Rx.andThen fun d => (pTuple [d]).map Rx.ok)).bind (Rx.andThen fun found_3 => (((((((some found_3).bind fun d => ((some many).bind fun d => (some []).bind fun ds => some (d :: ds)).bind fun ds => some (d :: ds)).bind (ap2 m_is_word)).bind asB).bind fun c => some (!c)).bind fun c => if c = true then some true else ((((some found_3).bind fun d => (some []).bind fun ds => some (d :: ds)).bind (ap1 m_text_of)).bind fun x => (some text).bind fun y => (pNe x y).bind asB)).bind fun b => if b = true then (some (Rx.ex .noText)) else ((some found_3).map Rx.ok))) else (fun found_3 => (((((((some found_3).bind fun d => ((some many).bind fun d => (some []).bind fun ds => some (d :: ds)).bind fun ds => some (d :: ds)).bind (ap2 m_is_word)).bind asB).bind fun c => some (!c)).bind fun c => if c = true then some true else ((((some found_3).bind fun d => (some []).bind fun ds => some (d :: ds)).bind (ap1 m_text_of)).bind fun x => (some text).bind fun y => (pNe x y).bind asB)).bind fun b => if b = true then (some (Rx.ex .noText)) else ((some found_3).map Rx.ok))) found_1)))
def m_law_found (text many : PyData) : Option PyData :=
  (((some text).bind fun d => ((some many).bind fun d => (some []).bind fun ds => some (d :: ds)).bind fun ds => some (d :: ds)).bind fun ds => (ax2 m_read ds).bind (tryMV (fun c => match c with | .noWord => false | .noText => true | .noBack => false) (fun found_4 => ((((some found_4).bind fun d => ((((some (PyData.int 0)).bind fun d => (some []).bind fun ds => some (d :: ds)).bind mkTup).bind fun d => (some []).bind fun ds => some (d :: ds)).bind fun ds => some (d :: ds)).bind mkLst).bind fun x => ((((some found_4).bind fun x => (some PyData.none).bind fun y => pIs x y).bind fun d => (some []).bind fun ds => some (d :: ds)).bind pInt).bind fun y => pIdx x y)) (fun c => match c with | .noWord => (((some (PyData.bool true)).bind fun x => (asB x).bind fun c => if c = true then ((some (PyData.bool true)).bind fun x => (asB x).bind fun c => if c = true then ((some (PyData.bool true)).bind fun x => (asB x).bind fun c => some (.bool (!c))) else some (.bool false)) else some (.bool false)).bind fun good_1 => ((((((some (PyData.int 0)).bind fun d => (some []).bind fun ds => some (d :: ds)).bind mkTup).bind fun d => ((some PyData.none).bind fun d => (some []).bind fun ds => some (d :: ds)).bind fun ds => some (d :: ds)).bind mkLst).bind fun x => (((some good_1).bind fun d => (some []).bind fun ds => some (d :: ds)).bind pInt).bind fun y => pIdx x y)) | .noText => (((some (PyData.bool true)).bind fun x => (asB x).bind fun c => if c = true then ((some (PyData.bool true)).bind fun x => (asB x).bind fun c => if c = true then ((some (PyData.bool false)).bind fun x => (asB x).bind fun c => some (.bool (!c))) else some (.bool false)) else some (.bool false)).bind fun good_2 => ((((((some (PyData.int 0)).bind fun d => (some []).bind fun ds => some (d :: ds)).bind mkTup).bind fun d => ((some PyData.none).bind fun d => (some []).bind fun ds => some (d :: ds)).bind fun ds => some (d :: ds)).bind mkLst).bind fun x => (((some good_2).bind fun d => (some []).bind fun ds => some (d :: ds)).bind pInt).bind fun y => pIdx x y)) | .noBack => (((some (PyData.bool true)).bind fun x => (asB x).bind fun c => if c = true then ((some (PyData.bool true)).bind fun x => (asB x).bind fun c => if c = true then ((some (PyData.bool true)).bind fun x => (asB x).bind fun c => some (.bool (!c))) else some (.bool false)) else some (.bool false)).bind fun good_3 => ((((((some (PyData.int 0)).bind fun d => (some []).bind fun ds => some (d :: ds)).bind mkTup).bind fun d => ((some PyData.none).bind fun d => (some []).bind fun ds => some (d :: ds)).bind fun ds => some (d :: ds)).bind mkLst).bind fun x => (((some good_3).bind fun d => (some []).bind fun ds => some (d :: ds)).bind pInt).bind fun y => pIdx x y)))))
def m_law_places_in : Nat → PyData → PyData → Option PyData
  | 0, _, _ => none
  | fuel + 1, bent_one, bent_way =>
  ((((some bent_way).bind fun d => (some []).bind fun ds => some (d :: ds)).bind mkLst).bind fun bent_ways_1 => ((((some bent_one).bind (pIsI "tuple")).bind asB).bind fun b => (if b = true then ((((some bent_one).bind fun d => (some []).bind fun ds => some (d :: ds)).bind pEnum).bind fun ds => (ds.foldlM (fun (st_3 : PyData) dd => (asPair dd).bind fun ab => (fun bent_at_4 bent_part_5 => (((some st_3).bind fun x => (((some bent_part_5).bind fun d => (((some bent_way).bind fun x => (((some bent_at_4).bind fun d => (some []).bind fun ds => some (d :: ds)).bind mkTup).bind fun y => pAdd x y).bind fun d => (some []).bind fun ds => some (d :: ds)).bind fun ds => some (d :: ds)).bind (ap2 (m_law_places_in fuel))).bind fun y => pAdd x y).bind fun bent_ways_6 => (some bent_ways_6))) ab.1 ab.2) bent_ways_1).bind fun st_3 => (some st_3)) else (some bent_ways_1)).bind fun (st_2 : PyData) => (some st_2)))
def m_law_otherwise (bent_one bent_number : PyData) : Option PyData :=
  ((((some bent_one).bind (pIsI "tuple")).bind asB).bind fun b => if b = true then ((((((some bent_one).bind fun d => (some []).bind fun ds => some (d :: ds)).bind pList).bind fun d => ((((some bent_one).bind fun d => (some []).bind fun ds => some (d :: ds)).bind pList).bind fun d => (((some bent_one).bind fun x => ((some bent_one).bind fun d => (some none).bind fun l => ((some (PyData.int 1)).bind fun d => (asI d).map some).bind fun h => pCut d l h).bind fun y => pAdd x y).bind fun d => (some []).bind fun ds => some (d :: ds)).bind fun ds => some (d :: ds)).bind fun ds => some (d :: ds)).bind mkLst).bind fun bent_some_1 => (((some bent_some_1).bind fun x => ((((some bent_one).bind fun d => ((some (PyData.int 1)).bind fun d => (asI d).map some).bind fun l => (some none).bind fun h => pCut d l h).bind fun d => ((((some bent_one).bind fun d => (some []).bind fun ds => some (d :: ds)).bind mkLst).bind fun d => (some []).bind fun ds => some (d :: ds)).bind fun ds => some (d :: ds)).bind mkLst).bind fun y => pAdd x y).bind fun x => ((some bent_number).bind fun x => (some (PyData.int 5)).bind fun y => pMod x y).bind fun y => pIdx x y)) else ((((some bent_one).bind (pIsI "bool")).bind asB).bind fun b => if b = true then ((((((some bent_one).bind fun d => (some []).bind fun ds => some (d :: ds)).bind pInt).bind fun d => ((some PyData.none).bind fun d => ((((some bent_one).bind fun d => (some []).bind fun ds => some (d :: ds)).bind pStr).bind fun d => (some []).bind fun ds => some (d :: ds)).bind fun ds => some (d :: ds)).bind fun ds => some (d :: ds)).bind mkLst).bind fun x => ((some bent_number).bind fun x => (some (PyData.int 3)).bind fun y => pMod x y).bind fun y => pIdx x y) else ((((some bent_one).bind (pIsI "int")).bind asB).bind fun b => if b = true then ((((some (PyData.bool true)).bind fun d => ((some PyData.none).bind fun d => ((((some bent_one).bind fun d => (some []).bind fun ds => some (d :: ds)).bind pStr).bind fun d => ((((some bent_one).bind fun d => (some []).bind fun ds => some (d :: ds)).bind mkTup).bind fun d => (some []).bind fun ds => some (d :: ds)).bind fun ds => some (d :: ds)).bind fun ds => some (d :: ds)).bind fun ds => some (d :: ds)).bind mkLst).bind fun bent_some_2 => (((some bent_some_2).bind fun x => (((((some (PyData.int 1)).bind pNeg).bind fun x => (some bent_one).bind fun y => pSub x y).bind fun d => (some []).bind fun ds => some (d :: ds)).bind mkLst).bind fun y => pAdd x y).bind fun x => ((some bent_number).bind fun x => (some (PyData.int 5)).bind fun y => pMod x y).bind fun y => pIdx x y)) else ((((some PyData.none).bind fun d => ((((some bent_one).bind fun d => (some []).bind fun ds => some (d :: ds)).bind mkTup).bind fun d => ((((some bent_one).bind fun d => (some []).bind fun ds => some (d :: ds)).bind mkLst).bind fun d => ((some (PyData.str ("" : Str))).bind fun d => ((some (PyData.int 0)).bind fun d => (some []).bind fun ds => some (d :: ds)).bind fun ds => some (d :: ds)).bind fun ds => some (d :: ds)).bind fun ds => some (d :: ds)).bind fun ds => some (d :: ds)).bind mkLst).bind fun x => ((some bent_number).bind fun x => (some (PyData.int 5)).bind fun y => pMod x y).bind fun y => pIdx x y))))
def m_order_of (word many : PyData) : Option PyData :=
  ((((some many).bind fun d => (some []).bind fun ds => some (d :: ds)).bind (ap1 m_rest)).bind fun found_1 => (((some word).bind itemsOf).bind fun ds => (ds.foldlM (fun (st_2 : PyData) part_3 => ((((some st_2).bind fun d => ((((some part_3).bind fun d => (some []).bind fun ds => some (d :: ds)).bind pAbs).bind fun d => (some []).bind fun ds => some (d :: ds)).bind fun ds => some (d :: ds)).bind (ap2 m_crossed_behind)).bind fun found_4 => (some found_4))) found_1).bind fun st_2 => (some st_2)))
def m_swept (order : PyData) : Option PyData :=
  (((some []).bind mkTup).bind fun found_1 => ((some order).bind fun left_2 => ((whileN (fun (st_3 : PyData × PyData) => ((((((some st_3.2).bind fun d => (some []).bind fun ds => some (d :: ds)).bind (ap1 m_begins_with)).bind fun d => (some []).bind fun ds => some (d :: ds)).bind pLen).bind fun x => (some (PyData.int 0)).bind fun y => (pGt x y).bind asB)) (fun (st_3 : PyData × PyData) => (((((some st_3.2).bind fun d => (some []).bind fun ds => some (d :: ds)).bind (ap1 m_begins_with)).bind fun x => (some (PyData.int 0)).bind fun y => pIdx x y).bind fun k_4 => (((some st_3.1).bind fun x => (((some k_4).bind fun d => (some []).bind fun ds => some (d :: ds)).bind mkTup).bind fun y => pAdd x y).bind fun found_5 => ((((some st_3.2).bind fun d => ((some k_4).bind fun d => (some []).bind fun ds => some (d :: ds)).bind fun ds => some (d :: ds)).bind (ap2 m_crossed_ahead)).bind fun left_6 => (some (found_5, left_6)))))) 1000 (found_1, left_2)).bind fun st_3 => (some st_3.1))))
def m_put (one other : PyData) : Option PyData :=
  ((((some one).bind fun d => (some []).bind fun ds => some (d :: ds)).bind pListL).bind fun found_1 => (((some other).bind itemsOf).bind fun ds => (ds.foldlM (fun (st_2 : List PyData) letter_3 => ((((((some (.list st_2)).bind fun d => (some []).bind fun ds => some (d :: ds)).bind pLen).bind fun x => (some (PyData.int 0)).bind fun y => (pGt x y).bind asB).bind fun c => if c = true then (((some (.list st_2)).bind fun x => ((some (PyData.int 1)).bind pNeg).bind fun y => pIdx x y).bind fun x => ((some letter_3).bind pNeg).bind fun y => (pEq x y).bind asB) else some false).bind fun b => (if b = true then (if st_2.isEmpty = true then none else (some st_2.dropLast)) else ((some letter_3).bind fun d_5 => if szOk st_2.length then (some (st_2 ++ [d_5])) else none)).bind fun (st_4 : List PyData) => (some st_4))) found_1).bind fun st_2 => (((some (.list st_2)).bind fun d => (some []).bind fun ds => some (d :: ds)).bind pTuple)))
def m_sent : Nat → PyData → PyData → Option PyData
  | 0, _, _ => none
  | fuel + 1, letter, part =>
  ((((some part).bind fun d => (some []).bind fun ds => some (d :: ds)).bind pAbs).bind fun k_1 => (((some letter).bind fun x => (some (PyData.int 0)).bind fun y => (pLt x y).bind asB).bind fun b => if b = true then (((((((((some letter).bind pNeg).bind fun d => ((some part).bind fun d => (some []).bind fun ds => some (d :: ds)).bind fun ds => some (d :: ds)).bind (ap2 (m_sent fuel))).bind pRev).bind itemsOf).bind (compL (fun other_2 => (some true)) (fun other_2 => ((some other_2).bind pNeg)))).bind fun d => (some []).bind fun ds => some (d :: ds)).bind pTuple) else ((((some part).bind fun x => (some (PyData.int 0)).bind fun y => (pGt x y).bind asB).bind fun c => if c = true then ((some letter).bind fun x => (some k_1).bind fun y => (pEq x y).bind asB) else some false).bind fun b => if b = true then (((some k_1).bind fun d => (((some k_1).bind fun x => (some (PyData.int 1)).bind fun y => pAdd x y).bind fun d => (((some k_1).bind pNeg).bind fun d => (some []).bind fun ds => some (d :: ds)).bind fun ds => some (d :: ds)).bind fun ds => some (d :: ds)).bind mkTup) else ((((some part).bind fun x => (some (PyData.int 0)).bind fun y => (pGt x y).bind asB).bind fun c => if c = true then ((some letter).bind fun x => ((some k_1).bind fun x => (some (PyData.int 1)).bind fun y => pAdd x y).bind fun y => (pEq x y).bind asB) else some false).bind fun b => if b = true then (((some k_1).bind fun d => (some []).bind fun ds => some (d :: ds)).bind mkTup) else (((some letter).bind fun x => (some k_1).bind fun y => (pEq x y).bind asB).bind fun b => if b = true then ((((some k_1).bind fun x => (some (PyData.int 1)).bind fun y => pAdd x y).bind fun d => (some []).bind fun ds => some (d :: ds)).bind mkTup) else (((some letter).bind fun x => ((some k_1).bind fun x => (some (PyData.int 1)).bind fun y => pAdd x y).bind fun y => (pEq x y).bind asB).bind fun b => if b = true then (((((some k_1).bind fun x => (some (PyData.int 1)).bind fun y => pAdd x y).bind pNeg).bind fun d => ((some k_1).bind fun d => (((some k_1).bind fun x => (some (PyData.int 1)).bind fun y => pAdd x y).bind fun d => (some []).bind fun ds => some (d :: ds)).bind fun ds => some (d :: ds)).bind fun ds => some (d :: ds)).bind mkTup) else (((some letter).bind fun d => (some []).bind fun ds => some (d :: ds)).bind mkTup)))))))
def m_made_of (word many : PyData) : Option PyData :=
  (((((some (PyData.int 1)).bind fun d => (((some many).bind fun x => (some (PyData.int 1)).bind fun y => pAdd x y).bind fun d => (some []).bind fun ds => some (d :: ds)).bind fun ds => some (d :: ds)).bind fun ds => if ds.length = 2 then pRange ds else none).bind (compL (fun letter_2 => (some true)) (fun letter_2 => (((some letter_2).bind fun d => (some []).bind fun ds => some (d :: ds)).bind mkTup)))).bind fun rows_1 => ((((some word).bind pRev).bind itemsOf).bind fun ds => (ds.foldlM (fun (st_3 : PyData) part_4 => (((some []).bind szL).bind fun longer_5 => (((some st_3).bind itemsOf).bind fun ds => (ds.foldlM (fun (st_6 : List PyData) row_7 => (((some []).bind mkTup).bind fun found_8 => (((some row_7).bind itemsOf).bind fun ds => (ds.foldlM (fun (st_9 : PyData) letter_10 => ((((some st_9).bind fun d => ((((some letter_10).bind fun d => ((some part_4).bind fun d => (some []).bind fun ds => some (d :: ds)).bind fun ds => some (d :: ds)).bind (ap2 (m_sent 2))).bind fun d => (some []).bind fun ds => some (d :: ds)).bind fun ds => some (d :: ds)).bind (ap2 m_put)).bind fun found_11 => (some found_11))) found_8).bind fun st_9 => ((some st_9).bind fun d_12 => if szOk st_6.length then (some (st_6 ++ [d_12])) else none)))) longer_5).bind fun st_6 => ((some (.list st_6)).bind fun rows_13 => (some rows_13))))) rows_1).bind fun st_3 => (((some st_3).bind fun d => (some []).bind fun ds => some (d :: ds)).bind pTuple)))
def m_mirrored (word : PyData) : Option PyData :=
  (((((some word).bind itemsOf).bind (compL (fun part_1 => (some true)) (fun part_1 => ((some part_1).bind pNeg)))).bind fun d => (some []).bind fun ds => some (d :: ds)).bind pTuple)
def m_undone (word : PyData) : Option PyData :=
  ((((some word).bind fun d => (some []).bind fun ds => some (d :: ds)).bind (ap1 m_mirrored)).bind pRev)
def m_law_together (one other : PyData) : Option PyData :=
  ((((some one).bind fun d => (some []).bind fun ds => some (d :: ds)).bind pListL).bind fun found_1 => (((some other).bind itemsOf).bind fun ds => (ds.foldlM (fun (st_2 : List PyData) letter_3 => ((((some (.list st_2)).bind fun x => ((some []).bind mkLst).bind fun y => (pNe x y).bind asB).bind fun c => if c = true then ((((some (.list st_2)).bind fun x => ((some (PyData.int 1)).bind pNeg).bind fun y => pIdx x y).bind fun x => (some letter_3).bind fun y => pAdd x y).bind fun x => (some (PyData.int 0)).bind fun y => (pEq x y).bind asB) else some false).bind fun b => (if b = true then (if st_2.isEmpty = true then none else (some st_2.dropLast)) else ((some letter_3).bind fun d_5 => if szOk st_2.length then (some (st_2 ++ [d_5])) else none)).bind fun (st_4 : List PyData) => (some st_4))) found_1).bind fun st_2 => (some (.list st_2))))
def m_law_images (word many : PyData) : Option PyData :=
  ((((some (PyData.int 1)).bind fun d => (((some many).bind fun x => (some (PyData.int 1)).bind fun y => pAdd x y).bind fun d => (some []).bind fun ds => some (d :: ds)).bind fun ds => some (d :: ds)).bind fun ds => if ds.length = 2 then pRange ds else none).bind fun ds => (ds.foldlM (fun (st_1 : List (Key × PyData)) letter_2 => ((((some letter_2).bind fun d => (some []).bind fun ds => some (d :: ds)).bind mkLst).bind fun d => (some letter_2).bind fun y => (asI y).bind fun n => if szOk st_1.length then (fun (images_3 : List (Key × PyData)) => (some images_3)) (putD st_1 (Sum.inl n) d) else none)) []).bind fun st_1 => (((some word).bind itemsOf).bind fun ds => (ds.foldlM (fun (st_4 : List (Key × PyData)) part_5 => ((((some part_5).bind fun d => (some []).bind fun ds => some (d :: ds)).bind pAbs).bind fun k_6 => (((some k_6).bind fun y => (asI y).bind fun k => valD st_4 (Sum.inl k)).bind fun one_7 => ((((some k_6).bind fun x => (some (PyData.int 1)).bind fun y => pAdd x y).bind fun y => (asI y).bind fun k => valD st_4 (Sum.inl k)).bind fun two_8 => (((some part_5).bind fun x => (some (PyData.int 0)).bind fun y => (pGt x y).bind asB).bind fun b => (if b = true then (((((some one_7).bind pRev).bind itemsOf).bind (compL (fun letter_11 => (some true)) (fun letter_11 => ((some letter_11).bind pNeg)))).bind fun back_10 => ((((((some one_7).bind fun d => ((some two_8).bind fun d => (some []).bind fun ds => some (d :: ds)).bind fun ds => some (d :: ds)).bind (ap2 m_law_together)).bind fun d => ((some back_10).bind fun d => (some []).bind fun ds => some (d :: ds)).bind fun ds => some (d :: ds)).bind (ap2 m_law_together)).bind fun d => (some k_6).bind fun y => (asI y).bind fun n => if szOk st_4.length then (fun (images_12 : List (Key × PyData)) => ((some one_7).bind fun d => ((some k_6).bind fun x => (some (PyData.int 1)).bind fun y => pAdd x y).bind fun y => (asI y).bind fun n => if szOk images_12.length then (fun (images_13 : List (Key × PyData)) => (some (back_10, images_13))) (putD images_12 (Sum.inl n) d) else none)) (putD st_4 (Sum.inl n) d) else none)) else (((((some two_8).bind pRev).bind itemsOf).bind (compL (fun letter_15 => (some true)) (fun letter_15 => ((some letter_15).bind pNeg)))).bind fun back_14 => ((some two_8).bind fun d => (some k_6).bind fun y => (asI y).bind fun n => if szOk st_4.length then (fun (images_16 : List (Key × PyData)) => ((((((some back_14).bind fun d => ((some one_7).bind fun d => (some []).bind fun ds => some (d :: ds)).bind fun ds => some (d :: ds)).bind (ap2 m_law_together)).bind fun d => ((some two_8).bind fun d => (some []).bind fun ds => some (d :: ds)).bind fun ds => some (d :: ds)).bind (ap2 m_law_together)).bind fun d => ((some k_6).bind fun x => (some (PyData.int 1)).bind fun y => pAdd x y).bind fun y => (asI y).bind fun n => if szOk images_16.length then (fun (images_17 : List (Key × PyData)) => (some (back_14, images_17))) (putD images_16 (Sum.inl n) d) else none)) (putD st_4 (Sum.inl n) d) else none))).bind fun (st_9 : PyData × (List (Key × PyData))) => (some st_9.2)))))) st_1).bind fun st_4 => ((((((some (PyData.int 1)).bind fun d => (((some many).bind fun x => (some (PyData.int 1)).bind fun y => pAdd x y).bind fun d => (some []).bind fun ds => some (d :: ds)).bind fun ds => some (d :: ds)).bind fun ds => if ds.length = 2 then pRange ds else none).bind (compL (fun letter_18 => (some true)) (fun letter_18 => ((((some letter_18).bind fun y => (asI y).bind fun k => valD st_4 (Sum.inl k)).bind fun d => (some []).bind fun ds => some (d :: ds)).bind pTuple)))).bind fun d => (some []).bind fun ds => some (d :: ds)).bind pTuple)))
def m_law_is_loose (thing : PyData) : Option PyData :=
  (((some thing).bind (pIsI "tuple")).bind fun x => (asB x).bind fun c => if c = true then ((((some thing).bind itemsOf).bind (compL (fun one_1 => (((some one_1).bind (pIsI "bool")).bind asB)) (fun one_1 => (some one_1)))).bind fun x => ((some []).bind mkLst).bind fun y => pEq x y) else some (.bool false))
def m_turned (word many : PyData) : Option PyData :=
  (((some []).bind szL).bind fun found_1 => (((some word).bind itemsOf).bind fun ds => (ds.foldlM (fun (st_2 : List PyData) part_3 => (((some part_3).bind fun x => (some (PyData.int 0)).bind fun y => (pGt x y).bind asB).bind fun b => (if b = true then (((some many).bind fun x => (some part_3).bind fun y => pSub x y).bind fun d_5 => if szOk st_2.length then (some (st_2 ++ [d_5])) else none) else ((((some many).bind pNeg).bind fun x => (some part_3).bind fun y => pSub x y).bind fun d_6 => if szOk st_2.length then (some (st_2 ++ [d_6])) else none)).bind fun (st_4 : List PyData) => (some st_4))) found_1).bind fun st_2 => (((some (.list st_2)).bind fun d => (some []).bind fun ds => some (d :: ds)).bind pTuple)))
def m_law_led (loose images : PyData) : Option PyData :=
  (((some []).bind mkLst).bind fun found_1 => (((some loose).bind itemsOf).bind fun ds => (ds.foldlM (fun (st_2 : PyData) letter_3 => (((((some images).bind fun x => ((((some letter_3).bind fun d => (some []).bind fun ds => some (d :: ds)).bind pAbs).bind fun x => (some (PyData.int 1)).bind fun y => pSub x y).bind fun y => pIdx x y).bind fun d => (some []).bind fun ds => some (d :: ds)).bind pList).bind fun part_4 => (((some letter_3).bind fun x => (some (PyData.int 0)).bind fun y => (pLt x y).bind asB).bind fun b => (if b = true then (((((some part_4).bind pRev).bind itemsOf).bind (compL (fun one_7 => (some true)) (fun one_7 => ((some one_7).bind pNeg)))).bind fun part_6 => (some part_6)) else (some part_4)).bind fun (st_5 : PyData) => ((((some st_2).bind fun d => ((some st_5).bind fun d => (some []).bind fun ds => some (d :: ds)).bind fun ds => some (d :: ds)).bind (ap2 m_law_together)).bind fun found_8 => (some found_8))))) found_1).bind fun st_2 => (((some st_2).bind fun d => (some []).bind fun ds => some (d :: ds)).bind pTuple)))
def m_word_of (form many : PyData) : Option PyData :=
  ((((((some many).bind fun d => (some []).bind fun ds => some (d :: ds)).bind (ap1 m_full)).bind fun d => (some []).bind fun ds => some (d :: ds)).bind (ap1 m_swept)).bind fun whole_1 => ((((some form).bind fun x => (some (PyData.int 0)).bind fun y => pIdx x y).bind fun x => (some (PyData.int 0)).bind fun y => (pLt x y).bind asB).bind fun b => (if b = true then (((((((some whole_1).bind pRev).bind itemsOf).bind (compL (fun part_4 => (some true)) (fun part_4 => ((some part_4).bind pNeg)))).bind fun d => (some []).bind fun ds => some (d :: ds)).bind pTuple).bind fun whole_3 => (some whole_3)) else (some whole_1)).bind fun (st_2 : PyData) => (((some st_2).bind fun x => ((((some form).bind fun x => (some (PyData.int 0)).bind fun y => pIdx x y).bind fun d => (some []).bind fun ds => some (d :: ds)).bind pAbs).bind fun y => pMul x y).bind fun found_5 => ((((some form).bind fun x => (some (PyData.int 1)).bind fun y => pIdx x y).bind itemsOf).bind fun ds => (ds.foldlM (fun (st_6 : PyData) part_7 => (((some st_6).bind fun x => (((some part_7).bind fun d => (some []).bind fun ds => some (d :: ds)).bind (ap1 m_swept)).bind fun y => pAdd x y).bind fun found_8 => (some found_8))) found_5).bind fun st_6 => (some st_6)))))
def m_alike (one other many : PyData) : Option PyData :=
  ((((some one).bind fun d => ((some many).bind fun d => (some []).bind fun ds => some (d :: ds)).bind fun ds => some (d :: ds)).bind (ap2 m_plain)).bind fun x => (((some other).bind fun d => ((some many).bind fun d => (some []).bind fun ds => some (d :: ds)).bind fun ds => some (d :: ds)).bind (ap2 m_plain)).bind fun y => pEq x y)
def m_again (word times : PyData) : Option PyData :=
  (((some times).bind fun x => (some (PyData.int 0)).bind fun y => (pLt x y).bind asB).bind fun b => if b = true then ((((some word).bind fun d => (some []).bind fun ds => some (d :: ds)).bind (ap1 m_undone)).bind fun x => ((some times).bind pNeg).bind fun y => pMul x y) else ((some word).bind fun x => (some times).bind fun y => pMul x y))
def m_side_of (part : PyData) : Option PyData :=
  ((((((some part).bind fun x => (some (PyData.int 0)).bind fun y => pGt x y).bind fun d => (some []).bind fun ds => some (d :: ds)).bind pInt).bind fun x => (some (PyData.int 2)).bind fun y => pMul x y).bind fun x => (some (PyData.int 1)).bind fun y => pSub x y)
def m_windings (word : PyData) : Option PyData :=
  (((((some word).bind itemsOf).bind (compL (fun part_1 => (some true)) (fun part_1 => (((some part_1).bind fun d => (some []).bind fun ds => some (d :: ds)).bind (ap1 m_side_of))))).bind fun d => (some []).bind fun ds => some (d :: ds)).bind pSum)
def m_rings (word many : PyData) : Option PyData :=
  ((((some word).bind fun d => ((some many).bind fun d => (some []).bind fun ds => some (d :: ds)).bind fun ds => some (d :: ds)).bind (ap2 m_order_of)).bind fun order_1 => (((some []).bind szL).bind fun found_2 => ((((some (PyData.int 1)).bind fun d => (((some many).bind fun x => (some (PyData.int 1)).bind fun y => pAdd x y).bind fun d => (some []).bind fun ds => some (d :: ds)).bind fun ds => some (d :: ds)).bind fun ds => if ds.length = 2 then pRange ds else none).bind fun ds => (ds.foldlM (fun (st_3 : List PyData) place_4 => ((((some place_4).bind fun d => (some []).bind fun ds => some (d :: ds)).bind szL).bind fun ring_5 => ((whileN (fun (st_6 : List PyData) => (((some order_1).bind fun x => ((((some (PyData.int 1)).bind pNeg).bind fun y => pIdx (.list st_6) y).bind fun x => (some (PyData.int 1)).bind fun y => pSub x y).bind fun y => pIdx x y).bind fun x => (some place_4).bind fun y => (pNe x y).bind asB)) (fun (st_6 : List PyData) => (((some order_1).bind fun x => ((((some (PyData.int 1)).bind pNeg).bind fun y => pIdx (.list st_6) y).bind fun x => (some (PyData.int 1)).bind fun y => pSub x y).bind fun y => pIdx x y).bind fun d_7 => if szOk st_6.length then (some (st_6 ++ [d_7])) else none)) 1000 ring_5).bind fun st_6 => (((((some (.list st_6)).bind fun d => (some []).bind fun ds => some (d :: ds)).bind pMin).bind fun x => (some place_4).bind fun y => (pEq x y).bind asB).bind fun b => (if b = true then ((((((some (.list st_6)).bind fun d => (some []).bind fun ds => some (d :: ds)).bind pSorted).bind fun d => (some []).bind fun ds => some (d :: ds)).bind pTuple).bind fun d_9 => if szOk st_3.length then (some (st_3 ++ [d_9])) else none) else (some st_3)).bind fun (st_8 : List PyData) => (some st_8))))) found_2).bind fun st_3 => (((some (.list st_3)).bind fun d => (some []).bind fun ds => some (d :: ds)).bind pTuple))))
def m_between (word many : PyData) : Option PyData :=
  ((((some word).bind fun d => ((some many).bind fun d => (some []).bind fun ds => some (d :: ds)).bind fun ds => some (d :: ds)).bind (ap2 m_rings)).bind fun some__1 => ((((some some__1).bind fun d => (some []).bind fun ds => some (d :: ds)).bind pEnum).bind fun ds => (ds.foldlM (fun (st_2 : List (Key × PyData)) dd => (asPair dd).bind fun ab => (fun number_3 ring_4 => (((some ring_4).bind itemsOf).bind fun ds => (ds.foldlM (fun (st_5 : List (Key × PyData)) place_6 => ((some number_3).bind fun d => (some place_6).bind fun y => (asI y).bind fun n => if szOk st_5.length then (fun (owner_7 : List (Key × PyData)) => (some owner_7)) (putD st_5 (Sum.inl n) d) else none)) st_2).bind fun st_5 => (some st_5))) ab.1 ab.2) []).bind fun st_2 => (((((some (PyData.int 1)).bind fun d => (((some many).bind fun x => (some (PyData.int 1)).bind fun y => pAdd x y).bind fun d => (some []).bind fun ds => some (d :: ds)).bind fun ds => some (d :: ds)).bind fun ds => if ds.length = 2 then pRange ds else none).bind (compO (fun place_8 => (some true)) (fun place_8 => ((some place_8).bind fun y => (asI y).bind fun k => valD st_2 (Sum.inl k))))).bind fun here_9 => (((some word).bind itemsOf).bind fun ds => (ds.foldlM (fun (st_10 : (List (List Key × PyData)) × (List PyData)) part_11 => ((((some part_11).bind fun d => (some []).bind fun ds => some (d :: ds)).bind pAbs).bind fun k_12 => ((((((((some k_12).bind fun x => (some (PyData.int 1)).bind fun y => pSub x y).bind fun y => pIdx (.list st_10.2) y).bind fun d => (((some k_12).bind fun y => pIdx (.list st_10.2) y).bind fun d => (some []).bind fun ds => some (d :: ds)).bind fun ds => some (d :: ds)).bind pMin).bind fun d => ((((((some k_12).bind fun x => (some (PyData.int 1)).bind fun y => pSub x y).bind fun y => pIdx (.list st_10.2) y).bind fun d => (((some k_12).bind fun y => pIdx (.list st_10.2) y).bind fun d => (some []).bind fun ds => some (d :: ds)).bind fun ds => some (d :: ds)).bind pMax).bind fun d => (some []).bind fun ds => some (d :: ds)).bind fun ds => some (d :: ds)).bind keyI).bind fun pair_13 => ((((some pair_13).bind fun k => (some (PyData.int 0)).map fun z => (valD st_10.1 (kI k)).getD z).bind fun x => (((some part_11).bind fun d => (some []).bind fun ds => some (d :: ds)).bind (ap1 m_side_of)).bind fun y => pAdd x y).bind fun d => (some pair_13).bind fun n => if szOk st_10.1.length then (fun (counts_14 : List (List Key × PyData)) => (((((some k_12).bind fun y => pIdx (.list st_10.2) y).bind fun d => ((((some k_12).bind fun x => (some (PyData.int 1)).bind fun y => pSub x y).bind fun y => pIdx (.list st_10.2) y).bind fun d => (some []).bind fun ds => some (d :: ds)).bind fun ds => some (d :: ds)).bind mkTup).bind fun r => (asPair r).bind fun ab => ((some k_12).bind fun x => (some (PyData.int 1)).bind fun y => pSub x y).bind fun i1 => (ixD st_10.2 i1).bind fun j1 => (some k_12).bind fun i2 => (ixD st_10.2 i2).bind fun j2 => (fun here_15 => (some (counts_14, here_15))) ((st_10.2.set j1 ab.1).set j2 ab.2))) (putD st_10.1 (kI n) d) else none)))) ([], here_9)).bind fun st_10 => (((some []).bind szL).bind fun found_16 => ((((((some some__1).bind fun d => (some []).bind fun ds => some (d :: ds)).bind pLen).bind fun d => (some []).bind fun ds => some (d :: ds)).bind fun ds => if ds.length = 1 then pRange ds else none).bind fun ds => (ds.foldlM (fun (st_17 : List PyData) one_18 => (((((some one_18).bind fun x => (some (PyData.int 1)).bind fun y => pAdd x y).bind fun d => ((((some some__1).bind fun d => (some []).bind fun ds => some (d :: ds)).bind pLen).bind fun d => (some []).bind fun ds => some (d :: ds)).bind fun ds => some (d :: ds)).bind fun ds => if ds.length = 2 then pRange ds else none).bind fun ds => (ds.foldlM (fun (st_19 : List PyData) other_20 => ((((some one_18).bind fun d => ((some other_20).bind fun d => ((((((some one_18).bind fun d => ((some other_20).bind fun d => (some []).bind fun ds => some (d :: ds)).bind fun ds => some (d :: ds)).bind keyI).bind fun k => (some (PyData.int 0)).map fun z => (valD st_10.1 (kI k)).getD z).bind fun x => (some (PyData.int 2)).bind fun y => pFdiv x y).bind fun d => (some []).bind fun ds => some (d :: ds)).bind fun ds => some (d :: ds)).bind fun ds => some (d :: ds)).bind mkTup).bind fun d_21 => if szOk st_19.length then (some (st_19 ++ [d_21])) else none)) st_17).bind fun st_19 => (some st_19))) found_16).bind fun st_17 => (((some (.list st_17)).bind fun d => (some []).bind fun ds => some (d :: ds)).bind pTuple)))))))
def m_law_rings (word many : PyData) : Option PyData :=
  (((((some many).bind fun x => (some (PyData.int 1)).bind fun y => pAdd x y).bind fun d => (asI d).map fun i => (0, i)).bind fun ab => if rgSmall ab then some (.list (rgD ab.1 ab.2)) else none).bind fun goes_1 => (((some word).bind itemsOf).bind fun ds => (ds.foldlM (fun (st_2 : PyData) part_3 => ((((some part_3).bind fun d => (some []).bind fun ds => some (d :: ds)).bind pAbs).bind fun k_4 => ((some k_4).bind fun a => ((some k_4).bind fun x => (some (PyData.int 1)).bind fun y => pAdd x y).bind fun b => ((some k_4).bind fun x => (some (PyData.int 1)).bind fun y => pAdd x y).bind fun c => (some k_4).bind fun d => (asI a).bind fun i => (asI c).bind fun j => (fun (moved_5 : List (Key × PyData)) => ((((some st_2).bind itemsOf).bind (compL (fun place_7 => (some true)) (fun place_7 => ((some place_7).bind fun y => (some place_7).bind fun z => (asI y).map fun k => (valD moved_5 (Sum.inl k)).getD z)))).bind fun goes_6 => (some goes_6))) (putD (putD [] (Sum.inl i) b) (Sum.inl j) d)))) goes_1).bind fun st_2 => (((some []).bind szL).bind fun found_8 => ((((some (PyData.int 1)).bind fun d => (((some many).bind fun x => (some (PyData.int 1)).bind fun y => pAdd x y).bind fun d => (some []).bind fun ds => some (d :: ds)).bind fun ds => some (d :: ds)).bind fun ds => if ds.length = 2 then pRange ds else none).bind fun ds => (ds.foldlM (fun (st_9 : List PyData) place_10 => (((some []).bind szL).bind fun ring_11 => ((some place_10).bind fun at__12 => ((whileN (fun (st_13 : (List PyData) × PyData) => ((some st_13.2).bind fun x => (some (.list st_13.1)).bind fun y => (pNotIn x y).bind asB)) (fun (st_13 : (List PyData) × PyData) => ((some st_13.2).bind fun d_14 => if szOk st_13.1.length then (((some st_2).bind fun x => (some st_13.2).bind fun y => pIdx x y).bind fun at__15 => (some ((st_13.1 ++ [d_14]), at__15))) else none)) 1000 (ring_11, at__12)).bind fun st_13 => (((((some (.list st_13.1)).bind fun d => (some []).bind fun ds => some (d :: ds)).bind pSorted).bind fun x => (some (.list st_9)).bind fun y => (pNotIn x y).bind asB).bind fun b => (if b = true then ((((some (.list st_13.1)).bind fun d => (some []).bind fun ds => some (d :: ds)).bind pSorted).bind fun d_17 => if szOk st_9.length then (some (st_9 ++ [d_17])) else none) else (some st_9)).bind fun (st_16 : List PyData) => (some st_16)))))) found_8).bind fun st_9 => (((((some (.list st_9)).bind itemsOf).bind (compL (fun ring_18 => (some true)) (fun ring_18 => (((some ring_18).bind fun d => (some []).bind fun ds => some (d :: ds)).bind pTuple)))).bind fun d => (some []).bind fun ds => some (d :: ds)).bind pTuple)))))
def m_law_between (word many some_ : PyData) : Option PyData :=
  ((((some (PyData.int 1)).bind fun d => ((some many).bind fun x => (some (PyData.int 1)).bind fun y => pAdd x y).bind fun e => (asI d).bind fun i => (asI e).map fun j => (i, j)).bind fun ab => if rgSmall ab then some (.list (rgD ab.1 ab.2)) else none).bind fun here_1 => (((some word).bind itemsOf).bind fun ds => (ds.foldlM (fun (st_2 : (List (List Key × PyData)) × PyData) part_3 => ((((some part_3).bind fun d => (some []).bind fun ds => some (d :: ds)).bind pAbs).bind fun k_4 => (((some []).bind mkLst).bind fun pair_5 => ((((some st_2.2).bind fun d => (((some k_4).bind fun x => (some (PyData.int 1)).bind fun y => pSub x y).bind fun d => (asI d).map some).bind fun l => (((some k_4).bind fun x => (some (PyData.int 1)).bind fun y => pAdd x y).bind fun d => (asI d).map some).bind fun h => pCut d l h).bind itemsOf).bind fun ds => (ds.foldlM (fun (st_6 : PyData) place_7 => (((some st_6).bind fun x => ((((((some some_).bind fun d => (some []).bind fun ds => some (d :: ds)).bind pLen).bind fun d => (some []).bind fun ds => some (d :: ds)).bind fun ds => if ds.length = 1 then pRange ds else none).bind (compL (fun number_9 => ((some place_7).bind fun x => ((some some_).bind fun x => (some number_9).bind fun y => pIdx x y).bind fun y => (pIn x y).bind asB)) (fun number_9 => (some number_9)))).bind fun y => pAdd x y).bind fun pair_8 => (some pair_8))) pair_5).bind fun st_6 => ((((((((some st_6).bind fun d => (some []).bind fun ds => some (d :: ds)).bind pSorted).bind fun d => (some []).bind fun ds => some (d :: ds)).bind keyL).bind fun k => (some (PyData.int 0)).map fun z => (valD st_2.1 (kI k)).getD z).bind fun x => (((((some (PyData.int 1)).bind pNeg).bind fun d => ((some (PyData.int 1)).bind fun d => (some []).bind fun ds => some (d :: ds)).bind fun ds => some (d :: ds)).bind mkLst).bind fun x => ((((some part_3).bind fun x => (some (PyData.int 0)).bind fun y => pGt x y).bind fun d => (some []).bind fun ds => some (d :: ds)).bind pInt).bind fun y => pIdx x y).bind fun y => pAdd x y).bind fun d => (((((some st_6).bind fun d => (some []).bind fun ds => some (d :: ds)).bind pSorted).bind fun d => (some []).bind fun ds => some (d :: ds)).bind keyL).bind fun n => if szOk st_2.1.length then (fun (counts_10 : List (List Key × PyData)) => (((((some st_2.2).bind fun d => (some none).bind fun l => (((some k_4).bind fun x => (some (PyData.int 1)).bind fun y => pSub x y).bind fun d => (asI d).map some).bind fun h => pCut d l h).bind fun x => ((((some st_2.2).bind fun x => (some k_4).bind fun y => pIdx x y).bind fun d => (((some st_2.2).bind fun x => ((some k_4).bind fun x => (some (PyData.int 1)).bind fun y => pSub x y).bind fun y => pIdx x y).bind fun d => (some []).bind fun ds => some (d :: ds)).bind fun ds => some (d :: ds)).bind mkLst).bind fun y => pAdd x y).bind fun x => ((some st_2.2).bind fun d => (((some k_4).bind fun x => (some (PyData.int 1)).bind fun y => pAdd x y).bind fun d => (asI d).map some).bind fun l => (some none).bind fun h => pCut d l h).bind fun y => pAdd x y).bind fun here_11 => (some (counts_10, here_11)))) (putD st_2.1 (kI n) d) else none))))) ([], here_1)).bind fun st_2 => (((some []).bind szL).bind fun found_12 => ((((((some some_).bind fun d => (some []).bind fun ds => some (d :: ds)).bind pLen).bind fun d => (some []).bind fun ds => some (d :: ds)).bind fun ds => if ds.length = 1 then pRange ds else none).bind fun ds => (ds.foldlM (fun (st_13 : List PyData) one_14 => (((((some one_14).bind fun x => (some (PyData.int 1)).bind fun y => pAdd x y).bind fun d => ((((some some_).bind fun d => (some []).bind fun ds => some (d :: ds)).bind pLen).bind fun d => (some []).bind fun ds => some (d :: ds)).bind fun ds => some (d :: ds)).bind fun ds => if ds.length = 2 then pRange ds else none).bind fun ds => (ds.foldlM (fun (st_15 : List PyData) other_16 => ((((some one_14).bind fun d => ((some other_16).bind fun d => ((((((some one_14).bind fun d => ((some other_16).bind fun d => (some []).bind fun ds => some (d :: ds)).bind fun ds => some (d :: ds)).bind keyI).bind fun k => (some (PyData.int 0)).map fun z => (valD st_2.1 (kI k)).getD z).bind fun x => (some (PyData.int 2)).bind fun y => pFdiv x y).bind fun d => (some []).bind fun ds => some (d :: ds)).bind fun ds => some (d :: ds)).bind fun ds => some (d :: ds)).bind mkTup).bind fun d_17 => if szOk st_15.length then (some (st_15 ++ [d_17])) else none)) st_13).bind fun st_15 => (some st_15))) found_12).bind fun st_13 => (((some (.list st_13)).bind fun d => (some []).bind fun ds => some (d :: ds)).bind pTuple)))))
def m_law_changes (ahead behind many number : PyData) : Option PyData :=
  (((some (PyData.int 1)).bind fun x => (((some number).bind fun x => (some (PyData.int 2)).bind fun y => pMod x y).bind fun x => (some (PyData.int 2)).bind fun y => pMul x y).bind fun y => pSub x y).bind fun sign_1 => (((some sign_1).bind fun x => ((some (PyData.int 1)).bind fun x => (((some number).bind fun x => (some (PyData.int 2)).bind fun y => pFdiv x y).bind fun x => ((some many).bind fun x => (some (PyData.int 1)).bind fun y => pSub x y).bind fun y => pMod x y).bind fun y => pAdd x y).bind fun y => pMul x y).bind fun k_2 => (((((((some ahead).bind fun x => (some behind).bind fun y => pAdd x y).bind fun d => ((((some ahead).bind fun x => (((some k_2).bind fun d => (((some k_2).bind pNeg).bind fun d => (some []).bind fun ds => some (d :: ds)).bind fun ds => some (d :: ds)).bind mkTup).bind fun y => pAdd x y).bind fun x => (some behind).bind fun y => pAdd x y).bind fun d => (some []).bind fun ds => some (d :: ds)).bind fun ds => some (d :: ds)).bind mkTup).bind fun d => (some []).bind fun ds => some (d :: ds)).bind szL).bind fun found_3 => (((some many).bind fun x => (some (PyData.int 2)).bind fun y => (pGt x y).bind asB).bind fun b => (if b = true then (((some sign_1).bind fun x => ((some (PyData.int 1)).bind fun x => (((some number).bind fun x => (some (PyData.int 24)).bind fun y => pFdiv x y).bind fun x => ((some many).bind fun x => (some (PyData.int 2)).bind fun y => pSub x y).bind fun y => pMod x y).bind fun y => pAdd x y).bind fun y => pMul x y).bind fun j_5 => ((((((some ahead).bind fun x => (((some j_5).bind fun d => (((some j_5).bind fun x => (some sign_1).bind fun y => pAdd x y).bind fun d => ((some j_5).bind fun d => (some []).bind fun ds => some (d :: ds)).bind fun ds => some (d :: ds)).bind fun ds => some (d :: ds)).bind mkTup).bind fun y => pAdd x y).bind fun x => (some behind).bind fun y => pAdd x y).bind fun d => ((((some ahead).bind fun x => ((((some j_5).bind fun x => (some sign_1).bind fun y => pAdd x y).bind fun d => ((some j_5).bind fun d => (((some j_5).bind fun x => (some sign_1).bind fun y => pAdd x y).bind fun d => (some []).bind fun ds => some (d :: ds)).bind fun ds => some (d :: ds)).bind fun ds => some (d :: ds)).bind mkTup).bind fun y => pAdd x y).bind fun x => (some behind).bind fun y => pAdd x y).bind fun d => (some []).bind fun ds => some (d :: ds)).bind fun ds => some (d :: ds)).bind mkTup).bind fun d_6 => if szOk found_3.length then (some (found_3 ++ [d_6])) else none)) else (some found_3)).bind fun (st_4 : List PyData) => (((some many).bind fun x => (some (PyData.int 3)).bind fun y => (pGt x y).bind asB).bind fun b => (if b = true then ((((((some ahead).bind fun x => (((some sign_1).bind fun d => ((some (PyData.int 3)).bind fun d => (some []).bind fun ds => some (d :: ds)).bind fun ds => some (d :: ds)).bind mkTup).bind fun y => pAdd x y).bind fun x => (some behind).bind fun y => pAdd x y).bind fun d => ((((some ahead).bind fun x => (((some (PyData.int 3)).bind fun d => ((some sign_1).bind fun d => (some []).bind fun ds => some (d :: ds)).bind fun ds => some (d :: ds)).bind mkTup).bind fun y => pAdd x y).bind fun x => (some behind).bind fun y => pAdd x y).bind fun d => (some []).bind fun ds => some (d :: ds)).bind fun ds => some (d :: ds)).bind mkTup).bind fun d_8 => if szOk st_4.length then (some (st_4 ++ [d_8])) else none) else (some st_4)).bind fun (st_7 : List PyData) => (some (.list st_7)))))))
def m_turned_by (by_ t : PyData) : Option PyData :=
  (((((some (PyData.int 1)).bind fun d => ((some by_).bind fun d => (some []).bind fun ds => some (d :: ds)).bind fun ds => some (d :: ds)).bind fun ds => if ds.length = 2 then pRange ds else none).bind (compL (fun number_1 => ((((some number_1).bind fun x => (some t).bind fun y => pMul x y).bind fun x => (some by_).bind fun y => pMod x y).bind fun x => (some (PyData.int 1)).bind fun y => (pEq x y).bind asB)) (fun number_1 => (some number_1)))).bind fun x => (some (PyData.int 0)).bind fun y => pIdx x y)
def m_crossed_row (row k by_ t : PyData) : Option PyData :=
  (((((some k).bind fun d => (some []).bind fun ds => some (d :: ds)).bind pAbs).bind fun x => (some (PyData.int 1)).bind fun y => pSub x y).bind fun at__1 => (((some row).bind fun x => (some at__1).bind fun y => pIdx x y).bind fun left_2 => ((some row).bind fun x => ((some at__1).bind fun x => (some (PyData.int 1)).bind fun y => pAdd x y).bind fun y => pIdx x y).bind fun right_3 => (((some k).bind fun x => (some (PyData.int 0)).bind fun y => (pGt x y).bind asB).bind fun b => (if b = true then ((((((some left_2).bind fun x => ((some (PyData.int 1)).bind fun x => (some t).bind fun y => pSub x y).bind fun y => pMul x y).bind fun x => (some right_3).bind fun y => pAdd x y).bind fun d => (((some left_2).bind fun x => (some t).bind fun y => pMul x y).bind fun d => (some []).bind fun ds => some (d :: ds)).bind fun ds => some (d :: ds)).bind mkTup).bind fun pair_5 => (some pair_5)) else ((((some by_).bind fun d => ((some t).bind fun d => (some []).bind fun ds => some (d :: ds)).bind fun ds => some (d :: ds)).bind (ap2 m_turned_by)).bind fun back_6 => (((((some right_3).bind fun x => (some back_6).bind fun y => pMul x y).bind fun d => (((some left_2).bind fun x => ((some right_3).bind fun x => ((some (PyData.int 1)).bind fun x => (some back_6).bind fun y => pSub x y).bind fun y => pMul x y).bind fun y => pAdd x y).bind fun d => (some []).bind fun ds => some (d :: ds)).bind fun ds => some (d :: ds)).bind mkTup).bind fun pair_7 => (some pair_7)))).bind fun (st_4 : PyData) => ((((some row).bind fun d => (some none).bind fun l => ((some at__1).bind fun d => (asI d).map some).bind fun h => pCut d l h).bind fun x => (((((some st_4).bind fun x => (some (PyData.int 0)).bind fun y => pIdx x y).bind fun x => (some by_).bind fun y => pMod x y).bind fun d => ((((some st_4).bind fun x => (some (PyData.int 1)).bind fun y => pIdx x y).bind fun x => (some by_).bind fun y => pMod x y).bind fun d => (some []).bind fun ds => some (d :: ds)).bind fun ds => some (d :: ds)).bind mkTup).bind fun y => pAdd x y).bind fun x => ((some row).bind fun d => (((some at__1).bind fun x => (some (PyData.int 2)).bind fun y => pAdd x y).bind fun d => (asI d).map some).bind fun l => (some none).bind fun h => pCut d l h).bind fun y => pAdd x y))))
def m_table_of (word many by_ t : PyData) : Option PyData :=
  (((((some many).bind fun d => (some []).bind fun ds => some (d :: ds)).bind fun ds => if ds.length = 1 then pRange ds else none).bind (compL (fun one_2 => (some true)) (fun one_2 => ((((((some many).bind fun d => (some []).bind fun ds => some (d :: ds)).bind fun ds => if ds.length = 1 then pRange ds else none).bind (compL (fun other_3 => (some true)) (fun other_3 => ((((some one_2).bind fun x => (some other_3).bind fun y => pEq x y).bind fun d => (some []).bind fun ds => some (d :: ds)).bind pInt)))).bind fun d => (some []).bind fun ds => some (d :: ds)).bind pTuple)))).bind fun rows_1 => (((some word).bind itemsOf).bind fun ds => (ds.foldlM (fun (st_4 : PyData) k_5 => ((((some st_4).bind itemsOf).bind (compL (fun row_7 => (some true)) (fun row_7 => (((some row_7).bind fun d => ((some k_5).bind fun d => ((some by_).bind fun d => ((some t).bind fun d => (some []).bind fun ds => some (d :: ds)).bind fun ds => some (d :: ds)).bind fun ds => some (d :: ds)).bind fun ds => some (d :: ds)).bind (ap4 m_crossed_row))))).bind fun rows_6 => (some rows_6))) rows_1).bind fun st_4 => (((some st_4).bind fun d => (some []).bind fun ds => some (d :: ds)).bind pTuple)))
def m_multiplied (one other by_ : PyData) : Option PyData :=
  (((some []).bind szL).bind fun found_1 => (((some one).bind itemsOf).bind fun ds => (ds.foldlM (fun (st_2 : List PyData) row_3 => (((some []).bind szL).bind fun line_4 => ((((((some other).bind fun d => (some []).bind fun ds => some (d :: ds)).bind pLen).bind fun d => (some []).bind fun ds => some (d :: ds)).bind fun ds => if ds.length = 1 then pRange ds else none).bind fun ds => (ds.foldlM (fun (st_5 : List PyData) at__6 => ((((((((((some other).bind fun d => (some []).bind fun ds => some (d :: ds)).bind pLen).bind fun d => (some []).bind fun ds => some (d :: ds)).bind fun ds => if ds.length = 1 then pRange ds else none).bind (compL (fun k_7 => (some true)) (fun k_7 => (((some row_3).bind fun x => (some k_7).bind fun y => pIdx x y).bind fun x => (((some other).bind fun x => (some k_7).bind fun y => pIdx x y).bind fun x => (some at__6).bind fun y => pIdx x y).bind fun y => pMul x y)))).bind fun d => (some []).bind fun ds => some (d :: ds)).bind pSum).bind fun x => (some by_).bind fun y => pMod x y).bind fun d_8 => if szOk st_5.length then (some (st_5 ++ [d_8])) else none)) line_4).bind fun st_5 => ((((some (.list st_5)).bind fun d => (some []).bind fun ds => some (d :: ds)).bind pTuple).bind fun d_9 => if szOk st_2.length then (some (st_2 ++ [d_9])) else none)))) found_1).bind fun st_2 => (((some (.list st_2)).bind fun d => (some []).bind fun ds => some (d :: ds)).bind pTuple)))
def m_law_table (word many by_ t : PyData) : Option PyData :=
  (((((some many).bind fun d => (some []).bind fun ds => some (d :: ds)).bind fun ds => if ds.length = 1 then pRange ds else none).bind (compOO (fun one_1 => (some true)) (fun one_1 => ((((some many).bind fun d => (some []).bind fun ds => some (d :: ds)).bind fun ds => if ds.length = 1 then pRange ds else none).bind (compO (fun other_2 => (some true)) (fun other_2 => ((((some one_1).bind fun x => (some other_2).bind fun y => pEq x y).bind fun d => (some []).bind fun ds => some (d :: ds)).bind pInt))))))).bind fun rows_3 => ((((((some (PyData.int 1)).bind fun d => ((some by_).bind fun d => (some []).bind fun ds => some (d :: ds)).bind fun ds => some (d :: ds)).bind fun ds => if ds.length = 2 then pRange ds else none).bind (compL (fun number_5 => ((((some number_5).bind fun x => (some t).bind fun y => pMul x y).bind fun x => (some by_).bind fun y => pMod x y).bind fun x => (some (PyData.int 1)).bind fun y => (pEq x y).bind asB)) (fun number_5 => (some number_5)))).bind fun x => (some (PyData.int 0)).bind fun y => pIdx x y).bind fun back_4 => (((some word).bind itemsOf).bind fun ds => (ds.foldlM (fun (st_6 : List (List PyData)) part_7 => ((((some part_7).bind fun d => (some []).bind fun ds => some (d :: ds)).bind pAbs).bind fun k_8 => ((st_6.mapM (fun (row_11 : List PyData) => ((((some k_8).bind fun x => (some (PyData.int 1)).bind fun y => pSub x y).bind fun y => pIdx (.list row_11) y).bind fun left_13 => ((some k_8).bind fun y => pIdx (.list row_11) y).bind fun right_14 => ((((((some left_13).bind fun x => ((some (PyData.int 1)).bind fun x => (some t).bind fun y => pSub x y).bind fun y => pMul x y).bind fun x => (some right_14).bind fun y => pAdd x y).bind fun d => (((some left_13).bind fun x => (some t).bind fun y => pMul x y).bind fun d => (some []).bind fun ds => some (d :: ds)).bind fun ds => some (d :: ds)).bind mkTup).bind fun pair_15 => (((some part_7).bind fun x => (some (PyData.int 0)).bind fun y => (pLt x y).bind asB).bind fun b => (if b = true then (((((some right_14).bind fun x => (some back_4).bind fun y => pMul x y).bind fun d => (((some left_13).bind fun x => ((some right_14).bind fun x => ((some (PyData.int 1)).bind fun x => (some back_4).bind fun y => pSub x y).bind fun y => pMul x y).bind fun y => pAdd x y).bind fun d => (some []).bind fun ds => some (d :: ds)).bind fun ds => some (d :: ds)).bind mkTup).bind fun pair_17 => (some pair_17)) else (some pair_15)).bind fun (st_16 : PyData) => ((((some st_16).bind fun x => (some (PyData.int 0)).bind fun y => pIdx x y).bind fun x => (some by_).bind fun y => pMod x y).bind fun d => ((some k_8).bind fun x => (some (PyData.int 1)).bind fun y => pSub x y).bind fun i1 => (ixD row_11 i1).bind fun j1 => (fun (row_18 : List PyData) => ((((some st_16).bind fun x => (some (PyData.int 1)).bind fun y => pIdx x y).bind fun x => (some by_).bind fun y => pMod x y).bind fun d => (some k_8).bind fun i1 => (ixD row_18 i1).bind fun j1 => (fun (row_19 : List PyData) => (some row_19)) (row_18.set j1 d))) (row_11.set j1 d))))))).bind fun rows_12 => (some rows_12)))) rows_3).bind fun st_6 => (((((some (.list (st_6.map PyData.list))).bind itemsOf).bind (compL (fun row_20 => (some true)) (fun row_20 => (((some row_20).bind fun d => (some []).bind fun ds => some (d :: ds)).bind pTuple)))).bind fun d => (some []).bind fun ds => some (d :: ds)).bind pTuple))))
def m_law_by (number : PyData) : Option PyData :=
  (((((some (PyData.int 2)).bind fun d => ((some (PyData.int 3)).bind fun d => ((some (PyData.int 5)).bind fun d => ((some (PyData.int 7)).bind fun d => ((some (PyData.int 11)).bind fun d => ((some (PyData.int 13)).bind fun d => (some []).bind fun ds => some (d :: ds)).bind fun ds => some (d :: ds)).bind fun ds => some (d :: ds)).bind fun ds => some (d :: ds)).bind fun ds => some (d :: ds)).bind fun ds => some (d :: ds)).bind mkTup).bind fun x => ((some number).bind fun x => (some (PyData.int 6)).bind fun y => pMod x y).bind fun y => pIdx x y).bind fun by__1 => (((some by__1).bind fun d => (((some (PyData.int 1)).bind fun x => (((some number).bind fun x => (some (PyData.int 6)).bind fun y => pFdiv x y).bind fun x => ((some by__1).bind fun x => (some (PyData.int 1)).bind fun y => pSub x y).bind fun y => pMod x y).bind fun y => pAdd x y).bind fun d => (some []).bind fun ds => some (d :: ds)).bind fun ds => some (d :: ds)).bind mkTup))
def m_law_times (one other by_ : PyData) : Option PyData :=
  (((some []).bind szL).bind fun found_1 => (((some one).bind itemsOf).bind fun ds => (ds.foldlM (fun (st_2 : List PyData) row_3 => (((some []).bind szL).bind fun line_4 => ((((((some row_3).bind fun d => (some []).bind fun ds => some (d :: ds)).bind pLen).bind fun d => (some []).bind fun ds => some (d :: ds)).bind fun ds => if ds.length = 1 then pRange ds else none).bind fun ds => (ds.foldlM (fun (st_5 : List PyData) at__6 => ((((((((((some row_3).bind fun d => (some []).bind fun ds => some (d :: ds)).bind pLen).bind fun d => (some []).bind fun ds => some (d :: ds)).bind fun ds => if ds.length = 1 then pRange ds else none).bind (compL (fun k_7 => (some true)) (fun k_7 => (((some row_3).bind fun x => (some k_7).bind fun y => pIdx x y).bind fun x => (((some other).bind fun x => (some k_7).bind fun y => pIdx x y).bind fun x => (some at__6).bind fun y => pIdx x y).bind fun y => pMul x y)))).bind fun d => (some []).bind fun ds => some (d :: ds)).bind pSum).bind fun x => (some by_).bind fun y => pMod x y).bind fun d_8 => if szOk st_5.length then (some (st_5 ++ [d_8])) else none)) line_4).bind fun st_5 => ((((some (.list st_5)).bind fun d => (some []).bind fun ds => some (d :: ds)).bind pTuple).bind fun d_9 => if szOk st_2.length then (some (st_2 ++ [d_9])) else none)))) found_1).bind fun st_2 => (((some (.list st_2)).bind fun d => (some []).bind fun ds => some (d :: ds)).bind pTuple)))
def m_carried (word colours by_ : PyData) : Option PyData :=
  ((((some colours).bind fun d => (some []).bind fun ds => some (d :: ds)).bind pListL).bind fun here_1 => (((some word).bind itemsOf).bind fun ds => (ds.foldlM (fun (st_2 : List PyData) k_3 => (((((some k_3).bind fun d => (some []).bind fun ds => some (d :: ds)).bind pAbs).bind fun x => (some (PyData.int 1)).bind fun y => pSub x y).bind fun at__4 => (((some at__4).bind fun y => pIdx (.list st_2) y).bind fun left_5 => (((some at__4).bind fun x => (some (PyData.int 1)).bind fun y => pAdd x y).bind fun y => pIdx (.list st_2) y).bind fun right_6 => (((some k_3).bind fun x => (some (PyData.int 0)).bind fun y => (pGt x y).bind asB).bind fun b => (if b = true then (((((((some (PyData.int 2)).bind fun x => (some left_5).bind fun y => pMul x y).bind fun x => (some right_6).bind fun y => pSub x y).bind fun x => (some by_).bind fun y => pMod x y).bind fun d => ((some left_5).bind fun d => (some []).bind fun ds => some (d :: ds)).bind fun ds => some (d :: ds)).bind mkTup).bind fun r => (asPair r).bind fun ab => (some at__4).bind fun i1 => (ixD st_2 i1).bind fun j1 => ((some at__4).bind fun x => (some (PyData.int 1)).bind fun y => pAdd x y).bind fun i2 => (ixD st_2 i2).bind fun j2 => (fun here_8 => (some here_8)) ((st_2.set j1 ab.1).set j2 ab.2)) else ((((some right_6).bind fun d => (((((some (PyData.int 2)).bind fun x => (some right_6).bind fun y => pMul x y).bind fun x => (some left_5).bind fun y => pSub x y).bind fun x => (some by_).bind fun y => pMod x y).bind fun d => (some []).bind fun ds => some (d :: ds)).bind fun ds => some (d :: ds)).bind mkTup).bind fun r => (asPair r).bind fun ab => (some at__4).bind fun i1 => (ixD st_2 i1).bind fun j1 => ((some at__4).bind fun x => (some (PyData.int 1)).bind fun y => pAdd x y).bind fun i2 => (ixD st_2 i2).bind fun j2 => (fun here_9 => (some here_9)) ((st_2.set j1 ab.1).set j2 ab.2))).bind fun (st_7 : List PyData) => (some st_7))))) here_1).bind fun st_2 => (((some (.list st_2)).bind fun d => (some []).bind fun ds => some (d :: ds)).bind pTuple)))
def m_count_kept (word many by_ : PyData) : Option PyData :=
  (((((some []).bind mkTup).bind fun d => (some []).bind fun ds => some (d :: ds)).bind mkLst).bind fun every_1 => ((((some many).bind fun d => (some []).bind fun ds => some (d :: ds)).bind fun ds => if ds.length = 1 then pRange ds else none).bind fun ds => (ds.foldlM (fun (st_2 : PyData) turn_3 => (((some []).bind mkLst).bind fun longer_4 => (((some st_2).bind itemsOf).bind fun ds => (ds.foldlM (fun (st_5 : PyData) some__6 => (((some st_5).bind fun x => ((((some by_).bind fun d => (some []).bind fun ds => some (d :: ds)).bind fun ds => if ds.length = 1 then pRange ds else none).bind (compL (fun colour_8 => (some true)) (fun colour_8 => ((some some__6).bind fun x => (((some colour_8).bind fun d => (some []).bind fun ds => some (d :: ds)).bind mkTup).bind fun y => pAdd x y)))).bind fun y => pAdd x y).bind fun longer_7 => (some longer_7))) longer_4).bind fun st_5 => ((some st_5).bind fun every_9 => (some every_9))))) every_1).bind fun st_2 => (((((some st_2).bind itemsOf).bind (compL (fun some__10 => ((((some word).bind fun d => ((some some__10).bind fun d => ((some by_).bind fun d => (some []).bind fun ds => some (d :: ds)).bind fun ds => some (d :: ds)).bind fun ds => some (d :: ds)).bind (ap3 m_carried)).bind fun x => (some some__10).bind fun y => (pEq x y).bind asB)) (fun some__10 => (some some__10)))).bind fun d => (some []).bind fun ds => some (d :: ds)).bind pLen)))
def m_law_coloured (word colours by_ : PyData) : Option PyData :=
  ((((some colours).bind fun d => (some []).bind fun ds => some (d :: ds)).bind pListL).bind fun here_1 => (((some word).bind itemsOf).bind fun ds => (ds.foldlM (fun (st_2 : List PyData) part_3 => ((((some part_3).bind fun d => (some []).bind fun ds => some (d :: ds)).bind pAbs).bind fun k_4 => ((((some k_4).bind fun x => (some (PyData.int 1)).bind fun y => pSub x y).bind fun y => pIdx (.list st_2) y).bind fun left_5 => ((some k_4).bind fun y => pIdx (.list st_2) y).bind fun right_6 => (((some part_3).bind fun x => (some (PyData.int 0)).bind fun y => (pGt x y).bind asB).bind fun b => (if b = true then (((((((some left_5).bind fun x => (some left_5).bind fun y => pAdd x y).bind fun x => (some right_6).bind fun y => pSub x y).bind fun x => (some by_).bind fun y => pMod x y).bind fun d => ((some left_5).bind fun d => (some []).bind fun ds => some (d :: ds)).bind fun ds => some (d :: ds)).bind mkTup).bind fun r => (asPair r).bind fun ab => ((some k_4).bind fun x => (some (PyData.int 1)).bind fun y => pSub x y).bind fun i1 => (ixD st_2 i1).bind fun j1 => (some k_4).bind fun i2 => (ixD st_2 i2).bind fun j2 => (fun here_8 => (some here_8)) ((st_2.set j1 ab.1).set j2 ab.2)) else ((((some right_6).bind fun d => (((((some right_6).bind fun x => (some right_6).bind fun y => pAdd x y).bind fun x => (some left_5).bind fun y => pSub x y).bind fun x => (some by_).bind fun y => pMod x y).bind fun d => (some []).bind fun ds => some (d :: ds)).bind fun ds => some (d :: ds)).bind mkTup).bind fun r => (asPair r).bind fun ab => ((some k_4).bind fun x => (some (PyData.int 1)).bind fun y => pSub x y).bind fun i1 => (ixD st_2 i1).bind fun j1 => (some k_4).bind fun i2 => (ixD st_2 i2).bind fun j2 => (fun here_9 => (some here_9)) ((st_2.set j1 ab.1).set j2 ab.2))).bind fun (st_7 : List PyData) => (some st_7))))) here_1).bind fun st_2 => (((some (.list st_2)).bind fun d => (some []).bind fun ds => some (d :: ds)).bind pTuple)))
def m_law_kept (word many by_ : PyData) : Option PyData :=
  ((some (PyData.int 0)).bind fun found_1 => ((((some []).bind mkTup).bind fun d => (some []).bind fun ds => some (d :: ds)).bind mkLst).bind fun every_2 => ((((some many).bind fun d => (some []).bind fun ds => some (d :: ds)).bind fun ds => if ds.length = 1 then pRange ds else none).bind fun ds => (ds.foldlM (fun (st_3 : PyData) k_4 => (((some []).bind mkLst).bind fun longer_5 => (((some st_3).bind itemsOf).bind fun ds => (ds.foldlM (fun (st_6 : PyData) some__7 => (((some st_6).bind fun x => ((((some by_).bind fun d => (some []).bind fun ds => some (d :: ds)).bind fun ds => if ds.length = 1 then pRange ds else none).bind (compL (fun colour_9 => (some true)) (fun colour_9 => ((some some__7).bind fun x => (((some colour_9).bind fun d => (some []).bind fun ds => some (d :: ds)).bind mkTup).bind fun y => pAdd x y)))).bind fun y => pAdd x y).bind fun longer_8 => (some longer_8))) longer_5).bind fun st_6 => ((some st_6).bind fun every_10 => (some every_10))))) every_2).bind fun st_3 => (((((some st_3).bind itemsOf).bind (compL (fun some__11 => ((((some word).bind fun d => ((some some__11).bind fun d => ((some by_).bind fun d => (some []).bind fun ds => some (d :: ds)).bind fun ds => some (d :: ds)).bind fun ds => some (d :: ds)).bind (ap3 m_law_coloured)).bind fun x => (some some__11).bind fun y => (pEq x y).bind asB)) (fun some__11 => (some some__11)))).bind fun d => (some []).bind fun ds => some (d :: ds)).bind pLen)))
def m_hanging (word many : PyData) : Option PyData :=
  ((((some (PyData.int 1)).bind fun d => ((some many).bind fun x => (some (PyData.int 1)).bind fun y => pAdd x y).bind fun e => (asI d).bind fun i => (asI e).map fun j => (i, j)).bind fun ab => if rgSmall ab then some (rgD ab.1 ab.2) else none).bind fun here_1 => (((some word).bind itemsOf).bind fun ds => (ds.foldlM (fun (st_2 : List PyData) k_3 => (((((some k_3).bind fun d => (some []).bind fun ds => some (d :: ds)).bind pAbs).bind fun x => (some (PyData.int 1)).bind fun y => pSub x y).bind fun at__4 => ((((((some at__4).bind fun x => (some (PyData.int 1)).bind fun y => pAdd x y).bind fun y => pIdx (.list st_2) y).bind fun d => (((some at__4).bind fun y => pIdx (.list st_2) y).bind fun d => (some []).bind fun ds => some (d :: ds)).bind fun ds => some (d :: ds)).bind mkTup).bind fun r => (asPair r).bind fun ab => (some at__4).bind fun i1 => (ixD st_2 i1).bind fun j1 => ((some at__4).bind fun x => (some (PyData.int 1)).bind fun y => pAdd x y).bind fun i2 => (ixD st_2 i2).bind fun j2 => (fun here_5 => (some here_5)) ((st_2.set j1 ab.1).set j2 ab.2)))) here_1).bind fun st_2 => (((some (.list st_2)).bind fun d => (some []).bind fun ds => some (d :: ds)).bind pTuple)))
def m_picked (word many some_ : PyData) : Option PyData :=
  ((((some (PyData.int 1)).bind fun d => ((some many).bind fun x => (some (PyData.int 1)).bind fun y => pAdd x y).bind fun e => (asI d).bind fun i => (asI e).map fun j => (i, j)).bind fun ab => if rgSmall ab then some (rgD ab.1 ab.2) else none).bind fun here_1 => (((some []).bind mkTup).bind fun found_2 => (((some word).bind itemsOf).bind fun ds => (ds.foldlM (fun (st_3 : PyData × (List PyData)) k_4 => (((((some k_4).bind fun d => (some []).bind fun ds => some (d :: ds)).bind pAbs).bind fun x => (some (PyData.int 1)).bind fun y => pSub x y).bind fun at__5 => (((((some at__5).bind fun y => pIdx (.list st_3.2) y).bind fun x => (some some_).bind fun y => (pIn x y).bind asB).bind fun c => if c = true then ((((some at__5).bind fun x => (some (PyData.int 1)).bind fun y => pAdd x y).bind fun y => pIdx (.list st_3.2) y).bind fun x => (some some_).bind fun y => (pIn x y).bind asB) else some false).bind fun b => (if b = true then ((((((((some (.list st_3.2)).bind fun d => (some none).bind fun l => (((some at__5).bind fun x => (some (PyData.int 1)).bind fun y => pAdd x y).bind fun d => (asI d).map some).bind fun h => pCut d l h).bind itemsOf).bind (compL (fun strand_8 => ((some strand_8).bind fun x => (some some_).bind fun y => (pIn x y).bind asB)) (fun strand_8 => (some strand_8)))).bind fun d => (some []).bind fun ds => some (d :: ds)).bind pLen).bind scalar).bind fun place_7 => (((some st_3.1).bind fun x => ((((some place_7).bind fun x => ((some k_4).bind fun x => (((some k_4).bind fun d => (some []).bind fun ds => some (d :: ds)).bind pAbs).bind fun y => pFdiv x y).bind fun y => pMul x y).bind fun d => (some []).bind fun ds => some (d :: ds)).bind mkTup).bind fun y => pAdd x y).bind fun found_9 => (some found_9))) else (some st_3.1)).bind fun (st_6 : PyData) => ((((((some at__5).bind fun x => (some (PyData.int 1)).bind fun y => pAdd x y).bind fun y => pIdx (.list st_3.2) y).bind fun d => (((some at__5).bind fun y => pIdx (.list st_3.2) y).bind fun d => (some []).bind fun ds => some (d :: ds)).bind fun ds => some (d :: ds)).bind mkTup).bind fun r => (asPair r).bind fun ab => (some at__5).bind fun i1 => (ixD st_3.2 i1).bind fun j1 => ((some at__5).bind fun x => (some (PyData.int 1)).bind fun y => pAdd x y).bind fun i2 => (ixD st_3.2 i2).bind fun j2 => (fun here_10 => (some (st_6, here_10))) ((st_3.2.set j1 ab.1).set j2 ab.2))))) (found_2, here_1)).bind fun st_3 => (some st_3.1))))
def m_is_pure (word many : PyData) : Option PyData :=
  ((((some word).bind fun d => ((some many).bind fun d => (some []).bind fun ds => some (d :: ds)).bind fun ds => some (d :: ds)).bind (ap2 m_order_of)).bind fun x => (((some (PyData.int 1)).bind fun d => ((some many).bind fun x => (some (PyData.int 1)).bind fun y => pAdd x y).bind fun e => (asI d).bind fun i => (asI e).map fun j => (i, j)).bind fun ab => if rgSmall ab then some (.tuple (rgD ab.1 ab.2)) else none).bind fun y => pEq x y)
def m_crossings (word many : PyData) : Option PyData :=
  ((((some many).bind fun d => (asI d).map fun i => (0, i)).bind fun ab => if rgSmall ab then some (rgD ab.1 ab.2) else none).bind fun here_1 => (((((some many).bind fun d => (some []).bind fun ds => some (d :: ds)).bind fun ds => if ds.length = 1 then pRange ds else none).bind (compOO (fun strand_2 => (some true)) (fun strand_2 => ((((some (PyData.int 0)).bind fun d => (some []).bind fun ds => some (d :: ds)).bind mkLst).bind fun x => (some many).bind fun y => pRepL x y)))).bind fun rows_3 => (((some word).bind itemsOf).bind fun ds => (ds.foldlM (fun (st_4 : (List (List PyData)) × (List PyData)) k_5 => (((((some k_5).bind fun d => (some []).bind fun ds => some (d :: ds)).bind pAbs).bind fun x => (some (PyData.int 1)).bind fun y => pSub x y).bind fun at__6 => (((some at__6).bind fun y => pIdx (.list st_4.2) y).bind fun one_7 => (((some at__6).bind fun x => (some (PyData.int 1)).bind fun y => pAdd x y).bind fun y => pIdx (.list st_4.2) y).bind fun other_8 => ((some one_7).bind fun x1 => (ixR st_4.1.length x1).bind fun j1 => st_4.1[j1]?.bind fun row => (some other_8).bind fun y1 => (ixR row.length y1).bind fun j2 => row[j2]?.bind fun old => ((some k_5).bind fun x => (((some k_5).bind fun d => (some []).bind fun ds => some (d :: ds)).bind pAbs).bind fun y => pFdiv x y).bind fun z => (pAddI old z).bind fun nw => (fun rows_9 => ((some other_8).bind fun x1 => (ixR rows_9.length x1).bind fun j1 => rows_9[j1]?.bind fun row => (some one_7).bind fun y1 => (ixR row.length y1).bind fun j2 => row[j2]?.bind fun old => ((some k_5).bind fun x => (((some k_5).bind fun d => (some []).bind fun ds => some (d :: ds)).bind pAbs).bind fun y => pFdiv x y).bind fun z => (pAddI old z).bind fun nw => (fun rows_10 => ((((some other_8).bind fun d => ((some one_7).bind fun d => (some []).bind fun ds => some (d :: ds)).bind fun ds => some (d :: ds)).bind mkTup).bind fun r => (asPair r).bind fun ab => (some at__6).bind fun i1 => (ixD st_4.2 i1).bind fun j1 => ((some at__6).bind fun x => (some (PyData.int 1)).bind fun y => pAdd x y).bind fun i2 => (ixD st_4.2 i2).bind fun j2 => (fun here_11 => (some (rows_10, here_11))) ((st_4.2.set j1 ab.1).set j2 ab.2))) (rows_9.set j1 (row.set j2 nw)))) (st_4.1.set j1 (row.set j2 nw)))))) (rows_3, here_1)).bind fun st_4 => (((((some (.list (st_4.1.map PyData.list))).bind itemsOf).bind (compL (fun row_12 => (some true)) (fun row_12 => (((some row_12).bind fun d => (some []).bind fun ds => some (d :: ds)).bind pTuple)))).bind fun d => (some []).bind fun ds => some (d :: ds)).bind pTuple))))
def m_law_hanging (word many : PyData) : Option PyData :=
  ((((some (PyData.int 1)).bind fun d => ((some many).bind fun x => (some (PyData.int 1)).bind fun y => pAdd x y).bind fun e => (asI d).bind fun i => (asI e).map fun j => (i, j)).bind fun ab => if rgSmall ab then some (.tuple (rgD ab.1 ab.2)) else none).bind fun here_1 => (((some word).bind itemsOf).bind fun ds => (ds.foldlM (fun (st_2 : PyData) part_3 => ((((some part_3).bind fun d => (some []).bind fun ds => some (d :: ds)).bind pAbs).bind fun k_4 => (((((some st_2).bind fun d => (some none).bind fun l => (((some k_4).bind fun x => (some (PyData.int 1)).bind fun y => pSub x y).bind fun d => (asI d).map some).bind fun h => pCut d l h).bind fun x => ((((some st_2).bind fun x => (some k_4).bind fun y => pIdx x y).bind fun d => (((some st_2).bind fun x => ((some k_4).bind fun x => (some (PyData.int 1)).bind fun y => pSub x y).bind fun y => pIdx x y).bind fun d => (some []).bind fun ds => some (d :: ds)).bind fun ds => some (d :: ds)).bind mkTup).bind fun y => pAdd x y).bind fun x => ((some st_2).bind fun d => (((some k_4).bind fun x => (some (PyData.int 1)).bind fun y => pAdd x y).bind fun d => (asI d).map some).bind fun l => (some none).bind fun h => pCut d l h).bind fun y => pAdd x y).bind fun here_5 => (some here_5)))) here_1).bind fun st_2 => (some st_2)))
def m_law_picked (word many some_ : PyData) : Option PyData :=
  (((some []).bind mkTup).bind fun found_1 => ((((some word).bind fun d => (some []).bind fun ds => some (d :: ds)).bind pEnum).bind fun ds => (ds.foldlM (fun (st_2 : PyData) dd => (asPair dd).bind fun ab => (fun k_3 part_4 => (((((some word).bind fun d => (some none).bind fun l => ((some k_3).bind fun d => (asI d).map some).bind fun h => pCut d l h).bind fun d => ((some many).bind fun d => (some []).bind fun ds => some (d :: ds)).bind fun ds => some (d :: ds)).bind (ap2 m_law_hanging)).bind fun here_5 => ((((some part_4).bind fun d => (some []).bind fun ds => some (d :: ds)).bind pAbs).bind fun at__6 => (((((some here_5).bind fun x => ((some at__6).bind fun x => (some (PyData.int 1)).bind fun y => pSub x y).bind fun y => pIdx x y).bind fun x => (some some_).bind fun y => (pIn x y).bind asB).bind fun c => if c = true then (((some here_5).bind fun x => (some at__6).bind fun y => pIdx x y).bind fun x => (some some_).bind fun y => (pIn x y).bind asB) else some false).bind fun b => (if b = true then (((((((some here_5).bind fun d => (some none).bind fun l => ((some at__6).bind fun d => (asI d).map some).bind fun h => pCut d l h).bind itemsOf).bind (compL (fun strand_9 => ((some strand_9).bind fun x => (some some_).bind fun y => (pIn x y).bind asB)) (fun strand_9 => (some strand_9)))).bind fun d => (some []).bind fun ds => some (d :: ds)).bind pLen).bind fun place_8 => (((some st_2).bind fun x => ((((((some place_8).bind fun d => (((some place_8).bind pNeg).bind fun d => (some []).bind fun ds => some (d :: ds)).bind fun ds => some (d :: ds)).bind mkLst).bind fun x => ((((some part_4).bind fun x => (some (PyData.int 0)).bind fun y => pLt x y).bind fun d => (some []).bind fun ds => some (d :: ds)).bind pInt).bind fun y => pIdx x y).bind fun d => (some []).bind fun ds => some (d :: ds)).bind mkTup).bind fun y => pAdd x y).bind fun found_10 => (some found_10))) else (some st_2)).bind fun (st_7 : PyData) => (some st_7))))) ab.1 ab.2) found_1).bind fun st_2 => (some st_2)))
def m_law_rows (word many : PyData) : Option PyData :=
  ((((some word).bind fun d => (some []).bind fun ds => some (d :: ds)).bind pEnum).bind fun ds => (ds.foldlM (fun (st_1 : List (List Key × PyData)) dd => (asPair dd).bind fun ab => (fun k_2 part_3 => (((((some word).bind fun d => (some none).bind fun l => ((some k_2).bind fun d => (asI d).map some).bind fun h => pCut d l h).bind fun d => ((some many).bind fun d => (some []).bind fun ds => some (d :: ds)).bind fun ds => some (d :: ds)).bind (ap2 m_law_hanging)).bind fun here_4 => (((((((some here_4).bind fun d => (((((some part_3).bind fun d => (some []).bind fun ds => some (d :: ds)).bind pAbs).bind fun x => (some (PyData.int 1)).bind fun y => pSub x y).bind fun d => (asI d).map some).bind fun l => (((((some part_3).bind fun d => (some []).bind fun ds => some (d :: ds)).bind pAbs).bind fun x => (some (PyData.int 1)).bind fun y => pAdd x y).bind fun d => (asI d).map some).bind fun h => pCut d l h).bind fun d => (some []).bind fun ds => some (d :: ds)).bind pSorted).bind fun d => (some []).bind fun ds => some (d :: ds)).bind keyL).bind fun pair_5 => ((((some pair_5).bind fun k => (some (PyData.int 0)).map fun z => (valD st_1 (kI k)).getD z).bind fun x => (((((some (PyData.int 1)).bind pNeg).bind fun d => ((some (PyData.int 1)).bind fun d => (some []).bind fun ds => some (d :: ds)).bind fun ds => some (d :: ds)).bind mkLst).bind fun x => ((((some part_3).bind fun x => (some (PyData.int 0)).bind fun y => pGt x y).bind fun d => (some []).bind fun ds => some (d :: ds)).bind pInt).bind fun y => pIdx x y).bind fun y => pAdd x y).bind fun d => (some pair_5).bind fun n => if szOk st_1.length then (fun (found_6 : List (List Key × PyData)) => (some found_6)) (putD st_1 (kI n) d) else none)))) ab.1 ab.2) []).bind fun st_1 => (((some []).bind szL).bind fun rows_7 => ((((some (PyData.int 1)).bind fun d => (((some many).bind fun x => (some (PyData.int 1)).bind fun y => pAdd x y).bind fun d => (some []).bind fun ds => some (d :: ds)).bind fun ds => some (d :: ds)).bind fun ds => if ds.length = 2 then pRange ds else none).bind fun ds => (ds.foldlM (fun (st_8 : List PyData) one_9 => (((((some (PyData.int 1)).bind fun d => (((some many).bind fun x => (some (PyData.int 1)).bind fun y => pAdd x y).bind fun d => (some []).bind fun ds => some (d :: ds)).bind fun ds => some (d :: ds)).bind fun ds => if ds.length = 2 then pRange ds else none).bind (compL (fun other_11 => (some true)) (fun other_11 => (((((some one_9).bind fun d => ((some other_11).bind fun d => (some []).bind fun ds => some (d :: ds)).bind fun ds => some (d :: ds)).bind pMin).bind fun d => ((((some one_9).bind fun d => ((some other_11).bind fun d => (some []).bind fun ds => some (d :: ds)).bind fun ds => some (d :: ds)).bind pMax).bind fun d => (some []).bind fun ds => some (d :: ds)).bind fun ds => some (d :: ds)).bind mkTup)))).bind fun pairs_10 => ((((((some pairs_10).bind itemsOf).bind (compL (fun pair_12 => (some true)) (fun pair_12 => ((some pair_12).bind fun y => (some (PyData.int 0)).bind fun z => (keyD y).map fun k => (valD st_1 (kI k)).getD z)))).bind fun d => (some []).bind fun ds => some (d :: ds)).bind pTuple).bind fun d_13 => if szOk st_8.length then (some (st_8 ++ [d_13])) else none))) rows_7).bind fun st_8 => (((some (.list st_8)).bind fun d => (some []).bind fun ds => some (d :: ds)).bind pTuple))))
def m_law_stays (pairs many some_ : PyData) : Option PyData :=
  ((((some pairs).bind itemsOf).bind fun ds => forO (fun (st_1 : Unit) dd => (asPair dd).bind fun ab => (fun left_2 right_3 => (((((some left_2).bind fun d => ((some many).bind fun d => (some []).bind fun ds => some (d :: ds)).bind fun ds => some (d :: ds)).bind (ap2 m_hanging)).bind fun x => (((some right_3).bind fun d => ((some many).bind fun d => (some []).bind fun ds => some (d :: ds)).bind fun ds => some (d :: ds)).bind (ap2 m_hanging)).bind fun y => (pNe x y).bind asB).bind fun b => if b = true then ((some (PyData.bool false)).bind fun d => some (Out.ret d)) else (((((some left_2).bind fun d => ((some many).bind fun d => (some []).bind fun ds => some (d :: ds)).bind fun ds => some (d :: ds)).bind (ap2 m_crossings)).bind fun x => (((some right_3).bind fun d => ((some many).bind fun d => (some []).bind fun ds => some (d :: ds)).bind fun ds => some (d :: ds)).bind (ap2 m_crossings)).bind fun y => (pNe x y).bind asB).bind fun b => if b = true then ((some (PyData.bool false)).bind fun d => some (Out.ret d)) else ((((some left_2).bind fun d => ((some many).bind fun d => ((some some_).bind fun d => (some []).bind fun ds => some (d :: ds)).bind fun ds => some (d :: ds)).bind fun ds => some (d :: ds)).bind (ap3 m_picked)).bind fun here_4 => (((some right_3).bind fun d => ((some many).bind fun d => ((some some_).bind fun d => (some []).bind fun ds => some (d :: ds)).bind fun ds => some (d :: ds)).bind fun ds => some (d :: ds)).bind (ap3 m_picked)).bind fun there_5 => ((((((some some_).bind fun d => (some []).bind fun ds => some (d :: ds)).bind pLen).bind fun x => (some (PyData.int 1)).bind fun y => (pGt x y).bind asB).bind fun c => if c = true then ((((some here_4).bind fun d => ((some there_5).bind fun d => ((((some some_).bind fun d => (some []).bind fun ds => some (d :: ds)).bind pLen).bind fun d => (some []).bind fun ds => some (d :: ds)).bind fun ds => some (d :: ds)).bind fun ds => some (d :: ds)).bind (ap3 m_alike)).bind fun x => (some (PyData.bool true)).bind fun y => (pIsNot x y).bind asB) else some false).bind fun b => if b = true then ((some (PyData.bool false)).bind fun d => some (Out.ret d)) else (some (Out.go ()))))))) ab.1 ab.2) () ds).bind fun o => Out.fin o fun st_1 => (some (PyData.bool true)))
end Mir
end
section
set_option linter.all false
set_option maxRecDepth 100000
set_option maxHeartbeats 4000000
namespace Tie
open PySem DV Mir
/-- an equation that simp is to use as an equation, not by unfolding -/
theorem nd {α : Sort _} {a b : α} (h : a = b) : a = b := h
@[simp] theorem bs {α β : Type} (a : α) (k : α → Option β) : (some a).bind k = k a := nd rfl
@[simp] theorem ms {α β : Type} (a : α) (k : α → β) : (some a).map k = some (k a) := nd rfl
/-! data of ints -/
def tI (l : List Int) : PyData := .tuple (l.map .int)
def lI (l : List Int) : PyData := .list (l.map .int)
theorem bnd {α β : Type} {A : Option α} {k : α → Option β} {a : α} {r : Option β} (h : A = some a) (hk : k a = r) : A.bind k = r := by
  rw [h]
  exact hk
theorem exb {α β : Type} {A : Option α} {k : α → Option β} {a : α} {R : β → Prop} (h : A = some a) (hk : ∃ b, k a = some b ∧ R b) : ∃ b, A.bind k = some b ∧ R b := by
  rw [h]
  exact hk
theorem bnd_of {α β : Type} {A : Option α} {k : α → Option β} {r : Option β} {Q : α → Prop} (h : ∃ a, A = some a ∧ Q a) (hk : ∀ a, Q a → k a = r) : A.bind k = r := by
  obtain ⟨a, h1, h2⟩ := h
  rw [h1]
  exact hk a h2
@[simp] theorem pAdd_int (i j : Int) : pAdd (.int i) (.int j) = some (.int (i + j)) := nd rfl
@[simp] theorem pSub_int (i j : Int) : pSub (.int i) (.int j) = some (.int (i - j)) := nd rfl
@[simp] theorem pNeg_int (i : Int) : pNeg (.int i) = some (.int (-i)) := nd rfl
@[simp] theorem pLt_int (i j : Int) : pLt (.int i) (.int j) = some (.bool (decide (i < j))) := nd rfl
@[simp] theorem pLe_int (i j : Int) : pLe (.int i) (.int j) = some (.bool (decide (i ≤ j))) := nd rfl
@[simp] theorem pGt_int (i j : Int) : pGt (.int i) (.int j) = some (.bool (decide (j < i))) := nd rfl
@[simp] theorem pGe_int (i j : Int) : pGe (.int i) (.int j) = some (.bool (decide (j ≤ i))) := nd rfl
@[simp] theorem asI_int (i : Int) : asI (.int i) = some i := nd rfl
@[simp] theorem asB_bool (b : Bool) : asB (.bool b) = some b := nd rfl
@[simp] theorem pAbs_int (i : Int) : pAbs [.int i] = some (.int (if i < 0 then -i else i)) := nd rfl
@[simp] theorem pInt_bool (b : Bool) : pInt [.bool b] = some (.int (if b then 1 else 0)) := nd rfl
@[simp] theorem itemsOf_tuple (ds : List PyData) : itemsOf (.tuple ds) = some ds := nd rfl
@[simp] theorem itemsOf_list (ds : List PyData) : itemsOf (.list ds) = some ds := nd rfl
@[simp] theorem ap1_mk (g : PyData → Option PyData) (a : PyData) : ap1 g [a] = g a := nd rfl
@[simp] theorem ap2_mk (g : PyData → PyData → Option PyData) (a b : PyData) : ap2 g [a, b] = g a b := nd rfl
@[simp] theorem ap3_mk (g : PyData → PyData → PyData → Option PyData) (a b c : PyData) : ap3 g [a, b, c] = g a b c := nd rfl
@[simp] theorem ap4_mk (g : PyData → PyData → PyData → PyData → Option PyData) (a b c d : PyData) : ap4 g [a, b, c, d] = g a b c d := nd rfl
@[simp] theorem pTuple_list (ds : List PyData) : pTuple [.list ds] = some (.tuple ds) := nd rfl
@[simp] theorem pTuple_tuple (ds : List PyData) : pTuple [.tuple ds] = some (.tuple ds) := nd rfl
@[simp] theorem pList_list (ds : List PyData) : pList [.list ds] = some (.list ds) := nd rfl
@[simp] theorem pList_tuple (ds : List PyData) : pList [.tuple ds] = some (.list ds) := nd rfl
@[simp] theorem pListL_list (ds : List PyData) : pListL [.list ds] = some ds := nd rfl
@[simp] theorem pListL_tuple (ds : List PyData) : pListL [.tuple ds] = some ds := nd rfl
@[simp] theorem pRev_list (ds : List PyData) : pRev (.list ds) = some (.list ds.reverse) := nd rfl
@[simp] theorem pRev_tuple (ds : List PyData) : pRev (.tuple ds) = some (.tuple ds.reverse) := nd rfl
@[simp] theorem pCut_list (ds : List PyData) (l h : Option Int) : pCut (.list ds) l h = some (.list (cutD ds l h)) := nd rfl
@[simp] theorem pCut_tuple (ds : List PyData) (l h : Option Int) : pCut (.tuple ds) l h = some (.tuple (cutD ds l h)) := nd rfl
@[simp] theorem pLen_list (ds : List PyData) : pLen [.list ds] = some (.int (ds.length : Nat)) := nd rfl
@[simp] theorem pLen_tuple (ds : List PyData) : pLen [.tuple ds] = some (.int (ds.length : Nat)) := nd rfl
theorem pMul_int {i j : Int} (h : i.natAbs < 18446744073709551616 ∨ j.natAbs < 18446744073709551616) : pMul (.int i) (.int j) = some (.int (i * j)) := if_pos h
theorem pMod_int {i j : Int} (h : 0 < j) : pMod (.int i) (.int j) = some (.int (i % j)) := if_pos h
theorem pFdiv_int {i j : Int} (h : 0 < j ∧ j < 1073741824) : pFdiv (.int i) (.int j) = some (.int (i / j)) := if_pos h
theorem mkTup_ok {ds : List PyData} (h : ds.length ≤ 8000000) : mkTup ds = some (.tuple ds) := if_pos h
theorem mkLst_ok {ds : List PyData} (h : ds.length ≤ 8000000) : mkLst ds = some (.list ds) := if_pos h
theorem szL_ok {ds : List PyData} (h : ds.length ≤ 8000000) : szL ds = some ds := if_pos h
@[simp] theorem mkTup_nil : mkTup [] = some (.tuple []) := nd rfl
@[simp] theorem mkLst_nil : mkLst [] = some (.list []) := nd rfl
@[simp] theorem szL_nil : szL [] = some [] := nd rfl
@[simp] theorem mkTup_1 (a : PyData) : mkTup [a] = some (.tuple [a]) := nd rfl
@[simp] theorem mkTup_2 (a b : PyData) : mkTup [a, b] = some (.tuple [a, b]) := nd rfl
@[simp] theorem mkTup_3 (a b c : PyData) : mkTup [a, b, c] = some (.tuple [a, b, c]) := nd rfl
@[simp] theorem mkLst_1 (a : PyData) : mkLst [a] = some (.list [a]) := nd rfl
@[simp] theorem mkLst_2 (a b : PyData) : mkLst [a, b] = some (.list [a, b]) := nd rfl
@[simp] theorem szL_1 (a : PyData) : szL [a] = some [a] := nd rfl
theorem pAdd_tup {xs ys : List PyData} (h : xs.length + ys.length ≤ 8000000) : pAdd (.tuple xs) (.tuple ys) = some (.tuple (xs ++ ys)) := if_pos h
theorem pAdd_lst {xs ys : List PyData} (h : xs.length + ys.length ≤ 8000000) : pAdd (.list xs) (.list ys) = some (.list (xs ++ ys)) := if_pos h
/-! comprehensions -/
theorem compM_map {f : PyData → Option PyData} {g : PyData → PyData} : ∀ {ds : List PyData}, (∀ d ∈ ds, f d = some (g d)) → compM (fun _ => some true) f ds = some (ds.map g)
  | [], _ => rfl
  | d :: r, h => by
    unfold compM
    rw [h d List.mem_cons_self, compM_map fun x hx => h x (List.mem_cons_of_mem _ hx)]
    rfl
theorem compL_map {f : PyData → Option PyData} {g : PyData → PyData} {ds : List PyData} (hz : ds.length ≤ 8000000) (h : ∀ d ∈ ds, f d = some (g d)) : compL (fun _ => some true) f ds = some (.list (ds.map g)) := by
  unfold compL
  rw [if_pos (show szOk ds.length from hz), compM_map h]
  rfl
theorem compM_filt {t : PyData → Option Bool} {f : PyData → Option PyData} {c : PyData → Bool} {g : PyData → PyData} : ∀ {ds : List PyData}, (∀ d ∈ ds, t d = some (c d)) → (∀ d ∈ ds, c d = true → f d = some (g d)) → compM t f ds = some ((ds.filter c).map g)
  | [], _, _ => rfl
  | d :: r, h, k => by
    unfold compM
    rw [h d List.mem_cons_self, compM_filt (fun x hx => h x (List.mem_cons_of_mem _ hx)) (fun x hx => k x (List.mem_cons_of_mem _ hx))]
    cases hc : c d with
    | true =>
      rw [List.filter_cons_of_pos hc]
      simp [k d List.mem_cons_self hc]
    | false =>
      rw [List.filter_cons_of_neg (by rw [hc]; exact Bool.false_ne_true)]
      rfl
theorem compL_filt {t : PyData → Option Bool} {f : PyData → Option PyData} {c : PyData → Bool} {g : PyData → PyData} {ds : List PyData} (hz : ds.length ≤ 8000000) (h : ∀ d ∈ ds, t d = some (c d)) (k : ∀ d ∈ ds, c d = true → f d = some (g d)) : compL t f ds = some (.list ((ds.filter c).map g)) := by
  unfold compL
  rw [if_pos (show szOk ds.length from hz), compM_filt h k]
  rfl
/-- over ints -/
theorem compL_ints {f : PyData → Option PyData} {g : Int → Int} {ns : List Int} (hz : ns.length ≤ 8000000) (h : ∀ n ∈ ns, f (.int n) = some (.int (g n))) : compL (fun _ => some true) f (ns.map .int) = some (lI (ns.map g)) := by
  rw [compL_map (g := fun d => match d with | .int n => .int (g n) | x => x) (by rw [List.length_map]; exact hz) (fun d hd => by
    obtain ⟨n, hn, rfl⟩ := List.mem_map.mp hd
    exact h n hn)]
  unfold lI
  rw [List.map_map, List.map_map]
  rfl
theorem compL_filtI {t : PyData → Option Bool} {f : PyData → Option PyData} {c : Int → Bool} {g : Int → Int} {ns : List Int} (hz : ns.length ≤ 8000000) (h : ∀ n ∈ ns, t (.int n) = some (c n)) (k : ∀ n ∈ ns, c n = true → f (.int n) = some (.int (g n))) : compL t f (ns.map .int) = some (lI ((ns.filter c).map g)) := by
  rw [compL_filt (c := fun d => match d with | .int n => c n | _ => false) (g := fun d => match d with | .int n => .int (g n) | x => x) (by rw [List.length_map]; exact hz) (fun d hd => by
    obtain ⟨n, hn, rfl⟩ := List.mem_map.mp hd
    exact h n hn) (fun d hd hc => by
    obtain ⟨n, hn, rfl⟩ := List.mem_map.mp hd
    exact k n hn hc)]
  unfold lI
  rw [List.filter_map, List.map_map, List.map_map]
  rfl
/-! equality of data of ints -/
theorem shaped_tI (l : List Int) : SeqAt.shaped (tI l) = true := by
  have a : ∀ l : List Int, PyData.canLayAll0 (l.map PyData.int) = true := fun l => by
    induction l with
    | nil => rfl
    | cons n r ih => simpa [PyData.canLayAll0, PyData.canLay0] using ih
  have b : ∀ l : List Int, PyData.depthAll (l.map PyData.int) ≤ 1 := fun l => by
    induction l with
    | nil => simp [PyData.depthAll]
    | cons n r ih =>
      rw [List.map_cons]
      simp only [PyData.depthAll, PyData.depth]
      omega
  have := b l
  unfold SeqAt.shaped tI
  rw [Bool.and_eq_true]
  refine ⟨by simpa [PyData.canLay0] using a l, decide_eq_true ?_⟩
  simp only [PyData.depth]
  omega
theorem shaped_lI (l : List Int) : SeqAt.shaped (lI l) = true := by
  have h := shaped_tI l
  unfold SeqAt.shaped tI at h
  unfold SeqAt.shaped lI
  simpa [PyData.canLay0, PyData.depth] using h
theorem eqvAll_ints : ∀ (l m : List Int), PyData.eqvAll (l.map .int) (m.map .int) = decide (l = m)
  | [], [] => rfl
  | [], _ :: _ => rfl
  | _ :: _, [] => rfl
  | a :: l, b :: m => by
    rw [List.map_cons, List.map_cons]
    show (PyData.eqv (.int a) (.int b) && PyData.eqvAll (l.map .int) (m.map .int)) = _
    rw [eqvAll_ints l m]
    show ((a == b) && decide (l = m)) = _
    by_cases h1 : a = b
    · subst h1
      by_cases h2 : l = m
      · subst h2
        simp
      · simp [h2]
    · simp [h1]
theorem pEq_tI (l m : List Int) : pEq (tI l) (tI m) = some (.bool (decide (l = m))) := by
  unfold pEq
  rw [if_pos ⟨shaped_tI l, shaped_tI m⟩]
  show some (PyData.bool (PyData.eqvAll (l.map .int) (m.map .int))) = _
  rw [eqvAll_ints]
theorem pNe_tI (l m : List Int) : pNe (tI l) (tI m) = some (.bool (!decide (l = m))) := by
  unfold pNe
  rw [if_pos ⟨shaped_tI l, shaped_tI m⟩]
  show some (PyData.bool (!PyData.eqvAll (l.map .int) (m.map .int))) = _
  rw [eqvAll_ints]
theorem pEq_lI (l m : List Int) : pEq (lI l) (lI m) = some (.bool (decide (l = m))) := by
  unfold pEq
  rw [if_pos ⟨shaped_lI l, shaped_lI m⟩]
  show some (PyData.bool (PyData.eqvAll (l.map .int) (m.map .int))) = _
  rw [eqvAll_ints]
theorem pNe_lI (l m : List Int) : pNe (lI l) (lI m) = some (.bool (!decide (l = m))) := by
  unfold pNe
  rw [if_pos ⟨shaped_lI l, shaped_lI m⟩]
  show some (PyData.bool (!PyData.eqvAll (l.map .int) (m.map .int))) = _
  rw [eqvAll_ints]
theorem pEq_int (i j : Int) : pEq (.int i) (.int j) = some (.bool (decide (i = j))) := by
  unfold pEq
  rw [if_pos ⟨rfl, rfl⟩]
  show some (PyData.bool (i == j)) = _
  by_cases h : i = j <;> simp [h]
theorem pNe_int (i j : Int) : pNe (.int i) (.int j) = some (.bool (!decide (i = j))) := by
  unfold pNe
  rw [if_pos ⟨rfl, rfl⟩]
  show some (PyData.bool (!(i == j))) = _
  by_cases h : i = j <;> simp [h]
/-! ranges -/
def upL (a : Int) (n : Nat) : List Int := (List.range n).map fun i => a + ((i : Nat) : Int)
theorem intsUp_eq (a : Int) (n : Nat) : intsUp a n = (upL a n).map .int := by
  unfold intsUp upL
  rw [List.map_map]
  rfl
theorem upL_len (a : Int) (n : Nat) : (upL a n).length = n := by
  unfold upL
  rw [List.length_map, List.length_range]
theorem mem_upL {a : Int} {n : Nat} {x : Int} : x ∈ upL a n ↔ a ≤ x ∧ x < a + n := by
  unfold upL
  rw [List.mem_map]
  constructor
  · rintro ⟨i, hi, rfl⟩
    have := List.mem_range.mp hi
    omega
  · rintro ⟨h1, h2⟩
    exact ⟨(x - a).toNat, List.mem_range.mpr (by omega), by omega⟩
theorem pRange_2 {i j : Int} (h : -1000000 ≤ i ∧ i ≤ 1000000 ∧ -1000000 ≤ j ∧ j ≤ 1000000) : pRange [.int i, .int j] = some ((upL i (j - i).toNat).map .int) := by
  show (if _ then some (intsUp i (j - i).toNat) else none) = _
  rw [if_pos (by omega), intsUp_eq]
theorem pRange_1 {j : Int} (h : -1000000 ≤ j ∧ j ≤ 1000000) : pRange [.int j] = some ((upL 0 j.toNat).map .int) := by
  show (if _ then some (intsUp 0 j.toNat) else none) = _
  rw [if_pos (by omega), intsUp_eq]
/-! folds over ints -/
theorem foldlM_ints {α : Type} {f : α → PyData → Option α} {g : α → Int → α} {P : α → Prop} : ∀ {ns : List Int} {a : α}, P a → (∀ a n, n ∈ ns → P a → f a (.int n) = some (g a n) ∧ P (g a n)) → (ns.map PyData.int).foldlM f a = some (ns.foldl g a) ∧ P (ns.foldl g a)
  | [], a, h, _ => ⟨rfl, h⟩
  | n :: r, a, h, k => by
    obtain ⟨e, p⟩ := k a n List.mem_cons_self h
    rw [List.map_cons, List.foldlM_cons, e]
    exact foldlM_ints p fun a m hm => k a m (List.mem_cons_of_mem _ hm)
theorem foldlM_enc {α τ : Type} {f : α → PyData → Option α} (enc : τ → α) (g : τ → Int → τ) (P : τ → Prop) : ∀ {ns : List Int} {s : τ}, P s → (∀ s n, n ∈ ns → P s → f (enc s) (.int n) = some (enc (g s n)) ∧ P (g s n)) → (ns.map PyData.int).foldlM f (enc s) = some (enc (ns.foldl g s)) ∧ P (ns.foldl g s)
  | [], s, h, _ => ⟨rfl, h⟩
  | n :: r, s, h, k => by
    obtain ⟨e, p⟩ := k s n List.mem_cons_self h
    rw [List.map_cons, List.foldlM_cons, e]
    exact foldlM_enc enc g P p fun s m hm => k s m (List.mem_cons_of_mem _ hm)
/-! the law's draws -/
theorem t_cell (ns : List Int) (k : Int) (hk : 0 ≤ k) : ∃ c, m_law_cell_at (scrD ns) (.int k) = some (.int c) := by
  unfold m_law_cell_at scrD
  by_cases h : k < (ns.length : Int)
  · have hi : k.toNat < ns.length := by omega
    refine ⟨ns[k.toNat], ?_⟩
    have e : pIdx (.dict (ns.map fun n => (PyData.int n, PyData.none))) (.int k) = some (.int ns[k.toNat]) := by
      show (L2.atI (ns.map fun n => (PyData.int n, PyData.none)) k).map (·.1) = _
      unfold L2.atI L2.ixN
      rw [List.length_map, if_pos hk, if_pos h]
      simp [hi]
    simp [pLen, h, e]
  · exact ⟨0, by simp [pLen, h]⟩
theorem t_mixed (ns : List Int) (k : Int) (hk : 0 ≤ k ∧ k ≤ 1000) : ∃ r, m_law_mixed (scrD ns) (.int k) = some (.int r) ∧ 0 ≤ r ∧ r < 2147483629 := by
  obtain ⟨c, hc⟩ := t_cell ns k hk.1
  unfold m_law_mixed
  have h1 : pMul (.int 7919) (.int k) = some (.int (7919 * k)) := pMul_int (.inl (by decide))
  have h2 : pMul (.int (c + 7919 * k + 1)) (.int 48271) = some (.int ((c + 7919 * k + 1) * 48271)) := pMul_int (.inr (by decide))
  have h3 : pMod (.int ((c + 7919 * k + 1) * 48271)) (.int 2147483647) = some (.int ((c + 7919 * k + 1) * 48271 % 2147483647)) := pMod_int (by decide)
  simp only [bs, ap2_mk, hc, h1, pAdd_int, h2, h3]
  generalize hd : (c + 7919 * k + 1) * 48271 % 2147483647 = d
  have b1 : 0 ≤ d := by omega
  have b2 : d < 2147483647 := by omega
  have h4 : pMul (.int d) (.int d) = some (.int (d * d)) := pMul_int (.inl (by omega))
  have h5 : pMul (.int 7) (.int d) = some (.int (7 * d)) := pMul_int (.inl (by decide))
  simp only [h4, h5, bs, pAdd_int]
  rw [pMod_int (by decide)]
  exact ⟨_, rfl, Int.emod_nonneg _ (by decide), Int.emod_lt_of_pos _ (by decide)⟩
theorem t_drawn (n k : Int) (hk : -1000 ≤ k ∧ k ≤ 1000) : ∃ r, m_law_drawn (.int n) (.int k) = some (.int r) ∧ 0 ≤ r ∧ r < 2147483629 := by
  unfold m_law_drawn
  have h1 : pMul (.int 104729) (.int k) = some (.int (104729 * k)) := pMul_int (.inl (by decide))
  have h2 : pMul (.int (n + 104729 * k + 17)) (.int 69621) = some (.int ((n + 104729 * k + 17) * 69621)) := pMul_int (.inr (by decide))
  have h3 : pMod (.int ((n + 104729 * k + 17) * 69621)) (.int 2147483647) = some (.int ((n + 104729 * k + 17) * 69621 % 2147483647)) := pMod_int (by decide)
  simp only [bs, h1, pAdd_int, h2, h3]
  generalize hd : (n + 104729 * k + 17) * 69621 % 2147483647 = d
  have b1 : 0 ≤ d := by omega
  have b2 : d < 2147483647 := by omega
  have h4 : pMul (.int d) (.int d) = some (.int (d * d)) := pMul_int (.inl (by omega))
  have h5 : pMul (.int 3) (.int d) = some (.int (3 * d)) := pMul_int (.inl (by decide))
  simp only [h4, h5, bs, pAdd_int]
  rw [pMod_int (by decide)]
  exact ⟨_, rfl, Int.emod_nonneg _ (by decide), Int.emod_lt_of_pos _ (by decide)⟩
/-- a word of so many strands -/
def IsW (n : Int) (w : List Int) : Prop := ∀ p ∈ w, p ≠ 0 ∧ -n < p ∧ p < n
theorem IsW.app {n : Int} {u v : List Int} (hu : IsW n u) (hv : IsW n v) : IsW n (u ++ v) := fun p hp => by
  rcases List.mem_append.mp hp with h | h
  · exact hu p h
  · exact hv p h
theorem tI_app {l m : List Int} (h : l.length + m.length ≤ 8000000) : pAdd (tI l) (tI m) = some (tI (l ++ m)) := by
  unfold tI
  rw [pAdd_tup (by rw [List.length_map, List.length_map]; exact h), List.map_append]
theorem lI_app {l m : List Int} (h : l.length + m.length ≤ 8000000) : pAdd (lI l) (lI m) = some (lI (l ++ m)) := by
  unfold lI
  rw [pAdd_lst (by rw [List.length_map, List.length_map]; exact h), List.map_append]
theorem ex_bnd {α β γ : Type} {A : Option α} {k : α → Option β} {g : γ → β} {R : γ → Prop} (h : ∃ a, A = some a ∧ ∃ w, k a = some (g w) ∧ R w) : ∃ w, A.bind k = some (g w) ∧ R w := by
  obtain ⟨a, h1, h2⟩ := h
  rw [h1]
  exact h2
theorem ex_of {α : Type} {A : Option α} {Q R : α → Prop} (h : ∃ b, A = some b ∧ Q b) (k : ∀ b, Q b → R b) : ∃ b, A = some b ∧ R b := let ⟨b, h1, h2⟩ := h; ⟨b, h1, k b h2⟩
/-- a loop with an invariant over data -/
theorem foldlM_invA {α : Type} {f : α → PyData → Option α} (P : Nat → α → Prop) (L : Nat) : ∀ {ns : List Int} {i : Nat} {a : α}, i + ns.length ≤ L → P i a → (∀ i a n, i < L → n ∈ ns → P i a → ∃ b, f a (.int n) = some b ∧ P (i + 1) b) → ∃ b, (ns.map PyData.int).foldlM f a = some b ∧ P (i + ns.length) b
  | [], i, a, _, h, _ => ⟨a, rfl, h⟩
  | n :: r, i, a, hl, h, k => by
    rw [List.length_cons] at hl
    obtain ⟨b, e, p⟩ := k i a n (by omega) List.mem_cons_self h
    rw [List.map_cons, List.foldlM_cons, e]
    obtain ⟨c, e2, p2⟩ := foldlM_invA P L (by omega) p fun i a m hi hm => k i a m hi (List.mem_cons_of_mem _ hm)
    exact ⟨c, e2, by rw [List.length_cons, show i + (r.length + 1) = i + 1 + r.length by omega]; exact p2⟩
theorem foldlM_inv {α : Type} {f : α → PyData → Option α} (P : Nat → α → Prop) {ns : List Int} {a : α} (h0 : P 0 a) (k : ∀ i a n, i < ns.length → n ∈ ns → P i a → ∃ b, f a (.int n) = some b ∧ P (i + 1) b) : ∃ b, (ns.map PyData.int).foldlM f a = some b ∧ P ns.length b := by
  have := foldlM_invA P ns.length (ns := ns) (i := 0) (a := a) (by omega) h0 k
  rwa [Nat.zero_add] at this
/-- .. with the item by its place -/
theorem foldlM_ixA {α : Type} {f : α → PyData → Option α} (P : Nat → α → Prop) (all : List Int) : ∀ {ns : List Int} {i : Nat} {a : α}, ns = all.drop i → P i a → (∀ i a n, all[i]? = some n → P i a → ∃ b, f a (.int n) = some b ∧ P (i + 1) b) → ∃ b, (ns.map PyData.int).foldlM f a = some b ∧ P (i + ns.length) b
  | [], i, a, _, h, _ => ⟨a, rfl, h⟩
  | n :: r, i, a, hl, h, k => by
    have hg : all[i]? = some n := by
      have : (all.drop i)[0]? = some n := by rw [← hl]; rfl
      rw [List.getElem?_drop, Nat.add_zero] at this
      exact this
    obtain ⟨b, e, p⟩ := k i a n hg h
    rw [List.map_cons, List.foldlM_cons, e]
    have hr : r = all.drop (i + 1) := by
      have : (all.drop i).drop 1 = r := by rw [← hl]; rfl
      rw [List.drop_drop] at this
      exact this.symm
    obtain ⟨c, e2, p2⟩ := foldlM_ixA P all hr p k
    exact ⟨c, e2, by rw [List.length_cons, show i + (r.length + 1) = i + 1 + r.length by omega]; exact p2⟩
theorem foldlM_ix {α : Type} {f : α → PyData → Option α} (P : Nat → α → Prop) {ns : List Int} {a : α} (h0 : P 0 a) (k : ∀ i a n, ns[i]? = some n → P i a → ∃ b, f a (.int n) = some b ∧ P (i + 1) b) : ∃ b, (ns.map PyData.int).foldlM f a = some b ∧ P ns.length b := by
  have := foldlM_ixA P ns (ns := ns) (i := 0) (a := a) rfl h0 k
  rwa [Nat.zero_add] at this
theorem upL_get {a : Int} {n i : Nat} {x : Int} (h : (upL a n)[i]? = some x) : i < n ∧ x = a + i := by
  unfold upL at h
  rw [List.getElem?_map] at h
  by_cases hi : i < n
  · rw [List.getElem?_range hi] at h
    exact ⟨hi, (Option.some.inj h).symm⟩
  · rw [List.getElem?_eq_none (by rw [List.length_range]; omega)] at h
    cases h
theorem t_word (n many most : Int) (hn : 0 ≤ n) (h2 : 2 ≤ many ∧ many ≤ 5) (hm : 0 ≤ most ∧ most ≤ 100) :
    ∃ w : List Int, m_law_word (.int n) (.int many) (.int most) = some (tI w) ∧ (w.length : Int) ≤ most ∧ IsW many w := by
  unfold m_law_word
  have h1 : pMod (.int n) (.int (most + 1)) = some (.int (n % (most + 1))) := pMod_int (by omega)
  have b1 : 0 ≤ n % (most + 1) := Int.emod_nonneg _ (by omega)
  have b2 : n % (most + 1) < most + 1 := Int.emod_lt_of_pos _ (by omega)
  simp only [bs, mkTup_nil, pAdd_int, h1]
  generalize n % (most + 1) = c at b1 b2
  rw [show (if [PyData.int c].length = 1 then pRange [PyData.int c] else none) = pRange [PyData.int c] from if_pos rfl, pRange_1 (by omega), bs]
  refine ex_bnd (ex_of (foldlM_inv (fun i a => ∃ w : List Int, a = tI w ∧ w.length = i ∧ IsW many w) ⟨[], rfl, rfl, fun p hp => by cases hp⟩ ?step) ?fin)
  case step =>
    rintro i a k hi hk ⟨w, rfl, hl, hw⟩
    rw [upL_len] at hi
    have hk' := mem_upL.mp hk
    obtain ⟨d, hd, d0, d1⟩ := t_drawn n k (by omega)
    have e1 : pMod (.int d) (.int (many - 1)) = some (.int (d % (many - 1))) := pMod_int (by omega)
    have e2 : pFdiv (.int d) (.int 7) = some (.int (d / 7)) := pFdiv_int (by decide)
    have e3 : pMod (.int (d / 7)) (.int 2) = some (.int (d / 7 % 2)) := pMod_int (by decide)
    have e4 : pMul (.int (d / 7 % 2)) (.int 2) = some (.int (d / 7 % 2 * 2)) := pMul_int (.inr (by decide))
    have m0 : 0 ≤ d % (many - 1) := Int.emod_nonneg _ (by omega)
    have m1 : d % (many - 1) < many - 1 := Int.emod_lt_of_pos _ (by omega)
    have hy : d / 7 % 2 = 0 ∨ d / 7 % 2 = 1 := by omega
    have e5 : pMul (.int (1 + d % (many - 1))) (.int (1 - d / 7 % 2 * 2)) = some (.int ((1 + d % (many - 1)) * (1 - d / 7 % 2 * 2))) := pMul_int (.inr (by omega))
    refine ⟨tI (w ++ [(1 + d % (many - 1)) * (1 - d / 7 % 2 * 2)]), ?_, w ++ [(1 + d % (many - 1)) * (1 - d / 7 % 2 * 2)], rfl, by simp [hl], hw.app fun p hp => ?_⟩
    · simp only [bs, ap2_mk, hd, pSub_int, e1, pAdd_int, e2, e3, e4, e5, mkTup_1]
      rw [show (PyData.tuple [PyData.int ((1 + d % (many - 1)) * (1 - d / 7 % 2 * 2))]) = tI [(1 + d % (many - 1)) * (1 - d / 7 % 2 * 2)] from rfl, tI_app (by simp only [List.length_cons, List.length_nil]; omega)]
      rfl
    · have hp : p = (1 + d % (many - 1)) * (1 - d / 7 % 2 * 2) := by simpa using hp
      rcases hy with h | h
      · rw [h] at hp
        simp at hp
        omega
      · rw [h] at hp
        have : p = -(1 + d % (many - 1)) := by rw [hp]; omega
        omega
  case fin =>
    rintro b ⟨w, rfl, hl, hw⟩
    refine ⟨w, rfl, ?_, hw⟩
    rw [upL_len] at hl
    omega
end Tie
end
section
set_option linter.all false
set_option maxRecDepth 100000
set_option maxHeartbeats 4000000
namespace Tie
open PySem DV Mir
/-! orders -/
def absI (x : Int) : Int := if x < 0 then -x else x
def swp (k a : Int) : Int := if a = k then k + 1 else if a = k + 1 then k else a
theorem t_rest (n : Int) (h : 0 ≤ n ∧ n ≤ 1000) : m_rest (.int n) = some (tI (upL 1 n.toNat)) := by
  unfold m_rest
  simp only [bs, pAdd_int, asI_int, ms]
  rw [if_pos (show rgSmall (1, n + 1) from ⟨by show -100000 ≤ (1 : Int); decide, by show (1 : Int) ≤ 100000; decide, by show -100000 ≤ n + 1; omega, by show n + 1 ≤ 100000; omega⟩)]
  unfold rgD tI
  rw [intsUp_eq, show (n + 1 - 1).toNat = n.toNat by omega]
theorem valD_moved (k a : Int) : (valD (putD (putD ([] : List (L2.Key × PyData)) (Sum.inl k) (.int (k + 1))) (Sum.inl (k + 1)) (.int k)) (Sum.inl a)).getD (.int a) = .int (swp k a) := by
  have h1 : putD ([] : List (L2.Key × PyData)) (Sum.inl k) (.int (k + 1)) = [(Sum.inl k, .int (k + 1))] := rfl
  rw [h1]
  have hne : ¬ ((Sum.inl k : L2.Key) = Sum.inl (k + 1)) := fun e => by
    have := Sum.inl.inj e
    omega
  have h2 : putD [((Sum.inl k : L2.Key), PyData.int (k + 1))] (Sum.inl (k + 1)) (.int k) = [(Sum.inl k, .int (k + 1)), (Sum.inl (k + 1), .int k)] := by
    unfold putD
    rw [if_neg (by simp [hne])]
    rfl
  rw [h2]
  unfold swp valD
  by_cases e1 : a = k
  · subst e1
    rw [if_pos rfl, List.find?_cons, decide_eq_true rfl]
    rfl
  · have n1 : ¬ ((Sum.inl k : L2.Key) = Sum.inl a) := fun e => e1 (Sum.inl.inj e).symm
    rw [if_neg e1, List.find?_cons, decide_eq_false n1, List.find?_cons]
    by_cases e2 : a = k + 1
    · subst e2
      rw [if_pos rfl, decide_eq_true rfl]
      rfl
    · have n2 : ¬ ((Sum.inl (k + 1) : L2.Key) = Sum.inl a) := fun e => e2 (Sum.inl.inj e).symm
      rw [if_neg e2, decide_eq_false n2]
      rfl
theorem t_cb (o : List Int) (k : Int) (h : o.length ≤ 1000) : m_crossed_behind (tI o) (.int k) = some (tI (o.map (swp k))) := by
  unfold m_crossed_behind
  simp only [bs, pAdd_int, asI_int, ms, tI, itemsOf_tuple]
  rw [compL_ints (g := swp k) (by omega) (fun n _ => by rw [asI_int, ms, valD_moved])]
  rfl
def follow (w : List Int) (p : Int) : Int := w.foldl (fun a x => swp (absI x) a) p
def orderL (w : List Int) (n : Nat) : List Int := (upL 1 n).map (follow w)
theorem foldl_cb (w : List Int) : ∀ o : List Int, w.foldl (fun (o : List Int) x => o.map (swp (absI x))) o = o.map (follow w) := by
  induction w with
  | nil => intro o; show o = o.map (fun x => x); simp
  | cons x r ih =>
    intro o
    rw [List.foldl_cons, ih, List.map_map]
    rfl
theorem t_order_of (w : List Int) (n : Int) (h : 0 ≤ n ∧ n ≤ 1000) : m_order_of (tI w) (.int n) = some (tI (orderL w n.toNat)) := by
  unfold m_order_of
  simp only [bs, ap1_mk, t_rest n h]
  rw [show (itemsOf (tI w)) = some (w.map .int) from rfl, bs]
  refine bnd (foldlM_enc tI (fun o x => o.map (swp (absI x))) (fun o => o.length = n.toNat) (upL_len _ _) fun o x _ hl => ⟨?_, by rw [List.length_map, hl]⟩).1 ?_
  · simp only [pAbs_int, bs, ap2_mk]
    rw [t_cb o _ (by omega)]
    rfl
  · rw [foldl_cb]
    rfl
/-! cuts -/
theorem cutD_to (ds : List PyData) (k : Int) (h : 0 ≤ k) : cutD ds none (some k) = ds.take k.toNat := by
  unfold cutD
  rw [HT.sIx_none]
  obtain ⟨n, rfl⟩ := Int.eq_ofNat_of_zero_le h
  rw [show HT.sIx ds.length ds.length (some (n : Int)) = min n ds.length from HT.sIx_nat _ _ _]
  simp
theorem cutD_from (ds : List PyData) (k : Int) (h : 0 ≤ k) : cutD ds (some k) none = ds.drop k.toNat := by
  unfold cutD
  rw [HT.sIx_none]
  obtain ⟨n, rfl⟩ := Int.eq_ofNat_of_zero_le h
  rw [show HT.sIx ds.length 0 (some (n : Int)) = min n ds.length from HT.sIx_nat _ _ _]
  simp only [Int.toNat_natCast]
  by_cases hn : n ≤ ds.length
  · rw [Nat.min_eq_left hn, List.take_of_length_le (by rw [List.length_drop]; omega)]
  · rw [Nat.min_eq_right (by omega), List.drop_eq_nil_of_le (Nat.le_refl _), List.drop_eq_nil_of_le (by omega), List.take_nil]
/-! drawn orders -/
def permsL : Nat → List (List Int)
  | 0 => [[]]
  | k + 1 => (permsL k).flatMap fun l => (List.range (k + 1)).map fun i => l.take i ++ [((k : Nat) : Int) + 1] ++ l.drop i
theorem permsL_len : ∀ {n : Nat} {o : List Int}, o ∈ permsL n → o.length = n
  | 0, o, h => by
    have : o = [] := by simpa [permsL] using h
    rw [this]
    rfl
  | n + 1, o, h => by
    obtain ⟨l, hl, ho⟩ := List.mem_flatMap.mp h
    obtain ⟨i, hi, rfl⟩ := List.mem_map.mp ho
    have := permsL_len hl
    have := List.mem_range.mp hi
    simp
    omega
theorem t_law_order (n many : Int) (h : 0 ≤ many ∧ many ≤ 10) : ∃ o : List Int, m_law_order (.int n) (.int many) = some (tI o) ∧ o ∈ permsL many.toNat := by
  unfold m_law_order
  simp only [bs, mkLst_nil, pAdd_int]
  rw [show (if [PyData.int 1, PyData.int (many + 1)].length = 2 then pRange [PyData.int 1, PyData.int (many + 1)] else none) = pRange [PyData.int 1, PyData.int (many + 1)] from if_pos rfl, pRange_2 (by omega), bs]
  refine ex_bnd (ex_of (foldlM_ix (fun i a => ∃ o : List Int, a = lI o ∧ o ∈ permsL i) ⟨[], rfl, by simp [permsL]⟩ ?step) ?fin)
  case step =>
    rintro i a k hk ⟨o, rfl, ho⟩
    obtain ⟨hi, hk⟩ := upL_get hk
    obtain ⟨d, hd, d0, d1⟩ := t_drawn n (60 + k) (by omega)
    have e1 : pMod (.int d) (.int k) = some (.int (d % k)) := pMod_int (by omega)
    have m0 : 0 ≤ d % k := Int.emod_nonneg _ (by omega)
    have m1 : d % k < k := Int.emod_lt_of_pos _ (by omega)
    have hl := permsL_len ho
    refine ⟨lI (o.take (d % k).toNat ++ [k] ++ o.drop (d % k).toNat), ?_, _, rfl, ?_⟩
    · simp only [bs, pAdd_int, ap2_mk, hd, e1, asI_int, ms, lI, pCut_list, mkLst_1]
      rw [cutD_to _ _ m0, cutD_from _ _ m0, pAdd_lst (by simp; omega), bs, pAdd_lst (by simp; omega), bs]
      simp only [List.map_append, List.map_take, List.map_drop, List.map_cons, List.map_nil]
    · refine List.mem_flatMap.mpr ⟨o, ho, List.mem_map.mpr ⟨(d % k).toNat, List.mem_range.mpr (by omega), ?_⟩⟩
      rw [show ((i : Nat) : Int) + 1 = k by omega]
  case fin =>
    rintro b ⟨o, rfl, ho⟩
    rw [upL_len] at ho
    refine ⟨o, by simp [lI]; rfl, ?_⟩
    rw [show many.toNat = (many + 1 - 1).toNat by omega]
    exact ho
end Tie
end
section
set_option linter.all false
set_option maxRecDepth 100000
set_option maxHeartbeats 4000000
namespace Tie
open PySem DV Mir
/-! words changed; orders put together -/
def negL (w : List Int) : List Int := w.map fun p => -p
def undL (w : List Int) : List Int := (negL w).reverse
def trn (n p : Int) : Int := if 0 < p then n - p else -n - p
def trnL (n : Int) (w : List Int) : List Int := w.map (trn n)
theorem itemsOf_tI (l : List Int) : itemsOf (tI l) = some (l.map .int) := nd rfl
theorem itemsOf_lI (l : List Int) : itemsOf (lI l) = some (l.map .int) := nd rfl
theorem pTuple_lI (l : List Int) : pTuple [lI l] = some (tI l) := nd rfl
theorem pRev_tI (l : List Int) : pRev (tI l) = some (tI l.reverse) := by
  unfold tI
  rw [pRev_tuple, List.map_reverse]
theorem pRev_lI (l : List Int) : pRev (lI l) = some (lI l.reverse) := by
  unfold lI
  rw [pRev_list, List.map_reverse]
theorem pLen_tI (l : List Int) : pLen [tI l] = some (.int (l.length : Nat)) := by
  unfold tI
  rw [pLen_tuple, List.length_map]
theorem pLen_lI (l : List Int) : pLen [lI l] = some (.int (l.length : Nat)) := by
  unfold lI
  rw [pLen_list, List.length_map]
theorem t_mirrored (w : List Int) (h : w.length ≤ 8000000) : m_mirrored (tI w) = some (tI (negL w)) := by
  unfold m_mirrored
  simp only [bs, itemsOf_tI]
  rw [compL_ints (g := fun p => -p) h (fun n _ => by rw [pNeg_int])]
  rfl
theorem t_undone (w : List Int) (h : w.length ≤ 8000000) : m_undone (tI w) = some (tI (undL w)) := by
  unfold m_undone
  simp only [bs, ap1_mk, t_mirrored w h, pRev_tI]
  rfl
theorem t_turned (w : List Int) (n : Int) (h : w.length ≤ 8000000) : m_turned (tI w) (.int n) = some (tI (trnL n w)) := by
  unfold m_turned
  simp only [bs, szL_nil, itemsOf_tI]
  refine bnd_of (foldlM_ix (fun i st => st = ((w.take i).map (trn n)).map PyData.int) rfl ?step) ?fin
  case step =>
    rintro i a p hp rfl
    have hi : i < w.length := by
      rcases Nat.lt_or_ge i w.length with h1 | h1
      · exact h1
      · rw [List.getElem?_eq_none h1] at hp
        cases hp
    have hz : szOk ((List.map PyData.int (List.map (trn n) (List.take i w))).length) := by
      show _ ≤ 8000000
      rw [List.length_map, List.length_map, List.length_take]
      omega
    simp only [pGt_int, bs, asB_bool, pSub_int, pNeg_int, if_pos hz]
    refine ⟨_, ?_, rfl⟩
    rw [List.take_add_one, hp, List.map_append, List.map_append]
    show _ = some (_ ++ [PyData.int (trn n p)])
    unfold trn
    by_cases h0 : 0 < p <;> simp [h0]
  case fin =>
    rintro st rfl
    rw [List.take_length]
    rfl
theorem atI_get {l : List Int} {i : Int} {x : Int} (h0 : 0 ≤ i) (h : l[i.toNat]? = some x) : L2.atI (l.map PyData.int) i = some (.int x) := by
  have hi : i.toNat < l.length := by
    rcases Nat.lt_or_ge i.toNat l.length with h1 | h1
    · exact h1
    · rw [List.getElem?_eq_none h1] at h
      cases h
  unfold L2.atI L2.ixN
  rw [List.length_map, if_pos h0, if_pos (by omega), bs, List.getElem?_map, h]
  rfl
theorem pIdx_tI {l : List Int} {i : Int} {x : Int} (h0 : 0 ≤ i) (h : l[i.toNat]? = some x) : pIdx (tI l) (.int i) = some (.int x) := atI_get h0 h
theorem pIdx_lI {l : List Int} {i : Int} {x : Int} (h0 : 0 ≤ i) (h : l[i.toNat]? = some x) : pIdx (lI l) (.int i) = some (.int x) := atI_get h0 h
theorem orderL_get (w : List Int) (n : Nat) (p : Int) (h : 1 ≤ p ∧ p ≤ n) : (orderL w n)[(p - 1).toNat]? = some (follow w p) := by
  unfold orderL upL
  rw [List.map_map, List.getElem?_map, List.getElem?_range (by omega)]
  show some (follow w (1 + ((p - 1).toNat : Int))) = _
  rw [show 1 + ((p - 1).toNat : Int) = p by omega]
theorem swp_inv (k a : Int) : swp k (swp k a) = a := by
  unfold swp
  split
  · rename_i h
    rw [if_neg (by omega), if_pos rfl, h]
  · split
    · rename_i h1 h2
      rw [if_pos rfl, h2]
    · rfl
theorem swp_in {k a n : Int} (hk : 1 ≤ k ∧ k < n) (ha : 1 ≤ a ∧ a ≤ n) : 1 ≤ swp k a ∧ swp k a ≤ n := by
  unfold swp
  split
  · omega
  · split <;> omega
theorem absI_in {p n : Int} (h : p ≠ 0 ∧ -n < p ∧ p < n) : 1 ≤ absI p ∧ absI p < n := by
  unfold absI
  split <;> omega
theorem absI_neg (p : Int) : absI (-p) = absI p := by
  unfold absI
  split <;> split <;> omega
theorem follow_in {n : Int} : ∀ {w : List Int} {p : Int}, IsW n w → 1 ≤ p ∧ p ≤ n → 1 ≤ follow w p ∧ follow w p ≤ n
  | [], _, _, h => h
  | x :: r, p, hw, h => follow_in (w := r) (fun q hq => hw q (List.mem_cons_of_mem _ hq)) (swp_in (absI_in (hw x List.mem_cons_self)) h)
theorem follow_app (u v : List Int) (p : Int) : follow (u ++ v) p = follow v (follow u p) := by
  unfold follow
  rw [List.foldl_append]
theorem follow_neg (w : List Int) (p : Int) : follow (negL w) p = follow w p := by
  induction w generalizing p with
  | nil => rfl
  | cons x r ih =>
    show follow (negL r) (swp (absI (-x)) p) = follow r (swp (absI x) p)
    rw [absI_neg, ih]
theorem follow_rev (w : List Int) (p : Int) : follow w.reverse (follow w p) = p := by
  induction w generalizing p with
  | nil => rfl
  | cons x r ih =>
    rw [List.reverse_cons, follow_app]
    show swp (absI x) (follow r.reverse (follow r (swp (absI x) p))) = p
    rw [ih, swp_inv]
theorem follow_und (w : List Int) (p : Int) : follow (undL w) (follow w p) = p := by
  unfold undL
  rw [← follow_neg w p, follow_rev]
theorem absI_trn {p n : Int} (h : p ≠ 0 ∧ -n < p ∧ p < n) : absI (trn n p) = n - absI p := by
  unfold absI trn
  by_cases h0 : 0 < p
  · rw [if_pos h0, if_neg (by omega), if_neg (by omega)]
  · rw [if_neg h0, if_pos (by omega), if_pos (by omega)]
    omega
theorem swp_trn (k a n : Int) : swp (n - k) (n + 1 - a) = n + 1 - swp k a := by
  unfold swp
  by_cases h1 : a = k
  · subst h1
    rw [if_pos rfl, if_neg (by omega), if_pos (by omega)]
    omega
  · by_cases h2 : a = k + 1
    · subst h2
      rw [if_neg h1, if_pos rfl, if_pos (by omega)]
      omega
    · rw [if_neg h1, if_neg h2, if_neg (by omega), if_neg (by omega)]
theorem follow_trn {n : Int} : ∀ {w : List Int} (p : Int), IsW n w → follow (trnL n w) (n + 1 - p) = n + 1 - follow w p
  | [], _, _ => rfl
  | x :: r, p, hw => by
    show follow (trnL n r) (swp (absI (trn n x)) (n + 1 - p)) = n + 1 - follow r (swp (absI x) p)
    rw [absI_trn (hw x List.mem_cons_self), swp_trn, follow_trn _ fun q hq => hw q (List.mem_cons_of_mem _ hq)]
theorem upL_rev (n : Nat) : (upL 1 n).reverse = (upL 1 n).map fun p => (n : Int) + 1 - p := by
  apply List.ext_getElem?
  intro i
  unfold upL
  by_cases h : i < n
  · rw [← List.map_reverse, List.map_map, List.getElem?_map, List.getElem?_map, List.getElem?_reverse (by rw [List.length_range]; exact h), List.length_range, List.getElem?_range (by omega), List.getElem?_range h]
    show some ((1 : Int) + ((n - 1 - i : Nat) : Int)) = some ((n : Int) + 1 - (1 + (i : Int)))
    congr 1
    omega
  · rw [List.getElem?_eq_none (by simp; omega), List.getElem?_eq_none (by simp; omega)]
theorem orderL_trn {n : Nat} {w : List Int} (hw : IsW n w) : orderL (trnL n w) n = (orderL w n).reverse.map fun p => (n : Int) + 1 - p := by
  unfold orderL
  rw [← List.map_reverse, upL_rev, List.map_map, List.map_map]
  refine List.map_congr_left fun p _ => ?_
  show _ = (n : Int) + 1 - follow w ((n : Int) + 1 - p)
  rw [← follow_trn _ hw, show (n : Int) + 1 - ((n : Int) + 1 - p) = p by omega]
theorem orderL_app {n : Nat} (u v : List Int) : orderL (u ++ v) n = (orderL u n).map (follow v) := by
  unfold orderL
  rw [List.map_map]
  exact List.map_congr_left fun p _ => follow_app u v p
theorem orderL_neg {n : Nat} (u : List Int) : orderL (negL u) n = orderL u n := by
  unfold orderL
  exact List.map_congr_left fun p _ => follow_neg u p
theorem orderL_nil (n : Nat) : orderL [] n = upL 1 n := by
  unfold orderL
  show (upL 1 n).map (fun p => p) = _
  simp
theorem orderL_len (w : List Int) (n : Nat) : (orderL w n).length = n := by
  unfold orderL
  rw [List.length_map, upL_len]
theorem negL_len (w : List Int) : (negL w).length = w.length := by unfold negL; rw [List.length_map]
theorem undL_len (w : List Int) : (undL w).length = w.length := by unfold undL; rw [List.length_reverse, negL_len]
theorem trnL_len (n : Int) (w : List Int) : (trnL n w).length = w.length := by unfold trnL; rw [List.length_map]
theorem IsW.neg {n : Int} {w : List Int} (h : IsW n w) : IsW n (negL w) := fun p hp => by
  obtain ⟨q, hq, rfl⟩ := List.mem_map.mp hp
  have := h q hq
  omega
theorem IsW.und {n : Int} {w : List Int} (h : IsW n w) : IsW n (undL w) := fun p hp => h.neg p (List.mem_reverse.mp hp)
theorem IsW.trn {n : Int} {w : List Int} (h : IsW n w) : IsW n (trnL n w) := fun p hp => by
  obtain ⟨q, hq, rfl⟩ := List.mem_map.mp hp
  have := h q hq
  unfold Tie.trn
  split <;> omega
end Tie
end
section
set_option linter.all false
set_option maxRecDepth 100000
set_option maxHeartbeats 4000000
namespace Free
open Tie
/-! loose words: free reduction by a stack (its top first) -/
def push (s : List Int) (x : Int) : List Int := match s with
  | [] => [x]
  | y :: t => if y = -x then t else x :: y :: t
def act (w s : List Int) : List Int := w.foldl push s
def nf (w : List Int) : List Int := act w []
def nfw (w : List Int) : List Int := (nf w).reverse
/-- no letter stands beside what undoes it -/
def Red : List Int → Prop
  | [] => True
  | [_] => True
  | x :: y :: t => y ≠ -x ∧ Red (y :: t)
theorem Red.tail {x : Int} {t : List Int} (h : Red (x :: t)) : Red t := by
  cases t with
  | nil => trivial
  | cons y t => exact h.2
theorem red_push {s : List Int} {x : Int} (h : Red s) : Red (push s x) := by
  cases s with
  | nil => trivial
  | cons y t =>
    unfold push
    show Red (if y = -x then t else x :: y :: t)
    by_cases e : y = -x
    · rw [if_pos e]
      exact h.tail
    · rw [if_neg e]
      exact ⟨e, h⟩
theorem push_back {s : List Int} {x : Int} (h : Red s) : push (push s x) (-x) = s := by
  cases s with
  | nil =>
    show (if x = - -x then [] else _) = _
    rw [if_pos (by omega)]
  | cons y t =>
    show push (if y = -x then t else x :: y :: t) (-x) = y :: t
    by_cases e : y = -x
    · rw [if_pos e]
      cases t with
      | nil =>
        show [-x] = _
        rw [e]
      | cons z t =>
        show (if z = - -x then t else -x :: z :: t) = y :: z :: t
        rw [if_neg (by
          have := h.1
          rw [e] at this
          exact this), e]
    · rw [if_neg e]
      show (if x = - -x then y :: t else _) = _
      rw [if_pos (by omega)]
theorem act_app (u v s : List Int) : act (u ++ v) s = act v (act u s) := by
  unfold act
  rw [List.foldl_append]
theorem red_act {w s : List Int} (h : Red s) : Red (act w s) := by
  induction w generalizing s with
  | nil => exact h
  | cons x r ih => exact ih (red_push h)
theorem red_nf (w : List Int) : Red (nf w) := red_act trivial
theorem nf_app (u v : List Int) : nf (u ++ v) = act v (nf u) := act_app u v []
theorem snoc_ind {P : List Int → Prop} (h0 : P []) (h1 : ∀ w x, P w → P (w ++ [x])) (w : List Int) : P w := by
  have : ∀ v : List Int, P v.reverse := fun v => by
    induction v with
    | nil => exact h0
    | cons x r ih =>
      rw [List.reverse_cons]
      exact h1 _ _ ih
  have h := this w.reverse
  rwa [List.reverse_reverse] at h
theorem act_nfw (w : List Int) : ∀ {s : List Int}, Red s → act (nfw w) s = act w s := by
  refine snoc_ind (P := fun w => ∀ {s : List Int}, Red s → act (nfw w) s = act w s) (fun _ => rfl) (fun w x ih s hs => ?_) w
  rw [act_app]
  show act (nfw (w ++ [x])) s = push (act w s) x
  rw [← ih hs]
  have e : nf (w ++ [x]) = push (nf w) x := nf_app w [x]
  unfold nfw
  rw [e]
  cases hn : nf w with
  | nil => rfl
  | cons y t =>
    show act (if y = -x then t else x :: y :: t).reverse s = push (act (y :: t).reverse s) x
    by_cases hy : y = -x
    · rw [if_pos hy, List.reverse_cons, act_app]
      show _ = push (push (act t.reverse s) y) x
      have hx : x = -y := by omega
      rw [hx, push_back (red_act hs)]
    · rw [if_neg hy, List.reverse_cons, act_app]
      rfl
/-- the same loose word -/
def Eqv (u v : List Int) : Prop := ∀ s, Red s → act u s = act v s
theorem Eqv.refl (u : List Int) : Eqv u u := fun _ _ => rfl
theorem Eqv.symm {u v : List Int} (h : Eqv u v) : Eqv v u := fun s hs => (h s hs).symm
theorem Eqv.trans {u v w : List Int} (h : Eqv u v) (k : Eqv v w) : Eqv u w := fun s hs => (h s hs).trans (k s hs)
theorem Eqv.app {u v u' v' : List Int} (h : Eqv u u') (k : Eqv v v') : Eqv (u ++ v) (u' ++ v') := fun s hs => by
  rw [act_app, act_app, h s hs, k _ (red_act hs)]
theorem eqv_nfw (u : List Int) : Eqv (nfw u) u := fun _ hs => act_nfw u hs
theorem Eqv.nfw {u v : List Int} (h : Eqv u v) : nfw u = nfw v := by
  unfold Free.nfw nf
  rw [h [] trivial]
theorem eqv_of_nfw {u v : List Int} (h : nfw u = nfw v) : Eqv u v := (eqv_nfw u).symm.trans (by rw [h]; exact eqv_nfw v)
theorem eqv_iff {u v : List Int} : Eqv u v ↔ nfw u = nfw v := ⟨Eqv.nfw, eqv_of_nfw⟩
theorem undL_app (u v : List Int) : undL (u ++ v) = undL v ++ undL u := by
  unfold undL negL
  rw [List.map_append, List.reverse_append]
theorem undL_undL (u : List Int) : undL (undL u) = u := by
  unfold undL negL
  rw [List.map_reverse, List.reverse_reverse, List.map_map]
  have : ((fun p : Int => -p) ∘ fun p => -p) = id := funext fun p => by show - -p = p; omega
  rw [this, List.map_id]
theorem undL_cons (x : Int) (u : List Int) : undL (x :: u) = undL u ++ [-x] := by
  unfold undL negL
  rw [List.map_cons, List.reverse_cons]
theorem undL_1 (x : Int) : undL [x] = [-x] := rfl
theorem eqv_pair (x : Int) : Eqv [x, -x] [] := fun s hs => by
  show push (push s x) (-x) = s
  exact push_back hs
theorem eqv_und (u : List Int) : Eqv (u ++ undL u) [] := by
  induction u with
  | nil => exact Eqv.refl _
  | cons x r ih =>
    rw [undL_cons, show x :: r ++ (undL r ++ [-x]) = [x] ++ ((r ++ undL r) ++ [-x]) by simp]
    exact ((Eqv.refl [x]).app (ih.app (Eqv.refl [-x]))).trans (eqv_pair x)
theorem eqv_und' (u : List Int) : Eqv (undL u ++ u) [] := by
  have := eqv_und (undL u)
  rwa [undL_undL] at this
theorem Eqv.und {u v : List Int} (h : Eqv u v) : Eqv (undL u) (undL v) := by
  have a : Eqv (undL u ++ (v ++ undL v)) (undL u ++ []) := (Eqv.refl _).app (eqv_und v)
  rw [List.append_nil] at a
  have b : Eqv ((undL u ++ v) ++ undL v) ([] ++ undL v) := (((Eqv.refl (undL u)).app h.symm).trans (eqv_und' u)).app (Eqv.refl _)
  rw [List.append_assoc, List.nil_append] at b
  exact a.symm.trans b
/-! lengths -/
theorem push_sub (s : List Int) (x : Int) : (push s x).Sublist (x :: s) := by
  cases s with
  | nil => exact List.Sublist.refl _
  | cons y t =>
    show (if y = -x then t else x :: y :: t).Sublist _
    by_cases e : y = -x
    · rw [if_pos e]
      exact ((List.Sublist.refl t).cons y).cons x
    · rw [if_neg e]
      exact List.Sublist.refl _
theorem act_len (w s : List Int) : (act w s).length ≤ w.length + s.length := by
  induction w generalizing s with
  | nil => show s.length ≤ 0 + s.length; omega
  | cons x r ih =>
    have h1 := ih (push s x)
    have h2 := (push_sub s x).length_le
    rw [List.length_cons] at h2
    show (act r (push s x)).length ≤ (r.length + 1) + s.length
    omega
theorem red_iff : ∀ {l : List Int}, Red l ↔ ∀ a x y b, l = a ++ x :: y :: b → y ≠ -x
  | [] => ⟨fun _ a x y b e => by simp at e, fun _ => trivial⟩
  | [z] => ⟨fun _ a x y b e => by
      cases a with
      | nil => simp at e
      | cons c a => simp at e, fun _ => trivial⟩
  | z :: t :: r => by
    constructor
    · intro h a x y b e
      cases a with
      | nil =>
        simp only [List.nil_append, List.cons.injEq] at e
        obtain ⟨rfl, rfl, _⟩ := e
        exact h.1
      | cons c a =>
        simp only [List.cons_append, List.cons.injEq] at e
        exact red_iff.mp h.2 a x y b e.2
    · intro h
      exact ⟨h [] z t r rfl, red_iff.mpr fun a x y b e => h (z :: a) x y b (by rw [e]; rfl)⟩
theorem Red.rev {l : List Int} (h : Red l) : Red l.reverse := red_iff.mpr fun a x y b e => by
  have : l = b.reverse ++ y :: x :: a.reverse := by
    have := congrArg List.reverse e
    rw [List.reverse_reverse] at this
    rw [this]
    simp
  have := red_iff.mp h _ _ _ _ this
  omega
theorem Red.neg {l : List Int} (h : Red l) : Red (negL l) := by
  induction l with
  | nil => trivial
  | cons x r ih =>
    cases r with
    | nil => trivial
    | cons y t => exact ⟨by have := h.1; show -y ≠ - -x; omega, ih h.2⟩
theorem nf_rev {s : List Int} (h : Red s) : nf s.reverse = s := by
  induction s with
  | nil => rfl
  | cons x t ih =>
    rw [List.reverse_cons, nf_app, ih h.tail]
    show push t x = _
    cases t with
    | nil => rfl
    | cons y r =>
      show (if y = -x then r else x :: y :: r) = _
      rw [if_neg h.1]
theorem nfw_red {u : List Int} (h : Red u) : nfw u = u := by
  unfold nfw
  have := nf_rev h.rev
  rw [List.reverse_reverse] at this
  rw [this, List.reverse_reverse]
theorem red_nfw (u : List Int) : Red (nfw u) := (red_nf u).rev
theorem nfw_undL (u : List Int) : nfw (undL (nfw u)) = undL (nfw u) := nfw_red (red_nfw u).neg.rev
theorem nfw_app_len (u b : List Int) : (nfw (u ++ b)).length ≤ (nfw u).length + b.length := by
  unfold nfw
  rw [nf_app, List.length_reverse, List.length_reverse]
  have := act_len b (nf u)
  omega
/-! letters led -/
def sub (f : Int → List Int) (u : List Int) : List Int := u.flatMap f
theorem sub_app (f : Int → List Int) (u v : List Int) : sub f (u ++ v) = sub f u ++ sub f v := by
  unfold sub
  rw [List.flatMap_append]
theorem sub_cons (f : Int → List Int) (x : Int) (u : List Int) : sub f (x :: u) = f x ++ sub f u := rfl
theorem sub_1 (f : Int → List Int) (x : Int) : sub f [x] = f x := by
  show f x ++ [] = _
  rw [List.append_nil]
def Odd (f : Int → List Int) : Prop := ∀ x, f (-x) = undL (f x)
theorem sub_und {f : Int → List Int} (h : Odd f) (u : List Int) : sub f (undL u) = undL (sub f u) := by
  induction u with
  | nil => rfl
  | cons x r ih => rw [undL_cons, sub_app, ih, sub_cons f x r, undL_app, sub_1, h]
theorem sub_nfw {f : Int → List Int} (h : Odd f) (w : List Int) : Eqv (sub f (nfw w)) (sub f w) := by
  refine snoc_ind (P := fun w => Eqv (sub f (nfw w)) (sub f w)) (Eqv.refl _) (fun w x ih => ?_) w
  rw [sub_app]
  refine Eqv.trans ?_ (ih.app (Eqv.refl _))
  have e : nf (w ++ [x]) = push (nf w) x := nf_app w [x]
  unfold nfw
  rw [e]
  cases hn : nf w with
  | nil => exact Eqv.refl _
  | cons y t =>
    show Eqv (sub f (if y = -x then t else x :: y :: t).reverse) _
    by_cases hy : y = -x
    · rw [if_pos hy, List.reverse_cons, sub_app, List.append_assoc, sub_1, sub_1, hy, h]
      have := (Eqv.refl (sub f t.reverse)).app (eqv_und' (f x))
      rw [List.append_nil] at this
      exact this.symm
    · rw [if_neg hy, List.reverse_cons (a := x), sub_app]
      exact Eqv.refl _
theorem sub_eqv {f : Int → List Int} (h : Odd f) {u v : List Int} (e : Eqv u v) : Eqv (sub f u) (sub f v) :=
  (sub_nfw h u).symm.trans (by rw [e.nfw]; exact sub_nfw h v)
theorem sub_fun_eqv {f g : Int → List Int} : ∀ {u : List Int}, (∀ x ∈ u, Eqv (f x) (g x)) → Eqv (sub f u) (sub g u)
  | [], _ => Eqv.refl _
  | x :: r, h => by
    rw [sub_cons, sub_cons]
    exact (h x List.mem_cons_self).app (sub_fun_eqv fun y hy => h y (List.mem_cons_of_mem _ hy))
/-! what a crossing sends a letter to -/
def sentP (k : Int) (pos : Bool) (x : Int) : List Int :=
  if pos then (if x = k then [k, k + 1, -k] else if x = k + 1 then [k] else [x])
  else (if x = k then [k + 1] else if x = k + 1 then [-(k + 1), k, k + 1] else [x])
def S (p x : Int) : List Int := if x < 0 then undL (sentP (absI p) (decide (0 < p)) (-x)) else sentP (absI p) (decide (0 < p)) x
theorem S_odd {p : Int} (hp : p ≠ 0) : Odd (S p) := fun x => by
  have hk : 0 < absI p := by unfold absI; split <;> omega
  unfold S
  by_cases h1 : x < 0
  · rw [if_pos h1, if_neg (by omega), undL_undL]
  · by_cases h2 : x = 0
    · subst h2
      have : ∀ b, sentP (absI p) b 0 = [0] := fun b => by
        unfold sentP
        cases b
        · rw [if_neg (by decide), if_neg (by omega), if_neg (by omega)]
        · rw [if_pos rfl, if_neg (by omega), if_neg (by omega)]
      rw [if_neg (by decide), if_neg (by decide)]
      show sentP _ _ 0 = _
      rw [this]
      rfl
    · rw [if_neg h1, if_pos (by omega), show - -x = x by omega]
def Phi (w u : List Int) : List Int := w.foldr (fun p v => sub (S p) v) u
theorem Phi_nil (u : List Int) : Phi [] u = u := rfl
theorem Phi_cons (p : Int) (w u : List Int) : Phi (p :: w) u = sub (S p) (Phi w u) := rfl
theorem Phi_append (a b u : List Int) : Phi (a ++ b) u = Phi a (Phi b u) := by
  unfold Phi
  rw [List.foldr_append]
theorem Phi_app (w u v : List Int) : Phi w (u ++ v) = Phi w u ++ Phi w v := by
  induction w with
  | nil => rfl
  | cons p r ih => rw [Phi_cons, ih, sub_app]; rfl
theorem Phi_und {w : List Int} (hw : ∀ p ∈ w, p ≠ 0) (u : List Int) : Phi w (undL u) = undL (Phi w u) := by
  induction w with
  | nil => rfl
  | cons p r ih =>
    rw [Phi_cons, ih fun q hq => hw q (List.mem_cons_of_mem _ hq), sub_und (S_odd (hw p List.mem_cons_self))]
    rfl
theorem Phi_eqv {w : List Int} (hw : ∀ p ∈ w, p ≠ 0) {u v : List Int} (e : Eqv u v) : Eqv (Phi w u) (Phi w v) := by
  induction w with
  | nil => exact e
  | cons p r ih => exact sub_eqv (S_odd (hw p List.mem_cons_self)) (ih fun q hq => hw q (List.mem_cons_of_mem _ hq))
theorem Phi_sub (w u : List Int) : Phi w u = sub (fun x => Phi w [x]) u := by
  induction u with
  | nil =>
    induction w with
    | nil => rfl
    | cons p r ih => rw [Phi_cons, ih]; rfl
  | cons x r ih =>
    rw [sub_cons, ← ih, ← Phi_app]
    rfl
/-! letters in range -/
def In5 (u : List Int) : Prop := ∀ x ∈ u, x ∈ ([1, 2, 3, 4, 5, -1, -2, -3, -4, -5] : List Int)
def gens : List Int := [1, 2, 3, 4, -1, -2, -3, -4]
theorem S_in : ∀ p ∈ gens, ∀ x ∈ ([1, 2, 3, 4, 5, -1, -2, -3, -4, -5] : List Int), ∀ y ∈ S p x, y ∈ ([1, 2, 3, 4, 5, -1, -2, -3, -4, -5] : List Int) := by decide
theorem In5.sub {p : Int} (hp : p ∈ gens) {u : List Int} (h : In5 u) : In5 (sub (S p) u) := fun y hy => by
  obtain ⟨x, hx, hy⟩ := List.mem_flatMap.mp hy
  exact S_in p hp x (h x hx) y hy
theorem In5.Phi {w : List Int} (hw : ∀ p ∈ w, p ∈ gens) {u : List Int} (h : In5 u) : In5 (Phi w u) := by
  induction w with
  | nil => exact h
  | cons p r ih => exact (ih fun q hq => hw q (List.mem_cons_of_mem _ hq)).sub (hw p List.mem_cons_self)
/-- two words that make the same of each letter -/
def Same (r r' : List Int) : Prop := ∀ x ∈ ([1, 2, 3, 4, 5, -1, -2, -3, -4, -5] : List Int), nfw (Phi r [x]) = nfw (Phi r' [x])
instance (r r' : List Int) : Decidable (Same r r') := inferInstanceAs (Decidable (∀ x ∈ ([1, 2, 3, 4, 5, -1, -2, -3, -4, -5] : List Int), nfw (Phi r [x]) = nfw (Phi r' [x])))
theorem Same.on {r r' : List Int} (h : Same r r') {u : List Int} (hu : In5 u) : Eqv (Phi r u) (Phi r' u) := by
  rw [Phi_sub r u, Phi_sub r' u]
  exact sub_fun_eqv fun x hx => eqv_of_nfw (h x (hu x hx))
theorem gens0 {p : Int} (h : p ∈ gens) : p ≠ 0 := by
  rintro rfl
  revert h
  decide
theorem Same.mid {r r' a b : List Int} (h : Same r r') (ha : ∀ p ∈ a, p ∈ gens) (hb : ∀ p ∈ b, p ∈ gens) {u : List Int} (hu : In5 u) : Eqv (Phi (a ++ r ++ b) u) (Phi (a ++ r' ++ b) u) := by
  rw [Phi_append, Phi_append, Phi_append, Phi_append]
  exact Phi_eqv (fun p hp => gens0 (ha p hp)) (h.on (hu.Phi hb))
theorem same_pair : ∀ k ∈ gens, Same [k, -k] [] := by decide
theorem same_three : ∀ k ∈ ([1, 2, 3] : List Int), Same [k, k + 1, k] [k + 1, k, k + 1] := by decide
theorem same_far : ∀ l ∈ ([3, 4] : List Int), Same [1, -l] [-l, 1] := by decide
theorem same_und {w : List Int} (hw : ∀ p ∈ w, p ∈ gens) {u : List Int} (hu : In5 u) : Eqv (Phi (w ++ undL w) u) u := by
  induction w generalizing u with
  | nil => exact Eqv.refl _
  | cons p r ih =>
    have hp := hw p List.mem_cons_self
    have hr : ∀ q ∈ r, q ∈ gens := fun q hq => hw q (List.mem_cons_of_mem _ hq)
    have hn : -p ∈ gens := (show ∀ q ∈ gens, -q ∈ gens by decide) p hp
    rw [undL_cons, show p :: r ++ (undL r ++ [-p]) = [p] ++ ((r ++ undL r) ++ [-p]) by simp, Phi_append, Phi_append]
    refine (Phi_eqv (fun q hq => by
      rw [List.mem_singleton.mp hq]
      exact gens0 hp) (ih hr (hu.Phi fun q hq => by
      rw [List.mem_singleton.mp hq]
      exact hn))).trans ?_
    have := (same_pair p hp).on hu
    rw [show [p, -p] = [p] ++ [-p] from rfl, Phi_append] at this
    exact this
/-! lengths of letters -/
theorem nfw_len (w : List Int) : (nfw w).length ≤ w.length := by
  unfold nfw nf
  have := act_len w []
  rw [List.length_reverse]
  simpa using this
theorem nfw_sublist (w : List Int) : (nfw w).Sublist w := by
  refine snoc_ind (P := fun w => (nfw w).Sublist w) (List.Sublist.refl _) (fun w x ih => ?_) w
  have e : nf (w ++ [x]) = push (nf w) x := nf_app w [x]
  have h1 : (push (nf w) x).Sublist (x :: nf w) := push_sub _ _
  have h2 : (nfw (w ++ [x])).Sublist (nfw w ++ [x]) := by
    unfold nfw
    rw [e, show (nf w).reverse ++ [x] = (x :: nf w).reverse by rw [List.reverse_cons]]
    exact h1.reverse
  exact h2.trans (ih.append (List.Sublist.refl _))
theorem sub_len_le {f : Int → List Int} {u v : List Int} (h : u.Sublist v) : (sub f u).length ≤ (sub f v).length := by
  induction h with
  | slnil => exact Nat.le_refl _
  | cons a _ ih =>
    rw [sub_cons, List.length_append]
    omega
  | cons_cons a _ ih =>
    rw [sub_cons, sub_cons, List.length_append, List.length_append]
    omega
/-- how long letters get: at most A, all but one at most B -/
def Lim (A B : Nat) (w : List Int) : Prop := B ≤ A ∧ (∀ x ∈ ([1, 2, 3, 4, 5] : List Int), (Phi w [x]).length ≤ A) ∧ (∀ x ∈ ([1, 2, 3, 4, 5] : List Int), ∀ y ∈ ([1, 2, 3, 4, 5] : List Int), x ≠ y → (Phi w [x]).length ≤ B ∨ (Phi w [y]).length ≤ B)
theorem undL_len' (u : List Int) : (undL u).length = u.length := undL_len u
theorem Phi_len_neg {w : List Int} (hw : ∀ p ∈ w, p ∈ gens) (x : Int) : (Phi w [-x]).length = (Phi w [x]).length := by
  rw [← undL_1, Phi_und (fun p hp => gens0 (hw p hp)), undL_len]
theorem lim_nil : Lim 1 1 [] := by
  refine ⟨Nat.le_refl _, fun x _ => Nat.le_refl _, fun x _ y _ _ => .inl (Nat.le_refl _)⟩
theorem lim_step {A B : Nat} {w : List Int} (hw : ∀ p ∈ w, p ∈ gens) (h : Lim A B w) {p : Int} (hp : p ∈ gens) : Lim (2 * A + B) A (w ++ [p]) := by
  obtain ⟨hBA, hA, hB⟩ := h
  have e : ∀ x, Phi (w ++ [p]) [x] = Phi w (S p x) := fun x => by
    rw [Phi_append, Phi_cons, Phi_nil, sub_1]
  have l3 : ∀ a b : Int, (Phi w [a, b, -a]).length = 2 * (Phi w [a]).length + (Phi w [b]).length := fun a b => by
    rw [show [a, b, -a] = [a] ++ ([b] ++ [-a]) from rfl, Phi_app, Phi_app, List.length_append, List.length_append, Phi_len_neg hw]
    omega
  have l3' : ∀ a b : Int, (Phi w [-a, b, a]).length = 2 * (Phi w [a]).length + (Phi w [b]).length := fun a b => by
    rw [show [-a, b, a] = [-a] ++ ([b] ++ [a]) from rfl, Phi_app, Phi_app, List.length_append, List.length_append, Phi_len_neg hw]
    omega
  have h1 := hA 1 (by decide)
  have h2 := hA 2 (by decide)
  have h3 := hA 3 (by decide)
  have h4 := hA 4 (by decide)
  have h5 := hA 5 (by decide)
  have h12 := hB 1 (by decide) 2 (by decide) (by decide)
  have h23 := hB 2 (by decide) 3 (by decide) (by decide)
  have h34 := hB 3 (by decide) 4 (by decide) (by decide)
  have h45 := hB 4 (by decide) 5 (by decide) (by decide)
  simp only [gens, List.mem_cons, List.not_mem_nil, or_false] at hp
  refine ⟨by omega, ?_, ?_⟩
  · intro x hx
    rw [e]
    simp only [List.mem_cons, List.not_mem_nil, or_false] at hx
    rcases hp with rfl | rfl | rfl | rfl | rfl | rfl | rfl | rfl <;> rcases hx with rfl | rfl | rfl | rfl | rfl <;>
      first
      | (show (Phi w [(1 : Int)]).length ≤ _; omega)
      | (show (Phi w [(2 : Int)]).length ≤ _; omega)
      | (show (Phi w [(3 : Int)]).length ≤ _; omega)
      | (show (Phi w [(4 : Int)]).length ≤ _; omega)
      | (show (Phi w [(5 : Int)]).length ≤ _; omega)
      | (have q := l3 1 2; show (Phi w [(1 : Int), 2, -1]).length ≤ _; omega)
      | (have q := l3 2 3; show (Phi w [(2 : Int), 3, -2]).length ≤ _; omega)
      | (have q := l3 3 4; show (Phi w [(3 : Int), 4, -3]).length ≤ _; omega)
      | (have q := l3 4 5; show (Phi w [(4 : Int), 5, -4]).length ≤ _; omega)
      | (have q := l3' 2 1; show (Phi w [(-2 : Int), 1, 2]).length ≤ _; omega)
      | (have q := l3' 3 2; show (Phi w [(-3 : Int), 2, 3]).length ≤ _; omega)
      | (have q := l3' 4 3; show (Phi w [(-4 : Int), 3, 4]).length ≤ _; omega)
      | (have q := l3' 5 4; show (Phi w [(-5 : Int), 4, 5]).length ≤ _; omega)
  · have small : ∀ q ∈ gens, ∃ z : Int, ∀ x ∈ ([1, 2, 3, 4, 5] : List Int), x ≠ z → ∃ y ∈ ([1, 2, 3, 4, 5] : List Int), S q x = [y] := by
      intro q hq
      refine ⟨if 0 < q then q else -q + 1, ?_⟩
      revert q
      decide
    obtain ⟨z, hz⟩ := small p (by simpa [gens] using hp)
    intro x hx y hy hne
    by_cases hxz : x = z
    · refine .inr ?_
      obtain ⟨t, ht, et⟩ := hz y hy (fun c => hne (hxz.trans c.symm))
      rw [e, et]
      exact hA t ht
    · refine .inl ?_
      obtain ⟨t, ht, et⟩ := hz x hx hxz
      rw [e, et]
      exact hA t ht
def pell : Nat → Nat × Nat
  | 0 => (1, 1)
  | n + 1 => (2 * (pell n).1 + (pell n).2, (pell n).1)
theorem lim_all (w : List Int) : (∀ p ∈ w, p ∈ gens) → Lim (pell w.length).1 (pell w.length).2 w := by
  refine snoc_ind (P := fun w => (∀ p ∈ w, p ∈ gens) → Lim (pell w.length).1 (pell w.length).2 w) (fun _ => lim_nil) (fun w p ih h => ?_) w
  have hw : ∀ q ∈ w, q ∈ gens := fun q hq => h q (List.mem_append_left _ hq)
  rw [List.length_append]
  exact lim_step hw (ih hw) (h p (by simp))
theorem pell_mono {m n : Nat} (h : m ≤ n) : (pell m).1 ≤ (pell n).1 := by
  induction h with
  | refl => exact Nat.le_refl _
  | step _ ih => exact Nat.le_trans ih (by show _ ≤ 2 * _ + _; omega)
theorem phi_len {w : List Int} (hw : ∀ p ∈ w, p ∈ gens) {m : Nat} (hm : w.length ≤ m) {x : Int} (hx : x ∈ ([1, 2, 3, 4, 5, -1, -2, -3, -4, -5] : List Int)) : (Phi w [x]).length ≤ (pell m).1 := by
  have h := (lim_all w hw).2.1
  refine Nat.le_trans ?_ (pell_mono hm)
  have : ∃ y ∈ ([1, 2, 3, 4, 5] : List Int), x = y ∨ x = -y := by
    revert x
    decide
  obtain ⟨y, hy, rfl | rfl⟩ := this
  · exact h x hy
  · rw [Phi_len_neg hw]
    exact h y hy
theorem isW_gens {n : Int} (hn : n ≤ 5) {w : List Int} (h : IsW n w) : ∀ p ∈ w, p ∈ gens := fun p hp => by
  have := h p hp
  have : p = 1 ∨ p = 2 ∨ p = 3 ∨ p = 4 ∨ p = -1 ∨ p = -2 ∨ p = -3 ∨ p = -4 := by omega
  simp only [gens, List.mem_cons, List.not_mem_nil, or_false]
  exact this
end Free
end
section
set_option linter.all false
set_option maxRecDepth 100000
set_option maxHeartbeats 4000000
namespace Tie
open PySem DV Mir Free
/-! data that can be compared -/
def Sh (k : Nat) (d : PyData) : Prop := d.canLay0 = true ∧ d.depth ≤ k
theorem sh_all {k : Nat} : ∀ {ds : List PyData}, (∀ d ∈ ds, Sh k d) → PyData.canLayAll0 ds = true ∧ PyData.depthAll ds ≤ k
  | [], _ => ⟨rfl, Nat.zero_le _⟩
  | d :: r, h => by
    obtain ⟨a, b⟩ := h d List.mem_cons_self
    obtain ⟨c, e⟩ := sh_all fun x hx => h x (List.mem_cons_of_mem _ hx)
    refine ⟨by unfold PyData.canLayAll0; rw [a, c]; rfl, ?_⟩
    simp only [PyData.depthAll]
    omega
theorem sh_tuple {k : Nat} {ds : List PyData} (h : ∀ d ∈ ds, Sh k d) : Sh (k + 1) (.tuple ds) := by
  obtain ⟨a, b⟩ := sh_all h
  refine ⟨a, ?_⟩
  simp only [PyData.depth]
  omega
theorem sh_list {k : Nat} {ds : List PyData} (h : ∀ d ∈ ds, Sh k d) : Sh (k + 1) (.list ds) := by
  obtain ⟨a, b⟩ := sh_all h
  refine ⟨a, ?_⟩
  simp only [PyData.depth]
  omega
theorem sh_int (i : Int) : Sh 1 (.int i) := ⟨rfl, by simp [PyData.depth]⟩
theorem sh_bool (i : Bool) : Sh 1 (.bool i) := ⟨rfl, by simp [PyData.depth]⟩
theorem Sh.mono {k m : Nat} {d : PyData} (h : Sh k d) (hk : k ≤ m) : Sh m d := ⟨h.1, Nat.le_trans h.2 hk⟩
theorem sh_tI (l : List Int) : Sh 2 (tI l) := sh_tuple fun d hd => by
  obtain ⟨n, _, rfl⟩ := List.mem_map.mp hd
  exact sh_int n
theorem sh_lI (l : List Int) : Sh 2 (lI l) := sh_list fun d hd => by
  obtain ⟨n, _, rfl⟩ := List.mem_map.mp hd
  exact sh_int n
def ttI (rows : List (List Int)) : PyData := .tuple (rows.map tI)
theorem sh_ttI (rows : List (List Int)) : Sh 3 (ttI rows) := sh_tuple fun d hd => by
  obtain ⟨n, _, rfl⟩ := List.mem_map.mp hd
  exact sh_tI n
theorem Sh.shaped {k : Nat} {d : PyData} (h : Sh k d) (hk : k ≤ 64 := by decide) : SeqAt.shaped d = true := by
  unfold SeqAt.shaped
  rw [h.1, decide_eq_true (Nat.le_trans h.2 hk)]
  rfl
theorem pEq_self {k : Nat} {d : PyData} (h : Sh k d) (hk : k ≤ 64 := by decide) : pEq d d = some (.bool true) := by
  unfold pEq
  rw [if_pos ⟨h.shaped hk, h.shaped hk⟩, PySem.SeqAt.eqv_refl d h.1]
theorem pNe_self {k : Nat} {d : PyData} (h : Sh k d) (hk : k ≤ 64 := by decide) : pNe d d = some (.bool false) := by
  unfold pNe
  rw [if_pos ⟨h.shaped hk, h.shaped hk⟩, PySem.SeqAt.eqv_refl d h.1]
  rfl
/-! loose words -/
def encS (s : List Int) : List PyData := s.reverse.map .int
theorem encS_cons (y : Int) (t : List Int) : encS (y :: t) = encS t ++ [.int y] := by
  unfold encS
  rw [List.reverse_cons, List.map_append]
  rfl
theorem encS_len (s : List Int) : (encS s).length = s.length := by
  unfold encS
  rw [List.length_map, List.length_reverse]
theorem atI_last (l : List PyData) (d : PyData) : L2.atI (l ++ [d]) (-1) = some d := by
  unfold L2.atI L2.ixN
  rw [if_neg (by decide), if_pos (by rw [List.length_append]; simp; omega), bs]
  rw [show ((-1 : Int) + ((l ++ [d]).length : Nat)).toNat = l.length by rw [List.length_append]; simp; omega]
  simp
theorem pIdx_last (l : List PyData) (d : PyData) : pIdx (.list (l ++ [d])) (.int (-1)) = some d := atI_last l d
theorem foldlM_act {f : List PyData → PyData → Option (List PyData)} {b s : List Int} (hl : s.length + b.length ≤ 8000000) (h : ∀ (t : List Int) (x : Int), x ∈ b → t.length < 8000000 → f (encS t) (.int x) = some (encS (push t x))) : (b.map PyData.int).foldlM f (encS s) = some (encS (act b s)) := by
  induction b generalizing s with
  | nil => rfl
  | cons x r ih =>
    rw [List.length_cons] at hl
    rw [List.map_cons, List.foldlM_cons, h s x List.mem_cons_self (by omega)]
    have hp := (push_sub s x).length_le
    rw [List.length_cons] at hp
    exact ih (by omega) fun t y hy => h t y (List.mem_cons_of_mem _ hy)
theorem encS_rev (a : List Int) : encS a.reverse = a.map .int := by
  unfold encS
  rw [List.reverse_reverse]
theorem t_put (a b : List Int) (h : a.length + b.length ≤ 8000000) : m_put (tI a) (tI b) = some (tI (act b a.reverse).reverse) := by
  unfold m_put
  simp only [bs, itemsOf_tI]
  rw [show pListL [tI a] = some (encS a.reverse) by rw [encS_rev]; rfl, bs]
  refine bnd (foldlM_act (by rw [List.length_reverse]; exact h) fun t x _ ht => ?_) ?_
  · cases t with
    | nil =>
      simp only [pLen_list, bs, pGt_int, encS_len, List.length_nil]
      rfl
    | cons y t =>
      simp only [pLen_list, bs, pGt_int, encS_len, List.length_cons, asB_bool, pNeg_int]
      rw [decide_eq_true (by omega), encS_cons, if_pos rfl, pIdx_last]
      simp only [bs, pEq_int, asB_bool]
      show _ = some (encS (if y = -x then t else x :: y :: t))
      by_cases e : y = -x
      · rw [decide_eq_true e, if_pos rfl, if_pos e, if_neg (by simp), bs, List.dropLast_concat]
      · rw [List.length_cons] at ht
        rw [decide_eq_false e, if_neg (by decide), if_neg e, if_pos (show szOk _ by show _ ≤ 8000000; omega), bs, encS_cons x, encS_cons]
  · rfl
theorem t_together {one other : PyData} (a b : List Int) (h1 : pListL [one] = some (a.map .int)) (h2 : itemsOf other = some (b.map .int)) (h : a.length + b.length ≤ 8000000) : m_law_together one other = some (lI (act b a.reverse).reverse) := by
  unfold m_law_together
  simp only [bs, h2, h1]
  rw [← encS_rev]
  refine bnd (foldlM_act (by rw [List.length_reverse]; exact h) fun t x _ ht => ?_) ?_
  · cases t with
    | nil =>
      simp only [bs, mkLst_nil]
      rw [show pNe (.list (encS [])) (PyData.list []) = some (.bool false) from (pNe_lI [] []).trans (by simp)]
      rfl
    | cons y t =>
      have hne : pNe (.list (encS (y :: t))) (PyData.list []) = some (.bool true) := (pNe_lI (y :: t).reverse []).trans (by simp)
      simp only [bs, mkLst_nil, hne, asB_bool, pNeg_int]
      rw [encS_cons, if_pos (show True from trivial), pIdx_last]
      simp only [bs, pAdd_int, pEq_int, asB_bool]
      show _ = some (encS (if y = -x then t else x :: y :: t))
      by_cases e : y = -x
      · rw [decide_eq_true (show y + x = 0 by omega), if_pos rfl, if_pos e, if_neg (by simp), bs, List.dropLast_concat]
      · rw [List.length_cons] at ht
        rw [decide_eq_false (show ¬ y + x = 0 by omega), if_neg (by decide), if_neg e, if_pos (show szOk _ by show _ ≤ 8000000; rw [List.length_append, encS_len]; simp; omega), bs, encS_cons x, encS_cons]
  · rfl
theorem act_nfwr (u b : List Int) : (act b (nfw u).reverse).reverse = nfw (u ++ b) := by
  unfold nfw
  rw [List.reverse_reverse, nf_app]
theorem t_sent0 (x p : Int) (f : Nat) (hx : 0 ≤ x) : m_sent (f + 1) (.int x) (.int p) = some (tI (sentP (absI p) (decide (0 < p)) x)) := by
  unfold m_sent
  simp only [bs, pAbs_int, pLt_int, pGt_int, asB_bool, pAdd_int, pEq_int, pNeg_int, mkTup_3, mkTup_1]
  rw [show (if p < 0 then -p else p) = absI p from rfl, decide_eq_false (show ¬ x < 0 by omega), if_neg (by decide)]
  unfold sentP
  by_cases hp : 0 < p
  · rw [decide_eq_true hp, if_pos rfl, if_pos rfl]
    by_cases h1 : x = absI p
    · simp [h1]
      rfl
    · by_cases h2 : x = absI p + 1
      · simp [h2, show ¬ absI p + 1 = absI p by omega]
        rfl
      · simp [h1, h2]
        rfl
  · rw [decide_eq_false hp, if_neg (by decide), if_neg (by decide)]
    by_cases h1 : x = absI p
    · simp [h1]
      rfl
    · by_cases h2 : x = absI p + 1
      · simp [h2, show ¬ absI p + 1 = absI p by omega]
        rfl
      · simp [h1, h2]
        rfl
theorem sentP_len (k : Int) (b : Bool) (x : Int) : (sentP k b x).length ≤ 3 := by
  unfold sentP
  split
  · split
    · simp
    · split <;> simp
  · split
    · simp
    · split <;> simp
theorem S_len (p x : Int) : (S p x).length ≤ 3 := by
  unfold S
  split
  · rw [undL_len]
    exact sentP_len _ _ _
  · exact sentP_len _ _ _
theorem t_sent (x p : Int) : m_sent 2 (.int x) (.int p) = some (tI (S p x)) := by
  by_cases hx : x < 0
  · unfold m_sent
    simp only [bs, pAbs_int, pLt_int, asB_bool, pNeg_int, ap2_mk]
    rw [decide_eq_true hx, if_pos rfl, t_sent0 (-x) p 0 (by omega), bs, pRev_tI, bs, itemsOf_tI, bs, compL_ints (g := fun y => -y) (by
      rw [List.length_reverse]
      have := sentP_len (absI p) (decide (0 < p)) (-x)
      omega) (fun n _ => by rw [pNeg_int])]
    simp only [bs, pTuple_lI]
    unfold S
    rw [if_pos hx]
    unfold undL negL
    rw [List.map_reverse]
  · rw [t_sent0 x p 1 (by omega)]
    unfold S
    rw [if_neg hx]
theorem foldlM_grow {f : List PyData → PyData → Option (List PyData)} {g : PyData → PyData} : ∀ {ds acc : List PyData}, acc.length + ds.length ≤ 8000000 → (∀ st d, d ∈ ds → st.length < 8000000 → f st d = some (st ++ [g d])) → ds.foldlM f acc = some (acc ++ ds.map g)
  | [], acc, _, _ => by simp
  | d :: r, acc, hl, h => by
    rw [List.length_cons] at hl
    rw [List.foldlM_cons, h acc d List.mem_cons_self (by omega)]
    show r.foldlM f (acc ++ [g d]) = _
    rw [foldlM_grow (by rw [List.length_append]; simp; omega) fun st x hx => h st x (List.mem_cons_of_mem _ hx)]
    simp
theorem foldlM_growI {τ : Type} {f : List PyData → PyData → Option (List PyData)} {c : τ → PyData} {g : τ → PyData} {ts : List τ} (hl : ts.length ≤ 8000000) (h : ∀ st t, t ∈ ts → st.length < 8000000 → f st (c t) = some (st ++ [g t])) : (ts.map c).foldlM f [] = some (ts.map g) := by
  have : ∀ {ts : List τ} {acc : List PyData}, acc.length + ts.length ≤ 8000000 → (∀ st t, t ∈ ts → st.length < 8000000 → f st (c t) = some (st ++ [g t])) → (ts.map c).foldlM f acc = some (acc ++ ts.map g) := by
    intro ts
    induction ts with
    | nil =>
      intro acc _ _
      simp
    | cons d r ih =>
      intro acc hl h
      rw [List.length_cons] at hl
      rw [List.map_cons, List.foldlM_cons, h acc d List.mem_cons_self (by omega)]
      show (r.map c).foldlM f (acc ++ [g d]) = _
      rw [ih (by rw [List.length_append]; simp; omega) fun st x hx => h st x (List.mem_cons_of_mem _ hx)]
      simp
  have h2 := this (ts := ts) (acc := []) (by simpa using hl) h
  simpa using h2
/-- room at each step of made_of -/
def Room (n : Nat) (w : List Int) : Prop := ∀ a p b, w = a ++ p :: b → ∀ x ∈ upL 1 n, (sub (S p) (nfw (Phi b [x]))).length ≤ 99990
theorem Room.tail {n : Nat} {p : Int} {w : List Int} (h : Room n (p :: w)) : Room n w := fun a q b e => h (p :: a) q b (by rw [e]; rfl)
def rowsL (n : Nat) (w : List Int) : List (List Int) := (upL 1 n).map fun x => nfw (Phi w [x])
theorem rowsL_len (n : Nat) (w : List Int) : (rowsL n w).length = n := by
  unfold rowsL
  rw [List.length_map, upL_len]
theorem take_sub (p : Int) (r : List Int) (i : Nat) {x : Int} (h : r[i]? = some x) : sub (S p) (r.take (i + 1)) = sub (S p) (r.take i) ++ S p x := by
  rw [List.take_add_one, h, sub_app]
  show _ ++ sub (S p) [x] = _
  rw [sub_1]
theorem compL_gen {τ : Type} {f : PyData → Option PyData} {c g : τ → PyData} {ts : List τ} (hz : ts.length ≤ 8000000) (h : ∀ t ∈ ts, f (c t) = some (g t)) : compL (fun _ => some true) f (ts.map c) = some (.list (ts.map g)) := by
  have : ∀ {ts : List τ}, (∀ t ∈ ts, f (c t) = some (g t)) → compM (fun _ => some true) f (ts.map c) = some (ts.map g) := by
    intro ts
    induction ts with
    | nil => intro _; rfl
    | cons t r ih =>
      intro h
      rw [List.map_cons]
      unfold compM
      rw [h t List.mem_cons_self, ih fun x hx => h x (List.mem_cons_of_mem _ hx)]
      rfl
  unfold compL
  rw [if_pos (show szOk _ by show _ ≤ 8000000; rw [List.length_map]; exact hz), this h]
  rfl
theorem foldlM_rev {f : PyData → PyData → Option PyData} {E : List Int → PyData} {st0 : PyData} (w : List Int) (h0 : st0 = E []) (h : ∀ a p b, w = a ++ p :: b → f (E b) (.int p) = some (E (p :: b))) : (w.reverse.map PyData.int).foldlM f st0 = some (E w) := by
  induction w with
  | nil => rw [h0]; rfl
  | cons p r ih =>
    rw [List.reverse_cons, List.map_append, List.foldlM_append, ih fun a q b e => h (p :: a) q b (by rw [e]; rfl)]
    show List.foldlM f (E r) [PyData.int p] = _
    rw [List.foldlM_cons, h [] p r rfl]
    rfl
theorem t_made_of (w : List Int) (n : Nat) (hn : n ≤ 1000) (h0 : ∀ p ∈ w, p ≠ 0) (hr : Room n w) : m_made_of (tI w) (.int n) = some (ttI (rowsL n w)) := by
  unfold m_made_of
  simp only [bs, pAdd_int, pRev_tI, itemsOf_tI]
  rw [show (if [PyData.int 1, PyData.int ((n : Int) + 1)].length = 2 then pRange [PyData.int 1, PyData.int ((n : Int) + 1)] else none) = pRange [PyData.int 1, PyData.int ((n : Int) + 1)] from if_pos rfl, pRange_2 (by omega), bs]
  rw [compL_gen (g := fun x => tI [x]) (by rw [upL_len]; omega) (fun x _ => by rw [mkTup_1]; rfl), bs]
  rw [show ((n : Int) + 1 - 1).toNat = n by omega]
  refine bnd (foldlM_rev (E := fun w => PyData.list ((rowsL n w).map tI)) w (by unfold rowsL; rw [List.map_map]; rfl) fun a p b e => ?_) ?_
  · simp only [bs, szL_nil, itemsOf_list, mkTup_nil]
    refine bnd (foldlM_growI (g := fun row => tI (nfw (sub (S p) row))) (by rw [rowsL_len]; omega) fun st row hrow hst => ?_) ?_
    · simp only [bs, itemsOf_tI]
      have hlen : (sub (S p) row).length ≤ 99990 := by
        obtain ⟨x, hx, rfl⟩ := List.mem_map.mp hrow
        exact hr a p b e x hx
      refine bnd_of (foldlM_ix (fun i a => a = tI (nfw (sub (S p) (row.take i)))) rfl ?_) ?_
      · rintro i a x hx rfl
        refine ⟨_, ?_, rfl⟩
        simp only [bs, ap2_mk, t_sent]
        rw [take_sub p row i hx, t_put _ _ (by
          have h1 := nfw_len (sub (S p) (row.take i))
          have h2 := sub_len_le (f := S p) (List.take_sublist i row)
          have h3 := S_len p x
          omega), act_nfwr]
        rfl
      · rintro a rfl
        rw [List.take_length, if_pos (show szOk _ from Nat.le_of_lt hst)]
    · show some (PyData.list ((rowsL n b).map fun row => tI (nfw (sub (S p) row)))) = some (PyData.list ((rowsL n (p :: b)).map tI))
      unfold rowsL
      rw [List.map_map, List.map_map]
      refine congrArg (fun l => some (PyData.list l)) (List.map_congr_left fun x hx => ?_)
      show tI (nfw (sub (S p) (nfw (Phi b [x])))) = tI (nfw (sub (S p) (Phi b [x])))
      rw [(sub_nfw (S_odd (h0 p (by rw [e]; simp))) (Phi b [x])).nfw]
  · rfl
end Tie
end
section
set_option linter.all false
set_option maxRecDepth 100000
set_option maxHeartbeats 4000000
namespace Tie
open PySem DV Mir Free
/-! a dict with the keys a, a + 1, .. -/
def dct (n : Nat) (J : Int → PyData) : List (L2.Key × PyData) := (upL 1 n).map fun x => ((Sum.inl x : L2.Key), J x)
def upd (J : Int → PyData) (k : Int) (d : PyData) (x : Int) : PyData := if x = k then d else J x
theorem valD_map (l : List Int) (J : Int → PyData) (k : Int) (h : k ∈ l) : valD (l.map fun x => ((Sum.inl x : L2.Key), J x)) (Sum.inl k) = some (J k) := by
  induction l with
  | nil => cases h
  | cons x r ih =>
    unfold valD
    rw [List.map_cons, List.find?_cons]
    by_cases e : x = k
    · subst e
      rw [decide_eq_true rfl]
      rfl
    · rw [decide_eq_false (fun c => e (Sum.inl.inj c))]
      rcases List.mem_cons.mp h with h | h
      · exact absurd h.symm e
      · exact ih h
theorem valD_dct {n : Nat} {J : Int → PyData} {k : Int} (h : 1 ≤ k ∧ k ≤ n) : valD (dct n J) (Sum.inl k) = some (J k) := valD_map _ J k (mem_upL.mpr (by omega))
theorem putD_dct {n : Nat} {J : Int → PyData} {k : Int} {d : PyData} (h : 1 ≤ k ∧ k ≤ n) : putD (dct n J) (Sum.inl k) d = dct n (upd J k d) := by
  unfold putD dct
  rw [if_pos (by
    rw [List.any_map, List.any_eq_true]
    exact ⟨k, mem_upL.mpr (by omega), decide_eq_true rfl⟩), List.map_map]
  refine List.map_congr_left fun x _ => ?_
  show (if (Sum.inl x : L2.Key) = Sum.inl k then ((Sum.inl x : L2.Key), d) else (Sum.inl x, J x)) = (Sum.inl x, upd J k d x)
  unfold upd
  by_cases e : x = k
  · subst e
    rw [if_pos rfl, if_pos rfl]
  · rw [if_neg (fun c => e (Sum.inl.inj c)), if_neg e]
theorem upL_succ (a : Int) (n : Nat) : upL a (n + 1) = upL a n ++ [a + n] := by
  unfold upL
  rw [List.range_succ, List.map_append]
  rfl
theorem putD_new {n : Nat} {J : Int → PyData} {d : PyData} (hd : d = J ((n : Int) + 1)) : putD (dct n J) (Sum.inl ((n : Int) + 1)) d = dct (n + 1) J := by
  unfold putD dct
  rw [if_neg (by
    rw [List.any_map, List.any_eq_true]
    rintro ⟨x, hx, hc⟩
    have hx := mem_upL.mp hx
    have := Sum.inl.inj (of_decide_eq_true hc)
    omega), upL_succ, List.map_append, hd, Int.add_comm 1 (n : Int)]
  rfl
theorem dct_len (n : Nat) (J : Int → PyData) : (dct n J).length = n := by
  unfold dct
  rw [List.length_map, upL_len]
theorem dct_congr {n : Nat} {J J' : Int → PyData} (h : ∀ x : Int, 1 ≤ x → x ≤ n → J x = J' x) : dct n J = dct n J' := by
  unfold dct
  refine List.map_congr_left fun x hx => ?_
  have hx := mem_upL.mp hx
  rw [h x (by omega) (by omega)]
theorem compL_negr (l : List Int) (h : l.length ≤ 8000000) : compL (fun _ => some true) pNeg (l.reverse.map .int) = some (lI (undL l)) := by
  rw [compL_ints (g := fun y => -y) (by rw [List.length_reverse]; exact h) (fun n _ => by rw [pNeg_int])]
  unfold undL negL
  rw [List.map_reverse]
theorem pListL_lI (l : List Int) : pListL [lI l] = some (l.map .int) := rfl
theorem pListL_tI (l : List Int) : pListL [tI l] = some (l.map .int) := rfl
theorem t_tog_ll (a b : List Int) (h : a.length + b.length ≤ 8000000) : m_law_together (lI a) (lI b) = some (lI (act b a.reverse).reverse) := t_together a b rfl rfl h
theorem t_tog_lt (a b : List Int) (h : a.length + b.length ≤ 8000000) : m_law_together (lI a) (tI b) = some (lI (act b a.reverse).reverse) := t_together a b rfl rfl h
theorem nfw_mid {u u' v v' : List Int} (h1 : Eqv u u') (h2 : Eqv v v') : nfw (u ++ v) = nfw (u' ++ v') := (h1.app h2).nfw
theorem idem (u : List Int) : nfw (nfw u) = nfw u := (eqv_nfw u).nfw
theorem t_tog_nfw (u b : List Int) (h : (nfw u).length + b.length ≤ 8000000) : m_law_together (lI (nfw u)) (lI b) = some (lI (nfw (u ++ b))) := by
  rw [t_tog_ll _ _ h, act_nfwr]
theorem t_tog_nfwt (u b : List Int) (h : (nfw u).length + b.length ≤ 8000000) : m_law_together (lI (nfw u)) (tI b) = some (lI (nfw (u ++ b))) := by
  rw [t_tog_lt _ _ h, act_nfwr]
/-- images: the row of a letter below a word -/
def imgD (w : List Int) (x : Int) : PyData := lI (nfw (Phi w [x]))
theorem img_len {w : List Int} (hw : ∀ p ∈ w, p ∈ gens) {m : Nat} (hm : w.length ≤ m) {x : Int} (hx : 1 ≤ x ∧ x ≤ 5) : (nfw (Phi w [x])).length ≤ (pell m).1 := by
  refine Nat.le_trans (nfw_len _) (phi_len hw hm ?_)
  have : x = 1 ∨ x = 2 ∨ x = 3 ∨ x = 4 ∨ x = 5 := by omega
  rcases this with h | h | h | h | h <;> subst h <;> decide
theorem t_imagesG (w : List Int) (n : Nat) (hn : 2 ≤ n ∧ n ≤ 5) (hw : IsW n w) (hb : ∀ (i : Nat) (x : Int), 1 ≤ x ∧ x ≤ n → (nfw (Phi (w.take i) [x])).length ≤ 2600000) : m_law_images (tI w) (.int n) = some (ttI (rowsL n w)) := by
  have hg := isW_gens (by omega) hw
  unfold m_law_images
  simp only [bs, pAdd_int, itemsOf_tI]
  rw [show (if [PyData.int 1, PyData.int ((n : Int) + 1)].length = 2 then pRange [PyData.int 1, PyData.int ((n : Int) + 1)] else none) = pRange [PyData.int 1, PyData.int ((n : Int) + 1)] from if_pos rfl, pRange_2 (by omega), bs]
  rw [show ((n : Int) + 1 - 1).toNat = n by omega]
  refine bnd_of (foldlM_ix (fun i st => st = dct i (imgD [])) rfl ?_) ?_
  · rintro i a x hx rfl
    obtain ⟨hi, rfl⟩ := upL_get hx
    simp only [bs, mkLst_1, asI_int]
    refine ⟨_, ?_, rfl⟩
    rw [if_pos (show szOk _ by show _ ≤ 8000000; rw [dct_len]; omega), Int.add_comm 1 (i : Int), putD_new (d := PyData.list [PyData.int ((i : Int) + 1)]) rfl]
  · rintro st rfl
    rw [upL_len]
    refine bnd_of (foldlM_ix (fun i st => st = dct n (imgD (w.take i))) rfl ?_) ?_
    · rintro i a p hp rfl
      have hpm : p ∈ w := List.mem_of_getElem? hp
      have hk := absI_in (hw p hpm)
      have hgt : ∀ q ∈ w.take i, q ∈ gens := fun q hq => hg q (List.mem_of_mem_take hq)
      have h0 : ∀ q ∈ w.take i, q ≠ 0 := fun q hq => gens0 (hgt q hq)
      refine ⟨_, ?_, rfl⟩
      simp only [bs, pAbs_int, asI_int, pAdd_int, pGt_int, asB_bool]
      rw [show (if p < 0 then -p else p) = absI p from rfl, valD_dct (by omega), bs, valD_dct (by omega), bs]
      have l1 : (nfw (Phi (w.take i) [absI p])).length ≤ 2600000 := hb i _ (by omega)
      have l2 : (nfw (Phi (w.take i) [absI p + 1])).length ≤ 2600000 := hb i _ (by omega)
      have e1 : imgD (w.take i) (absI p) = lI (nfw (Phi (w.take i) [absI p])) := rfl
      have e2 : imgD (w.take i) (absI p + 1) = lI (nfw (Phi (w.take i) [absI p + 1])) := rfl
      have st : ∀ x, Phi (w.take (i + 1)) [x] = Phi (w.take i) (S p x) := fun x => by
        rw [List.take_add_one, hp]
        show Phi (w.take i ++ [p]) [x] = _
        rw [Phi_append, Phi_cons, Phi_nil, sub_1]
      have sz : ∀ J, szOk (dct n J).length := fun J => by
        show _ ≤ 8000000
        rw [dct_len]
        omega
      have Ss : ∀ x, 1 ≤ x → S p x = sentP (absI p) (decide (0 < p)) x := fun x hx => by
        unfold S
        rw [if_neg (by omega)]
      have u1 := undL_len (nfw (Phi (w.take i) [absI p]))
      have u2 := undL_len (nfw (Phi (w.take i) [absI p + 1]))
      by_cases hp0 : 0 < p
      · rw [decide_eq_true hp0, if_pos rfl, e1, e2, pRev_lI, bs, itemsOf_lI, bs, compL_negr _ (by omega), bs]
        have a1 := nfw_app_len (Phi (w.take i) [absI p]) (nfw (Phi (w.take i) [absI p + 1]))
        simp only [bs, ap2_mk]
        rw [t_tog_nfw _ _ (by omega), bs, bs, ap2_mk, t_tog_nfw _ _ (by omega), bs, if_pos (sz _), putD_dct (by omega), if_pos (sz _), putD_dct (by omega), bs]
        refine congrArg some (dct_congr fun x x1 x2 => ?_)
        unfold upd imgD
        rw [st, Ss x x1, decide_eq_true hp0]
        unfold sentP
        rw [if_pos rfl]
        by_cases c1 : x = absI p + 1
        · rw [if_pos c1, if_neg (by omega), if_pos c1]
        · rw [if_neg c1, if_neg c1]
          by_cases c2 : x = absI p
          · rw [if_pos c2, if_pos c2]
            refine congrArg lI (Eqv.nfw ?_)
            rw [show [absI p, absI p + 1, -absI p] = ([absI p] ++ [absI p + 1]) ++ [-absI p] from rfl, Phi_app, Phi_app, ← undL_1, Phi_und h0]
            exact ((Eqv.refl _).app (eqv_nfw _)).app (eqv_nfw _).und
          · rw [if_neg c2, if_neg c2]
      · rw [decide_eq_false hp0, if_neg (by decide), e1, e2, pRev_lI, bs, itemsOf_lI, bs, compL_negr _ (by omega), bs]
        have a1 := nfw_app_len (undL (nfw (Phi (w.take i) [absI p + 1]))) (nfw (Phi (w.take i) [absI p]))
        have a2 := nfw_undL (Phi (w.take i) [absI p + 1])
        have a3 : m_law_together (lI (undL (nfw (Phi (w.take i) [absI p + 1])))) (lI (nfw (Phi (w.take i) [absI p]))) = some (lI (nfw (undL (nfw (Phi (w.take i) [absI p + 1])) ++ nfw (Phi (w.take i) [absI p])))) := by
          have := t_tog_nfw (undL (nfw (Phi (w.take i) [absI p + 1]))) (nfw (Phi (w.take i) [absI p])) (by rw [a2]; omega)
          rwa [a2] at this
        rw [a2] at a1
        simp only [bs, ap2_mk]
        rw [if_pos (sz _), a3, bs, bs, ap2_mk, t_tog_nfw _ _ (by omega), bs, putD_dct (by omega), if_pos (sz _), putD_dct (by omega), bs]
        refine congrArg some (dct_congr fun x x1 x2 => ?_)
        unfold upd imgD
        rw [st, Ss x x1, decide_eq_false hp0]
        unfold sentP
        rw [if_neg (show ¬ (false = true) by decide)]
        by_cases c1 : x = absI p + 1
        · rw [if_pos c1, if_neg (by omega), if_pos c1]
          refine congrArg lI (Eqv.nfw ?_)
          rw [show [-(absI p + 1), absI p, absI p + 1] = ([-(absI p + 1)] ++ [absI p]) ++ [absI p + 1] from rfl, Phi_app, Phi_app, ← undL_1, Phi_und h0]
          exact ((eqv_nfw _).und.app (eqv_nfw _)).app (eqv_nfw _)
        · rw [if_neg c1, if_neg c1]
          by_cases c2 : x = absI p
          · rw [if_pos c2, if_pos c2]
          · rw [if_neg c2, if_neg c2]
    · rintro st rfl
      rw [List.take_length, bs]
      rw [compL_gen (c := PyData.int) (g := fun x => tI (nfw (Phi w [x]))) (by rw [upL_len]; omega) (fun x hx => by
        have hx := mem_upL.mp hx
        rw [asI_int, bs, valD_dct (by omega), bs]
        rfl)]
      unfold ttI rowsL
      rw [List.map_map]
      rfl
theorem t_images (w : List Int) (n : Nat) (hn : 2 ≤ n ∧ n ≤ 5) (hw : IsW n w) (hl : w.length ≤ 16) : m_law_images (tI w) (.int n) = some (ttI (rowsL n w)) :=
  t_imagesG w n hn hw fun i x hx => Nat.le_trans (img_len (fun q hq => isW_gens (by omega) hw q (List.mem_of_mem_take hq)) (m := 16) (by rw [List.length_take]; omega) (by omega)) (by decide)
/-! led through -/
theorem pIdx_ttI {rows : List (List Int)} {i : Int} {r : List Int} (h0 : 0 ≤ i) (h : rows[i.toNat]? = some r) : pIdx (ttI rows) (.int i) = some (tI r) := by
  have hi : i.toNat < rows.length := by
    rcases Nat.lt_or_ge i.toNat rows.length with h1 | h1
    · exact h1
    · rw [List.getElem?_eq_none h1] at h
      cases h
  show L2.atI (rows.map tI) i = _
  unfold L2.atI L2.ixN
  rw [List.length_map, if_pos h0, if_pos (by omega), bs, List.getElem?_map, h]
  rfl
theorem rowsL_get (n : Nat) (w : List Int) (p : Int) (h : 1 ≤ p ∧ p ≤ n) : (rowsL n w)[(p - 1).toNat]? = some (nfw (Phi w [p])) := by
  unfold rowsL upL
  rw [List.map_map, List.getElem?_map, List.getElem?_range (by omega)]
  show some (nfw (Phi w [1 + ((p - 1).toNat : Int)])) = _
  rw [show 1 + ((p - 1).toNat : Int) = p by omega]
theorem t_led (w l : List Int) (n : Nat) (hn : 2 ≤ n ∧ n ≤ 5) (hw : ∀ p ∈ w, p ∈ gens) (hl : ∀ x ∈ l, 1 ≤ absI x ∧ absI x ≤ n) (hz : (Phi w l).length ≤ 50000) (hm : w.length ≤ 11) : m_law_led (tI l) (ttI (rowsL n w)) = some (tI (nfw (Phi w l))) := by
  unfold m_law_led
  simp only [bs, mkLst_nil, itemsOf_tI]
  have h0 : ∀ q ∈ w, q ≠ 0 := fun q hq => gens0 (hw q hq)
  refine bnd_of (foldlM_ix (fun i st => st = lI (nfw (Phi w (l.take i)))) (by rw [List.take_zero, Phi_sub]; rfl) ?_) ?_
  · rintro i a x hx rfl
    have hxm := hl x (List.mem_of_getElem? hx)
    refine ⟨_, ?_, rfl⟩
    simp only [bs, pAbs_int, pSub_int, pLt_int, asB_bool]
    rw [show (if x < 0 then -x else x) = absI x from rfl, pIdx_ttI (by omega) (rowsL_get n w (absI x) hxm), bs]
    have l1 : (nfw (Phi w [absI x])).length ≤ 19601 := img_len hw hm (by omega)
    have l2 : (nfw (Phi w (l.take i))).length ≤ 50000 := by
      refine Nat.le_trans (nfw_len _) (Nat.le_trans ?_ hz)
      rw [Phi_sub w (l.take i), Phi_sub w l]
      exact sub_len_le (List.take_sublist i l)
    have u1 := undL_len (nfw (Phi w [absI x]))
    have fin : ∀ b, Eqv b (Phi w [x]) → nfw (Phi w (l.take i) ++ b) = nfw (Phi w (l.take (i + 1))) := fun b hb => by
      rw [List.take_add_one, hx]
      show _ = nfw (Phi w (l.take i ++ [x]))
      rw [Phi_app]
      exact ((Eqv.refl _).app hb).nfw
    rw [bs, show pList [tI (nfw (Phi w [absI x]))] = some (lI (nfw (Phi w [absI x]))) from rfl, bs]
    by_cases hx0 : x < 0
    · rw [decide_eq_true hx0, if_pos rfl, pRev_lI, bs, itemsOf_lI, bs, compL_negr _ (by omega), bs, bs, ap2_mk, t_tog_nfw _ _ (by omega), bs, fin _ ?_]
      rw [show absI x = -x by unfold absI; rw [if_pos hx0]]
      have := (eqv_nfw (Phi w [-x])).und
      rw [← Phi_und h0, undL_1, show - -x = x by omega] at this
      exact this
    · rw [decide_eq_false hx0, if_neg (by decide), bs, ap2_mk, t_tog_nfw _ _ (by omega), bs, fin _ ?_]
      rw [show absI x = x by unfold absI; rw [if_neg hx0]]
      exact eqv_nfw _
  · rintro a rfl
    rw [List.take_length]
    rfl
/-! room -/
theorem in5_up {n : Nat} (hn : n ≤ 5) {x : Int} (hx : x ∈ upL 1 n) : x ∈ ([1, 2, 3, 4, 5, -1, -2, -3, -4, -5] : List Int) := by
  have := mem_upL.mp hx
  have : x = 1 ∨ x = 2 ∨ x = 3 ∨ x = 4 ∨ x = 5 := by omega
  rcases this with h | h | h | h | h <;> subst h <;> decide
theorem room_short {n : Nat} (hn : n ≤ 5) {w : List Int} (hw : ∀ p ∈ w, p ∈ gens) (hl : w.length ≤ 12) : Room n w := by
  rintro a p b e x hx
  refine Nat.le_trans (sub_len_le (nfw_sublist _)) ?_
  have : ((Phi (p :: b) [x]).length) ≤ (pell 12).1 := phi_len (fun q hq => hw q (by rw [e]; exact List.mem_append_right _ hq)) (by
    rw [e, List.length_append] at hl
    omega) (in5_up hn hx)
  exact Nat.le_trans this (by decide)
theorem sub_S_len (p : Int) (u : List Int) : (sub (S p) u).length ≤ 3 * u.length := by
  induction u with
  | nil => exact Nat.zero_le _
  | cons x r ih =>
    rw [sub_cons, List.length_append, List.length_cons]
    have := S_len p x
    omega
/-- a word and what undoes it: no row gets long -/
theorem room_und {n : Nat} (hn : n ≤ 5) {w : List Int} (hw : ∀ p ∈ w, p ∈ gens) (hl : w.length ≤ 11) : Room n (w ++ undL w) := by
  have hu : ∀ p ∈ undL w, p ∈ gens := fun p hp => by
    unfold undL negL at hp
    obtain ⟨q, hq, rfl⟩ := List.mem_map.mp (List.mem_reverse.mp hp)
    exact (show ∀ q ∈ gens, -q ∈ gens by decide) q (hw q hq)
  rintro a p b e x hx
  have hx5 := in5_up hn hx
  have i5 : In5 [x] := fun y hy => by rw [List.mem_singleton.mp hy]; exact hx5
  refine Nat.le_trans (sub_S_len p _) ?_
  have : (nfw (Phi b [x])).length ≤ (pell 11).1 := by
    rcases List.append_eq_append_iff.mp e with ⟨c, hc1, hc2⟩ | ⟨c, hc1, hc2⟩
    · have hb : ∀ q ∈ b, q ∈ gens := fun q hq => hu q (by rw [hc2]; exact List.mem_append_right _ (List.mem_cons_of_mem _ hq))
      refine Nat.le_trans (nfw_len _) (phi_len hb ?_ hx5)
      have := undL_len w
      rw [hc2, List.length_append, List.length_cons] at this
      omega
    · cases c with
      | nil =>
        rw [List.nil_append] at hc2
        have hb : ∀ q ∈ b, q ∈ gens := fun q hq => hu q (by rw [← hc2]; exact List.mem_cons_of_mem _ hq)
        refine Nat.le_trans (nfw_len _) (phi_len hb ?_ hx5)
        have := undL_len w
        rw [← hc2, List.length_cons] at this
        omega
      | cons p' c =>
        rw [List.cons_append] at hc2
        obtain ⟨rfl, rfl⟩ := List.cons.inj hc2
        have e2 : undL w = undL c ++ undL (a ++ [p]) := by
          rw [hc1, show a ++ p :: c = (a ++ [p]) ++ c by simp, undL_app]
        have hc : ∀ q ∈ c, q ∈ gens := fun q hq => hw q (by rw [hc1]; simp [hq])
        have hap : ∀ q ∈ undL (a ++ [p]), q ∈ gens := fun q hq => hu q (by rw [e2]; exact List.mem_append_right _ hq)
        have q1 : Eqv (Phi (c ++ undL w) [x]) (Phi (undL (a ++ [p])) [x]) := by
          rw [e2, ← List.append_assoc, Phi_append]
          exact same_und hc (i5.Phi hap)
        rw [q1.nfw]
        refine Nat.le_trans (nfw_len _) (phi_len hap ?_ hx5)
        rw [undL_len, List.length_append]
        have := hl
        rw [hc1, List.length_append, List.length_cons] at this
        simp
        omega
  have : (nfw (Phi b [x])).length ≤ 19601 := this
  omega
theorem rows_eq {n : Nat} {u v : List Int} (hn : n ≤ 5) (h : ∀ x ∈ upL 1 n, Eqv (Phi u [x]) (Phi v [x])) : rowsL n u = rowsL n v := by
  unfold rowsL
  exact List.map_congr_left fun x hx => (h x hx).nfw
end Tie
end
section
set_option linter.all false
set_option maxRecDepth 100000
set_option maxHeartbeats 4000000
namespace Tie
open PySem Mir Free
open DV hiding tI
/-! more of loose words: how many letters, which letters -/
def sgI (x : Int) : Int := if 0 < x then 1 else if x < 0 then -1 else 0
def expo (u : List Int) : Int := (u.map sgI).sum
theorem expo_app (u v : List Int) : expo (u ++ v) = expo u + expo v := by
  unfold expo
  rw [List.map_append, List.sum_append]
theorem sgI_neg (x : Int) : sgI (-x) = -sgI x := by
  unfold sgI
  by_cases h1 : 0 < x
  · rw [if_neg (by omega), if_pos (by omega), if_pos h1]
  · by_cases h2 : x < 0
    · rw [if_pos (by omega), if_neg h1, if_pos h2]
      rfl
    · rw [if_neg (by omega), if_neg (by omega), if_neg h1, if_neg h2]
      rfl
theorem expo_cons (x : Int) (u : List Int) : expo (x :: u) = sgI x + expo u := by
  unfold expo
  rw [List.map_cons, List.sum_cons]
theorem expo_push (s : List Int) (x : Int) : expo (push s x) = expo s + sgI x := by
  cases s with
  | nil =>
    show expo [x] = _
    rw [expo_cons]
    omega
  | cons y t =>
    show expo (if y = -x then t else x :: y :: t) = _
    by_cases e : y = -x
    · rw [if_pos e, expo_cons, e, sgI_neg]
      omega
    · rw [if_neg e, expo_cons x]
      omega
theorem expo_rev (u : List Int) : expo u.reverse = expo u := by
  induction u with
  | nil => rfl
  | cons x r ih =>
    rw [List.reverse_cons, expo_app, ih, expo_cons, expo_cons]
    show _ + (sgI x + 0) = _
    omega
theorem expo_nfw (u : List Int) : expo (nfw u) = expo u := by
  refine snoc_ind (P := fun u => expo (nfw u) = expo u) rfl (fun w x ih => ?_) u
  unfold nfw at ih ⊢
  rw [expo_rev] at ih ⊢
  rw [nf_app]
  show expo (push (nf w) x) = _
  rw [expo_push, ih, expo_app, expo_cons]
  show _ = expo w + (sgI x + 0)
  omega
theorem expo_S : ∀ p ∈ gens, ∀ x ∈ ([1, 2, 3, 4, 5, -1, -2, -3, -4, -5] : List Int), expo (S p x) = sgI x := by decide +kernel
theorem expo_sub {p : Int} (hp : p ∈ gens) : ∀ {u : List Int}, In5 u → expo (sub (S p) u) = expo u
  | [], _ => rfl
  | x :: r, h => by
    rw [sub_cons, expo_app, expo_S p hp x (h x List.mem_cons_self), expo_cons, expo_sub hp fun y hy => h y (List.mem_cons_of_mem _ hy)]
theorem expo_Phi {w : List Int} (hw : ∀ p ∈ w, p ∈ gens) {u : List Int} (h : In5 u) : expo (Phi w u) = expo u := by
  induction w with
  | nil => rfl
  | cons p r ih =>
    have hr : ∀ q ∈ r, q ∈ gens := fun q hq => hw q (List.mem_cons_of_mem _ hq)
    rw [Phi_cons, expo_sub (hw p List.mem_cons_self) (h.Phi hr), ih hr]
theorem expo_count (u : List Int) : expo u = ((u.filter fun x => decide (0 < x)).length : Int) - ((u.filter fun x => decide (x < 0)).length : Int) := by
  induction u with
  | nil => rfl
  | cons x r ih =>
    rw [expo_cons, ih]
    unfold sgI
    by_cases h1 : 0 < x
    · rw [if_pos h1, List.filter_cons_of_pos (by simpa using h1), List.filter_cons_of_neg (by simp; omega), List.length_cons]
      omega
    · by_cases h2 : x < 0
      · rw [if_neg h1, if_pos h2, List.filter_cons_of_neg (by simp; omega), List.filter_cons_of_pos (by simpa using h2), List.length_cons]
        omega
      · rw [if_neg h1, if_neg h2, List.filter_cons_of_neg (by simp; omega), List.filter_cons_of_neg (by simp; omega)]
        omega
/-- letters of so many strands -/
def InN (n : Nat) (u : List Int) : Prop := ∀ x ∈ u, 1 ≤ absI x ∧ absI x ≤ n
theorem sentP_inN {n : Nat} {k : Int} (hk : 1 ≤ k ∧ k < n) (b : Bool) {x : Int} (hx : 1 ≤ x ∧ x ≤ n) : InN n (sentP k b x) := by
  have a1 : ∀ y : Int, 1 ≤ y → absI y = y := fun y hy => by unfold absI; rw [if_neg (by omega)]
  unfold sentP
  intro y hy
  split at hy
  · split at hy
    · rcases List.mem_cons.mp hy with rfl | hy
      · rw [a1 _ (by omega)]; omega
      · rcases List.mem_cons.mp hy with rfl | hy
        · rw [a1 _ (by omega)]; omega
        · rw [List.mem_singleton.mp hy, absI_neg, a1 _ (by omega)]; omega
    · split at hy
      · rw [List.mem_singleton.mp hy, a1 _ (by omega)]; omega
      · rw [List.mem_singleton.mp hy, a1 _ (by omega)]; omega
  · split at hy
    · rw [List.mem_singleton.mp hy, a1 _ (by omega)]; omega
    · split at hy
      · rcases List.mem_cons.mp hy with rfl | hy
        · rw [absI_neg, a1 _ (by omega)]; omega
        · rcases List.mem_cons.mp hy with rfl | hy
          · rw [a1 _ (by omega)]; omega
          · rw [List.mem_singleton.mp hy, a1 _ (by omega)]; omega
      · rw [List.mem_singleton.mp hy, a1 _ (by omega)]; omega
theorem InN.und {n : Nat} {u : List Int} (h : InN n u) : InN n (undL u) := fun x hx => by
  obtain ⟨y, hy, rfl⟩ := List.mem_map.mp (List.mem_reverse.mp hx)
  rw [absI_neg]
  exact h y hy
theorem S_inN {n : Nat} {p x : Int} (hp : 1 ≤ absI p ∧ absI p < n) (hx : 1 ≤ absI x ∧ absI x ≤ n) : InN n (S p x) := by
  unfold S
  unfold absI at hx
  split
  · rename_i h
    rw [if_pos h] at hx
    exact (sentP_inN hp _ hx).und
  · rename_i h
    rw [if_neg h] at hx
    exact sentP_inN hp _ hx
theorem InN.Phi {n : Nat} {w u : List Int} (hw : IsW n w) (h : InN n u) : InN n (Phi w u) := by
  induction w with
  | nil => exact h
  | cons p r ih =>
    rw [Phi_cons]
    intro y hy
    obtain ⟨x, hx, hy⟩ := List.mem_flatMap.mp hy
    exact S_inN (absI_in (hw p List.mem_cons_self)) (ih (fun q hq => hw q (List.mem_cons_of_mem _ hq)) x hx) y hy
theorem InN.nfw {n : Nat} {u : List Int} (h : InN n u) : InN n (nfw u) := fun x hx => h x ((nfw_sublist u).subset hx)
/-- the letters in their order stay -/
theorem whole_S : ∀ n ∈ [2, 3, 4, 5], ∀ p ∈ gens, absI p < ((n : Nat) : Int) → nfw (sub (S p) (upL 1 n)) = nfw (upL 1 n) := by decide +kernel
theorem whole_Phi {n : Nat} (hn : n ∈ [2, 3, 4, 5]) {w : List Int} (hw : IsW n w) : Eqv (Phi w (upL 1 n)) (upL 1 n) := by
  have hn5 : (n : Int) ≤ 5 := by
    simp at hn
    omega
  induction w with
  | nil => exact Eqv.refl _
  | cons p r ih =>
    have hp := hw p List.mem_cons_self
    have hpg : p ∈ gens := isW_gens hn5 hw p List.mem_cons_self
    exact (sub_eqv (S_odd hp.1) (ih fun q hq => hw q (List.mem_cons_of_mem _ hq))).trans (eqv_of_nfw (whole_S n hn p hpg (absI_in hp).2))
theorem up_nfw : ∀ n ∈ [2, 3, 4, 5], nfw (upL 1 n) = upL 1 n := by decide +kernel
theorem S_far {p x : Int} (hx : 1 ≤ x) (h1 : x ≠ absI p) (h2 : x ≠ absI p + 1) : S p x = [x] := by
  unfold S sentP
  rw [if_neg (by omega)]
  by_cases hp : 0 < p
  · simp [hp, h1, h2]
  · simp [hp, h1, h2]
theorem Phi_far {w : List Int} {x : Int} (hx : 1 ≤ x) (h : ∀ p ∈ w, x ≠ absI p ∧ x ≠ absI p + 1) : Phi w [x] = [x] := by
  induction w with
  | nil => rfl
  | cons p r ih =>
    rw [Phi_cons, ih fun q hq => h q (List.mem_cons_of_mem _ hq), sub_1]
    exact S_far hx (h p List.mem_cons_self).1 (h p List.mem_cons_self).2
theorem hasD_int (k : Int) (l : List Int) : hasD (.int k) (l.map .int) = decide (k ∈ l) := by
  unfold hasD
  rw [List.any_map]
  induction l with
  | nil => rfl
  | cons x r ih =>
    rw [List.any_cons, ih]
    show ((x == k) || decide (k ∈ r)) = _
    by_cases e : x = k
    · simp [e]
    · have e2 : ¬ k = x := fun c => e c.symm
      simp [e, e2]
theorem pIn_lI (k : Int) (l : List Int) : pIn (.int k) (lI l) = some (.bool (decide (k ∈ l))) := by
  show (if SeqAt.shaped (.int k) = true ∧ SeqAt.shaped (.list (l.map .int)) = true then some (PyData.bool (hasD (.int k) (l.map .int))) else none) = _
  rw [if_pos ⟨(sh_int k).shaped, (sh_lI l).shaped⟩, hasD_int]
theorem pIn_tI (k : Int) (l : List Int) : pIn (.int k) (tI l) = some (.bool (decide (k ∈ l))) := by
  show (if SeqAt.shaped (.int k) = true ∧ SeqAt.shaped (.tuple (l.map .int)) = true then some (PyData.bool (hasD (.int k) (l.map .int))) else none) = _
  rw [if_pos ⟨(sh_int k).shaped, (sh_tI l).shaped⟩, hasD_int]
theorem pNotIn_lI (k : Int) (l : List Int) : pNotIn (.int k) (lI l) = some (.bool (!decide (k ∈ l))) := by
  unfold pNotIn
  rw [pIn_lI]
  rfl
theorem pNotIn_tI (k : Int) (l : List Int) : pNotIn (.int k) (tI l) = some (.bool (!decide (k ∈ l))) := by
  unfold pNotIn
  rw [pIn_tI]
  rfl
theorem pEq_nil : pEq (PyData.list []) (PyData.list []) = some (.bool true) := (pEq_lI [] []).trans (by simp)
theorem pNe_nil : pNe (PyData.list []) (PyData.list []) = some (.bool false) := (pNe_lI [] []).trans (by simp)
theorem pNe_int_self (i : Int) : pNe (.int i) (.int i) = some (.bool false) := by
  rw [pNe_int]
  simp
/-- a loop that may hand back, and does not -/
theorem forO_go {α : Type} {f : α → PyData → Option (Out α)} (P : Nat → α → Prop) : ∀ {ds : List PyData} {i : Nat} {a : α}, P i a → (∀ j a d, ds[j]? = some d → P (i + j) a → ∃ b, f a d = some (.go b) ∧ P (i + j + 1) b) → ∃ b, forO f a ds = some (.go b) ∧ P (i + ds.length) b
  | [], i, a, h, _ => ⟨a, rfl, h⟩
  | d :: r, i, a, h, k => by
    obtain ⟨b, e, p⟩ := k 0 a d rfl h
    obtain ⟨c, e2, p2⟩ := forO_go P (ds := r) (i := i + 1) (a := b) p (fun j a x hx hp => by
      have := k (j + 1) a x hx (by rw [show i + (j + 1) = i + 1 + j by omega]; exact hp)
      rw [show i + (j + 1) = i + 1 + j by omega] at this
      exact this)
    refine ⟨c, ?_, by rw [List.length_cons, show i + (r.length + 1) = i + 1 + r.length by omega]; exact p2⟩
    rw [forO_cons, e]
    exact e2
end Tie
end
section
set_option linter.all false
set_option maxRecDepth 100000
set_option maxHeartbeats 4000000
namespace NF
open Tie (swp swp_inv)
/-! orders as functions; letters moved to the left; one normal form -/
structure Ord where
  f : Int → Int
  g : Int → Int
  fg : ∀ i, f (g i) = i
  gf : ∀ i, g (f i) = i
theorem Ord.ext' {a b : Ord} (h : ∀ i, a.f i = b.f i) : a = b := by
  obtain ⟨f, g, fg, gf⟩ := a
  obtain ⟨f', g', fg', gf'⟩ := b
  have e : f = f' := funext h
  subst e
  have e2 : g = g' := funext fun i => by
    have := gf (g' i)
    rw [fg' i] at this
    exact this
  subst e2
  rfl
theorem Ord.inj (a : Ord) {i j : Int} (h : a.f i = a.f j) : i = j := by rw [← a.gf i, h, a.gf]
theorem Ord.injg (a : Ord) {i j : Int} (h : a.g i = a.g j) : i = j := by rw [← a.fg i, h, a.fg]
def one : Ord := ⟨fun i => i, fun i => i, fun _ => rfl, fun _ => rfl⟩
def ahead (a : Ord) (k : Int) : Ord := ⟨fun i => a.f (swp k i), fun i => swp k (a.g i), fun i => by show a.f (swp k (swp k (a.g i))) = i; rw [swp_inv, a.fg], fun i => by show swp k (a.g (a.f (swp k i))) = i; rw [a.gf, swp_inv]⟩
def behind (a : Ord) (k : Int) : Ord := ⟨fun i => swp k (a.f i), fun i => a.g (swp k i), fun i => by show swp k (a.f (a.g (swp k i))) = i; rw [a.fg, swp_inv], fun i => by show a.g (swp k (swp k (a.f i))) = i; rw [swp_inv, a.gf]⟩
def rv (a : Ord) : Ord := ⟨a.g, a.f, a.gf, a.fg⟩
def B (a : Ord) (k : Int) : Prop := a.f (k + 1) < a.f k
def E (a : Ord) (k : Int) : Prop := a.g (k + 1) < a.g k
/-- nothing but the places 1 .. n is moved -/
def In (n : Nat) (a : Ord) : Prop := ∀ i : Int, (i < 1 ∨ (n : Int) < i) → a.f i = i
theorem In.g {n : Nat} {a : Ord} (h : In n a) : ∀ i : Int, (i < 1 ∨ (n : Int) < i) → a.g i = i := fun i hi => by
  have := h i hi
  have e := congrArg a.g this
  rw [a.gf] at e
  exact e.symm
theorem In.rv {n : Nat} {a : Ord} (h : In n a) : In n (rv a) := h.g
theorem In.rng {n : Nat} {a : Ord} (h : In n a) {i : Int} (hi : 1 ≤ i ∧ i ≤ n) : 1 ≤ a.f i ∧ a.f i ≤ n := by
  by_cases hc : a.f i < 1 ∨ (n : Int) < a.f i
  · have := a.inj (h _ hc)
    rw [this] at hc
    omega
  · omega
theorem In.rngg {n : Nat} {a : Ord} (h : In n a) {i : Int} (hi : 1 ≤ i ∧ i ≤ n) : 1 ≤ a.g i ∧ a.g i ≤ n := h.rv.rng hi
theorem In.mono {n m : Nat} {a : Ord} (h : In n a) (hm : n ≤ m) : In m a := fun i hi => h i (by omega)
theorem In.b {n : Nat} {a : Ord} (h : In n a) {k : Int} (hk : B a k) : 1 ≤ k ∧ k < n := by
  unfold B at hk
  by_cases h0 : k < 1
  · have h1 := h k (Or.inl h0)
    by_cases h2 : k + 1 < 1
    · have := h (k + 1) (Or.inl h2)
      omega
    · by_cases h3 : k + 1 ≤ n
      · have := h.rng (i := k + 1) (by omega)
        omega
      · have := h (k + 1) (Or.inr (by omega))
        omega
  · by_cases h1 : k < n
    · omega
    · have h2 := h (k + 1) (Or.inr (by omega))
      by_cases h3 : k ≤ n
      · have := h.rng (i := k) (by omega)
        omega
      · have := h k (Or.inr (by omega))
        omega
theorem In.e {n : Nat} {a : Ord} (h : In n a) {k : Int} (hk : E a k) : 1 ≤ k ∧ k < n := h.rv.b hk
theorem swp_out {k i : Int} (h1 : i ≠ k) (h2 : i ≠ k + 1) : swp k i = i := by unfold swp; rw [if_neg h1, if_neg h2]
theorem swp_k (k : Int) : swp k k = k + 1 := by unfold swp; rw [if_pos rfl]
theorem swp_k1 (k : Int) : swp k (k + 1) = k := by unfold swp; rw [if_neg (by omega), if_pos rfl]
theorem In.ahead {n : Nat} {a : Ord} (h : In n a) {k : Int} (hk : 1 ≤ k ∧ k < n) : In n (ahead a k) := fun i hi => by
  show a.f (swp k i) = i
  rw [swp_out (by omega) (by omega)]
  exact h i hi
theorem In.behind {n : Nat} {a : Ord} (h : In n a) {k : Int} (hk : 1 ≤ k ∧ k < n) : In n (behind a k) := fun i hi => by
  show swp k (a.f i) = i
  rw [h i hi, swp_out (by omega) (by omega)]
theorem in_one (n : Nat) : In n one := fun _ _ => rfl
/-- when swapping k and k + 1 turns two about -/
theorem swp_lt {k x y : Int} (h : x < y) : swp k x < swp k y ∨ (x = k ∧ y = k + 1) := by
  unfold swp
  by_cases h1 : x = k
  · by_cases h2 : y = k + 1
    · exact .inr ⟨h1, h2⟩
    · refine .inl ?_
      rw [if_pos h1, if_neg (by omega), if_neg h2]
      omega
  · by_cases h2 : x = k + 1
    · refine .inl ?_
      rw [if_neg h1, if_pos h2, if_neg (by omega), if_neg (by omega)]
      omega
    · refine .inl ?_
      rw [if_neg h1, if_neg h2]
      by_cases h3 : y = k
      · rw [if_pos h3]
        omega
      · by_cases h4 : y = k + 1
        · rw [if_neg h3, if_pos h4]
          omega
        · rw [if_neg h3, if_neg h4]
          exact h
/-- one letter moved to the left -/
inductive Mv : List Ord → List Ord → Prop
  | here {a b : Ord} {Y : List Ord} {k : Int} : B b k → ¬ E a k → Mv (a :: b :: Y) (behind a k :: ahead b k :: Y)
  | there {a : Ord} {Y Y' : List Ord} : Mv Y Y' → Mv (a :: Y) (a :: Y')
inductive St : List Ord → List Ord → Prop
  | refl {L : List Ord} : St L L
  | step {L M N : List Ord} : Mv L M → St M N → St L N
theorem St.one {L M : List Ord} (h : Mv L M) : St L M := .step h .refl
theorem St.trans {L M N : List Ord} (h : St L M) (k : St M N) : St L N := by
  induction h with
  | refl => exact k
  | step a _ ih => exact .step a (ih k)
theorem St.cons {L M : List Ord} (a : Ord) (h : St L M) : St (a :: L) (a :: M) := by
  induction h with
  | refl => exact .refl
  | step m _ ih => exact .step (.there m) ih
theorem St.pre {L M : List Ord} (X : List Ord) (h : St L M) : St (X ++ L) (X ++ M) := by
  induction X with
  | nil => exact h
  | cons a X ih => exact ih.cons a
theorem Mv.post {L M : List Ord} (Y : List Ord) (h : Mv L M) : Mv (L ++ Y) (M ++ Y) := by
  induction h with
  | here b e => exact .here b e
  | there _ ih => exact .there ih
theorem St.post {L M : List Ord} (Y : List Ord) (h : St L M) : St (L ++ Y) (M ++ Y) := by
  induction h with
  | refl => exact .refl
  | step m _ ih => exact .step (m.post Y) ih
theorem swp_comm {k j : Int} (h : k + 1 < j) (i : Int) : swp k (swp j i) = swp j (swp k i) := by
  unfold swp
  by_cases h1 : i = j
  · simp [h1, show ¬ (j + 1 = k) by omega, show ¬ (j = k) by omega, show ¬ (j = k + 1) by omega]
  · by_cases h2 : i = j + 1
    · simp [h2, show ¬ (j = k) by omega, show ¬ (j = k + 1) by omega, show ¬ (j + 1 = k) by omega, show ¬ (j + 1 = j) by omega]
    · by_cases h3 : i = k
      · simp [h3, show ¬ (k = j) by omega, show ¬ (k = j + 1) by omega, show ¬ (k + 1 = j) by omega]
      · by_cases h4 : i = k + 1
        · simp [h4, show ¬ (k + 1 = k) by omega, show ¬ (k + 1 = j) by omega, show ¬ (k = j) by omega, show ¬ (k = j + 1) by omega]
        · simp [h1, h2, h3, h4]
theorem swp_three (k i : Int) : swp k (swp (k + 1) (swp k i)) = swp (k + 1) (swp k (swp (k + 1) i)) := by
  by_cases h1 : i = k
  · subst h1
    rw [swp_k, swp_k, swp_out (k := i) (i := i + 1 + 1) (by omega) (by omega), swp_out (k := i + 1) (i := i) (by omega) (by omega), swp_k, swp_k]
  · by_cases h2 : i = k + 1
    · subst h2
      rw [swp_k1, swp_out (k := k + 1) (i := k) (by omega) (by omega), swp_k, swp_k, swp_out (k := k) (i := k + 1 + 1) (by omega) (by omega), swp_k1]
    · by_cases h3 : i = k + 1 + 1
      · subst h3
        rw [swp_out (k := k) (i := k + 1 + 1) (by omega) (by omega), swp_k1, swp_k1, swp_out (k := k + 1) (i := k) (by omega) (by omega)]
      · rw [swp_out (k := k) (i := i) h1 h2, swp_out (k := k + 1) (i := i) h2 h3, swp_out (k := k) (i := i) h1 h2, swp_out (k := k + 1) (i := i) h2 h3]
/-- two letters at the same place -/
theorem lc_far {a b : Ord} {k j : Int} (hkj : k + 1 < j) (bk : B b k) (ek : ¬ E a k) (bj : B b j) (ej : ¬ E a j) (Y : List Ord) :
    St (behind a k :: ahead b k :: Y) (behind (behind a k) j :: ahead (ahead b k) j :: Y) ∧ St (behind a j :: ahead b j :: Y) (behind (behind a k) j :: ahead (ahead b k) j :: Y) := by
  constructor
  · refine St.one (.here ?_ ?_)
    · show b.f (swp k (j + 1)) < b.f (swp k j)
      rw [swp_out (by omega) (by omega), swp_out (by omega) (by omega)]
      exact bj
    · show ¬ a.g (swp k (j + 1)) < a.g (swp k j)
      rw [swp_out (by omega) (by omega), swp_out (by omega) (by omega)]
      exact ej
  · have e1 : behind (behind a k) j = behind (behind a j) k := Ord.ext' fun i => (swp_comm hkj (a.f i)).symm
    have e2 : ahead (ahead b k) j = ahead (ahead b j) k := Ord.ext' fun i => by
      show b.f (swp k (swp j i)) = b.f (swp j (swp k i))
      rw [swp_comm hkj]
    rw [e1, e2]
    refine St.one (.here ?_ ?_)
    · show b.f (swp j (k + 1)) < b.f (swp j k)
      rw [swp_out (by omega) (by omega), swp_out (by omega) (by omega)]
      exact bk
    · show ¬ a.g (swp j (k + 1)) < a.g (swp j k)
      rw [swp_out (by omega) (by omega), swp_out (by omega) (by omega)]
      exact ek
theorem lc_near {a b : Ord} {k : Int} (bk : B b k) (ek : ¬ E a k) (bj : B b (k + 1)) (ej : ¬ E a (k + 1)) (Y : List Ord) :
    ∃ M, St (behind a k :: ahead b k :: Y) M ∧ St (behind a (k + 1) :: ahead b (k + 1) :: Y) M := by
  unfold B at bk bj
  unfold E at ek ej
  have s1 : swp k (k + 1 + 1) = k + 1 + 1 := swp_out (by omega) (by omega)
  have s2 : swp (k + 1) k = k := swp_out (by omega) (by omega)
  have s3 := swp_k k
  have s4 := swp_k1 k
  have s5 := swp_k (k + 1)
  have s6 := swp_k1 (k + 1)
  refine ⟨behind (behind (behind a k) (k + 1)) k :: ahead (ahead (ahead b k) (k + 1)) k :: Y, ?_, ?_⟩
  · refine .step (.here (k := k + 1) ?_ ?_) (.one (.here (k := k) ?_ ?_))
    · show b.f (swp k (k + 1 + 1)) < b.f (swp k (k + 1))
      rw [s1, s4]
      omega
    · show ¬ a.g (swp k (k + 1 + 1)) < a.g (swp k (k + 1))
      rw [s1, s4]
      omega
    · show b.f (swp k (swp (k + 1) (k + 1))) < b.f (swp k (swp (k + 1) k))
      rw [s5, s1, s2, s3]
      exact bj
    · show ¬ a.g (swp k (swp (k + 1) (k + 1))) < a.g (swp k (swp (k + 1) k))
      rw [s5, s1, s2, s3]
      exact ej
  · have e1 : behind (behind (behind a k) (k + 1)) k = behind (behind (behind a (k + 1)) k) (k + 1) := Ord.ext' fun i => swp_three k (a.f i)
    have e2 : ahead (ahead (ahead b k) (k + 1)) k = ahead (ahead (ahead b (k + 1)) k) (k + 1) := Ord.ext' fun i => by
      show b.f (swp k (swp (k + 1) (swp k i))) = b.f (swp (k + 1) (swp k (swp (k + 1) i)))
      rw [swp_three]
    rw [e1, e2]
    refine .step (.here (k := k) ?_ ?_) (.one (.here (k := k + 1) ?_ ?_))
    · show b.f (swp (k + 1) (k + 1)) < b.f (swp (k + 1) k)
      rw [s5, s2]
      omega
    · show ¬ a.g (swp (k + 1) (k + 1)) < a.g (swp (k + 1) k)
      rw [s5, s2]
      omega
    · show b.f (swp (k + 1) (swp k (k + 1 + 1))) < b.f (swp (k + 1) (swp k (k + 1)))
      rw [s1, s6, s4, s2]
      exact bk
    · show ¬ a.g (swp (k + 1) (swp k (k + 1 + 1))) < a.g (swp (k + 1) (swp k (k + 1)))
      rw [s1, s6, s4, s2]
      exact ek
theorem lc_same {a b : Ord} {k j : Int} (bk : B b k) (ek : ¬ E a k) (bj : B b j) (ej : ¬ E a j) (Y : List Ord) :
    ∃ M, St (behind a k :: ahead b k :: Y) M ∧ St (behind a j :: ahead b j :: Y) M := by
  by_cases h1 : k = j
  · subst h1
    exact ⟨_, .refl, .refl⟩
  · by_cases h2 : k + 1 < j
    · obtain ⟨x, y⟩ := lc_far h2 bk ek bj ej Y
      exact ⟨_, x, y⟩
    · by_cases h3 : j + 1 < k
      · obtain ⟨x, y⟩ := lc_far h3 bj ej bk ek Y
        exact ⟨_, y, x⟩
      · by_cases h4 : j = k + 1
        · subst h4
          exact lc_near bk ek bj ej Y
        · have h5 : k = j + 1 := by omega
          subst h5
          obtain ⟨M, x, y⟩ := lc_near bj ej bk ek Y
          exact ⟨M, y, x⟩
theorem lc_next {a b c : Ord} {k j : Int} (bk : B b k) (ek : ¬ E a k) (bj : B c j) (ej : ¬ E b j) (Y : List Ord) :
    ∃ M, St (behind a k :: ahead b k :: c :: Y) M ∧ St (a :: behind b j :: ahead c j :: Y) M := by
  refine ⟨behind a k :: behind (ahead b k) j :: ahead c j :: Y, St.one (.there (.here bj ?_)), St.one (.here ?_ ek)⟩
  · show ¬ swp k (b.g (j + 1)) < swp k (b.g j)
    have h0 : b.g j < b.g (j + 1) := by
      have : b.g j ≠ b.g (j + 1) := fun h => by
        have := b.injg h
        omega
      unfold E at ej
      omega
    rcases swp_lt (k := k) h0 with h | ⟨h1, h2⟩
    · omega
    · exfalso
      have e1 : b.f k = j := by rw [← h1, b.fg]
      have e2 : b.f (k + 1) = j + 1 := by rw [← h2, b.fg]
      unfold B at bk
      omega
  · show swp j (b.f (k + 1)) < swp j (b.f k)
    rcases swp_lt (k := j) bk with h | ⟨h1, h2⟩
    · exact h
    · exfalso
      have e1 : b.g j = k + 1 := by rw [← h1, b.gf]
      have e2 : b.g (j + 1) = k := by rw [← h2, b.gf]
      unfold E at ej
      omega
theorem lc {L M N : List Ord} (h : Mv L M) (h' : Mv L N) : ∃ Q, St M Q ∧ St N Q := by
  induction h generalizing N with
  | @here a b Y k bk ek =>
    cases h' with
    | here bj ej => exact lc_same bk ek bj ej Y
    | there m =>
      cases m with
      | here bj ej => exact lc_next bk ek bj ej _
      | there m => exact ⟨_, St.one (.there (.there m)), St.one (.here bk ek)⟩
  | @there a Y Y' m ih =>
    cases h' with
    | here bk ek =>
      cases m with
      | here bj ej =>
        obtain ⟨Q, x, y⟩ := lc_next bk ek bj ej _
        exact ⟨Q, y, x⟩
      | there m => exact ⟨_, St.one (.here bk ek), St.one (.there (.there m))⟩
    | there m' =>
      obtain ⟨Q, x, y⟩ := ih m'
      exact ⟨a :: Q, x.cons a, y.cons a⟩
/-! moves end -/
def Al (n : Nat) (L : List Ord) : Prop := ∀ a ∈ L, In n a
theorem Al.cons {n : Nat} {a : Ord} {L : List Ord} (h : In n a) (k : Al n L) : Al n (a :: L) := fun x hx => by
  rcases List.mem_cons.mp hx with rfl | hx
  · exact h
  · exact k x hx
theorem Al.hd {n : Nat} {a : Ord} {L : List Ord} (h : Al n (a :: L)) : In n a := h a List.mem_cons_self
theorem Al.tl {n : Nat} {a : Ord} {L : List Ord} (h : Al n (a :: L)) : Al n L := fun x hx => h x (List.mem_cons_of_mem _ hx)
theorem Al.app {n : Nat} {L M : List Ord} (h : Al n L) (k : Al n M) : Al n (L ++ M) := fun x hx => by
  rcases List.mem_append.mp hx with hx | hx
  · exact h x hx
  · exact k x hx
theorem Al.mv {n : Nat} {L M : List Ord} (h : Al n L) (m : Mv L M) : Al n M := by
  induction m with
  | here bk ek =>
    have hb := h.tl.hd.b bk
    exact .cons (h.hd.behind hb) (.cons (h.tl.hd.ahead hb) h.tl.tl)
  | there _ ih => exact .cons h.hd (ih h.tl)
theorem Al.st {n : Nat} {L M : List Ord} (h : Al n L) (m : St L M) : Al n M := by
  induction m with
  | refl => exact h
  | step a _ ih => exact ih (h.mv a)
theorem Mv.len {L M : List Ord} (m : Mv L M) : M.length = L.length := by
  induction m with
  | here _ _ => rfl
  | there _ ih => rw [List.length_cons, List.length_cons, ih]
theorem St.len {L M : List Ord} (m : St L M) : M.length = L.length := by
  induction m with
  | refl => rfl
  | step a _ ih => rw [ih, a.len]
def pot (a : Ord) : Int := a.f 1 + 2 * a.f 2 + 3 * a.f 3 + 4 * a.f 4 + 5 * a.f 5
def W : List Ord → Int
  | [] => 0
  | a :: Y => pot a + 100 * W Y
def U : Nat → Int
  | 0 => 0
  | n + 1 => 75 + 100 * U n
theorem pot_le {a : Ord} (h : In 5 a) : pot a ≤ 75 := by
  have h1 := (h.rng (i := 1) (by omega)).2
  have h2 := (h.rng (i := 2) (by omega)).2
  have h3 := (h.rng (i := 3) (by omega)).2
  have h4 := (h.rng (i := 4) (by omega)).2
  have h5 := (h.rng (i := 5) (by omega)).2
  unfold pot
  omega
theorem W_le {L : List Ord} (h : Al 5 L) : W L ≤ U L.length := by
  induction L with
  | nil => exact Int.le_refl _
  | cons a Y ih =>
    have h1 := ih h.tl
    have h2 := pot_le h.hd
    show pot a + 100 * W Y ≤ 75 + 100 * U Y.length
    omega
theorem swp_near (k x : Int) : x - 1 ≤ swp k x := by
  unfold swp
  split
  · omega
  · split <;> omega
theorem W_mv {L M : List Ord} (h : Al 5 L) (m : Mv L M) : W L < W M := by
  induction m with
  | @here a b Y k bk ek =>
    have hb := h.tl.hd.b bk
    have ha : pot a - 15 ≤ pot (behind a k) := by
      unfold pot
      have h1 := swp_near k (a.f 1)
      have h2 := swp_near k (a.f 2)
      have h3 := swp_near k (a.f 3)
      have h4 := swp_near k (a.f 4)
      have h5 := swp_near k (a.f 5)
      show _ ≤ swp k (a.f 1) + 2 * swp k (a.f 2) + 3 * swp k (a.f 3) + 4 * swp k (a.f 4) + 5 * swp k (a.f 5)
      omega
    have hbb : pot b + 1 ≤ pot (ahead b k) := by
      unfold pot
      unfold B at bk
      show _ ≤ b.f (swp k 1) + 2 * b.f (swp k 2) + 3 * b.f (swp k 3) + 4 * b.f (swp k 4) + 5 * b.f (swp k 5)
      have : k = 1 ∨ k = 2 ∨ k = 3 ∨ k = 4 := by omega
      rcases this with rfl | rfl | rfl | rfl
      · show _ ≤ b.f 2 + 2 * b.f 1 + 3 * b.f 3 + 4 * b.f 4 + 5 * b.f 5
        have : b.f 2 < b.f 1 := bk
        omega
      · show _ ≤ b.f 1 + 2 * b.f 3 + 3 * b.f 2 + 4 * b.f 4 + 5 * b.f 5
        have : b.f 3 < b.f 2 := bk
        omega
      · show _ ≤ b.f 1 + 2 * b.f 2 + 3 * b.f 4 + 4 * b.f 3 + 5 * b.f 5
        have : b.f 4 < b.f 3 := bk
        omega
      · show _ ≤ b.f 1 + 2 * b.f 2 + 3 * b.f 3 + 4 * b.f 5 + 5 * b.f 4
        have : b.f 5 < b.f 4 := bk
        omega
    show pot a + 100 * (pot b + 100 * W Y) < pot (behind a k) + 100 * (pot (ahead b k) + 100 * W Y)
    omega
  | there _ ih =>
    have := ih h.tl
    show _ + 100 * _ < _ + 100 * _
    omega
theorem W_st {L M : List Ord} (h : Al 5 L) (m : St L M) : W L ≤ W M := by
  induction m with
  | refl => exact Int.le_refl _
  | step a _ ih =>
    have h1 := W_mv h a
    have h2 := ih (h.mv a)
    omega
theorem conf : ∀ (m : Nat) {L M N : List Ord}, Al 5 L → (U L.length - W L).toNat ≤ m → St L M → St L N → ∃ Q, St M Q ∧ St N Q
  | m, L, M, N, hL, hm, h, h' => by
    cases h with
    | refl => exact ⟨N, h', .refl⟩
    | step a r =>
      cases h' with
      | refl => exact ⟨_, .refl, .step a r⟩
      | step a' r' =>
        rename_i L1 L2
        have w1 := W_mv hL a
        have w2 := W_mv hL a'
        have u1 := W_le (hL.mv a)
        have u2 := W_le (hL.mv a')
        rw [a.len] at u1
        rw [a'.len] at u2
        cases m with
        | zero => omega
        | succ m =>
          obtain ⟨Q, x, y⟩ := lc a a'
          obtain ⟨Q1, x1, y1⟩ := conf m (hL.mv a) (by rw [a.len]; omega) r x
          obtain ⟨Q2, x2, y2⟩ := conf m (hL.mv a') (by rw [a'.len]; omega) r' y
          have xL := (hL.mv a).st x
          have lQ : Q.length = L.length := by rw [x.len, a.len]
          have wQ : (U Q.length - W Q).toNat ≤ m := by
            have : W L1 ≤ W Q := W_st (hL.mv a) x
            rw [lQ]
            omega
          obtain ⟨Q3, x3, y3⟩ := conf m xL wQ y1 y2
          exact ⟨Q3, x1.trans x3, x2.trans y3⟩
def Fit (a b : Ord) : Prop := ∀ k, B b k → E a k
def Nf : List Ord → Prop
  | [] => True
  | [_] => True
  | a :: b :: Y => Fit a b ∧ Nf (b :: Y)
theorem Nf.tl {a : Ord} {L : List Ord} (h : Nf (a :: L)) : Nf L := by
  cases L with
  | nil => trivial
  | cons b Y => exact h.2
theorem Nf.stop {L M : List Ord} (h : Nf L) (m : Mv L M) : False := by
  induction m with
  | here bk ek => exact ek (h.1 _ bk)
  | there m ih => exact ih h.tl
theorem Nf.st {L M : List Ord} (h : Nf L) (m : St L M) : M = L := by
  cases m with
  | refl => rfl
  | step a _ => exact (h.stop a).elim
theorem uniq {L M N : List Ord} (hL : Al 5 L) (h : St L M) (hM : Nf M) (h' : St L N) (hN : Nf N) : M = N := by
  obtain ⟨Q, x, y⟩ := conf _ hL (Nat.le_refl _) h h'
  rw [← hM.st x, hN.st y]
theorem nf_or (L : List Ord) : Nf L ∨ ∃ M, Mv L M := by
  induction L with
  | nil => exact .inl trivial
  | cons a Y ih =>
    rcases ih with h | ⟨M, m⟩
    · cases Y with
      | nil => exact .inl trivial
      | cons b Y =>
        by_cases hf : Fit a b
        · exact .inl ⟨hf, h⟩
        · right
          have : ∃ k, B b k ∧ ¬ E a k := Classical.byContradiction fun hc => hf fun k hk => Classical.byContradiction fun he => hc ⟨k, hk, he⟩
          obtain ⟨k, hk, he⟩ := this
          exact ⟨_, .here hk he⟩
    · exact .inr ⟨_, .there m⟩
theorem nf_ex : ∀ (m : Nat) {L : List Ord}, Al 5 L → (U L.length - W L).toNat ≤ m → ∃ N, St L N ∧ Nf N
  | m, L, hL, hm => by
    rcases nf_or L with h | ⟨M, a⟩
    · exact ⟨L, .refl, h⟩
    · have w1 := W_mv hL a
      have u1 := W_le (hL.mv a)
      rw [a.len] at u1
      cases m with
      | zero => omega
      | succ m =>
        obtain ⟨N, x, y⟩ := nf_ex m (hL.mv a) (by rw [a.len]; omega)
        exact ⟨N, .step a x, y⟩
theorem ex_nf {L : List Ord} (hL : Al 5 L) : ∃ N, St L N ∧ Nf N := nf_ex _ hL (Nat.le_refl _)
/-! what was moved between two -/
def Sb (u b : Ord) : Prop := ∀ x y, x < y → u.f y < u.f x → b.f y < b.f x
structure Trk (p b u o c : Ord) : Prop where
  ho : ∀ i, o.f i = u.f (p.f i)
  hb : ∀ i, b.f i = c.f (u.f i)
  po : Sb p o
  ub : Sb u b
theorem trk {L : List Ord} : ∀ {p b : Ord}, St [p, b] L → ∃ u o c, L = [o, c] ∧ Trk p b u o c := by
  intro p b h
  have key : ∀ {L M : List Ord}, St L M → ∀ {o c u : Ord}, L = [o, c] → Trk p b u o c → ∃ u o c, M = [o, c] ∧ Trk p b u o c := by
    intro L M h
    induction h with
    | refl =>
      intro o c u e t
      exact ⟨u, o, c, e, t⟩
    | step m _ ih =>
      intro o c u e t
      subst e
      cases m with
      | @here _ _ _ k bk ek =>
        refine ih (u := behind u k) rfl ⟨?_, ?_, ?_, ?_⟩
        · intro i
          show swp k (o.f i) = swp k (u.f (p.f i))
          rw [t.ho]
        · intro i
          show b.f i = c.f (swp k (swp k (u.f i)))
          rw [swp_inv, t.hb]
        · intro x y hxy hp
          show swp k (o.f y) < swp k (o.f x)
          rcases swp_lt (k := k) (t.po x y hxy hp) with h | ⟨h1, h2⟩
          · exact h
          · exfalso
            have e1 : o.g k = y := by rw [← h1, o.gf]
            have e2 : o.g (k + 1) = x := by rw [← h2, o.gf]
            unfold E at ek
            omega
        · intro x y hxy hu
          have hu : swp k (u.f y) < swp k (u.f x) := hu
          rcases swp_lt (k := k) hu with h | ⟨h1, h2⟩
          · rw [swp_inv, swp_inv] at h
            exact t.ub x y hxy h
          · have e1 : u.f y = k + 1 := by
              have := congrArg (swp k) h1
              rwa [swp_inv, swp_k] at this
            have e2 : u.f x = k := by
              have := congrArg (swp k) h2
              rwa [swp_inv, swp_k1] at this
            rw [t.hb, t.hb, e1, e2]
            exact bk
      | there m => cases m with
        | there m => cases m
  exact key h (u := one) rfl ⟨fun _ => rfl, fun _ => rfl, fun _ _ _ h => h, fun x y h1 h2 => by
    have h2 : y < x := h2
    omega⟩
theorem trk2 {p b o c : Ord} (h : St [p, b] [o, c]) : ∃ u, Trk p b u o c := by
  obtain ⟨u, o', c', e, t⟩ := trk h
  simp only [List.cons.injEq, and_true] at e
  obtain ⟨rfl, rfl⟩ := e
  exact ⟨u, t⟩
/-- between a place above k and a later one not above k there is a step down -/
theorem down (b : Ord) (k : Int) : ∀ (m : Nat) (p : Int), k < b.f p → b.f (p + m) ≤ k → ∃ j, p ≤ j ∧ j < p + m ∧ k < b.f j ∧ b.f (j + 1) ≤ k
  | 0, p, h1, h2 => by
    rw [show p + ((0 : Nat) : Int) = p by omega] at h2
    omega
  | m + 1, p, h1, h2 => by
    by_cases h : k < b.f (p + 1)
    · obtain ⟨j, a1, a2, a3, a4⟩ := down b k m (p + 1) h (by rw [show p + 1 + (m : Int) = p + ((m + 1 : Nat) : Int) by omega]; exact h2)
      exact ⟨j, by omega, by omega, a3, a4⟩
    · exact ⟨p, Int.le_refl _, by omega, h1, by omega⟩
theorem begins_of {u b : Ord} {k p q j : Int} (ub : Sb u b) (hp : b.f p = k + 1) (hq : b.f q = k) (hpj : p ≤ j) (hjq : j < q) (h1 : k < b.f j) (h2 : b.f (j + 1) ≤ k) (hu : u.f q < u.f p) : B u j := by
  have a1 : u.f p ≤ u.f j := by
    by_cases e : p = j
    · rw [e]
      exact Int.le_refl _
    · by_cases hc : u.f j < u.f p
      · have := ub p j (by omega) hc
        have : b.f j ≠ b.f p := fun h => e (b.inj h).symm
        omega
      · omega
  have a2 : u.f (j + 1) ≤ u.f q := by
    by_cases e : j + 1 = q
    · rw [e]
      exact Int.le_refl _
    · by_cases hc : u.f q < u.f (j + 1)
      · have := ub (j + 1) q (by omega) hc
        have : b.f (j + 1) ≠ b.f q := fun h => e (b.inj h)
        omega
      · omega
  unfold B
  omega
theorem domino {p1 p2 s b s' o c : Ord} (h12 : Fit p1 p2) (m1 : St [p2, s] [b, s']) (f1 : Fit b s') (m2 : St [p1, b] [o, c]) : Fit c s' := by
  intro k hk
  obtain ⟨v, t1⟩ := trk2 m1
  obtain ⟨u, t2⟩ := trk2 m2
  have ek : b.g (k + 1) < b.g k := f1 k hk
  have hp : b.f (b.g (k + 1)) = k + 1 := b.fg _
  have hq : b.f (b.g k) = k := b.fg _
  generalize b.g (k + 1) = p at ek hp
  generalize b.g k = q at ek hq
  have hp2 : p2.f q < p2.f p := by
    by_cases h : p2.f p < p2.f q
    · have hv : v.f (p2.f q) < v.f (p2.f p) := by
        rw [← t1.ho, ← t1.ho]
        omega
      have hs := t1.ub _ _ h hv
      rw [t1.hb, t1.hb, ← t1.ho, ← t1.ho, hp, hq] at hs
      unfold B at hk
      omega
    · have : p2.f p ≠ p2.f q := fun h => by
        have := p2.inj h
        omega
      omega
  obtain ⟨j, j1, j2, j3, j4⟩ := down b k (q - p).toNat p (by omega) (by rw [show p + ((q - p).toNat : Int) = q by omega]; omega)
  have j2 : j < q := by omega
  have b2 : B p2 j := begins_of t1.po hp hq j1 j2 j3 j4 hp2
  have e1 : p1.g (j + 1) < p1.g j := h12 j b2
  have q1 := t2.po (p1.g (j + 1)) (p1.g j) e1 (by rw [p1.fg, p1.fg]; omega)
  rw [t2.ho, t2.ho, p1.fg, p1.fg] at q1
  have hu : ¬ u.f q < u.f p := fun hu => by
    have b3 : B u j := begins_of t2.ub hp hq j1 j2 j3 j4 hu
    unfold B at b3
    omega
  have g1 : c.g (k + 1) = u.f p := by rw [← hp, t2.hb, c.gf]
  have g2 : c.g k = u.f q := by rw [← hq, t2.hb, c.gf]
  unfold E
  rw [g1, g2]
  have : u.f p ≠ u.f q := fun h => by
    have := u.inj h
    omega
  omega
/-- one sweep from the right -/
inductive Sw : List Ord → List Ord → Prop
  | last (a : Ord) : Sw [a] [a]
  | more {a b a' b' : Ord} {Y Z : List Ord} : Sw Y (b :: Z) → St [a, b] [a', b'] → Fit a' b' → Sw (a :: Y) (a' :: b' :: Z)
theorem sw_cons {a : Ord} {Y L : List Ord} (hY : Y ≠ []) (h : Sw (a :: Y) L) : ∃ b a' b' Z, L = a' :: b' :: Z ∧ Sw Y (b :: Z) ∧ St [a, b] [a', b'] ∧ Fit a' b' := by
  cases h with
  | last => exact (hY rfl).elim
  | more h1 h2 h3 => exact ⟨_, _, _, _, rfl, h1, h2, h3⟩
theorem sw_ok {P : List Ord} {s : Ord} : Nf P → ∀ {L : List Ord}, Sw (P ++ [s]) L → St (P ++ [s]) L ∧ Nf L ∧ ∀ p2 P', P = p2 :: P' → ∃ b z Z x, L = b :: z :: Z ∧ St [p2, x] [b, z] ∧ Fit b z := by
  induction P with
  | nil =>
    intro _ L h
    cases h with
    | last => exact ⟨.refl, trivial, fun _ _ h => by cases h⟩
    | more h _ _ => cases h
  | cons p P ih =>
    intro hP L h
    obtain ⟨b, a', b', Z, rfl, sw, m, f⟩ := sw_cons (by simp) h
    · obtain ⟨h1, h2, h3⟩ := ih hP.tl sw
      refine ⟨(h1.cons p).trans (m.post Z), ⟨f, ?_⟩, fun p2 P' e => ?_⟩
      · cases Z with
        | nil => trivial
        | cons z Z =>
          refine ⟨?_, h2.2⟩
          cases P with
          | nil =>
            exfalso
            cases sw with
            | more h _ _ => cases h
          | cons p2 P' =>
            obtain ⟨b0, z0, Z0, x, e, m0, f0⟩ := h3 p2 P' rfl
            simp only [List.cons.injEq] at e
            obtain ⟨e1, e2, _⟩ := e
            subst e1
            subst e2
            exact domino hP.1 m0 f0 m
      · obtain ⟨rfl, rfl⟩ := List.cons.inj e
        exact ⟨a', b', Z, b, rfl, m, f⟩
end NF
end
section
set_option linter.all false
set_option maxRecDepth 100000
set_option maxHeartbeats 4000000
namespace NF
open Tie (swp swp_inv)
open Classical
noncomputable def nrm (L : List Ord) : List Ord := if h : ∃ N, St L N ∧ Nf N then Classical.choose h else L
theorem nrm_spec {L : List Ord} (hL : Al 5 L) : St L (nrm L) ∧ Nf (nrm L) := by
  have h := ex_nf hL
  unfold nrm
  rw [dif_pos h]
  exact Classical.choose_spec h
theorem nrm_eq {L N : List Ord} (hL : Al 5 L) (h : St L N) (hN : Nf N) : nrm L = N := uniq hL (nrm_spec hL).1 (nrm_spec hL).2 h hN
theorem nrm_st {L M : List Ord} (hL : Al 5 L) (h : St L M) : nrm L = nrm M := nrm_eq hL (h.trans (nrm_spec (hL.st h)).1) (nrm_spec (hL.st h)).2
/-! the full order -/
def flf (n : Nat) (i : Int) : Int := if 1 ≤ i ∧ i ≤ n then (n : Int) + 1 - i else i
theorem flf_inv (n : Nat) (i : Int) : flf n (flf n i) = i := by
  unfold flf
  by_cases h : 1 ≤ i ∧ i ≤ n
  · rw [if_pos h, if_pos (by omega)]
    omega
  · rw [if_neg h, if_neg h]
def fl (n : Nat) : Ord := ⟨flf n, flf n, flf_inv n, flf_inv n⟩
theorem in_fl (n : Nat) : In n (fl n) := fun i hi => by
  show flf n i = i
  unfold flf
  rw [if_neg (by omega)]
theorem flf_in {n : Nat} {i : Int} (h : 1 ≤ i ∧ i ≤ n) : flf n i = (n : Int) + 1 - i := by unfold flf; rw [if_pos h]
theorem e_fl {n : Nat} {k : Int} (h : 1 ≤ k ∧ k < n) : E (fl n) k := by
  show flf n (k + 1) < flf n k
  rw [flf_in (by omega), flf_in (by omega)]
  omega
theorem b_fl {n : Nat} {k : Int} (h : 1 ≤ k ∧ k < n) : B (fl n) k := e_fl h
theorem b_one (k : Int) : ¬ B one k := by
  show ¬ (k + 1 < k)
  omega
theorem e_one (k : Int) : ¬ E one k := b_one k
theorem no_B {n : Nat} {c : Ord} (h : In n c) (hb : ∀ k, ¬ B c k) : c = one := by
  have up : ∀ i : Int, c.f i < c.f (i + 1) := fun i => by
    have h1 := hb i
    unfold B at h1
    have : c.f i ≠ c.f (i + 1) := fun e => by
      have := c.inj e
      omega
    omega
  have lo : ∀ m : Nat, (m : Int) ≤ c.f m := fun m => by
    induction m with
    | zero =>
      have := h 0 (by omega)
      show ((0 : Nat) : Int) ≤ c.f 0
      omega
    | succ m ih =>
      have := up m
      rw [show ((m + 1 : Nat) : Int) = (m : Int) + 1 by omega]
      omega
  have hi : ∀ m : Nat, c.f ((n : Int) + 1 - m) ≤ (n : Int) + 1 - m := fun m => by
    induction m with
    | zero =>
      have := h ((n : Int) + 1) (by omega)
      rw [show ((n : Int) + 1 - ((0 : Nat) : Int)) = (n : Int) + 1 by omega]
      omega
    | succ m ih =>
      have := up ((n : Int) + 1 - ((m + 1 : Nat) : Int))
      rw [show (n : Int) + 1 - ((m + 1 : Nat) : Int) + 1 = (n : Int) + 1 - m by omega] at this
      omega
  refine Ord.ext' fun i => ?_
  show c.f i = i
  by_cases hr : i < 1 ∨ (n : Int) < i
  · exact h i hr
  · have a1 := lo i.toNat
    have a2 := hi ((n : Int) + 1 - i).toNat
    rw [show ((i.toNat : Nat) : Int) = i by omega] at a1
    rw [show (n : Int) + 1 - ((((n : Int) + 1 - i).toNat : Nat) : Int) = i by omega] at a2
    omega
theorem all_B {n : Nat} {a : Ord} (h : In n a) (hb : ∀ k : Int, 1 ≤ k → k < n → B a k) : a = fl n := by
  have lo : ∀ m : Nat, (m : Int) < n → 1 + (m : Int) ≤ a.f ((n : Int) - m) := fun m => by
    induction m with
    | zero =>
      intro hm
      have := (h.rng (i := (n : Int) - ((0 : Nat) : Int)) (by omega)).1
      omega
    | succ m ih =>
      intro hm
      have h1 := ih (by omega)
      have h2 := hb ((n : Int) - ((m + 1 : Nat) : Int)) (by omega) (by omega)
      unfold B at h2
      rw [show (n : Int) - ((m + 1 : Nat) : Int) + 1 = (n : Int) - m by omega] at h2
      omega
  have hi : ∀ m : Nat, (m : Int) < n → a.f (1 + (m : Int)) ≤ (n : Int) - m := fun m => by
    induction m with
    | zero =>
      intro hm
      have := (h.rng (i := 1 + ((0 : Nat) : Int)) (by omega)).2
      omega
    | succ m ih =>
      intro hm
      have h1 := ih (by omega)
      have h2 := hb (1 + (m : Int)) (by omega) (by omega)
      unfold B at h2
      rw [show 1 + ((m + 1 : Nat) : Int) = 1 + (m : Int) + 1 by omega]
      omega
  refine Ord.ext' fun i => ?_
  by_cases hr : i < 1 ∨ (n : Int) < i
  · rw [h i hr, in_fl n i hr]
  · have a1 := lo ((n : Int) - i).toNat (by omega)
    have a2 := hi (i - 1).toNat (by omega)
    rw [show (n : Int) - ((((n : Int) - i).toNat : Nat) : Int) = i by omega] at a1
    rw [show 1 + (((i - 1).toNat : Nat) : Int) = i by omega] at a2
    show _ = flf n i
    rw [flf_in (by omega)]
    omega
theorem all_E {n : Nat} {a : Ord} (h : In n a) (hb : ∀ k : Int, 1 ≤ k → k < n → E a k) : a = fl n := by
  have := all_B h.rv hb
  refine Ord.ext' fun i => ?_
  have e : (rv a).g i = (fl n).g i := by rw [this]
  exact e
/-! pairs that come to an end -/
theorem pair_nf {n : Nat} (hn : n ≤ 5) {a b : Ord} (ha : In n a) (hb : In n b) : ∃ o c u, St [a, b] [o, c] ∧ Fit o c ∧ Trk a b u o c ∧ In n o ∧ In n c := by
  have al : Al n [a, b] := .cons ha (.cons hb fun _ h => by cases h)
  have al5 : Al 5 [a, b] := fun x hx => (al x hx).mono hn
  obtain ⟨N, m, hN⟩ := ex_nf al5
  obtain ⟨u, o, c, rfl, t⟩ := trk m
  have := al.st m
  exact ⟨o, c, u, m, hN.1, t, this.hd, this.tl.hd⟩
theorem st_one {n : Nat} (hn : n ≤ 5) {q : Ord} (hq : In n q) : St [one, q] [q, one] := by
  obtain ⟨o, c, u, m, f, t, io, ic⟩ := pair_nf hn (in_one n) hq
  have hc : c = one := no_B ic fun k hk => by
    have e : o.g (k + 1) < o.g k := f k hk
    have ho : ∀ i, o.f i = u.f i := fun i => t.ho i
    have h1 : u.f (o.g (k + 1)) = k + 1 := by rw [← ho, o.fg]
    have h2 : u.f (o.g k) = k := by rw [← ho, o.fg]
    have := t.ub _ _ e (by omega)
    rw [t.hb, t.hb, h1, h2] at this
    unfold B at hk
    omega
  subst hc
  have ho : o = q := Ord.ext' fun i => by
    rw [t.ho i, t.hb i]
    rfl
  subst ho
  exact m
def tau (n : Nat) (a : Ord) : Ord := ⟨fun i => flf n (a.f (flf n i)), fun i => flf n (a.g (flf n i)), fun i => by show flf n (a.f (flf n (flf n (a.g (flf n i))))) = i; rw [flf_inv, a.fg, flf_inv], fun i => by show flf n (a.g (flf n (flf n (a.f (flf n i))))) = i; rw [flf_inv, a.gf, flf_inv]⟩
theorem tau_tau (n : Nat) (a : Ord) : tau n (tau n a) = a := Ord.ext' fun i => by
  show flf n (flf n (a.f (flf n (flf n i)))) = a.f i
  rw [flf_inv, flf_inv]
theorem in_tau {n : Nat} {a : Ord} (h : In n a) : In n (tau n a) := fun i hi => by
  have e : flf n i = i := in_fl n i hi
  show flf n (a.f (flf n i)) = i
  rw [e, h i hi, e]
theorem st_fl {n : Nat} (hn : n ≤ 5) {q : Ord} (hq : In n q) : St [q, fl n] [fl n, tau n q] := by
  obtain ⟨o, c, u, m, f, t, io, ic⟩ := pair_nf hn hq (in_fl n)
  have ho : o = fl n := all_E io fun k k1 k2 => by
    by_cases hk : B c k
    · exact f k hk
    · have hk2 : c.f k < c.f (k + 1) := by
        unfold B at hk
        have : c.f k ≠ c.f (k + 1) := fun e => by
          have := c.inj e
          omega
        omega
      have hx : flf n (u.g k) = c.f k := by
        have := t.hb (u.g k)
        rw [u.fg] at this
        exact this
      have hy : flf n (u.g (k + 1)) = c.f (k + 1) := by
        have := t.hb (u.g (k + 1))
        rw [u.fg] at this
        exact this
      have r1 := ic.rng (i := k) (by omega)
      have r2 := ic.rng (i := k + 1) (by omega)
      have gx : u.g k = (n : Int) + 1 - c.f k := by
        rw [← hx] at r1 ⊢
        have := flf_inv n (u.g k)
        rw [flf_in r1] at this
        omega
      have gy : u.g (k + 1) = (n : Int) + 1 - c.f (k + 1) := by
        rw [← hy] at r2 ⊢
        have := flf_inv n (u.g (k + 1))
        rw [flf_in r2] at this
        omega
      have g1 : o.g k = q.g (u.g k) := by
        have h1 := t.ho (q.g (u.g k))
        rw [q.fg, u.fg] at h1
        exact (congrArg o.g h1).symm.trans (o.gf _)
      have g2 : o.g (k + 1) = q.g (u.g (k + 1)) := by
        have h1 := t.ho (q.g (u.g (k + 1)))
        rw [q.fg, u.fg] at h1
        exact (congrArg o.g h1).symm.trans (o.gf _)
      unfold E
      rw [g1, g2]
      by_cases hc : q.g (u.g k) < q.g (u.g (k + 1))
      · have := t.po _ _ hc (by rw [q.fg, q.fg]; omega)
        rw [t.ho, t.ho, q.fg, q.fg, u.fg, u.fg] at this
        omega
      · have : q.g (u.g k) ≠ q.g (u.g (k + 1)) := fun e => by
          have := u.injg (q.injg e)
          omega
        omega
  subst ho
  have hc : c = tau n q := Ord.ext' fun i => by
    show c.f i = flf n (q.f (flf n i))
    have h1 := t.ho (flf n i)
    have h2 := t.hb (q.f (flf n i))
    rw [← h1] at h2
    have h3 : (fl n).f (flf n i) = i := flf_inv n i
    rw [h3] at h2
    exact h2.symm
  subst hc
  exact m
/-- two that together are the full order -/
theorem st_full {n : Nat} (hn : n ≤ 5) {a b : Ord} (ha : In n a) (hb : In n b) (hab : ∀ i, b.f (a.f i) = flf n i) : St [a, b] [fl n, one] := by
  obtain ⟨o, c, u, m, f, t, io, ic⟩ := pair_nf hn ha hb
  have hco : ∀ i, c.f (o.f i) = flf n i := fun i => by rw [t.ho, ← t.hb, hab]
  have hc : c = one := no_B ic fun k hk => by
    have e : o.g (k + 1) < o.g k := f k hk
    have kk := ic.b hk
    have h1 := hco (o.g (k + 1))
    have h2 := hco (o.g k)
    rw [o.fg] at h1 h2
    have r1 := io.rngg (i := k + 1) (by omega)
    have r2 := io.rngg (i := k) (by omega)
    rw [flf_in r1] at h1
    rw [flf_in r2] at h2
    unfold B at hk
    omega
  subst hc
  have ho : o = fl n := Ord.ext' fun i => hco i
  subst ho
  exact m
/-! tau on lists -/
theorem swp_flf {n : Nat} {k : Int} (hk : 1 ≤ k ∧ k < n) (i : Int) : swp k (flf n i) = flf n (swp ((n : Int) - k) i) := by
  by_cases h1 : i = (n : Int) - k
  · subst h1
    rw [swp_k, flf_in (by omega), flf_in (by omega), show (n : Int) + 1 - ((n : Int) - k) = k + 1 by omega, swp_k1]
    omega
  · by_cases h2 : i = (n : Int) - k + 1
    · subst h2
      rw [swp_k1, flf_in (by omega), flf_in (by omega), show (n : Int) + 1 - ((n : Int) - k + 1) = k by omega, swp_k]
      omega
    · rw [swp_out h1 h2]
      unfold flf
      by_cases h : 1 ≤ i ∧ i ≤ n
      · rw [if_pos h, swp_out (by omega) (by omega)]
      · rw [if_neg h, swp_out (by omega) (by omega)]
theorem tau_behind {n : Nat} {k : Int} (hk : 1 ≤ k ∧ k < n) (a : Ord) : tau n (behind a k) = behind (tau n a) ((n : Int) - k) := Ord.ext' fun i => by
  show flf n (swp k (a.f (flf n i))) = swp ((n : Int) - k) (flf n (a.f (flf n i)))
  rw [swp_flf (by omega), show (n : Int) - ((n : Int) - k) = k by omega]
theorem tau_ahead {n : Nat} {k : Int} (hk : 1 ≤ k ∧ k < n) (a : Ord) : tau n (ahead a k) = ahead (tau n a) ((n : Int) - k) := Ord.ext' fun i => by
  show flf n (a.f (swp k (flf n i))) = flf n (a.f (flf n (swp ((n : Int) - k) i)))
  rw [swp_flf hk]
theorem flf_lt {n : Nat} {x y : Int} (hx : 1 ≤ x ∧ x ≤ n) (hy : 1 ≤ y ∧ y ≤ n) : flf n x < flf n y ↔ y < x := by
  rw [flf_in hx, flf_in hy]
  omega
theorem b_tau {n : Nat} {a : Ord} (ha : In n a) {k : Int} (hk : 1 ≤ k ∧ k < n) : B (tau n a) ((n : Int) - k) ↔ B a k := by
  show flf n (a.f (flf n ((n : Int) - k + 1))) < flf n (a.f (flf n ((n : Int) - k))) ↔ a.f (k + 1) < a.f k
  rw [flf_in (i := (n : Int) - k + 1) (by omega), flf_in (i := (n : Int) - k) (by omega), show (n : Int) + 1 - ((n : Int) - k + 1) = k by omega, show (n : Int) + 1 - ((n : Int) - k) = k + 1 by omega]
  exact flf_lt (ha.rng (by omega)) (ha.rng (by omega))
theorem e_tau {n : Nat} {a : Ord} (ha : In n a) {k : Int} (hk : 1 ≤ k ∧ k < n) : E (tau n a) ((n : Int) - k) ↔ E a k := b_tau ha.rv hk
theorem mv_tau {n : Nat} {L M : List Ord} (h : Al n L) (m : Mv L M) : Mv (L.map (tau n)) (M.map (tau n)) := by
  induction m with
  | @here a b Y k bk ek =>
    have hk := h.tl.hd.b bk
    rw [List.map_cons, List.map_cons, List.map_cons, List.map_cons, tau_behind hk, tau_ahead hk]
    exact .here ((b_tau h.tl.hd hk).mpr bk) fun e => ek ((e_tau h.hd hk).mp e)
  | there _ ih => exact .there (ih h.tl)
theorem st_tau {n : Nat} {L M : List Ord} (h : Al n L) (m : St L M) : St (L.map (tau n)) (M.map (tau n)) := by
  induction m with
  | refl => exact .refl
  | step a _ ih => exact .step (mv_tau h a) (ih (h.mv a))
theorem al_tau {n : Nat} {L : List Ord} (h : Al n L) : Al n (L.map (tau n)) := fun x hx => by
  obtain ⟨a, ha, rfl⟩ := List.mem_map.mp hx
  exact in_tau (h a ha)
theorem fit_tau {n : Nat} {a b : Ord} (ha : In n a) (hb : In n b) (h : Fit a b) : Fit (tau n a) (tau n b) := fun k hk => by
  have h1 := (in_tau hb).b hk
  have e : k = (n : Int) - ((n : Int) - k) := by omega
  rw [e] at hk ⊢
  exact (e_tau ha (by omega)).mpr (h _ ((b_tau hb (by omega)).mp hk))
theorem nf_tau {n : Nat} : ∀ {L : List Ord}, Al n L → Nf L → Nf (L.map (tau n))
  | [], _, _ => trivial
  | [_], _, _ => trivial
  | a :: b :: Y, h, hN => ⟨fit_tau h.hd h.tl.hd hN.1, nf_tau h.tl hN.2⟩
theorem tau_one (n : Nat) : tau n one = one := Ord.ext' fun i => flf_inv n i
theorem tau_fl (n : Nat) : tau n (fl n) = fl n := Ord.ext' fun i => by
  show flf n (flf n (flf n i)) = flf n i
  rw [flf_inv]
theorem map_tau2 (n : Nat) (L : List Ord) : (L.map (tau n)).map (tau n) = L := by
  rw [List.map_map]
  have : tau n ∘ tau n = id := funext fun a => tau_tau n a
  rw [this, List.map_id]
/-! times and parts -/
def Prop_ (n : Nat) (a : Ord) : Prop := a ≠ one ∧ a ≠ fl n
noncomputable def flt (n : Nat) (L : List Ord) : List Ord := L.filter fun a => decide (Prop_ n a)
noncomputable def cnt (n : Nat) (L : List Ord) : Int := ((L.filter fun a => decide (a = fl n)).length : Nat)
noncomputable def ev (n : Nat) (t : Int) (L : List Ord) : Int × List Ord := (t + cnt n (nrm L), flt n (nrm L))
theorem ev_st {n : Nat} {t : Int} {L M : List Ord} (hL : Al 5 L) (h : St L M) : ev n t L = ev n t M := by
  unfold ev
  rw [nrm_st hL h]
variable {n : Nat} (hn : 2 ≤ n ∧ n ≤ 5)
include hn
theorem al5 {L : List Ord} (h : Al n L) : Al 5 L := fun x hx => (h x hx).mono hn.2
theorem one_ne : one ≠ fl n := fun h => by
  have : (one : Ord).f 1 = (fl n).f 1 := by rw [h]
  have e : (1 : Int) = flf n 1 := this
  rw [flf_in (by omega)] at e
  omega
theorem ev_fl {t : Int} {L : List Ord} (h : Al n L) : ev n t (fl n :: L) = ev n (t + 1) L := by
  have e : nrm (fl n :: L) = fl n :: nrm L := by
    have s := nrm_spec (al5 hn h)
    refine nrm_eq (al5 hn (Al.cons (in_fl n) h)) (s.1.cons _) ?_
    cases hq : nrm L with
    | nil => trivial
    | cons b Y =>
      rw [hq] at s
      exact ⟨fun k hk => e_fl (((h.st s.1).hd).b hk), s.2⟩
  unfold ev
  rw [e]
  unfold cnt flt
  rw [List.filter_cons_of_pos (by simp), List.filter_cons_of_neg (by simp [Prop_]), List.length_cons]
  refine Prod.ext ?_ rfl
  show _ = _
  simp only []
  omega
theorem nf_snoc_one : ∀ {L : List Ord}, Nf L → Nf (L ++ [one])
  | [], _ => trivial
  | [a], _ => ⟨fun k hk => (b_one k hk).elim, trivial⟩
  | a :: b :: Y, h => ⟨h.1, nf_snoc_one h.2⟩
theorem ev_one_end {t : Int} {L : List Ord} (h : Al n L) : ev n t (L ++ [one]) = ev n t L := by
  have s := nrm_spec (al5 hn h)
  have e : nrm (L ++ [one]) = nrm L ++ [one] := nrm_eq (al5 hn (h.app (Al.cons (in_one n) fun _ h => by cases h))) (s.1.post _) (nf_snoc_one hn s.2)
  unfold ev
  rw [e]
  unfold cnt flt
  rw [List.filter_append, List.filter_append]
  rw [show List.filter (fun a => decide (a = fl n)) [one] = [] by simp [one_ne hn], show List.filter (fun a => decide (Prop_ n a)) [one] = [] by simp [Prop_]]
  simp
theorem st_one_through : ∀ {Y : List Ord}, Al n Y → St (one :: Y) (Y ++ [one])
  | [], _ => .refl
  | q :: Y, h => ((st_one hn.2 h.hd).post Y).trans ((st_one_through h.tl).cons q)
theorem ev_one {t : Int} {X Y : List Ord} (hX : Al n X) (hY : Al n Y) : ev n t (X ++ one :: Y) = ev n t (X ++ Y) := by
  rw [ev_st (al5 hn (hX.app (Al.cons (in_one n) hY))) ((st_one_through hn hY).pre X), ← List.append_assoc]
  exact ev_one_end hn (hX.app hY)
theorem st_fl_through : ∀ {X : List Ord}, Al n X → ∀ Y, St (X ++ fl n :: Y) (fl n :: X.map (tau n) ++ Y)
  | [], _, Y => .refl
  | q :: X, h, Y => ((st_fl_through h.tl Y).cons q).trans ((st_fl hn.2 h.hd).post (X.map (tau n) ++ Y))
theorem no_fl : ∀ {N : List Ord} {a : Ord}, Al n (a :: N) → Nf (a :: N) → a ≠ fl n → fl n ∉ N
  | [], _, _, _, _ => fun h => by cases h
  | b :: N, a, h, hN, ha => by
    have hb : b ≠ fl n := fun e => ha (all_E h.hd fun k k1 k2 => hN.1 k (by rw [e]; exact b_fl ⟨k1, k2⟩))
    intro hm
    rcases List.mem_cons.mp hm with e | hm
    · exact hb e.symm
    · exact no_fl h.tl hN.2 hb hm
theorem ev_ones {t : Int} {Q : List Ord} (hQ : Al n Q) : ∀ {N X : List Ord}, Al n N → Al n X → fl n ∉ N → ev n t (X ++ N ++ Q) = ev n t (X ++ flt n N ++ Q)
  | [], X, _, _, _ => rfl
  | b :: N, X, hN, hX, hf => by
    have hf2 : fl n ∉ N := fun h => hf (List.mem_cons_of_mem _ h)
    by_cases hb : b = one
    · subst hb
      have e : flt n (one :: N) = flt n N := by
        unfold flt
        rw [List.filter_cons_of_neg (by simp [Prop_])]
      rw [e, List.append_assoc, List.cons_append, ev_one hn hX (hN.tl.app hQ), ← List.append_assoc]
      exact ev_ones hQ hN.tl hX hf2
    · have hb2 : b ≠ fl n := fun e => hf (by rw [e]; exact List.mem_cons_self)
      have e : flt n (b :: N) = b :: flt n N := by
        unfold flt
        rw [List.filter_cons_of_pos (by simp [Prop_, hb, hb2])]
      rw [e]
      have := ev_ones (t := t) hQ (N := N) (X := X ++ [b]) hN.tl (hX.app (Al.cons hN.hd fun _ h => by cases h)) hf2
      simpa using this
theorem cnt_no {N : List Ord} (h : fl n ∉ N) : cnt n N = 0 := by
  unfold cnt
  rw [List.filter_eq_nil_iff.mpr]
  · rfl
  · intro a ha hc
    have := of_decide_eq_true hc
    subst this
    exact h ha
theorem ev_strip {Q : List Ord} (hQ : Al n Q) : ∀ {N : List Ord} {t : Int}, Al n N → Nf N → ev n t (N ++ Q) = ev n (t + cnt n N) (flt n N ++ Q)
  | [], t, _, _ => by
    show ev n t Q = ev n (t + 0) Q
    rw [Int.add_zero]
  | a :: N, t, hN, hf => by
    by_cases ha : a = fl n
    · subst ha
      rw [List.cons_append, ev_fl hn (hN.tl.app hQ), ev_strip hQ hN.tl hf.tl]
      unfold cnt flt
      rw [List.filter_cons_of_pos (by simp), List.filter_cons_of_neg (by simp [Prop_]), List.length_cons]
      congr 1
      omega
    · have h1 := no_fl hn hN hf ha
      have h2 : fl n ∉ a :: N := fun h => by
        rcases List.mem_cons.mp h with e | e
        · exact ha e.symm
        · exact h1 e
      rw [cnt_no hn h2, Int.add_zero]
      exact ev_ones hn hQ (X := []) hN (fun _ h => by cases h) h2
/-- what was counted and left away can be left away before more comes -/
theorem ev_ev {t : Int} {L Q : List Ord} (hL : Al n L) (hQ : Al n Q) : ev n (ev n t L).1 ((ev n t L).2 ++ Q) = ev n t (L ++ Q) := by
  have s := nrm_spec (al5 hn hL)
  rw [ev_st (al5 hn (hL.app hQ)) (s.1.post Q), ev_strip hn hQ (hL.st s.1) s.2]
  rfl
theorem ev_al {t : Int} {L : List Ord} (hL : Al n L) : Al n (ev n t L).2 := fun x hx => by
  have s := nrm_spec (al5 hn hL)
  exact (hL.st s.1) x ((List.mem_filter.mp hx).1)
theorem fit_one {b : Ord} (hb : In n b) (h : Fit one b) : b = one := no_B hb fun k hk => e_one k (h k hk)
theorem ones : ∀ {N : List Ord}, Al n (one :: N) → Nf (one :: N) → flt n N = []
  | [], _, _ => rfl
  | b :: N, h, hN => by
    have : b = one := fit_one hn h.tl.hd hN.1
    subst this
    have e : flt n (one :: N) = flt n N := by
      unfold flt
      rw [List.filter_cons_of_neg (by simp [Prop_])]
    rw [e]
    exact ones h.tl hN.2
theorem nf_flt : ∀ {N : List Ord}, Al n N → Nf N → Nf (flt n N)
  | [], _, _ => trivial
  | a :: N, h, hN => by
    have ih := nf_flt h.tl hN.tl
    by_cases hp : Prop_ n a
    · have e : flt n (a :: N) = a :: flt n N := by
        unfold flt
        rw [List.filter_cons_of_pos (by simpa using hp)]
      rw [e]
      cases N with
      | nil => trivial
      | cons b N =>
        by_cases hb : b = one
        · subst hb
          have e2 : flt n (one :: N) = flt n N := by
            unfold flt
            rw [List.filter_cons_of_neg (by simp [Prop_])]
          rw [e2, ones hn h.tl hN.2]
          trivial
        · have hb2 : b ≠ fl n := fun e => no_fl hn h hN hp.2 (by rw [e]; exact List.mem_cons_self)
          have e2 : flt n (b :: N) = b :: flt n N := by
            unfold flt
            rw [List.filter_cons_of_pos (by simp [Prop_, hb, hb2])]
          rw [e2] at ih ⊢
          exact ⟨hN.1, ih⟩
    · have e : flt n (a :: N) = flt n N := by
        unfold flt
        rw [List.filter_cons_of_neg (by simpa using hp)]
      rw [e]
      exact ih
/-- a plain form -/
structure Can (n : Nat) (P : List Ord) : Prop where
  al : Al n P
  nf : Nf P
  pr : ∀ a ∈ P, Prop_ n a
theorem can_ev {t : Int} {L : List Ord} (hL : Al n L) : Can n (ev n t L).2 := by
  have s := nrm_spec (al5 hn hL)
  exact ⟨ev_al hn hL, nf_flt hn (hL.st s.1) s.2, fun a ha => of_decide_eq_true (List.mem_filter.mp ha).2⟩
theorem ev_can {t : Int} {P : List Ord} (h : Can n P) : ev n t P = (t, P) := by
  have e : nrm P = P := nrm_eq (al5 hn h.al) .refl h.nf
  unfold ev
  rw [e]
  have h1 : fl n ∉ P := fun hm => (h.pr _ hm).2 rfl
  rw [cnt_no hn h1, Int.add_zero]
  refine Prod.ext rfl ?_
  unfold flt
  exact List.filter_eq_self.mpr fun a ha => decide_eq_true (h.pr a ha)
theorem prop_tau {a : Ord} : Prop_ n (tau n a) ↔ Prop_ n a := by
  have e1 : tau n a = one ↔ a = one := ⟨fun h => by rw [← tau_tau n a, h, tau_one], fun h => by rw [h, tau_one]⟩
  have e2 : tau n a = fl n ↔ a = fl n := ⟨fun h => by rw [← tau_tau n a, h, tau_fl], fun h => by rw [h, tau_fl]⟩
  unfold Prop_
  rw [Ne, Ne, e1, e2]
theorem ev_tau {t : Int} {L : List Ord} (hL : Al n L) : ev n t (L.map (tau n)) = ((ev n t L).1, (ev n t L).2.map (tau n)) := by
  have s := nrm_spec (al5 hn hL)
  have e : nrm (L.map (tau n)) = (nrm L).map (tau n) := nrm_eq (al5 hn (al_tau hL)) (st_tau hL s.1) (nf_tau (hL.st s.1) s.2)
  unfold ev
  rw [e]
  unfold cnt flt
  rw [List.filter_map, List.filter_map, List.length_map]
  have f1 : ((fun a => decide (a = fl n)) ∘ tau n) = fun a => decide (a = fl n) := funext fun a => by
    show decide (tau n a = fl n) = decide (a = fl n)
    have : (tau n a = fl n) = (a = fl n) := propext ⟨fun h => by rw [← tau_tau n a, h, tau_fl], fun h => by rw [h, tau_fl]⟩
    simp only [this]
  have f2 : ((fun a => decide (Prop_ n a)) ∘ tau n) = fun a => decide (Prop_ n a) := funext fun a => by
    show decide (Prop_ n (tau n a)) = decide (Prop_ n a)
    have : Prop_ n (tau n a) = Prop_ n a := propext (prop_tau hn)
    simp only [this]
  rw [f1, f2]
theorem ev_shift {t c : Int} {L : List Ord} : ev n (t + c) L = ((ev n t L).1 + c, (ev n t L).2) := by
  unfold ev
  refine Prod.ext ?_ rfl
  show t + c + _ = t + _ + c
  omega
theorem ev_fl_end {t : Int} {L : List Ord} (hL : Al n L) (Y : List Ord) (hY : Al n Y) : ev n t (L ++ fl n :: Y) = ev n (t + 1) (L.map (tau n) ++ Y) := by
  rw [ev_st (al5 hn (hL.app (Al.cons (in_fl n) hY))) (st_fl_through hn hL Y), List.cons_append, ev_fl hn ((al_tau hL).app hY)]
end NF
end
section
set_option linter.all false
set_option maxRecDepth 100000
set_option maxHeartbeats 4000000
namespace NF
open Tie (swp swp_inv trn trnL undL negL IsW)
open Classical
/-! letters act on plain forms -/
def sk (k : Int) : Ord := behind one k
def dk (n : Nat) (k : Int) : Ord := behind (fl n) k
abbrev Fm := Int × List Ord
noncomputable def stp (n : Nat) (x : Fm) (p : Int) : Fm := if 0 < p then ev n x.1 (x.2 ++ [sk p]) else ev n (x.1 - 1) (x.2.map (tau n) ++ [dk n (-p)])
noncomputable def run (n : Nat) (x : Fm) (w : List Int) : Fm := w.foldl (stp n) x
theorem run_app (n : Nat) (x : Fm) (u v : List Int) : run n x (u ++ v) = run n (run n x u) v := by
  unfold run
  rw [List.foldl_append]
theorem run_cons (n : Nat) (x : Fm) (p : Int) (v : List Int) : run n x (p :: v) = run n (stp n x p) v := rfl
theorem run_nil (n : Nat) (x : Fm) : run n x [] = x := rfl
theorem al1 {n : Nat} {a : Ord} (h : In n a) : Al n [a] := Al.cons h fun _ h => by cases h
theorem al2 {n : Nat} {a b : Ord} (h : In n a) (k : In n b) : Al n [a, b] := Al.cons h (al1 k)
theorem in_sk {n : Nat} {k : Int} (hk : 1 ≤ k ∧ k < n) : In n (sk k) := (in_one n).behind hk
theorem in_dk {n : Nat} {k : Int} (hk : 1 ≤ k ∧ k < n) : In n (dk n k) := (in_fl n).behind hk
theorem b_sk (k : Int) : B (sk k) k := by
  show swp k (k + 1) < swp k k
  rw [swp_k1, swp_k]
  omega
variable {n : Nat} (hn : 2 ≤ n ∧ n ≤ 5)
include hn
theorem can_stp {x : Fm} (hx : Can n x.2) {p : Int} (hp : p ≠ 0 ∧ -(n : Int) < p ∧ p < n) : Can n (stp n x p).2 := by
  unfold stp
  by_cases h : 0 < p
  · rw [if_pos h]
    exact can_ev hn (hx.al.app (al1 (in_sk (by omega))))
  · rw [if_neg h]
    exact can_ev hn ((al_tau hx.al).app (al1 (in_dk (by omega))))
theorem can_run {w : List Int} (hw : IsW n w) : ∀ {x : Fm}, Can n x.2 → Can n (run n x w).2 := by
  induction w with
  | nil => intro x hx; exact hx
  | cons p r ih =>
    intro x hx
    exact ih (fun q hq => hw q (List.mem_cons_of_mem _ hq)) (can_stp hn hx (hw p List.mem_cons_self))
theorem st_back {k : Int} (hk : 1 ≤ k ∧ k < n) : St [dk n k, sk k] [fl n, one] := by
  refine st_full hn.2 (in_dk hk) (in_sk hk) fun i => ?_
  show swp k (swp k (flf n i)) = flf n i
  rw [swp_inv]
theorem tau_sk {k : Int} (hk : 1 ≤ k ∧ k < n) : tau n (sk k) = sk ((n : Int) - k) := by
  unfold sk
  rw [tau_behind hk, tau_one]
theorem st_forth {k : Int} (hk : 1 ≤ k ∧ k < n) : St [sk ((n : Int) - k), dk n k] [fl n, one] := by
  refine st_full hn.2 (in_sk (by omega)) (in_dk hk) fun i => ?_
  show swp k (flf n (swp ((n : Int) - k) i)) = flf n i
  rw [← swp_flf hk, swp_inv]
theorem ev_full_one {t : Int} {P : List Ord} (h : Can n P) : ev n (t - 1) (P.map (tau n) ++ [fl n, one]) = (t, P) := by
  rw [ev_fl_end hn (al_tau h.al) [one] (al1 (in_one n)), map_tau2, ev_one_end hn h.al, show t - 1 + 1 = t by omega]
  exact ev_can hn h
theorem stp_nk {x : Fm} (hx : Can n x.2) {k : Int} (hk : 1 ≤ k ∧ k < n) : stp n (stp n x (-k)) k = x := by
  have e1 : stp n x (-k) = ev n (x.1 - 1) (x.2.map (tau n) ++ [dk n k]) := by
    unfold stp
    rw [if_neg (by omega), show - -k = k by omega]
  have e2 : ∀ y : Fm, stp n y k = ev n y.1 (y.2 ++ [sk k]) := fun y => by
    unfold stp
    rw [if_pos (by omega)]
  have a1 := (al_tau hx.al).app (al1 (in_dk hk))
  rw [e2, e1, ev_ev hn a1 (al1 (in_sk hk)), List.append_assoc]
  show ev n (x.1 - 1) (x.2.map (tau n) ++ [dk n k, sk k]) = x
  rw [ev_st (al5 hn ((al_tau hx.al).app (al2 (in_dk hk) (in_sk hk)))) ((st_back hn hk).pre (x.2.map (tau n)))]
  exact ev_full_one hn hx
theorem stp_kn {x : Fm} (hx : Can n x.2) {k : Int} (hk : 1 ≤ k ∧ k < n) : stp n (stp n x k) (-k) = x := by
  have e1 : stp n x k = ev n x.1 (x.2 ++ [sk k]) := by
    unfold stp
    rw [if_pos (by omega)]
  have e2 : ∀ y : Fm, stp n y (-k) = ev n (y.1 - 1) (y.2.map (tau n) ++ [dk n k]) := fun y => by
    unfold stp
    rw [if_neg (by omega), show - -k = k by omega]
  have a1 := hx.al.app (al1 (in_sk hk))
  have a2 := al_tau a1
  rw [e2, e1]
  have e3 : ((ev n x.1 (x.2 ++ [sk k])).1 - 1, (ev n x.1 (x.2 ++ [sk k])).2.map (tau n)) = ev n (x.1 - 1) ((x.2 ++ [sk k]).map (tau n)) := by
    rw [ev_tau hn a1]
    have := ev_shift hn (t := x.1) (c := -1) (L := x.2 ++ [sk k])
    rw [show x.1 - 1 = x.1 + -1 by omega, this]
    rfl
  have e4 : (ev n x.1 (x.2 ++ [sk k])).1 - 1 = (ev n (x.1 - 1) ((x.2 ++ [sk k]).map (tau n))).1 := by rw [← e3]
  have e5 : (ev n x.1 (x.2 ++ [sk k])).2.map (tau n) = (ev n (x.1 - 1) ((x.2 ++ [sk k]).map (tau n))).2 := by rw [← e3]
  rw [e4, e5, ev_ev hn a2 (al1 (in_dk hk)), List.map_append, List.append_assoc, List.map_cons, List.map_nil, tau_sk hn hk]
  show ev n (x.1 - 1) (x.2.map (tau n) ++ [sk ((n : Int) - k), dk n k]) = x
  rw [ev_st (al5 hn ((al_tau hx.al).app (al2 (in_sk (by omega)) (in_dk hk)))) ((st_forth hn hk).pre (x.2.map (tau n)))]
  exact ev_full_one hn hx
theorem stp_und {x : Fm} (hx : Can n x.2) {p : Int} (hp : p ≠ 0 ∧ -(n : Int) < p ∧ p < n) : stp n (stp n x p) (-p) = x := by
  by_cases h : 0 < p
  · exact stp_kn hn hx (by omega)
  · have := stp_nk hn hx (k := -p) (by omega)
    rwa [show - -p = p by omega] at this
theorem run_und {w : List Int} (hw : IsW n w) : ∀ {x : Fm}, Can n x.2 → run n x (w ++ undL w) = x := by
  induction w with
  | nil => intro x _; rfl
  | cons p r ih =>
    intro x hx
    have hp := hw p List.mem_cons_self
    have hr : IsW n r := fun q hq => hw q (List.mem_cons_of_mem _ hq)
    have e : p :: r ++ undL (p :: r) = p :: ((r ++ undL r) ++ [-p]) := by
      unfold undL negL
      simp
    rw [e, run_cons, run_app, ih hr (can_stp hn hx hp)]
    exact stp_und hn hx hp
/-! positive letters -/
theorem stp_pos {x : Fm} {k : Int} (hk : 1 ≤ k) : stp n x k = ev n x.1 (x.2 ++ [sk k]) := by
  unfold stp
  rw [if_pos (by omega)]
theorem run2 {x : Fm} (hx : Can n x.2) {k j : Int} (hk : 1 ≤ k ∧ k < n) (hj : 1 ≤ j ∧ j < n) : run n x [k, j] = ev n x.1 (x.2 ++ [sk k, sk j]) := by
  rw [run_cons, run_cons, run_nil, stp_pos hn hj.1, stp_pos hn hk.1, ev_ev hn (hx.al.app (al1 (in_sk hk))) (al1 (in_sk hj)), List.append_assoc]
  rfl
theorem run3 {x : Fm} (hx : Can n x.2) {k j l : Int} (hk : 1 ≤ k ∧ k < n) (hj : 1 ≤ j ∧ j < n) (hl : 1 ≤ l ∧ l < n) : run n x [k, j, l] = ev n x.1 (x.2 ++ [sk k, sk j, sk l]) := by
  have a := hx.al.app (al2 (in_sk hk) (in_sk hj))
  rw [show [k, j, l] = [k, j] ++ [l] from rfl, run_app, run2 hn hx hk hj, run_cons, run_nil, stp_pos hn hl.1, ev_ev hn a (al1 (in_sk hl)), List.append_assoc]
  rfl
omit hn in
theorem ahead_sk (k : Int) : ahead (sk k) k = one := Ord.ext' fun i => swp_inv k i
theorem st_two {k j : Int} (h : ¬ E (sk k) j) (Y : List Ord) : St (sk k :: sk j :: Y) (behind (sk k) j :: one :: Y) := by
  have := St.one (Mv.here (a := sk k) (b := sk j) (Y := Y) (k := j) (b_sk j) h)
  rwa [ahead_sk] at this
theorem e_sk {k j : Int} (h : E (sk k) j) : j = k := by
  have h : swp k (j + 1) < swp k j := h
  rcases swp_lt (k := k) (show j < j + 1 by omega) with h1 | ⟨h1, _⟩
  · omega
  · exact h1
theorem far_pos {x : Fm} (hx : Can n x.2) {k j : Int} (hk : 1 ≤ k ∧ k < n) (hj : 1 ≤ j ∧ j < n) (hkj : k + 1 < j) : run n x [k, j] = run n x [j, k] := by
  rw [run2 hn hx hk hj, run2 hn hx hj hk]
  rw [ev_st (al5 hn (hx.al.app (al2 (in_sk hk) (in_sk hj)))) ((st_two hn (fun e => by have := e_sk hn e; omega) []).pre x.2)]
  rw [ev_st (al5 hn (hx.al.app (al2 (in_sk hj) (in_sk hk)))) ((st_two hn (fun e => by have := e_sk hn e; omega) []).pre x.2)]
  have : behind (sk k) j = behind (sk j) k := Ord.ext' fun i => (swp_comm hkj i).symm
  rw [this]
theorem near_pos {x : Fm} (hx : Can n x.2) {k : Int} (hk : 1 ≤ k ∧ k + 1 < n) : run n x [k, k + 1, k] = run n x [k + 1, k, k + 1] := by
  have s1 : swp k (k + 1 + 1) = k + 1 + 1 := swp_out (by omega) (by omega)
  have s2 : swp (k + 1) k = k := swp_out (by omega) (by omega)
  have i1 := in_sk (n := n) (k := k) (by omega)
  have i2 := in_sk (n := n) (k := k + 1) (by omega)
  rw [run3 hn hx (by omega) (by omega) (by omega), run3 hn hx (by omega) (by omega) (by omega)]
  have m1 : St [sk k, sk (k + 1), sk k] [behind (behind (sk k) (k + 1)) k, one, one] := by
    refine (st_two hn (fun e => by have := e_sk hn e; omega) [sk k]).trans ?_
    refine (((st_one hn.2 i1)).cons _).trans ?_
    have := St.one (Mv.here (a := behind (sk k) (k + 1)) (b := sk k) (Y := [one]) (k := k) (b_sk k) (by
      show ¬ swp k (swp (k + 1) (k + 1)) < swp k (swp (k + 1) k)
      rw [swp_k, s1, s2, swp_k]
      omega))
    rwa [ahead_sk] at this
  have m2 : St [sk (k + 1), sk k, sk (k + 1)] [behind (behind (sk (k + 1)) k) (k + 1), one, one] := by
    refine (st_two hn (fun e => by have := e_sk hn e; omega) [sk (k + 1)]).trans ?_
    refine (((st_one hn.2 i2)).cons _).trans ?_
    have := St.one (Mv.here (a := behind (sk (k + 1)) k) (b := sk (k + 1)) (Y := [one]) (k := k + 1) (b_sk (k + 1)) (by
      show ¬ swp (k + 1) (swp k (k + 1 + 1)) < swp (k + 1) (swp k (k + 1))
      rw [swp_k1, s1, swp_k1, s2]
      omega))
    rwa [ahead_sk] at this
  have e : behind (behind (sk k) (k + 1)) k = behind (behind (sk (k + 1)) k) (k + 1) := Ord.ext' fun i => swp_three k i
  have al3 : ∀ {a b c : Ord}, In n a → In n b → In n c → Al n [a, b, c] := fun h1 h2 h3 => Al.cons h1 (al2 h2 h3)
  rw [ev_st (al5 hn (hx.al.app (al3 i1 i2 i1))) (m1.pre x.2), ev_st (al5 hn (hx.al.app (al3 i2 i1 i2))) (m2.pre x.2), e]
/-! two words that act alike -/
def Alk (n : Nat) (u v : List Int) : Prop := ∀ x : Fm, Can n x.2 → run n x u = run n x v
omit hn in
theorem Alk.symm {u v : List Int} (h : Alk n u v) : Alk n v u := fun x hx => (h x hx).symm
omit hn in
theorem Alk.trans {u v w : List Int} (h : Alk n u v) (k : Alk n v w) : Alk n u w := fun x hx => (h x hx).trans (k x hx)
omit hn in
theorem Alk.refl (u : List Int) : Alk n u u := fun _ _ => rfl
theorem Alk.app {u v u' v' : List Int} (hu : IsW n u) (h : Alk n u u') (k : Alk n v v') : Alk n (u ++ v) (u' ++ v') := fun x hx => by
  rw [run_app, run_app, ← h x hx, k _ (can_run hn hu hx)]
theorem alk_und {w : List Int} (hw : IsW n w) : Alk n (w ++ undL w) [] := fun x hx => run_und hn hw hx
omit hn in
theorem undL_undL' (u : List Int) : undL (undL u) = u := by
  unfold undL negL
  rw [List.map_reverse, List.reverse_reverse, List.map_map]
  have : ((fun p : Int => -p) ∘ fun p => -p) = id := funext fun p => by show - -p = p; omega
  rw [this, List.map_id]
theorem alk_und' {w : List Int} (hw : IsW n w) : Alk n (undL w ++ w) [] := by
  have := alk_und hn (w := undL w) (IsW.und hw)
  rwa [undL_undL'] at this
theorem Alk.und {u v : List Int} (hu : IsW n u) (hv : IsW n v) (h : Alk n u v) : Alk n (undL u) (undL v) := by
  have a : Alk n (undL u ++ (v ++ undL v)) (undL u ++ []) := Alk.app hn hu.und (Alk.refl _) (alk_und hn hv)
  rw [List.append_nil] at a
  have b : Alk n ((undL u ++ v) ++ undL v) ([] ++ undL v) := Alk.app hn (hu.und.app hv) ((Alk.app hn hu.und (Alk.refl _) h.symm).trans (alk_und' hn hu)) (Alk.refl _)
  rw [List.append_assoc, List.nil_append] at b
  exact a.symm.trans b
/-! the word of an order -/
inductive Peel : Ord → List Int → Prop
  | nil : Peel one []
  | cons {p : Ord} {k : Int} {w : List Int} : B p k → Peel (ahead p k) w → Peel p (k :: w)
theorem peel_isW {p : Ord} {w : List Int} (h : Peel p w) : In n p → IsW n w ∧ ∀ k ∈ w, 0 < k := by
  induction h with
  | nil => exact fun _ => ⟨fun q hq => (by cases hq), fun q hq => (by cases hq)⟩
  | cons hb _ ih =>
    intro hp
    have hk := hp.b hb
    obtain ⟨h1, h2⟩ := ih (hp.ahead hk)
    refine ⟨fun q hq => ?_, fun q hq => ?_⟩
    · rcases List.mem_cons.mp hq with rfl | hq
      · omega
      · exact h1 q hq
    · rcases List.mem_cons.mp hq with rfl | hq
      · omega
      · exact h2 q hq
theorem ev_peel {t : Int} {L : List Ord} (hL : Al n L) {p : Ord} (hp : In n p) {k : Int} (hb : B p k) : ev n t (L ++ [p]) = ev n t (L ++ [sk k, ahead p k]) := by
  rw [← ev_one hn hL (al1 hp)]
  exact ev_st (al5 hn (hL.app (al2 (in_one n) hp))) (St.pre L (St.one (.here hb (e_one k))))
theorem run_peel {p : Ord} {w : List Int} (h : Peel p w) : ∀ {x : Fm}, In n p → Can n x.2 → run n x w = ev n x.1 (x.2 ++ [p]) := by
  induction h with
  | nil =>
    intro x _ hx
    rw [ev_one_end hn hx.al, ev_can hn hx]
    rfl
  | @cons p k w hb _ ih =>
    intro x hp hx
    have hk := hp.b hb
    have a1 := hx.al.app (al1 (in_sk (n := n) hk))
    rw [run_cons, stp_pos hn hk.1, ih (hp.ahead hk) (can_ev hn a1), ev_ev hn a1 (al1 (hp.ahead hk)), ev_peel hn hx.al hp hb, List.append_assoc]
    rfl
/-- more orders behind -/
inductive Peels : List Ord → List (List Int) → Prop
  | nil : Peels [] []
  | cons {p : Ord} {P : List Ord} {w : List Int} {ws : List (List Int)} : Peel p w → Peels P ws → Peels (p :: P) (w :: ws)
theorem run_peels {P : List Ord} : ∀ {ws : List (List Int)} {x : Fm}, Al n P → Can n x.2 → Peels P ws → run n x ws.flatten = ev n x.1 (x.2 ++ P) := by
  induction P with
  | nil =>
    intro ws x _ hx h
    cases h
    rw [List.append_nil, ev_can hn hx]
    rfl
  | cons p P ih =>
    intro ws x hP hx h
    cases h with
    | cons h1 h2 =>
      have a1 := hx.al.app (al1 hP.hd)
      rw [List.flatten_cons, run_app, run_peel hn h1 hP.hd hx, ih hP.tl (can_ev hn a1) h2, ev_ev hn a1 hP.tl, List.append_assoc]
      rfl
/-- the full order behind -/
theorem run_full {w : List Int} (h : Peel (fl n) w) {x : Fm} (hx : Can n x.2) : run n x w = (x.1 + 1, x.2.map (tau n)) := by
  have ct : Can n (x.2.map (tau n)) := ⟨al_tau hx.al, nf_tau hx.al hx.nf, fun a ha => by
    obtain ⟨b, hb, rfl⟩ := List.mem_map.mp ha
    exact (prop_tau hn).mpr (hx.pr b hb)⟩
  rw [run_peel hn h (in_fl n) hx, ev_fl_end hn hx.al [] (fun _ h => by cases h), List.append_nil, ev_can hn ct]
theorem can_tau {P : List Ord} (h : Can n P) : Can n (P.map (tau n)) := ⟨al_tau h.al, nf_tau h.al h.nf, fun a ha => by
    obtain ⟨b, hb, rfl⟩ := List.mem_map.mp ha
    exact (prop_tau hn).mpr (h.pr b hb)⟩
theorem run_full_und {w : List Int} (h : Peel (fl n) w) {x : Fm} (hx : Can n x.2) : run n x (undL w) = (x.1 - 1, x.2.map (tau n)) := by
  have hw := (peel_isW hn h (in_fl n)).1
  have e : x = run n (x.1 - 1, x.2.map (tau n)) w := by
    rw [run_full hn h (x := (x.1 - 1, x.2.map (tau n))) (can_tau hn hx), map_tau2]
    refine Prod.ext ?_ rfl
    show x.1 = x.1 - 1 + 1
    omega
  have e2 : run n x (undL w) = run n (run n (x.1 - 1, x.2.map (tau n)) w) (undL w) := by rw [← e]
  rw [e2, ← run_app, run_und hn hw (x := (x.1 - 1, x.2.map (tau n))) (can_tau hn hx)]
/-! turned about; more full orders ahead -/
theorem stp_turn {x : Fm} (hx : Can n x.2) {p : Int} (hp : p ≠ 0 ∧ -(n : Int) < p ∧ p < n) : stp n (x.1, x.2.map (tau n)) (trn n p) = ((stp n x p).1, (stp n x p).2.map (tau n)) := by
  unfold stp trn
  by_cases h : 0 < p
  · rw [if_pos h, if_pos h, if_pos (by omega)]
    have := ev_tau hn (t := x.1) (hx.al.app (al1 (in_sk (n := n) (k := p) (by omega))))
    rw [List.map_append, List.map_cons, List.map_nil, tau_sk hn (by omega)] at this
    exact this
  · rw [if_neg h, if_neg h, if_neg (by omega)]
    have := ev_tau hn (t := x.1 - 1) ((al_tau hx.al).app (al1 (in_dk (n := n) (k := -p) (by omega))))
    rw [List.map_append, List.map_cons, List.map_nil] at this
    have e : tau n (dk n (-p)) = dk n (-(-(n : Int) - p)) := by
      unfold dk
      rw [tau_behind (by omega), tau_fl, show (n : Int) - -p = -(-(n : Int) - p) by omega]
    rw [e] at this
    exact this
theorem run_turn {w : List Int} (hw : IsW n w) : ∀ {x : Fm}, Can n x.2 → run n (x.1, x.2.map (tau n)) (trnL n w) = ((run n x w).1, (run n x w).2.map (tau n)) := by
  induction w with
  | nil => intro x _; rfl
  | cons p r ih =>
    intro x hx
    have hp := hw p List.mem_cons_self
    show run n (stp n (x.1, x.2.map (tau n)) (trn n p)) (trnL n r) = _
    rw [stp_turn hn hx hp, ih (fun q hq => hw q (List.mem_cons_of_mem _ hq)) (can_stp hn hx hp)]
    rfl
theorem stp_shift {x : Fm} {c p : Int} : stp n (x.1 + c, x.2) p = ((stp n x p).1 + c, (stp n x p).2) := by
  unfold stp
  by_cases h : 0 < p
  · rw [if_pos h, if_pos h]
    exact ev_shift hn
  · rw [if_neg h, if_neg h]
    show ev n (x.1 + c - 1) _ = _
    rw [show x.1 + c - 1 = x.1 - 1 + c by omega]
    exact ev_shift hn
theorem run_shift {w : List Int} : ∀ {x : Fm} {c : Int}, run n (x.1 + c, x.2) w = ((run n x w).1 + c, (run n x w).2) := by
  induction w with
  | nil => intro x c; rfl
  | cons p r ih =>
    intro x c
    show run n (stp n (x.1 + c, x.2) p) r = _
    rw [stp_shift hn, ih]
    rfl
omit hn in
theorem can_nil : Can n [] := ⟨fun _ h => (by cases h), trivial, fun _ h => (by cases h)⟩
/-! forms put together -/
noncomputable def tp (n : Nat) (b : Int) (P : List Ord) : List Ord := if b % 2 = 0 then P else P.map (tau n)
omit hn in
theorem tp_tp (b c : Int) (P : List Ord) : tp n b (tp n c P) = tp n (b + c) P := by
  unfold tp
  by_cases h1 : b % 2 = 0
  · rw [if_pos h1]
    by_cases h2 : c % 2 = 0
    · rw [if_pos h2, if_pos (by omega)]
    · rw [if_neg h2, if_neg (by omega)]
  · rw [if_neg h1]
    by_cases h2 : c % 2 = 0
    · rw [if_pos h2, if_neg (by omega)]
    · rw [if_neg h2, if_pos (by omega), map_tau2]
omit hn in
theorem tp_0 (P : List Ord) : tp n 0 P = P := if_pos rfl
omit hn in
theorem tp_1 (P : List Ord) : P.map (tau n) = tp n 1 P := by
  unfold tp
  rw [if_neg (by decide)]
omit hn in
theorem tp_par {b c : Int} (h : (b - c) % 2 = 0) (P : List Ord) : tp n b P = tp n c P := by
  unfold tp
  by_cases h1 : b % 2 = 0
  · rw [if_pos h1, if_pos (by omega)]
  · rw [if_neg h1, if_neg (by omega)]
omit hn in
theorem al_tp {b : Int} {P : List Ord} (h : Al n P) : Al n (tp n b P) := by
  unfold tp
  split
  · exact h
  · exact al_tau h
theorem ev_mid_nf : ∀ {N X : List Ord} {t : Int}, Al n N → Nf N → Al n X → ev n t (X ++ N) = ev n (t + cnt n N) (tp n (cnt n N) X ++ flt n N)
  | [], X, t, _, _, _ => by
    show ev n t (X ++ []) = ev n (t + 0) (tp n 0 X ++ [])
    rw [tp_0, Int.add_zero]
  | a :: N, X, t, hN, hf, hX => by
    by_cases ha : a = fl n
    · subst ha
      rw [ev_fl_end hn hX N hN.tl, ev_mid_nf hN.tl hf.tl (al_tau hX), tp_1 X, tp_tp]
      have e1 : cnt n (fl n :: N) = cnt n N + 1 := by
        unfold cnt
        rw [List.filter_cons_of_pos (by simp), List.length_cons]
        omega
      have e2 : flt n (fl n :: N) = flt n N := by
        unfold flt
        rw [List.filter_cons_of_neg (by simp [Prop_])]
      rw [e1, e2]
      congr 1
      omega
    · have h1 := no_fl hn hN hf ha
      have h2 : fl n ∉ a :: N := fun h => by
        rcases List.mem_cons.mp h with e | e
        · exact ha e.symm
        · exact h1 e
      rw [cnt_no hn h2, Int.add_zero, tp_0]
      have := ev_ones hn (t := t) (Q := []) (fun _ h => by cases h) hN hX h2
      rw [List.append_nil, List.append_nil] at this
      exact this
theorem ev_mid {t s : Int} {L X : List Ord} (hL : Al n L) (hX : Al n X) : ev n (t + s) (X ++ L) = ev n (t + (ev n s L).1) (tp n ((ev n s L).1 - s) X ++ (ev n s L).2) := by
  have sp := nrm_spec (al5 hn hL)
  rw [ev_st (al5 hn (hX.app hL)) (sp.1.pre X), ev_mid_nf hn (hL.st sp.1) sp.2 hX]
  show _ = ev n (t + (s + cnt n (nrm L))) (tp n (s + cnt n (nrm L) - s) X ++ flt n (nrm L))
  rw [show s + cnt n (nrm L) - s = cnt n (nrm L) by omega, show t + (s + cnt n (nrm L)) = t + s + cnt n (nrm L) by omega]
noncomputable def mulF (n : Nat) (x y : Fm) : Fm := ev n (x.1 + y.1) (tp n y.1 x.2 ++ y.2)
theorem mul_stp {x y : Fm} (hx : Can n x.2) (hy : Can n y.2) {p : Int} (hp : p ≠ 0 ∧ -(n : Int) < p ∧ p < n) : mulF n x (stp n y p) = stp n (mulF n x y) p := by
  have axy : Al n (tp n y.1 x.2 ++ y.2) := (al_tp hx.al).app hy.al
  unfold mulF stp
  by_cases h : 0 < p
  · rw [if_pos h, if_pos h]
    have as := al1 (in_sk (n := n) (k := p) (by omega))
    rw [ev_ev hn axy as, List.append_assoc]
    rw [ev_mid hn (hy.al.app as) (al_tp hx.al), tp_tp, show (ev n y.1 (y.2 ++ [sk p])).1 - y.1 + y.1 = (ev n y.1 (y.2 ++ [sk p])).1 by omega]
  · rw [if_neg h, if_neg h]
    have as := al1 (in_dk (n := n) (k := -p) (by omega))
    have e3 : ((ev n (x.1 + y.1) (tp n y.1 x.2 ++ y.2)).1 - 1, (ev n (x.1 + y.1) (tp n y.1 x.2 ++ y.2)).2.map (tau n)) = ev n (x.1 + y.1 - 1) ((tp n y.1 x.2 ++ y.2).map (tau n)) := by
      rw [ev_tau hn axy]
      have := ev_shift hn (t := x.1 + y.1) (c := -1) (L := tp n y.1 x.2 ++ y.2)
      rw [show x.1 + y.1 - 1 = x.1 + y.1 + -1 by omega, this]
      rfl
    have e4 : (ev n (x.1 + y.1) (tp n y.1 x.2 ++ y.2)).1 - 1 = (ev n (x.1 + y.1 - 1) ((tp n y.1 x.2 ++ y.2).map (tau n))).1 := by rw [← e3]
    have e5 : (ev n (x.1 + y.1) (tp n y.1 x.2 ++ y.2)).2.map (tau n) = (ev n (x.1 + y.1 - 1) ((tp n y.1 x.2 ++ y.2).map (tau n))).2 := by rw [← e3]
    rw [e4, e5, ev_ev hn (al_tau axy) as, List.map_append, List.append_assoc, tp_1 (tp n y.1 x.2), tp_tp]
    rw [show x.1 + y.1 - 1 = x.1 + (y.1 - 1) by omega, ev_mid hn ((al_tau hy.al).app as) (al_tp hx.al), tp_tp]
    congr 2
    exact tp_par (by omega) _
theorem mul_run {w : List Int} (hw : IsW n w) : ∀ {x y : Fm}, Can n x.2 → Can n y.2 → mulF n x (run n y w) = run n (mulF n x y) w := by
  induction w with
  | nil => intro x y _ _; rfl
  | cons p r ih =>
    intro x y hx hy
    have hp := hw p List.mem_cons_self
    rw [run_cons, ih (fun q hq => hw q (List.mem_cons_of_mem _ hq)) hx (can_stp hn hy hp), mul_stp hn hx hy hp]
    rfl
/-- the plain form of a word tells what it makes of each form -/
theorem run_of_plain {w : List Int} (hw : IsW n w) {x : Fm} (hx : Can n x.2) : run n x w = mulF n x (run n (0, []) w) := by
  rw [mul_run hn hw hx can_nil]
  congr 1
  show x = ev n (x.1 + 0) (tp n 0 x.2 ++ [])
  rw [tp_0, List.append_nil, Int.add_zero, ev_can hn hx]
theorem alk_iff {u v : List Int} (hu : IsW n u) (hv : IsW n v) : Alk n u v ↔ run n (0, []) u = run n (0, []) v :=
  ⟨fun h => h _ can_nil, fun h x hx => by rw [run_of_plain hn hu hx, run_of_plain hn hv hx, h]⟩
end NF
end
section
set_option linter.all false
set_option maxRecDepth 100000
set_option maxHeartbeats 4000000
namespace NF
open Tie (swp swp_inv trn trnL undL negL IsW)
/-! the same plait by small changes -/
inductive Br (n : Nat) : List Int → List Int → Prop
  | refl (u : List Int) : Br n u u
  | symm {u v : List Int} : Br n u v → Br n v u
  | trans {u v w : List Int} : Br n u v → Br n v w → Br n u w
  | ctx {u v : List Int} (a b : List Int) : Br n u v → Br n (a ++ u ++ b) (a ++ v ++ b)
  | can {k : Int} : k ≠ 0 ∧ -(n : Int) < k ∧ k < n → Br n [k, -k] []
  | far {k j : Int} : 1 ≤ k → k + 1 < j → j < n → Br n [k, j] [j, k]
  | near {k : Int} : 1 ≤ k → k + 1 < n → Br n [k, k + 1, k] [k + 1, k, k + 1]
theorem Br.app {n : Nat} {u u' v v' : List Int} (h : Br n u u') (k : Br n v v') : Br n (u ++ v) (u' ++ v') := by
  have a := Br.ctx [] v h
  have b := Br.ctx u' [] k
  rw [List.append_nil, List.append_nil] at b
  exact a.trans b
theorem Br.cons {n : Nat} (k : Int) {u u' : List Int} (h : Br n u u') : Br n (k :: u) (k :: u') := Br.app (Br.refl [k]) h
theorem undL_app' (u v : List Int) : undL (u ++ v) = undL v ++ undL u := by
  unfold undL negL
  rw [List.map_append, List.reverse_append]
theorem undL_cons' (x : Int) (u : List Int) : undL (x :: u) = undL u ++ [-x] := by
  unfold undL negL
  rw [List.map_cons, List.reverse_cons]
theorem br_und {n : Nat} {u : List Int} (h : IsW n u) : Br n (u ++ undL u) [] := by
  induction u with
  | nil => exact .refl _
  | cons x r ih =>
    rw [undL_cons', show x :: r ++ (undL r ++ [-x]) = [x] ++ (r ++ undL r) ++ [-x] by simp]
    have := Br.ctx [x] [-x] (ih fun q hq => h q (List.mem_cons_of_mem _ hq))
    exact this.trans (Br.can (h x List.mem_cons_self))
theorem br_und' {n : Nat} {u : List Int} (h : IsW n u) : Br n (undL u ++ u) [] := by
  have := br_und h.und
  rwa [undL_undL'] at this
theorem Br.und {n : Nat} {u v : List Int} (hu : IsW n u) (hv : IsW n v) (h : Br n u v) : Br n (undL u) (undL v) := by
  have a : Br n (undL u ++ (v ++ undL v)) (undL u ++ []) := (Br.refl _).app (br_und hv)
  rw [List.append_nil] at a
  have b : Br n ((undL u ++ v) ++ undL v) ([] ++ undL v) := (((Br.refl (undL u)).app h.symm).trans (br_und' hu)).app (Br.refl _)
  rw [List.append_assoc, List.nil_append] at b
  exact a.symm.trans b
theorem Br.lcan {n : Nat} {a u v : List Int} (ha : IsW n a) (h : Br n (a ++ u) (a ++ v)) : Br n u v := by
  have h1 : Br n (undL a ++ (a ++ u)) (undL a ++ (a ++ v)) := (Br.refl _).app h
  have e : ∀ w, Br n (undL a ++ (a ++ w)) w := fun w => by
    rw [← List.append_assoc]
    exact (br_und' ha).app (Br.refl w)
  exact (e u).symm.trans (h1.trans (e v))
theorem isW2 {n : Nat} {k j : Int} (hk : k ≠ 0 ∧ -(n : Int) < k ∧ k < n) (hj : j ≠ 0 ∧ -(n : Int) < j ∧ j < n) : IsW n [k, j] := fun p hp => by
  rcases List.mem_cons.mp hp with rfl | hp
  · exact hk
  · rw [List.mem_singleton.mp hp]
    exact hj
theorem isW3 {n : Nat} {k j l : Int} (hk : k ≠ 0 ∧ -(n : Int) < k ∧ k < n) (hj : j ≠ 0 ∧ -(n : Int) < j ∧ j < n) (hl : l ≠ 0 ∧ -(n : Int) < l ∧ l < n) : IsW n [k, j, l] := fun p hp => by
  rcases List.mem_cons.mp hp with rfl | hp
  · exact hk
  · exact isW2 hj hl p hp
theorem isW_nil {n : Nat} : IsW n [] := fun p hp => by cases hp
theorem isW_app_iff {n : Int} {u v : List Int} : IsW n (u ++ v) ↔ IsW n u ∧ IsW n v := ⟨fun h => ⟨fun p hp => h p (List.mem_append_left _ hp), fun p hp => h p (List.mem_append_right _ hp)⟩, fun h => h.1.app h.2⟩
theorem br_alk {n : Nat} (hn : 2 ≤ n ∧ n ≤ 5) {u v : List Int} (h : Br n u v) : (IsW n u ↔ IsW n v) ∧ (IsW n u → Alk n u v) := by
  induction h with
  | refl u => exact ⟨Iff.rfl, fun _ => Alk.refl u⟩
  | symm _ ih => exact ⟨ih.1.symm, fun h => (ih.2 (ih.1.mpr h)).symm⟩
  | trans _ _ ih1 ih2 => exact ⟨ih1.1.trans ih2.1, fun h => (ih1.2 h).trans (ih2.2 (ih1.1.mp h))⟩
  | ctx a b _ ih =>
    refine ⟨by rw [isW_app_iff, isW_app_iff, isW_app_iff, isW_app_iff, ih.1], fun h => ?_⟩
    have h1 := (isW_app_iff.mp h).1
    have h2 := isW_app_iff.mp h1
    exact Alk.app hn h1 (Alk.app hn h2.1 (Alk.refl a) (ih.2 h2.2)) (Alk.refl b)
  | @can k hk => exact ⟨⟨fun _ => isW_nil, fun _ => isW2 hk (by omega)⟩, fun _ x hx => stp_und hn hx hk⟩
  | @far k j h1 h2 h3 => exact ⟨⟨fun _ => isW2 (by omega) (by omega), fun _ => isW2 (by omega) (by omega)⟩, fun _ x hx => far_pos hn hx (by omega) (by omega) h2⟩
  | @near k h1 h2 => exact ⟨⟨fun _ => isW3 (by omega) (by omega) (by omega), fun _ => isW3 (by omega) (by omega) (by omega)⟩, fun _ x hx => near_pos hn hx (by omega)⟩
theorem negL_app (u v : List Int) : negL (u ++ v) = negL u ++ negL v := by
  unfold negL
  rw [List.map_append]
theorem trnL_app (n : Int) (u v : List Int) : trnL n (u ++ v) = trnL n u ++ trnL n v := by
  unfold trnL
  rw [List.map_append]
theorem Br.neg {n : Nat} {u v : List Int} (h : Br n u v) : Br n (negL u) (negL v) := by
  induction h with
  | refl u => exact .refl _
  | symm _ ih => exact ih.symm
  | trans _ _ ih1 ih2 => exact ih1.trans ih2
  | ctx a b _ ih =>
    rw [negL_app, negL_app, negL_app, negL_app]
    exact Br.ctx _ _ ih
  | @can k hk => exact Br.can (k := -k) (by omega)
  | @far k j h1 h2 h3 => exact (Br.und (isW2 (by omega) (by omega)) (isW2 (by omega) (by omega)) (Br.far h1 h2 h3)).symm
  | @near k h1 h2 => exact Br.und (isW3 (by omega) (by omega) (by omega)) (isW3 (by omega) (by omega) (by omega)) (Br.near h1 h2)
theorem Br.trn {n : Nat} {u v : List Int} (h : Br n u v) : Br n (trnL n u) (trnL n v) := by
  induction h with
  | refl u => exact .refl _
  | symm _ ih => exact ih.symm
  | trans _ _ ih1 ih2 => exact ih1.trans ih2
  | ctx a b _ ih =>
    rw [trnL_app, trnL_app, trnL_app, trnL_app]
    exact Br.ctx _ _ ih
  | @can k hk =>
    have e : trnL n [k, -k] = [Tie.trn n k, -Tie.trn n k] := by
      show [Tie.trn n k, Tie.trn n (-k)] = _
      have : Tie.trn n (-k) = -Tie.trn n k := by
        unfold Tie.trn
        by_cases h : 0 < k
        · rw [if_pos h, if_neg (by omega)]
          omega
        · rw [if_neg h, if_pos (by omega)]
          omega
      rw [this]
    rw [e]
    refine Br.can ?_
    unfold Tie.trn
    split <;> omega
  | @far k j h1 h2 h3 =>
    have e1 : Tie.trn n k = (n : Int) - k := by unfold Tie.trn; rw [if_pos (by omega)]
    have e2 : Tie.trn n j = (n : Int) - j := by unfold Tie.trn; rw [if_pos (by omega)]
    show Br n [Tie.trn n k, Tie.trn n j] [Tie.trn n j, Tie.trn n k]
    rw [e1, e2]
    exact (Br.far (by omega) (by omega) (by omega)).symm
  | @near k h1 h2 =>
    have e1 : Tie.trn n k = (n : Int) - (k + 1) + 1 := by unfold Tie.trn; rw [if_pos (by omega)]; omega
    have e2 : Tie.trn n (k + 1) = (n : Int) - (k + 1) := by unfold Tie.trn; rw [if_pos (by omega)]
    show Br n [Tie.trn n k, Tie.trn n (k + 1), Tie.trn n k] [Tie.trn n (k + 1), Tie.trn n k, Tie.trn n (k + 1)]
    rw [e1, e2]
    exact (Br.near (by omega) (by omega)).symm
/-! all words of an order are the same plait -/
theorem pot_up {b : Ord} {k : Int} (hb : In 5 b) (bk : B b k) : pot b + 1 ≤ pot (ahead b k) := by
  have hk := hb.b bk
  unfold pot
  unfold B at bk
  show _ ≤ b.f (swp k 1) + 2 * b.f (swp k 2) + 3 * b.f (swp k 3) + 4 * b.f (swp k 4) + 5 * b.f (swp k 5)
  have : k = 1 ∨ k = 2 ∨ k = 3 ∨ k = 4 := by omega
  rcases this with rfl | rfl | rfl | rfl
  · show _ ≤ b.f 2 + 2 * b.f 1 + 3 * b.f 3 + 4 * b.f 4 + 5 * b.f 5
    have : b.f 2 < b.f 1 := bk
    omega
  · show _ ≤ b.f 1 + 2 * b.f 3 + 3 * b.f 2 + 4 * b.f 4 + 5 * b.f 5
    have : b.f 3 < b.f 2 := bk
    omega
  · show _ ≤ b.f 1 + 2 * b.f 2 + 3 * b.f 4 + 4 * b.f 3 + 5 * b.f 5
    have : b.f 4 < b.f 3 := bk
    omega
  · show _ ≤ b.f 1 + 2 * b.f 2 + 3 * b.f 3 + 4 * b.f 5 + 5 * b.f 4
    have : b.f 5 < b.f 4 := bk
    omega
theorem peel_ex {p : Ord} (hp : In 5 p) : ∃ w, Peel p w := by
  have key : ∀ (m : Nat) (p : Ord), In 5 p → (75 - pot p).toNat < m → ∃ w, Peel p w := by
    intro m
    induction m with
    | zero => intro p _ h; omega
    | succ m ih =>
      intro p hp hm
      by_cases h : ∃ k, B p k
      · obtain ⟨k, hk⟩ := h
        have kk := hp.b hk
        have hw := pot_up hp hk
        have hl := pot_le (hp.ahead kk)
        obtain ⟨w, hw'⟩ := ih (ahead p k) (hp.ahead kk) (by omega)
        exact ⟨k :: w, .cons hk hw'⟩
      · have : p = one := no_B hp fun k hk => h ⟨k, hk⟩
        subst this
        exact ⟨[], .nil⟩
  exact key _ p hp (Nat.lt_succ_self _)
theorem peel_one {w : List Int} (h : Peel one w) : w = [] := by
  cases h with
  | nil => rfl
  | cons hb _ => exact (b_one _ hb).elim
theorem peel_br : ∀ (m : Nat) {n : Nat}, n ≤ 5 → ∀ {p : Ord} {w w' : List Int}, In n p → (75 - pot p).toNat < m → Peel p w → Peel p w' → Br n w w'
  | 0, n, hn, p, w, w', hp, hl, h, h' => by omega
  | m + 1, n, hn, p, w, w', hp, hl, h, h' => by
    cases h with
    | nil =>
      rw [peel_one h']
      exact .refl _
    | @cons _ k w bk hw =>
      cases h' with
      | nil => exact (b_one _ bk).elim
      | @cons _ j w' bj hw' =>
        have kk := hp.b bk
        have kj := hp.b bj
        have dn : ∀ {k : Int}, B p k → (75 - pot (ahead p k)).toNat < m := fun {k} bk => by
          have h1 := pot_up (hp.mono hn) bk
          have h2 := pot_le ((hp.ahead (hp.b bk)).mono hn)
          omega
        have step : ∀ {k j : Int} {w w' : List Int}, Peel (ahead p k) w → Peel (ahead p j) w' → B p k → B p j → k < j → Br n (k :: w) (j :: w') := by
          intro k j w w' hw hw' bk bj hkj
          have kk := hp.b bk
          have kj := hp.b bj
          have d1 := dn bk
          have d2 := dn bj
          unfold B at bk bj
          by_cases hfar : k + 1 < j
          · have b1 : B (ahead p k) j := by
              show p.f (swp k (j + 1)) < p.f (swp k j)
              rw [swp_out (by omega) (by omega), swp_out (by omega) (by omega)]
              exact bj
            have b2 : B (ahead p j) k := by
              show p.f (swp j (k + 1)) < p.f (swp j k)
              rw [swp_out (by omega) (by omega), swp_out (by omega) (by omega)]
              exact bk
            obtain ⟨v, hv⟩ := peel_ex (((hp.ahead kk).ahead kj).mono hn)
            have e : ahead (ahead p k) j = ahead (ahead p j) k := Ord.ext' fun i => by
              show p.f (swp k (swp j i)) = p.f (swp j (swp k i))
              rw [swp_comm hfar]
            have r1 := peel_br m hn (hp.ahead kk) d1 hw (.cons b1 hv)
            rw [e] at hv
            have r2 : Br n (k :: v) w' := peel_br m hn (hp.ahead kj) d2 (.cons b2 hv) hw'
            refine ((Br.cons k r1).trans ?_).trans (Br.cons j r2)
            exact Br.ctx [] v (Br.far kk.1 hfar kj.2)
          · have hj : j = k + 1 := by omega
            subst hj
            have s1 : swp k (k + 1 + 1) = k + 1 + 1 := swp_out (by omega) (by omega)
            have s2 : swp (k + 1) k = k := swp_out (by omega) (by omega)
            have s3 := swp_k k
            have s4 := swp_k1 k
            have s5 := swp_k (k + 1)
            have s6 := swp_k1 (k + 1)
            have b1 : B (ahead p k) (k + 1) := by
              show p.f (swp k (k + 1 + 1)) < p.f (swp k (k + 1))
              rw [s1, s4]
              omega
            have b2 : B (ahead (ahead p k) (k + 1)) k := by
              show p.f (swp k (swp (k + 1) (k + 1))) < p.f (swp k (swp (k + 1) k))
              rw [s5, s1, s2, s3]
              exact bj
            have b3 : B (ahead p (k + 1)) k := by
              show p.f (swp (k + 1) (k + 1)) < p.f (swp (k + 1) k)
              rw [s5, s2]
              omega
            have b4 : B (ahead (ahead p (k + 1)) k) (k + 1) := by
              show p.f (swp (k + 1) (swp k (k + 1 + 1))) < p.f (swp (k + 1) (swp k (k + 1)))
              rw [s1, s6, s4, s2]
              exact bk
            obtain ⟨v, hv⟩ := peel_ex ((((hp.ahead kk).ahead kj).ahead kk).mono hn)
            have e : ahead (ahead (ahead p k) (k + 1)) k = ahead (ahead (ahead p (k + 1)) k) (k + 1) := Ord.ext' fun i => by
              show p.f (swp k (swp (k + 1) (swp k i))) = p.f (swp (k + 1) (swp k (swp (k + 1) i)))
              rw [swp_three]
            have r1 := peel_br m hn (hp.ahead kk) d1 hw (.cons b1 (.cons b2 hv))
            rw [e] at hv
            have r2 : Br n (k :: (k + 1) :: v) w' := peel_br m hn (hp.ahead kj) d2 (.cons b3 (.cons b4 hv)) hw'
            refine ((Br.cons k r1).trans ?_).trans (Br.cons (k + 1) r2)
            exact Br.ctx [] v (Br.near kk.1 (by omega))
        by_cases h1 : k = j
        · subst h1
          exact Br.cons k (peel_br m hn (hp.ahead kk) (dn bk) hw hw')
        · by_cases h2 : k < j
          · exact step hw hw' bk bj h2
          · exact (step hw' hw bj bk (by omega)).symm
theorem peel_same {n : Nat} (hn : n ≤ 5) {p : Ord} {w w' : List Int} (hp : In n p) (h : Peel p w) (h' : Peel p w') : Br n w w' := peel_br _ hn hp (Nat.lt_succ_self _) h h'
theorem peel_snoc {p : Ord} {w : List Int} (h : Peel p w) {k : Int} : ¬ E p k → Peel (behind p k) (w ++ [k]) := by
  induction h with
  | nil =>
    intro _
    refine .cons (b_sk k) ?_
    have : ahead (behind one k) k = one := ahead_sk k
    rw [this]
    exact .nil
  | @cons p j w bj _ ih =>
    intro ek
    have b1 : B (behind p k) j := by
      show swp k (p.f (j + 1)) < swp k (p.f j)
      rcases swp_lt (k := k) bj with h | ⟨h1, h2⟩
      · exact h
      · exfalso
        have e1 : p.g k = j + 1 := by rw [← h1, p.gf]
        have e2 : p.g (k + 1) = j := by rw [← h2, p.gf]
        unfold E at ek
        omega
    have e1 : ¬ E (ahead p j) k := by
      show ¬ swp j (p.g (k + 1)) < swp j (p.g k)
      have h0 : p.g k < p.g (k + 1) := by
        have : p.g k ≠ p.g (k + 1) := fun h => by
          have := p.injg h
          omega
        unfold E at ek
        omega
      rcases swp_lt (k := j) h0 with h | ⟨h1, h2⟩
      · omega
      · exfalso
        have e1 : p.f j = k := by rw [← h1, p.fg]
        have e2 : p.f (j + 1) = k + 1 := by rw [← h2, p.fg]
        unfold B at bj
        omega
    exact .cons b1 (ih e1)
/-! lists of orders as words -/
def Wd (n : Nat) (L : List Ord) (w : List Int) : Prop := ∃ ws, Peels L ws ∧ Br n w ws.flatten
theorem wd_mv {n : Nat} (hn : n ≤ 5) {L M : List Ord} (h : Mv L M) : ∀ {w : List Int}, Al n L → Wd n L w → Wd n M w := by
  induction h with
  | @here a b Y k bk ek =>
    rintro w hL ⟨ws, hp, hb⟩
    cases hp with
    | @cons _ _ wa ws ha hp =>
      cases hp with
      | @cons _ _ wb ws hb' hp =>
        have kk := hL.tl.hd.b bk
        obtain ⟨v, hv⟩ := peel_ex ((hL.tl.hd.ahead kk).mono hn)
        have s := peel_same hn hL.tl.hd hb' (.cons bk hv)
        refine ⟨(wa ++ [k]) :: v :: ws, .cons (peel_snoc ha ek) (.cons hv hp), hb.trans ?_⟩
        simp only [List.flatten_cons]
        have := Br.ctx wa ws.flatten s
        simpa using this
  | @there a Y Y' _ ih =>
    rintro w hL ⟨ws, hp, hb⟩
    cases hp with
    | @cons _ _ wa ws ha hp =>
      obtain ⟨ws', hp', hb'⟩ := ih hL.tl ⟨ws, hp, .refl _⟩
      exact ⟨wa :: ws', .cons ha hp', hb.trans ((Br.refl wa).app hb')⟩
theorem wd_st {n : Nat} (hn : n ≤ 5) {L M : List Ord} (h : St L M) : ∀ {w : List Int}, Al n L → Wd n L w → Wd n M w := by
  induction h with
  | refl => intro w _ h; exact h
  | step m _ ih => intro w hL h; exact ih (hL.mv m) (wd_mv hn m hL h)
end NF
end
section
set_option linter.all false
set_option maxRecDepth 100000
set_option maxHeartbeats 4000000
namespace NF
open Tie (swp swp_inv trn trnL undL negL IsW)
/-! words that act alike are the same plait -/
variable {n : Nat} (hn : 2 ≤ n ∧ n ≤ 5)
/-- the full order so often -/
def Dp (D : List Int) (t : Int) : List Int := if 0 ≤ t then (List.replicate t.toNat D).flatten else (List.replicate (-t).toNat (undL D)).flatten
theorem rep_succ (c : Nat) (D : List Int) : (List.replicate (c + 1) D).flatten = (List.replicate c D).flatten ++ D := by
  rw [List.replicate_succ', List.flatten_append]
  simp
theorem Dp_up {D : List Int} (hD : IsW n D) (t : Int) : Br n (Dp D t ++ D) (Dp D (t + 1)) := by
  unfold Dp
  by_cases h : 0 ≤ t
  · rw [if_pos h, if_pos (by omega), show (t + 1).toNat = t.toNat + 1 by omega, rep_succ]
    exact .refl _
  · rw [if_neg h]
    have e : (List.replicate (-t).toNat (undL D)).flatten = (List.replicate (-(t + 1)).toNat (undL D)).flatten ++ undL D := by
      rw [← rep_succ, show (-(t + 1)).toNat + 1 = (-t).toNat by omega]
    rw [e, List.append_assoc]
    have h1 := (Br.refl (n := n) (List.replicate (-(t + 1)).toNat (undL D)).flatten).app (br_und' hD)
    rw [List.append_nil] at h1
    refine h1.trans ?_
    by_cases h0 : 0 ≤ t + 1
    · rw [if_pos h0, show (-(t + 1)).toNat = 0 by omega, show (t + 1).toNat = 0 by omega]
      exact .refl _
    · rw [if_neg h0]
      exact .refl _
theorem Dp_dn {D : List Int} (hD : IsW n D) (t : Int) : Br n (Dp D t ++ undL D) (Dp D (t - 1)) := by
  have h := (Dp_up hD (t - 1)).app (Br.refl (undL D))
  rw [show t - 1 + 1 = t by omega, List.append_assoc] at h
  have h1 := (Br.refl (n := n) (Dp D (t - 1))).app (br_und hD)
  rw [List.append_nil] at h1
  exact h.symm.trans h1
theorem Dp_add {D : List Int} (hD : IsW n D) (t : Int) (c : Nat) : Br n (Dp D t ++ (List.replicate c D).flatten) (Dp D (t + c)) := by
  induction c with
  | zero =>
    rw [show t + ((0 : Nat) : Int) = t by omega]
    simp
    exact .refl _
  | succ c ih =>
    rw [rep_succ, ← List.append_assoc]
    have := (ih.app (Br.refl D)).trans (Dp_up hD (t + c))
    rwa [show t + (c : Int) + 1 = t + ((c + 1 : Nat) : Int) by omega] at this
include hn
theorem full_letter {D : List Int} (hD : Peel (fl n) D) {j : Int} (hj : 1 ≤ j ∧ j < n) : Br n (D ++ [j]) ([(n : Int) - j] ++ D) := by
  have b1 : B (fl n) ((n : Int) - j) := b_fl (by omega)
  obtain ⟨v, hv⟩ := peel_ex (((in_fl n).ahead (k := (n : Int) - j) (by omega)).mono hn.2)
  have e0 : ¬ E (ahead (fl n) ((n : Int) - j)) j := by
    show ¬ swp ((n : Int) - j) (flf n (j + 1)) < swp ((n : Int) - j) (flf n j)
    rw [flf_in (by omega), flf_in (by omega), show (n : Int) + 1 - (j + 1) = (n : Int) - j by omega, swp_k, show (n : Int) + 1 - j = (n : Int) - j + 1 by omega, swp_k1]
    omega
  have e1 : behind (ahead (fl n) ((n : Int) - j)) j = fl n := Ord.ext' fun i => by
    show swp j (flf n (swp ((n : Int) - j) i)) = flf n i
    rw [← swp_flf hj, swp_inv]
  have p2 := peel_snoc hv e0
  rw [e1] at p2
  have s1 := peel_same hn.2 (in_fl n) hD (.cons b1 hv)
  have s2 := peel_same hn.2 (in_fl n) hD p2
  refine (s1.app (Br.refl [j])).trans ?_
  have := (Br.refl (n := n) [(n : Int) - j]).app s2.symm
  simpa using this
theorem letter_und {D : List Int} (hD : Peel (fl n) D) {j : Int} (hj : 1 ≤ j ∧ j < n) : Br n ([j] ++ undL D) (undL D ++ [(n : Int) - j]) := by
  have iD := (peel_isW hn hD (in_fl n)).1
  have h := full_letter hn hD (j := (n : Int) - j) (by omega)
  rw [show (n : Int) - ((n : Int) - j) = j by omega] at h
  have h2 : Br n (D ++ (undL D ++ [j] ++ [] ++ [])) (D ++ (undL D ++ [j] ++ [] ++ [])) := .refl _
  have a : Br n (undL D ++ (D ++ [(n : Int) - j]) ++ undL D) (undL D ++ ([j] ++ D) ++ undL D) := Br.ctx _ _ h
  have l : Br n (undL D ++ (D ++ [(n : Int) - j]) ++ undL D) ([(n : Int) - j] ++ undL D) := by
    have := Br.ctx [] ([(n : Int) - j] ++ undL D) (br_und' iD)
    simpa using this
  have r : Br n (undL D ++ ([j] ++ D) ++ undL D) (undL D ++ [j]) := by
    have := Br.ctx (undL D ++ [j]) [] (br_und iD)
    simpa using this
  have main := l.symm.trans (a.trans r)
  have h3 := full_letter hn hD hj
  have a' : Br n (undL D ++ (D ++ [j]) ++ undL D) (undL D ++ ([(n : Int) - j] ++ D) ++ undL D) := Br.ctx _ _ h3
  have l' : Br n (undL D ++ (D ++ [j]) ++ undL D) ([j] ++ undL D) := by
    have := Br.ctx [] ([j] ++ undL D) (br_und' iD)
    simpa using this
  have r' : Br n (undL D ++ ([(n : Int) - j] ++ D) ++ undL D) (undL D ++ [(n : Int) - j]) := by
    have := Br.ctx (undL D ++ [(n : Int) - j]) [] (br_und iD)
    simpa using this
  exact l'.symm.trans (a'.trans r')
theorem word_und {D : List Int} (hD : Peel (fl n) D) {v : List Int} (hv : ∀ k ∈ v, 1 ≤ k ∧ k < (n : Int)) : Br n (v ++ undL D) (undL D ++ trnL n v) := by
  induction v with
  | nil =>
    rw [show trnL (n : Int) [] = [] from rfl, List.append_nil]
    exact .refl _
  | cons k r ih =>
    have hk := hv k List.mem_cons_self
    have h1 : Br n (k :: (r ++ undL D)) (k :: (undL D ++ trnL n r)) := Br.cons k (ih fun q hq => hv q (List.mem_cons_of_mem _ hq))
    refine h1.trans ?_
    have h2 := (letter_und hn hD hk).app (Br.refl (trnL n r))
    have e : trnL (n : Int) (k :: r) = ((n : Int) - k) :: trnL n r := by
      show Tie.trn n k :: _ = _
      unfold Tie.trn
      rw [if_pos (by omega)]
      rfl
    rw [e]
    simpa using h2
theorem peel_tau {p : Ord} {w : List Int} (h : Peel p w) : In n p → Peel (tau n p) (trnL n w) := by
  induction h with
  | nil =>
    intro _
    rw [tau_one]
    exact .nil
  | @cons p k w bk _ ih =>
    intro hp
    have kk := hp.b bk
    have e : trnL (n : Int) (k :: w) = ((n : Int) - k) :: trnL n w := by
      show Tie.trn n k :: _ = _
      unfold Tie.trn
      rw [if_pos (by omega)]
      rfl
    rw [e]
    have := ih (hp.ahead kk)
    rw [tau_ahead kk] at this
    exact .cons ((b_tau hp kk).mpr bk) this
theorem peels_tau {P : List Ord} {ws : List (List Int)} (h : Peels P ws) : Al n P → Peels (P.map (tau n)) (ws.map (trnL n)) := by
  induction h with
  | nil => intro _; exact .nil
  | cons h1 _ ih => intro hP; exact .cons (peel_tau hn h1 hP.hd) (ih hP.tl)
theorem peels_pos {P : List Ord} {ws : List (List Int)} (h : Peels P ws) : Al n P → ∀ k ∈ ws.flatten, 1 ≤ k ∧ k < (n : Int) := by
  induction h with
  | nil => intro _ k hk; simp at hk
  | @cons p P w ws h1 _ ih =>
    intro hP k hk
    rw [List.flatten_cons] at hk
    rcases List.mem_append.mp hk with hk | hk
    · have a := peel_isW hn h1 hP.hd
      have b := a.1 k hk
      have c := a.2 k hk
      omega
    · exact ih hP.tl k hk
omit hn in
theorem peels_app {P Q : List Ord} {ws vs : List (List Int)} (h : Peels P ws) (k : Peels Q vs) : Peels (P ++ Q) (ws ++ vs) := by
  induction h with
  | nil => exact k
  | cons h1 _ ih => exact .cons h1 ih
omit hn in
theorem flat_trn (ws : List (List Int)) : (ws.map (trnL n)).flatten = trnL n ws.flatten := by
  induction ws with
  | nil => rfl
  | cons w r ih => rw [List.map_cons, List.flatten_cons, List.flatten_cons, ih, trnL_app]
theorem wd_ones : ∀ {N : List Ord} {v : List Int}, Al n N → fl n ∉ N → Wd n N v → Wd n (flt n N) v
  | [], v, _, _, h => h
  | a :: N, v, hN, hf, ⟨ws, hp, hb⟩ => by
    cases hp with
    | @cons _ _ w ws h1 hp =>
      have hf2 : fl n ∉ N := fun h => hf (List.mem_cons_of_mem _ h)
      obtain ⟨ws', hp', hb'⟩ := wd_ones hN.tl hf2 ⟨ws, hp, Br.refl _⟩
      by_cases ha : a = one
      · subst ha
        have e : flt n (one :: N) = flt n N := by
          unfold flt
          rw [List.filter_cons_of_neg (by simp [Prop_])]
        rw [e]
        have := peel_one h1
        subst this
        exact ⟨ws', hp', hb.trans hb'⟩
      · have ha2 : a ≠ fl n := fun e => hf (by rw [e]; exact List.mem_cons_self)
        have e : flt n (a :: N) = a :: flt n N := by
          unfold flt
          rw [List.filter_cons_of_pos (by simp [Prop_, ha, ha2])]
        rw [e]
        exact ⟨w :: ws', .cons h1 hp', hb.trans ((Br.refl w).app hb')⟩
theorem wd_strip {D : List Int} (hD : Peel (fl n) D) : ∀ {N : List Ord} {v : List Int}, Al n N → Nf N → Wd n N v → ∃ (c : Nat) (v' : List Int), (c : Int) = cnt n N ∧ Wd n (flt n N) v' ∧ Br n v ((List.replicate c D).flatten ++ v')
  | [], v, _, _, h => ⟨0, v, rfl, h, .refl _⟩
  | a :: N, v, hN, hf, h => by
    by_cases ha : a = fl n
    · subst ha
      obtain ⟨ws, hp, hb⟩ := h
      cases hp with
      | @cons _ _ w ws h1 hp =>
        obtain ⟨c, v', hc, hv', hbr⟩ := wd_strip hD hN.tl hf.tl ⟨ws, hp, Br.refl _⟩
        have e1 : cnt n (fl n :: N) = cnt n N + 1 := by
          unfold cnt
          rw [List.filter_cons_of_pos (by simp), List.length_cons]
          omega
        have e2 : flt n (fl n :: N) = flt n N := by
          unfold flt
          rw [List.filter_cons_of_neg (by simp [Prop_])]
        rw [e1, e2]
        refine ⟨c + 1, v', by omega, hv', hb.trans ?_⟩
        rw [List.flatten_cons, List.replicate_succ, List.flatten_cons, List.append_assoc]
        exact (peel_same hn.2 (in_fl n) h1 hD).app hbr
    · have h1 := no_fl hn hN hf ha
      have h2 : fl n ∉ a :: N := fun h => by
        rcases List.mem_cons.mp h with e | e
        · exact ha e.symm
        · exact h1 e
      exact ⟨0, v, by rw [cnt_no hn h2]; rfl, wd_ones hn hN h2 h, .refl _⟩
/-- w is the word of the form x -/
def WF (n : Nat) (D : List Int) (x : Fm) (w : List Int) : Prop := ∃ v, Wd n x.2 v ∧ Br n w (Dp D x.1 ++ v)
theorem wf_ev {D : List Int} (hD : Peel (fl n) D) {t : Int} {L : List Ord} (hL : Al n L) {v : List Int} (h : Wd n L v) : WF n D (ev n t L) (Dp D t ++ v) := by
  have iD := (peel_isW hn hD (in_fl n)).1
  have s := nrm_spec (al5 hn hL)
  have h1 := wd_st hn.2 s.1 hL h
  obtain ⟨c, v', hc, hv', hb⟩ := wd_strip hn hD (hL.st s.1) s.2 h1
  refine ⟨v', hv', ((Br.refl (Dp D t)).app hb).trans ?_⟩
  rw [← List.append_assoc]
  refine (Dp_add iD t c).app (Br.refl v') |>.trans ?_
  rw [hc]
  exact .refl _
theorem wf_stp {D : List Int} (hD : Peel (fl n) D) {x : Fm} (hx : Can n x.2) {w : List Int} (h : WF n D x w) {p : Int} (hp : p ≠ 0 ∧ -(n : Int) < p ∧ p < n) : WF n D (stp n x p) (w ++ [p]) := by
  have iD := (peel_isW hn hD (in_fl n)).1
  obtain ⟨v, ⟨ws, hws, hv⟩, hw⟩ := h
  have hw' : Br n w (Dp D x.1 ++ ws.flatten) := hw.trans ((Br.refl _).app hv)
  unfold stp
  by_cases h0 : 0 < p
  · rw [if_pos h0]
    have pk : Peel (sk p) [p] := .cons (b_sk p) (by rw [ahead_sk]; exact .nil)
    obtain ⟨v', hv', hb⟩ := wf_ev hn hD (t := x.1) (hx.al.app (al1 (in_sk (n := n) (k := p) (by omega)))) (v := ws.flatten ++ [p]) ⟨ws ++ [[p]], peels_app hws (.cons pk .nil), by simp; exact .refl _⟩
    refine ⟨v', hv', Br.trans ?_ hb⟩
    have := hw'.app (Br.refl [p])
    rwa [List.append_assoc] at this
  · rw [if_neg h0]
    have kk : 1 ≤ -p ∧ -p < n := by omega
    obtain ⟨wd, hwd⟩ := peel_ex ((in_dk (n := n) kk).mono hn.2)
    have e0 : ¬ E (dk n (-p)) (-p) := by
      show ¬ flf n (swp (-p) (-p + 1)) < flf n (swp (-p) (-p))
      rw [swp_k1, swp_k, flf_in (by omega), flf_in (by omega)]
      omega
    have p2 := peel_snoc hwd e0
    have e1 : behind (dk n (-p)) (-p) = fl n := Ord.ext' fun i => swp_inv (-p) (flf n i)
    rw [e1] at p2
    have s := peel_same hn.2 (in_fl n) hD p2
    have back : Br n [p] (undL D ++ wd) := by
      have a := Br.ctx (undL D) [p] s
      have l : Br n (undL D ++ D ++ [p]) [p] := by
        have := Br.ctx [] [p] (br_und' iD)
        simpa using this
      have r : Br n (undL D ++ (wd ++ [-p]) ++ [p]) (undL D ++ wd) := by
        have c := Br.can (n := n) (k := -p) (by omega)
        rw [show - -p = p by omega] at c
        have := Br.ctx (undL D ++ wd) [] c
        simpa using this
      exact l.symm.trans (a.trans r)
    obtain ⟨v', hv', hb⟩ := wf_ev hn hD (t := x.1 - 1) ((al_tau hx.al).app (al1 (in_dk (n := n) kk))) (v := trnL n ws.flatten ++ wd) ⟨ws.map (trnL n) ++ [wd], peels_app (peels_tau hn hws hx.al) (.cons hwd .nil), by
      rw [List.flatten_append, flat_trn]
      simp
      exact .refl _⟩
    refine ⟨v', hv', Br.trans ?_ hb⟩
    refine (hw'.app back).trans ?_
    have mid := word_und hn hD (peels_pos hn hws hx.al)
    have a := Br.ctx (Dp D x.1) wd mid
    have b := (Dp_dn iD x.1).app (Br.refl (trnL n ws.flatten ++ wd))
    simp only [List.append_assoc] at a b ⊢
    exact a.trans b
theorem wf_run {D : List Int} (hD : Peel (fl n) D) {w : List Int} (hw : IsW n w) : ∀ {x : Fm} {u : List Int}, Can n x.2 → WF n D x u → WF n D (run n x w) (u ++ w) := by
  induction w with
  | nil =>
    intro x u _ h
    rw [List.append_nil]
    exact h
  | cons p r ih =>
    intro x u hx h
    have hp := hw p List.mem_cons_self
    have := ih (fun q hq => hw q (List.mem_cons_of_mem _ hq)) (can_stp hn hx hp) (wf_stp hn hD hx h hp)
    rw [List.append_assoc] at this
    exact this
theorem wf_word {D : List Int} (hD : Peel (fl n) D) {w : List Int} (hw : IsW n w) : WF n D (run n (0, []) w) w := by
  have := wf_run hn hD hw (x := (0, [])) (u := []) can_nil ⟨[], ⟨[], .nil, .refl _⟩, .refl _⟩
  exact this
/-- alike words are the same plait -/
theorem br_of_run {u v : List Int} (hu : IsW n u) (hv : IsW n v) (h : run n (0, []) u = run n (0, []) v) : Br n u v := by
  obtain ⟨D, hD⟩ := peel_ex ((in_fl n).mono hn.2)
  have e : run n (0, []) (u ++ undL v) = (0, []) := by
    rw [run_app, h, ← run_app]
    exact run_und hn hv can_nil
  obtain ⟨w, ⟨ws, hws, hb⟩, hbr⟩ := wf_word hn hD (hu.app hv.und)
  rw [e] at hws hbr
  cases hws
  have h0 : Br n (u ++ undL v) [] := hbr.trans hb
  have h1 := h0.app (Br.refl v)
  rw [List.append_assoc, List.nil_append] at h1
  have h2 := (Br.refl (n := n) u).app (br_und' hv)
  rw [List.append_nil] at h2
  exact h2.symm.trans h1
theorem br_iff {u v : List Int} (hu : IsW n u) (hv : IsW n v) : Br n u v ↔ run n (0, []) u = run n (0, []) v := ⟨fun h => (br_alk hn h).2 hu _ can_nil, br_of_run hn hu hv⟩
end NF
end
section
set_option linter.all false
set_option maxRecDepth 100000
set_option maxHeartbeats 4000000
namespace Tie
open PySem Mir
open NF hiding one B E W U
open DV hiding tI
/-! orders of the program are orders as functions -/
def enc (n : Nat) (a : NF.Ord) : PyData := tI ((upL 1 n).map a.f)
instance (a : NF.Ord) (k : Int) : Decidable (NF.B a k) := inferInstanceAs (Decidable (a.f (k + 1) < a.f k))
instance (a : NF.Ord) (k : Int) : Decidable (NF.E a k) := inferInstanceAs (Decidable (a.g (k + 1) < a.g k))
theorem upf_get (n : Nat) (f : Int → Int) (i : Int) (h : 0 ≤ i ∧ i < n) : ((upL 1 n).map f)[i.toNat]? = some (f (i + 1)) := by
  unfold upL
  rw [List.map_map, List.getElem?_map, List.getElem?_range (by omega)]
  show some (f (1 + ((i.toNat : Nat) : Int))) = _
  rw [show 1 + ((i.toNat : Nat) : Int) = i + 1 by omega]
theorem pIdx_enc {n : Nat} {a : NF.Ord} {i : Int} (h : 0 ≤ i ∧ i < n) : pIdx (enc n a) (.int i) = some (.int (a.f (i + 1))) := pIdx_tI h.1 (upf_get n a.f i h)
theorem enc_len (n : Nat) (f : Int → Int) : ((upL 1 n).map f).length = n := by rw [List.length_map, upL_len]
theorem t_begins (n : Nat) (a : NF.Ord) (hn : 1 ≤ n ∧ n ≤ 1000) : m_begins_with (enc n a) = some (lI ((upL 1 (n - 1)).filter fun k => decide (NF.B a k))) := by
  unfold m_begins_with
  rw [show enc n a = tI ((upL 1 n).map a.f) from rfl]
  simp only [bs, pLen_tI, enc_len, pSub_int]
  rw [show (if [PyData.int 1, PyData.int (n : Int)].length = 2 then pRange [PyData.int 1, PyData.int (n : Int)] else none) = pRange [PyData.int 1, PyData.int (n : Int)] from if_pos rfl, pRange_2 (by omega), bs]
  rw [show ((n : Int) - 1).toNat = n - 1 by omega]
  rw [compL_filtI (c := fun k => decide (NF.B a k)) (g := id) (by rw [upL_len]; omega) (fun k hk => by
    have hk := mem_upL.mp hk
    rw [pSub_int, bs, pIdx_tI (by omega) (upf_get n a.f (k - 1) (by omega)), bs, pIdx_tI (by omega) (upf_get n a.f k (by omega)), bs, pGt_int, bs, asB_bool, show k - 1 + 1 = k by omega]
    rfl) (fun k _ _ => rfl), List.map_id]
theorem t_behind (n : Nat) (a : NF.Ord) (k : Int) (hn : n ≤ 1000) : m_crossed_behind (enc n a) (.int k) = some (enc n (behind a k)) := by
  rw [show enc n a = tI ((upL 1 n).map a.f) from rfl, t_cb _ _ (by rw [enc_len]; exact hn), List.map_map]
  rfl
theorem firstIx_int (p : Int) : ∀ (l : List Int) (j : Nat), l[j]? = some p → (∀ m, m < j → l[m]? ≠ some p) → firstIx (.int p) (l.map .int) = some j
  | [], j, h, _ => by simp at h
  | x :: r, 0, h, _ => by
    have : x = p := by simpa using h
    subst this
    unfold firstIx
    rw [List.map_cons]
    show (if (x == x) = true then some 0 else _) = _
    simp
  | x :: r, j + 1, h, k => by
    have hx : x ≠ p := fun e => k 0 (by omega) (by rw [e]; rfl)
    rw [List.map_cons]
    unfold firstIx
    show (if (x == p) = true then some 0 else _) = _
    rw [if_neg (by simpa using hx), firstIx_int p r j (by simpa using h) fun m hm => by
      have := k (m + 1) (by omega)
      simpa using this]
    rfl
theorem t_index (n : Nat) (a : NF.Ord) (ha : In n a) (p : Int) (hp : 1 ≤ p ∧ p ≤ n) : pIndex (enc n a) (.int p) = some (.int (a.g p - 1)) := by
  show (if SeqAt.shaped (enc n a) = true ∧ SeqAt.shaped (.int p) = true then (firstIx (.int p) (((upL 1 n).map a.f).map .int)).map (fun j => PyData.int ((j : Nat) : Int)) else none) = _
  have hg := ha.rngg hp
  rw [if_pos ⟨(sh_tI _).shaped, (sh_int p).shaped⟩, firstIx_int p _ (a.g p - 1).toNat (by
    rw [upf_get n a.f (a.g p - 1) (by omega), show a.g p - 1 + 1 = a.g p by omega, a.fg]) (fun m hm he => by
    have hmn : (m : Int) < n := by omega
    have := upf_get n a.f (m : Int) (by omega)
    rw [Int.toNat_natCast] at this
    rw [this] at he
    have e := Option.some.inj he
    have := congrArg a.g e
    rw [a.gf] at this
    omega), ms, show (((a.g p - 1).toNat : Nat) : Int) = a.g p - 1 by omega]
theorem t_way_back (n : Nat) (a : NF.Ord) (ha : In n a) (hn : n ≤ 1000) : m_way_back (enc n a) = some (enc n (rv a)) := by
  unfold m_way_back
  have hlen : pLen [enc n a] = some (.int (n : Int)) := by
    unfold enc
    rw [pLen_tI, enc_len]
  simp only [bs, hlen, ap1_mk, t_rest (n : Int) (by omega), itemsOf_tI, Int.toNat_natCast]
  rw [compL_ints (g := a.g) (by rw [upL_len]; omega) (fun p hp => by
    have hp := mem_upL.mp hp
    rw [t_index n a ha p (by omega), bs, pAdd_int, show a.g p - 1 + 1 = a.g p by omega])]
  rfl
theorem t_ends (n : Nat) (a : NF.Ord) (ha : In n a) (hn : 1 ≤ n ∧ n ≤ 1000) : m_ends_with (enc n a) = some (lI ((upL 1 (n - 1)).filter fun k => decide (NF.E a k))) := by
  unfold m_ends_with
  simp only [bs, ap1_mk, t_way_back n a ha hn.2, t_begins n (rv a) hn]
  rfl
theorem upf_swap (n : Nat) (f : Int → Int) (k : Int) (hk : 1 ≤ k ∧ k < n) : ((upL 1 n).map f).take (k - 1).toNat ++ [f (k + 1), f k] ++ ((upL 1 n).map f).drop (k + 1).toNat = (upL 1 n).map fun i => f (swp k i) := by
  apply List.ext_getElem?
  intro i
  have l1 : (((upL 1 n).map f).take (k - 1).toNat).length = (k - 1).toNat := by
    rw [List.length_take, enc_len]
    omega
  by_cases h1 : i < (k - 1).toNat
  · rw [List.getElem?_append_left (by rw [List.length_append, l1]; simp; omega), List.getElem?_append_left (by omega), List.getElem?_take, if_pos h1]
    have := upf_get n f (i : Int) (by omega)
    rw [Int.toNat_natCast] at this
    rw [this]
    have := upf_get n (fun i => f (swp k i)) (i : Int) (by omega)
    rw [Int.toNat_natCast] at this
    rw [this, swp_out (by omega) (by omega)]
  · by_cases h2 : i = (k - 1).toNat
    · rw [List.getElem?_append_left (by rw [List.length_append, l1]; simp; omega), List.getElem?_append_right (by omega), l1, h2, Nat.sub_self]
      have := upf_get n (fun i => f (swp k i)) (k - 1) (by omega)
      rw [this, show k - 1 + 1 = k by omega, swp_k]
      rfl
    · by_cases h3 : i = (k - 1).toNat + 1
      · rw [List.getElem?_append_left (by rw [List.length_append, l1]; simp; omega), List.getElem?_append_right (by omega), l1, h3, show (k - 1).toNat + 1 - (k - 1).toNat = 1 by omega]
        have := upf_get n (fun i => f (swp k i)) k (by omega)
        rw [show (k - 1).toNat + 1 = k.toNat by omega, this, swp_k1]
        rfl
      · rw [List.getElem?_append_right (by rw [List.length_append, l1]; simp; omega), List.length_append, l1, List.getElem?_drop]
        rw [show (k + 1).toNat + (i - ((k - 1).toNat + [f (k + 1), f k].length)) = i by simp; omega]
        by_cases h4 : i < n
        · have := upf_get n f (i : Int) (by omega)
          rw [Int.toNat_natCast] at this
          rw [this]
          have := upf_get n (fun i => f (swp k i)) (i : Int) (by omega)
          rw [Int.toNat_natCast] at this
          rw [this, swp_out (by omega) (by omega)]
        · rw [List.getElem?_eq_none (by rw [enc_len]; omega), List.getElem?_eq_none (by rw [enc_len]; omega)]
theorem t_ahead (n : Nat) (a : NF.Ord) (k : Int) (hk : 1 ≤ k ∧ k < n) (hn : n ≤ 1000) : m_crossed_ahead (enc n a) (.int k) = some (enc n (ahead a k)) := by
  unfold m_crossed_ahead
  simp only [bs, pSub_int, pAdd_int, asI_int, ms]
  rw [pIdx_enc (by omega), bs, pIdx_enc (by omega), bs, bs, bs, mkTup_2]
  unfold enc
  rw [show tI ((upL 1 n).map a.f) = PyData.tuple (((upL 1 n).map a.f).map .int) from rfl, pCut_tuple, pCut_tuple, cutD_to _ _ (by omega), cutD_from _ _ (by omega), bs, bs, pAdd_tup (by simp [upL_len]; omega), bs, bs, pAdd_tup (by simp [upL_len]; omega)]
  have e := upf_swap n a.f k hk
  rw [show k - 1 + 1 = k by omega]
  refine congrArg some ?_
  show _ = tI ((upL 1 n).map fun i => a.f (swp k i))
  rw [← e]
  unfold tI
  rw [List.map_append, List.map_append, List.map_take, List.map_drop]
  rfl
theorem enc_inj {n : Nat} {a b : NF.Ord} (ha : In n a) (hb : In n b) (h : (upL 1 n).map a.f = (upL 1 n).map b.f) : a = b := Ord.ext' fun i => by
  by_cases hi : i < 1 ∨ (n : Int) < i
  · rw [ha i hi, hb i hi]
  · have h1 := upf_get n a.f (i - 1) (by omega)
    have h2 := upf_get n b.f (i - 1) (by omega)
    rw [h] at h1
    rw [h1] at h2
    have := Option.some.inj h2
    rwa [show i - 1 + 1 = i by omega] at this
theorem enc_one (n : Nat) : enc n NF.one = tI (upL 1 n) := by
  unfold enc
  show tI ((upL 1 n).map fun i => i) = _
  rw [List.map_id']
theorem enc_fl (n : Nat) : tI (upL 1 n).reverse = enc n (fl n) := by
  unfold enc
  rw [upL_rev]
  refine congrArg tI (List.map_congr_left fun i hi => ?_)
  have hi := mem_upL.mp hi
  show _ = flf n i
  rw [flf_in (by omega)]
theorem t_full (n : Nat) (hn : n ≤ 1000) : m_full (.int n) = some (enc n (fl n)) := by
  unfold m_full
  simp only [bs, ap1_mk, t_rest (n : Int) (by omega), pRev_tI, Int.toNat_natCast, enc_fl]
theorem t_mirrored_order (n : Nat) (a : NF.Ord) (ha : In n a) (hn : n ≤ 1000) : m_mirrored_order (enc n a) = some (enc n (tau n a)) := by
  unfold m_mirrored_order
  have hlen : pLen [enc n a] = some (.int (n : Int)) := by
    unfold enc
    rw [pLen_tI, enc_len]
  simp only [bs, hlen, pAdd_int]
  unfold enc
  simp only [bs, pRev_tI, itemsOf_tI]
  rw [compL_ints (g := fun p => (n : Int) + 1 - p) (by rw [List.length_reverse, enc_len]; omega) (fun p _ => by rw [pSub_int])]
  simp only [bs, pTuple_lI]
  rw [← List.map_reverse, upL_rev, List.map_map, List.map_map]
  refine congrArg (fun l => some (tI l)) (List.map_congr_left fun i hi => ?_)
  have hi := mem_upL.mp hi
  show (n : Int) + 1 - a.f ((n : Int) + 1 - i) = flf n (a.f (flf n i))
  have := ha.rng (i := (n : Int) + 1 - i) (by omega)
  rw [flf_in (i := i) (by omega), flf_in this]
/-! the loop of weighted -/
theorem pot_lo {a : NF.Ord} (h : In 5 a) : 15 ≤ pot a := by
  have h1 := (h.rng (i := 1) (by omega)).1
  have h2 := (h.rng (i := 2) (by omega)).1
  have h3 := (h.rng (i := 3) (by omega)).1
  have h4 := (h.rng (i := 4) (by omega)).1
  have h5 := (h.rng (i := 5) (by omega)).1
  unfold pot
  omega
theorem pot_ahead {b : NF.Ord} {k : Int} (hb : In 5 b) (bk : NF.B b k) : pot b + 1 ≤ pot (ahead b k) := by
  have hk := hb.b bk
  unfold pot
  unfold NF.B at bk
  show _ ≤ b.f (swp k 1) + 2 * b.f (swp k 2) + 3 * b.f (swp k 3) + 4 * b.f (swp k 4) + 5 * b.f (swp k 5)
  have : k = 1 ∨ k = 2 ∨ k = 3 ∨ k = 4 := by omega
  rcases this with rfl | rfl | rfl | rfl
  · show _ ≤ b.f 2 + 2 * b.f 1 + 3 * b.f 3 + 4 * b.f 4 + 5 * b.f 5
    have : b.f 2 < b.f 1 := bk
    omega
  · show _ ≤ b.f 1 + 2 * b.f 3 + 3 * b.f 2 + 4 * b.f 4 + 5 * b.f 5
    have : b.f 3 < b.f 2 := bk
    omega
  · show _ ≤ b.f 1 + 2 * b.f 2 + 3 * b.f 4 + 4 * b.f 3 + 5 * b.f 5
    have : b.f 4 < b.f 3 := bk
    omega
  · show _ ≤ b.f 1 + 2 * b.f 2 + 3 * b.f 3 + 4 * b.f 5 + 5 * b.f 4
    have : b.f 5 < b.f 4 := bk
    omega
/-- the letters that can be moved from b to a -/
def more (n : Nat) (a b : NF.Ord) : List Int := (upL 1 (n - 1)).filter fun k => decide (NF.B b k) && decide (¬ NF.E a k)
theorem more_nil {n : Nat} {a b : NF.Ord} (hb : In n b) (h : more n a b = []) : Fit a b := fun k hk => by
  have hr := hb.b hk
  by_cases he : NF.E a k
  · exact he
  · exfalso
    have : k ∈ more n a b := List.mem_filter.mpr ⟨mem_upL.mpr (by omega), by rw [decide_eq_true hk, decide_eq_true he]; rfl⟩
    rw [h] at this
    cases this
theorem more_hd {n : Nat} {a b : NF.Ord} {k : Int} {r : List Int} (h : more n a b = k :: r) : NF.B b k ∧ ¬ NF.E a k := by
  have : k ∈ more n a b := by rw [h]; exact List.mem_cons_self
  have := (List.mem_filter.mp this).2
  rw [Bool.and_eq_true] at this
  exact ⟨of_decide_eq_true this.1, of_decide_eq_true this.2⟩
theorem t_more (n : Nat) (hn : 2 ≤ n ∧ n ≤ 5) (a b : NF.Ord) (ha : In n a) : compL (fun k => (m_ends_with (enc n a)).bind fun y => (pNotIn k y).bind asB) (fun k => some k) (((upL 1 (n - 1)).filter fun k => decide (NF.B b k)).map .int) = some (lI (more n a b)) := by
  rw [compL_filtI (c := fun k => decide (¬ NF.E a k)) (g := id) (Nat.le_trans (List.length_filter_le _ _) (by rw [upL_len]; omega)) (fun k hk => by
    rw [t_ends n a ha (by omega), bs, pNotIn_lI, bs, asB_bool]
    have hk1 := (List.mem_filter.mp hk).1
    by_cases he : NF.E a k
    · rw [decide_eq_true (show k ∈ (upL 1 (n - 1)).filter (fun k => decide (NF.E a k)) from List.mem_filter.mpr ⟨hk1, decide_eq_true he⟩)]
      simp [he]
    · rw [decide_eq_false (fun hc : k ∈ (upL 1 (n - 1)).filter (fun k => decide (NF.E a k)) => he (of_decide_eq_true (List.mem_filter.mp hc).2))]
      simp [he]) (fun k _ _ => rfl), List.map_id, List.filter_filter]
  refine congrArg (fun l => some (lI l)) ?_
  unfold more
  refine List.filter_congr fun k _ => ?_
  rw [Bool.and_comm]
theorem t_weighted (n : Nat) (hn : 2 ≤ n ∧ n ≤ 5) (a b : NF.Ord) (ha : In n a) (hb : In n b) : ∃ o c, m_weighted (enc n a) (enc n b) = some (.tuple [enc n o, enc n c]) ∧ St [a, b] [o, c] ∧ Fit o c := by
  unfold m_weighted
  simp only [bs, ap1_mk, ap2_mk, t_begins n b (by omega), itemsOf_lI]
  rw [t_more n hn a b ha, bs]
  have key : ∀ (m : Nat) (a b : NF.Ord), In n a → In n b → (75 - pot b).toNat < m → ∃ o c, whileN (fun (st_3 : PyData × PyData × PyData) => ((((some st_3.2.2).bind fun d => (some []).bind fun ds => some (d :: ds)).bind pLen).bind fun x => (some (PyData.int 0)).bind fun y => (pGt x y).bind asB)) (fun (st_3 : PyData × PyData × PyData) => ((((some st_3.1).bind fun d => (((some st_3.2.2).bind fun x => (some (PyData.int 0)).bind fun y => pIdx x y).bind fun d => (some []).bind fun ds => some (d :: ds)).bind fun ds => some (d :: ds)).bind (ap2 m_crossed_behind)).bind fun one_4 => ((((some st_3.2.1).bind fun d => (((some st_3.2.2).bind fun x => (some (PyData.int 0)).bind fun y => pIdx x y).bind fun d => (some []).bind fun ds => some (d :: ds)).bind fun ds => some (d :: ds)).bind (ap2 m_crossed_ahead)).bind fun other_5 => ((((((some other_5).bind fun d => (some []).bind fun ds => some (d :: ds)).bind (ap1 m_begins_with)).bind itemsOf).bind (compL (fun k_7 => ((some k_7).bind fun x => (((some one_4).bind fun d => (some []).bind fun ds => some (d :: ds)).bind (ap1 m_ends_with)).bind fun y => (pNotIn x y).bind asB)) (fun k_7 => (some k_7)))).bind fun some__6 => (some (one_4, other_5, some__6)))))) m (enc n a, enc n b, lI (more n a b)) = some (enc n o, enc n c, lI (more n o c)) ∧ St [a, b] [o, c] ∧ Fit o c := by
    intro m
    induction m with
    | zero => intro a b _ _ h; omega
    | succ m ih =>
      intro a b ha hb hm
      unfold whileN
      simp only [bs, pLen_lI, pGt_int, asB_bool]
      cases hk : more n a b with
      | nil =>
        exact ⟨a, b, by rw [hk]; simp, .refl, more_nil hb hk⟩
      | cons k r =>
        obtain ⟨bk, ek⟩ := more_hd hk
        have kk := hb.b bk
        rw [decide_eq_true (by simp only [List.length_cons]; omega), if_pos rfl, pIdx_lI (x := k) (by decide) (by rfl)]
        simp only [bs, ap2_mk, ap1_mk, t_behind n a k (by omega), t_ahead n b k kk (by omega), t_begins n (ahead b k) (by omega), itemsOf_lI]
        rw [t_more n hn (behind a k) (ahead b k) (ha.behind kk), bs]
        have hp := pot_ahead (hb.mono hn.2) bk
        have hl := pot_le ((hb.ahead kk).mono hn.2)
        obtain ⟨o, c, e, s, f⟩ := ih (behind a k) (ahead b k) (ha.behind kk) (hb.ahead kk) (by omega)
        simp only [bs] at e
        exact ⟨o, c, e, .step (.here bk ek) s, f⟩
  have hl := pot_lo (hb.mono hn.2)
  obtain ⟨o, c, e, s, f⟩ := key 1000 a b ha hb (by omega)
  simp only [bs, ap1_mk, ap2_mk] at e
  refine ⟨o, c, ?_, s, f⟩
  rw [e]
  rfl
end Tie
end
section
set_option linter.all false
set_option maxRecDepth 100000
set_option maxHeartbeats 4000000
namespace Tie
open PySem Mir
open NF hiding one B E W U
open DV hiding tI
theorem sw_st {Y L : List NF.Ord} (h : Sw Y L) : St Y L := by
  induction h with
  | last => exact .refl
  | more _ m _ ih => exact (ih.cons _).trans (m.post _)
theorem atI_mid (X : List PyData) (d : PyData) (R : List PyData) (i : Int) (hi : i = (X.length : Int)) : L2.atI (X ++ d :: R) i = some d := by
  unfold L2.atI L2.ixN
  rw [if_pos (by omega), if_pos (by rw [List.length_append, List.length_cons]; omega), bs, show i.toNat = X.length by omega]
  simp
theorem atI_mid1 (X : List PyData) (c d : PyData) (R : List PyData) (i : Int) (hi : i = (X.length : Int) + 1) : L2.atI (X ++ c :: d :: R) i = some d := by
  have := atI_mid (X ++ [c]) d R i (by rw [List.length_append]; simp; omega)
  simpa using this
theorem ixN_ok {m : Nat} {i : Int} (h : 0 ≤ i ∧ i < m) : L2.ixN m i = some i.toNat := by
  unfold L2.ixN
  rw [if_pos h.1, if_pos h.2]
theorem upL0_rev (i : Nat) : (upL 0 (i + 1)).reverse = (i : Int) :: (upL 0 i).reverse := by
  rw [upL_succ, List.reverse_append]
  show (0 + (i : Int)) :: (upL 0 i).reverse = _
  rw [Int.zero_add]
theorem t_with_order (n : Nat) (hn : 2 ≤ n ∧ n ≤ 5) (P : List NF.Ord) (s : NF.Ord) (hP : Al n P) (hs : In n s) (hl : P.length ≤ 90000) : ∃ L, m_with_order (.list (P.map (enc n))) (enc n s) = some (.list (L.map (enc n))) ∧ Sw (P ++ [s]) L := by
  unfold m_with_order
  simp only [bs, mkLst_1]
  rw [show pCatL (.list (P.map (enc n))) (.list [enc n s]) = some ((P ++ [s]).map (enc n)) by
    show (if szOk _ then some _ else none) = _
    rw [if_pos (show szOk _ by show _ ≤ 8000000; simp; omega)]
    simp, bs]
  have hM : Al n (P ++ [s]) := hP.app (Al.cons hs fun _ h => by cases h)
  have hlen : (P ++ [s]).length = P.length + 1 := by simp
  generalize hMe : P ++ [s] = M at hM hlen
  rw [pLen_list, bs, show scalar (.int ((M.map (enc n)).length : Nat)) = some (.int ((M.map (enc n)).length : Nat)) from rfl, bs, pSub_int, bs, asI_int, ms, bs]
  rw [List.length_map, hlen, show (((P.length + 1 : Nat) : Int) - 1) = (P.length : Int) by omega]
  rw [if_pos (show rgSmall (0, (P.length : Int)) from ⟨by show -100000 ≤ (0 : Int); decide, by show (0 : Int) ≤ 100000; decide, by show -100000 ≤ (P.length : Int); omega, by show (P.length : Int) ≤ 100000; omega⟩), bs]
  rw [show (rgD 0 (P.length : Int)).reverse = ((upL 0 P.length).reverse).map .int by
    unfold rgD
    rw [intsUp_eq, List.map_reverse, show ((P.length : Int) - 0).toNat = P.length by omega]]
  have key : ∀ i, i ≤ P.length → ∀ L, Sw (M.drop i) L → ∃ L', (((upL 0 i).reverse).map PyData.int).foldlM (fun (st_2 : List PyData) at__3 => (((((some at__3).bind fun y => pIdx (.list st_2) y).bind fun d => ((((some at__3).bind fun x => (some (PyData.int 1)).bind fun y => pAdd x y).bind fun y => pIdx (.list st_2) y).bind fun d => (some []).bind fun ds => some (d :: ds)).bind fun ds => some (d :: ds)).bind (ap2 m_weighted)).bind fun r => (asPair r).bind fun ab => (some at__3).bind fun i1 => (ixD st_2 i1).bind fun j1 => ((some at__3).bind fun x => (some (PyData.int 1)).bind fun y => pAdd x y).bind fun i2 => (ixD st_2 i2).bind fun j2 => (fun found_4 => (some found_4)) ((st_2.set j1 ab.1).set j2 ab.2))) ((M.take i ++ L).map (enc n)) = some (L'.map (enc n)) ∧ Sw M L' := by
    intro i
    induction i with
    | zero =>
      intro _ L h
      rw [List.drop_zero] at h
      exact ⟨L, by rw [List.take_zero]; rfl, h⟩
    | succ i ih =>
      intro hi L h
      obtain ⟨a, ha⟩ : ∃ a, M[i]? = some a := by
        have : i < M.length := by omega
        exact ⟨M[i], List.getElem?_eq_getElem this⟩
      have hd : M.drop i = a :: M.drop (i + 1) := by
        have hlt : i < M.length := by omega
        rw [List.drop_eq_getElem_cons hlt]
        rw [List.getElem?_eq_getElem hlt] at ha
        rw [Option.some.inj ha]
      have hLne : ∃ b Z, L = b :: Z := by
        have hl1 := (sw_st h).len
        rw [List.length_drop] at hl1
        cases L with
        | nil => simp at hl1; omega
        | cons b Z => exact ⟨b, Z, rfl⟩
      obtain ⟨b, Z, rfl⟩ := hLne
      have hin_a : In n a := hM a (List.mem_of_getElem? ha)
      have hin_L : Al n (b :: Z) := Al.st (fun x hx => hM x (List.mem_of_mem_drop hx)) (sw_st h)
      obtain ⟨o, c, ew, st, ft⟩ := t_weighted n hn a b hin_a hin_L.hd
      rw [upL0_rev, List.map_cons, List.foldlM_cons]
      rw [show (M.take (i + 1) ++ b :: Z) = M.take i ++ a :: b :: Z by rw [List.take_add_one, ha]; simp]
      have hx : ((M.take i).map (enc n)).length = i := by
        rw [List.length_map, List.length_take]
        omega
      rw [List.map_append, List.map_cons, List.map_cons]
      have e1 : pIdx (.list ((M.take i).map (enc n) ++ enc n a :: enc n b :: Z.map (enc n))) (.int (i : Int)) = some (enc n a) := atI_mid _ _ _ _ (by rw [hx])
      have e2 : pIdx (.list ((M.take i).map (enc n) ++ enc n a :: enc n b :: Z.map (enc n))) (.int ((i : Int) + 1)) = some (enc n b) := atI_mid1 _ _ _ _ _ (by rw [hx])
      have e3 : ixD ((M.take i).map (enc n) ++ enc n a :: enc n b :: Z.map (enc n)) (.int (i : Int)) = some i := by
        show L2.ixN _ _ = _
        rw [ixN_ok (by rw [List.length_append, hx, List.length_cons]; omega), Int.toNat_natCast]
      have e4 : ixD ((M.take i).map (enc n) ++ enc n a :: enc n b :: Z.map (enc n)) (.int ((i : Int) + 1)) = some (i + 1) := by
        show L2.ixN _ _ = _
        rw [ixN_ok (by rw [List.length_append, hx, List.length_cons, List.length_cons]; omega), show ((i : Int) + 1).toNat = i + 1 by omega]
      simp only [bs, e1, e2, pAdd_int, ap2_mk, ew]
      rw [show asPair (PyData.tuple [enc n o, enc n c]) = some (enc n o, enc n c) from rfl]
      simp only [bs, e3, e4]
      have e5 : (((M.take i).map (enc n) ++ enc n a :: enc n b :: Z.map (enc n)).set i (enc n o)).set (i + 1) (enc n c) = (M.take i ++ o :: c :: Z).map (enc n) := by
        rw [List.set_append_right _ _ (by omega), hx, Nat.sub_self, List.set_cons_zero, List.set_append_right _ _ (by omega), hx, show i + 1 - i = 1 by omega]
        simp
      rw [e5]
      have := ih (by omega) (o :: c :: Z) (by rw [hd]; exact .more h st ft)
      simp only [bs, ap2_mk] at this
      exact this
  have hlast : M.drop P.length = [s] := by
    rw [← hMe, List.drop_left]
  obtain ⟨L', e, sw⟩ := key P.length (Nat.le_refl _) [s] (by rw [hlast]; exact .last s)
  rw [show M.take P.length ++ [s] = M by rw [← hMe, List.take_left]] at e
  refine ⟨L', ?_, sw⟩
  refine bnd e ?_
  rfl
open Classical in
theorem compL_sel {τ : Type} {t : PyData → Option Bool} {c : τ → PyData} {p : τ → Prop} {ts : List τ} (hz : ts.length ≤ 8000000) (h : ∀ x ∈ ts, t (c x) = some (decide (p x))) : compL t (fun d => some d) (ts.map c) = some (.list ((ts.filter fun x => decide (p x)).map c)) := by
  have : ∀ {ts : List τ}, (∀ x ∈ ts, t (c x) = some (decide (p x))) → compM t (fun d => some d) (ts.map c) = some ((ts.filter fun x => decide (p x)).map c) := by
    intro ts
    induction ts with
    | nil => intro _; rfl
    | cons x r ih =>
      intro h
      rw [List.map_cons]
      unfold compM
      rw [h x List.mem_cons_self, ih fun y hy => h y (List.mem_cons_of_mem _ hy)]
      by_cases hp : p x
      · rw [List.filter_cons_of_pos (by simpa using hp)]
        simp [hp]
      · rw [List.filter_cons_of_neg (by simpa using hp)]
        simp [hp]
  unfold compL
  rw [if_pos (show szOk _ by show _ ≤ 8000000; rw [List.length_map]; exact hz), this h]
  rfl
theorem eqv_tI (l m : List Int) : PyData.eqv (tI l) (tI m) = decide (l = m) := by
  show PyData.eqvAll (l.map .int) (m.map .int) = _
  rw [eqvAll_ints]
theorem enc_eq {n : Nat} {a b : NF.Ord} (ha : In n a) (hb : In n b) : ((upL 1 n).map a.f = (upL 1 n).map b.f) ↔ a = b := ⟨enc_inj ha hb, fun h => by rw [h]⟩
open Classical in
theorem eqv_enc {n : Nat} {a b : NF.Ord} (ha : In n a) (hb : In n b) : PyData.eqv (enc n a) (enc n b) = decide (a = b) := by
  unfold enc
  rw [eqv_tI]
  by_cases h : a = b
  · rw [decide_eq_true h, decide_eq_true ((enc_eq ha hb).mpr h)]
  · rw [decide_eq_false h, decide_eq_false fun e => h ((enc_eq ha hb).mp e)]
theorem sh_enc (n : Nat) (a : NF.Ord) : Sh 2 (enc n a) := sh_tI _
open Classical in
theorem t_stripped (n : Nat) (hn : 2 ≤ n ∧ n ≤ 5) (t : Int) (L : List NF.Ord) (hL : Al n L) (hl : L.length ≤ 8000000) : m_stripped (.int t) (.list (L.map (enc n))) (.int n) = some (.tuple [.int (t + cnt n L), .list ((flt n L).map (enc n))]) := by
  unfold m_stripped
  simp only [bs, itemsOf_list, ap1_mk, t_full n (by omega), t_rest (n : Int) (by omega), Int.toNat_natCast, mkTup_2, ← enc_one]
  rw [compL_sel (p := fun a => a = fl n) hl (fun a ha => by
    unfold pEq
    rw [if_pos ⟨(sh_enc n a).shaped, (sh_enc n (fl n)).shaped⟩, bs, asB_bool, eqv_enc (hL a ha) (in_fl n)])]
  rw [compL_sel (p := fun a => Prop_ n a) hl (fun a ha => by
    unfold pNotIn
    have h2 : Sh 3 (PyData.tuple [enc n NF.one, enc n (fl n)]) := sh_tuple fun d hd => by
      rcases List.mem_cons.mp hd with rfl | hd
      · exact sh_enc _ _
      · rw [List.mem_singleton.mp hd]
        exact sh_enc _ _
    have e : pIn (enc n a) (PyData.tuple [enc n NF.one, enc n (fl n)]) = some (.bool (decide (a = NF.one) || decide (a = fl n))) := by
      show (if SeqAt.shaped (enc n a) = true ∧ SeqAt.shaped (.tuple [enc n NF.one, enc n (fl n)]) = true then some (PyData.bool (hasD (enc n a) [enc n NF.one, enc n (fl n)])) else none) = _
      rw [if_pos ⟨(sh_enc n a).shaped, h2.shaped⟩]
      unfold hasD
      rw [List.any_cons, List.any_cons, List.any_nil, Bool.or_false, eqv_enc (in_one n) (hL a ha), eqv_enc (in_fl n) (hL a ha)]
      have c1 : decide (NF.one = a) = decide (a = NF.one) := by
        by_cases h : a = NF.one
        · rw [decide_eq_true h, decide_eq_true h.symm]
        · rw [decide_eq_false h, decide_eq_false fun c => h c.symm]
      have c2 : decide (fl n = a) = decide (a = fl n) := by
        by_cases h : a = fl n
        · rw [decide_eq_true h, decide_eq_true h.symm]
        · rw [decide_eq_false h, decide_eq_false fun c => h c.symm]
      rw [c1, c2]
    rw [e]
    simp only [bs, asB_bool]
    refine congrArg some ?_
    unfold Prop_
    by_cases h1 : a = NF.one
    · simp [h1]
    · by_cases h2 : a = fl n
      · simp [h2]
      · simp [h1, h2])]
  simp only [bs, pLen_list, List.length_map, pAdd_int, mkTup_2]
  unfold cnt flt
  rfl
/-! plain -/
def formL (n : Nat) (x : Fm) : PyData × PyData := (.int x.1, .list (x.2.map (enc n)))
def formD (n : Nat) (x : Fm) : PyData := .tuple [.int x.1, .tuple (x.2.map (enc n))]
theorem cnt_len (n : Nat) (L : List NF.Ord) : cnt n L + ((flt n L).length : Int) ≤ (L.length : Int) ∧ 0 ≤ cnt n L := by
  unfold cnt flt
  refine ⟨?_, by omega⟩
  induction L with
  | nil => simp
  | cons a Y ih =>
    by_cases h1 : a = fl n
    · rw [List.filter_cons_of_pos (by simpa using h1), List.filter_cons_of_neg (by simp [Prop_, h1]), List.length_cons, List.length_cons]
      omega
    · rw [List.filter_cons_of_neg (by simpa using h1)]
      by_cases h2 : Prop_ n a
      · rw [List.filter_cons_of_pos (by simpa using h2), List.length_cons, List.length_cons]
        omega
      · rw [List.filter_cons_of_neg (by simpa using h2), List.length_cons]
        omega
theorem stp_len {n : Nat} (hn : 2 ≤ n ∧ n ≤ 5) {x : Fm} (hx : Can n x.2) {p : Int} (hp : p ≠ 0 ∧ -(n : Int) < p ∧ p < n) : (stp n x p).1 + ((stp n x p).2.length : Int) ≤ x.1 + (x.2.length : Int) + 1 ∧ x.1 - 1 ≤ (stp n x p).1 ∧ (stp n x p).2.length ≤ x.2.length + 1 := by
  unfold stp ev
  by_cases h : 0 < p
  · rw [if_pos h]
    have hL : Al n (x.2 ++ [sk p]) := hx.al.app (al1 (in_sk (by omega)))
    have c := cnt_len n (nrm (x.2 ++ [sk p]))
    have l := (nrm_spec (al5 hn hL)).1.len
    rw [List.length_append, List.length_singleton] at l
    refine ⟨?_, ?_, ?_⟩
    · show x.1 + cnt n (nrm (x.2 ++ [sk p])) + ((flt n (nrm (x.2 ++ [sk p]))).length : Int) ≤ _
      omega
    · show _ ≤ x.1 + cnt n (nrm (x.2 ++ [sk p]))
      omega
    · show (flt n (nrm (x.2 ++ [sk p]))).length ≤ _
      omega
  · rw [if_neg h]
    have hL : Al n (x.2.map (tau n) ++ [dk n (-p)]) := (al_tau hx.al).app (al1 (in_dk (by omega)))
    have c := cnt_len n (nrm (x.2.map (tau n) ++ [dk n (-p)]))
    have l := (nrm_spec (al5 hn hL)).1.len
    rw [List.length_append, List.length_singleton, List.length_map] at l
    refine ⟨?_, ?_, ?_⟩
    · show x.1 - 1 + cnt n (nrm (x.2.map (tau n) ++ [dk n (-p)])) + ((flt n (nrm (x.2.map (tau n) ++ [dk n (-p)]))).length : Int) ≤ _
      omega
    · show _ ≤ x.1 - 1 + cnt n (nrm (x.2.map (tau n) ++ [dk n (-p)]))
      omega
    · show (flt n (nrm (x.2.map (tau n) ++ [dk n (-p)]))).length ≤ _
      omega
theorem run_len {n : Nat} (hn : 2 ≤ n ∧ n ≤ 5) {w : List Int} (hw : IsW n w) : ∀ {x : Fm}, Can n x.2 → (run n x w).1 + ((run n x w).2.length : Int) ≤ x.1 + (x.2.length : Int) + w.length ∧ x.1 - w.length ≤ (run n x w).1 ∧ (run n x w).2.length ≤ x.2.length + w.length := by
  induction w with
  | nil => intro x _; exact ⟨by simp [NF.run], by simp [NF.run], by simp [NF.run]⟩
  | cons p r ih =>
    intro x hx
    have hp := hw p List.mem_cons_self
    have h1 := stp_len hn hx hp
    have h2 := ih (fun q hq => hw q (List.mem_cons_of_mem _ hq)) (can_stp hn hx hp)
    rw [run_cons, List.length_cons]
    omega
theorem t_step (n : Nat) (hn : 2 ≤ n ∧ n ≤ 5) (t : Int) (P : List NF.Ord) (s : NF.Ord) (hP : Can n P) (hs : In n s) (hl : P.length ≤ 90000) : ((m_with_order (.list (P.map (enc n))) (enc n s)).bind fun d => m_stripped (.int t) d (.int n)) = some (.tuple [.int (ev n t (P ++ [s])).1, .list ((ev n t (P ++ [s])).2.map (enc n))]) := by
  obtain ⟨L, e, sw⟩ := t_with_order n hn P s hP.al hs hl
  have hM : Al n (P ++ [s]) := hP.al.app (al1 hs)
  obtain ⟨st, nf, _⟩ := sw_ok hP.nf sw
  have hL := hM.st st
  have hlen := st.len
  rw [List.length_append, List.length_singleton] at hlen
  rw [e, bs, t_stripped n hn t L hL (by omega)]
  have : nrm (P ++ [s]) = L := nrm_eq (al5 hn hM) st nf
  unfold ev
  rw [this]
theorem t_plain (n : Nat) (hn : 2 ≤ n ∧ n ≤ 5) (w : List Int) (hw : IsW n w) (hl : w.length ≤ 80000) : m_plain (tI w) (.int n) = some (formD n (run n (0, []) w)) := by
  unfold m_plain
  simp only [bs, mkLst_nil, itemsOf_tI]
  refine bnd_of (foldlM_ix (fun i st => st = formL n (run n (0, []) (w.take i))) (by rfl) ?_) ?_
  · rintro i st p hp rfl
    have hpm : p ∈ w := List.mem_of_getElem? hp
    have hpw := hw p hpm
    have hi : i < w.length := by
      rcases Nat.lt_or_ge i w.length with h1 | h1
      · exact h1
      · rw [List.getElem?_eq_none h1] at hp
        cases hp
    have hwt : IsW n (w.take i) := fun q hq => hw q (List.mem_of_mem_take hq)
    have hc := can_run hn hwt (x := (0, [])) can_nil
    have hlen := (run_len hn hwt (x := (0, [])) can_nil).2.2
    rw [List.length_take] at hlen
    have hrun : run n (0, []) (w.take (i + 1)) = stp n (run n (0, []) (w.take i)) p := by
      rw [List.take_add_one, hp]
      show run n (0, []) (w.take i ++ [p]) = _
      rw [run_app]
      rfl
    generalize run n (0, []) (w.take i) = x at hc hlen hrun
    have hxl : x.2.length ≤ 90000 := by
      have : ([] : List NF.Ord).length = 0 := rfl
      simp at hlen
      omega
    refine ⟨formL n (run n (0, []) (w.take (i + 1))), ?_, rfl⟩
    have er : tI (upL 1 n) = enc n NF.one := (enc_one n).symm
    simp only [bs, ap1_mk, ap2_mk, ap3_mk, t_rest (n : Int) (by omega), Int.toNat_natCast, pAbs_int, er, t_behind n _ _ (show n ≤ 1000 by omega), pLt_int, asB_bool, pNeg_int, t_full n (show n ≤ 1000 by omega)]
    rw [show (if p < 0 then -p else p) = absI p from rfl]
    unfold stp at hrun
    by_cases h0 : p < 0
    · rw [if_neg (by omega)] at hrun
      rw [decide_eq_true h0, if_pos rfl]
      unfold formL
      simp only [pSub_int, bs, itemsOf_list]
      rw [compL_gen (c := enc n) (g := fun a => enc n (tau n a)) (by omega) (fun a ha => by rw [t_mirrored_order n a (hc.al a ha) (by omega)])]
      simp only [bs, ap2_mk, ap3_mk]
      have ts := t_step n hn (x.1 - 1) (x.2.map (tau n)) (dk n (-p)) (can_tau hn hc) (in_dk (by omega)) (by rw [List.length_map]; exact hxl)
      rw [List.map_map] at ts
      rw [show (List.map (fun a => enc n (tau n a)) x.2) = List.map (enc n ∘ tau n) x.2 from rfl]
      rw [show enc n (behind (fl n) (-p)) = enc n (dk n (-p)) from rfl]
      obtain ⟨L, e1, e2⟩ := Option.bind_eq_some_iff.mp ts
      rw [e1]
      simp only [bs, ap3_mk]
      rw [e2, bs, show ∀ a b, asPair (PyData.tuple [a, b]) = some (a, b) from fun _ _ => rfl, bs, hrun]
    · have hpa : absI p = p := by unfold absI; rw [if_neg h0]
      rw [if_pos (by omega)] at hrun
      rw [decide_eq_false h0, if_neg (by decide), hpa]
      unfold formL
      simp only [bs, ap2_mk, ap3_mk]
      have ts := t_step n hn x.1 x.2 (sk p) hc (in_sk (by omega)) hxl
      rw [show enc n (behind NF.one p) = enc n (sk p) from rfl]
      obtain ⟨L, e1, e2⟩ := Option.bind_eq_some_iff.mp ts
      rw [e1]
      simp only [bs, ap3_mk]
      rw [e2, bs, show ∀ a b, asPair (PyData.tuple [a, b]) = some (a, b) from fun _ _ => rfl, bs, hrun]
  · rintro st rfl
    rw [List.take_length]
    rfl
end Tie
end
section
set_option linter.all false
set_option maxRecDepth 100000
set_option maxHeartbeats 4000000
namespace Tie
open PySem Mir
open NF hiding one B E W U
open DV hiding tI
theorem begins_nil {n : Nat} {a : NF.Ord} (ha : In n a) (h : ((upL 1 (n - 1)).filter fun k => decide (NF.B a k)) = []) : a = NF.one := no_B ha fun k hk => by
  have hr := ha.b hk
  have : k ∈ (upL 1 (n - 1)).filter fun k => decide (NF.B a k) := List.mem_filter.mpr ⟨mem_upL.mpr (by omega), decide_eq_true hk⟩
  rw [h] at this
  cases this
theorem t_swept (n : Nat) (hn : 2 ≤ n ∧ n ≤ 5) (a : NF.Ord) (ha : In n a) : ∃ w, m_swept (enc n a) = some (tI w) ∧ Peel a w ∧ w.length ≤ 75 := by
  unfold m_swept
  simp only [bs, mkTup_nil]
  have key : ∀ (m : Nat) (u : List Int) (c : NF.Ord), In n c → (u.length : Int) + (75 - pot c) ≤ 1000 → (75 - pot c).toNat < m → ∃ w c', whileN (fun (st_3 : PyData × PyData) => ((((((some st_3.2).bind fun d => (some []).bind fun ds => some (d :: ds)).bind (ap1 m_begins_with)).bind fun d => (some []).bind fun ds => some (d :: ds)).bind pLen).bind fun x => (some (PyData.int 0)).bind fun y => (pGt x y).bind asB)) (fun (st_3 : PyData × PyData) => (((((some st_3.2).bind fun d => (some []).bind fun ds => some (d :: ds)).bind (ap1 m_begins_with)).bind fun x => (some (PyData.int 0)).bind fun y => pIdx x y).bind fun k_4 => (((some st_3.1).bind fun x => (((some k_4).bind fun d => (some []).bind fun ds => some (d :: ds)).bind mkTup).bind fun y => pAdd x y).bind fun found_5 => ((((some st_3.2).bind fun d => ((some k_4).bind fun d => (some []).bind fun ds => some (d :: ds)).bind fun ds => some (d :: ds)).bind (ap2 m_crossed_ahead)).bind fun left_6 => (some (found_5, left_6)))))) m (tI u, enc n c) = some (tI (u ++ w), c') ∧ Peel c w ∧ (w.length : Int) ≤ 75 - pot c := by
    intro m
    induction m with
    | zero => intro u c _ _ h; omega
    | succ m ih =>
      intro u c hc hu hm
      unfold whileN
      simp only [bs, ap1_mk, t_begins n c (by omega), pLen_lI, pGt_int, asB_bool]
      have hle := pot_le (hc.mono hn.2)
      cases hk : (upL 1 (n - 1)).filter fun k => decide (NF.B c k) with
      | nil =>
        have := begins_nil hc hk
        subst this
        refine ⟨[], enc n NF.one, ?_, .nil, by show ((0 : Nat) : Int) ≤ _; omega⟩
        rw [List.append_nil]
        simp
      | cons k r =>
        have hkm : k ∈ (upL 1 (n - 1)).filter fun k => decide (NF.B c k) := by rw [hk]; exact List.mem_cons_self
        have bk : NF.B c k := of_decide_eq_true (List.mem_filter.mp hkm).2
        have kk := hc.b bk
        have hp := pot_ahead (hc.mono hn.2) bk
        have hl := pot_le ((hc.ahead kk).mono hn.2)
        rw [decide_eq_true (by simp only [List.length_cons]; omega), if_pos rfl, pIdx_lI (x := k) (by decide) (by rfl)]
        simp only [bs, ap2_mk, mkTup_1, t_ahead n c k kk (by omega)]
        rw [show PyData.tuple [PyData.int k] = tI [k] from rfl, tI_app (by simp; omega), bs]
        obtain ⟨w, c', e, pw, lw⟩ := ih (u ++ [k]) (ahead c k) (hc.ahead kk) (by simp; omega) (by omega)
        simp only [bs, ap1_mk, ap2_mk, mkTup_1] at e
        refine ⟨k :: w, c', ?_, .cons bk pw, by rw [List.length_cons]; omega⟩
        rw [bs, e]
        simp
  have hlo := pot_lo (ha.mono hn.2)
  have hle := pot_le (ha.mono hn.2)
  obtain ⟨w, c', e, pw, lw⟩ := key 1000 [] a ha (by simp; omega) (by omega)
  refine ⟨w, ?_, pw, by omega⟩
  simp only [bs, ap1_mk, ap2_mk] at e
  rw [show tI [] = PyData.tuple [] from rfl] at e
  simp only [ap1_mk, ap2_mk]
  rw [e]
  rfl
/-! again, alike -/
def repL (c : Int) (w : List Int) : List Int := (List.replicate c.toNat w).flatten
def agL (w : List Int) (t : Int) : List Int := if t < 0 then repL (-t) (undL w) else repL t w
theorem pMul_tI {w : List Int} {c : Int} (h : -1000 ≤ c ∧ c ≤ 1000) (hl : w.length ≤ 1000) : pMul (tI w) (.int c) = some (tI (repL c w)) := by
  show (if -1000000 ≤ c ∧ c ≤ 1000 ∧ (w.map PyData.int).length ≤ 1000 then some (PyData.tuple (List.replicate c.toNat (w.map PyData.int)).flatten) else none) = _
  rw [if_pos ⟨by omega, h.2, by rw [List.length_map]; exact hl⟩]
  unfold tI repL
  rw [List.map_flatten, List.map_replicate]
theorem t_again (w : List Int) (t : Int) (h : -1000 ≤ t ∧ t ≤ 1000) (hl : w.length ≤ 1000) : m_again (tI w) (.int t) = some (tI (agL w t)) := by
  unfold m_again agL
  simp only [bs, pLt_int, asB_bool, ap1_mk, t_undone w (by omega), pNeg_int]
  by_cases h0 : t < 0
  · rw [decide_eq_true h0, if_pos rfl, if_pos h0, pMul_tI (by omega) (by rw [undL_len]; exact hl)]
  · rw [decide_eq_false h0, if_neg (by decide), if_neg h0, pMul_tI (by omega) hl]
open Classical in
theorem eqvAll_enc {n : Nat} : ∀ {P Q : List NF.Ord}, Al n P → Al n Q → (PyData.eqvAll (P.map (enc n)) (Q.map (enc n)) = true ↔ P = Q)
  | [], [], _, _ => ⟨fun _ => rfl, fun _ => rfl⟩
  | [], b :: Q, _, _ => ⟨fun h => (by cases h), fun h => (by cases h)⟩
  | a :: P, [], _, _ => ⟨fun h => (by cases h), fun h => (by cases h)⟩
  | a :: P, b :: Q, hP, hQ => by
    rw [List.map_cons, List.map_cons]
    show (PyData.eqv (enc n a) (enc n b) && PyData.eqvAll (P.map (enc n)) (Q.map (enc n))) = true ↔ _
    rw [Bool.and_eq_true, eqvAll_enc hP.tl hQ.tl, eqv_enc hP.hd hQ.hd, decide_eq_true_iff]
    exact ⟨fun h => by rw [h.1, h.2], fun h => by cases h; exact ⟨rfl, rfl⟩⟩
theorem sh_formD (n : Nat) (x : Fm) : Sh 4 (formD n x) := by
  unfold formD
  refine sh_tuple fun d hd => ?_
  rcases List.mem_cons.mp hd with rfl | hd
  · exact (sh_int _).mono (by decide)
  · rw [List.mem_singleton.mp hd]
    exact sh_tuple fun e he => by
      obtain ⟨a, _, rfl⟩ := List.mem_map.mp he
      exact sh_enc n a
theorem eqv_formD {n : Nat} {x y : Fm} (hx : Al n x.2) (hy : Al n y.2) : PyData.eqv (formD n x) (formD n y) = true ↔ x = y := by
  show (PyData.eqv (.int x.1) (.int y.1) && (PyData.eqv (.tuple (x.2.map (enc n))) (.tuple (y.2.map (enc n))) && true)) = true ↔ _
  rw [Bool.and_true, Bool.and_eq_true]
  show ((x.1 == y.1) = true ∧ PyData.eqvAll (x.2.map (enc n)) (y.2.map (enc n)) = true) ↔ _
  rw [eqvAll_enc hx hy, beq_iff_eq]
  exact ⟨fun h => Prod.ext h.1 h.2, fun h => by rw [h]; exact ⟨rfl, rfl⟩⟩
open Classical in
theorem pEq_formD {n : Nat} {x y : Fm} (hx : Al n x.2) (hy : Al n y.2) : pEq (formD n x) (formD n y) = some (.bool (decide (x = y))) := by
  unfold pEq
  rw [if_pos ⟨(sh_formD n x).shaped, (sh_formD n y).shaped⟩]
  refine congrArg (fun b => some (PyData.bool b)) ?_
  by_cases h : x = y
  · rw [decide_eq_true h, (eqv_formD hx hy).mpr h]
  · rw [decide_eq_false h]
    cases hc : PyData.eqv (formD n x) (formD n y) with
    | false => rfl
    | true => exact (h ((eqv_formD hx hy).mp hc)).elim
noncomputable def pl (n : Nat) (w : List Int) : Fm := NF.run n (0, []) w
theorem pl_al {n : Nat} (hn : 2 ≤ n ∧ n ≤ 5) {w : List Int} (hw : IsW n w) : Al n (pl n w).2 := (can_run hn hw (x := (0, [])) can_nil).al
open Classical in
theorem t_alike (n : Nat) (hn : 2 ≤ n ∧ n ≤ 5) (u v : List Int) (hu : IsW n u) (hv : IsW n v) (lu : u.length ≤ 80000) (lv : v.length ≤ 80000) : m_alike (tI u) (tI v) (.int n) = some (.bool (decide (pl n u = pl n v))) := by
  unfold m_alike
  simp only [bs, ap2_mk, t_plain n hn u hu lu, t_plain n hn v hv lv]
  exact pEq_formD (pl_al hn hu) (pl_al hn hv)
theorem pl_br {n : Nat} (hn : 2 ≤ n ∧ n ≤ 5) {u v : List Int} (hu : IsW n u) (hv : IsW n v) : pl n u = pl n v ↔ Br n u v := (br_iff hn hu hv).symm
theorem isW_rep {n : Int} {w : List Int} (h : IsW n w) (c : Int) : IsW n (repL c w) := fun p hp => by
  unfold repL at hp
  obtain ⟨l, hl, hp⟩ := List.mem_flatten.mp hp
  rw [(List.mem_replicate.mp hl).2] at hp
  exact h p hp
theorem isW_ag {n : Int} {w : List Int} (h : IsW n w) (t : Int) : IsW n (agL w t) := by
  unfold agL
  split
  · exact isW_rep h.und _
  · exact isW_rep h _
theorem rep_len (c : Int) (w : List Int) : (repL c w).length = c.toNat * w.length := by
  unfold repL
  rw [List.length_flatten, List.map_replicate, List.sum_replicate_nat]
theorem ag_len (w : List Int) (t : Int) : ((agL w t).length : Int) = absI t * w.length := by
  unfold agL absI
  split
  · rw [rep_len, undL_len, Int.natCast_mul]
    rw [show (((-t).toNat : Nat) : Int) = -t by omega]
  · rw [rep_len, Int.natCast_mul, show ((t.toNat : Nat) : Int) = t by omega]
end Tie
end
section
set_option linter.all false
set_option maxRecDepth 100000
set_option maxHeartbeats 4000000
namespace Tie
open PySem Mir
open NF hiding one B E W U
open DV hiding tI
/-! the word of a plain form -/
theorem pIdx_form0 (n : Nat) (x : Fm) : pIdx (formD n x) (.int 0) = some (.int x.1) := rfl
theorem pIdx_form1 (n : Nat) (x : Fm) : pIdx (formD n x) (.int 1) = some (.tuple (x.2.map (enc n))) := rfl
/-- the words that the program has for orders -/
def SwW (n : Nat) (a : NF.Ord) (w : List Int) : Prop := m_swept (enc n a) = some (tI w) ∧ Peel a w ∧ w.length ≤ 75
inductive SwWs (n : Nat) : List NF.Ord → List (List Int) → Prop
  | nil : SwWs n [] []
  | cons {p : NF.Ord} {P : List NF.Ord} {w : List Int} {ws : List (List Int)} : SwW n p w → SwWs n P ws → SwWs n (p :: P) (w :: ws)
theorem swWs_ex (n : Nat) (hn : 2 ≤ n ∧ n ≤ 5) : ∀ {P : List NF.Ord}, Al n P → ∃ ws, SwWs n P ws
  | [], _ => ⟨[], .nil⟩
  | p :: P, h => by
    obtain ⟨w, h1, h2, h3⟩ := t_swept n hn p h.hd
    obtain ⟨ws, hw⟩ := swWs_ex n hn h.tl
    exact ⟨w :: ws, .cons ⟨h1, h2, h3⟩ hw⟩
theorem SwWs.peels {n : Nat} {P : List NF.Ord} {ws : List (List Int)} (h : SwWs n P ws) : Peels P ws := by
  induction h with
  | nil => exact .nil
  | cons h1 _ ih => exact .cons h1.2.1 ih
theorem SwWs.len {n : Nat} {P : List NF.Ord} {ws : List (List Int)} (h : SwWs n P ws) : ws.flatten.length ≤ 75 * P.length := by
  induction h with
  | nil => exact Nat.zero_le _
  | @cons p P w ws h1 _ ih =>
    have := h1.2.2
    rw [List.flatten_cons, List.length_append, List.length_cons]
    omega
theorem fold_swept (n : Nat) {P : List NF.Ord} {ws : List (List Int)} (h : SwWs n P ws) : ∀ (u : List Int), u.length + ws.flatten.length ≤ 8000000 → (P.map (enc n)).foldlM (fun (st_6 : PyData) part_7 => (((some st_6).bind fun x => (((some part_7).bind fun d => (some []).bind fun ds => some (d :: ds)).bind (ap1 m_swept)).bind fun y => pAdd x y).bind fun found_8 => (some found_8))) (tI u) = some (tI (u ++ ws.flatten)) := by
  induction h with
  | nil =>
    intro u _
    simp
  | @cons p P w ws h1 _ ih =>
    intro u hl
    rw [List.flatten_cons, List.length_append] at hl
    rw [List.map_cons, List.foldlM_cons]
    simp only [bs, ap1_mk, h1.1]
    rw [tI_app (by omega), bs]
    have := ih (u ++ w) (by rw [List.length_append]; omega)
    simp only [bs, ap1_mk] at this
    rw [List.append_assoc] at this
    exact this
theorem t_word_of (n : Nat) (hn : 2 ≤ n ∧ n ≤ 5) (x : Fm) (hx : Can n x.2) (h1 : -300 ≤ x.1 ∧ x.1 ≤ 300) (h2 : x.2.length ≤ 300) {D : List Int} (hD : SwW n (fl n) D) {ws : List (List Int)} (hws : SwWs n x.2 ws) :
    m_word_of (formD n x) (.int n) = some (tI (Dp D x.1 ++ ws.flatten)) := by
  unfold m_word_of
  have lD := hD.2.2
  have lw := hws.len
  simp only [bs, ap1_mk, t_full n (show n ≤ 1000 by omega), hD.1, pIdx_form0, pIdx_form1, pLt_int, asB_bool, pRev_tI, itemsOf_tI, pAbs_int, itemsOf_tuple]
  rw [show (if x.1 < 0 then -x.1 else x.1) = absI x.1 from rfl]
  have fold := fun u hu => fold_swept n hws u hu
  simp only [bs, ap1_mk] at fold
  have lr : ∀ (c : Int) (w : List Int), c.toNat ≤ 300 → w.length ≤ 75 → (repL c w).length ≤ 22500 := fun c w hc hw => by
    rw [rep_len]
    calc c.toNat * w.length ≤ 300 * 75 := Nat.mul_le_mul hc hw
      _ = 22500 := by decide
  by_cases h0 : x.1 < 0
  · rw [decide_eq_true h0, if_pos rfl, compL_negr D (by omega)]
    simp only [bs, pTuple_lI]
    have ha : absI x.1 = -x.1 := by unfold absI; rw [if_pos h0]
    have hu : (undL D).length ≤ 75 := by rw [undL_len]; exact lD
    rw [ha, pMul_tI (by omega) (by omega), bs, fold _ (by
      have := lr (-x.1) (undL D) (by omega) hu
      omega), bs]
    unfold Dp repL
    rw [if_neg (by omega)]
  · rw [decide_eq_false h0, if_neg (by decide)]
    have ha : absI x.1 = x.1 := by unfold absI; rw [if_neg h0]
    simp only [bs]
    rw [ha, pMul_tI (by omega) (by omega), bs, fold _ (by
      have := lr x.1 D (by omega) lD
      omega), bs]
    unfold Dp repL
    rw [if_pos (by omega)]
theorem isW_flat {n : Nat} (hn : 2 ≤ n ∧ n ≤ 5) {P : List NF.Ord} {ws : List (List Int)} (h : Peels P ws) (hP : Al n P) : IsW n ws.flatten := fun p hp => by
  have := peels_pos hn h hP p hp
  omega
theorem isW_Dp {n : Nat} {D : List Int} (h : IsW n D) (t : Int) : IsW n (Dp D t) := by
  unfold Dp
  split
  · exact isW_rep h _
  · exact isW_rep h.und _
theorem run_Dp {n : Nat} (hn : 2 ≤ n ∧ n ≤ 5) {D : List Int} (hD : Peel (fl n) D) (t : Int) : NF.run n (0, []) (Dp D t) = (t, []) := by
  have up : ∀ (c : Nat) (s : Int), NF.run n (s, []) (List.replicate c D).flatten = (s + c, []) := by
    intro c
    induction c with
    | zero => intro s; simp [NF.run]
    | succ c ih =>
      intro s
      rw [List.replicate_succ, List.flatten_cons, run_app, run_full hn hD (x := (s, [])) can_nil]
      have := ih (s + 1)
      rw [show s + 1 + (c : Int) = s + ((c + 1 : Nat) : Int) by omega] at this
      exact this
  have dn : ∀ (c : Nat) (s : Int), NF.run n (s, []) (List.replicate c (undL D)).flatten = (s - c, []) := by
    intro c
    induction c with
    | zero => intro s; simp [NF.run]
    | succ c ih =>
      intro s
      rw [List.replicate_succ, List.flatten_cons, run_app, run_full_und hn hD (x := (s, [])) can_nil]
      have := ih (s - 1)
      rw [show s - 1 - (c : Int) = s - ((c + 1 : Nat) : Int) by omega] at this
      exact this
  unfold Dp
  by_cases h : 0 ≤ t
  · rw [if_pos h, up, show (0 : Int) + (t.toNat : Int) = t by omega]
  · rw [if_neg h, dn, show (0 : Int) - ((-t).toNat : Int) = t by omega]
theorem pl_word {n : Nat} (hn : 2 ≤ n ∧ n ≤ 5) {x : Fm} (hx : Can n x.2) {D : List Int} (hD : Peel (fl n) D) {ws : List (List Int)} (hws : Peels x.2 ws) : pl n (Dp D x.1 ++ ws.flatten) = x := by
  unfold pl
  rw [run_app, run_Dp hn hD, run_peels hn (x := (x.1, [])) hx.al can_nil hws]
  exact ev_can hn hx
/-- the plain form of a word, and its word -/
theorem pl_can {n : Nat} (hn : 2 ≤ n ∧ n ≤ 5) {w : List Int} (hw : IsW n w) : Can n (pl n w).2 := can_run hn hw (x := (0, [])) can_nil
theorem pl_len {n : Nat} (hn : 2 ≤ n ∧ n ≤ 5) {w : List Int} (hw : IsW n w) : -(w.length : Int) ≤ (pl n w).1 ∧ (pl n w).1 ≤ w.length ∧ (pl n w).2.length ≤ w.length := by
  have h := run_len hn hw (x := (0, [])) can_nil
  unfold pl
  simp at h
  omega
theorem t_word_pl (n : Nat) (hn : 2 ≤ n ∧ n ≤ 5) (w : List Int) (hw : IsW n w) (hl : w.length ≤ 300) : ∃ v, m_word_of (formD n (pl n w)) (.int n) = some (tI v) ∧ IsW n v ∧ Br n v w ∧ v.length ≤ 150 * w.length ∧ pl n v = pl n w := by
  have hc := pl_can hn hw
  have hlen := pl_len hn hw
  obtain ⟨D, hD⟩ := t_swept n hn (fl n) (in_fl n)
  obtain ⟨ws, hws⟩ := swWs_ex n hn hc.al
  have hv : IsW n (Dp D (pl n w).1 ++ ws.flatten) := (isW_Dp (peel_isW hn hD.2.1 (in_fl n)).1 _).app (isW_flat hn hws.peels hc.al)
  have hp := pl_word hn hc hD.2.1 hws.peels
  refine ⟨_, t_word_of n hn _ hc (by omega) (by omega) hD hws, hv, (pl_br hn hv hw).mp hp, ?_, hp⟩
  have l1 := hws.len
  have l2 : (Dp D (pl n w).1).length ≤ w.length * 75 := by
    have lD := hD.2.2
    unfold Dp
    split
    · have := rep_len (pl n w).1 D
      unfold repL at this
      rw [this]
      exact Nat.mul_le_mul (by omega) lD
    · have := rep_len (-(pl n w).1) (undL D)
      unfold repL at this
      rw [this, undL_len]
      exact Nat.mul_le_mul (by omega) lD
  rw [List.length_append]
  omega
end Tie
end
section
set_option linter.all false
set_option maxRecDepth 100000
set_option maxHeartbeats 8000000
namespace Tors
open PySem Mir Tie
open DV hiding tI
open NF (Br Fm)
/-! five rests by 10007, changed by each crossing: kept by the small changes -/
structure V5 where
  a : Int
  b : Int
  c : Int
  d : Int
  e : Int
  deriving DecidableEq
def lp (l r : Int) : Int := (r - l) % 10007
def rp (l r : Int) : Int := (l * 2) % 10007
def ln (l r : Int) : Int := (r * 5004) % 10007
def rn (l r : Int) : Int := (l - r * 5003) % 10007
def bur (v : V5) (k : Int) : V5 :=
  if k = 1 then ⟨lp v.a v.b, rp v.a v.b, v.c, v.d, v.e⟩
  else if k = 2 then ⟨v.a, lp v.b v.c, rp v.b v.c, v.d, v.e⟩
  else if k = 3 then ⟨v.a, v.b, lp v.c v.d, rp v.c v.d, v.e⟩
  else if k = 4 then ⟨v.a, v.b, v.c, lp v.d v.e, rp v.d v.e⟩
  else if k = -1 then ⟨ln v.a v.b, rn v.a v.b, v.c, v.d, v.e⟩
  else if k = -2 then ⟨v.a, ln v.b v.c, rn v.b v.c, v.d, v.e⟩
  else if k = -3 then ⟨v.a, v.b, ln v.c v.d, rn v.c v.d, v.e⟩
  else if k = -4 then ⟨v.a, v.b, v.c, ln v.d v.e, rn v.d v.e⟩
  else v
def Ok (x : Int) : Prop := 0 ≤ x ∧ x < 10007
def OkV (v : V5) : Prop := Ok v.a ∧ Ok v.b ∧ Ok v.c ∧ Ok v.d ∧ Ok v.e
theorem ok_lp (l r : Int) : Ok (lp l r) := by unfold Ok lp; omega
theorem ok_rp (l r : Int) : Ok (rp l r) := by unfold Ok rp; omega
theorem ok_ln (l r : Int) : Ok (ln l r) := by unfold Ok ln; omega
theorem ok_rn (l r : Int) : Ok (rn l r) := by unfold Ok rn; omega
theorem okV_bur {v : V5} (h : OkV v) (k : Int) : OkV (bur v k) := by
  obtain ⟨h1, h2, h3, h4, h5⟩ := h
  unfold bur
  repeat' split
  all_goals (refine ⟨?_, ?_, ?_, ?_, ?_⟩ <;> (try dsimp only) <;> first | exact ok_lp _ _ | exact ok_rp _ _ | exact ok_ln _ _ | exact ok_rn _ _ | assumption)
theorem pn_l {l r : Int} (hl : Ok l) : ln (lp l r) (rp l r) = l := by unfold ln rp; unfold Ok at hl; omega
theorem pn_r {l r : Int} (hr : Ok r) : rn (lp l r) (rp l r) = r := by unfold rn lp rp; unfold Ok at hr; omega
theorem np_l {l r : Int} (hl : Ok l) : lp (ln l r) (rn l r) = l := by unfold lp ln rn; unfold Ok at hl; omega
theorem np_r {l r : Int} (hr : Ok r) : rp (ln l r) (rn l r) = r := by unfold rp ln; unfold Ok at hr; omega
theorem br1 (x y z : Int) : lp (lp x y) (lp (rp x y) z) = lp x (lp y z) := by unfold lp rp; omega
theorem br2 (x y z : Int) : rp (lp x y) (lp (rp x y) z) = lp (rp x (lp y z)) (rp y z) := by unfold lp rp; omega
theorem br3 (x y z : Int) : rp (rp x y) z = rp (rp x (lp y z)) (rp y z) := by unfold rp; omega
def app (w : List Int) (v : V5) : V5 := w.foldl bur v
theorem app_app (u w : List Int) (v : V5) : app (u ++ w) v = app w (app u v) := by
  unfold app
  rw [List.foldl_append]
theorem okV_app {w : List Int} : ∀ {v : V5}, OkV v → OkV (app w v) := by
  induction w with
  | nil => intro v h; exact h
  | cons k r ih => intro v h; exact ih (okV_bur h k)
theorem bur_br {n : Nat} (hn : n ≤ 5) {u v : List Int} (h : Br n u v) : ∀ x, OkV x → app u x = app v x := by
  induction h with
  | refl u => intro x _; rfl
  | symm _ ih => intro x hx; exact (ih x hx).symm
  | trans _ _ ih1 ih2 => intro x hx; exact (ih1 x hx).trans (ih2 x hx)
  | ctx a b _ ih =>
    intro x hx
    rw [app_app, app_app, app_app, app_app, ih _ (okV_app hx)]
  | @can k hk =>
    intro x hx
    obtain ⟨h1, h2, h3, h4, h5⟩ := hx
    have : k = 1 ∨ k = 2 ∨ k = 3 ∨ k = 4 ∨ k = -1 ∨ k = -2 ∨ k = -3 ∨ k = -4 := by omega
    obtain ⟨a, b, c, d, e⟩ := x
    rcases this with rfl | rfl | rfl | rfl | rfl | rfl | rfl | rfl
    · show V5.mk (ln (lp a b) (rp a b)) (rn (lp a b) (rp a b)) c d e = _
      rw [pn_l h1, pn_r h2]; rfl
    · show V5.mk a (ln (lp b c) (rp b c)) (rn (lp b c) (rp b c)) d e = _
      rw [pn_l h2, pn_r h3]; rfl
    · show V5.mk a b (ln (lp c d) (rp c d)) (rn (lp c d) (rp c d)) e = _
      rw [pn_l h3, pn_r h4]; rfl
    · show V5.mk a b c (ln (lp d e) (rp d e)) (rn (lp d e) (rp d e)) = _
      rw [pn_l h4, pn_r h5]; rfl
    · show V5.mk (lp (ln a b) (rn a b)) (rp (ln a b) (rn a b)) c d e = _
      rw [np_l h1, np_r h2]; rfl
    · show V5.mk a (lp (ln b c) (rn b c)) (rp (ln b c) (rn b c)) d e = _
      rw [np_l h2, np_r h3]; rfl
    · show V5.mk a b (lp (ln c d) (rn c d)) (rp (ln c d) (rn c d)) e = _
      rw [np_l h3, np_r h4]; rfl
    · show V5.mk a b c (lp (ln d e) (rn d e)) (rp (ln d e) (rn d e)) = _
      rw [np_l h4, np_r h5]; rfl
  | @far k j h1 h2 h3 =>
    intro x _
    have : (k = 1 ∧ j = 3) ∨ (k = 1 ∧ j = 4) ∨ (k = 2 ∧ j = 4) := by omega
    rcases this with ⟨rfl, rfl⟩ | ⟨rfl, rfl⟩ | ⟨rfl, rfl⟩ <;> rfl
  | @near k h1 h2 =>
    intro x _
    have : k = 1 ∨ k = 2 ∨ k = 3 := by omega
    obtain ⟨a, b, c, d, e⟩ := x
    rcases this with rfl | rfl | rfl
    · show V5.mk (lp (lp a b) (lp (rp a b) c)) (rp (lp a b) (lp (rp a b) c)) (rp (rp a b) c) d e = V5.mk (lp a (lp b c)) (lp (rp a (lp b c)) (rp b c)) (rp (rp a (lp b c)) (rp b c)) d e
      rw [br1, br2, ← br3]
    · show V5.mk a (lp (lp b c) (lp (rp b c) d)) (rp (lp b c) (lp (rp b c) d)) (rp (rp b c) d) e = V5.mk a (lp b (lp c d)) (lp (rp b (lp c d)) (rp c d)) (rp (rp b (lp c d)) (rp c d)) e
      rw [br1, br2, ← br3]
    · show V5.mk a b (lp (lp c d) (lp (rp c d) e)) (rp (lp c d) (lp (rp c d) e)) (rp (rp c d) e) = V5.mk a b (lp c (lp d e)) (lp (rp c (lp d e)) (rp d e)) (rp (rp c (lp d e)) (rp d e))
      rw [br1, br2, ← br3]
/-! how many more crossings above 0 -/
theorem expo_br {n : Nat} {u v : List Int} (h : Br n u v) : expo u = expo v := by
  induction h with
  | refl u => rfl
  | symm _ ih => exact ih.symm
  | trans _ _ ih1 ih2 => exact ih1.trans ih2
  | ctx a b _ ih => rw [expo_app, expo_app, expo_app, expo_app, ih]
  | @can k hk =>
    rw [expo_cons, expo_cons, sgI_neg]
    show sgI k + (-sgI k + 0) = 0
    omega
  | @far k j h1 h2 h3 =>
    rw [expo_cons, expo_cons, expo_cons, expo_cons]
    omega
  | @near k h1 h2 =>
    rw [expo_cons, expo_cons, expo_cons, expo_cons, expo_cons, expo_cons]
    unfold sgI
    rw [if_pos (by omega), if_pos (by omega)]
theorem expo_rep (c : Nat) (w : List Int) : expo (List.replicate c w).flatten = c * expo w := by
  induction c with
  | zero => simp [expo]
  | succ c ih =>
    rw [List.replicate_succ, List.flatten_cons, expo_app, ih, Int.natCast_succ, Int.add_mul]
    omega
theorem expo_par {w : List Int} (h : ∀ p ∈ w, p ≠ 0) : (expo w - w.length) % 2 = 0 := by
  induction w with
  | nil => rfl
  | cons x r ih =>
    have := ih fun p hp => h p (List.mem_cons_of_mem _ hp)
    have hx := h x List.mem_cons_self
    rw [expo_cons, List.length_cons]
    unfold sgI
    split
    · omega
    · split <;> omega
/-! all short words -/
def lets (n : Nat) : List Int := if n = 2 then [1, -1] else if n = 3 then [1, 2, -1, -2] else if n = 4 then [1, 2, 3, -1, -2, -3] else [1, 2, 3, 4, -1, -2, -3, -4]
def words (n : Nat) : Nat → List (List Int)
  | 0 => [[]]
  | m + 1 => (lets n).flatMap fun k => (words n m).map (k :: ·)
theorem mem_lets {n : Nat} (hn : 2 ≤ n ∧ n ≤ 5) {p : Int} (hp : p ≠ 0 ∧ -(n : Int) < p ∧ p < n) : p ∈ lets n := by
  have : n = 2 ∨ n = 3 ∨ n = 4 ∨ n = 5 := by omega
  rcases this with rfl | rfl | rfl | rfl
  · have : p = 1 ∨ p = -1 := by omega
    rcases this with rfl | rfl <;> decide
  · have : p = 1 ∨ p = 2 ∨ p = -1 ∨ p = -2 := by omega
    rcases this with rfl | rfl | rfl | rfl <;> decide
  · have : p = 1 ∨ p = 2 ∨ p = 3 ∨ p = -1 ∨ p = -2 ∨ p = -3 := by omega
    rcases this with rfl | rfl | rfl | rfl | rfl | rfl <;> decide
  · have : p = 1 ∨ p = 2 ∨ p = 3 ∨ p = 4 ∨ p = -1 ∨ p = -2 ∨ p = -3 ∨ p = -4 := by omega
    rcases this with rfl | rfl | rfl | rfl | rfl | rfl | rfl | rfl <;> decide
theorem mem_words {n : Nat} (hn : 2 ≤ n ∧ n ≤ 5) {w : List Int} (hw : IsW n w) : w ∈ words n w.length := by
  induction w with
  | nil => exact List.mem_singleton.mpr rfl
  | cons p r ih =>
    refine List.mem_flatMap.mpr ⟨p, mem_lets hn (hw p List.mem_cons_self), ?_⟩
    exact List.mem_map.mpr ⟨r, ih fun q hq => hw q (List.mem_cons_of_mem _ hq), rfl⟩
def basis : List V5 := [⟨1, 0, 0, 0, 0⟩, ⟨0, 1, 0, 0, 0⟩, ⟨0, 0, 1, 0, 0⟩, ⟨0, 0, 0, 1, 0⟩, ⟨0, 0, 0, 0, 1⟩]
def still (w : List Int) : Bool := basis.all fun b => decide (app w b = b)
def isE : Option PyData → Bool
  | some (.tuple [.int 0, .tuple []]) => true
  | _ => false
def good (n : Nat) (w : List Int) : Bool := !(decide (expo w = 0)) || (if still w then isE (m_plain (tI w) (.int n)) else !(still (w ++ w)) && !(still (w ++ w ++ w)))
theorem all_good : ∀ c ∈ [(2, 0), (2, 2), (2, 4), (3, 0), (3, 2), (3, 4), (4, 0), (4, 2), (5, 0), (5, 2)], ∀ w ∈ words c.1 c.2, good c.1 w = true := by decide +kernel
theorem all_good4 : ∀ w ∈ words 4 4, good 4 w = true := by decide +kernel
theorem isE_eq {n : Nat} {x : Fm} (h : isE (some (formD n x)) = true) : x = (0, []) := by
  obtain ⟨t, P⟩ := x
  unfold isE formD at h
  split at h
  · rename_i h2
    simp only [Option.some.injEq, PyData.tuple.injEq, List.cons.injEq, PyData.int.injEq, and_true] at h2
    obtain ⟨h3, h4⟩ := h2
    cases P with
    | nil => exact Prod.ext h3 rfl
    | cons a P => simp at h4
  · cases h
/-- what comes to nothing when done 2 or 3 times is nothing -/
theorem tors {n : Nat} (hn : 2 ≤ n ∧ n ≤ 5) {w : List Int} (hw : IsW n w) (hl : w.length ≤ 5) (hl5 : n = 5 → w.length ≤ 3) {m : Nat} (hm : m = 1 ∨ m = 2 ∨ m = 3) (h : pl n (List.replicate m w).flatten = (0, [])) : pl n w = (0, []) := by
  have hr : IsW n (List.replicate m w).flatten := by
    have := isW_rep hw (m : Int)
    unfold repL at this
    rwa [Int.toNat_natCast] at this
  have e0 : pl n [] = (0, []) := rfl
  have hb : Br n (List.replicate m w).flatten [] := (pl_br hn hr NF.isW_nil).mp (by rw [h, e0])
  have hx : expo w = 0 := by
    have := expo_br hb
    rw [expo_rep] at this
    have h0 : expo [] = 0 := rfl
    rw [h0] at this
    rcases hm with rfl | rfl | rfl <;> omega
  have hp := expo_par fun p hp => (hw p hp).1
  rw [hx] at hp
  have hmem := mem_words hn hw
  have g : good n w = true := by
    have : w.length = 0 ∨ w.length = 2 ∨ w.length = 4 := by omega
    have hn4 : n = 2 ∨ n = 3 ∨ n = 4 ∨ n = 5 := by omega
    rcases this with hL | hL | hL <;> rw [hL] at hmem
    · rcases hn4 with rfl | rfl | rfl | rfl
      · exact all_good (2, 0) (by decide) w hmem
      · exact all_good (3, 0) (by decide) w hmem
      · exact all_good (4, 0) (by decide) w hmem
      · exact all_good (5, 0) (by decide) w hmem
    · rcases hn4 with rfl | rfl | rfl | rfl
      · exact all_good (2, 2) (by decide) w hmem
      · exact all_good (3, 2) (by decide) w hmem
      · exact all_good (4, 2) (by decide) w hmem
      · exact all_good (5, 2) (by decide) w hmem
    · rcases hn4 with rfl | rfl | rfl | rfl
      · exact all_good (2, 4) (by decide) w hmem
      · exact all_good (3, 4) (by decide) w hmem
      · exact all_good4 w hmem
      · have := hl5 rfl
        omega
  have ok : ∀ b ∈ basis, OkV b := by
    have : ∀ b ∈ basis, (0 ≤ b.a ∧ b.a < 10007) ∧ (0 ≤ b.b ∧ b.b < 10007) ∧ (0 ≤ b.c ∧ b.c < 10007) ∧ (0 ≤ b.d ∧ b.d < 10007) ∧ (0 ≤ b.e ∧ b.e < 10007) := by decide
    exact this
  have stl : ∀ {v : List Int}, Br n v [] → still v = true := fun {v} hv => List.all_eq_true.mpr fun b hb => decide_eq_true (bur_br hn.2 hv b (ok b hb))
  unfold good at g
  rw [decide_eq_true hx, Bool.not_true, Bool.false_or] at g
  by_cases hs : still w = true
  · rw [if_pos hs, t_plain n hn w hw (by omega)] at g
    exact isE_eq g
  · rw [if_neg hs, Bool.and_eq_true, Bool.not_eq_true', Bool.not_eq_true'] at g
    exfalso
    rcases hm with rfl | rfl | rfl
    · simp at hb
      exact hs (stl hb)
    · have hb2 : Br n (w ++ w) [] := by simpa using hb
      have := stl hb2
      rw [g.1] at this
      cases this
    · have hb2 : Br n (w ++ w ++ w) [] := by simpa [List.replicate_succ] using hb
      have := stl hb2
      rw [g.2] at this
      cases this
end Tors
end
section
set_option linter.all false
set_option maxRecDepth 100000
set_option maxHeartbeats 1000000
namespace Tie
open PySem Mir
open NF hiding one B E W U
open DV hiding tI
/-! plain forms are told to be ones; windings, places are kept -/
theorem isI_int (k : Int) : pIsI "int" (.int k) = some (.bool true) := by
  show (L2.kitB "int" "int").map PyData.bool = _
  rw [kit_i_int]; rfl
theorem isB_int (k : Int) : pIsI "bool" (.int k) = some (.bool false) := by
  show (L2.kitB "int" "bool").map PyData.bool = _
  rw [kit_i_bool]; rfl
theorem isT_tuple (ds : List PyData) : pIsI "tuple" (.tuple ds) = some (.bool true) := by
  show (L2.kitB "tuple" "tuple").map PyData.bool = _
  rw [kit_t_tuple]; rfl
theorem t_is_number (k lo hi : Int) : m_is_number (.int k) (.int lo) (.int hi) = some (.bool (decide (lo ≤ k) && decide (k ≤ hi))) := by
  unfold m_is_number
  simp only [bs, isI_int, isB_int, asB_bool, Bool.not_false, if_true, pLe_int]
  by_cases h : lo ≤ k
  · rw [decide_eq_true h]
    simp
  · rw [decide_eq_false h]
    simp
theorem t_law_number (k lo hi : Int) : m_law_number (.int k) (.int lo) (.int hi) = some (.bool (decide (lo ≤ k) && decide (k ≤ hi))) := by
  unfold m_law_number
  simp only [bs, isI_int, isB_int, asB_bool, Bool.not_false, if_true, pLe_int]
  by_cases h : lo ≤ k
  · rw [decide_eq_true h]
    simp
  · rw [decide_eq_false h]
    simp
theorem upf_nodup (n : Nat) (a : NF.Ord) : ((upL 1 n).map a.f).Nodup := by
  unfold upL
  rw [List.map_map]
  rw [List.nodup_iff_pairwise_ne, List.pairwise_map]
  refine List.Pairwise.imp (fun {i j} hij => ?_) (List.nodup_iff_pairwise_ne.mp List.nodup_range)
  intro e
  have : (1 : Int) + (i : Int) = 1 + (j : Int) := a.inj e
  exact hij (by omega)
theorem all_true {l : List Bool} (h : ∀ b ∈ l, b = true) : l.all id = true := by
  rw [List.all_eq_true]
  exact fun b hb => h b hb
theorem compL_tr {τ : Type} {f : PyData → Option PyData} {c : τ → PyData} {ts : List τ} (hz : ts.length ≤ 8000000) (h : ∀ t ∈ ts, f (c t) = some (.bool true)) : compL (fun _ => some true) f (ts.map c) = some (.list (ts.map fun _ => .bool true)) := compL_gen (g := fun _ => .bool true) hz h
theorem pAll_tr {τ : Type} (ts : List τ) : pAll [.list (ts.map fun _ => .bool true)] = some (.bool true) := by
  show (bolsOf (ts.map fun _ => PyData.bool true)).map _ = _
  rw [show (ts.map fun _ => PyData.bool true) = (ts.map fun _ => true).map PyData.bool by rw [List.map_map]; rfl, bolsOf_map]
  show some (PyData.bool ((ts.map fun _ => true).all id)) = _
  rw [all_true fun b hb => by
    obtain ⟨_, _, rfl⟩ := List.mem_map.mp hb
    rfl]
theorem t_is_order (n : Nat) (hn : 2 ≤ n ∧ n ≤ 5) (a : NF.Ord) (ha : In n a) : m_is_order (enc n a) (.int n) = some (.bool true) := by
  unfold m_is_order enc
  have e0 : tI ((upL 1 n).map a.f) = .tuple (((upL 1 n).map a.f).map .int) := rfl
  have l0 : (((upL 1 n).map a.f).map PyData.int).length = n := by rw [List.length_map, enc_len]
  have h1 := compL_tr (f := fun part_1 => m_is_number part_1 (.int 1) (.int n)) (c := PyData.int) (ts := (upL 1 n).map a.f) (by rw [enc_len]; omega) (fun p hp => by
    obtain ⟨i, hi, rfl⟩ := List.mem_map.mp hp
    have hi := mem_upL.mp hi
    have := ha.rng (i := i) (by omega)
    rw [t_is_number, decide_eq_true this.1, decide_eq_true this.2]
    rfl)
  have h2 : pLenSet (tI ((upL 1 n).map a.f)) = some (.int n) := by
    show ((intsOf (((upL 1 n).map a.f).map .int)).bind _) = _
    rw [intsOf_map, bs, if_pos (by rw [enc_len]; omega)]
    have hdd := dedup_go ((upL 1 n).map a.f) [] List.nodup_nil
    have := nodup_len hdd.1 (upf_nodup n a) (fun k => by rw [hdd.2 k]; simp)
    rw [enc_len] at this
    rw [this]
  simp only [bs, e0, isT_tuple, asB_bool, Bool.not_true, Bool.false_eq_true, if_false, pLen_tuple, l0, pNe_int_self, itemsOf_tuple, ap3_mk]
  rw [← e0, h2, h1]
  simp only [bs, pAll_tr, asB_bool, if_true, pEq_int, decide_true]
open Classical in
theorem pNotIn_oneful (n : Nat) (a : NF.Ord) (ha : In n a) : pNotIn (enc n a) (PyData.tuple [enc n NF.one, enc n (fl n)]) = some (.bool (decide (Prop_ n a))) := by
  unfold pNotIn
  have h2 : Sh 3 (PyData.tuple [enc n NF.one, enc n (fl n)]) := sh_tuple fun d hd => by
    rcases List.mem_cons.mp hd with rfl | hd
    · exact sh_enc _ _
    · rw [List.mem_singleton.mp hd]
      exact sh_enc _ _
  have e : pIn (enc n a) (PyData.tuple [enc n NF.one, enc n (fl n)]) = some (.bool (decide (a = NF.one) || decide (a = fl n))) := by
    show (if SeqAt.shaped (enc n a) = true ∧ SeqAt.shaped (.tuple [enc n NF.one, enc n (fl n)]) = true then some (PyData.bool (hasD (enc n a) [enc n NF.one, enc n (fl n)])) else none) = _
    rw [if_pos ⟨(sh_enc n a).shaped, h2.shaped⟩]
    unfold hasD
    rw [List.any_cons, List.any_cons, List.any_nil, Bool.or_false, eqv_enc (in_one n) ha, eqv_enc (in_fl n) ha]
    have c1 : decide (NF.one = a) = decide (a = NF.one) := by
      by_cases h : a = NF.one
      · rw [decide_eq_true h, decide_eq_true h.symm]
      · rw [decide_eq_false h, decide_eq_false fun c => h c.symm]
    have c2 : decide (fl n = a) = decide (a = fl n) := by
      by_cases h : a = fl n
      · rw [decide_eq_true h, decide_eq_true h.symm]
      · rw [decide_eq_false h, decide_eq_false fun c => h c.symm]
    rw [c1, c2]
  rw [e]
  simp only [bs]
  refine congrArg (fun b => some (PyData.bool b)) ?_
  unfold Prop_
  by_cases h1 : a = NF.one
  · simp [h1]
  · by_cases h2 : a = fl n
    · simp [h2]
    · simp [h1, h2]
open Classical in
theorem t_is_part (n : Nat) (hn : 2 ≤ n ∧ n ≤ 5) (a : NF.Ord) (ha : In n a) (hp : Prop_ n a) : m_is_part (enc n a) (.int n) = some (.bool true) := by
  unfold m_is_part
  simp only [bs, ap2_mk, ap1_mk, t_is_order n hn a ha, asB_bool, if_true, t_full n (by omega), t_rest (n : Int) (by omega), Int.toNat_natCast, mkTup_2, ← enc_one, pNotIn_oneful n a ha]
  rw [decide_eq_true hp]
theorem t_fits (n : Nat) (hn : 2 ≤ n ∧ n ≤ 5) (a b : NF.Ord) (ha : In n a) (hf : Fit a b) : m_fits (enc n a) (enc n b) = some (.bool true) := by
  unfold m_fits
  simp only [bs, ap1_mk, t_ends n a ha (by omega), t_begins n b (by omega), itemsOf_lI]
  rw [compL_tr (c := PyData.int) (by
    refine Nat.le_trans (List.length_filter_le _ _) ?_
    rw [upL_len]
    omega) (fun k hk => by
    have hk := List.mem_filter.mp hk
    rw [pIn_lI]
    refine congrArg (fun b => some (PyData.bool b)) (decide_eq_true (List.mem_filter.mpr ⟨hk.1, decide_eq_true (hf k (of_decide_eq_true hk.2))⟩)))]
  simp only [bs, pAll_tr]
theorem cutD_init (ds : List PyData) : cutD ds none (some (-1)) = ds.dropLast := by
  unfold cutD
  have e1 : HT.sIx ds.length 0 none = 0 := rfl
  rw [e1, List.drop_zero, Nat.sub_zero, List.dropLast_eq_take]
  congr 1
  unfold HT.sIx
  simp
  omega
theorem cutD_tail (ds : List PyData) : cutD ds (some 1) none = ds.tail := by
  rw [cutD_from ds 1 (by omega)]
  exact List.drop_one
theorem zip_nf {n : Nat} : ∀ {P : List NF.Ord}, Nf P → ∀ p ∈ P.dropLast.zip P.tail, Fit p.1 p.2
  | [], _, p, hp => by cases hp
  | [a], _, p, hp => by cases hp
  | a :: b :: Y, h, p, hp => by
    have hp : p ∈ (a, b) :: ((b :: Y).dropLast.zip (b :: Y).tail) := hp
    rcases List.mem_cons.mp hp with rfl | hp
    · exact h.1
    · exact zip_nf (n := n) (P := b :: Y) h.2 p hp
theorem compL_pair {τ : Type} {t : PyData → PyData → Option Bool} {f : PyData → PyData → Option PyData} {c : τ → PyData} {g : τ × τ → PyData} {ts : List (τ × τ)} (hz : ts.length ≤ 8000000) (ht : ∀ a b, t a b = some true) (h : ∀ p ∈ ts, f (c p.1) (c p.2) = some (g p)) :
    compL (compT asPair fun ab => t ab.1 ab.2) (compF asPair fun ab => f ab.1 ab.2) (ts.map fun p => .tuple [c p.1, c p.2]) = some (.list (ts.map g)) := by
  have key : ∀ {ts : List (τ × τ)}, (∀ p ∈ ts, f (c p.1) (c p.2) = some (g p)) → compM (compT asPair fun ab => t ab.1 ab.2) (compF asPair fun ab => f ab.1 ab.2) (ts.map fun p => .tuple [c p.1, c p.2]) = some (ts.map g) := by
    intro ts
    induction ts with
    | nil => intro _; rfl
    | cons p r ih =>
      intro h
      rw [List.map_cons]
      unfold compM
      rw [ih fun q hq => h q (List.mem_cons_of_mem _ hq)]
      have e1 : compT asPair (fun ab => t ab.1 ab.2) (.tuple [c p.1, c p.2]) = some true := ht _ _
      have e2 : compF asPair (fun ab => f ab.1 ab.2) (.tuple [c p.1, c p.2]) = some (g p) := h p List.mem_cons_self
      rw [e1, e2]
      rfl
  unfold compL
  rw [if_pos (show szOk _ by show _ ≤ 8000000; rw [List.length_map]; exact hz), key h]
  rfl
theorem t_is_plain (n : Nat) (hn : 2 ≤ n ∧ n ≤ 5) (x : Fm) (hx : Can n x.2) (hl : x.2.length ≤ 1000) : m_is_plain (formD n x) (.int n) = some (.bool true) := by
  unfold m_is_plain
  have e0 : formD n x = .tuple [.int x.1, .tuple (x.2.map (enc n))] := rfl
  have h1 := compL_tr (f := fun part_1 => m_is_part part_1 (.int n)) (c := enc n) (ts := x.2) (by omega) (fun a ha => t_is_part n hn a (hx.al a ha) (hx.pr a ha))
  have h2 := compL_pair (t := fun _ _ => some true) (f := fun a b => m_fits a b) (c := enc n) (g := fun _ => .bool true) (ts := x.2.dropLast.zip x.2.tail) (by
    rw [List.length_zip, List.length_dropLast]
    omega) (fun _ _ => rfl) (fun p hp => t_fits n hn p.1 p.2 (hx.al _ ((List.dropLast_sublist _).subset (List.of_mem_zip hp).1)) (zip_nf (n := n) hx.nf p hp))
  have e3 : pZip [.tuple (x.2.map (enc n)).dropLast, .tuple (x.2.map (enc n)).tail] = some ((x.2.dropLast.zip x.2.tail).map fun p => .tuple [enc n p.1, enc n p.2]) := by
    show some _ = _
    rw [← List.map_dropLast, ← List.map_tail, List.zip_map, List.map_map]
    rfl
  simp only [bs, ms, pIdx_form0, pIdx_form1, isI_int, isB_int, isT_tuple, asB_bool, Bool.not_true, Bool.false_eq_true, if_false, itemsOf_tuple, ap2_mk, h1, pAll_tr, pNeg_int, asI_int, pCut_tuple, cutD_init, cutD_tail, e3, h2]
  rw [e0]
  simp only [bs, isT_tuple, asB_bool, Bool.not_true, Bool.false_eq_true, if_false, pLen_tuple, List.length_cons, List.length_nil]
  rw [show (((0 + 1 + 1 : Nat) : Int)) = 2 from rfl, pNe_int_self]
  simp only [bs, asB_bool, Bool.false_eq_true, if_false, pAll_tr]
/-! places and windings -/
theorem follow_br {n : Nat} {u v : List Int} (h : Br n u v) : ∀ p, follow u p = follow v p := by
  induction h with
  | refl u => exact fun _ => rfl
  | symm _ ih => exact fun p => (ih p).symm
  | trans _ _ ih1 ih2 => exact fun p => (ih1 p).trans (ih2 p)
  | ctx a b _ ih =>
    intro p
    rw [follow_app, follow_app, follow_app, follow_app, ih]
  | @can k hk =>
    intro p
    show swp (absI (-k)) (swp (absI k) p) = p
    rw [absI_neg, swp_inv]
  | @far k j h1 h2 h3 =>
    intro p
    show swp (absI j) (swp (absI k) p) = swp (absI k) (swp (absI j) p)
    rw [show absI k = k by unfold absI; rw [if_neg (by omega)], show absI j = j by unfold absI; rw [if_neg (by omega)], swp_comm h2]
  | @near k h1 h2 =>
    intro p
    show swp (absI k) (swp (absI (k + 1)) (swp (absI k) p)) = swp (absI (k + 1)) (swp (absI k) (swp (absI (k + 1)) p))
    rw [show absI k = k by unfold absI; rw [if_neg (by omega)], show absI (k + 1) = k + 1 by unfold absI; rw [if_neg (by omega)], swp_three]
theorem orderL_br {n m : Nat} {u v : List Int} (h : Br n u v) : orderL u m = orderL v m := by
  unfold orderL
  exact List.map_congr_left fun p _ => follow_br h p
theorem t_side (p : Int) (hp : p ≠ 0) : m_side_of (.int p) = some (.int (sgI p)) := by
  unfold m_side_of
  simp only [bs, pGt_int, pInt_bool]
  unfold sgI
  by_cases h : 0 < p
  · rw [decide_eq_true h, if_pos rfl, pMul_int (.inr (by decide)), bs, pSub_int, if_pos h]
    rfl
  · rw [decide_eq_false h, if_neg (by decide), pMul_int (.inr (by decide)), bs, pSub_int, if_neg h, if_pos (by omega)]
    rfl
theorem t_windings {n : Nat} {w : List Int} (hw : IsW n w) (hl : w.length ≤ 8000000) : m_windings (tI w) = some (.int (expo w)) := by
  unfold m_windings
  simp only [bs, itemsOf_tI, ap1_mk]
  rw [compL_ints (g := sgI) hl (fun p hp => t_side p (hw p hp).1)]
  simp only [bs]
  show (intsOf ((w.map sgI).map .int)).map _ = _
  rw [intsOf_map]
  rfl
theorem expo_pos : ∀ {w : List Int}, (∀ k ∈ w, 0 < k) → expo w = w.length
  | [], _ => rfl
  | k :: w, h => by
    rw [expo_cons, expo_pos fun j hj => h j (List.mem_cons_of_mem _ hj)]
    unfold sgI
    rw [if_pos (h k List.mem_cons_self), List.length_cons]
    omega
/-! the full order's word is as long as there are pairs -/
def lenIs (m : Nat) : Option PyData → Bool
  | some (.tuple ds) => ds.length == m
  | _ => false
theorem full_lens : lenIs 1 (m_swept (enc 2 (fl 2))) = true ∧ lenIs 3 (m_swept (enc 3 (fl 3))) = true ∧ lenIs 6 (m_swept (enc 4 (fl 4))) = true ∧ lenIs 10 (m_swept (enc 5 (fl 5))) = true := by decide +kernel
def half (n : Nat) : Nat := n * (n - 1) / 2
theorem full_len {n : Nat} (hn : 2 ≤ n ∧ n ≤ 5) {D : List Int} (h : m_swept (enc n (fl n)) = some (tI D)) : D.length = half n := by
  have key : ∀ m, lenIs m (m_swept (enc n (fl n))) = true → D.length = m := fun m hm => by
    rw [h] at hm
    have hm : ((D.map PyData.int).length == m) = true := hm
    rw [List.length_map] at hm
    exact eq_of_beq hm
  have : n = 2 ∨ n = 3 ∨ n = 4 ∨ n = 5 := by omega
  rcases this with rfl | rfl | rfl | rfl
  · exact key _ full_lens.1
  · exact key _ full_lens.2.1
  · exact key _ full_lens.2.2.1
  · exact key _ full_lens.2.2.2
theorem expo_neg (w : List Int) : expo (undL w) = -expo w := by
  unfold undL
  rw [expo_rev]
  unfold expo negL
  rw [List.map_map]
  induction w with
  | nil => rfl
  | cons x r ih =>
    rw [List.map_cons, List.sum_cons, List.map_cons, List.sum_cons, ih]
    show sgI (-x) + _ = _
    rw [sgI_neg]
    omega
theorem expo_Dp (D : List Int) (t : Int) : expo (Dp D t) = t * expo D := by
  unfold Dp
  by_cases h : 0 ≤ t
  · rw [if_pos h, Tors.expo_rep, show ((t.toNat : Nat) : Int) = t by omega]
  · rw [if_neg h, Tors.expo_rep, expo_neg, show (((-t).toNat : Nat) : Int) = -t by omega, Int.neg_mul_neg]
theorem SwWs.expo_flat {n : Nat} (hn : 2 ≤ n ∧ n ≤ 5) {P : List NF.Ord} {ws : List (List Int)} (h : SwWs n P ws) (hP : Al n P) : expo ws.flatten = (ws.flatten.length : Int) := expo_pos fun k hk => by
  have := peels_pos hn h.peels hP k hk
  omega
theorem SwWs.flat_len {n : Nat} {P : List NF.Ord} {ws : List (List Int)} (h : SwWs n P ws) : (ws.flatten.length : Int) = (ws.map fun w => (w.length : Int)).sum := by
  induction h with
  | nil => rfl
  | cons _ _ ih =>
    rw [List.flatten_cons, List.length_append, List.map_cons, List.sum_cons, ← ih]
    omega
theorem SwWs.comp {n : Nat} {P : List NF.Ord} {ws : List (List Int)} (h : SwWs n P ws) : compM (fun _ => some true) (fun part => ((m_swept part).bind fun d => some [d]).bind pLen) (P.map (enc n)) = some ((ws.map fun w => (w.length : Int)).map .int) := by
  induction h with
  | nil => rfl
  | @cons p P w ws h1 _ ih =>
    rw [List.map_cons]
    unfold compM
    rw [bs, if_pos rfl, h1.1, bs, bs, pLen_tI, bs, ih, bs]
    rfl
/-! drawn orders -/
def fOf (n : Nat) (o : List Int) (i : Int) : Int := if 1 ≤ i ∧ i ≤ n then o.getD (i - 1).toNat 0 else i
def gOf (n : Nat) (o : List Int) (i : Int) : Int := if 1 ≤ i ∧ i ≤ n then (o.idxOf i : Int) + 1 else i
def okO (n : Nat) (o : List Int) : Bool := (upL 1 n).all fun i => decide (1 ≤ fOf n o i) && decide (fOf n o i ≤ n) && decide (gOf n o (fOf n o i) = i) && decide (1 ≤ gOf n o i) && decide (gOf n o i ≤ n) && decide (fOf n o (gOf n o i) = i)
theorem okO_all : ∀ n ∈ [2, 3, 4, 5], ∀ o ∈ permsL n, okO n o = true := by decide +kernel
theorem ord_of {n : Nat} (hn : 2 ≤ n ∧ n ≤ 5) {o : List Int} (ho : o ∈ permsL n) : ∃ a : NF.Ord, In n a ∧ enc n a = tI o := by
  have h := okO_all n (by simp; omega) o ho
  have key : ∀ i : Int, 1 ≤ i ∧ i ≤ n → gOf n o (fOf n o i) = i ∧ fOf n o (gOf n o i) = i := fun i hi => by
    have := List.all_eq_true.mp h i (mem_upL.mpr (by omega))
    simp only [Bool.and_eq_true, decide_eq_true_eq] at this
    exact ⟨this.1.1.1.2, this.2⟩
  have out : ∀ i : Int, ¬ (1 ≤ i ∧ i ≤ n) → fOf n o i = i ∧ gOf n o i = i := fun i hi => by
    unfold fOf gOf
    rw [if_neg hi, if_neg hi]
    exact ⟨rfl, rfl⟩
  refine ⟨⟨fOf n o, gOf n o, fun i => ?_, fun i => ?_⟩, fun i hi => (out i (by omega)).1, ?_⟩
  · by_cases hi : 1 ≤ i ∧ i ≤ n
    · exact (key i hi).2
    · rw [(out i hi).2, (out i hi).1]
  · by_cases hi : 1 ≤ i ∧ i ≤ n
    · exact (key i hi).1
    · rw [(out i hi).1, (out i hi).2]
  · have hl := permsL_len ho
    unfold enc
    refine congrArg tI (List.ext_getElem? fun j => ?_)
    by_cases hj : j < n
    · have e := upf_get n (fOf n o) (j : Int) (by omega)
      rw [Int.toNat_natCast] at e
      rw [e]
      unfold fOf
      rw [if_pos (by omega), show ((j : Int) + 1 - 1).toNat = j by omega, List.getD_eq_getElem?_getD, List.getElem?_eq_getElem (by omega)]
      rfl
    · rw [List.getElem?_eq_none (by rw [enc_len]; omega), List.getElem?_eq_none (by omega)]
/-- the plain form of an order's own word -/
theorem pl_order {n : Nat} (hn : 2 ≤ n ∧ n ≤ 5) {a : NF.Ord} (ha : In n a) {w : List Int} (h : Peel a w) : (a = NF.one → pl n w = (0, [])) ∧ (a = fl n → pl n w = (1, [])) ∧ (Prop_ n a → pl n w = (0, [a])) := by
  have r : pl n w = ev n 0 [a] := run_peel hn h (x := (0, [])) ha can_nil
  refine ⟨fun e => ?_, fun e => ?_, fun hp => ?_⟩
  · rw [r, e]
    have := ev_one_end hn (t := 0) (L := []) (fun _ h => by cases h)
    rw [List.nil_append] at this
    rw [this, ev_can hn can_nil]
  · rw [r, e, ev_fl hn (fun _ h => by cases h), ev_can hn can_nil]
    rfl
  · rw [r]
    exact ev_can hn ⟨al1 ha, trivial, fun b hb => by
      rw [List.mem_singleton.mp hb]
      exact hp⟩
end Tie
end
section
set_option linter.all false
set_option maxRecDepth 100000
set_option maxHeartbeats 1000000
namespace Thg
open PySem Mir Tie
open NF hiding one B E W U
open DV hiding tI
/-! things of any kind: words, orders, plain forms -/
inductive Gd : Nat → PyData → Prop
  | non {k : Nat} : Gd (k + 1) .none
  | bl {k : Nat} (b : Bool) : Gd (k + 1) (.bool b)
  | int {k : Nat} (i : Int) : -1000 ≤ i ∧ i ≤ 1000 → Gd (k + 1) (.int i)
  | str {k : Nat} (s : Str) : PyData.strOk s = true → Gd (k + 1) (.str s)
  | tup {k : Nat} {ds : List PyData} : ds.length ≤ 1000 → (∀ d ∈ ds, Gd k d) → Gd (k + 1) (.tuple ds)
  | lst {k : Nat} {ds : List PyData} : ds.length ≤ 1000 → (∀ d ∈ ds, Gd k d) → Gd (k + 1) (.list ds)
theorem Gd.mono {k m : Nat} {d : PyData} (h : Gd k d) : k ≤ m → Gd m d := by
  induction h generalizing m with
  | non => intro hm; obtain ⟨j, rfl⟩ : ∃ j, m = j + 1 := ⟨m - 1, by omega⟩; exact .non
  | bl b => intro hm; obtain ⟨j, rfl⟩ : ∃ j, m = j + 1 := ⟨m - 1, by omega⟩; exact .bl b
  | int i h => intro hm; obtain ⟨j, rfl⟩ : ∃ j, m = j + 1 := ⟨m - 1, by omega⟩; exact .int i h
  | str s h => intro hm; obtain ⟨j, rfl⟩ : ∃ j, m = j + 1 := ⟨m - 1, by omega⟩; exact .str s h
  | tup hl _ ih => intro hm; obtain ⟨j, rfl⟩ : ∃ j, m = j + 1 := ⟨m - 1, by omega⟩; exact .tup hl fun d hd => ih d hd (by omega)
  | lst hl _ ih => intro hm; obtain ⟨j, rfl⟩ : ∃ j, m = j + 1 := ⟨m - 1, by omega⟩; exact .lst hl fun d hd => ih d hd (by omega)
theorem Gd.sh {k : Nat} {d : PyData} (h : Gd k d) : Sh k d := by
  induction h with
  | @non k => exact ⟨rfl, by simp [PyData.depth]⟩
  | @bl k b => exact ⟨rfl, by simp [PyData.depth]⟩
  | @int k i _ => exact ⟨rfl, by simp [PyData.depth]⟩
  | @str k s h => exact ⟨h, by simp [PyData.depth]⟩
  | tup _ _ ih => exact sh_tuple ih
  | lst _ _ ih => exact sh_list ih
/-! what isinstance says -/
theorem isI_non : pIsI "int" .none = some (.bool false) := by show (L2.kitB "NoneType" "int").map PyData.bool = _; rw [kit_n_int]; rfl
theorem isI_bl (b : Bool) : pIsI "int" (.bool b) = some (.bool true) := by show (L2.kitB "bool" "int").map PyData.bool = _; rw [kit_b_int]; rfl
theorem isI_str (s : Str) : pIsI "int" (.str s) = some (.bool false) := by show (L2.kitB "str" "int").map PyData.bool = _; rw [kit_s_int]; rfl
theorem isI_tup (ds : List PyData) : pIsI "int" (.tuple ds) = some (.bool false) := by show (L2.kitB "tuple" "int").map PyData.bool = _; rw [kit_t_int]; rfl
theorem isI_lst (ds : List PyData) : pIsI "int" (.list ds) = some (.bool false) := by show (L2.kitB "list" "int").map PyData.bool = _; rw [kit_l_int]; rfl
theorem isB_bl (b : Bool) : pIsI "bool" (.bool b) = some (.bool true) := by show (L2.kitB "bool" "bool").map PyData.bool = _; rw [kit_b_bool]; rfl
theorem isT_non : pIsI "tuple" .none = some (.bool false) := by show (L2.kitB "NoneType" "tuple").map PyData.bool = _; rw [kit_n_tuple]; rfl
theorem isT_bl (b : Bool) : pIsI "tuple" (.bool b) = some (.bool false) := by show (L2.kitB "bool" "tuple").map PyData.bool = _; rw [kit_b_tuple]; rfl
theorem isT_int (i : Int) : pIsI "tuple" (.int i) = some (.bool false) := by show (L2.kitB "int" "tuple").map PyData.bool = _; rw [kit_i_tuple]; rfl
theorem isT_str (s : Str) : pIsI "tuple" (.str s) = some (.bool false) := by show (L2.kitB "str" "tuple").map PyData.bool = _; rw [kit_s_tuple]; rfl
theorem isT_lst (ds : List PyData) : pIsI "tuple" (.list ds) = some (.bool false) := by show (L2.kitB "list" "tuple").map PyData.bool = _; rw [kit_l_tuple]; rfl
def tupB : PyData → Bool
  | .tuple _ => true
  | _ => false
theorem isT_any {k : Nat} {d : PyData} (h : Gd k d) : pIsI "tuple" d = some (.bool (tupB d)) := by
  cases h with
  | non => exact isT_non
  | bl b => exact isT_bl b
  | int i _ => exact isT_int i
  | str s _ => exact isT_str s
  | tup _ _ => exact isT_tuple _
  | lst _ _ => exact isT_lst _
/-! numbers -/
def numB (d : PyData) (lo hi : Int) : Bool := match d with
  | .int i => decide (lo ≤ i) && decide (i ≤ hi)
  | _ => false
theorem num_any {k : Nat} {d : PyData} (h : Gd k d) (lo hi : Int) : m_is_number d (.int lo) (.int hi) = some (.bool (numB d lo hi)) := by
  cases h with
  | int i _ => exact t_is_number i lo hi
  | non => unfold m_is_number; simp only [bs, isI_non, asB_bool, Bool.false_eq_true, if_false]; rfl
  | bl b => unfold m_is_number; simp only [bs, isI_bl, isB_bl, asB_bool, if_true, Bool.not_true, Bool.false_eq_true, if_false]; rfl
  | str s _ => unfold m_is_number; simp only [bs, isI_str, asB_bool, Bool.false_eq_true, if_false]; rfl
  | tup _ _ => unfold m_is_number; simp only [bs, isI_tup, asB_bool, Bool.false_eq_true, if_false]; rfl
  | lst _ _ => unfold m_is_number; simp only [bs, isI_lst, asB_bool, Bool.false_eq_true, if_false]; rfl
theorem lnum_any {k : Nat} {d : PyData} (h : Gd k d) (lo hi : Int) : m_law_number d (.int lo) (.int hi) = some (.bool (numB d lo hi)) := num_any h lo hi
/-! lists of truths -/
theorem pAll_bools (l : List PyData) (f : PyData → Bool) : pAll [.list (l.map fun p => .bool (f p))] = some (.bool (l.all f)) := by
  show (bolsOf (l.map fun p => PyData.bool (f p))).map _ = _
  rw [show (l.map fun p => PyData.bool (f p)) = (l.map f).map PyData.bool by rw [List.map_map]; rfl, bolsOf_map]
  show some (PyData.bool ((l.map f).all id)) = _
  rw [List.all_map]
  rfl
theorem compL_bools {f : PyData → Option PyData} {g : PyData → Bool} {ds : List PyData} (hz : ds.length ≤ 8000000) (h : ∀ d ∈ ds, f d = some (.bool (g d))) : compL (fun _ => some true) f ds = some (.list (ds.map fun p => .bool (g p))) := compL_map hz h
theorem filt_empty (ds : List PyData) (g : PyData → Bool) : (ds.filter fun d => !g d).isEmpty = ds.all g := by
  induction ds with
  | nil => rfl
  | cons d r ih =>
    cases h : g d with
    | true => rw [List.filter_cons_of_neg (by simp [h]), ih, List.all_cons, h]; rfl
    | false => rw [List.filter_cons_of_pos (by simp [h]), List.all_cons, h]; rfl
theorem eqv_nil (l : List PyData) : PyData.eqv (.list l) (.list []) = l.isEmpty := by
  cases l with
  | nil => rfl
  | cons _ _ => rfl
theorem compL_left {k : Nat} {t : PyData → Option Bool} {g : PyData → Bool} {ds : List PyData} (hk : k ≤ 60) (hz : ds.length ≤ 1000) (hg : ∀ d ∈ ds, Gd k d) (h : ∀ d ∈ ds, t d = some (!g d)) : ∃ l, compL t (fun d => some d) ds = some (.list l) ∧ pEq (.list l) (.list []) = some (.bool (ds.all g)) ∧ pNe (.list l) (.list []) = some (.bool (!ds.all g)) := by
  have e := compL_filt (c := fun d => !g d) (g := fun d => d) (f := fun d => some d) (ds := ds) (by omega) h (fun d _ _ => rfl)
  rw [List.map_id'] at e
  have s1 : SeqAt.shaped (.list (ds.filter fun d => !g d)) = true := (sh_list (k := k) fun d hd => (hg d (List.mem_filter.mp hd).1).sh).shaped (by omega)
  have s2 : SeqAt.shaped (.list []) = true := (sh_list (k := 0) (ds := []) fun d hd => by cases hd).shaped
  refine ⟨_, e, ?_, ?_⟩
  · unfold pEq
    rw [if_pos ⟨s1, s2⟩, eqv_nil, filt_empty]
  · unfold pNe
    rw [if_pos ⟨s1, s2⟩, eqv_nil, filt_empty]
/-! words -/
def wp (n : Int) (p : PyData) : Bool := numB p (1 - n) (n - 1) && (match p with
  | .int i => decide (i ≠ 0)
  | _ => false)
def wordB (n : Int) (d : PyData) : Bool := match d with
  | .tuple ds => ds.all (wp n)
  | _ => false
theorem numB_int {d : PyData} {lo hi : Int} (h : numB d lo hi = true) : ∃ i, d = .int i ∧ lo ≤ i ∧ i ≤ hi := by
  cases d <;> simp [numB] at h
  exact ⟨_, rfl, h.1, h.2⟩
theorem wp_false {n : Int} {p : PyData} (h : numB p (1 - n) (n - 1) = false) : wp n p = false := by unfold wp; rw [h]; rfl
theorem wp_int (n i : Int) (h : numB (.int i) (1 - n) (n - 1) = true) : wp n (.int i) = decide (i ≠ 0) := by unfold wp; rw [h]; rfl
theorem t_is_word {k : Nat} {d : PyData} (h : Gd k d) (n : Int) : m_is_word d (.int n) = some (.bool (wordB n d)) := by
  unfold m_is_word
  simp only [bs, isT_any h, asB_bool]
  cases h with
  | tup hl hd =>
    rename_i k ds
    rw [show (!tupB (.tuple ds)) = false from rfl, if_neg (by decide)]
    simp only [itemsOf_tuple, bs, pSub_int, ap3_mk]
    rw [compL_bools (g := wp n) (by omega) (fun p hp => by
      rw [num_any (hd p hp), bs, asB_bool, bs]
      cases hb : numB p (1 - n) (n - 1) with
      | true =>
        obtain ⟨i, rfl, h1, h2⟩ := numB_int hb
        rw [if_pos rfl, pNe_int, wp_int n i hb]
        refine congrArg (fun b => some (PyData.bool b)) ?_
        by_cases h0 : i = 0 <;> simp [h0]
      | false => rw [if_neg (by decide), wp_false hb])]
    simp only [bs, pAll_bools]
    rfl
  | _ => rfl
theorem t_law_is_word {k : Nat} (hk : k ≤ 60) {d : PyData} (h : Gd k d) (n : Int) : m_law_is_word d (.int n) = some (.bool (wordB n d)) := by
  unfold m_law_is_word
  simp only [bs, isT_any h, asB_bool]
  cases h with
  | tup hl hd =>
    rename_i k ds
    rw [show (!tupB (.tuple ds)) = false from rfl, if_neg (by decide)]
    simp only [itemsOf_tuple, bs, pSub_int, ap3_mk, mkLst_nil]
    obtain ⟨l, e1, e2, _⟩ := compL_left (k := k) (g := wp n) (ds := ds) (t := fun part_1 => (((m_law_number part_1 (PyData.int (1 - n)) (PyData.int (n - 1))).bind asB).bind fun c => some (!c)).bind fun c => if c = true then some true else (pEq part_1 (PyData.int 0)).bind asB) (by omega) hl hd (fun p hp => by
      rw [lnum_any (hd p hp), bs, asB_bool, bs, bs]
      cases hb : numB p (1 - n) (n - 1) with
      | true =>
        obtain ⟨i, rfl, h1, h2⟩ := numB_int hb
        rw [if_neg (by decide), pEq_int, bs, asB_bool, wp_int n i hb]
        refine congrArg some ?_
        by_cases h0 : i = 0 <;> simp [h0]
      | false => rw [wp_false hb]; rfl)
    rw [e1, bs, e2]
    rfl
  | _ => rfl
/-! orders -/
theorem perm_nodup : ∀ {l m : List Int}, l.Nodup → l.length = m.length → (∀ k ∈ l, k ∈ m) → l.Perm m
  | [], m, _, hl, _ => by
    have : m = [] := List.length_eq_zero_iff.mp hl.symm
    rw [this]
  | a :: l, m, hn, hl, h => by
    have ha : a ∈ m := h a List.mem_cons_self
    have hl' := List.nodup_cons.mp hn
    have := perm_nodup (l := l) (m := m.erase a) hl'.2 (by
      rw [List.length_erase_of_mem ha]
      rw [List.length_cons] at hl
      omega) (fun k hk => by
      have hk' := h k (List.mem_cons_of_mem _ hk)
      have ne : k ≠ a := fun z => hl'.1 (z ▸ hk)
      exact (List.mem_erase_of_ne ne).mpr hk')
    exact (this.cons a).trans (List.perm_cons_erase ha).symm
theorem upL_pw (a : Int) (n : Nat) : (upL a n).Pairwise (· ≤ ·) := by
  unfold upL
  rw [List.pairwise_map]
  refine List.Pairwise.imp (fun {i j} hij => ?_) List.pairwise_lt_range
  omega
theorem upL_nodup (a : Int) (n : Nat) : (upL a n).Nodup := by
  unfold upL
  rw [List.nodup_iff_pairwise_ne, List.pairwise_map]
  refine List.Pairwise.imp (fun {i j} hij => ?_) List.pairwise_lt_range
  omega
theorem dedup_iff {n : Nat} {ns : List Int} (hl : ns.length = n) (h : ∀ k ∈ ns, 1 ≤ k ∧ k ≤ (n : Int)) : (dedup ns).length = n ↔ ns.Perm (upL 1 n) := by
  have hdd := dedup_go ns [] List.nodup_nil
  have mem : ∀ k, k ∈ dedup ns ↔ k ∈ ns := fun k => by
    have := hdd.2 k
    show k ∈ ns.foldl _ [] ↔ _
    rw [this]
    simp
  constructor
  · intro e
    have p1 : (dedup ns).Perm ns := perm_nodup hdd.1 (by rw [hl]; exact e) fun k hk => (mem k).mp hk
    have p2 : (dedup ns).Perm (upL 1 n) := perm_nodup hdd.1 (by rw [upL_len]; exact e) fun k hk => mem_upL.mpr (by have := h k ((mem k).mp hk); omega)
    exact p1.symm.trans p2
  · intro p
    have nd : ns.Nodup := p.nodup_iff.mpr (upL_nodup 1 n)
    have := nodup_len hdd.1 nd mem
    rw [hl] at this
    exact this
theorem sort_iff {n : Nat} {ns : List Int} : sortI ns = upL 1 n ↔ ns.Perm (upL 1 n) := by
  constructor
  · intro e
    have := (sortI_perm ns).symm
    rwa [e] at this
  · intro p
    exact (sortI_eq p.symm (upL_pw 1 n)).symm
theorem ints_all : ∀ {ds : List PyData} {lo hi : Int}, ds.all (fun p => numB p lo hi) = true → ∃ ns : List Int, ds = ns.map .int ∧ ∀ k ∈ ns, lo ≤ k ∧ k ≤ hi
  | [], _, _, _ => ⟨[], rfl, fun k hk => by cases hk⟩
  | d :: r, lo, hi, h => by
    rw [List.all_cons, Bool.and_eq_true] at h
    obtain ⟨i, rfl, h1, h2⟩ := numB_int h.1
    obtain ⟨ns, rfl, h3⟩ := ints_all h.2
    refine ⟨i :: ns, rfl, fun k hk => ?_⟩
    rcases List.mem_cons.mp hk with rfl | hk
    · exact ⟨h1, h2⟩
    · exact h3 k hk
open Classical in
/-- an order, told of any thing -/
noncomputable def ordB (n : Nat) (d : PyData) : Bool := decide (∃ ns : List Int, d = tI ns ∧ ns.Perm (upL 1 n))
theorem perm_rng {n : Nat} {ns : List Int} (p : ns.Perm (upL 1 n)) : ns.length = n ∧ ∀ k ∈ ns, 1 ≤ k ∧ k ≤ (n : Int) := by
  refine ⟨by rw [p.length_eq, upL_len], fun k hk => ?_⟩
  have := mem_upL.mp (p.mem_iff.mp hk)
  omega
theorem tI_inj {l m : List Int} (h : tI l = tI m) : l = m := by
  have := eqv_tI l m
  rw [h] at this
  have r := eqv_tI m m
  rw [decide_eq_true rfl] at r
  rw [r] at this
  exact of_decide_eq_true this.symm
theorem numB_rng {n : Nat} {ns : List Int} (h : ∀ k ∈ ns, 1 ≤ k ∧ k ≤ (n : Int)) : (ns.map PyData.int).all (fun p => numB p 1 n) = true := by
  rw [List.all_eq_true]
  intro p hp
  obtain ⟨i, hi, rfl⟩ := List.mem_map.mp hp
  have := h i hi
  show (decide (1 ≤ i) && decide (i ≤ (n : Int))) = true
  rw [decide_eq_true this.1, decide_eq_true this.2]
  rfl
open Classical in
theorem t_is_order_any {k : Nat} {d : PyData} (h : Gd k d) (n : Nat) (hn : n ≤ 100) : m_is_order d (.int n) = some (.bool (ordB n d)) := by
  unfold m_is_order
  simp only [bs, isT_any h, asB_bool]
  have no : (¬ ∃ ns : List Int, d = tI ns ∧ ns.Perm (upL 1 n)) → some (PyData.bool false) = some (PyData.bool (ordB n d)) := fun z => by
    unfold ordB
    rw [decide_eq_false z]
  cases h with
  | tup hl hd =>
    rename_i k ds
    rw [show (!tupB (.tuple ds)) = false from rfl, if_neg (by decide)]
    simp only [pLen_tuple, bs, pNe_int, asB_bool, itemsOf_tuple, ap3_mk]
    by_cases hlen : (ds.length : Int) = n
    · rw [decide_eq_true hlen]
      rw [show (!true) = false from rfl, if_neg (by decide)]
      rw [compL_bools (g := fun p => numB p 1 n) (by omega) (fun p hp => num_any (hd p hp) 1 n)]
      simp only [bs, pAll_bools, asB_bool]
      cases hb : ds.all (fun p => numB p 1 n) with
      | true =>
        obtain ⟨ns, rfl, h3⟩ := ints_all hb
        rw [List.length_map] at hlen
        rw [if_pos rfl]
        have e : pLenSet (.tuple (ns.map .int)) = some (.int ((dedup ns).length : Nat)) := by
          show ((intsOf (ns.map .int)).bind _) = _
          rw [intsOf_map, bs, if_pos (by omega)]
          rfl
        rw [e, bs, pEq_int]
        unfold ordB
        refine congrArg (fun b => some (PyData.bool b)) ?_
        have iff := dedup_iff (n := n) (ns := ns) (by omega) h3
        by_cases hp : ns.Perm (upL 1 n)
        · rw [decide_eq_true (show ((dedup ns).length : Int) = n by rw [iff.mpr hp]), decide_eq_true ⟨ns, rfl, hp⟩]
        · rw [decide_eq_false (show ¬ ((dedup ns).length : Int) = n from fun z => hp (iff.mp (by omega))), decide_eq_false]
          rintro ⟨ms, e, hm⟩
          exact hp (tI_inj (l := ns) e ▸ hm)
      | false =>
        rw [if_neg (by decide)]
        refine no ?_
        rintro ⟨ns, e, hp⟩
        have e : ds = ns.map .int := by injection e
        rw [e, numB_rng (perm_rng hp).2] at hb
        cases hb
    · rw [decide_eq_false hlen]
      rw [show (!false) = true from rfl, if_pos rfl]
      refine no ?_
      rintro ⟨ns, e, hp⟩
      have e : ds = ns.map .int := by injection e
      rw [e, List.length_map, (perm_rng hp).1] at hlen
      exact hlen rfl
  | _ => exact no fun ⟨ns, e, _⟩ => by cases e
open Classical in
theorem t_law_is_order_any {k : Nat} (hk : k ≤ 60) {d : PyData} (h : Gd k d) (n : Nat) (hn : n ≤ 100) : m_law_is_order d (.int n) = some (.bool (ordB n d)) := by
  unfold m_law_is_order
  simp only [bs, isT_any h, asB_bool]
  have no : (¬ ∃ ns : List Int, d = tI ns ∧ ns.Perm (upL 1 n)) → some (PyData.bool false) = some (PyData.bool (ordB n d)) := fun z => by
    unfold ordB
    rw [decide_eq_false z]
  cases h with
  | tup hl hd =>
    rename_i k ds
    rw [show (!tupB (.tuple ds)) = false from rfl, if_neg (by decide)]
    simp only [pLen_tuple, bs, pNe_int, asB_bool, itemsOf_tuple, ap3_mk, mkLst_nil]
    by_cases hlen : (ds.length : Int) = n
    · rw [decide_eq_true hlen]
      rw [show (!true) = false from rfl, if_neg (by decide)]
      obtain ⟨l, e1, _, e3⟩ := compL_left (k := k) (g := fun p => numB p 1 n) (ds := ds) (t := fun part_1 => ((m_law_number part_1 (PyData.int 1) (PyData.int n)).bind asB).bind fun c => some (!c)) (by omega) hl hd (fun p hp => by
        rw [lnum_any (hd p hp), bs, asB_bool, bs])
      rw [e1, bs, e3, bs, asB_bool, bs]
      cases hb : ds.all (fun p => numB p 1 n) with
      | true =>
        obtain ⟨ns, rfl, h3⟩ := ints_all hb
        rw [List.length_map] at hlen
        rw [show (!true) = false from rfl, if_neg (by decide)]
        have e : pSorted [.tuple (ns.map .int)] = some (lI (sortI ns)) := by
          show (intsOf _).map _ = _
          rw [intsOf_map]
          rfl
        rw [e, bs]
        simp only [pAdd_int, bs, asI_int, ms]
        rw [if_pos (show rgSmall (1, (n : Int) + 1) from ⟨by show -100000 ≤ (1 : Int); decide, by show (1 : Int) ≤ 100000; decide, by show -100000 ≤ (n : Int) + 1; omega, by show (n : Int) + 1 ≤ 100000; omega⟩), bs]
        rw [show PyData.list (rgD 1 ((n : Int) + 1)) = lI (upL 1 n) by
          unfold rgD
          rw [intsUp_eq, show ((n : Int) + 1 - 1).toNat = n by omega]
          rfl, pEq_lI]
        unfold ordB
        refine congrArg (fun b => some (PyData.bool b)) ?_
        by_cases hp : ns.Perm (upL 1 n)
        · rw [decide_eq_true (sort_iff.mpr hp), decide_eq_true ⟨ns, rfl, hp⟩]
        · rw [decide_eq_false (fun z => hp (sort_iff.mp z)), decide_eq_false]
          rintro ⟨ms, e, hm⟩
          exact hp (tI_inj (l := ns) e ▸ hm)
      | false =>
        rw [show (!false) = true from rfl, if_pos rfl]
        refine no ?_
        rintro ⟨ns, e, hp⟩
        have e : ds = ns.map .int := by injection e
        rw [e, numB_rng (perm_rng hp).2] at hb
        cases hb
    · rw [decide_eq_false hlen]
      rw [show (!false) = true from rfl, if_pos rfl]
      refine no ?_
      rintro ⟨ns, e, hp⟩
      have e : ds = ns.map .int := by injection e
      rw [e, List.length_map, (perm_rng hp).1] at hlen
      exact hlen rfl
  | _ => exact no fun ⟨ns, e, _⟩ => by cases e
/-- an order of the list's own -/
def tups (n : Nat) : Nat → List (List Int)
  | 0 => [[]]
  | k + 1 => (tups n k).flatMap fun t => (upL 1 n).map fun x => x :: t
theorem mem_tups {n : Nat} : ∀ {l : List Int}, (∀ x ∈ l, x ∈ upL 1 n) → l ∈ tups n l.length
  | [], _ => List.mem_singleton.mpr rfl
  | x :: t, h => by
    show x :: t ∈ (tups n t.length).flatMap fun t => (upL 1 n).map fun x => x :: t
    exact List.mem_flatMap.mpr ⟨t, mem_tups fun y hy => h y (List.mem_cons_of_mem _ hy), List.mem_map.mpr ⟨x, h x List.mem_cons_self, rfl⟩⟩
theorem okO_tups : ∀ n ∈ [2, 3, 4, 5], ∀ o ∈ tups n n, o.Nodup → okO n o = true := by decide +kernel
theorem ord_perm {n : Nat} (hn : 2 ≤ n ∧ n ≤ 5) {o : List Int} (hp : o.Perm (upL 1 n)) : ∃ a : NF.Ord, In n a ∧ enc n a = tI o := by
  have hr := perm_rng hp
  have hm : o ∈ tups n n := by
    have := mem_tups (n := n) (l := o) fun x hx => hp.mem_iff.mp hx
    rwa [hr.1] at this
  have h := okO_tups n (by simp; omega) o hm (hp.nodup_iff.mpr (upL_nodup 1 n))
  have key : ∀ i : Int, 1 ≤ i ∧ i ≤ n → gOf n o (fOf n o i) = i ∧ fOf n o (gOf n o i) = i := fun i hi => by
    have := List.all_eq_true.mp h i (mem_upL.mpr (by omega))
    simp only [Bool.and_eq_true, decide_eq_true_eq] at this
    exact ⟨this.1.1.1.2, this.2⟩
  have out : ∀ i : Int, ¬ (1 ≤ i ∧ i ≤ n) → fOf n o i = i ∧ gOf n o i = i := fun i hi => by
    unfold fOf gOf
    rw [if_neg hi, if_neg hi]
    exact ⟨rfl, rfl⟩
  refine ⟨⟨fOf n o, gOf n o, fun i => ?_, fun i => ?_⟩, fun i hi => (out i (by omega)).1, ?_⟩
  · by_cases hi : 1 ≤ i ∧ i ≤ n
    · exact (key i hi).2
    · rw [(out i hi).2, (out i hi).1]
  · by_cases hi : 1 ≤ i ∧ i ≤ n
    · exact (key i hi).1
    · rw [(out i hi).1, (out i hi).2]
  · have hl := hr.1
    unfold enc
    refine congrArg tI (List.ext_getElem? fun j => ?_)
    by_cases hj : j < n
    · have e := upf_get n (fOf n o) (j : Int) (by omega)
      rw [Int.toNat_natCast] at e
      rw [e]
      unfold fOf
      rw [if_pos (by omega), show ((j : Int) + 1 - 1).toNat = j by omega, List.getD_eq_getElem?_getD, List.getElem?_eq_getElem (by omega)]
      rfl
    · rw [List.getElem?_eq_none (by rw [enc_len]; omega), List.getElem?_eq_none (by omega)]
theorem enc_perm {n : Nat} {a : NF.Ord} (ha : In n a) : ((upL 1 n).map a.f).Perm (upL 1 n) := perm_nodup (upf_nodup n a) (by rw [enc_len, upL_len]) fun k hk => by
  obtain ⟨i, hi, rfl⟩ := List.mem_map.mp hk
  have hi := mem_upL.mp hi
  have := ha.rng (i := i) (by omega)
  exact mem_upL.mpr (by omega)
end Thg
end
section
set_option linter.all false
set_option maxRecDepth 100000
set_option maxHeartbeats 4000000
namespace Tie
open PySem Mir
open DV hiding tI
/-! texts of words -/
theorem compM_over0 {ι : Type} {e g : ι → PyData} {f : PyData → Option PyData} : ∀ {L : List ι}, (∀ i ∈ L, f (e i) = some (g i)) → compM (fun _ => some true) f (L.map e) = some (L.map g)
  | [], _ => rfl
  | i :: L, h => by
    rw [List.map_cons]
    unfold compM
    rw [bs, if_pos rfl, h i List.mem_cons_self, bs, compM_over0 fun x hx => h x (List.mem_cons_of_mem _ hx)]
    rfl
theorem compL_over0 {ι : Type} {e g : ι → PyData} {f : PyData → Option PyData} {L : List ι} (hz : L.length ≤ 1000) (h : ∀ i ∈ L, f (e i) = some (g i)) : compL (fun _ => some true) f (L.map e) = some (.list (L.map g)) := by
  unfold compL
  rw [if_pos (show szOk (L.map e).length by rw [List.length_map]; exact Nat.le_trans hz (by decide)), compM_over0 h]
  rfl
def mkS (l : List Nat) : Str := ⟨l.toArray⟩
theorem mkS_app (l m : List Nat) : mkS l ++ mkS m = mkS (l ++ m) := TL.ext_tl (by rw [TL.tl_append]; rfl)
theorem mkS_len (l : List Nat) : (mkS l).length = l.length := by
  rw [TL.len_tl]
  rfl
theorem mkS_inj {l m : List Nat} (h : mkS l = mkS m) : l = m := by
  have := congrArg TL.tl h
  exact this
def small (l : List Nat) : Prop := ∀ c ∈ l, c < 1000
theorem strOk_mkS {l : List Nat} (h : small l) : PyData.strOk (mkS l) = true := by
  unfold PyData.strOk mkS
  rw [← Array.all_toList, List.all_eq_true]
  intro x hx
  have := h x (by simpa using hx)
  exact decide_eq_true (by omega)
theorem sh_str {l : List Nat} (h : small l) : Sh 1 (.str (mkS l)) := ⟨by simp [PyData.canLay0, strOk_mkS h], by simp [PyData.depth]⟩
theorem pEq_str {l m : List Nat} (h : small l) (k : small m) : pEq (.str (mkS l)) (.str (mkS m)) = some (.bool (decide (l = m))) := by
  have s1 : SeqAt.shaped (.str (mkS l)) = true := by unfold SeqAt.shaped; rw [(sh_str h).1]; exact decide_eq_true (by have := (sh_str h).2; omega)
  have s2 : SeqAt.shaped (.str (mkS m)) = true := by unfold SeqAt.shaped; rw [(sh_str k).1]; exact decide_eq_true (by have := (sh_str k).2; omega)
  unfold pEq
  rw [if_pos ⟨s1, s2⟩]
  show some (PyData.bool (mkS l == mkS m)) = _
  by_cases e : l = m
  · subst e
    simp
  · rw [decide_eq_false e]
    have : ¬ mkS l = mkS m := fun z => e (mkS_inj z)
    simp [this]
theorem pAdd_str {l m : List Nat} (h : l.length + m.length ≤ 8000000) : pAdd (.str (mkS l)) (.str (mkS m)) = some (.str (mkS (l ++ m))) := by
  show (if szOk ((mkS l).length + (mkS m).length) then some (PyData.str (mkS l ++ mkS m)) else none) = _
  rw [mkS_len, mkS_len, if_pos (show szOk _ from h), mkS_app]
/-- the code of a crossing's letter -/
def lc (p : Int) : Nat := if 0 < p then (96 + p).toNat else (64 - p).toNat
def Lt (p : Int) : Prop := p ≠ 0 ∧ -5 < p ∧ p < 5
theorem lt_cases {p : Int} (h : Lt p) : p = 1 ∨ p = 2 ∨ p = 3 ∨ p = 4 ∨ p = -1 ∨ p = -2 ∨ p = -3 ∨ p = -4 := by
  unfold Lt at h
  omega
theorem lc_small {p : Int} (h : Lt p) : lc p < 123 ∧ 64 < lc p := by
  unfold lc
  unfold Lt at h
  split <;> omega
theorem t_letter_of {p : Int} (h : Lt p) : m_letter_of (.int p) = some (.str (mkS [lc p])) := by
  rcases lt_cases h with rfl | rfl | rfl | rfl | rfl | rfl | rfl | rfl <;> rfl
theorem t_sign {p : Int} (h : Lt p) : pIdx (.str (" abcdDCBA" : Str)) (.int p) = some (.str (mkS [lc p])) := by
  rcases lt_cases h with rfl | rfl | rfl | rfl | rfl | rfl | rfl | rfl <;> rfl
def noneL : List Nat := [110, 111, 110, 101]
theorem noneS : ("none" : Str) = mkS noneL := rfl
theorem spaceS : (" " : Str) = mkS [32] := rfl
theorem emptyS : ("" : Str) = mkS [] := rfl
/-- the codes of a word's text -/
def wr (w : List Int) : List Nat := if w = [] then noneL else TL.joinL [32] (w.map fun p => [lc p])
def cat (w : List Int) : List Nat := w.flatMap fun p => [32, lc p]
theorem join_cat : ∀ {w : List Int}, w ≠ [] → 32 :: TL.joinL [32] (w.map fun p => [lc p]) = cat w
  | [], h => absurd rfl h
  | [p], _ => rfl
  | p :: q :: r, _ => by
    have ih := join_cat (w := q :: r) (by simp)
    show 32 :: ([lc p] ++ ([32] ++ TL.joinL [32] ((q :: r).map fun p => [lc p]))) = [32, lc p] ++ cat (q :: r)
    rw [← ih]
    rfl
theorem cat_len (w : List Int) : (cat w).length = 2 * w.length := by
  unfold cat
  induction w with
  | nil => rfl
  | cons p r ih =>
    rw [List.flatMap_cons, List.length_append, ih, List.length_cons]
    simp
    omega
theorem cat_small {w : List Int} (h : ∀ p ∈ w, Lt p) : small (cat w) := fun c hc => by
  obtain ⟨p, hp, hc⟩ := List.mem_flatMap.mp hc
  have := lc_small (h p hp)
  simp at hc
  omega
theorem wr_cat {w : List Int} (h : w ≠ []) : wr w = (cat w).drop 1 := by
  unfold wr
  rw [if_neg h, ← join_cat h]
  rfl
theorem wr_small {w : List Int} (h : ∀ p ∈ w, Lt p) : small (wr w) := by
  by_cases e : w = []
  · subst e
    show small noneL
    unfold small noneL
    decide
  · rw [wr_cat e]
    exact fun c hc => cat_small h c (List.mem_of_mem_drop hc)
theorem t_join {w : List Int} (hl : w.length ≤ 1000) : pJoin (.str (mkS [32])) (.list (w.map fun p => .str (mkS [lc p]))) = some (.str (mkS (TL.joinL [32] (w.map fun p => [lc p])))) := by
  show ((strsOf (w.map fun p => PyData.str (mkS [lc p]))).bind fun ys => if (ys.map (·.length)).sum + ys.length * (mkS [32]).length ≤ 16777216 then some (PyData.str (Txt.join (mkS [32]) ys)) else none) = _
  rw [show (w.map fun p => PyData.str (mkS [lc p])) = (w.map fun p => mkS [lc p]).map PyData.str by rw [List.map_map]; rfl, strsOf_map, bs, if_pos]
  · refine congrArg (fun z => some (PyData.str z)) (TL.ext_tl ?_)
    rw [TL.join_eq, TL.tl_join, List.map_map]
    rfl
  · have : ((w.map fun p => mkS [lc p]).map (·.length)).sum = w.length := by
      rw [List.map_map]
      induction w with
      | nil => rfl
      | cons p r ih =>
        rw [List.map_cons, List.sum_cons, ih (by rw [List.length_cons] at hl; omega), List.length_cons]
        show (mkS [lc p]).length + _ = _
        rw [mkS_len]
        simp
        omega
    rw [this, List.length_map, mkS_len]
    simp
    omega
theorem t_text_of {w : List Int} (h : ∀ p ∈ w, Lt p) (hl : w.length ≤ 1000) : m_text_of (tI w) = some (.str (mkS (wr w))) := by
  unfold m_text_of
  simp only [bs, pLen_tI, pEq_int, asB_bool, itemsOf_tI]
  by_cases e : w = []
  · subst e
    rfl
  · have : ¬ ((w.length : Int) = 0) := fun z => e (List.length_eq_zero_iff.mp (by omega))
    rw [decide_eq_false this, if_neg (by decide), compL_over0 hl fun p hp => by rw [ap1_mk, t_letter_of (h p hp)]]
    rw [bs, spaceS, t_join hl]
    unfold wr
    rw [if_neg e]
theorem t_law_written {w : List Int} (h : ∀ p ∈ w, Lt p) (hl : w.length ≤ 1000) : m_law_written (tI w) = some (.str (mkS (wr w))) := by
  unfold m_law_written
  simp only [bs, itemsOf_tI]
  refine bnd_of (foldlM_ix (fun i (a : PyData) => a = .str (mkS (cat (w.take i)))) (ns := w) rfl ?step) ?fin
  case step =>
    rintro i a k hk rfl
    have hkw := List.mem_of_getElem? hk
    have hil : i < w.length := (List.getElem?_eq_some_iff.mp hk).1
    have et : w.take (i + 1) = w.take i ++ [k] := by rw [List.take_add_one, hk]; rfl
    refine ⟨_, ?_, rfl⟩
    have cl : (cat (w.take i)).length ≤ 2000 := by
      rw [cat_len, List.length_take]
      omega
    have ec : cat (w.take i ++ [k]) = cat (w.take i) ++ [32] ++ [lc k] := by
      unfold cat
      rw [List.flatMap_append, List.append_assoc]
      rfl
    rw [et, ec, spaceS, pAdd_str (by simp; omega), bs, t_sign (h k hkw), bs, pAdd_str (by simp; omega), bs]
  case fin =>
    rintro a rfl
    rw [List.take_length]
    by_cases e : w = []
    · subst e
      rw [emptyS, pEq_str (cat_small h) (fun c hc => by cases hc), bs, asB_bool, bs, decide_eq_true (show cat [] = [] from rfl), if_pos rfl]
      rfl
    · have hne : ¬ cat w = [] := fun z => by
        have := cat_len w
        rw [z] at this
        exact e (List.length_eq_zero_iff.mp (by simp at this; omega))
      have cl := cat_len w
      rw [emptyS, pEq_str (cat_small h) (fun c hc => by cases hc), bs, asB_bool, bs, decide_eq_false hne, if_neg (by decide)]
      simp only [bs, asI_int, ms]
      show (if szOk (mkS (cat w)).length then some (PyData.str (L2.cutS (mkS (cat w)) (some 1) none)) else none) = _
      rw [mkS_len, if_pos (show szOk _ by show _ ≤ 8000000; omega), wr_cat e]
      refine congrArg (fun z => some (PyData.str z)) ?_
      unfold L2.cutS mkS
      have hp : 1 ≤ (cat w).length := by
        have : w.length ≠ 0 := fun z => e (List.length_eq_zero_iff.mp z)
        omega
      have e1 : HT.sIx (Str.length ⟨(cat w).toArray⟩) 0 (some 1) = 1 := by
        show HT.sIx (mkS (cat w)).length 0 (some 1) = 1
        rw [mkS_len]
        unfold HT.sIx
        simp
        omega
      rw [e1]
      show (⟨(((cat w).drop 1).take ((mkS (cat w)).length - 1)).toArray⟩ : Str) = _
      rw [mkS_len, List.take_of_length_le (by rw [List.length_drop]; omega)]
end Tie
end
section
set_option linter.all false
set_option maxRecDepth 100000
set_option maxHeartbeats 1000000
namespace Tie
open PySem Mir Thg
open DV hiding tI
/-! texts split and joined -/
def sm (l : List Nat) : Prop := ∀ c ∈ l, c < 128
theorem sm.small {l : List Nat} (h : sm l) : small l := fun c hc => Nat.lt_trans (h c hc) (by decide)
def sp : List Nat → List (List Nat)
  | [] => [[]]
  | c :: r => if c = 32 then [] :: sp r else match sp r with
    | [] => [[c]]
    | p :: ps => (c :: p) :: ps
theorem sp_ne : ∀ l, sp l ≠ []
  | [] => by simp [sp]
  | c :: r => by
    unfold sp
    split
    · simp
    · split <;> simp
theorem sp_join : ∀ l, TL.joinL [32] (sp l) = l
  | [] => rfl
  | c :: r => by
    have ih := sp_join r
    have hne := sp_ne r
    unfold sp
    split
    · rename_i h
      subst h
      cases hs : sp r with
      | nil => exact absurd hs hne
      | cons p ps =>
        rw [hs] at ih
        show [] ++ ([32] ++ TL.joinL [32] (p :: ps)) = _
        rw [ih]
        rfl
    · cases hs : sp r with
      | nil => exact absurd hs hne
      | cons p ps =>
        rw [hs] at ih
        cases ps with
        | nil => exact congrArg (fun z => c :: z) ih
        | cons q qs => exact congrArg (fun z => c :: z) ih
theorem sp_free : ∀ l, ∀ p ∈ sp l, 32 ∉ p
  | [], p, hp => by
    simp [sp] at hp
    subst hp
    simp
  | c :: r, p, hp => by
    have ih := sp_free r
    unfold sp at hp
    split at hp
    · rcases List.mem_cons.mp hp with rfl | hp
      · simp
      · exact ih p hp
    · rename_i hc
      split at hp
      · simp at hp
        subst hp
        simp
        omega
      · rename_i q qs hs
        rcases List.mem_cons.mp hp with rfl | hp
        · have := ih q (by rw [hs]; exact List.mem_cons_self)
          simp [this]
          omega
        · exact ih p (by rw [hs]; exact List.mem_cons_of_mem _ hp)
theorem sp_eq (l : List Nat) : TL.spl [32] 0 [] l = sp l := by
  have := TL.spl_join (s := 32) (S := []) (sp_ne l) (sp_free l)
  rw [sp_join] at this
  exact this
theorem sp_of_join {ps : List (List Nat)} (hne : ps ≠ []) (h : ∀ p ∈ ps, 32 ∉ p) : sp (TL.joinL [32] ps) = ps := by
  rw [← sp_eq]
  exact TL.spl_join hne h
theorem sp_mem : ∀ l, ∀ p ∈ sp l, ∀ c ∈ p, c ∈ l
  | [], p, hp, c, hc => by
    simp [sp] at hp
    subst hp
    cases hc
  | d :: r, p, hp, c, hc => by
    have ih := sp_mem r
    unfold sp at hp
    split at hp
    · rcases List.mem_cons.mp hp with rfl | hp
      · cases hc
      · exact List.mem_cons_of_mem _ (ih p hp c hc)
    · split at hp
      · simp at hp
        subst hp
        simp at hc
        subst hc
        exact List.mem_cons_self
      · rename_i q qs hs
        rcases List.mem_cons.mp hp with rfl | hp
        · rcases List.mem_cons.mp hc with rfl | hc
          · exact List.mem_cons_self
          · exact List.mem_cons_of_mem _ (ih q (by rw [hs]; exact List.mem_cons_self) c hc)
        · exact List.mem_cons_of_mem _ (ih p (by rw [hs]; exact List.mem_cons_of_mem _ hp) c hc)
/-- what parts weigh -/
def wt (ps : List (List Nat)) : Nat := (ps.map fun p => p.length + 1).sum
theorem wt_nil : wt [] = 0 := rfl
theorem wt_cons (p : List Nat) (ps : List (List Nat)) : wt (p :: ps) = p.length + 1 + wt ps := by
  unfold wt
  rw [List.map_cons, List.sum_cons]
theorem wt_app (ps qs : List (List Nat)) : wt (ps ++ qs) = wt ps + wt qs := by
  unfold wt
  rw [List.map_append, List.sum_append]
theorem wt_len (ps : List (List Nat)) : ps.length ≤ wt ps := by
  induction ps with
  | nil => exact Nat.le_refl _
  | cons p r ih =>
    rw [wt_cons, List.length_cons]
    omega
theorem wt_cut (ps : List (List Nat)) (k : Nat) : wt (ps.take k) + wt (ps.drop k) = wt ps := by
  rw [← wt_app, List.take_append_drop]
theorem join_len : ∀ {ps : List (List Nat)}, ps ≠ [] → (TL.joinL [32] ps).length + 1 = wt ps
  | [], h => absurd rfl h
  | [p], _ => by
    rw [wt_cons, wt_nil]
    rfl
  | p :: q :: r, _ => by
    have ih := join_len (ps := q :: r) (by simp)
    rw [wt_cons]
    show (p ++ ([32] ++ TL.joinL [32] (q :: r))).length + 1 = _
    rw [List.length_append, List.length_append]
    simp at ih ⊢
    omega
theorem join_len_le (ps : List (List Nat)) : (TL.joinL [32] ps).length ≤ wt ps := by
  by_cases h : ps = []
  · subst h
    exact Nat.le_refl _
  · have := join_len h
    omega
theorem sp_wt (l : List Nat) : wt (sp l) = l.length + 1 := by
  have := join_len (sp_ne l)
  rw [sp_join] at this
  omega
theorem join_mem : ∀ {ps : List (List Nat)} {c : Nat}, c ∈ TL.joinL [32] ps → c = 32 ∨ ∃ p ∈ ps, c ∈ p
  | [], c, h => by cases h
  | [p], c, h => .inr ⟨p, List.mem_cons_self, h⟩
  | p :: q :: r, c, h => by
    have h : c ∈ p ++ ([32] ++ TL.joinL [32] (q :: r)) := h
    rcases List.mem_append.mp h with h | h
    · exact .inr ⟨p, List.mem_cons_self, h⟩
    · rcases List.mem_append.mp h with h | h
      · simp at h
        exact .inl h
      · rcases join_mem h with h | ⟨x, hx, hc⟩
        · exact .inl h
        · exact .inr ⟨x, List.mem_cons_of_mem _ hx, hc⟩
theorem join_sm {ps : List (List Nat)} (h : ∀ p ∈ ps, sm p) : sm (TL.joinL [32] ps) := fun c hc => by
  rcases join_mem hc with rfl | ⟨p, hp, hc⟩
  · decide
  · exact h p hp c hc
/-- parts as data -/
abbrev pL (ps : List (List Nat)) : PyData := .list (ps.map fun p => .str (mkS p))
theorem pSplit_mkS {l : List Nat} (h : l.length ≤ 1000000) : pSplit (.str (mkS l)) (.str (" " : Str)) = some (pL (sp l)) := by
  show (if (((" " : Str).length == 0) = false ∧ (mkS l).length + 2 ≤ 8000000) then some (PyData.list ((Txt.split (mkS l) " ").map .str)) else none) = _
  rw [if_pos ⟨by decide, by rw [mkS_len]; omega⟩]
  have e : Txt.split (mkS l) (" " : Str) = (sp l).map mkS := by
    have := SX.split_S (a := l) (b := [32]) (by simp) (by decide)
    rw [sp_eq] at this
    exact this
  rw [e, List.map_map]
  rfl
theorem pJoin_pL {ps : List (List Nat)} (h : wt ps ≤ 1000000) : pJoin (.str (" " : Str)) (pL ps) = some (.str (mkS (TL.joinL [32] ps))) := by
  show ((strsOf (ps.map fun p => PyData.str (mkS p))).bind fun ys => if (ys.map (·.length)).sum + ys.length * (" " : Str).length ≤ 16777216 then some (PyData.str (Txt.join " " ys)) else none) = _
  rw [show (ps.map fun p => PyData.str (mkS p)) = (ps.map mkS).map PyData.str by rw [List.map_map]; rfl, strsOf_map, bs, if_pos]
  · refine congrArg (fun z => some (PyData.str z)) ?_
    exact SX.join_S [32] ps
  · have : ((ps.map mkS).map (·.length)).sum + ps.length = wt ps := by
      unfold wt
      rw [List.map_map]
      clear h
      induction ps with
      | nil => rfl
      | cons p r ih =>
        rw [List.map_cons, List.sum_cons, List.map_cons, List.sum_cons, ← ih, List.length_cons]
        show (mkS p).length + _ + _ = _
        rw [mkS_len]
        omega
    rw [List.length_map]
    have e1 : (" " : Str).length = 1 := by decide
    rw [e1]
    omega
theorem cutD_mid (ds : List PyData) (k : Nat) : cutD ds (some (k : Int)) (some ((k : Int) + 1)) = (ds.drop k).take 1 := by
  unfold cutD
  rw [HT.sIx_nat, show ((k : Int) + 1) = ((k + 1 : Nat) : Int) by omega, HT.sIx_nat]
  by_cases h : k < ds.length
  · rw [Nat.min_eq_left (by omega), Nat.min_eq_left (by omega)]
    congr 1
    omega
  · rw [Nat.min_eq_right (by omega), Nat.min_eq_right (by omega), List.drop_length, List.drop_eq_nil_of_le (by omega)]
    simp
theorem pL_to (ps : List (List Nat)) (k : Nat) : pCut (pL ps) none (some (k : Int)) = some (pL (ps.take k)) := by
  rw [pCut_list, cutD_to _ _ (by omega), Int.toNat_natCast, ← List.map_take]
theorem pL_from (ps : List (List Nat)) (k : Int) (h : 0 ≤ k) : pCut (pL ps) (some k) none = some (pL (ps.drop k.toNat)) := by
  rw [pCut_list, cutD_from _ _ h, ← List.map_drop]
theorem pL_mid (ps : List (List Nat)) (k : Nat) : pCut (pL ps) (some (k : Int)) (some ((k : Int) + 1)) = some (pL ((ps.drop k).take 1)) := by
  rw [pCut_list, cutD_mid, ← List.map_drop, ← List.map_take]
theorem pL_app {ps qs : List (List Nat)} (h : ps.length + qs.length ≤ 1000000) : pAdd (pL ps) (pL qs) = some (pL (ps ++ qs)) := by
  rw [pAdd_lst (by rw [List.length_map, List.length_map]; omega), ← List.map_append]
theorem cutS_to {l : List Nat} (k : Nat) (h : l.length ≤ 1000000) : pCut (.str (mkS l)) none (some (k : Int)) = some (.str (mkS (l.take k))) := by
  show (if szOk (mkS l).length then some (PyData.str (L2.cutS (mkS l) none (some (k : Int)))) else none) = _
  rw [mkS_len, if_pos (show szOk _ by show _ ≤ 8000000; omega)]
  refine congrArg (fun z => some (PyData.str z)) ?_
  unfold L2.cutS
  rw [HT.sIx_none, HT.sIx_nat, mkS_len]
  show mkS ((l.drop 0).take (min k l.length - 0)) = _
  rw [List.drop_zero, Nat.sub_zero]
  refine congrArg mkS ?_
  by_cases h : k ≤ l.length
  · rw [Nat.min_eq_left h]
  · rw [Nat.min_eq_right (by omega), List.take_of_length_le (by omega), List.take_of_length_le (by omega)]
theorem cutS_from {l : List Nat} (k : Int) (h0 : 0 ≤ k) (h : l.length ≤ 1000000) : pCut (.str (mkS l)) (some k) none = some (.str (mkS (l.drop k.toNat))) := by
  show (if szOk (mkS l).length then some (PyData.str (L2.cutS (mkS l) (some k) none)) else none) = _
  rw [mkS_len, if_pos (show szOk _ by show _ ≤ 8000000; omega)]
  refine congrArg (fun z => some (PyData.str z)) ?_
  obtain ⟨j, rfl⟩ := Int.eq_ofNat_of_zero_le h0
  unfold L2.cutS
  rw [HT.sIx_nat, mkS_len]
  show mkS ((l.drop (min j l.length)).take (l.length - min j l.length)) = _
  refine congrArg mkS ?_
  rw [Int.toNat_natCast]
  by_cases h : j ≤ l.length
  · rw [Nat.min_eq_left h, List.take_of_length_le (by rw [List.length_drop]; omega)]
  · rw [Nat.min_eq_right (by omega), List.drop_eq_nil_of_le (by omega), List.drop_eq_nil_of_le (by omega)]
    simp
theorem pLen_mkS {l : List Nat} (h : l.length ≤ 1000000) : pLen [.str (mkS l)] = some (.int (l.length : Nat)) := by
  show (if szOk (mkS l).length then some (PyData.int ((mkS l).length : Nat)) else none) = _
  rw [mkS_len, if_pos (show szOk _ by show _ ≤ 8000000; omega)]
/-! letters read -/
def chk (c : Nat) : Bool := match m_part_of (.str (mkS [c])) with
  | some (.ex .noText) => true
  | some (.ok (.int q)) => decide (q ≠ 0) && decide (-5 < q) && decide (q < 5) && (lc q == c)
  | _ => false
theorem chk_all : (List.range 128).all chk = true := by decide +kernel
theorem t_part1 {c : Nat} (h : c < 128) : m_part_of (.str (mkS [c])) = some (.ex .noText) ∨ ∃ q, Lt q ∧ c = lc q ∧ m_part_of (.str (mkS [c])) = some (.ok (.int q)) := by
  have := List.all_eq_true.mp chk_all c (List.mem_range.mpr h)
  unfold chk at this
  split at this
  · exact .inl ‹_›
  · rename_i q e
    simp only [Bool.and_eq_true, decide_eq_true_eq, beq_iff_eq] at this
    exact .inr ⟨q, ⟨this.1.1.1, this.1.1.2, this.1.2⟩, this.2.symm, e⟩
  · cases this
theorem t_part_of {p : List Nat} (h : sm p) (hl : p.length ≤ 1000000) : m_part_of (.str (mkS p)) = some (.ex .noText) ∨ ∃ q, Lt q ∧ p = [lc q] ∧ m_part_of (.str (mkS p)) = some (.ok (.int q)) := by
  by_cases h1 : p.length = 1
  · match p, h1 with
    | [c], _ =>
      rcases t_part1 (h c List.mem_cons_self) with e | ⟨q, hq, e1, e2⟩
      · exact .inl e
      · exact .inr ⟨q, hq, by rw [e1], e2⟩
  · left
    unfold m_part_of
    simp only [bs, pLen_mkS hl, pNe_int, asB_bool]
    rw [decide_eq_false (by omega)]
    rfl
theorem lc_inj {p q : Int} (hp : Lt p) (hq : Lt q) (h : lc p = lc q) : p = q := by
  unfold lc at h
  unfold Lt at hp hq
  split at h <;> split at h <;> omega
def chk2 (q : Int) : Bool := match m_part_of (.str (mkS [lc q])) with
  | some (.ok (.int p)) => decide (p = q)
  | _ => false
theorem chk2_all : ([1, 2, 3, 4, -1, -2, -3, -4] : List Int).all chk2 = true := by decide +kernel
theorem t_part_lc {q : Int} (hq : Lt q) : m_part_of (.str (mkS [lc q])) = some (.ok (.int q)) := by
  have h : q ∈ ([1, 2, 3, 4, -1, -2, -3, -4] : List Int) := by
    rcases lt_cases hq with rfl | rfl | rfl | rfl | rfl | rfl | rfl | rfl <;> decide
  have := List.all_eq_true.mp chk2_all q h
  unfold chk2 at this
  split at this
  · rename_i p e
    rw [e, of_decide_eq_true this]
  · cases this
def lw (w : List Int) : List (List Nat) := w.map fun p => [lc p]
theorem compX_good : ∀ {w : List Int}, (∀ p ∈ w, Lt p) → compX (fun d => m_part_of d) ((lw w).map fun p => .str (mkS p)) = some (.inr (w.map .int))
  | [], _ => rfl
  | q :: w, h => by
    show compX (fun d => m_part_of d) (.str (mkS [lc q]) :: ((lw w).map fun p => .str (mkS p))) = _
    unfold compX
    rw [t_part_lc (h q List.mem_cons_self), bs]
    show (compX (fun d => m_part_of d) ((lw w).map fun p => .str (mkS p))).map _ = _
    rw [compX_good fun p hp => h p (List.mem_cons_of_mem _ hp)]
    rfl
theorem compX_any : ∀ {ps : List (List Nat)}, (∀ p ∈ ps, sm p ∧ p.length ≤ 1000000) → compX (fun d => m_part_of d) (ps.map fun p => .str (mkS p)) = some (.inl .noText) ∨ ∃ w, (∀ p ∈ w, Lt p) ∧ ps = lw w
  | [], _ => .inr ⟨[], fun p hp => (by cases hp), rfl⟩
  | p :: ps, h => by
    rw [List.map_cons]
    rcases t_part_of (h p List.mem_cons_self).1 (h p List.mem_cons_self).2 with e | ⟨q, hq, e1, e2⟩
    · left
      unfold compX
      rw [e, bs]
    · rcases compX_any (ps := ps) fun x hx => h x (List.mem_cons_of_mem _ hx) with e | ⟨w, hw, e⟩
      · left
        unfold compX
        rw [e2, bs]
        show (compX (fun d => m_part_of d) (ps.map fun p => .str (mkS p))).map _ = _
        rw [e]
        rfl
      · right
        refine ⟨q :: w, fun x hx => ?_, by rw [e1, e]; rfl⟩
        rcases List.mem_cons.mp hx with rfl | hx
        · exact hq
        · exact hw x hx
theorem compXL_pL {ps : List (List Nat)} (h : ps.length ≤ 1000000) : compXL (fun d => m_part_of d) (ps.map fun p => .str (mkS p)) = (compX (fun d => m_part_of d) (ps.map fun p => .str (mkS p))).map compXf := by
  unfold compXL
  rw [if_pos (show szOk _ by rw [List.length_map]; show _ ≤ 8000000; omega)]
theorem gd_word {w : List Int} (h : ∀ p ∈ w, Lt p) (hl : w.length ≤ 1000) : Gd 2 (tI w) := .tup (by rw [List.length_map]; exact hl) fun d hd => by
  obtain ⟨p, hp, rfl⟩ := List.mem_map.mp hd
  have := h p hp
  unfold Lt at this
  exact .int p (by omega)
theorem pNe_str {l m : List Nat} (h : small l) (k : small m) : pNe (.str (mkS l)) (.str (mkS m)) = some (.bool (!decide (l = m))) := by
  have e := pEq_str h k
  unfold pEq at e
  unfold pNe
  split at e
  · rename_i hh
    rw [if_pos hh]
    have : PyData.eqv (.str (mkS l)) (.str (mkS m)) = decide (l = m) := by
      have e := Option.some.inj e
      exact PyData.bool.inj e
    rw [this]
  · cases e
theorem isStr (s : Str) : pIsI "str" (.str s) = some (.bool true) := by show (L2.kitB "str" "str").map PyData.bool = _; rw [show L2.kitB "str" "str" = some true by decide +kernel]; rfl
theorem noneSm : sm noneL := by unfold sm noneL; decide
theorem wr_sm {w : List Int} (h : ∀ p ∈ w, Lt p) : sm (wr w) := by
  by_cases e : w = []
  · subst e
    exact noneSm
  · rw [wr_cat e]
    intro c hc
    have hc := List.mem_of_mem_drop hc
    obtain ⟨p, hp, hc⟩ := List.mem_flatMap.mp hc
    have := lc_small (h p hp)
    simp at hc
    omega
def rEnd (l : List Nat) (n : Int) (found_3 : PyData) : Option Rx := (((((((some found_3).bind fun d => ((some (PyData.int n)).bind fun d => (some []).bind fun ds => some (d :: ds)).bind fun ds => some (d :: ds)).bind (ap2 m_is_word)).bind asB).bind fun c => some (!c)).bind fun c => if c = true then some true else ((((some found_3).bind fun d => (some []).bind fun ds => some (d :: ds)).bind (ap1 m_text_of)).bind fun x => (some (PyData.str (mkS l))).bind fun y => (pNe x y).bind asB)).bind fun b => if b = true then (some (Rx.ex .noText)) else ((some found_3).map Rx.ok))
theorem read_end {w : List Int} {l : List Nat} {n : Int} (h : ∀ p ∈ w, Lt p) (hl : w.length ≤ 1000) (e : wr w = l) : rEnd l n (tI w) = some (if wordB n (tI w) = true then .ok (tI w) else .ex .noText) := by
  unfold rEnd
  simp only [bs, ap2_mk, t_is_word (gd_word h hl), asB_bool, ap1_mk, t_text_of h hl]
  cases hw : wordB n (tI w) with
  | false => rfl
  | true =>
    subst e
    rw [show (!true) = false from rfl, if_neg (by decide), pNe_str (wr_small h) (wr_small h), bs, asB_bool, bs, decide_eq_true rfl]
    rfl
theorem read_none (n : Int) : m_read (.str (mkS noneL)) (.int n) = some (.ok (tI [])) := by
  have e := read_end (w := []) (l := noneL) (n := n) (fun p hp => by cases hp) (by decide) rfl
  unfold m_read
  rw [bs, isStr, bs, asB_bool, bs, bs, show (!true) = false from rfl, if_neg (by decide), bs, show mkTup [] = some (tI []) from rfl, bs, bs, bs, noneS, pNe_str noneSm.small noneSm.small, bs, asB_bool, bs, decide_eq_true rfl, show (!true) = false from rfl, if_neg (by decide)]
  exact e
theorem read_key {l : List Nat} (n : Int) (hs : sm l) (hl : l.length ≤ 900) (hn : l ≠ noneL) : m_read (.str (mkS l)) (.int n) = (((compX (fun d => m_part_of d) ((sp l).map fun p => .str (mkS p))).map compXf).bind (Rx.andThen fun d => (pTuple [d]).map Rx.ok)).bind (Rx.andThen (rEnd l n)) := by
  have hw := sp_wt l
  have hlen := wt_len (sp l)
  rw [← compXL_pL (by omega)]
  unfold m_read
  rw [bs, isStr, bs, asB_bool, bs, bs, show (!true) = false from rfl, if_neg (by decide), bs, show mkTup [] = some (tI []) from rfl, bs, bs, bs, noneS, pNe_str hs.small noneSm.small, bs, asB_bool, bs, decide_eq_false hn, show (!false) = true from rfl, if_pos rfl, bs, bs, pSplit_mkS (by omega), bs, itemsOf_list, bs]
  rfl
theorem read_else {l : List Nat} (n : Int) (hs : sm l) (hl : l.length ≤ 900) (hn : l ≠ noneL) : (compX (fun d => m_part_of d) ((sp l).map fun p => .str (mkS p)) = some (.inl .noText) ∧ m_read (.str (mkS l)) (.int n) = some (.ex .noText)) ∨ ∃ w, (∀ p ∈ w, Lt p) ∧ w ≠ [] ∧ sp l = lw w ∧ wr w = l ∧ w.length ≤ 1000 ∧ m_read (.str (mkS l)) (.int n) = some (if wordB n (tI w) = true then .ok (tI w) else .ex .noText) := by
  have hw := sp_wt l
  have hlen := wt_len (sp l)
  have key := read_key n hs hl hn
  have hall : ∀ p ∈ sp l, sm p ∧ p.length ≤ 1000000 := fun p hp => by
    refine ⟨fun c hc => hs c (sp_mem l p hp c hc), ?_⟩
    have : p.length + 1 ≤ wt (sp l) := by
      obtain ⟨a, b, e⟩ := List.append_of_mem hp
      rw [e, wt_app, wt_cons]
      omega
    omega
  rcases compX_any hall with e | ⟨w, hw1, e⟩
  · left
    refine ⟨e, ?_⟩
    rw [key, e]
    rfl
  · right
    have hne : w ≠ [] := fun z => by
      subst z
      exact sp_ne l e
    have hj : wr w = l := by
      unfold wr
      rw [if_neg hne]
      show TL.joinL [32] (lw w) = l
      rw [← e, sp_join]
    have hwl : w.length ≤ 1000 := by
      have e2 : (sp l).length = w.length := by rw [e]; exact List.length_map _
      omega
    refine ⟨w, hw1, hne, e, hj, hwl, ?_⟩
    rw [key, e, compX_good hw1]
    exact read_end hw1 hwl hj
theorem wr_ne {w : List Int} (h : ∀ p ∈ w, Lt p) (hne : w ≠ []) : wr w ≠ noneL := fun z => by
  have e1 : sp (wr w) = lw w := by
    unfold wr
    rw [if_neg hne]
    refine sp_of_join (by simpa [lw] using hne) fun p hp => ?_
    obtain ⟨q, hq, rfl⟩ := List.mem_map.mp hp
    have := lc_small (h q hq)
    simp
    omega
  rw [z] at e1
  have e2 : sp noneL = [noneL] := rfl
  rw [e2] at e1
  cases w with
  | nil => exact hne rfl
  | cons p r =>
    have := congrArg List.length (List.cons.inj e1).1
    cases this
theorem lw_inj : ∀ {w v : List Int}, (∀ p ∈ w, Lt p) → (∀ p ∈ v, Lt p) → lw w = lw v → w = v
  | [], [], _, _, _ => rfl
  | [], _ :: _, _, _, e => by cases e
  | _ :: _, [], _, _, e => by cases e
  | p :: r, q :: s, h, hv, e => by
    have h1 := List.cons.inj e
    have hh : lc p = lc q := (List.cons.inj h1.1).1
    have hpq := lc_inj (h p List.mem_cons_self) (hv q List.mem_cons_self) hh
    rw [lw_inj (fun x hx => h x (List.mem_cons_of_mem _ hx)) (fun x hx => hv x (List.mem_cons_of_mem _ hx)) h1.2, hpq]
theorem read_word {w : List Int} (n : Int) (h : ∀ p ∈ w, Lt p) (hl : w.length ≤ 400) (hw : wordB n (tI w) = true) : m_read (.str (mkS (wr w))) (.int n) = some (.ok (tI w)) := by
  by_cases hne : w = []
  · subst hne
    exact read_none n
  · have hlen : (wr w).length ≤ 900 := by
      rw [wr_cat hne, List.length_drop, cat_len]
      omega
    have e1 : sp (wr w) = lw w := by
      unfold wr
      rw [if_neg hne]
      refine sp_of_join (by simpa [lw] using hne) fun p hp => ?_
      obtain ⟨q, hq, rfl⟩ := List.mem_map.mp hp
      have := lc_small (h q hq)
      simp
      omega
    rcases read_else n (wr_sm h) hlen (wr_ne h hne) with ⟨e, _⟩ | ⟨v, hv, hv0, e2, e3, e4, e5⟩
    · rw [e1, compX_good h] at e
      cases e
    · have : v = w := (lw_inj h hv (e1.symm.trans e2)).symm
      subst this
      rw [e5, if_pos hw]
end Tie
end
section
set_option Elab.async false
set_option linter.all false
set_option maxRecDepth 100000
set_option maxHeartbeats 4000000
namespace K03
open PySem PySem.Spec PyProof.Rows L2 DV Mir
def topS (i : Nat) : Stmt := PySem.Challenge.pw_strandhall_k03_whole_read.main.body.getD i (.Pass ⟨0, 0, 0, 0⟩)
abbrev s_is_number : Stmt := topS 5
abbrev s_is_word : Stmt := topS 6
abbrev s_letter_of : Stmt := topS 10
abbrev s_text_of : Stmt := topS 11
abbrev s_part_of : Stmt := topS 13
abbrev s_read : Stmt := topS 14
abbrev s_law_cell_at : Stmt := topS 16
abbrev s_law_mixed : Stmt := topS 17
abbrev s_law_drawn : Stmt := topS 18
abbrev s_law_word : Stmt := topS 19
abbrev s_law_number : Stmt := topS 20
abbrev s_law_is_word : Stmt := topS 21
abbrev s_law_written : Stmt := topS 22
abbrev s_law_changed : Stmt := topS 23
abbrev s_law_found : Stmt := topS 24
abbrev s_law : Stmt := topS 25
abbrev N_is_number : List Str := ["thing", "low", "high"]
theorem sc_is_number : FnScope N_is_number ["thing", "low", "high"] (defScope s_is_number) := ⟨rfl, rfl, rfl, by decide +kernel, rfl, by decide +kernel, by decide +kernel⟩
abbrev N_is_word : List Str := ["thing", "many", "part"]
theorem sc_is_word : FnScope N_is_word ["thing", "many"] (defScope s_is_word) := ⟨rfl, rfl, rfl, by decide +kernel, rfl, by decide +kernel, by decide +kernel⟩
abbrev N_letter_of : List Str := ["part"]
theorem sc_letter_of : FnScope N_letter_of ["part"] (defScope s_letter_of) := ⟨rfl, rfl, rfl, by decide +kernel, rfl, by decide +kernel, by decide +kernel⟩
abbrev N_text_of : List Str := ["word", "part"]
theorem sc_text_of : FnScope N_text_of ["word"] (defScope s_text_of) := ⟨rfl, rfl, rfl, by decide +kernel, rfl, by decide +kernel, by decide +kernel⟩
abbrev N_part_of : List Str := ["letter"]
theorem sc_part_of : FnScope N_part_of ["letter"] (defScope s_part_of) := ⟨rfl, rfl, rfl, by decide +kernel, rfl, by decide +kernel, by decide +kernel⟩
abbrev N_read : List Str := ["text", "many", "found", "letter"]
theorem sc_read : FnScope N_read ["text", "many"] (defScope s_read) := ⟨rfl, rfl, rfl, by decide +kernel, rfl, by decide +kernel, by decide +kernel⟩
abbrev N_law_cell_at : List Str := ["script", "k"]
theorem sc_law_cell_at : FnScope N_law_cell_at ["script", "k"] (defScope s_law_cell_at) := ⟨rfl, rfl, rfl, by decide +kernel, rfl, by decide +kernel, by decide +kernel⟩
abbrev N_law_mixed : List Str := ["script", "k", "drawn"]
theorem sc_law_mixed : FnScope N_law_mixed ["script", "k"] (defScope s_law_mixed) := ⟨rfl, rfl, rfl, by decide +kernel, rfl, by decide +kernel, by decide +kernel⟩
abbrev N_law_drawn : List Str := ["number", "k", "drawn"]
theorem sc_law_drawn : FnScope N_law_drawn ["number", "k"] (defScope s_law_drawn) := ⟨rfl, rfl, rfl, by decide +kernel, rfl, by decide +kernel, by decide +kernel⟩
abbrev N_law_word : List Str := ["number", "many", "most", "found", "k", "drawn"]
theorem sc_law_word : FnScope N_law_word ["number", "many", "most"] (defScope s_law_word) := ⟨rfl, rfl, rfl, by decide +kernel, rfl, by decide +kernel, by decide +kernel⟩
abbrev N_law_number : List Str := ["thing", "low", "high"]
theorem sc_law_number : FnScope N_law_number ["thing", "low", "high"] (defScope s_law_number) := ⟨rfl, rfl, rfl, by decide +kernel, rfl, by decide +kernel, by decide +kernel⟩
abbrev N_law_is_word : List Str := ["thing", "many", "part"]
theorem sc_law_is_word : FnScope N_law_is_word ["thing", "many"] (defScope s_law_is_word) := ⟨rfl, rfl, rfl, by decide +kernel, rfl, by decide +kernel, by decide +kernel⟩
abbrev N_law_written : List Str := ["word", "found", "part"]
theorem sc_law_written : FnScope N_law_written ["word"] (defScope s_law_written) := ⟨rfl, rfl, rfl, by decide +kernel, rfl, by decide +kernel, by decide +kernel⟩
abbrev N_law_changed : List Str := ["text", "number", "words", "at", "place", "kind", "sign", "swapped", "some"]
theorem sc_law_changed : FnScope N_law_changed ["text", "number"] (defScope s_law_changed) := ⟨rfl, rfl, rfl, by decide +kernel, rfl, by decide +kernel, by decide +kernel⟩
abbrev N_law_found : List Str := ["text", "many", "found", "e", "good"]
theorem sc_law_found : FnScope N_law_found ["text", "many"] (defScope s_law_found) := ⟨rfl, rfl, rfl, by decide +kernel, rfl, by decide +kernel, by decide +kernel⟩
abbrev N_law : List Str := ["script", "many", "word", "first", "number", "text", "k", "found"]
theorem sc_law : FnScope N_law ["script"] (defScope s_law) := ⟨rfl, rfl, rfl, by decide +kernel, rfl, by decide +kernel, by decide +kernel⟩
/-! mirrors -/
def m_law_changed (text number : PyData) : Option PyData :=
  (((some text).bind fun x => (some (PyData.str (" " : Str))).bind fun y => pSplit x y).bind fun words_1 => ((((some number).bind fun x => (some (PyData.int 8)).bind fun y => pFdiv x y).bind fun x => (((some words_1).bind fun d => (some []).bind fun ds => some (d :: ds)).bind pLen).bind fun y => pMod x y).bind fun at__2 => ((((some number).bind fun x => (some (PyData.int 8)).bind fun y => pFdiv x y).bind fun x => ((((some text).bind fun d => (some []).bind fun ds => some (d :: ds)).bind pLen).bind fun x => (some (PyData.int 1)).bind fun y => pAdd x y).bind fun y => pMod x y).bind fun place_3 => (((some number).bind fun x => (some (PyData.int 8)).bind fun y => pMod x y).bind fun kind_4 => (((some kind_4).bind fun x => (some (PyData.int 0)).bind fun y => (pEq x y).bind asB).bind fun b => if b = true then (((some text).bind fun d => (some none).bind fun l => ((some place_3).bind fun d => (asI d).map some).bind fun h => pCut d l h).bind fun x => ((some text).bind fun d => (((some place_3).bind fun x => (some (PyData.int 1)).bind fun y => pAdd x y).bind fun d => (asI d).map some).bind fun l => (some none).bind fun h => pCut d l h).bind fun y => pAdd x y) else (((some kind_4).bind fun x => (some (PyData.int 3)).bind fun y => (pLt x y).bind asB).bind fun b => if b = true then (((some (PyData.str (" abdABDeE1\n\t" : Str))).bind fun x => (((some number).bind fun x => (some (PyData.int 7)).bind fun y => pFdiv x y).bind fun x => (some (PyData.int 12)).bind fun y => pMod x y).bind fun y => pIdx x y).bind fun sign_5 => ((((some text).bind fun d => (some none).bind fun l => ((some place_3).bind fun d => (asI d).map some).bind fun h => pCut d l h).bind fun x => (some sign_5).bind fun y => pAdd x y).bind fun x => ((some text).bind fun d => ((((some place_3).bind fun x => (some kind_4).bind fun y => pAdd x y).bind fun x => (some (PyData.int 1)).bind fun y => pSub x y).bind fun d => (asI d).map some).bind fun l => (some none).bind fun h => pCut d l h).bind fun y => pAdd x y)) else (((some kind_4).bind fun x => (some (PyData.int 3)).bind fun y => (pEq x y).bind asB).bind fun b => if b = true then ((some (PyData.str (" " : Str))).bind fun x => (((some words_1).bind fun d => (some none).bind fun l => ((some at__2).bind fun d => (asI d).map some).bind fun h => pCut d l h).bind fun x => ((some words_1).bind fun d => (((some at__2).bind fun x => (some (PyData.int 1)).bind fun y => pAdd x y).bind fun d => (asI d).map some).bind fun l => (some none).bind fun h => pCut d l h).bind fun y => pAdd x y).bind fun y => pJoin x y) else (((some kind_4).bind fun x => (some (PyData.int 4)).bind fun y => (pEq x y).bind asB).bind fun b => if b = true then ((some (PyData.str (" " : Str))).bind fun x => ((((some words_1).bind fun d => (some none).bind fun l => ((some at__2).bind fun d => (asI d).map some).bind fun h => pCut d l h).bind fun x => ((some words_1).bind fun d => ((some at__2).bind fun d => (asI d).map some).bind fun l => (((some at__2).bind fun x => (some (PyData.int 1)).bind fun y => pAdd x y).bind fun d => (asI d).map some).bind fun h => pCut d l h).bind fun y => pAdd x y).bind fun x => ((some words_1).bind fun d => ((some at__2).bind fun d => (asI d).map some).bind fun l => (some none).bind fun h => pCut d l h).bind fun y => pAdd x y).bind fun y => pJoin x y) else (((some kind_4).bind fun x => (some (PyData.int 5)).bind fun y => (pEq x y).bind asB).bind fun b => if b = true then ((((some words_1).bind fun d => (((some at__2).bind fun x => (some (PyData.int 1)).bind fun y => pAdd x y).bind fun d => (asI d).map some).bind fun l => (((some at__2).bind fun x => (some (PyData.int 2)).bind fun y => pAdd x y).bind fun d => (asI d).map some).bind fun h => pCut d l h).bind fun x => ((some words_1).bind fun d => ((some at__2).bind fun d => (asI d).map some).bind fun l => (((some at__2).bind fun x => (some (PyData.int 1)).bind fun y => pAdd x y).bind fun d => (asI d).map some).bind fun h => pCut d l h).bind fun y => pAdd x y).bind fun swapped_6 => ((some (PyData.str (" " : Str))).bind fun x => ((((some words_1).bind fun d => (some none).bind fun l => ((some at__2).bind fun d => (asI d).map some).bind fun h => pCut d l h).bind fun x => (some swapped_6).bind fun y => pAdd x y).bind fun x => ((some words_1).bind fun d => (((some at__2).bind fun x => (some (PyData.int 2)).bind fun y => pAdd x y).bind fun d => (asI d).map some).bind fun l => (some none).bind fun h => pCut d l h).bind fun y => pAdd x y).bind fun y => pJoin x y)) else (((some (PyData.str ("none a b c d A B C D e 1 aa" : Str))).bind fun x => (some (PyData.str (" " : Str))).bind fun y => pSplit x y).bind fun some__7 => ((some (PyData.str (" " : Str))).bind fun x => ((((some words_1).bind fun d => (some none).bind fun l => ((some at__2).bind fun d => (asI d).map some).bind fun h => pCut d l h).bind fun x => ((((some some__7).bind fun x => (((some number).bind fun x => (some (PyData.int 7)).bind fun y => pFdiv x y).bind fun x => (some (PyData.int 12)).bind fun y => pMod x y).bind fun y => pIdx x y).bind fun d => (some []).bind fun ds => some (d :: ds)).bind mkLst).bind fun y => pAdd x y).bind fun x => ((some words_1).bind fun d => (((some at__2).bind fun x => (some (PyData.int 1)).bind fun y => pAdd x y).bind fun d => (asI d).map some).bind fun l => (some none).bind fun h => pCut d l h).bind fun y => pAdd x y).bind fun y => pJoin x y)))))))))))
def m_law_c1 (many_1 : PyData) (st_6 : PyData) (found_9 : PyData) : Option PyData :=
  (((some found_9).bind fun x => (some PyData.none).bind fun y => pIs x y).bind fun x => (asB x).bind fun c => if c = true then some (.bool true) else ((((some found_9).bind fun d => ((some many_1).bind fun d => (some []).bind fun ds => some (d :: ds)).bind fun ds => some (d :: ds)).bind (ap2 m_law_is_word)).bind fun x => (asB x).bind fun c => if c = true then ((((some found_9).bind fun d => (some []).bind fun ds => some (d :: ds)).bind (ap1 m_law_written)).bind fun x => (some st_6).bind fun y => pEq x y) else some (.bool false)))
def m_law_c2 (many_1 : PyData) (word_2 : PyData) (first_3 : PyData) (st_6 : PyData) (found_9 : PyData) : Option PyData :=
  (((some st_6).bind fun x => (some first_3).bind fun y => (pEq x y).bind asB).bind fun b => if b = true then (((some found_9).bind fun x => (some word_2).bind fun y => pEq x y).bind fun x => (asB x).bind fun c => if c = true then (((some found_9).bind fun d => ((some many_1).bind fun d => (some []).bind fun ds => some (d :: ds)).bind fun ds => some (d :: ds)).bind (ap2 m_law_is_word)) else some (.bool false)) else (m_law_c1 many_1 st_6 found_9))
def m_law_c3 (many_1 : PyData) (word_2 : PyData) (first_3 : PyData) (st_6 : PyData) : Option PyData :=
  ((((some st_6).bind fun d => ((some many_1).bind fun d => (some []).bind fun ds => some (d :: ds)).bind fun ds => some (d :: ds)).bind (ap2 m_law_found)).bind fun found_9 => (m_law_c2 many_1 word_2 first_3 st_6 found_9))
def m_law_c4 (many_1 : PyData) (word_2 : PyData) (first_3 : PyData) (number_4 : PyData) (text_5 : PyData) : Option PyData :=
  ((((((some number_4).bind fun x => (some (PyData.int 3)).bind fun y => pMod x y).bind fun x => ((some (PyData.int 1)).bind fun x => (((some number_4).bind fun x => (some (PyData.int 3)).bind fun y => pFdiv x y).bind fun x => (some (PyData.int 2)).bind fun y => pMod x y).bind fun y => pAdd x y).bind fun y => pMul x y).bind fun d => (some []).bind fun ds => some (d :: ds)).bind fun ds => if ds.length = 1 then pRange ds else none).bind fun ds => (ds.foldlM (fun (st_6 : PyData) k_7 => ((((some st_6).bind fun d => ((((some number_4).bind fun d => ((some k_7).bind fun d => (some []).bind fun ds => some (d :: ds)).bind fun ds => some (d :: ds)).bind (ap2 m_law_drawn)).bind fun d => (some []).bind fun ds => some (d :: ds)).bind fun ds => some (d :: ds)).bind (ap2 m_law_changed)).bind fun text_8 => (some text_8))) text_5).bind fun st_6 => (m_law_c3 many_1 word_2 first_3 st_6))
def m_law_c5 (many_1 : PyData) (word_2 : PyData) (first_3 : PyData) (number_4 : PyData) : Option PyData :=
  ((some first_3).bind fun text_5 => (m_law_c4 many_1 word_2 first_3 number_4 text_5))
def m_law_c6 (script : PyData) (many_1 : PyData) (word_2 : PyData) (first_3 : PyData) : Option PyData :=
  ((((some script).bind fun d => ((some (PyData.int 2)).bind fun d => (some []).bind fun ds => some (d :: ds)).bind fun ds => some (d :: ds)).bind (ap2 m_law_mixed)).bind fun number_4 => (m_law_c5 many_1 word_2 first_3 number_4))
def m_law_c7 (script : PyData) (many_1 : PyData) (word_2 : PyData) : Option PyData :=
  ((((some word_2).bind fun d => (some []).bind fun ds => some (d :: ds)).bind (ap1 m_law_written)).bind fun first_3 => (m_law_c6 script many_1 word_2 first_3))
def m_law_c8 (script : PyData) (many_1 : PyData) : Option PyData :=
  ((((((some script).bind fun d => ((some (PyData.int 1)).bind fun d => (some []).bind fun ds => some (d :: ds)).bind fun ds => some (d :: ds)).bind (ap2 m_law_mixed)).bind fun d => ((some many_1).bind fun d => ((some (PyData.int 12)).bind fun d => (some []).bind fun ds => some (d :: ds)).bind fun ds => some (d :: ds)).bind fun ds => some (d :: ds)).bind (ap3 m_law_word)).bind fun word_2 => (m_law_c7 script many_1 word_2))
def m_law (script : PyData) : Option PyData :=
  (((some (PyData.int 2)).bind fun x => ((((some script).bind fun d => ((some (PyData.int 0)).bind fun d => (some []).bind fun ds => some (d :: ds)).bind fun ds => some (d :: ds)).bind (ap2 m_law_mixed)).bind fun x => (some (PyData.int 4)).bind fun y => pMod x y).bind fun y => pAdd x y).bind fun many_1 => (m_law_c8 script many_1))
structure Top (K : PySem.W.Frag) (mg : Str → Option Value) where
  a_is_number : Addr
  d_is_number : FuncData
  F_is_number : Fun K "is_number" "is_number" s_is_number a_is_number d_is_number
  g_is_number : mg "is_number" = some (.ref a_is_number)
  b_is_number : L2.Binds K d_is_number ["thing", "low", "high"] []
  a_is_word : Addr
  d_is_word : FuncData
  F_is_word : Fun K "is_word" "is_word" s_is_word a_is_word d_is_word
  g_is_word : mg "is_word" = some (.ref a_is_word)
  b_is_word : L2.Binds K d_is_word ["thing", "many"] []
  a_letter_of : Addr
  d_letter_of : FuncData
  F_letter_of : Fun K "letter_of" "letter_of" s_letter_of a_letter_of d_letter_of
  g_letter_of : mg "letter_of" = some (.ref a_letter_of)
  b_letter_of : L2.Binds K d_letter_of ["part"] []
  a_text_of : Addr
  d_text_of : FuncData
  F_text_of : Fun K "text_of" "text_of" s_text_of a_text_of d_text_of
  g_text_of : mg "text_of" = some (.ref a_text_of)
  b_text_of : L2.Binds K d_text_of ["word"] []
  a_part_of : Addr
  d_part_of : FuncData
  F_part_of : Fun K "part_of" "part_of" s_part_of a_part_of d_part_of
  g_part_of : mg "part_of" = some (.ref a_part_of)
  b_part_of : L2.Binds K d_part_of ["letter"] []
  a_read : Addr
  d_read : FuncData
  F_read : Fun K "read" "read" s_read a_read d_read
  g_read : mg "read" = some (.ref a_read)
  b_read : L2.Binds K d_read ["text", "many"] []
  a_law_cell_at : Addr
  d_law_cell_at : FuncData
  F_law_cell_at : Fun K "_law_cell_at" "_law_cell_at" s_law_cell_at a_law_cell_at d_law_cell_at
  g_law_cell_at : mg "_law_cell_at" = some (.ref a_law_cell_at)
  b_law_cell_at : L2.Binds K d_law_cell_at ["script", "k"] []
  a_law_mixed : Addr
  d_law_mixed : FuncData
  F_law_mixed : Fun K "_law_mixed" "_law_mixed" s_law_mixed a_law_mixed d_law_mixed
  g_law_mixed : mg "_law_mixed" = some (.ref a_law_mixed)
  b_law_mixed : L2.Binds K d_law_mixed ["script", "k"] []
  a_law_drawn : Addr
  d_law_drawn : FuncData
  F_law_drawn : Fun K "_law_drawn" "_law_drawn" s_law_drawn a_law_drawn d_law_drawn
  g_law_drawn : mg "_law_drawn" = some (.ref a_law_drawn)
  b_law_drawn : L2.Binds K d_law_drawn ["number", "k"] []
  a_law_word : Addr
  d_law_word : FuncData
  F_law_word : Fun K "_law_word" "_law_word" s_law_word a_law_word d_law_word
  g_law_word : mg "_law_word" = some (.ref a_law_word)
  b_law_word : L2.Binds K d_law_word ["number", "many", "most"] []
  a_law_number : Addr
  d_law_number : FuncData
  F_law_number : Fun K "_law_number" "_law_number" s_law_number a_law_number d_law_number
  g_law_number : mg "_law_number" = some (.ref a_law_number)
  b_law_number : L2.Binds K d_law_number ["thing", "low", "high"] []
  a_law_is_word : Addr
  d_law_is_word : FuncData
  F_law_is_word : Fun K "_law_is_word" "_law_is_word" s_law_is_word a_law_is_word d_law_is_word
  g_law_is_word : mg "_law_is_word" = some (.ref a_law_is_word)
  b_law_is_word : L2.Binds K d_law_is_word ["thing", "many"] []
  a_law_written : Addr
  d_law_written : FuncData
  F_law_written : Fun K "_law_written" "_law_written" s_law_written a_law_written d_law_written
  g_law_written : mg "_law_written" = some (.ref a_law_written)
  b_law_written : L2.Binds K d_law_written ["word"] []
  a_law_changed : Addr
  d_law_changed : FuncData
  F_law_changed : Fun K "_law_changed" "_law_changed" s_law_changed a_law_changed d_law_changed
  g_law_changed : mg "_law_changed" = some (.ref a_law_changed)
  b_law_changed : L2.Binds K d_law_changed ["text", "number"] []
  a_law_found : Addr
  d_law_found : FuncData
  F_law_found : Fun K "_law_found" "_law_found" s_law_found a_law_found d_law_found
  g_law_found : mg "_law_found" = some (.ref a_law_found)
  b_law_found : L2.Binds K d_law_found ["text", "many"] []
  a_law : Addr
  d_law : FuncData
  F_law : Fun K "law" "law" s_law a_law d_law
  g_law : mg "law" = some (.ref a_law)
  b_law : L2.Binds K d_law ["script"] []
  C_StrandError : Addr
  C_NoWord : Addr
  C_NoText : Addr
  e_StrandError : ExcCls K mg "StrandError" C_StrandError
  e_NoWord : ExcCls K mg "NoWord" C_NoWord
  e_NoText : ExcCls K mg "NoText" C_NoText
  s_NoText_NoText : PySem.W.subIn K (.ref C_NoText) (.ref C_NoText) = some true
  s_NoWord_NoText : PySem.W.subIn K (.ref C_NoWord) (.ref C_NoText) = some false
  k_NoText_NoWord : PySem.W.kitOne K (.ref C_NoText) (.ref C_NoWord) = some false
  k_NoText_StrandError : PySem.W.kitOne K (.ref C_NoText) (.ref C_StrandError) = some true
  k_NoText_ValueError : PySem.W.kitOne K (.ref C_NoText) (.type "ValueError") = some true
  k_NoWord_NoWord : PySem.W.kitOne K (.ref C_NoWord) (.ref C_NoWord) = some true
  k_NoWord_StrandError : PySem.W.kitOne K (.ref C_NoWord) (.ref C_StrandError) = some true
  k_NoWord_ValueError : PySem.W.kitOne K (.ref C_NoWord) (.type "ValueError") = some true
  z_ValueError : mg "ValueError" = none
  z_all : mg "all" = none
  z_bool : mg "bool" = none
  z_int : mg "int" = none
  z_isinstance : mg "isinstance" = none
  z_len : mg "len" = none
  z_range : mg "range" = none
  z_str : mg "str" = none
  z_tuple : mg "tuple" = none
  c_OVER : ∃ t, mg "OVER" = some (.str "abcd" t)
  c_UNDER : ∃ t, mg "UNDER" = some (.str "ABCD" t)
def Top.C {K : PySem.W.Frag} {mg : Str → Option Value} (T : Top K mg) : Xc → Addr
  | .noWord => T.C_NoWord
  | .noText => T.C_NoText
  | .noBack => T.C_NoWord
section
variable {P : Program} {w : World} {K : PySem.W.Frag} {mg : Str → Option Value} {base : Heap}
theorem ok_is_number (T : Top K mg) : FnOk P w K mg base CX0 1 T.a_is_number T.d_is_number ["thing", "low", "high"] (spD K 3 (ap3 m_is_number)) := by
  refine fn_ok (k := 0) T.F_is_number sc_is_number rfl (by decide) ap3_len (fun cdv A outer s H E ds hr hl => ?_)
  have nd := sc_is_number.nd
  match ds, hl with
  | [thing, low, high], _ =>
    show DR _ _ [.im thing, .im low, .im high] (m_is_number thing low high)
    unfold m_is_number
    exact (dr_ret (de_and (de_isi (by rfl) T.z_isinstance (by rfl) T.z_int bt_int (de_var 0)) (de_and (de_not (de_isi (by rfl) T.z_isinstance (by rfl) T.z_bool bt_bool (de_var 0))) (de_one (de_chain op_le op_le r2_le r2_le (de_var 1) (de_var 0) (de_var 2))))))
theorem ok_is_word (T : Top K mg) : FnOk P w K mg base CX0 2 T.a_is_word T.d_is_word ["thing", "many"] (spD K 2 (ap2 m_is_word)) := by
  refine fn_ok (k := 1) T.F_is_word sc_is_word rfl (by decide) ap2_len (fun cdv A outer s H E ds hr hl => ?_)
  have nd := sc_is_word.nd
  match ds, hl with
  | [thing, many], _ =>
    show DR _ _ [.im thing, .im many, .any] (m_is_word thing many)
    unfold m_is_word
    exact (dr_ifr (dt_not (dt_val (de_isi (by rfl) T.z_isinstance (by rfl) T.z_tuple bt_tuple (de_var 0)))) (dr_ret de_bl) (dr_ret (de_callB (cr_all rfl) rc_all (by rfl) T.z_all bt_all (da_cons (de_lc 2 (env' := fun part_1 => [.im thing, .im many, .im part_1]) rfl nd (di_seq (de_var 0)) (blkOk_by (own := [("part", 2)]) (N := N_is_word) (sc := defScope s_is_word) (by decide +kernel)) (fun _ _ _ _ _ => pg_name (i := 2) nd rfl (Or.inl rfl)) (fun part_1 _ _ _ _ _ => dts_nil) (fun part_1 _ _ _ _ _ => (de_and (de_call (ok_is_number T) (hr.mono (by decide)) (by rfl) T.g_is_number T.F_is_number.kp T.b_is_number pass0 ap3_len (da_cons (de_var 2) (da_cons (de_op op_sub r2_sub de_int (de_var 1)) (da_cons (de_op op_sub r2_sub (de_var 1) de_int) da_nil)))) (de_one (de_cmp (op_neD (hu64 hr)) r2_ne (de_var 2) de_int (nomark _)))))) da_nil))))
theorem ok_letter_of (T : Top K mg) : FnOk P w K mg base CX0 1 T.a_letter_of T.d_letter_of ["part"] (spD K 1 (ap1 m_letter_of)) := by
  refine fn_ok (k := 0) T.F_letter_of sc_letter_of rfl (by decide) ap1_len (fun cdv A outer s H E ds hr hl => ?_)
  have nd := sc_letter_of.nd
  match ds, hl with
  | [part], _ =>
    show DR _ _ [.im part] (m_letter_of part)
    unfold m_letter_of
    exact (dr_ifr (dt_cmp op_gt r2_gt (de_var 0) de_int (nomark _)) (dr_ret (de_idx (de_gstr (by rfl) T.c_OVER) (de_op op_sub r2_sub (de_var 0) de_int))) (dr_ret (de_idx (de_gstr (by rfl) T.c_UNDER) (de_op op_sub r2_sub (de_neg (de_var 0)) de_int))))
theorem ok_text_of (T : Top K mg) : FnOk P w K mg base CX0 2 T.a_text_of T.d_text_of ["word"] (spD K 1 (ap1 m_text_of)) := by
  refine fn_ok (k := 1) T.F_text_of sc_text_of rfl (by decide) ap1_len (fun cdv A outer s H E ds hr hl => ?_)
  have nd := sc_text_of.nd
  match ds, hl with
  | [word], _ =>
    show DR _ _ [.im word, .any] (m_text_of word)
    unfold m_text_of
    exact (dr_ifr (dt_cmp (op_eqD (hu64 hr)) r2_eq (de_callB call_lenA rc_len (by rfl) T.z_len bt_len (da_cons (de_var 0) da_nil)) de_int (nomark _)) (dr_ret de_str) (dr_ret (de_join de_str (de_lc 1 (env' := fun part_1 => [.im word, .im part_1]) rfl nd (di_seq (de_var 0)) (blkOk_by (own := [("part", 1)]) (N := N_text_of) (sc := defScope s_text_of) (by decide +kernel)) (fun _ _ _ _ _ => pg_name (i := 1) nd rfl (Or.inl rfl)) (fun part_1 _ _ _ _ _ => dts_nil) (fun part_1 _ _ _ _ _ => (de_call (ok_letter_of T) (hr.mono (by decide)) (by rfl) T.g_letter_of T.F_letter_of.kp T.b_letter_of pass0 ap1_len (da_cons (de_var 1) da_nil)))))))
theorem ok_part_of (T : Top K mg) : FnOk P w K mg base (L2.CX P w) 1 T.a_part_of T.d_part_of ["letter"] (spX K T.C 1 (ax1 m_part_of)) := by
  refine fn_okX (k := 0) T.F_part_of sc_part_of rfl (by decide) ax1_len (fun cdv A outer s H E ds hr hl => ?_)
  have nd := sc_part_of.nd
  match ds, hl with
  | [letter], _ =>
    show DX _ _ _ _ [.im letter] (m_part_of letter)
    unfold m_part_of
    exact (dx_ifr (dt_cmp (op_neD (hu64 hr)) r2_ne (de_callB call_lenA rc_len (by rfl) T.z_len bt_len (da_cons (de_var 0) da_nil)) de_int (nomark _)) (dx_raise .noText rfl (takes_of rfl rfl rfl rfl) T.e_NoText (by rfl)) (dx_ifr (dt_cmp (op_inA (hu65 hr)) r2_in (de_var 0) (de_gstr (by rfl) T.c_OVER) (by rfl)) (dx_ret (de_op op_addA r2_add (de_indexS (de_gstr (by rfl) T.c_OVER) (de_var 0)) de_int)) (dx_ifr (dt_cmp (op_inA (hu65 hr)) r2_in (de_var 0) (de_gstr (by rfl) T.c_UNDER) (by rfl)) (dx_ret (de_op op_sub r2_sub (de_neg (de_indexS (de_gstr (by rfl) T.c_UNDER) (de_var 0))) de_int)) (dx_raise .noText rfl (takes_of rfl rfl rfl rfl) T.e_NoText (by rfl)))))
theorem ok_read (T : Top K mg) : FnOk P w K mg base (L2.CX P w) 3 T.a_read T.d_read ["text", "many"] (spX K T.C 2 (ax2 m_read)) := by
  refine fn_okX (k := 2) T.F_read sc_read rfl (by decide) ax2_len (fun cdv A outer s H E ds hr hl => ?_)
  have nd := sc_read.nd
  match ds, hl with
  | [text, many], _ =>
    show DX _ _ _ _ [.im text, .im many, .any, .any] (m_read text many)
    unfold m_read
    exact (dx_ifr (dt_not (dt_val (de_isi (by rfl) T.z_isinstance (by rfl) T.z_str bt_str (de_var 0)))) (dx_raise .noText rfl (takes_of rfl rfl rfl rfl) T.e_NoText (by rfl)) (dg_asg 2 (env' := fun found_1 => [.im text, .im many, .im found_1, .any]) nd (Or.inl rfl) (de_tup da_nil) (fun found_1 => (dx_ifX 2 (d0 := found_1) (k := fun found_3 => (((((((some found_3).bind fun d => ((some many).bind fun d => (some []).bind fun ds => some (d :: ds)).bind fun ds => some (d :: ds)).bind (ap2 m_is_word)).bind asB).bind fun c => some (!c)).bind fun c => if c = true then some true else ((((some found_3).bind fun d => (some []).bind fun ds => some (d :: ds)).bind (ap1 m_text_of)).bind fun x => (some text).bind fun y => (pNe x y).bind asB)).bind fun b => if b = true then (some (Rx.ex .noText)) else ((some found_3).map Rx.ok))) (env' := fun found_3 => [.im text, .im many, .im found_3, .any]) nd (Or.inl rfl) (dt_cmp (op_neD (hu64 hr)) r2_ne (de_var 0) de_str (nomark _)) (dex_callTy call_tupK rc_tuple (by rfl) T.z_tuple bt_tuple (dex_lc 3 (env' := fun letter_2 => [.im text, .im many, .im found_1, .im letter_2]) rfl rfl (takes_of rfl rfl rfl rfl) rfl nd (di_seq (de_split (de_var 0) de_str)) (blkOk_by (own := [("letter", 3)]) (N := N_read) (sc := defScope s_read) (by decide +kernel)) (fun _ _ _ _ _ => pg_name (i := 3) nd rfl (Or.inl rfl)) (fun letter_2 _ _ _ _ _ _ hx => (dex_call (ok_part_of T) (hr.mono (by decide)) (by rfl) T.g_part_of T.F_part_of.kp T.b_part_of ax1_len hx (da_cons (de_var 3) da_nil))))) (fun found_3 => (dx_ifr (dw_pt (dw_or (dt_not (dt_val (de_call (ok_is_word T) (hr.mono (by decide)) (by rfl) T.g_is_word T.F_is_word.kp T.b_is_word pass0 ap2_len (da_cons (de_var 2) (da_cons (de_var 1) da_nil))))) (dw_or1 (dt_cmp (op_neD (hu64 hr)) r2_ne (de_call (ok_text_of T) (hr.mono (by decide)) (by rfl) T.g_text_of T.F_text_of.kp T.b_text_of pass0 ap1_len (da_cons (de_var 2) da_nil)) (de_var 0) (nomark _))))) (dx_raise .noText rfl (takes_of rfl rfl rfl rfl) T.e_NoText (by rfl)) (dx_ret (de_var 2))))))))
theorem ok_law_cell_at (T : Top K mg) : FnOk P w K mg base CX0 1 T.a_law_cell_at T.d_law_cell_at ["script", "k"] (spD K 2 (ap2 m_law_cell_at)) := by
  refine fn_ok (k := 0) T.F_law_cell_at sc_law_cell_at rfl (by decide) ap2_len (fun cdv A outer s H E ds hr hl => ?_)
  have nd := sc_law_cell_at.nd
  match ds, hl with
  | [script, k], _ =>
    show DR _ _ [.im script, .im k] (m_law_cell_at script k)
    unfold m_law_cell_at
    exact (dr_ifr (dt_cmp op_lt r2_lt (de_var 1) (de_callB call_lenA rc_len (by rfl) T.z_len bt_len (da_cons (de_var 0) da_nil)) (nomark _)) (dr_ret (de_idx (de_var 0) (de_var 1))) (dr_ret de_int))
theorem ok_law_mixed (T : Top K mg) : FnOk P w K mg base CX0 2 T.a_law_mixed T.d_law_mixed ["script", "k"] (spD K 2 (ap2 m_law_mixed)) := by
  refine fn_ok (k := 1) T.F_law_mixed sc_law_mixed rfl (by decide) ap2_len (fun cdv A outer s H E ds hr hl => ?_)
  have nd := sc_law_mixed.nd
  match ds, hl with
  | [script, k], _ =>
    show DR _ _ [.im script, .im k, .any] (m_law_mixed script k)
    unfold m_law_mixed
    exact (dg_asg 2 (env' := fun drawn_1 => [.im script, .im k, .im drawn_1]) nd (Or.inl rfl) (de_op op_mod r2_mod (de_op op_mulA r2_mul (de_op op_addA r2_add (de_op op_addA r2_add (de_call (ok_law_cell_at T) (hr.mono (by decide)) (by rfl) T.g_law_cell_at T.F_law_cell_at.kp T.b_law_cell_at pass0 ap2_len (da_cons (de_var 0) (da_cons (de_var 1) da_nil))) (de_op op_mulA r2_mul de_int (de_var 1))) de_int) de_int) de_int) (fun drawn_1 => (dr_ret (de_op op_mod r2_mod (de_op op_addA r2_add (de_op op_addA r2_add (de_op op_mulA r2_mul (de_var 2) (de_var 2)) (de_op op_mulA r2_mul de_int (de_var 2))) (de_var 1)) de_int))))
theorem ok_law_drawn (T : Top K mg) : FnOk P w K mg base CX0 1 T.a_law_drawn T.d_law_drawn ["number", "k"] (spD K 2 (ap2 m_law_drawn)) := by
  refine fn_ok (k := 0) T.F_law_drawn sc_law_drawn rfl (by decide) ap2_len (fun cdv A outer s H E ds hr hl => ?_)
  have nd := sc_law_drawn.nd
  match ds, hl with
  | [number, k], _ =>
    show DR _ _ [.im number, .im k, .any] (m_law_drawn number k)
    unfold m_law_drawn
    exact (dg_asg 2 (env' := fun drawn_1 => [.im number, .im k, .im drawn_1]) nd (Or.inl rfl) (de_op op_mod r2_mod (de_op op_mulA r2_mul (de_op op_addA r2_add (de_op op_addA r2_add (de_var 0) (de_op op_mulA r2_mul de_int (de_var 1))) de_int) de_int) de_int) (fun drawn_1 => (dr_ret (de_op op_mod r2_mod (de_op op_addA r2_add (de_op op_addA r2_add (de_op op_mulA r2_mul (de_var 2) (de_var 2)) (de_op op_mulA r2_mul de_int (de_var 2))) (de_var 1)) de_int))))
theorem ok_law_word (T : Top K mg) : FnOk P w K mg base CX0 2 T.a_law_word T.d_law_word ["number", "many", "most"] (spD K 3 (ap3 m_law_word)) := by
  refine fn_ok (k := 1) T.F_law_word sc_law_word rfl (by decide) ap3_len (fun cdv A outer s H E ds hr hl => ?_)
  have nd := sc_law_word.nd
  match ds, hl with
  | [number, many, most], _ =>
    show DR _ _ [.im number, .im many, .im most, .any, .any, .any] (m_law_word number many most)
    unfold m_law_word
    exact (dg_asg 3 (env' := fun found_1 => [.im number, .im many, .im most, .im found_1, .any, .any]) nd (Or.inl rfl) (de_tup da_nil) (fun found_1 => (dg_for 4 (ev := fun (st_2 : PyData) => [.im number, .im many, .im most, .im st_2, .any, .any]) (env' := fun (st_2 : PyData) k_3 => [.im number, .im many, .im most, .im st_2, .im k_3, .any]) (a0 := found_1) PassesOwn.never rfl nd (Or.inl rfl) (di_range1 (by rfl) T.z_range (da_cons (de_op op_mod r2_mod (de_var 0) (de_op op_addA r2_add (de_var 2) de_int)) da_nil)) (wk_same (wk_same (wk_same (wk_same (wk_any (wk_any wk_nil)))))) (fun st_2 k_3 => (dg_asg 5 (env' := fun drawn_4 => [.im number, .im many, .im most, .im st_2, .im k_3, .im drawn_4]) nd (Or.inl rfl) (de_call (ok_law_drawn T) (hr.mono (by decide)) (by rfl) T.g_law_drawn T.F_law_drawn.kp T.b_law_drawn pass0 ap2_len (da_cons (de_var 0) (da_cons (de_var 4) da_nil))) (fun drawn_4 => (dg_asg 3 (env' := fun found_5 => [.im number, .im many, .im most, .im found_5, .im k_3, .im drawn_4]) nd (Or.inl rfl) (de_op op_addA r2_add (de_var 3) (de_tup (da_cons (de_op op_mulA r2_mul (de_op op_addA r2_add de_int (de_op op_mod r2_mod (de_var 5) (de_op op_sub r2_sub (de_var 1) de_int))) (de_op op_sub r2_sub de_int (de_op op_mulA r2_mul (de_op op_mod r2_mod (de_op op_fdiv r2_fdiv (de_var 5) de_int) de_int) de_int))) da_nil))) (fun found_5 => (dn_nil (a := found_5) (wk_same (wk_same (wk_same (wk_same (wk_any (wk_any wk_nil)))))))))))) (fun st_2 => (dr_ret (de_var 3))))))
theorem ok_law_number (T : Top K mg) : FnOk P w K mg base CX0 1 T.a_law_number T.d_law_number ["thing", "low", "high"] (spD K 3 (ap3 m_law_number)) := by
  refine fn_ok (k := 0) T.F_law_number sc_law_number rfl (by decide) ap3_len (fun cdv A outer s H E ds hr hl => ?_)
  have nd := sc_law_number.nd
  match ds, hl with
  | [thing, low, high], _ =>
    show DR _ _ [.im thing, .im low, .im high] (m_law_number thing low high)
    unfold m_law_number
    exact (dr_ret (de_and (de_isi (by rfl) T.z_isinstance (by rfl) T.z_int bt_int (de_var 0)) (de_and (de_not (de_isi (by rfl) T.z_isinstance (by rfl) T.z_bool bt_bool (de_var 0))) (de_one (de_chain op_le op_le r2_le r2_le (de_var 1) (de_var 0) (de_var 2))))))
theorem ok_law_is_word (T : Top K mg) : FnOk P w K mg base CX0 2 T.a_law_is_word T.d_law_is_word ["thing", "many"] (spD K 2 (ap2 m_law_is_word)) := by
  refine fn_ok (k := 1) T.F_law_is_word sc_law_is_word rfl (by decide) ap2_len (fun cdv A outer s H E ds hr hl => ?_)
  have nd := sc_law_is_word.nd
  match ds, hl with
  | [thing, many], _ =>
    show DR _ _ [.im thing, .im many, .any] (m_law_is_word thing many)
    unfold m_law_is_word
    exact (dr_ifr (dt_not (dt_val (de_isi (by rfl) T.z_isinstance (by rfl) T.z_tuple bt_tuple (de_var 0)))) (dr_ret de_bl) (dr_ret (de_cmp (op_eqD (hu64 hr)) r2_eq (de_lc 2 (env' := fun part_1 => [.im thing, .im many, .im part_1]) rfl nd (di_seq (de_var 0)) (blkOk_by (own := [("part", 2)]) (N := N_law_is_word) (sc := defScope s_law_is_word) (by decide +kernel)) (fun _ _ _ _ _ => pg_name (i := 2) nd rfl (Or.inl rfl)) (fun part_1 _ _ _ _ _ => (dts_one (dw_pt (dw_or (dt_not (dt_val (de_call (ok_law_number T) (hr.mono (by decide)) (by rfl) T.g_law_number T.F_law_number.kp T.b_law_number pass0 ap3_len (da_cons (de_var 2) (da_cons (de_op op_sub r2_sub de_int (de_var 1)) (da_cons (de_op op_sub r2_sub (de_var 1) de_int) da_nil)))))) (dw_or1 (dt_cmp (op_eqD (hu64 hr)) r2_eq (de_var 2) de_int (nomark _))))))) (fun part_1 _ _ _ _ _ => (de_var 2))) (de_lst da_nil) (nomark _))))
theorem ok_law_written (T : Top K mg) : FnOk P w K mg base CX0 1 T.a_law_written T.d_law_written ["word"] (spD K 1 (ap1 m_law_written)) := by
  refine fn_ok (k := 0) T.F_law_written sc_law_written rfl (by decide) ap1_len (fun cdv A outer s H E ds hr hl => ?_)
  have nd := sc_law_written.nd
  match ds, hl with
  | [word], _ =>
    show DR _ _ [.im word, .any, .any] (m_law_written word)
    unfold m_law_written
    exact (dg_asg 1 (env' := fun found_1 => [.im word, .im found_1, .any]) nd (Or.inl rfl) de_str (fun found_1 => (dg_for 2 (ev := fun (st_2 : PyData) => [.im word, .im st_2, .any]) (env' := fun (st_2 : PyData) part_3 => [.im word, .im st_2, .im part_3]) (a0 := found_1) PassesOwn.never rfl nd (Or.inl rfl) (di_seq (de_var 0)) (wk_same (wk_same (wk_any wk_nil))) (fun st_2 part_3 => (dg_asg 1 (env' := fun found_4 => [.im word, .im found_4, .im part_3]) nd (Or.inl rfl) (de_op op_addA r2_add (de_op op_addA r2_add (de_var 1) de_str) (de_idx de_str (de_var 2))) (fun found_4 => (dn_nil (a := found_4) (wk_same (wk_same (wk_any wk_nil))))))) (fun st_2 => (dr_ifr (dt_cmp (op_eqD (hu64 hr)) r2_eq (de_var 1) de_str (nomark _)) (dr_ret de_str) (dr_ret (de_slice (de_var 1) (do_some de_int) do_none)))))))
theorem ok_law_changed (T : Top K mg) : FnOk P w K mg base CX0 1 T.a_law_changed T.d_law_changed ["text", "number"] (spD K 2 (ap2 m_law_changed)) := by
  refine fn_ok (k := 0) T.F_law_changed sc_law_changed rfl (by decide) ap2_len (fun cdv A outer s H E ds hr hl => ?_)
  have nd := sc_law_changed.nd
  match ds, hl with
  | [text, number], _ =>
    show DR _ _ [.im text, .im number, .any, .any, .any, .any, .any, .any, .any] (m_law_changed text number)
    unfold m_law_changed
    exact (dg_asg 2 (env' := fun words_1 => [.im text, .im number, .im words_1, .any, .any, .any, .any, .any, .any]) nd (Or.inl rfl) (de_split (de_var 0) de_str) (fun words_1 => (dg_asg 3 (env' := fun at__2 => [.im text, .im number, .im words_1, .im at__2, .any, .any, .any, .any, .any]) nd (Or.inl rfl) (de_op op_mod r2_mod (de_op op_fdiv r2_fdiv (de_var 1) de_int) (de_callB call_lenA rc_len (by rfl) T.z_len bt_len (da_cons (de_var 2) da_nil))) (fun at__2 => (dg_asg 4 (env' := fun place_3 => [.im text, .im number, .im words_1, .im at__2, .im place_3, .any, .any, .any, .any]) nd (Or.inl rfl) (de_op op_mod r2_mod (de_op op_fdiv r2_fdiv (de_var 1) de_int) (de_op op_addA r2_add (de_callB call_lenA rc_len (by rfl) T.z_len bt_len (da_cons (de_var 0) da_nil)) de_int)) (fun place_3 => (dg_asg 5 (env' := fun kind_4 => [.im text, .im number, .im words_1, .im at__2, .im place_3, .im kind_4, .any, .any, .any]) nd (Or.inl rfl) (de_op op_mod r2_mod (de_var 1) de_int) (fun kind_4 => (dr_ifr (dt_cmp (op_eqD (hu64 hr)) r2_eq (de_var 5) de_int (nomark _)) (dr_ret (de_op op_addA r2_add (de_slice (de_var 0) do_none (do_some (de_var 4))) (de_slice (de_var 0) (do_some (de_op op_addA r2_add (de_var 4) de_int)) do_none))) (dr_ifr (dt_cmp op_lt r2_lt (de_var 5) de_int (nomark _)) (dg_asg 6 (env' := fun sign_5 => [.im text, .im number, .im words_1, .im at__2, .im place_3, .im kind_4, .im sign_5, .any, .any]) nd (Or.inl rfl) (de_idx de_str (de_op op_mod r2_mod (de_op op_fdiv r2_fdiv (de_var 1) de_int) de_int)) (fun sign_5 => (dr_ret (de_op op_addA r2_add (de_op op_addA r2_add (de_slice (de_var 0) do_none (do_some (de_var 4))) (de_var 6)) (de_slice (de_var 0) (do_some (de_op op_sub r2_sub (de_op op_addA r2_add (de_var 4) (de_var 5)) de_int)) do_none))))) (dr_ifr (dt_cmp (op_eqD (hu64 hr)) r2_eq (de_var 5) de_int (nomark _)) (dr_ret (de_join de_str (de_op op_addA r2_add (de_slice (de_var 2) do_none (do_some (de_var 3))) (de_slice (de_var 2) (do_some (de_op op_addA r2_add (de_var 3) de_int)) do_none)))) (dr_ifr (dt_cmp (op_eqD (hu64 hr)) r2_eq (de_var 5) de_int (nomark _)) (dr_ret (de_join de_str (de_op op_addA r2_add (de_op op_addA r2_add (de_slice (de_var 2) do_none (do_some (de_var 3))) (de_slice (de_var 2) (do_some (de_var 3)) (do_some (de_op op_addA r2_add (de_var 3) de_int)))) (de_slice (de_var 2) (do_some (de_var 3)) do_none)))) (dr_ifr (dt_cmp (op_eqD (hu64 hr)) r2_eq (de_var 5) de_int (nomark _)) (dg_asg 7 (env' := fun swapped_6 => [.im text, .im number, .im words_1, .im at__2, .im place_3, .im kind_4, .any, .im swapped_6, .any]) nd (Or.inl rfl) (de_op op_addA r2_add (de_slice (de_var 2) (do_some (de_op op_addA r2_add (de_var 3) de_int)) (do_some (de_op op_addA r2_add (de_var 3) de_int))) (de_slice (de_var 2) (do_some (de_var 3)) (do_some (de_op op_addA r2_add (de_var 3) de_int)))) (fun swapped_6 => (dr_ret (de_join de_str (de_op op_addA r2_add (de_op op_addA r2_add (de_slice (de_var 2) do_none (do_some (de_var 3))) (de_var 7)) (de_slice (de_var 2) (do_some (de_op op_addA r2_add (de_var 3) de_int)) do_none)))))) (dg_asg 8 (env' := fun some__7 => [.im text, .im number, .im words_1, .im at__2, .im place_3, .im kind_4, .any, .any, .im some__7]) nd (Or.inl rfl) (de_split de_str de_str) (fun some__7 => (dr_ret (de_join de_str (de_op op_addA r2_add (de_op op_addA r2_add (de_slice (de_var 2) do_none (do_some (de_var 3))) (de_lst (da_cons (de_idx (de_var 8) (de_op op_mod r2_mod (de_op op_fdiv r2_fdiv (de_var 1) de_int) de_int)) da_nil))) (de_slice (de_var 2) (do_some (de_op op_addA r2_add (de_var 3) de_int)) do_none)))))))))))))))))))
theorem ok_law_found (T : Top K mg) : FnOk P w K mg base CX0 4 T.a_law_found T.d_law_found ["text", "many"] (spD K 2 (ap2 m_law_found)) := by
  refine fn_ok (k := 3) T.F_law_found sc_law_found rfl (by decide) ap2_len (fun cdv A outer s H E ds hr hl => ?_)
  have nd := sc_law_found.nd
  match ds, hl with
  | [text, many], _ =>
    show DR _ _ [.im text, .im many, .any, .any, .any] (m_law_found text many)
    unfold m_law_found
    exact (dr_try_asV 3 2 (env' := fun a => [.im text, .im many, .any, .pin (.ref a), .any]) (envr := fun found_4 => [.im text, .im many, .im found_4, .any, .any]) (cA := T.C) (sub := (fun c => match c with | .noWord => false | .noText => true | .noBack => false)) (m0 := fun found_4 => ((((some found_4).bind fun d => ((((some (PyData.int 0)).bind fun d => (some []).bind fun ds => some (d :: ds)).bind mkTup).bind fun d => (some []).bind fun ds => some (d :: ds)).bind fun ds => some (d :: ds)).bind mkLst).bind fun x => ((((some found_4).bind fun x => (some PyData.none).bind fun y => pIs x y).bind fun d => (some []).bind fun ds => some (d :: ds)).bind pInt).bind fun y => pIdx x y)) (msu := (fun c => match c with | .noWord => (((some (PyData.bool true)).bind fun x => (asB x).bind fun c => if c = true then ((some (PyData.bool true)).bind fun x => (asB x).bind fun c => if c = true then ((some (PyData.bool true)).bind fun x => (asB x).bind fun c => some (.bool (!c))) else some (.bool false)) else some (.bool false)).bind fun good_1 => ((((((some (PyData.int 0)).bind fun d => (some []).bind fun ds => some (d :: ds)).bind mkTup).bind fun d => ((some PyData.none).bind fun d => (some []).bind fun ds => some (d :: ds)).bind fun ds => some (d :: ds)).bind mkLst).bind fun x => (((some good_1).bind fun d => (some []).bind fun ds => some (d :: ds)).bind pInt).bind fun y => pIdx x y)) | .noText => (((some (PyData.bool true)).bind fun x => (asB x).bind fun c => if c = true then ((some (PyData.bool true)).bind fun x => (asB x).bind fun c => if c = true then ((some (PyData.bool false)).bind fun x => (asB x).bind fun c => some (.bool (!c))) else some (.bool false)) else some (.bool false)).bind fun good_2 => ((((((some (PyData.int 0)).bind fun d => (some []).bind fun ds => some (d :: ds)).bind mkTup).bind fun d => ((some PyData.none).bind fun d => (some []).bind fun ds => some (d :: ds)).bind fun ds => some (d :: ds)).bind mkLst).bind fun x => (((some good_2).bind fun d => (some []).bind fun ds => some (d :: ds)).bind pInt).bind fun y => pIdx x y)) | .noBack => (((some (PyData.bool true)).bind fun x => (asB x).bind fun c => if c = true then ((some (PyData.bool true)).bind fun x => (asB x).bind fun c => if c = true then ((some (PyData.bool true)).bind fun x => (asB x).bind fun c => some (.bool (!c))) else some (.bool false)) else some (.bool false)).bind fun good_3 => ((((((some (PyData.int 0)).bind fun d => (some []).bind fun ds => some (d :: ds)).bind mkTup).bind fun d => ((some PyData.none).bind fun d => (some []).bind fun ds => some (d :: ds)).bind fun ds => some (d :: ds)).bind mkLst).bind fun x => (((some good_3).bind fun d => (some []).bind fun ds => some (d :: ds)).bind pInt).bind fun y => pIdx x y)))) rfl rfl nd ⟨rfl, by decide, .inl T.e_NoText.g⟩ (fun c => match c with | .noWord => T.e_NoText.exm T.s_NoWord_NoText | .noText => T.e_NoText.exm T.s_NoText_NoText | .noBack => T.e_NoText.exm T.s_NoWord_NoText) (ok_read T) (hr.mono (by decide)) (by rfl) T.g_read T.F_read.kp T.b_read ax2_len (fun pn xe => (da_cons (de_var 0) (da_cons (de_var 1) da_nil))) (fun c => match c with | .noWord => fun a oe pn hz hfl => (dg_asg 4 (env' := fun good_1 => [.im text, .im many, .any, .pin (.ref a), .im good_1]) nd (Or.inl rfl) (de_and (de_isE 3 T.e_NoWord.exc hz hfl (by rfl) T.z_isinstance (pe_glob (v := V.ref T.C_StrandError) (by rfl) T.e_StrandError.g rfl) (fun _ h => h) T.k_NoWord_StrandError) (de_and (de_isE 3 T.e_NoWord.exc hz hfl (by rfl) T.z_isinstance (pe_bltn (v := .ty "ValueError") (by rfl) T.z_ValueError (by decide +kernel) rfl (by decide) (by decide)) (fun _ h => h) T.k_NoWord_ValueError) (de_one (de_not (de_isE 3 T.e_NoWord.exc hz hfl (by rfl) T.z_isinstance (pe_glob (v := V.ref T.C_NoWord) (by rfl) T.e_NoWord.g rfl) (fun _ h => h) T.k_NoWord_NoWord))))) (fun good_1 => (dr_ret (de_idx (de_lst (da_cons (de_tup (da_cons de_int da_nil)) (da_cons de_non da_nil))) (de_callTy call_int1 rc_int (by rfl) T.z_int bt_int (da_cons (de_var 4) da_nil)))))) | .noText => fun a oe pn hz hfl => (dg_asg 4 (env' := fun good_2 => [.im text, .im many, .any, .pin (.ref a), .im good_2]) nd (Or.inl rfl) (de_and (de_isE 3 T.e_NoText.exc hz hfl (by rfl) T.z_isinstance (pe_glob (v := V.ref T.C_StrandError) (by rfl) T.e_StrandError.g rfl) (fun _ h => h) T.k_NoText_StrandError) (de_and (de_isE 3 T.e_NoText.exc hz hfl (by rfl) T.z_isinstance (pe_bltn (v := .ty "ValueError") (by rfl) T.z_ValueError (by decide +kernel) rfl (by decide) (by decide)) (fun _ h => h) T.k_NoText_ValueError) (de_one (de_not (de_isE 3 T.e_NoText.exc hz hfl (by rfl) T.z_isinstance (pe_glob (v := V.ref T.C_NoWord) (by rfl) T.e_NoWord.g rfl) (fun _ h => h) T.k_NoText_NoWord))))) (fun good_2 => (dr_ret (de_idx (de_lst (da_cons (de_tup (da_cons de_int da_nil)) (da_cons de_non da_nil))) (de_callTy call_int1 rc_int (by rfl) T.z_int bt_int (da_cons (de_var 4) da_nil)))))) | .noBack => fun a oe pn hz hfl => (dg_asg 4 (env' := fun good_3 => [.im text, .im many, .any, .pin (.ref a), .im good_3]) nd (Or.inl rfl) (de_and (de_isE 3 T.e_NoWord.exc hz hfl (by rfl) T.z_isinstance (pe_glob (v := V.ref T.C_StrandError) (by rfl) T.e_StrandError.g rfl) (fun _ h => h) T.k_NoWord_StrandError) (de_and (de_isE 3 T.e_NoWord.exc hz hfl (by rfl) T.z_isinstance (pe_bltn (v := .ty "ValueError") (by rfl) T.z_ValueError (by decide +kernel) rfl (by decide) (by decide)) (fun _ h => h) T.k_NoWord_ValueError) (de_one (de_not (de_isE 3 T.e_NoWord.exc hz hfl (by rfl) T.z_isinstance (pe_glob (v := V.ref T.C_NoWord) (by rfl) T.e_NoWord.g rfl) (fun _ h => h) T.k_NoWord_NoWord))))) (fun good_3 => (dr_ret (de_idx (de_lst (da_cons (de_tup (da_cons de_int da_nil)) (da_cons de_non da_nil))) (de_callTy call_int1 rc_int (by rfl) T.z_int bt_int (da_cons (de_var 4) da_nil))))))) (Or.inl rfl) (fun found_4 => (dr_ret (de_idx (de_lst (da_cons (de_var 2) (da_cons (de_tup (da_cons de_int da_nil)) da_nil))) (de_callTy call_int1 rc_int (by rfl) T.z_int bt_int (da_cons (de_cmp op_isA r2_is (de_var 2) de_non (nomark _)) da_nil))))))
theorem ok_law (T : Top K mg) : FnOk P w K mg base CX0 5 T.a_law T.d_law ["script"] (spD K 1 (ap1 m_law)) := by
  refine fn_ok (k := 4) T.F_law sc_law rfl (by decide) ap1_len (fun cdv A outer s H E ds hr hl => ?_)
  have nd := sc_law.nd
  match ds, hl with
  | [script], _ =>
    show DR _ _ [.im script, .any, .any, .any, .any, .any, .any, .any] (m_law script)
    unfold m_law m_law_c8 m_law_c7 m_law_c6 m_law_c5 m_law_c4 m_law_c3 m_law_c2 m_law_c1
    exact (dg_asg 1 (env' := fun many_1 => [.im script, .im many_1, .any, .any, .any, .any, .any, .any]) nd (Or.inl rfl) (de_op op_addA r2_add de_int (de_op op_mod r2_mod (de_call (ok_law_mixed T) (hr.mono (by decide)) (by rfl) T.g_law_mixed T.F_law_mixed.kp T.b_law_mixed pass0 ap2_len (da_cons (de_var 0) (da_cons de_int da_nil))) de_int)) (fun many_1 => (dg_asg 2 (env' := fun word_2 => [.im script, .im many_1, .im word_2, .any, .any, .any, .any, .any]) nd (Or.inl rfl) (de_call (ok_law_word T) (hr.mono (by decide)) (by rfl) T.g_law_word T.F_law_word.kp T.b_law_word pass0 ap3_len (da_cons (de_call (ok_law_mixed T) (hr.mono (by decide)) (by rfl) T.g_law_mixed T.F_law_mixed.kp T.b_law_mixed pass0 ap2_len (da_cons (de_var 0) (da_cons de_int da_nil))) (da_cons (de_var 1) (da_cons de_int da_nil)))) (fun word_2 => (dg_asg 3 (env' := fun first_3 => [.im script, .im many_1, .im word_2, .im first_3, .any, .any, .any, .any]) nd (Or.inl rfl) (de_call (ok_law_written T) (hr.mono (by decide)) (by rfl) T.g_law_written T.F_law_written.kp T.b_law_written pass0 ap1_len (da_cons (de_var 2) da_nil)) (fun first_3 => (dg_asg 4 (env' := fun number_4 => [.im script, .im many_1, .im word_2, .im first_3, .im number_4, .any, .any, .any]) nd (Or.inl rfl) (de_call (ok_law_mixed T) (hr.mono (by decide)) (by rfl) T.g_law_mixed T.F_law_mixed.kp T.b_law_mixed pass0 ap2_len (da_cons (de_var 0) (da_cons de_int da_nil))) (fun number_4 => (dg_asg 5 (env' := fun text_5 => [.im script, .im many_1, .im word_2, .im first_3, .im number_4, .im text_5, .any, .any]) nd (Or.inl rfl) (de_var 3) (fun text_5 => (dg_for 6 (ev := fun (st_6 : PyData) => [.im script, .im many_1, .im word_2, .im first_3, .im number_4, .im st_6, .any, .any]) (env' := fun (st_6 : PyData) k_7 => [.im script, .im many_1, .im word_2, .im first_3, .im number_4, .im st_6, .im k_7, .any]) (a0 := text_5) PassesOwn.never rfl nd (Or.inl rfl) (di_range1 (by rfl) T.z_range (da_cons (de_op op_mulA r2_mul (de_op op_mod r2_mod (de_var 4) de_int) (de_op op_addA r2_add de_int (de_op op_mod r2_mod (de_op op_fdiv r2_fdiv (de_var 4) de_int) de_int))) da_nil)) (wk_same (wk_same (wk_same (wk_same (wk_same (wk_same (wk_any (wk_any wk_nil)))))))) (fun st_6 k_7 => (dg_asg 5 (env' := fun text_8 => [.im script, .im many_1, .im word_2, .im first_3, .im number_4, .im text_8, .im k_7, .any]) nd (Or.inl rfl) (de_call (ok_law_changed T) (hr.mono (by decide)) (by rfl) T.g_law_changed T.F_law_changed.kp T.b_law_changed pass0 ap2_len (da_cons (de_var 5) (da_cons (de_call (ok_law_drawn T) (hr.mono (by decide)) (by rfl) T.g_law_drawn T.F_law_drawn.kp T.b_law_drawn pass0 ap2_len (da_cons (de_var 4) (da_cons (de_var 6) da_nil))) da_nil))) (fun text_8 => (dn_nil (a := text_8) (wk_same (wk_same (wk_same (wk_same (wk_same (wk_same (wk_any (wk_any wk_nil)))))))))))) (fun st_6 => (dg_asg 7 (env' := fun found_9 => [.im script, .im many_1, .im word_2, .im first_3, .im number_4, .im st_6, .any, .im found_9]) nd (Or.inl rfl) (de_call (ok_law_found T) (hr.mono (by decide)) (by rfl) T.g_law_found T.F_law_found.kp T.b_law_found pass0 ap2_len (da_cons (de_var 5) (da_cons (de_var 1) da_nil))) (fun found_9 => (dr_ifr (dt_cmp (op_eqD (hu64 hr)) r2_eq (de_var 5) (de_var 3) (nomark _)) (dr_ret (de_and (de_cmp (op_eqD (hu64 hr)) r2_eq (de_var 7) (de_var 2) (nomark _)) (de_one (de_call (ok_law_is_word T) (hr.mono (by decide)) (by rfl) T.g_law_is_word T.F_law_is_word.kp T.b_law_is_word pass0 ap2_len (da_cons (de_var 7) (da_cons (de_var 1) da_nil)))))) (dr_ret (de_or (de_cmp op_isA r2_is (de_var 7) de_non (nomark _)) (de_one (de_and (de_call (ok_law_is_word T) (hr.mono (by decide)) (by rfl) T.g_law_is_word T.F_law_is_word.kp T.b_law_is_word pass0 ap2_len (da_cons (de_var 7) (da_cons (de_var 1) da_nil))) (de_one (de_cmp (op_eqD (hu64 hr)) r2_eq (de_call (ok_law_written T) (hr.mono (by decide)) (by rfl) T.g_law_written T.F_law_written.kp T.b_law_written pass0 ap1_len (da_cons (de_var 7) da_nil)) (de_var 5) (nomark _))))))))))))))))))))))
end
end K03
end
section
set_option linter.all false
set_option maxRecDepth 100000
set_option maxHeartbeats 1000000
namespace K03
open PySem Mir Tie Thg
open DV hiding tI
/-! texts changed -/
theorem sgn {i : Int} (h : 0 ≤ i ∧ i < 12) : ∃ c, c < 128 ∧ pIdx (.str (" abdABDeE1\n\t" : Str)) (.int i) = some (.str (mkS [c])) := by
  have : i = 0 ∨ i = 1 ∨ i = 2 ∨ i = 3 ∨ i = 4 ∨ i = 5 ∨ i = 6 ∨ i = 7 ∨ i = 8 ∨ i = 9 ∨ i = 10 ∨ i = 11 := by omega
  rcases this with rfl | rfl | rfl | rfl | rfl | rfl | rfl | rfl | rfl | rfl | rfl | rfl
  · exact ⟨32, by decide, rfl⟩
  · exact ⟨97, by decide, rfl⟩
  · exact ⟨98, by decide, rfl⟩
  · exact ⟨100, by decide, rfl⟩
  · exact ⟨65, by decide, rfl⟩
  · exact ⟨66, by decide, rfl⟩
  · exact ⟨68, by decide, rfl⟩
  · exact ⟨101, by decide, rfl⟩
  · exact ⟨69, by decide, rfl⟩
  · exact ⟨49, by decide, rfl⟩
  · exact ⟨10, by decide, rfl⟩
  · exact ⟨9, by decide, rfl⟩
def codes12 : List Nat := [110, 111, 110, 101, 32, 97, 32, 98, 32, 99, 32, 100, 32, 65, 32, 66, 32, 67, 32, 68, 32, 101, 32, 49, 32, 97, 97]
theorem some12 : ("none a b c d A B C D e 1 aa" : Str) = mkS codes12 := rfl
theorem parts12 : ∀ i : Fin 12, ((sp codes12)[i.val]?.any fun p => p.all (fun c => decide (c < 128)) && decide (p.length ≤ 4)) = true := by decide
theorem pIdx_pL {ps : List (List Nat)} {i : Int} {p : List Nat} (h0 : 0 ≤ i) (h : ps[i.toNat]? = some p) : pIdx (pL ps) (.int i) = some (.str (mkS p)) := by
  have hi : i.toNat < ps.length := by
    rcases Nat.lt_or_ge i.toNat ps.length with h1 | h1
    · exact h1
    · rw [List.getElem?_eq_none h1] at h
      cases h
  show L2.atI (ps.map fun p => PyData.str (mkS p)) i = _
  unfold L2.atI L2.ixN
  rw [List.length_map, if_pos h0, if_pos (by omega), bs, List.getElem?_map, h]
  rfl
theorem take_sm {l : List Nat} (h : sm l) (k : Nat) : sm (l.take k) := fun c hc => h c (List.mem_of_mem_take hc)
theorem drop_sm {l : List Nat} (h : sm l) (k : Nat) : sm (l.drop k) := fun c hc => h c (List.mem_of_mem_drop hc)
theorem app_sm {l m : List Nat} (h : sm l) (k : sm m) : sm (l ++ m) := fun c hc => (List.mem_append.mp hc).elim (h c) (k c)
theorem t_changed {l : List Nat} (hs : sm l) (hl : l.length ≤ 1000) {num : Int} (hn : 0 ≤ num) : ∃ l', m_law_changed (.str (mkS l)) (.int num) = some (.str (mkS l')) ∧ sm l' ∧ l'.length + 6 ≤ 2 * (l.length + 6) := by
  have hw := sp_wt l
  have hne := sp_ne l
  have hall : ∀ p ∈ sp l, sm p := fun p hp c hc => hs c (sp_mem l p hp c hc)
  unfold m_law_changed
  rw [bs, bs, pSplit_mkS (by omega)]
  generalize sp l = ps at hw hne hall
  have hpos : 0 < ps.length := List.length_pos_iff.mpr hne
  have hlen := wt_len ps
  simp only [bs, pLen_list, List.length_map, pLen_mkS (show l.length ≤ 1000000 by omega)]
  have m0 : pFdiv (.int num) (.int 8) = some (.int (num / 8)) := pFdiv_int (by decide)
  have m1 : pMod (.int (num / 8)) (.int (ps.length : Nat)) = some (.int (num / 8 % (ps.length : Int))) := pMod_int (by omega)
  have m2 : pMod (.int (num / 8)) (.int ((l.length : Nat) + 1)) = some (.int (num / 8 % ((l.length : Int) + 1))) := pMod_int (by omega)
  have m3 : pMod (.int num) (.int 8) = some (.int (num % 8)) := pMod_int (by decide)
  rw [m0, bs, m1, bs, bs, pAdd_int, bs, m2, bs, m3, bs]
  obtain ⟨k, hk⟩ := Int.eq_ofNat_of_zero_le (show 0 ≤ num / 8 % (ps.length : Int) from Int.emod_nonneg _ (by omega))
  obtain ⟨pl, hpl⟩ := Int.eq_ofNat_of_zero_le (show 0 ≤ num / 8 % ((l.length : Int) + 1) from Int.emod_nonneg _ (by omega))
  rw [hk, hpl]
  have hkd : 0 ≤ num % 8 ∧ num % 8 < 8 := by omega
  generalize num % 8 = kd at hkd
  have e1 : (k : Int) + 1 = ((k + 1 : Nat) : Int) := by omega
  have e2 : (k : Int) + 2 = ((k + 1 : Nat) : Int) + 1 := by omega
  have w1 := wt_cut ps k
  have w2 := wt_cut (ps.drop k) 1
  have w3 := wt_cut (ps.drop (k + 1)) 1
  rw [List.drop_drop] at w2 w3
  have i1 : ∀ q ∈ ps.take k, sm q := fun q hq => hall q (List.mem_of_mem_take hq)
  have i2 : ∀ j, ∀ q ∈ ps.drop j, sm q := fun j q hq => hall q (List.mem_of_mem_drop hq)
  have i3 : ∀ j, ∀ q ∈ (ps.drop j).take 1, sm q := fun j q hq => i2 j q (List.mem_of_mem_take hq)
  have n1 := wt_len (ps.take k)
  have n2 := wt_len (ps.drop k)
  have n3 := wt_len (ps.drop (k + 1))
  have n4 := wt_len ((ps.drop k).take 1)
  have n5 := wt_len ((ps.drop (k + 1)).take 1)
  have n6 := wt_len (ps.drop (k + 1 + 1))
  have fin : ∀ qs : List (List Nat), (∀ q ∈ qs, sm q) → wt qs ≤ 2 * l.length + 6 → ∃ l', pJoin (.str (" " : Str)) (pL qs) = some (.str (mkS l')) ∧ sm l' ∧ l'.length + 6 ≤ 2 * (l.length + 6) := fun qs hq hwq => by
    refine ⟨_, pJoin_pL (by omega), join_sm hq, ?_⟩
    have := join_len_le qs
    omega
  rw [pEq_int, bs, asB_bool, bs]
  by_cases k0 : kd = 0
  · rw [decide_eq_true k0, if_pos rfl]
    simp only [bs, asI_int, ms, pAdd_int]
    rw [cutS_to pl (by omega), bs, cutS_from _ (by omega) (by omega), bs, pAdd_str (by rw [List.length_take, List.length_drop]; omega)]
    refine ⟨_, rfl, app_sm (take_sm hs _) (drop_sm hs _), ?_⟩
    rw [List.length_append, List.length_take, List.length_drop]
    omega
  rw [decide_eq_false k0, if_neg (by decide), pLt_int, bs, asB_bool, bs]
  by_cases k3 : kd < 3
  · rw [decide_eq_true k3, if_pos rfl]
    simp only [bs, asI_int, ms, pAdd_int, pSub_int]
    rw [pFdiv_int (by decide), bs, pMod_int (by decide), bs]
    obtain ⟨c, hc, ec⟩ := sgn (i := num / 7 % 12) (by omega)
    rw [ec, bs, cutS_to pl (by omega), bs, pAdd_str (by rw [List.length_take]; simp; omega), bs, cutS_from _ (by omega) (by omega), bs, pAdd_str (by rw [List.length_append, List.length_take, List.length_drop]; simp; omega)]
    refine ⟨_, rfl, app_sm (app_sm (take_sm hs _) fun x hx => ?_) (drop_sm hs _), ?_⟩
    · rw [List.mem_singleton.mp hx]
      exact hc
    · rw [List.length_append, List.length_append, List.length_take, List.length_drop]
      simp
      omega
  rw [decide_eq_false k3, if_neg (by decide), pEq_int, bs, asB_bool, bs]
  by_cases k3 : kd = 3
  · rw [decide_eq_true k3, if_pos rfl]
    simp only [bs, asI_int, ms, pAdd_int]
    rw [pL_to, bs, pL_from _ _ (by omega), bs, show ((k : Int) + 1).toNat = k + 1 by omega, pL_app (by omega), bs]
    refine fin _ (fun q hq => (List.mem_append.mp hq).elim (i1 q) (i2 _ q)) ?_
    rw [wt_app]
    omega
  rw [decide_eq_false k3, if_neg (by decide), pEq_int, bs, asB_bool, bs]
  by_cases k4 : kd = 4
  · rw [decide_eq_true k4, if_pos rfl]
    simp only [bs, asI_int, ms, pAdd_int]
    rw [pL_to, bs, pL_mid, bs, pL_app (by omega), bs, pL_from _ _ (by omega), bs, show ((k : Int)).toNat = k by omega, pL_app (by rw [List.length_append]; omega), bs]
    refine fin _ (fun q hq => (List.mem_append.mp hq).elim (fun h => (List.mem_append.mp h).elim (i1 q) (i3 _ q)) (i2 _ q)) ?_
    rw [wt_app, wt_app]
    omega
  rw [decide_eq_false k4, if_neg (by decide), pEq_int, bs, asB_bool, bs]
  by_cases k5 : kd = 5
  · rw [decide_eq_true k5, if_pos rfl]
    simp only [bs, asI_int, ms, pAdd_int]
    have m1 : pCut (pL ps) (some ((k : Int) + 1)) (some ((k : Int) + 2)) = some (pL ((ps.drop (k + 1)).take 1)) := by
      rw [e1, e2]
      exact pL_mid ps (k + 1)
    rw [m1, bs, pL_mid, bs, pL_app (by omega), bs, pL_to, bs, pL_app (by rw [List.length_append]; omega), bs, pL_from _ _ (by omega), bs, show ((k : Int) + 2).toNat = k + 1 + 1 by omega, pL_app (by rw [List.length_append, List.length_append]; omega), bs]
    refine fin _ (fun q hq => (List.mem_append.mp hq).elim (fun h => (List.mem_append.mp h).elim (i1 q) fun h => (List.mem_append.mp h).elim (i3 _ q) (i3 _ q)) (i2 _ q)) ?_
    rw [wt_app, wt_app, wt_app]
    omega
  rw [decide_eq_false k5, if_neg (by decide), some12]
  have h12 := parts12 ⟨(num / 7 % 12).toNat, by omega⟩
  simp only [bs, asI_int, ms, pAdd_int]
  rw [pSplit_mkS (by decide), bs, pFdiv_int (by decide), bs, pMod_int (by decide), bs]
  cases hp : (sp codes12)[(num / 7 % 12).toNat]? with
  | none =>
    rw [show (⟨(num / 7 % 12).toNat, by omega⟩ : Fin 12).val = (num / 7 % 12).toNat from rfl, hp] at h12
    cases h12
  | some p =>
    rw [show (⟨(num / 7 % 12).toNat, by omega⟩ : Fin 12).val = (num / 7 % 12).toNat from rfl, hp] at h12
    have h12 : (p.all (fun c => decide (c < 128)) && decide (p.length ≤ 4)) = true := h12
    simp only [Bool.and_eq_true, decide_eq_true_eq, List.all_eq_true] at h12
    rw [pL_to, bs, pIdx_pL (by omega) hp, bs, bs, show mkLst [PyData.str (mkS p)] = some (pL [p]) from rfl, bs, pL_app (by simp; omega), bs, pL_from _ _ (by omega), bs, show ((k : Int) + 1).toNat = k + 1 by omega, pL_app (by rw [List.length_append]; simp; omega), bs]
    refine fin _ (fun q hq => (List.mem_append.mp hq).elim (fun h => (List.mem_append.mp h).elim (i1 q) fun h => ?_) (i2 _ q)) ?_
    · rw [List.mem_singleton.mp h]
      exact h12.1
    · rw [wt_app, wt_app, wt_cons, wt_nil]
      omega
/-! what is found -/
theorem found_ex {t n : PyData} (h : m_read t n = some (.ex .noText)) : m_law_found t n = some .none := by
  unfold m_law_found
  simp only [bs]
  rw [show ax2 m_read [t, n] = some (.ex .noText) from h]
  rfl
theorem found_ok {t n : PyData} {w : List Int} (h : m_read t n = some (.ok (tI w))) : m_law_found t n = some (tI w) := by
  unfold m_law_found
  simp only [bs]
  rw [show ax2 m_read [t, n] = some (.ok (tI w)) from h]
  rfl
theorem law_true (ns : List Int) (h : ns.length ≤ 63) : m_law (scrD ns) = some (.bool true) := by
  obtain ⟨r0, e0, a0, b0⟩ := t_mixed ns 0 (by omega)
  obtain ⟨r1, e1, a1, b1⟩ := t_mixed ns 1 (by omega)
  obtain ⟨r2, e2, a2, b2⟩ := t_mixed ns 2 (by omega)
  unfold m_law
  simp only [bs, ap2_mk, e0]
  rw [pMod_int (by omega)]
  simp only [bs, pAdd_int]
  have hm : 2 ≤ 2 + r0 % 4 ∧ 2 + r0 % 4 ≤ 5 := by omega
  generalize 2 + r0 % 4 = n at hm
  obtain ⟨u, eu, lu, hu⟩ := t_word r1 n 12 a1 hm (by omega)
  unfold m_law_c8
  simp only [bs, ap2_mk, e1, ap3_mk, eu]
  have hU : ∀ p ∈ u, Lt p := fun p hp => by
    have := hu p hp
    unfold Lt
    omega
  unfold m_law_c7
  simp only [bs, ap1_mk, t_law_written hU (by omega)]
  unfold m_law_c6
  simp only [bs, ap2_mk, e2]
  unfold m_law_c5
  rw [bs]
  unfold m_law_c4
  simp only [bs]
  rw [pMod_int (by decide), bs, pFdiv_int (by decide), bs, pMod_int (by decide), bs, pAdd_int, bs]
  have hcnt : 0 ≤ r2 % 3 * (1 + r2 / 3 % 2) ∧ r2 % 3 * (1 + r2 / 3 % 2) ≤ 4 := by
    have h1 : r2 % 3 = 0 ∨ r2 % 3 = 1 ∨ r2 % 3 = 2 := by omega
    have h2 : r2 / 3 % 2 = 0 ∨ r2 / 3 % 2 = 1 := by omega
    rcases h1 with h1 | h1 | h1 <;> rcases h2 with h2 | h2 <;> rw [h1, h2] <;> decide
  rw [show pMul (.int (r2 % 3)) (.int (1 + r2 / 3 % 2)) = some (.int (r2 % 3 * (1 + r2 / 3 % 2))) from by
    first
      | rfl
      | exact pMul_int (by omega)
      | (rw [pMul_int] <;> omega), bs]
  generalize r2 % 3 * (1 + r2 / 3 % 2) = cnt at hcnt
  rw [bs, if_pos (show [PyData.int cnt].length = 1 from rfl), pRange_1 (by omega), bs]
  have hw0 : (wr u).length + 6 ≤ 30 := by
    by_cases hne : u = []
    · subst hne
      decide
    · rw [wr_cat hne, List.length_drop, cat_len]
      omega
  refine bnd_of (foldlM_inv (fun i (a : PyData) => ∃ l, a = .str (mkS l) ∧ sm l ∧ l.length + 6 ≤ 30 * 2 ^ i) (ns := upL 0 cnt.toNat) ⟨wr u, rfl, wr_sm hU, hw0⟩ ?step) ?fin
  case step =>
    rintro i a k hi hk ⟨l, rfl, hs, hl⟩
    have hi4 : i < 4 := by
      rw [upL_len] at hi
      omega
    have hk' : 0 ≤ k ∧ k ≤ 1000 := by
      have := mem_upL.mp hk
      omega
    obtain ⟨d, ed, ad, bd⟩ := t_drawn r2 k (by omega)
    have hl2 : l.length ≤ 1000 := by
      have : (2 : Nat) ^ i ≤ 2 ^ 3 := Nat.pow_le_pow_right (by decide) (by omega)
      omega
    obtain ⟨l', el, hs', hl'⟩ := t_changed hs hl2 (num := d) ad
    refine ⟨_, ?_, l', rfl, hs', ?_⟩
    · simp only [bs, ap2_mk, ed, el]
    · rw [Nat.pow_succ]
      omega
  case fin =>
    rintro a ⟨l, rfl, hs, hl⟩
    have hl2 : l.length ≤ 900 := by
      rw [upL_len] at hl
      have : (2 : Nat) ^ cnt.toNat ≤ 2 ^ 4 := Nat.pow_le_pow_right (by decide) (by omega)
      omega
    unfold m_law_c3
    simp only [bs, ap2_mk]
    have hwd : wordB n (tI u) = true := by
      show ((u.map PyData.int).all (wp n)) = true
      rw [List.all_eq_true]
      intro d hd
      obtain ⟨p, hp, rfl⟩ := List.mem_map.mp hd
      have := hu p hp
      unfold wp numB
      simp
      omega
    by_cases hq : l = wr u
    · subst hq
      rw [found_ok (read_word n hU (by omega) hwd), bs]
      unfold m_law_c2
      simp only [bs, pEq_str hs.small hs.small, asB_bool, decide_true, if_true, pEq_tI, ap2_mk, t_law_is_word (k := 2) (by decide) (gd_word hU (by omega)), hwd]
    · have key : ∀ f, m_law_found (.str (mkS l)) (.int n) = some f → m_law_c1 (.int n) (.str (mkS l)) f = some (.bool true) → ((m_law_found (.str (mkS l)) (.int n)).bind fun found_9 => m_law_c2 (.int n) (tI u) (.str (mkS (wr u))) (.str (mkS l)) found_9) = some (.bool true) := fun f ef hf => by
        rw [ef, bs]
        unfold m_law_c2
        rw [bs, bs, pEq_str hs.small (wr_small hU), bs, asB_bool, bs, decide_eq_false hq, if_neg (by decide)]
        exact hf
      have none_ok : m_law_c1 (.int n) (.str (mkS l)) .none = some (.bool true) := rfl
      have word_ok : ∀ w : List Int, (∀ p ∈ w, Lt p) → w.length ≤ 1000 → wordB n (tI w) = true → wr w = l → m_law_c1 (.int n) (.str (mkS l)) (tI w) = some (.bool true) := fun w h1 h2 h3 h4 => by
        unfold m_law_c1
        rw [bs, bs, show pIs (tI w) PyData.none = some (.bool false) from rfl, bs, asB_bool, bs, if_neg (by decide)]
        simp only [bs, ap2_mk, t_law_is_word (k := 2) (by decide) (gd_word h1 h2), h3, asB_bool, if_true, ap1_mk, t_law_written h1 h2]
        rw [h4, pEq_str hs.small hs.small, decide_eq_true rfl]
      by_cases hnl : l = noneL
      · refine key _ (found_ok (w := []) (by rw [hnl]; exact read_none n)) (word_ok [] (fun p hp => by cases hp) (by decide) rfl (by rw [hnl]; rfl))
      · rcases read_else n hs hl2 hnl with ⟨_, e⟩ | ⟨w, hw1, _, _, hw2, hw3, e⟩
        · exact key _ (found_ex e) none_ok
        · cases hwb : wordB n (tI w) with
          | true =>
            rw [hwb, if_pos rfl] at e
            exact key _ (found_ok e) (word_ok w hw1 hw3 hwb hw2)
          | false =>
            rw [hwb, if_neg (by decide)] at e
            exact key _ (found_ex e) none_ok
end K03
end
set_option Elab.async false
set_option linter.all false
set_option maxRecDepth 100000
set_option maxHeartbeats 4000000
namespace K03
open PySem PySem.Spec PyProof.Rows L2 DV Mir
theorem all_mk {l : PySem.W.OpenLaw} {w : World} {K : PySem.W.Frag} {h : Heap} {mg : Str → Option Value} {fa : Addr} (X : K.In h) (G : h.Ns mainGlobals mg) (hfa : mg "law" = some (.ref fa))
    {f_is_number : Addr} {od_is_number an_is_number : Option Addr} {sl_is_number : Array (Option Value)} {oc_is_number kV_is_number dc_is_number pm_is_number cd_is_number ct_is_number : Value}
    (a_is_number : PySem.W.nsIn K mainGlobals "is_number" = some (some (.ref f_is_number))) (l_is_number : K.lookup f_is_number = some ⟨oc_is_number, od_is_number, .func (PySem.W.fnOf "is_number" "is_number" (defArgs s_is_number) (defBody s_is_number) (defScope s_is_number) .none kV_is_number dc_is_number pm_is_number an_is_number cd_is_number ct_is_number), sl_is_number⟩)
    (c_is_number : PySem.W.codeIn K cd_is_number "is_number" = true) (k_is_number : PySem.W.keepIn K (.ref f_is_number) = true)
    {f_is_word : Addr} {od_is_word an_is_word : Option Addr} {sl_is_word : Array (Option Value)} {oc_is_word kV_is_word dc_is_word pm_is_word cd_is_word ct_is_word : Value}
    (a_is_word : PySem.W.nsIn K mainGlobals "is_word" = some (some (.ref f_is_word))) (l_is_word : K.lookup f_is_word = some ⟨oc_is_word, od_is_word, .func (PySem.W.fnOf "is_word" "is_word" (defArgs s_is_word) (defBody s_is_word) (defScope s_is_word) .none kV_is_word dc_is_word pm_is_word an_is_word cd_is_word ct_is_word), sl_is_word⟩)
    (c_is_word : PySem.W.codeIn K cd_is_word "is_word" = true) (k_is_word : PySem.W.keepIn K (.ref f_is_word) = true)
    {f_letter_of : Addr} {od_letter_of an_letter_of : Option Addr} {sl_letter_of : Array (Option Value)} {oc_letter_of kV_letter_of dc_letter_of pm_letter_of cd_letter_of ct_letter_of : Value}
    (a_letter_of : PySem.W.nsIn K mainGlobals "letter_of" = some (some (.ref f_letter_of))) (l_letter_of : K.lookup f_letter_of = some ⟨oc_letter_of, od_letter_of, .func (PySem.W.fnOf "letter_of" "letter_of" (defArgs s_letter_of) (defBody s_letter_of) (defScope s_letter_of) .none kV_letter_of dc_letter_of pm_letter_of an_letter_of cd_letter_of ct_letter_of), sl_letter_of⟩)
    (c_letter_of : PySem.W.codeIn K cd_letter_of "letter_of" = true) (k_letter_of : PySem.W.keepIn K (.ref f_letter_of) = true)
    {f_text_of : Addr} {od_text_of an_text_of : Option Addr} {sl_text_of : Array (Option Value)} {oc_text_of kV_text_of dc_text_of pm_text_of cd_text_of ct_text_of : Value}
    (a_text_of : PySem.W.nsIn K mainGlobals "text_of" = some (some (.ref f_text_of))) (l_text_of : K.lookup f_text_of = some ⟨oc_text_of, od_text_of, .func (PySem.W.fnOf "text_of" "text_of" (defArgs s_text_of) (defBody s_text_of) (defScope s_text_of) .none kV_text_of dc_text_of pm_text_of an_text_of cd_text_of ct_text_of), sl_text_of⟩)
    (c_text_of : PySem.W.codeIn K cd_text_of "text_of" = true) (k_text_of : PySem.W.keepIn K (.ref f_text_of) = true)
    {f_part_of : Addr} {od_part_of an_part_of : Option Addr} {sl_part_of : Array (Option Value)} {oc_part_of kV_part_of dc_part_of pm_part_of cd_part_of ct_part_of : Value}
    (a_part_of : PySem.W.nsIn K mainGlobals "part_of" = some (some (.ref f_part_of))) (l_part_of : K.lookup f_part_of = some ⟨oc_part_of, od_part_of, .func (PySem.W.fnOf "part_of" "part_of" (defArgs s_part_of) (defBody s_part_of) (defScope s_part_of) .none kV_part_of dc_part_of pm_part_of an_part_of cd_part_of ct_part_of), sl_part_of⟩)
    (c_part_of : PySem.W.codeIn K cd_part_of "part_of" = true) (k_part_of : PySem.W.keepIn K (.ref f_part_of) = true)
    {f_read : Addr} {od_read an_read : Option Addr} {sl_read : Array (Option Value)} {oc_read kV_read dc_read pm_read cd_read ct_read : Value}
    (a_read : PySem.W.nsIn K mainGlobals "read" = some (some (.ref f_read))) (l_read : K.lookup f_read = some ⟨oc_read, od_read, .func (PySem.W.fnOf "read" "read" (defArgs s_read) (defBody s_read) (defScope s_read) .none kV_read dc_read pm_read an_read cd_read ct_read), sl_read⟩)
    (c_read : PySem.W.codeIn K cd_read "read" = true) (k_read : PySem.W.keepIn K (.ref f_read) = true)
    {f_law_cell_at : Addr} {od_law_cell_at an_law_cell_at : Option Addr} {sl_law_cell_at : Array (Option Value)} {oc_law_cell_at kV_law_cell_at dc_law_cell_at pm_law_cell_at cd_law_cell_at ct_law_cell_at : Value}
    (a_law_cell_at : PySem.W.nsIn K mainGlobals "_law_cell_at" = some (some (.ref f_law_cell_at))) (l_law_cell_at : K.lookup f_law_cell_at = some ⟨oc_law_cell_at, od_law_cell_at, .func (PySem.W.fnOf "_law_cell_at" "_law_cell_at" (defArgs s_law_cell_at) (defBody s_law_cell_at) (defScope s_law_cell_at) .none kV_law_cell_at dc_law_cell_at pm_law_cell_at an_law_cell_at cd_law_cell_at ct_law_cell_at), sl_law_cell_at⟩)
    (c_law_cell_at : PySem.W.codeIn K cd_law_cell_at "_law_cell_at" = true) (k_law_cell_at : PySem.W.keepIn K (.ref f_law_cell_at) = true)
    {f_law_mixed : Addr} {od_law_mixed an_law_mixed : Option Addr} {sl_law_mixed : Array (Option Value)} {oc_law_mixed kV_law_mixed dc_law_mixed pm_law_mixed cd_law_mixed ct_law_mixed : Value}
    (a_law_mixed : PySem.W.nsIn K mainGlobals "_law_mixed" = some (some (.ref f_law_mixed))) (l_law_mixed : K.lookup f_law_mixed = some ⟨oc_law_mixed, od_law_mixed, .func (PySem.W.fnOf "_law_mixed" "_law_mixed" (defArgs s_law_mixed) (defBody s_law_mixed) (defScope s_law_mixed) .none kV_law_mixed dc_law_mixed pm_law_mixed an_law_mixed cd_law_mixed ct_law_mixed), sl_law_mixed⟩)
    (c_law_mixed : PySem.W.codeIn K cd_law_mixed "_law_mixed" = true) (k_law_mixed : PySem.W.keepIn K (.ref f_law_mixed) = true)
    {f_law_drawn : Addr} {od_law_drawn an_law_drawn : Option Addr} {sl_law_drawn : Array (Option Value)} {oc_law_drawn kV_law_drawn dc_law_drawn pm_law_drawn cd_law_drawn ct_law_drawn : Value}
    (a_law_drawn : PySem.W.nsIn K mainGlobals "_law_drawn" = some (some (.ref f_law_drawn))) (l_law_drawn : K.lookup f_law_drawn = some ⟨oc_law_drawn, od_law_drawn, .func (PySem.W.fnOf "_law_drawn" "_law_drawn" (defArgs s_law_drawn) (defBody s_law_drawn) (defScope s_law_drawn) .none kV_law_drawn dc_law_drawn pm_law_drawn an_law_drawn cd_law_drawn ct_law_drawn), sl_law_drawn⟩)
    (c_law_drawn : PySem.W.codeIn K cd_law_drawn "_law_drawn" = true) (k_law_drawn : PySem.W.keepIn K (.ref f_law_drawn) = true)
    {f_law_word : Addr} {od_law_word an_law_word : Option Addr} {sl_law_word : Array (Option Value)} {oc_law_word kV_law_word dc_law_word pm_law_word cd_law_word ct_law_word : Value}
    (a_law_word : PySem.W.nsIn K mainGlobals "_law_word" = some (some (.ref f_law_word))) (l_law_word : K.lookup f_law_word = some ⟨oc_law_word, od_law_word, .func (PySem.W.fnOf "_law_word" "_law_word" (defArgs s_law_word) (defBody s_law_word) (defScope s_law_word) .none kV_law_word dc_law_word pm_law_word an_law_word cd_law_word ct_law_word), sl_law_word⟩)
    (c_law_word : PySem.W.codeIn K cd_law_word "_law_word" = true) (k_law_word : PySem.W.keepIn K (.ref f_law_word) = true)
    {f_law_number : Addr} {od_law_number an_law_number : Option Addr} {sl_law_number : Array (Option Value)} {oc_law_number kV_law_number dc_law_number pm_law_number cd_law_number ct_law_number : Value}
    (a_law_number : PySem.W.nsIn K mainGlobals "_law_number" = some (some (.ref f_law_number))) (l_law_number : K.lookup f_law_number = some ⟨oc_law_number, od_law_number, .func (PySem.W.fnOf "_law_number" "_law_number" (defArgs s_law_number) (defBody s_law_number) (defScope s_law_number) .none kV_law_number dc_law_number pm_law_number an_law_number cd_law_number ct_law_number), sl_law_number⟩)
    (c_law_number : PySem.W.codeIn K cd_law_number "_law_number" = true) (k_law_number : PySem.W.keepIn K (.ref f_law_number) = true)
    {f_law_is_word : Addr} {od_law_is_word an_law_is_word : Option Addr} {sl_law_is_word : Array (Option Value)} {oc_law_is_word kV_law_is_word dc_law_is_word pm_law_is_word cd_law_is_word ct_law_is_word : Value}
    (a_law_is_word : PySem.W.nsIn K mainGlobals "_law_is_word" = some (some (.ref f_law_is_word))) (l_law_is_word : K.lookup f_law_is_word = some ⟨oc_law_is_word, od_law_is_word, .func (PySem.W.fnOf "_law_is_word" "_law_is_word" (defArgs s_law_is_word) (defBody s_law_is_word) (defScope s_law_is_word) .none kV_law_is_word dc_law_is_word pm_law_is_word an_law_is_word cd_law_is_word ct_law_is_word), sl_law_is_word⟩)
    (c_law_is_word : PySem.W.codeIn K cd_law_is_word "_law_is_word" = true) (k_law_is_word : PySem.W.keepIn K (.ref f_law_is_word) = true)
    {f_law_written : Addr} {od_law_written an_law_written : Option Addr} {sl_law_written : Array (Option Value)} {oc_law_written kV_law_written dc_law_written pm_law_written cd_law_written ct_law_written : Value}
    (a_law_written : PySem.W.nsIn K mainGlobals "_law_written" = some (some (.ref f_law_written))) (l_law_written : K.lookup f_law_written = some ⟨oc_law_written, od_law_written, .func (PySem.W.fnOf "_law_written" "_law_written" (defArgs s_law_written) (defBody s_law_written) (defScope s_law_written) .none kV_law_written dc_law_written pm_law_written an_law_written cd_law_written ct_law_written), sl_law_written⟩)
    (c_law_written : PySem.W.codeIn K cd_law_written "_law_written" = true) (k_law_written : PySem.W.keepIn K (.ref f_law_written) = true)
    {f_law_changed : Addr} {od_law_changed an_law_changed : Option Addr} {sl_law_changed : Array (Option Value)} {oc_law_changed kV_law_changed dc_law_changed pm_law_changed cd_law_changed ct_law_changed : Value}
    (a_law_changed : PySem.W.nsIn K mainGlobals "_law_changed" = some (some (.ref f_law_changed))) (l_law_changed : K.lookup f_law_changed = some ⟨oc_law_changed, od_law_changed, .func (PySem.W.fnOf "_law_changed" "_law_changed" (defArgs s_law_changed) (defBody s_law_changed) (defScope s_law_changed) .none kV_law_changed dc_law_changed pm_law_changed an_law_changed cd_law_changed ct_law_changed), sl_law_changed⟩)
    (c_law_changed : PySem.W.codeIn K cd_law_changed "_law_changed" = true) (k_law_changed : PySem.W.keepIn K (.ref f_law_changed) = true)
    {f_law_found : Addr} {od_law_found an_law_found : Option Addr} {sl_law_found : Array (Option Value)} {oc_law_found kV_law_found dc_law_found pm_law_found cd_law_found ct_law_found : Value}
    (a_law_found : PySem.W.nsIn K mainGlobals "_law_found" = some (some (.ref f_law_found))) (l_law_found : K.lookup f_law_found = some ⟨oc_law_found, od_law_found, .func (PySem.W.fnOf "_law_found" "_law_found" (defArgs s_law_found) (defBody s_law_found) (defScope s_law_found) .none kV_law_found dc_law_found pm_law_found an_law_found cd_law_found ct_law_found), sl_law_found⟩)
    (c_law_found : PySem.W.codeIn K cd_law_found "_law_found" = true) (k_law_found : PySem.W.keepIn K (.ref f_law_found) = true)
    {f_law : Addr} {od_law an_law : Option Addr} {sl_law : Array (Option Value)} {oc_law kV_law dc_law pm_law cd_law ct_law : Value}
    (a_law : PySem.W.nsIn K mainGlobals "law" = some (some (.ref f_law))) (l_law : K.lookup f_law = some ⟨oc_law, od_law, .func (PySem.W.fnOf "law" "law" (defArgs s_law) (defBody s_law) (defScope s_law) .none kV_law dc_law pm_law an_law cd_law ct_law), sl_law⟩)
    (c_law : PySem.W.codeIn K cd_law "law" = true) (k_law : PySem.W.keepIn K (.ref f_law) = true)
    {c_StrandError : Addr} (g_StrandError : PySem.W.nsIn K mainGlobals "StrandError" = some (some (.ref c_StrandError)))
    (xx_StrandError : PySem.W.excIn K c_StrandError [.type "ValueError", .type "Exception", .type "BaseException", .type "object"] "ValueError.__new__" = true)
    (xk_StrandError : PySem.W.keepIn K (.ref c_StrandError) = true)
    (xb_StrandError : PySem.W.subIn K (.ref c_StrandError) (.type "BaseException") = some true)
    (xt_StrandError : PySem.W.typeIn K (.ref c_StrandError) = some (.type "type"))
    (xhd_StrandError : PySem.W.hasDictIn K c_StrandError = true)
    (xhg_StrandError : PySem.W.findIn K (.ref c_StrandError) "__getattribute__" = some (some (.builtin "BaseException.__getattribute__")))
    (xhk_StrandError : PySem.W.findIn K (.ref c_StrandError) "__getattr__" = some none)
    (xha_StrandError : PySem.W.findIn K (.ref c_StrandError) "__class__" = some (some (.builtin "object.__class__")))
    (xhn_StrandError : PySem.W.specialIn K (.builtin "object.__class__") "__get__" = some (some (.builtin "getset_descriptor.__get__")))
    (xht_StrandError : PySem.W.takesIn K (.builtin "object.__class__") = some true)
    (xhm_StrandError : PySem.W.mroIn K c_StrandError (.type "object") = some true)
    {c_NoWord : Addr} (g_NoWord : PySem.W.nsIn K mainGlobals "NoWord" = some (some (.ref c_NoWord)))
    (xx_NoWord : PySem.W.excIn K c_NoWord [.type "ValueError", .type "Exception", .type "BaseException", .type "object"] "ValueError.__new__" = true)
    (xk_NoWord : PySem.W.keepIn K (.ref c_NoWord) = true)
    (xb_NoWord : PySem.W.subIn K (.ref c_NoWord) (.type "BaseException") = some true)
    (xt_NoWord : PySem.W.typeIn K (.ref c_NoWord) = some (.type "type"))
    (xhd_NoWord : PySem.W.hasDictIn K c_NoWord = true)
    (xhg_NoWord : PySem.W.findIn K (.ref c_NoWord) "__getattribute__" = some (some (.builtin "BaseException.__getattribute__")))
    (xhk_NoWord : PySem.W.findIn K (.ref c_NoWord) "__getattr__" = some none)
    (xha_NoWord : PySem.W.findIn K (.ref c_NoWord) "__class__" = some (some (.builtin "object.__class__")))
    (xhn_NoWord : PySem.W.specialIn K (.builtin "object.__class__") "__get__" = some (some (.builtin "getset_descriptor.__get__")))
    (xht_NoWord : PySem.W.takesIn K (.builtin "object.__class__") = some true)
    (xhm_NoWord : PySem.W.mroIn K c_NoWord (.type "object") = some true)
    {c_NoText : Addr} (g_NoText : PySem.W.nsIn K mainGlobals "NoText" = some (some (.ref c_NoText)))
    (xx_NoText : PySem.W.excIn K c_NoText [.type "ValueError", .type "Exception", .type "BaseException", .type "object"] "ValueError.__new__" = true)
    (xk_NoText : PySem.W.keepIn K (.ref c_NoText) = true)
    (xb_NoText : PySem.W.subIn K (.ref c_NoText) (.type "BaseException") = some true)
    (xt_NoText : PySem.W.typeIn K (.ref c_NoText) = some (.type "type"))
    (xhd_NoText : PySem.W.hasDictIn K c_NoText = true)
    (xhg_NoText : PySem.W.findIn K (.ref c_NoText) "__getattribute__" = some (some (.builtin "BaseException.__getattribute__")))
    (xhk_NoText : PySem.W.findIn K (.ref c_NoText) "__getattr__" = some none)
    (xha_NoText : PySem.W.findIn K (.ref c_NoText) "__class__" = some (some (.builtin "object.__class__")))
    (xhn_NoText : PySem.W.specialIn K (.builtin "object.__class__") "__get__" = some (some (.builtin "getset_descriptor.__get__")))
    (xht_NoText : PySem.W.takesIn K (.builtin "object.__class__") = some true)
    (xhm_NoText : PySem.W.mroIn K c_NoText (.type "object") = some true)
    (s_NoText_NoText : PySem.W.subIn K (.ref c_NoText) (.ref c_NoText) = some true)
    (s_NoWord_NoText : PySem.W.subIn K (.ref c_NoWord) (.ref c_NoText) = some false)
    (k_NoText_NoWord : PySem.W.kitOne K (.ref c_NoText) (.ref c_NoWord) = some false)
    (k_NoText_StrandError : PySem.W.kitOne K (.ref c_NoText) (.ref c_StrandError) = some true)
    (k_NoText_ValueError : PySem.W.kitOne K (.ref c_NoText) (.type "ValueError") = some true)
    (k_NoWord_NoWord : PySem.W.kitOne K (.ref c_NoWord) (.ref c_NoWord) = some true)
    (k_NoWord_StrandError : PySem.W.kitOne K (.ref c_NoWord) (.ref c_StrandError) = some true)
    (k_NoWord_ValueError : PySem.W.kitOne K (.ref c_NoWord) (.type "ValueError") = some true)
    (z_ValueError : PySem.W.nsIn K mainGlobals "ValueError" = some none)
    (z_all : PySem.W.nsIn K mainGlobals "all" = some none)
    (z_bool : PySem.W.nsIn K mainGlobals "bool" = some none)
    (z_int : PySem.W.nsIn K mainGlobals "int" = some none)
    (z_isinstance : PySem.W.nsIn K mainGlobals "isinstance" = some none)
    (z_len : PySem.W.nsIn K mainGlobals "len" = some none)
    (z_range : PySem.W.nsIn K mainGlobals "range" = some none)
    (z_str : PySem.W.nsIn K mainGlobals "str" = some none)
    (z_tuple : PySem.W.nsIn K mainGlobals "tuple" = some none)
    {tk_OVER : Tok} (q_OVER : PySem.W.nsIn K mainGlobals "OVER" = some (some (.str "abcd" tk_OVER)))
    {tk_UNDER : Tok} (q_UNDER : PySem.W.nsIn K mainGlobals "UNDER" = some (some (.str "ABCD" tk_UNDER)))
    : ∃ fd : FuncData, (∀ (s : Shared) (v : Value), BindsTo s fd ⟨[v], []⟩ [("script", v)]) ∧ ∀ base : Heap, K.In base → base.Ns mainGlobals mg → FnOk l.prog w K mg base CX0 5 fa fd ["script"] (spLaw K) := by
  have e := hfa.symm.trans (PySem.W.mg_of X G a_law)
  cases e
  let T : Top K mg := {
    a_is_number := f_is_number, d_is_number := _, F_is_number := fun_mk (st := s_is_number) l_is_number c_is_number k_is_number, g_is_number := PySem.W.mg_of X G a_is_number, b_is_number := (fun_mk (st := s_is_number) l_is_number c_is_number k_is_number).binds (ps := ["thing", "low", "high"]) fun _ _ _ _ _ _ us hl => match us, hl with | [_, _, _], _ => rfl,
    a_is_word := f_is_word, d_is_word := _, F_is_word := fun_mk (st := s_is_word) l_is_word c_is_word k_is_word, g_is_word := PySem.W.mg_of X G a_is_word, b_is_word := (fun_mk (st := s_is_word) l_is_word c_is_word k_is_word).binds (ps := ["thing", "many"]) fun _ _ _ _ _ _ us hl => match us, hl with | [_, _], _ => rfl,
    a_letter_of := f_letter_of, d_letter_of := _, F_letter_of := fun_mk (st := s_letter_of) l_letter_of c_letter_of k_letter_of, g_letter_of := PySem.W.mg_of X G a_letter_of, b_letter_of := (fun_mk (st := s_letter_of) l_letter_of c_letter_of k_letter_of).binds (ps := ["part"]) fun _ _ _ _ _ _ us hl => match us, hl with | [_], _ => rfl,
    a_text_of := f_text_of, d_text_of := _, F_text_of := fun_mk (st := s_text_of) l_text_of c_text_of k_text_of, g_text_of := PySem.W.mg_of X G a_text_of, b_text_of := (fun_mk (st := s_text_of) l_text_of c_text_of k_text_of).binds (ps := ["word"]) fun _ _ _ _ _ _ us hl => match us, hl with | [_], _ => rfl,
    a_part_of := f_part_of, d_part_of := _, F_part_of := fun_mk (st := s_part_of) l_part_of c_part_of k_part_of, g_part_of := PySem.W.mg_of X G a_part_of, b_part_of := (fun_mk (st := s_part_of) l_part_of c_part_of k_part_of).binds (ps := ["letter"]) fun _ _ _ _ _ _ us hl => match us, hl with | [_], _ => rfl,
    a_read := f_read, d_read := _, F_read := fun_mk (st := s_read) l_read c_read k_read, g_read := PySem.W.mg_of X G a_read, b_read := (fun_mk (st := s_read) l_read c_read k_read).binds (ps := ["text", "many"]) fun _ _ _ _ _ _ us hl => match us, hl with | [_, _], _ => rfl,
    a_law_cell_at := f_law_cell_at, d_law_cell_at := _, F_law_cell_at := fun_mk (st := s_law_cell_at) l_law_cell_at c_law_cell_at k_law_cell_at, g_law_cell_at := PySem.W.mg_of X G a_law_cell_at, b_law_cell_at := (fun_mk (st := s_law_cell_at) l_law_cell_at c_law_cell_at k_law_cell_at).binds (ps := ["script", "k"]) fun _ _ _ _ _ _ us hl => match us, hl with | [_, _], _ => rfl,
    a_law_mixed := f_law_mixed, d_law_mixed := _, F_law_mixed := fun_mk (st := s_law_mixed) l_law_mixed c_law_mixed k_law_mixed, g_law_mixed := PySem.W.mg_of X G a_law_mixed, b_law_mixed := (fun_mk (st := s_law_mixed) l_law_mixed c_law_mixed k_law_mixed).binds (ps := ["script", "k"]) fun _ _ _ _ _ _ us hl => match us, hl with | [_, _], _ => rfl,
    a_law_drawn := f_law_drawn, d_law_drawn := _, F_law_drawn := fun_mk (st := s_law_drawn) l_law_drawn c_law_drawn k_law_drawn, g_law_drawn := PySem.W.mg_of X G a_law_drawn, b_law_drawn := (fun_mk (st := s_law_drawn) l_law_drawn c_law_drawn k_law_drawn).binds (ps := ["number", "k"]) fun _ _ _ _ _ _ us hl => match us, hl with | [_, _], _ => rfl,
    a_law_word := f_law_word, d_law_word := _, F_law_word := fun_mk (st := s_law_word) l_law_word c_law_word k_law_word, g_law_word := PySem.W.mg_of X G a_law_word, b_law_word := (fun_mk (st := s_law_word) l_law_word c_law_word k_law_word).binds (ps := ["number", "many", "most"]) fun _ _ _ _ _ _ us hl => match us, hl with | [_, _, _], _ => rfl,
    a_law_number := f_law_number, d_law_number := _, F_law_number := fun_mk (st := s_law_number) l_law_number c_law_number k_law_number, g_law_number := PySem.W.mg_of X G a_law_number, b_law_number := (fun_mk (st := s_law_number) l_law_number c_law_number k_law_number).binds (ps := ["thing", "low", "high"]) fun _ _ _ _ _ _ us hl => match us, hl with | [_, _, _], _ => rfl,
    a_law_is_word := f_law_is_word, d_law_is_word := _, F_law_is_word := fun_mk (st := s_law_is_word) l_law_is_word c_law_is_word k_law_is_word, g_law_is_word := PySem.W.mg_of X G a_law_is_word, b_law_is_word := (fun_mk (st := s_law_is_word) l_law_is_word c_law_is_word k_law_is_word).binds (ps := ["thing", "many"]) fun _ _ _ _ _ _ us hl => match us, hl with | [_, _], _ => rfl,
    a_law_written := f_law_written, d_law_written := _, F_law_written := fun_mk (st := s_law_written) l_law_written c_law_written k_law_written, g_law_written := PySem.W.mg_of X G a_law_written, b_law_written := (fun_mk (st := s_law_written) l_law_written c_law_written k_law_written).binds (ps := ["word"]) fun _ _ _ _ _ _ us hl => match us, hl with | [_], _ => rfl,
    a_law_changed := f_law_changed, d_law_changed := _, F_law_changed := fun_mk (st := s_law_changed) l_law_changed c_law_changed k_law_changed, g_law_changed := PySem.W.mg_of X G a_law_changed, b_law_changed := (fun_mk (st := s_law_changed) l_law_changed c_law_changed k_law_changed).binds (ps := ["text", "number"]) fun _ _ _ _ _ _ us hl => match us, hl with | [_, _], _ => rfl,
    a_law_found := f_law_found, d_law_found := _, F_law_found := fun_mk (st := s_law_found) l_law_found c_law_found k_law_found, g_law_found := PySem.W.mg_of X G a_law_found, b_law_found := (fun_mk (st := s_law_found) l_law_found c_law_found k_law_found).binds (ps := ["text", "many"]) fun _ _ _ _ _ _ us hl => match us, hl with | [_, _], _ => rfl,
    a_law := fa, d_law := _, F_law := fun_mk (st := s_law) l_law c_law k_law, g_law := PySem.W.mg_of X G a_law, b_law := (fun_mk (st := s_law) l_law c_law k_law).binds (ps := ["script"]) fun _ _ _ _ _ _ us hl => match us, hl with | [_], _ => rfl,
    C_StrandError := c_StrandError,
    e_StrandError := ⟨PySem.W.mg_of X G g_StrandError, xx_StrandError, xk_StrandError, xb_StrandError, xt_StrandError, xhd_StrandError, xhg_StrandError, xhk_StrandError, xha_StrandError, xhn_StrandError, xht_StrandError, xhm_StrandError⟩,
    C_NoWord := c_NoWord,
    e_NoWord := ⟨PySem.W.mg_of X G g_NoWord, xx_NoWord, xk_NoWord, xb_NoWord, xt_NoWord, xhd_NoWord, xhg_NoWord, xhk_NoWord, xha_NoWord, xhn_NoWord, xht_NoWord, xhm_NoWord⟩,
    C_NoText := c_NoText,
    e_NoText := ⟨PySem.W.mg_of X G g_NoText, xx_NoText, xk_NoText, xb_NoText, xt_NoText, xhd_NoText, xhg_NoText, xhk_NoText, xha_NoText, xhn_NoText, xht_NoText, xhm_NoText⟩,
    s_NoText_NoText := s_NoText_NoText,
    s_NoWord_NoText := s_NoWord_NoText,
    k_NoText_NoWord := k_NoText_NoWord,
    k_NoText_StrandError := k_NoText_StrandError,
    k_NoText_ValueError := k_NoText_ValueError,
    k_NoWord_NoWord := k_NoWord_NoWord,
    k_NoWord_StrandError := k_NoWord_StrandError,
    k_NoWord_ValueError := k_NoWord_ValueError,
    z_ValueError := PySem.W.mg_none_of X G z_ValueError,
    z_all := PySem.W.mg_none_of X G z_all,
    z_bool := PySem.W.mg_none_of X G z_bool,
    z_int := PySem.W.mg_none_of X G z_int,
    z_isinstance := PySem.W.mg_none_of X G z_isinstance,
    z_len := PySem.W.mg_none_of X G z_len,
    z_range := PySem.W.mg_none_of X G z_range,
    z_str := PySem.W.mg_none_of X G z_str,
    z_tuple := PySem.W.mg_none_of X G z_tuple,
    c_OVER := ⟨_, PySem.W.mg_of X G q_OVER⟩,
    c_UNDER := ⟨_, PySem.W.mg_of X G q_UNDER⟩ }
  exact ⟨PySem.W.fnOf "law" "law" (defArgs s_law) (defBody s_law) (defScope s_law) .none kV_law dc_law pm_law an_law cd_law ct_law, fun s v => .of_eq rfl, fun base _ _ => law_imp (ok_law T) law_true⟩
end K03
open PySem PySem.W PyProof.Rows
set_option maxHeartbeats 0 in
theorem PySem.Challenge.cw_strandhall_k03_whole_read_holds : PySem.Challenge.rw_strandhall_k03_whole_read.Holds := by
  w_on; o_law; k_head; (case hw => w_witness2)
  k_fill
  refine L2.walk_of (l := PySem.Challenge.rw_strandhall_k03_whole_read) (n := 63) (k := 5) (x := "script") (CX := fun _ => L2.CX0) (sp := fun w => DV.spLaw _) rfl (by decide) rfl ⟨rfl, by decide, by decide⟩ (fun w h Y => PySem.W.kIn_of Y) ?F (fun _ _ a ns hl _ hS => ⟨a, ns, rfl, hS, hl, fun _ => rfl⟩) (fun _ _ _ _ _ h => h)
  case F =>
    intro w mg fa h KX G hmg
    refine' K03.all_mk KX G hmg ?a_is_number ?l_is_number ?c_is_number ?k_is_number ?a_is_word ?l_is_word ?c_is_word ?k_is_word ?a_letter_of ?l_letter_of ?c_letter_of ?k_letter_of ?a_text_of ?l_text_of ?c_text_of ?k_text_of ?a_part_of ?l_part_of ?c_part_of ?k_part_of ?a_read ?l_read ?c_read ?k_read ?a_law_cell_at ?l_law_cell_at ?c_law_cell_at ?k_law_cell_at ?a_law_mixed ?l_law_mixed ?c_law_mixed ?k_law_mixed ?a_law_drawn ?l_law_drawn ?c_law_drawn ?k_law_drawn ?a_law_word ?l_law_word ?c_law_word ?k_law_word ?a_law_number ?l_law_number ?c_law_number ?k_law_number ?a_law_is_word ?l_law_is_word ?c_law_is_word ?k_law_is_word ?a_law_written ?l_law_written ?c_law_written ?k_law_written ?a_law_changed ?l_law_changed ?c_law_changed ?k_law_changed ?a_law_found ?l_law_found ?c_law_found ?k_law_found ?a_law ?l_law ?c_law ?k_law ?g_StrandError ?xx_StrandError ?xk_StrandError ?xb_StrandError ?xt_StrandError ?xhd_StrandError ?xhg_StrandError ?xhk_StrandError ?xha_StrandError ?xhn_StrandError ?xht_StrandError ?xhm_StrandError ?g_NoWord ?xx_NoWord ?xk_NoWord ?xb_NoWord ?xt_NoWord ?xhd_NoWord ?xhg_NoWord ?xhk_NoWord ?xha_NoWord ?xhn_NoWord ?xht_NoWord ?xhm_NoWord ?g_NoText ?xx_NoText ?xk_NoText ?xb_NoText ?xt_NoText ?xhd_NoText ?xhg_NoText ?xhk_NoText ?xha_NoText ?xhn_NoText ?xht_NoText ?xhm_NoText ?s_NoText_NoText ?s_NoWord_NoText ?k_NoText_NoWord ?k_NoText_StrandError ?k_NoText_ValueError ?k_NoWord_NoWord ?k_NoWord_StrandError ?k_NoWord_ValueError ?z_ValueError ?z_all ?z_bool ?z_int ?z_isinstance ?z_len ?z_range ?z_str ?z_tuple ?q_OVER ?q_UNDER
    (case a_is_number => k_is)
    (case l_is_number => k_is)
    (case c_is_number => k_is)
    (case k_is_number => first | rfl | k_is)
    (case a_is_word => k_is)
    (case l_is_word => k_is)
    (case c_is_word => k_is)
    (case k_is_word => first | rfl | k_is)
    (case a_letter_of => k_is)
    (case l_letter_of => k_is)
    (case c_letter_of => k_is)
    (case k_letter_of => first | rfl | k_is)
    (case a_text_of => k_is)
    (case l_text_of => k_is)
    (case c_text_of => k_is)
    (case k_text_of => first | rfl | k_is)
    (case a_part_of => k_is)
    (case l_part_of => k_is)
    (case c_part_of => k_is)
    (case k_part_of => first | rfl | k_is)
    (case a_read => k_is)
    (case l_read => k_is)
    (case c_read => k_is)
    (case k_read => k_is)
    (case a_law_cell_at => k_is)
    (case l_law_cell_at => k_is)
    (case c_law_cell_at => k_is)
    (case k_law_cell_at => first | rfl | k_is)
    (case a_law_mixed => k_is)
    (case l_law_mixed => k_is)
    (case c_law_mixed => k_is)
    (case k_law_mixed => first | rfl | k_is)
    (case a_law_drawn => k_is)
    (case l_law_drawn => k_is)
    (case c_law_drawn => k_is)
    (case k_law_drawn => first | rfl | k_is)
    (case a_law_word => k_is)
    (case l_law_word => k_is)
    (case c_law_word => k_is)
    (case k_law_word => first | rfl | k_is)
    (case a_law_number => k_is)
    (case l_law_number => k_is)
    (case c_law_number => k_is)
    (case k_law_number => first | rfl | k_is)
    (case a_law_is_word => k_is)
    (case l_law_is_word => k_is)
    (case c_law_is_word => k_is)
    (case k_law_is_word => first | rfl | k_is)
    (case a_law_written => k_is)
    (case l_law_written => k_is)
    (case c_law_written => k_is)
    (case k_law_written => first | rfl | k_is)
    (case a_law_changed => k_is)
    (case l_law_changed => k_is)
    (case c_law_changed => k_is)
    (case k_law_changed => first | rfl | k_is)
    (case a_law_found => k_is)
    (case l_law_found => k_is)
    (case c_law_found => k_is)
    (case k_law_found => first | rfl | k_is)
    (case a_law => k_is)
    (case l_law => k_is)
    (case c_law => k_is)
    (case k_law => k_is)
    (case g_StrandError => k_is)
    (case xx_StrandError => k_exc)
    (case xk_StrandError => k_is)
    (case xb_StrandError => k_is)
    (case xt_StrandError => k_is)
    (case xhd_StrandError => k_is)
    (case xhg_StrandError => k_is)
    (case xhk_StrandError => k_is)
    (case xha_StrandError => k_is)
    (case xhn_StrandError => k_is)
    (case xht_StrandError => k_is)
    (case xhm_StrandError => k_is)
    (case g_NoWord => k_is)
    (case xx_NoWord => k_exc)
    (case xk_NoWord => k_is)
    (case xb_NoWord => k_is)
    (case xt_NoWord => k_is)
    (case xhd_NoWord => k_is)
    (case xhg_NoWord => k_is)
    (case xhk_NoWord => k_is)
    (case xha_NoWord => k_is)
    (case xhn_NoWord => k_is)
    (case xht_NoWord => k_is)
    (case xhm_NoWord => k_is)
    (case g_NoText => k_is)
    (case xx_NoText => k_exc)
    (case xk_NoText => k_is)
    (case xb_NoText => k_is)
    (case xt_NoText => k_is)
    (case xhd_NoText => k_is)
    (case xhg_NoText => k_is)
    (case xhk_NoText => k_is)
    (case xha_NoText => k_is)
    (case xhn_NoText => k_is)
    (case xht_NoText => k_is)
    (case xhm_NoText => k_is)
    (case s_NoText_NoText => first | rfl | k_is)
    (case s_NoWord_NoText => first | rfl | k_is)
    (case k_NoText_NoWord => first | rfl | k_is)
    (case k_NoText_StrandError => first | rfl | k_is)
    (case k_NoText_ValueError => first | rfl | k_is)
    (case k_NoWord_NoWord => first | rfl | k_is)
    (case k_NoWord_StrandError => first | rfl | k_is)
    (case k_NoWord_ValueError => first | rfl | k_is)
    (case z_ValueError => k_is)
    (case z_all => k_is)
    (case z_bool => k_is)
    (case z_int => k_is)
    (case z_isinstance => k_is)
    (case z_len => k_is)
    (case z_range => k_is)
    (case z_str => k_is)
    (case z_tuple => k_is)
    (case q_OVER => k_is)
    (case q_UNDER => k_is)
