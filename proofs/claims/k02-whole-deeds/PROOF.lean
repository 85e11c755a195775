import PyProof.Rows.All
import Wide.All
import OpenK.AllK
import Wide.FinOn
import HandS.ForMost
import HandS.Exc
import HandS.TryOnly
import HandS.ExcOwn
import HandS.Zip
import HandS.Walk
import HandS.Deep
import HandS.Star
import HandS.IsInst
import HandS.Conv
import HandS.TupMul
import HandS.Defaults
import HandS.MakeKwOnly
import HandS.HeadHook4
import HandS.SetKeys
import HandS.Flow
import HandS.Style
import HandS.WrittenGet
import KE.GoesEnum
import KE.GoesMore
import HandS.TupAny
import KE.KExcSuper
import HandS.ExcField
import HandS.WordsExc
import KE.KStateDown
import HandS.Head0
import HandS.Head1
import HandS.Head2
import HandS.HeadEnd
import HandS.HeadHook1
import HandS.HeadHook2
import HandS.HeadHook3
import PySem.Challenge.RW_hearsayways_k02_whole_deeds
set_option Elab.async false
set_option linter.all false
set_option maxRecDepth 100000
set_option maxHeartbeats 4000000
/-! The layer HW: a program's parts judged on the AST itself, in terms of data. -/
namespace HW
open PySem PySem.Spec L2

/-! ### heaps -/
/-- from (I, H) on to (I2, H2): I is what is never changed any more, H all that is tracked -/
structure Ext (I H I2 H2 : Hp) : Prop where
  i : Same I I2
  t : Same I2 H2
  h : Same H H2
  f : ∀ a o, H a = some o → I a = none → I2 a = none
theorem Ext.refl {I H : Hp} (t : Same I H) : Ext I H I H := ⟨Same.refl I, t, Same.refl H, fun _ _ _ h => h⟩
theorem Ext.trans {I H I2 H2 I3 H3 : Hp} (a : Ext I H I2 H2) (b : Ext I2 H2 I3 H3) : Ext I H I3 H3 :=
  ⟨a.i.trans b.i, b.t, a.h.trans b.h, fun x o h n => b.f x o (a.h x o h) (a.f x o h n)⟩
theorem same_new {H : Hp} {p : Addr} (h : H p = none) (o : HO) : Same H (upd H p o) := fun b u q => by rw [upd_ne (ne_of_none q h)]; exact q
theorem upd_mono {I H : Hp} (t : Same I H) (p : Addr) (o : HO) : Same (upd I p o) (upd H p o) := fun a u e => by
  by_cases h : a = p
  · subst h; rw [upd_same] at e ⊢; exact e
  · rw [upd_ne h] at e ⊢; exact t a u e
theorem Ext.new {I H : Hp} {p : Addr} (t : Same I H) (h : H p = none) (o : HO) : Ext I H (upd I p o) (upd H p o) :=
  ⟨same_new (t.free h) o, upd_mono t p o, same_new h o, fun a u e n => by rw [upd_ne (ne_of_none e h)]; exact n⟩
/-- a new object that is not told of -/
theorem Ext.tell {I H H2 : Hp} (t : Same I H) (h : Same H H2) : Ext I H I H2 := ⟨Same.refl I, t.trans h, h, fun _ _ _ n => n⟩

/-! ### data -/
theorem rd_mono {H H' : Hp} {a : Addr} {u : HO} (e : Same H H') (h : Rd H a u) : Rd H' a u := by
  rcases h with h | ⟨o, h⟩
  · exact .inl (e a _ h)
  · exact .inr ⟨o, e a _ h⟩
theorem sqL_mono {K : PySem.W.Frag} {H H' : Hp} {a : Addr} {xs : List V} (e : Same H H') (h : SqL K H a xs) : SqL K H' a xs := by
  rcases h with h | h
  · exact .inl (rd_mono e h)
  · exact .inr h
theorem sqT_mono {K : PySem.W.Frag} {H H' : Hp} {a : Addr} {xs : List V} (e : Same H H') (h : SqT K H a xs) : SqT K H' a xs := by
  rcases h with h | h
  · exact .inl (rd_mono e h)
  · exact .inr h
mutual
theorem dp_mono {K : PySem.W.Frag} {H H' : Hp} (e : Same H H') : ∀ (d : PyData) (v : V), Dp K H v d → Dp K H' v d
  | .none, _, h => by cases h; exact .non
  | .bool b, _, h => by cases h; exact .bl b
  | .int i, _, h => by cases h; exact .int i
  | .str x, _, h => by cases h; exact .str x
  | .list ds, _, h => by
    cases h with
    | lst a b => exact .lst (sqL_mono e a) (dpAll_mono e ds _ b)
  | .tuple ds, _, h => by
    cases h with
    | tup a b => exact .tup (sqT_mono e a) (dpAll_mono e ds _ b)
  | .dict _, _, h => by cases h
theorem dpAll_mono {K : PySem.W.Frag} {H H' : Hp} (e : Same H H') : ∀ (ds : List PyData) (vs : List V), DpAll K H vs ds → DpAll K H' vs ds
  | [], _, h => by cases h; exact .nil
  | d :: ds, _, h => by
    cases h with
    | cons a b => exact .cons (dp_mono e d _ a) (dpAll_mono e ds _ b)
end
theorem dp_int {K : PySem.W.Frag} {H : Hp} {v : V} {i : Int} (h : Dp K H v (.int i)) : v = .int i := by cases h; rfl
theorem dp_bl {K : PySem.W.Frag} {H : Hp} {v : V} {b : Bool} (h : Dp K H v (.bool b)) : v = .bl b := by cases h; rfl
theorem dp_str {K : PySem.W.Frag} {H : Hp} {v : V} {x : Str} (h : Dp K H v (.str x)) : v = .str x := by cases h; rfl
theorem dp_non {K : PySem.W.Frag} {H : Hp} {v : V} (h : Dp K H v .none) : v = .non := by cases h; rfl
theorem dp_tup {K : PySem.W.Frag} {H : Hp} {v : V} {ds : List PyData} (h : Dp K H v (.tuple ds)) : ∃ a xs, v = .ref a ∧ SqT K H a xs ∧ DpAll K H xs ds := by
  cases h with
  | tup a b => exact ⟨_, _, rfl, a, b⟩
theorem dp_lst {K : PySem.W.Frag} {H : Hp} {v : V} {ds : List PyData} (h : Dp K H v (.list ds)) : ∃ a xs, v = .ref a ∧ SqL K H a xs ∧ DpAll K H xs ds := by
  cases h with
  | lst a b => exact ⟨_, _, rfl, a, b⟩
theorem dpAll_length {K : PySem.W.Frag} {H : Hp} : ∀ {vs : List V} {ds : List PyData}, DpAll K H vs ds → vs.length = ds.length
  | _, _, .nil => rfl
  | _, _, .cons _ t => congrArg Nat.succ (dpAll_length t)
theorem dpAll_get {K : PySem.W.Frag} {H : Hp} : ∀ {vs : List V} {ds : List PyData} {i : Nat} {d : PyData}, DpAll K H vs ds → ds[i]? = some d → ∃ v, vs[i]? = some v ∧ Dp K H v d
  | _, _, _, _, .nil, e => by simp at e
  | _, _, 0, _, .cons a _, e => by simp at e; subst e; exact ⟨_, rfl, a⟩
  | _, _, i + 1, d, .cons _ t, e => by
    obtain ⟨v, h1, h2⟩ := dpAll_get (i := i) (d := d) t (by simpa using e)
    exact ⟨v, by simpa using h1, h2⟩
theorem dpAll_get' {K : PySem.W.Frag} {H : Hp} : ∀ {vs : List V} {ds : List PyData} {i : Nat} {v : V}, DpAll K H vs ds → vs[i]? = some v → ∃ d, ds[i]? = some d ∧ Dp K H v d
  | _, _, _, _, .nil, e => by simp at e
  | _, _, 0, _, .cons a _, e => by simp at e; subst e; exact ⟨_, rfl, a⟩
  | _, _, i + 1, v, .cons _ t, e => by
    obtain ⟨d, h1, h2⟩ := dpAll_get' (i := i) (v := v) t (by simpa using e)
    exact ⟨d, by simpa using h1, h2⟩
theorem dpAll_at {K : PySem.W.Frag} {H : Hp} {vs : List V} {ds : List PyData} {i : Int} {d : PyData} (h : DpAll K H vs ds) (e : atI ds i = some d) : ∃ v, atI vs i = some v ∧ Dp K H v d := by
  unfold atI at e ⊢
  rw [dpAll_length h]
  cases q : ixN ds.length i with
  | none => rw [q] at e; cases e
  | some j =>
    rw [q] at e
    exact dpAll_get h e
theorem dpAll_append {K : PySem.W.Frag} {H : Hp} : ∀ {vs ws : List V} {ds es : List PyData}, DpAll K H vs ds → DpAll K H ws es → DpAll K H (vs ++ ws) (ds ++ es)
  | _, _, _, _, .nil, s => s
  | _, _, _, _, .cons r t, s => .cons r (dpAll_append t s)
theorem dpAll_take {K : PySem.W.Frag} {H : Hp} : ∀ {vs : List V} {ds : List PyData} (n : Nat), DpAll K H vs ds → DpAll K H (vs.take n) (ds.take n)
  | _, _, 0, _ => .nil
  | _, _, _ + 1, .nil => .nil
  | _, _, n + 1, .cons r t => .cons r (dpAll_take n t)
theorem dpAll_drop {K : PySem.W.Frag} {H : Hp} : ∀ {vs : List V} {ds : List PyData} (n : Nat), DpAll K H vs ds → DpAll K H (vs.drop n) (ds.drop n)
  | _, _, 0, r => r
  | _, _, _ + 1, .nil => .nil
  | _, _, n + 1, .cons _ t => dpAll_drop n t
theorem dpAll_rep {K : PySem.W.Frag} {H : Hp} {vs : List V} {ds : List PyData} (h : DpAll K H vs ds) : ∀ k : Nat, DpAll K H (List.replicate k vs).flatten (List.replicate k ds).flatten
  | 0 => .nil
  | k + 1 => by
    rw [List.replicate_succ, List.replicate_succ, List.flatten_cons, List.flatten_cons]
    exact dpAll_append h (dpAll_rep h k)
theorem dpAll_ints {K : PySem.W.Frag} {H : Hp} : ∀ {vs : List V} {ns : List Int}, DpAll K H vs (ns.map PyData.int) → vs = ns.map V.int
  | _, [], h => by cases h; rfl
  | _, n :: ns, h => by
    cases h with
    | cons a b => rw [dp_int a, dpAll_ints b]; rfl
theorem dpAll_bools {K : PySem.W.Frag} {H : Hp} : ∀ {vs : List V} {bs : List Bool}, DpAll K H vs (bs.map PyData.bool) → vs = bs.map V.bl
  | _, [], h => by cases h; rfl
  | _, n :: ns, h => by
    cases h with
    | cons a b => rw [dp_bl a, dpAll_bools b]; rfl
theorem dpAll_strs {K : PySem.W.Frag} {H : Hp} : ∀ {vs : List V} {bs : List Str}, DpAll K H vs (bs.map PyData.str) → vs = bs.map V.str
  | _, [], h => by cases h; rfl
  | _, n :: ns, h => by
    cases h with
    | cons a b => rw [dp_str a, dpAll_strs b]; rfl
theorem dpAll_of_ints {K : PySem.W.Frag} {H : Hp} : ∀ ns : List Int, DpAll K H (ns.map V.int) (ns.map PyData.int)
  | [] => .nil
  | n :: ns => .cons (.int n) (dpAll_of_ints ns)

/-! ### nets -/
structure NetP where
  n : Nat
  ties : List (Nat × Nat)
  weak : List Nat
  far : Nat
  split : Str
  cry : Str
  hold : Nat
abbrev nD (k : Nat) : PyData := .int (k : Int)
abbrev pairD (t : Nat × Nat) : PyData := .tuple [nD t.1, nD t.2]
abbrev NetP.tiesD (p : NetP) : PyData := .tuple (p.ties.map pairD)
abbrev NetP.weakD (p : NetP) : PyData := .tuple (p.weak.map nD)
def netF (p : NetP) (vt vw : V) : List (Str × V) := [("hosts", .int (p.n : Int)), ("ties", vt), ("weak", vw), ("endless", .int (p.far : Int)), ("split", .str p.split), ("cry", .str p.cry), ("hold", .int (p.hold : Int))]
def bookF (vn ve vs : V) : List (Str × V) := [("net", vn), ("entries", ve), ("stands", vs)]
def NetOk (K : PySem.W.Frag) (I : Hp) (u : V) (p : NetP) : Prop := ∃ a dx vt vw, u = .ref a ∧ I a = some (.ins (He.ga K "Net") dx (netF p vt vw)) ∧ Dp K I vt p.tiesD ∧ Dp K I vw p.weakD
/-- what is known of a value -/
inductive Sh where
  /-- it is this data -/
  | d (x : PyData)
  /-- it is this value -/
  | v (x : V)
  /-- it is this net -/
  | net (p : NetP)
  /-- it is a book whose two lists are not changed any more -/
  | book (p : NetP) (es ss : PyData)
  /-- it is a book whose lists stand at e and s -/
  | bk (p : NetP) (e s : Addr)
  /-- it is a tuple of these values -/
  | tp (vs : List V)
  /-- it is a list of this data, made by the text -/
  | nl (ds : List PyData)
  /-- it is a tuple of a list of this data and of this dict -/
  | lk (ds : List PyData) (kvs : List (Key × V))
def Sh.ok (K : PySem.W.Frag) (I : Hp) (u : V) : Sh → Prop
  | .d x => Dp K I u x
  | .v x => u = x
  | .net p => NetOk K I u p
  | .book p es ss => ∃ a dx vn ve vs, u = .ref a ∧ I a = some (.ins (He.ga K "Book") dx (bookF vn ve vs)) ∧ NetOk K I vn p ∧ Dp K I ve es ∧ Dp K I vs ss
  | .bk p e s => ∃ a dx vn, u = .ref a ∧ I a = some (.ins (He.ga K "Book") dx (bookF vn (.ref e) (.ref s))) ∧ NetOk K I vn p
  | .tp vs => ∃ a, u = .ref a ∧ I a = some (.tup vs)
  | .nl ds => ∃ a xs, u = .ref a ∧ I a = some (.lst xs) ∧ DpAll K I xs ds
  | .lk ds kvs => ∃ a v d, u = .ref a ∧ I a = some (.tup [v, .ref d]) ∧ Dp K I v (.list ds) ∧ I d = some (.dK kvs)
theorem NetOk.mono {K : PySem.W.Frag} {I I' : Hp} {u : V} {p : NetP} (e : Same I I') (h : NetOk K I u p) : NetOk K I' u p := by
  obtain ⟨a, dx, vt, vw, h1, h2, h3, h4⟩ := h
  exact ⟨a, dx, vt, vw, h1, e _ _ h2, dp_mono e _ _ h3, dp_mono e _ _ h4⟩
theorem Sh.mono {K : PySem.W.Frag} {I I' : Hp} {u : V} : ∀ {sh : Sh}, Same I I' → sh.ok K I u → sh.ok K I' u
  | .d x, e, h => dp_mono e x u h
  | .v x, e, h => h
  | .net p, e, h => NetOk.mono e h
  | .book p es ss, e, h => by
    obtain ⟨a, dx, vn, ve, vs, h1, h2, h3, h4, h5⟩ := h
    exact ⟨a, dx, vn, ve, vs, h1, e _ _ h2, h3.mono e, dp_mono e _ _ h4, dp_mono e _ _ h5⟩
  | .bk p x s, e, h => by
    obtain ⟨a, dx, vn, h1, h2, h3⟩ := h
    exact ⟨a, dx, vn, h1, e _ _ h2, h3.mono e⟩
  | .tp vs, e, h => by
    obtain ⟨a, h1, h2⟩ := h
    exact ⟨a, h1, e _ _ h2⟩
  | .nl ds, e, h => by
    obtain ⟨a, xs, h1, h2, h3⟩ := h
    exact ⟨a, xs, h1, e _ _ h2, dpAll_mono e _ _ h3⟩
  | .lk ds kvs, e, h => by
    obtain ⟨a, v, d, h1, h2, h3, h4⟩ := h
    exact ⟨a, v, d, h1, e _ _ h2, dp_mono e _ _ h3, e _ _ h4⟩
theorem nl_dp {K : PySem.W.Frag} {I : Hp} {u : V} {ds : List PyData} (h : (Sh.nl ds).ok K I u) : Dp K I u (.list ds) := by
  obtain ⟨a, xs, rfl, h2, h3⟩ := h
  exact .lst (SqL.of h2) h3
/-- several values -/
def ShA (K : PySem.W.Frag) (I : Hp) : List V → List Sh → Prop
  | [], [] => True
  | u :: us, s :: ss => s.ok K I u ∧ ShA K I us ss
  | _, _ => False
theorem ShA.mono {K : PySem.W.Frag} {I I' : Hp} (e : Same I I') : ∀ {us : List V} {ss : List Sh}, ShA K I us ss → ShA K I' us ss
  | [], [], _ => trivial
  | _ :: _, _ :: _, h => ⟨Sh.mono e h.1, ShA.mono e h.2⟩
  | [], _ :: _, h => h
  | _ :: _, [], h => h
theorem ShA.length {K : PySem.W.Frag} {I : Hp} : ∀ {us : List V} {ss : List Sh}, ShA K I us ss → us.length = ss.length
  | [], [], _ => rfl
  | _ :: _, _ :: _, h => congrArg Nat.succ (ShA.length h.2)
  | [], _ :: _, h => h.elim
  | _ :: _, [], h => h.elim
theorem ShA.dat {K : PySem.W.Frag} {I : Hp} : ∀ {us : List V} {ds : List PyData}, ShA K I us (ds.map Sh.d) → DpAll K I us ds
  | [], [], _ => .nil
  | _ :: _, _ :: _, h => .cons h.1 (ShA.dat h.2)
  | [], _ :: _, h => h.elim
  | _ :: _, [], h => h.elim
theorem ShA.of_dat {K : PySem.W.Frag} {I : Hp} : ∀ {us : List V} {ds : List PyData}, DpAll K I us ds → ShA K I us (ds.map Sh.d)
  | [], [], _ => trivial
  | _ :: _, _ :: _, .cons a b => ⟨a, ShA.of_dat b⟩
theorem ShA.get {K : PySem.W.Frag} {I : Hp} : ∀ {us : List V} {ss : List Sh} {i : Nat} {s : Sh}, ShA K I us ss → ss[i]? = some s → ∃ u, us[i]? = some u ∧ s.ok K I u
  | [], [], _, _, _, e => by simp at e
  | u :: us, s :: ss, 0, _, h, e => by simp at e; subst e; exact ⟨u, rfl, h.1⟩
  | u :: us, s :: ss, i + 1, z, h, e => by
    obtain ⟨v, h1, h2⟩ := ShA.get (i := i) (s := z) h.2 (by simpa using e)
    exact ⟨v, by simpa using h1, h2⟩
  | [], _ :: _, _, _, h, _ => h.elim
  | _ :: _, [], _, _, h, _ => h.elim
theorem ShA.at {K : PySem.W.Frag} {I : Hp} {us : List V} {ss : List Sh} {i : Int} {s : Sh} (h : ShA K I us ss) (e : atI ss i = some s) : ∃ u, atI us i = some u ∧ s.ok K I u := by
  unfold atI at e ⊢
  rw [h.length]
  cases q : ixN ss.length i with
  | none => rw [q] at e; cases e
  | some j =>
    rw [q] at e
    exact h.get e
theorem ShA.append {K : PySem.W.Frag} {I : Hp} : ∀ {us ws : List V} {ss ts : List Sh}, ShA K I us ss → ShA K I ws ts → ShA K I (us ++ ws) (ss ++ ts)
  | [], _, [], _, _, b => b
  | _ :: _, _, _ :: _, _, a, b => ⟨a.1, ShA.append a.2 b⟩
  | [], _, _ :: _, _, a, _ => a.elim
  | _ :: _, _, [], _, a, _ => a.elim
theorem ShA.set {K : PySem.W.Frag} {I : Hp} {u : V} {s : Sh} (r : s.ok K I u) : ∀ {us : List V} {ss : List Sh} (i : Nat), ShA K I us ss → ShA K I (us.set i u) (ss.set i s)
  | [], [], _, _ => trivial
  | _ :: _, _ :: _, 0, h => ⟨r, h.2⟩
  | _ :: _, _ :: _, i + 1, h => ⟨h.1, ShA.set r i h.2⟩
  | [], _ :: _, _, h => h.elim
  | _ :: _, [], _, h => h.elim
theorem ShA.dropLast {K : PySem.W.Frag} {I : Hp} : ∀ {us : List V} {ss : List Sh}, ShA K I us ss → ShA K I us.dropLast ss.dropLast
  | [], [], _ => trivial
  | [_], [_], _ => trivial
  | a :: b :: r, x :: y :: z, h => ⟨h.1, ShA.dropLast (us := b :: r) (ss := y :: z) h.2⟩
  | [], _ :: _, h => h.elim
  | _ :: _, [], h => h.elim
  | [_], _ :: _ :: _, h => h.2.elim
  | _ :: _ :: _, [_], h => h.2.elim
theorem ShA.tail {K : PySem.W.Frag} {I : Hp} : ∀ {us : List V} {ss : List Sh}, ShA K I us ss → ShA K I us.tail ss.tail
  | [], [], _ => trivial
  | _ :: _, _ :: _, h => h.2
  | [], _ :: _, h => h.elim
  | _ :: _, [], h => h.elim

/-! ### what is still changed -/
inductive MO where
  | lst (xs : List Sh)
  | dct (kvs : List (Key × V))
  /-- an object that is being made -/
  | ins (C dx : Addr) (fs : List (Str × Sh))
/-- an object's attributes -/
def FsOk (K : PySem.W.Frag) (I : Hp) : List (Str × V) → List (Str × Sh) → Prop
  | [], [] => True
  | g :: gs, f :: fs => g.1 = f.1 ∧ f.2.ok K I g.2 ∧ FsOk K I gs fs
  | _, _ => False
theorem FsOk.mono {K : PySem.W.Frag} {I I' : Hp} (e : Same I I') : ∀ {gs : List (Str × V)} {fs : List (Str × Sh)}, FsOk K I gs fs → FsOk K I' gs fs
  | [], [], _ => trivial
  | _ :: _, _ :: _, h => ⟨h.1, Sh.mono e h.2.1, FsOk.mono e h.2.2⟩
  | [], _ :: _, h => h
  | _ :: _, [], h => h
theorem FsOk.length {K : PySem.W.Frag} {I : Hp} : ∀ {gs : List (Str × V)} {fs : List (Str × Sh)}, FsOk K I gs fs → gs.length = fs.length
  | [], [], _ => rfl
  | _ :: _, _ :: _, h => congrArg Nat.succ (FsOk.length h.2.2)
  | [], _ :: _, h => h.elim
  | _ :: _, [], h => h.elim
def MO.ok (K : PySem.W.Frag) (I H : Hp) (p : Addr) : MO → Prop
  | .lst xs => ∃ vs, H p = some (.lst vs) ∧ ShA K I vs xs
  | .dct kvs => H p = some (.dK kvs)
  | .ins C dx fs => ∃ gs, H p = some (.ins C dx gs) ∧ FsOk K I gs fs
abbrev Mp := Addr → Option MO
def M0 : Mp := fun _ => none
def mset (M : Mp) (p : Addr) (o : MO) : Mp := fun a => if a = p then some o else M a
theorem mset_same {M : Mp} {p : Addr} {o : MO} : mset M p o p = some o := if_pos rfl
theorem mset_ne {M : Mp} {p a : Addr} {o : MO} (h : a ≠ p) : mset M p o a = M a := if_neg h
def mdel (M : Mp) (p : Addr) : Mp := fun a => if a = p then none else M a
theorem mset_mset {M : Mp} {p : Addr} {o u : MO} : mset (mset M p o) p u = mset M p u := by
  funext a; unfold mset; split <;> rfl
def MOk (K : PySem.W.Frag) (I H : Hp) (M : Mp) : Prop := ∀ p o, M p = some o → I p = none ∧ o.ok K I H p
theorem MO.there {K : PySem.W.Frag} {I H : Hp} {p : Addr} {o : MO} (h : o.ok K I H p) : ∃ u, H p = some u := by
  cases o with
  | lst xs => obtain ⟨vs, e, _⟩ := h; exact ⟨_, e⟩
  | dct kvs => exact ⟨_, h⟩
  | ins C dx fs => obtain ⟨gs, e, _⟩ := h; exact ⟨_, e⟩
theorem MO.ext {K : PySem.W.Frag} {I H I2 H2 : Hp} {p : Addr} {o : MO} (e : Ext I H I2 H2) (h : o.ok K I H p) : o.ok K I2 H2 p := by
  cases o with
  | lst xs => obtain ⟨vs, q, r⟩ := h; exact ⟨vs, e.h _ _ q, r.mono e.i⟩
  | dct kvs => exact e.h _ _ h
  | ins C dx fs => obtain ⟨gs, q, r⟩ := h; exact ⟨gs, e.h _ _ q, r.mono e.i⟩
theorem MOk.ext {K : PySem.W.Frag} {I H I2 H2 : Hp} {M : Mp} (e : Ext I H I2 H2) (h : MOk K I H M) : MOk K I2 H2 M := fun p o q => by
  obtain ⟨h1, h2⟩ := h p o q
  obtain ⟨u, hu⟩ := MO.there h2
  exact ⟨e.f p u hu h1, MO.ext e h2⟩
theorem MOk.none {K : PySem.W.Frag} {I H : Hp} : MOk K I H M0 := fun _ _ q => nomatch q

/-! ### slots -/
def Sl (K : PySem.W.Frag) (I : Hp) : St → List (Option Sh) → Prop
  | [], [] => True
  | _ :: σ, none :: S => Sl K I σ S
  | some v :: σ, some sh :: S => sh.ok K I v ∧ Sl K I σ S
  | _, _ => False
theorem Sl.mono {K : PySem.W.Frag} {I I' : Hp} (e : Same I I') : ∀ {σ : St} {S : List (Option Sh)}, Sl K I σ S → Sl K I' σ S
  | [], [], _ => trivial
  | none :: σ, none :: S, h => Sl.mono (σ := σ) (S := S) e h
  | some _ :: σ, none :: S, h => Sl.mono (σ := σ) (S := S) e h
  | some v :: σ, some sh :: S, h => ⟨Sh.mono e h.1, Sl.mono e h.2⟩
  | [], none :: _, h => h.elim
  | [], some _ :: _, h => h.elim
  | _ :: _, [], h => by rename_i o _; cases o <;> exact h.elim
  | none :: _, some _ :: _, h => h.elim
theorem Sl.get {K : PySem.W.Frag} {I : Hp} : ∀ {σ : St} {S : List (Option Sh)} {i : Nat} {sh : Sh}, Sl K I σ S → S[i]? = some (some sh) → ∃ v, σ[i]? = some (some v) ∧ sh.ok K I v
  | [], [], _, _, _, e => by simp at e
  | _ :: σ, none :: S, 0, _, _, e => by simp at e
  | o :: σ, none :: S, i + 1, sh, h, e => by
    have h' : Sl K I σ S := by cases o <;> exact h
    obtain ⟨v, h1, h2⟩ := Sl.get (i := i) (sh := sh) h' (by simpa using e)
    exact ⟨v, by simpa using h1, h2⟩
  | some v :: σ, some s :: S, 0, _, h, e => by simp at e; subst e; exact ⟨v, rfl, h.1⟩
  | some v :: σ, some s :: S, i + 1, sh, h, e => by
    obtain ⟨v, h1, h2⟩ := Sl.get (i := i) (sh := sh) h.2 (by simpa using e)
    exact ⟨v, by simpa using h1, h2⟩
  | [], none :: _, _, _, h, _ => h.elim
  | [], some _ :: _, _, _, h, _ => h.elim
  | _ :: _, [], _, _, h, _ => by rename_i o _ _ _; cases o <;> exact h.elim
  | none :: _, some _ :: _, _, _, h, _ => h.elim
theorem Sl.set {K : PySem.W.Frag} {I : Hp} {v : V} {sh : Sh} (r : sh.ok K I v) : ∀ {σ : St} {S : List (Option Sh)} (i : Nat), Sl K I σ S → Sl K I (σ.set i (some v)) (S.set i (some sh))
  | [], [], _, _ => trivial
  | o :: σ, none :: S, 0, h => ⟨r, by cases o <;> exact h⟩
  | o :: σ, none :: S, i + 1, h => by
    have h' : Sl K I σ S := by cases o <;> exact h
    have q := Sl.set (σ := σ) (S := S) r i h'
    cases o <;> exact q
  | some v :: σ, some s :: S, 0, h => ⟨r, h.2⟩
  | some v :: σ, some s :: S, i + 1, h => ⟨h.1, Sl.set r i h.2⟩
  | [], none :: _, _, h => h.elim
  | [], some _ :: _, _, h => h.elim
  | _ :: _, [], _, h => by rename_i o _ _; cases o <;> exact h.elim
  | none :: _, some _ :: _, _, h => h.elim
theorem Sl.drop {K : PySem.W.Frag} {I : Hp} {o : Option V} : ∀ {σ : St} {S : List (Option Sh)} (i : Nat), Sl K I σ S → Sl K I (σ.set i o) (S.set i none)
  | [], [], _, _ => trivial
  | p :: σ, none :: S, 0, h => by
    have h' : Sl K I σ S := by cases p <;> exact h
    cases o <;> exact h'
  | p :: σ, none :: S, i + 1, h => by
    have h' : Sl K I σ S := by cases p <;> exact h
    have q := Sl.drop (σ := σ) (S := S) (o := o) i h'
    cases p <;> exact q
  | some v :: σ, some s :: S, 0, h => by cases o <;> exact h.2
  | some v :: σ, some s :: S, i + 1, h => ⟨h.1, Sl.drop i h.2⟩
  | [], none :: _, _, h => h.elim
  | [], some _ :: _, _, h => h.elim
  | _ :: _, [], _, h => by rename_i p _ _; cases p <;> exact h.elim
  | none :: _, some _ :: _, _, h => h.elim
/-- the slots of the names forgotten -/
def wipeS (S : List (Option Sh)) : List Nat → List (Option Sh)
  | [] => S
  | v :: vs => (wipeS S vs).set v none
theorem Sl.wipe {K : PySem.W.Frag} {I : Hp} {σ : St} {S : List (Option Sh)} (h : Sl K I σ S) : ∀ vs : List Nat, Sl K I (L2.wipe σ vs) (wipeS S vs)
  | [] => h
  | v :: vs => Sl.drop v (Sl.wipe h vs)
/-- the parameters, then the locals without a value -/
def startS (N : List Str) (ss : List Sh) : List (Option Sh) := ss.map some ++ List.replicate (N.length - ss.length) none
theorem sl_none {K : PySem.W.Frag} {I : Hp} : ∀ k : Nat, Sl K I (List.replicate k none) (List.replicate k none)
  | 0 => trivial
  | k + 1 => sl_none (K := K) (I := I) k
end HW
/-! Expressions: what they evaluate to. -/
namespace HW
open PySem PySem.Spec L2

/-! ### the readings as they are -/
def EJ (X : Cx) (e : Expr) : TE := fun σ H Q => ∀ (pins : List (Addr × Obj)) (s : Shared), Inv X pins σ H s → wpAny (model X.prog X.w) X.A (eval e X.env) (EP X pins σ Q) X.xe s
theorem pe_ej {X : Cx} {e : Expr} : PE X e (EJ X e) := ⟨fun pins s σ H Q I h => h pins s I⟩
theorem ej_of {X : Cx} {e : Expr} {te : TE} (h : PE X e te) {σ : L2.St} {H : Hp} {Q : VK} (q : te σ H Q) : EJ X e σ H Q := fun pins s I => h.run pins s σ H Q I q
def TJ (X : Cx) (e : Expr) : TT := fun σ H Q => ∀ (pins : List (Addr × Obj)) (s : Shared), Inv X pins σ H s → wpAny (model X.prog X.w) X.A (isTrue e X.env (eval e X.env)) (TP X pins σ Q) X.xe s
theorem pt_tj {X : Cx} {e : Expr} : PT X e (TJ X e) := ⟨fun pins s σ H Q I h => h pins s I⟩
theorem tj_of {X : Cx} {e : Expr} {te : TT} (h : PT X e te) {σ : L2.St} {H : Hp} {Q : Bool → Hp → Prop} (q : te σ H Q) : TJ X e σ H Q := fun pins s I => h.run pins s σ H Q I q
/-- a test whatever its whole is -/
def WJ (X : Cx) (e : Expr) : TT := fun σ H Q => ∀ (whole : Sem Value) (pins : List (Addr × Obj)) (s : Shared), Inv X pins σ H s → wpAny (model X.prog X.w) X.A (isTrue e X.env whole) (TP X pins σ Q) X.xe s
theorem pw_wj {X : Cx} {e : Expr} : PW X e (WJ X e) := ⟨fun whole pins s σ H Q I h => h whole pins s I⟩
theorem wj_of {X : Cx} {e : Expr} {te : TT} (h : PW X e te) {σ : L2.St} {H : Hp} {Q : Bool → Hp → Prop} (q : te σ H Q) : WJ X e σ H Q := fun whole pins s I => h.run whole pins s σ H Q I q
def AJ (X : Cx) (es : List Expr) : TA := fun σ H Q => ∀ (pos : Pos) (pins : List (Addr × Obj)) (s : Shared), Inv X pins σ H s → wpAny (model X.prog X.w) X.A (spliced (backTo pos (starEach es X.env))) (AP X pins σ Q) X.xe s
theorem pa_aj {X : Cx} {es : List Expr} : PA X es (AJ X es) := ⟨fun pos pins s σ H Q I h => h pos pins s I⟩
theorem aj_of {X : Cx} {es : List Expr} {t : TA} (h : PA X es t) {σ : L2.St} {H : Hp} {Q : List V → Hp → Prop} (q : t σ H Q) : AJ X es σ H Q := fun pos pins s I => h.run pos pins s σ H Q I q

/-! ### the judgements -/
abbrev Sls := List (Option Sh)
/-- e evaluates to such a value; nothing that is tracked is changed -/
def EX (X : Cx) (e : Expr) (S : Sls) (M : Mp) (sh : Sh) : Prop :=
  ∀ (I H : Hp) (σ : L2.St), Same I H → Sl X.K I σ S → MOk X.K I H M → ∀ Q : VK, (∀ v I2 H2, Ext I H I2 H2 → sh.ok X.K I2 v → Q v H2) → EJ X e σ H Q
def TX (X : Cx) (e : Expr) (S : Sls) (M : Mp) (b : Bool) : Prop :=
  ∀ (I H : Hp) (σ : L2.St), Same I H → Sl X.K I σ S → MOk X.K I H M → ∀ Q : Bool → Hp → Prop, (∀ I2 H2, Ext I H I2 H2 → Q b H2) → TJ X e σ H Q
def WX' (X : Cx) (e : Expr) (S : Sls) (M : Mp) (b : Bool) : Prop :=
  ∀ (I H : Hp) (σ : L2.St), Same I H → Sl X.K I σ S → MOk X.K I H M → ∀ Q : Bool → Hp → Prop, (∀ I2 H2, Ext I H I2 H2 → Q b H2) → WJ X e σ H Q
def AX (X : Cx) (es : List Expr) (S : Sls) (M : Mp) (ss : List Sh) : Prop :=
  ∀ (I H : Hp) (σ : L2.St), Same I H → Sl X.K I σ S → MOk X.K I H M → ∀ Q : List V → Hp → Prop, (∀ vs I2 H2, Ext I H I2 H2 → ShA X.K I2 vs ss → Q vs H2) → AJ X es σ H Q

section
variable {X : Cx} {S : Sls} {M : Mp} {a b c e : Expr} {sh s1 s2 : Sh} {pos : Pos}
theorem EX.to {sh' : Sh} (h : EX X e S M sh) (q : sh = sh') : EX X e S M sh' := q ▸ h
theorem TX.to {b b' : Bool} (h : TX X e S M b) (q : b = b') : TX X e S M b' := q ▸ h
/-- two expressions in a row -/
theorem bin2 (ha : EX X a S M s1) (hb : EX X b S M s2) {I H : Hp} {σ : L2.St} (t : Same I H) (l : Sl X.K I σ S) (m : MOk X.K I H M) {R : V → V → Hp → Prop}
    (hr : ∀ x y I2 H2, Ext I H I2 H2 → s1.ok X.K I2 x → s2.ok X.K I2 y → R x y H2) : EJ X a σ H fun x H1 => EJ X b σ H1 fun y H2 => R x y H2 :=
  ha I H σ t l m _ fun x I2 H2 e hx => hb I2 H2 σ e.t (l.mono e.i) (m.ext e) _ fun y I3 H3 e2 hy => hr x y I3 H3 (e.trans e2) (Sh.mono e2.i hx) hy

/-! ### names, constants -/
theorem ex_var (i : Nat) {x : Str} (hN : X.N[i]? = some x) (hS : S[i]? = some (some sh)) (hv : Vis X.env.scope x := by first | exact Or.inl rfl | exact Or.inr (Or.inl rfl) | exact Or.inr (Or.inr rfl))
    (hd : (x == ("__debug__" : Str)) = false := by decide) (hcd : (x == ("__classdict__" : Str)) = false := by decide) : EX X (.Name x pos) S M sh := fun I H σ t l m Q k => by
  obtain ⟨v, h1, h2⟩ := l.get hS
  exact ej_of (pe_var hN hv hd hcd) ⟨v, h1, k v I H (Ext.refl t) h2⟩
theorem ex_int {i : Int} {j : Nat} : EX X (.Constant (.int i) j pos) S M (.d (.int i)) := fun I H σ t _ _ Q k => ej_of pe_int (k _ I H (Ext.refl t) (.int i))
theorem ex_bl {i : Bool} {j : Nat} : EX X (.Constant (.bool i) j pos) S M (.d (.bool i)) := fun I H σ t _ _ Q k => ej_of pe_bl (k _ I H (Ext.refl t) (.bl i))
theorem ex_non {j : Nat} : EX X (.Constant .none j pos) S M (.d .none) := fun I H σ t _ _ Q k => ej_of pe_non (k _ I H (Ext.refl t) .non)
theorem ex_str {x : Str} {j : Nat} : EX X (.Constant (.str x) j pos) S M (.d (.str x)) := fun I H σ t _ _ Q k => ej_of pe_str (k _ I H (Ext.refl t) (.str x))
/-- a name of the module -/
theorem ex_glob {x : Str} {v : V} {u : Value} (hg : Gl X x) (hm : X.mg x = some u) (r : RelV v u) (hv : ∀ I, sh.ok X.K I v) (hd : (x == ("__debug__" : Str)) = false := by decide) : EX X (.Name x pos) S M sh := fun I H σ t _ _ Q k =>
  ej_of (pe_glob hg hm r hd) (k _ I H (Ext.refl t) (hv I))

/-! ### operators -/
theorem ex_op {op : Operator} {r : R2} (ho : OpR X (binaryOp op) r) (ha : EX X a S M s1) (hb : EX X b S M s2)
    (hr : ∀ x y I H (Q : VK), Same I H → s1.ok X.K I x → s2.ok X.K I y → (∀ v I2 H2, Ext I H I2 H2 → sh.ok X.K I2 v → Q v H2) → r x y H Q) : EX X (.BinOp a op b pos) S M sh := fun I H σ t l m Q k =>
  ej_of (pe_op ho pe_ej pe_ej) (bin2 ha hb t l m fun x y I2 H2 e hx hy => hr x y I2 H2 Q e.t hx hy fun v I3 H3 e2 hv => k v I3 H3 (e.trans e2) hv)
theorem ex_add {i j : Int} (ha : EX X a S M (.d (.int i))) (hb : EX X b S M (.d (.int j))) : EX X (.BinOp a .Add b pos) S M (.d (.int (i + j))) :=
  ex_op op_add ha hb fun x y I H Q t hx hy k => ⟨i, j, dp_int hx, dp_int hy, k _ I H (Ext.refl t) (.int _)⟩
theorem ex_sub {i j : Int} (ha : EX X a S M (.d (.int i))) (hb : EX X b S M (.d (.int j))) : EX X (.BinOp a .Sub b pos) S M (.d (.int (i - j))) :=
  ex_op op_sub ha hb fun x y I H Q t hx hy k => ⟨i, j, dp_int hx, dp_int hy, k _ I H (Ext.refl t) (.int _)⟩
theorem ex_mul {i j : Int} (hc : CMul i j) (ha : EX X a S M (.d (.int i))) (hb : EX X b S M (.d (.int j))) : EX X (.BinOp a .Mult b pos) S M (.d (.int (i * j))) :=
  ex_op op_mul ha hb fun x y I H Q t hx hy k => ⟨i, j, dp_int hx, dp_int hy, hc, k _ I H (Ext.refl t) (.int _)⟩
theorem ex_mod {i j : Int} (hc : 0 < j) (ha : EX X a S M (.d (.int i))) (hb : EX X b S M (.d (.int j))) : EX X (.BinOp a .Mod b pos) S M (.d (.int (i % j))) :=
  ex_op op_mod ha hb fun x y I H Q t hx hy k => ⟨i, j, dp_int hx, dp_int hy, hc, k _ I H (Ext.refl t) (.int _)⟩
theorem ex_fdiv {i j : Int} (hc : CDiv i j) (ha : EX X a S M (.d (.int i))) (hb : EX X b S M (.d (.int j))) : EX X (.BinOp a .FloorDiv b pos) S M (.d (.int (i / j))) :=
  ex_op op_fdiv ha hb fun x y I H Q t hx hy k => ⟨i, j, dp_int hx, dp_int hy, hc, k _ I H (Ext.refl t) (.int _)⟩
/-- t + u (tuples, the left not empty) -/
theorem ex_catT {ds es : List PyData} (h0 : ds ≠ []) (hz : ds.length + es.length ≤ sizeLine) (ha : EX X a S M (.d (.tuple ds))) (hb : EX X b S M (.d (.tuple es))) : EX X (.BinOp a .Add b pos) S M (.d (.tuple (ds ++ es))) :=
  ex_op op_catT ha hb fun x y I H Q t hx hy k => by
    obtain ⟨p, xs, rfl, h1, h2⟩ := dp_tup hx
    obtain ⟨q, ys, rfl, h3, h4⟩ := dp_tup hy
    have l1 := dpAll_length h2
    have l2 := dpAll_length h4
    refine ⟨p, q, xs, ys, rfl, rfl, sqT_mono t h1, sqT_mono t h3, (fun z => h0 (List.eq_nil_of_length_eq_zero (by rw [← l1, z]; rfl))), by omega, ?_⟩
    first
      | (refine ⟨fun z => ?_, fun z w hw => ?_⟩
         · have e : es = [] := List.eq_nil_of_length_eq_zero (by rw [← l2, z]; rfl)
           exact k _ I H (Ext.refl t) (by rw [e, List.append_nil]; exact hx)
         · exact k _ _ _ (Ext.new t hw _) (.tup (SqT.of upd_same) (dpAll_append (dpAll_mono (same_new (t.free hw) _) _ _ h2) (dpAll_mono (same_new (t.free hw) _) _ _ h4))))
/-- a list that the text made is a list of data -/
theorem ex_d {ds : List PyData} (ha : EX X a S M (.nl ds)) : EX X a S M (.d (.list ds)) := fun I H σ t l m Q k => ha I H σ t l m Q fun v I2 H2 e2 hv => k v I2 H2 e2 (nl_dp hv)
/-- xs + ys -/
theorem ex_catL {ds es : List PyData} (hz : ds.length + es.length ≤ sizeLine) (ha : EX X a S M (.nl ds)) (hb : EX X b S M (.nl es)) : EX X (.BinOp a .Add b pos) S M (.nl (ds ++ es)) :=
  ex_op op_cat ha hb fun x y I H Q t hx hy k => by
    obtain ⟨p, xs, rfl, h1, h2⟩ := hx
    obtain ⟨q, ys, rfl, h3, h4⟩ := hy
    have l1 := dpAll_length h2
    have l2 := dpAll_length h4
    refine ⟨p, q, xs, ys, rfl, rfl, t _ _ h1, t _ _ h3, by omega, fun w hw => ?_⟩
    exact k _ _ _ (Ext.new t hw _) ⟨w, _, rfl, upd_same, dpAll_append (dpAll_mono (same_new (t.free hw) _) _ _ h2) (dpAll_mono (same_new (t.free hw) _) _ _ h4)⟩

/-! ### comparisons -/
/-- the comparison's answer -/
def CMX (X : Cx) (op : CmpOp) (s1 s2 : Sh) (k : Bool) : Prop := ∃ r : R2, OpR X (compareOp op) r ∧
  ∀ x y I H (Q : VK), Same I H → s1.ok X.K I x → s2.ok X.K I y → Q (.bl k) H → r x y H Q
theorem ex_c {op : CmpOp} {k : Bool} (cm : CMX X op s1 s2 k) (ha : EX X a S M s1) (hb : EX X b S M s2) (hm : behindInMarks op b = false := by first | exact nomark _ | rfl) : EX X (.Compare a [op] [b] pos) S M (.d (.bool k)) := fun I H σ t l m Q q => by
  obtain ⟨r, ho, hr⟩ := cm
  exact ej_of (pe_cmpR ho pe_ej pe_ej hm) (bin2 ha hb t l m fun x y I2 H2 e hx hy => hr x y I2 H2 Q e.t hx hy (q _ I2 H2 e (.bl k)))
theorem tx_c {op : CmpOp} {k : Bool} (cm : CMX X op s1 s2 k) (ha : EX X a S M s1) (hb : EX X b S M s2) (hm : behindInMarks op b = false := by first | exact nomark _ | rfl) : TX X (.Compare a [op] [b] pos) S M k := fun I H σ t l m Q q => by
  obtain ⟨r, ho, hr⟩ := cm
  exact tj_of (pt_cmpR ho pe_ej pe_ej hm) (bin2 ha hb t l m fun x y I2 H2 e hx hy => hr x y I2 H2 _ e.t hx hy ⟨k, rfl, q I2 H2 e⟩)
/-- a op b op' c -/
theorem ex_ch {op op' : CmpOp} {s3 : Sh} {k1 k2 : Bool} (c1 : CMX X op s1 s2 k1) (c2 : k1 = true → CMX X op' s2 s3 k2) (ha : EX X a S M s1) (hb : EX X b S M s2) (hc : EX X c S M s3) (h1 : op ≠ .In ∧ op ≠ .NotIn := by decide) (h2 : op' ≠ .In ∧ op' ≠ .NotIn := by decide) :
    EX X (.Compare a [op, op'] [b, c] pos) S M (.d (.bool (k1 && k2))) := fun I H σ t l m Q q => by
  obtain ⟨r, ho, hr⟩ := c1
  cases k1 with
  | false => 
    by_cases hh : ∃ r' : R2, OpR X (compareOp op') r'
    · obtain ⟨r', ho'⟩ := hh
      exact ej_of (pe_chain ho ho' pe_ej pe_ej pe_ej (nomark _ h2.1 h2.2)) (bin2 ha hb t l m fun x y I2 H2 e hx hy => hr x y I2 H2 _ e.t hx hy ⟨false, rfl, by
        show (if false = true then _ else _)
        rw [if_neg Bool.false_ne_true]
        exact q _ I2 H2 e (.bl _)⟩)
    · exact absurd ⟨fun _ _ _ _ => False, fun _ _ _ _ _ _ _ _ _ _ _ _ z => z.elim⟩ hh
  | true =>
    obtain ⟨r', ho', hr'⟩ := c2 rfl
    exact ej_of (pe_chain ho ho' pe_ej pe_ej pe_ej (nomark _ h2.1 h2.2)) (bin2 ha hb t l m fun x y I2 H2 e hx hy => hr x y I2 H2 _ e.t hx hy ⟨true, rfl, by
      show (if true = true then _ else _)
      rw [if_pos rfl]
      exact hc I2 H2 σ e.t (l.mono e.i) (m.ext e) _ fun z I3 H3 e3 hz => hr' y z I3 H3 _ e3.t (Sh.mono e3.i hy) hz (q _ I3 H3 (e.trans e3) (.bl _))⟩)
theorem tx_ch {op op' : CmpOp} {s3 : Sh} {k1 k2 : Bool} (c1 : CMX X op s1 s2 k1) (c2 : k1 = true → CMX X op' s2 s3 k2) (ha : EX X a S M s1) (hb : EX X b S M s2) (hc : EX X c S M s3) (h1 : op ≠ .In ∧ op ≠ .NotIn := by decide) (h2 : op' ≠ .In ∧ op' ≠ .NotIn := by decide) :
    TX X (.Compare a [op, op'] [b, c] pos) S M (k1 && k2) := fun I H σ t l m Q q => by
  obtain ⟨r, ho, hr⟩ := c1
  cases k1 with
  | false => 
    by_cases hh : ∃ r' : R2, OpR X (compareOp op') r'
    · obtain ⟨r', ho'⟩ := hh
      exact tj_of (pt_chain ho ho' pe_ej pe_ej pe_ej (nomark _ h2.1 h2.2)) (bin2 ha hb t l m fun x y I2 H2 e hx hy => hr x y I2 H2 _ e.t hx hy ⟨false, rfl, by
        show (if false = true then _ else _)
        rw [if_neg Bool.false_ne_true]
        exact ⟨false, rfl, q I2 H2 e⟩⟩)
    · exact absurd ⟨fun _ _ _ _ => False, fun _ _ _ _ _ _ _ _ _ _ _ _ z => z.elim⟩ hh
  | true =>
    obtain ⟨r', ho', hr'⟩ := c2 rfl
    exact tj_of (pt_chain ho ho' pe_ej pe_ej pe_ej (nomark _ h2.1 h2.2)) (bin2 ha hb t l m fun x y I2 H2 e hx hy => hr x y I2 H2 _ e.t hx hy ⟨true, rfl, by
      show (if true = true then _ else _)
      rw [if_pos rfl]
      exact hc I2 H2 σ e.t (l.mono e.i) (m.ext e) _ fun z I3 H3 e3 hz => hr' y z I3 H3 _ e3.t (Sh.mono e3.i hy) hz ⟨_, rfl, q I3 H3 (e.trans e3)⟩⟩)
theorem CMX.to {op : CmpOp} {k k' : Bool} (h : CMX X op s1 s2 k) (q : k = k') : CMX X op s1 s2 k' := q ▸ h
theorem c_eq {d f : PyData} (hu : X.A.units + 64 < cLine) (hd : SeqAt.shaped d = true) (hf : SeqAt.shaped f = true) : CMX X .Eq (.d d) (.d f) (PyData.eqv d f) :=
  ⟨_, op_eqD hu, fun x y I H Q t hx hy k => ⟨d, f, dp_mono t _ _ hx, dp_mono t _ _ hy, hd, hf, k⟩⟩
theorem c_ne {d f : PyData} (hu : X.A.units + 64 < cLine) (hd : SeqAt.shaped d = true) (hf : SeqAt.shaped f = true) : CMX X .NotEq (.d d) (.d f) (!PyData.eqv d f) :=
  ⟨_, op_neD hu, fun x y I H Q t hx hy k => ⟨d, f, dp_mono t _ _ hx, dp_mono t _ _ hy, hd, hf, k⟩⟩
theorem c_eqI {i j : Int} : CMX X .Eq (.d (.int i)) (.d (.int j)) (decide (i = j)) :=
  ⟨_, op_eq, fun x y I H Q t hx hy k => by
    rw [dp_int hx, dp_int hy]
    refine ⟨rfl, ?_⟩
    rw [dec_int, Bool.beq_eq_decide_eq]
    exact k⟩
theorem c_neI {i j : Int} : CMX X .NotEq (.d (.int i)) (.d (.int j)) (!decide (i = j)) :=
  ⟨_, op_ne, fun x y I H Q t hx hy k => by
    rw [dp_int hx, dp_int hy]
    refine ⟨rfl, ?_⟩
    rw [dec_int, Bool.beq_eq_decide_eq]
    exact k⟩
theorem c_eqS {i j : Str} : CMX X .Eq (.d (.str i)) (.d (.str j)) (decide (i = j)) :=
  ⟨_, op_eq, fun x y I H Q t hx hy k => by
    rw [dp_str hx, dp_str hy]
    refine ⟨rfl, ?_⟩
    rw [dec_str, Bool.beq_eq_decide_eq]
    exact k⟩
theorem c_neS {i j : Str} : CMX X .NotEq (.d (.str i)) (.d (.str j)) (!decide (i = j)) :=
  ⟨_, op_ne, fun x y I H Q t hx hy k => by
    rw [dp_str hx, dp_str hy]
    refine ⟨rfl, ?_⟩
    rw [dec_str, Bool.beq_eq_decide_eq]
    exact k⟩
theorem c_lt {i j : Int} : CMX X .Lt (.d (.int i)) (.d (.int j)) (decide (i < j)) :=
  ⟨_, op_lt, fun x y I H Q t hx hy k => ⟨i, j, dp_int hx, dp_int hy, k⟩⟩
theorem c_le {i j : Int} : CMX X .LtE (.d (.int i)) (.d (.int j)) (decide (i ≤ j)) :=
  ⟨_, op_le, fun x y I H Q t hx hy k => ⟨i, j, dp_int hx, dp_int hy, k⟩⟩
theorem c_gt {i j : Int} : CMX X .Gt (.d (.int i)) (.d (.int j)) (decide (j < i)) :=
  ⟨_, op_gt, fun x y I H Q t hx hy k => ⟨i, j, dp_int hx, dp_int hy, k⟩⟩
/-- t < u, tuples of ints -/
theorem c_ltT {ns ms : List Int} (hu : X.A.units < cLine) : CMX X .Lt (.d (.tuple (ns.map PyData.int))) (.d (.tuple (ms.map PyData.int))) (HT.lexLt ns ms) :=
  ⟨_, op_ltT hu, fun x y I H Q t hx hy k => by
    obtain ⟨p, xs, rfl, h1, h2⟩ := dp_tup hx
    obtain ⟨q, ys, rfl, h3, h4⟩ := dp_tup hy
    rw [dpAll_ints h2] at h1
    rw [dpAll_ints h4] at h3
    exact ⟨p, q, ns, ms, rfl, rfl, sqT_mono t h1, sqT_mono t h3, k⟩⟩
/-- x in xs, x not in xs (a list of data) -/
theorem c_in {d : PyData} {ds : List PyData} (hu : X.A.units + 65 < cLine) (hd : SeqAt.shaped d = true) (hf : SeqAt.shaped (.list ds) = true) : CMX X .In (.d d) (.d (.list ds)) (ds.any fun z => PyData.eqv z d) :=
  ⟨_, op_inD hu, fun x y I H Q t hx hy k => ⟨d, ds, dp_mono t _ _ hx, dp_mono t _ _ hy, hd, hf, k⟩⟩
theorem c_nin {d : PyData} {ds : List PyData} (hu : X.A.units + 65 < cLine) (hd : SeqAt.shaped d = true) (hf : SeqAt.shaped (.list ds) = true) : CMX X .NotIn (.d d) (.d (.list ds)) (!ds.any fun z => PyData.eqv z d) :=
  ⟨_, op_notInD hu, fun x y I H Q t hx hy k => ⟨d, ds, dp_mono t _ _ hx, dp_mono t _ _ hy, hd, hf, k⟩⟩
/-- flat things in a tuple (or a list) -/
theorem inV_ints (i : Int) (ns : List Int) : inV (.int i) (ns.map V.int) = ns.any (· == i) := by
  unfold inV
  rw [List.any_map]
  congr 1
theorem inV_strs (x : Str) (ns : List Str) : inV (.str x) (ns.map V.str) = ns.any (fun y => y == x) := by
  unfold inV
  rw [List.any_map]
  congr 1
theorem flat_ints (ns : List Int) : (ns.map V.int).all flatV = true := by
  rw [List.all_map]
  exact List.all_eq_true.mpr fun _ _ => rfl
theorem flat_strs (ns : List Str) : (ns.map V.str).all flatV = true := by
  rw [List.all_map]
  exact List.all_eq_true.mpr fun _ _ => rfl
theorem c_inTI {i : Int} {ns : List Int} : CMX X .In (.d (.int i)) (.d (.tuple (ns.map PyData.int))) (ns.any (· == i)) :=
  ⟨_, op_in_seq, fun x y I H Q t hx hy k => by
    obtain ⟨p, xs, rfl, h1, h2⟩ := dp_tup hy
    rw [dpAll_ints h2] at h1
    rw [dp_int hx]
    refine ⟨p, _, rfl, .inr (sqT_mono t h1), rfl, flat_ints ns, ?_⟩
    rw [inV_ints]
    exact k⟩
theorem c_ninTI {i : Int} {ns : List Int} : CMX X .NotIn (.d (.int i)) (.d (.tuple (ns.map PyData.int))) (!ns.any (· == i)) :=
  ⟨_, op_notIn_seq, fun x y I H Q t hx hy k => by
    obtain ⟨p, xs, rfl, h1, h2⟩ := dp_tup hy
    rw [dpAll_ints h2] at h1
    rw [dp_int hx]
    refine ⟨p, _, rfl, .inr (sqT_mono t h1), rfl, flat_ints ns, ?_⟩
    rw [inV_ints]
    exact k⟩
theorem c_inLI {i : Int} {ns : List Int} : CMX X .In (.d (.int i)) (.d (.list (ns.map PyData.int))) (ns.any (· == i)) :=
  ⟨_, op_in_seq, fun x y I H Q t hx hy k => by
    obtain ⟨p, xs, rfl, h1, h2⟩ := dp_lst hy
    rw [dpAll_ints h2] at h1
    rw [dp_int hx]
    refine ⟨p, _, rfl, .inl (sqL_mono t h1), rfl, flat_ints ns, ?_⟩
    rw [inV_ints]
    exact k⟩
theorem c_ninLI {i : Int} {ns : List Int} : CMX X .NotIn (.d (.int i)) (.d (.list (ns.map PyData.int))) (!ns.any (· == i)) :=
  ⟨_, op_notIn_seq, fun x y I H Q t hx hy k => by
    obtain ⟨p, xs, rfl, h1, h2⟩ := dp_lst hy
    rw [dpAll_ints h2] at h1
    rw [dp_int hx]
    refine ⟨p, _, rfl, .inl (sqL_mono t h1), rfl, flat_ints ns, ?_⟩
    rw [inV_ints]
    exact k⟩
theorem c_inTS {z : Str} {ns : List Str} : CMX X .In (.d (.str z)) (.d (.tuple (ns.map PyData.str))) (ns.any fun y => y == z) :=
  ⟨_, op_in_seq, fun x y I H Q t hx hy k => by
    obtain ⟨p, xs, rfl, h1, h2⟩ := dp_tup hy
    rw [dpAll_strs h2] at h1
    rw [dp_str hx]
    refine ⟨p, _, rfl, .inr (sqT_mono t h1), rfl, flat_strs ns, ?_⟩
    rw [inV_strs]
    exact k⟩
theorem c_ninTS {z : Str} {ns : List Str} : CMX X .NotIn (.d (.str z)) (.d (.tuple (ns.map PyData.str))) (!ns.any fun y => y == z) :=
  ⟨_, op_notIn_seq, fun x y I H Q t hx hy k => by
    obtain ⟨p, xs, rfl, h1, h2⟩ := dp_tup hy
    rw [dpAll_strs h2] at h1
    rw [dp_str hx]
    refine ⟨p, _, rfl, .inr (sqT_mono t h1), rfl, flat_strs ns, ?_⟩
    rw [inV_strs]
    exact k⟩
/-- is None -/
def isNoneD : PyData → Bool
  | .none => true
  | _ => false
theorem isNone_of {K : PySem.W.Frag} {I : Hp} {x : V} {d : PyData} (h : Dp K I x d) : decide (x = V.non) = isNoneD d := by
  cases d <;> first
    | (rw [dp_non h]; rfl)
    | (rw [dp_int h]; rfl)
    | (rw [dp_bl h]; rfl)
    | (rw [dp_str h]; rfl)
    | (obtain ⟨p, xs, rfl, _, _⟩ := dp_tup h; rfl)
    | (obtain ⟨p, xs, rfl, _, _⟩ := dp_lst h; rfl)
    | cases h
theorem c_isN {d : PyData} : CMX X .Is (.d d) (.d .none) (isNoneD d) :=
  ⟨_, op_isN, fun x y I H Q t hx hy k => ⟨dp_non hy, by rw [isNone_of hx]; exact k⟩⟩
theorem c_notN {d : PyData} : CMX X .IsNot (.d d) (.d .none) (!isNoneD d) :=
  ⟨_, op_notN, fun x y I H Q t hx hy k => ⟨dp_non hy, by rw [isNone_of hx]; exact k⟩⟩

/-! ### tests -/
theorem tx_val {k : Bool} (h : EX X e S M (.d (.bool k))) (he : ∀ whole, isTrue e X.env whole = (do let v ← whole; standAt e.pos; holding [v] (truthy v)) := by intro _; rfl) : TX X e S M k := fun I H σ t l m Q q =>
  tj_of (pt_val pe_ej he) (h I H σ t l m _ fun v I2 H2 e2 hv => ⟨k, dp_bl hv, q I2 H2 e2⟩)
/-- a value's truth -/
def truD : PyData → Option Bool
  | .none => some false
  | .bool b => some b
  | .int i => some (i != 0)
  | .list xs => some (!xs.isEmpty)
  | .tuple xs => some (!xs.isEmpty)
  | _ => none
theorem truV_of {K : PySem.W.Frag} {I H : Hp} {x : V} {d : PyData} {k : Bool} (t : Same I H) (h : Dp K I x d) (e : truD d = some k) : TruV K x H k := by
  have emp : ∀ {vs : List V} {ds : List PyData}, DpAll K I vs ds → vs.isEmpty = ds.isEmpty := fun {vs ds} z => by cases z <;> rfl
  cases d with
  | none => cases e; rw [dp_non h]; exact rfl
  | bool b => cases e; rw [dp_bl h]; exact rfl
  | int i => cases e; rw [dp_int h]; exact rfl
  | list ds =>
    cases e
    obtain ⟨p, xs, rfl, h1, h2⟩ := dp_lst h
    exact .inl ⟨xs, sqL_mono t h1, by rw [emp h2]⟩
  | tuple ds =>
    cases e
    obtain ⟨p, xs, rfl, h1, h2⟩ := dp_tup h
    exact .inr (.inl ⟨xs, sqT_mono t h1, by rw [emp h2]⟩)
  | str x => cases e
  | dict x => cases e
theorem tx_tru {d : PyData} {k : Bool} (h : EX X e S M (.d d)) (hk : truD d = some k) (he : ∀ whole, isTrue e X.env whole = (do let v ← whole; standAt e.pos; holding [v] (truthy v)) := by intro _; rfl) : TX X e S M k := fun I H σ t l m Q q =>
  tj_of (pt_truth pe_ej he) (h I H σ t l m _ fun v I2 H2 e2 hv => ⟨k, truV_of e2.t hv hk, q I2 H2 e2⟩)
theorem tx_not {k : Bool} (h : TX X a S M k) : TX X (.UnaryOp .Not a pos) S M (!k) := fun I H σ t l m Q q =>
  tj_of (pt_not pt_tj) (h I H σ t l m _ fun I2 H2 e2 => q I2 H2 e2)
theorem wx_and1 {k : Bool} (h : TX X a S M k) : WX' X (.BoolOp .And [a] pos) S M k := fun I H σ t l m Q q => wj_of (pw_and1 pt_tj) (h I H σ t l m _ q)
theorem wx_or1 {k : Bool} (h : TX X a S M k) : WX' X (.BoolOp .Or [a] pos) S M k := fun I H σ t l m Q q => wj_of (pw_or1 pt_tj) (h I H σ t l m _ q)
theorem wx_and {rest : List Expr} {k j : Bool} (h : TX X a S M k) (h2 : k = true → WX' X (.BoolOp .And (b :: rest) pos) S M j) : WX' X (.BoolOp .And (a :: b :: rest) pos) S M (k && j) := fun I H σ t l m Q q =>
  wj_of (pw_and pt_tj pw_wj) (h I H σ t l m _ fun I2 H2 e2 => by
    cases k with
    | true =>
      show WJ X _ σ H2 Q
      exact h2 rfl I2 H2 σ e2.t (l.mono e2.i) (m.ext e2) Q fun I3 H3 e3 => q I3 H3 (e2.trans e3)
    | false =>
      show Q false H2
      exact q I2 H2 e2)
theorem wx_or {rest : List Expr} {k j : Bool} (h : TX X a S M k) (h2 : k = false → WX' X (.BoolOp .Or (b :: rest) pos) S M j) : WX' X (.BoolOp .Or (a :: b :: rest) pos) S M (k || j) := fun I H σ t l m Q q =>
  wj_of (pw_or pt_tj pw_wj) (h I H σ t l m _ fun I2 H2 e2 => by
    cases k with
    | true =>
      show Q true H2
      exact q I2 H2 e2
    | false =>
      show WJ X _ σ H2 Q
      exact h2 rfl I2 H2 σ e2.t (l.mono e2.i) (m.ext e2) Q fun I3 H3 e3 => q I3 H3 (e2.trans e3))
theorem tx_w {k : Bool} (h : WX' X a S M k) : TX X a S M k := fun I H σ t l m Q q => tj_of (PW.pt pw_wj) (h I H σ t l m Q q)
/-- and, or as values (bools) -/
theorem ex_one {op : BoolOp} (h : EX X a S M sh) : EX X (.BoolOp op [a] pos) S M sh := fun I H σ t l m Q q => ej_of (pe_one pe_ej) (h I H σ t l m Q q)
theorem ex_and {rest : List Expr} {k j : Bool} (h : EX X a S M (.d (.bool k))) (h2 : k = true → EX X (.BoolOp .And (b :: rest) pos) S M (.d (.bool j))) : EX X (.BoolOp .And (a :: b :: rest) pos) S M (.d (.bool (k && j))) := fun I H σ t l m Q q =>
  ej_of (pe_and pe_ej pe_ej) (h I H σ t l m _ fun v I2 H2 e2 hv => ⟨k, dp_bl hv, by
    cases k with
    | true =>
      show EJ X _ σ H2 Q
      exact h2 rfl I2 H2 σ e2.t (l.mono e2.i) (m.ext e2) Q fun v I3 H3 e3 hv => q v I3 H3 (e2.trans e3) hv
    | false =>
      show Q (.bl false) H2
      exact q _ I2 H2 e2 (.bl _)⟩)
theorem ex_or {rest : List Expr} {k j : Bool} (h : EX X a S M (.d (.bool k))) (h2 : k = false → EX X (.BoolOp .Or (b :: rest) pos) S M (.d (.bool j))) : EX X (.BoolOp .Or (a :: b :: rest) pos) S M (.d (.bool (k || j))) := fun I H σ t l m Q q =>
  ej_of (pe_or pe_ej pe_ej) (h I H σ t l m _ fun v I2 H2 e2 hv => ⟨k, dp_bl hv, by
    cases k with
    | true =>
      show Q (.bl true) H2
      exact q _ I2 H2 e2 (.bl _)
    | false =>
      show EJ X _ σ H2 Q
      exact h2 rfl I2 H2 σ e2.t (l.mono e2.i) (m.ext e2) Q fun v I3 H3 e3 hv => q v I3 H3 (e2.trans e3) hv⟩)
theorem ex_not {k : Bool} (h : EX X a S M (.d (.bool k))) : EX X (.UnaryOp .Not a pos) S M (.d (.bool (!k))) := fun I H σ t l m Q q =>
  ej_of (pe_not pe_ej) (h I H σ t l m _ fun v I2 H2 e2 hv => ⟨k, dp_bl hv, q _ I2 H2 e2 (.bl _)⟩)
/-- a if c else b -/
theorem ex_if {k : Bool} (h : TX X c S M k) (h1 : k = true → EX X a S M sh) (h2 : k = false → EX X b S M sh) : EX X (.IfExp c a b pos) S M sh := fun I H σ t l m Q q =>
  ej_of (pe_ifExp pt_tj pe_ej pe_ej) (h I H σ t l m _ fun I2 H2 e2 => by
    cases k with
    | true =>
      show EJ X a σ H2 Q
      exact h1 rfl I2 H2 σ e2.t (l.mono e2.i) (m.ext e2) Q fun v I3 H3 e3 hv => q v I3 H3 (e2.trans e3) hv
    | false =>
      show EJ X b σ H2 Q
      exact h2 rfl I2 H2 σ e2.t (l.mono e2.i) (m.ext e2) Q fun v I3 H3 e3 hv => q v I3 H3 (e2.trans e3) hv)
end
end HW
/-! Displays, subscripts, attributes, calls. -/
namespace HW
open PySem PySem.Spec L2

/-- the built-ins that the text calls -/
def freeNames : List Str := ["len", "isinstance", "int", "bool", "str", "tuple", "list", "zip", "range", "sorted", "all", "any", "min", "enumerate", "dict", "sum"]
def netNames : List Str := ["hosts", "ties", "weak", "endless", "split", "cry", "hold"]
def bookNames : List Str := ["net", "entries", "stands"]
/-- what isinstance asks of an own class -/
structure Isi (K : PySem.W.Frag) (C : Addr) : Prop where
  ha : PySem.W.findIn K (.ref C) "__class__" = some (some (.builtin "object.__class__"))
  hn : PySem.W.specialIn K (.builtin "object.__class__") "__get__" = some (some (.builtin "getset_descriptor.__get__"))
  htk : PySem.W.takesIn K (.builtin "object.__class__") = some true
  hm : PySem.W.mroIn K C (.type "object") = some true
/-- what the top has written -/
structure Txt (K : PySem.W.Frag) (mg : Str → Option Value) : Prop where
  free : ∀ x ∈ freeNames, mg x = none
  cNet : Cls K (He.ga K "Net")
  aNet : ∀ f ∈ netNames, NoAttr K (He.ga K "Net") f
  gNet : mg "Net" = some (.ref (He.ga K "Net"))
  iNet : Isi K (He.ga K "Net")
  cBook : Cls K (He.ga K "Book")
  aBook : ∀ f ∈ bookNames, NoAttr K (He.ga K "Book") f
  gBook : mg "Book" = some (.ref (He.ga K "Book"))
theorem sz_of' {n : Nat} (h : n ≤ 100000) : n ≤ sizeLine := Nat.le_trans h (by decide)
theorem sz_lt' {n : Nat} (h : n < 100000) : n < sizeLine := Nat.lt_of_lt_of_le h (by decide)
section
variable {X : Cx} {S : Sls} {M : Mp} {a b c e : Expr} {es : List Expr} {sh s1 s2 : Sh} {ss : List Sh} {pos p : Pos} {x : Str}
/-! ### several expressions -/
theorem ax_nil : AX X [] S M [] := fun I H σ t _ _ Q k => aj_of pa_nil (k [] I H (Ext.refl t) trivial)
theorem ax_cons (ha : EX X e S M sh) (hr : AX X es S M ss) (hs : starEach (e :: es) X.env = (false, eval e X.env) :: starEach es X.env := by rfl) : AX X (e :: es) S M (sh :: ss) := fun I H σ t l m Q k =>
  aj_of (pa_cons pe_ej pa_aj hs) (ha I H σ t l m _ fun v I2 H2 e2 hv => hr I2 H2 σ e2.t (l.mono e2.i) (m.ext e2) _ fun vs I3 H3 e3 hvs => k (v :: vs) I3 H3 (e2.trans e3) ⟨Sh.mono e3.i hv, hvs⟩)
/-- *e, e a list or a tuple of data -/
theorem ax_starL {ds : List PyData} (ha : EX X e S M (.d (.list ds))) (hr : AX X es S M ss) (hs : starEach (.Starred e p :: es) X.env = (true, eval e X.env) :: starEach es X.env := by rfl) : AX X (.Starred e p :: es) S M (ds.map Sh.d ++ ss) := fun I H σ t l m Q k =>
  aj_of (StX.pa_star pe_ej pa_aj hs) (ha I H σ t l m _ fun v I2 H2 e2 hv => by
    obtain ⟨q, xs, rfl, h1, h2⟩ := dp_lst hv
    exact ⟨q, xs, rfl, .inr (sqL_mono e2.t h1), hr I2 H2 σ e2.t (l.mono e2.i) (m.ext e2) _ fun vs I3 H3 e3 hvs => k _ I3 H3 (e2.trans e3) (ShA.append (ShA.of_dat (dpAll_mono e3.i _ _ h2)) hvs)⟩)
theorem ax_starT {ds : List PyData} (ha : EX X e S M (.d (.tuple ds))) (hr : AX X es S M ss) (hs : starEach (.Starred e p :: es) X.env = (true, eval e X.env) :: starEach es X.env := by rfl) : AX X (.Starred e p :: es) S M (ds.map Sh.d ++ ss) := fun I H σ t l m Q k =>
  aj_of (StX.pa_star pe_ej pa_aj hs) (ha I H σ t l m _ fun v I2 H2 e2 hv => by
    obtain ⟨q, xs, rfl, h1, h2⟩ := dp_tup hv
    exact ⟨q, xs, rfl, .inl (sqT_mono e2.t h1), hr I2 H2 σ e2.t (l.mono e2.i) (m.ext e2) _ fun vs I3 H3 e3 hvs => k _ I3 H3 (e2.trans e3) (ShA.append (ShA.of_dat (dpAll_mono e3.i _ _ h2)) hvs)⟩)
/-- *e, e a list that is still changed -/
theorem ax_starM {q : Addr} {xs : List Sh} (hM : M q = some (.lst xs)) (ha : EX X e S M (.v (.ref q))) (hr : AX X es S M ss) (hs : starEach (.Starred e p :: es) X.env = (true, eval e X.env) :: starEach es X.env := by rfl) : AX X (.Starred e p :: es) S M (xs ++ ss) := fun I H σ t l m Q k =>
  aj_of (StX.pa_star pe_ej pa_aj hs) (ha I H σ t l m _ fun v I2 H2 e2 hv => by
    have m2 := m.ext e2
    obtain ⟨_, vs, h1, h2⟩ := m2 q _ hM
    exact ⟨q, vs, hv, .inr (SqL.of h1), hr I2 H2 σ e2.t (l.mono e2.i) m2 _ fun ws I3 H3 e3 hvs => k _ I3 H3 (e2.trans e3) (ShA.append (h2.mono e3.i) hvs)⟩)
/-- (a, b, ..) -/
theorem ex_tup {ds : List PyData} {x1} (ha : AX X es S M ss) (hd : ss = ds.map Sh.d) (hz : ds.length ≤ 100000) : EX X (.Tuple es x1 pos) S M (.d (.tuple ds)) := fun I H σ t l m Q k =>
  ej_of (pe_tup pa_aj) (ha I H σ t l m _ fun vs I2 H2 e2 hv => by
    rw [hd] at hv
    have h2 := hv.dat
    refine ⟨by rw [dpAll_length h2]; exact sz_of' hz, fun q hq => ?_⟩
    exact k _ _ _ (e2.trans (Ext.new e2.t hq _)) (.tup (SqT.of upd_same) (dpAll_mono (same_new (e2.t.free hq) _) _ _ h2)))
/-- [a, b, ..] that is not changed any more -/
theorem ex_lst {ds : List PyData} (ha : AX X es S M ss) (hd : ss = ds.map Sh.d) (hz : ds.length ≤ 100000) : EX X (.List es pos) S M (.nl ds) := fun I H σ t l m Q k =>
  ej_of (pe_lst pa_aj) (ha I H σ t l m _ fun vs I2 H2 e2 hv => by
    rw [hd] at hv
    have h2 := hv.dat
    refine ⟨by rw [dpAll_length h2]; exact sz_of' hz, fun q hq => ?_⟩
    exact k _ _ _ (e2.trans (Ext.new e2.t hq _)) ⟨q, _, rfl, upd_same, dpAll_mono (same_new (e2.t.free hq) _) _ _ h2⟩)

/-! ### subscripts -/
theorem ex_ixT {ds : List PyData} {i : Int} {d : PyData} (ha : EX X a S M (.d (.tuple ds))) (hb : EX X b S M (.d (.int i))) (hi : atI ds i = some d) (hs : PlainIx b := by exact fun _ _ => rfl) : EX X (.Subscript a b pos) S M (.d d) := fun I H σ t l m Q k =>
  ej_of (pe_ix ix_tup pe_ej pe_ej hs) (bin2 ha hb t l m fun x y I2 H2 e2 hx hy => by
    obtain ⟨q, xs, rfl, h1, h2⟩ := dp_tup hx
    obtain ⟨v, h3, h4⟩ := dpAll_at h2 hi
    exact ⟨q, xs, i, v, rfl, dp_int hy, sqT_mono e2.t h1, h3, k v I2 H2 e2 h4⟩)
theorem ex_ixL {ds : List PyData} {i : Int} {d : PyData} (ha : EX X a S M (.d (.list ds))) (hb : EX X b S M (.d (.int i))) (hi : atI ds i = some d) (hs : PlainIx b := by exact fun _ _ => rfl) : EX X (.Subscript a b pos) S M (.d d) := fun I H σ t l m Q k =>
  ej_of (pe_ix ix_list pe_ej pe_ej hs) (bin2 ha hb t l m fun x y I2 H2 e2 hx hy => by
    obtain ⟨q, xs, rfl, h1, h2⟩ := dp_lst hx
    obtain ⟨v, h3, h4⟩ := dpAll_at h2 hi
    exact ⟨q, xs, i, v, rfl, dp_int hy, sqL_mono e2.t h1, h3, k v I2 H2 e2 h4⟩)
/-- an item of a list that is still changed -/
theorem ex_ixM {q : Addr} {xs : List Sh} {i : Int} (hM : M q = some (.lst xs)) (ha : EX X a S M (.v (.ref q))) (hb : EX X b S M (.d (.int i))) (hi : atI xs i = some sh) (hs : PlainIx b := by exact fun _ _ => rfl) : EX X (.Subscript a b pos) S M sh := fun I H σ t l m Q k =>
  ej_of (pe_ix ix_list pe_ej pe_ej hs) (bin2 ha hb t l m fun x y I2 H2 e2 hx hy => by
    obtain ⟨_, vs, h1, h2⟩ := m.ext e2 q _ hM
    obtain ⟨v, h3, h4⟩ := h2.at hi
    exact ⟨q, vs, i, v, hx, dp_int hy, SqL.of h1, h3, k v I2 H2 e2 h4⟩)
/-- a part of a slice -/
def OX (X : Cx) (e : Option Expr) (S : Sls) (M : Mp) (o : Option Int) : Prop := ∃ tt : TO, PO X e tt ∧
  ∀ (I H : Hp) (σ : L2.St), Same I H → Sl X.K I σ S → MOk X.K I H M → ∀ Q : Option Int → Hp → Prop, (∀ I2 H2, Ext I H I2 H2 → Q o H2) → tt σ H Q
theorem ox_none : OX X none S M none := ⟨_, po_none, fun I H σ t _ _ Q k => k I H (Ext.refl t)⟩
theorem ox_some {i : Int} (h : EX X e S M (.d (.int i))) : OX X (some e) S M (some i) := ⟨_, po_some pe_ej, fun I H σ t l m Q k => h I H σ t l m _ fun v I2 H2 e2 hv => ⟨i, dp_int hv, k I2 H2 e2⟩⟩
def cutD {α : Type} (xs : List α) (lo hi : Option Int) : List α := (xs.drop (HT.sIx xs.length 0 lo)).take (HT.sIx xs.length xs.length hi - HT.sIx xs.length 0 lo)
theorem dpAll_cut {K : PySem.W.Frag} {I : Hp} {vs : List V} {ds : List PyData} (h : DpAll K I vs ds) (lo hi : Option Int) : DpAll K I (cutV vs lo hi) (cutD ds lo hi) := by
  unfold cutV cutD
  rw [dpAll_length h]
  exact dpAll_take _ (dpAll_drop _ h)
theorem ex_slL {ds : List PyData} {lo hi : Option Expr} {i j : Option Int} {p2 : Pos} (ha : EX X a S M (.d (.list ds))) (hl : OX X lo S M i) (hh : OX X hi S M j) : EX X (.Subscript a (.Slice lo hi none p2) pos) S M (.nl (cutD ds i j)) := fun I H σ t l m Q k => by
  obtain ⟨t1, p1, h1⟩ := hl
  obtain ⟨t2, p2, h2⟩ := hh
  exact ej_of (pe_slice sl_list pe_ej p1 p2) (ha I H σ t l m _ fun v I2 H2 e2 hv => h1 I2 H2 σ e2.t (l.mono e2.i) (m.ext e2) _ fun I3 H3 e3 => h2 I3 H3 σ e3.t ((l.mono e2.i).mono e3.i) ((m.ext e2).ext e3) _ fun I4 H4 e4 => by
    obtain ⟨q, xs, rfl, h3, h5⟩ := dp_lst (dp_mono (e3.i.trans e4.i) _ _ hv)
    exact ⟨q, xs, rfl, sqL_mono e4.t h3, fun w hw => k _ _ _ (((e2.trans e3).trans e4).trans (Ext.new e4.t hw _)) ⟨w, _, rfl, upd_same, dpAll_cut (dpAll_mono (same_new (e4.t.free hw) _) _ _ h5) i j⟩⟩)
theorem ex_slT {ds : List PyData} {lo hi : Option Expr} {i j : Option Int} {p2 : Pos} (ha : EX X a S M (.d (.tuple ds))) (hl : OX X lo S M i) (hh : OX X hi S M j) (hw : ¬ (HT.sIx ds.length 0 i = 0 ∧ HT.sIx ds.length ds.length j = ds.length)) :
    EX X (.Subscript a (.Slice lo hi none p2) pos) S M (.d (.tuple (cutD ds i j))) := fun I H σ t l m Q k => by
  obtain ⟨t1, p1, h1⟩ := hl
  obtain ⟨t2, p2, h2⟩ := hh
  exact ej_of (pe_slice sl_tup pe_ej p1 p2) (ha I H σ t l m _ fun v I2 H2 e2 hv => h1 I2 H2 σ e2.t (l.mono e2.i) (m.ext e2) _ fun I3 H3 e3 => h2 I3 H3 σ e3.t ((l.mono e2.i).mono e3.i) ((m.ext e2).ext e3) _ fun I4 H4 e4 => by
    obtain ⟨q, xs, rfl, h3, h5⟩ := dp_tup (dp_mono (e3.i.trans e4.i) _ _ hv)
    exact ⟨q, xs, rfl, sqT_mono e4.t h3, by rw [dpAll_length h5]; exact hw, fun w hw => k _ _ _ (((e2.trans e3).trans e4).trans (Ext.new e4.t hw _)) (.tup (SqT.of upd_same) (dpAll_cut (dpAll_mono (same_new (e4.t.free hw) _) _ _ h5) i j))⟩)
/-- a slice of a list that is still changed: a new list -/
theorem ex_slM {q : Addr} {ds : List PyData} {lo hi : Option Expr} {i j : Option Int} {p2 : Pos} (hM : M q = some (.lst (ds.map Sh.d))) (ha : EX X a S M (.v (.ref q))) (hl : OX X lo S M i) (hh : OX X hi S M j) : EX X (.Subscript a (.Slice lo hi none p2) pos) S M (.nl (cutD ds i j)) := fun I H σ t l m Q k => by
  obtain ⟨t1, p1, h1⟩ := hl
  obtain ⟨t2, p2, h2⟩ := hh
  exact ej_of (pe_slice sl_list pe_ej p1 p2) (ha I H σ t l m _ fun v I2 H2 e2 hv => h1 I2 H2 σ e2.t (l.mono e2.i) (m.ext e2) _ fun I3 H3 e3 => h2 I3 H3 σ e3.t ((l.mono e2.i).mono e3.i) ((m.ext e2).ext e3) _ fun I4 H4 e4 => by
    obtain ⟨_, xs, h3, h4⟩ := ((m.ext e2).ext e3).ext e4 q _ hM
    exact ⟨q, xs, hv, SqL.of h3, fun w hw => k _ _ _ (((e2.trans e3).trans e4).trans (Ext.new e4.t hw _)) ⟨w, _, rfl, upd_same, dpAll_cut (dpAll_mono (same_new (e4.t.free hw) _) _ _ h4.dat) i j⟩⟩)

/-! ### attributes -/
theorem lk_here {k : Str} {v : V} {r : List (Str × V)} : List.lookup k ((k, v) :: r) = some v := by
  have e : (k == k) = true := beq_self_eq_true k
  simp only [List.lookup, e]
theorem lk_past {k g : Str} {v : V} {r : List (Str × V)} (h : (k == g) = false) : List.lookup k ((g, v) :: r) = List.lookup k r := by
  simp only [List.lookup, h]
theorem netF_hosts (p : NetP) (vt vw : V) : (netF p vt vw).lookup ("hosts" : Str) = some (V.int (p.n : Int)) := lk_here
theorem netF_ties (p : NetP) (vt vw : V) : (netF p vt vw).lookup ("ties" : Str) = some vt := (lk_past (by decide +kernel)).trans lk_here
theorem netF_weak (p : NetP) (vt vw : V) : (netF p vt vw).lookup ("weak" : Str) = some vw := (lk_past (by decide +kernel)).trans ((lk_past (by decide +kernel)).trans lk_here)
theorem netF_endless (p : NetP) (vt vw : V) : (netF p vt vw).lookup ("endless" : Str) = some (V.int (p.far : Int)) := (lk_past (by decide +kernel)).trans ((lk_past (by decide +kernel)).trans ((lk_past (by decide +kernel)).trans lk_here))
theorem netF_split (p : NetP) (vt vw : V) : (netF p vt vw).lookup ("split" : Str) = some (V.str p.split) := (lk_past (by decide +kernel)).trans ((lk_past (by decide +kernel)).trans ((lk_past (by decide +kernel)).trans ((lk_past (by decide +kernel)).trans lk_here)))
theorem netF_cry (p : NetP) (vt vw : V) : (netF p vt vw).lookup ("cry" : Str) = some (V.str p.cry) := (lk_past (by decide +kernel)).trans ((lk_past (by decide +kernel)).trans ((lk_past (by decide +kernel)).trans ((lk_past (by decide +kernel)).trans ((lk_past (by decide +kernel)).trans lk_here))))
theorem netF_hold (p : NetP) (vt vw : V) : (netF p vt vw).lookup ("hold" : Str) = some (V.int (p.hold : Int)) := (lk_past (by decide +kernel)).trans ((lk_past (by decide +kernel)).trans ((lk_past (by decide +kernel)).trans ((lk_past (by decide +kernel)).trans ((lk_past (by decide +kernel)).trans ((lk_past (by decide +kernel)).trans lk_here)))))
theorem bookF_net (a b c : V) : (bookF a b c).lookup ("net" : Str) = some a := lk_here
theorem bookF_entries (a b c : V) : (bookF a b c).lookup ("entries" : Str) = some b := (lk_past (by decide +kernel)).trans lk_here
theorem bookF_stands (a b c : V) : (bookF a b c).lookup ("stands" : Str) = some c := (lk_past (by decide +kernel)).trans ((lk_past (by decide +kernel)).trans lk_here)
theorem bookF_no (a b c : V) {m : Str} (h : ((m == ("net" : Str)) || ((m == ("entries" : Str)) || (m == ("stands" : Str)))) = false) : (bookF a b c).lookup m = none := by
  obtain ⟨h1, h2⟩ := Bool.or_eq_false_iff.mp h
  obtain ⟨h3, h4⟩ := Bool.or_eq_false_iff.mp h2
  exact (lk_past h1).trans ((lk_past h3).trans ((lk_past h4).trans rfl))
theorem netF_no (p : NetP) (a b : V) {m : Str} (h : netNames.any (fun z => m == z) = false) : (netF p a b).lookup m = none := by
  simp only [netNames, List.any_cons, List.any_nil, Bool.or_false, Bool.or_eq_false_iff] at h
  obtain ⟨h1, h2, h3, h4, h5, h6, h7⟩ := h
  exact (lk_past h1).trans ((lk_past h2).trans ((lk_past h3).trans ((lk_past h4).trans ((lk_past h5).trans ((lk_past h6).trans ((lk_past h7).trans rfl))))))
/-- a field of a net -/
theorem ex_netA (T : Txt X.K X.mg) {f : Str} {n : NetP} (hf : f ∈ netNames) (ha : EX X a S M (.net n)) (hl : ∀ I vt vw, Dp X.K I vt n.tiesD → Dp X.K I vw n.weakD → ∃ v, (netF n vt vw).lookup f = some v ∧ sh.ok X.K I v)
    (hb : attributeBase a f X.env (eval a X.env) = eval a X.env) : EX X (.Attribute a f pos) S M sh := fun I H σ t l m Q k =>
  ej_of (pe_fld pe_ej hb) (ha I H σ t l m _ fun v I2 H2 e2 hv => by
    obtain ⟨q, dx, vt, vw, rfl, h1, h2, h3⟩ := hv
    obtain ⟨v, h4, h5⟩ := hl I2 vt vw h2 h3
    exact ⟨q, _, dx, _, v, rfl, e2.t _ _ h1, T.cNet, T.aNet f hf, h4, k v I2 H2 e2 h5⟩)
theorem ex_hosts (T : Txt X.K X.mg) {n : NetP} (ha : EX X a S M (.net n)) (hb : attributeBase a "hosts" X.env (eval a X.env) = eval a X.env := by rfl) : EX X (.Attribute a "hosts" pos) S M (.d (nD n.n)) := ex_netA T (by decide +kernel) ha (fun I vt vw h2 h3 => ⟨_, netF_hosts n vt vw, .int _⟩) hb
theorem ex_ties (T : Txt X.K X.mg) {n : NetP} (ha : EX X a S M (.net n)) (hb : attributeBase a "ties" X.env (eval a X.env) = eval a X.env := by rfl) : EX X (.Attribute a "ties" pos) S M (.d n.tiesD) := ex_netA T (by decide +kernel) ha (fun I vt vw h2 h3 => ⟨_, netF_ties n vt vw, h2⟩) hb
theorem ex_weak (T : Txt X.K X.mg) {n : NetP} (ha : EX X a S M (.net n)) (hb : attributeBase a "weak" X.env (eval a X.env) = eval a X.env := by rfl) : EX X (.Attribute a "weak" pos) S M (.d n.weakD) := ex_netA T (by decide +kernel) ha (fun I vt vw h2 h3 => ⟨_, netF_weak n vt vw, h3⟩) hb
theorem ex_endless (T : Txt X.K X.mg) {n : NetP} (ha : EX X a S M (.net n)) (hb : attributeBase a "endless" X.env (eval a X.env) = eval a X.env := by rfl) : EX X (.Attribute a "endless" pos) S M (.d (nD n.far)) := ex_netA T (by decide +kernel) ha (fun I vt vw h2 h3 => ⟨_, netF_endless n vt vw, .int _⟩) hb
theorem ex_split (T : Txt X.K X.mg) {n : NetP} (ha : EX X a S M (.net n)) (hb : attributeBase a "split" X.env (eval a X.env) = eval a X.env := by rfl) : EX X (.Attribute a "split" pos) S M (.d (.str n.split)) := ex_netA T (by decide +kernel) ha (fun I vt vw h2 h3 => ⟨_, netF_split n vt vw, .str _⟩) hb
theorem ex_cry (T : Txt X.K X.mg) {n : NetP} (ha : EX X a S M (.net n)) (hb : attributeBase a "cry" X.env (eval a X.env) = eval a X.env := by rfl) : EX X (.Attribute a "cry" pos) S M (.d (.str n.cry)) := ex_netA T (by decide +kernel) ha (fun I vt vw h2 h3 => ⟨_, netF_cry n vt vw, .str _⟩) hb
theorem ex_hold (T : Txt X.K X.mg) {n : NetP} (ha : EX X a S M (.net n)) (hb : attributeBase a "hold" X.env (eval a X.env) = eval a X.env := by rfl) : EX X (.Attribute a "hold" pos) S M (.d (nD n.hold)) := ex_netA T (by decide +kernel) ha (fun I vt vw h2 h3 => ⟨_, netF_hold n vt vw, .int _⟩) hb
/-- a field of a book -/
theorem ex_bkNet (T : Txt X.K X.mg) {n : NetP} {z s : Addr} (ha : EX X a S M (.bk n z s)) (hb : attributeBase a "net" X.env (eval a X.env) = eval a X.env := by rfl) : EX X (.Attribute a "net" pos) S M (.net n) := fun I H σ t l m Q k =>
  ej_of (pe_fld pe_ej hb) (ha I H σ t l m _ fun v I2 H2 e2 hv => by
    obtain ⟨q, dx, vn, rfl, h1, h2⟩ := hv
    exact ⟨q, _, dx, _, _, rfl, e2.t _ _ h1, T.cBook, T.aBook _ (by decide +kernel), bookF_net _ _ _, k _ I2 H2 e2 h2⟩)
theorem ex_bkEnt (T : Txt X.K X.mg) {n : NetP} {z s : Addr} (ha : EX X a S M (.bk n z s)) (hb : attributeBase a "entries" X.env (eval a X.env) = eval a X.env := by rfl) : EX X (.Attribute a "entries" pos) S M (.v (.ref z)) := fun I H σ t l m Q k =>
  ej_of (pe_fld pe_ej hb) (ha I H σ t l m _ fun v I2 H2 e2 hv => by
    obtain ⟨q, dx, vn, rfl, h1, h2⟩ := hv
    exact ⟨q, _, dx, _, _, rfl, e2.t _ _ h1, T.cBook, T.aBook _ (by decide +kernel), bookF_entries _ _ _, k _ I2 H2 e2 rfl⟩)
theorem ex_bkSt (T : Txt X.K X.mg) {n : NetP} {z s : Addr} (ha : EX X a S M (.bk n z s)) (hb : attributeBase a "stands" X.env (eval a X.env) = eval a X.env := by rfl) : EX X (.Attribute a "stands" pos) S M (.v (.ref s)) := fun I H σ t l m Q k =>
  ej_of (pe_fld pe_ej hb) (ha I H σ t l m _ fun v I2 H2 e2 hv => by
    obtain ⟨q, dx, vn, rfl, h1, h2⟩ := hv
    exact ⟨q, _, dx, _, _, rfl, e2.t _ _ h1, T.cBook, T.aBook _ (by decide +kernel), bookF_stands _ _ _, k _ I2 H2 e2 rfl⟩)
theorem ex_boNet (T : Txt X.K X.mg) {n : NetP} {z s : PyData} (ha : EX X a S M (.book n z s)) (hb : attributeBase a "net" X.env (eval a X.env) = eval a X.env := by rfl) : EX X (.Attribute a "net" pos) S M (.net n) := fun I H σ t l m Q k =>
  ej_of (pe_fld pe_ej hb) (ha I H σ t l m _ fun v I2 H2 e2 hv => by
    obtain ⟨q, dx, vn, ve, vs, rfl, h1, h2, h3, h4⟩ := hv
    exact ⟨q, _, dx, _, _, rfl, e2.t _ _ h1, T.cBook, T.aBook _ (by decide +kernel), bookF_net _ _ _, k _ I2 H2 e2 h2⟩)
theorem ex_boEnt (T : Txt X.K X.mg) {n : NetP} {z s : PyData} (ha : EX X a S M (.book n z s)) (hb : attributeBase a "entries" X.env (eval a X.env) = eval a X.env := by rfl) : EX X (.Attribute a "entries" pos) S M (.d z) := fun I H σ t l m Q k =>
  ej_of (pe_fld pe_ej hb) (ha I H σ t l m _ fun v I2 H2 e2 hv => by
    obtain ⟨q, dx, vn, ve, vs, rfl, h1, h2, h3, h4⟩ := hv
    exact ⟨q, _, dx, _, _, rfl, e2.t _ _ h1, T.cBook, T.aBook _ (by decide +kernel), bookF_entries _ _ _, k _ I2 H2 e2 h3⟩)
theorem ex_boSt (T : Txt X.K X.mg) {n : NetP} {z s : PyData} (ha : EX X a S M (.book n z s)) (hb : attributeBase a "stands" X.env (eval a X.env) = eval a X.env := by rfl) : EX X (.Attribute a "stands" pos) S M (.d s) := fun I H σ t l m Q k =>
  ej_of (pe_fld pe_ej hb) (ha I H σ t l m _ fun v I2 H2 e2 hv => by
    obtain ⟨q, dx, vn, ve, vs, rfl, h1, h2, h3, h4⟩ := hv
    exact ⟨q, _, dx, _, _, rfl, e2.t _ _ h1, T.cBook, T.aBook _ (by decide +kernel), bookF_stands _ _ _, k _ I2 H2 e2 h4⟩)

/-! ### built-ins -/
theorem ex_b {id : String} {r : List V → Hp → VK → Prop} (T : Txt X.K X.mg) (hc : CallR X (.builtin id) r) (hv : bootBuiltins x = some (.builtin id)) (ha : AX X (e :: es) S M ss)
    (hr : ∀ vs I H (Q : VK), Same I H → ShA X.K I vs ss → (∀ v I2 H2, Ext I H I2 H2 → sh.ok X.K I2 v → Q v H2) → r vs H Q) (hx : x ∈ freeNames := by decide +kernel) (hg : Gl X x := by rfl) (hn : x ≠ "__name__" := by decide) (hdb : (x == ("__debug__" : Str)) = false := by decide)
    (he : starEach (e :: es) X.env = (false, eval e X.env) :: starEach es X.env := by rfl) (hpl : (backTo pos (starEach es X.env)).any (·.1) = false := by rfl) : EX X (.Call (.Name x p) (e :: es) [] pos) S M sh := fun I H σ t l m Q k =>
  ej_of (pe_callB hc hg (T.free x hx) hv pa_aj hn hdb he hpl) (ha I H σ t l m _ fun vs I2 H2 e2 hvs => hr vs I2 H2 Q e2.t hvs fun v I3 H3 e3 hv => k v I3 H3 (e2.trans e3) hv)
theorem ex_t {ty : String} {r : List V → Hp → VK → Prop} (T : Txt X.K X.mg) (hc : CallR X (.type ty) r) (hv : bootBuiltins x = some (.type ty)) (ha : AX X (e :: es) S M ss)
    (hr : ∀ vs I H (Q : VK), Same I H → ShA X.K I vs ss → (∀ v I2 H2, Ext I H I2 H2 → sh.ok X.K I2 v → Q v H2) → r vs H Q) (hx : x ∈ freeNames := by decide +kernel) (hg : Gl X x := by rfl) (hn : x ≠ "__name__" := by decide) (hdb : (x == ("__debug__" : Str)) = false := by decide)
    (he : starEach (e :: es) X.env = (false, eval e X.env) :: starEach es X.env := by rfl) (hpl : (backTo pos (starEach es X.env)).any (·.1) = false := by rfl) : EX X (.Call (.Name x p) (e :: es) [] pos) S M sh := fun I H σ t l m Q k =>
  ej_of (pe_callTy hc hg (T.free x hx) hv pa_aj hn hdb he hpl) (ha I H σ t l m _ fun vs I2 H2 e2 hvs => hr vs I2 H2 Q e2.t hvs fun v I3 H3 e3 hv => k v I3 H3 (e2.trans e3) hv)
theorem shA1 {K : PySem.W.Frag} {I : Hp} {vs : List V} {s : Sh} (h : ShA K I vs [s]) : ∃ v, vs = [v] ∧ s.ok K I v := by
  match vs, h with
  | [v], h => exact ⟨v, rfl, h.1⟩
theorem shA2 {K : PySem.W.Frag} {I : Hp} {vs : List V} {s s' : Sh} (h : ShA K I vs [s, s']) : ∃ v w, vs = [v, w] ∧ s.ok K I v ∧ s'.ok K I w := by
  match vs, h with
  | [v, w], h => exact ⟨v, w, rfl, h.1, h.2.1⟩
end
end HW
/-! Built-ins and the text's own functions. -/
namespace HW
open PySem PySem.Spec L2
section
variable {X : Cx} {S : Sls} {M : Mp} {a b c e o : Expr} {es : List Expr} {sh s1 s2 : Sh} {ss : List Sh} {pos p apos : Pos} {x : Str}
theorem boot_min' : bootBuiltins "min" = some (.builtin "min") := by decide +kernel
theorem boot_all' : bootBuiltins "all" = some (.builtin "all") := by decide +kernel
theorem boot_any' : bootBuiltins "any" = some (.builtin "any") := by decide +kernel
theorem boot_sum' : bootBuiltins "sum" = some (.builtin "sum") := by decide +kernel
theorem boot_int' : bootBuiltins "int" = some (.type "int") := by decide +kernel
theorem boot_bool' : bootBuiltins "bool" = some (.type "bool") := by decide +kernel
theorem boot_str' : bootBuiltins "str" = some (.type "str") := by decide +kernel
theorem boot_list' : bootBuiltins "list" = some (.type "list") := by decide +kernel
theorem boot_tuple' : bootBuiltins "tuple" = some (.type "tuple") := by decide +kernel
theorem boot_dict' : bootBuiltins "dict" = some (.type "dict") := by decide +kernel
theorem boot_sorted' : bootBuiltins "sorted" = some (.builtin "sorted") := by decide +kernel
theorem boot_isinstance' : bootBuiltins "isinstance" = some (.builtin "isinstance") := by decide +kernel
/-! ### len -/
theorem ex_lenL (T : Txt X.K X.mg) {ds : List PyData} (ha : EX X a S M (.d (.list ds))) (hg : Gl X "len" := by rfl) (he : starEach (a :: []) X.env = (false, eval a X.env) :: starEach [] X.env := by rfl) (hpl : (backTo pos (starEach [] X.env)).any (·.1) = false := by rfl) :
    EX X (.Call (.Name "len" p) [a] [] pos) S M (.d (nD ds.length)) :=
  ex_b T call_len_seq boot_len (ax_cons ha ax_nil he) (fun vs I H Q t hv k => by
    obtain ⟨v, rfl, h1⟩ := shA1 hv
    obtain ⟨q, xs, rfl, h2, h3⟩ := dp_lst h1
    exact ⟨q, xs, rfl, .inl (sqL_mono t h2), by rw [dpAll_length h3]; exact k _ I H (Ext.refl t) (.int _)⟩) (hg := hg) (he := he) (hpl := hpl)
theorem ex_lenT (T : Txt X.K X.mg) {ds : List PyData} (ha : EX X a S M (.d (.tuple ds))) (hg : Gl X "len" := by rfl) (he : starEach (a :: []) X.env = (false, eval a X.env) :: starEach [] X.env := by rfl) (hpl : (backTo pos (starEach [] X.env)).any (·.1) = false := by rfl) :
    EX X (.Call (.Name "len" p) [a] [] pos) S M (.d (nD ds.length)) :=
  ex_b T call_len_seq boot_len (ax_cons ha ax_nil he) (fun vs I H Q t hv k => by
    obtain ⟨v, rfl, h1⟩ := shA1 hv
    obtain ⟨q, xs, rfl, h2, h3⟩ := dp_tup h1
    exact ⟨q, xs, rfl, .inr (sqT_mono t h2), by rw [dpAll_length h3]; exact k _ I H (Ext.refl t) (.int _)⟩) (hg := hg) (he := he) (hpl := hpl)
/-! ### list, tuple, min, int, sum, sorted, all, any -/
/-- a tuple or a list of data -/
def seqD : PyData → Option (List PyData)
  | .list ds => some ds
  | .tuple ds => some ds
  | _ => none
theorem seq_of {K : PySem.W.Frag} {I : Hp} {v : V} {d : PyData} {ds : List PyData} (h : Dp K I v d) (e : seqD d = some ds) : ∃ q xs, v = .ref q ∧ (SqL K I q xs ∨ SqT K I q xs) ∧ DpAll K I xs ds := by
  cases d with
  | list xs => cases e; obtain ⟨q, ys, r, h1, h2⟩ := dp_lst h; exact ⟨q, ys, r, .inl h1, h2⟩
  | tuple xs => cases e; obtain ⟨q, ys, r, h1, h2⟩ := dp_tup h; exact ⟨q, ys, r, .inr h1, h2⟩
  | _ => cases e
theorem sq_mono {K : PySem.W.Frag} {I H : Hp} {q : Addr} {xs : List V} (t : Same I H) (h : SqL K I q xs ∨ SqT K I q xs) : SqL K H q xs ∨ SqT K H q xs := h.imp (sqL_mono t) (sqT_mono t)
theorem ex_listOf (T : Txt X.K X.mg) {d : PyData} {ds : List PyData} (hd : seqD d = some ds) (ha : EX X a S M (.d d)) (hg : Gl X "list" := by rfl) (he : starEach (a :: []) X.env = (false, eval a X.env) :: starEach [] X.env := by rfl) (hpl : (backTo pos (starEach [] X.env)).any (·.1) = false := by rfl) :
    EX X (.Call (.Name "list" p) [a] [] pos) S M (.nl ds) :=
  ex_t T call_list_of boot_list' (ax_cons ha ax_nil he) (fun vs I H Q t hv k => by
    obtain ⟨v, rfl, h1⟩ := shA1 hv
    obtain ⟨q, xs, rfl, h2, h3⟩ := seq_of h1 hd
    exact ⟨q, xs, rfl, sq_mono t h2, fun w hw => k _ _ _ (Ext.new t hw _) ⟨w, _, rfl, upd_same, dpAll_mono (same_new (t.free hw) _) _ _ h3⟩⟩) (hg := hg) (he := he) (hpl := hpl)
theorem ex_tupOf (T : Txt X.K X.mg) {d : PyData} {ds : List PyData} (hd : seqD d = some ds) (ha : EX X a S M (.d d)) (hg : Gl X "tuple" := by rfl) (he : starEach (a :: []) X.env = (false, eval a X.env) :: starEach [] X.env := by rfl) (hpl : (backTo pos (starEach [] X.env)).any (·.1) = false := by rfl) :
    EX X (.Call (.Name "tuple" p) [a] [] pos) S M (.d (.tuple ds)) :=
  ex_t T call_tuple_of boot_tuple' (ax_cons ha ax_nil he) (fun vs I H Q t hv k => by
    obtain ⟨v, rfl, h1⟩ := shA1 hv
    obtain ⟨q, xs, rfl, h2, h3⟩ := seq_of h1 hd
    rcases h2 with h2 | h2
    · exact ⟨q, xs, rfl, .inl ⟨sqL_mono t h2, fun w hw => k _ _ _ (Ext.new t hw _) (.tup (SqT.of upd_same) (dpAll_mono (same_new (t.free hw) _) _ _ h3))⟩⟩
    · exact ⟨q, xs, rfl, .inr ⟨sqT_mono t h2, k _ I H (Ext.refl t) (.tup h2 h3)⟩⟩) (hg := hg) (he := he) (hpl := hpl)
/-- tuple(xs), xs a list that is still changed -/
theorem ex_tupOfM (T : Txt X.K X.mg) {q : Addr} {ds : List PyData} (hM : M q = some (.lst (ds.map Sh.d))) (ha : EX X a S M (.v (.ref q))) (hg : Gl X "tuple" := by rfl) (he : starEach (a :: []) X.env = (false, eval a X.env) :: starEach [] X.env := by rfl) (hpl : (backTo pos (starEach [] X.env)).any (·.1) = false := by rfl) :
    EX X (.Call (.Name "tuple" p) [a] [] pos) S M (.d (.tuple ds)) := fun I H σ t l m Q k =>
  ej_of (pe_callTy call_tuple_of hg (T.free _ (by decide +kernel)) boot_tuple' (pa_cons pe_ej pa_nil he) (he := he) (hpl := hpl)) (ha I H σ t l m _ fun v I2 H2 e2 hv => by
    obtain ⟨_, xs, h1, h2⟩ := m.ext e2 q _ hM
    exact ⟨q, xs, by rw [show v = .ref q from hv], .inl ⟨SqL.of h1, fun w hw => k _ _ _ (e2.trans (Ext.new e2.t hw _)) (.tup (SqT.of upd_same) (dpAll_mono (same_new (e2.t.free hw) _) _ _ h2.dat))⟩⟩)
theorem ex_min (T : Txt X.K X.mg) {i j : Int} (hc : X.calm = true) (ha : EX X a S M (.d (.int i))) (hb : EX X b S M (.d (.int j))) (hg : Gl X "min" := by rfl) (he : starEach (a :: [b]) X.env = (false, eval a X.env) :: starEach [b] X.env := by rfl) (he2 : starEach (b :: []) X.env = (false, eval b X.env) :: starEach [] X.env := by rfl)
    (hpl : (backTo pos (starEach [b] X.env)).any (·.1) = false := by rfl) : EX X (.Call (.Name "min" p) [a, b] [] pos) S M (.d (.int (if j < i then j else i))) :=
  ex_b T (call_min2 hc) boot_min' (ax_cons ha (ax_cons hb ax_nil he2) he) (fun vs I H Q t hv k => by
    obtain ⟨v, w, rfl, h1, h2⟩ := shA2 hv
    exact ⟨i, j, by rw [dp_int h1, dp_int h2], k _ I H (Ext.refl t) (.int _)⟩) (hg := hg) (he := he) (hpl := hpl)
theorem ex_intOf (T : Txt X.K X.mg) {i : Int} (ha : EX X a S M (.d (.int i))) (hg : Gl X "int" := by rfl) (he : starEach (a :: []) X.env = (false, eval a X.env) :: starEach [] X.env := by rfl) (hpl : (backTo pos (starEach [] X.env)).any (·.1) = false := by rfl) :
    EX X (.Call (.Name "int" p) [a] [] pos) S M (.d (.int i)) :=
  ex_t T call_int1 boot_int' (ax_cons ha ax_nil he) (fun vs I H Q t hv k => by
    obtain ⟨v, rfl, h1⟩ := shA1 hv
    exact .inl ⟨i, by rw [dp_int h1], k _ I H (Ext.refl t) (.int _)⟩) (hg := hg) (he := he) (hpl := hpl)
theorem ex_sum (T : Txt X.K X.mg) {ns : List Int} (hc : X.calm = true) (ha : EX X a S M (.d (.list (ns.map PyData.int)))) (hg : Gl X "sum" := by rfl) (he : starEach (a :: []) X.env = (false, eval a X.env) :: starEach [] X.env := by rfl) (hpl : (backTo pos (starEach [] X.env)).any (·.1) = false := by rfl) :
    EX X (.Call (.Name "sum" p) [a] [] pos) S M (.d (.int ns.sum)) :=
  ex_b T (cr_sum hc) boot_sum' (ax_cons ha ax_nil he) (fun vs I H Q t hv k => by
    obtain ⟨v, rfl, h1⟩ := shA1 hv
    obtain ⟨q, xs, rfl, h2, h3⟩ := dp_lst h1
    rw [dpAll_ints h3] at h2
    exact ⟨q, ns, rfl, sqL_mono t h2, k _ I H (Ext.refl t) (.int _)⟩) (hg := hg) (he := he) (hpl := hpl)
theorem ex_all (T : Txt X.K X.mg) {bs : List Bool} (hc : X.calm = true) (ha : EX X a S M (.d (.list (bs.map PyData.bool)))) (hg : Gl X "all" := by rfl) (he : starEach (a :: []) X.env = (false, eval a X.env) :: starEach [] X.env := by rfl) (hpl : (backTo pos (starEach [] X.env)).any (·.1) = false := by rfl) :
    EX X (.Call (.Name "all" p) [a] [] pos) S M (.d (.bool (bs.all id))) :=
  ex_b T (cr_all hc) boot_all' (ax_cons ha ax_nil he) (fun vs I H Q t hv k => by
    obtain ⟨v, rfl, h1⟩ := shA1 hv
    obtain ⟨q, xs, rfl, h2, h3⟩ := dp_lst h1
    rw [dpAll_bools h3] at h2
    exact ⟨q, bs, rfl, sqL_mono t h2, k _ I H (Ext.refl t) (.bl _)⟩) (hg := hg) (he := he) (hpl := hpl)
theorem ex_any (T : Txt X.K X.mg) {bs : List Bool} (hc : X.calm = true) (ha : EX X a S M (.d (.list (bs.map PyData.bool)))) (hg : Gl X "any" := by rfl) (he : starEach (a :: []) X.env = (false, eval a X.env) :: starEach [] X.env := by rfl) (hpl : (backTo pos (starEach [] X.env)).any (·.1) = false := by rfl) :
    EX X (.Call (.Name "any" p) [a] [] pos) S M (.d (.bool (bs.any id))) :=
  ex_b T (cr_any hc) boot_any' (ax_cons ha ax_nil he) (fun vs I H Q t hv k => by
    obtain ⟨v, rfl, h1⟩ := shA1 hv
    obtain ⟨q, xs, rfl, h2, h3⟩ := dp_lst h1
    rw [dpAll_bools h3] at h2
    exact ⟨q, bs, rfl, sqL_mono t h2, k _ I H (Ext.refl t) (.bl _)⟩) (hg := hg) (he := he) (hpl := hpl)
/-- sorted(xs): the one sorted arrangement -/
theorem ex_sorted (T : Txt X.K X.mg) {ns ms : List Int} (hz : ns.length < 64) (hp : List.Perm ms ns) (hs : List.Pairwise (fun x y => x ≤ y) ms) (ha : EX X a S M (.d (.list (ns.map PyData.int)))) (hg : Gl X "sorted" := by rfl)
    (he : starEach (a :: []) X.env = (false, eval a X.env) :: starEach [] X.env := by rfl) (hpl : (backTo pos (starEach [] X.env)).any (·.1) = false := by rfl) : EX X (.Call (.Name "sorted" p) [a] [] pos) S M (.nl (ms.map PyData.int)) :=
  ex_b T cr_sorted boot_sorted' (ax_cons ha ax_nil he) (fun vs I H Q t hv k => by
    obtain ⟨v, rfl, h1⟩ := shA1 hv
    obtain ⟨q, xs, rfl, h2, h3⟩ := dp_lst h1
    rw [dpAll_ints h3] at h2
    refine ⟨q, ns, rfl, sqL_mono t h2, hz, fun ns' w pm up hw => ?_⟩
    have e : ns' = ms := PySem.W.ksm_same (pm.trans hp.symm) up hs
    rw [e]
    exact k _ _ _ (Ext.new t hw _) ⟨w, _, rfl, upd_same, dpAll_of_ints ms⟩) (hg := hg) (he := he) (hpl := hpl)
/-- the same of a list that is still changed -/
theorem ex_sortedM (T : Txt X.K X.mg) {q : Addr} {ns ms : List Int} (hM : M q = some (.lst ((ns.map PyData.int).map Sh.d))) (hz : ns.length < 64) (hp : List.Perm ms ns) (hs : List.Pairwise (fun x y => x ≤ y) ms) (ha : EX X a S M (.v (.ref q))) (hg : Gl X "sorted" := by rfl)
    (he : starEach (a :: []) X.env = (false, eval a X.env) :: starEach [] X.env := by rfl) (hpl : (backTo pos (starEach [] X.env)).any (·.1) = false := by rfl) : EX X (.Call (.Name "sorted" p) [a] [] pos) S M (.nl (ms.map PyData.int)) := fun I H σ t l m Q k =>
  ej_of (pe_callB cr_sorted hg (T.free _ (by decide +kernel)) boot_sorted' (pa_cons pe_ej pa_nil he) (he := he) (hpl := hpl)) (ha I H σ t l m _ fun v I2 H2 e2 hv => by
    obtain ⟨_, xs, h1, h2⟩ := m.ext e2 q _ hM
    have h3 := dpAll_ints h2.dat
    rw [h3] at h1
    refine ⟨q, ns, by rw [show v = .ref q from hv], SqL.of h1, hz, fun ns' w pm up hw => ?_⟩
    have e : ns' = ms := PySem.W.ksm_same (pm.trans hp.symm) up hs
    rw [e]
    exact k _ _ _ (e2.trans (Ext.new e2.t hw _)) ⟨w, _, rfl, upd_same, dpAll_of_ints ms⟩)

/-! ### isinstance -/
def tyD : PyData → String
  | .none => "NoneType"
  | .bool _ => "bool"
  | .int _ => "int"
  | .str _ => "str"
  | .list _ => "list"
  | .tuple _ => "tuple"
  | .dict _ => "dict"
theorem tyx_of {K : PySem.W.Frag} {I : Hp} {v : V} {d : PyData} (h : Dp K I v d) : TyX K I v (.type (tyD d)) := by
  cases h with
  | non => exact .base .non
  | bl b => exact .base (.bl b)
  | int i => exact .base (.int i)
  | str x => exact .base (.str x)
  | lst hs _ =>
    rcases hs with (hs | ⟨o, hs⟩) | ⟨o, its, n, hk, hc, _⟩
    · exact .base (.lst hs)
    · exact .base (.frz hs)
    · exact .kList hk hc
  | tup hs _ =>
    rcases hs with (hs | ⟨o, hs⟩) | ⟨o, its, n, hk, hc, _⟩
    · exact .base (.tup hs)
    · exact .fTuple hs
    · exact .kTuple hk hc
theorem tyx_mono {K : PySem.W.Frag} {I H : Hp} {v : V} {d : PyData} (t : Same I H) (h : Dp K I v d) : TyX K H v (.type (tyD d)) := tyx_of (dp_mono t _ _ h)
/-- a built-in type's name -/
theorem ex_tyN (T : Txt X.K X.mg) {ty : String} (hv : bootBuiltins x = some (.type ty)) (hx : x ∈ freeNames := by decide +kernel) (hg : Gl X x := by rfl) (hn : x ≠ "__name__" := by decide) (hd : (x == ("__debug__" : Str)) = false := by decide) : EX X (.Name x p) S M (.v (.ty ty)) := fun I H σ t _ _ Q k =>
  ej_of (pe_bltn hg (T.free x hx) hv (v := .ty ty) rfl hn hd) (k _ I H (Ext.refl t) rfl)
theorem ex_isi (T : Txt X.K X.mg) {d : PyData} {ty : String} {k : Bool} (hk : kitB (tyD d) ty = some k) (ha : EX X a S M (.d d)) (hb : EX X b S M (.v (.ty ty))) (hg : Gl X "isinstance" := by rfl)
    (he : starEach (a :: [b]) X.env = (false, eval a X.env) :: starEach [b] X.env := by rfl) (he2 : starEach (b :: []) X.env = (false, eval b X.env) :: starEach [] X.env := by rfl) (hpl : (backTo pos (starEach [b] X.env)).any (·.1) = false := by rfl) :
    EX X (.Call (.Name "isinstance" p) [a, b] [] pos) S M (.d (.bool k)) :=
  ex_b T call_isi boot_isinstance' (ax_cons ha (ax_cons hb ax_nil he2) he) (fun vs I H Q t hv q => by
    obtain ⟨v, w, rfl, h1, h2⟩ := shA2 hv
    cases (show w = .ty ty from h2)
    exact ⟨v, _, _, _, k, rfl, .ty ty, tyx_mono t h1, kit_ty hk, q _ I H (Ext.refl t) (.bl _)⟩) (hg := hg) (he := he) (hpl := hpl)
/-- isinstance(x, (T1, T2)) -/
theorem ex_isi2 (T : Txt X.K X.mg) {d : PyData} {t1 t2 : String} {k1 k2 : Bool} (hk1 : kitB (tyD d) t1 = some k1) (hk2 : kitB (tyD d) t2 = some k2) {e1 e2 : Expr} {xx} {ep : Pos} (ha : EX X a S M (.d d)) (h1 : EX X e1 S M (.v (.ty t1))) (h2 : EX X e2 S M (.v (.ty t2))) (hg : Gl X "isinstance" := by rfl)
    (hq : starEach (e1 :: [e2]) X.env = (false, eval e1 X.env) :: starEach [e2] X.env := by rfl) (hq2 : starEach (e2 :: []) X.env = (false, eval e2 X.env) :: starEach [] X.env := by rfl)
    (he : starEach (a :: [.Tuple [e1, e2] xx ep]) X.env = (false, eval a X.env) :: starEach [.Tuple [e1, e2] xx ep] X.env := by rfl) (he2 : starEach (.Tuple [e1, e2] xx ep :: []) X.env = (false, eval (.Tuple [e1, e2] xx ep) X.env) :: starEach [] X.env := by rfl)
    (hpl : (backTo pos (starEach [.Tuple [e1, e2] xx ep] X.env)).any (·.1) = false := by rfl) : EX X (.Call (.Name "isinstance" p) [a, .Tuple [e1, e2] xx ep] [] pos) S M (.d (.bool (k1 || k2))) := by
  have ht : EX X (.Tuple [e1, e2] xx ep) S M (.tp [.ty t1, .ty t2]) := fun I H σ t l m Q k =>
    ej_of (pe_tup pa_aj) ((ax_cons h1 (ax_cons h2 ax_nil hq2) hq) I H σ t l m _ fun vs I2 H2 e2 hv => by
      obtain ⟨v, w, rfl, g1, g2⟩ := shA2 hv
      cases (show v = .ty t1 from g1)
      cases (show w = .ty t2 from g2)
      refine ⟨(by show 2 ≤ sizeLine; decide), fun q hq => ?_⟩
      exact k _ _ _ (e2.trans (Ext.new e2.t hq _)) ⟨q, rfl, upd_same⟩)
  refine ex_b T call_isiT boot_isinstance' (ax_cons ha (ax_cons ht ax_nil he2) he) (fun vs I H Q t hv q => ?_) (hg := hg) (he := he) (hpl := hpl)
  obtain ⟨v, w, rfl, g1, z, rfl, g2⟩ := shA2 hv
  refine ⟨v, z, _, _, [.type t1, .type t2], k1 || k2, rfl, t _ _ g2, .cons (.ty t1) (.cons (.ty t2) .nil), tyx_mono t g1, ?_, q _ I H (Ext.refl t) (.bl _)⟩
  refine kitAny_cons (kit_ty hk1) (fun e => ?_) fun e => by rw [e]; rfl
  rw [e, Bool.false_or]
  exact kitAny_cons (kit_ty hk2) (fun e => by rw [e]; exact kitAny_nil) fun e => e
/-- isinstance(net, Net) -/
theorem ex_isNet (T : Txt X.K X.mg) {n : NetP} (ha : EX X a S M (.net n)) (hg : Gl X "isinstance" := by rfl) (hg2 : Gl X "Net" := by rfl) {p2 : Pos}
    (he : starEach (a :: [.Name "Net" p2]) X.env = (false, eval a X.env) :: starEach [.Name "Net" p2] X.env := by rfl) (he2 : starEach (.Name "Net" p2 :: []) X.env = (false, eval (.Name "Net" p2) X.env) :: starEach [] X.env := by rfl)
    (hpl : (backTo pos (starEach [.Name "Net" p2] X.env)).any (·.1) = false := by rfl) : EX X (.Call (.Name "isinstance" p) [a, .Name "Net" p2] [] pos) S M (.d (.bool true)) := by
  refine ex_b T call_isi boot_isinstance' (ax_cons ha (ax_cons (ex_glob (sh := .v (.ref (He.ga X.K "Net"))) hg2 T.gNet (v := .ref (He.ga X.K "Net")) rfl (fun _ => rfl)) ax_nil he2) he) (fun vs I H Q t hv q => ?_) (hg := hg) (he := he) (hpl := hpl)
  obtain ⟨v, w, rfl, ⟨z, dx, vt, vw, rfl, h1, h2, h3⟩, g2⟩ := shA2 hv
  cases (show w = .ref (He.ga X.K "Net") from g2)
  refine ⟨_, _, _, _, true, rfl, .own _, .base (.ins (t _ _ h1) T.cNet T.iNet.ha T.iNet.hn T.iNet.htk T.iNet.hm), ?_, q _ I H (Ext.refl t) (.bl _)⟩
  unfold PySem.W.kitOne
  rw [if_pos (beq_self_eq_true _)]

/-! ### the text's own functions -/
/-- a function that changes nothing: from such arguments to such a value -/
def spP (K : PySem.W.Frag) (C : List Sh → Sh → Prop) : Sp := fun vs H Q _ => ∃ I ss sh, C ss sh ∧ Same I H ∧ ShA K I vs ss ∧ ∀ v I2 H2, Ext I H I2 H2 → sh.ok K I2 v → Q v H2
/-- a def of the module -/
structure FnP (P : Program) (w : World) (K : PySem.W.Frag) (mg : Str → Option Value) (base : Heap) (x : Str) (k : Nat) (sp : Sp) : Prop where
  ex : ∃ (f : Addr) (fd : FuncData) (ps : List Str), mg x = some (.ref f) ∧ PySem.W.keepIn K (.ref f) = true ∧ Binds K fd ps [] ∧ FnOk P w K mg base CX0 k f fd ps sp
/-- a method of a class -/
structure MtP (P : Program) (w : World) (K : PySem.W.Frag) (mg : Str → Option Value) (base : Heap) (C m : Str) (k : Nat) (sp : Sp) : Prop where
  ex : ∃ (f : Addr) (fd : FuncData) (ps : List Str), Meth K (He.ga K C) m f ∧ Binds K fd ps [] ∧ FnOk P w K mg base CX0 k f fd ps sp
theorem ex_call {k j : Nat} {C : List Sh → Sh → Prop} (F : FnP X.prog X.w X.K X.mg X.base x j (spP X.K C)) (hr : Room k X.A) (hC : C ss sh) (ha : AX X (e :: es) S M ss) (hj : j ≤ k := by decide) (hg : Gl X x := by rfl)
    (hdb : (x == ("__debug__" : Str)) = false := by decide) (he : starEach (e :: es) X.env = (false, eval e X.env) :: starEach es X.env := by rfl) (hpl : (backTo pos (starEach es X.env)).any (·.1) = false := by rfl) : EX X (.Call (.Name x p) (e :: es) [] pos) S M sh := fun I H σ t l m Q q => by
  obtain ⟨f, fd, ps, h1, h2, h3, h4⟩ := F.ex
  exact ej_of (pe_call h4 (hr.mono hj) hg h1 h2 h3 .nil pass0 pa_aj hdb he hpl) (ha I H σ t l m _ fun vs I2 H2 e2 hvs => by
    rw [List.append_nil]
    exact ⟨I2, ss, sh, hC, e2.t, hvs, fun v I3 H3 e3 hv => q v I3 H3 (e2.trans e3) hv⟩)
/-- a receiver: an instance of the class C whose attributes bear not the name m -/
def Recv (K : PySem.W.Frag) (C m : Str) (sh : Sh) : Prop := ∀ I v, sh.ok K I v → ∃ z dx fs, v = .ref z ∧ I z = some (.ins (He.ga K C) dx fs) ∧ fs.lookup m = none
theorem recv_book {K : PySem.W.Frag} {m : Str} {n : NetP} {y z : PyData} (h : ((m == ("net" : Str)) || ((m == ("entries" : Str)) || (m == ("stands" : Str)))) = false := by decide +kernel) : Recv K "Book" m (.book n y z) := fun I v hv => by
  obtain ⟨q, dx, vn, ve, vs, rfl, h1, _⟩ := hv
  exact ⟨q, dx, _, rfl, h1, bookF_no _ _ _ h⟩
theorem recv_bk {K : PySem.W.Frag} {m : Str} {n : NetP} {y z : Addr} (h : ((m == ("net" : Str)) || ((m == ("entries" : Str)) || (m == ("stands" : Str)))) = false := by decide +kernel) : Recv K "Book" m (.bk n y z) := fun I v hv => by
  obtain ⟨q, dx, vn, rfl, h1, _⟩ := hv
  exact ⟨q, dx, _, rfl, h1, bookF_no _ _ _ h⟩
theorem recv_net {K : PySem.W.Frag} {m : Str} {n : NetP} (h : netNames.any (fun z => m == z) = false := by decide +kernel) : Recv K "Net" m (.net n) := fun I v hv => by
  obtain ⟨q, dx, vt, vw, rfl, h1, _⟩ := hv
  exact ⟨q, dx, _, rfl, h1, netF_no _ _ _ h⟩
theorem ex_meth {k j : Nat} {cl m : Str} {C : List Sh → Sh → Prop} {pl : Sem Bool} (F : MtP X.prog X.w X.K X.mg X.base cl m j (spP X.K C)) (hcl : Cls X.K (He.ga X.K cl)) (rc : Recv X.K cl m s1) (hr : Room k X.A) (hC : C (s1 :: ss) sh) (ho : EX X o S M s1) (ha : AX X (e :: es) S M ss) (hj : j ≤ k := by decide)
    (hst : starEach (e :: es) X.env = (false, eval e X.env) :: starEach es X.env := by rfl) (hpl : (backTo pos (starEach es X.env)).any (·.1) = false := by rfl)
    (ht : eval (.Call (.Attribute o m apos) (e :: es) [] pos) X.env = (do
      let ov ← eval o X.env
      standAt apos.atName
      let (f, first) ← holding [ov] (getMethod ov m pl)
      callWith pos f first (backTo pos (starEach (e :: es) X.env)) (backToKw pos (keywordEach [] X.env))) := by rfl) : EX X (.Call (.Attribute o m apos) (e :: es) [] pos) S M sh := fun I H σ t l mm Q q => by
  obtain ⟨f, fd, ps, h1, h3, h4⟩ := F.ex
  exact ej_of (pe_meth pe_ej hcl h1 h4 (hr.mono hj) h3 .nil pass0 pa_aj hst hpl ht) (ho I H σ t l mm _ fun v I2 H2 e2 hv => by
    obtain ⟨z, dx, fs, rfl, g1, g2⟩ := rc I2 v hv
    refine ⟨z, dx, fs, rfl, e2.t _ _ g1, g2, ha I2 H2 σ e2.t (l.mono e2.i) (mm.ext e2) _ fun vs I3 H3 e3 hvs => ?_⟩
    rw [List.append_nil]
    exact ⟨I3, s1 :: ss, sh, hC, e3.t, ⟨Sh.mono e3.i hv, hvs⟩, fun v I4 H4 e4 hv => q v I4 H4 ((e2.trans e3).trans e4) hv⟩)
theorem ex_meth0 {k j : Nat} {cl m : Str} {C : List Sh → Sh → Prop} {pl : Sem Bool} (F : MtP X.prog X.w X.K X.mg X.base cl m j (spP X.K C)) (hcl : Cls X.K (He.ga X.K cl)) (rc : Recv X.K cl m s1) (hr : Room k X.A) (hC : C [s1] sh) (ho : EX X o S M s1) (hj : j ≤ k := by decide)
    (ht : eval (.Call (.Attribute o m apos) [] [] pos) X.env = (do
      let ov ← eval o X.env
      standAt apos.atName
      let (f, first) ← holding [ov] (getMethod ov m pl)
      callWith pos f first (backTo pos (starEach [] X.env)) (backToKw pos (keywordEach [] X.env))) := by rfl) : EX X (.Call (.Attribute o m apos) [] [] pos) S M sh := fun I H σ t l mm Q q => by
  obtain ⟨f, fd, ps, h1, h3, h4⟩ := F.ex
  exact ej_of (pe_meth0 pe_ej hcl h1 h4 (hr.mono hj) h3 .nil pass0 ht) (ho I H σ t l mm _ fun v I2 H2 e2 hv => by
    obtain ⟨z, dx, fs, rfl, g1, g2⟩ := rc I2 v hv
    exact ⟨z, dx, fs, rfl, e2.t _ _ g1, g2, I2, [s1], sh, hC, e2.t, ⟨hv, trivial⟩, fun v I4 H4 e4 hv => q v I4 H4 (e2.trans e4) hv⟩)
theorem all_map {α : Type} (xs : List α) (p : α → Bool) : (xs.map p).all id = xs.all p := by rw [List.all_map]; rfl
theorem any_map' {α : Type} (xs : List α) (p : α → Bool) : (xs.map p).any id = xs.any p := by rw [List.any_map]; rfl
/-- all(..), any(..) of a comprehension's list -/
theorem ex_allB (T : Txt X.K X.mg) {α : Type} {xs : List α} {p' : α → Bool} (hc : X.calm = true) (ha : EX X a S M (.nl (xs.map fun z => PyData.bool (p' z)))) (hg : Gl X "all" := by rfl) (he : starEach (a :: []) X.env = (false, eval a X.env) :: starEach [] X.env := by rfl) (hpl : (backTo pos (starEach [] X.env)).any (·.1) = false := by rfl) :
    EX X (.Call (.Name "all" p) [a] [] pos) S M (.d (.bool (xs.all p'))) :=
  EX.to (ex_all T (bs := xs.map p') hc (EX.to (ex_d ha) (by rw [List.map_map]; rfl)) hg he hpl) (by rw [all_map])
theorem ex_anyB (T : Txt X.K X.mg) {α : Type} {xs : List α} {p' : α → Bool} (hc : X.calm = true) (ha : EX X a S M (.nl (xs.map fun z => PyData.bool (p' z)))) (hg : Gl X "any" := by rfl) (he : starEach (a :: []) X.env = (false, eval a X.env) :: starEach [] X.env := by rfl) (hpl : (backTo pos (starEach [] X.env)).any (·.1) = false := by rfl) :
    EX X (.Call (.Name "any" p) [a] [] pos) S M (.d (.bool (xs.any p'))) :=
  EX.to (ex_any T (bs := xs.map p') hc (EX.to (ex_d ha) (by rw [List.map_map]; rfl)) hg he hpl) (by rw [any_map'])
end
end HW
/-! What is walked, comprehensions, statements. -/
namespace HW
open PySem PySem.Spec L2

/-! ### what is walked -/
/-- J walks the data ds while I0 stands -/
structure Wk (K : PySem.W.Frag) (J : It) (I0 : Hp) (ds : List PyData) : Prop where
  stop : ∀ i I H, Same I0 I → Same I H → ds.length = i → J.stop i H
  go : ∀ i I H, Same I0 I → Same I H → i < ds.length → J.go i H
  yld : ∀ i d I H x H', Same I0 I → Same I H → ds[i]? = some d → J.yld i H x H' → ∃ I', Ext I H I' H' ∧ Dp K I' x d
def IX (X : Cx) (tg iter : Expr) (S : Sls) (M : Mp) (ds : List PyData) : Prop := ∃ wi, PI X tg iter wi ∧
  ∀ (I H : Hp) (σ : L2.St), Same I H → Sl X.K I σ S → MOk X.K I H M → ∀ R : It → Hp → Prop, (∀ J I2 H2, Ext I H I2 H2 → Wk X.K J I2 ds → R J H2) → wi σ H R
theorem wk_list {K : PySem.W.Frag} {I : Hp} {a : Addr} {xs : List V} {ds : List PyData} (h : SqL K I a xs) (hd : DpAll K I xs ds) (uq : ∀ {H : Hp} {ys zs : List V}, SqL K H a ys → SqL K H a zs → Same I H → True) : Wk K (Itl K a) I ds where
  stop := fun i I' H t1 t2 hi => ⟨xs, sqL_mono (t1.trans t2) h, by rw [dpAll_length hd]; exact Nat.le_of_eq hi⟩
  go := fun i I' H t1 t2 hi => by
    have hl : i < xs.length := by rw [dpAll_length hd]; exact hi
    exact ⟨xs, xs[i], sqL_mono (t1.trans t2) h, by simp [hl]⟩
  yld := fun i d I' H x H' t1 t2 hi y => by
    obtain ⟨e, y⟩ := y
    subst e
    obtain ⟨v, h1, h2⟩ := dpAll_get hd hi
    have q := y xs (sqL_mono (t1.trans t2) h)
    rw [h1] at q
    cases q
    exact ⟨I', Ext.refl t2, dp_mono t1 _ _ h2⟩
theorem wk_tup {K : PySem.W.Frag} {I : Hp} {a : Addr} {xs : List V} {ds : List PyData} (h : SqT K I a xs) (hd : DpAll K I xs ds) : Wk K (Itt K a) I ds where
  stop := fun i I' H t1 t2 hi => ⟨xs, sqT_mono (t1.trans t2) h, by rw [dpAll_length hd]; exact Nat.le_of_eq hi⟩
  go := fun i I' H t1 t2 hi => by
    have hl : i < xs.length := by rw [dpAll_length hd]; exact hi
    exact ⟨xs, xs[i], sqT_mono (t1.trans t2) h, by simp [hl]⟩
  yld := fun i d I' H x H' t1 t2 hi y => by
    obtain ⟨e, y⟩ := y
    subst e
    obtain ⟨v, h1, h2⟩ := dpAll_get hd hi
    have q := y xs (sqT_mono (t1.trans t2) h)
    rw [h1] at q
    cases q
    exact ⟨I', Ext.refl t2, dp_mono t1 _ _ h2⟩
/-- the ints of range(lo, lo + n) -/
def rngD (lo n : Nat) : List PyData := (List.range n).map fun i => nD (lo + i)
theorem rngD_get {lo n i : Nat} {d : PyData} (h : (rngD lo n)[i]? = some d) : i < n ∧ d = nD (lo + i) := by
  unfold rngD at h
  rw [List.getElem?_map] at h
  by_cases hi : i < n
  · rw [List.getElem?_range hi] at h
    cases h
    exact ⟨hi, rfl⟩
  · rw [List.getElem?_eq_none (by simpa using hi)] at h
    cases h
theorem wk_rng {K : PySem.W.Frag} {I : Hp} {lo n : Nat} {l : Int} (hl : l = (lo : Int)) : Wk K (Itr l n) I (rngD lo n) where
  stop := fun i I' H t1 t2 hi => by
    have e : (rngD lo n).length = n := by unfold rngD; simp
    rw [e] at hi
    exact Nat.le_of_eq hi
  go := fun i I' H t1 t2 hi => by
    have e : (rngD lo n).length = n := by unfold rngD; simp
    rw [e] at hi
    exact hi
  yld := fun i d I' H x H' t1 t2 hi y => by
    obtain ⟨e, y⟩ := y
    subst e
    obtain ⟨h1, h2⟩ := rngD_get hi
    subst h2
    rw [y, hl]
    exact ⟨I', Ext.refl t2, by
      have e : (lo : Int) + (i : Int) = ((lo + i : Nat) : Int) := by omega
      rw [e]
      exact .int _⟩
section
variable {X : Cx} {S : Sls} {M : Mp} {a b c e o tg iter : Expr} {es : List Expr} {sh s1 s2 : Sh} {ss : List Sh} {pos p apos : Pos} {x : Str} {ds : List PyData}
theorem ix_lst (h : EX X iter S M (.d (.list ds))) : IX X tg iter S M ds := ⟨_, pi_list pe_ej, fun I H σ t l m R k => h I H σ t l m _ fun v I2 H2 e2 hv => by
  obtain ⟨q, xs, rfl, h1, h2⟩ := dp_lst hv
  exact ⟨q, rfl, ⟨xs, sqL_mono e2.t h1⟩, k _ I2 H2 e2 (wk_list h1 h2 fun _ _ _ => trivial)⟩⟩
theorem ix_tup (h : EX X iter S M (.d (.tuple ds))) : IX X tg iter S M ds := ⟨_, pi_tup pe_ej, fun I H σ t l m R k => h I H σ t l m _ fun v I2 H2 e2 hv => by
  obtain ⟨q, xs, rfl, h1, h2⟩ := dp_tup hv
  exact ⟨q, rfl, ⟨xs, sqT_mono e2.t h1⟩, k _ I2 H2 e2 (wk_tup h1 h2)⟩⟩
theorem ix_rng1 (T : Txt X.K X.mg) {n : Nat} (hn : n ≤ 100000) (ha : EX X a S M (.d (nD n))) (hg : Gl X "range" := by rfl) (hs : starEach [a] X.env = [(false, eval a X.env)] := by rfl) (hs' : starEach (a :: []) X.env = (false, eval a X.env) :: starEach [] X.env := by rfl) :
    IX X tg (.Call (.Name "range" p) [a] [] pos) S M (rngD 0 n) := ⟨_, pi_range1 hg (T.free _ (by decide +kernel)) (pa_cons pe_ej pa_nil hs') hs, fun I H σ t l m R k => ha I H σ t l m _ fun v I2 H2 e2 hv => by
  refine ⟨n, by rw [dp_int hv], by omega, by omega, k _ I2 H2 e2 ?_⟩
  have e : ((n : Nat) : Int).toNat = n := by omega
  rw [e]
  exact wk_rng rfl⟩
theorem ix_rng2 (T : Txt X.K X.mg) {lo n : Nat} (hn : lo + n ≤ 100000) {i j : Int} (hi : i = (lo : Int)) (hj : (j - i).toNat = n) (hj2 : j < 100001) (hj3 : -100001 < j) (ha : EX X a S M (.d (.int i))) (hb : EX X b S M (.d (.int j))) (hg : Gl X "range" := by rfl) (hs : starEach [a, b] X.env = [(false, eval a X.env), (false, eval b X.env)] := by rfl)
    (hs2 : starEach [b] X.env = [(false, eval b X.env)] := by rfl) (hs' : starEach (a :: [b]) X.env = (false, eval a X.env) :: starEach [b] X.env := by rfl) (hs2' : starEach (b :: []) X.env = (false, eval b X.env) :: starEach [] X.env := by rfl) :
    IX X tg (.Call (.Name "range" p) [a, b] [] pos) S M (rngD lo n) := ⟨_, pi_range2 hg (T.free _ (by decide +kernel)) (pa_cons pe_ej (pa_cons pe_ej pa_nil hs2') hs') hs hs2, fun I H σ t l m R k => ha I H σ t l m _ fun v I2 H2 e2 hv => hb I2 H2 σ e2.t (l.mono e2.i) (m.ext e2) _ fun w I3 H3 e3 hw => by
  refine ⟨i, j, by rw [dp_int hv, dp_int hw], ⟨by omega, by omega, by omega, by omega⟩, k _ I3 H3 (e2.trans e3) ?_⟩
  rw [hj]
  exact wk_rng hi⟩
/-- xs if c else ys, walked -/
theorem IX.to {ds' : List PyData} (h : IX X tg iter S M ds) (e : ds = ds') : IX X tg iter S M ds' := e ▸ h

/-! ### targets -/
def GJ (X : Cx) (tg : Expr) : TG := fun v σ H Q => ∀ (pins : List (Addr × Obj)) (s : Shared) (u : Value), Inv X pins σ H s → RelV v u → wpAny (model X.prog X.w) X.A (assign tg X.env u) (fun _ s' => ∃ σ' H', Inv X pins σ' H' s' ∧ Q σ' H') X.xe s
theorem pg_gj : PG X tg (GJ X tg) := ⟨fun pins s σ H v u Q I r h => h pins s u I r⟩
theorem gj_of {g : TG} (h : PG X tg g) {v : V} {σ : L2.St} {H : Hp} {Q : L2.St → Hp → Prop} (q : g v σ H Q) : GJ X tg v σ H Q := fun pins s u I r => h.run pins s σ H v u Q I r q
/-- the target takes the data d; is: the slots that it stores into, f: what is known then -/
def GX (X : Cx) (tg : Expr) (d : PyData) (is : List Nat) (f : Sls → Sls) : Prop :=
  ∀ (I H : Hp) (σ : L2.St) (S : Sls) (v : V), Same I H → Sl X.K I σ S → Dp X.K I v d → ∀ Q : L2.St → Hp → Prop,
    (∀ σ', Sl X.K I σ' (f S) → (∀ vs : List Nat, (∀ i ∈ is, i ∈ vs) → L2.wipe σ' vs = L2.wipe σ vs) → Q σ' H) → GJ X tg v σ H Q
theorem wipe_get (σ : L2.St) (j : Nat) : ∀ vs : List Nat, (L2.wipe σ vs)[j]? = if j ∈ vs then (σ[j]?).map (fun _ => none) else σ[j]?
  | [] => by simp [L2.wipe]
  | v :: vs => by
    unfold L2.wipe
    have ih := wipe_get σ j vs
    by_cases hv : v = j
    · subst hv
      rw [List.getElem?_set]
      simp only [List.mem_cons, true_or, if_true]
      by_cases hl : v < (L2.wipe σ vs).length
      · simp only [hl, if_true]
        have hl' : v < σ.length := by rw [← L2.wipe_length σ vs]; exact hl
        rw [List.getElem?_eq_getElem hl']
        rfl
      · simp only [hl, if_false]
        have hl' : ¬ v < σ.length := by rw [← L2.wipe_length σ vs]; exact hl
        rw [List.getElem?_eq_none (by omega)]
        rfl
    · rw [List.getElem?_set_ne hv, ih]
      have : (j ∈ v :: vs) ↔ j ∈ vs := by
        rw [List.mem_cons]
        exact ⟨fun h => h.elim (fun e => absurd e.symm hv) id, .inr⟩
      simp only [this]
theorem wipe_set {σ : L2.St} {i : Nat} {x : Option V} {vs : List Nat} (hi : i ∈ vs) : L2.wipe (σ.set i x) vs = L2.wipe σ vs := by
  refine List.ext_getElem? fun j => ?_
  rw [wipe_get, wipe_get]
  by_cases h : j ∈ vs
  · rw [if_pos h, if_pos h]
    by_cases e : i = j
    · subst e
      rw [List.getElem?_set]
      simp only [if_true]
      by_cases hl : i < σ.length
      · simp only [hl, if_true]
        rw [List.getElem?_eq_getElem hl]
        rfl
      · simp only [hl, if_false]
        rw [List.getElem?_eq_none (by omega)] <;> rfl
    · rw [List.getElem?_set_ne e]
  · rw [if_neg h, if_neg h]
    have e : i ≠ j := fun e => h (e ▸ hi)
    rw [List.getElem?_set_ne e]
theorem wipe_wipe {σ : L2.St} {vs : List Nat} : L2.wipe (L2.wipe σ vs) vs = L2.wipe σ vs := by
  refine List.ext_getElem? fun j => ?_
  rw [wipe_get, wipe_get]
  by_cases h : j ∈ vs
  · rw [if_pos h, if_pos h]
    cases σ[j]? <;> rfl
  · rw [if_neg h, if_neg h]
theorem gx_name (i : Nat) {d : PyData} (hN : X.N.Nodup) (hi : X.N[i]? = some x) (hx : Loc X.env.scope x := by first | exact Or.inl rfl | exact Or.inr rfl) (hf : X.fn x = true ∨ X.env.scope.names.lookup x = some .local := by first | exact .inl rfl | exact .inr rfl) :
    GX X (.Name x pos) d [i] (fun S => S.set i (some (.d d))) := fun I H σ S v t l hv Q k => gj_of (pg_name hN hi hx hf) (k _ (Sl.set (sh := .d d) hv i l) fun vs h => wipe_set (h i (by simp)))
/-- (a, b) = a pair -/
theorem gx_pair (i j : Nat) {y : Str} {py : Pos} {kk : _} {d1 d2 : PyData} (hc : X.calm = true) (hN : X.N.Nodup) (hi : X.N[i]? = some x) (hj : X.N[j]? = some y) (hx : Loc X.env.scope x := by first | exact Or.inl rfl | exact Or.inr rfl) (hy : Loc X.env.scope y := by first | exact Or.inl rfl | exact Or.inr rfl)
    (hf : X.fn x = true ∨ X.env.scope.names.lookup x = some .local := by first | exact .inl rfl | exact .inr rfl) (hf2 : X.fn y = true ∨ X.env.scope.names.lookup y = some .local := by first | exact .inl rfl | exact .inr rfl)
    (h1 : (assignEach (.Name x p :: [.Name y py]) X.env).map (·.2) = assign (.Name x p) X.env :: (assignEach [.Name y py] X.env).map (·.2) := by rfl) (h2 : (assignEach (.Name y py :: []) X.env).map (·.2) = assign (.Name y py) X.env :: (assignEach [] X.env).map (·.2) := by rfl)
    (hn : (assignEach [.Name x p, .Name y py] X.env).length = 2 := by rfl) (hst : (assignEach [.Name x p, .Name y py] X.env).findIdx? (·.1) = none := by rfl) :
    GX X (.Tuple [.Name x p, .Name y py] kk pos) (.tuple [d1, d2]) [i, j] (fun S => (S.set i (some (.d d1))).set j (some (.d d2))) := fun I H σ S v t l hv Q k => by
  obtain ⟨q, xs, rfl, g1, g2⟩ := dp_tup hv
  cases g2 with
  | cons a1 r1 =>
    cases r1 with
    | cons a2 r2 =>
      cases r2
      exact gj_of (pg_tup hc (pgs_cons (pg_name hN hi hx hf) (pgs_cons (pg_name hN hj hy hf2) pgs_nil h2) h1) hn hst) ⟨q, _, rfl, sqT_mono t g1, rfl, _, _, rfl, _, _, rfl, rfl, k _ (Sl.set (sh := .d d2) a2 j (Sl.set (sh := .d d1) a1 i l)) fun vs h => by
        rw [wipe_set (h j (by simp)), wipe_set (h i (by simp))]⟩

/-! ### comprehensions -/
/-- the block's contexts -/
abbrev Blk (X : Cx) (scope : Scope) (s : Shared) (H : Hp) (C : Addr) (cl : List (Str × Addr)) (fp : List Addr) : Cx := X.blk s H scope (compEnvC scope cl C X.env) fp
def TsJ (X : Cx) (ifs : List Expr) : TT := fun σ H Q => ∀ (pins : List (Addr × Obj)) (s : Shared), Inv X pins σ H s →
  wpAny (model X.prog X.w) X.A (forIn ifs true fun c r => if r = true then do let ok ← isTrue c X.env (eval c X.env); pure (ForInStep.yield ok) else pure (ForInStep.yield r)) (TP X pins σ Q) X.xe s
/-- the tests of a clause -/
def TsX (X : Cx) (ifs : List Expr) (S : Sls) (M : Mp) (b : Bool) : Prop :=
  ∀ (I H : Hp) (σ : L2.St), Same I H → Sl X.K I σ S → MOk X.K I H M → ∀ Q : Bool → Hp → Prop, (∀ I2 H2, Ext I H I2 H2 → Q b H2) → TsJ X ifs σ H Q
theorem tsx_nil : TsX X [] S M true := fun I H σ t l m Q k => fun pins s J => pts_nil.run pins s σ H Q J (k I H (Ext.refl t))
theorem tsx_one {k : Bool} (h : TX X c S M k) : TsX X [c] S M k := fun I H σ t l m Q q => fun pins s J => (pts_one pt_tj).run pins s σ H Q J (h I H σ t l m Q q)
abbrev lcG (X : Cx) (scope : Scope) (tg : Expr) : TG := fun v σ H Q => ∀ s H' C cl fp, GJ (Blk X scope s H' C cl fp) tg v σ H Q
abbrev lcT (X : Cx) (scope : Scope) (ifs : List Expr) : TT := fun σ H Q => ∀ s H' C cl fp, TsJ (Blk X scope s H' C cl fp) ifs σ H Q
abbrev lcE (X : Cx) (scope : Scope) (elt : Expr) : TE := fun σ H Q => ∀ s H' C cl fp, EJ (Blk X scope s H' C cl fp) elt σ H Q
theorem lc_go {α : Type} {elt : Expr} {ifs : List Expr} {scope : Scope} {own : List (Str × Nat)} {is : List Nat} {wi : TI} (xs : List α) (enc : α → PyData) (f : α → Sls → Sls) (bt : α → Bool) (g : α → PyData)
    (hw : ∀ (I H : Hp) (σ : L2.St), Same I H → Sl X.K I σ S → MOk X.K I H M → ∀ R : It → Hp → Prop, (∀ J I2 H2, Ext I H I2 H2 → Wk X.K J I2 (xs.map enc) → R J H2) → wi σ H R) (hz : xs.length ≤ 100000) (his : ∀ i ∈ is, i ∈ own.map (·.2))
    (hg : ∀ s H C cl fp (z : α), GX (Blk X scope s H C cl fp) tg (enc z) is (f z)) (ht : ∀ s H C cl fp (z : α), z ∈ xs → TsX (Blk X scope s H C cl fp) ifs (f z (wipeS S (own.map (·.2)))) M (bt z))
    (he : ∀ s H C cl fp (z : α), z ∈ xs → bt z = true → EX (Blk X scope s H C cl fp) elt (f z (wipeS S (own.map (·.2)))) M (.d (g z))) :
    ∀ (I H : Hp) (σ : L2.St), Same I H → Sl X.K I σ S → MOk X.K I H M → ∀ Q : VK, (∀ v I2 H2, Ext I H I2 H2 → (Sh.nl ((xs.filter bt).map g)).ok X.K I2 v → Q v H2) → tLc wi (lcG X scope tg) (lcT X scope ifs) (lcE X scope elt) (own.map (·.2)) σ H Q := fun I H σ t l m Q k => by
  refine hw I H σ t l m _ fun J I2 H2 e2 wk => ?_
  intro D hD
  have hl : (xs.map enc).length = xs.length := List.length_map _
  -- the invariant
  refine ⟨fun i n Hc => n = xs.length - i ∧ i ≤ xs.length ∧ ∃ Ic acc, Same I2 Ic ∧ Same Ic Hc ∧ Same H2 Hc ∧ (∀ a o, H2 a = some o → I2 a = none → Ic a = none) ∧ Ic D = none ∧ Hc D = some (.lst acc) ∧ acc.length ≤ i ∧ DpAll X.K Ic acc (((xs.take i).filter bt).map g),
    ⟨xs.length, by simp, Nat.zero_le _, I2, [], Same.refl I2, e2.t.trans (same_new hD _), same_new hD _, fun _ _ _ h => h, e2.t.free hD, upd_same, Nat.le_refl _, .nil⟩, ?_⟩
  rintro i n Hc ⟨rfl, hile, Ic, acc, c1, c2, c3, c4, c5, c6, c7, c8⟩
  by_cases hlt : i < xs.length
  · refine .inr ⟨wk.go i Ic Hc c1 c2 (by rw [hl]; exact hlt), fun Hn => i + 1 ≤ xs.length ∧ ∃ Ic acc, Same I2 Ic ∧ Same Ic Hn ∧ Same H2 Hn ∧ (∀ a o, H2 a = some o → I2 a = none → Ic a = none) ∧ Ic D = none ∧ Hn D = some (.lst acc) ∧ acc.length ≤ i + 1 ∧ DpAll X.K Ic acc (((xs.take (i + 1)).filter bt).map g), fun Hn q => ⟨xs.length - (i + 1), by omega, rfl, q.1, q.2⟩, fun x Hy y => ?_⟩
    have hx : xs[i]? = some xs[i] := List.getElem?_eq_getElem hlt
    have hmem : xs[i] ∈ xs := List.getElem_mem hlt
    have htk : xs.take (i + 1) = xs.take i ++ [xs[i]] := by rw [List.take_succ, hx]; rfl
    obtain ⟨Iy, ey, dy⟩ := wk.yld i (enc xs[i]) Ic Hc x Hy c1 c2 (by rw [List.getElem?_map, hx]; rfl) y
    intro s0 H0 C0 cl0 fp0
    have lw : Sl X.K Iy (L2.wipe σ (own.map (·.2))) (wipeS S (own.map (·.2))) := (Sl.wipe l _).mono (e2.i.trans (c1.trans ey.i))
    have mk : ∀ {Ia Ha : Hp}, Same Iy Ia → Same Hy Ha → (∀ a o, Hy a = some o → Iy a = none → Ia a = none) → MOk X.K Ia Ha M := fun {Ia Ha} a1 a2 a3 => fun p o q => by
      obtain ⟨m1, m2⟩ := m.ext e2 p o q
      obtain ⟨u, hu⟩ := MO.there m2
      have m3 : Iy p = none := ey.f p u (c3 p u hu) (c4 p u hu m1)
      refine ⟨a3 p u (ey.h p u (c3 p u hu)) m3, ?_⟩
      cases o with
      | lst zs => obtain ⟨vs, g1, g2⟩ := m2; exact ⟨vs, a2 _ _ (ey.h _ _ (c3 _ _ g1)), g2.mono (c1.trans (ey.i.trans a1))⟩
      | dct kvs => exact a2 _ _ (ey.h _ _ (c3 _ _ m2))
      | ins C dx fs => obtain ⟨vs, g1, g2⟩ := m2; exact ⟨vs, a2 _ _ (ey.h _ _ (c3 _ _ g1)), g2.mono (c1.trans (ey.i.trans a1))⟩
    refine hg s0 H0 C0 cl0 fp0 xs[i] Iy Hy _ _ x ey.t lw dy _ fun σ2 l2 hwp => ⟨by rw [hwp _ his, wipe_wipe], ?_⟩
    intro s1 H1 C1 cl1 fp1
    refine ht s1 H1 C1 cl1 fp1 xs[i] hmem Iy Hy σ2 ey.t l2 (mk (Same.refl _) (Same.refl _) fun _ _ _ h => h) _ fun I3 H3 e3 => ?_
    cases hb : bt xs[i] with
    | false =>
      rw [if_neg Bool.false_ne_true]
      refine ⟨hlt, I3, acc, c1.trans (ey.i.trans e3.i), e3.t, c3.trans (ey.h.trans e3.h), fun a o q1 q2 => ?_, ?_, e3.h _ _ (ey.h _ _ c6), Nat.le_succ_of_le c7, ?_⟩
      · exact e3.f a o (ey.h a o (c3 a o q1)) (ey.f a o (c3 a o q1) (c4 a o q1 q2))
      · exact e3.f D _ (ey.h D _ c6) (ey.f D _ c6 c5)
      · rw [htk, List.filter_append, List.filter_cons_of_neg (by rw [hb]; exact Bool.false_ne_true), List.filter_nil, List.append_nil]
        exact dpAll_mono (ey.i.trans e3.i) _ _ c8
    | true =>
      rw [if_pos rfl]
      intro s2 H2' C2 cl2 fp2
      refine he s2 H2' C2 cl2 fp2 xs[i] hmem hb I3 H3 σ2 e3.t (l2.mono e3.i) (mk e3.i e3.h e3.f) _ fun v I4 H4 e4 hv => ?_
      have d4 : H4 D = some (.lst acc) := e4.h _ _ (e3.h _ _ (ey.h _ _ c6))
      have n4 : I4 D = none := e4.f D _ (e3.h _ _ (ey.h _ _ c6)) (e3.f D _ (ey.h D _ c6) (ey.f D _ c6 c5))
      have up : ∀ {G : Hp}, Same G H4 → G D = none → Same G (upd H4 D (.lst (acc ++ [v]))) := fun {G} g1 g2 a o q => by
        rw [upd_ne (fun z => by rw [z, g2] at q; cases q)]
        exact g1 a o q
      refine ⟨acc, d4, sz_lt' (by omega), hlt, I4, acc ++ [v], c1.trans (ey.i.trans (e3.i.trans e4.i)), up e4.t n4, up (c3.trans (ey.h.trans (e3.h.trans e4.h))) hD, fun a o q1 q2 => ?_, n4, upd_same, by rw [List.length_append, List.length_singleton]; omega, ?_⟩
      · exact e4.f a o (e3.h a o (ey.h a o (c3 a o q1))) (e3.f a o (ey.h a o (c3 a o q1)) (ey.f a o (c3 a o q1) (c4 a o q1 q2)))
      · rw [htk, List.filter_append, List.filter_cons_of_pos hb, List.filter_nil, List.map_append]
        exact dpAll_append (dpAll_mono (ey.i.trans (e3.i.trans e4.i)) _ _ c8) (.cons hv .nil)
  · have ei : i = xs.length := by omega
    subst ei
    refine .inl ⟨wk.stop _ Ic Hc c1 c2 hl, ?_⟩
    rw [List.take_length] at c8
    have cn : Ic D = none := c5
    refine k _ (upd Ic D (.lst acc)) Hc (e2.trans ⟨c1.trans (same_new cn _), fun a o q => ?_, c3, fun a o q1 q2 => ?_⟩) ⟨D, acc, rfl, upd_same, dpAll_mono (same_new cn _) _ _ c8⟩
    · by_cases e : a = D
      · rw [e, upd_same] at q; rw [e, c6]; exact q
      · rw [upd_ne e] at q; exact c2 a o q
    · rw [upd_ne (fun e => by rw [e, hD] at q1; cases q1)]
      exact c4 a o q1 q2
theorem ex_lc {α : Type} {elt : Expr} {ifs : List Expr} {scope : Scope} {own : List (Str × Nat)} {is : List Nat} (xs : List α) (enc : α → PyData) (f : α → Sls → Sls) (bt : α → Bool) (g : α → PyData) (hc : X.calm = true) (hN : X.N.Nodup)
    (hi : IX X tg iter S M (xs.map enc)) (ok : BlkOk X.N X.env.scope scope own) (hz : xs.length ≤ 100000) (his : ∀ i ∈ is, i ∈ own.map (·.2))
    (hg : ∀ s H C cl fp (z : α), GX (Blk X scope s H C cl fp) tg (enc z) is (f z)) (ht : ∀ s H C cl fp (z : α), z ∈ xs → TsX (Blk X scope s H C cl fp) ifs (f z (wipeS S (own.map (·.2)))) M (bt z))
    (he : ∀ s H C cl fp (z : α), z ∈ xs → bt z = true → EX (Blk X scope s H C cl fp) elt (f z (wipeS S (own.map (·.2)))) M (.d (g z))) (hs : ∀ x, foldedSetIterable iter X.env x = pure x := by intro _; rfl) :
    EX X (.ListComp elt [⟨tg, iter, ifs, 0⟩] scope pos) S M (.nl ((xs.filter bt).map g)) := fun I H σ t l m Q k => by
  obtain ⟨wi, pi, hw⟩ := hi
  exact ej_of (pe_lc (g := lcG X scope tg) (tt := lcT X scope ifs) (te := lcE X scope elt)
    hc hN pi ok (fun s H C cl fp => ⟨fun pins s' σ H v u Q I r h => h s _ C cl fp pins s' u I r⟩) (fun s H C cl fp => ⟨fun pins s' σ H Q I h => h s _ C cl fp pins s' I⟩) (fun s H C cl fp => ⟨fun pins s' σ H Q I h => h s _ C cl fp pins s' I⟩) hs)
    (lc_go xs enc f bt g hw hz his hg ht he I H σ t l m Q k)
/-- no tests -/
theorem ex_lc0 {α : Type} {elt : Expr} {scope : Scope} {own : List (Str × Nat)} {is : List Nat} (xs : List α) (enc : α → PyData) (f : α → Sls → Sls) (g : α → PyData) (hc : X.calm = true) (hN : X.N.Nodup)
    (hi : IX X tg iter S M (xs.map enc)) (ok : BlkOk X.N X.env.scope scope own) (hz : xs.length ≤ 100000) (his : ∀ i ∈ is, i ∈ own.map (·.2))
    (hg : ∀ s H C cl fp (z : α), GX (Blk X scope s H C cl fp) tg (enc z) is (f z))
    (he : ∀ s H C cl fp (z : α), z ∈ xs → EX (Blk X scope s H C cl fp) elt (f z (wipeS S (own.map (·.2)))) M (.d (g z))) (hs : ∀ x, foldedSetIterable iter X.env x = pure x := by intro _; rfl) :
    EX X (.ListComp elt [⟨tg, iter, [], 0⟩] scope pos) S M (.nl (xs.map g)) := by
  have q := ex_lc (pos := pos) (elt := elt) (ifs := []) xs enc f (fun _ => true) g hc hN hi ok hz his hg (fun _ _ _ _ _ _ _ => tsx_nil) (fun s H C cl fp z hz _ => he s H C cl fp z hz) hs
  rw [List.filter_eq_self.mpr fun _ _ => rfl] at q
  exact q
end
end HW
/-! Statements. -/
namespace HW
open PySem PySem.Spec L2

/-- where a def began: what was given (I), what must stay (H), what else is known by now (G) -/
structure Bs where
  I : Hp
  H : Hp
  G : Hp
structure Stt (K : PySem.W.Frag) (B : Bs) (I H : Hp) (M : Mp) (σ : L2.St) (S : Sls) : Prop where
  x : Ext B.I B.H I H
  g : Same B.G I
  l : Sl K I σ S
  m : MOk K I H M
  fr : ∀ p o, M p = some o → B.H p = none
theorem Stt.ext {K : PySem.W.Frag} {B : Bs} {I H I2 H2 : Hp} {M : Mp} {σ : L2.St} {S : Sls} (s : Stt K B I H M σ S) (e : Ext I H I2 H2) : Stt K B I2 H2 M σ S :=
  ⟨s.x.trans e, s.g.trans e.i, s.l.mono e.i, s.m.ext e, s.fr⟩
theorem Stt.set {K : PySem.W.Frag} {B : Bs} {I H : Hp} {M : Mp} {σ : L2.St} {S : Sls} {v : V} {sh : Sh} (s : Stt K B I H M σ S) (i : Nat) (h : sh.ok K I v) : Stt K B I H M (σ.set i (some v)) (S.set i (some sh)) :=
  ⟨s.x, s.g, s.l.set h i, s.m, s.fr⟩
/-- a new object that will be changed -/
theorem Stt.newM {K : PySem.W.Frag} {B : Bs} {I H : Hp} {M : Mp} {σ : L2.St} {S : Sls} (s : Stt K B I H M σ S) {p : Addr} {o : HO} {mo : MO} (hp : H p = none) (hm : mo.ok K I (upd H p o) p) : Stt K B I (upd H p o) (mset M p mo) σ S where
  x := ⟨s.x.i, s.x.t.trans (same_new hp o), s.x.h.trans (same_new hp o), s.x.f⟩
  g := s.g
  l := s.l
  m := fun q u h => by
    by_cases e : q = p
    · subst e
      rw [mset_same] at h
      cases h
      exact ⟨s.x.t.free hp, hm⟩
    · rw [mset_ne e] at h
      obtain ⟨h1, h2⟩ := s.m q u h
      refine ⟨h1, ?_⟩
      cases u with
      | lst xs => obtain ⟨vs, g1, g2⟩ := h2; exact ⟨vs, by rw [upd_ne e]; exact g1, g2⟩
      | dct kvs => show upd H p o q = _; rw [upd_ne e]; exact h2
      | ins C dx fs => obtain ⟨vs, g1, g2⟩ := h2; exact ⟨vs, by rw [upd_ne e]; exact g1, g2⟩
  fr := fun q u h => by
    by_cases e : q = p
    · subst e; exact s.x.h.free hp
    · rw [mset_ne e] at h; exact s.fr q u h
/-- an object that is changed -/
theorem Stt.put {K : PySem.W.Frag} {B : Bs} {I H : Hp} {M : Mp} {σ : L2.St} {S : Sls} (s : Stt K B I H M σ S) {p : Addr} {o : HO} {mo mo0 : MO} (h0 : M p = some mo0) (hm : mo.ok K I (upd H p o) p) : Stt K B I (upd H p o) (mset M p mo) σ S := by
  obtain ⟨n1, n2⟩ := s.m p mo0 h0
  have n3 := s.fr p mo0 h0
  have up : ∀ {G : Hp}, Same G H → G p = none → Same G (upd H p o) := fun {G} g1 g2 a u q => by
    rw [upd_ne (fun z => by rw [z, g2] at q; cases q)]
    exact g1 a u q
  refine ⟨⟨s.x.i, up s.x.t n1, up s.x.h n3, s.x.f⟩, s.g, s.l, fun q u h => ?_, fun q u h => ?_⟩
  · by_cases e : q = p
    · subst e
      rw [mset_same] at h
      cases h
      exact ⟨n1, hm⟩
    · rw [mset_ne e] at h
      obtain ⟨h1, h2⟩ := s.m q u h
      refine ⟨h1, ?_⟩
      cases u with
      | lst xs => obtain ⟨vs, g1, g2⟩ := h2; exact ⟨vs, by rw [upd_ne e]; exact g1, g2⟩
      | dct kvs => show upd H p o q = _; rw [upd_ne e]; exact h2
      | ins C dx fs => obtain ⟨vs, g1, g2⟩ := h2; exact ⟨vs, by rw [upd_ne e]; exact g1, g2⟩
  · by_cases e : q = p
    · subst e; exact n3
    · rw [mset_ne e] at h; exact s.fr q u h
/-- a list is not changed any more -/
theorem Stt.freeze {K : PySem.W.Frag} {B : Bs} {I H : Hp} {M : Mp} {σ : L2.St} {S : Sls} (s : Stt K B I H M σ S) {p : Addr} {ds : List PyData} (h0 : M p = some (.lst (ds.map Sh.d))) :
    ∃ vs, Stt K B (upd I p (.lst vs)) H (mdel M p) σ S ∧ Dp K (upd I p (.lst vs)) (.ref p) (.list ds) := by
  obtain ⟨n1, vs, n2, n3⟩ := s.m p _ h0
  have n4 := s.fr p _ h0
  have sn : Same I (upd I p (.lst vs)) := same_new n1 _
  refine ⟨vs, ⟨⟨s.x.i.trans sn, fun a u q => ?_, s.x.h, fun a u q1 q2 => ?_⟩, s.g.trans sn, s.l.mono sn, fun q u h => ?_, fun q u h => ?_⟩, .lst (SqL.of upd_same) (dpAll_mono sn _ _ n3.dat)⟩
  · by_cases e : a = p
    · rw [e, upd_same] at q; rw [e, n2]; exact q
    · rw [upd_ne e] at q; exact s.x.t a u q
  · rw [upd_ne (fun e => by rw [e, n4] at q1; cases q1)]
    exact s.x.f a u q1 q2
  · have e : q ≠ p := fun e => by rw [e] at h; unfold mdel at h; rw [if_pos rfl] at h; cases h
    have h' : M q = some u := by unfold mdel at h; rw [if_neg e] at h; exact h
    obtain ⟨h1, h2⟩ := s.m q u h'
    refine ⟨by rw [upd_ne e]; exact h1, ?_⟩
    cases u with
    | lst xs => obtain ⟨ws, g1, g2⟩ := h2; exact ⟨ws, g1, g2.mono sn⟩
    | dct kvs => exact h2
    | ins C dx fs => obtain ⟨ws, g1, g2⟩ := h2; exact ⟨ws, g1, g2.mono sn⟩
  · have e : q ≠ p := fun e => by rw [e] at h; unfold mdel at h; rw [if_pos rfl] at h; cases h
    have h' : M q = some u := by unfold mdel at h; rw [if_neg e] at h; exact h
    exact s.fr q u h'

theorem ej_imp {X : Cx} {e : Expr} {σ : L2.St} {H : Hp} {Q Q' : VK} (h : EJ X e σ H Q) (k : ∀ v H', Q v H' → Q' v H') : EJ X e σ H Q' := fun pins s I => thn (h pins s I) fun u s1 ⟨v, H1, I1, r, q⟩ => ⟨v, H1, I1, r, k v H1 q⟩
def SJ (X : Cx) (sts : List Stmt) : TS := fun D σ H => ∀ (pins : List (Addr × Obj)) (s : Shared), Inv X pins σ H s → wpAny (model X.prog X.w) X.A (execs sts X.env) (SP X pins D) X.xe s
theorem pss_sj {X : Cx} {sts : List Stmt} : PSs X sts (SJ X sts) := ⟨fun pins s σ H D I h => h pins s I⟩
theorem sj_of {X : Cx} {sts : List Stmt} {t : TS} (h : PSs X sts t) {D : Ends} {σ : L2.St} {H : Hp} (q : t D σ H) : SJ X sts D σ H := fun pins s I => h.run pins s σ H D I q
theorem sj_cons {X : Cx} {st : Stmt} {rest : List Stmt} {t : TS} (h : PS X st t) {D : Ends} {σ : L2.St} {H : Hp} (q : t { D with nx := SJ X rest D } σ H) : SJ X (st :: rest) D σ H := sj_of (pss_cons h pss_sj) q
/-- the statements, from such a state on -/
def SX (X : Cx) (sts : List Stmt) (D : Ends) (S : Sls) (M : Mp) (B : Bs) : Prop := ∀ (I H : Hp) (σ : L2.St), Stt X.K B I H M σ S → SJ X sts D σ H
/-- such a state -/
def Wf (K : PySem.W.Frag) (B : Bs) (P : Sls → Mp → Prop) : L2.St → Hp → Prop := fun σ H => ∃ I S M, Stt K B I H M σ S ∧ P S M
/-- how a function that changes nothing ends -/
def DR (K : PySem.W.Frag) (B : Bs) (sh : Sh) : Ends := { nx := fun _ H => ∃ I, Ext B.I B.H I H ∧ sh.ok K I .non, rt := fun v H => ∃ I, Ext B.I B.H I H ∧ sh.ok K I v }

section
variable {X : Cx} {S : Sls} {M : Mp} {a b c e o tg iter : Expr} {es : List Expr} {sh s1 s2 s3 : Sh} {ss : List Sh} {pos p apos : Pos} {x y z : Str} {ds : List PyData} {D : Ends} {B : Bs} {rest body orelse : List Stmt}
/-! ### ends of blocks -/
theorem sx_nil (h : ∀ (I H : Hp) (σ : L2.St), Stt X.K B I H M σ S → D.nx σ H) : SX X [] D S M B := fun I H σ s => sj_of pss_nil (h I H σ s)
/-- behind a block goes the rest -/
theorem sx_go {D' : Ends} {rest : List Stmt} (h : SX X rest D S M B) : SX X [] { D' with nx := SJ X rest D } S M B := sx_nil fun I H σ s => h I H σ s
theorem sx_turn {P : Sls → Mp → Prop} {r : VK} {bk ct : L2.St → Hp → Prop} (h : P S M) : SX X [] { nx := Wf X.K B P, rt := r, bk := bk, ct := ct } S M B := sx_nil fun I H σ s => ⟨I, S, M, s, h⟩
/-- the def's end without a return -/
theorem sx_end : SX X [] (DR X.K B (.d .none)) S M B := sx_nil fun I H σ s => ⟨I, s.x, .non⟩
theorem sx_never {st : Stmt} (h : False) : SX X (st :: rest) D S M B := h.elim
/-! ### simple statements -/
/-- a statement by its reading -/
theorem sx_of {st : Stmt} {t : TS} (h : PS X st t) (q : ∀ (I H : Hp) (σ : L2.St), Stt X.K B I H M σ S → t { D with nx := SJ X rest D } σ H) : SX X (st :: rest) D S M B := fun I H σ s => sj_cons h (q I H σ s)
theorem sx_set (i : Nat) (hN : X.N.Nodup) (hi : X.N[i]? = some x) (h : EX X e S M sh) (k : SX X rest D (S.set i (some sh)) M B) (hx : Loc X.env.scope x := by first | exact Or.inl rfl | exact Or.inr rfl) (hs : swapsWith e (some (.Name x p)) pos.line X.env = pure false := by rfl)
    (hf : X.fn x = true ∨ X.env.scope.names.lookup x = some .local := by first | exact .inl rfl | exact .inr rfl) : SX X (.Assign [.Name x p] e pos :: rest) D S M B :=
  sx_of (ps_set hN hi hx pe_ej hs hf) fun I H σ s => h I H σ s.x.t s.l s.m _ fun v I2 H2 e2 hv => k I2 H2 _ ((s.ext e2).set i hv)
theorem sx_expr (h : EX X e S M sh) (k : SX X rest D S M B) (hs : swapsWith e none pos.line X.env = pure false := by rfl) : SX X (.Expr e pos :: rest) D S M B :=
  sx_of (ps_expr pe_ej hs) fun I H σ s => h I H σ s.x.t s.l s.m _ fun v I2 H2 e2 hv => k I2 H2 _ (s.ext e2)
theorem sx_ret (h : EX X e S M sh) (hD : D.rt = (DR X.K B sh).rt := by rfl) : SX X (.Return (some e) pos :: rest) D S M B :=
  sx_of (ps_ret pe_ej) fun I H σ s => h I H σ s.x.t s.l s.m _ fun v I2 H2 e2 hv => by
    show D.rt v H2
    rw [hD]
    exact ⟨I2, s.x.trans e2, hv⟩
/-- return xs, xs a list that was changed until now -/
theorem sx_retM {q : Addr} (hM : M q = some (.lst (ds.map Sh.d))) (h : EX X e S M (.v (.ref q))) (hD : D.rt = (DR X.K B (.d (.list ds))).rt := by rfl) : SX X (.Return (some e) pos :: rest) D S M B :=
  sx_of (ps_ret pe_ej) fun I H σ s => h I H σ s.x.t s.l s.m _ fun v I2 H2 e2 hv => by
    show D.rt v H2
    rw [hD, show v = .ref q from hv]
    obtain ⟨vs, s2, hd⟩ := (s.ext e2).freeze hM
    exact ⟨_, s2.x, hd⟩
theorem sx_if {k : Bool} (h : TX X c S M k) (h1 : k = true → SX X body { D with nx := SJ X rest D } S M B) (h2 : k = false → SX X orelse { D with nx := SJ X rest D } S M B) : SX X (.If c body orelse pos :: rest) D S M B :=
  sx_of (ps_if pt_tj pss_sj pss_sj) fun I H σ s => h I H σ s.x.t s.l s.m _ fun I2 H2 e2 => by
    cases k with
    | true =>
      show SJ X body _ σ H2
      exact h1 rfl I2 H2 σ (s.ext e2)
    | false =>
      show SJ X orelse _ σ H2
      exact h2 rfl I2 H2 σ (s.ext e2)
/-- a, b = e1, e2 -/
theorem sx_par (i j : Nat) {kt k2} {py pt pt2 : Pos} (hc : X.calm = true) (hN : X.N.Nodup) (hi : X.N[i]? = some x) (hj : X.N[j]? = some y) (hij : i ≠ j) (ha : EX X a S M s1) (hb : EX X b S M s2) (k : SX X rest D ((S.set i (some s1)).set j (some s2)) M B)
    (hx : X.env.scope.names.lookup x = some .local := by rfl) (hy : X.env.scope.names.lookup y = some .local := by rfl)
    (hw : swappedStores [.Tuple [.Name x p, .Name y py] kt pt] (.Tuple [a, b] k2 pt2) X.env = pure (some [x, y]) := by rfl) (hs : swapsWithSole [.Tuple [.Name x p, .Name y py] kt pt] (.Tuple [a, b] k2 pt2) pos.line X.env = pure false := by rfl)
    (he : starEach (a :: [b]) X.env = (false, eval a X.env) :: starEach [b] X.env := by rfl) (he2 : starEach (b :: []) X.env = (false, eval b X.env) :: starEach [] X.env := by rfl) :
    SX X (.Assign [.Tuple [.Name x p, .Name y py] kt pt] (.Tuple [a, b] k2 pt2) pos :: rest) D S M B :=
  sx_of (ps_par hc hN hi hj hij hx hy (pa_cons pe_ej (pa_cons pe_ej pa_nil he2) he) hw hs) fun I H σ s => ha I H σ s.x.t s.l s.m _ fun v I2 H2 e2 hv => hb I2 H2 σ e2.t (s.l.mono e2.i) (s.m.ext e2) _ fun w I3 H3 e3 hw =>
    ⟨v, w, rfl, k I3 H3 _ (((s.ext (e2.trans e3)).set i (Sh.mono e3.i hv)).set j hw)⟩
theorem sx_par3 (i j l : Nat) {kt k2} {py pz pt pt2 : Pos} (hc : X.calm = true) (hN : X.N.Nodup) (hi : X.N[i]? = some x) (hj : X.N[j]? = some y) (hl : X.N[l]? = some z) (hij : i ≠ j) (hil : i ≠ l) (hjl : j ≠ l) {M' : Mp}
    (q : ∀ (I H : Hp) (σ : L2.St), Stt X.K B I H M σ S → EJ X a σ H fun u H1 => EJ X b σ H1 fun v H2 => EJ X c σ H2 fun w H3 => SJ X rest D (((σ.set i (some u)).set j (some v)).set l (some w)) H3)
    (hx : X.env.scope.names.lookup x = some .local := by rfl) (hy : X.env.scope.names.lookup y = some .local := by rfl) (hz : X.env.scope.names.lookup z = some .local := by rfl)
    (hw : swappedStores [.Tuple [.Name x p, .Name y py, .Name z pz] kt pt] (.Tuple [a, b, c] k2 pt2) X.env = pure (some [x, y, z]) := by rfl) (hs : swapsWithSole [.Tuple [.Name x p, .Name y py, .Name z pz] kt pt] (.Tuple [a, b, c] k2 pt2) pos.line X.env = pure false := by rfl)
    (he : starEach (a :: [b, c]) X.env = (false, eval a X.env) :: starEach [b, c] X.env := by rfl) (he2 : starEach (b :: [c]) X.env = (false, eval b X.env) :: starEach [c] X.env := by rfl) (he3 : starEach (c :: []) X.env = (false, eval c X.env) :: starEach [] X.env := by rfl) :
    SX X (.Assign [.Tuple [.Name x p, .Name y py, .Name z pz] kt pt] (.Tuple [a, b, c] k2 pt2) pos :: rest) D S M B :=
  sx_of (ps_par3 hc hN hi hj hl hij hil hjl hx hy hz (pa_cons pe_ej (pa_cons pe_ej (pa_cons pe_ej pa_nil he3) he2) he) hw hs) fun I H σ s => by
    have h1 := q I H σ s
    show EJ X a σ H fun u H1 => EJ X b σ H1 fun v H2 => EJ X c σ H2 fun w H3 => ∃ u' v' w', [u, v, w] = [u', v', w'] ∧ _
    exact ej_imp h1 fun u H1 h2 => ej_imp h2 fun v H2 h3 => ej_imp h3 fun w H3 h4 => ⟨u, v, w, rfl, h4⟩
/-- x = [comprehension] -/
theorem sx_setLc {α : Type} {elt : Expr} {ifs : List Expr} {scope : Scope} {own : List (Str × Nat)} {is : List Nat} {spos : Pos} (i : Nat) (xs : List α) (enc : α → PyData) (f : α → Sls → Sls) (bt : α → Bool) (g : α → PyData) (hc : X.calm = true) (hN : X.N.Nodup)
    (hy : X.N[i]? = some x) (hi : IX X tg iter S M (xs.map enc)) (ok : BlkOk X.N X.env.scope scope own) (hz : xs.length ≤ 100000) (his : ∀ i ∈ is, i ∈ own.map (·.2))
    (hg : ∀ s H C cl fp (z : α), GX (Blk X scope s H C cl fp) tg (enc z) is (f z)) (ht : ∀ s H C cl fp (z : α), z ∈ xs → TsX (Blk X scope s H C cl fp) ifs (f z (wipeS S (own.map (·.2)))) M (bt z))
    (he : ∀ s H C cl fp (z : α), z ∈ xs → bt z = true → EX (Blk X scope s H C cl fp) elt (f z (wipeS S (own.map (·.2)))) M (.d (g z)))
    (k : SX X rest D (S.set i (some (.nl ((xs.filter bt).map g)))) M B) (hyl : X.env.scope.names.lookup x = some .local := by rfl)
    (hsw : swapsWith (.ListComp elt [⟨tg, iter, ifs, 0⟩] scope pos) (some (.Name x p)) spos.line X.env = pure true := by rfl) (hs : ∀ x, foldedSetIterable iter X.env x = pure x := by intro _; rfl) :
    SX X (.Assign [.Name x p] (.ListComp elt [⟨tg, iter, ifs, 0⟩] scope pos) spos :: rest) D S M B := by
  obtain ⟨wi, pi, hw⟩ := hi
  exact sx_of (ps_setLc (g := lcG X scope tg) (tt := lcT X scope ifs) (te := lcE X scope elt) hc hN hy hyl hsw pi ok (fun s H C cl fp => ⟨fun pins s' σ H v u Q I r h => h s _ C cl fp pins s' u I r⟩) (fun s H C cl fp => ⟨fun pins s' σ H Q I h => h s _ C cl fp pins s' I⟩) (fun s H C cl fp => ⟨fun pins s' σ H Q I h => h s _ C cl fp pins s' I⟩) hs)
    fun I H σ s => lc_go xs enc f bt g hw hz his hg ht he I H σ s.x.t s.l s.m _ fun v I2 H2 e2 hv => k I2 H2 _ ((s.ext e2).set i hv)
end
end HW
/-! Lists and dicts that are changed, loops, defs. -/
namespace HW
open PySem PySem.Spec L2
section
variable {X : Cx} {S : Sls} {M : Mp} {a b c e o i tg iter : Expr} {es : List Expr} {sh s1 s2 s3 : Sh} {ss : List Sh} {pos p apos : Pos} {x y z : Str} {ds : List PyData} {D : Ends} {B : Bs} {rest body orelse : List Stmt}
/-! ### targets -/
theorem sx_asg {d : PyData} {is : List Nat} {f : Sls → Sls} (h : EX X e S M (.d d)) (hg : GX X tg d is f) (k : SX X rest D (f S) M B) (hs : swapsWithSole [tg] e pos.line X.env = pure false := by rfl) (hw : swappedStores [tg] e X.env = pure none := by rfl)
    (h1 : (assignEach [tg] X.env).map (·.2) = [assign tg X.env] := by rfl) : SX X (.Assign [tg] e pos :: rest) D S M B :=
  sx_of (ps_asg pe_ej pg_gj hs hw h1) fun I H σ s => h I H σ s.x.t s.l s.m _ fun v I2 H2 e2 hv => hg I2 H2 σ S v e2.t (s.l.mono e2.i) hv _ fun σ' l' _ => k I2 H2 σ' ⟨s.x.trans e2, s.g.trans e2.i, l', s.m.ext e2, s.fr⟩
/-- (a, b, c) = a triple -/
theorem gx_tri (i j l : Nat) {py pz : Pos} {kk : _} {d1 d2 d3 : PyData} (hc : X.calm = true) (hN : X.N.Nodup) (hi : X.N[i]? = some x) (hj : X.N[j]? = some y) (hl : X.N[l]? = some z) (hx : Loc X.env.scope x := by first | exact Or.inl rfl | exact Or.inr rfl) (hy : Loc X.env.scope y := by first | exact Or.inl rfl | exact Or.inr rfl) (hz : Loc X.env.scope z := by first | exact Or.inl rfl | exact Or.inr rfl)
    (hf : X.fn x = true ∨ X.env.scope.names.lookup x = some .local := by first | exact .inl rfl | exact .inr rfl) (hf2 : X.fn y = true ∨ X.env.scope.names.lookup y = some .local := by first | exact .inl rfl | exact .inr rfl) (hf3 : X.fn z = true ∨ X.env.scope.names.lookup z = some .local := by first | exact .inl rfl | exact .inr rfl)
    (h1 : (assignEach (.Name x p :: [.Name y py, .Name z pz]) X.env).map (·.2) = assign (.Name x p) X.env :: (assignEach [.Name y py, .Name z pz] X.env).map (·.2) := by rfl) (h2 : (assignEach (.Name y py :: [.Name z pz]) X.env).map (·.2) = assign (.Name y py) X.env :: (assignEach [.Name z pz] X.env).map (·.2) := by rfl)
    (h3 : (assignEach (.Name z pz :: []) X.env).map (·.2) = assign (.Name z pz) X.env :: (assignEach [] X.env).map (·.2) := by rfl)
    (hn : (assignEach [.Name x p, .Name y py, .Name z pz] X.env).length = 3 := by rfl) (hst : (assignEach [.Name x p, .Name y py, .Name z pz] X.env).findIdx? (·.1) = none := by rfl) :
    GX X (.Tuple [.Name x p, .Name y py, .Name z pz] kk pos) (.tuple [d1, d2, d3]) [i, j, l] (fun S => ((S.set i (some (.d d1))).set j (some (.d d2))).set l (some (.d d3))) := fun I H σ S v t ls hv Q k => by
  obtain ⟨q, xs, rfl, g1, g2⟩ := dp_tup hv
  cases g2 with
  | cons a1 r1 =>
    cases r1 with
    | cons a2 r2 =>
      cases r2 with
      | cons a3 r3 =>
        cases r3
        exact gj_of (pg_tup hc (pgs_cons (pg_name hN hi hx hf) (pgs_cons (pg_name hN hj hy hf2) (pgs_cons (pg_name hN hl hz hf3) pgs_nil h3) h2) h1) hn hst) ⟨q, _, rfl, sqT_mono t g1, rfl, _, _, rfl, _, _, rfl, _, _, rfl, rfl, k _ (Sl.set (sh := .d d3) a3 l (Sl.set (sh := .d d2) a2 j (Sl.set (sh := .d d1) a1 i ls))) fun vs h => by
          rw [wipe_set (h l (by simp)), wipe_set (h j (by simp)), wipe_set (h i (by simp))]⟩
/-! ### new lists that will be changed -/
/-- e makes a new list of such things -/
def EXL (X : Cx) (e : Expr) (S : Sls) (M : Mp) (ss : List Sh) : Prop :=
  ∀ (I H : Hp) (σ : L2.St), Same I H → Sl X.K I σ S → MOk X.K I H M → ∀ Q : VK, (∀ q vs I2 H2, Ext I H I2 H2 → H2 q = none → ShA X.K I2 vs ss → Q (.ref q) (upd H2 q (.lst vs))) → EJ X e σ H Q
theorem exl_lst (ha : AX X es S M ss) (hz : ss.length ≤ 100000) : EXL X (.List es pos) S M ss := fun I H σ t l m Q k =>
  ej_of (pe_lst pa_aj) (ha I H σ t l m _ fun vs I2 H2 e2 hv => ⟨by rw [hv.length]; exact sz_of' hz, fun q hq => k q vs I2 H2 e2 hq hv⟩)
theorem exl_list (T : Txt X.K X.mg) {d : PyData} (hd : seqD d = some ds) (ha : EX X a S M (.d d)) (hg : Gl X "list" := by rfl) (he : starEach (a :: []) X.env = (false, eval a X.env) :: starEach [] X.env := by rfl) (hpl : (backTo pos (starEach [] X.env)).any (·.1) = false := by rfl) :
    EXL X (.Call (.Name "list" p) [a] [] pos) S M (ds.map Sh.d) := fun I H σ t l m Q k =>
  ej_of (pe_callTy call_list_of hg (T.free _ (by decide +kernel)) boot_list' (pa_cons pe_ej pa_nil he) (he := he) (hpl := hpl)) (ha I H σ t l m _ fun v I2 H2 e2 hv => by
    obtain ⟨q, xs, rfl, h2, h3⟩ := seq_of hv hd
    exact ⟨q, xs, rfl, sq_mono e2.t h2, fun w hw => k w xs I2 H2 e2 hw (ShA.of_dat h3)⟩)
theorem fresh_M {K : PySem.W.Frag} {I H : Hp} {M : Mp} {q : Addr} (m : MOk K I H M) (h : H q = none) : M q = none := by
  cases e : M q with
  | none => rfl
  | some o =>
    obtain ⟨u, hu⟩ := MO.there (m q o e).2
    rw [h] at hu
    cases hu
theorem sx_newL (j : Nat) (hN : X.N.Nodup) (hi : X.N[j]? = some x) (h : EXL X e S M ss) (k : ∀ q, M q = none → SX X rest D (S.set j (some (.v (.ref q)))) (mset M q (.lst ss)) B) (hx : Loc X.env.scope x := by first | exact Or.inl rfl | exact Or.inr rfl)
    (hs : swapsWith e (some (.Name x p)) pos.line X.env = pure false := by rfl) (hf : X.fn x = true ∨ X.env.scope.names.lookup x = some .local := by first | exact .inl rfl | exact .inr rfl) : SX X (.Assign [.Name x p] e pos :: rest) D S M B :=
  sx_of (ps_set hN hi hx pe_ej hs hf) fun I H σ s => h I H σ s.x.t s.l s.m _ fun q vs I2 H2 e2 hq hvs =>
    k q (fresh_M (s.m.ext e2) hq) I2 _ _ (Stt.set (sh := .v (.ref q)) ((s.ext e2).newM (mo := .lst ss) hq ⟨vs, upd_same, hvs⟩) j rfl)
/-- a, b = e1, e2: what is wanted of the two, one behind the other -/
theorem sx_parQ (i j : Nat) {kt k2} {py pt pt2 : Pos} (hc : X.calm = true) (hN : X.N.Nodup) (hi : X.N[i]? = some x) (hj : X.N[j]? = some y) (hij : i ≠ j)
    (q : ∀ (I H : Hp) (σ : L2.St), Stt X.K B I H M σ S → EJ X a σ H fun u H1 => EJ X b σ H1 fun v H2 => SJ X rest D ((σ.set i (some u)).set j (some v)) H2)
    (hx : X.env.scope.names.lookup x = some .local := by rfl) (hy : X.env.scope.names.lookup y = some .local := by rfl)
    (hw : swappedStores [.Tuple [.Name x p, .Name y py] kt pt] (.Tuple [a, b] k2 pt2) X.env = pure (some [x, y]) := by rfl) (hs : swapsWithSole [.Tuple [.Name x p, .Name y py] kt pt] (.Tuple [a, b] k2 pt2) pos.line X.env = pure false := by rfl)
    (he : starEach (a :: [b]) X.env = (false, eval a X.env) :: starEach [b] X.env := by rfl) (he2 : starEach (b :: []) X.env = (false, eval b X.env) :: starEach [] X.env := by rfl) :
    SX X (.Assign [.Tuple [.Name x p, .Name y py] kt pt] (.Tuple [a, b] k2 pt2) pos :: rest) D S M B :=
  sx_of (ps_par hc hN hi hj hij hx hy (pa_cons pe_ej (pa_cons pe_ej pa_nil he2) he) hw hs) fun I H σ s => by
    have h1 := q I H σ s
    show EJ X a σ H fun u H1 => EJ X b σ H1 fun v H2 => ∃ u' v', [u, v] = [u', v'] ∧ _
    exact ej_imp h1 fun u H1 h2 => ej_imp h2 fun v H2 h3 => ⟨u, v, rfl, h3⟩
/-- a new list, in the middle of a statement -/
theorem exl_q {I H : Hp} {σ : L2.St} (s : Stt X.K B I H M σ S) (h : EXL X e S M ss) {Q : VK} (k : ∀ q I2 H2, M q = none → Ext I (H) I2 (H2) → Stt X.K B I2 H2 M σ S → ∀ vs, H2 q = none → ShA X.K I2 vs ss → Stt X.K B I2 (upd H2 q (.lst vs)) (mset M q (.lst ss)) σ S → Q (.ref q) (upd H2 q (.lst vs))) : EJ X e σ H Q :=
  h I H σ s.x.t s.l s.m _ fun q vs I2 H2 e2 hq hvs => k q I2 H2 (fresh_M (s.m.ext e2) hq) e2 (s.ext e2) vs hq hvs ((s.ext e2).newM (mo := .lst ss) hq ⟨vs, upd_same, hvs⟩)
theorem ex_q {I H : Hp} {σ : L2.St} (s : Stt X.K B I H M σ S) (h : EX X e S M sh) {Q : VK} (k : ∀ v I2 H2, Stt X.K B I2 H2 M σ S → Ext I H I2 H2 → sh.ok X.K I2 v → Q v H2) : EJ X e σ H Q :=
  h I H σ s.x.t s.l s.m _ fun v I2 H2 e2 hv => k v I2 H2 (s.ext e2) e2 hv

/-! ### lists that are changed -/
theorem tyV_list {K : PySem.W.Frag} {H : Hp} {q : Addr} {vs : List V} (h : H q = some (.lst vs)) : tyV K "list" (.ref q) H := .inl ⟨rfl, vs, SqL.of h⟩
theorem sx_app {q : Addr} {xs : List Sh} (hM : M q = some (.lst xs)) (hz : xs.length < 100000) (ho : EX X o S M (.v (.ref q))) (he : EX X e S M sh) (k : SX X rest D S (mset M q (.lst (xs ++ [sh]))) B)
    (hbase : attributeBase o "append" X.env (eval o X.env) = eval o X.env := by rfl)
    (hfew : ((backTo p (starEach (e :: []) X.env)).all (fun x => !x.1) && (backToKw p (keywordEach [] X.env)).all (fun x => x.1.isSome)
      && decide ((e :: ([] : List Expr)).length + ([] : List Keyword).length + (if ([] : List Keyword).isEmpty then 0 else 1) < 30)) = true := by rfl)
    (hline : (apos.endLine == p.line) = true := by rfl) (hs : starEach (e :: []) X.env = (false, eval e X.env) :: starEach [] X.env := by rfl) (hplain : (backTo p (starEach [] X.env)).any (·.1) = false := by rfl)
    (hs2 : swapsWith (.Call (.Attribute o "append" apos) [e] [] p) none pos.line X.env = pure false := by rfl) : SX X (.Expr (.Call (.Attribute o "append" apos) [e] [] p) pos :: rest) D S M B :=
  sx_of (ps_expr (pe_bm PySem.F.plainAttrs_list PySem.F.slot_list_append PySem.F.type_list_append mt_append pe_ej (pa_cons pe_ej pa_nil hs) hbase hfew hline hs hplain) hs2) fun I H σ s => ho I H σ s.x.t s.l s.m _ fun v I2 H2 e2 hv => by
    obtain ⟨n1, vs, g1, g2⟩ := s.m.ext e2 q _ hM
    rw [show v = .ref q from hv]
    refine ⟨tyV_list g1, ?_⟩
    refine he I2 H2 σ e2.t (s.l.mono e2.i) (s.m.ext e2) _ fun w I3 H3 e3 hw => ?_
    refine ⟨q, vs, w, rfl, rfl, e3.h _ _ g1, by rw [g2.length]; exact sz_lt' hz, ?_⟩
    exact k I3 _ σ ((s.ext (e2.trans e3)).put (mo := .lst (xs ++ [sh])) hM ⟨vs ++ [w], upd_same, ShA.append (g2.mono e3.i) ⟨hw, trivial⟩⟩)
theorem sx_ext {q : Addr} {xs : List Sh} (hM : M q = some (.lst xs)) (hz : xs.length + ds.length ≤ 100000) (ho : EX X o S M (.v (.ref q))) (he : EX X e S M (.nl ds)) (k : SX X rest D S (mset M q (.lst (xs ++ ds.map Sh.d))) B)
    (hbase : attributeBase o "extend" X.env (eval o X.env) = eval o X.env := by rfl)
    (hfew : ((backTo p (starEach (e :: []) X.env)).all (fun x => !x.1) && (backToKw p (keywordEach [] X.env)).all (fun x => x.1.isSome)
      && decide ((e :: ([] : List Expr)).length + ([] : List Keyword).length + (if ([] : List Keyword).isEmpty then 0 else 1) < 30)) = true := by rfl)
    (hline : (apos.endLine == p.line) = true := by rfl) (hs : starEach (e :: []) X.env = (false, eval e X.env) :: starEach [] X.env := by rfl) (hplain : (backTo p (starEach [] X.env)).any (·.1) = false := by rfl)
    (hs2 : swapsWith (.Call (.Attribute o "extend" apos) [e] [] p) none pos.line X.env = pure false := by rfl) : SX X (.Expr (.Call (.Attribute o "extend" apos) [e] [] p) pos :: rest) D S M B :=
  sx_of (ps_expr (pe_bm PySem.F.plainAttrs_list PySem.F.slot_list_extend PySem.F.type_list_extend mt_extend pe_ej (pa_cons pe_ej pa_nil hs) hbase hfew hline hs hplain) hs2) fun I H σ s => ho I H σ s.x.t s.l s.m _ fun v I2 H2 e2 hv => by
    obtain ⟨n1, vs, g1, g2⟩ := s.m.ext e2 q _ hM
    rw [show v = .ref q from hv]
    refine ⟨tyV_list g1, ?_⟩
    refine he I2 H2 σ e2.t (s.l.mono e2.i) (s.m.ext e2) _ fun w I3 H3 e3 hw => ?_
    obtain ⟨b, zs, rfl, w1, w2⟩ := hw
    refine ⟨q, b, vs, zs, rfl, rfl, e3.h _ _ g1, e3.t _ _ w1, by rw [g2.length, dpAll_length w2]; exact sz_of' hz, ?_⟩
    exact k I3 _ σ ((s.ext (e2.trans e3)).put (mo := .lst (xs ++ ds.map Sh.d)) hM ⟨vs ++ zs, upd_same, ShA.append (g2.mono e3.i) (ShA.of_dat w2)⟩)
/-- xs[i] = e -/
theorem sx_put {q : Addr} {xs : List Sh} {k : Int} {j : Nat} {p2 : Pos} (hM : M q = some (.lst xs)) (hj : ixN xs.length k = some j) (he : EX X e S M sh) (ho : EX X o S M (.v (.ref q))) (hi : EX X i S M (.d (.int k))) (kk : SX X rest D S (mset M q (.lst (xs.set j sh))) B)
    (ha : ∀ v, assign (.Subscript o i p2) X.env v = (do
      let ov ← holding [v] (eval o X.env)
      let iv ← holding [v, ov] (eval i X.env)
      standAt p2
      holding [v, ov, iv] (setItem ov iv v)
      release [v, ov, iv] []) := by intro _; rfl)
    (hs : swapsWithSole [.Subscript o i p2] e pos.line X.env = pure false := by rfl) (hw : swappedStores [.Subscript o i p2] e X.env = pure none := by rfl) (h1 : (assignEach [.Subscript o i p2] X.env).map (·.2) = [assign (.Subscript o i p2) X.env] := by rfl) :
    SX X (.Assign [.Subscript o i p2] e pos :: rest) D S M B :=
  sx_of (ps_asg pe_ej (pg_sub pe_ej pe_ej set_list ha) hs hw h1) fun I H σ s => he I H σ s.x.t s.l s.m _ fun v I2 H2 e2 hv => ho I2 H2 σ e2.t (s.l.mono e2.i) (s.m.ext e2) _ fun w I3 H3 e3 hw => hi I3 H3 σ e3.t ((s.l.mono e2.i).mono e3.i) ((s.m.ext e2).ext e3) _ fun y I4 H4 e4 hy => by
    have s4 := ((s.ext e2).ext e3).ext e4
    obtain ⟨n1, vs, g1, g2⟩ := s4.m q _ hM
    refine ⟨q, vs, k, j, hw, dp_int hy, g1, by rw [g2.length]; exact hj, ?_⟩
    exact kk I4 _ σ (s4.put (mo := .lst (xs.set j sh)) hM ⟨vs.set j v, upd_same, ShA.set (Sh.mono (e3.i.trans e4.i) hv) j g2⟩)
/-- x = xs.pop() -/
theorem ej_pop {q : Addr} {xs : List Sh} (hM : M q = some (.lst xs)) {sl : Sh} (hl : xs[xs.length - 1]? = some sl) (ho : EX X o S M (.v (.ref q))) {I H : Hp} {σ : L2.St} (s : Stt X.K B I H M σ S) {Q : VK}
    (k : ∀ v I2 H2, Stt X.K B I2 H2 (mset M q (.lst xs.dropLast)) σ S → sl.ok X.K I2 v → Q v H2) (hbase : attributeBase o "pop" X.env (eval o X.env) = eval o X.env := by rfl) (hline : (apos.endLine == p.line) = true := by rfl) : EJ X (.Call (.Attribute o "pop" apos) [] [] p) σ H Q :=
  ej_of (pe_bm0 PySem.F.plainAttrs_list PySem.F.slot_list_pop PySem.F.type_list_pop mt_pop pe_ej hbase hline) (ho I H σ s.x.t s.l s.m _ fun v I2 H2 e2 hv => by
    obtain ⟨n1, vs, g1, g2⟩ := s.m.ext e2 q _ hM
    rw [show v = .ref q from hv]
    obtain ⟨w, w1, w2⟩ := g2.get hl
    exact ⟨tyV_list g1, q, vs, w, rfl, rfl, g1, by rw [g2.length]; exact w1, k w I2 _ ((s.ext e2).put (mo := .lst xs.dropLast) hM ⟨vs.dropLast, upd_same, g2.dropLast⟩) w2⟩)
/-- x = xs.pop(0) -/
theorem ej_pop0 {q : Addr} {sl : Sh} {xs : List Sh} (hM : M q = some (.lst (sl :: xs))) (ho : EX X o S M (.v (.ref q))) (he : EX X e S M (.d (.int 0))) {I H : Hp} {σ : L2.St} (s : Stt X.K B I H M σ S) {Q : VK}
    (k : ∀ v I2 H2, Stt X.K B I2 H2 (mset M q (.lst xs)) σ S → sl.ok X.K I2 v → Q v H2) (hbase : attributeBase o "pop" X.env (eval o X.env) = eval o X.env := by rfl)
    (hfew : ((backTo p (starEach (e :: []) X.env)).all (fun x => !x.1) && (backToKw p (keywordEach [] X.env)).all (fun x => x.1.isSome)
      && decide ((e :: ([] : List Expr)).length + ([] : List Keyword).length + (if ([] : List Keyword).isEmpty then 0 else 1) < 30)) = true := by rfl)
    (hline : (apos.endLine == p.line) = true := by rfl) (hs : starEach (e :: []) X.env = (false, eval e X.env) :: starEach [] X.env := by rfl) (hplain : (backTo p (starEach [] X.env)).any (·.1) = false := by rfl) : EJ X (.Call (.Attribute o "pop" apos) [e] [] p) σ H Q :=
  ej_of (pe_bm PySem.F.plainAttrs_list PySem.F.slot_list_pop PySem.F.type_list_pop mt_popAt pe_ej (pa_cons pe_ej pa_nil hs) hbase hfew hline hs hplain) (ho I H σ s.x.t s.l s.m _ fun v I2 H2 e2 hv => by
    obtain ⟨n1, vs, g1, g2⟩ := s.m.ext e2 q _ hM
    rw [show v = .ref q from hv]
    refine ⟨tyV_list g1, ?_⟩
    refine he I2 H2 σ e2.t (s.l.mono e2.i) (s.m.ext e2) _ fun w I3 H3 e3 hw => ?_
    have g3 := g2.mono e3.i
    match vs, g1, g3 with
    | v0 :: vr, g1, g3 =>
      refine ⟨q, v0 :: vr, 0, 0, v0, rfl, by rw [dp_int hw], e3.h _ _ g1, by decide, by decide, ?_, rfl, ?_⟩
      · have z := (ixN_seq (n := (v0 :: vr).length) (i := 0) (j := 0) (by unfold ixN; rw [if_pos (by decide), if_pos (by rw [List.length_cons]; omega)]; rfl)).1
        exact z
      · exact k v0 I3 _ ((s.ext (e2.trans e3)).put (mo := .lst xs) hM ⟨vr, upd_same, g3.2⟩) g3.1)

/-! ### dicts that are changed: keys are ints -/
theorem sx_dput {q : Addr} {kvs : List (Key × V)} {k : Int} {v : V} {p2 : Pos} (hu : X.A.units + 1 < cLine) (hM : M q = some (.dct kvs)) (hz : kvs.length < 100000) (he : EX X e S M sh) (hv : ∀ I u, sh.ok X.K I u → u = v) (ho : EX X o S M (.v (.ref q))) (hi : EX X i S M (.d (.int k)))
    (kk : SX X rest D S (mset M q (.dct (putK kvs (Sum.inl k) v))) B) (hs : swapsWith e (some (.Subscript o i p2)) pos.line X.env = pure false := by rfl) : SX X (.Assign [.Subscript o i p2] e pos :: rest) D S M B :=
  sx_of (ps_dput hu pe_ej pe_ej pe_ej hs) fun I H σ s => he I H σ s.x.t s.l s.m _ fun u I2 H2 e2 hu' => ho I2 H2 σ e2.t (s.l.mono e2.i) (s.m.ext e2) _ fun w I3 H3 e3 hw => hi I3 H3 σ e3.t ((s.l.mono e2.i).mono e3.i) ((s.m.ext e2).ext e3) _ fun y I4 H4 e4 hy => by
    have s4 := ((s.ext e2).ext e3).ext e4
    obtain ⟨n1, g1⟩ := s4.m q _ hM
    have g1 : H4 q = some (.dK kvs) := g1
    rw [hv _ _ hu', dp_int hy]
    exact ⟨q, _, hw, DPut.k (k := Sum.inl k) g1 (sz_lt' hz), kk I4 _ σ (s4.put (mo := .dct (putK kvs (Sum.inl k) v)) hM upd_same)⟩
theorem ex_dget {q : Addr} {kvs : List (Key × V)} {k : Int} {v : V} (hu : X.A.units + 1 < cLine) (hM : M q = some (.dct kvs)) (hk : valV kvs (Sum.inl k) = some v) (hv : ∀ I, sh.ok X.K I v) (ho : EX X o S M (.v (.ref q))) (hi : EX X i S M (.d (.int k))) (hs : NoSl i := by exact fun _ _ => rfl) : EX X (.Subscript o i pos) S M sh := fun I H σ t l m Q kk =>
  ej_of (pe_dget hu pe_ej pe_ej hs) (bin2 ho hi t l m fun x y I2 H2 e2 hx hy => by
    obtain ⟨n1, g1⟩ := m.ext e2 q _ hM
    have g1 : H2 q = some (.dK kvs) := g1
    rw [dp_int hy]
    refine ⟨q, v, hx, ?_, kk v I2 H2 e2 (hv I2)⟩
    have z := DGet.k (k := Sum.inl k) g1
    rw [hk] at z
    exact z)
theorem ex_dget2 {q : Addr} {kvs : List (Key × V)} {k : Int} {f : Expr} (hu : X.A.units + 1 < cLine) (hM : M q = some (.dct kvs)) {dv : V} (hf : EX X f S M s2) (hfv : ∀ I u, s2.ok X.K I u → u = dv) (hv : ∀ I, sh.ok X.K I ((valV kvs (Sum.inl k)).getD dv)) (ho : EX X o S M (.v (.ref q))) (hi : EX X i S M (.d (.int k))) (m2 : M2 X o "get" apos i f p := by exact ⟨rfl, rfl, rfl, rfl⟩) :
    EX X (.Call (.Attribute o "get" apos) [i, f] [] p) S M sh := fun I H σ t l m Q kk =>
  ej_of (pe_dget2 hu pe_ej pe_ej pe_ej m2) (ho I H σ t l m _ fun x I2 H2 e2 hx => by
    obtain ⟨n1, g1⟩ := m.ext e2 q _ hM
    have g1 : H2 q = some (.dK kvs) := g1
    refine ⟨q, hx, .inl ⟨kvs, .inl g1⟩, ?_⟩
    refine hi I2 H2 σ e2.t (l.mono e2.i) (m.ext e2) _ fun y I3 H3 e3 hy => ?_
    refine hf I3 H3 σ e3.t ((l.mono e2.i).mono e3.i) ((m.ext e2).ext e3) _ fun z I4 H4 e4 hz => ?_
    rw [dp_int hy, hfv _ _ hz]
    exact ⟨_, DGet.k (k := Sum.inl k) (e4.h _ _ (e3.h _ _ g1)), kk _ I4 H4 ((e2.trans e3).trans e4) (hv I4)⟩)
theorem tx_din {q : Addr} {kvs : List (Key × V)} {k : Int} (hu : X.A.units + 1 < cLine) (hM : M q = some (.dct kvs)) (hi : EX X i S M (.d (.int k))) (ho : EX X o S M (.v (.ref q))) (h1 : behindInMarks .In o = false := by rfl) : TX X (.Compare i [.In] [o] pos) S M (valV kvs (Sum.inl k)).isSome := fun I H σ t l m Q kk =>
  tj_of (pt_cmp (pc_din hu pe_ej pe_ej) h1) (bin2 hi ho t l m fun x y I2 H2 e2 hx hy => by
    obtain ⟨n1, g1⟩ := m.ext e2 q _ hM
    have g1 : H2 q = some (.dK kvs) := g1
    rw [dp_int hx]
    exact ⟨q, _, hy, DGet.k (k := Sum.inl k) g1, _, rfl, kk I2 H2 e2⟩)
theorem tx_dnin {q : Addr} {kvs : List (Key × V)} {k : Int} (hu : X.A.units + 1 < cLine) (hM : M q = some (.dct kvs)) (hi : EX X i S M (.d (.int k))) (ho : EX X o S M (.v (.ref q))) (h1 : behindInMarks .NotIn o = false := by rfl) : TX X (.Compare i [.NotIn] [o] pos) S M (!(valV kvs (Sum.inl k)).isSome) := fun I H σ t l m Q kk =>
  tj_of (pt_cmp (pc_dnotin hu pe_ej pe_ej) h1) (bin2 hi ho t l m fun x y I2 H2 e2 hx hy => by
    obtain ⟨n1, g1⟩ := m.ext e2 q _ hM
    have g1 : H2 q = some (.dK kvs) := g1
    rw [dp_int hx]
    exact ⟨q, _, hy, DGet.k (k := Sum.inl k) g1, _, rfl, kk I2 H2 e2⟩)
theorem ex_din {q : Addr} {kvs : List (Key × V)} {k : Int} (hu : X.A.units + 1 < cLine) (hM : M q = some (.dct kvs)) (hi : EX X i S M (.d (.int k))) (ho : EX X o S M (.v (.ref q))) (h1 : behindInMarks .In o = false := by rfl) : EX X (.Compare i [.In] [o] pos) S M (.d (.bool (valV kvs (Sum.inl k)).isSome)) := fun I H σ t l m Q kk =>
  ej_of (pe_cmp (pc_din hu pe_ej pe_ej) h1) (bin2 hi ho t l m fun x y I2 H2 e2 hx hy => by
    obtain ⟨n1, g1⟩ := m.ext e2 q _ hM
    have g1 : H2 q = some (.dK kvs) := g1
    rw [dp_int hx]
    exact ⟨q, _, hy, DGet.k (k := Sum.inl k) g1, kk _ I2 H2 e2 (.bl _)⟩)

/-! ### loops -/
theorem sx_for {α : Type} {is : List Nat} (xs : List α) (enc : α → PyData) (f : α → Sls → Sls) (P : Nat → Sls → Mp → Prop) (hp : PassesOwn (model X.prog X.w) X.A X.env X.xe) (hc : X.calm = true) (hi : IX X tg iter S M (xs.map enc)) (hg : ∀ z, GX X tg (enc z) is (f z))
    (h0 : P 0 S M) (hs : ∀ (i : Nat) (z : α) (S' : Sls) (M' : Mp) (G : Hp), xs[i]? = some z → P i S' M' → SX X body { nx := Wf X.K ⟨B.I, B.H, G⟩ (P (i + 1)), rt := D.rt, bk := SJ X rest D, ct := Wf X.K ⟨B.I, B.H, G⟩ (P (i + 1)) } (f z S') M' ⟨B.I, B.H, G⟩)
    (hd : ∀ S' M', P xs.length S' M' → SX X rest D S' M' B) (hs0 : ∀ x, foldedSetIterable iter X.env x = pure x := by intro _; rfl) : SX X (.For tg iter body [] pos :: rest) D S M B := by
  obtain ⟨wi, pi, hw⟩ := hi
  refine sx_of (ps_for hp hc pi pg_gj pss_sj hs0) fun I H σ s => ?_
  refine hw I H σ s.x.t s.l s.m _ fun J I2 H2 e2 wk => ?_
  have hl : (xs.map enc).length = xs.length := List.length_map _
  have s2 := s.ext e2
  refine ⟨fun i m σ' H' => m = xs.length - i ∧ i ≤ xs.length ∧ ∃ I' S' M', Stt X.K ⟨B.I, B.H, B.G⟩ I' H' M' σ' S' ∧ Same I2 I' ∧ P i S' M', ⟨xs.length, by simp, Nat.zero_le _, I2, S, M, s2, Same.refl I2, h0⟩, ?_⟩
  rintro i m σ' H' ⟨rfl, hile, I', S', M', s', g', pr⟩
  by_cases hlt : i < xs.length
  · have hx : xs[i]? = some xs[i] := List.getElem?_eq_getElem hlt
    refine .inr ⟨wk.go i I' H' g' s'.x.t (by rw [hl]; exact hlt), Wf X.K ⟨B.I, B.H, I2⟩ (P (i + 1)), fun σ3 H3 q => ?_, fun v H3 y => ?_⟩
    · obtain ⟨I3, S3, M3, s3, p3⟩ := q
      have g3 : Same I2 I3 := s3.g
      exact ⟨xs.length - (i + 1), by omega, rfl, hlt, I3, S3, M3, ⟨s3.x, s2.g.trans g3, s3.l, s3.m, s3.fr⟩, g3, p3⟩
    · obtain ⟨Iy, ey, dy⟩ := wk.yld i (enc xs[i]) I' H' v H3 g' s'.x.t (by rw [List.getElem?_map, hx]; rfl) y
      have sy := s'.ext ey
      refine hg xs[i] Iy H3 σ' S' v ey.t sy.l dy _ fun σ4 l4 _ => ?_
      exact hs i xs[i] S' M' I2 hx pr Iy H3 σ4 ⟨sy.x, g'.trans ey.i, l4, sy.m, sy.fr⟩
  · have ei : i = xs.length := by omega
    subst ei
    exact .inl ⟨wk.stop _ I' H' g' s'.x.t hl, hd S' M' pr I' H' σ' s'⟩
theorem sx_while (P : Nat → Sls → Mp → Prop) (n : Nat) (hp : PassesOwn (model X.prog X.w) X.A X.env X.xe) (h0 : P n S M)
    (hs : ∀ (n : Nat) (S' : Sls) (M' : Mp), P n S' M' → ∃ k : Bool, TX X c S' M' k ∧ (k = true → SX X body { nx := Wf X.K B (fun S'' M'' => ∃ m, m < n ∧ P m S'' M''), rt := D.rt, bk := SJ X rest D, ct := Wf X.K B (fun S'' M'' => ∃ m, m < n ∧ P m S'' M'') } S' M' B) ∧ (k = false → SX X rest D S' M' B)) :
    SX X (.While c body [] pos :: rest) D S M B := by
  refine sx_of (ps_while hp pt_tj pss_sj) fun I H σ s => ?_
  refine ⟨fun m σ' H' => Wf X.K B (P m) σ' H', ⟨n, I, S, M, s, h0⟩, ?_⟩
  rintro m σ' H' ⟨I', S', M', s', pr⟩
  obtain ⟨k, h1, h2, h3⟩ := hs m S' M' pr
  refine h1 I' H' σ' s'.x.t s'.l s'.m _ fun I2 H2 e2 => ?_
  have s2 := s'.ext e2
  cases k with
  | true =>
    rw [if_pos rfl]
    refine ⟨_, fun σ3 H3 q => ?_, h2 rfl I2 H2 σ' s2⟩
    obtain ⟨I3, S3, M3, s3, m', hm, p3⟩ := q
    exact ⟨m', hm, I3, S3, M3, s3, p3⟩
  | false =>
    rw [if_neg Bool.false_ne_true]
    exact h3 rfl I2 H2 σ' s2

/-! ### a def -/
theorem sl_start {K : PySem.W.Frag} {I : Hp} {N : List Str} {vs : List V} {ss : List Sh} (h : ShA K I vs ss) : Sl K I (L2.start N vs) (startS N ss) := by
  unfold L2.start startS
  rw [h.length]
  have go : ∀ {vs : List V} {ss : List Sh} (k : Nat), ShA K I vs ss → Sl K I (vs.map some ++ List.replicate k none) (ss.map some ++ List.replicate k none) := by
    intro vs
    induction vs with
    | nil => intro ss k h; cases ss with
      | nil => exact sl_none k
      | cons _ _ => exact h.elim
    | cons v vs ih => intro ss k h; cases ss with
      | nil => exact h.elim
      | cons s ss => exact ⟨h.1, ih k h.2⟩
  exact go _ h
end
section
variable {P : Program} {w : World} {K : PySem.W.Frag} {mg : Str → Option Value} {base : Heap} {nm qual : Str} {params : Arguments} {body : List Stmt} {scope : Scope} {dvs : List V} {kws : List (Str × V)} {f : Addr} {fd : FuncData}
/-- THE RULE for a def that changes nothing and raises nothing: C tells its arguments and its answer -/
theorem ok_pure {N ps : List Str} {k : Nat} {C : List Sh → Sh → Prop} (F : FunD K nm qual params body scope dvs kws f fd) (S : FnScope N ps scope) (len : ∀ ss sh, C ss sh → ss.length = ps.length)
    (hb : ∀ (cdv : Value) (A : Around) (outer : List Env) (s : Shared) (H : Hp) (E : XK) (ss : List Sh) (sh : Sh) (B : Bs), Room k (A.deeper (PyProof.Rows.envOfC qual scope s.heap.objs.size f cdv)) → C ss sh →
      SX (cxOf CX0 P w K mg base N qual scope f cdv A outer s H E).nox body (DR K B sh) (startS N ss) M0 B) : FnOk P w K mg base CX0 (k + 1) f fd ps (spP K C) := by
  refine F.ok S (fun vs H Q E h => ?_) fun cdv A outer s H vs Q E hr h => ?_
  · obtain ⟨I, ss, sh, hC, t, hv, _⟩ := h
    rw [hv.length]
    exact len ss sh hC
  · obtain ⟨I, ss, sh, hC, t, hv, q⟩ := h
    refine ⟨_, PSs.nox pss_sj, ?_⟩
    have z := hb cdv A outer s H E ss sh ⟨I, H, I⟩ hr hC I H (L2.start N vs) ⟨Ext.refl t, Same.refl I, sl_start hv, MOk.none, fun _ _ q => nomatch q⟩
    intro pins s' J
    refine thn (z pins s' J) fun fl s2 h2 => ?_
    cases fl with
    | next => obtain ⟨σ', H', J', I', e', hs⟩ := h2; exact ⟨σ', H', J', q _ I' H' e' hs⟩
    | ret u => obtain ⟨v, σ', H', J', rv, I', e', hs⟩ := h2; exact ⟨v, σ', H', J', rv, q _ I' H' e' hs⟩
    | brk => exact h2
    | cont => exact h2
/-- how its arguments bind -/
theorem bindsD {ps : List Str} (F : FunD K nm qual params body scope [] [] f fd)
    (h : ∀ (kV doc pm : Value) (an : Option Addr) (cdv ct : Value) (us : List Value), us.length = ps.length → bindArgs (PySem.W.fnOf nm qual params body scope .none kV doc pm an cdv ct) ⟨us, []⟩ = pure (ps.zip us)) : Binds K fd ps [] := F.bindsN h
end
end HW
/-! Calls that change what is given; lending; freezing. -/
namespace HW
open PySem PySem.Spec L2
/-! ### what may be changed is hidden -/
def hide (M : Mp) (H : Hp) : Hp := fun a => match M a with
  | some _ => none
  | none => H a
theorem hide_same {M : Mp} {H : Hp} : Same (hide M H) H := fun a u q => by
  unfold hide at q
  split at q
  · cases q
  · exact q
theorem hide_some {M : Mp} {H : Hp} {p : Addr} {o : MO} (h : M p = some o) : hide M H p = none := by
  unfold hide; rw [h]
theorem hide_none {M : Mp} {H : Hp} {p : Addr} (h : M p = none) : hide M H p = H p := by
  unfold hide; rw [h]
def SubM (M' M : Mp) : Prop := ∀ p o, M' p = some o → M p = some o
theorem SubM.refl {M : Mp} : SubM M M := fun _ _ h => h
theorem MOk.sub {K : PySem.W.Frag} {I H : Hp} {M M' : Mp} (h : MOk K I H M) (s : SubM M' M) : MOk K I H M' := fun p o q => h p o (s p o q)
/-- a function that may change what M tells of -/
def spM (K : PySem.W.Frag) (C : List Sh → Mp → Sh → Mp → Prop) : Sp := fun vs H Q _ => ∃ I M ss sh M', C ss M sh M' ∧ Same I H ∧ MOk K I H M ∧ ShA K I vs ss ∧
  ∀ v I2 H2, Ext I (hide M H) I2 H2 → MOk K I2 H2 M' → sh.ok K I2 v → Q v H2
def DM (K : PySem.W.Frag) (B : Bs) (sh : Sh) (M' : Mp) : Ends := { nx := fun _ H => ∃ I Mx, Ext B.I B.H I H ∧ MOk K I H Mx ∧ SubM M' Mx ∧ sh.ok K I .non, rt := fun v H => ∃ I Mx, Ext B.I B.H I H ∧ MOk K I H Mx ∧ SubM M' Mx ∧ sh.ok K I v }
theorem Stt.call {K : PySem.W.Frag} {B : Bs} {I H I2 H2 : Hp} {M M' : Mp} {σ : L2.St} {S : Sls} (s : Stt K B I H M σ S) (e : Ext I (hide M H) I2 H2) (m : MOk K I2 H2 M') (d : ∀ p, M p = none → M' p = none) : Stt K B I2 H2 M' σ S where
  x := by
    have h1 : ∀ a u, B.H a = some u → hide M H a = some u := fun a u q => by
      have n : M a = none := by
        cases z : M a with
        | none => rfl
        | some o => rw [s.fr a o z] at q; cases q
      rw [hide_none n]
      exact s.x.h a u q
    exact ⟨s.x.i.trans e.i, e.t, fun a u q => e.h a u (h1 a u q), fun a o q1 q2 => e.f a o (h1 a o q1) (s.x.f a o q1 q2)⟩
  g := s.g.trans e.i
  l := s.l.mono e.i
  m := m
  fr := fun p o q => by
    cases z : M p with
    | none => rw [d p z] at q; cases q
    | some o' => exact s.fr p o' z
section
variable {P : Program} {w : World} {K : PySem.W.Frag} {mg : Str → Option Value} {base : Heap} {nm qual : Str} {params : Arguments} {body : List Stmt} {scope : Scope} {dvs : List V} {kws : List (Str × V)} {f : Addr} {fd : FuncData}
/-- THE RULE for a def that may change what is given -/
theorem ok_mut {N ps : List Str} {k : Nat} {C : List Sh → Mp → Sh → Mp → Prop} (F : FunD K nm qual params body scope dvs kws f fd) (S : FnScope N ps scope) (len : ∀ ss M sh M', C ss M sh M' → ss.length = ps.length)
    (hb : ∀ (cdv : Value) (A : Around) (outer : List Env) (s : Shared) (H : Hp) (E : XK) (ss : List Sh) (M : Mp) (sh : Sh) (M' : Mp) (B : Bs), Room k (A.deeper (PyProof.Rows.envOfC qual scope s.heap.objs.size f cdv)) → C ss M sh M' →
      SX (cxOf CX0 P w K mg base N qual scope f cdv A outer s H E).nox body (DM K B sh M') (startS N ss) M B) : FnOk P w K mg base CX0 (k + 1) f fd ps (spM K C) := by
  refine F.ok S (fun vs H Q E h => ?_) fun cdv A outer s H vs Q E hr h => ?_
  · obtain ⟨I, M, ss, sh, M', hC, t, m, hv, _⟩ := h
    rw [hv.length]
    exact len ss M sh M' hC
  · obtain ⟨I, M, ss, sh, M', hC, t, m, hv, q⟩ := h
    refine ⟨_, PSs.nox pss_sj, ?_⟩
    have z := hb cdv A outer s H E ss M sh M' ⟨I, hide M H, I⟩ hr hC I H (L2.start N vs) ⟨⟨Same.refl I, t, hide_same, fun _ _ _ n => n⟩, Same.refl I, sl_start hv, m, fun p o q => hide_some q⟩
    intro pins s' J
    refine thn (z pins s' J) fun fl s2 h2 => ?_
    cases fl with
    | next => obtain ⟨σ', H', J', I', Mx, e', m', sb, hs⟩ := h2; exact ⟨σ', H', J', q _ I' H' e' (m'.sub sb) hs⟩
    | ret u => obtain ⟨v, σ', H', J', rv, I', Mx, e', m', sb, hs⟩ := h2; exact ⟨v, σ', H', J', rv, q _ I' H' e' (m'.sub sb) hs⟩
    | brk => exact h2
    | cont => exact h2
end
section
variable {X : Cx} {S : Sls} {M : Mp} {a b c e o i tg iter : Expr} {es : List Expr} {sh s1 s2 s3 : Sh} {ss : List Sh} {pos p apos : Pos} {x y z : Str} {ds : List PyData} {D : Ends} {B : Bs} {rest body orelse : List Stmt}
/-! ### ends of such a def -/
theorem sx_retD {M' : Mp} (h : EX X e S M sh) (hs : SubM M' M) (hD : D.rt = (DM X.K B sh M').rt := by rfl) : SX X (.Return (some e) pos :: rest) D S M B :=
  sx_of (ps_ret pe_ej) fun I H σ s => h I H σ s.x.t s.l s.m _ fun v I2 H2 e2 hv => by
    show D.rt v H2
    rw [hD]
    exact ⟨I2, M, s.x.trans e2, s.m.ext e2, hs, hv⟩
theorem sx_endD {M' : Mp} (hs : SubM M' M) : SX X [] (DM X.K B (.d .none) M') S M B := sx_nil fun I H σ s => ⟨I, M, s.x, s.m, hs, .non⟩
/-- return e, e changing -/
theorem sx_retJ (q : ∀ (I H : Hp) (σ : L2.St), Stt X.K B I H M σ S → EJ X e σ H fun v H2 => D.rt v H2) : SX X (.Return (some e) pos :: rest) D S M B :=
  sx_of (ps_ret pe_ej) fun I H σ s => q I H σ s
/-! ### calls that change -/
/-- e changes M to M' and has such a value -/
def MX (X : Cx) (e : Expr) (S : Sls) (M : Mp) (sh : Sh) (M' : Mp) : Prop := ∀ (B : Bs) (I H : Hp) (σ : L2.St), Stt X.K B I H M σ S → ∀ Q : VK, (∀ v I2 H2, Same I I2 → Stt X.K B I2 H2 M' σ S → sh.ok X.K I2 v → Q v H2) → EJ X e σ H Q
theorem MX.of (h : EX X e S M sh) : MX X e S M sh M := fun B I H σ s Q k => h I H σ s.x.t s.l s.m _ fun v I2 H2 e2 hv => k v I2 H2 e2.i (s.ext e2) hv
theorem mx_call {k j : Nat} {M' : Mp} {C : List Sh → Mp → Sh → Mp → Prop} (F : FnP X.prog X.w X.K X.mg X.base x j (spM X.K C)) (hr : Room k X.A) (hC : C ss M sh M') (d : ∀ p, M p = none → M' p = none) (ha : AX X (e :: es) S M ss) (hj : j ≤ k := by decide) (hg : Gl X x := by rfl)
    (hdb : (x == ("__debug__" : Str)) = false := by decide) (he : starEach (e :: es) X.env = (false, eval e X.env) :: starEach es X.env := by rfl) (hpl : (backTo pos (starEach es X.env)).any (·.1) = false := by rfl) : MX X (.Call (.Name x p) (e :: es) [] pos) S M sh M' := fun B I H σ s Q q => by
  obtain ⟨f, fd, ps, h1, h2, h3, h4⟩ := F.ex
  exact ej_of (pe_call h4 (hr.mono hj) hg h1 h2 h3 .nil pass0 pa_aj hdb he hpl) (ha I H σ s.x.t s.l s.m _ fun vs I2 H2 e2 hvs => by
    rw [List.append_nil]
    exact ⟨I2, M, ss, sh, M', hC, e2.t, s.m.ext e2, hvs, fun v I3 H3 e3 m3 hv => q v I3 H3 (e2.i.trans e3.i) ((s.ext e2).call e3 m3 d) hv⟩)
theorem mx_meth {k j : Nat} {cl m : Str} {M' : Mp} {C : List Sh → Mp → Sh → Mp → Prop} {pl : Sem Bool} (F : MtP X.prog X.w X.K X.mg X.base cl m j (spM X.K C)) (hcl : Cls X.K (He.ga X.K cl)) (rc : Recv X.K cl m s1) (hr : Room k X.A) (hC : C (s1 :: ss) M sh M') (d : ∀ p, M p = none → M' p = none) (ho : EX X o S M s1) (ha : AX X (e :: es) S M ss) (hj : j ≤ k := by decide)
    (hst : starEach (e :: es) X.env = (false, eval e X.env) :: starEach es X.env := by rfl) (hpl : (backTo pos (starEach es X.env)).any (·.1) = false := by rfl)
    (ht : eval (.Call (.Attribute o m apos) (e :: es) [] pos) X.env = (do
      let ov ← eval o X.env
      standAt apos.atName
      let (f, first) ← holding [ov] (getMethod ov m pl)
      callWith pos f first (backTo pos (starEach (e :: es) X.env)) (backToKw pos (keywordEach [] X.env))) := by rfl) : MX X (.Call (.Attribute o m apos) (e :: es) [] pos) S M sh M' := fun B I H σ s Q q => by
  obtain ⟨f, fd, ps, h1, h3, h4⟩ := F.ex
  exact ej_of (pe_meth pe_ej hcl h1 h4 (hr.mono hj) h3 .nil pass0 pa_aj hst hpl ht) (ho I H σ s.x.t s.l s.m _ fun v I2 H2 e2 hv => by
    obtain ⟨z, dx, fs, rfl, g1, g2⟩ := rc I2 v hv
    refine ⟨z, dx, fs, rfl, e2.t _ _ g1, g2, ha I2 H2 σ e2.t (s.l.mono e2.i) (s.m.ext e2) _ fun vs I3 H3 e3 hvs => ?_⟩
    rw [List.append_nil]
    exact ⟨I3, M, s1 :: ss, sh, M', hC, e3.t, (s.m.ext e2).ext e3, ⟨Sh.mono e3.i hv, hvs⟩, fun v I4 H4 e4 m4 hv => q v I4 H4 ((e2.trans e3).i.trans e4.i) ((s.ext (e2.trans e3)).call e4 m4 d) hv⟩)
/-- the statement f(..) -/
theorem sx_exprM {M' : Mp} (h : MX X e S M sh M') (k : SX X rest D S M' B) (hs : swapsWith e none pos.line X.env = pure false := by rfl) : SX X (.Expr e pos :: rest) D S M B :=
  sx_of (ps_expr pe_ej hs) fun I H σ s => h B I H σ s _ fun v I2 H2 _ s2 hv => k I2 H2 _ s2
theorem sx_setM {M' : Mp} (i : Nat) (hN : X.N.Nodup) (hi : X.N[i]? = some x) (h : MX X e S M sh M') (k : SX X rest D (S.set i (some sh)) M' B) (hx : Loc X.env.scope x := by first | exact Or.inl rfl | exact Or.inr rfl) (hs : swapsWith e (some (.Name x p)) pos.line X.env = pure false := by rfl)
    (hf : X.fn x = true ∨ X.env.scope.names.lookup x = some .local := by first | exact .inl rfl | exact .inr rfl) : SX X (.Assign [.Name x p] e pos :: rest) D S M B :=
  sx_of (ps_set hN hi hx pe_ej hs hf) fun I H σ s => h B I H σ s _ fun v I2 H2 _ s2 hv => k I2 H2 _ (s2.set i hv)
/-- return f(..) -/
theorem sx_retMX {M1 M' : Mp} (h : MX X e S M sh M1) (hs : SubM M' M1) (hD : D.rt = (DM X.K B sh M').rt := by rfl) : SX X (.Return (some e) pos :: rest) D S M B :=
  sx_of (ps_ret pe_ej) fun I H σ s => h B I H σ s _ fun v I2 H2 _ s2 hv => by
    show D.rt v H2
    rw [hD]
    exact ⟨I2, M1, s2.x, s2.m, hs, hv⟩

/-! ### freezing -/
theorem Sl.reset {K : PySem.W.Frag} {I : Hp} {σ : L2.St} {S : Sls} {i : Nat} {v : V} {sh : Sh} (l : Sl K I σ S) (h : σ[i]? = some (some v)) (hs : sh.ok K I v) : Sl K I σ (S.set i (some sh)) := by
  have q := l.set hs i
  have e : σ.set i (some v) = σ := by
    refine List.ext_getElem? fun j => ?_
    rw [List.getElem?_set]
    split
    · rename_i e; subst e
      split
      · exact h.symm
      · rename_i n
        rw [List.getElem?_eq_none (Nat.le_of_not_lt n)] at h
        cases h
    · rfl
  rw [e] at q
  exact q
theorem sx_frz {sts : List Stmt} (i : Nat) {q : Addr} (hS : S[i]? = some (some (.v (.ref q)))) (hM : M q = some (.lst (ds.map Sh.d))) (k : SX X sts D (S.set i (some (.d (.list ds)))) (mdel M q) B) : SX X sts D S M B := fun I H σ s => by
  obtain ⟨vs, s2, hd⟩ := s.freeze hM
  obtain ⟨v, h1, h2⟩ := s.l.get hS
  cases (show v = .ref q from h2)
  exact k _ _ _ ⟨s2.x, s2.g, s2.l.reset h1 hd, s2.m, s2.fr⟩
theorem mdel_ne {M : Mp} {p a : Addr} (h : a ≠ p) : mdel M p a = M a := if_neg h
theorem sx_frzB {sts : List Stmt} (i : Nat) {n : NetP} {y z : Addr} {es' ss' : List PyData} (hS : S[i]? = some (some (.bk n y z))) (hyz : z ≠ y) (hM : M y = some (.lst (es'.map Sh.d))) (hM2 : M z = some (.lst (ss'.map Sh.d)))
    (k : SX X sts D (S.set i (some (.book n (.list es') (.list ss')))) (mdel (mdel M y) z) B) : SX X sts D S M B := fun I H σ s => by
  obtain ⟨vs, s2, hd⟩ := s.freeze hM
  obtain ⟨ws, s3, hd2⟩ := s2.freeze (show mdel M y z = _ from (mdel_ne hyz).trans hM2)
  obtain ⟨v, h1, h2⟩ := s3.l.get hS
  obtain ⟨a, dx, vn, rfl, g1, g2⟩ := h2
  refine k _ _ _ ⟨s3.x, s3.g, s3.l.reset h1 (sh := .book n (.list es') (.list ss')) ⟨a, dx, vn, _, _, rfl, g1, g2, dp_mono ?_ _ _ hd, hd2⟩, s3.m, s3.fr⟩
  obtain ⟨n1, _⟩ := s2.m z _ ((mdel_ne hyz).trans hM2)
  exact same_new n1 _

/-! ### lending: what is still changed, seen as data -/
def Flat (K : PySem.W.Frag) (sh : Sh) : Prop := ∀ I I' v, sh.ok K I v → sh.ok K I' v
theorem flat_int {K : PySem.W.Frag} {j : Int} : Flat K (.d (.int j)) := fun I I' v h => by rw [dp_int h]; exact .int _
theorem flat_bl {K : PySem.W.Frag} {j : Bool} : Flat K (.d (.bool j)) := fun I I' v h => by rw [dp_bl h]; exact .bl _
theorem flat_str {K : PySem.W.Frag} {j : Str} : Flat K (.d (.str j)) := fun I I' v h => by rw [dp_str h]; exact .str _
theorem flat_non {K : PySem.W.Frag} : Flat K (.d .none) := fun I I' v h => by rw [dp_non h]; exact .non
inductive Lend (M : Mp) : Sls → Sls → Prop
  | nil : Lend M [] []
  | same {o : Option Sh} {S S' : Sls} : Lend M S S' → Lend M (o :: S) (o :: S')
  | drop {o : Option Sh} {S S' : Sls} : Lend M S S' → Lend M (o :: S) (none :: S')
  | lst {q : Addr} {ds : List PyData} {S S' : Sls} : M q = some (.lst (ds.map Sh.d)) → Lend M S S' → Lend M (some (.v (.ref q)) :: S) (some (.d (.list ds)) :: S')
  | bk {n : NetP} {y z : Addr} {es ss : List PyData} {S S' : Sls} : M y = some (.lst (es.map Sh.d)) → M z = some (.lst (ss.map Sh.d)) → Lend M S S' → Lend M (some (.bk n y z) :: S) (some (.book n (.list es) (.list ss)) :: S')
def lent (M : Mp) (I H : Hp) : Hp := fun a => match M a with
  | some _ => H a
  | none => I a
theorem lent_same {K : PySem.W.Frag} {M : Mp} {I H : Hp} (m : MOk K I H M) : Same I (lent M I H) := fun a u q => by
  unfold lent
  cases z : M a with
  | none => exact q
  | some o => rw [(m a o z).1] at q; cases q
theorem lent_tr {M : Mp} {I H : Hp} (t : Same I H) : Same (lent M I H) H := fun a u q => by
  unfold lent at q
  split at q
  · exact q
  · exact t a u q
theorem lent_lst {K : PySem.W.Frag} {M : Mp} {I H : Hp} (m : MOk K I H M) {q : Addr} {ds : List PyData} (h : M q = some (.lst (ds.map Sh.d))) : Dp K (lent M I H) (.ref q) (.list ds) := by
  obtain ⟨n, vs, h1, h2⟩ := m q _ h
  refine .lst (SqL.of (xs := vs) (by unfold lent; rw [h]; exact h1)) (dpAll_mono (lent_same m) _ _ h2.dat)
theorem Lend.sl {K : PySem.W.Frag} {M : Mp} {I H : Hp} (m : MOk K I H M) {S S' : Sls} (h : Lend M S S') : ∀ {σ : L2.St}, Sl K I σ S → Sl K (lent M I H) σ S' := by
  induction h with
  | nil => intro σ l; cases σ with
    | nil => trivial
    | cons _ _ => exact l.elim
  | @same o S S' _ ih => intro σ l; cases σ with
    | nil => cases o <;> exact l.elim
    | cons v σ => cases o with
      | none => cases v <;> exact ih (σ := σ) l
      | some s => cases v with
        | none => exact l.elim
        | some v => exact ⟨Sh.mono (lent_same m) l.1, ih l.2⟩
  | @drop o S S' _ ih => intro σ l; cases σ with
    | nil => cases o <;> exact l.elim
    | cons v σ => cases o with
      | none => cases v <;> exact ih (σ := σ) l
      | some s => cases v with
        | none => exact l.elim
        | some v => exact ih (σ := σ) l.2
  | lst hq _ ih => intro σ l; cases σ with
    | nil => exact l.elim
    | cons v σ => cases v with
      | none => exact l.elim
      | some v => exact ⟨by rw [show v = .ref _ from l.1]; exact lent_lst m hq, ih l.2⟩
  | bk hy hz _ ih => intro σ l; cases σ with
    | nil => exact l.elim
    | cons v σ => cases v with
      | none => exact l.elim
      | some v =>
        obtain ⟨⟨a, dx, vn, rfl, h1, h2⟩, l2⟩ := l
        exact ⟨⟨a, dx, vn, _, _, rfl, lent_same m _ _ h1, h2.mono (lent_same m), lent_lst m hy, lent_lst m hz⟩, ih l2⟩
theorem ext_lent {K : PySem.W.Frag} {M : Mp} {I H I2 H2 : Hp} (m : MOk K I H M) (e : Ext (lent M I H) H I2 H2) : Ext I H (hide M I2) H2 where
  i := fun a u q => by
    have n : M a = none := by
      cases z : M a with
      | none => rfl
      | some o => rw [(m a o z).1] at q; cases q
    rw [hide_none n]
    exact e.i a u (lent_same m a u q)
  t := hide_same.trans e.t
  h := e.h
  f := fun a o q1 q2 => by
    cases z : M a with
    | some o => exact hide_some z
    | none =>
      rw [hide_none z]
      refine e.f a o q1 ?_
      unfold lent
      rw [z]
      exact q2
theorem ex_lend {S' : Sls} (hl : Lend M S S') (h : EX X e S' M0 sh) (hf : Flat X.K sh) : EX X e S M sh := fun I H σ t l m Q k =>
  h (lent M I H) H σ (lent_tr t) (hl.sl m l) MOk.none _ fun v I2 H2 e2 hv => k v _ H2 (ext_lent m e2) (hf _ _ _ hv)
theorem tx_lend {S' : Sls} {k : Bool} (hl : Lend M S S') (h : TX X e S' M0 k) : TX X e S M k := fun I H σ t l m Q q =>
  h (lent M I H) H σ (lent_tr t) (hl.sl m l) MOk.none _ fun I2 H2 e2 => q _ H2 (ext_lent m e2)

/-! ### short and, or -/
theorem ex_andF {rest : List Expr} (h : EX X a S M (.d (.bool false))) : EX X (.BoolOp .And (a :: b :: rest) pos) S M (.d (.bool false)) :=
  EX.to (ex_and (j := false) h fun z => nomatch z) rfl
theorem ex_orT {rest : List Expr} (h : EX X a S M (.d (.bool true))) : EX X (.BoolOp .Or (a :: b :: rest) pos) S M (.d (.bool true)) :=
  EX.to (ex_or (j := false) h fun z => nomatch z) rfl
theorem ex_andT {rest : List Expr} {j : Bool} (h : EX X a S M (.d (.bool true))) (h2 : EX X (.BoolOp .And (b :: rest) pos) S M (.d (.bool j))) : EX X (.BoolOp .And (a :: b :: rest) pos) S M (.d (.bool j)) :=
  EX.to (ex_and h fun _ => h2) (by rw [Bool.true_and])
theorem ex_orF {rest : List Expr} {j : Bool} (h : EX X a S M (.d (.bool false))) (h2 : EX X (.BoolOp .Or (b :: rest) pos) S M (.d (.bool j))) : EX X (.BoolOp .Or (a :: b :: rest) pos) S M (.d (.bool j)) :=
  EX.to (ex_or h fun _ => h2) (by rw [Bool.false_or])
theorem ex_notT (h : EX X a S M (.d (.bool false))) : EX X (.UnaryOp .Not a pos) S M (.d (.bool true)) := EX.to (ex_not h) rfl
theorem ex_notF (h : EX X a S M (.d (.bool true))) : EX X (.UnaryOp .Not a pos) S M (.d (.bool false)) := EX.to (ex_not h) rfl
theorem tx_notT (h : TX X a S M false) : TX X (.UnaryOp .Not a pos) S M true := TX.to (tx_not h) rfl
theorem tx_notF (h : TX X a S M true) : TX X (.UnaryOp .Not a pos) S M false := TX.to (tx_not h) rfl
theorem kt {d : PyData} {ty : String} {k : Bool} (x : String) (h : tyD d = x) (h2 : kitB x ty = some k) : kitB (tyD d) ty = some k := h ▸ h2
theorem own_nox {X : Cx} : PassesOwn (model X.nox.prog X.nox.w) X.nox.A X.nox.env X.nox.xe := PassesOwn.never
theorem wx_andF {rest : List Expr} (h : TX X a S M false) : WX' X (.BoolOp .And (a :: b :: rest) pos) S M false := by
  have q := wx_and (rest := rest) (b := b) (pos := pos) (j := false) h fun z => nomatch z
  exact q
theorem wx_orT {rest : List Expr} (h : TX X a S M true) : WX' X (.BoolOp .Or (a :: b :: rest) pos) S M true := by
  have q := wx_or (rest := rest) (b := b) (pos := pos) (j := false) h fun z => nomatch z
  exact q
theorem wx_andT {rest : List Expr} {j : Bool} (h : TX X a S M true) (h2 : WX' X (.BoolOp .And (b :: rest) pos) S M j) : WX' X (.BoolOp .And (a :: b :: rest) pos) S M j := by
  have q := wx_and (j := j) h fun _ => h2
  rw [Bool.true_and] at q
  exact q
theorem wx_orF {rest : List Expr} {j : Bool} (h : TX X a S M false) (h2 : WX' X (.BoolOp .Or (b :: rest) pos) S M j) : WX' X (.BoolOp .Or (a :: b :: rest) pos) S M j := by
  have q := wx_or (j := j) h fun _ => h2
  rw [Bool.false_or] at q
  exact q
end
end HW
/-! zip of two or three lists or tuples, enumerate of a list or a tuple. -/
namespace HW
open PySem PySem.Spec L2
open PyProof.Rows (Call_)
/-- a list (false) or a tuple (true) -/
def SqB (K : PySem.W.Frag) (k : Bool) (H : Hp) (a : Addr) (xs : List V) : Prop := match k with
  | false => SqL K H a xs
  | true => SqT K H a xs
def IsB (k : Bool) (h : Heap) (a : Addr) (xs : Array Value) : Prop := match k with
  | false => h.IsList a xs
  | true => h.IsTuple a xs
def ItB (k : Bool) (h : Heap) (it a : Addr) (i : Nat) : Prop := match k with
  | false => h.IsListIter it a i
  | true => h.IsTupleIter it a i
theorem ItB.at' {k : Bool} {h h' : Heap} {it a : Addr} {i : Nat} (t : ItB k h it a i) (e : ∀ o, h.get? it = some o → h'.get? it = some o) : ItB k h' it a i := by
  cases k
  · exact Heap.IsListIter.at t e
  · exact Heap.IsTupleIter.at t e
theorem ItB.obj {k : Bool} {h : Heap} {it a : Addr} {i : Nat} (t : ItB k h it a i) : ∃ o, h.get? it = some o ∧ ∀ v, o.data ≠ .cell v := by
  cases k
  · obtain ⟨o, e, _, d⟩ := (show h.IsListIter it a i from t)
    exact ⟨o, e, fun v q => by rw [d] at q; cases q⟩
  · obtain ⟨o, e, _, d⟩ := (show h.IsTupleIter it a i from t)
    exact ⟨o, e, fun v q => by rw [d] at q; cases q⟩
theorem IsB.lt {k : Bool} {h : Heap} {a : Addr} {xs : Array Value} (t : IsB k h a xs) : a < h.objs.size := by
  cases k
  · obtain ⟨o, e, _⟩ := (show h.IsList a xs from t); exact Heap.lt_size e
  · obtain ⟨o, e, _⟩ := (show h.IsTuple a xs from t); exact Heap.lt_size e
theorem drawsB {prog : Program} {w : World} {A : Around} (k : Bool) (hh : A.handled = none) (it l : Addr) (hne : l ≠ it) (items : Array Value) :
    Draws prog w A it [it, l] items.size (fun i v => items[i]? = some v) (fun i h => ItB k h it l i ∧ IsB k h l items) := by
  cases k
  · exact Draws.list hh it l hne items
  · exact Draws.tuple hh it l hne items
def itO (k : Bool) (a : Addr) : Obj := match k with
  | false => { cls := .type "list_iterator", data := .fields #[.ref a, .int 0 0] }
  | true => { cls := .type "tuple_iterator", data := .fields #[.ref a, .int 0 0] }
theorem beginsB (k : Bool) (a : Addr) (items : Array Value) : Begins (.ref a) (itO k a) fun h => IsB k h a items := by
  cases k
  · exact begins_list a items
  · exact begins_tuple a items
theorem itO_it {k : Bool} {h : Heap} {it a : Addr} (e : h.get? it = some (itO k a)) : ItB k h it a 0 := by
  cases k
  · exact ⟨_, e, rfl, rfl⟩
  · exact ⟨_, e, rfl, rfl⟩
theorem invB {X : Cx} {pins : List (Addr × Obj)} {σ : L2.St} {H : Hp} {s : Shared} {k : Bool} {a : Addr} {xs : List V} (I : Inv X pins σ H s) (h : SqB X.K k H a xs) : ∃ its : List Value, Vals xs its ∧ IsB k s.heap a its.toArray := by
  cases k
  · obtain ⟨its, rv, p, _⟩ := I.list h; exact ⟨its, rv, p.isList⟩
  · obtain ⟨its, rv, p, _⟩ := I.tuple h; exact ⟨its, rv, p⟩
theorem injB {X : Cx} {pins : List (Addr × Obj)} {σ : L2.St} {H : Hp} {s : Shared} {k : Bool} {a : Addr} {xs ys : List V} (I : Inv X pins σ H s) (h : SqB X.K k H a xs) (h' : SqB X.K k H a ys) : xs = ys := by
  cases k
  · exact I.list_inj h h'
  · exact I.tuple_inj h h'
theorem sqB_mono {K : PySem.W.Frag} {k : Bool} {I H : Hp} {a : Addr} {xs : List V} (t : Same I H) (h : SqB K k I a xs) : SqB K k H a xs := by
  cases k
  · exact sqL_mono t h
  · exact sqT_mono t h

theorem sep2_at (N a b : Nat) (la : a < N) (lb : b < N) : ZipSep2 (N + 4) (N + 2) (N + 3) N (N + 1) [N, a] [N + 1, b] := by
  constructor <;> simp <;> first | (intro h; replace h : @Eq Nat _ _ := h; omega) | (refine ⟨fun h => ?_, fun h => ?_⟩ <;> (replace h : @Eq Nat _ _ := h; omega))
theorem sep3_at (N a b c : Nat) (la : a < N) (lb : b < N) (lc : c < N) : ZipSep3 (N + 5) (N + 3) (N + 4) N (N + 1) (N + 2) [N, a] [N + 1, b] [N + 2, c] := by
  constructor <;> simp <;> first | (intro h; replace h : @Eq Nat _ _ := h; omega) | (refine ⟨fun h => ?_, fun h => ?_⟩ <;> (replace h : @Eq Nat _ _ := h; omega))
theorem ne_at {a N : Nat} (k : Nat) (h : a < N) : a ≠ N + k := by omega
/-! ### zip of two -/
def ItZ2 (K : PySem.W.Frag) (k1 k2 : Bool) (a b : Addr) : It :=
  ⟨fun i H => ∃ (xs ys : List V) (x y : V), SqB K k1 H a xs ∧ SqB K k2 H b ys ∧ xs[i]? = some x ∧ ys[i]? = some y,
    fun i H v H' => ∃ T x y, v = .ref T ∧ H T = none ∧ H' = upd H T (.tup [x, y]) ∧ (∀ xs, SqB K k1 H a xs → xs[i]? = some x) ∧ ∀ ys, SqB K k2 H b ys → ys[i]? = some y,
    fun i H => ∃ xs ys : List V, SqB K k1 H a xs ∧ SqB K k2 H b ys ∧ i ≤ xs.length ∧ i ≤ ys.length ∧ (xs.length = i ∨ ys.length = i)⟩
theorem turn_Z2 {P : Program} {w : World} {K : PySem.W.Frag} {elts : List Expr} {kk : Nat} {tpos : Pos} {k1 k2 : Bool} {a b z TI TO i1 i2 : Addr} (D : ZipSep2 z TI TO i1 i2 [i1, a] [i2, b]) (n1 : a ≠ i1) (n2 : b ≠ i2) :
    Turn P w K (.Tuple elts kk tpos) (ItZ2 K k1 k2 a b) [z, TI, TO, i1, i2] z (fun i h => IsZip h z TI TO .none ∧ IsTupOf2 h TI (.ref i1) (.ref i2) ∧ (∃ x y, IsTupOf2 h TO x y) ∧ ItB k1 h i1 a i ∧ ItB k2 h i2 b i) where
  mem := by simp
  obj := fun i h st c hc => by
    obtain ⟨hz, hTI, ⟨x, y, hTO⟩, h1, h2⟩ := st
    have e' : c = z ∨ c = TI ∨ c = TO ∨ c = i1 ∨ c = i2 := by simpa using hc
    rcases e' with q | q | q | q | q
    · rw [q]; exact ⟨_, hz, fun v q => nomatch q⟩
    · rw [q]; exact ⟨_, hTI, fun v q => nomatch q⟩
    · rw [q]; exact ⟨_, hTO, fun v q => nomatch q⟩
    · rw [q]; exact h1.obj
    · rw [q]; exact h2.obj
  keep := fun i h h' st k => by
    obtain ⟨hz, hTI, ⟨x, y, hTO⟩, h1, h2⟩ := st
    exact ⟨k z (by simp) _ hz, k TI (by simp) _ hTI, ⟨x, y, k TO (by simp) _ hTO⟩, h1.at' fun o q => k i1 (by simp) o q, h2.at' fun o q => k i2 (by simp) o q⟩
  item := by
    intro X hP hw hK hc i pins s σ H E I hf st hg
    subst hP hw hK
    obtain ⟨hz, hTI, ⟨x0, y0, hTO⟩, h1, h2⟩ := st
    obtain ⟨xs, ys, x, y, hqx, hqy, hx, hy⟩ := hg
    obtain ⟨its, rv, p⟩ := invB I hqx
    obtain ⟨its2, rv2, p2⟩ := invB I hqy
    obtain ⟨u, hu, ru⟩ := rv.get hx
    obtain ⟨u2, hu2, ru2⟩ := rv2.get hy
    have hzl : z < s.heap.objs.size := Heap.lt_size hz
    have hh : X.A.in1.handled = none := I.ok.hd hc
    have l1 : i < its.toArray.size := by
      have e : its[i]? = some u := hu
      have := (List.getElem?_eq_some_iff.mp e).1
      simpa using this
    have l2 : i < its2.toArray.size := by
      have e : its2[i]? = some u2 := hu2
      have := (List.getElem?_eq_some_iff.mp e).1
      simpa using this
    refine wpAny_pyNext_zipD2_item (Q := _) D (drawsB k1 hh i1 a n1 its.toArray) (drawsB k2 hh i2 b n2 its2.toArray) hz hTI hTO ⟨h1, p⟩ ⟨h2, p2⟩ l1 l2 fun v1 v2 h' tk g1 g2 z' TO' s1 s2 hT hsz hk => ?_
    have e1 : v1 = u := by
      have q : its.toArray[i]? = some v1 := g1
      rw [List.getElem?_toArray, hu] at q
      cases q; rfl
    have e2 : v2 = u2 := by
      have q : its2.toArray[i]? = some v2 := g2
      rw [List.getElem?_toArray, hu2] at q
      cases q; rfl
    subst e1 e2
    refine ⟨_, rfl, wpAny_letOwnedTupleGo_zip (s := { s with heap := h', toks := tk }) z' fun h'' z'' sb => ?_⟩
    have hT2 : h''.get? s.heap.objs.size = some { cls := .type "tuple", data := .seq #[v1, v2] } := (sb.2 _ (Nat.ne_of_gt hzl)).trans hT
    have new : ObjOk X.prog X.w (upd H s.heap.objs.size (.tup [x, y])) h'' s.heap.objs.size (.tup [x, y]) :=
      ⟨by show 2 ≤ sizeLine; decide, [v1, v2], .cons ru (.cons ru2 .nil), ⟨_, hT2, rfl, _, rfl⟩⟩
    have I1 : Inv X pins σ (upd H s.heap.objs.size (.tup [x, y])) { s with heap := h'', toks := tk } :=
      I.turnedNew (t' := tk) (ch := [z, TI, TO, i1, i2]) (fun c o hb q => (sb.2 c (fun q' => hb (by simp [q']))).trans (hk c o (fun q' => hb (by simp [q'])) (fun q' => hb (by simp [q'])) (fun q' => hb (by simp [q'])) (fun q' => hb (by simp [q'])) q)) hf (Nat.le_refl _) new
    refine ⟨.ref s.heap.objs.size, _, I1, rfl, ⟨_, x, y, rfl, I.hok.fresh (Nat.le_refl _), rfl, fun l hl => by rw [injB I hl hqx]; exact hx, fun l hl => by rw [injB I hl hqy]; exact hy⟩, ⟨z'', ?_, ⟨v1, v2, ?_⟩, ?_, ?_⟩, fun c hcm => ?_⟩
    · exact (sb.2 _ D.TIz).trans (hk _ _ D.TIz D.TITO D.TIi1 D.TIi2 hTI)
    · exact (sb.2 _ D.TOz).trans TO'
    · exact s1.1.at' fun o q => (sb.2 _ D.zi1.symm).trans q
    · exact s2.1.at' fun o q => (sb.2 _ D.zi2.symm).trans q
    · have hlt : c < s.heap.objs.size := by
        have e' : c = z ∨ c = TI ∨ c = TO ∨ c = i1 ∨ c = i2 := by simpa using hcm
        rcases e' with q | q | q | q | q
        · rw [q]; exact hzl
        · rw [q]; exact Heap.lt_size hTI
        · rw [q]; exact Heap.lt_size hTO
        · rw [q]; obtain ⟨_, e1, _⟩ := h1.obj; exact Heap.lt_size e1
        · rw [q]; obtain ⟨_, e2, _⟩ := h2.obj; exact Heap.lt_size e2
      rw [upd_ne (Nat.ne_of_lt hlt)]
      exact (hf c hcm).1
  done := by
    intro X hP hw hK hc i pins s σ H E I hf st hg
    subst hP hw hK
    obtain ⟨hz, hTI, ⟨x0, y0, hTO⟩, h1, h2⟩ := st
    obtain ⟨xs, ys, hqx, hqy, le1, le2, hend⟩ := hg
    obtain ⟨its, rv, p⟩ := invB I hqx
    obtain ⟨its2, rv2, p2⟩ := invB I hqy
    have l1 := rv.length
    have l2 := rv2.length
    have hh : X.A.in1.handled = none := I.ok.hd hc
    refine wpAny_pyNext_zipD2_end D (drawsB k1 hh i1 a n1 its.toArray) (drawsB k2 hh i2 b n2 its2.toArray) hz hTI hTO ⟨h1, p⟩ ⟨h2, p2⟩ (by simp; omega) (by simp; omega) (by simp; omega) fun h' tk hk => ?_
    exact ⟨rfl, I.turnedL (t' := tk) (ch := [z, TI, TO, i1, i2]) (fun c o hb q =>
      hk c o (fun q' => hb (by simp [q'])) (fun q' => hb (by simp [q'])) (fun q' => hb (by simp [q'])) (fun q' => hb (by simp [q'])) q) hf⟩
  self := fun A i s Q E st h => wpAny_pyIter_zip st.1 h
def iZ2 (K : PySem.W.Frag) (ta : TA) : TI := fun σ H R => ta σ H fun vs H1 => ∃ k1 k2 a b xs ys, vs = [.ref a, .ref b] ∧ SqB K k1 H1 a xs ∧ SqB K k2 H1 b ys ∧ R (ItZ2 K k1 k2 a b) H1
theorem pi_Z2 {X : Cx} {e e2 : Expr} {ta : TA} {p pos tpos : Pos} {elts : List Expr} {kk : Nat} (hg : Gl X "zip") (hm : X.mg "zip" = none) (ha : PA X [e, e2] ta)
    (hs : starEach [e, e2] X.env = (false, eval e X.env) :: starEach [e2] X.env := by rfl) (hpl : (backTo pos (starEach [e2] X.env)).any (·.1) = false := by rfl) :
    PI X (.Tuple elts kk tpos) (.Call (.Name "zip" p) [e, e2] [] pos) (iZ2 X.K ta) := by
  refine ⟨fun pins s σ H R I h => ?_⟩
  refine Call_ (ld_blt I hg hm PyProof.Rows.boot_zip (PyProof.Rows.callWith_type1 (thn (ha.run pos pins s σ H _ I h) fun us s1 ⟨vs, H1, I1, r1, q1⟩ => ?_) hs hpl))
  obtain ⟨k1, k2, a, b, xs, ys, ex, hqx, hqy, q⟩ := q1
  subst ex
  cases r1 with
  | cons r rr =>
    cases rr with
    | cons r' rr =>
      cases rr
      cases r
      cases r'
      obtain ⟨its, rv, p1⟩ := invB I1 hqx
      obtain ⟨its2, rv2, p2⟩ := invB I1 hqy
      have la := p1.lt
      have lb := p2.lt
      refine zip_begins2 (beginsB k1 a its.toArray) (beginsB k2 b its2.toArray) p1 p2 fun h' hz hTI hTO h1 h2 hsz hk => wpAny_pyIter_zip hz ?_
      have I2 : Inv X pins σ H1 { s1 with heap := h' } := I1.kept (t' := s1.toks) hk
      refine ⟨s1.heap.objs.size + 4, [s1.heap.objs.size + 4, s1.heap.objs.size + 2, s1.heap.objs.size + 3, s1.heap.objs.size, s1.heap.objs.size + 1], _, ItZ2 X.K k1 k2 a b, H1, rfl, I2, turn_Z2 (sep2_at _ _ _ la lb) (ne_at 0 la) (ne_at 1 lb), ⟨hz, hTI, ⟨_, _, hTO⟩, itO_it h1, itO_it h2⟩, fun c hcm => ?_, q⟩
      · have hle : s1.heap.objs.size ≤ c := by
          have e' : c = s1.heap.objs.size + 4 ∨ c = s1.heap.objs.size + 2 ∨ c = s1.heap.objs.size + 3 ∨ c = s1.heap.objs.size + 0 ∨ c = s1.heap.objs.size + 1 := by simpa using hcm
          rcases e' with z | z | z | z | z <;> (rw [z]; exact Nat.le_add_right _ _)
        exact I1.fpOk hle (I1.hok.fresh hle)

/-! ### zip of three -/
def ItZ3 (K : PySem.W.Frag) (k1 k2 k3 : Bool) (a b c : Addr) : It :=
  ⟨fun i H => ∃ (xs ys zs : List V) (x y z : V), SqB K k1 H a xs ∧ SqB K k2 H b ys ∧ SqB K k3 H c zs ∧ xs[i]? = some x ∧ ys[i]? = some y ∧ zs[i]? = some z,
    fun i H v H' => ∃ T x y z, v = .ref T ∧ H T = none ∧ H' = upd H T (.tup [x, y, z]) ∧ (∀ xs, SqB K k1 H a xs → xs[i]? = some x) ∧ (∀ ys, SqB K k2 H b ys → ys[i]? = some y) ∧ ∀ zs, SqB K k3 H c zs → zs[i]? = some z,
    fun i H => ∃ xs ys zs : List V, SqB K k1 H a xs ∧ SqB K k2 H b ys ∧ SqB K k3 H c zs ∧ i ≤ xs.length ∧ i ≤ ys.length ∧ i ≤ zs.length ∧ (xs.length = i ∨ ys.length = i ∨ zs.length = i)⟩
theorem turn_Z3 {P : Program} {w : World} {K : PySem.W.Frag} {elts : List Expr} {kk : Nat} {tpos : Pos} {k1 k2 k3 : Bool} {a b c z TI TO i1 i2 i3 : Addr} (D : ZipSep3 z TI TO i1 i2 i3 [i1, a] [i2, b] [i3, c]) (n1 : a ≠ i1) (n2 : b ≠ i2) (n3 : c ≠ i3) :
    Turn P w K (.Tuple elts kk tpos) (ItZ3 K k1 k2 k3 a b c) [z, TI, TO, i1, i2, i3] z (fun i h => IsZip h z TI TO .none ∧ IsTupOf3 h TI (.ref i1) (.ref i2) (.ref i3) ∧ (∃ x y u, IsTupOf3 h TO x y u) ∧ ItB k1 h i1 a i ∧ ItB k2 h i2 b i ∧ ItB k3 h i3 c i) where
  mem := by simp
  obj := fun i h st c hc => by
    obtain ⟨hz, hTI, ⟨x, y, u, hTO⟩, h1, h2, h3⟩ := st
    have e' : c = z ∨ c = TI ∨ c = TO ∨ c = i1 ∨ c = i2 ∨ c = i3 := by simpa using hc
    rcases e' with q | q | q | q | q | q
    · rw [q]; exact ⟨_, hz, fun v q => nomatch q⟩
    · rw [q]; exact ⟨_, hTI, fun v q => nomatch q⟩
    · rw [q]; exact ⟨_, hTO, fun v q => nomatch q⟩
    · rw [q]; exact h1.obj
    · rw [q]; exact h2.obj
    · rw [q]; exact h3.obj
  keep := fun i h h' st k => by
    obtain ⟨hz, hTI, ⟨x, y, u, hTO⟩, h1, h2, h3⟩ := st
    exact ⟨k z (by simp) _ hz, k TI (by simp) _ hTI, ⟨x, y, u, k TO (by simp) _ hTO⟩, h1.at' fun o q => k i1 (by simp) o q, h2.at' fun o q => k i2 (by simp) o q, h3.at' fun o q => k i3 (by simp) o q⟩
  item := by
    intro X hP hw hK hc i pins s σ H E I hf st hg
    subst hP hw hK
    obtain ⟨hz, hTI, ⟨x0, y0, u0, hTO⟩, h1, h2, h3⟩ := st
    obtain ⟨xs, ys, zs, x, y, zz, hqx, hqy, hqz, hx, hy, hzz⟩ := hg
    obtain ⟨its, rv, p⟩ := invB I hqx
    obtain ⟨its2, rv2, p2⟩ := invB I hqy
    obtain ⟨its3, rv3, p3⟩ := invB I hqz
    obtain ⟨u, hu, ru⟩ := rv.get hx
    obtain ⟨u2, hu2, ru2⟩ := rv2.get hy
    obtain ⟨u3, hu3, ru3⟩ := rv3.get hzz
    have hzl : z < s.heap.objs.size := Heap.lt_size hz
    have hh : X.A.in1.handled = none := I.ok.hd hc
    have l1 : i < its.toArray.size := by
      have e : its[i]? = some u := hu
      have := (List.getElem?_eq_some_iff.mp e).1
      simpa using this
    have l2 : i < its2.toArray.size := by
      have e : its2[i]? = some u2 := hu2
      have := (List.getElem?_eq_some_iff.mp e).1
      simpa using this
    have l3 : i < its3.toArray.size := by
      have e : its3[i]? = some u3 := hu3
      have := (List.getElem?_eq_some_iff.mp e).1
      simpa using this
    refine wpAny_pyNext_zipD3_item (Q := _) D (drawsB k1 hh i1 a n1 its.toArray) (drawsB k2 hh i2 b n2 its2.toArray) (drawsB k3 hh i3 c n3 its3.toArray) hz hTI hTO ⟨h1, p⟩ ⟨h2, p2⟩ ⟨h3, p3⟩ l1 l2 l3 fun v1 v2 v3 h' tk g1 g2 g3 z' TO' s1 s2 s3 hT hsz hk => ?_
    have e1 : v1 = u := by
      have q : its.toArray[i]? = some v1 := g1
      rw [List.getElem?_toArray, hu] at q
      cases q; rfl
    have e2 : v2 = u2 := by
      have q : its2.toArray[i]? = some v2 := g2
      rw [List.getElem?_toArray, hu2] at q
      cases q; rfl
    have e3 : v3 = u3 := by
      have q : its3.toArray[i]? = some v3 := g3
      rw [List.getElem?_toArray, hu3] at q
      cases q; rfl
    subst e1 e2 e3
    refine ⟨_, rfl, wpAny_letOwnedTupleGo_zip (s := { s with heap := h', toks := tk }) z' fun h'' z'' sb => ?_⟩
    have hT2 : h''.get? s.heap.objs.size = some { cls := .type "tuple", data := .seq #[v1, v2, v3] } := (sb.2 _ (Nat.ne_of_gt hzl)).trans hT
    have new : ObjOk X.prog X.w (upd H s.heap.objs.size (.tup [x, y, zz])) h'' s.heap.objs.size (.tup [x, y, zz]) :=
      ⟨by show 3 ≤ sizeLine; decide, [v1, v2, v3], .cons ru (.cons ru2 (.cons ru3 .nil)), ⟨_, hT2, rfl, _, rfl⟩⟩
    have I1 : Inv X pins σ (upd H s.heap.objs.size (.tup [x, y, zz])) { s with heap := h'', toks := tk } :=
      I.turnedNew (t' := tk) (ch := [z, TI, TO, i1, i2, i3]) (fun c o hb q => (sb.2 c (fun q' => hb (by simp [q']))).trans (hk c o (fun q' => hb (by simp [q'])) (fun q' => hb (by simp [q'])) (fun q' => hb (by simp [q'])) (fun q' => hb (by simp [q'])) (fun q' => hb (by simp [q'])) q)) hf (Nat.le_refl _) new
    refine ⟨.ref s.heap.objs.size, _, I1, rfl, ⟨_, x, y, zz, rfl, I.hok.fresh (Nat.le_refl _), rfl, fun l hl => by rw [injB I hl hqx]; exact hx, fun l hl => by rw [injB I hl hqy]; exact hy, fun l hl => by rw [injB I hl hqz]; exact hzz⟩, ⟨z'', ?_, ⟨v1, v2, v3, ?_⟩, ?_, ?_, ?_⟩, fun c hcm => ?_⟩
    · exact (sb.2 _ D.TIz).trans (hk _ _ D.TIz D.TITO D.TIi1 D.TIi2 D.TIi3 hTI)
    · exact (sb.2 _ D.TOz).trans TO'
    · exact s1.1.at' fun o q => (sb.2 _ D.zi1.symm).trans q
    · exact s2.1.at' fun o q => (sb.2 _ D.zi2.symm).trans q
    · exact s3.1.at' fun o q => (sb.2 _ D.zi3.symm).trans q
    · have hlt : c < s.heap.objs.size := by
        have e' : c = z ∨ c = TI ∨ c = TO ∨ c = i1 ∨ c = i2 ∨ c = i3 := by simpa using hcm
        rcases e' with q | q | q | q | q | q
        · rw [q]; exact hzl
        · rw [q]; exact Heap.lt_size hTI
        · rw [q]; exact Heap.lt_size hTO
        · rw [q]; obtain ⟨_, e1, _⟩ := h1.obj; exact Heap.lt_size e1
        · rw [q]; obtain ⟨_, e2, _⟩ := h2.obj; exact Heap.lt_size e2
        · rw [q]; obtain ⟨_, e3, _⟩ := h3.obj; exact Heap.lt_size e3
      rw [upd_ne (Nat.ne_of_lt hlt)]
      exact (hf c hcm).1
  done := by
    intro X hP hw hK hc i pins s σ H E I hf st hg
    subst hP hw hK
    obtain ⟨hz, hTI, ⟨x0, y0, u0, hTO⟩, h1, h2, h3⟩ := st
    obtain ⟨xs, ys, zs, hqx, hqy, hqz, le1, le2, le3, hend⟩ := hg
    obtain ⟨its, rv, p⟩ := invB I hqx
    obtain ⟨its2, rv2, p2⟩ := invB I hqy
    obtain ⟨its3, rv3, p3⟩ := invB I hqz
    have l1 := rv.length
    have l2 := rv2.length
    have l3 := rv3.length
    have hh : X.A.in1.handled = none := I.ok.hd hc
    refine wpAny_pyNext_zipD3_end D (drawsB k1 hh i1 a n1 its.toArray) (drawsB k2 hh i2 b n2 its2.toArray) (drawsB k3 hh i3 c n3 its3.toArray) hz hTI hTO ⟨h1, p⟩ ⟨h2, p2⟩ ⟨h3, p3⟩ (by simp; omega) (by simp; omega) (by simp; omega) (by simp; omega) fun h' tk hk => ?_
    exact ⟨rfl, I.turnedL (t' := tk) (ch := [z, TI, TO, i1, i2, i3]) (fun c o hb q =>
      hk c o (fun q' => hb (by simp [q'])) (fun q' => hb (by simp [q'])) (fun q' => hb (by simp [q'])) (fun q' => hb (by simp [q'])) (fun q' => hb (by simp [q'])) q) hf⟩
  self := fun A i s Q E st h => wpAny_pyIter_zip st.1 h
def iZ3 (K : PySem.W.Frag) (ta : TA) : TI := fun σ H R => ta σ H fun vs H1 => ∃ k1 k2 k3 a b c xs ys zs, vs = [.ref a, .ref b, .ref c] ∧ SqB K k1 H1 a xs ∧ SqB K k2 H1 b ys ∧ SqB K k3 H1 c zs ∧ R (ItZ3 K k1 k2 k3 a b c) H1
theorem pi_Z3 {X : Cx} {e e2 e3 : Expr} {ta : TA} {p pos tpos : Pos} {elts : List Expr} {kk : Nat} (hg : Gl X "zip") (hm : X.mg "zip" = none) (ha : PA X [e, e2, e3] ta)
    (hs : starEach [e, e2, e3] X.env = (false, eval e X.env) :: starEach [e2, e3] X.env := by rfl) (hpl : (backTo pos (starEach [e2, e3] X.env)).any (·.1) = false := by rfl) :
    PI X (.Tuple elts kk tpos) (.Call (.Name "zip" p) [e, e2, e3] [] pos) (iZ3 X.K ta) := by
  refine ⟨fun pins s σ H R I h => ?_⟩
  refine Call_ (ld_blt I hg hm PyProof.Rows.boot_zip (PyProof.Rows.callWith_type1 (thn (ha.run pos pins s σ H _ I h) fun us s1 ⟨vs, H1, I1, r1, q1⟩ => ?_) hs hpl))
  obtain ⟨k1, k2, k3, a, b, c, xs, ys, zs, ex, hqx, hqy, hqz, q⟩ := q1
  subst ex
  cases r1 with
  | cons r rr =>
    cases rr with
    | cons r' rr =>
      cases rr with
      | cons r'' rr =>
        cases rr
        cases r
        cases r'
        cases r''
        obtain ⟨its, rv, p1⟩ := invB I1 hqx
        obtain ⟨its2, rv2, p2⟩ := invB I1 hqy
        obtain ⟨its3, rv3, p3⟩ := invB I1 hqz
        have la := p1.lt
        have lb := p2.lt
        have lc := p3.lt
        refine zip_begins3 (beginsB k1 a its.toArray) (beginsB k2 b its2.toArray) (beginsB k3 c its3.toArray) p1 p2 p3 fun h' hz hTI hTO h1 h2 h3 hsz hk => wpAny_pyIter_zip hz ?_
        have I2 : Inv X pins σ H1 { s1 with heap := h' } := I1.kept (t' := s1.toks) hk
        refine ⟨s1.heap.objs.size + 5, [s1.heap.objs.size + 5, s1.heap.objs.size + 3, s1.heap.objs.size + 4, s1.heap.objs.size, s1.heap.objs.size + 1, s1.heap.objs.size + 2], _, ItZ3 X.K k1 k2 k3 a b c, H1, rfl, I2, turn_Z3 (sep3_at _ _ _ _ la lb lc) (ne_at 0 la) (ne_at 1 lb) (ne_at 2 lc), ⟨hz, hTI, ⟨_, _, _, hTO⟩, itO_it h1, itO_it h2, itO_it h3⟩, fun c hcm => ?_, q⟩
        · have hle : s1.heap.objs.size ≤ c := by
            have e' : c = s1.heap.objs.size + 5 ∨ c = s1.heap.objs.size + 3 ∨ c = s1.heap.objs.size + 4 ∨ c = s1.heap.objs.size + 0 ∨ c = s1.heap.objs.size + 1 ∨ c = s1.heap.objs.size + 2 := by simpa using hcm
            rcases e' with z | z | z | z | z | z <;> (rw [z]; exact Nat.le_add_right _ _)
          exact I1.fpOk hle (I1.hok.fresh hle)

/-! ### enumerate -/
theorem meets_enumerate_new1 {v : Value} {o : Obj} {H : Heap → Prop} (B : Begins v o H) :
    Meets (Builtin.«enumerate.__new__» ⟨[.type "enumerate", v], []⟩) (fun _ R s => H s.heap ∧
      R (.ok (.ret (.ref (s.heap.push o).objs.size))) { s with heap := (s.heap.push o).push { cls := .type "enumerate", data := .fields #[.none, .bool false, .ref s.heap.objs.size, rawInt 0, .none, .none] } }) :=
  .of_wp fun prog w A R s h => by
    obtain ⟨hp, g, d, tk, os⟩ := s; obtain ⟨h1, h⟩ := h
    have hsub := sub_enumerate
    have q1 : ∀ {A' : Around} {E : Value → Shared → Prop} {Q : Value → Shared → Prop}, Q (.ref hp.objs.size) ⟨hp.push o, g, d, tk, os⟩ → wpAny (model prog w) A' (pyIter v) Q E ⟨hp, g, d, tk, os⟩ :=
      fun q => B.iter prog w _ _ ⟨hp, g, d, tk, os⟩ _ h1 q
    wp_walk using q1
    refine wpAny_stack_any fun st => wpAny_pure ?_
    split
    · rename_i c _ _ _ _ _
      cases (c == Value.type "enumerate")
      · wp_walk using q1
        exact ⟨_, rfl, h⟩
      · wp_walk using q1
        exact ⟨_, rfl, h⟩
    · wp_walk using q1
      exact ⟨_, rfl, h⟩
theorem enum_begins1 {prog : Program} {w : World} {A : Around} {E : Value → Shared → Prop} {s : Shared} {v : Value} {o : Obj} {H : Heap → Prop} {Q : Value → Shared → Prop} (B : Begins v o H) (h1 : H s.heap)
    (h : ∀ h', IsEnum h' (s.heap.objs.size + 1) s.heap.objs.size 0 .none → h'.get? s.heap.objs.size = some o → h'.objs.size = s.heap.objs.size + 2 →
      (∀ b o, s.heap.get? b = some o → h'.get? b = some o) → Q (.ref (s.heap.objs.size + 1)) { s with heap := h' }) :
    wpAny (model prog w) A (call (.type "enumerate") [v]) Q E s := by
  refine callType_new F.called_enumerate (by decide) (F.typeCall_enumerate_1 _) (F.newCall_enumerate_1 _) (fun obj => F.args_object_init_2 obj _) F.entry_enumerate_new
    (meets_enumerate_new1 B) ⟨h1, ?_⟩
  have hz : (s.heap.push o).objs.size = s.heap.objs.size + 1 := Heap.size_push ..
  show _ ∧ _
  rw [hz]
  have he : IsEnum ((s.heap.push o).push { cls := .type "enumerate", data := .fields #[.none, .bool false, .ref s.heap.objs.size, rawInt 0, .none, .none] }) (s.heap.objs.size + 1) s.heap.objs.size 0 .none := by
    have := Heap.get?_push_size (s.heap.push o) (o := { cls := .type "enumerate", data := .fields #[.none, .bool false, .ref s.heap.objs.size, rawInt 0, .none, .none] }) rfl
    rw [hz] at this; exact this
  refine ⟨⟨_, he, rfl⟩, h _ he (Heap.get?_push_of_some _ (Heap.get?_push_size _ B.free)) (by rw [Heap.size_push, hz]) fun b o x => Heap.get?_push_of_some _ (Heap.get?_push_of_some _ x)⟩
def ItE (K : PySem.W.Frag) (k : Bool) (a : Addr) : It :=
  ⟨fun i H => ∃ (xs : List V) (x : V), SqB K k H a xs ∧ xs[i]? = some x, fun i H v H' => ∃ T x, v = .ref T ∧ H T = none ∧ H' = upd H T (.tup [.int (i : Nat), x]) ∧ ∀ xs, SqB K k H a xs → xs[i]? = some x, fun i H => ∃ xs : List V, SqB K k H a xs ∧ xs.length = i⟩
theorem turn_E {P : Program} {w : World} {K : PySem.W.Frag} {elts : List Expr} {kk : Nat} {tpos : Pos} {k : Bool} (a e it : Addr) (n1 : a ≠ it) (n2 : e ≠ a) :
    Turn P w K (.Tuple elts kk tpos) (ItE K k a) [e, it] e (fun i h => (∃ old, IsEnum h e it ((i : Nat) : Int) old) ∧ ItB k h it a i ∧ e ≠ it) where
  mem := by simp
  obj := fun i h st b hb => by
    obtain ⟨⟨old, he⟩, h1, _⟩ := st
    have e' : b = e ∨ b = it := by simpa using hb
    rcases e' with z | z
    · rw [z]; exact ⟨_, he, fun v q => nomatch q⟩
    · rw [z]; exact h1.obj
  keep := fun i h h' st k => let ⟨⟨old, he⟩, hi, hne⟩ := st; ⟨⟨old, k e (by simp) _ he⟩, hi.at' fun o q => k it (by simp) o q, hne⟩
  item := by
    intro X hP hw hK hc i pins s σ H E I hf st hg
    subst hP hw hK
    obtain ⟨⟨old, he⟩, hit, hne⟩ := st
    obtain ⟨xs, x, hq, hx⟩ := hg
    obtain ⟨its, rv, p⟩ := invB I hq
    obtain ⟨u, hu, ru⟩ := rv.get hx
    have hel : e < s.heap.objs.size := Heap.lt_size he
    have hil : it < s.heap.objs.size := by obtain ⟨_, q, _⟩ := hit.obj; exact Heap.lt_size q
    have hh : X.A.in1.handled = none := I.ok.hd hc
    have l1 : i < its.toArray.size := by
      have e : its[i]? = some u := hu
      have := (List.getElem?_eq_some_iff.mp e).1
      simpa using this
    refine wpAny_pyNext_enum_itemC (drawsB k hh it a n1 its.toArray) he ⟨hit, p⟩ l1 hne (by simp; exact ⟨hne, n2⟩) fun v h' tk g1 ho st' hT hsz hk => ?_
    have e1 : v = u := by
      have q : its.toArray[i]? = some v := g1
      rw [List.getElem?_toArray, hu] at q
      cases q; rfl
    subst e1
    refine ⟨_, rfl, wpAny_letOwnedTupleGo_enum (s := { s with heap := h', toks := tk + 1 }) ho fun h'' he' sb => ?_⟩
    have hT2 : h''.get? s.heap.objs.size = some { cls := .type "tuple", data := .seq #[.int i tk, v] } := (sb.2 _ (Nat.ne_of_gt hel)).trans hT
    have new : ObjOk X.prog X.w (upd H s.heap.objs.size (.tup [.int (i : Nat), x])) h'' s.heap.objs.size (.tup [.int (i : Nat), x]) :=
      ⟨by show 2 ≤ sizeLine; decide, [.int i tk, v], .cons ⟨_, rfl⟩ (.cons ru .nil), ⟨_, hT2, rfl, _, rfl⟩⟩
    have I1 : Inv X pins σ (upd H s.heap.objs.size (.tup [.int (i : Nat), x])) { s with heap := h'', toks := tk + 1 } :=
      I.turnedNew (ch := [e, it]) (fun b ob hb q => (sb.2 b (fun z => hb (by simp [z]))).trans (hk b ob (fun z => hb (by simp [z])) (fun z => hb (by simp [z])) q)) hf (Nat.le_refl _) new
    refine ⟨.ref s.heap.objs.size, _, I1, rfl, ⟨_, x, rfl, I.hok.fresh (Nat.le_refl _), rfl, fun ys hy => by rw [injB I hy hq]; exact hx⟩, ⟨⟨v, ?_⟩, st'.1.at' fun o q => (sb.2 it (Ne.symm hne)).trans q, hne⟩, fun b hb => ?_⟩
    · have e1 : ((i + 1 : Nat) : Int) = (i : Int) + 1 := by omega
      rw [e1]; exact he'
    · have hb' : b < s.heap.objs.size := by
        have e' : b = e ∨ b = it := by simpa using hb
        rcases e' with z | z
        · rw [z]; exact hel
        · rw [z]; exact hil
      rw [upd_ne (Nat.ne_of_lt hb')]
      exact (hf b hb).1
  done := by
    intro X hP hw hK hc i pins s σ H E I hf st hg
    subst hP hw hK
    obtain ⟨⟨old, he⟩, hit, hne⟩ := st
    obtain ⟨xs, hq, hx⟩ := hg
    obtain ⟨its, rv, p⟩ := invB I hq
    have hl := rv.length
    have hh : X.A.in1.handled = none := I.ok.hd hc
    have ei : its.toArray.size = i := by simp; omega
    refine wpAny_pyNext_enum_endD (drawsB k hh it a n1 its.toArray) he ⟨by rw [ei]; exact hit, p⟩ fun h' eb => ?_
    exact ⟨rfl, I.turnedL (t' := s.toks) (ch := [e, it]) (fun b o hb q => eb b o (fun z => hb (by simp [z])) q) hf⟩
  self := fun A i s Q E st h => let ⟨⟨_, he⟩, _⟩ := st; wpAny_pyIter_enum he h
def iE (K : PySem.W.Frag) (ta : TA) : TI := fun σ H R => ta σ H fun vs H1 => ∃ k a xs, vs = [.ref a] ∧ SqB K k H1 a xs ∧ R (ItE K k a) H1
theorem pi_E {X : Cx} {e : Expr} {ta : TA} {p pos tpos : Pos} {elts : List Expr} {kk : Nat} (hg : Gl X "enumerate") (hm : X.mg "enumerate" = none) (ha : PA X [e] ta) (hs : starEach [e] X.env = [(false, eval e X.env)] := by rfl) :
    PI X (.Tuple elts kk tpos) (.Call (.Name "enumerate" p) [e] [] pos) (iE X.K ta) := by
  refine ⟨fun pins s σ H R I h => ?_⟩
  refine Call_ (ld_blt I hg hm PyProof.Rows.boot_enumerate (PyProof.Rows.callWith_type1 (thn (ha.run pos pins s σ H _ I h) fun us s1 ⟨vs, H1, I1, r1, q1⟩ => ?_) hs rfl))
  obtain ⟨k, a, xs, ex, hq, q⟩ := q1
  subst ex
  cases r1 with
  | cons r rr =>
    cases rr
    cases r
    obtain ⟨its, rv, p'⟩ := invB I1 hq
    have la := p'.lt
    refine enum_begins1 (beginsB k a its.toArray) p' fun h' he hit hsz hk => wpAny_pyIter_enum he ?_
    have I2 : Inv X pins σ H1 { s1 with heap := h' } := I1.kept (t' := s1.toks) hk
    refine ⟨s1.heap.objs.size + 1, [s1.heap.objs.size + 1, s1.heap.objs.size], _, ItE X.K k a, H1, rfl, I2, turn_E a (s1.heap.objs.size + 1) s1.heap.objs.size (ne_at 0 la) (ne_at 1 la).symm, ⟨⟨.none, he⟩, itO_it hit, Nat.succ_ne_self _⟩, fun b hb => ?_, q⟩
    have hle : s1.heap.objs.size ≤ b := by
      have e' : b = s1.heap.objs.size + 1 ∨ b = s1.heap.objs.size + 0 := by simpa using hb
      rcases e' with z | z <;> (rw [z]; exact Nat.le_add_right _ _)
    exact I1.fpOk hle (I1.hok.fresh hle)

/-! ### in the layer's terms -/
theorem seqB_of {K : PySem.W.Frag} {I : Hp} {v : V} {d : PyData} {ds : List PyData} (h : Dp K I v d) (e : seqD d = some ds) : ∃ k q xs, v = .ref q ∧ SqB K k I q xs ∧ DpAll K I xs ds := by
  obtain ⟨q, xs, r, h1, h2⟩ := seq_of h e
  rcases h1 with h1 | h1
  · exact ⟨false, q, xs, r, h1, h2⟩
  · exact ⟨true, q, xs, r, h1, h2⟩
def zip2D : List PyData → List PyData → List PyData
  | a :: as, b :: bs => .tuple [a, b] :: zip2D as bs
  | _, _ => []
theorem zip2D_map {α β : Type} (f : α → PyData) (g : β → PyData) : ∀ (as : List α) (bs : List β), zip2D (as.map f) (bs.map g) = (as.zip bs).map fun z => .tuple [f z.1, g z.2]
  | [], _ => by simp [zip2D]
  | _ :: _, [] => by simp [zip2D]
  | a :: as, b :: bs => by
    show _ :: zip2D (as.map f) (bs.map g) = _
    rw [zip2D_map f g as bs]
    rfl
theorem zip2D_get : ∀ {as bs : List PyData} {i : Nat} {d : PyData}, (zip2D as bs)[i]? = some d → ∃ a b, as[i]? = some a ∧ bs[i]? = some b ∧ d = .tuple [a, b]
  | [], _, i, d, h => by simp [zip2D] at h
  | _ :: _, [], i, d, h => by simp [zip2D] at h
  | a :: as, b :: bs, 0, d, h => by
    simp [zip2D] at h
    exact ⟨a, b, rfl, rfl, h.symm⟩
  | a :: as, b :: bs, i + 1, d, h => by
    have h' : (zip2D as bs)[i]? = some d := by simpa [zip2D] using h
    obtain ⟨x, y, h1, h2, h3⟩ := zip2D_get h'
    exact ⟨x, y, by simpa using h1, by simpa using h2, h3⟩
theorem zip2D_len : ∀ (as bs : List PyData), (zip2D as bs).length = min as.length bs.length
  | [], bs => by simp [zip2D]
  | _ :: _, [] => by simp [zip2D]
  | a :: as, b :: bs => by
    show (zip2D as bs).length + 1 = _
    rw [zip2D_len as bs]
    simp only [List.length_cons]
    omega
def zip3D : List PyData → List PyData → List PyData → List PyData
  | a :: as, b :: bs, c :: cs => .tuple [a, b, c] :: zip3D as bs cs
  | _, _, _ => []
theorem zip3D_get : ∀ {as bs cs : List PyData} {i : Nat} {d : PyData}, (zip3D as bs cs)[i]? = some d → ∃ a b c, as[i]? = some a ∧ bs[i]? = some b ∧ cs[i]? = some c ∧ d = .tuple [a, b, c]
  | [], _, _, i, d, h => by simp [zip3D] at h
  | _ :: _, [], _, i, d, h => by simp [zip3D] at h
  | _ :: _, _ :: _, [], i, d, h => by simp [zip3D] at h
  | a :: as, b :: bs, c :: cs, 0, d, h => by
    simp [zip3D] at h
    exact ⟨a, b, c, rfl, rfl, rfl, h.symm⟩
  | a :: as, b :: bs, c :: cs, i + 1, d, h => by
    have h' : (zip3D as bs cs)[i]? = some d := by simpa [zip3D] using h
    obtain ⟨x, y, z, h1, h2, h3, h4⟩ := zip3D_get h'
    exact ⟨x, y, z, by simpa using h1, by simpa using h2, by simpa using h3, h4⟩
theorem zip3D_len : ∀ (as bs cs : List PyData), (zip3D as bs cs).length = min as.length (min bs.length cs.length)
  | [], bs, cs => by simp [zip3D]
  | _ :: _, [], cs => by simp [zip3D]
  | _ :: _, _ :: _, [] => by simp [zip3D]
  | a :: as, b :: bs, c :: cs => by
    show (zip3D as bs cs).length + 1 = _
    rw [zip3D_len as bs cs]
    simp only [List.length_cons]
    omega
theorem wk_Z2 {K : PySem.W.Frag} {I : Hp} {k1 k2 : Bool} {a b : Addr} {xs ys : List V} {ds es : List PyData} (h1 : SqB K k1 I a xs) (h2 : SqB K k2 I b ys) (d1 : DpAll K I xs ds) (d2 : DpAll K I ys es) : Wk K (ItZ2 K k1 k2 a b) I (zip2D ds es) where
  stop := fun i I' H t1 t2 hi => by
    rw [zip2D_len, ← dpAll_length d1, ← dpAll_length d2] at hi
    exact ⟨xs, ys, sqB_mono (t1.trans t2) h1, sqB_mono (t1.trans t2) h2, by omega, by omega, by omega⟩
  go := fun i I' H t1 t2 hi => by
    rw [zip2D_len, ← dpAll_length d1, ← dpAll_length d2] at hi
    have l1 : i < xs.length := by omega
    have l2 : i < ys.length := by omega
    exact ⟨xs, ys, xs[i], ys[i], sqB_mono (t1.trans t2) h1, sqB_mono (t1.trans t2) h2, by simp [l1], by simp [l2]⟩
  yld := fun i d I' H x H' t1 t2 hi y => by
    obtain ⟨T, u, v, rfl, hT, rfl, f1, f2⟩ := y
    obtain ⟨p, q, e1, e2, rfl⟩ := zip2D_get hi
    obtain ⟨u', g1, g2⟩ := dpAll_get d1 e1
    obtain ⟨v', g3, g4⟩ := dpAll_get d2 e2
    have z1 := f1 xs (sqB_mono (t1.trans t2) h1)
    have z2 := f2 ys (sqB_mono (t1.trans t2) h2)
    rw [g1] at z1
    rw [g3] at z2
    cases z1
    cases z2
    have sn := same_new (t2.free hT) (.tup [u, v])
    exact ⟨upd I' T (.tup [u, v]), Ext.new t2 hT _, .tup (SqT.of upd_same) (.cons (dp_mono (t1.trans sn) _ _ g2) (.cons (dp_mono (t1.trans sn) _ _ g4) .nil))⟩
theorem wk_Z3 {K : PySem.W.Frag} {I : Hp} {k1 k2 k3 : Bool} {a b c : Addr} {xs ys zs : List V} {ds es fs : List PyData} (h1 : SqB K k1 I a xs) (h2 : SqB K k2 I b ys) (h3 : SqB K k3 I c zs) (d1 : DpAll K I xs ds) (d2 : DpAll K I ys es) (d3 : DpAll K I zs fs) :
    Wk K (ItZ3 K k1 k2 k3 a b c) I (zip3D ds es fs) where
  stop := fun i I' H t1 t2 hi => by
    rw [zip3D_len, ← dpAll_length d1, ← dpAll_length d2, ← dpAll_length d3] at hi
    exact ⟨xs, ys, zs, sqB_mono (t1.trans t2) h1, sqB_mono (t1.trans t2) h2, sqB_mono (t1.trans t2) h3, by omega, by omega, by omega, by omega⟩
  go := fun i I' H t1 t2 hi => by
    rw [zip3D_len, ← dpAll_length d1, ← dpAll_length d2, ← dpAll_length d3] at hi
    have l1 : i < xs.length := by omega
    have l2 : i < ys.length := by omega
    have l3 : i < zs.length := by omega
    exact ⟨xs, ys, zs, xs[i], ys[i], zs[i], sqB_mono (t1.trans t2) h1, sqB_mono (t1.trans t2) h2, sqB_mono (t1.trans t2) h3, by simp [l1], by simp [l2], by simp [l3]⟩
  yld := fun i d I' H x H' t1 t2 hi y => by
    obtain ⟨T, u, v, w, rfl, hT, rfl, f1, f2, f3⟩ := y
    obtain ⟨p, q, r, e1, e2, e3, rfl⟩ := zip3D_get hi
    obtain ⟨u', g1, g2⟩ := dpAll_get d1 e1
    obtain ⟨v', g3, g4⟩ := dpAll_get d2 e2
    obtain ⟨w', g5, g6⟩ := dpAll_get d3 e3
    have z1 := f1 xs (sqB_mono (t1.trans t2) h1)
    have z2 := f2 ys (sqB_mono (t1.trans t2) h2)
    have z3 := f3 zs (sqB_mono (t1.trans t2) h3)
    rw [g1] at z1
    rw [g3] at z2
    rw [g5] at z3
    cases z1
    cases z2
    cases z3
    have sn := same_new (t2.free hT) (.tup [u, v, w])
    exact ⟨upd I' T (.tup [u, v, w]), Ext.new t2 hT _, .tup (SqT.of upd_same) (.cons (dp_mono (t1.trans sn) _ _ g2) (.cons (dp_mono (t1.trans sn) _ _ g4) (.cons (dp_mono (t1.trans sn) _ _ g6) .nil)))⟩
def enD (i : Nat) : List PyData → List PyData
  | [] => []
  | d :: ds => .tuple [nD i, d] :: enD (i + 1) ds
theorem enD_len : ∀ (j : Nat) (ds : List PyData), (enD j ds).length = ds.length
  | _, [] => rfl
  | j, _ :: ds => congrArg Nat.succ (enD_len (j + 1) ds)
theorem enD_get : ∀ {ds : List PyData} {j i : Nat} {d : PyData}, (enD j ds)[i]? = some d → ∃ a, ds[i]? = some a ∧ d = .tuple [nD (j + i), a]
  | [], j, i, d, h => by simp [enD] at h
  | a :: ds, j, 0, d, h => by
    simp [enD] at h
    exact ⟨a, rfl, h.symm⟩
  | a :: ds, j, i + 1, d, h => by
    have h' : (enD (j + 1) ds)[i]? = some d := by simpa [enD] using h
    obtain ⟨x, h1, h2⟩ := enD_get h'
    refine ⟨x, by simpa using h1, ?_⟩
    rw [h2, show j + 1 + i = j + (i + 1) from by omega]
theorem wk_E {K : PySem.W.Frag} {I : Hp} {k : Bool} {a : Addr} {xs : List V} {ds : List PyData} (h1 : SqB K k I a xs) (d1 : DpAll K I xs ds) : Wk K (ItE K k a) I (enD 0 ds) where
  stop := fun i I' H t1 t2 hi => by
    rw [enD_len, ← dpAll_length d1] at hi
    exact ⟨xs, sqB_mono (t1.trans t2) h1, hi⟩
  go := fun i I' H t1 t2 hi => by
    rw [enD_len, ← dpAll_length d1] at hi
    exact ⟨xs, xs[i], sqB_mono (t1.trans t2) h1, by simp [hi]⟩
  yld := fun i d I' H x H' t1 t2 hi y => by
    obtain ⟨T, u, rfl, hT, rfl, f1⟩ := y
    obtain ⟨p, e1, rfl⟩ := enD_get hi
    obtain ⟨u', g1, g2⟩ := dpAll_get d1 e1
    have z1 := f1 xs (sqB_mono (t1.trans t2) h1)
    rw [g1] at z1
    cases z1
    have sn := same_new (t2.free hT) (.tup [.int (i : Nat), u])
    exact ⟨upd I' T (.tup [.int (i : Nat), u]), Ext.new t2 hT _, .tup (SqT.of upd_same) (.cons (by rw [Nat.zero_add]; exact .int _) (.cons (dp_mono (t1.trans sn) _ _ g2) .nil))⟩
section
variable {X : Cx} {S : Sls} {M : Mp} {a b c : Expr} {elts : List Expr} {pos p tpos : Pos} {kk : Nat} {d1 d2 d3 : PyData} {ds es fs : List PyData}
theorem ix_zip2 (T : Txt X.K X.mg) (h1 : seqD d1 = some ds) (h2 : seqD d2 = some es) (ha : EX X a S M (.d d1)) (hb : EX X b S M (.d d2)) (hg : Gl X "zip" := by rfl) (hs : starEach [a, b] X.env = (false, eval a X.env) :: starEach [b] X.env := by rfl)
    (hs2 : starEach (b :: []) X.env = (false, eval b X.env) :: starEach [] X.env := by rfl) (hpl : (backTo pos (starEach [b] X.env)).any (·.1) = false := by rfl) :
    IX X (.Tuple elts kk tpos) (.Call (.Name "zip" p) [a, b] [] pos) S M (zip2D ds es) := ⟨_, pi_Z2 hg (T.free _ (by decide +kernel)) (pa_cons pe_ej (pa_cons pe_ej pa_nil hs2) hs) hs hpl, fun I H σ t l m R k => ha I H σ t l m _ fun v I2 H2 e2 hv => hb I2 H2 σ e2.t (l.mono e2.i) (m.ext e2) _ fun w I3 H3 e3 hw => by
  obtain ⟨k1, q1, xs, rfl, x1, x2⟩ := seqB_of (dp_mono e3.i _ _ hv) h1
  obtain ⟨k2, q2, ys, rfl, y1, y2⟩ := seqB_of hw h2
  exact ⟨k1, k2, q1, q2, xs, ys, rfl, sqB_mono e3.t x1, sqB_mono e3.t y1, k _ I3 H3 (e2.trans e3) (wk_Z2 x1 y1 x2 y2)⟩⟩
theorem ix_zip3 (T : Txt X.K X.mg) (h1 : seqD d1 = some ds) (h2 : seqD d2 = some es) (h3 : seqD d3 = some fs) (ha : EX X a S M (.d d1)) (hb : EX X b S M (.d d2)) (hc : EX X c S M (.d d3)) (hg : Gl X "zip" := by rfl) (hs : starEach [a, b, c] X.env = (false, eval a X.env) :: starEach [b, c] X.env := by rfl)
    (hs2 : starEach (b :: [c]) X.env = (false, eval b X.env) :: starEach [c] X.env := by rfl) (hs3 : starEach (c :: []) X.env = (false, eval c X.env) :: starEach [] X.env := by rfl) (hpl : (backTo pos (starEach [b, c] X.env)).any (·.1) = false := by rfl) :
    IX X (.Tuple elts kk tpos) (.Call (.Name "zip" p) [a, b, c] [] pos) S M (zip3D ds es fs) := ⟨_, pi_Z3 hg (T.free _ (by decide +kernel)) (pa_cons pe_ej (pa_cons pe_ej (pa_cons pe_ej pa_nil hs3) hs2) hs) hs hpl, fun I H σ t l m R k => ha I H σ t l m _ fun v I2 H2 e2 hv => hb I2 H2 σ e2.t (l.mono e2.i) (m.ext e2) _ fun w I3 H3 e3 hw => hc I3 H3 σ e3.t ((l.mono e2.i).mono e3.i) ((m.ext e2).ext e3) _ fun u I4 H4 e4 hu => by
  obtain ⟨k1, q1, xs, rfl, x1, x2⟩ := seqB_of (dp_mono (e3.i.trans e4.i) _ _ hv) h1
  obtain ⟨k2, q2, ys, rfl, y1, y2⟩ := seqB_of (dp_mono e4.i _ _ hw) h2
  obtain ⟨k3, q3, zs, rfl, z1, z2⟩ := seqB_of hu h3
  exact ⟨k1, k2, k3, q1, q2, q3, xs, ys, zs, rfl, sqB_mono e4.t x1, sqB_mono e4.t y1, sqB_mono e4.t z1, k _ I4 H4 ((e2.trans e3).trans e4) (wk_Z3 x1 y1 z1 x2 y2 z2)⟩⟩
theorem ix_enum (T : Txt X.K X.mg) (h1 : seqD d1 = some ds) (ha : EX X a S M (.d d1)) (hg : Gl X "enumerate" := by rfl) (hs : starEach [a] X.env = [(false, eval a X.env)] := by rfl) (hs2 : starEach (a :: []) X.env = (false, eval a X.env) :: starEach [] X.env := by rfl) :
    IX X (.Tuple elts kk tpos) (.Call (.Name "enumerate" p) [a] [] pos) S M (enD 0 ds) := ⟨_, pi_E hg (T.free _ (by decide +kernel)) (pa_cons pe_ej pa_nil hs2) hs, fun I H σ t l m R k => ha I H σ t l m _ fun v I2 H2 e2 hv => by
  obtain ⟨k1, q1, xs, rfl, x1, x2⟩ := seqB_of hv h1
  exact ⟨k1, q1, xs, rfl, sqB_mono e2.t x1, k _ I2 H2 e2 (wk_E x1 x2)⟩⟩
/-- a list or a tuple, walked -/
theorem ix_seq {tg iter : Expr} (hd : seqD d1 = some ds) (h : EX X iter S M (.d d1)) : IX X tg iter S M ds := by
  cases d1 with
  | list xs => cases hd; exact ix_lst h
  | tuple xs => cases hd; exact ix_tup h
  | _ => cases hd
end
end HW
/-! Slices of tuples, tuple * 1, len of a net. -/
namespace HW
open PySem PySem.Spec L2
open PyProof.Rows (Call_)
open PySem.Builtin
theorem cutD_from {α : Type} (xs : List α) (k : Nat) : cutD xs (some (k : Int)) none = xs.drop k := by
  unfold cutD
  rw [HT.sIx_nat, HT.sIx_none]
  by_cases h : k ≤ xs.length
  · rw [Nat.min_eq_left h, List.take_of_length_le (by rw [List.length_drop]; exact Nat.le_refl _)]
  · rw [Nat.min_eq_right (by omega), List.drop_eq_nil_of_le (Nat.le_refl _), List.drop_eq_nil_of_le (by omega), List.take_nil]
theorem cutD_to {α : Type} (xs : List α) (k : Nat) : cutD xs none (some (k : Int)) = xs.take k := by
  unfold cutD
  rw [HT.sIx_nat, HT.sIx_none, List.drop_zero]
  by_cases h : k ≤ xs.length
  · rw [Nat.min_eq_left h, Nat.sub_zero]
  · rw [Nat.min_eq_right (by omega), Nat.sub_zero, List.take_of_length_le (Nat.le_refl _), List.take_of_length_le (by omega)]
theorem cutD_last {α : Type} (xs : List α) : cutD xs none (some (-1)) = xs.dropLast := by
  unfold cutD
  have e : HT.sIx xs.length xs.length (some (-1)) = xs.length - 1 := by
    show (if (-1 : Int) < 0 then ((-1 : Int) + (xs.length : Int)).toNat else min (-1 : Int).toNat xs.length) = _
    rw [if_pos (by decide)]
    omega
  rw [e]
  show (xs.drop 0).take (xs.length - 1 - 0) = _
  rw [List.drop_zero, Nat.sub_zero, List.dropLast_eq_take]
theorem cutD_all {α : Type} (xs : List α) {lo hi : Option Int} (h : HT.sIx xs.length 0 lo = 0 ∧ HT.sIx xs.length xs.length hi = xs.length) : cutD xs lo hi = xs := by
  unfold cutD
  rw [h.1, h.2, List.drop_zero, Nat.sub_zero, List.take_length]
/-! ### tuple * 1 -/
theorem tuple_mul1 (l : Addr) (items : Array Value) (n : Nat) (dd : Option Addr) (sl : Array (Option Value)) (u : Tok) :
    Meets (Builtin.«tuple.__mul__» ⟨[.ref l, .int 1 u], []⟩) (fun _ R s => s.heap.get? l = some { cls := .type "tuple", dict := dd, data := .seq items n, slots := sl } ∧
      R (.ok (.ret (Value.ref l))) s) :=
  .of_wp fun prog w A R s h => by
    obtain ⟨hp, g, d, tk, os⟩ := s
    obtain ⟨hl, h⟩ := h
    have f1 := AutoSeq1.idx_int
    have c1 : (items.isEmpty || (1 : Int) == 1) = true := by cases items.isEmpty <;> rfl
    wp_walk using PySem.AutoSeq1.wpAny_loadPart' hl
    repeat (first
      | (refine wpAny_ite_true (decide_eq_true c1) ?_; wp_walk using PySem.AutoSeq1.wpAny_loadPart' hl)
      | (refine wpAny_ite_true (c1) ?_; wp_walk using PySem.AutoSeq1.wpAny_loadPart' hl))
    exact ⟨_, rfl, h⟩
def rRep1 (K : PySem.W.Frag) : R2 := fun x y H Q => ∃ l xs, x = .ref l ∧ y = .int 1 ∧ SqT K H l xs ∧ Q (.ref l) H
section
variable {X : Cx}
theorem op_rep1 : OpR X (binaryOp .Mult) (rRep1 X.K) := by
  intro pins s σ H x y v u Q I rx ry h
  obtain ⟨l, xs, rfl, rfl, hT, q⟩ := h
  cases rx
  obtain ⟨t, rfl⟩ := ry
  obtain ⟨its, r, ⟨⟨cls, dd, data, sl⟩, ho, hc, n, hd⟩, hs⟩ := I.tuple hT
  simp only at hc hd
  subst hc hd
  refine wpAny_binaryOp_repeat_ref (T := "tuple") (U := "int") (by decide) ⟨_, ho, rfl⟩ (fun s' => typeIs_int s' 1 t) noFill_tuple_mul F.fills_int_mul F.slot_int_rmul repeat_tuple F.slot_int_index.lookup
    (call_meets F.slot_int_rmul (typeIs_int s 1 t) F.entry_int_rmul (F.args_int_rmul_2 _ _) (int_rmul_tuple 1 t l its.toArray n dd sl)
      ⟨ho, rfl, ⟨_, ho, rfl⟩, call_meets F.slot_tuple_mul ⟨_, ho, rfl⟩ F.entry_tuple_mul (F.args_tuple_mul_2 _ _) (tuple_mul1 l its.toArray n dd sl t) ⟨ho, ?_⟩⟩)
  exact ⟨.ref l, H, I, rfl, q⟩
variable {S : Sls} {M : Mp} {a b c e : Expr} {pos p : Pos} {ds : List PyData}
/-- t * k, k at least 1 -/
theorem ex_rep {k : Nat} (h0 : ds ≠ []) (h1 : 1 ≤ k) (h2 : k ≤ 1000) (hz : ds.length ≤ 1000) (ha : EX X a S M (.d (.tuple ds))) (hb : EX X b S M (.d (nD k))) : EX X (.BinOp a .Mult b pos) S M (.d (.tuple (List.replicate k ds).flatten)) := by
  by_cases h : k = 1
  · subst h
    refine ex_op op_rep1 ha hb fun x y I H Q t hx hy q => ?_
    obtain ⟨p, xs, rfl, g1, g2⟩ := dp_tup hx
    refine ⟨p, xs, rfl, dp_int hy, sqT_mono t g1, q _ I H (Ext.refl t) ?_⟩
    have e : (List.replicate 1 ds).flatten = ds := by simp
    rw [e]
    exact hx
  · refine ex_op op_repT ha hb fun x y I H Q t hx hy q => ?_
    obtain ⟨p, xs, rfl, g1, g2⟩ := dp_tup hx
    have l := dpAll_length g2
    refine ⟨p, (k : Nat), xs, rfl, dp_int hy, sqT_mono t g1, fun z => h0 (List.eq_nil_of_length_eq_zero (by rw [← l, z]; rfl)), by omega, by omega, by omega, fun w hw => ?_⟩
    rw [Int.toNat_natCast]
    exact q _ _ _ (Ext.new t hw _) (.tup (SqT.of upd_same) (dpAll_rep (dpAll_mono (same_new (t.free hw) _) _ _ g2) k))
/-- t[lo:hi] -/
theorem ex_slA {lo hi : Option Expr} {i j : Option Int} {p2 : Pos} (ha : EX X a S M (.d (.tuple ds))) (hl : OX X lo S M i) (hh : OX X hi S M j) :
    EX X (.Subscript a (.Slice lo hi none p2) pos) S M (.d (.tuple (cutD ds i j))) := fun I H σ t l m Q k => by
  obtain ⟨t1, p1, h1⟩ := hl
  obtain ⟨t2, p2, h2⟩ := hh
  exact ej_of (pe_slice sl_tupA pe_ej p1 p2) (ha I H σ t l m _ fun v I2 H2 e2 hv => h1 I2 H2 σ e2.t (l.mono e2.i) (m.ext e2) _ fun I3 H3 e3 => h2 I3 H3 σ e3.t ((l.mono e2.i).mono e3.i) ((m.ext e2).ext e3) _ fun I4 H4 e4 => by
    have hv4 := dp_mono (e3.i.trans e4.i) _ _ hv
    obtain ⟨q, xs, rfl, h3, h5⟩ := dp_tup hv4
    refine ⟨q, xs, rfl, sqT_mono e4.t h3, fun hw => ?_, fun hw w hw' => ?_⟩
    · rw [dpAll_length h5] at hw
      exact k _ I4 H4 ((e2.trans e3).trans e4) (by rw [cutD_all ds hw]; exact hv4)
    · exact k _ _ _ (((e2.trans e3).trans e4).trans (Ext.new e4.t hw' _)) (.tup (SqT.of upd_same) (dpAll_cut (dpAll_mono (same_new (e4.t.free hw') _) _ _ h5) i j)))
/-! ### len of an own object -/
theorem len_own {prog : Program} {w : World} {A : Around} {E : Value → Shared → Prop} {s : Shared} {K : PySem.W.Frag} {x C f : Addr} {ox : Obj} {od : Option Obj} {Q : Value → Shared → Prop} (X₀ : K.In s.heap) (I : PySem.W.InstAt s.heap x ox C od) (hs : PySem.W.findIn K (.ref C) "__len__" = some (some (.ref f))) (hf : PySem.W.isFn K (.ref f) = true)
    (h : wpAny (model prog w) A.in1 (call (.ref f) [.ref x]) (PySem.W.LenBack Q) E s) : wpAny (model prog w) A (call (.builtin "len") [.ref x]) Q E s := by
  refine Calls.call_function_entry kind_len plain_len entry_len (args_len1 _) ?_
  unfold Builtin.«len»
  refine wpAny_bind (m := oneArg "len" _) (wpAny_pure ?_)
  refine wpAny_bind (m := callSpecial? (.ref x) (Str.ofString "__len__")) (PySem.W.special_fn X₀ I hs (beq_iff_eq.mp hf) (wpAny_mono h (fun r s' hr => ?_) fun _ _ y => y))
  cases r <;> first | exact hr.elim | skip
  rename_i n u
  obtain ⟨⟨h0, h1⟩, hq⟩ := hr
  refine wpAny_bind (wpAny_holding (wpAny_pure ?_))
  refine wpAny_bind (wpAny_letGo ?_)
  show wpAny _ _ (if n < 0 then _ else _) _ _ _
  rw [if_neg (by omega)]
  show wpAny _ _ (if n ≥ 2 ^ 63 then _ else _) _ _ _
  rw [if_neg (by omega)]
  exact wpAny_bind (wpAny_mkInt (wpAny_pure ⟨_, rfl, hq⟩))
def rLenOwn (C : Addr) (sp : Sp) (E : XK) : List V → Hp → VK → Prop := fun vs H Q => ∃ a dx fs, vs = [.ref a] ∧ H a = some (.ins C dx fs) ∧ sp [.ref a] H (fun v H' => ∃ n : Int, v = .int n ∧ 0 ≤ n ∧ n < 2 ^ 63 ∧ Q (.int n) H') E
theorem call_lenOwn {CX : CXT} {k : Nat} {C f : Addr} {fd : FuncData} {ps : List Str} {sp : Sp} {E : XK} (hm : Meth X.K C "__len__" f) (F : FnOk X.prog X.w X.K X.mg X.base CX k f fd ps sp) (hr : Room (k + 1) X.A) (hb : L2.Binds X.K fd ps []) (hx : Passes CX X E) : CallR X (.builtin "len") (rLenOwn C sp E) := by
  intro pins s σ H vs us Q I r h
  obtain ⟨a, dx, fs, rfl, ha, q⟩ := h
  cases r with
  | cons r rr =>
    cases rr
    cases r
    obtain ⟨mA, O, _⟩ := ins_get I.hok ha
    obtain ⟨od, O2, _⟩ := O.look
    refine len_own I.kIn O2 hm.at_ hm.fn ?_
    have hl : ([Value.ref a] ++ []).length = ps.length := F.len _ _ _ _ q
    have rv : Vals [V.ref a] ([Value.ref a] ++ []) := .cons rfl .nil
    refine wpAny_call (codeAny_mono (F.run X.A.in1 X.stack s H ⟨[.ref a], []⟩ ([.ref a] ++ []) [.ref a] _ E hr.in1 I.env0.in1 (hb s [.ref a] I.kIn hl) rv q) fun r s' hq => ?_)
    cases r with
    | error e => exact hx pins σ H s e s' I hq
    | ok fl =>
      cases fl with
      | ret u =>
        obtain ⟨v, H', I3, rv, n, ev, h0, h1, q3⟩ := I.after hq
        subst ev
        obtain ⟨t, rfl⟩ := rv
        exact ⟨⟨h0, h1⟩, .int n, H', I3.kept (h' := s'.heap) (t' := s'.toks + 1) (fun _ _ z => z), ⟨_, rfl⟩, q3⟩
      | next => exact False.elim hq
      | brk => exact False.elim hq
      | cont => exact False.elim hq
def CNet_len (ss : List Sh) (sh : Sh) : Prop := ∃ p : NetP, p.n ≤ 4 ∧ ss = [.net p] ∧ sh = .d (nD p.n)
theorem ex_lenNet {k j : Nat} (T : Txt X.K X.mg) (F : MtP X.prog X.w X.K X.mg X.base "Net" "__len__" j (spP X.K CNet_len)) {n : NetP} (hn : n.n ≤ 4) (hr : Room k X.A) (ha : EX X a S M (.net n)) (hj : j + 1 ≤ k := by decide) (hg : Gl X "len" := by rfl)
    (he : starEach (a :: []) X.env = (false, eval a X.env) :: starEach [] X.env := by rfl) (hpl : (backTo pos (starEach [] X.env)).any (·.1) = false := by rfl) : EX X (.Call (.Name "len" p) [a] [] pos) S M (.d (nD n.n)) := by
  obtain ⟨f, fd, ps, h1, h3, h4⟩ := F.ex
  refine ex_b T (call_lenOwn (E := fun _ _ _ => False) h1 h4 (hr.mono hj) h3 pass0) boot_len (ax_cons ha ax_nil he) (fun vs I H Q t hv q => ?_) (hg := hg) (he := he) (hpl := hpl)
  obtain ⟨v, rfl, hv1⟩ := shA1 hv
  have hv' : NetOk X.K I v n := hv1
  obtain ⟨z, dx, vt, vw, rfl, g1, g2, g3⟩ := hv'
  refine ⟨z, dx, _, rfl, t _ _ g1, I, [.net n], _, ⟨n, hn, rfl, rfl⟩, t, ⟨hv1, trivial⟩, fun v I2 H2 e2 hv2 => ?_⟩
  exact ⟨_, dp_int hv2, by omega, by omega, q _ I2 H2 e2 (.int _)⟩
end
end HW
/-! Making objects. -/
namespace HW
open PySem PySem.Spec L2
def putS (f : Str) (v : Sh) : List (Str × Sh) → List (Str × Sh)
  | [] => [(f, v)]
  | (g, x) :: r => if g = f then (g, v) :: r else (g, x) :: putS f v r
theorem FsOk.put {K : PySem.W.Frag} {I : Hp} {f : Str} {v : V} {sh : Sh} (h : sh.ok K I v) : ∀ {gs : List (Str × V)} {fs : List (Str × Sh)}, FsOk K I gs fs → FsOk K I (putF f v gs) (putS f sh fs)
  | [], [], _ => ⟨rfl, h, trivial⟩
  | (g, x) :: gs, (g', x') :: fs, q => by
    obtain ⟨q1, q2, q3⟩ := q
    have q1 : g = g' := q1
    subst q1
    unfold putF putS
    by_cases e : g = f
    · rw [if_pos e, if_pos e]; exact ⟨rfl, h, q3⟩
    · rw [if_neg e, if_neg e]; exact ⟨rfl, q2, FsOk.put h q3⟩
  | [], _ :: _, q => q.elim
  | _ :: _, [], q => q.elim
/-- one thing more that may be changed -/
theorem Stt.more {K : PySem.W.Frag} {B : Bs} {I H : Hp} {M : Mp} {σ : L2.St} {S : Sls} (s : Stt K B I H M σ S) {p : Addr} {mo : MO} (hB : B.H p = none) (hI : I p = none) (hm : mo.ok K I H p) : Stt K B I H (mset M p mo) σ S :=
  ⟨s.x, s.g, s.l, fun q u h => by
    by_cases e : q = p
    · subst e; rw [mset_same] at h; cases h; exact ⟨hI, hm⟩
    · rw [mset_ne e] at h; exact s.m q u h, fun q u h => by
    by_cases e : q = p
    · subst e; exact hB
    · rw [mset_ne e] at h; exact s.fr q u h⟩
/-- a thing is not changed any more -/
theorem Stt.fix {K : PySem.W.Frag} {B : Bs} {I H : Hp} {M : Mp} {σ : L2.St} {S : Sls} (s : Stt K B I H M σ S) {p : Addr} {o : HO} (hB : B.H p = none) (hI : I p = none) (hH : H p = some o) : Stt K B (upd I p o) H (mdel M p) σ S where
  x := ⟨s.x.i.trans (same_new hI o), fun a u q => by
    by_cases e : a = p
    · rw [e, upd_same] at q; rw [e, hH]; exact q
    · rw [upd_ne e] at q; exact s.x.t a u q, s.x.h, fun a u q1 q2 => by
    rw [upd_ne (fun e => by rw [e, hB] at q1; cases q1)]
    exact s.x.f a u q1 q2⟩
  g := s.g.trans (same_new hI o)
  l := s.l.mono (same_new hI o)
  m := fun q u h => by
    have e : q ≠ p := fun e => by rw [e] at h; unfold mdel at h; rw [if_pos rfl] at h; cases h
    rw [mdel_ne e] at h
    obtain ⟨h1, h2⟩ := s.m q u h
    refine ⟨by rw [upd_ne e]; exact h1, ?_⟩
    cases u with
    | lst xs => obtain ⟨ws, g1, g2⟩ := h2; exact ⟨ws, g1, g2.mono (same_new hI o)⟩
    | dct kvs => exact h2
    | ins C dx fs => obtain ⟨ws, g1, g2⟩ := h2; exact ⟨ws, g1, g2.mono (same_new hI o)⟩
  fr := fun q u h => by
    have e : q ≠ p := fun e => by rw [e] at h; unfold mdel at h; rw [if_pos rfl] at h; cases h
    rw [mdel_ne e] at h
    exact s.fr q u h
theorem Stt.subM {K : PySem.W.Frag} {B : Bs} {I H : Hp} {M M' : Mp} {σ : L2.St} {S : Sls} (s : Stt K B I H M σ S) (h : SubM M' M) : Stt K B I H M' σ S := ⟨s.x, s.g, s.l, s.m.sub h, fun p o q => s.fr p o (h p o q)⟩
theorem sj_mono {X : Cx} {sts : List Stmt} {D D' : Ends} {σ : L2.St} {H : Hp} (h : SJ X sts D σ H) (h1 : ∀ σ H, D.nx σ H → D'.nx σ H) (h2 : ∀ v H, D.rt v H → D'.rt v H) (h3 : ∀ σ H, D.bk σ H → D'.bk σ H) (h4 : ∀ σ H, D.ct σ H → D'.ct σ H) : SJ X sts D' σ H := fun pins s I =>
  thn (h pins s I) fun fl s2 q => by
    cases fl with
    | next => obtain ⟨σ', H', J', r⟩ := q; exact ⟨σ', H', J', h1 _ _ r⟩
    | ret u => obtain ⟨v, σ', H', J', rv, r⟩ := q; exact ⟨v, σ', H', J', rv, h2 _ _ r⟩
    | brk => obtain ⟨σ', H', J', r⟩ := q; exact ⟨σ', H', J', h3 _ _ r⟩
    | cont => obtain ⟨σ', H', J', r⟩ := q; exact ⟨σ', H', J', h4 _ _ r⟩
section
variable {X : Cx} {S : Sls} {M : Mp} {a b c e o : Expr} {es : List Expr} {sh s1 s2 : Sh} {ss : List Sh} {pos pos' p : Pos} {x f : Str} {ds : List PyData} {D : Ends} {B : Bs} {rest : List Stmt} {C dx q : Addr} {fs : List (Str × Sh)}
/-- self.f = e -/
theorem sx_fld (hc : Cls X.K C) (hn : NoAttr X.K C f) (hM : M q = some (.ins C dx fs)) (he : EX X e S M sh) (ho : EX X o S M (.v (.ref q))) (k : SX X rest D S (mset M q (.ins C dx (putS f sh fs))) B) (hs : swapsWith e (some (.Attribute o f pos')) pos.line X.env = pure false := by rfl) (hz : Nat.blt fs.length 1000 = true := by rfl) :
    SX X (.Assign [.Attribute o f pos'] e pos :: rest) D S M B :=
  sx_of (ps_fld pe_ej pe_ej hs) fun I H σ s => he I H σ s.x.t s.l s.m _ fun v I2 H2 e2 hv => ho I2 H2 σ e2.t (s.l.mono e2.i) (s.m.ext e2) _ fun w I3 H3 e3 hw => by
    have s3 := (s.ext e2).ext e3
    obtain ⟨n1, gs, g1, g2⟩ := s3.m q _ hM
    refine ⟨q, C, dx, gs, hw, g1, hc, hn, by rw [g2.length]; exact Nat.blt_eq.mp hz, ?_⟩
    exact k I3 _ σ (s3.put (mo := .ins C dx (putS f sh fs)) hM ⟨putF f v gs, upd_same, FsOk.put (Sh.mono e3.i hv) g2⟩)
/-- self.f = a new list that will be changed -/
theorem sx_fldL (hc : Cls X.K C) (hn : NoAttr X.K C f) (hM : M q = some (.ins C dx fs)) (he : EXL X e S M ss) (ho : ∀ M', EX X o S M' (.v (.ref q))) (k : ∀ l, M l = none → SX X rest D S (mset (mset M l (.lst ss)) q (.ins C dx (putS f (.v (.ref l)) fs))) B) (hs : swapsWith e (some (.Attribute o f pos')) pos.line X.env = pure false := by rfl) (hz : Nat.blt fs.length 1000 = true := by rfl) :
    SX X (.Assign [.Attribute o f pos'] e pos :: rest) D S M B :=
  sx_of (ps_fld pe_ej pe_ej hs) fun I H σ s => he I H σ s.x.t s.l s.m _ fun l vs I2 H2 e2 hl hvs => by
    have hMl := fresh_M (s.m.ext e2) hl
    have s2 := (s.ext e2).newM (mo := .lst ss) hl ⟨vs, upd_same, hvs⟩
    refine ho _ I2 _ σ s2.x.t s2.l s2.m _ fun w I3 H3 e3 hw => ?_
    have s3 := s2.ext e3
    have hq : (mset M l (.lst ss)) q = some (.ins C dx fs) := by rw [mset_ne (fun z => by rw [z, hMl] at hM; cases hM)]; exact hM
    obtain ⟨n1, gs, g1, g2⟩ := s3.m q _ hq
    refine ⟨q, C, dx, gs, hw, g1, hc, hn, by rw [g2.length]; exact Nat.blt_eq.mp hz, ?_⟩
    exact k l hMl I3 _ σ (s3.put (mo := .ins C dx (putS f (.v (.ref l)) fs)) hq ⟨putF f (.ref l) gs, upd_same, FsOk.put (sh := .v (.ref l)) rfl g2⟩)
theorem ex_toI {i j : Int} (h : EX X e S M (.d (.int i))) (q : i = j) : EX X e S M (.d (.int j)) := q ▸ h
theorem ex_toB {i j : Bool} (h : EX X e S M (.d (.bool i))) (q : i = j) : EX X e S M (.d (.bool j)) := q ▸ h
theorem ad_nil : AX X [] S M (([] : List PyData).map Sh.d) := ax_nil
theorem ad_cons {d : PyData} (ha : EX X e S M (.d d)) (hr : AX X es S M (ds.map Sh.d)) (hs : starEach (e :: es) X.env = (false, eval e X.env) :: starEach es X.env := by rfl) : AX X (e :: es) S M ((d :: ds).map Sh.d) := ax_cons ha hr hs
theorem ex_tupD {x1} (ha : AX X es S M (ds.map Sh.d)) (hz : Nat.ble ds.length 100000 = true := by rfl) : EX X (.Tuple es x1 pos) S M (.d (.tuple ds)) := ex_tup ha rfl (Nat.ble_eq.mp hz)
theorem ex_lstD (ha : AX X es S M (ds.map Sh.d)) (hz : Nat.ble ds.length 100000 = true := by rfl) : EX X (.List es pos) S M (.nl ds) := ex_lst ha rfl (Nat.ble_eq.mp hz)
end
/-! ### a constructor's promise -/
def spI (K : PySem.W.Frag) (Cn : Str) (C : List Sh → (List (Str × Sh) → Mp → Prop) → Prop) : Sp := fun vs H Q _ => ∃ I x dx us ss R, vs = .ref x :: us ∧ Same I H ∧ I x = none ∧ H x = some (.ins (He.ga K Cn) dx []) ∧ ShA K I us ss ∧ C ss R ∧
  ∀ I2 H2 fs M', R fs M' → Ext I (hide (mset M0 x (.ins (He.ga K Cn) dx [])) H) I2 H2 → MOk K I2 H2 (mset M' x (.ins (He.ga K Cn) dx fs)) → (∀ p o, M' p = some o → H p = none) → M' x = none → Q .non H2
def DI (K : PySem.W.Frag) (B : Bs) (Cn : Str) (H : Hp) (x dx : Addr) (R : List (Str × Sh) → Mp → Prop) : Ends := { nx := fun _ H2 => ∃ I2 fs M', R fs M' ∧ Ext B.I B.H I2 H2 ∧ MOk K I2 H2 (mset M' x (.ins (He.ga K Cn) dx fs)) ∧ (∀ p o, M' p = some o → H p = none) ∧ M' x = none, rt := fun _ _ => False }
section
variable {P : Program} {w : World} {K : PySem.W.Frag} {mg : Str → Option Value} {base : Heap} {nm qual : Str} {params : Arguments} {body : List Stmt} {scope : Scope} {dvs : List V} {kws : List (Str × V)} {f : Addr} {fd : FuncData}
theorem mo1 {K : PySem.W.Frag} {I H : Hp} {x C dx : Addr} (n1 : I x = none) (h1 : H x = some (.ins C dx [])) : MOk K I H (mset M0 x (.ins C dx [])) := fun p o h => by
  by_cases e : p = x
  · subst e; rw [mset_same] at h; cases h; exact ⟨n1, [], h1, trivial⟩
  · rw [mset_ne e] at h; cases h
theorem ok_init {N ps : List Str} {k : Nat} {Cn : Str} {C : List Sh → (List (Str × Sh) → Mp → Prop) → Prop} (F : FunD K nm qual params body scope dvs kws f fd) (S : FnScope N ps scope) (len : ∀ ss R, C ss R → ss.length + 1 = ps.length)
    (hb : ∀ (cdv : Value) (A : Around) (outer : List Env) (s : Shared) (H : Hp) (E : XK) (ss : List Sh) (R : List (Str × Sh) → Mp → Prop) (x dx : Addr) (B : Bs), Room k (A.deeper (PyProof.Rows.envOfC qual scope s.heap.objs.size f cdv)) → C ss R → (∀ p, B.H p = none → p ≠ x → H p = none) →
      SX (cxOf CX0 P w K mg base N qual scope f cdv A outer s H E).nox body (DI K B Cn H x dx R) (startS N (.v (.ref x) :: ss)) (mset M0 x (.ins (He.ga K Cn) dx [])) B) : FnOk P w K mg base CX0 (k + 1) f fd ps (spI K Cn C) := by
  refine F.ok S (fun vs H Q E h => ?_) fun cdv A outer s H vs Q E hr h => ?_
  · obtain ⟨I, x, dx, us, ss, R, rfl, t, n1, h1, hv, hC, _⟩ := h
    rw [List.length_cons, hv.length]
    exact len ss R hC
  · obtain ⟨I, x, dx, us, ss, R, rfl, t, n1, h1, hv, hC, q⟩ := h
    refine ⟨_, PSs.nox pss_sj, ?_⟩
    have sl : Sl K I (L2.start N (.ref x :: us)) (startS N (.v (.ref x) :: ss)) := sl_start (vs := .ref x :: us) (ss := .v (.ref x) :: ss) ⟨rfl, hv⟩
    have hd : ∀ p, hide (mset M0 x (.ins (He.ga K Cn) dx [])) H p = none → p ≠ x → H p = none := fun p h e => by
      rw [hide_none (by rw [mset_ne e]; rfl)] at h
      exact h
    have z := hb cdv A outer s H E ss R x dx ⟨I, hide (mset M0 x (.ins (He.ga K Cn) dx [])) H, I⟩ hr hC hd I H (L2.start N (.ref x :: us)) ⟨⟨Same.refl I, t, hide_same, fun _ _ _ n => n⟩, Same.refl I, sl, mo1 n1 h1, fun p o h => hide_some h⟩
    exact sj_mono z (fun σ' H' ⟨I2, fs, M', r1, r2, r3, r4, r5⟩ => q I2 H' fs M' r1 r2 r3 r4 r5) (fun _ _ h => h.elim) (fun _ _ h => h) (fun _ _ h => h)
end
end HW
/-! More rules: new lists by calls, loops whose list is made by a change, dicts of ints. -/
namespace HW
open PySem PySem.Spec L2
/-- data of bounded depth -/
def Sd (k : Nat) (d : PyData) : Prop := d.canLay0 = true ∧ d.depth ≤ k
theorem Sd.mono {k j : Nat} {d : PyData} (h : Sd k d) (q : k ≤ j) : Sd j d := ⟨h.1, Nat.le_trans h.2 q⟩
theorem Sd.all {k : Nat} : ∀ {ds : List PyData}, (∀ d ∈ ds, Sd k d) → PyData.canLayAll0 ds = true ∧ PyData.depthAll ds ≤ k
  | [], _ => ⟨rfl, Nat.zero_le _⟩
  | d :: ds, h => by
    have h1 := h d (List.mem_cons_self ..)
    have h2 := Sd.all fun x hx => h x (List.mem_cons_of_mem _ hx)
    refine ⟨?_, ?_⟩
    · show (d.canLay0 && PyData.canLayAll0 ds) = true
      rw [h1.1, h2.1]; rfl
    · show max d.depth (PyData.depthAll ds) ≤ k
      exact Nat.max_le.mpr ⟨h1.2, h2.2⟩
theorem Sd.list {k : Nat} {ds : List PyData} (h : ∀ d ∈ ds, Sd k d) : Sd (k + 1) (.list ds) := ⟨(Sd.all h).1, Nat.succ_le_succ (Sd.all h).2⟩
theorem Sd.tup {k : Nat} {ds : List PyData} (h : ∀ d ∈ ds, Sd k d) : Sd (k + 1) (.tuple ds) := ⟨(Sd.all h).1, Nat.succ_le_succ (Sd.all h).2⟩
theorem Sd.shaped {k : Nat} {d : PyData} (h : Sd k d) (q : k ≤ 64) : SeqAt.shaped d = true := by
  unfold SeqAt.shaped
  rw [h.1, decide_eq_true (Nat.le_trans h.2 q)]; rfl
theorem Sd.of {d : PyData} (h : SeqAt.shaped d = true) : Sd 64 d := ⟨SeqAt.canLay_of_shaped h, SeqAt.depth_of_shaped h⟩
theorem sd_int {i : Int} : Sd 0 (.int i) := ⟨rfl, Nat.le_refl _⟩
theorem sd_bl {i : Bool} : Sd 0 (.bool i) := ⟨rfl, Nat.le_refl _⟩
theorem sd_str {i : Str} (h : (PyData.str i).canLay0 = true := by decide +kernel) : Sd 0 (.str i) := ⟨h, Nat.le_refl _⟩
theorem sd_non : Sd 0 .none := ⟨rfl, Nat.le_refl _⟩
theorem Sd.map {α : Type} {k : Nat} {f : α → PyData} {xs : List α} (h : ∀ x, Sd k (f x)) : ∀ d ∈ xs.map f, Sd k d := fun d hd => by
  obtain ⟨x, _, rfl⟩ := List.mem_map.mp hd
  exact h x
theorem Sd.cons {k : Nat} {d : PyData} {ds : List PyData} (h : Sd k d) (t : ∀ x ∈ ds, Sd k x) : ∀ x ∈ d :: ds, Sd k x := fun x hx => by
  rcases List.mem_cons.mp hx with rfl | hx
  · exact h
  · exact t x hx
theorem Sd.nil {k : Nat} : ∀ x ∈ ([] : List PyData), Sd k x := fun _ h => by cases h
section
variable {X : Cx} {S : Sls} {M M1 : Mp} {a b c e o tg iter : Expr} {es : List Expr} {sh s1 s2 : Sh} {ss : List Sh} {pos pos' p apos : Pos} {x y : Str} {ds : List PyData} {D : Ends} {B : Bs} {rest body : List Stmt}
/-! ### new lists -/
/-- e makes a new list of such things, that nobody else knows -/
def EXN (X : Cx) (e : Expr) (S : Sls) (M : Mp) (ss : List Sh) : Prop :=
  ∀ (I H : Hp) (σ : L2.St), Same I H → Sl X.K I σ S → MOk X.K I H M → ∀ Q : VK, (∀ q vs I2 H2, Ext I H I2 H2 → H q = none → I2 q = none → H2 q = some (.lst vs) → ShA X.K I2 vs ss → Q (.ref q) H2) → EJ X e σ H Q
theorem exn_l (h : EXL X e S M ss) : EXN X e S M ss := fun I H σ t l m Q k => h I H σ t l m _ fun q vs I2 H2 e2 hq hvs =>
  k q vs I2 _ (e2.trans (Ext.tell e2.t (same_new hq _))) (by
    cases z : H q with
    | none => rfl
    | some o => rw [e2.h q o z] at hq; cases hq) (e2.t.free hq) upd_same hvs
theorem exn_d (h : EXN X e S M (ds.map Sh.d)) : EX X e S M (.nl ds) := fun I H σ t l m Q k => h I H σ t l m _ fun q vs I2 H2 e2 hq hI hH hvs => by
  refine k _ (upd I2 q (.lst vs)) H2 ⟨e2.i.trans (same_new hI _), fun a u z => ?_, e2.h, fun a u z1 z2 => ?_⟩ ⟨q, vs, rfl, upd_same, dpAll_mono (same_new hI _) _ _ hvs.dat⟩
  · by_cases w : a = q
    · rw [w, upd_same] at z; rw [w, hH]; exact z
    · rw [upd_ne w] at z; exact e2.t a u z
  · rw [upd_ne (fun w => by rw [w, hq] at z1; cases z1)]
    exact e2.f a u z1 z2
theorem sx_newN (j : Nat) (hN : X.N.Nodup) (hi : X.N[j]? = some x) (h : EXN X e S M ss) (k : ∀ q, M q = none → SX X rest D (S.set j (some (.v (.ref q)))) (mset M q (.lst ss)) B) (hx : Loc X.env.scope x := by first | exact Or.inl rfl | exact Or.inr rfl)
    (hs : swapsWith e (some (.Name x p)) pos.line X.env = pure false := by rfl) (hf : X.fn x = true ∨ X.env.scope.names.lookup x = some .local := by first | exact .inl rfl | exact .inr rfl) : SX X (.Assign [.Name x p] e pos :: rest) D S M B :=
  sx_of (ps_set hN hi hx pe_ej hs hf) fun I H σ s => h I H σ s.x.t s.l s.m _ fun q vs I2 H2 e2 hq hI hH hvs =>
    k q (fresh_M s.m hq) I2 _ _ (Stt.set (sh := .v (.ref q)) ((s.ext e2).more (mo := .lst ss) (s.x.h.free hq) hI ⟨vs, hH, hvs⟩) j rfl)
/-- a, b = e1, e2: e2 makes a new list that will be changed -/
theorem sx_parEL (i j : Nat) {kt k2} {py pt pt2 : Pos} (hc : X.calm = true) (hN : X.N.Nodup) (hi : X.N[i]? = some x) (hj : X.N[j]? = some y) (hij : i ≠ j) (ha : EX X a S M s1) (hb : EXL X b S M ss) (k : ∀ q, M q = none → SX X rest D ((S.set i (some s1)).set j (some (.v (.ref q)))) (mset M q (.lst ss)) B)
    (hx : X.env.scope.names.lookup x = some .local := by rfl) (hy : X.env.scope.names.lookup y = some .local := by rfl)
    (hw : swappedStores [.Tuple [.Name x p, .Name y py] kt pt] (.Tuple [a, b] k2 pt2) X.env = pure (some [x, y]) := by rfl) (hs : swapsWithSole [.Tuple [.Name x p, .Name y py] kt pt] (.Tuple [a, b] k2 pt2) pos.line X.env = pure false := by rfl)
    (he : starEach (a :: [b]) X.env = (false, eval a X.env) :: starEach [b] X.env := by rfl) (he2 : starEach (b :: []) X.env = (false, eval b X.env) :: starEach [] X.env := by rfl) :
    SX X (.Assign [.Tuple [.Name x p, .Name y py] kt pt] (.Tuple [a, b] k2 pt2) pos :: rest) D S M B :=
  sx_parQ i j hc hN hi hj hij (fun I H σ s => ex_q s ha fun u I2 H2 s2 e2 hu => exl_q s2 hb fun q I3 H3 hMq e3 s3 vs hq hvs s4 => k q hMq I3 _ _ ((s4.set i (Sh.mono e3.i hu)).set (sh := .v (.ref q)) j rfl)) hx hy hw hs he he2
/-- the same the other way round -/
theorem sx_parLE (i j : Nat) {kt k2} {py pt pt2 : Pos} (hc : X.calm = true) (hN : X.N.Nodup) (hi : X.N[i]? = some x) (hj : X.N[j]? = some y) (hij : i ≠ j) (ha : EXL X a S M ss) (hb : ∀ M, EX X b S M s2) (k : ∀ q, M q = none → SX X rest D ((S.set i (some (.v (.ref q)))).set j (some s2)) (mset M q (.lst ss)) B)
    (hx : X.env.scope.names.lookup x = some .local := by rfl) (hy : X.env.scope.names.lookup y = some .local := by rfl)
    (hw : swappedStores [.Tuple [.Name x p, .Name y py] kt pt] (.Tuple [a, b] k2 pt2) X.env = pure (some [x, y]) := by rfl) (hs : swapsWithSole [.Tuple [.Name x p, .Name y py] kt pt] (.Tuple [a, b] k2 pt2) pos.line X.env = pure false := by rfl)
    (he : starEach (a :: [b]) X.env = (false, eval a X.env) :: starEach [b] X.env := by rfl) (he2 : starEach (b :: []) X.env = (false, eval b X.env) :: starEach [] X.env := by rfl) :
    SX X (.Assign [.Tuple [.Name x p, .Name y py] kt pt] (.Tuple [a, b] k2 pt2) pos :: rest) D S M B :=
  sx_parQ i j hc hN hi hj hij (fun I H σ s => exl_q s ha fun q I3 H3 hMq e3 s3 vs hq hvs s4 => ex_q s4 (hb _) fun u I2 H2 s2 e2 hu => k q hMq I2 _ _ ((s2.set (sh := .v (.ref q)) i rfl).set j hu)) hx hy hw hs he he2
/-- two new lists -/
theorem sx_parLL (i j : Nat) {kt k2} {py pt pt2 : Pos} {ss2 : List Sh} (hc : X.calm = true) (hN : X.N.Nodup) (hi : X.N[i]? = some x) (hj : X.N[j]? = some y) (hij : i ≠ j) (ha : EXL X a S M ss) (hb : ∀ M, EXL X b S M ss2) (k : ∀ q r, M q = none → q ≠ r → M r = none → SX X rest D ((S.set i (some (.v (.ref q)))).set j (some (.v (.ref r)))) (mset (mset M q (.lst ss)) r (.lst ss2)) B)
    (hx : X.env.scope.names.lookup x = some .local := by rfl) (hy : X.env.scope.names.lookup y = some .local := by rfl)
    (hw : swappedStores [.Tuple [.Name x p, .Name y py] kt pt] (.Tuple [a, b] k2 pt2) X.env = pure (some [x, y]) := by rfl) (hs : swapsWithSole [.Tuple [.Name x p, .Name y py] kt pt] (.Tuple [a, b] k2 pt2) pos.line X.env = pure false := by rfl)
    (he : starEach (a :: [b]) X.env = (false, eval a X.env) :: starEach [b] X.env := by rfl) (he2 : starEach (b :: []) X.env = (false, eval b X.env) :: starEach [] X.env := by rfl) :
    SX X (.Assign [.Tuple [.Name x p, .Name y py] kt pt] (.Tuple [a, b] k2 pt2) pos :: rest) D S M B :=
  sx_parQ i j hc hN hi hj hij (fun I H σ s => exl_q s ha fun q I3 H3 hMq e3 s3 vs hq hvs s4 => exl_q s4 (hb _) fun r I5 H5 hMr e5 s5 vs2 hr hvs2 s6 => by
    have hqr : q ≠ r := fun w => by rw [w, mset_same] at hMr; cases hMr
    exact k q r hMq hqr (by rw [mset_ne hqr.symm] at hMr; exact hMr) I5 _ _ ((s6.set (sh := .v (.ref q)) i rfl).set (sh := .v (.ref r)) j rfl)) hx hy hw hs he he2
/-- a call that makes a new list -/
def spF (K : PySem.W.Frag) (C : List Sh → List Sh → Prop) : Sp := fun vs H Q _ => ∃ I ss xs, C ss xs ∧ Same I H ∧ ShA K I vs ss ∧ ∀ q us I2 H2, Ext I H I2 H2 → H q = none → I2 q = none → H2 q = some (.lst us) → ShA K I2 us xs → Q (.ref q) H2
def DF (K : PySem.W.Frag) (B : Bs) (xs : List Sh) : Ends := { nx := fun _ _ => False, rt := fun v H => ∃ q us I, v = .ref q ∧ Ext B.I B.H I H ∧ B.H q = none ∧ I q = none ∧ H q = some (.lst us) ∧ ShA K I us xs }
theorem exn_call {k j : Nat} {C : List Sh → List Sh → Prop} {xs : List Sh} (F : FnP X.prog X.w X.K X.mg X.base x j (spF X.K C)) (hr : Room k X.A) (hC : C ss xs) (ha : AX X (e :: es) S M ss) (hj : j ≤ k := by decide) (hg : Gl X x := by rfl)
    (hdb : (x == ("__debug__" : Str)) = false := by decide) (he : starEach (e :: es) X.env = (false, eval e X.env) :: starEach es X.env := by rfl) (hpl : (backTo pos (starEach es X.env)).any (·.1) = false := by rfl) : EXN X (.Call (.Name x p) (e :: es) [] pos) S M xs := fun I H σ t l m Q q => by
  obtain ⟨f, fd, ps, h1, h2, h3, h4⟩ := F.ex
  exact ej_of (pe_call h4 (hr.mono hj) hg h1 h2 h3 .nil pass0 pa_aj hdb he hpl) (ha I H σ t l m _ fun vs I2 H2 e2 hvs => by
    rw [List.append_nil]
    exact ⟨I2, ss, xs, hC, e2.t, hvs, fun q' us I3 H3 e3 h1 h2 h3 h4 => q q' us I3 H3 (e2.trans e3) (by
      cases z : H q' with
      | none => rfl
      | some o => rw [e2.h q' o z] at h1; cases h1) h2 h3 h4⟩)
theorem sx_retF {q : Addr} (hM : M q = some (.lst ss)) (h : EX X e S M (.v (.ref q))) (hD : D.rt = (DF X.K B ss).rt := by rfl) : SX X (.Return (some e) pos :: rest) D S M B :=
  sx_of (ps_ret pe_ej) fun I H σ s => h I H σ s.x.t s.l s.m _ fun v I2 H2 e2 hv => by
    have s2 := s.ext e2
    obtain ⟨n1, us, g1, g2⟩ := s2.m q _ hM
    show D.rt v H2
    rw [hD]
    exact ⟨q, us, I2, hv, s2.x, s2.fr q _ hM, n1, g1, g2⟩
/-! ### calls whose arguments change -/
def AXM (X : Cx) (es : List Expr) (S : Sls) (M : Mp) (ss : List Sh) (M' : Mp) : Prop := ∀ (B : Bs) (I H : Hp) (σ : L2.St), Stt X.K B I H M σ S → ∀ Q : List V → Hp → Prop, (∀ vs I2 H2, Same I I2 → Stt X.K B I2 H2 M' σ S → ShA X.K I2 vs ss → Q vs H2) → AJ X es σ H Q
theorem am_of (h : AX X es S M ss) : AXM X es S M ss M := fun B I H σ s Q k => h I H σ s.x.t s.l s.m _ fun vs I2 H2 e2 hv => k vs I2 H2 e2.i (s.ext e2) hv
theorem am_cons {M' : Mp} (ha : MX X e S M sh M1) (hr : AXM X es S M1 ss M') (hs : starEach (e :: es) X.env = (false, eval e X.env) :: starEach es X.env := by rfl) : AXM X (e :: es) S M (sh :: ss) M' := fun B I H σ s Q k =>
  aj_of (pa_cons pe_ej pa_aj hs) (ha B I H σ s _ fun v I2 H2 i2 s2 hv => hr B I2 H2 σ s2 _ fun vs I3 H3 i3 s3 hvs => k (v :: vs) I3 H3 (i2.trans i3) s3 ⟨Sh.mono i3 hv, hvs⟩)
theorem am_nil : AXM X [] S M [] M := am_of ax_nil
theorem amd_cons {M' : Mp} {d : PyData} (ha : MX X e S M (.d d) M1) (hr : AXM X es S M1 (ds.map Sh.d) M') (hs : starEach (e :: es) X.env = (false, eval e X.env) :: starEach es X.env := by rfl) : AXM X (e :: es) S M ((d :: ds).map Sh.d) M' := am_cons ha hr hs
theorem amd_nil : AXM X [] S M (([] : List PyData).map Sh.d) M := am_nil
theorem mx_to {M' M'' : Mp} {sh' : Sh} (h : MX X e S M sh M') (q : sh = sh') (q2 : M' = M'') : MX X e S M sh' M'' := q ▸ q2 ▸ h
/-- (a, b, ..) of changing parts -/
theorem mx_tup {M' : Mp} {x1} (ha : AXM X es S M (ds.map Sh.d) M') (hz : Nat.ble ds.length 100000 = true := by rfl) : MX X (.Tuple es x1 pos) S M (.d (.tuple ds)) M' := fun B I H σ s Q k =>
  ej_of (pe_tup pa_aj) (ha B I H σ s _ fun vs I2 H2 i2 s2 hv => by
    have h2 := hv.dat
    refine ⟨by rw [dpAll_length h2]; exact sz_of' (Nat.ble_eq.mp hz), fun q hq => ?_⟩
    have e := Ext.new s2.x.t hq (.tup vs)
    exact k _ _ _ (i2.trans e.i) (s2.ext e) (.tup (SqT.of upd_same) (dpAll_mono e.i _ _ h2)))
/-- a pure def, its arguments change -/
theorem mx_callA {k j : Nat} {M' : Mp} {C : List Sh → Sh → Prop} (F : FnP X.prog X.w X.K X.mg X.base x j (spP X.K C)) (hr : Room k X.A) (hC : C ss sh) (ha : AXM X (e :: es) S M ss M') (hj : j ≤ k := by decide) (hg : Gl X x := by rfl)
    (hdb : (x == ("__debug__" : Str)) = false := by decide) (he : starEach (e :: es) X.env = (false, eval e X.env) :: starEach es X.env := by rfl) (hpl : (backTo pos (starEach es X.env)).any (·.1) = false := by rfl) : MX X (.Call (.Name x p) (e :: es) [] pos) S M sh M' := fun B I H σ s Q q => by
  obtain ⟨f, fd, ps, h1, h2, h3, h4⟩ := F.ex
  exact ej_of (pe_call h4 (hr.mono hj) hg h1 h2 h3 .nil pass0 pa_aj hdb he hpl) (ha B I H σ s _ fun vs I2 H2 i2 s2 hvs => by
    rw [List.append_nil]
    exact ⟨I2, ss, sh, hC, s2.x.t, hvs, fun v I3 H3 e3 hv => q v I3 H3 (i2.trans e3.i) (s2.ext e3) hv⟩)
/-- a def that changes, its arguments change, too -/
theorem mx_callM {k j : Nat} {M' : Mp} {C : List Sh → Mp → Sh → Mp → Prop} (F : FnP X.prog X.w X.K X.mg X.base x j (spM X.K C)) (hr : Room k X.A) (hC : C ss M1 sh M') (d : ∀ p, M1 p = none → M' p = none) (ha : AXM X (e :: es) S M ss M1) (hj : j ≤ k := by decide) (hg : Gl X x := by rfl)
    (hdb : (x == ("__debug__" : Str)) = false := by decide) (he : starEach (e :: es) X.env = (false, eval e X.env) :: starEach es X.env := by rfl) (hpl : (backTo pos (starEach es X.env)).any (·.1) = false := by rfl) : MX X (.Call (.Name x p) (e :: es) [] pos) S M sh M' := fun B I H σ s Q q => by
  obtain ⟨f, fd, ps, h1, h2, h3, h4⟩ := F.ex
  exact ej_of (pe_call h4 (hr.mono hj) hg h1 h2 h3 .nil pass0 pa_aj hdb he hpl) (ha B I H σ s _ fun vs I2 H2 i2 s2 hvs => by
    rw [List.append_nil]
    exact ⟨I2, M1, ss, sh, M', hC, s2.x.t, s2.m, hvs, fun v I3 H3 e3 m3 hv => q v I3 H3 (i2.trans e3.i) (s2.call e3 m3 d) hv⟩)
/-- a pure method, its arguments change -/
theorem mx_methA {k j : Nat} {cl m : Str} {M' : Mp} {C : List Sh → Sh → Prop} {pl : Sem Bool} (F : MtP X.prog X.w X.K X.mg X.base cl m j (spP X.K C)) (hcl : Cls X.K (He.ga X.K cl)) (rc : Recv X.K cl m s1) (hr : Room k X.A) (hC : C (s1 :: ss) sh) (ho : EX X o S M s1) (ha : AXM X (e :: es) S M ss M') (hj : j ≤ k := by decide)
    (hst : starEach (e :: es) X.env = (false, eval e X.env) :: starEach es X.env := by rfl) (hpl : (backTo pos (starEach es X.env)).any (·.1) = false := by rfl)
    (ht : eval (.Call (.Attribute o m apos) (e :: es) [] pos) X.env = (do
      let ov ← eval o X.env
      standAt apos.atName
      let (f, first) ← holding [ov] (getMethod ov m pl)
      callWith pos f first (backTo pos (starEach (e :: es) X.env)) (backToKw pos (keywordEach [] X.env))) := by rfl) : MX X (.Call (.Attribute o m apos) (e :: es) [] pos) S M sh M' := fun B I H σ s Q q => by
  obtain ⟨f, fd, ps, h1, h3, h4⟩ := F.ex
  exact ej_of (pe_meth pe_ej hcl h1 h4 (hr.mono hj) h3 .nil pass0 pa_aj hst hpl ht) (ho I H σ s.x.t s.l s.m _ fun v I2 H2 e2 hv => by
    obtain ⟨z, dx, fs, rfl, g1, g2⟩ := rc I2 v hv
    refine ⟨z, dx, fs, rfl, e2.t _ _ g1, g2, ha B I2 H2 σ (s.ext e2) _ fun vs I3 H3 i3 s3 hvs => ?_⟩
    rw [List.append_nil]
    exact ⟨I3, s1 :: ss, sh, hC, s3.x.t, ⟨Sh.mono i3 hv, hvs⟩, fun v I4 H4 e4 hv => q v I4 H4 ((e2.i.trans i3).trans e4.i) (s3.ext e4) hv⟩)
theorem mx_pop {q : Addr} {xs : List Sh} (hM : M q = some (.lst xs)) {sl : Sh} (hl : xs[xs.length - 1]? = some sl) (ho : EX X o S M (.v (.ref q)))
    (hbase : attributeBase o "pop" X.env (eval o X.env) = eval o X.env := by rfl) (hline : (apos.endLine == p.line) = true := by rfl) : MX X (.Call (.Attribute o "pop" apos) [] [] p) S M sl (mset M q (.lst xs.dropLast)) := fun B I H σ s Q k =>
  ej_of (pe_bm0 PySem.F.plainAttrs_list PySem.F.slot_list_pop PySem.F.type_list_pop mt_pop pe_ej hbase hline) (ho I H σ s.x.t s.l s.m _ fun v I2 H2 e2 hv => by
    obtain ⟨n1, vs, g1, g2⟩ := s.m.ext e2 q _ hM
    rw [show v = .ref q from hv]
    obtain ⟨w, w1, w2⟩ := g2.get hl
    exact ⟨tyV_list g1, q, vs, w, rfl, rfl, g1, by rw [g2.length]; exact w1, k w I2 _ e2.i ((s.ext e2).put (mo := .lst xs.dropLast) hM ⟨vs.dropLast, upd_same, g2.dropLast⟩) w2⟩)
theorem mx_pop0 {q : Addr} {sl : Sh} {xs : List Sh} (hM : M q = some (.lst (sl :: xs))) (ho : EX X o S M (.v (.ref q))) (he : EX X e S M (.d (.int 0)))
    (hbase : attributeBase o "pop" X.env (eval o X.env) = eval o X.env := by rfl)
    (hfew : ((backTo p (starEach (e :: []) X.env)).all (fun x => !x.1) && (backToKw p (keywordEach [] X.env)).all (fun x => x.1.isSome)
      && decide ((e :: ([] : List Expr)).length + ([] : List Keyword).length + (if ([] : List Keyword).isEmpty then 0 else 1) < 30)) = true := by rfl)
    (hline : (apos.endLine == p.line) = true := by rfl) (hs : starEach (e :: []) X.env = (false, eval e X.env) :: starEach [] X.env := by rfl) (hplain : (backTo p (starEach [] X.env)).any (·.1) = false := by rfl) : MX X (.Call (.Attribute o "pop" apos) [e] [] p) S M sl (mset M q (.lst xs)) := fun B I H σ s Q k =>
  ej_of (pe_bm PySem.F.plainAttrs_list PySem.F.slot_list_pop PySem.F.type_list_pop mt_popAt pe_ej (pa_cons pe_ej pa_nil hs) hbase hfew hline hs hplain) (ho I H σ s.x.t s.l s.m _ fun v I2 H2 e2 hv => by
    obtain ⟨n1, vs, g1, g2⟩ := s.m.ext e2 q _ hM
    rw [show v = .ref q from hv]
    refine ⟨tyV_list g1, ?_⟩
    refine he I2 H2 σ e2.t (s.l.mono e2.i) (s.m.ext e2) _ fun w I3 H3 e3 hw => ?_
    have g3 := g2.mono e3.i
    match vs, g1, g3 with
    | v0 :: vr, g1, g3 =>
      refine ⟨q, v0 :: vr, 0, 0, v0, rfl, by rw [dp_int hw], e3.h _ _ g1, by decide, by decide, ?_, rfl, ?_⟩
      · exact (ixN_seq (n := (v0 :: vr).length) (i := 0) (j := 0) (by unfold ixN; rw [if_pos (by decide), if_pos (by rw [List.length_cons]; omega)]; rfl)).1
      · exact k v0 I3 _ (e2.i.trans e3.i) ((s.ext (e2.trans e3)).put (mo := .lst xs) hM ⟨vr, upd_same, g3.2⟩) g3.1)
/-! ### loops over what a change makes -/
def IXM (X : Cx) (tg iter : Expr) (S : Sls) (M : Mp) (ds : List PyData) (M' : Mp) : Prop := ∃ wi, PI X tg iter wi ∧
  ∀ (B : Bs) (I H : Hp) (σ : L2.St), Stt X.K B I H M σ S → ∀ R : It → Hp → Prop, (∀ J I2 H2, Same I I2 → Stt X.K B I2 H2 M' σ S → Wk X.K J I2 ds → R J H2) → wi σ H R
theorem ixm_of (h : IX X tg iter S M ds) : IXM X tg iter S M ds M := by
  obtain ⟨wi, pi, hw⟩ := h
  exact ⟨wi, pi, fun B I H σ s R k => hw I H σ s.x.t s.l s.m R fun J I2 H2 e2 wk => k J I2 H2 e2.i (s.ext e2) wk⟩
theorem ixm_lst {M' : Mp} (h : MX X iter S M (.d (.list ds)) M') : IXM X tg iter S M ds M' := ⟨_, pi_list pe_ej, fun B I H σ s R k => h B I H σ s _ fun v I2 H2 i2 s2 hv => by
  obtain ⟨q, xs, rfl, h1, h2⟩ := dp_lst hv
  exact ⟨q, rfl, ⟨xs, sqL_mono s2.x.t h1⟩, k _ I2 H2 i2 s2 (wk_list h1 h2 fun _ _ _ => trivial)⟩⟩
theorem mx_d {M' : Mp} (h : MX X e S M (.nl ds) M') : MX X e S M (.d (.list ds)) M' := fun B I H σ s Q k => h B I H σ s Q fun v I2 H2 i2 s2 hv => k v I2 H2 i2 s2 (nl_dp hv)
theorem sx_forM {α : Type} {is : List Nat} {M' : Mp} (xs : List α) (enc : α → PyData) (f : α → Sls → Sls) (P : Nat → Sls → Mp → Prop) (hp : PassesOwn (model X.prog X.w) X.A X.env X.xe) (hc : X.calm = true) (hi : IXM X tg iter S M (xs.map enc) M') (hg : ∀ z, GX X tg (enc z) is (f z))
    (h0 : P 0 S M') (hs : ∀ (i : Nat) (z : α) (S' : Sls) (M' : Mp) (G : Hp), xs[i]? = some z → P i S' M' → SX X body { nx := Wf X.K ⟨B.I, B.H, G⟩ (P (i + 1)), rt := D.rt, bk := SJ X rest D, ct := Wf X.K ⟨B.I, B.H, G⟩ (P (i + 1)) } (f z S') M' ⟨B.I, B.H, G⟩)
    (hd : ∀ S' M', P xs.length S' M' → SX X rest D S' M' B) (hs0 : ∀ x, foldedSetIterable iter X.env x = pure x := by intro _; rfl) : SX X (.For tg iter body [] pos :: rest) D S M B := by
  obtain ⟨wi, pi, hw⟩ := hi
  refine sx_of (ps_for hp hc pi pg_gj pss_sj hs0) fun I H σ s => ?_
  refine hw B I H σ s _ fun J I2 H2 i2 s2 wk => ?_
  have hl : (xs.map enc).length = xs.length := List.length_map _
  refine ⟨fun i m σ' H' => m = xs.length - i ∧ i ≤ xs.length ∧ ∃ I' S' M', Stt X.K ⟨B.I, B.H, B.G⟩ I' H' M' σ' S' ∧ Same I2 I' ∧ P i S' M', ⟨xs.length, by simp, Nat.zero_le _, I2, S, M', s2, Same.refl I2, h0⟩, ?_⟩
  rintro i m σ' H' ⟨rfl, hile, I', S', M'', s', g', pr⟩
  by_cases hlt : i < xs.length
  · have hx : xs[i]? = some xs[i] := List.getElem?_eq_getElem hlt
    refine .inr ⟨wk.go i I' H' g' s'.x.t (by rw [hl]; exact hlt), Wf X.K ⟨B.I, B.H, I2⟩ (P (i + 1)), fun σ3 H3 q => ?_, fun v H3 y => ?_⟩
    · obtain ⟨I3, S3, M3, s3, p3⟩ := q
      have g3 : Same I2 I3 := s3.g
      exact ⟨xs.length - (i + 1), by omega, rfl, hlt, I3, S3, M3, ⟨s3.x, s2.g.trans g3, s3.l, s3.m, s3.fr⟩, g3, p3⟩
    · obtain ⟨Iy, ey, dy⟩ := wk.yld i (enc xs[i]) I' H' v H3 g' s'.x.t (by rw [List.getElem?_map, hx]; rfl) y
      have sy := s'.ext ey
      refine hg xs[i] Iy H3 σ' S' v ey.t sy.l dy _ fun σ4 l4 _ => ?_
      exact hs i xs[i] S' M'' I2 hx pr Iy H3 σ4 ⟨sy.x, g'.trans ey.i, l4, sy.m, sy.fr⟩
  · have ei : i = xs.length := by omega
    subst ei
    exact .inl ⟨wk.stop _ I' H' g' s'.x.t hl, hd S' M'' pr I' H' σ' s'⟩
/-! ### a tuple's values to a tuple's targets (cells among them) -/
theorem sx_asgV {ts : List Expr} {t : TGs} {n : Nat} {k1 k2} {p1 p2 : Pos} (hc : X.calm = true) (hp : PGs X ts t) (hn : (assignEach ts X.env).length = n) (hst : (assignEach ts X.env).findIdx? (·.1) = none) (hz : n ≤ 100)
    (q : ∀ (I H : Hp) (σ : L2.St), Stt X.K B I H M σ S → AJ X es σ H fun vs H1 => vs.length = n ∧ ∀ T, H1 T = none → t vs σ (upd H1 T (.tup vs)) fun σ' H' => SJ X rest D σ' H')
    (hs : swapsWithSole [.Tuple ts k1 p1] (.Tuple es k2 p2) pos.line X.env = pure false) (hw : swappedStores [.Tuple ts k1 p1] (.Tuple es k2 p2) X.env = pure none) (h1 : (assignEach [.Tuple ts k1 p1] X.env).map (·.2) = [assign (.Tuple ts k1 p1) X.env]) :
    SX X (.Assign [.Tuple ts k1 p1] (.Tuple es k2 p2) pos :: rest) D S M B :=
  sx_of (ps_asg (pe_tup pa_aj) (pg_tup hc hp hn hst) hs hw h1) fun I H σ s => by
    have z := q I H σ s
    show AJ X es σ H fun vs H1 => vs.length ≤ sizeLine ∧ ∀ p, H1 p = none → _
    exact fun pos pins s J => thn (z pos pins s J) fun us s2 ⟨vs, H1, J1, r, h2, h3⟩ => ⟨vs, H1, J1, r, sz_of' (by omega), fun T hT => ⟨T, vs, rfl, SqT.of upd_same, h2, h3 T hT⟩⟩
theorem aj_2 {I H : Hp} {σ : L2.St} {Q : List V → Hp → Prop} (h : EJ X a σ H fun u H1 => EJ X b σ H1 fun v H2 => Q [u, v] H2) (he : starEach (a :: [b]) X.env = (false, eval a X.env) :: starEach [b] X.env := by rfl) (he2 : starEach (b :: []) X.env = (false, eval b X.env) :: starEach [] X.env := by rfl) : AJ X [a, b] σ H Q :=
  aj_of (pa_cons pe_ej (pa_cons pe_ej pa_nil he2) he) h
theorem aj_3 {I H : Hp} {σ : L2.St} {Q : List V → Hp → Prop} (h : EJ X a σ H fun u H1 => EJ X b σ H1 fun v H2 => EJ X c σ H2 fun w H3 => Q [u, v, w] H3) (he : starEach (a :: [b, c]) X.env = (false, eval a X.env) :: starEach [b, c] X.env := by rfl) (he2 : starEach (b :: [c]) X.env = (false, eval b X.env) :: starEach [c] X.env := by rfl) (he3 : starEach (c :: []) X.env = (false, eval c X.env) :: starEach [] X.env := by rfl) : AJ X [a, b, c] σ H Q :=
  aj_of (pa_cons pe_ej (pa_cons pe_ej (pa_cons pe_ej pa_nil he3) he2) he) h
theorem Stt.tell {I H : Hp} {σ : L2.St} (s : Stt X.K B I H M σ S) {T : Addr} {o : HO} (h : H T = none) : Stt X.K B I (upd H T o) M σ S := s.ext (Ext.tell s.x.t (same_new h o))
/-- x, y = e1, e2: e1 a value, e2 a new list that will be changed -/
theorem sx_asgEL (i j : Nat) {k1 k2} {py p1 p2 : Pos} (hc : X.calm = true) (hN : X.N.Nodup) (hi : X.N[i]? = some x) (hj : X.N[j]? = some y) (ha : EX X a S M s1) (hb : EXL X b S M ss) (k : ∀ q, M q = none → SX X rest D ((S.set i (some s1)).set j (some (.v (.ref q)))) (mset M q (.lst ss)) B)
    (hx : Loc X.env.scope x := by first | exact Or.inl rfl | exact Or.inr rfl) (hy : Loc X.env.scope y := by first | exact Or.inl rfl | exact Or.inr rfl) (hf : X.fn x = true ∨ X.env.scope.names.lookup x = some .local := by first | exact .inl rfl | exact .inr rfl) (hf2 : X.fn y = true ∨ X.env.scope.names.lookup y = some .local := by first | exact .inl rfl | exact .inr rfl)
    (g1 : (assignEach (.Name x p :: [.Name y py]) X.env).map (·.2) = assign (.Name x p) X.env :: (assignEach [.Name y py] X.env).map (·.2) := by rfl) (g2 : (assignEach (.Name y py :: []) X.env).map (·.2) = assign (.Name y py) X.env :: (assignEach [] X.env).map (·.2) := by rfl)
    (hn : (assignEach [.Name x p, .Name y py] X.env).length = 2 := by rfl) (hst : (assignEach [.Name x p, .Name y py] X.env).findIdx? (·.1) = none := by rfl)
    (hs : swapsWithSole [.Tuple [.Name x p, .Name y py] k1 p1] (.Tuple [a, b] k2 p2) pos.line X.env = pure false := by rfl) (hw : swappedStores [.Tuple [.Name x p, .Name y py] k1 p1] (.Tuple [a, b] k2 p2) X.env = pure none := by rfl) (h1 : (assignEach [.Tuple [.Name x p, .Name y py] k1 p1] X.env).map (·.2) = [assign (.Tuple [.Name x p, .Name y py] k1 p1) X.env] := by rfl)
    (he : starEach (a :: [b]) X.env = (false, eval a X.env) :: starEach [b] X.env := by rfl) (he2 : starEach (b :: []) X.env = (false, eval b X.env) :: starEach [] X.env := by rfl) :
    SX X (.Assign [.Tuple [.Name x p, .Name y py] k1 p1] (.Tuple [a, b] k2 p2) pos :: rest) D S M B :=
  sx_asgV hc (pgs_cons (pg_name hN hi hx hf) (pgs_cons (pg_name hN hj hy hf2) pgs_nil g2) g1) hn hst (by decide) (fun I H σ s => aj_2 (I := I) (ex_q s ha fun u I2 H2 s2 e2 hu => exl_q s2 hb fun q I3 H3 hMq e3 s3 vs hq hvs s4 => ⟨rfl, fun T hT => ⟨u, _, rfl, .ref q, _, rfl, rfl, k q hMq I3 _ _ ((((s4.tell hT).set i (Sh.mono e3.i hu)).set (sh := .v (.ref q)) j rfl))⟩⟩) he he2) hs hw h1
/-- x, y = e1, e2: e1 a new list that will be changed, e2 a value -/
theorem sx_asgLE (i j : Nat) {k1 k2} {py p1 p2 : Pos} (hc : X.calm = true) (hN : X.N.Nodup) (hi : X.N[i]? = some x) (hj : X.N[j]? = some y) (ha : EXL X a S M ss) (hb : ∀ M, EX X b S M s2) (k : ∀ q, M q = none → SX X rest D ((S.set i (some (.v (.ref q)))).set j (some s2)) (mset M q (.lst ss)) B)
    (hx : Loc X.env.scope x := by first | exact Or.inl rfl | exact Or.inr rfl) (hy : Loc X.env.scope y := by first | exact Or.inl rfl | exact Or.inr rfl) (hf : X.fn x = true ∨ X.env.scope.names.lookup x = some .local := by first | exact .inl rfl | exact .inr rfl) (hf2 : X.fn y = true ∨ X.env.scope.names.lookup y = some .local := by first | exact .inl rfl | exact .inr rfl)
    (g1 : (assignEach (.Name x p :: [.Name y py]) X.env).map (·.2) = assign (.Name x p) X.env :: (assignEach [.Name y py] X.env).map (·.2) := by rfl) (g2 : (assignEach (.Name y py :: []) X.env).map (·.2) = assign (.Name y py) X.env :: (assignEach [] X.env).map (·.2) := by rfl)
    (hn : (assignEach [.Name x p, .Name y py] X.env).length = 2 := by rfl) (hst : (assignEach [.Name x p, .Name y py] X.env).findIdx? (·.1) = none := by rfl)
    (hs : swapsWithSole [.Tuple [.Name x p, .Name y py] k1 p1] (.Tuple [a, b] k2 p2) pos.line X.env = pure false := by rfl) (hw : swappedStores [.Tuple [.Name x p, .Name y py] k1 p1] (.Tuple [a, b] k2 p2) X.env = pure none := by rfl) (h1 : (assignEach [.Tuple [.Name x p, .Name y py] k1 p1] X.env).map (·.2) = [assign (.Tuple [.Name x p, .Name y py] k1 p1) X.env] := by rfl)
    (he : starEach (a :: [b]) X.env = (false, eval a X.env) :: starEach [b] X.env := by rfl) (he2 : starEach (b :: []) X.env = (false, eval b X.env) :: starEach [] X.env := by rfl) :
    SX X (.Assign [.Tuple [.Name x p, .Name y py] k1 p1] (.Tuple [a, b] k2 p2) pos :: rest) D S M B :=
  sx_asgV hc (pgs_cons (pg_name hN hi hx hf) (pgs_cons (pg_name hN hj hy hf2) pgs_nil g2) g1) hn hst (by decide) (fun I H σ s => aj_2 (I := I) (exl_q s ha fun q I3 H3 hMq e3 s3 vs hq hvs s4 => ex_q s4 (hb _) fun u I2 H2 s2 e2 hu => ⟨rfl, fun T hT => ⟨.ref q, _, rfl, u, _, rfl, rfl, k q hMq I2 _ _ ((((s2.tell hT).set (sh := .v (.ref q)) i rfl).set j hu))⟩⟩) he he2) hs hw h1
theorem rng0 (n : Nat) : rngD 0 n = (List.range n).map nD := by
  unfold rngD
  refine List.map_congr_left fun i _ => ?_
  rw [Nat.zero_add]
end
section
variable {P : Program} {w : World} {K : PySem.W.Frag} {mg : Str → Option Value} {base : Heap} {nm qual : Str} {params : Arguments} {body : List Stmt} {scope : Scope} {dvs : List V} {kws : List (Str × V)} {f : Addr} {fd : FuncData}
/-- THE RULE for a def that makes a new list -/
theorem ok_new {N ps : List Str} {k : Nat} {C : List Sh → List Sh → Prop} (F : FunD K nm qual params body scope dvs kws f fd) (S : FnScope N ps scope) (len : ∀ ss xs, C ss xs → ss.length = ps.length)
    (hb : ∀ (cdv : Value) (A : Around) (outer : List Env) (s : Shared) (H : Hp) (E : XK) (ss : List Sh) (xs : List Sh) (B : Bs), Room k (A.deeper (PyProof.Rows.envOfC qual scope s.heap.objs.size f cdv)) → C ss xs →
      SX (cxOf CX0 P w K mg base N qual scope f cdv A outer s H E).nox body (DF K B xs) (startS N ss) M0 B) : FnOk P w K mg base CX0 (k + 1) f fd ps (spF K C) := by
  refine F.ok S (fun vs H Q E h => ?_) fun cdv A outer s H vs Q E hr h => ?_
  · obtain ⟨I, ss, xs, hC, t, hv, _⟩ := h
    rw [hv.length]
    exact len ss xs hC
  · obtain ⟨I, ss, xs, hC, t, hv, q⟩ := h
    refine ⟨_, PSs.nox pss_sj, ?_⟩
    have z := hb cdv A outer s H E ss xs ⟨I, H, I⟩ hr hC I H (L2.start N vs) ⟨Ext.refl t, Same.refl I, sl_start hv, MOk.none, fun _ _ q => nomatch q⟩
    exact sj_mono z (fun _ _ h => h.elim) (fun v H2 ⟨q', us, I2, e1, e2, e3, e4, e5, e6⟩ => by subst e1; exact q q' us I2 H2 e2 e3 e4 e5 e6) (fun _ _ h => h) (fun _ _ h => h)
end
end HW
/-! Demonic rules: what a draw gives is one of several things. -/
namespace HW
open PySem PySem.Spec L2
/-- e changes M and has a value, as R says -/
def DX (X : Cx) (e : Expr) (S : Sls) (M : Mp) (R : Sh → Mp → Prop) : Prop := ∀ (B : Bs) (I H : Hp) (σ : L2.St), Stt X.K B I H M σ S → ∀ Q : VK, (∀ v sh M' I2 H2, R sh M' → Same I I2 → Stt X.K B I2 H2 M' σ S → sh.ok X.K I2 v → Q v H2) → EJ X e σ H Q
def spD (K : PySem.W.Frag) (C : List Sh → Mp → (Sh → Mp → Prop) → Prop) : Sp := fun vs H Q _ => ∃ I M ss R, C ss M R ∧ Same I H ∧ MOk K I H M ∧ ShA K I vs ss ∧ (∀ sh M' p, R sh M' → M p = none → M' p = none) ∧
  ∀ v sh M' I2 H2, R sh M' → Ext I (hide M H) I2 H2 → MOk K I2 H2 M' → sh.ok K I2 v → Q v H2
def DD (K : PySem.W.Frag) (B : Bs) (R : Sh → Mp → Prop) : Ends := { nx := fun _ _ => False, rt := fun v H => ∃ I sh M' Mx, R sh M' ∧ Ext B.I B.H I H ∧ MOk K I H Mx ∧ SubM M' Mx ∧ sh.ok K I v }
section
variable {P : Program} {w : World} {K : PySem.W.Frag} {mg : Str → Option Value} {base : Heap} {nm qual : Str} {params : Arguments} {body : List Stmt} {scope : Scope} {dvs : List V} {kws : List (Str × V)} {f : Addr} {fd : FuncData}
theorem ok_dem {N ps : List Str} {k : Nat} {C : List Sh → Mp → (Sh → Mp → Prop) → Prop} (F : FunD K nm qual params body scope dvs kws f fd) (S : FnScope N ps scope) (len : ∀ ss M R, C ss M R → ss.length = ps.length)
    (hb : ∀ (cdv : Value) (A : Around) (outer : List Env) (s : Shared) (H : Hp) (E : XK) (ss : List Sh) (M : Mp) (R : Sh → Mp → Prop) (B : Bs), Room k (A.deeper (PyProof.Rows.envOfC qual scope s.heap.objs.size f cdv)) → C ss M R →
      SX (cxOf CX0 P w K mg base N qual scope f cdv A outer s H E).nox body (DD K B R) (startS N ss) M B) : FnOk P w K mg base CX0 (k + 1) f fd ps (spD K C) := by
  refine F.ok S (fun vs H Q E h => ?_) fun cdv A outer s H vs Q E hr h => ?_
  · obtain ⟨I, M, ss, R, hC, t, m, hv, _⟩ := h
    rw [hv.length]
    exact len ss M R hC
  · obtain ⟨I, M, ss, R, hC, t, m, hv, _, q⟩ := h
    refine ⟨_, PSs.nox pss_sj, ?_⟩
    have z := hb cdv A outer s H E ss M R ⟨I, hide M H, I⟩ hr hC I H (L2.start N vs) ⟨⟨Same.refl I, t, hide_same, fun _ _ _ n => n⟩, Same.refl I, sl_start hv, m, fun p o q => hide_some q⟩
    exact sj_mono z (fun _ _ h => h.elim) (fun v H2 ⟨I2, sh, M', Mx, r, e, m', sb, hs⟩ => q v sh M' I2 H2 r e (m'.sub sb) hs) (fun _ _ h => h) (fun _ _ h => h)
end
section
variable {X : Cx} {S : Sls} {M M1 : Mp} {a b c e o tg iter : Expr} {es : List Expr} {sh s1 s2 : Sh} {ss : List Sh} {pos pos' p apos : Pos} {x y : Str} {ds : List PyData} {D : Ends} {B : Bs} {rest body : List Stmt} {R R' : Sh → Mp → Prop}
theorem DX.imp (h : DX X e S M R) (k : ∀ sh M', R sh M' → R' sh M') : DX X e S M R' := fun B I H σ s Q q => h B I H σ s Q fun v sh M' I2 H2 r i2 s2 hv => q v sh M' I2 H2 (k sh M' r) i2 s2 hv
theorem dx_of {M' : Mp} (h : MX X e S M sh M') : DX X e S M (fun s m => s = sh ∧ m = M') := fun B I H σ s Q q => h B I H σ s Q fun v I2 H2 i2 s2 hv => q v sh M' I2 H2 ⟨rfl, rfl⟩ i2 s2 hv
/-- a def that draws -/
theorem dx_call {k j : Nat} {C : List Sh → Mp → (Sh → Mp → Prop) → Prop} (F : FnP X.prog X.w X.K X.mg X.base x j (spD X.K C)) (hr : Room k X.A) (hC : C ss M R) (d : ∀ sh M' p, R sh M' → M p = none → M' p = none) (ha : AX X (e :: es) S M ss) (hj : j ≤ k := by decide) (hg : Gl X x := by rfl)
    (hdb : (x == ("__debug__" : Str)) = false := by decide) (he : starEach (e :: es) X.env = (false, eval e X.env) :: starEach es X.env := by rfl) (hpl : (backTo pos (starEach es X.env)).any (·.1) = false := by rfl) : DX X (.Call (.Name x p) (e :: es) [] pos) S M R := fun B I H σ s Q q => by
  obtain ⟨f, fd, ps, h1, h2, h3, h4⟩ := F.ex
  exact ej_of (pe_call h4 (hr.mono hj) hg h1 h2 h3 .nil pass0 pa_aj hdb he hpl) (ha I H σ s.x.t s.l s.m _ fun vs I2 H2 e2 hvs => by
    rw [List.append_nil]
    exact ⟨I2, M, ss, R, hC, e2.t, s.m.ext e2, hvs, d, fun v sh M' I3 H3 r e3 m3 hv => q v sh M' I3 H3 r (e2.i.trans e3.i) ((s.ext e2).call e3 m3 (fun p => d sh M' p r)) hv⟩)
/-- xs[e], the index drawn -/
theorem dx_ixL (ha : EX X a S M (.d (.list ds))) (hb : DX X b S M R) (hi : ∀ sh M', R sh M' → ∃ i d, sh = .d (.int i) ∧ atI ds i = some d ∧ R' (.d d) M') (hs : PlainIx b := by exact fun _ _ => rfl) : DX X (.Subscript a b pos) S M R' := fun B I H σ s Q q =>
  ej_of (pe_ix ix_list pe_ej pe_ej hs) (ha I H σ s.x.t s.l s.m _ fun v I2 H2 e2 hv => hb B I2 H2 σ (s.ext e2) _ fun w sh M' I3 H3 r i3 s3 hw => by
    obtain ⟨i, d, rfl, h1, h2⟩ := hi sh M' r
    obtain ⟨q', xs, rfl, g1, g2⟩ := dp_lst (dp_mono i3 _ _ hv)
    obtain ⟨u, h3, h4⟩ := dpAll_at g2 h1
    exact ⟨q', xs, i, u, rfl, dp_int hw, sqL_mono s3.x.t g1, h3, q u _ M' I3 H3 h2 (e2.i.trans i3) s3 h4⟩)
theorem sx_setD (i : Nat) (hN : X.N.Nodup) (hi : X.N[i]? = some x) (h : DX X e S M R) (k : ∀ sh M', R sh M' → SX X rest D (S.set i (some sh)) M' B) (hx : Loc X.env.scope x := by first | exact Or.inl rfl | exact Or.inr rfl) (hs : swapsWith e (some (.Name x p)) pos.line X.env = pure false := by rfl)
    (hf : X.fn x = true ∨ X.env.scope.names.lookup x = some .local := by first | exact .inl rfl | exact .inr rfl) : SX X (.Assign [.Name x p] e pos :: rest) D S M B :=
  sx_of (ps_set hN hi hx pe_ej hs hf) fun I H σ s => h B I H σ s _ fun v sh M' I2 H2 r _ s2 hv => k sh M' r I2 H2 _ (s2.set i hv)
theorem sx_retDD (h : DX X e S M R') (k : ∀ sh M', R' sh M' → ∃ M'', R sh M'' ∧ SubM M'' M') (hD : D.rt = (DD X.K B R).rt := by rfl) : SX X (.Return (some e) pos :: rest) D S M B :=
  sx_of (ps_ret pe_ej) fun I H σ s => h B I H σ s _ fun v sh M' I2 H2 r _ s2 hv => by
    obtain ⟨M'', r2, sb⟩ := k sh M' r
    show D.rt v H2
    rw [hD]
    exact ⟨I2, sh, M'', M', r2, s2.x, s2.m, sb, hv⟩
/-- several drawn -/
def AD (X : Cx) (es : List Expr) (S : Sls) (M : Mp) (R : List Sh → Mp → Prop) : Prop := ∀ (B : Bs) (I H : Hp) (σ : L2.St), Stt X.K B I H M σ S → ∀ Q : List V → Hp → Prop, (∀ vs ss M' I2 H2, R ss M' → Same I I2 → Stt X.K B I2 H2 M' σ S → ShA X.K I2 vs ss → Q vs H2) → AJ X es σ H Q
theorem ad0 : AD X [] S M (fun ss M' => ss = [] ∧ M' = M) := fun B I H σ s Q k => aj_of pa_nil (k [] [] M I H ⟨rfl, rfl⟩ (Same.refl I) s trivial)
theorem ad1 {R1 : Sh → Mp → Prop} {R2 : Sh → Mp → List Sh → Mp → Prop} {R3 : List Sh → Mp → Prop} (ha : DX X e S M R1) (hr : ∀ sh M', R1 sh M' → AD X es S M' (R2 sh M')) (h3 : ∀ sh M' ss M'', R1 sh M' → R2 sh M' ss M'' → R3 (sh :: ss) M'') (hs : starEach (e :: es) X.env = (false, eval e X.env) :: starEach es X.env := by rfl) : AD X (e :: es) S M R3 := fun B I H σ s Q k =>
  aj_of (pa_cons pe_ej pa_aj hs) (ha B I H σ s _ fun v sh M' I2 H2 r i2 s2 hv => hr sh M' r B I2 H2 σ s2 _ fun vs ss M'' I3 H3 r2 i3 s3 hvs => k (v :: vs) (sh :: ss) M'' I3 H3 (h3 _ _ _ _ r r2) (i2.trans i3) s3 ⟨Sh.mono i3 hv, hvs⟩)
theorem dx_tup {x1} {R1 : List Sh → Mp → Prop} (ha : AD X es S M R1) (k : ∀ ss M', R1 ss M' → ∃ ds, ss = ds.map Sh.d ∧ ds.length ≤ 100000 ∧ R (.d (.tuple ds)) M') : DX X (.Tuple es x1 pos) S M R := fun B I H σ s Q q =>
  ej_of (pe_tup pa_aj) (ha B I H σ s _ fun vs ss M' I2 H2 r i2 s2 hv => by
    obtain ⟨ds, rfl, hz, r2⟩ := k ss M' r
    have h2 := hv.dat
    refine ⟨by rw [dpAll_length h2]; exact sz_of' hz, fun w hw => ?_⟩
    have e := Ext.new s2.x.t hw (.tup vs)
    exact q _ _ M' _ _ r2 (i2.trans e.i) (s2.ext e) (.tup (SqT.of upd_same) (dpAll_mono e.i _ _ h2)))
/-- t + u, u drawn -/
theorem dx_catT {es : List PyData} (h0 : ds ≠ []) (ha : EX X a S M (.d (.tuple ds))) (hb : DX X b S M R) (k : ∀ sh M', R sh M' → ∃ es, sh = .d (.tuple es) ∧ ds.length + es.length ≤ sizeLine ∧ R' (.d (.tuple (ds ++ es))) M') : DX X (.BinOp a .Add b pos) S M R' := fun B I H σ s Q q =>
  ej_of (pe_op op_catT pe_ej pe_ej) (ha I H σ s.x.t s.l s.m _ fun v I2 H2 e2 hv => hb B I2 H2 σ (s.ext e2) _ fun w sh M' I3 H3 r i3 s3 hw => by
    obtain ⟨es, rfl, hz, r2⟩ := k sh M' r
    have hv := dp_mono i3 _ _ hv
    obtain ⟨p, xs, rfl, h1, h2⟩ := dp_tup hv
    obtain ⟨p2, ys, rfl, h3, h4⟩ := dp_tup hw
    have l1 := dpAll_length h2
    have l2 := dpAll_length h4
    refine ⟨p, p2, xs, ys, rfl, rfl, sqT_mono s3.x.t h1, sqT_mono s3.x.t h3, (fun z => h0 (List.eq_nil_of_length_eq_zero (by rw [← l1, z]; rfl))), by omega, ?_⟩
    refine ⟨fun z => ?_, fun z w hw => ?_⟩
    · have e : es = [] := List.eq_nil_of_length_eq_zero (by rw [← l2, z]; rfl)
      exact q _ _ M' I3 H3 r2 (e2.i.trans i3) s3 (by rw [e, List.append_nil]; exact hv)
    · have e := Ext.new s3.x.t hw (.tup (xs ++ ys))
      exact q _ _ M' _ _ r2 ((e2.i.trans i3).trans e.i) (s3.ext e) (.tup (SqT.of upd_same) (dpAll_append (dpAll_mono e.i _ _ h2) (dpAll_mono e.i _ _ h4))))
/-- a test that draws: either answer -/
def TD (X : Cx) (e : Expr) (S : Sls) (M : Mp) (Im : Mp → Prop) : Prop := ∀ (B : Bs) (I H : Hp) (σ : L2.St), Stt X.K B I H M σ S → ∀ Q : Bool → Hp → Prop, (∀ b M' I2 H2, Im M' → Same I I2 → Stt X.K B I2 H2 M' σ S → Q b H2) → TJ X e σ H Q
/-- e op c, e drawn, c an int -/
theorem td_c {op : CmpOp} {Im : Mp → Prop} {s3 : Sh} (cm : ∀ i : Int, ∃ k, CMX X op (.d (.int i)) s3 k) (ho : ∃ r, OpR X (compareOp op) r ∧ ∀ i : Int, ∃ k : Bool, ∀ x y I H (Q : VK), Same I H → (Sh.d (.int i)).ok X.K I x → s3.ok X.K I y → Q (.bl k) H → r x y H Q) (ha : DX X a S M R) (hR : ∀ sh M', R sh M' → Im M' ∧ ∃ i : Int, sh = .d (.int i)) (hb : ∀ M', EX X b S M' s3) (hm : behindInMarks op b = false := by first | exact nomark _ | rfl) : TD X (.Compare a [op] [b] pos) S M Im := fun B I H σ s Q q => by
  obtain ⟨r, ho, hr⟩ := ho
  exact tj_of (pt_cmpR ho pe_ej pe_ej hm) (ha B I H σ s _ fun v sh M' I2 H2 r1 i2 s2 hv => by
    obtain ⟨im, i, rfl⟩ := hR sh M' r1
    obtain ⟨k, hk⟩ := hr i
    exact hb M' I2 H2 σ s2.x.t s2.l s2.m _ fun w I3 H3 e3 hw => hk v w I3 H3 _ e3.t (Sh.mono e3.i hv) hw ⟨k, rfl, q k M' I3 H3 im (i2.trans e3.i) (s2.ext e3)⟩)
end
end HW
/-! A comprehension whose test draws. -/
namespace HW
open PySem PySem.Spec L2
abbrev lcTD (X : Cx) (scope : Scope) (c : Expr) : TT := fun σ H Q => ∀ s H' C cl fp, TJ (Blk X scope s H' C cl fp) c σ H Q
theorem pts_one' {X : Cx} {c : Expr} {t : TT} (h : PT X c t) : PTs X [c] t := pts_one h
section
variable {X : Cx} {S : Sls} {M : Mp} {a b c e o tg iter : Expr} {pos p : Pos}
theorem dx_lc {α : Type} {elt : Expr} {scope : Scope} {own : List (Str × Nat)} {is : List Nat} (xs : List α) (enc : α → PyData) (f : α → Sls → Sls) (g : α → PyData) (Im : Mp → Prop) (h0 : Im M) (hc : X.calm = true) (hN : X.N.Nodup)
    (hi : IX X tg iter S M (xs.map enc)) (ok : BlkOk X.N X.env.scope scope own) (hz : xs.length ≤ 100000) (his : ∀ i ∈ is, i ∈ own.map (·.2))
    (hg : ∀ s H C cl fp (z : α), GX (Blk X scope s H C cl fp) tg (enc z) is (f z))
    (ht : ∀ s H C cl fp (z : α) (M' : Mp) (D : Addr) (l : MO), z ∈ xs → Im M' → M' D = none → TD (Blk X scope s H C cl fp) c (f z (wipeS S (own.map (·.2)))) (mset M' D l) (fun M'' => ∃ M1, Im M1 ∧ M1 D = none ∧ M'' = mset M1 D l))
    (he : ∀ s H C cl fp (z : α) (M' : Mp), z ∈ xs → EX (Blk X scope s H C cl fp) elt (f z (wipeS S (own.map (·.2)))) M' (.d (g z))) (hs : ∀ x, foldedSetIterable iter X.env x = pure x := by intro _; rfl) :
    DX X (.ListComp elt [⟨tg, iter, [c], 0⟩] scope pos) S M (fun sh M' => ∃ sub : List α, sub.Sublist xs ∧ sh = .nl (sub.map g) ∧ Im M') := fun B I H σ s Q k => by
  obtain ⟨wi, pi, hw⟩ := hi
  refine ej_of (pe_lc (g := lcG X scope tg) (tt := lcTD X scope c) (te := lcE X scope elt) hc hN pi ok (fun s H C cl fp => ⟨fun pins s' σ H v u Q I r h => h s _ C cl fp pins s' u I r⟩)
    (fun s H C cl fp => pts_one' ⟨fun pins s' σ H Q I h => h s _ C cl fp pins s' I⟩) (fun s H C cl fp => ⟨fun pins s' σ H Q I h => h s _ C cl fp pins s' I⟩) hs) ?_
  refine hw I H σ s.x.t s.l s.m _ fun J I2 H2 e2 wk => ?_
  intro D hD
  have s2 := s.ext e2
  have hMD : M D = none := fresh_M s2.m hD
  have hBD : B.H D = none := s2.x.h.free hD
  have hl : (xs.map enc).length = xs.length := List.length_map _
  have s3 := s2.newM (o := .lst []) (mo := .lst ((([] : List α).map g).map Sh.d)) hD ⟨[], upd_same, trivial⟩
  refine ⟨fun i n Hc => n = xs.length - i ∧ i ≤ xs.length ∧ ∃ (Ic : Hp) (M' : Mp) (sub : List α), Stt X.K B Ic Hc (mset M' D (.lst ((sub.map g).map Sh.d))) σ S ∧ Same I2 Ic ∧ Im M' ∧ M' D = none ∧ sub.Sublist (xs.take i) ∧ sub.length ≤ i, ⟨xs.length, by simp, Nat.zero_le _, I2, M, [], s3, Same.refl I2, h0, hMD, List.nil_sublist _, Nat.le_refl _⟩, ?_⟩
  rintro i n Hc ⟨rfl, hile, Ic, M', sub, sc, gI, im, hMD', hsub, hsl⟩
  by_cases hlt : i < xs.length
  · refine .inr ⟨wk.go i Ic Hc gI sc.x.t (by rw [hl]; exact hlt), fun Hn => i + 1 ≤ xs.length ∧ ∃ (Ic : Hp) (M' : Mp) (sub : List α), Stt X.K B Ic Hn (mset M' D (.lst ((sub.map g).map Sh.d))) σ S ∧ Same I2 Ic ∧ Im M' ∧ M' D = none ∧ sub.Sublist (xs.take (i + 1)) ∧ sub.length ≤ i + 1, fun Hn q => ⟨xs.length - (i + 1), by omega, rfl, q.1, q.2⟩, fun x Hy y => ?_⟩
    have hx : xs[i]? = some xs[i] := List.getElem?_eq_getElem hlt
    have hmem : xs[i] ∈ xs := List.getElem_mem hlt
    have htk : xs.take (i + 1) = xs.take i ++ [xs[i]] := by rw [List.take_succ, hx]; rfl
    obtain ⟨Iy, ey, dy⟩ := wk.yld i (enc xs[i]) Ic Hc x Hy gI sc.x.t (by rw [List.getElem?_map, hx]; rfl) y
    have sy := sc.ext ey
    intro s0 H0 C0 cl0 fp0
    have lw : Sl X.K Iy (L2.wipe σ (own.map (·.2))) (wipeS S (own.map (·.2))) := Sl.wipe sy.l _
    refine hg s0 H0 C0 cl0 fp0 xs[i] Iy Hy _ _ x ey.t lw dy _ fun σ2 l2 hwp => ⟨by rw [hwp _ his, wipe_wipe], ?_⟩
    intro s1 H1 C1 cl1 fp1
    have sb : Stt X.K ⟨B.I, B.H, Iy⟩ Iy Hy (mset M' D (.lst ((sub.map g).map Sh.d))) σ2 (f xs[i] (wipeS S (own.map (·.2)))) := ⟨sy.x, Same.refl _, l2, sy.m, sy.fr⟩
    refine ht s1 H1 C1 cl1 fp1 xs[i] M' D _ hmem im hMD' ⟨B.I, B.H, Iy⟩ Iy Hy σ2 sb _ fun bb M'' I3 H3 ⟨M1, im1, hM1, e1⟩ i3 s3 => ?_
    subst e1
    have sσ : Stt X.K B I3 H3 (mset M1 D (.lst ((sub.map g).map Sh.d))) σ S := ⟨s3.x, sy.g.trans i3, sy.l.mono i3, s3.m, s3.fr⟩
    have gI3 : Same I2 I3 := gI.trans (ey.i.trans i3)
    cases bb with
    | false =>
      rw [if_neg Bool.false_ne_true]
      exact ⟨hlt, I3, M1, sub, sσ, gI3, im1, hM1, by rw [htk]; exact hsub.trans (List.sublist_append_left _ _), Nat.le_succ_of_le hsl⟩
    | true =>
      rw [if_pos rfl]
      intro s2 H2' C2 cl2 fp2
      refine he s2 H2' C2 cl2 fp2 xs[i] (mset M1 D (.lst ((sub.map g).map Sh.d))) hmem I3 H3 σ2 s3.x.t s3.l s3.m _ fun v I4 H4 e4 hv => ?_
      have s4 := sσ.ext e4
      obtain ⟨n1, acc, g1, g2⟩ := s4.m D _ mset_same
      have hal := g2.length
      rw [List.length_map, List.length_map] at hal
      have s5 := s4.put (o := .lst (acc ++ [v])) (mo := .lst (((sub ++ [xs[i]]).map g).map Sh.d)) mset_same ⟨acc ++ [v], upd_same, by
        rw [List.map_append, List.map_append]
        exact ShA.append g2 ⟨hv, trivial⟩⟩
      rw [mset_mset] at s5
      exact ⟨acc, g1, sz_lt' (by omega), hlt, I4, M1, sub ++ [xs[i]], s5, gI3.trans e4.i, im1, hM1, by rw [htk]; exact hsub.append (List.Sublist.refl _), by rw [List.length_append, List.length_singleton]; omega⟩
  · have ei : i = xs.length := by omega
    subst ei
    refine .inl ⟨wk.stop _ Ic Hc gI sc.x.t hl, ?_⟩
    obtain ⟨n1, vs, g1, g2⟩ := sc.m D _ mset_same
    have sf := (sc.fix (p := D) (o := .lst vs) hBD n1 g1).subM (M' := M') fun a o y => by
      have ha : a ≠ D := fun w => by rw [w, hMD'] at y; cases y
      rw [mdel_ne ha, mset_ne ha]
      exact y
    refine k _ (.nl (sub.map g)) M' _ Hc ⟨sub, by rw [List.take_length] at hsub; exact hsub, rfl, im⟩ ((e2.i.trans gI).trans (same_new n1 _)) sf ⟨D, vs, rfl, upd_same, dpAll_mono (same_new n1 _) _ _ g2.dat⟩
/-- a slice [:e] of what is drawn -/
theorem dx_slTo {R : Sh → Mp → Prop} {R' : Sh → Mp → Prop} {hi : Expr} {j : Int} {p2 : Pos} (ha : DX X a S M R) (hh : ∀ M, EX X hi S M (.d (.int j))) (k : ∀ sh M', R sh M' → ∃ ds, sh = .nl ds ∧ R' (.nl (cutD ds none (some j))) M') : DX X (.Subscript a (.Slice none (some hi) none p2) pos) S M R' := fun B I H σ s Q q =>
  ej_of (pe_slice sl_list pe_ej po_none (po_some pe_ej)) (ha B I H σ s _ fun v sh M' I2 H2 r i2 s2 hv => hh M' I2 H2 σ s2.x.t s2.l s2.m _ fun w I3 H3 e3 hw => ⟨j, dp_int hw, by
    obtain ⟨ds, rfl, r2⟩ := k sh M' r
    have s3 := s2.ext e3
    obtain ⟨a, xs, rfl, h3, h5⟩ := Sh.mono e3.i hv
    refine ⟨a, xs, rfl, SqL.of (s3.x.t _ _ h3), fun w hw => ?_⟩
    have e := Ext.new s3.x.t hw (.lst (cutV xs none (some j)))
    exact q _ _ M' _ _ r2 ((i2.trans e3.i).trans e.i) (s3.ext e) ⟨w, _, rfl, upd_same, dpAll_cut (dpAll_mono e.i _ _ h5) none (some j)⟩⟩)
end
end HW
/-! Dicts of ints: by dict([..]), listed, setdefault; a tuple of a list and a dict. -/
namespace HW
open PySem PySem.Spec L2
section
variable {X : Cx} {S : Sls} {M : Mp} {a b c e o i : Expr} {pos p apos : Pos} {sh s2 : Sh} {D : Ends} {B : Bs} {rest : List Stmt}
/-- dict([(0, 0)]) -/
theorem ej_dict00 (T : Txt X.K X.mg) (hc : X.calm = true) (ha : EX X e S M (.nl [.tuple [.int 0, .int 0]])) {I H : Hp} {σ : L2.St} (s : Stt X.K B I H M σ S) {Q : VK} (q : ∀ p I2 H2, M p = none → Same I I2 → Stt X.K B I2 H2 (mset M p (.dct [(Sum.inl 0, V.int 0)])) σ S → Q (.ref p) H2) (hg : Gl X "dict" := by rfl)
    (he : starEach (e :: []) X.env = (false, eval e X.env) :: starEach [] X.env := by rfl) (hpl : (backTo pos (starEach [] X.env)).any (·.1) = false := by rfl) : EJ X (.Call (.Name "dict" p) [e] [] pos) σ H Q :=
  ej_of (pe_callTy (call_dictP hc) hg (T.free _ (by decide +kernel)) boot_dict' (pa_cons pe_ej pa_nil he) (he := he) (hpl := hpl)) (ha I H σ s.x.t s.l s.m _ fun v I2 H2 e2 hv => by
    obtain ⟨w, xs, rfl, h1, h2⟩ := hv
    cases h2 with
    | cons d1 r1 =>
      cases r1
      obtain ⟨t, ys, rfl, g1, g2⟩ := dp_tup d1
      have g3 : ys = [V.int 0, V.int 0] := by
        cases g2 with
        | cons z1 w1 =>
          cases w1 with
          | cons z2 w2 =>
            cases w2
            rw [dp_int z1, dp_int z2]
      subst g3
      have s2 := s.ext e2
      refine ⟨w, [t], [(Sum.inl 0, V.int 0)], rfl, SqL.of (e2.t _ _ h1), .cons (sqT_mono e2.t g1) .nil, fun p hp => ?_⟩
      exact q p I2 _ (fresh_M s2.m hp) e2.i (s2.newM (mo := .dct [(Sum.inl 0, V.int 0)]) hp upd_same))
/-- list(d) -/
theorem ex_listK (T : Txt X.K X.mg) (hc : X.calm = true) {q : Addr} {kvs : List (Key × V)} {ns : List Int} (hM : M q = some (.dct kvs)) (hk : kvs.map (fun kv => kV kv.1) = ns.map V.int) (ha : EX X e S M (.v (.ref q))) (hg : Gl X "list" := by rfl)
    (he : starEach (e :: []) X.env = (false, eval e X.env) :: starEach [] X.env := by rfl) (hpl : (backTo pos (starEach [] X.env)).any (·.1) = false := by rfl) : EX X (.Call (.Name "list" p) [e] [] pos) S M (.nl (ns.map PyData.int)) := fun I H σ t l m Q k =>
  ej_of (pe_callTy (call_list_dK hc) hg (T.free _ (by decide +kernel)) boot_list' (pa_cons pe_ej pa_nil he) (he := he) (hpl := hpl)) (ha I H σ t l m _ fun v I2 H2 e2 hv => by
    obtain ⟨n1, g1⟩ := m.ext e2 q _ hM
    have g1 : H2 q = some (.dK kvs) := g1
    refine ⟨q, kvs, by rw [show v = .ref q from hv], g1, fun w hw => ?_⟩
    exact k _ _ _ (e2.trans (Ext.new e2.t hw _)) ⟨w, _, rfl, upd_same, by rw [hk]; exact dpAll_of_ints ns⟩)
/-- d.setdefault(i, e) -/
theorem mx_setd {q : Addr} {kvs : List (Key × V)} {k : Int} {y : V} (hM : M q = some (.dct kvs)) (hz : kvs.length < 100000) (ho : EX X o S M (.v (.ref q))) (hi : EX X i S M (.d (.int k))) (he : EX X e S M sh) (hy : ∀ I u, sh.ok X.K I u → u = y) (m : L2.M2 X o "setdefault" apos i e p := by exact ⟨rfl, rfl, rfl, rfl⟩) :
    MX X (.Call (.Attribute o "setdefault" apos) [i, e] [] p) S M (.v ((valV kvs (Sum.inl k)).getD y)) (mset M q (.dct (if (valV kvs (Sum.inl k)).isSome then kvs else putK kvs (Sum.inl k) y))) := fun B I H σ s Q kk =>
  ej_of (pe_dsetd pe_ej pe_ej pe_ej m) (ho I H σ s.x.t s.l s.m _ fun v I2 H2 e2 hv => by
    have s2 := s.ext e2
    obtain ⟨_, g2⟩ := s2.m q _ hM
    have g2 : H2 q = some (.dK kvs) := g2
    refine ⟨q, hv, .inl ⟨kvs, .inl g2⟩, hi I2 H2 σ s2.x.t s2.l s2.m _ fun w I3 H3 e3 hw => ?_⟩
    have s3 := s2.ext e3
    refine he I3 H3 σ s3.x.t s3.l s3.m _ fun u I4 H4 e4 hu => ?_
    have s4 := s3.ext e4
    obtain ⟨_, g4⟩ := s4.m q _ hM
    have g4 : H4 q = some (.dK kvs) := g4
    refine ⟨kvs, Sum.inl k, g4, dp_int hw, sz_lt' hz, fun v0 h0 => ?_, fun h0 => ?_⟩
    · have sx := s4.put (o := .dK kvs) (mo := .dct kvs) hM upd_same
      have eH : upd H4 q (.dK kvs) = H4 := by
        funext b
        by_cases eb : b = q
        · rw [eb, upd_same, g4]
        · rw [upd_ne eb]
      rw [eH] at sx
      rw [h0] at kk
      exact kk v0 I4 H4 (e2.i.trans (e3.i.trans e4.i)) sx rfl
    · rw [h0] at kk
      rw [hy _ _ hu]
      exact kk y I4 _ (e2.i.trans (e3.i.trans e4.i)) (s4.put (mo := .dct (putK kvs (Sum.inl k) y)) hM upd_same) rfl)
/-- the parts of such a tuple -/
theorem ex_lk0 {ds : List PyData} {kvs : List (Key × V)} (ha : EX X a S M (.lk ds kvs)) (hb : EX X b S M (.d (.int 0))) (hs : PlainIx b := by exact fun _ _ => rfl) : EX X (.Subscript a b pos) S M (.d (.list ds)) := fun I H σ t l m Q k =>
  ej_of (pe_ix L2.ix_tup pe_ej pe_ej hs) (bin2 ha hb t l m fun x y I2 H2 e2 hx hy => by
    obtain ⟨q, v, d, rfl, h1, h2, h3⟩ := hx
    exact ⟨q, [v, .ref d], 0, v, rfl, dp_int hy, SqT.of (e2.t _ _ h1), rfl, k v I2 H2 e2 h2⟩)
theorem tx_lkNin {ds : List PyData} {kvs : List (Key × V)} {k : Int} {p2 : Pos} (hu : X.A.units + 1 < cLine) (hi : EX X i S M (.d (.int k))) (ha : EX X a S M (.lk ds kvs)) (hb : EX X b S M (.d (.int 1))) (hs : PlainIx b := by exact fun _ _ => rfl) (h1 : behindInMarks .NotIn (.Subscript a b p2) = false := by rfl) :
    TX X (.Compare i [.NotIn] [.Subscript a b p2] pos) S M (!(valV kvs (Sum.inl k)).isSome) := fun I H σ t l m Q kk =>
  tj_of (pt_cmp (pc_dnotin hu pe_ej pe_ej) h1) (hi I H σ t l m _ fun x I1 H1 e1 hx => ej_of (pe_ix L2.ix_tup pe_ej pe_ej hs) (bin2 ha hb e1.t (l.mono e1.i) (m.ext e1) fun y z I2 H2 e2 hy hz => by
    obtain ⟨q, v, d, rfl, g1, g2, g3⟩ := hy
    refine ⟨q, [v, .ref d], 1, .ref d, rfl, dp_int hz, SqT.of (e2.t _ _ g1), rfl, ?_⟩
    rw [dp_int hx]
    exact ⟨d, _, rfl, DGet.k (k := Sum.inl k) (e2.t _ _ g3), _, rfl, kk I2 H2 (e1.trans e2)⟩))
/-- return (list, d), d a dict that was changed until now -/
theorem sx_retLk {ds : List PyData} {kvs : List (Key × V)} {q : Addr} {x1} {p2 : Pos} (hM : M q = some (.dct kvs)) (ha : EX X a S M (.nl ds)) (hb : EX X b S M (.v (.ref q))) (hD : D.rt = (DR X.K B (.lk ds kvs)).rt := by rfl)
    (he : starEach (a :: [b]) X.env = (false, eval a X.env) :: starEach [b] X.env := by rfl) (he2 : starEach (b :: []) X.env = (false, eval b X.env) :: starEach [] X.env := by rfl) : SX X (.Return (some (.Tuple [a, b] x1 p2)) pos :: rest) D S M B :=
  sx_of (ps_ret (pe_tup (pa_cons pe_ej (pa_cons pe_ej pa_nil he2) he))) fun I H σ s => by
    show EJ X a σ H fun v H1 => EJ X b σ H1 fun w H2 => _
    refine ha I H σ s.x.t s.l s.m _ fun v I1 H1 e1 hv => hb I1 H1 σ e1.t (s.l.mono e1.i) (s.m.ext e1) _ fun w I2 H2 e2 hw => ?_
    refine ⟨(by show 2 ≤ sizeLine; decide), fun t ht => ?_⟩
    show D.rt _ _
    rw [hD]
    cases (show w = .ref q from hw)
    have s2 := (s.ext e1).ext e2
    have s3 := s2.tell (o := .tup [v, .ref q]) ht
    have s4 := s2.ext (Ext.new s2.x.t ht (.tup [v, .ref q]))
    obtain ⟨n1, g1⟩ := s4.m q _ hM
    have g1 : upd H2 t (.tup [v, .ref q]) q = some (.dK kvs) := g1
    have s5 := s4.fix (s4.fr q _ hM) n1 g1
    have sn : Same (upd I2 t (.tup [v, .ref q])) (upd (upd I2 t (.tup [v, .ref q])) q (.dK kvs)) := same_new n1 _
    refine ⟨_, s5.x, t, v, q, rfl, sn _ _ upd_same, ?_, upd_same⟩
    have hv2 := Sh.mono (e2.i.trans ((same_new (s2.x.t.free ht) _).trans sn)) hv
    exact nl_dp hv2
end
end HW
/-! BadWeaving(..) is made: its own constructor goes through super() to ValueError's, then stores its field. -/
namespace HW
namespace Bw
open PySem PySem.W PySem.Calls PyProof.Rows PySem.HandSPX
def wA (p1 p2 : Pos) : Arguments := { posonlyargs := [], args := [⟨"self", none, p1⟩, ⟨"index", none, p2⟩], vararg := none, kwonlyargs := [], kw_defaults := [], kwarg := none, defaults := [] }
abbrev c2 : Pos := ⟨21, 8, 21, 24⟩
abbrev c4 : Pos := ⟨21, 8, 21, 31⟩
def wB (p0 p1 p3 p5 q1 q2 q3 q4 : Pos) : List Stmt := [.Expr (.Call (.Attribute (.Call (.Name "super" p0) [] [] p1) "__init__" c2) [.Name "index" p3] [] c4) p5, .Assign [.Attribute (.Name "self" q1) "index" q2] (.Name "index" q3) q4]
def wS : Scope := { kind := .function, names := [(Str.ofString "self", .local), (Str.ofString "index", .local), (Str.ofString "__class__", .free), (Str.ofString "super", .globalImplicit)], isGenerator := false, isCoroutine := false, more := [] }
/-- what the written part says of the class at C -/
structure Txt (P : Program) (K : Frag) (C fI cc cda : Addr) : Prop where
  cls : ∃ nm q N bs bm sn sub ab col dd k0 k1 k2 k3 k5, K.lookup C = some (excClassObj nm q C N bs bm true sn sub ab col dd k0 k1 k2 k3 k5 "ValueError.__new__") ∧ refsVE bm = true
  sa : findIn K (.ref C) "__setattr__" = some (some (.builtin "object.__setattr__"))
  no : findIn K (.ref C) "index" = some none
  iC : findIn K (.ref C) "__init__" = some (some (.ref fI))
  tC : typeIn K (.ref fI) = some (.type "function")
  kC : keepIn K (.ref C) = true
  exC : subIn K (.ref C) (.type "BaseException") = some true
  tyC : typeIn K (.ref C) = some (.type "type")
  fn : ∃ (oc : Value) (od : Option Addr) (kV doc pm : Value) (an : Option Addr) (ct : Value) (osl : Array (Option Value)) (p1 p2 a0 a1 a3 a5 q1 q2 q3 q4 : Pos),
    K.lookup fI = some ⟨oc, od, .func (ksFn "__init__" "BadWeaving.__init__" (wA p1 p2) (wB a0 a1 a3 a5 q1 q2 q3 q4) wS .none kV doc pm an (.ref cda) ct cc), osl⟩
  hcd : codeIn K (.ref cda) "BadWeaving.__init__" = true
  code : ∃ (ccl : Value) (cdd : Option Addr) (vs : Array Value) (ccs : Array (Option Value)) (file : Str) (tf : Tok), K.lookup cda = some ⟨ccl, cdd, .fields vs, ccs⟩ ∧ vs[2]? = some (.str file tf) ∧ ((P.main.file : Str) == file) = true
  cell : ∃ (cl : Value) (cld : Option Addr) (csl : Array (Option Value)), K.lookup cc = some ⟨cl, cld, .cell (some (.ref C)), csl⟩
  sup : ks_superIn K C C "__init__" = some (some (.builtin "ValueError.__init__"))
  me : mroIn K C (.ref C) = some true
  ve : subIn K (.ref C) (.type "ValueError") = some true
  opq : nsIn K cStatics "thirdparty.any" = some none
  top : (P.main.scope.names.lookup ("super" : Str)).isSome = false
theorem in_but {K : Frag} {h h' : Heap} {x : Addr} (X : K.In h) (hx : K.lookup x = none) (k : ∀ b o, b ≠ x → h.get? b = some o → h'.get? b = some o) : K.In h' := fun a o e =>
  k a o (fun z => by rw [z, hx] at e; cases e) (X a o e)
section
variable {M : Model} {A : Around} {E : Value → Shared → Prop} {h : Heap} {g : Array GenState} {d : Drawn} {t : Nat} {os : OsState}
variable {prog : Program} {w : World} {nm q : Str} {C N : Addr} {bs bm : List Value} {sn : List Str} {sub : List Value} {ab : Bool} {col : Option Bool} {dd : Option Addr} {k0 k1 k2 k3 k5 : Option Value}
/-- the wrapper that super() hands out, called -/
theorem wrap {u e t0 : Addr} {rest : List Value} {Q : Value → Shared → Prop} (hC : h.get? C = some (excClassObj nm q C N bs bm true sn sub ab col dd k0 k1 k2 k3 k5 "ValueError.__new__")) (he : h.get? e = some (excO C t0)) (hu : h.get? u = some (kxs_mw "ValueError.__init__" e)) (hl : rest.length ≤ sizeLine)
    (hq : ∀ h' t1, (∀ b o, b ≠ e → h.get? b = some o → h'.get? b = some o) → h'.get? e = some (excO C t1) → Q .none ⟨h', g, d, t, os⟩) : wpAny (model prog w) A (call (.ref u) rest) Q E ⟨h, g, d, t, os⟩ := by
  refine wpAny_call (codeAny_of_tree ?_)
  show wpAny _ A.in1 (callAny (.ref u) ⟨rest, []⟩) _ _ _
  simp only [callAny]
  refine wpAny_bind (wpAny_load hu ?_)
  have c1 : (Value.type "method-wrapper" == Value.type "method" || Value.type "method-wrapper" == Value.type "builtin_function_or_method" || Value.type "method-wrapper" == Value.type "method-wrapper") = true := by decide
  simp only [kxs_mw, c1, if_true]
  refine KFB.if_so (by decide) (wpAny_bind (check_bound_init F.excBase_ValueError.toExcCallFacts hC he rfl (wpAny_bind (wpAny_pure (wpAny_pure ⟨plainId_quiet F.excBase_ValueError.init.plain _, codeAny_builtin F.excBase_ValueError.initEntry ?_⟩)))))
  rw [Around.under_plainId F.excBase_ValueError.init.plain _]
  wp_walk
  refine hq _ h.objs.size (fun b o hb ho => ?_) ?_
  · exact (Heap.get?_update_other _ _ (fun z => hb z.symm)).trans (Heap.get?_push_of_some _ ho)
  · exact (Heap.get?_update_self _ (Heap.get?_push_of_some _ he) rfl).trans rfl
end
/-- what the constructor leaves of a fresh exception at x -/
structure Done (h h' : Heap) (x C dx t1 : Addr) (v : Value) : Prop where
  keep : ∀ b o, b ≠ x → h.get? b = some o → h'.get? b = some o
  obj : h'.get? x = some { cls := .ref C, dict := some dx, data := .fields #[.ref t1, .none, .none, .none, .bool false, .none] }
  big : h.objs.size ≤ dx
  ne : dx ≠ x
  ns : h'.Ns1 dx (fun y => if y = "index" then some v else none)
section
variable {prog : Program} {w : World} {A : Around} {E : Value → Shared → Prop} {R : Result → Shared → Prop} {s : Shared} {K : Frag} {C fI cc cda : Addr} {mg mb : Str → Option Value}
theorem ldN {M : Model} {env : Env} {m : Str → Option Value} {x : Str} {pos : Pos} {v : Value} {Q : Value → Shared → Prop} (hn : s.heap.Ns env.locals m) (hv : m x = some v) (h : Q v s) (hk : env.scope.kind = .function := by rfl) (hl : env.kindOf x = some .local := by rfl) (hd : (x == ("__debug__" : Str)) = false := by decide) :
    wpAny M A (eval (.Name x pos) env) Q E s := wpAny_Name (wpAny_loadName_local hk hl hn hv h) hd
theorem init (T : Txt prog K C fI cc cda) {x t0 : Addr} {v : Value} (X : K.In s.heap) (hlim : s.heap.NoLimit) (hg : s.heap.Ns mainGlobals mg) (hm : mg "super" = none) (hb : s.heap.Ns builtinsNs mb) (hbv : mb "super" = some (.type "super")) (hx : s.heap.get? x = some (excO C t0)) (hnx : K.lookup x = none) (hroom : A.depth < recursionLimit)
    (hq : ∀ h' tk dx t1, Done s.heap h' x C dx t1 v → R (.ok (.ret .none)) { s with heap := h', toks := tk }) : codeAny (model prog w) A (.call (.ref fI) ⟨[.ref x, v], []⟩) R s := by
  obtain ⟨oc, od, kV, doc, pm, an, ct, osl, p1, p2, a0, a1, a3, a5, q1, q2, q3, q4, hf⟩ := T.fn
  obtain ⟨nm, q, N, bs, bm, sn, sub, ab, col, dd, k0, k1, k2, k3, k5, hC, hbm⟩ := T.cls
  obtain ⟨ccl, cdd, vs, ccs, file, tf, hco, hvs, hfile⟩ := T.code
  obtain ⟨cl, cld, csl, hcell⟩ := T.cell
  have hcl : clsIn K C = some { name := nm, bases := bs, mro := .ref C :: bm, ns := N, qualname := q, hasDict := true, slotNames := sn, subclasses := sub, abstract := ab, collection := col, hasDel := false } := by unfold clsIn; rw [hC] <;> rfl
  refine ks_codeAny_call_defAt (body := wB a0 a1 a3 a5 q1 q2 q3 q4) (binds := [("self", .ref x), ("index", v)]) hroom (X _ _ hf) rfl hlim (codeRec_of X T.hcd) rfl (BindsTo.of_eq (by first | rfl | with_unfolding_all rfl)) (show ∀ y ∈ wS.names, y.2 ≠ .cell from by decide) (fun y hy => by
    rcases List.mem_cons.mp hy with rfl | hy
    · rfl
    · rcases List.mem_cons.mp hy with rfl | hy
      · rfl
      · cases hy) (fun h₁ hns hk₁ => ?_) rfl rfl rfl
  have X₁ : K.In h₁ := X.keeps hk₁
  have hxL : s.heap.objs.size ≠ x := Nat.ne_of_gt (Heap.lt_size hx)
  have hx₁ := hk₁ _ _ hx
  show _root_.PySem.wpAt _ _ _ (execs (wB a0 a1 a3 a5 q1 q2 q3 q4) (ksEnv "BadWeaving.__init__" wS s.heap.objs.size fI (.ref cda) cc)) _ _ _
  obtain ⟨hp, gn, dr, tk, os⟩ := s
  refine ks_wpAt_execs_cons (ks_wpAt_Expr_any (ks_wpAt_MethodCall (ks_wpAt_super_base (env := ksEnv "BadWeaving.__init__" wS hp.objs.size fI (.ref cda) cc) rfl rfl (by decide) rfl (X₁ _ _ hf) rfl rfl rfl (X₁ _ _ hco) rfl hvs hfile T.top ?_)))
  refine ks_loadName_global rfl rfl (loadGlobal_builtin (hg.keeps hk₁) hm (hb.keeps hk₁) hbv ⟨rfl, ?_⟩)
  refine wpAny_loadName_free rfl rfl rfl ⟨_, X₁ _ _ hcell, rfl⟩ ?_
  refine wpAny_loadName_local (m := fun y => [(("self" : Str), Value.ref x), (("index" : Str), v)].reverse.lookup y) rfl rfl hns (v := .ref x) rfl ?_
  refine ks_wpAny_isType_cls (X₁ _ _ hC) rfl ⟨rfl, ?_⟩
  refine ks_wpAny_call_super (X₁ _ _ hC) rfl hx₁ rfl (fun c e => by cases e) (looks_mroIn X₁ T.me) (fun h₂ e2 k2 => ?_)
  have X₂ : K.In h₂ := X₁.keeps k2
  have hx₂ := k2 _ _ hx₁
  have I₂ : InstAt h₂ x (excO C t0) C none := ⟨hx₂, rfl, rfl, trivial⟩
  have hsup := T.sup
  unfold ks_superIn at hsup
  rw [hcl] at hsup
  refine kxs_getMethod kxs_ValueError e2 (looks_opaque X₂ T.opq) (l₀ := .ref C :: bm) ((looks_clsIn X₂ hcl).andThen .now) rfl X₂ hsup (I₂.type.andThen (looks_subIn X₂ T.ve)) (ks_ne X₂ I₂ hcl) rfl ?_
  have k3 : ∀ b o, h₂.get? b = some o → (h₂.push (kxs_mw "ValueError.__init__" x)).get? b = some o := fun b o e => Heap.get?_push_of_some _ e
  have kk : ∀ b o, hp.get? b = some o → (h₂.push (kxs_mw "ValueError.__init__" x)).get? b = some o := fun b o e => k3 _ _ (k2 _ _ (hk₁ b o e))
  have hns3 : (h₂.push (kxs_mw "ValueError.__init__" x)).Ns hp.objs.size (fun y => [(("self" : Str), Value.ref x), (("index" : Str), v)].reverse.lookup y) := (hns.keeps k2).keeps k3
  have hu : (h₂.push (kxs_mw "ValueError.__init__" x)).get? h₂.objs.size = some (kxs_mw "ValueError.__init__" x) := Heap.get?_push_at rfl rfl
  refine kxs_callWith (i := "ValueError.__init__") (x := x) rfl (evalArgs_plain (spliced_more (ldN (v := v) hns3 rfl (spliced_none ⟨hu, ?_⟩))))
  refine wrap (k3 _ _ (X₂ _ _ hC)) (k3 _ _ hx₂) hu (by show 1 ≤ sizeLine; rw [sizeLine_eq]; decide) fun h₄ t1 k4 hx₄ => ?_
  have X₄ : K.In h₄ := in_but ((X₂.keeps k3)) hnx k4
  have hns4 : h₄.Ns hp.objs.size (fun y => [(("self" : Str), Value.ref x), (("index" : Str), v)].reverse.lookup y) := hns3.at fun o z => k4 _ _ hxL z
  refine ks_wpAt_execs_cons (ks_wpAt_Assign_Attr (wpAt_of_wpAny (ldN (v := v) hns4 rfl (ldN (v := .ref x) hns4 rfl ?_))))
  refine set_plain X₄ (ox := excO C t1) (od := none) ⟨hx₄, rfl, rfl, trivial⟩ T.sa ?_
  refine exc_osa X₄ hx₄ hcl (show refsVE (.ref C :: bm) = true from hbm) rfl T.no (fun h₅ tk₅ dx k₅ dn dne hx₅ hn₅ => ?_)
  refine wpAt_of_wpAny (wpAny_execs_nil ?_)
  refine hq h₅ tk₅ dx t1 ⟨fun b o hb e => k₅ b o hb (k4 b o hb (kk b o e)), hx₅, ?_, dne, hn₅⟩
  have z : hp.objs.size < h₄.objs.size := hns4.lt
  have dn' : h₄.objs.size ≤ dx := dn
  show hp.objs.size ≤ dx
  omega
/-- a made one -/
structure Made (h h' : Heap) (e C d : Addr) (v : Value) : Prop where
  keep : ∀ b o, h.get? b = some o → h'.get? b = some o
  new : h.objs.size ≤ e
  obj : ∃ oe vs, h'.get? e = some oe ∧ oe.cls = .ref C ∧ oe.dict = some d ∧ oe.data = .fields vs ∧ vs[1]? = some .none
  big : h.objs.size ≤ d
  ne : d ≠ e
  ns : h'.Ns1 d (fun y => if y = "index" then some v else none)
theorem make (T : Txt prog K C fI cc cda) {v : Value} (X : K.In s.heap) (hlim : s.heap.NoLimit) (hg : s.heap.Ns mainGlobals mg) (hm : mg "super" = none) (hb : s.heap.Ns builtinsNs mb) (hbv : mb "super" = some (.type "super")) (hroom : A.depth + 1 < recursionLimit)
    (hq : ∀ h' tk e d, Made s.heap h' e C d v → R (.ok (.ret (.ref e))) { s with heap := h', toks := tk }) : codeAny (model prog w) A (.call (.ref C) ⟨[v], []⟩) R s := by
  obtain ⟨nm, q, N, bs, bm, sn, sub, ab, col, dd, k0, k1, k2, k3, k5, hC, hbm⟩ := T.cls
  obtain ⟨hp, gn, dr, tk, os⟩ := s
  have k : ∀ b o, hp.get? b = some o → ((hp.push (kdv_tup [v])).push (excO C hp.objs.size)).get? b = some o := fun b o z => Heap.get?_push_of_some _ (Heap.get?_push_of_some _ z)
  have hget : ((hp.push (kdv_tup [v])).push (excO C hp.objs.size)).get? (hp.objs.size + 1) = some (excO C hp.objs.size) := by heap_get
  have hnx : K.lookup (hp.objs.size + 1) = none := by
    cases z : K.lookup (hp.objs.size + 1) with
    | none => rfl
    | some o =>
      have y := Heap.lt_size (X _ _ z)
      exact absurd (Nat.lt_of_succ_lt y) (Nat.lt_irrefl _)
  refine call_own F.excBase_ValueError (fun Y => refsVE_contains Y bm hbm) (X _ _ hC) (looks_findIn X T.iC) (fun self => bind_fn X self T.tC) (by show 1 ≤ sizeLine; rw [sizeLine_eq]; decide) ?_
  refine init (s := ⟨(hp.push (kdv_tup [v])).push (excO C hp.objs.size), gn, dr, tk, os⟩) (mg := mg) (mb := mb) T (X.keeps k) (hlim.keeps k) (hg.keeps k) hm (hb.keeps k) hbv hget hnx (show A.depth + 1 < recursionLimit from hroom) fun h' tk' dx t1 D => ?_
  have old : ∀ b o, hp.get? b = some o → h'.get? b = some o := fun b o z => D.keep b o (Nat.ne_of_lt (Nat.lt_succ_of_lt (Heap.lt_size z))) (k b o z)
  have z : hp.objs.size ≤ dx := by
    have y : ((hp.push (kdv_tup [v])).push (excO C hp.objs.size)).objs.size ≤ dx := D.big
    rw [Heap.size_push, Heap.size_push] at y
    omega
  exact ⟨rfl, hq h' tk' (hp.objs.size + 1) dx ⟨old, Nat.le_succ _, ⟨_, _, D.obj, rfl, rfl, rfl, rfl⟩, z, D.ne, D.ns⟩⟩
end
end Bw
end HW
/-! Refusals: calls that raise, suites that catch. -/
namespace HW
open PySem PySem.Spec L2
/-! ### BadWeaving(e) -/
theorem rel_idx {v : V} {u : Value} (r : RelV v u) (f : Str) : RelO (List.lookup f [(("index" : Str), v)]) (if f = "index" then some u else none) := by
  by_cases hw : f = "index"
  · subst hw
    rw [if_pos rfl, show List.lookup ("index" : Str) [(("index" : Str), v)] = some v from lk_here]
    exact r
  · rw [if_neg hw, show List.lookup f [(("index" : Str), v)] = none from (lk_past (by simpa using hw)).trans rfl]
    trivial
def tMkBw (C : Addr) (ta : TA) : L2.St → Hp → XK → Prop := fun σ H Q => ta σ H fun vs H1 => ∃ v, vs = [v] ∧ ∀ d, H1 d = none → Q (.ref C) (some d) (upd H1 d (.xd [(("index" : Str), v)]))
theorem pmk_bw {X : Cx} {C fI cc cda : Addr} {x : Str} {a : Expr} {ta : TA} {p pos : Pos} {k : Nat} (T : Bw.Txt X.prog X.K C fI cc cda) (gC : X.mg x = some (.ref C)) (hsu : X.mg "super" = none) (hr : Room k X.A) (ha : PA X [a] ta) (hg : Gl X x := by rfl)
    (hdb : (x == ("__debug__" : Str)) = false := by decide) (he : starEach (a :: []) X.env = (false, eval a X.env) :: starEach [] X.env := by rfl) (hpl : (backTo pos (starEach [] X.env)).any (·.1) = false := by rfl) (hk : 1 ≤ k := by decide) :
    PMk X (.Call (.Name x p) [a] [] pos) (tMkBw C ta) := by
  intro pins s σ H Q I h
  refine wpAny_Call_Name_kw (ld_glob I hg gC ?_ hdb)
  refine PySem.W.callWith_K (h₀ := X.base) I.ok.mod.kin T.kC (thn (ha.run pos pins s σ H _ I h) fun us s1 hh => ?_) he hpl
  obtain ⟨vs, H1, I1, r1, v, ev, q1⟩ := hh
  subst ev
  refine ⟨I1.kIn, ?_⟩
  cases r1 with
  | cons rv rn =>
    rename_i v' us'
    cases rn
    show wpAny _ _ (call (.ref C) [v']) _ _ _
    have hlim := I1.nolimit
    have hglob := I1.mod.glob.keeps I1.bk
    obtain ⟨mb, hb1, hb2⟩ := I1.mod.blt
    have hblt := hb1.keeps I1.bk
    obtain ⟨hp, g, dr, tk, os⟩ := s1
    refine wpAny_call (Bw.make T I1.kIn hlim hglob hsu hblt ((hb2 "super" (by decide)).trans (by decide +kernel)) (by have := hr.dp; omega) fun h' tk' e d M => ?_)
    show MkP X pins σ Q (.ref e) ⟨h', g, dr, tk', os⟩
    obtain ⟨oe, fv, hoe, hc, hd, hdat, h1⟩ := M.obj
    have hns := M.ns
    obtain ⟨G', g1, g2⟩ := restrict h' fun b => decide (b ≠ e)
    have gk : ∀ b, b ≠ e → G'.get? b = h'.get? b := fun b hb => g1 b (decide_eq_true hb)
    have ge : G'.get? e = none := g2 e (by simp)
    have old : ∀ b o, hp.get? b = some o → G'.get? b = some o := fun b o q => (gk b (Nat.ne_of_lt (Nat.lt_of_lt_of_le (Heap.lt_size q) M.new))).trans (M.keep b o q)
    have ob : ObjOk X.prog X.w (upd H1 d (.xd [(("index" : Str), v)])) G' d (.xd [(("index" : Str), v)]) := ⟨_, hns.at (fun o q => (gk d M.ne).trans q), fun f => rel_idx rv f⟩
    have J : Inv X pins σ (upd H1 d (.xd [(("index" : Str), v)])) ⟨G', g, dr, tk', os⟩ := I1.laid (t' := tk') old M.big ob
    refine ⟨e, oe, fv, ⟨G', g, dr, tk', os⟩, _, .ref C, some d, rfl, J, fun b o q => ?_, ge, hoe, ⟨hc, hd⟩, hdat, h1, ?_, rfl, I1.bare, raises_own T.exC T.tyC, q1 d (I1.hok.fresh M.big)⟩
    · by_cases hb : b = e
      · have q' : G'.get? b = some o := q
        rw [hb, ge] at q'; cases q'
      · exact (gk b hb).symm.trans q
    · rw [upd_ne (fun z => M.ne z.symm)]
      exact I1.hok.fresh M.new
/-! ### promises of refusal -/
/-- what a refusal carries -/
def Carr (H : Hp) (dd : Option Addr) : Option V → Prop
  | none => dd = none
  | some v => ∃ d, dd = some d ∧ H d = some (.xd [(("index" : Str), v)])
def spR (K : PySem.W.Frag) (Cn : Str) (C : List Sh → Option V → Prop) : Sp := fun vs H _ E => ∃ I ss o, C ss o ∧ Same I H ∧ ShA K I vs ss ∧ ∀ dd H2, Same H H2 → Carr H2 dd o → E (.ref (He.ga K Cn)) dd H2
structure FnX (P : Program) (w : World) (K : PySem.W.Frag) (mg : Str → Option Value) (base : Heap) (x : Str) (k : Nat) (sp : Sp) : Prop where
  ex : ∃ (f : Addr) (fd : FuncData) (ps : List Str), mg x = some (.ref f) ∧ PySem.W.keepIn K (.ref f) = true ∧ L2.Binds K fd ps [] ∧ FnOk P w K mg base (L2.CX P w) k f fd ps sp
def DN : Ends := { nx := fun _ _ => False, rt := fun _ _ => False }
section
variable {P : Program} {w : World} {K : PySem.W.Frag} {mg : Str → Option Value} {base : Heap} {nm qual : Str} {params : Arguments} {body : List Stmt} {scope : Scope} {dvs : List V} {kws : List (Str × V)} {f : Addr} {fd : FuncData}
theorem ok_ref {N ps : List Str} {k : Nat} {Cn : Str} {C : List Sh → Option V → Prop} (F : FunD K nm qual params body scope dvs kws f fd) (S : FnScope N ps scope) (len : ∀ ss o, C ss o → ss.length = ps.length)
    (hb : ∀ (cdv : Value) (A : Around) (outer : List Env) (s : Shared) (H : Hp) (E : XK) (ss : List Sh) (o : Option V) (B : Bs), Room k (A.deeper (PyProof.Rows.envOfC qual scope s.heap.objs.size f cdv)) → C ss o → (∀ dd H2, Same B.H H2 → Carr H2 dd o → E (.ref (He.ga K Cn)) dd H2) →
      SX (cxOf (L2.CX P w) P w K mg base N qual scope f cdv A outer s H E) body DN (startS N ss) M0 B) : FnOk P w K mg base (L2.CX P w) (k + 1) f fd ps (spR K Cn C) := by
  refine F.ok S (fun vs H Q E h => ?_) fun cdv A outer s H vs Q E hr h => ?_
  · obtain ⟨I, ss, o, hC, t, hv, _⟩ := h
    rw [hv.length]
    exact len ss o hC
  · obtain ⟨I, ss, o, hC, t, hv, q⟩ := h
    refine ⟨_, pss_sj, ?_⟩
    have z := hb cdv A outer s H E ss o ⟨I, H, I⟩ hr hC q I H (L2.start N vs) ⟨Ext.refl t, Same.refl I, sl_start hv, MOk.none, fun _ _ q => nomatch q⟩
    exact sj_mono z (fun _ _ h => h.elim) (fun _ _ h => h.elim) (fun _ _ h => h) (fun _ _ h => h)
end
section
variable {X : Cx} {S : Sls} {M : Mp} {a b c e o : Expr} {es : List Expr} {sh : Sh} {ss : List Sh} {pos pos' p : Pos} {x Cn : Str} {D : Ends} {B : Bs} {rest : List Stmt} {W : WX} {I H : Hp} {σ : L2.St} {Q : VK}
theorem sx_raise {t : L2.St → Hp → XK → Prop} (hc : X.calm = true) (tk : Takes X W) (he : PMk X e t) (q : ∀ (I H : Hp) (σ : L2.St), Stt X.K B I H M σ S → t σ H fun cls d H' => W cls d σ H') : SX X (.Raise (some e) none pos :: rest) D S M B := sx_of (ps_raise hc tk he) q
/-- an own error without a constructor of its own -/
structure OwnX (K : PySem.W.Frag) (mg : Str → Option Value) (Cn : Str) : Prop where
  g : mg Cn = some (.ref (He.ga K Cn))
  q : PySem.W.excIn K (He.ga K Cn) He.veBase "ValueError.__new__" = true
  k : PySem.W.keepIn K (.ref (He.ga K Cn)) = true
  ex : PySem.W.subIn K (.ref (He.ga K Cn)) (.type "BaseException") = some true
  ty : PySem.W.typeIn K (.ref (He.ga K Cn)) = some (.type "type")
/-- raise Cn('..') -/
theorem sx_raiseO {m : Str} {j : Nat} {p2 p3 : Pos} (T : OwnX X.K X.mg Cn) (hc : X.calm = true) (tk : Takes X W) (hW : ∀ σ dd H2, Same B.H H2 → Carr H2 dd none → W (.ref (He.ga X.K Cn)) dd σ H2) (hg : Gl X Cn := by rfl) (hdb : (Cn == ("__debug__" : Str)) = false := by decide) :
    SX X (.Raise (some (.Call (.Name Cn p) [.Constant (.str m) j p2] [] pos)) none p3 :: rest) D S M B :=
  sx_raise hc tk (pmk_own F.excBase_ValueError T.q T.g T.k (raises_own T.ex T.ty) hg hdb) fun I H σ s => hW σ none H s.x.h rfl
/-- raise BadWeaving(e) -/
theorem sx_raiseB {fI cc cda : Addr} {v : V} {k : Nat} {p3 : Pos} (T : Bw.Txt X.prog X.K (He.ga X.K Cn) fI cc cda) (gC : X.mg Cn = some (.ref (He.ga X.K Cn))) (hsu : X.mg "super" = none) (hr : Room k X.A) (hc : X.calm = true) (tk : Takes X W) (he : EX X e S M sh) (hv : ∀ I u, sh.ok X.K I u → u = v)
    (hW : ∀ σ dd H2, Same B.H H2 → Carr H2 dd (some v) → W (.ref (He.ga X.K Cn)) dd σ H2) (hk : 1 ≤ k := by decide) (hg : Gl X Cn := by rfl) (hdb : (Cn == ("__debug__" : Str)) = false := by decide)
    (hs : starEach (e :: []) X.env = (false, eval e X.env) :: starEach [] X.env := by rfl) (hpl : (backTo pos (starEach [] X.env)).any (·.1) = false := by rfl) :
    SX X (.Raise (some (.Call (.Name Cn p) [e] [] pos)) none p3 :: rest) D S M B :=
  sx_raise hc tk (pmk_bw T gC hsu hr (pa_cons pe_ej pa_nil hs) hg hdb hs hpl hk) fun I H σ s => he I H σ s.x.t s.l s.m _ fun u I2 H2 e2 hu =>
    ⟨u, rfl, fun d hd => hW σ (some d) _ ((s.x.h.trans e2.h).trans (same_new hd _)) ⟨d, rfl, by rw [upd_same, hv I2 u hu]⟩⟩
/-- a call that is refused -/
theorem ej_ref {k j : Nat} {C : List Sh → Option V → Prop} {ov : Option V} (F : FnX X.prog X.w X.K X.mg X.base x j (spR X.K Cn C)) (hr : Room k X.A) (tk : Takes X W) (hC : C ss ov) (ha : AX X (e :: es) S M ss) (s : Stt X.K B I H M σ S)
    (hW : ∀ dd H2, Same H H2 → Carr H2 dd ov → W (.ref (He.ga X.K Cn)) dd σ H2) (hj : j ≤ k := by decide) (hg : Gl X x := by rfl) (hdb : (x == ("__debug__" : Str)) = false := by decide)
    (he : starEach (e :: es) X.env = (false, eval e X.env) :: starEach es X.env := by rfl) (hpl : (backTo pos (starEach es X.env)).any (·.1) = false := by rfl) : EJ X (.Call (.Name x p) (e :: es) [] pos) σ H Q := by
  obtain ⟨f, fd, ps, h1, h2, h3, h4⟩ := F.ex
  exact ej_of (pe_callS (E := WE W) h4 (hr.mono hj) hg h1 h2 h3 (fun σ => passAt tk σ) pa_aj hdb he hpl) (ha I H σ s.x.t s.l s.m _ fun vs I2 H2 e2 hvs =>
    ⟨I2, ss, ov, hC, e2.t, hvs, fun dd H3 q c => hW dd H3 (e2.h.trans q) c⟩)
/-- return f(..), refused -/
theorem sx_retR {k j : Nat} {C : List Sh → Option V → Prop} {ov : Option V} (F : FnX X.prog X.w X.K X.mg X.base x j (spR X.K Cn C)) (hr : Room k X.A) (tk : Takes X W) (hC : C ss ov) (ha : AX X (e :: es) S M ss)
    (hW : ∀ σ dd H2, Same B.H H2 → Carr H2 dd ov → W (.ref (He.ga X.K Cn)) dd σ H2) (hj : j ≤ k := by decide) (hg : Gl X x := by rfl) (hdb : (x == ("__debug__" : Str)) = false := by decide)
    (he : starEach (e :: es) X.env = (false, eval e X.env) :: starEach es X.env := by rfl) (hpl : (backTo pos (starEach es X.env)).any (·.1) = false := by rfl) : SX X (.Return (some (.Call (.Name x p) (e :: es) [] pos)) pos' :: rest) D S M B :=
  sx_of (ps_ret pe_ej) fun I H σ s => ej_ref F hr tk hC ha s (fun dd H2 q c => hW σ dd H2 (s.x.h.trans q) c) hj hg hdb he hpl
/-! ### suites -/
/-- try: f(..) except Cn: .., f refused -/
theorem sx_tryO {k j : Nat} {C : List Sh → Option V → Prop} {ov : Option V} {st : Stmt} {suite : List Stmt} {np pe ph pt : Pos} (hf : X.env.frame = some X.env.locals) (hstk : X.stack = X.env :: X.outer)
    (F : ∀ pn xe, FnX X.prog X.w (X.tr pn xe).K X.mg X.base x j (spR X.K Cn C)) (hr : Room k X.A) (hN : Names X Cn (.ref (He.ga X.K Cn))) (hm : PySem.W.exmOne X.K (.ref (He.ga X.K Cn)) (.ref (He.ga X.K Cn)) = some true) (hC : C ss ov) (ha : ∀ pn xe, AX (X.tr pn xe) (e :: es) S M ss)
    (hs : ∀ (a : Addr) (oe : Obj) (dd : Option Addr) (pn : List (Addr × Obj)) (I H H2 : Hp) (σ : L2.St), Stt X.K B I H M σ S → Same H H2 → Carr H2 dd ov → Zc (.ref (He.ga X.K Cn)) dd oe → (∃ vs, oe.data = .fields vs) → SJ (X.suite a ((a, oe) :: pn)) (st :: suite) { D with nx := SJ X rest D } σ H2)
    (hj : j ≤ k := by decide) (hg : Gl X x := by rfl) (hdb : (x == ("__debug__" : Str)) = false := by decide) (hsw : swapsWith (.Call (.Name x p) (e :: es) [] pos) none pe.line X.env = pure false := by rfl)
    (he : starEach (e :: es) X.env = (false, eval e X.env) :: starEach es X.env := by rfl) (hpl : (backTo pos (starEach es X.env)).any (·.1) = false := by rfl) :
    SX X (.Try [.Expr (.Call (.Name x p) (e :: es) [] pos) pe] [.ExceptHandler (some (.Name Cn np)) none (st :: suite) ph] [] [] pt :: rest) D S M B :=
  sx_of (ps_try_only (tb := fun W D σ H => ∀ pn xe, Takes (X.tr pn xe) W → SJ (X.tr pn xe) [.Expr (.Call (.Name x p) (e :: es) [] pos) pe] D σ H) (Wout := fun _ _ _ _ => False)
      (ts := fun a cls d D σ H => ∀ (oe : Obj) (pn : List (Addr × Obj)), Zc cls d oe → (∃ vs, oe.data = .fields vs) → SJ (X.suite a ((a, oe) :: pn)) (st :: suite) D σ H)
      hstk hf hN takes0 (fun W pn xe tk _ => ⟨fun pins s σ H D I h => h pn xe tk pins s I⟩) (fun a oe cls d pn hz hv => ⟨fun pins s σ H D I h => h oe pn hz hv pins s I⟩))
    fun I H σ s pn xe tk => sj_cons (X := X.tr pn xe) (ps_expr (X := X.tr pn xe) pe_ej hsw) (ej_ref (X := X.tr pn xe) (F pn xe) hr tk hC (ha pn xe) s (fun dd H2 q c => ⟨true, hm, fun _ a _ oe pn2 hz hv => hs a oe dd pn2 I H H2 σ s q c hz hv, fun z => nomatch z⟩) hj hg hdb he hpl)
/-- try: f(..) except Cn as n: .., f refused -/
theorem sx_tryA {k j i : Nat} {n : Str} {C : List Sh → Option V → Prop} {ov : Option V} {st : Stmt} {suite : List Stmt} {np pe ph pt : Pos} (hf : X.env.frame = some X.env.locals) (hstk : X.stack = X.env :: X.outer) (hnd : X.N.Nodup) (hi : X.N[i]? = some n) (hln : X.env.kindOf n = some .local)
    (F : ∀ pn xe, FnX X.prog X.w (X.tr pn xe).K X.mg X.base x j (spR X.K Cn C)) (hr : Room k X.A) (hN : Names X Cn (.ref (He.ga X.K Cn))) (hm : PySem.W.exmOne X.K (.ref (He.ga X.K Cn)) (.ref (He.ga X.K Cn)) = some true) (hC : C ss ov) (ha : ∀ pn xe, AX (X.tr pn xe) (e :: es) S M ss)
    (hs : ∀ (D' : Ends) (a : Addr) (oe : Obj) (dd : Option Addr) (pn : List (Addr × Obj)) (I H H2 : Hp) (σ : L2.St), D'.rt = D.rt → Stt X.K B I H M σ S → Same H H2 → Carr H2 dd ov → Zc (.ref (He.ga X.K Cn)) dd oe → (∃ vs, oe.data = .fields vs) → SJ (X.suite a ((a, oe) :: pn)) (st :: suite) D' (σ.set i (some (.ref a))) H2)
    (hj : j ≤ k := by decide) (hg : Gl X x := by rfl) (hdb : (x == ("__debug__" : Str)) = false := by decide) (hsw : swapsWith (.Call (.Name x p) (e :: es) [] pos) none pe.line X.env = pure false := by rfl)
    (he : starEach (e :: es) X.env = (false, eval e X.env) :: starEach es X.env := by rfl) (hpl : (backTo pos (starEach es X.env)).any (·.1) = false := by rfl) :
    SX X (.Try [.Expr (.Call (.Name x p) (e :: es) [] pos) pe] [.ExceptHandler (some (.Name Cn np)) (some n) (st :: suite) ph] [] [] pt :: rest) D S M B :=
  sx_of (ps_try_as (tb := fun W D σ H => ∀ pn xe, Takes (X.tr pn xe) W → SJ (X.tr pn xe) [.Expr (.Call (.Name x p) (e :: es) [] pos) pe] D σ H) (Wout := fun _ _ _ _ => False)
      (ts := fun a cls d D σ H => ∀ (oe : Obj) (pn : List (Addr × Obj)), Zc cls d oe → (∃ vs, oe.data = .fields vs) → SJ (X.suite a ((a, oe) :: pn)) (st :: suite) D σ H)
      hstk hf hnd hi hln hN takes0 (fun W pn xe tk _ => ⟨fun pins s σ H D I h => h pn xe tk pins s I⟩) (fun a oe cls d pn hz hv => ⟨fun pins s σ H D I h => h oe pn hz hv pins s I⟩))
    fun I H σ s pn xe tk => sj_cons (X := X.tr pn xe) (ps_expr (X := X.tr pn xe) pe_ej hsw) (ej_ref (X := X.tr pn xe) (F pn xe) hr tk hC (ha pn xe) s (fun dd H2 q c => ⟨true, hm, fun _ a _ oe pn2 hz hv => hs _ a oe dd pn2 I H H2 σ rfl s q c hz hv, fun z => nomatch z⟩) hj hg hdb he hpl)
end
end HW
/-! The text by places: printed by gen.py. -/
namespace HW
open PySem PySem.Spec L2
def top (i : Nat) : Stmt := PySem.Challenge.pw_hearsayways_k02_whole_deeds.main.body.getD i (.Pass ⟨0, 0, 0, 0⟩)
/-! is_number -/
abbrev s_is_number : Stmt := top 14
abbrev n_is_number : List Str := ["thing", "low", "high"]
abbrev p_is_number : List Str := ["thing", "low", "high"]
theorem sc_is_number : FnScope n_is_number p_is_number (defScope s_is_number) := ⟨rfl, rfl, rfl, by decide +kernel, rfl, by decide +kernel, by decide +kernel⟩
theorem nd_is_number : n_is_number.Nodup := by decide +kernel
abbrev F_is_number (K : PySem.W.Frag) (f : Addr) (fd : FuncData) : Prop := FunD K "is_number" "is_number" (defArgs s_is_number) (defBody s_is_number) (defScope s_is_number) [] [] f fd
/-! is_rule -/
abbrev s_is_rule : Stmt := top 15
abbrev n_is_rule : List Str := ["name", "thing"]
abbrev p_is_rule : List Str := ["name", "thing"]
theorem sc_is_rule : FnScope n_is_rule p_is_rule (defScope s_is_rule) := ⟨rfl, rfl, rfl, by decide +kernel, rfl, by decide +kernel, by decide +kernel⟩
theorem nd_is_rule : n_is_rule.Nodup := by decide +kernel
abbrev F_is_rule (K : PySem.W.Frag) (f : Addr) (fd : FuncData) : Prop := FunD K "is_rule" "is_rule" (defArgs s_is_rule) (defBody s_is_rule) (defScope s_is_rule) [] [] f fd
/-! is_tie -/
abbrev s_is_tie : Stmt := top 16
abbrev n_is_tie : List Str := ["hosts", "thing"]
abbrev p_is_tie : List Str := ["hosts", "thing"]
theorem sc_is_tie : FnScope n_is_tie p_is_tie (defScope s_is_tie) := ⟨rfl, rfl, rfl, by decide +kernel, rfl, by decide +kernel, by decide +kernel⟩
theorem nd_is_tie : n_is_tie.Nodup := by decide +kernel
abbrev F_is_tie (K : PySem.W.Frag) (f : Addr) (fd : FuncData) : Prop := FunD K "is_tie" "is_tie" (defArgs s_is_tie) (defBody s_is_tie) (defScope s_is_tie) [] [] f fd
/-! is_ascending -/
abbrev s_is_ascending : Stmt := top 17
abbrev n_is_ascending : List Str := ["thing", "one", "other"]
abbrev p_is_ascending : List Str := ["thing"]
theorem sc_is_ascending : FnScope n_is_ascending p_is_ascending (defScope s_is_ascending) := ⟨rfl, rfl, rfl, by decide +kernel, rfl, by decide +kernel, by decide +kernel⟩
theorem nd_is_ascending : n_is_ascending.Nodup := by decide +kernel
abbrev F_is_ascending (K : PySem.W.Frag) (f : Addr) (fd : FuncData) : Prop := FunD K "is_ascending" "is_ascending" (defArgs s_is_ascending) (defBody s_is_ascending) (defScope s_is_ascending) [] [] f fd
/-! are_ties -/
abbrev s_are_ties : Stmt := top 18
abbrev n_are_ties : List Str := ["hosts", "thing", "tie"]
abbrev p_are_ties : List Str := ["hosts", "thing"]
theorem sc_are_ties : FnScope n_are_ties p_are_ties (defScope s_are_ties) := ⟨rfl, rfl, rfl, by decide +kernel, rfl, by decide +kernel, by decide +kernel⟩
theorem nd_are_ties : n_are_ties.Nodup := by decide +kernel
abbrev F_are_ties (K : PySem.W.Frag) (f : Addr) (fd : FuncData) : Prop := FunD K "are_ties" "are_ties" (defArgs s_are_ties) (defBody s_are_ties) (defScope s_are_ties) [] [] f fd
/-! are_weak -/
abbrev s_are_weak : Stmt := top 19
abbrev n_are_weak : List Str := ["many", "thing", "tie"]
abbrev p_are_weak : List Str := ["many", "thing"]
theorem sc_are_weak : FnScope n_are_weak p_are_weak (defScope s_are_weak) := ⟨rfl, rfl, rfl, by decide +kernel, rfl, by decide +kernel, by decide +kernel⟩
theorem nd_are_weak : n_are_weak.Nodup := by decide +kernel
abbrev F_are_weak (K : PySem.W.Frag) (f : Addr) (fd : FuncData) : Prop := FunD K "are_weak" "are_weak" (defArgs s_are_weak) (defBody s_are_weak) (defScope s_are_weak) [] [] f fd
/-! __init__ -/
abbrev s_Net_init : Stmt := inClass (top 20) 0
abbrev n_Net_init : List Str := ["self", "hosts", "ties", "weak", "endless", "split", "cry", "hold", "name", "thing"]
abbrev p_Net_init : List Str := ["self", "hosts", "ties", "weak", "endless", "split", "cry", "hold"]
theorem sc_Net_init : FnScope n_Net_init p_Net_init (defScope s_Net_init) := ⟨rfl, rfl, rfl, by decide +kernel, rfl, by decide +kernel, by decide +kernel⟩
theorem nd_Net_init : n_Net_init.Nodup := by decide +kernel
abbrev F_Net_init (K : PySem.W.Frag) (f : Addr) (fd : FuncData) : Prop := ∃ kws : List (Str × V), kws ≠ [] ∧ FunD K "__init__" "Net.__init__" (defArgs s_Net_init) (defBody s_Net_init) (defScope s_Net_init) [] kws f fd
/-! __len__ -/
abbrev s_Net_len : Stmt := inClass (top 20) 2
abbrev n_Net_len : List Str := ["self"]
abbrev p_Net_len : List Str := ["self"]
theorem sc_Net_len : FnScope n_Net_len p_Net_len (defScope s_Net_len) := ⟨rfl, rfl, rfl, by decide +kernel, rfl, by decide +kernel, by decide +kernel⟩
theorem nd_Net_len : n_Net_len.Nodup := by decide +kernel
abbrev F_Net_len (K : PySem.W.Frag) (f : Addr) (fd : FuncData) : Prop := FunD K "__len__" "Net.__len__" (defArgs s_Net_len) (defBody s_Net_len) (defScope s_Net_len) [] [] f fd
/-! check_net -/
abbrev s_check_net : Stmt := top 21
abbrev n_check_net : List Str := ["net"]
abbrev p_check_net : List Str := ["net"]
theorem sc_check_net : FnScope n_check_net p_check_net (defScope s_check_net) := ⟨rfl, rfl, rfl, by decide +kernel, rfl, by decide +kernel, by decide +kernel⟩
theorem nd_check_net : n_check_net.Nodup := by decide +kernel
abbrev F_check_net (K : PySem.W.Frag) (f : Addr) (fd : FuncData) : Prop := FunD K "check_net" "check_net" (defArgs s_check_net) (defBody s_check_net) (defScope s_check_net) [] [] f fd
/-! __init__ -/
abbrev s_Book_init : Stmt := inClass (top 23) 0
abbrev n_Book_init : List Str := ["self", "net", "state"]
abbrev p_Book_init : List Str := ["self", "net", "state"]
theorem sc_Book_init : FnScope n_Book_init p_Book_init (defScope s_Book_init) := ⟨rfl, rfl, rfl, by decide +kernel, rfl, by decide +kernel, by decide +kernel⟩
theorem nd_Book_init : n_Book_init.Nodup := by decide +kernel
abbrev F_Book_init (K : PySem.W.Frag) (f : Addr) (fd : FuncData) : Prop := FunD K "__init__" "Book.__init__" (defArgs s_Book_init) (defBody s_Book_init) (defScope s_Book_init) [] [] f fd
/-! state -/
abbrev s_Book_state : Stmt := inClass (top 23) 1
abbrev n_Book_state : List Str := ["self"]
abbrev p_Book_state : List Str := ["self"]
theorem sc_Book_state : FnScope n_Book_state p_Book_state (defScope s_Book_state) := ⟨rfl, rfl, rfl, by decide +kernel, rfl, by decide +kernel, by decide +kernel⟩
theorem nd_Book_state : n_Book_state.Nodup := by decide +kernel
abbrev F_Book_state (K : PySem.W.Frag) (f : Addr) (fd : FuncData) : Prop := FunD K "state" "Book.state" (defArgs s_Book_state) (defBody s_Book_state) (defScope s_Book_state) [] [] f fd
/-! distance_of -/
abbrev s_Book_distance_of : Stmt := inClass (top 23) 2
abbrev n_Book_distance_of : List Str := ["self", "host"]
abbrev p_Book_distance_of : List Str := ["self", "host"]
theorem sc_Book_distance_of : FnScope n_Book_distance_of p_Book_distance_of (defScope s_Book_distance_of) := ⟨rfl, rfl, rfl, by decide +kernel, rfl, by decide +kernel, by decide +kernel⟩
theorem nd_Book_distance_of : n_Book_distance_of.Nodup := by decide +kernel
abbrev F_Book_distance_of (K : PySem.W.Frag) (f : Addr) (fd : FuncData) : Prop := FunD K "distance_of" "Book.distance_of" (defArgs s_Book_distance_of) (defBody s_Book_distance_of) (defScope s_Book_distance_of) [] [] f fd
/-! goes_by -/
abbrev s_Book_goes_by : Stmt := inClass (top 23) 3
abbrev n_Book_goes_by : List Str := ["self", "host"]
abbrev p_Book_goes_by : List Str := ["self", "host"]
theorem sc_Book_goes_by : FnScope n_Book_goes_by p_Book_goes_by (defScope s_Book_goes_by) := ⟨rfl, rfl, rfl, by decide +kernel, rfl, by decide +kernel, by decide +kernel⟩
theorem nd_Book_goes_by : n_Book_goes_by.Nodup := by decide +kernel
abbrev F_Book_goes_by (K : PySem.W.Frag) (f : Addr) (fd : FuncData) : Prop := FunD K "goes_by" "Book.goes_by" (defArgs s_Book_goes_by) (defBody s_Book_goes_by) (defScope s_Book_goes_by) [] [] f fd
/-! neighbours -/
abbrev s_Book_neighbours : Stmt := inClass (top 23) 4
abbrev n_Book_neighbours : List Str := ["self", "host", "found", "tie", "stands"]
abbrev p_Book_neighbours : List Str := ["self", "host"]
theorem sc_Book_neighbours : FnScope n_Book_neighbours p_Book_neighbours (defScope s_Book_neighbours) := ⟨rfl, rfl, rfl, by decide +kernel, rfl, by decide +kernel, by decide +kernel⟩
theorem nd_Book_neighbours : n_Book_neighbours.Nodup := by decide +kernel
abbrev F_Book_neighbours (K : PySem.W.Frag) (f : Addr) (fd : FuncData) : Prop := FunD K "neighbours" "Book.neighbours" (defArgs s_Book_neighbours) (defBody s_Book_neighbours) (defScope s_Book_neighbours) [] [] f fd
/-! can_tell -/
abbrev s_Book_can_tell : Stmt := inClass (top 23) 5
abbrev n_Book_can_tell : List Str := ["self", "one", "other"]
abbrev p_Book_can_tell : List Str := ["self", "one", "other"]
theorem sc_Book_can_tell : FnScope n_Book_can_tell p_Book_can_tell (defScope s_Book_can_tell) := ⟨rfl, rfl, rfl, by decide +kernel, rfl, by decide +kernel, by decide +kernel⟩
theorem nd_Book_can_tell : n_Book_can_tell.Nodup := by decide +kernel
abbrev F_Book_can_tell (K : PySem.W.Frag) (f : Addr) (fd : FuncData) : Prop := FunD K "can_tell" "Book.can_tell" (defArgs s_Book_can_tell) (defBody s_Book_can_tell) (defScope s_Book_can_tell) [] [] f fd
/-! heard -/
abbrev s_Book_heard : Stmt := inClass (top 23) 6
abbrev n_Book_heard : List Str := ["self", "one", "other"]
abbrev p_Book_heard : List Str := ["self", "one", "other"]
theorem sc_Book_heard : FnScope n_Book_heard p_Book_heard (defScope s_Book_heard) := ⟨rfl, rfl, rfl, by decide +kernel, rfl, by decide +kernel, by decide +kernel⟩
theorem nd_Book_heard : n_Book_heard.Nodup := by decide +kernel
abbrev F_Book_heard (K : PySem.W.Frag) (f : Addr) (fd : FuncData) : Prop := FunD K "heard" "Book.heard" (defArgs s_Book_heard) (defBody s_Book_heard) (defScope s_Book_heard) [] [] f fd
/-! lose -/
abbrev s_Book_lose : Stmt := inClass (top 23) 7
abbrev n_Book_lose : List Str := ["self", "host", "other"]
abbrev p_Book_lose : List Str := ["self", "host"]
theorem sc_Book_lose : FnScope n_Book_lose p_Book_lose (defScope s_Book_lose) := ⟨rfl, rfl, rfl, by decide +kernel, rfl, by decide +kernel, by decide +kernel⟩
theorem nd_Book_lose : n_Book_lose.Nodup := by decide +kernel
abbrev F_Book_lose (K : PySem.W.Frag) (f : Addr) (fd : FuncData) : Prop := FunD K "lose" "Book.lose" (defArgs s_Book_lose) (defBody s_Book_lose) (defScope s_Book_lose) [] [] f fd
/-! tell -/
abbrev s_Book_tell : Stmt := inClass (top 23) 8
abbrev n_Book_tell : List Str := ["self", "one", "other", "distance", "by", "hold", "late"]
abbrev p_Book_tell : List Str := ["self", "one", "other"]
theorem sc_Book_tell : FnScope n_Book_tell p_Book_tell (defScope s_Book_tell) := ⟨rfl, rfl, rfl, by decide +kernel, rfl, by decide +kernel, by decide +kernel⟩
theorem nd_Book_tell : n_Book_tell.Nodup := by decide +kernel
abbrev F_Book_tell (K : PySem.W.Frag) (f : Addr) (fd : FuncData) : Prop := FunD K "tell" "Book.tell" (defArgs s_Book_tell) (defBody s_Book_tell) (defScope s_Book_tell) [] [] f fd
/-! fall -/
abbrev s_Book_fall : Stmt := inClass (top 23) 9
abbrev n_Book_fall : List Str := ["self", "tie", "one", "other", "host", "end"]
abbrev p_Book_fall : List Str := ["self", "tie"]
theorem sc_Book_fall : FnScope n_Book_fall p_Book_fall (defScope s_Book_fall) := ⟨rfl, rfl, rfl, by decide +kernel, rfl, by decide +kernel, by decide +kernel⟩
theorem nd_Book_fall : n_Book_fall.Nodup := by decide +kernel
abbrev F_Book_fall (K : PySem.W.Frag) (f : Addr) (fd : FuncData) : Prop := FunD K "fall" "Book.fall" (defArgs s_Book_fall) (defBody s_Book_fall) (defScope s_Book_fall) [] [] f fd
/-! do -/
abbrev s_Book_do : Stmt := inClass (top 23) 10
abbrev n_Book_do : List Str := ["self", "deed"]
abbrev p_Book_do : List Str := ["self", "deed"]
theorem sc_Book_do : FnScope n_Book_do p_Book_do (defScope s_Book_do) := ⟨rfl, rfl, rfl, by decide +kernel, rfl, by decide +kernel, by decide +kernel⟩
theorem nd_Book_do : n_Book_do.Nodup := by decide +kernel
abbrev F_Book_do (K : PySem.W.Frag) (f : Addr) (fd : FuncData) : Prop := FunD K "do" "Book.do" (defArgs s_Book_do) (defBody s_Book_do) (defScope s_Book_do) [] [] f fd
/-! start_of -/
abbrev s_start_of : Stmt := top 24
abbrev n_start_of : List Str := ["net"]
abbrev p_start_of : List Str := ["net"]
theorem sc_start_of : FnScope n_start_of p_start_of (defScope s_start_of) := ⟨rfl, rfl, rfl, by decide +kernel, rfl, by decide +kernel, by decide +kernel⟩
theorem nd_start_of : n_start_of.Nodup := by decide +kernel
abbrev F_start_of (K : PySem.W.Frag) (f : Addr) (fd : FuncData) : Prop := FunD K "start_of" "start_of" (defArgs s_start_of) (defBody s_start_of) (defScope s_start_of) [] [] f fd
/-! tells_in -/
abbrev s_tells_in : Stmt := top 25
abbrev n_tells_in : List Str := ["net", "state", "book", "found", "one", "other"]
abbrev p_tells_in : List Str := ["net", "state"]
theorem sc_tells_in : FnScope n_tells_in p_tells_in (defScope s_tells_in) := ⟨rfl, rfl, rfl, by decide +kernel, rfl, by decide +kernel, by decide +kernel⟩
theorem nd_tells_in : n_tells_in.Nodup := by decide +kernel
abbrev F_tells_in (K : PySem.W.Frag) (f : Addr) (fd : FuncData) : Prop := FunD K "tells_in" "tells_in" (defArgs s_tells_in) (defBody s_tells_in) (defScope s_tells_in) [] [] f fd
/-! able -/
abbrev s_able : Stmt := top 26
abbrev n_able : List Str := ["net", "state", "found", "tie"]
abbrev p_able : List Str := ["net", "state"]
theorem sc_able : FnScope n_able p_able (defScope s_able) := ⟨rfl, rfl, rfl, by decide +kernel, rfl, by decide +kernel, by decide +kernel⟩
theorem nd_able : n_able.Nodup := by decide +kernel
abbrev F_able (K : PySem.W.Frag) (f : Addr) (fd : FuncData) : Prop := FunD K "able" "able" (defArgs s_able) (defBody s_able) (defScope s_able) [] [] f fd
/-! is_deed -/
abbrev s_is_deed : Stmt := top 27
abbrev n_is_deed : List Str := ["net", "state", "thing", "one"]
abbrev p_is_deed : List Str := ["net", "state", "thing"]
theorem sc_is_deed : FnScope n_is_deed p_is_deed (defScope s_is_deed) := ⟨rfl, rfl, rfl, by decide +kernel, rfl, by decide +kernel, by decide +kernel⟩
theorem nd_is_deed : n_is_deed.Nodup := by decide +kernel
abbrev F_is_deed (K : PySem.W.Frag) (f : Addr) (fd : FuncData) : Prop := FunD K "is_deed" "is_deed" (defArgs s_is_deed) (defBody s_is_deed) (defScope s_is_deed) [] [] f fd
/-! done -/
abbrev s_done : Stmt := top 28
abbrev n_done : List Str := ["net", "state", "deed", "book"]
abbrev p_done : List Str := ["net", "state", "deed"]
theorem sc_done : FnScope n_done p_done (defScope s_done) := ⟨rfl, rfl, rfl, by decide +kernel, rfl, by decide +kernel, by decide +kernel⟩
theorem nd_done : n_done.Nodup := by decide +kernel
abbrev F_done (K : PySem.W.Frag) (f : Addr) (fd : FuncData) : Prop := FunD K "done" "done" (defArgs s_done) (defBody s_done) (defScope s_done) [] [] f fd
/-! true_distances -/
abbrev s_true_distances : Stmt := top 29
abbrev n_true_distances : List Str := ["net", "state", "found", "line", "book", "host", "other"]
abbrev p_true_distances : List Str := ["net", "state"]
theorem sc_true_distances : FnScope n_true_distances p_true_distances (defScope s_true_distances) := ⟨rfl, rfl, rfl, by decide +kernel, rfl, by decide +kernel, by decide +kernel⟩
theorem nd_true_distances : n_true_distances.Nodup := by decide +kernel
abbrev F_true_distances (K : PySem.W.Frag) (f : Addr) (fd : FuncData) : Prop := FunD K "true_distances" "true_distances" (defArgs s_true_distances) (defBody s_true_distances) (defScope s_true_distances) [] [] f fd
/-! are_joined -/
abbrev s_are_joined : Stmt := top 30
abbrev n_are_joined : List Str := ["net", "state", "host", "found", "line", "book", "other"]
abbrev p_are_joined : List Str := ["net", "state", "host"]
theorem sc_are_joined : FnScope n_are_joined p_are_joined (defScope s_are_joined) := ⟨rfl, rfl, rfl, by decide +kernel, rfl, by decide +kernel, by decide +kernel⟩
theorem nd_are_joined : n_are_joined.Nodup := by decide +kernel
abbrev F_are_joined (K : PySem.W.Frag) (f : Addr) (fd : FuncData) : Prop := FunD K "are_joined" "are_joined" (defArgs s_are_joined) (defBody s_are_joined) (defScope s_are_joined) [] [] f fd
/-! is_entry -/
abbrev s_is_entry : Stmt := top 31
abbrev n_is_entry : List Str := ["net", "book", "host", "thing"]
abbrev p_is_entry : List Str := ["net", "book", "host"]
theorem sc_is_entry : FnScope n_is_entry p_is_entry (defScope s_is_entry) := ⟨rfl, rfl, rfl, by decide +kernel, rfl, by decide +kernel, by decide +kernel⟩
theorem nd_is_entry : n_is_entry.Nodup := by decide +kernel
abbrev F_is_entry (K : PySem.W.Frag) (f : Addr) (fd : FuncData) : Prop := FunD K "is_entry" "is_entry" (defArgs s_is_entry) (defBody s_is_entry) (defScope s_is_entry) [] [] f fd
/-! is_state -/
abbrev s_is_state : Stmt := top 32
abbrev n_is_state : List Str := ["net", "thing", "tie", "stands", "book", "host"]
abbrev p_is_state : List Str := ["net", "thing"]
theorem sc_is_state : FnScope n_is_state p_is_state (defScope s_is_state) := ⟨rfl, rfl, rfl, by decide +kernel, rfl, by decide +kernel, by decide +kernel⟩
theorem nd_is_state : n_is_state.Nodup := by decide +kernel
abbrev F_is_state (K : PySem.W.Frag) (f : Addr) (fd : FuncData) : Prop := FunD K "is_state" "is_state" (defArgs s_is_state) (defBody s_is_state) (defScope s_is_state) [] [] f fd
/-! check_state -/
abbrev s_check_state : Stmt := top 33
abbrev n_check_state : List Str := ["net", "state"]
abbrev p_check_state : List Str := ["net", "state"]
theorem sc_check_state : FnScope n_check_state p_check_state (defScope s_check_state) := ⟨rfl, rfl, rfl, by decide +kernel, rfl, by decide +kernel, by decide +kernel⟩
theorem nd_check_state : n_check_state.Nodup := by decide +kernel
abbrev F_check_state (K : PySem.W.Frag) (f : Addr) (fd : FuncData) : Prop := FunD K "check_state" "check_state" (defArgs s_check_state) (defBody s_check_state) (defScope s_check_state) [] [] f fd
/-! followed -/
abbrev s_followed : Stmt := top 34
abbrev n_followed : List Str := ["net", "history", "state", "found", "deed"]
abbrev p_followed : List Str := ["net", "history"]
theorem sc_followed : FnScope n_followed p_followed (defScope s_followed) := ⟨rfl, rfl, rfl, by decide +kernel, rfl, by decide +kernel, by decide +kernel⟩
theorem nd_followed : n_followed.Nodup := by decide +kernel
abbrev F_followed (K : PySem.W.Frag) (f : Addr) (fd : FuncData) : Prop := FunD K "followed" "followed" (defArgs s_followed) (defBody s_followed) (defScope s_followed) [] [] f fd
/-! check_weaving -/
abbrev s_check_weaving : Stmt := top 35
abbrev n_check_weaving : List Str := ["net", "history", "found"]
abbrev p_check_weaving : List Str := ["net", "history"]
theorem sc_check_weaving : FnScope n_check_weaving p_check_weaving (defScope s_check_weaving) := ⟨rfl, rfl, rfl, by decide +kernel, rfl, by decide +kernel, by decide +kernel⟩
theorem nd_check_weaving : n_check_weaving.Nodup := by decide +kernel
abbrev F_check_weaving (K : PySem.W.Frag) (f : Addr) (fd : FuncData) : Prop := FunD K "check_weaving" "check_weaving" (defArgs s_check_weaving) (defBody s_check_weaving) (defScope s_check_weaving) [] [] f fd
/-! first_state -/
abbrev s_first_state : Stmt := top 36
abbrev n_first_state : List Str := ["net"]
abbrev p_first_state : List Str := ["net"]
theorem sc_first_state : FnScope n_first_state p_first_state (defScope s_first_state) := ⟨rfl, rfl, rfl, by decide +kernel, rfl, by decide +kernel, by decide +kernel⟩
theorem nd_first_state : n_first_state.Nodup := by decide +kernel
abbrev F_first_state (K : PySem.W.Frag) (f : Addr) (fd : FuncData) : Prop := FunD K "first_state" "first_state" (defArgs s_first_state) (defBody s_first_state) (defScope s_first_state) [] [] f fd
/-! deeds -/
abbrev s_deeds : Stmt := top 37
abbrev n_deeds : List Str := ["net", "state"]
abbrev p_deeds : List Str := ["net", "state"]
theorem sc_deeds : FnScope n_deeds p_deeds (defScope s_deeds) := ⟨rfl, rfl, rfl, by decide +kernel, rfl, by decide +kernel, by decide +kernel⟩
theorem nd_deeds : n_deeds.Nodup := by decide +kernel
abbrev F_deeds (K : PySem.W.Frag) (f : Addr) (fd : FuncData) : Prop := FunD K "deeds" "deeds" (defArgs s_deeds) (defBody s_deeds) (defScope s_deeds) [] [] f fd
/-! after -/
abbrev s_after : Stmt := top 38
abbrev n_after : List Str := ["net", "state", "deed"]
abbrev p_after : List Str := ["net", "state", "deed"]
theorem sc_after : FnScope n_after p_after (defScope s_after) := ⟨rfl, rfl, rfl, by decide +kernel, rfl, by decide +kernel, by decide +kernel⟩
theorem nd_after : n_after.Nodup := by decide +kernel
abbrev F_after (K : PySem.W.Frag) (f : Addr) (fd : FuncData) : Prop := FunD K "after" "after" (defArgs s_after) (defBody s_after) (defScope s_after) [] [] f fd
/-! truly -/
abbrev s_truly : Stmt := top 39
abbrev n_truly : List Str := ["net", "state"]
abbrev p_truly : List Str := ["net", "state"]
theorem sc_truly : FnScope n_truly p_truly (defScope s_truly) := ⟨rfl, rfl, rfl, by decide +kernel, rfl, by decide +kernel, by decide +kernel⟩
theorem nd_truly : n_truly.Nodup := by decide +kernel
abbrev F_truly (K : PySem.W.Frag) (f : Addr) (fd : FuncData) : Prop := FunD K "truly" "truly" (defArgs s_truly) (defBody s_truly) (defScope s_truly) [] [] f fd
/-! woven -/
abbrev s_woven : Stmt := top 40
abbrev n_woven : List Str := ["net", "history"]
abbrev p_woven : List Str := ["net", "history"]
theorem sc_woven : FnScope n_woven p_woven (defScope s_woven) := ⟨rfl, rfl, rfl, by decide +kernel, rfl, by decide +kernel, by decide +kernel⟩
theorem nd_woven : n_woven.Nodup := by decide +kernel
abbrev F_woven (K : PySem.W.Frag) (f : Addr) (fd : FuncData) : Prop := FunD K "woven" "woven" (defArgs s_woven) (defBody s_woven) (defScope s_woven) [] [] f fd
/-! has_ring -/
abbrev s_has_ring : Stmt := top 44
abbrev n_has_ring : List Str := ["state", "host", "here", "turn"]
abbrev p_has_ring : List Str := ["state"]
theorem sc_has_ring : FnScope n_has_ring p_has_ring (defScope s_has_ring) := ⟨rfl, rfl, rfl, by decide +kernel, rfl, by decide +kernel, by decide +kernel⟩
theorem nd_has_ring : n_has_ring.Nodup := by decide +kernel
abbrev F_has_ring (K : PySem.W.Frag) (f : Addr) (fd : FuncData) : Prop := FunD K "has_ring" "has_ring" (defArgs s_has_ring) (defBody s_has_ring) (defScope s_has_ring) [] [] f fd
/-! is_settled -/
abbrev s_is_settled : Stmt := top 45
abbrev n_is_settled : List Str := ["net", "state", "deed"]
abbrev p_is_settled : List Str := ["net", "state"]
theorem sc_is_settled : FnScope n_is_settled p_is_settled (defScope s_is_settled) := ⟨rfl, rfl, rfl, by decide +kernel, rfl, by decide +kernel, by decide +kernel⟩
theorem nd_is_settled : n_is_settled.Nodup := by decide +kernel
abbrev F_is_settled (K : PySem.W.Frag) (f : Addr) (fd : FuncData) : Prop := FunD K "is_settled" "is_settled" (defArgs s_is_settled) (defBody s_is_settled) (defScope s_is_settled) [] [] f fd
/-! is_bad -/
abbrev s_is_bad : Stmt := top 46
abbrev n_is_bad : List Str := ["net", "state", "wish", "entry"]
abbrev p_is_bad : List Str := ["net", "state", "wish"]
theorem sc_is_bad : FnScope n_is_bad p_is_bad (defScope s_is_bad) := ⟨rfl, rfl, rfl, by decide +kernel, rfl, by decide +kernel, by decide +kernel⟩
theorem nd_is_bad : n_is_bad.Nodup := by decide +kernel
abbrev F_is_bad (K : PySem.W.Frag) (f : Addr) (fd : FuncData) : Prop := FunD K "is_bad" "is_bad" (defArgs s_is_bad) (defBody s_is_bad) (defScope s_is_bad) [] [] f fd
/-! is_breach -/
abbrev s_is_breach : Stmt := top 47
abbrev n_is_breach : List Str := ["net", "state", "deed", "wish", "before", "behind"]
abbrev p_is_breach : List Str := ["net", "state", "deed", "wish"]
theorem sc_is_breach : FnScope n_is_breach p_is_breach (defScope s_is_breach) := ⟨rfl, rfl, rfl, by decide +kernel, rfl, by decide +kernel, by decide +kernel⟩
theorem nd_is_breach : n_is_breach.Nodup := by decide +kernel
abbrev F_is_breach (K : PySem.W.Frag) (f : Addr) (fd : FuncData) : Prop := FunD K "is_breach" "is_breach" (defArgs s_is_breach) (defBody s_is_breach) (defScope s_is_breach) [] [] f fd
/-! broken_by -/
abbrev s_broken_by : Stmt := top 48
abbrev n_broken_by : List Str := ["net", "history", "late", "states", "found", "state", "behind", "deed", "wish"]
abbrev p_broken_by : List Str := ["net", "history"]
theorem sc_broken_by : FnScope n_broken_by p_broken_by (defScope s_broken_by) := ⟨rfl, rfl, rfl, by decide +kernel, rfl, by decide +kernel, by decide +kernel⟩
theorem nd_broken_by : n_broken_by.Nodup := by decide +kernel
abbrev F_broken_by (K : PySem.W.Frag) (f : Addr) (fd : FuncData) : Prop := FunD K "broken_by" "broken_by" (defArgs s_broken_by) (defBody s_broken_by) (defScope s_broken_by) [] [] f fd
/-! settled -/
abbrev s_settled : Stmt := top 49
abbrev n_settled : List Str := ["net", "state"]
abbrev p_settled : List Str := ["net", "state"]
theorem sc_settled : FnScope n_settled p_settled (defScope s_settled) := ⟨rfl, rfl, rfl, by decide +kernel, rfl, by decide +kernel, by decide +kernel⟩
theorem nd_settled : n_settled.Nodup := by decide +kernel
abbrev F_settled (K : PySem.W.Frag) (f : Addr) (fd : FuncData) : Prop := FunD K "settled" "settled" (defArgs s_settled) (defBody s_settled) (defScope s_settled) [] [] f fd
/-! _law_number -/
abbrev s_law_number : Stmt := top 51
abbrev n_law_number : List Str := ["script", "index", "cells", "cell", "low", "high", "total", "blend"]
abbrev p_law_number : List Str := ["script", "index"]
theorem sc_law_number : FnScope n_law_number p_law_number (defScope s_law_number) := ⟨rfl, rfl, rfl, by decide +kernel, rfl, by decide +kernel, by decide +kernel⟩
theorem nd_law_number : n_law_number.Nodup := by decide +kernel
abbrev F_law_number (K : PySem.W.Frag) (f : Addr) (fd : FuncData) : Prop := FunD K "_law_number" "_law_number" (defArgs s_law_number) (defBody s_law_number) (defScope s_law_number) [] [] f fd
/-! _law_take -/
abbrev s_law_take : Stmt := top 52
abbrev n_law_take : List Str := ["draw", "many"]
abbrev p_law_take : List Str := ["draw", "many"]
theorem sc_law_take : FnScope n_law_take p_law_take (defScope s_law_take) := ⟨rfl, rfl, rfl, by decide +kernel, rfl, by decide +kernel, by decide +kernel⟩
theorem nd_law_take : n_law_take.Nodup := by decide +kernel
abbrev F_law_take (K : PySem.W.Frag) (f : Addr) (fd : FuncData) : Prop := FunD K "_law_take" "_law_take" (defArgs s_law_take) (defBody s_law_take) (defScope s_law_take) [] [] f fd
/-! _law_pick -/
abbrev s_law_pick : Stmt := top 53
abbrev n_law_pick : List Str := ["draw", "things"]
abbrev p_law_pick : List Str := ["draw", "things"]
theorem sc_law_pick : FnScope n_law_pick p_law_pick (defScope s_law_pick) := ⟨rfl, rfl, rfl, by decide +kernel, rfl, by decide +kernel, by decide +kernel⟩
theorem nd_law_pick : n_law_pick.Nodup := by decide +kernel
abbrev F_law_pick (K : PySem.W.Frag) (f : Addr) (fd : FuncData) : Prop := FunD K "_law_pick" "_law_pick" (defArgs s_law_pick) (defBody s_law_pick) (defScope s_law_pick) [] [] f fd
/-! _law_parts -/
abbrev s_law_parts : Stmt := top 54
abbrev n_law_parts : List Str := ["draw", "most", "hosts", "every", "one", "ties", "loose", "far", "rules", "other", "tie"]
abbrev p_law_parts : List Str := ["draw", "most"]
theorem sc_law_parts : FnScope n_law_parts p_law_parts (defScope s_law_parts) := ⟨rfl, rfl, rfl, by decide +kernel, rfl, by decide +kernel, by decide +kernel⟩
theorem nd_law_parts : n_law_parts.Nodup := by decide +kernel
abbrev F_law_parts (K : PySem.W.Frag) (f : Addr) (fd : FuncData) : Prop := FunD K "_law_parts" "_law_parts" (defArgs s_law_parts) (defBody s_law_parts) (defScope s_law_parts) [] [] f fd
/-! _law_made -/
abbrev s_law_made : Stmt := top 55
abbrev n_law_made : List Str := ["parts"]
abbrev p_law_made : List Str := ["parts"]
theorem sc_law_made : FnScope n_law_made p_law_made (defScope s_law_made) := ⟨rfl, rfl, rfl, by decide +kernel, rfl, by decide +kernel, by decide +kernel⟩
theorem nd_law_made : n_law_made.Nodup := by decide +kernel
abbrev F_law_made (K : PySem.W.Frag) (f : Addr) (fd : FuncData) : Prop := FunD K "_law_made" "_law_made" (defArgs s_law_made) (defBody s_law_made) (defScope s_law_made) [] [] f fd
/-! _law_first -/
abbrev s_law_first : Stmt := top 56
abbrev n_law_first : List Str := ["parts"]
abbrev p_law_first : List Str := ["parts"]
theorem sc_law_first : FnScope n_law_first p_law_first (defScope s_law_first) := ⟨rfl, rfl, rfl, by decide +kernel, rfl, by decide +kernel, by decide +kernel⟩
theorem nd_law_first : n_law_first.Nodup := by decide +kernel
abbrev F_law_first (K : PySem.W.Frag) (f : Addr) (fd : FuncData) : Prop := FunD K "_law_first" "_law_first" (defArgs s_law_first) (defBody s_law_first) (defScope s_law_first) [] [] f fd
/-! _law_near -/
abbrev s_law_near : Stmt := top 57
abbrev n_law_near : List Str := ["parts", "state", "host", "found", "pair", "stands", "one", "other"]
abbrev p_law_near : List Str := ["parts", "state", "host"]
theorem sc_law_near : FnScope n_law_near p_law_near (defScope s_law_near) := ⟨rfl, rfl, rfl, by decide +kernel, rfl, by decide +kernel, by decide +kernel⟩
theorem nd_law_near : n_law_near.Nodup := by decide +kernel
abbrev F_law_near (K : PySem.W.Frag) (f : Addr) (fd : FuncData) : Prop := FunD K "_law_near" "_law_near" (defArgs s_law_near) (defBody s_law_near) (defScope s_law_near) [] [] f fd
/-! _law_entry -/
abbrev s_law_entry : Stmt := top 58
abbrev n_law_entry : List Str := ["state", "host"]
abbrev p_law_entry : List Str := ["state", "host"]
theorem sc_law_entry : FnScope n_law_entry p_law_entry (defScope s_law_entry) := ⟨rfl, rfl, rfl, by decide +kernel, rfl, by decide +kernel, by decide +kernel⟩
theorem nd_law_entry : n_law_entry.Nodup := by decide +kernel
abbrev F_law_entry (K : PySem.W.Frag) (f : Addr) (fd : FuncData) : Prop := FunD K "_law_entry" "_law_entry" (defArgs s_law_entry) (defBody s_law_entry) (defScope s_law_entry) [] [] f fd
/-! _law_lost -/
abbrev s_law_lost : Stmt := top 59
abbrev n_law_lost : List Str := ["parts", "entries", "host", "other"]
abbrev p_law_lost : List Str := ["parts", "entries", "host"]
theorem sc_law_lost : FnScope n_law_lost p_law_lost (defScope s_law_lost) := ⟨rfl, rfl, rfl, by decide +kernel, rfl, by decide +kernel, by decide +kernel⟩
theorem nd_law_lost : n_law_lost.Nodup := by decide +kernel
abbrev F_law_lost (K : PySem.W.Frag) (f : Addr) (fd : FuncData) : Prop := FunD K "_law_lost" "_law_lost" (defArgs s_law_lost) (defBody s_law_lost) (defScope s_law_lost) [] [] f fd
/-! _law_told -/
abbrev s_law_told : Stmt := top 60
abbrev n_law_told : List Str := ["parts", "state", "one", "other", "entries", "mine", "heard", "late", "distance", "by", "stay"]
abbrev p_law_told : List Str := ["parts", "state", "one", "other"]
theorem sc_law_told : FnScope n_law_told p_law_told (defScope s_law_told) := ⟨rfl, rfl, rfl, by decide +kernel, rfl, by decide +kernel, by decide +kernel⟩
theorem nd_law_told : n_law_told.Nodup := by decide +kernel
abbrev F_law_told (K : PySem.W.Frag) (f : Addr) (fd : FuncData) : Prop := FunD K "_law_told" "_law_told" (defArgs s_law_told) (defBody s_law_told) (defScope s_law_told) [] [] f fd
/-! _law_rows -/
abbrev s_law_rows : Stmt := top 61
abbrev n_law_rows : List Str := ["parts", "state", "found", "one", "other", "tie", "entries", "ups", "host", "end"]
abbrev p_law_rows : List Str := ["parts", "state"]
theorem sc_law_rows : FnScope n_law_rows p_law_rows (defScope s_law_rows) := ⟨rfl, rfl, rfl, by decide +kernel, rfl, by decide +kernel, by decide +kernel⟩
theorem nd_law_rows : n_law_rows.Nodup := by decide +kernel
abbrev F_law_rows (K : PySem.W.Frag) (f : Addr) (fd : FuncData) : Prop := FunD K "_law_rows" "_law_rows" (defArgs s_law_rows) (defBody s_law_rows) (defScope s_law_rows) [] [] f fd
/-! _law_truly -/
abbrev s_law_truly : Stmt := top 62
abbrev n_law_truly : List Str := ["parts", "state", "paths", "many", "host", "other"]
abbrev p_law_truly : List Str := ["parts", "state"]
theorem sc_law_truly : FnScope n_law_truly p_law_truly (defScope s_law_truly) := ⟨rfl, rfl, rfl, by decide +kernel, rfl, by decide +kernel, by decide +kernel⟩
theorem nd_law_truly : n_law_truly.Nodup := by decide +kernel
abbrev F_law_truly (K : PySem.W.Frag) (f : Addr) (fd : FuncData) : Prop := FunD K "_law_truly" "_law_truly" (defArgs s_law_truly) (defBody s_law_truly) (defScope s_law_truly) [] [] f fd
/-! _law_breaks -/
abbrev s_law_breaks : Stmt := top 63
abbrev n_law_breaks : List Str := ["parts", "state", "deed", "late", "found", "rows", "before", "behind", "host", "here", "row", "entry"]
abbrev p_law_breaks : List Str := ["parts", "state", "deed", "late"]
theorem sc_law_breaks : FnScope n_law_breaks p_law_breaks (defScope s_law_breaks) := ⟨rfl, rfl, rfl, by decide +kernel, rfl, by decide +kernel, by decide +kernel⟩
theorem nd_law_breaks : n_law_breaks.Nodup := by decide +kernel
abbrev F_law_breaks (K : PySem.W.Frag) (f : Addr) (fd : FuncData) : Prop := FunD K "_law_breaks" "_law_breaks" (defArgs s_law_breaks) (defBody s_law_breaks) (defScope s_law_breaks) [] [] f fd
/-! _law_index -/
abbrev s_law_index : Stmt := top 64
abbrev n_law_index : List Str := ["net", "history", "error"]
abbrev p_law_index : List Str := ["net", "history"]
theorem sc_law_index : FnScope n_law_index p_law_index (defScope s_law_index) := ⟨rfl, rfl, rfl, by decide +kernel, rfl, by decide +kernel, by decide +kernel⟩
theorem nd_law_index : n_law_index.Nodup := by decide +kernel
abbrev F_law_index (K : PySem.W.Frag) (f : Addr) (fd : FuncData) : Prop := FunD K "_law_index" "_law_index" (defArgs s_law_index) (defBody s_law_index) (defScope s_law_index) [] [] f fd
/-! _law_is_barred -/
abbrev s_law_is_barred : Stmt := top 65
abbrev n_law_is_barred : List Str := ["net", "state", "deed"]
abbrev p_law_is_barred : List Str := ["net", "state", "deed"]
theorem sc_law_is_barred : FnScope n_law_is_barred p_law_is_barred (defScope s_law_is_barred) := ⟨rfl, rfl, rfl, by decide +kernel, rfl, by decide +kernel, by decide +kernel⟩
theorem nd_law_is_barred : n_law_is_barred.Nodup := by decide +kernel
abbrev F_law_is_barred (K : PySem.W.Frag) (f : Addr) (fd : FuncData) : Prop := FunD K "_law_is_barred" "_law_is_barred" (defArgs s_law_is_barred) (defBody s_law_is_barred) (defScope s_law_is_barred) [] [] f fd
/-! _law_state_right -/
abbrev s_law_state_right : Stmt := top 66
abbrev n_law_state_right : List Str := ["parts", "net", "state", "rows", "odd", "some", "row", "deed"]
abbrev p_law_state_right : List Str := ["parts", "net", "state"]
theorem sc_law_state_right : FnScope n_law_state_right p_law_state_right (defScope s_law_state_right) := ⟨rfl, rfl, rfl, by decide +kernel, rfl, by decide +kernel, by decide +kernel⟩
theorem nd_law_state_right : n_law_state_right.Nodup := by decide +kernel
abbrev F_law_state_right (K : PySem.W.Frag) (f : Addr) (fd : FuncData) : Prop := FunD K "_law_state_right" "_law_state_right" (defArgs s_law_state_right) (defBody s_law_state_right) (defScope s_law_state_right) [] [] f fd
/-! law -/
abbrev s_law : Stmt := top 67
abbrev n_law : List Str := ["script", "draw", "turn", "parts", "net", "history", "states", "due", "state", "step", "rows", "live", "deed", "late", "at", "odd", "row"]
abbrev p_law : List Str := ["script"]
theorem sc_law : FnScope n_law p_law (defScope s_law) := ⟨rfl, rfl, rfl, by decide +kernel, rfl, by decide +kernel, by decide +kernel⟩
theorem nd_law : n_law.Nodup := by decide +kernel
abbrev F_law (K : PySem.W.Frag) (f : Addr) (fd : FuncData) : Prop := FunD K "law" "law" (defArgs s_law) (defBody s_law) (defScope s_law) [] [] f fd
end HW
/-! The module nets. -/
namespace HW
open PySem PySem.Spec L2
def Fn (K : PySem.W.Frag) (mg : Str → Option Value) (x : Str) (F : Addr → FuncData → Prop) : Prop := ∃ f fd, mg x = some (.ref f) ∧ PySem.W.keepIn K (.ref f) = true ∧ F f fd
def Mt (K : PySem.W.Frag) (C m : Str) (F : Addr → FuncData → Prop) : Prop := ∃ f fd, Meth K (He.ga K C) m f ∧ F f fd
abbrev sD (x : Str) : PyData := .str x
def canTab : List (Str × List PyData) := [("endless", [nD 2, nD 3, nD 4, nD 5]), ("split", [sD "plain", sD "poison", sD "quiet"]), ("cry", [sD "loud", sD "still"]), ("hold", [nD 0, nD 1, nD 2])]
def rulesD : List PyData := [sD "endless", sD "split", sD "cry", sD "hold"]
def wishesD : List PyData := [sD "climb", sD "misled", sD "ring", sD "wrong"]
def byD : List PyData := [sD "climb", sD "misled"]
/-- the constants of the top -/
structure Tab (w : World) (K : PySem.W.Frag) (mg : Str → Option Value) : Prop where
  mh : ∃ t, mg "MOST_HOSTS" = some (.int 4 t)
  mt : ∃ t, mg "MOST_TIES" = some (.int 5 t)
  mw : ∃ t, mg "MOST_WEAK" = some (.int 3 t)
  ru : ∃ a, mg "RULES" = some (.ref a) ∧ ∀ H, Dp K H (.ref a) (.tuple rulesD)
  wi : ∃ a, mg "WISHES" = some (.ref a) ∧ ∀ H, Dp K H (.ref a) (.tuple wishesD)
  bd : ∃ a, mg "BY_DEEDS" = some (.ref a) ∧ ∀ H, Dp K H (.ref a) (.tuple byD)
  cb : ∃ a, mg "CAN_BE" = some (.ref a) ∧ ∀ q ∈ canTab, ∃ v, KDct K w a q.1 v ∧ ∀ H, Dp K H v (.tuple q.2)
section
variable {X : Cx} {S : Sls} {M : Mp} {a b c e : Expr} {pos p : Pos}
theorem ex_gInt {x : Str} {i : Int} (hg : Gl X x) (h : ∃ t, X.mg x = some (.int i t)) (hd : (x == ("__debug__" : Str)) = false := by decide) : EX X (.Name x pos) S M (.d (.int i)) := by
  obtain ⟨t, h⟩ := h
  exact ex_glob hg h (v := .int i) ⟨t, rfl⟩ (fun _ => .int i) hd
theorem ex_gTup {x : Str} {ds : List PyData} (hg : Gl X x) (h : ∃ a, X.mg x = some (.ref a) ∧ ∀ H, Dp X.K H (.ref a) (.tuple ds)) (hd : (x == ("__debug__" : Str)) = false := by decide) : EX X (.Name x pos) S M (.d (.tuple ds)) := by
  obtain ⟨a, h, q⟩ := h
  exact ex_glob hg h (v := .ref a) rfl (fun I => q I) hd
/-- CAN_BE[name] -/
theorem ex_can (Z : Tab X.w X.K X.mg) {q : Str × List PyData} (hq : q ∈ canTab) (hb : EX X b S M (.d (.str q.1))) (hg : Gl X "CAN_BE" := by rfl) (hs : PlainIx b := by exact fun _ _ => rfl) : EX X (.Subscript (.Name "CAN_BE" p) b pos) S M (.d (.tuple q.2)) := fun I H σ t l m Q k => by
  obtain ⟨a, h1, h2⟩ := Z.cb
  obtain ⟨v, h3, h4⟩ := h2 q hq
  refine ej_of (pe_ix ix_kdict pe_ej pe_ej hs) (bin2 (ex_glob (sh := .v (.ref a)) hg h1 (v := .ref a) rfl (fun _ => rfl)) hb t l m fun x y I2 H2 e2 hx hy => ?_)
  exact ⟨a, q.1, v, hx, dp_str hy, h3, k v I2 H2 e2 (h4 I2)⟩
end
section
variable {P : Program} {w : World} {K : PySem.W.Frag} {mg : Str → Option Value} {base : Heap}
/-! is_number -/
def isNum (t : PyData) (lo hi : Int) : Bool := match t with
  | .int i => decide (lo ≤ i) && decide (i ≤ hi)
  | _ => false
def Cis_number (ss : List Sh) (sh : Sh) : Prop := ∃ t lo hi, ss = [.d t, .d (.int lo), .d (.int hi)] ∧ sh = .d (.bool (isNum t lo hi)) ∧ SeqAt.shaped t = true
theorem w_is_number (T : Txt K mg) (Z : Tab w K mg) (h : Fn K mg "is_number" (F_is_number K)) : FnP P w K mg base "is_number" 1 (spP K Cis_number) := by
  obtain ⟨f, fd, h1, h2, F⟩ := h
  refine ⟨f, fd, _, h1, h2, bindsD F ?_, ok_pure (k := 0) F sc_is_number ?_ ?_⟩
  · intro kV doc pm an cdv ct us hu
    match us, hu with
    | [a0, a1, a2], _ => rfl
  · rintro ss sh ⟨t, lo, hi, rfl, rfl, hsh⟩; rfl
  rintro cdv A outer s H E ss sh B hr ⟨t, lo, hi, rfl, rfl, hsh⟩
  refine sx_ret ?_
  cases t with
  | int i => exact ex_andT (ex_isi T (kt "int" rfl (by decide +kernel)) (ex_var 0 rfl rfl) (ex_tyN T boot_int')) (ex_andT (ex_notT (ex_isi T (kt "int" rfl (by decide +kernel)) (ex_var 0 rfl rfl) (ex_tyN T boot_bool'))) (ex_one (ex_ch c_le (fun _ => c_le) (ex_var 1 rfl rfl) (ex_var 0 rfl rfl) (ex_var 2 rfl rfl))))
  | bool i => exact ex_andT (ex_isi T (kt "bool" rfl (by decide +kernel)) (ex_var 0 rfl rfl) (ex_tyN T boot_int')) (ex_andF (ex_notF (ex_isi T (kt "bool" rfl (by decide +kernel)) (ex_var 0 rfl rfl) (ex_tyN T boot_bool'))))
  | none => exact ex_andF (ex_isi T (kt "NoneType" rfl (by decide +kernel)) (ex_var 0 rfl rfl) (ex_tyN T boot_int'))
  | str x => exact ex_andF (ex_isi T (kt "str" rfl (by decide +kernel)) (ex_var 0 rfl rfl) (ex_tyN T boot_int'))
  | list x => exact ex_andF (ex_isi T (kt "list" rfl (by decide +kernel)) (ex_var 0 rfl rfl) (ex_tyN T boot_int'))
  | tuple x => exact ex_andF (ex_isi T (kt "tuple" rfl (by decide +kernel)) (ex_var 0 rfl rfl) (ex_tyN T boot_int'))
  | dict x => cases hsh
theorem isNum_t {i lo hi : Int} (h : lo ≤ i) (h2 : i ≤ hi) : isNum (.int i) lo hi = true := by
  show (decide (lo ≤ i) && decide (i ≤ hi)) = true
  rw [decide_eq_true h, decide_eq_true h2]; rfl
/-! is_tie -/
def Cis_tie (ss : List Sh) (sh : Sh) : Prop := ∃ (n : Nat) (t : Nat × Nat), t.1 < t.2 ∧ t.2 < n ∧ ss = [.d (nD n), .d (pairD t)] ∧ sh = .d (.bool true)
theorem w_is_tie (T : Txt K mg) (Z : Tab w K mg) (h : Fn K mg "is_tie" (F_is_tie K)) (d_is_number : FnP P w K mg base "is_number" 1 (spP K Cis_number)) : FnP P w K mg base "is_tie" 3 (spP K Cis_tie) := by
  obtain ⟨f, fd, h1, h2, F⟩ := h
  refine ⟨f, fd, _, h1, h2, bindsD F ?_, ok_pure (k := 2) F sc_is_tie ?_ ?_⟩
  · intro kV doc pm an cdv ct us hu
    match us, hu with
    | [a0, a1], _ => rfl
  · rintro ss sh ⟨n, t, h3, h4, rfl, rfl⟩; rfl
  rintro cdv A outer s H E ss sh B hr ⟨n, t, h3, h4, rfl, rfl⟩
  refine sx_if (k := false) (tx_w (wx_orF (tx_notF (tx_val (ex_isi T (kt "tuple" rfl (by decide +kernel)) (ex_var 1 rfl rfl) (ex_tyN T boot_tuple')))) (wx_orF (TX.to (tx_c c_neI (ex_lenT T (ex_var 1 rfl rfl)) ex_int) rfl) (wx_or1 (tx_notF (tx_val (ex_call d_is_number hr
    ⟨nD t.1, 0, (n : Int) - 1, rfl, congrArg (fun b => Sh.d (.bool b)) (isNum_t (by omega) (by omega)).symm, rfl⟩ (ax_cons (ex_ixT (ex_var 1 rfl rfl) ex_int rfl) (ax_cons ex_int (ax_cons (ex_sub (ex_var 0 rfl rfl) ex_int) ax_nil)))))))))) (fun h => nomatch h) fun _ => ?_
  refine sx_go ?_
  exact sx_ret (ex_call d_is_number hr ⟨nD t.2, (t.1 : Int) + 1, (n : Int) - 1, rfl, congrArg (fun b => Sh.d (.bool b)) (isNum_t (by omega) (by omega)).symm, rfl⟩ (ax_cons (ex_ixT (ex_var 1 rfl rfl) ex_int rfl) (ax_cons (ex_add (ex_ixT (ex_var 1 rfl rfl) ex_int rfl) ex_int) (ax_cons (ex_sub (ex_var 0 rfl rfl) ex_int) ax_nil))))
/-! is_ascending -/
def LtD (a b : PyData) : Prop := (∃ i j : Int, a = .int i ∧ b = .int j ∧ i < j) ∨ ∃ ns ms : List Int, a = .tuple (ns.map PyData.int) ∧ b = .tuple (ms.map PyData.int) ∧ HT.lexLt ns ms = true
def Cis_ascending (ss : List Sh) (sh : Sh) : Prop := ∃ ds : List PyData, ds.length ≤ 5 ∧ (∀ z ∈ ds.zip (ds.drop 1), LtD z.1 z.2) ∧ ss = [.d (.tuple ds)] ∧ sh = .d (.bool true)
theorem w_is_ascending (T : Txt K mg) (Z : Tab w K mg) (h : Fn K mg "is_ascending" (F_is_ascending K)) : FnP P w K mg base "is_ascending" 1 (spP K Cis_ascending) := by
  obtain ⟨f, fd, h1, h2, F⟩ := h
  refine ⟨f, fd, _, h1, h2, bindsD F ?_, ok_pure (k := 0) F sc_is_ascending ?_ ?_⟩
  · intro kV doc pm an cdv ct us hu
    match us, hu with
    | [a0], _ => rfl
  · rintro ss sh ⟨ds, h3, h4, rfl, rfl⟩; rfl
  rintro cdv A outer s H E ss sh B hr ⟨ds, h3, h4, rfl, rfl⟩
  have e0 : zip2D ds (cutD ds (some 1) none) = (ds.zip (ds.drop 1)).map fun z => PyData.tuple [z.1, z.2] := by
    have q := zip2D_map id id ds (ds.drop 1)
    rw [List.map_id, List.map_id] at q
    rw [show cutD ds (some 1) none = ds.drop 1 from cutD_from ds 1]
    exact q
  refine sx_ret (EX.to (ex_allB T (p' := fun _ => true) rfl (ex_lc0 (ds.zip (ds.drop 1)) (fun z => PyData.tuple [z.1, z.2]) _ _ rfl nd_is_ascending (IX.to (ix_zip2 T rfl rfl (ex_var 0 rfl rfl) (ex_slA (ex_var 0 rfl rfl) (ox_some ex_int) ox_none)) e0) (show BlkOk n_is_ascending (defScope s_is_ascending) _ [("one", 1), ("other", 2)] from ⟨rfl, by decide +kernel, by decide +kernel, by decide +kernel, by decide +kernel⟩) ?_ ?_ (fun s H C cl fp z => gx_pair 1 2 rfl nd_is_ascending rfl rfl) ?_)) ?_)
  · rw [List.length_zip]; omega
  · decide
  · intro s H C cl fp z hz
    rcases h4 z hz with ⟨i, j, e1, e2, e3⟩ | ⟨i, j, e1, e2, e3⟩
    · rw [e1, e2]
      exact EX.to (ex_c c_lt (ex_var 1 rfl rfl) (ex_var 2 rfl rfl)) (by rw [decide_eq_true e3])
    · rw [e1, e2]
      exact EX.to (ex_c (c_ltT hr.units0) (ex_var 1 rfl rfl) (ex_var 2 rfl rfl)) (by rw [e3])
  · rw [List.all_eq_true.mpr fun _ _ => rfl]
/-! are_ties -/
def lt2 (a b : Nat × Nat) : Prop := a.1 < b.1 ∨ a.1 = b.1 ∧ a.2 < b.2
structure TiesOk (n : Nat) (ts : List (Nat × Nat)) : Prop where
  lo : 1 ≤ ts.length
  hi : ts.length ≤ 5
  ok : ∀ t ∈ ts, t.1 < t.2 ∧ t.2 < n
  asc : ∀ z ∈ ts.zip (ts.drop 1), lt2 z.1 z.2
theorem lex2 {a b c d : Nat} (h : lt2 (a, b) (c, d)) : HT.lexLt [(a : Int), (b : Int)] [(c : Int), (d : Int)] = true := by
  unfold lt2 at h
  simp only at h
  rcases h with h | ⟨h, h'⟩
  · rw [HT.lexLt_cons, if_neg (by omega), decide_eq_true (by omega)]
  · subst h
    rw [HT.lexLt_cons, if_pos rfl, HT.lexLt_cons, if_neg (by omega), decide_eq_true (by omega)]
theorem zip_drop {α β : Type} (f : α → β) (xs : List α) : (xs.map f).zip ((xs.map f).drop 1) = (xs.zip (xs.drop 1)).map fun z => (f z.1, f z.2) := by
  rw [← List.map_drop, List.zip_map]
  rfl
def Care_ties (ss : List Sh) (sh : Sh) : Prop := ∃ (n : Nat) (ts : List (Nat × Nat)), TiesOk n ts ∧ ss = [.d (nD n), .d (.tuple (ts.map pairD))] ∧ sh = .d (.bool true)
theorem w_are_ties (T : Txt K mg) (Z : Tab w K mg) (h : Fn K mg "are_ties" (F_are_ties K)) (d_is_tie : FnP P w K mg base "is_tie" 3 (spP K Cis_tie)) (d_is_ascending : FnP P w K mg base "is_ascending" 1 (spP K Cis_ascending)) : FnP P w K mg base "are_ties" 5 (spP K Care_ties) := by
  obtain ⟨f, fd, h1, h2, F⟩ := h
  refine ⟨f, fd, _, h1, h2, bindsD F ?_, ok_pure (k := 4) F sc_are_ties ?_ ?_⟩
  · intro kV doc pm an cdv ct us hu
    match us, hu with
    | [a0, a1], _ => rfl
  · rintro ss sh ⟨n, ts, ok, rfl, rfl⟩; rfl
  rintro cdv A outer s H E ss sh B hr ⟨n, ts, ok, rfl, rfl⟩
  have hl : (ts.map pairD).length = ts.length := List.length_map _
  have h1 := ok.lo
  have h2 := ok.hi
  refine sx_if (k := false) (tx_w (wx_orF (tx_notF (tx_val (ex_isi T (kt "tuple" rfl (by decide +kernel)) (ex_var 1 rfl rfl) (ex_tyN T boot_tuple')))) (wx_or1 (tx_notF (TX.to (tx_ch c_le (fun _ => c_le) ex_int (ex_lenT T (ex_var 1 rfl rfl)) (ex_gInt rfl Z.mt)) ?_))))) (fun h => nomatch h) fun _ => ?_
  · simp only [Bool.and_eq_true, decide_eq_true_eq, hl]; omega
  refine sx_go (sx_ret (ex_andT (EX.to (ex_allB T (p' := fun _ => true) rfl (ex_lc0 ts pairD _ _ rfl nd_are_ties (ix_tup (ex_var 1 rfl rfl)) (show BlkOk n_are_ties (defScope s_are_ties) _ [("tie", 2)] from ⟨rfl, by decide +kernel, by decide +kernel, by decide +kernel, by decide +kernel⟩) (by omega) ?_ (fun s H C cl fp z => gx_name 2 nd_are_ties rfl) ?_)) ?_) (ex_one (ex_call d_is_ascending hr ⟨ts.map pairD, by omega, ?_, rfl, rfl⟩ (ax_cons (ex_var 1 rfl rfl) ax_nil)))))
  · decide
  · intro s H C cl fp z hz
    exact ex_call d_is_tie hr ⟨n, z, (ok.ok z hz).1, (ok.ok z hz).2, rfl, rfl⟩ (ax_cons (ex_var 0 rfl rfl) (ax_cons (ex_var 2 rfl rfl) ax_nil))
  · rw [List.all_eq_true.mpr fun _ _ => rfl]
  · intro z hz
    rw [zip_drop] at hz
    obtain ⟨y, hy, rfl⟩ := List.mem_map.mp hz
    exact .inr ⟨[(y.1.1 : Int), (y.1.2 : Int)], [(y.2.1 : Int), (y.2.2 : Int)], rfl, rfl, lex2 (ok.asc y hy)⟩
/-! are_weak -/
structure WeakOk (m : Nat) (ws : List Nat) : Prop where
  hi : ws.length ≤ 3
  ok : ∀ t ∈ ws, t < m
  asc : ∀ z ∈ ws.zip (ws.drop 1), z.1 < z.2
def Care_weak (ss : List Sh) (sh : Sh) : Prop := ∃ (m : Nat) (ws : List Nat), WeakOk m ws ∧ ss = [.d (nD m), .d (.tuple (ws.map nD))] ∧ sh = .d (.bool true)
theorem w_are_weak (T : Txt K mg) (Z : Tab w K mg) (h : Fn K mg "are_weak" (F_are_weak K)) (d_is_number : FnP P w K mg base "is_number" 1 (spP K Cis_number)) (d_is_ascending : FnP P w K mg base "is_ascending" 1 (spP K Cis_ascending)) : FnP P w K mg base "are_weak" 3 (spP K Care_weak) := by
  obtain ⟨f, fd, h1, h2, F⟩ := h
  refine ⟨f, fd, _, h1, h2, bindsD F ?_, ok_pure (k := 2) F sc_are_weak ?_ ?_⟩
  · intro kV doc pm an cdv ct us hu
    match us, hu with
    | [a0, a1], _ => rfl
  · rintro ss sh ⟨m, ws, ok, rfl, rfl⟩; rfl
  rintro cdv A outer s H E ss sh B hr ⟨m, ws, ok, rfl, rfl⟩
  have hl : (ws.map nD).length = ws.length := List.length_map _
  have h2 := ok.hi
  refine sx_if (k := false) (tx_w (wx_orF (tx_notF (tx_val (ex_isi T (kt "tuple" rfl (by decide +kernel)) (ex_var 1 rfl rfl) (ex_tyN T boot_tuple')))) (wx_or1 (TX.to (tx_c c_gt (ex_lenT T (ex_var 1 rfl rfl)) (ex_gInt rfl Z.mw)) ?_)))) (fun h => nomatch h) fun _ => ?_
  · rw [decide_eq_false]; rw [hl]; omega
  refine sx_go (sx_ret (ex_andT (EX.to (ex_allB T (p' := fun _ => true) rfl (ex_lc0 ws nD _ _ rfl nd_are_weak (ix_tup (ex_var 1 rfl rfl)) (show BlkOk n_are_weak (defScope s_are_weak) _ [("tie", 2)] from ⟨rfl, by decide +kernel, by decide +kernel, by decide +kernel, by decide +kernel⟩) (by omega) ?_ (fun s H C cl fp z => gx_name 2 nd_are_weak rfl) ?_)) ?_) (ex_one (ex_call d_is_ascending hr ⟨ws.map nD, by omega, ?_, rfl, rfl⟩ (ax_cons (ex_var 1 rfl rfl) ax_nil)))))
  · decide
  · intro s H C cl fp z hz
    have := ok.ok z hz
    exact ex_call d_is_number hr ⟨nD z, 0, (m : Int) - 1, rfl, congrArg (fun b => Sh.d (.bool b)) (isNum_t (by omega) (by omega)).symm, rfl⟩ (ax_cons (ex_var 2 rfl rfl) (ax_cons ex_int (ax_cons (ex_sub (ex_var 0 rfl rfl) ex_int) ax_nil)))
  · rw [List.all_eq_true.mpr fun _ _ => rfl]
  · intro z hz
    rw [zip_drop] at hz
    obtain ⟨y, hy, rfl⟩ := List.mem_map.mp hz
    have := ok.asc y hy
    exact .inl ⟨(y.1 : Int), (y.2 : Int), rfl, rfl, by omega⟩
/-! is_rule -/
def Cis_rule (ss : List Sh) (sh : Sh) : Prop := ∃ (q : Str × List PyData) (d : PyData), q ∈ canTab ∧ d ∈ q.2 ∧ ss = [.d (.str q.1), .d d] ∧ sh = .d (.bool true)
theorem can_kind : ∀ q ∈ canTab, (∃ ks : List Int, q.2 = ks.map PyData.int ∧ ∀ k ∈ ks, 0 ≤ k ∧ k ≤ 9) ∨ ∃ ks : List Str, q.2 = ks.map PyData.str := by
  intro q hq
  simp only [canTab, List.mem_cons, List.not_mem_nil, or_false] at hq
  rcases hq with rfl | rfl | rfl | rfl
  · exact .inl ⟨[2, 3, 4, 5], rfl, by decide⟩
  · exact .inr ⟨["plain", "poison", "quiet"], rfl⟩
  · exact .inr ⟨["loud", "still"], rfl⟩
  · exact .inl ⟨[0, 1, 2], rfl, by decide⟩
theorem w_is_rule (T : Txt K mg) (Z : Tab w K mg) (h : Fn K mg "is_rule" (F_is_rule K)) (d_is_number : FnP P w K mg base "is_number" 1 (spP K Cis_number)) : FnP P w K mg base "is_rule" 3 (spP K Cis_rule) := by
  obtain ⟨f, fd, h1, h2, F⟩ := h
  refine ⟨f, fd, _, h1, h2, bindsD F ?_, ok_pure (k := 2) F sc_is_rule ?_ ?_⟩
  · intro kV doc pm an cdv ct us hu
    match us, hu with
    | [a0, a1], _ => rfl
  · rintro ss sh ⟨q, d, hq, hd, rfl, rfl⟩; rfl
  rintro cdv A outer s H E ss sh B hr ⟨q, d, hq, hd, rfl, rfl⟩
  obtain ⟨x, es⟩ := q
  rcases can_kind _ hq with ⟨ks, e, hk⟩ | ⟨ks, e⟩
  · simp only at e
    subst e
    obtain ⟨k, hk2, rfl⟩ := List.mem_map.mp hd
    refine sx_if (k := false) (tx_val (ex_isi T (kt "int" rfl (by decide +kernel)) (ex_var 1 rfl rfl) (ex_tyN T boot_str'))) (fun h => nomatch h) fun _ => ?_
    refine sx_go (sx_ret (ex_andT (ex_call d_is_number hr ⟨.int k, 0, 9, rfl, congrArg (fun b => Sh.d (.bool b)) (isNum_t (hk k hk2).1 (hk k hk2).2).symm, rfl⟩ (ax_cons (ex_var 1 rfl rfl) (ax_cons ex_int (ax_cons ex_int ax_nil)))) (ex_one (EX.to (ex_c c_inTI (ex_var 1 rfl rfl) (ex_can Z hq (ex_var 0 rfl rfl))) ?_))))
    rw [List.any_eq_true.mpr ⟨k, hk2, by simp⟩]
  · simp only at e
    subst e
    obtain ⟨k, hk2, rfl⟩ := List.mem_map.mp hd
    refine sx_if (k := true) (tx_val (ex_isi T (kt "str" rfl (by decide +kernel)) (ex_var 1 rfl rfl) (ex_tyN T boot_str'))) (fun _ => ?_) (fun h => nomatch h)
    refine sx_ret (EX.to (ex_c c_inTS (ex_var 1 rfl rfl) (ex_can Z hq (ex_var 0 rfl rfl))) ?_)
    rw [List.any_eq_true.mpr ⟨k, hk2, by simp⟩]
/-! check_net -/
def Ccheck_net (ss : List Sh) (sh : Sh) : Prop := ∃ p : NetP, ss = [.net p] ∧ sh = .d .none
theorem w_check_net (T : Txt K mg) (Z : Tab w K mg) (h : Fn K mg "check_net" (F_check_net K)) : FnP P w K mg base "check_net" 1 (spP K Ccheck_net) := by
  obtain ⟨f, fd, h1, h2, F⟩ := h
  refine ⟨f, fd, _, h1, h2, bindsD F ?_, ok_pure (k := 0) F sc_check_net ?_ ?_⟩
  · intro kV doc pm an cdv ct us hu
    match us, hu with
    | [a0], _ => rfl
  · rintro ss sh ⟨p, rfl, rfl⟩; rfl
  rintro cdv A outer s H E ss sh B hr ⟨p, rfl, rfl⟩
  refine sx_if (k := false) (tx_notF (tx_val (ex_isNet T (ex_var 0 rfl rfl)))) (fun h => nomatch h) fun _ => ?_
  exact sx_go sx_end
end
end HW
/-! Nets and books are made. -/
namespace HW
open PySem PySem.Spec L2
/-- a class that is made -/
def MkD (K : PySem.W.Frag) (C : Str) (F : Addr → FuncData → Prop) : Prop := ∃ f fd, Mk K (He.ga K C) f ∧ F f fd
structure MkP (P : Program) (w : World) (K : PySem.W.Frag) (mg : Str → Option Value) (base : Heap) (C : Str) (k : Nat) (sp : Sp) : Prop where
  ex : ∃ (f : Addr) (fd : FuncData) (ps : List Str), Mk K (He.ga K C) f ∧ L2.Binds K fd ps [] ∧ FnOk P w K mg base CX0 k f fd ps sp
/-! ### states -/
structure Ent where
  d : Nat
  b : Option Nat
  h : Nat
deriving DecidableEq
structure Sta where
  es : List Ent
  ss : List Bool
deriving DecidableEq
abbrev optD : Option Nat → PyData
  | none => .none
  | some k => nD k
abbrev entD (e : Ent) : PyData := .tuple [nD e.d, optD e.b, nD e.h]
abbrev bD (b : Bool) : PyData := .bool b
abbrev staD (s : Sta) : PyData := .tuple [.tuple (s.es.map entD), .tuple (s.ss.map bD)]
def z0 : Ent := ⟨0, none, 0⟩
section
variable {P : Program} {w : World} {K : PySem.W.Frag} {mg : Str → Option Value} {base : Heap}
/-! Net.__len__ -/
theorem ex_listRg {X : Cx} {S : Sls} {M : Mp} {a : Expr} {p pos p2 pos2 : Pos} (T : Txt X.K X.mg) (hc : X.calm = true) {n : Nat} (hn : n ≤ 100000) (ha : EX X a S M (.d (nD n))) (hg : Gl X "list" := by rfl) (hg2 : Gl X "range" := by rfl)
    (na : starEach [a] X.env = (false, eval a X.env) :: starEach [] X.env := by rfl) (na2 : starEach [.Call (.Name "range" p2) [a] [] pos2] X.env = (false, eval (.Call (.Name "range" p2) [a] [] pos2) X.env) :: starEach [] X.env := by rfl) :
    EX X (.Call (.Name "list" p) [.Call (.Name "range" p2) [a] [] pos2] [] pos) S M (.nl (rngD 0 n)) := fun I H σ t l m Q k =>
  ej_of (pe_listRg hc hg (T.free _ (by decide +kernel)) (prg_1 hg2 (T.free _ (by decide +kernel)) pe_ej na) na2) (ha I H σ t l m _ fun v I2 H2 e2 hv => ⟨n, dp_int hv, RgOk.of_le (by omega) (by omega) (by omega) (by omega), fun q hq => k _ _ _ (e2.trans (Ext.new e2.t hq _)) ⟨q, _, rfl, upd_same, by
    have e : rgV 0 (n : Int) = ((List.range n).map fun i => ((0 : Int) + (i : Nat))).map V.int := by
      unfold rgV
      rw [show ((n : Int) - 0).toNat = n from by omega, List.map_map]
      rfl
    have e' : rngD 0 n = ((List.range n).map fun i => ((0 : Int) + (i : Nat))).map PyData.int := by
      unfold rngD
      rw [List.map_map]
      refine List.map_congr_left fun i _ => ?_
      show nD (0 + i) = PyData.int ((0 : Int) + (i : Int))
      rw [Nat.zero_add, Int.zero_add]
    rw [e, e']
    exact dpAll_of_ints _⟩⟩)
theorem w_Net_len (T : Txt K mg) (Z : Tab w K mg) (h : Mt K "Net" "__len__" (F_Net_len K)) : MtP P w K mg base "Net" "__len__" 1 (spP K CNet_len) := by
  obtain ⟨f, fd, h1, F⟩ := h
  refine ⟨f, fd, _, h1, bindsD F ?_, ok_pure (k := 0) F sc_Net_len ?_ ?_⟩
  · intro kV doc pm an cdv ct us hu
    match us, hu with
    | [a0], _ => rfl
  · rintro ss sh ⟨p, hn, rfl, rfl⟩; rfl
  rintro cdv A outer s H E ss sh B hr ⟨p, hn, rfl, rfl⟩
  have e : (rngD 0 p.n).length = p.n := by unfold rngD; simp
  refine sx_ret (EX.to (ex_lenL T (ex_d (ex_listRg T rfl (by omega) (ex_hosts T (ex_var 0 rfl rfl))))) ?_)
  rw [e]
/-! Book.__init__ -/
def bookS (p : NetP) (e s : Addr) : List (Str × Sh) := [("net", .net p), ("entries", .v (.ref e)), ("stands", .v (.ref s))]
def CBook_init (ss : List Sh) (R : List (Str × Sh) → Mp → Prop) : Prop := ∃ (p : NetP) (es sts : List PyData), es.length ≤ 1000 ∧ sts.length ≤ 1000 ∧ ss = [.net p, .d (.tuple [.tuple es, .tuple sts])] ∧
  R = fun fs M' => ∃ e s, e ≠ s ∧ fs = bookS p e s ∧ M' = mset (mset M0 e (.lst (.d (entD z0) :: es.map Sh.d))) s (.lst (sts.map Sh.d))
theorem mset_comm {M : Mp} {p q : Addr} {o u : MO} (h : p ≠ q) : mset (mset M p o) q u = mset (mset M q u) p o := by
  funext a; unfold mset
  by_cases h1 : a = q
  · subst h1; rw [if_pos rfl, if_neg (fun e => h e.symm), if_pos rfl]
  · rw [if_neg h1, if_neg h1]
theorem w_Book_init (T : Txt K mg) (Z : Tab w K mg) (h : MkD K "Book" (F_Book_init K)) : MkP P w K mg base "Book" 1 (spI K "Book" CBook_init) := by
  obtain ⟨f, fd, h1, F⟩ := h
  refine ⟨f, fd, _, h1, bindsD F ?_, ok_init (k := 0) F sc_Book_init ?_ ?_⟩
  · intro kV doc pm an cdv ct us hu
    match us, hu with
    | [a0, a1, a2], _ => rfl
  · rintro ss R ⟨p, es, sts, hz1, hz2, rfl, rfl⟩; rfl
  rintro cdv A outer s H E ss R x dx B hr ⟨p, es, sts, hz1, hz2, rfl, rfl⟩ hBH
  refine sx_fld (C := He.ga K "Book") (dx := dx) (q := x) (fs := []) T.cBook (T.aBook _ (by decide +kernel)) mset_same (ex_var 1 rfl rfl) (ex_var 0 rfl rfl) ?_
  rw [mset_mset]
  refine sx_fldL (C := He.ga K "Book") (dx := dx) (q := x) (fs := _) T.cBook (T.aBook _ (by decide +kernel)) mset_same (exl_lst (ax_cons (ex_tupD (ad_cons ex_int (ad_cons ex_non (ad_cons ex_int ad_nil)))) (ax_starT (ex_ixT (ex_var 2 rfl rfl) ex_int rfl) ax_nil)) ?_) (fun _ => (ex_var 0 rfl rfl)) fun l hl => ?_
  · simp; omega
  have hlx : l ≠ x := fun e => by rw [e, mset_same] at hl; cases hl
  rw [mset_comm (fun e => hlx e.symm), mset_mset]
  refine sx_fldL (C := He.ga K "Book") (dx := dx) (q := x) (fs := _) T.cBook (T.aBook _ (by decide +kernel)) mset_same (exl_list T rfl (ex_ixT (ex_var 2 rfl rfl) ex_int rfl)) (fun _ => (ex_var 0 rfl rfl)) fun l2 hl2 => ?_
  have hlx2 : l2 ≠ x := fun e => by rw [e, mset_same] at hl2; cases hl2
  have hll : l ≠ l2 := fun e => by rw [← e, mset_ne hlx, mset_same] at hl2; cases hl2
  refine sx_nil fun I H σ s => ?_
  refine ⟨I, bookS p l l2, mset (mset M0 l (.lst (.d (entD z0) :: es.map Sh.d))) l2 (.lst (sts.map Sh.d)), ⟨l, l2, hll, rfl, rfl⟩, s.x, ?_, ?_, ?_⟩
  · refine s.m.sub fun q o h => ?_
    by_cases e1 : q = x
    · subst e1; rw [mset_same] at h ⊢; exact h
    · rw [mset_ne e1] at h ⊢
      by_cases e2 : q = l2
      · subst e2; rw [mset_same] at h ⊢; exact h
      · rw [mset_ne e2] at h ⊢
        rw [mset_ne e1]
        by_cases e3 : q = l
        · subst e3; rw [mset_same] at h ⊢; rw [List.append_nil]; exact h
        · rw [mset_ne e3] at h; cases h
  · intro q o h
    by_cases e2 : q = l2
    · subst e2; exact hBH _ (s.fr q _ (show mset _ _ _ _ = some (.lst (sts.map Sh.d)) by rw [mset_ne hlx2, mset_same])) hlx2
    · rw [mset_ne e2] at h
      by_cases e3 : q = l
      · subst e3
        exact hBH _ (s.fr q (MO.lst (Sh.d (entD z0) :: (es.map Sh.d ++ []))) (by rw [mset_ne hlx, mset_ne e2, mset_ne hlx, mset_same]; rfl)) hlx
      · rw [mset_ne e3] at h; cases h
  · rw [mset_ne (fun e => hlx2 e.symm), mset_ne (fun e => hlx e.symm)]; rfl
/-- Book(net, state) -/
theorem ej_mkBook {X : Cx} {S : Sls} {M : Mp} {a b : Expr} {p pos : Pos} {k j : Nat} {n : NetP} {es sts : List PyData} {B : Bs} (T : Txt X.K X.mg) (F : MkP X.prog X.w X.K X.mg X.base "Book" j (spI X.K "Book" CBook_init)) (hr : Room k X.A) (hz1 : es.length ≤ 1000) (hz2 : sts.length ≤ 1000)
    (ha : AX X [a, b] S M [.net n, .d (.tuple [.tuple es, .tuple sts])]) {I H : Hp} {σ : L2.St} (s : Stt X.K B I H M σ S) {Q : VK}
    (q : ∀ x e z I2 H2, e ≠ z → M e = none → M z = none → Stt X.K B I2 H2 (mset (mset M e (.lst (.d (entD z0) :: es.map Sh.d))) z (.lst (sts.map Sh.d))) σ S → Same I I2 → (Sh.bk n e z).ok X.K I2 (.ref x) → Q (.ref x) H2) (hj : j + 1 ≤ k := by decide) (hg : Gl X "Book" := by rfl)
    (he : starEach (a :: [b]) X.env = (false, eval a X.env) :: starEach [b] X.env := by rfl) (hpl : (backTo pos (starEach [b] X.env)).any (·.1) = false := by rfl) : EJ X (.Call (.Name "Book" p) [a, b] [] pos) σ H Q := by
  obtain ⟨f, fd, ps, h1, h2, h3⟩ := F.ex
  refine ej_of (pe_make h1 h3 (hr.mono hj) hg T.gBook h2 .nil pass0 pa_aj (he := he) (hpl := hpl)) (ha I H σ s.x.t s.l s.m _ fun vs I2 H2 e2 hvs => ?_)
  have s2 := s.ext e2
  intro x dx hx hdx hne
  rw [List.append_nil]
  have hI2 : I2 x = none := e2.t.free hx
  have hup : Same H2 (upd (upd H2 dx (.own x)) x (.ins (He.ga X.K "Book") dx [])) := (same_new hdx _).trans (same_new (by rw [upd_ne (fun e => hne e.symm)]; exact hx) _)
  refine ⟨I2, x, dx, vs, _, _, rfl, e2.t.trans hup, hI2, upd_same, hvs, ⟨n, es, sts, hz1, hz2, rfl, rfl⟩, ?_⟩
  rintro I3 H3 fs M' ⟨e, z, hez, rfl, rfl⟩ e3 m3 h4 h5
  refine ⟨rfl, ?_⟩
  have hh : Same H2 (hide (mset M0 x (.ins (He.ga X.K "Book") dx [])) (upd (upd H2 dx (.own x)) x (.ins (He.ga X.K "Book") dx []))) := fun a u y => by
    have hax : a ≠ x := fun e => by rw [e, hx] at y; cases y
    rw [hide_none (by rw [mset_ne hax]; rfl)]
    exact hup a u y
  have e4 : Ext I2 H2 I3 H3 := ⟨e3.i, e3.t, hh.trans e3.h, fun a o y1 y2 => e3.f a o (hh a o y1) y2⟩
  have s3 := s2.ext e4
  have hxe : x ≠ e := fun y => by rw [y, mset_ne hez, mset_same] at h5; cases h5
  have hxz : x ≠ z := fun y => by rw [y, mset_same] at h5; cases h5
  have he2 : H2 e = none := by
    have y := h4 e (.lst (.d (entD z0) :: es.map Sh.d)) (by rw [mset_ne hez, mset_same])
    cases y2 : H2 e with
    | none => rfl
    | some o => rw [hup e o y2] at y; cases y
  have hz2' : H2 z = none := by
    have y := h4 z (.lst (sts.map Sh.d)) mset_same
    cases y2 : H2 z with
    | none => rfl
    | some o => rw [hup z o y2] at y; cases y
  obtain ⟨q1, q2⟩ := m3 e (.lst (.d (entD z0) :: es.map Sh.d)) (by rw [mset_ne hxe.symm, mset_ne hez, mset_same])
  obtain ⟨q3, q4⟩ := m3 z (.lst (sts.map Sh.d)) (by rw [mset_ne hxz.symm, mset_same])
  obtain ⟨q5, gs, q6, q7⟩ := m3 x (.ins (He.ga X.K "Book") dx (bookS n e z)) mset_same
  match gs, q6, q7 with
  | [(g1, v1), (g2, v2), (g3, v3)], q6, ⟨r1, r2, r3, r4, r5, r6, _⟩ =>
    have r1 : g1 = "net" := r1
    have r3 : g2 = "entries" := r3
    have r5 : g3 = "stands" := r5
    have r4 : v2 = .ref e := r4
    have r6 : v3 = .ref z := r6
    subst r1 r3 r5 r4 r6
    have s4 := (s3.more (mo := .lst (.d (entD z0) :: es.map Sh.d)) (s2.x.h.free he2) q1 q2).more (mo := .lst (sts.map Sh.d)) (s2.x.h.free hz2') q3 q4
    have hMx : M x = none := fresh_M s2.m hx
    have s5 := (s4.fix (s2.x.h.free hx) q5 q6).subM (M' := mset (mset M e (.lst (.d (entD z0) :: es.map Sh.d))) z (.lst (sts.map Sh.d))) fun a o y => by
      rw [mdel_ne (fun w => by rw [w, mset_ne hxz, mset_ne hxe, hMx] at y; cases y)]
      exact y
    refine q x e z _ H3 hez (fresh_M s2.m he2) (fresh_M s2.m hz2') s5 ((e2.i.trans e3.i).trans (same_new q5 _)) ⟨x, dx, v1, rfl, upd_same, NetOk.mono (same_new q5 _) r2⟩
/-- a book that is not changed -/
theorem ex_mkBook {X : Cx} {S : Sls} {M : Mp} {a b : Expr} {p pos : Pos} {k j : Nat} {n : NetP} {es sts : List PyData} (T : Txt X.K X.mg) (F : MkP X.prog X.w X.K X.mg X.base "Book" j (spI X.K "Book" CBook_init)) (hr : Room k X.A) (hz1 : es.length ≤ 1000) (hz2 : sts.length ≤ 1000)
    (ha : AX X [a, b] S M0 [.net n, .d (.tuple [.tuple es, .tuple sts])]) (hj : j + 1 ≤ k := by decide) (hg : Gl X "Book" := by rfl)
    (he : starEach (a :: [b]) X.env = (false, eval a X.env) :: starEach [b] X.env := by rfl) (hpl : (backTo pos (starEach [b] X.env)).any (·.1) = false := by rfl) : EX X (.Call (.Name "Book" p) [a, b] [] pos) S M (.book n (.list (entD z0 :: es)) (.list sts)) := fun I H σ t l m Q q => by
  refine ej_mkBook T F hr hz1 hz2 ha (B := ⟨I, H, I⟩) ⟨Ext.refl t, Same.refl I, l, MOk.none, fun _ _ y => nomatch y⟩ (fun x e z I2 H2 hez _ _ s2 sm hb => ?_) hj hg he hpl
  obtain ⟨vs, s3, d3⟩ := s2.freeze (p := e) (ds := entD z0 :: es) (by rw [mset_ne hez, mset_same]; rfl)
  obtain ⟨ws, s4, d4⟩ := s3.freeze (p := z) (ds := sts) (by rw [mdel_ne hez.symm, mset_same])
  obtain ⟨n1, _⟩ := s3.m z _ (show mdel _ e z = some (.lst (sts.map Sh.d)) by rw [mdel_ne hez.symm, mset_same])
  obtain ⟨n2, _⟩ := s2.m e (.lst (.d (entD z0) :: es.map Sh.d)) (by rw [mset_ne hez, mset_same])
  obtain ⟨y, dx, vn, hy, g1, g2⟩ := hb
  cases hy
  refine q _ _ H2 s4.x ⟨x, dx, vn, .ref e, .ref z, rfl, ?_, ?_, ?_, ?_⟩
  · exact (same_new n1 _) _ _ ((same_new n2 _) _ _ g1)
  · exact NetOk.mono ((same_new n2 _).trans (same_new n1 _)) g2
  · exact dp_mono (same_new n1 _) _ _ d3
  · exact d4
end
end HW
/-! Books: what is asked of them. -/
namespace HW
open PySem PySem.Spec L2
structure NetP.Ok (p : NetP) : Prop where
  n2 : 2 ≤ p.n
  n4 : p.n ≤ 4
  ties : TiesOk p.n p.ties
  weak : WeakOk p.ties.length p.weak
  far2 : 2 ≤ p.far
  far5 : p.far ≤ 5
  split : sD p.split ∈ [sD "plain", sD "poison", sD "quiet"]
  cry : sD p.cry ∈ [sD "loud", sD "still"]
  hold : p.hold ≤ 2
def entAt (es : List Ent) (h : Nat) : Ent := (z0 :: es).getD h z0
def nearC (h : Nat) (z : (Nat × Nat) × Bool) : Bool := z.2 && (z.1.1 == h || z.1.2 == h)
def nearG (h : Nat) (z : (Nat × Nat) × Bool) : Nat := z.1.1 + z.1.2 - h
def nearL (h : Nat) (l : List ((Nat × Nat) × Bool)) : List Nat := (l.filter (nearC h)).map (nearG h)
def near (p : NetP) (ss : List Bool) (h : Nat) : List Nat := nearL h (p.ties.zip ss)
theorem take_step {α : Type} {xs : List α} {i : Nat} {z : α} (h : xs[i]? = some z) : xs.take (i + 1) = xs.take i ++ [z] := by
  rw [List.take_succ, h]; rfl
theorem lt2_trans {a b c : Nat × Nat} (h : lt2 a b) (h2 : lt2 b c) : lt2 a c := by
  unfold lt2 at *; omega
theorem pw_of_adj {α : Type} {R : α → α → Prop} (tr : ∀ a b c, R a b → R b c → R a c) : ∀ {xs : List α}, (∀ z ∈ xs.zip (xs.drop 1), R z.1 z.2) → xs.Pairwise R
  | [], _ => .nil
  | [_], _ => by simp
  | a :: b :: r, h => by
    have ih : (b :: r).Pairwise R := pw_of_adj tr fun z hz => h z (by
      show z ∈ (a, b) :: (b :: r).zip r
      exact List.mem_cons_of_mem _ (by simpa using hz))
    refine List.pairwise_cons.mpr ⟨fun c hc => ?_, ih⟩
    have h0 : R a b := h (a, b) (by show (a, b) ∈ (a, b) :: _; exact List.mem_cons_self ..)
    rcases List.mem_cons.mp hc with rfl | hc
    · exact h0
    · exact tr _ _ _ h0 (List.rel_of_pairwise_cons ih hc)
theorem NetP.Ok.pw {p : NetP} (ok : p.Ok) : p.ties.Pairwise lt2 := pw_of_adj (R := lt2) (fun _ _ _ => lt2_trans) ok.ties.asc
theorem zip_pw {α β : Type} {R : α → α → Prop} : ∀ {xs : List α} {ys : List β}, xs.Pairwise R → (xs.zip ys).Pairwise fun a b => R a.1 b.1
  | [], _, _ => by simp
  | _ :: _, [], _ => by simp
  | x :: xs, y :: ys, h => by
    rw [List.zip_cons_cons]
    refine List.pairwise_cons.mpr ⟨fun z hz => List.rel_of_pairwise_cons h ?_, zip_pw (List.Pairwise.of_cons h)⟩
    exact (List.of_mem_zip (a := z.1) (b := z.2) (by simpa using hz)).1
theorem near_pw {p : NetP} (ok : p.Ok) (ss : List Bool) (h : Nat) : (near p ss h).Pairwise (· < ·) := by
  unfold near nearL
  rw [List.pairwise_map]
  have q : ((p.ties.zip ss).filter (nearC h)).Pairwise fun a b => lt2 a.1 b.1 := (zip_pw ok.pw).filter _
  refine List.Pairwise.imp_of_mem ?_ q
  intro a b ha hb hab
  obtain ⟨ha1, ha2⟩ := List.mem_filter.mp ha
  obtain ⟨hb1, hb2⟩ := List.mem_filter.mp hb
  have oa := ok.ties.ok a.1 (List.of_mem_zip (a := a.1) (b := a.2) (by simpa using ha1)).1
  have ob := ok.ties.ok b.1 (List.of_mem_zip (a := b.1) (b := b.2) (by simpa using hb1)).1
  unfold nearC at ha2 hb2
  simp only [Bool.and_eq_true, Bool.or_eq_true, beq_iff_eq] at ha2 hb2
  unfold lt2 at hab
  unfold nearG
  omega
theorem near_lt {p : NetP} (ok : p.Ok) {ss : List Bool} {h k : Nat} (hk : k ∈ near p ss h) : k < p.n := by
  unfold near nearL at hk
  obtain ⟨z, hz, rfl⟩ := List.mem_map.mp hk
  obtain ⟨h1, h2⟩ := List.mem_filter.mp hz
  have oa := ok.ties.ok z.1 (List.of_mem_zip (a := z.1) (b := z.2) (by simpa using h1)).1
  unfold nearC at h2
  simp only [Bool.and_eq_true, Bool.or_eq_true, beq_iff_eq] at h2
  unfold nearG
  omega
theorem near_len {p : NetP} (ok : p.Ok) (ss : List Bool) (h : Nat) : (near p ss h).length ≤ 5 := by
  unfold near nearL
  rw [List.length_map]
  refine Nat.le_trans (List.length_filter_le _ _) ?_
  rw [List.length_zip]
  have := ok.ties.hi
  omega
abbrev bkD (p : NetP) (es : List Ent) (ss : List Bool) : Sh := .book p (.list ((z0 :: es).map entD)) (.list (ss.map bD))
section
variable {P : Program} {w : World} {K : PySem.W.Frag} {mg : Str → Option Value} {base : Heap}
def CBook_neighbours (ss : List Sh) (sh : Sh) : Prop := ∃ (p : NetP) (es : List Ent) (sts : List Bool) (h : Nat), p.Ok ∧ ss = [bkD p es sts, .d (nD h)] ∧ sh = .nl ((near p sts h).map nD)
theorem map_nD (l : List Nat) : l.map nD = (l.map fun k => ((k : Nat) : Int)).map PyData.int := by rw [List.map_map]; rfl
theorem w_Book_neighbours (T : Txt K mg) (Z : Tab w K mg) (h : Mt K "Book" "neighbours" (F_Book_neighbours K)) : MtP P w K mg base "Book" "neighbours" 1 (spP K CBook_neighbours) := by
  obtain ⟨f, fd, h1, F⟩ := h
  refine ⟨f, fd, _, h1, bindsD F ?_, ok_pure (k := 0) F sc_Book_neighbours ?_ ?_⟩
  · intro kV doc pm an cdv ct us hu
    match us, hu with
    | [a0, a1], _ => rfl
  · rintro ss sh ⟨p, es, sts, h, ok, rfl, rfl⟩; rfl
  rintro cdv A outer s H E ss sh B hr ⟨p, es, sts, h, ok, rfl, rfl⟩
  refine sx_newL 2 nd_Book_neighbours rfl (exl_lst ax_nil (by decide)) fun q hq => ?_
  refine sx_for (is := [3, 4]) (p.ties.zip sts) (fun z => .tuple [pairD z.1, bD z.2]) (fun z S => (S.set 3 (some (.d (pairD z.1)))).set 4 (some (.d (bD z.2))))
    (fun i S' M' => M' = mset M0 q (.lst (((nearL h ((p.ties.zip sts).take i)).map nD).map Sh.d)) ∧ ∃ u v, S' = [some (bkD p es sts), some (.d (nD h)), some (.v (.ref q)), u, v]) own_nox rfl
    (IX.to (ix_zip2 T rfl rfl (ex_ties T (ex_boNet T (ex_var 0 rfl rfl))) (ex_boSt T (ex_var 0 rfl rfl))) (zip2D_map pairD bD p.ties sts)) (fun z => gx_pair 3 4 rfl nd_Book_neighbours rfl rfl) ⟨rfl, none, none, rfl⟩ ?_ ?_
  · rintro i z S' M' G hx ⟨rfl, u, v, rfl⟩
    obtain ⟨⟨a, b⟩, st⟩ := z
    have hn : nearL h ((p.ties.zip sts).take (i + 1)) = nearL h ((p.ties.zip sts).take i) ++ (if nearC h ((a, b), st) then [nearG h ((a, b), st)] else []) := by
      unfold nearL
      rw [take_step hx, List.filter_append, List.map_append, List.filter_cons]
      by_cases hc : nearC h ((a, b), st) = true
      · rw [if_pos hc, if_pos hc]; rfl
      · rw [if_neg hc, if_neg hc]; rfl
    refine sx_if (k := nearC h ((a, b), st)) (TX.to (tx_w (wx_and (tx_val (ex_var 4 rfl rfl)) fun _ => wx_and1 (tx_c (c_inTI (ns := [(a : Int), (b : Int)])) (ex_var 1 rfl rfl) (ex_var 3 rfl rfl)))) ?_) (fun hk => ?_) (fun hk => ?_)
    · unfold nearC
      simp only [List.any_cons, List.any_nil, Bool.or_false]
      congr 1
      congr 1 <;> (rw [Bool.eq_iff_iff]; simp; omega)
    · have hc : a = h ∨ b = h := by
        unfold nearC at hk
        simp only [Bool.and_eq_true, Bool.or_eq_true, beq_iff_eq] at hk
        exact hk.2
      have hlen : (nearL h ((p.ties.zip sts).take i)).length ≤ 5 := by
        unfold nearL
        rw [List.length_map]
        refine Nat.le_trans (List.length_filter_le _ _) ?_
        rw [List.length_take, List.length_zip]
        have := ok.ties.hi
        omega
      refine sx_app mset_same (by rw [List.length_map, List.length_map]; omega) (ex_var 2 rfl rfl) (ex_toI (j := ((nearG h ((a, b), st) : Nat) : Int)) (ex_sub (ex_add (ex_ixT (ex_var 3 rfl rfl) ex_int rfl) (ex_ixT (ex_var 3 rfl rfl) ex_int rfl)) (ex_var 1 rfl rfl)) ?_) ?_
      · unfold nearG
        simp only
        omega
      · rw [mset_mset]
        refine sx_go (sx_turn ⟨?_, _, _, rfl⟩)
        rw [hn, if_pos hk, List.map_append, List.map_append]
        rfl
    · refine sx_go (sx_turn ⟨?_, _, _, rfl⟩)
      rw [hn, if_neg (by rw [hk]; exact Bool.false_ne_true), List.append_nil]
  · rintro S' M' ⟨rfl, u, v, rfl⟩
    rw [List.take_length]
    have e1 : ∀ l : List Nat, l.map nD = (l.map fun k => ((k : Nat) : Int)).map PyData.int := map_nD
    refine sx_ret (EX.to (ex_sortedM T (q := q) (ns := (near p sts h).map fun k => ((k : Nat) : Int)) (ms := (near p sts h).map fun k => ((k : Nat) : Int)) (by rw [mset_same, ← e1]; rfl) ?_ (List.Perm.refl _) ?_ (ex_var 2 rfl rfl)) ?_)
    · rw [List.length_map]; have := near_len ok sts h; omega
    · rw [List.pairwise_map]
      exact (near_pw ok sts h).imp fun h => by omega
    · rw [← e1]
/-! distance_of, goes_by -/
theorem atI_nat {α : Type} {xs : List α} {h : Nat} {x : α} (hh : xs[h]? = some x) : atI xs (h : Int) = some x := by
  have hl : h < xs.length := by
    have := (List.getElem?_eq_some_iff.mp hh).1
    exact this
  unfold atI ixN
  rw [if_pos (by omega), if_pos (by omega), Int.toNat_natCast]
  exact hh
theorem ent_get' {es : List Ent} {h : Nat} (hh : h < es.length + 1) : (z0 :: es)[h]? = some (entAt es h) := by
  unfold entAt
  rw [List.getD_eq_getElem?_getD, List.getElem?_eq_getElem (by rw [List.length_cons]; exact hh)]
  rfl
theorem ent_get {es : List Ent} {h : Nat} (hh : h < es.length + 1) : atI ((z0 :: es).map entD) (h : Int) = some (entD (entAt es h)) :=
  atI_nat (by rw [List.getElem?_map, ent_get' hh]; rfl)
def CBook_distance_of (ss : List Sh) (sh : Sh) : Prop := ∃ (p : NetP) (es : List Ent) (sts : List Bool) (h : Nat), h < es.length + 1 ∧ ss = [bkD p es sts, .d (nD h)] ∧ sh = .d (nD (entAt es h).d)
theorem w_Book_distance_of (T : Txt K mg) (Z : Tab w K mg) (h : Mt K "Book" "distance_of" (F_Book_distance_of K)) : MtP P w K mg base "Book" "distance_of" 1 (spP K CBook_distance_of) := by
  obtain ⟨f, fd, h1, F⟩ := h
  refine ⟨f, fd, _, h1, bindsD F ?_, ok_pure (k := 0) F sc_Book_distance_of ?_ ?_⟩
  · intro kV doc pm an cdv ct us hu
    match us, hu with
    | [a0, a1], _ => rfl
  · rintro ss sh ⟨p, es, sts, h, hh, rfl, rfl⟩; rfl
  rintro cdv A outer s H E ss sh B hr ⟨p, es, sts, h, hh, rfl, rfl⟩
  exact sx_ret (ex_ixT (ex_ixL (ex_boEnt T (ex_var 0 rfl rfl)) (ex_var 1 rfl rfl) (ent_get hh)) ex_int rfl)
def CBook_goes_by (ss : List Sh) (sh : Sh) : Prop := ∃ (p : NetP) (es : List Ent) (sts : List Bool) (h : Nat), h < es.length + 1 ∧ ss = [bkD p es sts, .d (nD h)] ∧ sh = .d (optD (entAt es h).b)
theorem w_Book_goes_by (T : Txt K mg) (Z : Tab w K mg) (h : Mt K "Book" "goes_by" (F_Book_goes_by K)) : MtP P w K mg base "Book" "goes_by" 1 (spP K CBook_goes_by) := by
  obtain ⟨f, fd, h1, F⟩ := h
  refine ⟨f, fd, _, h1, bindsD F ?_, ok_pure (k := 0) F sc_Book_goes_by ?_ ?_⟩
  · intro kV doc pm an cdv ct us hu
    match us, hu with
    | [a0, a1], _ => rfl
  · rintro ss sh ⟨p, es, sts, h, hh, rfl, rfl⟩; rfl
  rintro cdv A outer s H E ss sh B hr ⟨p, es, sts, h, hh, rfl, rfl⟩
  exact sx_ret (ex_ixT (ex_ixL (ex_boEnt T (ex_var 0 rfl rfl)) (ex_var 1 rfl rfl) (ent_get hh)) ex_int rfl)
/-! can_tell -/
theorem shaped_opt (o : Option Nat) : SeqAt.shaped (optD o) = true := by cases o <;> rfl
theorem eqv_opt (o : Option Nat) (k : Nat) : PyData.eqv (optD o) (nD k) = decide (o = some k) := by
  cases o with
  | none => rfl
  | some j =>
    show PyData.eqv (.int (j : Int)) (.int (k : Int)) = _
    rw [show PyData.eqv (.int (j : Int)) (.int (k : Int)) = decide ((j : Int) = (k : Int)) from by simp [PyData.eqv]; try rfl]
    rw [decide_eq_decide]
    constructor
    · intro h; congr 1; omega
    · intro h; cases h; rfl
def canTell (p : NetP) (es : List Ent) (sts : List Bool) (one other : Nat) : Bool :=
  !(other == 0) && ((near p sts one).any (· == other) && (!decide (p.split = "quiet") || !decide ((entAt es one).b = some other)))
def CBook_can_tell (ss : List Sh) (sh : Sh) : Prop := ∃ (p : NetP) (es : List Ent) (sts : List Bool) (one other : Nat), p.Ok ∧ one < es.length + 1 ∧ ss = [bkD p es sts, .d (nD one), .d (nD other)] ∧ sh = .d (.bool (canTell p es sts one other))
theorem w_Book_can_tell (T : Txt K mg) (Z : Tab w K mg) (h : Mt K "Book" "can_tell" (F_Book_can_tell K)) (d_Book_neighbours : MtP P w K mg base "Book" "neighbours" 1 (spP K CBook_neighbours)) (d_Book_goes_by : MtP P w K mg base "Book" "goes_by" 1 (spP K CBook_goes_by)) : MtP P w K mg base "Book" "can_tell" 3 (spP K CBook_can_tell) := by
  obtain ⟨f, fd, h1, F⟩ := h
  refine ⟨f, fd, _, h1, bindsD F ?_, ok_pure (k := 2) F sc_Book_can_tell ?_ ?_⟩
  · intro kV doc pm an cdv ct us hu
    match us, hu with
    | [a0, a1, a2], _ => rfl
  · rintro ss sh ⟨p, es, sts, one, other, ok, hh, rfl, rfl⟩; rfl
  rintro cdv A outer s H E ss sh B hr ⟨p, es, sts, one, other, ok, hh, rfl, rfl⟩
  have e1 : ∀ l : List Nat, l.map nD = (l.map fun k => ((k : Nat) : Int)).map PyData.int := map_nD
  have e2 : ∀ l : List Nat, ((l.map fun k => ((k : Nat) : Int)).any fun z => z == (other : Int)) = l.any (· == other) := fun l => by
    rw [List.any_map]
    congr 1
    funext z
    show ((z : Int) == (other : Int)) = (z == other)
    rw [Bool.eq_iff_iff]; simp; omega
  refine sx_if (k := (other == 0) || !((near p sts one).any (· == other))) (TX.to (tx_w (wx_or (tx_c c_eqI (ex_var 2 rfl rfl) ex_int) fun _ => wx_or1 (tx_c (c_ninLI (ns := (near p sts one).map fun k => ((k : Nat) : Int))) (ex_var 2 rfl rfl) (EX.to (ex_d (ex_meth d_Book_neighbours T.cBook recv_book hr ⟨p, es, sts, one, ok, rfl, rfl⟩ (ex_var 0 rfl rfl) (ax_cons (ex_var 1 rfl rfl) ax_nil))) (by rw [e1]))))) ?_) (fun hk => ?_) (fun hk => ?_)
  · rw [e2]
    congr 1
    rw [Bool.eq_iff_iff]; simp
  · refine sx_ret (ex_toB ex_bl ?_)
    unfold canTell
    cases h1 : (other == 0) with
    | true => rfl
    | false =>
      rw [h1, Bool.false_or] at hk
      have hk' : ((near p sts one).any (· == other)) = false := by simpa using hk
      rw [hk']
      rfl
  · refine sx_go (sx_ret (ex_toB (ex_or (ex_c c_neS (ex_split T (ex_boNet T (ex_var 0 rfl rfl))) ex_str) fun _ => ex_one (ex_c (c_ne hr.units (shaped_opt _) rfl) (ex_meth d_Book_goes_by T.cBook recv_book hr ⟨p, es, sts, one, hh, rfl, rfl⟩ (ex_var 0 rfl rfl) (ax_cons (ex_var 1 rfl rfl) ax_nil)) (ex_var 2 rfl rfl))) ?_))
    obtain ⟨h1, h2⟩ := Bool.or_eq_false_iff.mp hk
    have h2' : ((near p sts one).any (· == other)) = true := by simpa using h2
    unfold canTell
    rw [h1, h2', eqv_opt]
    rfl
/-! heard -/
def heardOf (p : NetP) (es : List Ent) (one other : Nat) : Nat := if p.split = "poison" ∧ (entAt es one).b = some other then p.far else (entAt es one).d
def CBook_heard (ss : List Sh) (sh : Sh) : Prop := ∃ (p : NetP) (es : List Ent) (sts : List Bool) (one other : Nat), one < es.length + 1 ∧ ss = [bkD p es sts, .d (nD one), .d (nD other)] ∧ sh = .d (nD (heardOf p es one other))
theorem w_Book_heard (T : Txt K mg) (Z : Tab w K mg) (h : Mt K "Book" "heard" (F_Book_heard K)) (d_Book_distance_of : MtP P w K mg base "Book" "distance_of" 1 (spP K CBook_distance_of)) (d_Book_goes_by : MtP P w K mg base "Book" "goes_by" 1 (spP K CBook_goes_by)) : MtP P w K mg base "Book" "heard" 3 (spP K CBook_heard) := by
  obtain ⟨f, fd, h1, F⟩ := h
  refine ⟨f, fd, _, h1, bindsD F ?_, ok_pure (k := 2) F sc_Book_heard ?_ ?_⟩
  · intro kV doc pm an cdv ct us hu
    match us, hu with
    | [a0, a1, a2], _ => rfl
  · rintro ss sh ⟨p, es, sts, one, other, hh, rfl, rfl⟩; rfl
  rintro cdv A outer s H E ss sh B hr ⟨p, es, sts, one, other, hh, rfl, rfl⟩
  refine sx_if (k := decide (p.split = "poison") && decide ((entAt es one).b = some other)) (TX.to (tx_w (wx_and (tx_c c_eqS (ex_split T (ex_boNet T (ex_var 0 rfl rfl))) ex_str) fun _ => wx_and1 (tx_c (c_eq hr.units (shaped_opt _) rfl) (ex_meth d_Book_goes_by T.cBook recv_book hr ⟨p, es, sts, one, hh, rfl, rfl⟩ (ex_var 0 rfl rfl) (ax_cons (ex_var 1 rfl rfl) ax_nil)) (ex_var 2 rfl rfl)))) ?_) (fun hk => ?_) (fun hk => ?_)
  · rw [eqv_opt]
  · refine sx_ret (ex_toI (ex_endless T (ex_boNet T (ex_var 0 rfl rfl))) ?_)
    simp only [Bool.and_eq_true, decide_eq_true_eq] at hk
    unfold heardOf
    rw [if_pos hk]
  · refine sx_go (sx_ret (ex_toI (ex_meth d_Book_distance_of T.cBook recv_book hr ⟨p, es, sts, one, hh, rfl, rfl⟩ (ex_var 0 rfl rfl) (ax_cons (ex_var 1 rfl rfl) ax_nil)) ?_))
    unfold heardOf
    rw [if_neg (fun h => by rw [decide_eq_true h.1, decide_eq_true h.2] at hk; cases hk)]
end
end HW
/-! Books: what changes them. -/
namespace HW
open PySem PySem.Spec L2
def bad (p : NetP) : Ent := ⟨p.far, none, p.hold⟩
def loseS (lose : List Ent → Nat → Option (List Ent)) (h : Nat) (es : List Ent) (i : Nat) : Option (List Ent) := if (entAt es (1 + i)).b = some h then lose es (1 + i) else some es
def loseF (p : NetP) : Nat → List Ent → Nat → Option (List Ent)
  | 0, _, _ => none
  | f + 1, es, h => if p.cry = "loud" then (List.range (p.n - 1)).foldlM (loseS (loseF p f) h) (es.set (h - 1) (bad p)) else some (es.set (h - 1) (bad p))
theorem foldlM_len {f : List Ent → Nat → Option (List Ent)} (hf : ∀ es i es', f es i = some es' → es'.length = es.length) : ∀ (l : List Nat) (es es' : List Ent), l.foldlM f es = some es' → es'.length = es.length
  | [], es, es', h => by cases h; rfl
  | i :: l, es, es', h => by
    rw [List.foldlM_cons] at h
    cases e : f es i with
    | none => rw [e] at h; cases h
    | some e2 =>
      rw [e] at h
      rw [foldlM_len hf l e2 es' h, hf _ _ _ e]
theorem loseF_len {p : NetP} : ∀ (f : Nat) (es : List Ent) (h : Nat) (es' : List Ent), loseF p f es h = some es' → es'.length = es.length
  | 0, _, _, _, h => by cases h
  | f + 1, es, h, es', e => by
    unfold loseF at e
    by_cases hc : p.cry = "loud"
    · rw [if_pos hc] at e
      rw [foldlM_len (fun a i b q => ?_) _ _ _ e, List.length_set]
      unfold loseS at q
      split at q
      · exact loseF_len f _ _ _ q
      · cases q; rfl
    · rw [if_neg hc] at e
      cases e
      rw [List.length_set]
def FU : Nat := 5
abbrev entS (es : List Ent) : MO := .lst (((z0 :: es).map entD).map Sh.d)
abbrev stS (ss : List Bool) : MO := .lst ((ss.map bD).map Sh.d)
section
variable {P : Program} {w : World} {K : PySem.W.Frag} {mg : Str → Option Value} {base : Heap}
theorem dom_mset {M : Mp} {e : Addr} {o o' : MO} (h : M e = some o) : ∀ p, M p = none → mset M e o' p = none := fun p q => by
  rw [mset_ne (fun z => by rw [z, h] at q; cases q)]
  exact q
theorem sub_same {M : Mp} {e : Addr} {o : MO} (h : M e = some o) : SubM (mset M e o) M := fun p u q => by
  by_cases z : p = e
  · subst z; rw [mset_same] at q; rw [h]; exact q
  · rw [mset_ne z] at q; exact q
theorem set_es {es : List Ent} {h : Nat} {x : Ent} (hh : 1 ≤ h) : (((z0 :: es).map entD).map Sh.d).set h (.d (entD x)) = ((z0 :: es.set (h - 1) x).map entD).map Sh.d := by
  obtain ⟨k, rfl⟩ : ∃ k, h = k + 1 := ⟨h - 1, by omega⟩
  show Sh.d (entD z0) :: ((es.map entD).map Sh.d).set k (.d (entD x)) = Sh.d (entD z0) :: ((es.set k x).map entD).map Sh.d
  rw [List.map_set, List.map_set]
theorem ixN_nat {n k : Nat} (h : k < n) : ixN n (k : Int) = some k := by
  unfold ixN
  rw [if_pos (by omega), if_pos (by omega), Int.toNat_natCast]
structure BkM (M : Mp) (p : NetP) (e z : Addr) (es : List Ent) (ss : List Bool) : Prop where
  ok : p.Ok
  ne : e ≠ z
  he : M e = some (entS es)
  hz : M z = some (stS ss)
  le : es.length = p.n - 1
  ls : ss.length = p.ties.length
theorem BkM.set {M : Mp} {p : NetP} {e z : Addr} {es es' : List Ent} {ss : List Bool} (b : BkM M p e z es ss) (h : es'.length = es.length) : BkM (mset M e (entS es')) p e z es' ss :=
  ⟨b.ok, b.ne, mset_same, by rw [mset_ne (fun q => b.ne q.symm)]; exact b.hz, by rw [h, b.le], b.ls⟩
abbrev entL (e : Ent) : List PyData := [nD e.d, optD e.b, nD e.h]
def CBook_lose (f : Nat) (ss : List Sh) (M : Mp) (sh : Sh) (M' : Mp) : Prop := ∃ (p : NetP) (e z : Addr) (es es' : List Ent) (sts : List Bool) (h : Nat), BkM M p e z es sts ∧ 1 ≤ h ∧ h < p.n ∧ loseF p f es h = some es' ∧ ss = [.bk p e z, .d (nD h)] ∧ sh = .d .none ∧ M' = mset M e (entS es')
theorem w_lose (T : Txt K mg) (Z : Tab w K mg) (h : Mt K "Book" "lose" (F_Book_lose K)) (d_Net_len : MtP P w K mg base "Net" "__len__" 1 (spP K CNet_len)) (d_Book_goes_by : MtP P w K mg base "Book" "goes_by" 1 (spP K CBook_goes_by)) :
    ∀ fu : Nat, MtP P w K mg base "Book" "lose" (fu + 3) (spM K (CBook_lose fu))
  | 0 => by
    obtain ⟨f, fd, h1, F⟩ := h
    refine ⟨f, fd, p_Book_lose, h1, bindsD F ?_, ok_mut (k := 2) F sc_Book_lose ?_ ?_⟩
    · intro kV doc pm an cdv ct us hu
      match us, hu with
      | [a0, a1], _ => rfl
    · rintro ss M sh M' ⟨p, e, z, es, es', sts, h, bk, h1, h2, hl, rfl, rfl, rfl⟩; rfl
    · rintro cdv A outer s H E ss M sh M' B hr ⟨p, e, z, es, es', sts, h, bk, h1, h2, hl, rfl, rfl, rfl⟩
      cases hl
  | fu + 1 => by
    have d_lose := w_lose T Z h d_Net_len d_Book_goes_by fu
    obtain ⟨f, fd, h1, F⟩ := h
    refine ⟨f, fd, p_Book_lose, h1, bindsD F ?_, ok_mut (k := fu + 3) F sc_Book_lose ?_ ?_⟩
    · intro kV doc pm an cdv ct us hu
      match us, hu with
      | [a0, a1], _ => rfl
    · rintro ss M sh M' ⟨p, e, z, es, es', sts, h, bk, h1, h2, hl, rfl, rfl, rfl⟩; rfl
    rintro cdv A outer s H E ss M sh M' B hr ⟨p, e, z, es, es', sts, h, bk, g1, g2, hl, rfl, rfl, rfl⟩
    have hn4 := bk.ok.n4
    have hle := bk.le
    have hlen : (((z0 :: es).map entD).map Sh.d).length = p.n := by rw [List.length_map, List.length_map, List.length_cons]; omega
    refine sx_put bk.he (j := h) (by rw [hlen]; exact ixN_nat g2) (ex_tupD (ds := entL (bad p)) (ad_cons (ex_endless T (ex_bkNet T (ex_var 0 rfl rfl))) (ad_cons ex_non (ad_cons (ex_hold T (ex_bkNet T (ex_var 0 rfl rfl))) ad_nil)))) (ex_bkEnt T (ex_var 0 rfl rfl)) (ex_var 1 rfl rfl) ?_
    rw [show (Sh.d (.tuple (entL (bad p)))) = .d (entD (bad p)) from rfl, set_es g1]
    have bk1 : BkM (mset M e (entS (es.set (h - 1) (bad p)))) p e z (es.set (h - 1) (bad p)) sts := bk.set (by rw [List.length_set])
    unfold loseF at hl
    refine sx_if (k := decide (p.cry = "loud")) (tx_c c_eqS (ex_cry T (ex_bkNet T (ex_var 0 rfl rfl))) ex_str) (fun hk => ?_) (fun hk => ?_)
    · rw [if_pos (of_decide_eq_true hk)] at hl
      refine sx_for (is := [2]) (List.range (p.n - 1)) (fun i => nD (1 + i)) (fun i S => S.set 2 (some (.d (nD (1 + i)))))
        (fun i S' M' => ∃ esi, M' = mset M e (entS esi) ∧ esi.length = p.n - 1 ∧ ((List.range (p.n - 1)).drop i).foldlM (loseS (loseF p fu) h) esi = some es' ∧ ∃ u, S' = [some (.bk p e z), some (.d (nD h)), u]) own_nox rfl
        (ix_rng2 T (lo := 1) (n := p.n - 1) (by omega) rfl (by omega) (by omega) (by omega) ex_int (ex_lenNet (k := fu + 3) T d_Net_len hn4 hr (ex_bkNet T (ex_var 0 rfl rfl)) (by omega)))
        (fun i => gx_name 2 nd_Book_lose rfl) ⟨_, rfl, bk1.le, by rw [List.drop_zero]; exact hl, none, rfl⟩ ?_ ?_
      · rintro i k S' M' G hx ⟨esi, rfl, li, hf, u, rfl⟩
        have hi : i < p.n - 1 := by
          have := (List.getElem?_eq_some_iff.mp hx).1
          rw [List.length_range] at this
          exact this
        have hki : k = i := by rw [List.getElem?_range hi] at hx; cases hx; rfl
        subst hki
        have hd : (List.range (p.n - 1)).drop k = k :: (List.range (p.n - 1)).drop (k + 1) := by
          rw [List.drop_eq_getElem_cons (by rw [List.length_range]; exact hi), List.getElem_range]
        rw [hd, List.foldlM_cons] at hf
        have bki : BkM (mset M e (entS esi)) p e z esi sts := by
          have q := bk.set (es' := esi) (by rw [li, bk.le])
          exact q
        refine sx_if (k := decide ((entAt esi (1 + k)).b = some h)) (tx_lend (.bk bki.he bki.hz (.same (.same .nil))) (TX.to (tx_c (c_eq hr.units (shaped_opt _) rfl) (ex_meth (k := fu + 3) d_Book_goes_by T.cBook recv_book hr ⟨p, esi, sts, 1 + k, by omega, rfl, rfl⟩ (ex_var 0 rfl rfl) (ax_cons (ex_var 2 rfl rfl) ax_nil) (by omega)) (ex_var 1 rfl rfl)) (eqv_opt _ _))) (fun hk2 => ?_) (fun hk2 => ?_)
        · have hk2 := of_decide_eq_true hk2
          unfold loseS at hf
          rw [if_pos hk2] at hf
          cases el : loseF p fu esi (1 + k) with
          | none => rw [el] at hf; cases hf
          | some esn =>
            rw [el] at hf
            refine sx_exprM (mx_meth (k := fu + 3) d_lose T.cBook recv_bk hr ⟨p, e, z, esi, esn, sts, 1 + k, bki, by omega, by omega, el, rfl, rfl, rfl⟩ (dom_mset bki.he) (ex_var 0 rfl rfl) (ax_cons (ex_var 2 rfl rfl) ax_nil) (Nat.le_refl _)) ?_
            refine sx_go (sx_turn ⟨esn, by rw [mset_mset], by rw [loseF_len fu _ _ _ el, li], hf, _, rfl⟩)
        · unfold loseS at hf
          rw [if_neg (of_decide_eq_false hk2)] at hf
          refine sx_go (sx_turn ⟨esi, rfl, li, hf, _, rfl⟩)
      · rintro S' M' ⟨esi, rfl, li, hf, u, rfl⟩
        rw [List.drop_eq_nil_of_le (Nat.le_refl _)] at hf
        cases hf
        exact sx_go (sx_endD SubM.refl)
    · rw [if_neg (of_decide_eq_false hk)] at hl
      cases hl
      exact sx_go (sx_endD SubM.refl)
/-! tell -/
def lateOf (p : NetP) (es : List Ent) (one other : Nat) : Nat := min (heardOf p es one other + 1) p.far
def tellF (p : NetP) (es : List Ent) (one other : Nat) : Option (List Ent) :=
  if (entAt es other).b = some one ∧ lateOf p es one other = p.far then loseF p FU es other
  else some (if (entAt es other).b = some one then es.set (other - 1) ⟨lateOf p es one other, some one, 0⟩
    else if 0 < (entAt es other).h then es.set (other - 1) ⟨(entAt es other).d, (entAt es other).b, (entAt es other).h - 1⟩
    else if lateOf p es one other < (entAt es other).d then es.set (other - 1) ⟨lateOf p es one other, some one, 0⟩ else es)
theorem tellF_len {p : NetP} {es es' : List Ent} {one other : Nat} (h : tellF p es one other = some es') : es'.length = es.length := by
  unfold tellF at h
  split at h
  · exact loseF_len _ _ _ _ h
  · cases h
    split
    · rw [List.length_set]
    · split
      · rw [List.length_set]
      · split
        · rw [List.length_set]
        · rfl
def CBook_tell (ss : List Sh) (M : Mp) (sh : Sh) (M' : Mp) : Prop := ∃ (p : NetP) (e z : Addr) (es es' : List Ent) (sts : List Bool) (one other : Nat), BkM M p e z es sts ∧ one < p.n ∧ 1 ≤ other ∧ other < p.n ∧ tellF p es one other = some es' ∧ ss = [.bk p e z, .d (nD one), .d (nD other)] ∧ sh = .d .none ∧ M' = mset M e (entS es')
theorem ent_getM {M : Mp} {e : Addr} {es : List Ent} {h : Nat} (hh : h < es.length + 1) : atI (((z0 :: es).map entD).map Sh.d) (h : Int) = some (.d (entD (entAt es h))) :=
  atI_nat (by rw [List.getElem?_map, List.getElem?_map, ent_get' hh]; rfl)
theorem w_Book_tell (T : Txt K mg) (Z : Tab w K mg) (h : Mt K "Book" "tell" (F_Book_tell K)) (d_Book_heard : MtP P w K mg base "Book" "heard" 3 (spP K CBook_heard)) (d_lose : MtP P w K mg base "Book" "lose" 8 (spM K (CBook_lose FU))) : MtP P w K mg base "Book" "tell" 9 (spM K CBook_tell) := by
  obtain ⟨f, fd, h1, F⟩ := h
  refine ⟨f, fd, _, h1, bindsD F ?_, ok_mut (k := 8) F sc_Book_tell ?_ ?_⟩
  · intro kV doc pm an cdv ct us hu
    match us, hu with
    | [a0, a1, a2], _ => rfl
  · rintro ss M sh M' ⟨p, e, z, es, es', sts, one, other, bk, g1, g2, g3, hl, rfl, rfl, rfl⟩; rfl
  rintro cdv A outer s H E ss M sh M' B hr ⟨p, e, z, es, es', sts, one, other, bk, g1, g2, g3, hl, rfl, rfl, rfl⟩
  have hle := bk.le
  have hlen : (((z0 :: es).map entD).map Sh.d).length = p.n := by rw [List.length_map, List.length_map, List.length_cons]; omega
  refine sx_asg (d := entD (entAt es other)) (ex_ixM bk.he (ex_bkEnt T (ex_var 0 rfl rfl)) (ex_var 2 rfl rfl) (ent_getM (M := M) (e := e) (by omega))) (gx_tri 3 4 5 rfl nd_Book_tell rfl rfl rfl) ?_
  refine sx_set 6 nd_Book_tell rfl (ex_lend (.bk bk.he bk.hz (.same (.same (.same (.same (.same (.same .nil))))))) (ex_toI (j := ((lateOf p es one other : Nat) : Int)) (ex_min T rfl (ex_add (ex_meth d_Book_heard T.cBook recv_book hr ⟨p, es, sts, one, other, by omega, rfl, rfl⟩ (ex_var 0 rfl rfl) (ax_cons (ex_var 1 rfl rfl) (ax_cons (ex_var 2 rfl rfl) ax_nil))) ex_int) (ex_endless T (ex_boNet T (ex_var 0 rfl rfl)))) ?_) flat_int) ?_
  · unfold lateOf
    split <;> omega
  unfold tellF at hl
  refine sx_if (k := decide ((entAt es other).b = some one) && decide (lateOf p es one other = p.far)) (TX.to (tx_w (wx_and (tx_c (c_eq hr.units (shaped_opt _) rfl) (ex_var 4 rfl rfl) (ex_var 1 rfl rfl)) fun _ => wx_and1 (tx_c c_eqI (ex_var 6 rfl rfl) (ex_endless T (ex_bkNet T (ex_var 0 rfl rfl)))))) ?_) (fun hk => ?_) (fun hk => ?_)
  · rw [eqv_opt]
    congr 1
    rw [decide_eq_decide]
    omega
  · simp only [Bool.and_eq_true, decide_eq_true_eq] at hk
    rw [if_pos hk] at hl
    refine sx_exprM (mx_meth d_lose T.cBook recv_bk hr ⟨p, e, z, es, es', sts, other, bk, g2, g3, hl, rfl, rfl, rfl⟩ (dom_mset bk.he) (ex_var 0 rfl rfl) (ax_cons (ex_var 2 rfl rfl) ax_nil)) ?_
    exact sx_go (sx_endD SubM.refl)
  · rw [if_neg (fun q => by rw [decide_eq_true q.1, decide_eq_true q.2] at hk; cases hk)] at hl
    cases hl
    refine sx_if (k := decide ((entAt es other).b = some one)) (TX.to (tx_c (c_eq hr.units (shaped_opt _) rfl) (ex_var 4 rfl rfl) (ex_var 1 rfl rfl)) (eqv_opt _ _)) (fun hk => ?_) (fun hk => ?_)
    · rw [if_pos (of_decide_eq_true hk)]
      refine sx_put bk.he (j := other) (by rw [hlen]; exact ixN_nat g3) (ex_tupD (ds := entL ⟨lateOf p es one other, some one, 0⟩) (ad_cons (ex_var 6 rfl rfl) (ad_cons (ex_var 1 rfl rfl) (ad_cons ex_int ad_nil)))) (ex_bkEnt T (ex_var 0 rfl rfl)) (ex_var 2 rfl rfl) ?_
      rw [show (Sh.d (.tuple (entL ⟨lateOf p es one other, some one, 0⟩))) = .d (entD ⟨lateOf p es one other, some one, 0⟩) from rfl, set_es g2]
      exact sx_go (sx_go (sx_endD SubM.refl))
    · rw [if_neg (of_decide_eq_false hk)]
      refine sx_if (k := decide (0 < (entAt es other).h)) (TX.to (tx_c c_gt (ex_var 5 rfl rfl) ex_int) ?_) (fun hk => ?_) (fun hk => ?_)
      · rw [decide_eq_decide]; omega
      · have hk := of_decide_eq_true hk
        rw [if_pos hk]
        refine sx_put bk.he (j := other) (by rw [hlen]; exact ixN_nat g3) (ex_tupD (ds := entL ⟨(entAt es other).d, (entAt es other).b, (entAt es other).h - 1⟩) (ad_cons (ex_var 3 rfl rfl) (ad_cons (ex_var 4 rfl rfl) (ad_cons (ex_toI (ex_sub (ex_var 5 rfl rfl) ex_int) ?_) ad_nil)))) (ex_bkEnt T (ex_var 0 rfl rfl)) (ex_var 2 rfl rfl) ?_
        · simp only; omega
        rw [show (Sh.d (.tuple (entL ⟨(entAt es other).d, (entAt es other).b, (entAt es other).h - 1⟩))) = .d (entD ⟨(entAt es other).d, (entAt es other).b, (entAt es other).h - 1⟩) from rfl, set_es g2]
        exact sx_go (sx_go (sx_go (sx_endD SubM.refl)))
      · rw [if_neg (of_decide_eq_false hk)]
        refine sx_if (k := decide (lateOf p es one other < (entAt es other).d)) (TX.to (tx_c c_lt (ex_var 6 rfl rfl) (ex_var 3 rfl rfl)) ?_) (fun hk => ?_) (fun hk => ?_)
        · rw [decide_eq_decide]; omega
        · rw [if_pos (of_decide_eq_true hk)]
          refine sx_put bk.he (j := other) (by rw [hlen]; exact ixN_nat g3) (ex_tupD (ds := entL ⟨lateOf p es one other, some one, 0⟩) (ad_cons (ex_var 6 rfl rfl) (ad_cons (ex_var 1 rfl rfl) (ad_cons ex_int ad_nil)))) (ex_bkEnt T (ex_var 0 rfl rfl)) (ex_var 2 rfl rfl) ?_
          rw [show (Sh.d (.tuple (entL ⟨lateOf p es one other, some one, 0⟩))) = .d (entD ⟨lateOf p es one other, some one, 0⟩) from rfl, set_es g2]
          exact sx_go (sx_go (sx_go (sx_go (sx_endD SubM.refl))))
        · rw [if_neg (of_decide_eq_false hk)]
          exact sx_go (sx_go (sx_go (sx_go (sx_endD (sub_same bk.he)))))
/-! fall -/
def fallS (p : NetP) (es : List Ent) (z : Nat × Nat) : Option (List Ent) := if (entAt es z.1).b = some z.2 then loseF p FU es z.1 else some es
def tieAt (p : NetP) (t : Nat) : Nat × Nat := p.ties.getD t (0, 0)
def fallF (p : NetP) (es : List Ent) (t : Nat) : Option (List Ent) := [((tieAt p t).1, (tieAt p t).2), ((tieAt p t).2, (tieAt p t).1)].foldlM (fallS p) es
theorem fallF_len {p : NetP} {es es' : List Ent} {t : Nat} (h : fallF p es t = some es') : es'.length = es.length := by
  have go : ∀ (l : List (Nat × Nat)) (es es' : List Ent), l.foldlM (fallS p) es = some es' → es'.length = es.length := by
    intro l
    induction l with
    | nil => intro es es' h; cases h; rfl
    | cons i l ih =>
      intro es es' h
      rw [List.foldlM_cons] at h
      cases e : fallS p es i with
      | none => rw [e] at h; cases h
      | some e2 =>
        rw [e] at h
        rw [ih e2 es' h]
        unfold fallS at e
        split at e
        · exact loseF_len _ _ _ _ e
        · cases e; rfl
  exact go _ _ _ h
theorem tie_get {p : NetP} {t : Nat} (h : t < p.ties.length) : p.ties[t]? = some (tieAt p t) := by
  unfold tieAt
  rw [List.getD_eq_getElem?_getD, List.getElem?_eq_getElem h]
  rfl
theorem tie_ok {p : NetP} (ok : p.Ok) {t : Nat} (h : t < p.ties.length) : (tieAt p t).1 < (tieAt p t).2 ∧ (tieAt p t).2 < p.n :=
  ok.ties.ok _ (List.mem_of_getElem? (tie_get h))
def CBook_fall (ss : List Sh) (M : Mp) (sh : Sh) (M' : Mp) : Prop := ∃ (p : NetP) (e z : Addr) (es es' : List Ent) (sts : List Bool) (t : Nat), BkM M p e z es sts ∧ t < p.ties.length ∧ fallF p es t = some es' ∧ ss = [.bk p e z, .d (nD t)] ∧ sh = .d .none ∧ M' = mset (mset M z (stS (sts.set t false))) e (entS es')
theorem BkM.setS {M : Mp} {p : NetP} {e z : Addr} {es : List Ent} {ss ss' : List Bool} (b : BkM M p e z es ss) (h : ss'.length = ss.length) : BkM (mset M z (stS ss')) p e z es ss' :=
  ⟨b.ok, b.ne, by rw [mset_ne b.ne]; exact b.he, mset_same, b.le, by rw [h, b.ls]⟩
theorem set_ss {ss : List Bool} {t : Nat} {x : Bool} : ((ss.map bD).map Sh.d).set t (.d (.bool x)) = ((ss.set t x).map bD).map Sh.d := by
  rw [List.map_set, List.map_set]
theorem w_Book_fall (T : Txt K mg) (Z : Tab w K mg) (h : Mt K "Book" "fall" (F_Book_fall K)) (d_Book_goes_by : MtP P w K mg base "Book" "goes_by" 1 (spP K CBook_goes_by)) (d_lose : MtP P w K mg base "Book" "lose" 8 (spM K (CBook_lose FU))) : MtP P w K mg base "Book" "fall" 9 (spM K CBook_fall) := by
  obtain ⟨f, fd, h1, F⟩ := h
  refine ⟨f, fd, _, h1, bindsD F ?_, ok_mut (k := 8) F sc_Book_fall ?_ ?_⟩
  · intro kV doc pm an cdv ct us hu
    match us, hu with
    | [a0, a1], _ => rfl
  · rintro ss M sh M' ⟨p, e, z, es, es', sts, t, bk, g1, hl, rfl, rfl, rfl⟩; rfl
  rintro cdv A outer s H E ss M sh M' B hr ⟨p, e, z, es, es', sts, t, bk, g1, hl, rfl, rfl, rfl⟩
  have hle := bk.le
  have hls := bk.ls
  refine sx_put bk.hz (j := t) (by rw [List.length_map, List.length_map]; exact ixN_nat (by omega)) ex_bl (ex_bkSt T (ex_var 0 rfl rfl)) (ex_var 1 rfl rfl) ?_
  rw [set_ss]
  have bk1 : BkM (mset M z (stS (sts.set t false))) p e z es (sts.set t false) := bk.setS (by rw [List.length_set])
  refine sx_asg (d := pairD (tieAt p t)) (ex_ixT (ex_ties T (ex_bkNet T (ex_var 0 rfl rfl))) (ex_var 1 rfl rfl) (atI_nat (by rw [List.getElem?_map, tie_get g1]; rfl))) (gx_pair 2 3 rfl nd_Book_fall rfl rfl) ?_
  obtain ⟨o1, o2⟩ := tie_ok bk.ok g1
  unfold fallF at hl
  refine sx_for (is := [4, 5]) [((tieAt p t).1, (tieAt p t).2), ((tieAt p t).2, (tieAt p t).1)] pairD (fun z S => (S.set 4 (some (.d (nD z.1)))).set 5 (some (.d (nD z.2))))
    (fun i S' M' => ∃ esi, M' = mset (mset M z (stS (sts.set t false))) e (entS esi) ∧ esi.length = p.n - 1 ∧ (([((tieAt p t).1, (tieAt p t).2), ((tieAt p t).2, (tieAt p t).1)] : List (Nat × Nat)).drop i).foldlM (fallS p) esi = some es' ∧ ∃ u v, S' = [some (.bk p e z), some (.d (nD t)), some (.d (nD (tieAt p t).1)), some (.d (nD (tieAt p t).2)), u, v]) own_nox rfl
    (ix_tup (ex_tupD (ad_cons (ex_tupD (ad_cons (ex_var 2 rfl rfl) (ad_cons (ex_var 3 rfl rfl) ad_nil))) (ad_cons (ex_tupD (ad_cons (ex_var 3 rfl rfl) (ad_cons (ex_var 2 rfl rfl) ad_nil))) ad_nil))))
    (fun z => gx_pair 4 5 rfl nd_Book_fall rfl rfl) ⟨es, ?_, hle, hl, none, none, rfl⟩ ?_ ?_
  · funext a
    by_cases q : a = e
    · subst q; rw [mset_same, mset_ne bk.ne, bk.he]
    · rw [mset_ne q]
  · rintro i k S' M' G hx ⟨esi, rfl, li, hf, u, v, rfl⟩
    have bki : BkM (mset (mset M z (stS (sts.set t false))) e (entS esi)) p e z esi (sts.set t false) := bk1.set (by rw [li, hle])
    have hd : ([((tieAt p t).1, (tieAt p t).2), ((tieAt p t).2, (tieAt p t).1)] : List (Nat × Nat)).drop i = k :: ([((tieAt p t).1, (tieAt p t).2), ((tieAt p t).2, (tieAt p t).1)] : List (Nat × Nat)).drop (i + 1) := by
      have hlt := (List.getElem?_eq_some_iff.mp hx).1
      rw [List.drop_eq_getElem_cons hlt, (List.getElem?_eq_some_iff.mp hx).2]
    have hk : k.1 < p.n ∧ k.2 < p.n := by
      have hm := List.mem_of_getElem? hx
      simp only [List.mem_cons, List.not_mem_nil, or_false] at hm
      rcases hm with rfl | rfl
      · exact ⟨by simp only; omega, o2⟩
      · exact ⟨o2, by simp only; omega⟩
    rw [hd, List.foldlM_cons] at hf
    refine sx_if (k := decide ((entAt esi k.1).b = some k.2)) (tx_lend (.bk bki.he bki.hz (.same (.same (.same (.same (.same .nil)))))) (TX.to (tx_c (c_eq hr.units (shaped_opt _) rfl) (ex_meth d_Book_goes_by T.cBook recv_book hr ⟨p, esi, sts.set t false, k.1, by omega, rfl, rfl⟩ (ex_var 0 rfl rfl) (ax_cons (ex_var 4 rfl rfl) ax_nil)) (ex_var 5 rfl rfl)) (eqv_opt _ _))) (fun hk2 => ?_) (fun hk2 => ?_)
    · have hk2 := of_decide_eq_true hk2
      have h1 : 1 ≤ k.1 := by
        rcases Nat.eq_zero_or_pos k.1 with q | q
        · rw [q] at hk2
          cases hk2
        · exact q
      unfold fallS at hf
      rw [if_pos hk2] at hf
      cases el : loseF p FU esi k.1 with
      | none => rw [el] at hf; cases hf
      | some esn =>
        rw [el] at hf
        refine sx_exprM (mx_meth d_lose T.cBook recv_bk hr ⟨p, e, z, esi, esn, sts.set t false, k.1, bki, h1, hk.1, el, rfl, rfl, rfl⟩ (dom_mset bki.he) (ex_var 0 rfl rfl) (ax_cons (ex_var 4 rfl rfl) ax_nil)) ?_
        refine sx_go (sx_turn ⟨esn, by rw [mset_mset], by rw [loseF_len _ _ _ _ el, li], hf, _, _, rfl⟩)
    · unfold fallS at hf
      rw [if_neg (of_decide_eq_false hk2)] at hf
      exact sx_go (sx_turn ⟨esi, rfl, li, hf, _, _, rfl⟩)
  · rintro S' M' ⟨esi, rfl, li, hf, u, v, rfl⟩
    cases hf
    exact sx_endD SubM.refl
/-! do, state -/
inductive Deed
  | tell (one other : Nat)
  | fall (t : Nat)
  | come (t : Nat)
deriving DecidableEq
abbrev deedL : Deed → List PyData
  | .tell a b => [sD "tell", nD a, nD b]
  | .fall t => [sD "fall", nD t]
  | .come t => [sD "come", nD t]
abbrev deedD (d : Deed) : PyData := .tuple (deedL d)
def Deed.Fit (p : NetP) : Deed → Prop
  | .tell a b => a < p.n ∧ 1 ≤ b ∧ b < p.n
  | .fall t => t < p.ties.length
  | .come t => t < p.ties.length
def doF (p : NetP) (s : Sta) : Deed → Option Sta
  | .tell a b => (tellF p s.es a b).map fun es => ⟨es, s.ss⟩
  | .fall t => (fallF p s.es t).map fun es => ⟨es, s.ss.set t false⟩
  | .come t => some ⟨s.es, s.ss.set t true⟩
def CBook_do (ss : List Sh) (M : Mp) (sh : Sh) (M' : Mp) : Prop := ∃ (p : NetP) (e z : Addr) (s s' : Sta) (d : Deed), BkM M p e z s.es s.ss ∧ d.Fit p ∧ doF p s d = some s' ∧ ss = [.bk p e z, .d (deedD d)] ∧ sh = .d .none ∧ M' = mset (mset M z (stS s'.ss)) e (entS s'.es)
theorem w_Book_do (T : Txt K mg) (Z : Tab w K mg) (h : Mt K "Book" "do" (F_Book_do K)) (d_Book_tell : MtP P w K mg base "Book" "tell" 9 (spM K CBook_tell)) (d_Book_fall : MtP P w K mg base "Book" "fall" 9 (spM K CBook_fall)) : MtP P w K mg base "Book" "do" 11 (spM K CBook_do) := by
  obtain ⟨f, fd, h1, F⟩ := h
  refine ⟨f, fd, _, h1, bindsD F ?_, ok_mut (k := 10) F sc_Book_do ?_ ?_⟩
  · intro kV doc pm an cdv ct us hu
    match us, hu with
    | [a0, a1], _ => rfl
  · rintro ss M sh M' ⟨p, e, z, st, st', d, bk, g1, hl, rfl, rfl, rfl⟩; rfl
  rintro cdv A outer s H E ss M sh M' B hr ⟨p, e, z, st, st', d, bk, g1, hl, rfl, rfl, rfl⟩
  cases d with
  | tell a b =>
    obtain ⟨f1, f2, f3⟩ := g1
    have hl : (tellF p st.es a b).map (fun es => (⟨es, st.ss⟩ : Sta)) = some st' := hl
    cases el : tellF p st.es a b with
    | none => rw [el] at hl; cases hl
    | some es' =>
      rw [el] at hl
      cases hl
      refine sx_if (k := true) (TX.to (tx_c c_eqS (ex_ixT (ex_var 1 rfl rfl) ex_int rfl) ex_str) (by decide +kernel)) (fun _ => ?_) (fun h => nomatch h)
      refine sx_exprM (mx_meth d_Book_tell T.cBook recv_bk hr ⟨p, e, z, st.es, es', st.ss, a, b, bk, f1, f2, f3, el, rfl, rfl, rfl⟩ (dom_mset bk.he) (ex_var 0 rfl rfl) (ax_cons (ex_ixT (ex_var 1 rfl rfl) ex_int rfl) (ax_cons (ex_ixT (ex_var 1 rfl rfl) ex_int rfl) ax_nil))) ?_
      refine sx_go (sx_endD fun q u h => ?_)
      by_cases q1 : q = e
      · subst q1; rw [mset_same] at h ⊢; exact h
      · rw [mset_ne q1] at h ⊢
        exact sub_same bk.hz q u h
  | fall t =>
    have g1 : t < p.ties.length := g1
    have hl : (fallF p st.es t).map (fun es => (⟨es, st.ss.set t false⟩ : Sta)) = some st' := hl
    cases el : fallF p st.es t with
    | none => rw [el] at hl; cases hl
    | some es' =>
      rw [el] at hl
      cases hl
      refine sx_if (k := false) (TX.to (tx_c c_eqS (ex_ixT (ex_var 1 rfl rfl) ex_int rfl) ex_str) (by decide +kernel)) (fun h => nomatch h) (fun _ => ?_)
      refine sx_if (k := true) (TX.to (tx_c c_eqS (ex_ixT (ex_var 1 rfl rfl) ex_int rfl) ex_str) (by decide +kernel)) (fun _ => ?_) (fun h => nomatch h)
      refine sx_exprM (mx_meth d_Book_fall T.cBook recv_bk hr ⟨p, e, z, st.es, es', st.ss, t, bk, g1, el, rfl, rfl, rfl⟩ (fun q h => ?_) (ex_var 0 rfl rfl) (ax_cons (ex_ixT (ex_var 1 rfl rfl) ex_int rfl) ax_nil)) ?_
      · rw [mset_ne (fun y => by rw [y, bk.he] at h; cases h), mset_ne (fun y => by rw [y, bk.hz] at h; cases h)]
        exact h
      exact sx_go (sx_go (sx_endD SubM.refl))
  | come t =>
    have g1 : t < p.ties.length := g1
    have hl : some (⟨st.es, st.ss.set t true⟩ : Sta) = some st' := hl
    cases hl
    have hls := bk.ls
    refine sx_if (k := false) (TX.to (tx_c c_eqS (ex_ixT (ex_var 1 rfl rfl) ex_int rfl) ex_str) (by decide +kernel)) (fun h => nomatch h) (fun _ => ?_)
    refine sx_if (k := false) (TX.to (tx_c c_eqS (ex_ixT (ex_var 1 rfl rfl) ex_int rfl) ex_str) (by decide +kernel)) (fun h => nomatch h) (fun _ => ?_)
    refine sx_put bk.hz (j := t) (by rw [List.length_map, List.length_map]; exact ixN_nat (by omega)) ex_bl (ex_bkSt T (ex_var 0 rfl rfl)) (ex_ixT (ex_var 1 rfl rfl) ex_int rfl) ?_
    rw [set_ss]
    refine sx_go (sx_go (sx_endD (sub_same ?_)))
    rw [mset_ne bk.ne]
    exact bk.he
def CBook_state (ss : List Sh) (sh : Sh) : Prop := ∃ (p : NetP) (s : Sta), ss = [bkD p s.es s.ss] ∧ sh = .d (staD s)
theorem w_Book_state (T : Txt K mg) (Z : Tab w K mg) (h : Mt K "Book" "state" (F_Book_state K)) : MtP P w K mg base "Book" "state" 1 (spP K CBook_state) := by
  obtain ⟨f, fd, h1, F⟩ := h
  refine ⟨f, fd, _, h1, bindsD F ?_, ok_pure (k := 0) F sc_Book_state ?_ ?_⟩
  · intro kV doc pm an cdv ct us hu
    match us, hu with
    | [a0], _ => rfl
  · rintro ss sh ⟨p, st, rfl, rfl⟩; rfl
  rintro cdv A outer s H E ss sh B hr ⟨p, st, rfl, rfl⟩
  have e : cutD ((z0 :: st.es).map entD) (some 1) none = st.es.map entD := (cutD_from _ 1).trans rfl
  refine sx_ret (EX.to (ex_tupD (ds := [.tuple (cutD ((z0 :: st.es).map entD) (some 1) none), .tuple (st.ss.map bD)]) (ad_cons (ex_tupOf T rfl (ex_d (ex_slL (ex_boEnt T (ex_var 0 rfl rfl)) (ox_some ex_int) ox_none))) (ad_cons (ex_tupOf T rfl (ex_boSt T (ex_var 0 rfl rfl))) ad_nil))) ?_)
  rw [e]
/-! start_of, done -/
def startOf (p : NetP) : Sta := ⟨List.replicate (p.n - 1) ⟨p.far, none, 0⟩, List.replicate p.ties.length true⟩
theorem flat_rep {α : Type} (x : α) : ∀ k : Nat, (List.replicate k [x]).flatten = List.replicate k x
  | 0 => rfl
  | k + 1 => by
    rw [List.replicate_succ, List.flatten_cons, flat_rep x k]
    rfl
def Cstart_of (ss : List Sh) (sh : Sh) : Prop := ∃ p : NetP, p.Ok ∧ ss = [.net p] ∧ sh = .d (staD (startOf p))
theorem w_start_of (T : Txt K mg) (Z : Tab w K mg) (h : Fn K mg "start_of" (F_start_of K)) (d_Net_len : MtP P w K mg base "Net" "__len__" 1 (spP K CNet_len)) : FnP P w K mg base "start_of" 3 (spP K Cstart_of) := by
  obtain ⟨f, fd, h1, h2, F⟩ := h
  refine ⟨f, fd, _, h1, h2, bindsD F ?_, ok_pure (k := 2) F sc_start_of ?_ ?_⟩
  · intro kV doc pm an cdv ct us hu
    match us, hu with
    | [a0], _ => rfl
  · rintro ss sh ⟨p, ok, rfl, rfl⟩; rfl
  rintro cdv A outer s H E ss sh B hr ⟨p, ok, rfl, rfl⟩
  have h2 := ok.n2
  have h4 := ok.n4
  have h5 := ok.ties.lo
  have h6 := ok.ties.hi
  refine sx_ret (EX.to (ex_tupD (ds := [.tuple (List.replicate (p.n - 1) [entD ⟨p.far, none, 0⟩]).flatten, .tuple (List.replicate p.ties.length [bD true]).flatten])
    (ad_cons (ex_rep (by simp) (by omega) (by omega) (by show 1 ≤ 1000; decide) (ex_tupD (ad_cons (ex_tupD (ds := entL ⟨p.far, none, 0⟩) (ad_cons (ex_endless T (ex_var 0 rfl rfl)) (ad_cons ex_non (ad_cons ex_int ad_nil)))) ad_nil)) (ex_toI (j := ((p.n - 1 : Nat) : Int)) (ex_sub (ex_lenNet T d_Net_len h4 hr (ex_var 0 rfl rfl)) ex_int) (by omega)))
      (ad_cons (ex_rep (by simp) (by omega) (by omega) (by show 1 ≤ 1000; decide) (ex_tupD (ad_cons ex_bl ad_nil)) (ex_toI (j := ((p.ties.length : Nat) : Int)) (ex_lenT T (ex_ties T (ex_var 0 rfl rfl))) (by rw [List.length_map]))) ad_nil))) ?_)
  rw [flat_rep, flat_rep]
  unfold startOf
  simp [List.map_replicate]
theorem sta_zs (s : Sta) : staD s = .tuple [.tuple (s.es.map entD), .tuple (s.ss.map bD)] := rfl
structure Sta.Fit (p : NetP) (s : Sta) : Prop where
  ok : p.Ok
  le : s.es.length = p.n - 1
  ls : s.ss.length = p.ties.length
def Cdone (ss : List Sh) (sh : Sh) : Prop := ∃ (p : NetP) (s s' : Sta) (d : Deed), s.Fit p ∧ d.Fit p ∧ doF p s d = some s' ∧ ss = [.net p, .d (staD s), .d (deedD d)] ∧ sh = .d (staD s')
theorem w_done (T : Txt K mg) (Z : Tab w K mg) (h : Fn K mg "done" (F_done K)) (d_Book_init : MkP P w K mg base "Book" 1 (spI K "Book" CBook_init)) (d_Book_do : MtP P w K mg base "Book" "do" 11 (spM K CBook_do)) (d_Book_state : MtP P w K mg base "Book" "state" 1 (spP K CBook_state)) : FnP P w K mg base "done" 13 (spP K Cdone) := by
  obtain ⟨f, fd, h1, h2, F⟩ := h
  refine ⟨f, fd, _, h1, h2, bindsD F ?_, ok_pure (k := 12) F sc_done ?_ ?_⟩
  · intro kV doc pm an cdv ct us hu
    match us, hu with
    | [a0, a1, a2], _ => rfl
  · rintro ss sh ⟨p, st, st', d, fs, fd, hl, rfl, rfl⟩; rfl
  rintro cdv A outer s H E ss sh B hr ⟨p, st, st', d, fs, fd, hl, rfl, rfl⟩
  have h4 := fs.ok.n4
  have hle := fs.le
  have hls := fs.ls
  have h6 := fs.ok.ties.hi
  refine sx_of (ps_set nd_done (i := 3) rfl (Or.inl rfl) pe_ej rfl (Or.inl rfl)) fun I H σ s => ?_
  refine ej_mkBook T d_Book_init hr (by rw [List.length_map]; omega) (by rw [List.length_map]; omega) (ax_cons (ex_var 0 rfl rfl) (ax_cons (ex_var 1 rfl rfl) ax_nil)) s fun x e z I2 H2 hez h1 h2 s2 sm hb => ?_
  have bk : BkM (mset (mset M0 e (entS st.es)) z (stS st.ss)) p e z st.es st.ss := ⟨fs.ok, hez, by rw [mset_ne hez, mset_same], mset_same, hle, hls⟩
  refine (?_ : SX _ _ _ _ _ _) I2 H2 _ (s2.set 3 hb)
  refine sx_exprM (mx_meth d_Book_do T.cBook recv_bk hr ⟨p, e, z, st, st', d, bk, fd, hl, rfl, rfl, rfl⟩ (fun q h => ?_) (ex_var 3 rfl rfl) (ax_cons (ex_var 2 rfl rfl) ax_nil)) ?_
  · have h : mset (mset M0 e (entS st.es)) z (stS st.ss) q = none := h
    show mset (mset (mset (mset M0 e (entS st.es)) z (stS st.ss)) z (stS st'.ss)) e (entS st'.es) q = none
    rw [mset_ne (fun y => by rw [y, bk.he] at h; cases h), mset_ne (fun y => by rw [y, bk.hz] at h; cases h)]
    exact h
  refine sx_frzB 3 rfl hez.symm mset_same (by rw [mset_ne hez.symm, mset_same]) ?_
  exact sx_ret (ex_meth0 d_Book_state T.cBook recv_book hr ⟨p, st', rfl, rfl⟩ (ex_var 3 rfl rfl))
end
end HW
/-! Deeds, states. -/
namespace HW
open PySem PySem.Spec L2
def tellsAt (p : NetP) (s : Sta) (one : Nat) : List Deed := ((List.range p.n).filter fun o => canTell p s.es s.ss one o).map (Deed.tell one)
def tellsIn (p : NetP) (s : Sta) : List Deed := (List.range p.n).flatMap (tellsAt p s)
def stood (s : Sta) (t : Nat) : Bool := s.ss.getD t false
def fallsIn (p : NetP) (s : Sta) : List Deed := (p.weak.filter (stood s)).map Deed.fall
def comesIn (p : NetP) (s : Sta) : List Deed := (p.weak.filter fun t => !(stood s t)).map Deed.come
def ableF (p : NetP) (s : Sta) : List Deed := tellsIn p s ++ fallsIn p s ++ comesIn p s
theorem tellsAt_len {p : NetP} (ok : p.Ok) (s : Sta) (one : Nat) : (tellsAt p s one).length ≤ 4 := by
  unfold tellsAt
  rw [List.length_map]
  refine Nat.le_trans (List.length_filter_le _ _) ?_
  rw [List.length_range]
  exact ok.n4
theorem flat_len {p : NetP} (ok : p.Ok) (s : Sta) : ∀ l : List Nat, (l.flatMap (tellsAt p s)).length ≤ 4 * l.length
  | [] => by simp
  | a :: l => by
    rw [List.flatMap_cons, List.length_append, List.length_cons]
    have := flat_len ok s l
    have := tellsAt_len ok s a
    omega
theorem ss_get {s : Sta} {t : Nat} (h : t < s.ss.length) : s.ss[t]? = some (stood s t) := by
  unfold stood
  rw [List.getD_eq_getElem?_getD, List.getElem?_eq_getElem h]
  rfl
section
variable {P : Program} {w : World} {K : PySem.W.Frag} {mg : Str → Option Value} {base : Heap}
def Ctells_in (ss : List Sh) (xs : List Sh) : Prop := ∃ (p : NetP) (s : Sta), s.Fit p ∧ ss = [.net p, .d (staD s)] ∧ xs = ((tellsIn p s).map deedD).map Sh.d
theorem w_tells_in (T : Txt K mg) (Z : Tab w K mg) (h : Fn K mg "tells_in" (F_tells_in K)) (d_Net_len : MtP P w K mg base "Net" "__len__" 1 (spP K CNet_len)) (d_Book_init : MkP P w K mg base "Book" 1 (spI K "Book" CBook_init)) (d_Book_can_tell : MtP P w K mg base "Book" "can_tell" 3 (spP K CBook_can_tell)) : FnP P w K mg base "tells_in" 5 (spF K Ctells_in) := by
  obtain ⟨f, fd, h1, h2, F⟩ := h
  refine ⟨f, fd, _, h1, h2, bindsD F ?_, ok_new (k := 4) F sc_tells_in ?_ ?_⟩
  · intro kV doc pm an cdv ct us hu
    match us, hu with
    | [a0, a1], _ => rfl
  · rintro ss sh ⟨p, st, fs, rfl, rfl⟩; rfl
  rintro cdv A outer s H E ss sh B hr ⟨p, st, fs, rfl, rfl⟩
  have h4 := fs.ok.n4
  have hle := fs.le
  have hls := fs.ls
  have h6 := fs.ok.ties.hi
  refine sx_asgEL 2 3 rfl nd_tells_in rfl rfl (ex_mkBook T d_Book_init hr (by rw [List.length_map]; omega) (by rw [List.length_map]; omega) (ax_cons (ex_var 0 rfl rfl) (ax_cons (ex_var 1 rfl rfl) ax_nil))) (exl_lst ax_nil (by decide)) fun q hq => ?_
  refine sx_for (is := [4]) (List.range p.n) nD (fun i S => S.set 4 (some (.d (nD i))))
    (fun i S' M' => M' = mset M0 q (.lst (((((List.range p.n).take i).flatMap (tellsAt p st)).map deedD).map Sh.d)) ∧ ∃ u, S' = [some (.net p), some (.d (staD st)), some (bkD p st.es st.ss), some (.v (.ref q)), u, none]) own_nox rfl
    (IX.to (ix_rng1 T (by omega) (ex_lenNet T d_Net_len h4 hr (ex_var 0 rfl rfl))) (rng0 _)) (fun i => gx_name 4 nd_tells_in rfl) ⟨rfl, none, rfl⟩ ?_ ?_
  · rintro i k S' M' G hx ⟨rfl, u, rfl⟩
    have hi : i < p.n := by
      have := (List.getElem?_eq_some_iff.mp hx).1
      rw [List.length_range] at this
      exact this
    have hki : k = i := by rw [List.getElem?_range hi] at hx; cases hx; rfl
    subst hki
    refine sx_ext mset_same ?_ (ex_var 3 rfl rfl) (ex_lc (List.range p.n) nD _ (fun o => canTell p st.es st.ss k o) (fun o => deedD (.tell k o)) rfl nd_tells_in (IX.to (ix_rng1 T (by omega) (ex_lenNet T d_Net_len h4 hr (ex_var 0 rfl rfl))) (rng0 _)) (show BlkOk n_tells_in (defScope s_tells_in) _ [("other", 5)] from ⟨rfl, by decide +kernel, by decide +kernel, by decide +kernel, by decide +kernel⟩) (by rw [List.length_range]; omega) ?_ (fun s H C cl fp z => gx_name 5 nd_tells_in rfl) ?_ ?_) ?_
    · rw [List.length_map, List.length_map, List.length_map]
      have h1 := flat_len fs.ok st ((List.range p.n).take k)
      have h2 := List.length_filter_le (fun o => canTell p st.es st.ss k o) (List.range p.n)
      rw [List.length_take, List.length_range] at h1
      rw [List.length_range] at h2
      omega
    · decide
    · intro s H C cl fp z hz
      exact tsx_one (tx_val (ex_meth d_Book_can_tell T.cBook recv_book hr ⟨p, st.es, st.ss, k, z, fs.ok, by omega, rfl, rfl⟩ (ex_var 2 rfl rfl) (ax_cons (ex_var 4 rfl rfl) (ax_cons (ex_var 5 rfl rfl) ax_nil))))
    · intro s H C cl fp z hz hb
      exact ex_tupD (ds := deedL (.tell k z)) (ad_cons ex_str (ad_cons (ex_var 4 rfl rfl) (ad_cons (ex_var 5 rfl rfl) ad_nil)))
    · rw [mset_mset]
      refine sx_turn ⟨?_, _, rfl⟩
      rw [take_step hx, List.flatMap_append, List.map_append, List.map_append]
      simp only [List.flatMap_cons, List.flatMap_nil, List.append_nil]
      rw [show (fun o => deedD (Deed.tell k o)) = deedD ∘ Deed.tell k from rfl, ← List.map_map]
      rfl
  · rintro S' M' ⟨rfl, u, rfl⟩
    rw [List.take_length]
    exact sx_retF mset_same (ex_var 3 rfl rfl)
def Cable (ss : List Sh) (sh : Sh) : Prop := ∃ (p : NetP) (s : Sta), s.Fit p ∧ ss = [.net p, .d (staD s)] ∧ sh = .nl ((ableF p s).map deedD)
theorem w_able (T : Txt K mg) (Z : Tab w K mg) (h : Fn K mg "able" (F_able K)) (d_tells_in : FnP P w K mg base "tells_in" 5 (spF K Ctells_in)) : FnP P w K mg base "able" 7 (spP K Cable) := by
  obtain ⟨f, fd, h1, h2, F⟩ := h
  refine ⟨f, fd, _, h1, h2, bindsD F ?_, ok_pure (k := 6) F sc_able ?_ ?_⟩
  · intro kV doc pm an cdv ct us hu
    match us, hu with
    | [a0, a1], _ => rfl
  · rintro ss sh ⟨p, st, fs, rfl, rfl⟩; rfl
  rintro cdv A outer s H E ss sh B hr ⟨p, st, fs, rfl, rfl⟩
  have h4 := fs.ok.n4
  have hle := fs.le
  have hls := fs.ls
  have h6 := fs.ok.ties.hi
  have h7 := fs.ok.weak.hi
  have ht : ∀ z ∈ p.weak, z < st.ss.length := fun z hz => by have := fs.ok.weak.ok z hz; omega
  have hl : (tellsIn p st).length ≤ 16 := by
    have h1 := flat_len fs.ok st (List.range p.n)
    rw [List.length_range] at h1
    unfold tellsIn
    omega
  refine sx_newN 2 nd_able rfl (exn_call d_tells_in hr ⟨p, st, fs, rfl, rfl⟩ (ax_cons (ex_var 0 rfl rfl) (ax_cons (ex_var 1 rfl rfl) ax_nil))) fun q hq => ?_
  refine sx_ext mset_same ?_ (ex_var 2 rfl rfl) (ex_lc p.weak nD _ (stood st) (fun t => deedD (.fall t)) rfl nd_able (ix_tup (ex_weak T (ex_var 0 rfl rfl))) (show BlkOk n_able (defScope s_able) _ [("tie", 3)] from ⟨rfl, by decide +kernel, by decide +kernel, by decide +kernel, by decide +kernel⟩) (by omega) ?_ (fun s H C cl fp z => gx_name 3 nd_able rfl) ?_ ?_) ?_
  · rw [List.length_map, List.length_map, List.length_map]
    have h2 := List.length_filter_le (stood st) p.weak
    omega
  · decide
  · intro s H C cl fp z hz
    exact tsx_one (tx_val (ex_ixT (ex_ixT (ex_var 1 rfl rfl) ex_int rfl) (ex_var 3 rfl rfl) (atI_nat (by rw [List.getElem?_map, ss_get (ht z hz)]; rfl))))
  · intro s H C cl fp z hz hb
    exact ex_tupD (ds := deedL (.fall z)) (ad_cons ex_str (ad_cons (ex_var 3 rfl rfl) ad_nil))
  rw [mset_mset]
  refine sx_ret (ex_lst (ds := (ableF p st).map deedD) (ax_starM mset_same (ex_var 2 rfl rfl) (ax_starL (ds := (comesIn p st).map deedD) (EX.to (ex_d (ex_lc p.weak nD _ (fun t => !(stood st t)) (fun t => deedD (.come t)) rfl nd_able (ix_tup (ex_weak T (ex_var 0 rfl rfl))) (show BlkOk n_able (defScope s_able) _ [("tie", 3)] from ⟨rfl, by decide +kernel, by decide +kernel, by decide +kernel, by decide +kernel⟩) (by omega) ?_ (fun s H C cl fp z => gx_name 3 nd_able rfl) ?_ ?_)) ?_) ax_nil)) ?_ ?_)
  · decide
  · intro s H C cl fp z hz
    exact tsx_one (tx_not (tx_val (ex_ixT (ex_ixT (ex_var 1 rfl rfl) ex_int rfl) (ex_var 3 rfl rfl) (atI_nat (by rw [List.getElem?_map, ss_get (ht z hz)]; rfl)))))
  · intro s H C cl fp z hz hb
    exact ex_tupD (ds := deedL (.come z)) (ad_cons ex_str (ad_cons (ex_var 3 rfl rfl) ad_nil))
  · unfold comesIn
    rw [List.map_map]
    rfl
  · unfold ableF fallsIn
    rw [List.map_append, List.map_append, List.map_append, List.map_append, List.append_nil]
    congr 2
    rw [List.map_map, List.map_map, List.map_map]
    rfl
  · unfold ableF fallsIn comesIn
    rw [List.length_map, List.length_append, List.length_append, List.length_map, List.length_map]
    have h2 := List.length_filter_le (stood st) p.weak
    have h3 := List.length_filter_le (fun t => !(stood st t)) p.weak
    omega
end
end HW
/-! Deeds and states are looked at. -/
namespace HW
open PySem PySem.Spec L2
/-! ### equality of data -/
theorem eqv_int (i j : Int) : PyData.eqv (.int i) (.int j) = decide (i = j) := by
  rw [show PyData.eqv (.int i) (.int j) = (i == j) from by simp [PyData.eqv]]
  rw [Bool.eq_iff_iff]; simp
theorem eqv_nD (i j : Nat) : PyData.eqv (nD i) (nD j) = decide (i = j) := by
  show PyData.eqv (.int (i : Int)) (.int (j : Int)) = _
  rw [eqv_int, decide_eq_decide]; omega
theorem eqv_str (i j : Str) : PyData.eqv (.str i) (.str j) = decide (i = j) := by
  rw [show PyData.eqv (.str i) (.str j) = (i == j) from by simp [PyData.eqv]]
  rw [Bool.eq_iff_iff]; simp
theorem eqv_bD (i j : Bool) : PyData.eqv (bD i) (bD j) = decide (i = j) := by
  rw [show PyData.eqv (bD i) (bD j) = (i == j) from by simp [PyData.eqv]]
  rw [Bool.eq_iff_iff]; simp
theorem eqv_tup (xs ys : List PyData) : PyData.eqv (.tuple xs) (.tuple ys) = PyData.eqvAll xs ys := by simp [PyData.eqv]
theorem eqv_lst (xs ys : List PyData) : PyData.eqv (.list xs) (.list ys) = PyData.eqvAll xs ys := by simp [PyData.eqv]
theorem eqvAll_cons (x y : PyData) (xs ys : List PyData) : PyData.eqvAll (x :: xs) (y :: ys) = (PyData.eqv x y && PyData.eqvAll xs ys) := by simp [PyData.eqvAll]
theorem eqvAll_nil : PyData.eqvAll [] [] = true := by simp [PyData.eqvAll]
theorem eqv_optD : ∀ o u : Option Nat, PyData.eqv (optD o) (optD u) = decide (o = u)
  | none, none => by simp [PyData.eqv]
  | none, some _ => by simp [PyData.eqv]
  | some _, none => by simp [PyData.eqv]
  | some i, some j => by
    show PyData.eqv (nD i) (nD j) = _
    rw [eqv_nD, decide_eq_decide]
    exact ⟨fun h => by rw [h], fun h => by cases h; rfl⟩
theorem eqvAll_map {α : Type} [DecidableEq α] {f : α → PyData} (hf : ∀ x y, PyData.eqv (f x) (f y) = decide (x = y)) : ∀ xs ys : List α, PyData.eqvAll (xs.map f) (ys.map f) = decide (xs = ys)
  | [], [] => by simp [PyData.eqvAll]
  | [], _ :: _ => by simp [PyData.eqvAll]
  | _ :: _, [] => by simp [PyData.eqvAll]
  | x :: xs, y :: ys => by
    rw [List.map_cons, List.map_cons, eqvAll_cons, hf, eqvAll_map hf xs ys, Bool.eq_iff_iff]
    simp
theorem eqv_ent (a b : Ent) : PyData.eqv (entD a) (entD b) = decide (a = b) := by
  obtain ⟨d, o, h⟩ := a
  obtain ⟨d', o', h'⟩ := b
  rw [eqv_tup, eqvAll_cons, eqvAll_cons, eqvAll_cons, eqvAll_nil, eqv_nD, eqv_optD, eqv_nD, Bool.eq_iff_iff]
  simp
theorem eqv_sta (a b : Sta) : PyData.eqv (staD a) (staD b) = decide (a = b) := by
  obtain ⟨d, o⟩ := a
  obtain ⟨d', o'⟩ := b
  rw [eqv_tup, eqvAll_cons, eqvAll_cons, eqvAll_nil, eqv_tup, eqv_tup, eqvAll_map eqv_ent, eqvAll_map eqv_bD, Bool.eq_iff_iff]
  simp
theorem eqv_deed (a b : Deed) : PyData.eqv (deedD a) (deedD b) = decide (a = b) := by
  have h1 : PyData.eqv (sD "tell") (sD "fall") = false := by rw [eqv_str]; decide +kernel
  have h2 : PyData.eqv (sD "fall") (sD "tell") = false := by rw [eqv_str]; decide +kernel
  have h3 : PyData.eqv (sD "tell") (sD "come") = false := by rw [eqv_str]; decide +kernel
  have h4 : PyData.eqv (sD "come") (sD "tell") = false := by rw [eqv_str]; decide +kernel
  have h5 : PyData.eqv (sD "fall") (sD "come") = false := by rw [eqv_str]; decide +kernel
  have h6 : PyData.eqv (sD "come") (sD "fall") = false := by rw [eqv_str]; decide +kernel
  have h7 : ∀ x : Str, PyData.eqv (sD x) (sD x) = true := fun x => by rw [eqv_str]; simp
  cases a <;> cases b <;> simp [deedD, deedL, eqv_tup, eqvAll_cons, eqvAll_nil, h1, h2, h3, h4, h5, h6, h7, eqv_nD] <;> simp [PyData.eqvAll]
theorem sd_nD {k : Nat} : Sd 0 (nD k) := sd_int
theorem sd_opt : ∀ o : Option Nat, Sd 0 (optD o)
  | none => sd_non
  | some _ => sd_int
theorem sd_ent (e : Ent) : Sd 1 (entD e) := Sd.tup (.cons sd_int (.cons (sd_opt _) (.cons sd_int .nil)))
theorem sd_sta (s : Sta) : Sd 3 (staD s) := Sd.tup (.cons (Sd.tup (Sd.map sd_ent)) (.cons ((Sd.tup (k := 0) (Sd.map fun _ => sd_bl)).mono (by decide)) .nil))
theorem sd_deed (d : Deed) : Sd 1 (deedD d) := by
  cases d
  · exact Sd.tup (.cons sd_str (.cons sd_int (.cons sd_int .nil)))
  · exact Sd.tup (.cons sd_str (.cons sd_int .nil))
  · exact Sd.tup (.cons sd_str (.cons sd_int .nil))
theorem sd_deeds (ds : List Deed) : Sd 2 (.list (ds.map deedD)) := Sd.list (Sd.map sd_deed)
/-! ### is_deed -/
def isDeedF (p : NetP) (s : Sta) (t : PyData) : Bool := match t with
  | .tuple (.str x :: y :: r) => (y :: r).all (fun z => isNum z 0 9) && (ableF p s).any fun d => PyData.eqv (deedD d) t
  | _ => false
section
variable {P : Program} {w : World} {K : PySem.W.Frag} {mg : Str → Option Value} {base : Heap}
theorem room65 {k : Nat} {A : Around} (r : Room k A) : A.units + 65 < cLine := by have := r.un; omega
theorem all_sub {ds : List PyData} {k : Nat} (h : Sd k (.tuple ds)) : ∀ d ∈ ds, Sd k d := by
  intro d hd
  induction ds with
  | nil => cases hd
  | cons x xs ih =>
    have h1 : (x.canLay0 && PyData.canLayAll0 xs) = true := h.1
    have h2 : max x.depth (PyData.depthAll xs) + 1 ≤ k := h.2
    rw [Bool.and_eq_true] at h1
    rcases List.mem_cons.mp hd with rfl | hd
    · exact ⟨h1.1, by omega⟩
    · refine ih ⟨h1.2, ?_⟩ hd
      show PyData.depthAll xs + 1 ≤ k
      omega
def Cis_deed (ss : List Sh) (sh : Sh) : Prop := ∃ (p : NetP) (s : Sta) (t : PyData), s.Fit p ∧ Sd 60 t ∧ (∀ ds, t = .tuple ds → ds.length ≤ 1000) ∧ ss = [.net p, .d (staD s), .d t] ∧ sh = .d (.bool (isDeedF p s t))
theorem w_is_deed (T : Txt K mg) (Z : Tab w K mg) (h : Fn K mg "is_deed" (F_is_deed K)) (d_able : FnP P w K mg base "able" 7 (spP K Cable)) (d_is_number : FnP P w K mg base "is_number" 1 (spP K Cis_number)) : FnP P w K mg base "is_deed" 9 (spP K Cis_deed) := by
  obtain ⟨f, fd, h1, h2, F⟩ := h
  refine ⟨f, fd, _, h1, h2, bindsD F ?_, ok_pure (k := 8) F sc_is_deed ?_ ?_⟩
  · intro kV doc pm an cdv ct us hu
    match us, hu with
    | [a0, a1, a2], _ => rfl
  · rintro ss sh ⟨p, st, t, fs, hsd, hlen, rfl, rfl⟩; rfl
  rintro cdv A outer s H E ss sh B hr ⟨p, st, t, fs, hsd, hlen, rfl, rfl⟩
  have neg : ∀ {x : String} {b : Bool}, tyD t = x → kitB x "tuple" = some false → isDeedF p st t = false →
      SX (cxOf CX0 P w K mg base n_is_deed "is_deed" (defScope s_is_deed) f cdv A outer s H E).nox (defBody s_is_deed) (DR K B (.d (.bool (isDeedF p st t)))) (startS n_is_deed [.net p, .d (staD st), .d t]) M0 B := fun {x b} h1 h2 h3 => by
    refine sx_if (k := true) (tx_w (wx_orT (tx_notT (tx_val (ex_isi T (kt x h1 h2) (ex_var 2 rfl rfl) (ex_tyN T boot_tuple')))))) (fun _ => ?_) (fun h => nomatch h)
    exact sx_ret (ex_toB ex_bl h3.symm)
  cases t with
  | none => exact neg (x := "NoneType") (b := true) rfl (by decide +kernel) rfl
  | bool b => exact neg (x := "bool") (b := true) rfl (by decide +kernel) rfl
  | int b => exact neg (x := "int") (b := true) rfl (by decide +kernel) rfl
  | str b => exact neg (x := "str") (b := true) rfl (by decide +kernel) rfl
  | list b => exact neg (x := "list") (b := true) rfl (by decide +kernel) rfl
  | dict b => cases hsd.1
  | tuple ds =>
    have hl := hlen ds rfl
    have hds := all_sub hsd
    match ds, hsd, hl, hds with
    | [], hsd, hl, hds =>
      refine sx_if (k := true) (tx_w (wx_orF (tx_notF (tx_val (ex_isi T (kt "tuple" rfl (by decide +kernel)) (ex_var 2 rfl rfl) (ex_tyN T boot_tuple')))) (wx_orT (TX.to (tx_c c_lt (ex_lenT T (ex_var 2 rfl rfl)) ex_int) (by decide))))) (fun _ => ?_) (fun h => nomatch h)
      exact sx_ret ex_bl
    | [a], hsd, hl, hds =>
      refine sx_if (k := true) (tx_w (wx_orF (tx_notF (tx_val (ex_isi T (kt "tuple" rfl (by decide +kernel)) (ex_var 2 rfl rfl) (ex_tyN T boot_tuple')))) (wx_orT (TX.to (tx_c c_lt (ex_lenT T (ex_var 2 rfl rfl)) ex_int) ?_)))) (fun _ => ?_) (fun h => nomatch h)
      · rfl
      · refine sx_ret (ex_toB ex_bl ?_)
        cases a <;> rfl
    | a :: b :: r, hsd, hl, hds =>
      have hl2 : decide (((a :: b :: r).length : Int) < 2) = false := by rw [decide_eq_false]; simp only [List.length_cons]; omega
      have neg2 : ∀ {x : String}, tyD a = x → kitB x "str" = some false → isDeedF p st (.tuple (a :: b :: r)) = false →
          SX (cxOf CX0 P w K mg base n_is_deed "is_deed" (defScope s_is_deed) f cdv A outer s H E).nox (defBody s_is_deed) (DR K B (.d (.bool (isDeedF p st (.tuple (a :: b :: r)))))) (startS n_is_deed [.net p, .d (staD st), .d (.tuple (a :: b :: r))]) M0 B := fun {x} h1 h2 h3 => by
        refine sx_if (k := true) (tx_w (wx_orF (tx_notF (tx_val (ex_isi T (kt "tuple" rfl (by decide +kernel)) (ex_var 2 rfl rfl) (ex_tyN T boot_tuple')))) (wx_orF (TX.to (tx_c c_lt (ex_lenT T (ex_var 2 rfl rfl)) ex_int) hl2) (wx_or1 (tx_notT (tx_val (ex_isi T (kt x h1 h2) (ex_ixT (ex_var 2 rfl rfl) ex_int (atI_nat (h := 0) rfl)) (ex_tyN T boot_str')))))))) (fun _ => ?_) (fun h => nomatch h)
        exact sx_ret (ex_toB ex_bl h3.symm)
      cases a with
      | none => exact neg2 (x := "NoneType") rfl (by decide +kernel) rfl
      | bool a => exact neg2 (x := "bool") rfl (by decide +kernel) rfl
      | int a => exact neg2 (x := "int") rfl (by decide +kernel) rfl
      | list a => exact neg2 (x := "list") rfl (by decide +kernel) rfl
      | tuple a => exact neg2 (x := "tuple") rfl (by decide +kernel) rfl
      | dict a => exact absurd (hds _ (List.mem_cons_self ..)).1 (fun h => nomatch h)
      | str x =>
        refine sx_if (k := false) (tx_w (wx_orF (tx_notF (tx_val (ex_isi T (kt "tuple" rfl (by decide +kernel)) (ex_var 2 rfl rfl) (ex_tyN T boot_tuple')))) (wx_orF (TX.to (tx_c c_lt (ex_lenT T (ex_var 2 rfl rfl)) ex_int) hl2) (wx_or1 (tx_notF (tx_val (ex_isi T (kt "str" rfl (by decide +kernel)) (ex_ixT (ex_var 2 rfl rfl) ex_int (atI_nat (h := 0) rfl)) (ex_tyN T boot_str')))))))) (fun h => nomatch h) (fun _ => ?_)
        have e0 : cutD (PyData.str x :: b :: r) (some 1) none = (b :: r).map id := (cutD_from _ 1).trans (List.map_id _).symm
        refine sx_go (sx_ret (ex_toB (ex_and (ex_allB T (p' := fun z => isNum z 0 9) rfl (ex_lc0 (b :: r) id _ _ rfl nd_is_deed (IX.to (ix_tup (ex_slA (ex_var 2 rfl rfl) (ox_some ex_int) ox_none)) e0) (show BlkOk n_is_deed (defScope s_is_deed) _ [("one", 3)] from ⟨rfl, by decide +kernel, by decide +kernel, by decide +kernel, by decide +kernel⟩) ?_ ?_ (fun s H C cl fp z => gx_name 3 nd_is_deed rfl) ?_)) fun _ => ex_one (ex_c (c_in (ds := (ableF p st).map deedD) (room65 hr) (hsd.shaped (by decide)) ((sd_deeds _).shaped (by decide))) (ex_var 2 rfl rfl) (ex_d (ex_call d_able hr ⟨p, st, fs, rfl, rfl⟩ (ax_cons (ex_var 0 rfl rfl) (ax_cons (ex_var 1 rfl rfl) ax_nil)))))) ?_))
        · simp only [List.length_cons] at hl ⊢; omega
        · decide
        · intro s H C cl fp z hz
          exact ex_call d_is_number hr ⟨z, 0, 9, rfl, rfl, (hds z (List.mem_cons_of_mem _ hz)).shaped (by decide)⟩ (ax_cons (ex_var 3 rfl rfl) (ax_cons ex_int (ax_cons ex_int ax_nil)))
        · rw [List.any_map]
          rfl
end
end HW
/-! States are checked; rings; who is settled. -/
namespace HW
open PySem PySem.Spec L2
def EntOk (p : NetP) (ss : List Bool) (h : Nat) (e : Ent) : Prop := (e.d = p.far ∧ e.b = none ∧ e.h ≤ p.hold) ∨ (1 ≤ e.d ∧ e.d < p.far ∧ e.h = 0 ∧ ∃ k, e.b = some k ∧ k ∈ near p ss h)
structure Good (p : NetP) (s : Sta) : Prop where
  fit : s.Fit p
  wk : ∀ t, s.ss[t]? = some false → t ∈ p.weak
  en : ∀ h, 1 ≤ h → h < p.n → EntOk p s.ss h (entAt s.es h)
def Alive (p : NetP) (s : Sta) : Prop := ∀ d ∈ ableF p s, d.Fit p ∧ ∃ s', doF p s d = some s'
theorem enD_map {α : Type} (f : α → PyData) : ∀ (xs : List α) (j : Nat), enD j (xs.map f) = (xs.zipIdx j).map fun z => .tuple [nD z.2, f z.1]
  | [], _ => rfl
  | x :: xs, j => by
    rw [List.zipIdx_cons, List.map_cons, List.map_cons]
    show _ :: enD (j + 1) (xs.map f) = _
    rw [enD_map f xs (j + 1)]
section
variable {P : Program} {w : World} {K : PySem.W.Frag} {mg : Str → Option Value} {base : Heap}
/-! is_entry -/
def Cis_entry (ss : List Sh) (sh : Sh) : Prop := ∃ (p : NetP) (es : List Ent) (sts : List Bool) (h : Nat), p.Ok ∧ h < es.length + 1 ∧ EntOk p sts h (entAt es h) ∧ ss = [.net p, bkD p es sts, .d (nD h)] ∧ sh = .d (.bool true)
theorem w_is_entry (T : Txt K mg) (Z : Tab w K mg) (h : Fn K mg "is_entry" (F_is_entry K)) (d_is_number : FnP P w K mg base "is_number" 1 (spP K Cis_number)) (d_Net_len : MtP P w K mg base "Net" "__len__" 1 (spP K CNet_len)) (d_Book_neighbours : MtP P w K mg base "Book" "neighbours" 1 (spP K CBook_neighbours)) : FnP P w K mg base "is_entry" 3 (spP K Cis_entry) := by
  obtain ⟨f, fd, h1, h2, F⟩ := h
  refine ⟨f, fd, _, h1, h2, bindsD F ?_, ok_pure (k := 2) F sc_is_entry ?_ ?_⟩
  · intro kV doc pm an cdv ct us hu
    match us, hu with
    | [a0, a1, a2], _ => rfl
  · rintro ss sh ⟨p, es, sts, h, ok, hh, eok, rfl, rfl⟩; rfl
  rintro cdv A outer s H E ss sh B hr ⟨p, es, sts, h, ok, hh, eok, rfl, rfl⟩
  have h2 := ok.far2
  have h4 := ok.n4
  have e1 : ∀ l : List Nat, l.map nD = (l.map fun k => ((k : Nat) : Int)).map PyData.int := map_nD
  have hb : 1 ≤ (entAt es h).d ∧ (entAt es h).d ≤ p.far ∧ (entAt es h).h ≤ p.hold := by
    rcases eok with ⟨q1, q2, q3⟩ | ⟨q1, q2, q3, q4⟩ <;> omega
  refine sx_set 3 nd_is_entry rfl (sh := .d (.tuple (entL (entAt es h)))) (ex_ixL (ex_boEnt T (ex_var 1 rfl rfl)) (ex_var 2 rfl rfl) (ent_get hh)) ?_
  refine sx_if (k := false) (tx_w (wx_orF (tx_notF (tx_val (ex_isi T (kt "tuple" rfl (by decide +kernel)) (ex_var 3 rfl rfl) (ex_tyN T boot_tuple')))) (wx_orF (TX.to (tx_c c_neI (ex_lenT T (ex_var 3 rfl rfl)) ex_int) rfl) (wx_or1 (tx_notF (tx_val (ex_call d_is_number hr
    ⟨nD (entAt es h).d, 1, (p.far : Int), rfl, congrArg (fun b => Sh.d (.bool b)) (isNum_t (by omega) (by omega)).symm, rfl⟩ (ax_cons (ex_ixT (ex_var 3 rfl rfl) ex_int rfl) (ax_cons ex_int (ax_cons (ex_endless T (ex_var 0 rfl rfl)) ax_nil)))))))))) (fun h => nomatch h) fun _ => ?_
  refine sx_go (sx_if (k := false) (tx_notF (tx_val (ex_call d_is_number hr
    ⟨nD (entAt es h).h, 0, (p.hold : Int), rfl, congrArg (fun b => Sh.d (.bool b)) (isNum_t (by omega) (by omega)).symm, rfl⟩ (ax_cons (ex_ixT (ex_var 3 rfl rfl) ex_int rfl) (ax_cons ex_int (ax_cons (ex_hold T (ex_var 0 rfl rfl)) ax_nil)))))) (fun h => nomatch h) fun _ => ?_)
  rcases eok with ⟨q1, q2, q3⟩ | ⟨q1, q2, q3, k, q4, q5⟩
  · refine sx_go (sx_if (k := true) (TX.to (tx_c c_eqI (ex_ixT (ex_var 3 rfl rfl) ex_int rfl) (ex_endless T (ex_var 0 rfl rfl))) (decide_eq_true (by rw [q1]))) (fun _ => ?_) (fun h => nomatch h))
    exact sx_ret (ex_toB (ex_c c_isN (ex_ixT (ex_var 3 rfl rfl) ex_int rfl) ex_non) (by first | (rw [q2]; done) | (rw [q2]; rfl)))
  · refine sx_go (sx_if (k := false) (TX.to (tx_c c_eqI (ex_ixT (ex_var 3 rfl rfl) ex_int rfl) (ex_endless T (ex_var 0 rfl rfl))) (decide_eq_false (by omega))) (fun h => nomatch h) (fun _ => ?_))
    have hk := near_lt ok q5
    refine sx_go (sx_ret (ex_andT (ex_toB (ex_c c_eqI (ex_ixT (ex_var 3 rfl rfl) ex_int rfl) ex_int) (decide_eq_true (by omega))) (ex_andT (ex_call d_is_number hr
      ⟨nD k, 0, (p.n : Int) - 1, rfl, congrArg (fun b => Sh.d (.bool b)) (isNum_t (by omega) (by omega)).symm, rfl⟩ (ax_cons (EX.to (ex_ixT (ex_var 3 rfl rfl) ex_int rfl) (by rw [q4])) (ax_cons ex_int (ax_cons (ex_sub (ex_lenNet T d_Net_len h4 hr (ex_var 0 rfl rfl)) ex_int) ax_nil))))
      (ex_one (ex_toB (ex_c (c_inLI (i := (k : Int)) (ns := (near p sts h).map fun k => ((k : Nat) : Int))) (EX.to (ex_ixT (ex_var 3 rfl rfl) ex_int rfl) (by rw [q4])) (EX.to (ex_d (ex_meth d_Book_neighbours T.cBook recv_book hr ⟨p, es, sts, h, ok, rfl, rfl⟩ (ex_var 1 rfl rfl) (ax_cons (ex_var 2 rfl rfl) ax_nil))) (by rw [e1]))) ?_)))))
    rw [List.any_map]
    exact List.any_eq_true.mpr ⟨k, q5, by simp⟩
/-! is_state -/
def Cis_state (ss : List Sh) (sh : Sh) : Prop := ∃ (p : NetP) (s : Sta), Good p s ∧ ss = [.net p, .d (staD s)] ∧ sh = .d (.bool true)
theorem w_is_state (T : Txt K mg) (Z : Tab w K mg) (h : Fn K mg "is_state" (F_is_state K)) (d_Net_len : MtP P w K mg base "Net" "__len__" 1 (spP K CNet_len)) (d_Book_init : MkP P w K mg base "Book" 1 (spI K "Book" CBook_init)) (d_is_entry : FnP P w K mg base "is_entry" 3 (spP K Cis_entry)) : FnP P w K mg base "is_state" 5 (spP K Cis_state) := by
  obtain ⟨f, fd, h1, h2, F⟩ := h
  refine ⟨f, fd, _, h1, h2, bindsD F ?_, ok_pure (k := 4) F sc_is_state ?_ ?_⟩
  · intro kV doc pm an cdv ct us hu
    match us, hu with
    | [a0, a1], _ => rfl
  · rintro ss sh ⟨p, st, gd, rfl, rfl⟩; rfl
  rintro cdv A outer s H E ss sh B hr ⟨p, st, gd, rfl, rfl⟩
  have fs := gd.fit
  have h4 := fs.ok.n4
  have h2 := fs.ok.n2
  have hle := fs.le
  have hls := fs.ls
  have h6 := fs.ok.ties.hi
  have e1 : ∀ l : List Nat, l.map nD = (l.map fun k => ((k : Nat) : Int)).map PyData.int := map_nD
  refine sx_if (k := false) (tx_w (wx_orF (tx_notF (tx_val (ex_isi T (kt "tuple" rfl (by decide +kernel)) (ex_var 1 rfl rfl) (ex_tyN T boot_tuple')))) (wx_orF (TX.to (tx_c c_neI (ex_lenT T (ex_var 1 rfl rfl)) ex_int) rfl) (wx_or1 (tx_notF (tx_val (ex_isi T (kt "tuple" rfl (by decide +kernel)) (ex_ixT (ex_var 1 rfl rfl) ex_int rfl) (ex_tyN T boot_tuple')))))))) (fun h => nomatch h) fun _ => ?_
  refine sx_go (sx_if (k := false) (tx_w (wx_orF (tx_notF (tx_val (ex_isi T (kt "tuple" rfl (by decide +kernel)) (ex_ixT (ex_var 1 rfl rfl) ex_int rfl) (ex_tyN T boot_tuple')))) (wx_orF (TX.to (tx_c c_neI (ex_lenT T (ex_ixT (ex_var 1 rfl rfl) ex_int rfl)) (ex_sub (ex_lenNet T d_Net_len h4 hr (ex_var 0 rfl rfl)) ex_int)) ?_) (wx_or1 (TX.to (tx_c c_neI (ex_lenT T (ex_ixT (ex_var 1 rfl rfl) ex_int rfl)) (ex_lenT T (ex_ties T (ex_var 0 rfl rfl)))) ?_))))) (fun h => nomatch h) fun _ => ?_)
  · rw [decide_eq_true (by rw [List.length_map]; omega)]; rfl
  · rw [decide_eq_true (by rw [List.length_map, List.length_map]; omega)]; rfl
  refine sx_go ?_
  refine sx_for (is := [2, 3]) st.ss.zipIdx (fun z => .tuple [nD z.2, bD z.1]) (fun z S => (S.set 2 (some (.d (nD z.2)))).set 3 (some (.d (bD z.1))))
    (fun i S' M' => M' = M0 ∧ ∃ u v, S' = [some (.net p), some (.d (staD st)), u, v, none, none]) own_nox rfl
    (IX.to (ix_enum T rfl (ex_ixT (ex_var 1 rfl rfl) ex_int rfl)) (enD_map bD st.ss 0)) (fun z => gx_pair 2 3 rfl nd_is_state rfl rfl) ⟨rfl, none, none, rfl⟩ ?_ ?_
  · rintro i z S' M' G hx ⟨rfl, u, v, rfl⟩
    rw [List.getElem?_zipIdx] at hx
    cases hz : st.ss[i]? with
    | none => rw [hz] at hx; cases hx
    | some bb =>
      rw [hz] at hx
      have hx : some (bb, 0 + i) = some z := hx
      cases hx
      refine sx_if (k := false) (tx_w (wx_orF (tx_notF (tx_val (ex_isi T (kt "bool" rfl (by decide +kernel)) (ex_var 3 rfl rfl) (ex_tyN T boot_bool')))) (wx_or1 (tx_w ?_)))) (fun h => nomatch h) (fun _ => sx_go (sx_turn ⟨rfl, _, _, rfl⟩))
      cases bb with
      | true => exact wx_andF (tx_notF (tx_val (ex_var 3 rfl rfl)))
      | false =>
        refine wx_andT (tx_notT (tx_val (ex_var 3 rfl rfl))) (wx_and1 (TX.to (tx_c (c_ninTI (ns := p.weak.map fun k => ((k : Nat) : Int))) (ex_var 2 rfl rfl) (EX.to (ex_weak T (ex_var 0 rfl rfl)) (by rw [← e1]))) ?_))
        rw [List.any_map, List.any_eq_true.mpr ⟨i, gd.wk i hz, by simp⟩]
        rfl
  · rintro S' M' ⟨rfl, u, v, rfl⟩
    refine sx_set 4 nd_is_state rfl (ex_mkBook T d_Book_init hr (by rw [List.length_map]; omega) (by rw [List.length_map]; omega) (ax_cons (ex_var 0 rfl rfl) (ax_cons (ex_var 1 rfl rfl) ax_nil))) ?_
    refine sx_ret (ex_toB (ex_allB T (p' := fun _ => true) rfl (ex_lc0 (List.range (p.n - 1)) (fun i => nD (1 + i)) _ _ rfl nd_is_state (ix_rng2 T (lo := 1) (n := p.n - 1) (by omega) rfl (by omega) (by omega) (by omega) ex_int (ex_lenNet T d_Net_len h4 hr (ex_var 0 rfl rfl))) (show BlkOk n_is_state (defScope s_is_state) _ [("host", 5)] from ⟨rfl, by decide +kernel, by decide +kernel, by decide +kernel, by decide +kernel⟩) (by rw [List.length_range]; omega) ?_ (fun s H C cl fp z => gx_name 5 nd_is_state rfl) ?_)) ?_)
    · decide
    · intro s H C cl fp z hz
      have hz := List.mem_range.mp hz
      exact ex_call d_is_entry hr ⟨p, st.es, st.ss, 1 + z, fs.ok, by omega, gd.en _ (by omega) (by omega), rfl, rfl⟩ (ax_cons (ex_var 0 rfl rfl) (ax_cons (ex_var 4 rfl rfl) (ax_cons (ex_var 5 rfl rfl) ax_nil)))
    · rw [List.all_eq_true.mpr fun _ _ => rfl]
def Ccheck_state (ss : List Sh) (sh : Sh) : Prop := ∃ (p : NetP) (s : Sta), Good p s ∧ ss = [.net p, .d (staD s)] ∧ sh = .d .none
theorem w_check_state (T : Txt K mg) (Z : Tab w K mg) (h : Fn K mg "check_state" (F_check_state K)) (d_check_net : FnP P w K mg base "check_net" 1 (spP K Ccheck_net)) (d_is_state : FnP P w K mg base "is_state" 5 (spP K Cis_state)) : FnP P w K mg base "check_state" 7 (spP K Ccheck_state) := by
  obtain ⟨f, fd, h1, h2, F⟩ := h
  refine ⟨f, fd, _, h1, h2, bindsD F ?_, ok_pure (k := 6) F sc_check_state ?_ ?_⟩
  · intro kV doc pm an cdv ct us hu
    match us, hu with
    | [a0, a1], _ => rfl
  · rintro ss sh ⟨p, st, gd, rfl, rfl⟩; rfl
  rintro cdv A outer s H E ss sh B hr ⟨p, st, gd, rfl, rfl⟩
  refine sx_expr (ex_call d_check_net hr ⟨p, rfl, rfl⟩ (ax_cons (ex_var 0 rfl rfl) ax_nil)) ?_
  refine sx_if (k := false) (tx_notF (tx_val (ex_call d_is_state hr ⟨p, st, gd, rfl, rfl⟩ (ax_cons (ex_var 0 rfl rfl) (ax_cons (ex_var 1 rfl rfl) ax_nil))))) (fun h => nomatch h) fun _ => ?_
  exact sx_go sx_end
def Cfirst_state (ss : List Sh) (sh : Sh) : Prop := ∃ p : NetP, p.Ok ∧ ss = [.net p] ∧ sh = .d (staD (startOf p))
theorem w_first_state (T : Txt K mg) (Z : Tab w K mg) (h : Fn K mg "first_state" (F_first_state K)) (d_check_net : FnP P w K mg base "check_net" 1 (spP K Ccheck_net)) (d_start_of : FnP P w K mg base "start_of" 3 (spP K Cstart_of)) : FnP P w K mg base "first_state" 5 (spP K Cfirst_state) := by
  obtain ⟨f, fd, h1, h2, F⟩ := h
  refine ⟨f, fd, _, h1, h2, bindsD F ?_, ok_pure (k := 4) F sc_first_state ?_ ?_⟩
  · intro kV doc pm an cdv ct us hu
    match us, hu with
    | [a0], _ => rfl
  · rintro ss sh ⟨p, ok, rfl, rfl⟩; rfl
  rintro cdv A outer s H E ss sh B hr ⟨p, ok, rfl, rfl⟩
  refine sx_expr (ex_call d_check_net hr ⟨p, rfl, rfl⟩ (ax_cons (ex_var 0 rfl rfl) ax_nil)) ?_
  exact sx_ret (ex_call d_start_of hr ⟨p, ok, rfl, rfl⟩ (ax_cons (ex_var 0 rfl rfl) ax_nil))
def Cdeeds (ss : List Sh) (sh : Sh) : Prop := ∃ (p : NetP) (s : Sta), Good p s ∧ ss = [.net p, .d (staD s)] ∧ sh = .nl ((ableF p s).map deedD)
theorem w_deeds (T : Txt K mg) (Z : Tab w K mg) (h : Fn K mg "deeds" (F_deeds K)) (d_check_state : FnP P w K mg base "check_state" 7 (spP K Ccheck_state)) (d_able : FnP P w K mg base "able" 7 (spP K Cable)) : FnP P w K mg base "deeds" 9 (spP K Cdeeds) := by
  obtain ⟨f, fd, h1, h2, F⟩ := h
  refine ⟨f, fd, _, h1, h2, bindsD F ?_, ok_pure (k := 8) F sc_deeds ?_ ?_⟩
  · intro kV doc pm an cdv ct us hu
    match us, hu with
    | [a0, a1], _ => rfl
  · rintro ss sh ⟨p, st, gd, rfl, rfl⟩; rfl
  rintro cdv A outer s H E ss sh B hr ⟨p, st, gd, rfl, rfl⟩
  refine sx_expr (ex_call d_check_state hr ⟨p, st, gd, rfl, rfl⟩ (ax_cons (ex_var 0 rfl rfl) (ax_cons (ex_var 1 rfl rfl) ax_nil))) ?_
  exact sx_ret (ex_call d_able hr ⟨p, st, gd.fit, rfl, rfl⟩ (ax_cons (ex_var 0 rfl rfl) (ax_cons (ex_var 1 rfl rfl) ax_nil)))
/-! settled -/
def settledF (p : NetP) (s : Sta) : Bool := (tellsIn p s).all fun d => decide (doF p s d = some s)
def Cis_settled (ss : List Sh) (sh : Sh) : Prop := ∃ (p : NetP) (s : Sta), s.Fit p ∧ Alive p s ∧ ss = [.net p, .d (staD s)] ∧ sh = .d (.bool (settledF p s))
theorem w_is_settled (T : Txt K mg) (Z : Tab w K mg) (h : Fn K mg "is_settled" (F_is_settled K)) (d_tells_in : FnP P w K mg base "tells_in" 5 (spF K Ctells_in)) (d_done : FnP P w K mg base "done" 13 (spP K Cdone)) : FnP P w K mg base "is_settled" 15 (spP K Cis_settled) := by
  obtain ⟨f, fd, h1, h2, F⟩ := h
  refine ⟨f, fd, _, h1, h2, bindsD F ?_, ok_pure (k := 14) F sc_is_settled ?_ ?_⟩
  · intro kV doc pm an cdv ct us hu
    match us, hu with
    | [a0, a1], _ => rfl
  · rintro ss sh ⟨p, st, fs, al, rfl, rfl⟩; rfl
  rintro cdv A outer s H E ss sh B hr ⟨p, st, fs, al, rfl, rfl⟩
  have hl : (tellsIn p st).length ≤ 16 := by
    have h1 := flat_len fs.ok st (List.range p.n)
    have h4 := fs.ok.n4
    rw [List.length_range] at h1
    unfold tellsIn
    omega
  refine sx_ret (ex_allB T (p' := fun d => decide (doF p st d = some st)) rfl (ex_lc0 (tellsIn p st) deedD _ _ rfl nd_is_settled (ix_lst (ex_d (exn_d (exn_call d_tells_in hr ⟨p, st, fs, rfl, rfl⟩ (ax_cons (ex_var 0 rfl rfl) (ax_cons (ex_var 1 rfl rfl) ax_nil)))))) (show BlkOk n_is_settled (defScope s_is_settled) _ [("deed", 2)] from ⟨rfl, by decide +kernel, by decide +kernel, by decide +kernel, by decide +kernel⟩) (by omega) ?_ (fun s H C cl fp z => gx_name 2 nd_is_settled rfl) ?_))
  · decide
  · intro s H C cl fp z hz
    obtain ⟨f1, s', f2⟩ := al z (by unfold ableF; exact List.mem_append_left _ (List.mem_append_left _ hz))
    refine ex_toB (ex_c (c_eq hr.units ((sd_sta s').shaped (by decide)) ((sd_sta st).shaped (by decide))) (ex_call d_done hr ⟨p, st, s', z, fs, f1, f2, rfl, rfl⟩ (ax_cons (ex_var 0 rfl rfl) (ax_cons (ex_var 1 rfl rfl) (ax_cons (ex_var 2 rfl rfl) ax_nil)))) (ex_var 1 rfl rfl)) ?_
    rw [eqv_sta, f2, decide_eq_decide]
    exact ⟨fun h => by rw [h], fun h => by cases h; rfl⟩
def Csettled (ss : List Sh) (sh : Sh) : Prop := ∃ (p : NetP) (s : Sta), Good p s ∧ Alive p s ∧ ss = [.net p, .d (staD s)] ∧ sh = .d (.bool (settledF p s))
theorem w_settled (T : Txt K mg) (Z : Tab w K mg) (h : Fn K mg "settled" (F_settled K)) (d_check_state : FnP P w K mg base "check_state" 7 (spP K Ccheck_state)) (d_is_settled : FnP P w K mg base "is_settled" 15 (spP K Cis_settled)) : FnP P w K mg base "settled" 17 (spP K Csettled) := by
  obtain ⟨f, fd, h1, h2, F⟩ := h
  refine ⟨f, fd, _, h1, h2, bindsD F ?_, ok_pure (k := 16) F sc_settled ?_ ?_⟩
  · intro kV doc pm an cdv ct us hu
    match us, hu with
    | [a0, a1], _ => rfl
  · rintro ss sh ⟨p, st, gd, al, rfl, rfl⟩; rfl
  rintro cdv A outer s H E ss sh B hr ⟨p, st, gd, al, rfl, rfl⟩
  refine sx_expr (ex_call d_check_state hr ⟨p, st, gd, rfl, rfl⟩ (ax_cons (ex_var 0 rfl rfl) (ax_cons (ex_var 1 rfl rfl) ax_nil))) ?_
  exact sx_ret (ex_call d_is_settled hr ⟨p, st, gd.fit, al, rfl, rfl⟩ (ax_cons (ex_var 0 rfl rfl) (ax_cons (ex_var 1 rfl rfl) ax_nil)))
end
end HW
/-! True distances, who is joined, rings. -/
namespace HW
open PySem PySem.Spec L2
def lookN (l : List (Nat × Nat)) (h : Nat) : Option Nat := (l.find? fun z => z.1 == h).map (·.2)
def visit (d : Nat) (st : List (Nat × Nat) × List Nat) (o : Nat) : List (Nat × Nat) × List Nat := if (lookN st.1 o).isSome then st else (st.1 ++ [(o, d + 1)], st.2 ++ [o])
def bfs (adj : Nat → List Nat) : Nat → List (Nat × Nat) × List Nat → Option (List (Nat × Nat))
  | 0, _ => none
  | _ + 1, (found, []) => some found
  | f + 1, (found, h :: line) => match lookN found h with
    | none => none
    | some d => bfs adj f ((adj h).foldl (visit d) (found, line))
def kvF (l : List (Nat × Nat)) : List (Key × V) := l.map fun z => (Sum.inl (z.1 : Int), V.int (z.2 : Int))
theorem valV_kvF : ∀ (l : List (Nat × Nat)) (h : Nat), valV (kvF l) (Sum.inl (h : Int)) = (lookN l h).map fun d => V.int ((d : Nat) : Int)
  | [], h => rfl
  | (a, b) :: l, h => by
    by_cases e : a = h
    · subst e
      show valV ((Sum.inl (a : Int), V.int (b : Int)) :: kvF l) _ = _
      rw [valV_pos rfl]
      simp [lookN]
    · show valV ((Sum.inl (a : Int), V.int (b : Int)) :: kvF l) _ = _
      rw [valV_neg (fun q => e (by have q' := Sum.inl.inj q; omega)), valV_kvF l h]
      simp [lookN, e]
theorem lookN_app {l r : List (Nat × Nat)} {h d : Nat} (e : lookN l h = some d) : lookN (l ++ r) h = some d := by
  unfold lookN at *
  rw [List.find?_append]
  cases q : l.find? (fun z => z.1 == h) with
  | none => rw [q] at e; cases e
  | some z => rw [q] at e; simpa using e
theorem putK_new {l : List (Key × V)} {k : Key} {v : V} (h : valV l k = none) : putK l k v = l ++ [(k, v)] := by
  unfold putK
  rw [if_neg]
  intro q
  obtain ⟨x, hx, hk⟩ := List.any_eq_true.mp q
  unfold valV at h
  cases e : l.find? (fun kv => decide (kv.1 = k)) with
  | none => exact absurd hk (List.find?_eq_none.mp e x hx)
  | some z => rw [e] at h; cases h
def visitJ (st : List Nat × List Nat) (o : Nat) : List Nat × List Nat := if st.1.contains o then st else (st.1 ++ [o], st.2 ++ [o])
def dfs (adj : Nat → List Nat) : Nat → List Nat × List Nat → Option (List Nat)
  | 0, _ => none
  | f + 1, (found, line) => match line.getLast? with
    | none => some found
    | some h => dfs adj f ((adj h).foldl visitJ (found, line.dropLast))
def kvJ (l : List Nat) : List (Key × V) := l.map fun (z : Nat) => (Sum.inl ((z : Nat) : Int), V.bl true)
theorem valV_kvJ : ∀ (l : List Nat) (h : Nat), (valV (kvJ l) (Sum.inl (h : Int))).isSome = l.contains h
  | [], h => rfl
  | a :: l, h => by
    by_cases e : a = h
    · subst e
      show (valV ((Sum.inl (a : Int), V.bl true) :: kvJ l) _).isSome = _
      rw [valV_pos rfl]
      simp
    · show (valV ((Sum.inl (a : Int), V.bl true) :: kvJ l) _).isSome = _
      rw [valV_neg (fun q => e (by have q' := Sum.inl.inj q; omega)), valV_kvJ l h]
      rw [List.contains_cons]
      have : (h == a) = false := by simp; exact fun q => e q.symm
      rw [this, Bool.false_or]
/-- {k: v} -/
theorem ej_disp1 {X : Cx} {S : Sls} {M : Mp} {B : Bs} {k v : Expr} {pos : Pos} {i : Int} {y : V} {sh : Sh} {I H : Hp} {σ : L2.St} (s : Stt X.K B I H M σ S) (hk : ∀ M, EX X k S M (.d (.int i))) (hv : ∀ M, EX X v S M sh) (hy : ∀ I u, sh.ok X.K I u → u = y) {Q : VK}
    (q : ∀ p I2 H2, M p = none → Same I I2 → Stt X.K B I2 H2 (mset M p (.dct [(Sum.inl i, y)])) σ S → Q (.ref p) H2) : EJ X (.Dict [some k] [v] pos) σ H Q := by
  refine ej_of (pe_disp (pps_cons pe_ej pe_ej pps_nil) rfl rfl (by simp) (by show 1 ≤ 15; decide)) fun p hp => ?_
  have s1 := s.newM (mo := .dct []) hp upd_same
  refine hk _ I _ σ s1.x.t s1.l s1.m _ fun u I2 H2 e2 hu => ?_
  have s2 := s1.ext e2
  refine hv _ I2 _ σ s2.x.t s2.l s2.m _ fun u' I3 H3 e3 hu' => ?_
  have s3 := s2.ext e3
  obtain ⟨n1, g1⟩ := s3.m p _ mset_same
  refine ⟨g1, [(Sum.inl i, y)], by rw [dp_int hu, hy _ _ hu']; rfl, (by show 1 ≤ 15; decide), ?_⟩
  have s4 := s3.put (o := .dK (mergeK [] [(Sum.inl i, y)])) (mo := .dct [(Sum.inl i, y)]) mset_same upd_same
  rw [mset_mset] at s4
  exact q p I3 _ (fresh_M s.m hp) (e2.i.trans e3.i) s4
section
variable {P : Program} {w : World} {K : PySem.W.Frag} {mg : Str → Option Value} {base : Heap}
theorem sx_at {X : Cx} {sts : List Stmt} {D : Ends} {S : Sls} {M : Mp} {B : Bs} {I H : Hp} {σ : L2.St} (s : Stt X.K B I H M σ S) (h : SX X sts D S M B) : SJ X sts D σ H := h I H σ s
theorem room1 {k : Nat} {A : Around} (r : Room k A) : A.units + 1 < cLine := by have := r.un; omega
def BF : Nat := 6
def distRes (p : NetP) (ss : List Bool) : Option (List (Nat × Nat)) := bfs (near p ss) BF ([(0, 0)], [0])
def distL (p : NetP) (res : List (Nat × Nat)) : List Nat := (List.range p.n).map fun h => min ((lookN res h).getD p.far) p.far
theorem lookN_none {l : List (Nat × Nat)} {h : Nat} (e : (lookN l h).isSome = false) : valV (kvF l) (Sum.inl (h : Int)) = none := by
  rw [valV_kvF]
  cases q : lookN l h with
  | none => rfl
  | some z => rw [q] at e; cases e
theorem eqv_nil (xs : List PyData) : PyData.eqv (.list xs) (.list []) = xs.isEmpty := by
  rw [eqv_lst]; cases xs <;> simp [PyData.eqvAll]
theorem visit_len (d : Nat) : ∀ (l : List Nat) (st : List (Nat × Nat) × List Nat), (l.foldl (visit d) st).1.length ≤ st.1.length + l.length ∧ (l.foldl (visit d) st).2.length ≤ st.2.length + l.length
  | [], st => ⟨Nat.le_refl _, Nat.le_refl _⟩
  | o :: l, st => by
    have ih := visit_len d l (visit d st o)
    have h : (visit d st o).1.length ≤ st.1.length + 1 ∧ (visit d st o).2.length ≤ st.2.length + 1 := by
      unfold visit
      split
      · omega
      · simp
    rw [List.foldl_cons, List.length_cons]
    omega
def Ctrue_distances (ss : List Sh) (sh : Sh) : Prop := ∃ (p : NetP) (s : Sta) (res : List (Nat × Nat)), s.Fit p ∧ distRes p s.ss = some res ∧ ss = [.net p, .d (staD s)] ∧ sh = .nl ((distL p res).map nD)
theorem w_true_distances (T : Txt K mg) (Z : Tab w K mg) (h : Fn K mg "true_distances" (F_true_distances K)) (d_Book_init : MkP P w K mg base "Book" 1 (spI K "Book" CBook_init)) (d_Book_neighbours : MtP P w K mg base "Book" "neighbours" 1 (spP K CBook_neighbours)) (d_Net_len : MtP P w K mg base "Net" "__len__" 1 (spP K CNet_len)) : FnP P w K mg base "true_distances" 3 (spP K Ctrue_distances) := by
  obtain ⟨f, fd, h1, h2, F⟩ := h
  refine ⟨f, fd, _, h1, h2, bindsD F ?_, ok_pure (k := 2) F sc_true_distances ?_ ?_⟩
  · intro kV doc pm an cdv ct us hu
    match us, hu with
    | [a0, a1], _ => rfl
  · rintro ss sh ⟨p, st, res, fs, hres, rfl, rfl⟩; rfl
  rintro cdv A outer s H E ss sh B hr ⟨p, st, res, fs, hres, rfl, rfl⟩
  have h4 := fs.ok.n4
  have hle := fs.le
  have hls := fs.ls
  have h6 := fs.ok.ties.hi
  refine sx_asgV (t := gCons (gName 2) (gCons (gName 3) (gCons (gName 4) (gNil)))) ?_ ?_ (n := 3) ?_ ?_ ?_ ?_ ?_ ?_ ?_
  · exact rfl
  · exact pgs_cons (pg_name (i := 2) nd_true_distances (by rfl) (by first | exact Or.inl rfl | exact Or.inr rfl) (by first | exact .inl rfl | exact .inr rfl)) (pgs_cons (pg_name (i := 3) nd_true_distances (by rfl) (by first | exact Or.inl rfl | exact Or.inr rfl) (by first | exact .inl rfl | exact .inr rfl)) (pgs_cons (pg_name (i := 4) nd_true_distances (by rfl) (by first | exact Or.inl rfl | exact Or.inr rfl) (by first | exact .inl rfl | exact .inr rfl)) (pgs_nil)))
  · exact rfl
  · exact rfl
  · decide
  rotate_left
  · exact rfl
  · exact rfl
  · exact rfl
  refine fun I H σ s => aj_3 (I := I) ?_
  refine ej_disp1 (i := 0) (y := V.int 0) (sh := .d (.int 0)) s ?_ ?_ ?_ ?_
  · exact fun _ => ex_int
  · exact fun _ => ex_int
  · exact fun I u h => dp_int h
  refine fun q I1 H1 hMq i1 s1 => ?_
  refine exl_q s1 (exl_lst (ax_cons ex_int ax_nil) (by decide)) fun r I2 H2 hMr e2 s2 vs hrr hvs s3 => ?_
  refine ex_q s3 (ex_mkBook T d_Book_init hr (by rw [List.length_map]; omega) (by rw [List.length_map]; omega) (ax_cons (ex_var 0 rfl rfl) (ax_cons (ex_var 1 rfl rfl) ax_nil))) fun v I3 H3 s4 e4 hv => ⟨rfl, fun TT hT => ?_⟩
  refine ⟨_, _, rfl, _, _, rfl, _, _, rfl, rfl, ?_⟩
  have hqr : r ≠ q := fun e => by rw [e, mset_same] at hMr; cases hMr
  refine sx_at ((((s4.tell hT).set (sh := .v (.ref q)) 2 rfl).set (sh := .v (.ref r)) 3 rfl).set 4 hv) ?_
  refine sx_while (fun n S' M' => ∃ found line u v, M' = mset (mset M0 q (.dct (kvF found))) r (.lst ((line.map nD).map Sh.d)) ∧ bfs (near p st.ss) n (found, line) = some res ∧ found.length + line.length + 10 * n ≤ 100 ∧
    S' = [some (.net p), some (.d (staD st)), some (.v (.ref q)), some (.v (.ref r)), some (bkD p st.es st.ss), u, v]) BF own_nox ⟨[(0, 0)], [0], none, none, rfl, hres, by decide, rfl⟩ ?_
  rintro n S' M' ⟨found, line, u, v, rfl, hb, hln, rfl⟩
  have hMq' : mset (mset M0 q (.dct (kvF found))) r (.lst ((line.map nD).map Sh.d)) q = some (.dct (kvF found)) := by rw [mset_ne hqr.symm, mset_same]
  refine ⟨!line.isEmpty, tx_lend (.same (.same (.drop (.lst mset_same (.same (.same (.same .nil))))))) (TX.to (tx_c (c_ne hr.units ((Sd.list (Sd.map fun _ => sd_nD)).shaped (by decide)) rfl) (ex_var 3 rfl rfl) (ex_d (ex_lstD ad_nil))) ?_), fun hk => ?_, fun hk => ?_⟩
  · rw [eqv_nil]; cases line <;> rfl
  · cases line with
    | nil => cases hk
    | cons h line =>
      cases n with
      | zero => cases hb
      | succ n =>
        have hb : (match lookN found h with
          | none => none
          | some d => bfs (near p st.ss) n ((near p st.ss h).foldl (visit d) (found, line))) = some res := hb
        cases hd : lookN found h with
        | none => rw [hd] at hb; cases hb
        | some d =>
          rw [hd] at hb
          refine sx_setM 5 nd_true_distances rfl (mx_pop0 (sl := .d (nD h)) (xs := (line.map nD).map Sh.d) mset_same (ex_var 3 rfl rfl) ex_int) ?_
          rw [mset_mset]
          refine sx_for (is := [6]) (near p st.ss h) nD (fun o S => S.set 6 (some (.d (nD o))))
            (fun i S' M' => ∃ fo li, M' = mset (mset M0 q (.dct (kvF fo))) r (.lst ((li.map nD).map Sh.d)) ∧ lookN fo h = some d ∧ ((near p st.ss h).drop i).foldl (visit d) (fo, li) = (near p st.ss h).foldl (visit d) (found, line) ∧ fo.length ≤ found.length + i ∧ li.length ≤ line.length + i ∧
              ∃ v, S' = [some (.net p), some (.d (staD st)), some (.v (.ref q)), some (.v (.ref r)), some (bkD p st.es st.ss), some (.d (nD h)), v]) own_nox rfl
            (ix_lst (ex_d (ex_meth d_Book_neighbours T.cBook recv_book hr ⟨p, st.es, st.ss, h, fs.ok, rfl, rfl⟩ (ex_var 4 rfl rfl) (ax_cons (ex_var 5 rfl rfl) ax_nil)))) (fun o => gx_name 6 nd_true_distances rfl) ⟨found, line, rfl, hd, by rw [List.drop_zero], Nat.le_refl _, Nat.le_refl _, v, rfl⟩ ?_ ?_
          · rintro i o S' M' G hx ⟨fo, li, rfl, hf, hfold, l1, l2, v', rfl⟩
            have hlt := (List.getElem?_eq_some_iff.mp hx).1
            have hnl := near_len fs.ok st.ss h
            have hlc : (h :: line).length = line.length + 1 := List.length_cons
            have hdr : (near p st.ss h).drop i = o :: (near p st.ss h).drop (i + 1) := by rw [List.drop_eq_getElem_cons hlt, (List.getElem?_eq_some_iff.mp hx).2]
            rw [hdr, List.foldl_cons] at hfold
            have hMq2 : mset (mset M0 q (.dct (kvF fo))) r (.lst ((li.map nD).map Sh.d)) q = some (.dct (kvF fo)) := by rw [mset_ne hqr.symm, mset_same]
            refine sx_if (k := !(lookN fo o).isSome) (TX.to (tx_dnin (room1 hr) hMq2 (ex_var 6 rfl rfl) (ex_var 2 rfl rfl)) ?_) (fun hk2 => ?_) (fun hk2 => ?_)
            · rw [valV_kvF]; cases lookN fo o <;> rfl
            · have hk3 : (lookN fo o).isSome = false := by simpa using hk2
              have hv2 : visit d (fo, li) o = (fo ++ [(o, d + 1)], li ++ [o]) := by unfold visit; rw [if_neg (by rw [hk3]; exact Bool.false_ne_true)]
              rw [hv2] at hfold
              refine sx_dput (room1 hr) (v := V.int ((d : Int) + 1)) hMq2 (by unfold kvF; rw [List.length_map]; omega) (ex_add (ex_dget (sh := .d (nD d)) (room1 hr) hMq2 (by rw [valV_kvF, hf]; rfl) (fun _ => .int _) (ex_var 2 rfl rfl) (ex_var 5 rfl rfl)) ex_int) (fun I u h => dp_int h) (ex_var 2 rfl rfl) (ex_var 6 rfl rfl) ?_
              rw [putK_new (lookN_none hk3), mset_comm hqr, mset_mset]
              refine sx_app mset_same (by rw [List.length_map, List.length_map]; omega) (ex_var 3 rfl rfl) (ex_var 6 rfl rfl) ?_
              refine sx_go (sx_turn ⟨fo ++ [(o, d + 1)], li ++ [o], ?_, lookN_app hf, hfold, by rw [List.length_append, List.length_singleton]; omega, by rw [List.length_append, List.length_singleton]; omega, _, rfl⟩)
              rw [mset_mset]
              unfold kvF
              rw [List.map_append, List.map_append, List.map_append]
              rfl
            · have hk3 : (lookN fo o).isSome = true := by simpa using hk2
              have hv2 : visit d (fo, li) o = (fo, li) := by unfold visit; rw [if_pos hk3]
              rw [hv2] at hfold
              exact sx_go (sx_turn ⟨fo, li, rfl, hf, hfold, by omega, by omega, _, rfl⟩)
          · rintro S' M' ⟨fo, li, rfl, hf, hfold, l1, l2, v', rfl⟩
            rw [List.drop_eq_nil_of_le (Nat.le_refl _)] at hfold
            have hfold : (fo, li) = (near p st.ss h).foldl (visit d) (found, line) := hfold
            have hnl := near_len fs.ok st.ss h
            refine sx_turn ⟨n, Nat.lt_succ_self _, fo, li, _, _, rfl, by rw [hfold]; exact hb, ?_, rfl⟩
            rw [List.length_cons] at hln
            omega
  · cases line with
    | cons h line => cases hk
    | nil =>
      have hres' : found = res := by
        cases n with
        | zero => cases hb
        | succ n => cases hb; rfl
      subst hres'
      refine sx_ret (EX.to (ex_lc0 (List.range p.n) nD _ (fun h => nD (min ((lookN found h).getD p.far) p.far)) rfl nd_true_distances (IX.to (ix_rng1 T (by omega) (ex_lenNet T d_Net_len h4 hr (ex_var 0 rfl rfl))) (rng0 _)) (show BlkOk n_true_distances (defScope s_true_distances) _ [("host", 5)] from ⟨rfl, by decide +kernel, by decide +kernel, by decide +kernel, by decide +kernel⟩) (by rw [List.length_range]; omega) ?_ (fun s H C cl fp z => gx_name 5 nd_true_distances rfl) ?_) ?_)
      · decide
      · intro s H C cl fp z hz
        refine ex_toI (ex_min T rfl (ex_dget2 (sh := .d (nD ((lookN found z).getD p.far))) (room1 hr) hMq' (dv := V.int (p.far : Int)) (ex_endless T (ex_var 0 rfl rfl)) (fun I u h => dp_int h) (fun I => ?_) (ex_var 2 rfl rfl) (ex_var 5 rfl rfl)) (ex_endless T (ex_var 0 rfl rfl))) ?_
        · rw [valV_kvF]
          cases lookN found z with
          | none => exact .int _
          | some d => exact .int _
        · split <;> omega
      · unfold distL
        rw [List.map_map]
        rfl
def Ctruly (ss : List Sh) (sh : Sh) : Prop := ∃ (p : NetP) (s : Sta) (res : List (Nat × Nat)), Good p s ∧ distRes p s.ss = some res ∧ ss = [.net p, .d (staD s)] ∧ sh = .nl ((distL p res).map nD)
theorem w_truly (T : Txt K mg) (Z : Tab w K mg) (h : Fn K mg "truly" (F_truly K)) (d_check_state : FnP P w K mg base "check_state" 7 (spP K Ccheck_state)) (d_true_distances : FnP P w K mg base "true_distances" 3 (spP K Ctrue_distances)) : FnP P w K mg base "truly" 9 (spP K Ctruly) := by
  obtain ⟨f, fd, h1, h2, F⟩ := h
  refine ⟨f, fd, _, h1, h2, bindsD F ?_, ok_pure (k := 8) F sc_truly ?_ ?_⟩
  · intro kV doc pm an cdv ct us hu
    match us, hu with
    | [a0, a1], _ => rfl
  · rintro ss sh ⟨p, st, res, gd, hres, rfl, rfl⟩; rfl
  rintro cdv A outer s H E ss sh B hr ⟨p, st, res, gd, hres, rfl, rfl⟩
  refine sx_expr (ex_call d_check_state hr ⟨p, st, gd, rfl, rfl⟩ (ax_cons (ex_var 0 rfl rfl) (ax_cons (ex_var 1 rfl rfl) ax_nil))) ?_
  exact sx_ret (ex_call d_true_distances hr ⟨p, st, res, gd.fit, hres, rfl, rfl⟩ (ax_cons (ex_var 0 rfl rfl) (ax_cons (ex_var 1 rfl rfl) ax_nil)))
end
end HW
/-! Who is joined; rings; what is bad; what is a breach. -/
namespace HW
open PySem PySem.Spec L2
def joinRes (p : NetP) (ss : List Bool) (h : Nat) : Option (List Nat) := dfs (near p ss) BF ([h], [h])
theorem visitJ_len (l : List Nat) : ∀ (st : List Nat × List Nat), (l.foldl visitJ st).1.length ≤ st.1.length + l.length ∧ (l.foldl visitJ st).2.length ≤ st.2.length + l.length := by
  induction l with
  | nil => intro st; exact ⟨Nat.le_refl _, Nat.le_refl _⟩
  | cons o l ih =>
    intro st
    have ih := ih (visitJ st o)
    have h : (visitJ st o).1.length ≤ st.1.length + 1 ∧ (visitJ st o).2.length ≤ st.2.length + 1 := by
      unfold visitJ
      split
      · omega
      · simp
    rw [List.foldl_cons, List.length_cons]
    omega
def hopF (es : List Ent) : Option Nat → Option Nat
  | some (k + 1) => (entAt es (k + 1)).b
  | _ => none
def hops (es : List Ent) : Nat → Option Nat → Option Nat
  | 0, o => o
  | k + 1, o => hops es k (hopF es o)
def truthO : Option Nat → Bool
  | some (_ + 1) => true
  | _ => false
def ringAt (es : List Ent) (i : Nat) : Bool := truthO (hops es (es.length + 1) (some (1 + i)))
def ringF (es : List Ent) : Bool := (List.range es.length).any (ringAt es)
theorem truD_opt (o : Option Nat) : truD (optD o) = some (truthO o) := by
  cases o with
  | none => rfl
  | some k => cases k with
    | zero => rfl
    | succ k =>
      show some (((k + 1 : Nat) : Int) != 0) = some true
      rw [show ((((k + 1 : Nat) : Int) != 0) = true) from by simp; try omega]
theorem hops_succ (es : List Ent) : ∀ (k : Nat) (o : Option Nat), hops es (k + 1) o = hopF es (hops es k o)
  | 0, o => rfl
  | k + 1, o => hops_succ es k (hopF es o)
section
variable {P : Program} {w : World} {K : PySem.W.Frag} {mg : Str → Option Value} {base : Heap}
def Care_joined (ss : List Sh) (sh : Sh) : Prop := ∃ (p : NetP) (s : Sta) (h : Nat) (res : List Nat), s.Fit p ∧ joinRes p s.ss h = some res ∧ ss = [.net p, .d (staD s), .d (nD h)] ∧ sh = .d (.bool (res.contains 0))
theorem w_are_joined (T : Txt K mg) (Z : Tab w K mg) (h : Fn K mg "are_joined" (F_are_joined K)) (d_Book_init : MkP P w K mg base "Book" 1 (spI K "Book" CBook_init)) (d_Book_neighbours : MtP P w K mg base "Book" "neighbours" 1 (spP K CBook_neighbours)) : FnP P w K mg base "are_joined" 3 (spP K Care_joined) := by
  obtain ⟨f, fd, h1, h2, F⟩ := h
  refine ⟨f, fd, _, h1, h2, bindsD F ?_, ok_pure (k := 2) F sc_are_joined ?_ ?_⟩
  · intro kV doc pm an cdv ct us hu
    match us, hu with
    | [a0, a1, a2], _ => rfl
  · rintro ss sh ⟨p, st, h0, res, fs, hres, rfl, rfl⟩; rfl
  rintro cdv A outer s H E ss sh B hr ⟨p, st, h0, res, fs, hres, rfl, rfl⟩
  have h4 := fs.ok.n4
  have hle := fs.le
  have hls := fs.ls
  have h6 := fs.ok.ties.hi
  refine sx_par3 3 4 5 rfl nd_are_joined rfl rfl rfl (by decide) (by decide) (by decide) (M' := M0) ?_ ?_ ?_ ?_ ?_ ?_ ?_ ?_ ?_
  rotate_left
  · rfl
  · rfl
  · rfl
  · rfl
  · rfl
  · rfl
  · rfl
  · rfl
  refine fun I H σ s => ?_
  refine ej_disp1 (i := (h0 : Int)) (y := V.bl true) (sh := .d (.bool true)) s ?_ ?_ ?_ ?_
  · exact fun _ => (ex_var 2 rfl rfl)
  · exact fun _ => ex_bl
  · exact fun I u h => dp_bl h
  refine fun q I1 H1 hMq i1 s1 => ?_
  refine exl_q s1 (exl_lst (ax_cons (ex_var 2 rfl rfl) ax_nil) (by show 1 ≤ 100000; decide)) fun r I2 H2 hMr e2 s2 vs hrr hvs s3 => ?_
  refine ex_q s3 (ex_mkBook T d_Book_init hr (by rw [List.length_map]; omega) (by rw [List.length_map]; omega) (ax_cons (ex_var 0 rfl rfl) (ax_cons (ex_var 1 rfl rfl) ax_nil))) fun v I3 H3 s4 e4 hv => ?_
  have hqr : r ≠ q := fun e => by rw [e, mset_same] at hMr; cases hMr
  refine sx_at (((s4.set (sh := .v (.ref q)) 3 rfl).set (sh := .v (.ref r)) 4 rfl).set 5 hv) ?_
  refine sx_while (fun n S' M' => ∃ found line v, M' = mset (mset M0 q (.dct (kvJ found))) r (.lst ((line.map nD).map Sh.d)) ∧ dfs (near p st.ss) n (found, line) = some res ∧ found.length + line.length + 10 * n ≤ 100 ∧
    S' = [some (.net p), some (.d (staD st)), some (.d (nD h0)), some (.v (.ref q)), some (.v (.ref r)), some (bkD p st.es st.ss), v]) BF own_nox ⟨[h0], [h0], none, rfl, hres, by show 1 + 1 + 10 * 6 ≤ 100; decide, rfl⟩ ?_
  rintro n S' M' ⟨found, line, v, rfl, hb, hln, rfl⟩
  have hMq' : mset (mset M0 q (.dct (kvJ found))) r (.lst ((line.map nD).map Sh.d)) q = some (.dct (kvJ found)) := by rw [mset_ne hqr.symm, mset_same]
  refine ⟨!line.isEmpty, tx_lend (.same (.same (.same (.drop (.lst mset_same (.same (.same .nil))))))) (TX.to (tx_c (c_ne hr.units ((Sd.list (Sd.map fun _ => sd_nD)).shaped (by decide)) rfl) (ex_var 4 rfl rfl) (ex_d (ex_lstD ad_nil))) ?_), fun hk => ?_, fun hk => ?_⟩
  · rw [eqv_nil]; cases line <;> rfl
  · cases n with
    | zero => cases hb
    | succ n =>
      have hb : (match line.getLast? with
        | none => some found
        | some h => dfs (near p st.ss) n ((near p st.ss h).foldl visitJ (found, line.dropLast))) = some res := hb
      cases hg : line.getLast? with
      | none =>
        have : line = [] := List.getLast?_eq_none_iff.mp hg
        rw [this] at hk
        cases hk
      | some h =>
        rw [hg] at hb
        have hll : (((line.map nD).map Sh.d))[((line.map nD).map Sh.d).length - 1]? = some (.d (nD h)) := by
          rw [← List.getLast?_eq_getElem?, List.getLast?_map, List.getLast?_map, hg]
          rfl
        have hdl : (((line.map nD).map Sh.d)).dropLast = (line.dropLast.map nD).map Sh.d := by rw [List.map_dropLast, List.map_dropLast]
        have hlen : line.dropLast.length + 1 = line.length := by
          cases line with
          | nil => cases hk
          | cons a l => rw [List.length_dropLast, List.length_cons]; omega
        refine sx_forM (is := [6]) (near p st.ss h) nD (fun o S => S.set 6 (some (.d (nD o))))
          (fun i S' M' => ∃ fo li, M' = mset (mset M0 q (.dct (kvJ fo))) r (.lst ((li.map nD).map Sh.d)) ∧ ((near p st.ss h).drop i).foldl visitJ (fo, li) = (near p st.ss h).foldl visitJ (found, line.dropLast) ∧ fo.length ≤ found.length + i ∧ li.length ≤ line.dropLast.length + i ∧
            ∃ v, S' = [some (.net p), some (.d (staD st)), some (.d (nD h0)), some (.v (.ref q)), some (.v (.ref r)), some (bkD p st.es st.ss), v]) own_nox rfl
          (ixm_lst (mx_d (mx_methA d_Book_neighbours T.cBook recv_book hr ⟨p, st.es, st.ss, h, fs.ok, rfl, rfl⟩ (ex_var 5 rfl rfl) (am_cons (mx_pop mset_same hll (ex_var 4 rfl rfl)) am_nil)))) (fun o => gx_name 6 nd_are_joined rfl) ⟨found, line.dropLast, by rw [mset_mset, hdl], by rw [List.drop_zero], Nat.le_refl _, Nat.le_refl _, v, rfl⟩ ?_ ?_
        · rintro i o S' M' G hx ⟨fo, li, rfl, hfold, l1, l2, v', rfl⟩
          have hlt := (List.getElem?_eq_some_iff.mp hx).1
          have hnl := near_len fs.ok st.ss h
          have hdr : (near p st.ss h).drop i = o :: (near p st.ss h).drop (i + 1) := by rw [List.drop_eq_getElem_cons hlt, (List.getElem?_eq_some_iff.mp hx).2]
          rw [hdr, List.foldl_cons] at hfold
          have hMq2 : mset (mset M0 q (.dct (kvJ fo))) r (.lst ((li.map nD).map Sh.d)) q = some (.dct (kvJ fo)) := by rw [mset_ne hqr.symm, mset_same]
          refine sx_if (k := !fo.contains o) (TX.to (tx_dnin (room1 hr) hMq2 (ex_var 6 rfl rfl) (ex_var 3 rfl rfl)) ?_) (fun hk2 => ?_) (fun hk2 => ?_)
          · rw [valV_kvJ]
          · have hk3 : fo.contains o = false := by simpa using hk2
            have hv2 : visitJ (fo, li) o = (fo ++ [o], li ++ [o]) := by unfold visitJ; rw [if_neg (by rw [hk3]; exact Bool.false_ne_true)]
            rw [hv2] at hfold
            have hnone : valV (kvJ fo) (Sum.inl (o : Int)) = none := by
              have := valV_kvJ fo o
              rw [hk3] at this
              cases e : valV (kvJ fo) (Sum.inl (o : Int)) with
              | none => rfl
              | some z => rw [e] at this; cases this
            refine sx_dput (room1 hr) (v := V.bl true) hMq2 (by unfold kvJ; rw [List.length_map]; omega) ex_bl (fun I u h => dp_bl h) (ex_var 3 rfl rfl) (ex_var 6 rfl rfl) ?_
            rw [putK_new hnone, mset_comm hqr, mset_mset]
            refine sx_app mset_same (by rw [List.length_map, List.length_map]; omega) (ex_var 4 rfl rfl) (ex_var 6 rfl rfl) ?_
            refine sx_go (sx_turn ⟨fo ++ [o], li ++ [o], ?_, hfold, by rw [List.length_append, List.length_singleton]; omega, by rw [List.length_append, List.length_singleton]; omega, _, rfl⟩)
            rw [mset_mset]
            unfold kvJ
            rw [List.map_append, List.map_append, List.map_append]
            rfl
          · have hk3 : fo.contains o = true := by simpa using hk2
            have hv2 : visitJ (fo, li) o = (fo, li) := by unfold visitJ; rw [if_pos hk3]
            rw [hv2] at hfold
            exact sx_go (sx_turn ⟨fo, li, rfl, hfold, by omega, by omega, _, rfl⟩)
        · rintro S' M' ⟨fo, li, rfl, hfold, l1, l2, v', rfl⟩
          rw [List.drop_eq_nil_of_le (Nat.le_refl _)] at hfold
          have hfold : (fo, li) = (near p st.ss h).foldl visitJ (found, line.dropLast) := hfold
          have hnl := near_len fs.ok st.ss h
          refine sx_turn ⟨n, Nat.lt_succ_self _, fo, li, _, rfl, by rw [hfold]; exact hb, ?_, rfl⟩
          omega
  · have hl0 : line = [] := by cases line with
      | nil => rfl
      | cons a l => cases hk
    subst hl0
    have hres' : found = res := by
      cases n with
      | zero => cases hb
      | succ n => cases hb; rfl
    subst hres'
    exact sx_ret (ex_toB (ex_din (room1 hr) hMq' ex_int (ex_var 3 rfl rfl)) (valV_kvJ found 0))
/-! has_ring -/
def Chas_ring (ss : List Sh) (sh : Sh) : Prop := ∃ (s : Sta), s.es.length ≤ 10 ∧ (∀ h k, (entAt s.es h).b = some k → k ≤ s.es.length) ∧ ss = [.d (staD s)] ∧ sh = .d (.bool (ringF s.es))
theorem w_has_ring (T : Txt K mg) (Z : Tab w K mg) (h : Fn K mg "has_ring" (F_has_ring K)) : FnP P w K mg base "has_ring" 1 (spP K Chas_ring) := by
  obtain ⟨f, fd, h1, h2, F⟩ := h
  refine ⟨f, fd, _, h1, h2, bindsD F ?_, ok_pure (k := 0) F sc_has_ring ?_ ?_⟩
  · intro kV doc pm an cdv ct us hu
    match us, hu with
    | [a0], _ => rfl
  · rintro ss sh ⟨st, hz, hbd, rfl, rfl⟩; rfl
  rintro cdv A outer s H E ss sh B hr ⟨st, hz, hbd, rfl, rfl⟩
  have hlen : ((st.es.map entD).length : Int) = ((st.es.length : Nat) : Int) := by rw [List.length_map]
  refine sx_for (is := [1]) (List.range st.es.length) (fun i => nD (1 + i)) (fun i S => S.set 1 (some (.d (nD (1 + i)))))
    (fun i S' M' => M' = M0 ∧ (∀ j, j < i → ringAt st.es j = false) ∧ ∃ u v x, S' = [some (.d (staD st)), u, v, x]) own_nox rfl
    (ix_rng2 T (lo := 1) (n := st.es.length) (by omega) rfl (by rw [hlen]; omega) (by rw [hlen]; omega) (by rw [hlen]; omega) ex_int (ex_add (ex_lenT T (ex_ixT (ex_var 0 rfl rfl) ex_int rfl)) ex_int))
    (fun i => gx_name 1 nd_has_ring rfl) ⟨rfl, fun j hj => absurd hj (Nat.not_lt_zero _), none, none, none, rfl⟩ ?_ ?_
  · rintro i k S' M' G hx ⟨rfl, hno, u, v, x, rfl⟩
    have hi : i < st.es.length := by
      have := (List.getElem?_eq_some_iff.mp hx).1
      rw [List.length_range] at this
      exact this
    have hki : k = i := by rw [List.getElem?_range hi] at hx; cases hx; rfl
    subst hki
    refine sx_set 2 nd_has_ring rfl (ex_var 1 rfl rfl) ?_
    refine sx_for (is := [3]) (List.range (st.es.length + 1)) nD (fun i S => S.set 3 (some (.d (nD i))))
      (fun i S' M' => M' = M0 ∧ (∀ j, hops st.es i (some (1 + k)) = some j → j ≤ st.es.length) ∧ ∃ x, S' = [some (.d (staD st)), some (.d (nD (1 + k))), some (.d (optD (hops st.es i (some (1 + k))))), x]) own_nox rfl
      (IX.to (ix_rng1 T (n := st.es.length + 1) (by omega) (ex_toI (j := ((st.es.length + 1 : Nat) : Int)) (ex_add (ex_lenT T (ex_ixT (ex_var 0 rfl rfl) ex_int rfl)) ex_int) (by rw [hlen]; omega))) (rng0 _))
      (fun i => gx_name 3 nd_has_ring rfl) ⟨rfl, fun j hj => by cases hj; omega, x, rfl⟩ ?_ ?_
    · rintro i t S' M' G hx2 ⟨rfl, hbnd, x, rfl⟩
      refine sx_set 2 nd_has_ring rfl (sh := .d (optD (hops st.es (i + 1) (some (1 + k))))) (ex_if (k := truthO (hops st.es i (some (1 + k)))) (tx_tru (ex_var 2 rfl rfl) (truD_opt _)) (fun hk => ?_) (fun hk => ?_)) ?_
      · cases ho : hops st.es i (some (1 + k)) with
        | none => rw [ho] at hk; cases hk
        | some m =>
          cases m with
          | zero => rw [ho] at hk; cases hk
          | succ m =>
            have hm := hbnd _ ho
            rw [hops_succ, ho]
            exact ex_ixT (d := optD (entAt st.es (m + 1)).b) (ex_ixT (ex_ixT (ex_var 0 rfl rfl) ex_int rfl) (ex_toI (j := (m : Int)) (ex_sub (ex_var 2 rfl rfl) ex_int) (by omega)) (atI_nat (x := entD (entAt st.es (m + 1))) (by rw [List.getElem?_map, show st.es[m]? = (z0 :: st.es)[m + 1]? from rfl, ent_get' (by omega)]; rfl))) ex_int rfl
      · rw [hops_succ]
        cases ho : hops st.es i (some (1 + k)) with
        | none => exact ex_non
        | some m =>
          cases m with
          | zero => exact ex_non
          | succ m => rw [ho] at hk; cases hk
      · refine sx_turn ⟨rfl, fun j hj => ?_, _, rfl⟩
        rw [hops_succ] at hj
        cases ho : hops st.es i (some (1 + k)) with
        | none => rw [ho] at hj; cases hj
        | some m =>
          cases m with
          | zero => rw [ho] at hj; cases hj
          | succ m => rw [ho] at hj; exact hbd _ _ hj
    · rintro S' M' ⟨rfl, hbnd, x, rfl⟩
      rw [List.length_range] at hbnd ⊢
      refine sx_if (k := ringAt st.es k) (tx_tru (ex_var 2 rfl rfl) (truD_opt _)) (fun hk => ?_) (fun hk => ?_)
      · refine sx_ret (ex_toB ex_bl ?_)
        unfold ringF
        rw [List.any_eq_true.mpr ⟨k, List.mem_range.mpr hi, hk⟩]
      · refine sx_go (sx_turn ⟨rfl, fun j hj => ?_, _, _, _, rfl⟩)
        rcases Nat.lt_succ_iff_lt_or_eq.mp hj with h | h
        · exact hno j h
        · rw [h]; exact hk
  · rintro S' M' ⟨rfl, hno, u, v, x, rfl⟩
    rw [List.length_range] at hno
    refine sx_ret (ex_toB ex_bl ?_)
    unfold ringF
    rw [Bool.eq_iff_iff]
    constructor
    · intro h; cases h
    · intro h
      obtain ⟨j, hj, hk⟩ := List.any_eq_true.mp h
      rw [hno j (List.mem_range.mp hj)] at hk
      cases hk
end
end HW
/-! What is bad, what is a breach, weavings. -/
namespace HW
open PySem PySem.Spec L2
/-- what is known of a state of a weaving -/
structure Fine (p : NetP) (s : Sta) : Prop where
  good : Good p s
  alive : Alive p s
  bys : ∀ h k, (entAt s.es h).b = some k → k ≤ s.es.length
  dist : ∃ res, distRes p s.ss = some res
  join : ∀ h, h < p.n → ∃ res, joinRes p s.ss h = some res
def trueD (p : NetP) (s : Sta) : List Nat := distL p ((distRes p s.ss).getD [])
def joined (p : NetP) (s : Sta) (h : Nat) : Bool := ((joinRes p s.ss h).getD []).contains 0
def isBadF (p : NetP) (s : Sta) (wish : Str) : Bool :=
  if wish = "ring" then ringF s.es else if wish = "wrong" then (settledF p s && !decide (s.es.map (·.d) = (trueD p s).drop 1)) else false
def breachF (p : NetP) (s s' : Sta) (d : Deed) (wish : Str) : Bool := match d with
  | .tell _ o => if wish = "climb" then decide ((entAt s.es o).d < (entAt s'.es o).d) && decide ((entAt s'.es o).d < p.far)
      else if wish = "misled" then decide ((entAt s'.es o).d < (entAt s.es o).d) && decide ((entAt s.es o).d = p.far) && !joined p s o else false
  | _ => false
section
variable {P : Program} {w : World} {K : PySem.W.Frag} {mg : Str → Option Value} {base : Heap}
theorem es10 {p : NetP} {s : Sta} (fs : s.Fit p) : s.es.length ≤ 10 := by have := fs.le; have := fs.ok.n4; omega
def Cis_bad (ss : List Sh) (sh : Sh) : Prop := ∃ (p : NetP) (s : Sta) (wish : Str), Fine p s ∧ ss = [.net p, .d (staD s), .d (.str wish)] ∧ sh = .d (.bool (isBadF p s wish))
theorem w_is_bad (T : Txt K mg) (Z : Tab w K mg) (h : Fn K mg "is_bad" (F_is_bad K)) (d_has_ring : FnP P w K mg base "has_ring" 1 (spP K Chas_ring)) (d_is_settled : FnP P w K mg base "is_settled" 15 (spP K Cis_settled)) (d_true_distances : FnP P w K mg base "true_distances" 3 (spP K Ctrue_distances)) : FnP P w K mg base "is_bad" 17 (spP K Cis_bad) := by
  obtain ⟨f, fd, h1, h2, F⟩ := h
  refine ⟨f, fd, _, h1, h2, bindsD F ?_, ok_pure (k := 16) F sc_is_bad ?_ ?_⟩
  · intro kV doc pm an cdv ct us hu
    match us, hu with
    | [a0, a1, a2], _ => rfl
  · rintro ss sh ⟨p, st, wish, fi, rfl, rfl⟩; rfl
  rintro cdv A outer s H E ss sh B hr ⟨p, st, wish, fi, rfl, rfl⟩
  have fs := fi.good.fit
  obtain ⟨res, hres⟩ := fi.dist
  have ht : trueD p st = distL p res := by unfold trueD; rw [hres]; rfl
  refine sx_if (k := decide (wish = "ring")) (tx_c c_eqS (ex_var 2 rfl rfl) ex_str) (fun hk => ?_) (fun hk => ?_)
  · refine sx_ret (ex_toB (ex_call d_has_ring hr ⟨st, es10 fs, fi.bys, rfl, rfl⟩ (ax_cons (ex_var 1 rfl rfl) ax_nil)) ?_)
    unfold isBadF
    rw [if_pos (of_decide_eq_true hk)]
  · have hk := of_decide_eq_false hk
    refine sx_go (sx_if (k := !decide (wish = "wrong") || !settledF p st) (tx_w (wx_or (tx_c c_neS (ex_var 2 rfl rfl) ex_str) fun _ => wx_or1 (tx_not (tx_val (ex_call d_is_settled hr ⟨p, st, fs, fi.alive, rfl, rfl⟩ (ax_cons (ex_var 0 rfl rfl) (ax_cons (ex_var 1 rfl rfl) ax_nil))))))) (fun hk2 => ?_) (fun hk2 => ?_))
    · refine sx_ret (ex_toB ex_bl ?_)
      unfold isBadF
      rw [if_neg hk]
      by_cases hw : wish = "wrong"
      · rw [if_pos hw]
        rw [decide_eq_true hw] at hk2
        have : settledF p st = false := by simpa using hk2
        rw [this]; rfl
      · rw [if_neg hw]
    · have hk3 : wish = "wrong" ∧ settledF p st = true := by simpa using hk2
      have e1 : st.es.map (fun e => nD e.d) = (st.es.map (·.d)).map nD := by rw [List.map_map]; rfl
      have e2 : cutD ((distL p res).map nD) (some 1) none = ((distL p res).drop 1).map nD := (cutD_from _ 1).trans (List.map_drop ..).symm
      refine sx_go (sx_ret (ex_toB (ex_c (c_ne (f := .list (((distL p res).drop 1).map nD)) hr.units (Sd.shaped (k := 1) (Sd.list ?_) (by decide)) (Sd.shaped (k := 1) (Sd.list (Sd.map fun _ => sd_nD)) (by decide)))
        (ex_d (ex_lc0 st.es entD _ (fun e => nD e.d) rfl nd_is_bad (ix_tup (ex_ixT (ex_var 1 rfl rfl) ex_int rfl)) (show BlkOk n_is_bad (defScope s_is_bad) _ [("entry", 3)] from ⟨rfl, by decide +kernel, by decide +kernel, by decide +kernel, by decide +kernel⟩) (by have := es10 fs; omega) ?_ (fun s H C cl fp z => gx_name 3 nd_is_bad rfl) ?_))
        (EX.to (ex_d (ex_slL (ex_d (ex_call d_true_distances hr ⟨p, st, res, fs, hres, rfl, rfl⟩ (ax_cons (ex_var 0 rfl rfl) (ax_cons (ex_var 1 rfl rfl) ax_nil)))) (ox_some ex_int) ox_none)) (by rw [e2]))) ?_))
      · exact Sd.map fun _ => sd_nD
      · decide
      · intro s H C cl fp z hz
        exact ex_ixT (ex_var 3 rfl rfl) ex_int rfl
      · unfold isBadF
        rw [if_neg hk, if_pos hk3.1, hk3.2, e1, eqv_lst, eqvAll_map eqv_nD, ht]
        rfl
def Cis_breach (ss : List Sh) (sh : Sh) : Prop := ∃ (p : NetP) (s s' : Sta) (d : Deed) (wish : Str), Fine p s ∧ s'.Fit p ∧ d.Fit p ∧ doF p s d = some s' ∧ ss = [.net p, .d (staD s), .d (deedD d), .d (.str wish)] ∧ sh = .d (.bool (breachF p s s' d wish))
theorem es_at {s : Sta} {o : Nat} (h1 : 1 ≤ o) (h2 : o < s.es.length + 1) : (s.es.map entD)[o - 1]? = some (entD (entAt s.es o)) := by
  obtain ⟨k, rfl⟩ : ∃ k, o = k + 1 := ⟨o - 1, by omega⟩
  show (s.es.map entD)[k]? = _
  rw [List.getElem?_map, show s.es[k]? = (z0 :: s.es)[k + 1]? from rfl, ent_get' (by omega)]
  rfl
theorem w_is_breach (T : Txt K mg) (Z : Tab w K mg) (h : Fn K mg "is_breach" (F_is_breach K)) (d_done : FnP P w K mg base "done" 13 (spP K Cdone)) (d_are_joined : FnP P w K mg base "are_joined" 3 (spP K Care_joined)) : FnP P w K mg base "is_breach" 15 (spP K Cis_breach) := by
  obtain ⟨f, fd, h1, h2, F⟩ := h
  refine ⟨f, fd, _, h1, h2, bindsD F ?_, ok_pure (k := 14) F sc_is_breach ?_ ?_⟩
  · intro kV doc pm an cdv ct us hu
    match us, hu with
    | [a0, a1, a2, a3], _ => rfl
  · rintro ss sh ⟨p, st, st', d, wish, fi, fs', fd, hl, rfl, rfl⟩; rfl
  rintro cdv A outer s H E ss sh B hr ⟨p, st, st', d, wish, fi, fs', fd, hl, rfl, rfl⟩
  have fs := fi.good.fit
  have hle := fs.le
  have hle' := fs'.le
  cases d with
  | fall t =>
    refine sx_if (k := true) (tx_w (wx_orT (TX.to (tx_c c_neS (ex_ixT (ex_var 2 rfl rfl) ex_int rfl) ex_str) (by decide +kernel)))) (fun _ => sx_ret ex_bl) (fun h => nomatch h)
  | come t =>
    refine sx_if (k := true) (tx_w (wx_orT (TX.to (tx_c c_neS (ex_ixT (ex_var 2 rfl rfl) ex_int rfl) ex_str) (by decide +kernel)))) (fun _ => sx_ret ex_bl) (fun h => nomatch h)
  | tell one o =>
    obtain ⟨f1, f2, f3⟩ := fd
    obtain ⟨jr, hjr⟩ := fi.join o f3
    have hj : joined p st o = jr.contains 0 := by unfold joined; rw [hjr]; rfl
    refine sx_if (k := !(["climb", "misled"] : List Str).any fun y => y == wish) (tx_w (wx_orF (TX.to (tx_c c_neS (ex_ixT (ex_var 2 rfl rfl) ex_int rfl) ex_str) (by decide +kernel)) (wx_or1 (tx_c (c_ninTS (ns := ["climb", "misled"])) (ex_var 3 rfl rfl) (ex_gTup rfl Z.bd))))) (fun hk => ?_) (fun hk => ?_)
    · refine sx_ret (ex_toB ex_bl ?_)
      have h1 : ¬ wish = "climb" := fun e => by subst e; simp at hk
      have h2 : ¬ wish = "misled" := fun e => by subst e; simp at hk
      show false = (if wish = "climb" then _ else if wish = "misled" then _ else false)
      rw [if_neg h1, if_neg h2]
    · refine sx_go (sx_par 4 5 (s1 := .d (nD (entAt st.es o).d)) (s2 := .d (nD (entAt st'.es o).d)) rfl nd_is_breach rfl rfl (by decide)
        (ex_ixT (ex_ixT (ex_ixT (ex_var 1 rfl rfl) ex_int rfl) (ex_toI (j := ((o - 1 : Nat) : Int)) (ex_sub (ex_ixT (d := nD o) (ex_var 2 rfl rfl) ex_int rfl) ex_int) (by omega)) (atI_nat (es_at f2 (by omega)))) ex_int rfl)
        (ex_ixT (ex_ixT (ex_ixT (ex_call d_done hr ⟨p, st, st', .tell one o, fs, ⟨f1, f2, f3⟩, hl, rfl, rfl⟩ (ax_cons (ex_var 0 rfl rfl) (ax_cons (ex_var 1 rfl rfl) (ax_cons (ex_var 2 rfl rfl) ax_nil)))) ex_int rfl) (ex_toI (j := ((o - 1 : Nat) : Int)) (ex_sub (ex_ixT (d := nD o) (ex_var 2 rfl rfl) ex_int rfl) ex_int) (by omega)) (atI_nat (es_at f2 (by omega)))) ex_int rfl) ?_)
      refine sx_if (k := decide (wish = "climb")) (tx_c c_eqS (ex_var 3 rfl rfl) ex_str) (fun hk2 => ?_) (fun hk2 => ?_)
      · refine sx_ret (ex_toB (ex_ch c_lt (fun _ => c_lt) (ex_var 4 rfl rfl) (ex_var 5 rfl rfl) (ex_endless T (ex_var 0 rfl rfl))) ?_)
        show _ = (if wish = "climb" then _ else if wish = "misled" then _ else false)
        rw [if_pos (of_decide_eq_true hk2)]
        congr 1 <;> (rw [decide_eq_decide]; omega)
      · have hk2 := of_decide_eq_false hk2
        have hm : wish = "misled" := by
          have : (["climb", "misled"] : List Str).any (fun y => y == wish) = true := by
            cases hx : (["climb", "misled"] : List Str).any (fun y => y == wish) with
            | true => rfl
            | false => rw [hx] at hk; cases hk
          obtain ⟨y, hy, e⟩ := List.any_eq_true.mp this
          have e := eq_of_beq e
          subst e
          simp only [List.mem_cons, List.not_mem_nil, or_false] at hy
          rcases hy with h | h
          · exact absurd h hk2
          · exact h
        refine sx_go (sx_ret (ex_toB (ex_and (ex_ch c_lt (fun _ => c_eqI) (ex_var 5 rfl rfl) (ex_var 4 rfl rfl) (ex_endless T (ex_var 0 rfl rfl))) fun _ => ex_one (ex_not (ex_call d_are_joined hr ⟨p, st, o, jr, fs, hjr, rfl, rfl⟩ (ax_cons (ex_var 0 rfl rfl) (ax_cons (ex_var 1 rfl rfl) (ax_cons (ex_ixT (d := nD o) (ex_var 2 rfl rfl) ex_int rfl) ax_nil)))))) ?_))
        show _ = (if wish = "climb" then _ else if wish = "misled" then _ else false)
        rw [if_neg hk2, if_pos hm, hj]
        congr 1
        congr 1 <;> (rw [decide_eq_decide]; omega)
/-! weavings -/
/-- a weaving: its deeds, the states behind them -/
inductive Weave (p : NetP) : Sta → List Deed → List Sta → Prop
  | nil {s : Sta} : Weave p s [] []
  | cons {s s' : Sta} {d : Deed} {ds : List Deed} {ss : List Sta} : Fine p s → d.Fit p → d ∈ ableF p s → doF p s d = some s' → Weave p s' ds ss → Weave p s (d :: ds) (s' :: ss)
/-- what comes behind a weaving: nothing, or something that cannot be done -/
def Tail (p : NetP) (s : Sta) (t : List PyData) : Prop := t = [] ∨ ∃ x r, t = x :: r ∧ isDeedF p s x = false ∧ Sd 60 x ∧ ∀ ds, x = .tuple ds → ds.length ≤ 1000
def lastS (s : Sta) (ss : List Sta) : Sta := ss.getLast?.getD s
theorem Weave.len {p : NetP} {s : Sta} {ds : List Deed} {ss : List Sta} (h : Weave p s ds ss) : ds.length = ss.length := by
  induction h with
  | nil => rfl
  | cons _ _ _ _ _ ih => rw [List.length_cons, List.length_cons, ih]
def stAt (s : Sta) (ss : List Sta) (i : Nat) : Sta := (s :: ss).getD i s
theorem stAt_get {s : Sta} {ss : List Sta} {i : Nat} (h : i < ss.length + 1) : (s :: ss)[i]? = some (stAt s ss i) := by
  unfold stAt
  rw [List.getD_eq_getElem?_getD, List.getElem?_eq_getElem (by rw [List.length_cons]; exact h)]
  rfl
theorem Weave.step {p : NetP} : ∀ {ds : List Deed} {s : Sta} {ss : List Sta} {i : Nat} {d : Deed}, Weave p s ds ss → ds[i]? = some d → Fine p (stAt s ss i) ∧ d.Fit p ∧ d ∈ ableF p (stAt s ss i) ∧ doF p (stAt s ss i) d = some (stAt s ss (i + 1))
  | [], s, ss, i, d, h, e => by simp at e
  | d0 :: ds, s, _, 0, d, .cons (s' := s') (ss := ss) h1 h2 h3 h4 h5, e => by
    simp at e
    subst e
    exact ⟨h1, h2, h3, h4⟩
  | d0 :: ds, s, _, i + 1, d, .cons (s' := s') (ss := ss) h1 h2 h3 h4 h5, e => by
    have hi : i < ds.length := by
      have := (List.getElem?_eq_some_iff.mp (show ds[i]? = some d by simpa using e)).1
      exact this
    have hl := h5.len
    have e1 : stAt s (s' :: ss) (i + 1) = stAt s' ss i := by
      have a := stAt_get (s := s) (ss := s' :: ss) (i := i + 1) (by rw [List.length_cons]; omega)
      have b := stAt_get (s := s') (ss := ss) (i := i) (by omega)
      rw [List.getElem?_cons_succ, b] at a
      exact (Option.some.inj a).symm
    have e2 : stAt s (s' :: ss) (i + 1 + 1) = stAt s' ss (i + 1) := by
      have a := stAt_get (s := s) (ss := s' :: ss) (i := i + 1 + 1) (by rw [List.length_cons]; omega)
      have b := stAt_get (s := s') (ss := ss) (i := i + 1) (by omega)
      rw [List.getElem?_cons_succ, b] at a
      exact (Option.some.inj a).symm
    rw [e1, e2]
    exact Weave.step h5 (by simpa using e)
theorem isDeed_able {p : NetP} (ok : p.Ok) {s : Sta} {d : Deed} (hf : d.Fit p) (h : d ∈ ableF p s) : isDeedF p s (deedD d) = true := by
  have h4 := ok.n4
  have h6 := ok.ties.hi
  have ha : ((ableF p s).any fun e => PyData.eqv (deedD e) (deedD d)) = true := List.any_eq_true.mpr ⟨d, h, by rw [eqv_deed]; simp⟩
  have nm : ∀ k : Nat, k ≤ 9 → isNum (nD k) 0 9 = true := fun k hk => isNum_t (by omega) (by omega)
  cases d with
  | tell a b =>
    obtain ⟨f1, f2, f3⟩ := hf
    show ([nD a, nD b].all (fun z => isNum z 0 9) && ((ableF p s).any fun e => PyData.eqv (deedD e) (deedD (.tell a b)))) = true
    rw [ha]
    simp only [List.all_cons, List.all_nil, nm a (by omega), nm b (by omega)]
    rfl
  | fall t =>
    have hf : t < p.ties.length := hf
    show ([nD t].all (fun z => isNum z 0 9) && ((ableF p s).any fun e => PyData.eqv (deedD e) (deedD (.fall t)))) = true
    rw [ha]
    simp only [List.all_cons, List.all_nil, nm t (by omega)]
    rfl
  | come t =>
    have hf : t < p.ties.length := hf
    show ([nD t].all (fun z => isNum z 0 9) && ((ableF p s).any fun e => PyData.eqv (deedD e) (deedD (.come t)))) = true
    rw [ha]
    simp only [List.all_cons, List.all_nil, nm t (by omega)]
    rfl
theorem deed_small {d : Deed} : Sd 60 (deedD d) ∧ ∀ ds, deedD d = .tuple ds → ds.length ≤ 1000 := by
  refine ⟨(sd_deed d).mono (by decide), fun ds h => ?_⟩
  cases h
  cases d <;> exact Nat.le_of_ble_eq_true rfl
def Cfollowed (ss : List Sh) (sh : Sh) : Prop := ∃ (p : NetP) (ds : List Deed) (sts : List Sta) (t : List PyData) (hd : PyData), p.Ok ∧ Fine p (stAt (startOf p) sts sts.length) ∧ Weave p (startOf p) ds sts ∧ Tail p (stAt (startOf p) sts sts.length) t ∧ ds.length ≤ 1000 ∧ t.length ≤ 1000 ∧ seqD hd = some (ds.map deedD ++ t) ∧
  ss = [.net p, .d hd] ∧ sh = .d (.list (sts.map staD ++ (if t = [] then [] else [.none])))
theorem w_followed (T : Txt K mg) (Z : Tab w K mg) (h : Fn K mg "followed" (F_followed K)) (d_start_of : FnP P w K mg base "start_of" 3 (spP K Cstart_of)) (d_is_deed : FnP P w K mg base "is_deed" 9 (spP K Cis_deed)) (d_done : FnP P w K mg base "done" 13 (spP K Cdone)) : FnP P w K mg base "followed" 15 (spP K Cfollowed) := by
  obtain ⟨f, fd, h1, h2, F⟩ := h
  refine ⟨f, fd, _, h1, h2, bindsD F ?_, ok_pure (k := 14) F sc_followed ?_ ?_⟩
  · intro kV doc pm an cdv ct us hu
    match us, hu with
    | [a0, a1], _ => rfl
  · rintro ss sh ⟨p, ds, sts, t, hd, ok, fl, wv, tl, hz, hz2, hsq, rfl, rfl⟩; rfl
  rintro cdv A outer s H E ss sh B hr ⟨p, ds, sts, t, hd, ok, fl, wv, tl, hz, hz2, hsq, rfl, rfl⟩
  have hl := wv.len
  refine sx_parEL 2 3 rfl nd_followed rfl rfl (by decide) (ex_call d_start_of hr ⟨p, ok, rfl, rfl⟩ (ax_cons (ex_var 0 rfl rfl) ax_nil)) (exl_lst ax_nil (by decide)) fun q hq => ?_
  refine sx_for (is := [4]) (ds.map deedD ++ t) id (fun x S => S.set 4 (some (.d x)))
    (fun i S' M' => i ≤ sts.length ∧ M' = mset M0 q (.lst (((sts.take i).map staD).map Sh.d)) ∧ ∃ u, S' = [some (.net p), some (.d hd), some (.d (staD (stAt (startOf p) sts i))), some (.v (.ref q)), u]) own_nox rfl
    (IX.to (ix_seq hsq (ex_var 1 rfl rfl)) (List.map_id _).symm) (fun x => gx_name 4 nd_followed rfl) ⟨Nat.zero_le _, rfl, none, rfl⟩ ?_ ?_
  · rintro i x S' M' G hx ⟨hi, rfl, u, rfl⟩
    by_cases hlt : i < ds.length
    · rw [List.getElem?_append_left (by rw [List.length_map]; exact hlt), List.getElem?_map] at hx
      cases hd' : ds[i]? with
      | none => rw [hd'] at hx; cases hx
      | some d =>
        rw [hd'] at hx
        cases hx
        obtain ⟨w1, w2, w3, w4⟩ := wv.step hd'
        obtain ⟨b1, b2⟩ := deed_small (d := d)
        refine sx_if (k := false) (tx_notF (tx_val (EX.to (ex_call d_is_deed hr ⟨p, stAt (startOf p) sts i, deedD d, w1.good.fit, b1, b2, rfl, rfl⟩ (ax_cons (ex_var 0 rfl rfl) (ax_cons (ex_var 2 rfl rfl) (ax_cons (ex_var 4 rfl rfl) ax_nil)))) (by rw [isDeed_able ok w2 w3])))) (fun h => nomatch h) (fun _ => ?_)
        refine sx_go (sx_set 2 nd_followed rfl (ex_call d_done hr ⟨p, _, _, d, w1.good.fit, w2, w4, rfl, rfl⟩ (ax_cons (ex_var 0 rfl rfl) (ax_cons (ex_var 2 rfl rfl) (ax_cons (ex_var 4 rfl rfl) ax_nil)))) ?_)
        refine sx_app mset_same (by rw [List.length_map, List.length_map, List.length_take]; omega) (ex_var 3 rfl rfl) (ex_var 2 rfl rfl) ?_
        rw [mset_mset]
        refine sx_turn ⟨by omega, ?_, _, rfl⟩
        have hs : sts[i]? = some (stAt (startOf p) sts (i + 1)) := by
          have := stAt_get (s := startOf p) (ss := sts) (i := i + 1) (by omega)
          rwa [List.getElem?_cons_succ] at this
        rw [take_step hs, List.map_append, List.map_append]
        rfl
    · have hi' : i = sts.length := by omega
      subst hi'
      rw [List.getElem?_append_right (by rw [List.length_map]; omega), List.length_map] at hx
      rcases tl with rfl | ⟨y, r, rfl, t1, t2, t3⟩
      · simp at hx
      · rw [show sts.length - ds.length = 0 from by omega] at hx
        have hx : some y = some x := by simpa using hx
        cases hx
        refine sx_if (k := true) (tx_notT (tx_val (EX.to (ex_call d_is_deed hr ⟨p, stAt (startOf p) sts sts.length, x, fl.good.fit, t2, t3, rfl, rfl⟩ (ax_cons (ex_var 0 rfl rfl) (ax_cons (ex_var 2 rfl rfl) (ax_cons (ex_var 4 rfl rfl) ax_nil)))) (by rw [t1])))) (fun _ => ?_) (fun h => nomatch h)
        refine sx_ret (EX.to (ex_d (ex_lst (ds := sts.map staD ++ [.none]) (ax_starM mset_same (ex_var 3 rfl rfl) (ax_cons ex_non ax_nil)) ?_ ?_)) ?_)
        · rw [List.take_length, List.map_append]; rfl
        · rw [List.length_append, List.length_map, List.length_singleton]; omega
        · rw [if_neg (by simp)]
  · rintro S' M' ⟨hi, rfl, u, rfl⟩
    rcases tl with rfl | ⟨y, r, rfl, t1, t2, t3⟩
    · rw [List.append_nil, List.length_map] at hi ⊢
      refine sx_retM mset_same (ex_var 3 rfl rfl) ?_
      rw [if_pos rfl, List.append_nil, hl, List.take_length]
      rfl
    · rw [List.length_append, List.length_map, List.length_cons] at hi
      omega
end
end HW
/-! Weavings that can be done. -/
namespace HW
open PySem PySem.Spec L2
theorem ex_neg {X : Cx} {S : Sls} {M : Mp} {a : Expr} {pos : Pos} {i : Int} (h : EX X a S M (.d (.int i))) : EX X (.UnaryOp .USub a pos) S M (.d (.int (-i))) := fun I H σ t l m Q k =>
  ej_of (pe_un un_neg pe_ej) (h I H σ t l m _ fun v I2 H2 e2 hv => ⟨i, dp_int hv, k _ I2 H2 e2 (.int _)⟩)
theorem atI_last {α : Type} {xs : List α} {x : α} (h : xs.getLast? = some x) : atI xs (-1) = some x := by
  have hl : xs ≠ [] := fun e => by rw [e] at h; cases h
  have hp : 0 < xs.length := List.length_pos_iff.mpr hl
  unfold atI ixN
  rw [if_neg (by decide), if_pos (by omega)]
  rw [List.getLast?_eq_getElem?] at h
  show xs[((-1 : Int) + (xs.length : Int)).toNat]? = some x
  rw [show ((-1 : Int) + (xs.length : Int)).toNat = xs.length - 1 from by omega]
  exact h
theorem Weave.fine {p : NetP} {s : Sta} {ds : List Deed} {ss : List Sta} (h : Weave p s ds ss) (fl : Fine p (stAt s ss ss.length)) {i : Nat} (hi : i ≤ ss.length) : Fine p (stAt s ss i) := by
  have hl := h.len
  by_cases e : i = ss.length
  · rw [e]; exact fl
  · have hlt : i < ds.length := by omega
    exact (h.step (List.getElem?_eq_getElem hlt)).1
theorem not_noneD (s : Sta) : isNoneD (staD s) = false := rfl
def dueF (p : NetP) (s s' : Sta) (d : Deed) : List Str := (["climb", "misled", "ring", "wrong"] : List Str).filter fun w => isBadF p s' w || breachF p s s' d w
abbrev sDl (l : List Str) : PyData := .list (l.map sD)
def dueL (p : NetP) : Sta → List Deed → List Sta → List (List Str)
  | s, d :: ds, s' :: ss => dueF p s s' d :: dueL p s' ds ss
  | _, _, _ => []
theorem dueL_get {p : NetP} : ∀ {ds : List Deed} {ss : List Sta} {s : Sta} {i : Nat} {d : Deed}, ds.length = ss.length → ds[i]? = some d → (dueL p s ds ss)[i]? = some (dueF p (stAt s ss i) (stAt s ss (i + 1)) d)
  | [], ss, s, i, d, h, e => by simp at e
  | d0 :: ds, [], s, i, d, h, e => by simp at h
  | d0 :: ds, s' :: ss, s, 0, d, h, e => by
    simp at e
    subst e
    rfl
  | d0 :: ds, s' :: ss, s, i + 1, d, h, e => by
    have hl : ds.length = ss.length := by simpa using h
    have e' : ds[i]? = some d := by simpa using e
    have hi : i < ds.length := (List.getElem?_eq_some_iff.mp e').1
    have e1 : stAt s (s' :: ss) (i + 1) = stAt s' ss i := by
      have a := stAt_get (s := s) (ss := s' :: ss) (i := i + 1) (by rw [List.length_cons]; omega)
      have b := stAt_get (s := s') (ss := ss) (i := i) (by omega)
      rw [List.getElem?_cons_succ, b] at a
      exact (Option.some.inj a).symm
    have e2 : stAt s (s' :: ss) (i + 1 + 1) = stAt s' ss (i + 1) := by
      have a := stAt_get (s := s) (ss := s' :: ss) (i := i + 1 + 1) (by rw [List.length_cons]; omega)
      have b := stAt_get (s := s') (ss := ss) (i := i + 1) (by omega)
      rw [List.getElem?_cons_succ, b] at a
      exact (Option.some.inj a).symm
    show (dueL p s' ds ss)[i]? = _
    rw [e1, e2]
    exact dueL_get hl e'
theorem dueL_len {p : NetP} : ∀ {ds : List Deed} {ss : List Sta} {s : Sta}, ds.length = ss.length → (dueL p s ds ss).length = ss.length
  | [], [], _, _ => rfl
  | _ :: _, [], _, h => by simp at h
  | [], _ :: _, _, h => by simp at h
  | d :: ds, s' :: ss, s, h => congrArg Nat.succ (dueL_len (s := s') (by simpa using h))
section
variable {P : Program} {w : World} {K : PySem.W.Frag} {mg : Str → Option Value} {base : Heap}
def Ccheck_weaving (ss : List Sh) (sh : Sh) : Prop := ∃ (p : NetP) (ds : List Deed) (sts : List Sta) (hd : PyData), p.Ok ∧ Fine p (stAt (startOf p) sts sts.length) ∧ Weave p (startOf p) ds sts ∧ ds.length ≤ 1000 ∧ seqD hd = some (ds.map deedD) ∧
  ss = [.net p, .d hd] ∧ sh = .d (.list (sts.map staD))
theorem sd_stas (l : List Sta) : Sd 4 (.list (l.map staD)) := Sd.list (Sd.map sd_sta)
theorem w_check_weaving (T : Txt K mg) (Z : Tab w K mg) (h : Fn K mg "check_weaving" (F_check_weaving K)) (d_check_net : FnP P w K mg base "check_net" 1 (spP K Ccheck_net)) (d_followed : FnP P w K mg base "followed" 15 (spP K Cfollowed)) : FnP P w K mg base "check_weaving" 17 (spP K Ccheck_weaving) := by
  obtain ⟨f, fd, h1, h2, F⟩ := h
  refine ⟨f, fd, _, h1, h2, bindsD F ?_, ok_pure (k := 16) F sc_check_weaving ?_ ?_⟩
  · intro kV doc pm an cdv ct us hu
    match us, hu with
    | [a0, a1], _ => rfl
  · rintro ss sh ⟨p, ds, sts, hd, ok, fl, wv, hz, hsq, rfl, rfl⟩; rfl
  rintro cdv A outer s H E ss sh B hr ⟨p, ds, sts, hd, ok, fl, wv, hz, hsq, rfl, rfl⟩
  refine sx_expr (ex_call d_check_net hr ⟨p, rfl, rfl⟩ (ax_cons (ex_var 0 rfl rfl) ax_nil)) ?_
  have key : ∀ (e1 : SX (cxOf CX0 P w K mg base n_check_weaving "check_weaving" (defScope s_check_weaving) f cdv A outer s H E).nox ((defBody s_check_weaving).drop 2) (DR K B (.d (.list (sts.map staD)))) (startS n_check_weaving [.net p, .d hd]) M0 B),
      SX (cxOf CX0 P w K mg base n_check_weaving "check_weaving" (defScope s_check_weaving) f cdv A outer s H E).nox ((defBody s_check_weaving).drop 1) (DR K B (.d (.list (sts.map staD)))) (startS n_check_weaving [.net p, .d hd]) M0 B := fun e1 => by
    cases hd with
    | list xs => exact sx_if (k := false) (tx_notF (tx_val (ex_toB (ex_isi2 T (kt (k := true) "list" rfl (by decide +kernel)) (kt (k := false) "list" rfl (by decide +kernel)) (ex_var 1 rfl rfl) (ex_tyN T boot_list') (ex_tyN T boot_tuple')) rfl))) (fun h => nomatch h) (fun _ => sx_go e1)
    | tuple xs => exact sx_if (k := false) (tx_notF (tx_val (ex_toB (ex_isi2 T (kt (k := false) "tuple" rfl (by decide +kernel)) (kt (k := true) "tuple" rfl (by decide +kernel)) (ex_var 1 rfl rfl) (ex_tyN T boot_list') (ex_tyN T boot_tuple')) rfl))) (fun h => nomatch h) (fun _ => sx_go e1)
    | _ => cases hsq
  refine key ?_
  refine sx_set 2 nd_check_weaving rfl (sh := .d (.list (sts.map staD))) (ex_call d_followed hr ⟨p, ds, sts, [], hd, ok, fl, wv, .inl rfl, hz, Nat.zero_le _, by rw [List.append_nil]; exact hsq, rfl, by rw [if_pos rfl, List.append_nil]⟩ (ax_cons (ex_var 0 rfl rfl) (ax_cons (ex_var 1 rfl rfl) ax_nil))) ?_
  refine sx_if (k := false) ?_ (fun h => nomatch h) (fun _ => sx_go (sx_ret (ex_var 2 rfl rfl)))
  cases hs : sts.getLast? with
  | none =>
    have hs0 : sts = [] := List.getLast?_eq_none_iff.mp hs
    subst hs0
    exact tx_w (wx_andF (TX.to (tx_c (c_ne hr.units rfl rfl) (ex_var 2 rfl rfl) (ex_d (ex_lstD ad_nil))) (by rw [eqv_nil]; rfl)))
  | some x =>
    have hne : sts.isEmpty = false := by cases sts with
      | nil => cases hs
      | cons a l => rfl
    refine tx_w (wx_andT (TX.to (tx_c (c_ne hr.units ((sd_stas sts).shaped (by decide)) rfl) (ex_var 2 rfl rfl) (ex_d (ex_lstD ad_nil))) ?_) (wx_and1 (TX.to (tx_c c_isN (ex_ixL (d := staD x) (ex_var 2 rfl rfl) (ex_neg ex_int) (atI_last ?_)) ex_non) (not_noneD x))))
    · rw [eqv_nil, List.isEmpty_map, hne]; rfl
    · rw [List.getLast?_map, hs]; rfl
theorem w_woven (T : Txt K mg) (Z : Tab w K mg) (h : Fn K mg "woven" (F_woven K)) (d_check_weaving : FnP P w K mg base "check_weaving" 17 (spP K Ccheck_weaving)) : FnP P w K mg base "woven" 19 (spP K Ccheck_weaving) := by
  obtain ⟨f, fd, h1, h2, F⟩ := h
  refine ⟨f, fd, _, h1, h2, bindsD F ?_, ok_pure (k := 18) F sc_woven ?_ ?_⟩
  · intro kV doc pm an cdv ct us hu
    match us, hu with
    | [a0, a1], _ => rfl
  · rintro ss sh ⟨p, ds, sts, hd, ok, fl, wv, hz, hsq, rfl, rfl⟩; rfl
  rintro cdv A outer s H E ss sh B hr ⟨p, ds, sts, hd, ok, fl, wv, hz, hsq, rfl, rfl⟩
  exact sx_ret (ex_call d_check_weaving hr ⟨p, ds, sts, hd, ok, fl, wv, hz, hsq, rfl, rfl⟩ (ax_cons (ex_var 0 rfl rfl) (ax_cons (ex_var 1 rfl rfl) ax_nil)))
def Cbroken_by (ss : List Sh) (sh : Sh) : Prop := ∃ (p : NetP) (ds : List Deed) (sts : List Sta) (hd : PyData), p.Ok ∧ Fine p (stAt (startOf p) sts sts.length) ∧ Weave p (startOf p) ds sts ∧ ds.length ≤ 1000 ∧ seqD hd = some (ds.map deedD) ∧
  ss = [.net p, .d hd] ∧ sh = .d (.list ((dueL p (startOf p) ds sts).map sDl))
theorem w_broken_by (T : Txt K mg) (Z : Tab w K mg) (h : Fn K mg "broken_by" (F_broken_by K)) (d_check_weaving : FnP P w K mg base "check_weaving" 17 (spP K Ccheck_weaving)) (d_start_of : FnP P w K mg base "start_of" 3 (spP K Cstart_of)) (d_is_bad : FnP P w K mg base "is_bad" 17 (spP K Cis_bad)) (d_is_breach : FnP P w K mg base "is_breach" 15 (spP K Cis_breach)) : FnP P w K mg base "broken_by" 19 (spP K Cbroken_by) := by
  obtain ⟨f, fd, h1, h2, F⟩ := h
  refine ⟨f, fd, _, h1, h2, bindsD F ?_, ok_pure (k := 18) F sc_broken_by ?_ ?_⟩
  · intro kV doc pm an cdv ct us hu
    match us, hu with
    | [a0, a1], _ => rfl
  · rintro ss sh ⟨p, ds, sts, hd, ok, fl, wv, hz, hsq, rfl, rfl⟩; rfl
  rintro cdv A outer s H E ss sh B hr ⟨p, ds, sts, hd, ok, fl, wv, hz, hsq, rfl, rfl⟩
  have hl := wv.len
  refine sx_set 2 nd_broken_by rfl (ex_call d_check_weaving hr ⟨p, ds, sts, hd, ok, fl, wv, hz, hsq, rfl, rfl⟩ (ax_cons (ex_var 0 rfl rfl) (ax_cons (ex_var 1 rfl rfl) ax_nil))) ?_
  refine sx_parEL 3 4 rfl nd_broken_by rfl rfl (by decide) (ex_d (ex_lst (ds := (startOf p :: sts).map staD) (ax_cons (ex_call d_start_of hr ⟨p, ok, rfl, rfl⟩ (ax_cons (ex_var 0 rfl rfl) ax_nil)) (ax_starL (ex_var 2 rfl rfl) ax_nil)) (by rw [List.append_nil]; rfl) (by rw [List.length_map, List.length_cons]; omega))) (exl_lst ax_nil (by decide)) fun q hq => ?_
  have hzl : (zip3D ((startOf p :: sts).map staD) (sts.map staD) (ds.map deedD)).length = sts.length := by
    rw [zip3D_len, List.length_map, List.length_map, List.length_map, List.length_cons]; omega
  have hid : zip3D ((startOf p :: sts).map staD) (sts.map staD) (ds.map deedD) = (List.range sts.length).map fun i => .tuple [staD (stAt (startOf p) sts i), staD (stAt (startOf p) sts (i + 1)), deedD (ds.getD i (.fall 0))] := by
    refine List.ext_getElem? fun i => ?_
    by_cases hi : i < sts.length
    · rw [List.getElem?_map, List.getElem?_range hi]
      cases e : (zip3D ((startOf p :: sts).map staD) (sts.map staD) (ds.map deedD))[i]? with
      | none =>
        have := List.getElem?_eq_none_iff.mp e
        omega
      | some x =>
        obtain ⟨a, b, c, h1, h2, h3, rfl⟩ := zip3D_get e
        rw [List.getElem?_map, stAt_get (by omega)] at h1
        have hs : sts[i]? = some (stAt (startOf p) sts (i + 1)) := by
          have := stAt_get (s := startOf p) (ss := sts) (i := i + 1) (by omega)
          rwa [List.getElem?_cons_succ] at this
        rw [List.getElem?_map, hs] at h2
        rw [List.getElem?_map, List.getElem?_eq_getElem (by omega)] at h3
        cases h1
        cases h2
        cases h3
        show _ = some (PyData.tuple [staD (stAt (startOf p) sts i), staD (stAt (startOf p) sts (i + 1)), deedD (ds.getD i (.fall 0))])
        rw [List.getD_eq_getElem?_getD, List.getElem?_eq_getElem (by omega)]
        rfl
    · rw [List.getElem?_eq_none (by omega), List.getElem?_eq_none (by simp; omega)]
  refine sx_for (is := [5, 6, 7]) (List.range sts.length) (fun i => .tuple [staD (stAt (startOf p) sts i), staD (stAt (startOf p) sts (i + 1)), deedD (ds.getD i (.fall 0))])
    (fun i S => ((S.set 5 (some (.d (staD (stAt (startOf p) sts i))))).set 6 (some (.d (staD (stAt (startOf p) sts (i + 1)))))).set 7 (some (.d (deedD (ds.getD i (.fall 0))))))
    (fun i S' M' => M' = mset M0 q (.lst ((((dueL p (startOf p) ds sts).take i).map sDl).map Sh.d)) ∧ ∃ u1 u2 u3, S' = [some (.net p), some (.d hd), some (.d (.list (sts.map staD))), some (.d (.list ((startOf p :: sts).map staD))), some (.v (.ref q)), u1, u2, u3, none]) own_nox rfl
    (IX.to (ix_zip3 T rfl rfl hsq (ex_var 3 rfl rfl) (ex_var 2 rfl rfl) (ex_var 1 rfl rfl)) hid) (fun i => gx_tri 5 6 7 rfl nd_broken_by rfl rfl rfl) ⟨rfl, none, none, none, rfl⟩ ?_ ?_
  · rintro i k S' M' G hx ⟨rfl, u1, u2, u3, rfl⟩
    have hi : i < sts.length := by
      have := (List.getElem?_eq_some_iff.mp hx).1
      rw [List.length_range] at this
      exact this
    have hki : k = i := by rw [List.getElem?_range hi] at hx; cases hx; rfl
    subst hki
    have hdk : ds[k]? = some (ds.getD k (.fall 0)) := by
      rw [List.getD_eq_getElem?_getD, List.getElem?_eq_getElem (by omega)]
      rfl
    obtain ⟨w1, w2, w3, w4⟩ := wv.step hdk
    have wf := wv.fine fl (i := k + 1) (by omega)
    have hdl := dueL_get (p := p) (s := startOf p) hl hdk
    have hlen := dueL_len (p := p) (s := startOf p) hl
    refine sx_app mset_same (by rw [List.length_map, List.length_map, List.length_take]; omega) (ex_var 4 rfl rfl) (ex_d (ex_lc (["climb", "misled", "ring", "wrong"] : List Str) sD _ (fun w => isBadF p (stAt (startOf p) sts (k + 1)) w || breachF p (stAt (startOf p) sts k) (stAt (startOf p) sts (k + 1)) (ds.getD k (.fall 0)) w) sD rfl nd_broken_by (ix_tup (ex_gTup rfl Z.wi)) (show BlkOk n_broken_by (defScope s_broken_by) _ [("wish", 8)] from ⟨rfl, by decide +kernel, by decide +kernel, by decide +kernel, by decide +kernel⟩) (by decide) ?_ (fun s H C cl fp z => gx_name 8 nd_broken_by rfl) ?_ ?_)) ?_
    · decide
    · intro s H C cl fp z hz
      exact tsx_one (tx_w (wx_or (tx_val (ex_call d_is_bad hr ⟨p, _, z, wf, rfl, rfl⟩ (ax_cons (ex_var 0 rfl rfl) (ax_cons (ex_var 6 rfl rfl) (ax_cons (ex_var 8 rfl rfl) ax_nil))))) fun _ => wx_or1 (tx_val (ex_call d_is_breach hr ⟨p, _, _, _, z, w1, wf.good.fit, w2, w4, rfl, rfl⟩ (ax_cons (ex_var 0 rfl rfl) (ax_cons (ex_var 5 rfl rfl) (ax_cons (ex_var 7 rfl rfl) (ax_cons (ex_var 8 rfl rfl) ax_nil))))))))
    · intro s H C cl fp z hz hb
      exact (ex_var 8 rfl rfl)
    · rw [mset_mset]
      refine sx_turn ⟨?_, _, _, _, rfl⟩
      rw [take_step hdl, List.map_append, List.map_append]
      rfl
  · rintro S' M' ⟨rfl, u1, u2, u3, rfl⟩
    have hlen := dueL_len (p := p) (s := startOf p) hl
    rw [List.length_range, ← hlen, List.take_length]
    exact sx_retM mset_same (ex_var 4 rfl rfl)
end
end HW
/-! The law's draws. -/
namespace HW
open PySem PySem.Spec L2
def cellsF (ns : List Int) : List Int := if ns = [] then [5] else ns.take 63
def cellF (ns : List Int) (i : Nat) : Int := (cellsF ns).getD (i % (cellsF ns).length) 0 + 13 * ((i : Int) / ((cellsF ns).length : Int))
def blendF (ns : List Int) (i : Nat) : Int := ((cellF ns i % 1000003 + 977 * (i : Int)) * 48271 + 31 * (cellF ns i / 1000003 % 999983) + (cellsF ns).sum % 65521) % 2147483647
def numF (ns : List Int) (i : Nat) : Int := blendF ns i * (blendF ns i + 31 * (i : Int) + 7) % 2147483629 * 65537 + cellF ns i / 1000003 % 999983
theorem cells_pos (ns : List Int) : 0 < (cellsF ns).length ∧ (cellsF ns).length ≤ 63 := by
  unfold cellsF
  split
  · decide
  · rename_i h
    rw [List.length_take]
    have := List.length_pos_iff.mpr h
    omega
abbrev scrD (ns : List Int) : PyData := .list (ns.map PyData.int)
abbrev drawM (ns : List Int) (c : Nat) : MO := .lst [.d (scrD ns), .d (nD c)]
section
variable {P : Program} {w : World} {K : PySem.W.Frag} {mg : Str → Option Value} {base : Heap}
def Clawnumber (ss : List Sh) (sh : Sh) : Prop := ∃ (ns : List Int) (i : Nat), ss = [.d (scrD ns), .d (nD i)] ∧ sh = .d (.int (numF ns i))
theorem cmulL {i j : Int} (h : -(2 ^ 64) < i ∧ i < 2 ^ 64) : CMul i j := .inl h
theorem cmulR {i j : Int} (h : -(2 ^ 64) < j ∧ j < 2 ^ 64) : CMul i j := .inr h
theorem w_law_number (T : Txt K mg) (Z : Tab w K mg) (h : Fn K mg "_law_number" (F_law_number K)) : FnP P w K mg base "_law_number" 1 (spP K Clawnumber) := by
  obtain ⟨f, fd, h1, h2, F⟩ := h
  refine ⟨f, fd, _, h1, h2, bindsD F ?_, ok_pure (k := 0) F sc_law_number ?_ ?_⟩
  · intro kV doc pm an cdv ct us hu
    match us, hu with
    | [a0, a1], _ => rfl
  · rintro ss sh ⟨ns, i, rfl, rfl⟩; rfl
  rintro cdv A outer s H E ss sh B hr ⟨ns, i, rfl, rfl⟩
  obtain ⟨hp, hq⟩ := cells_pos ns
  refine sx_set 2 nd_law_number rfl (sh := .d (scrD (cellsF ns))) (ex_if (k := !(ns.map PyData.int).isEmpty) (TX.to (tx_c (c_ne hr.units ((Sd.list (Sd.map fun _ => sd_int)).shaped (by decide)) rfl) (ex_var 0 rfl rfl) (ex_d (ex_lstD ad_nil))) (by rw [eqv_nil])) (fun hk => ?_) (fun hk => ?_)) ?_
  · have hne : ns ≠ [] := fun e => by subst e; cases hk
    refine EX.to (ex_d (ex_slL (ex_var 0 rfl rfl) ox_none (ox_some ex_int))) ?_
    rw [show cutD (ns.map PyData.int) none (some 63) = (ns.map PyData.int).take 63 from cutD_to _ 63, ← List.map_take]
    unfold cellsF
    rw [if_neg hne]
  · have hne : ns = [] := by cases ns with
      | nil => rfl
      | cons a l => cases hk
    subst hne
    exact ex_d (ex_lstD (ad_cons ex_int ad_nil))
  have hlen : (((cellsF ns).map PyData.int).length : Int) = ((cellsF ns).length : Int) := by rw [List.length_map]
  have hx : atI ((cellsF ns).map PyData.int) ((i : Int) % (((cellsF ns).map PyData.int).length : Int)) = some (.int ((cellsF ns).getD (i % (cellsF ns).length) 0)) := by
    rw [hlen, show (i : Int) % ((cellsF ns).length : Int) = ((i % (cellsF ns).length : Nat) : Int) from by omega]
    have hlt := Nat.mod_lt i hp
    refine atI_nat ?_
    rw [List.getElem?_map, List.getD_eq_getElem?_getD, List.getElem?_eq_getElem hlt]
    rfl
  refine sx_set 3 nd_law_number rfl (sh := .d (.int (cellF ns i))) (EX.to (ex_add (ex_ixL (ex_var 2 rfl rfl) (ex_mod (by rw [hlen]; omega) (ex_intOf T (ex_var 1 rfl rfl)) (ex_lenL T (ex_var 2 rfl rfl))) hx) (ex_mul (cmulL (by decide)) ex_int (ex_fdiv (by constructor <;> (rw [hlen]; omega)) (ex_var 1 rfl rfl) (ex_lenL T (ex_var 2 rfl rfl))))) ?_) ?_
  · rw [hlen]; rfl
  refine sx_par 4 5 rfl nd_law_number rfl rfl (by decide) (ex_mod (by decide) (ex_intOf T (ex_var 3 rfl rfl)) ex_int) (ex_mod (by decide) (ex_intOf T (ex_fdiv (by constructor <;> decide) (ex_var 3 rfl rfl) ex_int)) ex_int) ?_
  refine sx_set 6 nd_law_number rfl (ex_mod (by decide) (ex_intOf T (ex_sum T rfl (ex_var 2 rfl rfl))) ex_int) ?_
  have hb : 0 ≤ blendF ns i ∧ blendF ns i < 2147483647 := ⟨Int.emod_nonneg _ (by decide), Int.emod_lt_of_pos _ (by decide)⟩
  refine sx_set 7 nd_law_number rfl (sh := .d (.int (blendF ns i))) (ex_mod (by decide) (ex_intOf T (ex_add (ex_add (ex_mul (cmulR (by decide)) (ex_add (ex_var 4 rfl rfl) (ex_mul (cmulL (by decide)) ex_int (ex_var 1 rfl rfl))) ex_int) (ex_mul (cmulL (by decide)) ex_int (ex_var 5 rfl rfl))) (ex_var 6 rfl rfl))) ex_int) ?_
  exact sx_ret (ex_add (ex_mul (cmulR (by decide)) (ex_mod (by decide) (ex_intOf T (ex_mul (cmulL (by omega)) (ex_var 7 rfl rfl) (ex_add (ex_add (ex_var 7 rfl rfl) (ex_mul (cmulL (by decide)) ex_int (ex_var 1 rfl rfl))) ex_int))) ex_int) ex_int) (ex_var 5 rfl rfl))
def Clawtake (ss : List Sh) (M : Mp) (R : Sh → Mp → Prop) : Prop := ∃ (ns : List Int) (q : Addr) (c many : Nat), 1 ≤ many ∧ M q = some (drawM ns c) ∧ ss = [.v (.ref q), .d (nD many)] ∧
  R = fun sh M' => ∃ k c', k < many ∧ sh = .d (nD k) ∧ M' = mset M q (drawM ns c')
theorem w_law_take (T : Txt K mg) (Z : Tab w K mg) (h : Fn K mg "_law_take" (F_law_take K)) (d_law_number : FnP P w K mg base "_law_number" 1 (spP K Clawnumber)) : FnP P w K mg base "_law_take" 3 (spD K Clawtake) := by
  obtain ⟨f, fd, h1, h2, F⟩ := h
  refine ⟨f, fd, _, h1, h2, bindsD F ?_, ok_dem (k := 2) F sc_law_take ?_ ?_⟩
  · intro kV doc pm an cdv ct us hu
    match us, hu with
    | [a0, a1], _ => rfl
  · rintro ss M R ⟨ns, q, c, many, h1, hM, rfl, rfl⟩; rfl
  rintro cdv A outer s H E ss M R B hr ⟨ns, q, c, many, h1, hM, rfl, rfl⟩
  refine sx_put hM (j := 1) rfl (ex_toI (j := ((c + 1 : Nat) : Int)) (ex_add (ex_ixM hM (ex_var 0 rfl rfl) ex_int rfl) ex_int) (by omega)) (ex_var 0 rfl rfl) ex_int ?_
  refine sx_retDD (dx_of (MX.of (ex_mod (by omega) (ex_intOf T (ex_call d_law_number hr ⟨ns, c + 1, rfl, rfl⟩ (ax_cons (ex_ixM mset_same (ex_var 0 rfl rfl) ex_int rfl) (ax_cons (ex_intOf T (ex_ixM mset_same (ex_var 0 rfl rfl) ex_int rfl)) ax_nil)))) (ex_var 1 rfl rfl)))) ?_
  rintro sh M' ⟨rfl, rfl⟩
  have hn := Int.emod_nonneg (numF ns (c + 1)) (show (many : Int) ≠ 0 by omega)
  have hl := Int.emod_lt_of_pos (numF ns (c + 1)) (show (0 : Int) < many by omega)
  refine ⟨mset M q (drawM ns (c + 1)), ⟨(numF ns (c + 1) % (many : Int)).toNat, c + 1, by omega, ?_, rfl⟩, SubM.refl⟩
  show Sh.d (.int _) = Sh.d (.int _)
  rw [show (((numF ns (c + 1) % (many : Int)).toNat : Nat) : Int) = numF ns (c + 1) % (many : Int) from by omega]
theorem dom_draw {M M' : Mp} {q : Addr} {o o' : MO} (h : M q = some o) (e : M' = mset M q o') (p : Addr) (z : M p = none) : M' p = none := by
  rw [e]; exact dom_mset h p z
def Clawpick (ss : List Sh) (M : Mp) (R : Sh → Mp → Prop) : Prop := ∃ (ns : List Int) (q : Addr) (c : Nat) (ds : List PyData), 1 ≤ ds.length ∧ M q = some (drawM ns c) ∧ ss = [.v (.ref q), .d (.list ds)] ∧
  R = fun sh M' => ∃ d c', d ∈ ds ∧ sh = .d d ∧ M' = mset M q (drawM ns c')
theorem w_law_pick (T : Txt K mg) (Z : Tab w K mg) (h : Fn K mg "_law_pick" (F_law_pick K)) (d_law_take : FnP P w K mg base "_law_take" 3 (spD K Clawtake)) : FnP P w K mg base "_law_pick" 5 (spD K Clawpick) := by
  obtain ⟨f, fd, h1, h2, F⟩ := h
  refine ⟨f, fd, _, h1, h2, bindsD F ?_, ok_dem (k := 4) F sc_law_pick ?_ ?_⟩
  · intro kV doc pm an cdv ct us hu
    match us, hu with
    | [a0, a1], _ => rfl
  · rintro ss M R ⟨ns, q, c, ds, h1, hM, rfl, rfl⟩; rfl
  rintro cdv A outer s H E ss M R B hr ⟨ns, q, c, ds, h1, hM, rfl, rfl⟩
  refine sx_retDD (dx_ixL (R' := fun sh M' => ∃ d c', d ∈ ds ∧ sh = .d d ∧ M' = mset M q (drawM ns c')) (ex_var 1 rfl rfl) (dx_call d_law_take hr ⟨ns, q, c, ds.length, h1, hM, rfl, rfl⟩ (fun sh M' p ⟨k, c', _, _, e⟩ => dom_draw hM e p) (ax_cons (ex_var 0 rfl rfl) (ax_cons (ex_lenL T (ex_var 1 rfl rfl)) ax_nil))) ?_) ?_
  · rintro sh M' ⟨k, c', hk, rfl, rfl⟩
    exact ⟨k, ds[k], rfl, atI_nat (List.getElem?_eq_getElem hk), ds[k], c', List.getElem_mem hk, rfl, rfl⟩
  · rintro sh M' h
    exact ⟨M', h, SubM.refl⟩
end
end HW
/-! The law's parts. -/
namespace HW
open PySem PySem.Spec L2
theorem td_gt {X : Cx} {S : Sls} {M : Mp} {a b : Expr} {pos : Pos} {j : Int} {R : Sh → Mp → Prop} {Im : Mp → Prop} (ha : DX X a S M R) (hR : ∀ sh M', R sh M' → Im M' ∧ ∃ i : Int, sh = .d (.int i)) (hb : ∀ M', EX X b S M' (.d (.int j))) : TD X (.Compare a [.Gt] [b] pos) S M Im :=
  td_c (fun i => ⟨_, c_gt⟩) ⟨_, op_gt, fun i => ⟨decide (j < i), fun x y I H Q t hx hy k => ⟨i, j, dp_int hx, dp_int hy, k⟩⟩⟩ ha hR hb
theorem td_eq {X : Cx} {S : Sls} {M : Mp} {a b : Expr} {pos : Pos} {j : Int} {R : Sh → Mp → Prop} {Im : Mp → Prop} (ha : DX X a S M R) (hR : ∀ sh M', R sh M' → Im M' ∧ ∃ i : Int, sh = .d (.int i)) (hb : ∀ M', EX X b S M' (.d (.int j))) : TD X (.Compare a [.Eq] [b] pos) S M Im :=
  td_c (fun i => ⟨_, c_eqI⟩) ⟨_, op_eq, fun i => ⟨decide (i = j), fun x y I H Q t hx hy k => by
    rw [dp_int hx, dp_int hy]
    refine ⟨rfl, ?_⟩
    rw [dec_int, Bool.beq_eq_decide_eq]
    exact k⟩⟩ ha hR hb
def pairsTo (n i : Nat) : List (Nat × Nat) := (List.range i).flatMap fun a => (List.range (n - (a + 1))).map fun j => (a, a + 1 + j)
abbrev partsL (p : NetP) : List PyData := [nD p.n, p.tiesD, p.weakD, nD p.far, .str p.split, .str p.cry, nD p.hold]
abbrev partsD (p : NetP) : PyData := .tuple (partsL p)
theorem adj_of_pw {α : Type} {R : α → α → Prop} : ∀ {xs : List α}, xs.Pairwise R → ∀ z ∈ xs.zip (xs.drop 1), R z.1 z.2
  | [], _, z, hz => by simp at hz
  | [_], _, z, hz => by simp at hz
  | a :: b :: r, h, z, hz => by
    have hz : z ∈ (a, b) :: (b :: r).zip ((b :: r).drop 1) := by simpa using hz
    rcases List.mem_cons.mp hz with rfl | hz
    · exact List.rel_of_pairwise_cons h (List.mem_cons_self ..)
    · exact adj_of_pw (List.Pairwise.of_cons h) z hz
instance (a b : Nat × Nat) : Decidable (lt2 a b) := by unfold lt2; exact inferInstance
theorem pairs_ok {n : Nat} (h : n = 2 ∨ n = 3 ∨ n = 4) : (pairsTo n n).Pairwise lt2 ∧ (∀ t ∈ pairsTo n n, t.1 < t.2 ∧ t.2 < n) ∧ pairsTo n n ≠ [] ∧ (pairsTo n n).length ≤ 6 := by
  rcases h with rfl | rfl | rfl <;> decide
section
variable {P : Program} {w : World} {K : PySem.W.Frag} {mg : Str → Option Value} {base : Heap}
def Clawparts (ss : List Sh) (M : Mp) (R : Sh → Mp → Prop) : Prop := ∃ (ns : List Int) (q : Addr) (c : Nat), M q = some (drawM ns c) ∧ ss = [.v (.ref q), .d (.int 4)] ∧
  R = fun sh M' => ∃ p c', p.Ok ∧ sh = .d (partsD p) ∧ M' = mset M q (drawM ns c')
theorem w_law_parts (T : Txt K mg) (Z : Tab w K mg) (h : Fn K mg "_law_parts" (F_law_parts K)) (d_law_pick : FnP P w K mg base "_law_pick" 5 (spD K Clawpick)) (d_law_take : FnP P w K mg base "_law_take" 3 (spD K Clawtake)) : FnP P w K mg base "_law_parts" 7 (spD K Clawparts) := by
  obtain ⟨f, fd, h1, h2, F⟩ := h
  refine ⟨f, fd, _, h1, h2, bindsD F ?_, ok_dem (k := 6) F sc_law_parts ?_ ?_⟩
  · intro kV doc pm an cdv ct us hu
    match us, hu with
    | [a0, a1], _ => rfl
  · rintro ss M R ⟨ns, q, c, hM, rfl, rfl⟩; rfl
  rintro cdv A outer s H E ss M R B hr ⟨ns, q, c, hM, rfl, rfl⟩
  refine sx_setD 2 nd_law_parts rfl (dx_call d_law_pick hr ⟨ns, q, c, [.int 3, .int 3, .int 3, .int 2, .int 4], by decide, hM, rfl, rfl⟩ (fun sh M' p ⟨d, c', _, _, e⟩ => dom_draw hM e p) (ax_cons (ex_var 0 rfl rfl) (ax_cons (ex_d (ex_lstD (ad_cons ex_int (ad_cons ex_int (ad_cons ex_int (ad_cons ex_int (ad_cons (ex_var 1 rfl rfl) ad_nil))))))) ax_nil))) ?_
  rintro sh M1 ⟨d, c1, hd, rfl, rfl⟩
  obtain ⟨n, hn, rfl⟩ : ∃ n : Nat, (n = 2 ∨ n = 3 ∨ n = 4) ∧ d = nD n := by
    simp only [List.mem_cons, List.not_mem_nil, or_false] at hd
    rcases hd with rfl | rfl | rfl | rfl | rfl
    · exact ⟨3, by omega, rfl⟩
    · exact ⟨3, by omega, rfl⟩
    · exact ⟨3, by omega, rfl⟩
    · exact ⟨2, by omega, rfl⟩
    · exact ⟨4, by omega, rfl⟩
  obtain ⟨pw, pk, pne, pl⟩ := pairs_ok hn
  have hn4 : n ≤ 4 := by omega
  refine sx_set 3 nd_law_parts rfl (sh := .nl ((pairsTo n 0).map pairD)) (ex_lstD ad_nil) ?_
  have lenp : ∀ i, (pairsTo n i).length ≤ 4 * i := by
    intro i
    induction i with
    | zero => exact Nat.le_refl _
    | succ i ih =>
      unfold pairsTo at ih ⊢
      rw [List.range_succ, List.flatMap_append, List.length_append]
      simp only [List.flatMap_cons, List.flatMap_nil, List.append_nil, List.length_map, List.length_range]
      omega
  refine sx_for (is := [4]) (List.range n) nD (fun i S => S.set 4 (some (.d (nD i))))
    (fun i S' M' => M' = mset M q (drawM ns c1) ∧ ∃ u, S' = [some (.v (.ref q)), some (.d (.int 4)), some (.d (nD n)), some (.nl ((pairsTo n i).map pairD)), u, none, none, none, none, none, none]) own_nox rfl
    (IX.to (ix_rng1 T (by omega) (ex_var 2 rfl rfl)) (rng0 _)) (fun i => gx_name 4 nd_law_parts rfl) ⟨rfl, none, rfl⟩ ?_ ?_
  · rintro i k S' M' G hx ⟨rfl, u, rfl⟩
    have hi : i < n := by
      have := (List.getElem?_eq_some_iff.mp hx).1
      rw [List.length_range] at this
      exact this
    have hki : k = i := by rw [List.getElem?_range hi] at hx; cases hx; rfl
    subst hki
    have h1 := lenp k
    have e1 : (pairsTo n (k + 1)).map pairD = (pairsTo n k).map pairD ++ (List.range (n - (k + 1))).map fun j => pairD (k, k + 1 + j) := by
      unfold pairsTo
      rw [List.range_succ, List.flatMap_append, List.map_append]
      simp only [List.flatMap_cons, List.flatMap_nil, List.append_nil, List.map_map]
      rfl
    refine sx_set 3 nd_law_parts rfl (ex_catL (es := (List.range (n - (k + 1))).map fun j => pairD (k, k + 1 + j)) (by rw [List.length_map, List.length_map, List.length_range]; exact sz_of' (by omega)) (ex_var 3 rfl rfl) (ex_lc0 (List.range (n - (k + 1))) (fun j => nD (k + 1 + j)) _ (fun j => pairD (k, k + 1 + j)) rfl nd_law_parts
      (ix_rng2 T (lo := k + 1) (n := n - (k + 1)) (by omega) rfl (by omega) (by omega) (by omega) (ex_toI (j := ((k + 1 : Nat) : Int)) (ex_add (ex_var 4 rfl rfl) ex_int) (by omega)) (ex_var 2 rfl rfl)) (show BlkOk n_law_parts (defScope s_law_parts) _ [("other", 9)] from ⟨rfl, by decide +kernel, by decide +kernel, by decide +kernel, by decide +kernel⟩) (by rw [List.length_range]; omega) ?_ (fun s H C cl fp z => gx_name 9 nd_law_parts rfl) ?_)) ?_
    · decide
    · intro s H C cl fp z hz
      exact ex_tupD (ds := [nD k, nD (k + 1 + z)]) (ad_cons (ex_var 4 rfl rfl) (ad_cons (ex_var 9 rfl rfl) ad_nil))
    · rw [← e1]
      exact sx_turn ⟨rfl, _, rfl⟩
  · rintro S' M' ⟨rfl, u, rfl⟩
    rw [List.length_range]
    -- the ties
    refine sx_setD 5 nd_law_parts rfl (dx_slTo (R' := fun sh M' => ∃ (sub : List (Nat × Nat)) (c' : Nat), sub.Sublist (pairsTo n n) ∧ sh = .nl ((sub.take 5).map pairD) ∧ M' = mset M q (drawM ns c')) (dx_lc (pairsTo n n) pairD _ pairD (fun M' => ∃ c', M' = mset M q (drawM ns c')) ⟨c1, rfl⟩ rfl nd_law_parts (ix_lst (ex_d (ex_var 3 rfl rfl))) (show BlkOk n_law_parts (defScope s_law_parts) _ [("tie", 10)] from ⟨rfl, by decide +kernel, by decide +kernel, by decide +kernel, by decide +kernel⟩) (by omega) ?_ (fun s H C cl fp z => gx_name 10 nd_law_parts rfl) ?_ ?_) (fun _ => ex_int) ?_) ?_
    · decide
    · rintro s H C cl fp z M' D l hz ⟨c', rfl⟩ hD
      have hDq : D ≠ q := fun e => by rw [e, mset_same] at hD; cases hD
      refine td_gt (dx_call d_law_take hr ⟨ns, q, c', 4, by decide, by rw [mset_ne hDq.symm, mset_same], rfl, rfl⟩ (fun sh M' p ⟨k, c2, _, _, e⟩ => dom_draw (o := drawM ns c') (by rw [mset_ne hDq.symm, mset_same]) e p) (ax_cons (ex_var 0 rfl rfl) (ax_cons ex_int ax_nil))) ?_ (fun _ => ex_int)
      rintro sh M2 ⟨k, c2, _, rfl, rfl⟩
      refine ⟨⟨mset M q (drawM ns c2), ⟨c2, rfl⟩, ?_, ?_⟩, _, rfl⟩
      · rw [mset_ne hDq] at hD ⊢; exact hD
      · rw [mset_comm hDq, mset_mset]
    · intro s H C cl fp z M' hz
      exact (ex_var 10 rfl rfl)
    · rintro sh M' ⟨sub, h1, rfl, c', rfl⟩
      exact ⟨_, rfl, sub, c', h1, by rw [show cutD (sub.map pairD) none (some 5) = (sub.map pairD).take 5 from cutD_to _ 5, ← List.map_take], rfl⟩
    rintro sh M2 ⟨sub, c2, hsub, rfl, rfl⟩
    obtain ⟨ts, hts, ht1, ht2⟩ : ∃ ts : List (Nat × Nat), ts.Sublist (pairsTo n n) ∧ 1 ≤ ts.length ∧ ts.length ≤ 5 ∧ ts = if (sub.take 5).isEmpty then (pairsTo n n).take 1 else sub.take 5 := by
      by_cases he : (sub.take 5).isEmpty
      · refine ⟨(pairsTo n n).take 1, List.take_sublist _ _, ?_, ?_, by rw [if_pos he]⟩
        · rw [List.length_take]; have := List.length_pos_iff.mpr pne; omega
        · rw [List.length_take]; omega
      · refine ⟨sub.take 5, (List.take_sublist _ _).trans hsub, ?_, ?_, by rw [if_neg he]⟩
        · cases hs : sub.take 5 with
          | nil => rw [hs] at he; exact absurd rfl he
          | cons a l => rw [List.length_cons]; omega
        · rw [List.length_take]; omega
    obtain ⟨ht2, ht3⟩ := ht2
    refine sx_set 5 nd_law_parts rfl (sh := .d (.list (ts.map pairD))) (ex_if (k := !(sub.take 5).isEmpty) (TX.to (tx_c (c_ne hr.units ((Sd.list (k := 1) (Sd.map fun _ => Sd.tup (.cons sd_int (.cons sd_int .nil)))).shaped (by decide)) rfl) (ex_d (ex_var 5 rfl rfl)) (ex_d (ex_lstD ad_nil))) (by rw [eqv_nil, List.isEmpty_map])) (fun hk => ?_) (fun hk => ?_)) ?_
    · have hk' : (sub.take 5).isEmpty = false := by simpa using hk
      rw [ht3, if_neg (by rw [hk']; exact Bool.false_ne_true)]
      exact ex_d (ex_var 5 rfl rfl)
    · have hk' : (sub.take 5).isEmpty = true := by simpa using hk
      rw [ht3, if_pos hk']
      refine EX.to (ex_d (ex_slL (ex_d (ex_var 3 rfl rfl)) ox_none (ox_some ex_int))) ?_
      rw [show cutD ((pairsTo n n).map pairD) none (some 1) = ((pairsTo n n).map pairD).take 1 from cutD_to _ 1, ← List.map_take]
    -- the loose ties
    refine sx_setD 6 nd_law_parts rfl (dx_slTo (R' := fun sh M' => ∃ (sub : List Nat) (c' : Nat), sub.Sublist (List.range ts.length) ∧ sh = .nl ((sub.take 2).map nD) ∧ M' = mset M q (drawM ns c')) (dx_lc (List.range ts.length) nD _ nD (fun M' => ∃ c', M' = mset M q (drawM ns c')) ⟨c2, rfl⟩ rfl nd_law_parts (IX.to (ix_rng1 T (by omega) (ex_toI (j := ((ts.length : Nat) : Int)) (ex_lenL T (ex_var 5 rfl rfl)) (by rw [List.length_map]))) (rng0 _)) (show BlkOk n_law_parts (defScope s_law_parts) _ [("tie", 10)] from ⟨rfl, by decide +kernel, by decide +kernel, by decide +kernel, by decide +kernel⟩) (by rw [List.length_range]; omega) ?_ (fun s H C cl fp z => gx_name 10 nd_law_parts rfl) ?_ ?_) (fun _ => ex_int) ?_) ?_
    · decide
    · rintro s H C cl fp z M' D l hz ⟨c', rfl⟩ hD
      have hDq : D ≠ q := fun e => by rw [e, mset_same] at hD; cases hD
      refine td_eq (dx_call d_law_take hr ⟨ns, q, c', 2, by decide, by rw [mset_ne hDq.symm, mset_same], rfl, rfl⟩ (fun sh M' p ⟨k, c2, _, _, e⟩ => dom_draw (o := drawM ns c') (by rw [mset_ne hDq.symm, mset_same]) e p) (ax_cons (ex_var 0 rfl rfl) (ax_cons ex_int ax_nil))) ?_ (fun _ => ex_int)
      rintro sh M2 ⟨k, c2, _, rfl, rfl⟩
      refine ⟨⟨mset M q (drawM ns c2), ⟨c2, rfl⟩, ?_, ?_⟩, _, rfl⟩
      · rw [mset_ne hDq] at hD ⊢; exact hD
      · rw [mset_comm hDq, mset_mset]
    · intro s H C cl fp z M' hz
      exact (ex_var 10 rfl rfl)
    · rintro sh M' ⟨sub, h1, rfl, c', rfl⟩
      exact ⟨_, rfl, sub, c', h1, by rw [show cutD (sub.map nD) none (some 2) = (sub.map nD).take 2 from cutD_to _ 2, ← List.map_take], rfl⟩
    rintro sh M3 ⟨sub2, c3, hsub2, rfl, rfl⟩
    refine sx_setD 7 nd_law_parts rfl (dx_call d_law_pick hr ⟨ns, q, c3, [.int 3, .int 4, .int 3, .int 4, .int 2, .int 5], by decide, mset_same, rfl, rfl⟩ (fun sh M' p ⟨d, c', _, _, e⟩ => dom_draw (o := drawM ns c3) mset_same e p) (ax_cons (ex_var 0 rfl rfl) (ax_cons (ex_d (ex_lstD (ad_cons ex_int (ad_cons ex_int (ad_cons ex_int (ad_cons ex_int (ad_cons ex_int (ad_cons ex_int ad_nil)))))))) ax_nil))) ?_
    rintro sh M4 ⟨d, c4, hd4, rfl, rfl⟩
    rw [mset_mset]
    obtain ⟨far, hf2, hf5, rfl⟩ : ∃ far : Nat, 2 ≤ far ∧ far ≤ 5 ∧ d = nD far := by
      simp only [List.mem_cons, List.not_mem_nil, or_false] at hd4
      rcases hd4 with rfl | rfl | rfl | rfl | rfl | rfl
      · exact ⟨3, by omega, by omega, rfl⟩
      · exact ⟨4, by omega, by omega, rfl⟩
      · exact ⟨3, by omega, by omega, rfl⟩
      · exact ⟨4, by omega, by omega, rfl⟩
      · exact ⟨2, by omega, by omega, rfl⟩
      · exact ⟨5, by omega, by omega, rfl⟩
    refine sx_setD 8 nd_law_parts rfl (dx_tup (R := fun sh M' => ∃ sp cr c', sD sp ∈ [sD "plain", sD "poison", sD "quiet"] ∧ sD cr ∈ [sD "loud", sD "still"] ∧ sh = .d (.tuple [nD far, sD sp, sD cr]) ∧ M' = mset M q (drawM ns c'))
      (ad1 (R3 := fun ss M' => ∃ sp cr c', sD sp ∈ [sD "plain", sD "poison", sD "quiet"] ∧ sD cr ∈ [sD "loud", sD "still"] ∧ ss = [.d (nD far), .d (sD sp), .d (sD cr)] ∧ M' = mset M q (drawM ns c')) (R2 := fun _ _ ss M' => ∃ sp cr c', sD sp ∈ [sD "plain", sD "poison", sD "quiet"] ∧ sD cr ∈ [sD "loud", sD "still"] ∧ ss = [.d (sD sp), .d (sD cr)] ∧ M' = mset M q (drawM ns c')) (dx_of (MX.of (ex_var 7 rfl rfl))) ?_ ?_) ?_) ?_
    · rintro sh M' ⟨rfl, rfl⟩
      refine ad1 (R2 := fun _ _ ss M' => ∃ cr c', sD cr ∈ [sD "loud", sD "still"] ∧ ss = [.d (sD cr)] ∧ M' = mset M q (drawM ns c')) (dx_call d_law_pick hr ⟨ns, q, c4, [sD "plain", sD "plain", sD "poison", sD "quiet"], by decide, mset_same, rfl, rfl⟩ (fun sh M' p ⟨d, c', _, _, e⟩ => dom_draw (o := drawM ns c4) mset_same e p) (ax_cons (ex_var 0 rfl rfl) (ax_cons (ex_d (ex_lstD (ad_cons ex_str (ad_cons ex_str (ad_cons ex_str (ad_cons ex_str ad_nil)))))) ax_nil))) ?_ ?_
      · rintro sh M' ⟨d, c5, _, rfl, rfl⟩
        rw [mset_mset]
        refine ad1 (R2 := fun _ M1 ss M' => ss = [] ∧ M' = M1) (dx_call d_law_pick hr ⟨ns, q, c5, [sD "loud", sD "still", sD "still"], by decide, mset_same, rfl, rfl⟩ (fun sh M' p ⟨d, c', _, _, e⟩ => dom_draw (o := drawM ns c5) mset_same e p) (ax_cons (ex_var 0 rfl rfl) (ax_cons (ex_d (ex_lstD (ad_cons ex_str (ad_cons ex_str (ad_cons ex_str ad_nil))))) ax_nil))) (fun sh M' _ => ad0) ?_
        rintro sh M' ss M'' ⟨d, c6, hd6, rfl, rfl⟩ ⟨rfl, rfl⟩
        simp only [List.mem_cons, List.not_mem_nil, or_false] at hd6
        rcases hd6 with rfl | rfl | rfl
        · exact ⟨"loud", c6, by simp, rfl, by rw [mset_mset]⟩
        · exact ⟨"still", c6, by simp, rfl, by rw [mset_mset]⟩
        · exact ⟨"still", c6, by simp, rfl, by rw [mset_mset]⟩
      · rintro sh M' ss M'' ⟨d, c5, hd5, rfl, rfl⟩ ⟨cr, c6, h6, rfl, rfl⟩
        simp only [List.mem_cons, List.not_mem_nil, or_false] at hd5
        rcases hd5 with rfl | rfl | rfl | rfl
        · exact ⟨"plain", cr, c6, by simp, h6, rfl, rfl⟩
        · exact ⟨"plain", cr, c6, by simp, h6, rfl, rfl⟩
        · exact ⟨"poison", cr, c6, by simp, h6, rfl, rfl⟩
        · exact ⟨"quiet", cr, c6, by simp, h6, rfl, rfl⟩
    · rintro sh M' ss M'' ⟨rfl, rfl⟩ ⟨sp, cr, c6, h5, h6, rfl, rfl⟩
      exact ⟨sp, cr, c6, h5, h6, rfl, rfl⟩
    · rintro ss M' ⟨sp, cr, c6, h5, h6, rfl, rfl⟩
      exact ⟨[nD far, sD sp, sD cr], rfl, (by show 3 ≤ 100000; decide), sp, cr, c6, h5, h6, rfl, rfl⟩
    rintro sh M5 ⟨sp, cr, c6, h5, h6, rfl, rfl⟩
    refine sx_retDD (dx_catT (es := []) (R := fun sh M' => ∃ hold c', hold ≤ 2 ∧ sh = .d (.tuple [nD hold]) ∧ M' = mset M q (drawM ns c')) (R' := fun sh M' => ∃ hold c', hold ≤ 2 ∧ sh = .d (partsD ⟨n, ts, sub2.take 2, far, sp, cr, hold⟩) ∧ M' = mset M q (drawM ns c')) (by simp)
      (ex_catT (ds := [nD n, .tuple (ts.map pairD), .tuple ((sub2.take 2).map nD)]) (es := [nD far, sD sp, sD cr]) (by simp) (by show 6 ≤ sizeLine; decide) (ex_tupD (ad_cons (ex_var 2 rfl rfl) (ad_cons (ex_tupOf T rfl (ex_var 5 rfl rfl)) (ad_cons (ex_tupOf T rfl (ex_d (ex_var 6 rfl rfl))) ad_nil)))) (ex_var 8 rfl rfl)) (dx_tup (R1 := fun ss M' => ∃ hold c', hold ≤ 2 ∧ ss = [.d (nD hold)] ∧ M' = mset M q (drawM ns c')) (ad1 (R2 := fun _ M1 ss M' => ss = [] ∧ M' = M1) (dx_call d_law_pick hr ⟨ns, q, c6, [.int 0, .int 0, .int 1, .int 2], by decide, mset_same, rfl, rfl⟩ (fun sh M' p ⟨d, c', _, _, e⟩ => dom_draw (o := drawM ns c6) mset_same e p) (ax_cons (ex_var 0 rfl rfl) (ax_cons (ex_d (ex_lstD (ad_cons ex_int (ad_cons ex_int (ad_cons ex_int (ad_cons ex_int ad_nil)))))) ax_nil))) (fun sh M' _ => ad0) ?_) ?_) ?_) ?_
    · rintro sh M' ss M'' ⟨d, c7, hd7, rfl, rfl⟩ ⟨rfl, rfl⟩
      simp only [List.mem_cons, List.not_mem_nil, or_false] at hd7
      rcases hd7 with rfl | rfl | rfl | rfl
      · exact ⟨0, c7, by omega, rfl, by rw [mset_mset]⟩
      · exact ⟨0, c7, by omega, rfl, by rw [mset_mset]⟩
      · exact ⟨1, c7, by omega, rfl, by rw [mset_mset]⟩
      · exact ⟨2, c7, by omega, rfl, by rw [mset_mset]⟩
    · rintro ss M' ⟨hold, c7, h7, rfl, rfl⟩
      exact ⟨[nD hold], rfl, (by show 1 ≤ 100000; decide), hold, c7, h7, rfl, rfl⟩
    · rintro sh M' ⟨hold, c7, h7, rfl, rfl⟩
      exact ⟨[nD hold], rfl, (by show 7 ≤ sizeLine; decide), hold, c7, h7, rfl, rfl⟩
    · rintro sh M' ⟨hold, c7, h7, rfl, rfl⟩
      refine ⟨_, ⟨⟨n, ts, sub2.take 2, far, sp, cr, hold⟩, c7, ?_, rfl, rfl⟩, SubM.refl⟩
      have hs2 : (sub2.take 2).Sublist (List.range ts.length) := (List.take_sublist _ _).trans hsub2
      exact { n2 := by show 2 ≤ n; omega, n4 := hn4, ties := ⟨ht1, ht2, fun t ht => pk t (hts.subset ht), adj_of_pw (pw.sublist hts)⟩, weak := ⟨by rw [List.length_take]; omega, fun t ht => List.mem_range.mp (hs2.subset ht), adj_of_pw (List.pairwise_lt_range.sublist hs2)⟩, far2 := hf2, far5 := hf5, split := h5, cry := h6, hold := h7 }
end
end HW
/-! A net is made. -/
namespace HW
open PySem PySem.Spec L2
abbrev kwN : List Str := ["weak", "endless", "split", "cry", "hold"]
/-- a class that is made with keywords -/
structure MkK (P : Program) (w : World) (K : PySem.W.Frag) (mg : Str → Option Value) (base : Heap) (C : Str) (n : Nat) (ks : List Str) (k : Nat) (sp : Sp) : Prop where
  ex : ∃ (f : Addr) (fd : FuncData) (ps : List Str) (g : List Value → List Value → List Value) (gV : List V → List V → List V), Mk K (He.ga K C) f ∧ KBn K fd ps n ks g gV ∧ (∀ vs zs, gV vs zs = vs ++ zs) ∧ FnOk P w K mg base CX0 k f fd ps sp
def netS (p : NetP) : List (Str × Sh) := [("hosts", .d (nD p.n)), ("ties", .d p.tiesD), ("weak", .d p.weakD), ("endless", .d (nD p.far)), ("split", .d (.str p.split)), ("cry", .d (.str p.cry)), ("hold", .d (nD p.hold))]
section
variable {P : Program} {w : World} {K : PySem.W.Frag} {mg : Str → Option Value} {base : Heap}
def CNet_init (ss : List Sh) (R : List (Str × Sh) → Mp → Prop) : Prop := ∃ p : NetP, p.Ok ∧ ss = [.d (nD p.n), .d p.tiesD, .d p.weakD, .d (nD p.far), .d (.str p.split), .d (.str p.cry), .d (nD p.hold)] ∧ R = fun fs M' => fs = netS p ∧ M' = M0
theorem far_in {n : Nat} (h : 2 ≤ n) (h2 : n ≤ 5) : nD n ∈ [nD 2, nD 3, nD 4, nD 5] := by
  have : n = 2 ∨ n = 3 ∨ n = 4 ∨ n = 5 := by omega
  rcases this with rfl | rfl | rfl | rfl <;> simp
theorem hold_in {n : Nat} (h : n ≤ 2) : nD n ∈ [nD 0, nD 1, nD 2] := by
  have : n = 0 ∨ n = 1 ∨ n = 2 := by omega
  rcases this with rfl | rfl | rfl <;> simp
theorem w_Net_init (T : Txt K mg) (Z : Tab w K mg) (h : MkD K "Net" (F_Net_init K)) (d_is_number : FnP P w K mg base "is_number" 1 (spP K Cis_number)) (d_are_ties : FnP P w K mg base "are_ties" 5 (spP K Care_ties)) (d_are_weak : FnP P w K mg base "are_weak" 3 (spP K Care_weak)) (d_is_rule : FnP P w K mg base "is_rule" 3 (spP K Cis_rule)) :
    MkK P w K mg base "Net" 3 kwN 8 (spI K "Net" CNet_init) := by
  obtain ⟨f, fd, h1, kws, hk, F⟩ := h
  obtain ⟨mv, kb⟩ := F.kbinds0 (ps := p_Net_init) 3 kwN [] (fun us mv ws => us ++ ws) hk (fun q hq => by cases hq) (fun r1 _ r3 => r1.append r3) (fun D doc pm an cdv ct us mv ws l1 l2 l3 => by
    match us, mv, ws, l1, l2, l3 with
    | [a, b, c], [], [d, e, f, g, h], _, _, _ => rfl)
  refine ⟨f, fd, p_Net_init, _, _, h1, kb, fun _ _ => rfl, ok_init (k := 7) F sc_Net_init ?_ ?_⟩
  · rintro ss R ⟨p, ok, rfl, rfl⟩; rfl
  rintro cdv A outer s H E ss R x dx B hr ⟨p, ok, rfl, rfl⟩ hBH
  have h2 := ok.n2
  have h4 := ok.n4
  refine sx_if (k := false) (tx_notF (tx_val (ex_call d_is_number hr ⟨nD p.n, 2, 4, rfl, congrArg (fun b => Sh.d (.bool b)) (isNum_t (by omega) (by omega)).symm, rfl⟩ (ax_cons (ex_var 1 rfl rfl) (ax_cons ex_int (ax_cons (ex_gInt rfl Z.mh) ax_nil)))))) (fun h => nomatch h) fun _ => ?_
  refine sx_go (sx_if (k := false) (tx_notF (tx_val (ex_call d_are_ties hr ⟨p.n, p.ties, ok.ties, rfl, rfl⟩ (ax_cons (ex_var 1 rfl rfl) (ax_cons (ex_var 2 rfl rfl) ax_nil))))) (fun h => nomatch h) fun _ => ?_)
  refine sx_go (sx_if (k := false) (tx_notF (tx_val (ex_call d_are_weak hr ⟨p.ties.length, p.weak, ok.weak, rfl, rfl⟩ (ax_cons (EX.to (ex_lenT T (ex_var 2 rfl rfl)) (by rw [List.length_map])) (ax_cons (ex_var 3 rfl rfl) ax_nil))))) (fun h => nomatch h) fun _ => ?_)
  refine sx_go ?_
  have hin : ∀ z ∈ ([("endless", nD p.far), ("split", sD p.split), ("cry", sD p.cry), ("hold", nD p.hold)] : List (Str × PyData)), ∃ q ∈ canTab, q.1 = z.1 ∧ z.2 ∈ q.2 := by
    intro z hz
    simp only [List.mem_cons, List.not_mem_nil, or_false] at hz
    rcases hz with rfl | rfl | rfl | rfl
    · exact ⟨("endless", [nD 2, nD 3, nD 4, nD 5]), by simp [canTab], rfl, far_in ok.far2 ok.far5⟩
    · exact ⟨("split", [sD "plain", sD "poison", sD "quiet"]), by simp [canTab], rfl, ok.split⟩
    · exact ⟨("cry", [sD "loud", sD "still"]), by simp [canTab], rfl, ok.cry⟩
    · exact ⟨("hold", [nD 0, nD 1, nD 2]), by simp [canTab], rfl, hold_in ok.hold⟩
  refine sx_for (is := [8, 9]) ([("endless", nD p.far), ("split", sD p.split), ("cry", sD p.cry), ("hold", nD p.hold)] : List (Str × PyData)) (fun z => .tuple [sD z.1, z.2]) (fun z S => (S.set 8 (some (.d (sD z.1)))).set 9 (some (.d z.2)))
    (fun i S' M' => M' = mset M0 x (.ins (He.ga K "Net") dx []) ∧ ∃ u v, S' = [some (.v (.ref x)), some (.d (nD p.n)), some (.d p.tiesD), some (.d p.weakD), some (.d (nD p.far)), some (.d (.str p.split)), some (.d (.str p.cry)), some (.d (nD p.hold)), u, v]) own_nox rfl
    (IX.to (ix_zip2 (ds := rulesD) (es := [nD p.far, sD p.split, sD p.cry, nD p.hold]) T rfl rfl (ex_gTup rfl Z.ru) (ex_tupD (ds := [nD p.far, sD p.split, sD p.cry, nD p.hold]) (ad_cons (ex_var 4 rfl rfl) (ad_cons (ex_var 5 rfl rfl) (ad_cons (ex_var 6 rfl rfl) (ad_cons (ex_var 7 rfl rfl) ad_nil)))))) rfl)
    (fun z => gx_pair 8 9 rfl nd_Net_init rfl rfl) ⟨rfl, none, none, rfl⟩ ?_ ?_
  · rintro i z S' M' G hx ⟨rfl, u, v, rfl⟩
    obtain ⟨q, hq, hq1, hq2⟩ := hin z (List.mem_of_getElem? hx)
    exact sx_if (k := false) (tx_notF (tx_val (ex_call d_is_rule hr ⟨q, z.2, hq, hq2, by rw [hq1], rfl⟩ (ax_cons (ex_var 8 rfl rfl) (ax_cons (ex_var 9 rfl rfl) ax_nil))))) (fun h => nomatch h) (fun _ => sx_go (sx_turn ⟨rfl, _, _, rfl⟩))
  · rintro S' M' ⟨rfl, u, v, rfl⟩
    refine sx_fld (C := He.ga K "Net") (dx := dx) (q := x) (fs := []) T.cNet (T.aNet _ (by decide +kernel)) mset_same (ex_var 1 rfl rfl) (ex_var 0 rfl rfl) ?_
    rw [mset_mset]
    refine sx_fld (C := He.ga K "Net") (dx := dx) (q := x) T.cNet (T.aNet _ (by decide +kernel)) mset_same (ex_var 2 rfl rfl) (ex_var 0 rfl rfl) ?_
    rw [mset_mset]
    refine sx_fld (C := He.ga K "Net") (dx := dx) (q := x) T.cNet (T.aNet _ (by decide +kernel)) mset_same (ex_var 3 rfl rfl) (ex_var 0 rfl rfl) ?_
    rw [mset_mset]
    refine sx_fld (C := He.ga K "Net") (dx := dx) (q := x) T.cNet (T.aNet _ (by decide +kernel)) mset_same (ex_var 4 rfl rfl) (ex_var 0 rfl rfl) ?_
    rw [mset_mset]
    refine sx_fld (C := He.ga K "Net") (dx := dx) (q := x) T.cNet (T.aNet _ (by decide +kernel)) mset_same (ex_var 5 rfl rfl) (ex_var 0 rfl rfl) ?_
    rw [mset_mset]
    refine sx_fld (C := He.ga K "Net") (dx := dx) (q := x) T.cNet (T.aNet _ (by decide +kernel)) mset_same (ex_var 6 rfl rfl) (ex_var 0 rfl rfl) ?_
    rw [mset_mset]
    refine sx_fld (C := He.ga K "Net") (dx := dx) (q := x) T.cNet (T.aNet _ (by decide +kernel)) mset_same (ex_var 7 rfl rfl) (ex_var 0 rfl rfl) ?_
    rw [mset_mset]
    refine sx_nil fun I H σ s => ⟨I, netS p, M0, ⟨rfl, rfl⟩, s.x, s.m, fun _ _ h => (nomatch h), rfl⟩
/-- Net(parts[0], parts[1], weak=.., ..) -/
theorem ex_mkNet {X : Cx} {S : Sls} {M : Mp} {a b k1 k2 k3 k4 k5 : Expr} {p pos q1 q2 q3 q4 q5 : Pos} {k j : Nat} {n : NetP} (ok : n.Ok) (T : Txt X.K X.mg) (F : MkK X.prog X.w X.K X.mg X.base "Net" 3 kwN j (spI X.K "Net" CNet_init)) (hr : Room k X.A)
    (ha : EX X a S M0 (.d (nD n.n))) (hb : EX X b S M0 (.d n.tiesD)) (h1 : EX X k1 S M0 (.d n.weakD)) (h2 : EX X k2 S M0 (.d (nD n.far))) (h3 : EX X k3 S M0 (.d (.str n.split))) (h4 : EX X k4 S M0 (.d (.str n.cry))) (h5 : EX X k5 S M0 (.d (nD n.hold))) (hj : j + 1 ≤ k := by decide) (hg : Gl X "Net" := by rfl)
    (hall : (backToKw pos (keywordEach [⟨some "weak", k1, q1⟩, ⟨some "endless", k2, q2⟩, ⟨some "split", k3, q3⟩, ⟨some "cry", k4, q4⟩, ⟨some "hold", k5, q5⟩] X.env)).all (·.1.isSome) = true := by rfl) (hks : (backToKw pos (keywordEach [⟨some "weak", k1, q1⟩, ⟨some "endless", k2, q2⟩, ⟨some "split", k3, q3⟩, ⟨some "cry", k4, q4⟩, ⟨some "hold", k5, q5⟩] X.env)).filterMap (·.1) = kwN := by rfl)
    (he : starEach (a :: [b]) X.env = (false, eval a X.env) :: starEach [b] X.env := by rfl) (he2 : starEach (b :: []) X.env = (false, eval b X.env) :: starEach [] X.env := by rfl) (hpl : ((backTo pos (starEach (a :: [b]) X.env)).any (·.1) || (backToKw pos (keywordEach [⟨some "weak", k1, q1⟩, ⟨some "endless", k2, q2⟩, ⟨some "split", k3, q3⟩, ⟨some "cry", k4, q4⟩, ⟨some "hold", k5, q5⟩] X.env)).any (·.1.isNone)) = false := by rfl) :
    EX X (.Call (.Name "Net" p) [a, b] [⟨some "weak", k1, q1⟩, ⟨some "endless", k2, q2⟩, ⟨some "split", k3, q3⟩, ⟨some "cry", k4, q4⟩, ⟨some "hold", k5, q5⟩] pos) S M (.net n) := fun I H σ t l m Q q => by
  obtain ⟨f, fd, ps, g, gV, g1, g2, g3, g4⟩ := F.ex
  refine ej_of (pe_makeK g1 g4 (hr.mono hj) hg T.gNet (n := 2) g2 pass0 (pa_cons pe_ej (pa_cons pe_ej pa_nil he2) he) (pk_cons pe_ej (pk_cons pe_ej (pk_cons pe_ej (pk_cons pe_ej (pk_cons pe_ej pk_nil))))) hall hks (by decide) he hpl) ?_
  refine ha I H σ t l MOk.none _ fun v1 I1 H1 e1 u1 => hb I1 H1 σ e1.t (l.mono e1.i) MOk.none _ fun v2 I2 H2 e2 u2 => h1 I2 H2 σ e2.t (l.mono (e1.i.trans e2.i)) MOk.none _ fun v3 I3 H3 e3 u3 => h2 I3 H3 σ e3.t (l.mono (e1.i.trans (e2.i.trans e3.i))) MOk.none _ fun v4 I4 H4 e4 u4 =>
    h3 I4 H4 σ e4.t (l.mono (e1.i.trans (e2.i.trans (e3.i.trans e4.i)))) MOk.none _ fun v5 I5 H5 e5 u5 => h4 I5 H5 σ e5.t (l.mono (e1.i.trans (e2.i.trans (e3.i.trans (e4.i.trans e5.i))))) MOk.none _ fun v6 I6 H6 e6 u6 => h5 I6 H6 σ e6.t (l.mono (e1.i.trans (e2.i.trans (e3.i.trans (e4.i.trans (e5.i.trans e6.i)))))) MOk.none _ fun v7 I7 H7 e7 u7 => ?_
  have eall : Ext I H I7 H7 := e1.trans (e2.trans (e3.trans (e4.trans (e5.trans (e6.trans e7)))))
  refine ⟨rfl, rfl, fun x dx hx hdx hne => ?_⟩
  have hI7 : I7 x = none := e7.t.free hx
  have hup : Same H7 (upd (upd H7 dx (.own x)) x (.ins (He.ga X.K "Net") dx [])) := (same_new hdx _).trans (same_new (by rw [upd_ne (fun e => hne e.symm)]; exact hx) _)
  rw [g3]
  refine ⟨I7, x, dx, [v1, v2, v3, v4, v5, v6, v7], [.d (nD n.n), .d n.tiesD, .d n.weakD, .d (nD n.far), .d (.str n.split), .d (.str n.cry), .d (nD n.hold)], _, rfl, e7.t.trans hup, hI7, upd_same, ⟨?_, ?_, ?_, ?_, ?_, ?_, ?_, trivial⟩, ⟨n, ok, rfl, rfl⟩, ?_⟩
  · exact Sh.mono (e2.i.trans (e3.i.trans (e4.i.trans (e5.i.trans (e6.i.trans e7.i))))) u1
  · exact Sh.mono (e3.i.trans (e4.i.trans (e5.i.trans (e6.i.trans e7.i)))) u2
  · exact Sh.mono (e4.i.trans (e5.i.trans (e6.i.trans e7.i))) u3
  · exact Sh.mono (e5.i.trans (e6.i.trans e7.i)) u4
  · exact Sh.mono (e6.i.trans e7.i) u5
  · exact Sh.mono e7.i u6
  · exact u7
  rintro I8 H8 fs M' ⟨rfl, rfl⟩ e8 m8 _ _
  refine ⟨rfl, ?_⟩
  have hh : Same H7 (hide (mset M0 x (.ins (He.ga X.K "Net") dx [])) (upd (upd H7 dx (.own x)) x (.ins (He.ga X.K "Net") dx []))) := fun a u y => by
    have hax : a ≠ x := fun e => by rw [e, hx] at y; cases y
    rw [hide_none (by rw [mset_ne hax]; rfl)]
    exact hup a u y
  obtain ⟨n8, gs, f1, f2⟩ := m8 x (.ins (He.ga X.K "Net") dx (netS n)) mset_same
  match gs, f1, f2 with
  | [(a1, w1), (a2, w2), (a3, w3), (a4, w4), (a5, w5), (a6, w6), (a7, w7)], f1, ⟨r1, y1, r2, y2, r3, y3, r4, y4, r5, y5, r6, y6, r7, y7, _⟩ =>
    have r1 : a1 = "hosts" := r1
    have r2 : a2 = "ties" := r2
    have r3 : a3 = "weak" := r3
    have r4 : a4 = "endless" := r4
    have r5 : a5 = "split" := r5
    have r6 : a6 = "cry" := r6
    have r7 : a7 = "hold" := r7
    have x1 : w1 = .int (n.n : Int) := dp_int y1
    have x4 : w4 = .int (n.far : Int) := dp_int y4
    have x5 : w5 = .str n.split := dp_str y5
    have x6 : w6 = .str n.cry := dp_str y6
    have x7 : w7 = .int (n.hold : Int) := dp_int y7
    subst r1 r2 r3 r4 r5 r6 r7
    rw [x1, x4, x5, x6, x7] at f1
    have sn : Same I8 (upd I8 x (.ins (He.ga X.K "Net") dx (netF n w2 w3))) := same_new n8 _
    have hHx : H x = none := by
      cases z : H x with
      | none => rfl
      | some o => rw [eall.h x o z] at hx; cases hx
    refine q _ (upd I8 x (.ins (He.ga X.K "Net") dx (netF n w2 w3))) H8 ⟨(eall.i.trans e8.i).trans sn, fun a u z => ?_, eall.h.trans (hh.trans e8.h), fun a u z1 z2 => ?_⟩ ⟨x, dx, w2, w3, rfl, upd_same, dp_mono sn _ _ y2, dp_mono sn _ _ y3⟩
    · by_cases w : a = x
      · rw [w, upd_same] at z; rw [w, ← z]; exact f1
      · rw [upd_ne w] at z; exact e8.t a u z
    · rw [upd_ne (fun w => by rw [w, hHx] at z1; cases z1)]
      exact e8.f a u (hh a u (eall.h a u z1)) (eall.f a u z1 z2)
/-! _law_made, _law_first -/
def Clawmade (ss : List Sh) (sh : Sh) : Prop := ∃ p : NetP, p.Ok ∧ ss = [.d (partsD p)] ∧ sh = .net p
theorem w_law_made (T : Txt K mg) (Z : Tab w K mg) (h : Fn K mg "_law_made" (F_law_made K)) (d_Net_init : MkK P w K mg base "Net" 3 kwN 8 (spI K "Net" CNet_init)) : FnP P w K mg base "_law_made" 10 (spP K Clawmade) := by
  obtain ⟨f, fd, h1, h2, F⟩ := h
  refine ⟨f, fd, _, h1, h2, bindsD F ?_, ok_pure (k := 9) F sc_law_made ?_ ?_⟩
  · intro kV doc pm an cdv ct us hu
    match us, hu with
    | [a0], _ => rfl
  · rintro ss sh ⟨p, ok, rfl, rfl⟩; rfl
  rintro cdv A outer s H E ss sh B hr ⟨p, ok, rfl, rfl⟩
  exact sx_ret (ex_mkNet ok T d_Net_init hr (ex_ixT (ex_var 0 rfl rfl) ex_int rfl) (ex_ixT (ex_var 0 rfl rfl) ex_int rfl) (ex_ixT (ex_var 0 rfl rfl) ex_int rfl) (ex_ixT (ex_var 0 rfl rfl) ex_int rfl) (ex_ixT (ex_var 0 rfl rfl) ex_int rfl) (ex_ixT (ex_var 0 rfl rfl) ex_int rfl) (ex_ixT (ex_var 0 rfl rfl) ex_int rfl))
def Clawfirst (ss : List Sh) (sh : Sh) : Prop := ∃ p : NetP, p.Ok ∧ ss = [.d (partsD p)] ∧ sh = .d (staD (startOf p))
theorem w_law_first (T : Txt K mg) (Z : Tab w K mg) (h : Fn K mg "_law_first" (F_law_first K)) : FnP P w K mg base "_law_first" 1 (spP K Clawfirst) := by
  obtain ⟨f, fd, h1, h2, F⟩ := h
  refine ⟨f, fd, _, h1, h2, bindsD F ?_, ok_pure (k := 0) F sc_law_first ?_ ?_⟩
  · intro kV doc pm an cdv ct us hu
    match us, hu with
    | [a0], _ => rfl
  · rintro ss sh ⟨p, ok, rfl, rfl⟩; rfl
  rintro cdv A outer s H E ss sh B hr ⟨p, ok, rfl, rfl⟩
  have h2 := ok.n2
  have h4 := ok.n4
  have h5 := ok.ties.lo
  have h6 := ok.ties.hi
  refine sx_ret (EX.to (ex_tupD (ds := [.tuple (List.replicate (p.n - 1) [entD ⟨p.far, none, 0⟩]).flatten, .tuple (List.replicate p.ties.length [bD true]).flatten])
    (ad_cons (ex_rep (by simp) (by omega) (by omega) (by show 1 ≤ 1000; decide) (ex_tupD (ad_cons (ex_tupD (ds := entL ⟨p.far, none, 0⟩) (ad_cons (ex_ixT (ex_var 0 rfl rfl) ex_int rfl) (ad_cons ex_non (ad_cons ex_int ad_nil)))) ad_nil)) (ex_toI (j := ((p.n - 1 : Nat) : Int)) (ex_sub (ex_ixT (d := nD p.n) (ex_var 0 rfl rfl) ex_int rfl) ex_int) (by omega)))
      (ad_cons (ex_rep (by simp) (by omega) (by omega) (by show 1 ≤ 1000; decide) (ex_tupD (ad_cons ex_bl ad_nil)) (ex_toI (j := ((p.ties.length : Nat) : Int)) (ex_lenT T (ex_ixT (d := p.tiesD) (ex_var 0 rfl rfl) ex_int rfl)) (by rw [List.length_map]))) ad_nil))) ?_)
  rw [flat_rep, flat_rep]
  unfold startOf
  simp [List.map_replicate]
end
end HW
/-! The law's own machine: near, entry, lost, told. -/
namespace HW
open PySem PySem.Spec L2
abbrev enM (es : List Ent) : MO := .lst ((es.map entD).map Sh.d)
section
variable {P : Program} {w : World} {K : PySem.W.Frag} {mg : Str → Option Value} {base : Heap}
def Clawnear (ss : List Sh) (sh : Sh) : Prop := ∃ (p : NetP) (s : Sta) (h : Nat), p.Ok ∧ ss = [.d (partsD p), .d (staD s), .d (nD h)] ∧ sh = .nl ((near p s.ss h).map nD)
theorem w_law_near (T : Txt K mg) (Z : Tab w K mg) (h : Fn K mg "_law_near" (F_law_near K)) : FnP P w K mg base "_law_near" 1 (spP K Clawnear) := by
  obtain ⟨f, fd, h1, h2, F⟩ := h
  refine ⟨f, fd, _, h1, h2, bindsD F ?_, ok_pure (k := 0) F sc_law_near ?_ ?_⟩
  · intro kV doc pm an cdv ct us hu
    match us, hu with
    | [a0, a1, a2], _ => rfl
  · rintro ss sh ⟨p, st, h, ok, rfl, rfl⟩; rfl
  rintro cdv A outer s H E ss sh B hr ⟨p, st, h, ok, rfl, rfl⟩
  have hz : (p.ties.zip st.ss).length ≤ 5 := by rw [List.length_zip]; have := ok.ties.hi; omega
  refine sx_setLc 3 (p.ties.zip st.ss) (fun z => .tuple [pairD z.1, bD z.2]) _ (nearC h) (fun z => pairD z.1) rfl nd_law_near rfl
    (IX.to (ix_zip2 (ds := p.ties.map pairD) (es := st.ss.map bD) T rfl rfl (ex_ixT (d := p.tiesD) (ex_var 0 rfl rfl) ex_int rfl) (ex_ixT (ex_var 1 rfl rfl) ex_int rfl)) (zip2D_map pairD bD p.ties st.ss)) (show BlkOk n_law_near (defScope s_law_near) _ [("pair", 4), ("stands", 5)] from ⟨rfl, by decide +kernel, by decide +kernel, by decide +kernel, by decide +kernel⟩) (by omega) ?_ (fun s H C cl fp z => gx_pair 4 5 rfl nd_law_near rfl rfl) ?_ ?_ ?_
  · decide
  · intro s H C cl fp z hz
    obtain ⟨⟨a, b⟩, stt⟩ := z
    refine tsx_one (TX.to (tx_w (wx_and (tx_val (ex_var 5 rfl rfl)) fun _ => wx_and1 (tx_c (c_inTI (ns := [(a : Int), (b : Int)])) (ex_var 2 rfl rfl) (ex_var 4 rfl rfl)))) ?_)
    unfold nearC
    simp only [List.any_cons, List.any_nil, Bool.or_false]
    congr 1
    congr 1 <;> (rw [Bool.eq_iff_iff]; simp; omega)
  · intro s H C cl fp z hz hb
    exact (ex_var 4 rfl rfl)
  refine sx_ret (EX.to (ex_lc0 ((p.ties.zip st.ss).filter (nearC h)) (fun z => pairD z.1) _ (fun z => nD (nearG h z)) rfl nd_law_near (ix_lst (ex_d (ex_var 3 rfl rfl))) (show BlkOk n_law_near (defScope s_law_near) _ [("one", 6), ("other", 7)] from ⟨rfl, by decide +kernel, by decide +kernel, by decide +kernel, by decide +kernel⟩) ?_ ?_ (fun s H C cl fp z => gx_pair 6 7 rfl nd_law_near rfl rfl) ?_) ?_)
  · exact Nat.le_trans (List.length_filter_le _ _) (by omega)
  · decide
  · intro s H C cl fp z hz
    have hc := (List.mem_filter.mp hz).2
    unfold nearC at hc
    simp only [Bool.and_eq_true, Bool.or_eq_true, beq_iff_eq] at hc
    refine ex_toI (ex_sub (ex_add (ex_var 6 rfl rfl) (ex_var 7 rfl rfl)) (ex_var 2 rfl rfl)) ?_
    unfold nearG
    omega
  · unfold near nearL
    rw [List.map_map]
    rfl
def Clawentry (ss : List Sh) (sh : Sh) : Prop := ∃ (s : Sta) (h : Nat), h < s.es.length + 1 ∧ ss = [.d (staD s), .d (nD h)] ∧ sh = .d (entD (entAt s.es h))
theorem w_law_entry (T : Txt K mg) (Z : Tab w K mg) (h : Fn K mg "_law_entry" (F_law_entry K)) : FnP P w K mg base "_law_entry" 1 (spP K Clawentry) := by
  obtain ⟨f, fd, h1, h2, F⟩ := h
  refine ⟨f, fd, _, h1, h2, bindsD F ?_, ok_pure (k := 0) F sc_law_entry ?_ ?_⟩
  · intro kV doc pm an cdv ct us hu
    match us, hu with
    | [a0, a1], _ => rfl
  · rintro ss sh ⟨st, h, hh, rfl, rfl⟩; rfl
  rintro cdv A outer s H E ss sh B hr ⟨st, h, hh, rfl, rfl⟩
  refine sx_ret (ex_if (k := decide (h = 0)) (TX.to (tx_c c_eqI (ex_var 1 rfl rfl) ex_int) (by rw [decide_eq_decide]; omega)) (fun hk => ?_) (fun hk => ?_))
  · have := of_decide_eq_true hk
    subst this
    exact ex_tupD (ds := entL z0) (ad_cons ex_int (ad_cons ex_non (ad_cons ex_int ad_nil)))
  · have := of_decide_eq_false hk
    exact ex_ixT (ex_ixT (ex_var 0 rfl rfl) ex_int rfl) (ex_toI (j := ((h - 1 : Nat) : Int)) (ex_sub (ex_var 1 rfl rfl) ex_int) (by omega)) (atI_nat (es_at (by omega) hh))
/-! lost -/
def Clawlost (fu : Nat) (ss : List Sh) (M : Mp) (sh : Sh) (M' : Mp) : Prop := ∃ (p : NetP) (q : Addr) (es es' : List Ent) (h : Nat), p.Ok ∧ es.length = p.n - 1 ∧ M q = some (enM es) ∧ 1 ≤ h ∧ h < p.n ∧ loseF p fu es h = some es' ∧ ss = [.d (partsD p), .v (.ref q), .d (nD h)] ∧ sh = .d .none ∧ M' = mset M q (enM es')
theorem set_en {es : List Ent} {h : Nat} {x : Ent} : ((es.map entD).map Sh.d).set h (.d (entD x)) = ((es.set h x).map entD).map Sh.d := by
  rw [List.map_set, List.map_set]
theorem en_at {es : List Ent} {i : Nat} (h : i < es.length) : es[i]? = some (entAt es (1 + i)) := by
  rw [show 1 + i = i + 1 from by omega, show es[i]? = (z0 :: es)[i + 1]? from rfl, ent_get' (by omega)]
theorem w_lawlost (T : Txt K mg) (Z : Tab w K mg) (h : Fn K mg "_law_lost" (F_law_lost K)) : ∀ fu : Nat, FnP P w K mg base "_law_lost" (fu + 1) (spM K (Clawlost fu))
  | 0 => by
    obtain ⟨f, fd, h1, h2, F⟩ := h
    refine ⟨f, fd, p_law_lost, h1, h2, bindsD F ?_, ok_mut (k := 0) F sc_law_lost ?_ ?_⟩
    · intro kV doc pm an cdv ct us hu
      match us, hu with
      | [a0, a1, a2], _ => rfl
    · rintro ss M sh M' ⟨p, q, es, es', h, ok, le, hM, g1, g2, hl, rfl, rfl, rfl⟩; rfl
    · rintro cdv A outer s H E ss M sh M' B hr ⟨p, q, es, es', h, ok, le, hM, g1, g2, hl, rfl, rfl, rfl⟩
      cases hl
  | fu + 1 => by
    have d_lost := w_lawlost T Z h fu
    obtain ⟨f, fd, h1, h2, F⟩ := h
    refine ⟨f, fd, p_law_lost, h1, h2, bindsD F ?_, ok_mut (k := fu + 1) F sc_law_lost ?_ ?_⟩
    · intro kV doc pm an cdv ct us hu
      match us, hu with
      | [a0, a1, a2], _ => rfl
    · rintro ss M sh M' ⟨p, q, es, es', h, ok, le, hM, g1, g2, hl, rfl, rfl, rfl⟩; rfl
    rintro cdv A outer s H E ss M sh M' B hr ⟨p, q, es, es', h, ok, le, hM, g1, g2, hl, rfl, rfl, rfl⟩
    have hn4 := ok.n4
    refine sx_put hM (j := h - 1) (by rw [List.length_map, List.length_map]; exact ixN_nat (by omega)) (ex_tupD (ds := entL (bad p)) (ad_cons (ex_ixT (d := nD p.far) (ex_var 0 rfl rfl) ex_int rfl) (ad_cons ex_non (ad_cons (ex_ixT (d := nD p.hold) (ex_var 0 rfl rfl) ex_int rfl) ad_nil)))) (ex_var 1 rfl rfl) (ex_toI (j := ((h - 1 : Nat) : Int)) (ex_sub (ex_var 2 rfl rfl) ex_int) (by omega)) ?_
    rw [show (Sh.d (.tuple (entL (bad p)))) = .d (entD (bad p)) from rfl, set_en]
    unfold loseF at hl
    refine sx_for (is := [3]) (List.range (p.n - 1)) (fun i => nD (1 + i)) (fun i S => S.set 3 (some (.d (nD (1 + i)))))
      (fun i S' M' => ∃ esi, M' = mset M q (enM esi) ∧ esi.length = p.n - 1 ∧ (if p.cry = "loud" then ((List.range (p.n - 1)).drop i).foldlM (loseS (loseF p fu) h) esi = some es' else esi = es') ∧ ∃ u, S' = [some (.d (partsD p)), some (.v (.ref q)), some (.d (nD h)), u]) own_nox rfl
      (ix_rng2 T (lo := 1) (n := p.n - 1) (by omega) rfl (by omega) (by omega) (by omega) ex_int (ex_ixT (d := nD p.n) (ex_var 0 rfl rfl) ex_int rfl))
      (fun i => gx_name 3 nd_law_lost rfl) ⟨_, rfl, by rw [List.length_set, le], ?_, none, rfl⟩ ?_ ?_
    · by_cases hc : p.cry = "loud"
      · rw [if_pos hc] at hl ⊢; rw [List.drop_zero]; exact hl
      · rw [if_neg hc] at hl ⊢; exact Option.some.inj hl
    · rintro i k S' M' G hx ⟨esi, rfl, li, hf, u, rfl⟩
      have hi : i < p.n - 1 := by
        have := (List.getElem?_eq_some_iff.mp hx).1
        rw [List.length_range] at this
        exact this
      have hki : k = i := by rw [List.getElem?_range hi] at hx; cases hx; rfl
      subst hki
      have hd : (List.range (p.n - 1)).drop k = k :: (List.range (p.n - 1)).drop (k + 1) := by
        rw [List.drop_eq_getElem_cons (by rw [List.length_range]; exact hi), List.getElem_range]
      refine sx_if (k := decide (p.cry = "loud") && decide ((entAt esi (1 + k)).b = some h)) (TX.to (tx_w (wx_and (tx_c c_eqS (ex_ixT (d := sD p.cry) (ex_var 0 rfl rfl) ex_int rfl) ex_str) fun _ => wx_and1 (tx_c (c_eq hr.units (shaped_opt _) rfl) (ex_ixT (ex_ixM (sh := .d (entD (entAt esi (1 + k)))) mset_same (ex_var 1 rfl rfl) (ex_toI (j := (k : Int)) (ex_sub (ex_var 3 rfl rfl) ex_int) (by omega)) (atI_nat (by rw [List.getElem?_map, List.getElem?_map, en_at (by omega)]; rfl))) ex_int rfl) (ex_var 2 rfl rfl)))) (by rw [eqv_opt])) (fun hk => ?_) (fun hk => ?_)
      · simp only [Bool.and_eq_true, decide_eq_true_eq] at hk
        rw [if_pos hk.1, hd, List.foldlM_cons] at hf
        unfold loseS at hf
        rw [if_pos hk.2] at hf
        cases el : loseF p fu esi (1 + k) with
        | none => rw [el] at hf; cases hf
        | some esn =>
          rw [el] at hf
          refine sx_exprM (mx_call (k := fu + 1) d_lost hr ⟨p, q, esi, esn, 1 + k, ok, li, mset_same, by omega, by omega, el, rfl, rfl, rfl⟩ (dom_mset mset_same) (ax_cons (ex_var 0 rfl rfl) (ax_cons (ex_var 1 rfl rfl) (ax_cons (ex_var 3 rfl rfl) ax_nil))) (Nat.le_refl _)) ?_
          refine sx_go (sx_turn ⟨esn, by rw [mset_mset], by rw [loseF_len fu _ _ _ el, li], by rw [if_pos hk.1]; exact hf, _, rfl⟩)
      · refine sx_go (sx_turn ⟨esi, rfl, li, ?_, _, rfl⟩)
        by_cases hc : p.cry = "loud"
        · rw [if_pos hc] at hf ⊢
          rw [hd, List.foldlM_cons] at hf
          unfold loseS at hf
          rw [if_neg (fun q => by rw [decide_eq_true hc, decide_eq_true q] at hk; cases hk)] at hf
          exact hf
        · rw [if_neg hc] at hf ⊢; exact hf
    · rintro S' M' ⟨esi, rfl, li, hf, u, rfl⟩
      rw [List.drop_eq_nil_of_le (Nat.le_refl _)] at hf
      have : esi = es' := by
        by_cases hc : p.cry = "loud"
        · rw [if_pos hc] at hf; cases hf; rfl
        · rw [if_neg hc] at hf; exact hf
      subst this
      exact sx_endD SubM.refl
end
end HW
/-! The law's own machine: told. -/
namespace HW
open PySem PySem.Spec L2
section
variable {P : Program} {w : World} {K : PySem.W.Frag} {mg : Str → Option Value} {base : Heap}
theorem dp_ent {K : PySem.W.Frag} {I : Hp} {v : V} {e : Ent} (h : Dp K I v (entD e)) : ∃ a y1 y2 y3, v = .ref a ∧ SqT K I a [y1, y2, y3] ∧ Dp K I y1 (nD e.d) ∧ Dp K I y2 (optD e.b) ∧ Dp K I y3 (nD e.h) := by
  obtain ⟨a, xs, rfl, x1, x2⟩ := dp_tup h
  cases x2 with
  | cons z1 r1 =>
    cases r1 with
    | cons z2 r2 =>
      cases r2 with
      | cons z3 r3 =>
        cases r3
        exact ⟨a, _, _, _, rfl, x1, z1, z2, z3⟩
theorem g_nest {K : PySem.W.Frag} {i j k l : Nat} {u y1 y2 y3 : V} {a : Addr} {σ : L2.St} {H : Hp} {Q : L2.St → Hp → Prop} (hs : SqT K H a [y1, y2, y3]) (q : Q ((((σ.set i (some u)).set j (some y1)).set k (some y2)).set l (some y3)) H) :
    gCons (gName i) (gCons (gTup K 3 (gCons (gName j) (gCons (gName k) (gCons (gName l) gNil)))) gNil) [u, .ref a] σ H Q := ⟨u, _, rfl, .ref a, _, rfl, a, _, rfl, hs, rfl, y1, _, rfl, y2, _, rfl, y3, _, rfl, rfl, rfl, q⟩
def Clawtold (ss : List Sh) (sh : Sh) : Prop := ∃ (p : NetP) (s : Sta) (one other : Nat) (es' : List Ent), s.Fit p ∧ one < p.n ∧ 1 ≤ other ∧ other < p.n ∧ tellF p s.es one other = some es' ∧ ss = [.d (partsD p), .d (staD s), .d (nD one), .d (nD other)] ∧ sh = .d (staD ⟨es', s.ss⟩)
theorem w_law_told (T : Txt K mg) (Z : Tab w K mg) (h : Fn K mg "_law_told" (F_law_told K)) (d_law_entry : FnP P w K mg base "_law_entry" 1 (spP K Clawentry)) (d_lost : FnP P w K mg base "_law_lost" 6 (spM K (Clawlost FU))) : FnP P w K mg base "_law_told" 8 (spP K Clawtold) := by
  obtain ⟨f, fd, h1, h2, F⟩ := h
  refine ⟨f, fd, _, h1, h2, bindsD F ?_, ok_pure (k := 7) F sc_law_told ?_ ?_⟩
  · intro kV doc pm an cdv ct us hu
    match us, hu with
    | [a0, a1, a2, a3], _ => rfl
  · rintro ss sh ⟨p, st, one, other, es', fs, g1, g2, g3, hl, rfl, rfl⟩; rfl
  rintro cdv A outer s H E ss sh B hr ⟨p, st, one, other, es', fs, g1, g2, g3, hl, rfl, rfl⟩
  have ok := fs.ok
  have hle := fs.le
  have hn4 := ok.n4
  refine sx_parLE 4 5 rfl nd_law_told rfl rfl (by decide) (exl_list T rfl (ex_ixT (ex_var 1 rfl rfl) ex_int rfl)) (fun _ => ex_call d_law_entry hr ⟨st, one, by omega, rfl, rfl⟩ (ax_cons (ex_var 1 rfl rfl) (ax_cons (ex_var 2 rfl rfl) ax_nil))) fun q hq => ?_
  refine sx_set 6 nd_law_told rfl (sh := .d (nD (heardOf p st.es one other))) (ex_if (k := decide (p.split = "poison") && decide ((entAt st.es one).b = some other)) (TX.to (tx_w (wx_and (tx_c c_eqS (ex_ixT (d := sD p.split) (ex_var 0 rfl rfl) ex_int rfl) ex_str) fun _ => wx_and1 (tx_c (c_eq hr.units (shaped_opt _) rfl) (ex_ixT (d := optD (entAt st.es one).b) (ex_var 5 rfl rfl) ex_int rfl) (ex_var 3 rfl rfl)))) (by rw [eqv_opt])) (fun hk => ?_) (fun hk => ?_)) ?_
  · simp only [Bool.and_eq_true, decide_eq_true_eq] at hk
    unfold heardOf
    rw [if_pos hk]
    exact ex_ixT (d := nD p.far) (ex_var 0 rfl rfl) ex_int rfl
  · unfold heardOf
    rw [if_neg (fun h => by rw [decide_eq_true h.1, decide_eq_true h.2] at hk; cases hk)]
    exact ex_ixT (d := nD (entAt st.es one).d) (ex_var 5 rfl rfl) ex_int rfl
  refine sx_asgV (t := gCons (gName 7) (gCons (gTup K 3 (gCons (gName 8) (gCons (gName 9) (gCons (gName 10) gNil)))) gNil)) ?_ ?_ (n := 2) ?_ ?_ ?_ ?_ ?_ ?_ ?_
  · exact rfl
  · exact pgs_cons (pg_name (i := 7) nd_law_told (by rfl) (by first | exact Or.inl rfl | exact Or.inr rfl) (by first | exact .inl rfl | exact .inr rfl)) (pgs_cons (pg_tup rfl (pgs_cons (pg_name (i := 8) nd_law_told (by rfl) (by first | exact Or.inl rfl | exact Or.inr rfl) (by first | exact .inl rfl | exact .inr rfl)) (pgs_cons (pg_name (i := 9) nd_law_told (by rfl) (by first | exact Or.inl rfl | exact Or.inr rfl) (by first | exact .inl rfl | exact .inr rfl)) (pgs_cons (pg_name (i := 10) nd_law_told (by rfl) (by first | exact Or.inl rfl | exact Or.inr rfl) (by first | exact .inl rfl | exact .inr rfl)) pgs_nil)))) pgs_nil)
  · exact rfl
  · exact rfl
  · decide
  rotate_left
  · exact rfl
  · exact rfl
  · exact rfl
  refine fun I Hs σ s' => aj_2 (I := I) ?_
  refine ex_q s' (ex_toI (j := ((lateOf p st.es one other : Nat) : Int)) (ex_min T rfl (ex_add (ex_var 6 rfl rfl) ex_int) (ex_ixT (d := nD p.far) (ex_var 0 rfl rfl) ex_int rfl)) ?_) fun u I2 H2 s2 e2 hu => ?_
  · unfold lateOf
    split <;> omega
  refine ex_q s2 (ex_call d_law_entry hr ⟨st, other, by omega, rfl, rfl⟩ (ax_cons (ex_var 1 rfl rfl) (ax_cons (ex_var 3 rfl rfl) ax_nil))) fun v I3 H3 s3 e3 hv => ⟨rfl, fun TT hT => ?_⟩
  have hu3 := Sh.mono e3.i hu
  obtain ⟨a, y1, y2, y3, rfl, x1, z1, z2, z3⟩ := dp_ent hv
  · have s4 := s3.tell (o := .tup [u, .ref a]) hT
    refine g_nest (sqT_mono s4.x.t x1) ?_
    refine sx_at (S := [some (.d (partsD p)), some (.d (staD st)), some (.d (nD one)), some (.d (nD other)), some (.v (.ref q)), some (.d (entD (entAt st.es one))), some (.d (nD (heardOf p st.es one other))), some (.d (nD (lateOf p st.es one other))), some (.d (nD (entAt st.es other).d)), some (.d (optD (entAt st.es other).b)), some (.d (nD (entAt st.es other).h))])
      ((((s4.set 7 hu3).set (sh := .d (nD (entAt st.es other).d)) 8 z1).set (sh := .d (optD (entAt st.es other).b)) 9 z2).set (sh := .d (nD (entAt st.es other).h)) 10 z3) ?_
    have fin : ∀ (esx : List Ent) (M : Mp), esx = es' → M = mset M0 q (enM esx) → SX (cxOf CX0 P w K mg base n_law_told "_law_told" (defScope s_law_told) f cdv A outer s H E).nox ((defBody s_law_told).drop 4) (DR K B (.d (staD ⟨es', st.ss⟩))) [some (.d (partsD p)), some (.d (staD st)), some (.d (nD one)), some (.d (nD other)), some (.v (.ref q)), some (.d (entD (entAt st.es one))), some (.d (nD (heardOf p st.es one other))), some (.d (nD (lateOf p st.es one other))), some (.d (nD (entAt st.es other).d)), some (.d (optD (entAt st.es other).b)), some (.d (nD (entAt st.es other).h))] M B := by
      rintro esx M rfl rfl
      exact sx_ret (ex_tupD (ds := [.tuple (esx.map entD), .tuple (st.ss.map bD)]) (ad_cons (ex_tupOfM T mset_same (ex_var 4 rfl rfl)) (ad_cons (ex_ixT (ex_var 1 rfl rfl) ex_int rfl) ad_nil)))
    have hM : (mset M0 q (enM st.es)) q = some (enM st.es) := mset_same
    have hix : ixN (((st.es.map entD).map Sh.d)).length ((other - 1 : Nat) : Int) = some (other - 1) := by rw [List.length_map, List.length_map]; exact ixN_nat (by omega)
    unfold tellF at hl
    refine sx_if (k := decide ((entAt st.es other).b = some one)) (TX.to (tx_c (c_eq hr.units (shaped_opt _) rfl) (ex_var 9 rfl rfl) (ex_var 2 rfl rfl)) (eqv_opt _ _)) (fun hk => ?_) (fun hk => ?_)
    · have hk := of_decide_eq_true hk
      refine sx_if (k := decide (lateOf p st.es one other = p.far)) (TX.to (tx_c c_eqI (ex_var 7 rfl rfl) (ex_ixT (d := nD p.far) (ex_var 0 rfl rfl) ex_int rfl)) (by rw [decide_eq_decide]; omega)) (fun hk2 => ?_) (fun hk2 => ?_)
      · rw [if_pos ⟨hk, of_decide_eq_true hk2⟩] at hl
        refine sx_exprM (mx_call d_lost hr ⟨p, q, st.es, es', other, ok, hle, hM, g2, g3, hl, rfl, rfl, rfl⟩ (dom_mset hM) (ax_cons (ex_var 0 rfl rfl) (ax_cons (ex_var 4 rfl rfl) (ax_cons (ex_var 3 rfl rfl) ax_nil)))) ?_
        exact sx_go (sx_go (fin _ _ rfl (by rw [mset_mset])))
      · rw [if_neg (fun h => (of_decide_eq_false hk2) h.2), if_pos hk] at hl
        cases hl
        refine sx_put hM (j := other - 1) hix (ex_tupD (ds := entL ⟨lateOf p st.es one other, some one, 0⟩) (ad_cons (ex_var 7 rfl rfl) (ad_cons (ex_var 2 rfl rfl) (ad_cons ex_int ad_nil)))) (ex_var 4 rfl rfl) (ex_toI (j := ((other - 1 : Nat) : Int)) (ex_sub (ex_var 3 rfl rfl) ex_int) (by omega)) ?_
        rw [show (Sh.d (.tuple (entL ⟨lateOf p st.es one other, some one, 0⟩))) = .d (entD ⟨lateOf p st.es one other, some one, 0⟩) from rfl, set_en]
        exact sx_go (sx_go (fin _ _ rfl (by rw [mset_mset])))
    · have hk := of_decide_eq_false hk
      rw [if_neg (fun h => hk h.1), if_neg hk] at hl
      cases hl
      refine sx_if (k := decide (0 < (entAt st.es other).h)) (TX.to (tx_c c_gt (ex_var 10 rfl rfl) ex_int) (by rw [decide_eq_decide]; omega)) (fun hk2 => ?_) (fun hk2 => ?_)
      · have hk2 := of_decide_eq_true hk2
        refine sx_put hM (j := other - 1) hix (ex_tupD (ds := entL ⟨(entAt st.es other).d, (entAt st.es other).b, (entAt st.es other).h - 1⟩) (ad_cons (ex_var 8 rfl rfl) (ad_cons (ex_var 9 rfl rfl) (ad_cons (ex_toI (ex_sub (ex_var 10 rfl rfl) ex_int) (by simp only; omega)) ad_nil)))) (ex_var 4 rfl rfl) (ex_toI (j := ((other - 1 : Nat) : Int)) (ex_sub (ex_var 3 rfl rfl) ex_int) (by omega)) ?_
        rw [show (Sh.d (.tuple (entL ⟨(entAt st.es other).d, (entAt st.es other).b, (entAt st.es other).h - 1⟩))) = .d (entD ⟨(entAt st.es other).d, (entAt st.es other).b, (entAt st.es other).h - 1⟩) from rfl, set_en]
        refine sx_go (sx_go (fin _ _ ?_ (by rw [mset_mset])))
        rw [if_pos hk2]
      · have hk2 := of_decide_eq_false hk2
        refine sx_if (k := decide (lateOf p st.es one other < (entAt st.es other).d)) (TX.to (tx_c c_lt (ex_var 7 rfl rfl) (ex_var 8 rfl rfl)) (by rw [decide_eq_decide]; omega)) (fun hk3 => ?_) (fun hk3 => ?_)
        · refine sx_put hM (j := other - 1) hix (ex_tupD (ds := entL ⟨lateOf p st.es one other, some one, 0⟩) (ad_cons (ex_var 7 rfl rfl) (ad_cons (ex_var 2 rfl rfl) (ad_cons ex_int ad_nil)))) (ex_var 4 rfl rfl) (ex_toI (j := ((other - 1 : Nat) : Int)) (ex_sub (ex_var 3 rfl rfl) ex_int) (by omega)) ?_
          rw [show (Sh.d (.tuple (entL ⟨lateOf p st.es one other, some one, 0⟩))) = .d (entD ⟨lateOf p st.es one other, some one, 0⟩) from rfl, set_en]
          refine sx_go (sx_go (sx_go (fin _ _ ?_ (by rw [mset_mset]))))
          rw [if_neg hk2, if_pos (of_decide_eq_true hk3)]
        · refine sx_go (sx_go (sx_go (fin _ _ ?_ rfl)))
          rw [if_neg hk2, if_neg (of_decide_eq_false hk3)]
end
end HW
/-! The law's rows. -/
namespace HW
open PySem PySem.Spec L2
def lawTellC (p : NetP) (s : Sta) (one o : Nat) : Bool := decide (0 < o) && !(decide (p.split = "quiet") && decide ((entAt s.es one).b = some o))
def lawTellsAt (p : NetP) (s : Sta) (one : Nat) : List Deed := ((near p s.ss one).filter (lawTellC p s one)).map (Deed.tell one)
def lawTells (p : NetP) (s : Sta) : List Deed := (List.range p.n).flatMap (lawTellsAt p s)
def lawAble (p : NetP) (s : Sta) : List Deed := lawTells p s ++ fallsIn p s ++ comesIn p s
def nextS (p : NetP) (s : Sta) (d : Deed) : Sta := (doF p s d).getD s
abbrev rowD (p : NetP) (s : Sta) (d : Deed) : PyData := .tuple [deedD d, staD (nextS p s d)]
theorem nextS_of {p : NetP} {s s' : Sta} {d : Deed} (h : doF p s d = some s') : nextS p s d = s' := by unfold nextS; rw [h]; rfl
section
variable {P : Program} {w : World} {K : PySem.W.Frag} {mg : Str → Option Value} {base : Heap}
def Clawrows (ss : List Sh) (sh : Sh) : Prop := ∃ (p : NetP) (s : Sta), s.Fit p ∧ (∀ d ∈ lawAble p s, d.Fit p ∧ ∃ s', doF p s d = some s') ∧ ss = [.d (partsD p), .d (staD s)] ∧ sh = .d (.list ((lawAble p s).map (rowD p s)))
theorem lawTellsAt_len {p : NetP} (ok : p.Ok) (s : Sta) (one : Nat) : (lawTellsAt p s one).length ≤ 5 := by
  unfold lawTellsAt
  rw [List.length_map]
  exact Nat.le_trans (List.length_filter_le _ _) (near_len ok _ _)
theorem lawFlat_len {p : NetP} (ok : p.Ok) (s : Sta) : ∀ l : List Nat, (l.flatMap (lawTellsAt p s)).length ≤ 5 * l.length
  | [] => by simp
  | a :: l => by
    rw [List.flatMap_cons, List.length_append, List.length_cons]
    have := lawFlat_len ok s l
    have := lawTellsAt_len ok s a
    omega
theorem w_law_rows (T : Txt K mg) (Z : Tab w K mg) (h : Fn K mg "_law_rows" (F_law_rows K)) (d_law_near : FnP P w K mg base "_law_near" 1 (spP K Clawnear)) (d_law_entry : FnP P w K mg base "_law_entry" 1 (spP K Clawentry)) (d_law_told : FnP P w K mg base "_law_told" 8 (spP K Clawtold)) (d_lost : FnP P w K mg base "_law_lost" 6 (spM K (Clawlost FU))) : FnP P w K mg base "_law_rows" 12 (spP K Clawrows) := by
  obtain ⟨f, fd, h1, h2, F⟩ := h
  refine ⟨f, fd, _, h1, h2, bindsD F ?_, ok_pure (k := 11) F sc_law_rows ?_ ?_⟩
  · intro kV doc pm an cdv ct us hu
    match us, hu with
    | [a0, a1], _ => rfl
  · rintro ss sh ⟨p, st, fs, al, rfl, rfl⟩; rfl
  rintro cdv A outer s H E ss sh B hr ⟨p, st, fs, al, rfl, rfl⟩
  have ok := fs.ok
  have hle := fs.le
  have hls := fs.ls
  have hn4 := ok.n4
  have h6 := ok.ties.hi
  have h7 := ok.weak.hi
  have e1 : ∀ l : List Nat, l.map nD = (l.map fun k => ((k : Nat) : Int)).map PyData.int := map_nD
  have ht : ∀ z ∈ p.weak, z < st.ss.length := fun z hz => by have := ok.weak.ok z hz; omega
  refine sx_newL 2 nd_law_rows rfl (exl_lst ax_nil (by decide)) fun q hq => ?_
  refine sx_for (is := [3]) (List.range p.n) nD (fun i S => S.set 3 (some (.d (nD i))))
    (fun i S' M' => M' = mset M0 q (.lst (((((List.range p.n).take i).flatMap (lawTellsAt p st)).map (rowD p st)).map Sh.d)) ∧ ∃ u v, S' = [some (.d (partsD p)), some (.d (staD st)), some (.v (.ref q)), u, v, none, none, none, none, none]) own_nox rfl
    (IX.to (ix_rng1 T (by omega) (ex_ixT (d := nD p.n) (ex_var 0 rfl rfl) ex_int rfl)) (rng0 _)) (fun i => gx_name 3 nd_law_rows rfl) ⟨rfl, none, none, rfl⟩ ?_ ?_
  · rintro i k S' M' G hx ⟨rfl, u, v, rfl⟩
    have hi : i < p.n := by
      have := (List.getElem?_eq_some_iff.mp hx).1
      rw [List.length_range] at this
      exact this
    have hki : k = i := by rw [List.getElem?_range hi] at hx; cases hx; rfl
    subst hki
    have hfl := lawFlat_len ok st ((List.range p.n).take k)
    rw [List.length_take, List.length_range] at hfl
    have hnl := near_len ok st.ss k
    refine sx_for (is := [4]) (near p st.ss k) nD (fun o S => S.set 4 (some (.d (nD o))))
      (fun i S' M' => M' = mset M0 q (.lst (((((List.range p.n).take k).flatMap (lawTellsAt p st) ++ (((near p st.ss k).take i).filter (lawTellC p st k)).map (Deed.tell k)).map (rowD p st)).map Sh.d)) ∧ ∃ v, S' = [some (.d (partsD p)), some (.d (staD st)), some (.v (.ref q)), some (.d (nD k)), v, none, none, none, none, none]) own_nox rfl
      (ix_lst (EX.to (ex_d (ex_sorted T (ns := (near p st.ss k).map fun k => ((k : Nat) : Int)) (ms := (near p st.ss k).map fun k => ((k : Nat) : Int)) ?_ (List.Perm.refl _) ?_ (EX.to (ex_d (ex_call d_law_near hr ⟨p, st, k, ok, rfl, rfl⟩ (ax_cons (ex_var 0 rfl rfl) (ax_cons (ex_var 1 rfl rfl) (ax_cons (ex_var 3 rfl rfl) ax_nil))))) (by rw [e1])))) (by rw [← e1]))) (fun o => gx_name 4 nd_law_rows rfl) ⟨?_, v, rfl⟩ ?_ ?_
    · rw [List.length_map]; omega
    · rw [List.pairwise_map]
      exact (near_pw ok st.ss k).imp fun h => by omega
    · rw [List.take_zero, List.filter_nil, List.map_nil, List.append_nil]
    · rintro j o S' M' G hx2 ⟨rfl, v, rfl⟩
      have hmem : o ∈ near p st.ss k := List.mem_of_getElem? hx2
      have htl : ((near p st.ss k).take (j + 1)).filter (lawTellC p st k) = ((near p st.ss k).take j).filter (lawTellC p st k) ++ (if lawTellC p st k o then [o] else []) := by
        rw [take_step hx2, List.filter_append, List.filter_cons]
        rfl
      refine sx_if (k := lawTellC p st k o) (TX.to (tx_w (wx_and (tx_c c_gt (ex_var 4 rfl rfl) ex_int) fun _ => wx_and1 (tx_not (tx_w (wx_and (tx_c c_eqS (ex_ixT (d := sD p.split) (ex_var 0 rfl rfl) ex_int rfl) ex_str) fun _ => wx_and1 (tx_c (c_eq hr.units (shaped_opt _) rfl) (ex_ixT (d := optD (entAt st.es k).b) (ex_call d_law_entry hr ⟨st, k, by omega, rfl, rfl⟩ (ax_cons (ex_var 1 rfl rfl) (ax_cons (ex_var 3 rfl rfl) ax_nil))) ex_int rfl) (ex_var 4 rfl rfl))))))) ?_) (fun hk => ?_) (fun hk => ?_)
      · unfold lawTellC
        rw [eqv_opt]
        congr 1
        rw [decide_eq_decide]; omega
      · have hin : Deed.tell k o ∈ lawAble p st := by
          unfold lawAble lawTells lawTellsAt
          refine List.mem_append_left _ (List.mem_append_left _ (List.mem_flatMap.mpr ⟨k, List.mem_range.mpr hi, List.mem_map.mpr ⟨o, List.mem_filter.mpr ⟨hmem, hk⟩, rfl⟩⟩))
        obtain ⟨⟨f1, f2, f3⟩, s', hs'⟩ := al _ hin
        have hs2 : (tellF p st.es k o).map (fun es => (⟨es, st.ss⟩ : Sta)) = some s' := hs'
        cases el : tellF p st.es k o with
        | none => rw [el] at hs2; cases hs2
        | some es' =>
          rw [el] at hs2
          have hnx : nextS p st (.tell k o) = ⟨es', st.ss⟩ := nextS_of (by rw [hs']; exact hs2.symm)
          refine sx_app mset_same ?_ (ex_var 2 rfl rfl) (ex_tupD (ds := [deedD (.tell k o), staD ⟨es', st.ss⟩]) (ad_cons (ex_tupD (ds := deedL (.tell k o)) (ad_cons ex_str (ad_cons (ex_var 3 rfl rfl) (ad_cons (ex_var 4 rfl rfl) ad_nil)))) (ad_cons (ex_call d_law_told hr ⟨p, st, k, o, es', fs, f1, f2, f3, el, rfl, rfl⟩ (ax_cons (ex_var 0 rfl rfl) (ax_cons (ex_var 1 rfl rfl) (ax_cons (ex_var 3 rfl rfl) (ax_cons (ex_var 4 rfl rfl) ax_nil))))) ad_nil))) ?_
          · rw [List.length_map, List.length_map, List.length_append, List.length_map]
            have h1 := List.length_filter_le (lawTellC p st k) ((near p st.ss k).take j)
            rw [List.length_take] at h1
            omega
          · rw [mset_mset]
            refine sx_go (sx_turn ⟨?_, _, rfl⟩)
            have hr1 : rowD p st (.tell k o) = .tuple [deedD (.tell k o), staD ⟨es', st.ss⟩] := by
              show PyData.tuple [deedD (.tell k o), staD (nextS p st (.tell k o))] = _
              rw [hnx]
            rw [htl, if_pos hk, ← hr1]
            simp only [List.map_append, List.append_assoc, List.map_cons, List.map_nil]
      · refine sx_go (sx_turn ⟨?_, _, rfl⟩)
        rw [htl, if_neg (by rw [hk]; exact Bool.false_ne_true), List.append_nil]
    · rintro S' M' ⟨rfl, v, rfl⟩
      refine sx_turn ⟨?_, _, _, rfl⟩
      rw [List.take_length, take_step hx, List.flatMap_append]
      simp only [List.flatMap_cons, List.flatMap_nil, List.append_nil]
      rfl
  · rintro S' M' ⟨rfl, u, v, rfl⟩
    rw [List.length_range, show (List.range p.n).take p.n = List.range p.n from List.take_of_length_le (by rw [List.length_range]; exact Nat.le_refl _)]
    have hTl : (lawTells p st).length ≤ 20 := by
      have := lawFlat_len ok st (List.range p.n)
      rw [List.length_range] at this
      unfold lawTells
      omega
    have hFl : (p.weak.filter (stood st)).length ≤ 3 := Nat.le_trans (List.length_filter_le _ _) h7
    have hCl : (p.weak.filter fun t => !(stood st t)).length ≤ 3 := Nat.le_trans (List.length_filter_le _ _) h7
    -- falls
    refine sx_for (is := [5]) (p.weak.filter (stood st)) nD (fun t S => S.set 5 (some (.d (nD t))))
      (fun i S' M' => M' q = some (.lst (((lawTells p st ++ ((p.weak.filter (stood st)).take i).map Deed.fall).map (rowD p st)).map Sh.d)) ∧ ∃ u1 u2 u3 u4 u5 u6 u7, S' = [some (.d (partsD p)), some (.d (staD st)), some (.v (.ref q)), u1, u2, u3, u4, u5, u6, u7]) own_nox rfl
      (ix_lst (ex_d (ex_lc p.weak nD _ (stood st) nD rfl nd_law_rows (ix_tup (ex_ixT (d := p.weakD) (ex_var 0 rfl rfl) ex_int rfl)) (show BlkOk n_law_rows (defScope s_law_rows) _ [("tie", 5)] from ⟨rfl, by decide +kernel, by decide +kernel, by decide +kernel, by decide +kernel⟩) (by omega) ?_ (fun s H C cl fp z => gx_name 5 nd_law_rows rfl) ?_ ?_))) (fun t => gx_name 5 nd_law_rows rfl) ⟨?_, _, _, _, _, _, _, _, rfl⟩ ?_ ?_
    · decide
    · intro s H C cl fp z hz
      exact tsx_one (tx_val (ex_ixT (ex_ixT (ex_var 1 rfl rfl) ex_int rfl) (ex_var 5 rfl rfl) (atI_nat (by rw [List.getElem?_map, ss_get (ht z hz)]; rfl))))
    · intro s H C cl fp z hz hb
      exact (ex_var 5 rfl rfl)
    · rw [mset_same, List.take_zero, List.map_nil, List.append_nil]
      rfl
    · rintro i t S' M' G hx ⟨hMq, u1, u2, u3, u4, u5, u6, u7, rfl⟩
      have hmem : t ∈ p.weak := (List.mem_filter.mp (List.mem_of_getElem? hx)).1
      have htw := ok.weak.ok t hmem
      have hin : Deed.fall t ∈ lawAble p st := by
        unfold lawAble fallsIn
        exact List.mem_append_left _ (List.mem_append_right _ (List.mem_map.mpr ⟨t, List.mem_of_getElem? hx, rfl⟩))
      obtain ⟨_, s', hs'⟩ := al _ hin
      have hs2 : (fallF p st.es t).map (fun es => (⟨es, st.ss.set t false⟩ : Sta)) = some s' := hs'
      refine sx_parLL 6 7 rfl nd_law_rows rfl rfl (by decide) (exl_list T rfl (ex_ixT (ex_var 1 rfl rfl) ex_int rfl)) (fun _ => exl_list T rfl (ex_ixT (ex_var 1 rfl rfl) ex_int rfl)) fun e r hMe her hMr => ?_
      have heq : e ≠ q := fun w => by rw [w, hMq] at hMe; cases hMe
      have hrq : r ≠ q := fun w => by rw [w, hMq] at hMr; cases hMr
      refine sx_put (q := r) (xs := (st.ss.map bD).map Sh.d) mset_same (j := t) (by rw [List.length_map, List.length_map]; exact ixN_nat (by omega)) ex_bl (ex_var 7 rfl rfl) (ex_var 5 rfl rfl) ?_
      rw [mset_mset, set_ss]
      refine sx_asg (d := pairD (tieAt p t)) (ex_ixT (ex_ixT (d := p.tiesD) (ex_var 0 rfl rfl) ex_int rfl) (ex_var 5 rfl rfl) (atI_nat (by rw [List.getElem?_map, tie_get htw]; rfl))) (gx_pair 3 4 rfl nd_law_rows rfl rfl) ?_
      obtain ⟨o1, o2⟩ := tie_ok ok htw
      cases ef : fallF p st.es t with
      | none => rw [ef] at hs2; cases hs2
      | some es' =>
        rw [ef] at hs2
        have hnx : nextS p st (.fall t) = ⟨es', st.ss.set t false⟩ := nextS_of (by rw [hs']; exact hs2.symm)
        unfold fallF at ef
        refine sx_for (is := [8, 9]) [((tieAt p t).1, (tieAt p t).2), ((tieAt p t).2, (tieAt p t).1)] pairD (fun z S => (S.set 8 (some (.d (nD z.1)))).set 9 (some (.d (nD z.2))))
          (fun i S' M'' => ∃ esi, M'' = mset (mset M' e (enM esi)) r (stS (st.ss.set t false)) ∧ esi.length = p.n - 1 ∧ (([((tieAt p t).1, (tieAt p t).2), ((tieAt p t).2, (tieAt p t).1)] : List (Nat × Nat)).drop i).foldlM (fallS p) esi = some es' ∧
            ∃ u v, S' = [some (.d (partsD p)), some (.d (staD st)), some (.v (.ref q)), some (.d (nD (tieAt p t).1)), some (.d (nD (tieAt p t).2)), some (.d (nD t)), some (.v (.ref e)), some (.v (.ref r)), u, v]) own_nox rfl
          (ix_tup (ex_tupD (ad_cons (ex_tupD (ad_cons (ex_var 3 rfl rfl) (ad_cons (ex_var 4 rfl rfl) ad_nil))) (ad_cons (ex_tupD (ad_cons (ex_var 4 rfl rfl) (ad_cons (ex_var 3 rfl rfl) ad_nil))) ad_nil))))
          (fun z => gx_pair 8 9 rfl nd_law_rows rfl rfl) ⟨st.es, rfl, hle, ef, u6, u7, rfl⟩ ?_ ?_
        · rintro i k S' M'' G hx3 ⟨esi, rfl, li, hf, u, v, rfl⟩
          have hMe2 : (mset (mset M' e (enM esi)) r (stS (st.ss.set t false))) e = some (enM esi) := by rw [mset_ne her, mset_same]
          have hd : ([((tieAt p t).1, (tieAt p t).2), ((tieAt p t).2, (tieAt p t).1)] : List (Nat × Nat)).drop i = k :: ([((tieAt p t).1, (tieAt p t).2), ((tieAt p t).2, (tieAt p t).1)] : List (Nat × Nat)).drop (i + 1) := by
            have hlt := (List.getElem?_eq_some_iff.mp hx3).1
            rw [List.drop_eq_getElem_cons hlt, (List.getElem?_eq_some_iff.mp hx3).2]
          have hk : k.1 < p.n ∧ k.2 < p.n := by
            have hm := List.mem_of_getElem? hx3
            simp only [List.mem_cons, List.not_mem_nil, or_false] at hm
            rcases hm with rfl | rfl
            · exact ⟨by simp only; omega, o2⟩
            · exact ⟨o2, by simp only; omega⟩
          rw [hd, List.foldlM_cons] at hf
          refine sx_if (k := decide (0 < k.1) && decide ((entAt esi k.1).b = some k.2)) (TX.to (tx_w (wx_and (k := decide (0 < k.1)) (TX.to (tx_c c_gt (ex_var 8 rfl rfl) ex_int) (by rw [decide_eq_decide]; omega)) fun hp => wx_and1 (tx_c (c_eq hr.units (shaped_opt _) rfl) (ex_ixT (d := optD (entAt esi k.1).b) (ex_ixM (sh := .d (entD (entAt esi k.1))) hMe2 (ex_var 6 rfl rfl) (ex_toI (j := ((k.1 - 1 : Nat) : Int)) (ex_sub (ex_var 8 rfl rfl) ex_int) (by have := of_decide_eq_true hp; omega)) (atI_nat (by have := of_decide_eq_true hp; rw [List.getElem?_map, List.getElem?_map, en_at (by omega), show 1 + (k.1 - 1) = k.1 from by omega]; rfl))) ex_int rfl) (ex_var 9 rfl rfl)))) (by rw [eqv_opt])) (fun hk2 => ?_) (fun hk2 => ?_)
          · simp only [Bool.and_eq_true, decide_eq_true_eq] at hk2
            unfold fallS at hf
            rw [if_pos hk2.2] at hf
            cases el : loseF p FU esi k.1 with
            | none => rw [el] at hf; cases hf
            | some esn =>
              rw [el] at hf
              refine sx_exprM (mx_call d_lost hr ⟨p, e, esi, esn, k.1, ok, li, hMe2, hk2.1, hk.1, el, rfl, rfl, rfl⟩ (dom_mset hMe2) (ax_cons (ex_var 0 rfl rfl) (ax_cons (ex_var 6 rfl rfl) (ax_cons (ex_var 8 rfl rfl) ax_nil)))) ?_
              refine sx_go (sx_turn ⟨esn, ?_, by rw [loseF_len _ _ _ _ el, li], hf, _, _, rfl⟩)
              rw [mset_comm her.symm, mset_mset]
          · have hne : ¬ (entAt esi k.1).b = some k.2 := fun h => by
              rcases Nat.eq_zero_or_pos k.1 with z | z
              · rw [z] at h; cases h
              · rw [decide_eq_true z, decide_eq_true h] at hk2; cases hk2
            unfold fallS at hf
            rw [if_neg hne] at hf
            exact sx_go (sx_turn ⟨esi, rfl, li, hf, _, _, rfl⟩)
        · rintro S' M'' ⟨esi, rfl, li, hf, u, v, rfl⟩
          cases hf
          have hMe2 : (mset (mset M' e (enM es')) r (stS (st.ss.set t false))) e = some (enM es') := by rw [mset_ne her, mset_same]
          have hMq2 : (mset (mset M' e (enM es')) r (stS (st.ss.set t false))) q = M' q := by rw [mset_ne hrq.symm, mset_ne heq.symm]
          refine sx_app (by rw [hMq2, hMq]) ?_ (ex_var 2 rfl rfl) (ex_tupD (ds := [deedD (.fall t), staD ⟨es', st.ss.set t false⟩]) (ad_cons (ex_tupD (ds := deedL (.fall t)) (ad_cons ex_str (ad_cons (ex_var 5 rfl rfl) ad_nil))) (ad_cons (ex_tupD (ds := [.tuple (es'.map entD), .tuple ((st.ss.set t false).map bD)]) (ad_cons (ex_tupOfM T hMe2 (ex_var 6 rfl rfl)) (ad_cons (ex_tupOfM T mset_same (ex_var 7 rfl rfl)) ad_nil))) ad_nil))) ?_
          · rw [List.length_map, List.length_map, List.length_append, List.length_map, List.length_take]; omega
          · refine sx_turn ⟨?_, _, _, _, _, _, _, _, rfl⟩
            have hr1 : rowD p st (.fall t) = .tuple [deedD (.fall t), staD ⟨es', st.ss.set t false⟩] := by
              show PyData.tuple [deedD (.fall t), staD (nextS p st (.fall t))] = _
              rw [hnx]
            rw [mset_same, take_step hx, ← hr1]
            simp only [List.map_append, List.append_assoc, List.map_cons, List.map_nil]
    · rintro S' M' ⟨hMq, u1, u2, u3, u4, u5, u6, u7, rfl⟩
      rw [List.take_length] at hMq
      -- comes
      refine sx_for (is := [5]) (p.weak.filter fun t => !(stood st t)) nD (fun t S => S.set 5 (some (.d (nD t))))
        (fun i S' M' => M' q = some (.lst (((lawTells p st ++ fallsIn p st ++ ((p.weak.filter fun t => !(stood st t)).take i).map Deed.come).map (rowD p st)).map Sh.d)) ∧ ∃ u1 u2 u3 u4 u5 u6 u7, S' = [some (.d (partsD p)), some (.d (staD st)), some (.v (.ref q)), u1, u2, u3, u4, u5, u6, u7]) own_nox rfl
        (ix_lst (ex_d (ex_lc p.weak nD _ (fun t => !(stood st t)) nD rfl nd_law_rows (ix_tup (ex_ixT (d := p.weakD) (ex_var 0 rfl rfl) ex_int rfl)) (show BlkOk n_law_rows (defScope s_law_rows) _ [("tie", 5)] from ⟨rfl, by decide +kernel, by decide +kernel, by decide +kernel, by decide +kernel⟩) (by omega) ?_ (fun s H C cl fp z => gx_name 5 nd_law_rows rfl) ?_ ?_))) (fun t => gx_name 5 nd_law_rows rfl) ⟨?_, _, _, _, _, _, _, _, rfl⟩ ?_ ?_
      · decide
      · intro s H C cl fp z hz
        exact tsx_one (tx_not (tx_val (ex_ixT (ex_ixT (ex_var 1 rfl rfl) ex_int rfl) (ex_var 5 rfl rfl) (atI_nat (by rw [List.getElem?_map, ss_get (ht z hz)]; rfl)))))
      · intro s H C cl fp z hz hb
        exact (ex_var 5 rfl rfl)
      · rw [hMq, List.take_zero, List.map_nil, List.append_nil]
        rfl
      · rintro i t S' M' G hx ⟨hMq, u1, u2, u3, u4, u5, u6, u7, rfl⟩
        have hmem : t ∈ p.weak := (List.mem_filter.mp (List.mem_of_getElem? hx)).1
        have htw := ok.weak.ok t hmem
        have hnx : nextS p st (.come t) = ⟨st.es, st.ss.set t true⟩ := rfl
        refine sx_newL 7 nd_law_rows rfl (exl_list T rfl (ex_ixT (ex_var 1 rfl rfl) ex_int rfl)) fun r hMr => ?_
        have hrq : r ≠ q := fun w => by rw [w, hMq] at hMr; cases hMr
        refine sx_put (q := r) (xs := (st.ss.map bD).map Sh.d) mset_same (j := t) (by rw [List.length_map, List.length_map]; exact ixN_nat (by omega)) ex_bl (ex_var 7 rfl rfl) (ex_var 5 rfl rfl) ?_
        rw [mset_mset, set_ss]
        refine sx_app (by rw [mset_ne hrq.symm, hMq]) ?_ (ex_var 2 rfl rfl) (ex_tupD (ds := [deedD (.come t), staD ⟨st.es, st.ss.set t true⟩]) (ad_cons (ex_tupD (ds := deedL (.come t)) (ad_cons ex_str (ad_cons (ex_var 5 rfl rfl) ad_nil))) (ad_cons (ex_tupD (ds := [.tuple (st.es.map entD), .tuple ((st.ss.set t true).map bD)]) (ad_cons (ex_ixT (ex_var 1 rfl rfl) ex_int rfl) (ad_cons (ex_tupOfM T mset_same (ex_var 7 rfl rfl)) ad_nil))) ad_nil))) ?_
        · unfold fallsIn
          rw [List.length_map, List.length_map, List.length_append, List.length_append, List.length_map, List.length_map, List.length_take]; omega
        · refine sx_turn ⟨?_, _, _, _, _, _, _, _, rfl⟩
          have hr1 : rowD p st (.come t) = .tuple [deedD (.come t), staD ⟨st.es, st.ss.set t true⟩] := rfl
          rw [mset_same, take_step hx, ← hr1]
          simp only [List.map_append, List.append_assoc, List.map_cons, List.map_nil]
      · rintro S' M' ⟨hMq, u1, u2, u3, u4, u5, u6, u7, rfl⟩
        rw [List.take_length] at hMq
        exact sx_retM hMq (ex_var 2 rfl rfl)
end
end HW
/-! The law's true distances. -/
namespace HW
open PySem PySem.Spec L2
def setdF (m : Nat) (l : List (Nat × Nat)) (o : Nat) : List (Nat × Nat) := if (lookN l o).isSome then l else l ++ [(o, m)]
def hostStep (adj : Nat → List Nat) (m : Nat) (l : List (Nat × Nat)) (h : Nat) : List (Nat × Nat) := if lookN l h = some (m - 1) then (adj h).foldl (setdF m) l else l
def layerStep (adj : Nat → List Nat) (l : List (Nat × Nat)) (i : Nat) : List (Nat × Nat) := (l.map (·.1)).foldl (hostStep adj (1 + i)) l
def lawPaths (adj : Nat → List Nat) (n : Nat) : List (Nat × Nat) := (List.range (n - 1)).foldl (layerStep adj) [(0, 0)]
theorem setdF_len (m : Nat) : ∀ (l : List Nat) (st : List (Nat × Nat)), (l.foldl (setdF m) st).length ≤ st.length + l.length
  | [], st => Nat.le_refl _
  | o :: l, st => by
    have ih := setdF_len m l (setdF m st o)
    have h : (setdF m st o).length ≤ st.length + 1 := by
      unfold setdF
      split
      · omega
      · simp
    rw [List.foldl_cons, List.length_cons]
    omega
theorem setdF_look {m : Nat} {l : List (Nat × Nat)} {o h : Nat} (e : (lookN l h).isSome = true) : (lookN (setdF m l o) h).isSome = true := by
  unfold setdF
  split
  · exact e
  · cases q : lookN l h with
    | none => rw [q] at e; cases e
    | some d => rw [lookN_app q]; rfl
theorem keys_kvF (l : List (Nat × Nat)) : (kvF l).map (fun kv => kV kv.1) = ((l.map (·.1)).map fun k => ((k : Nat) : Int)).map V.int := by
  unfold kvF
  rw [List.map_map, List.map_map, List.map_map]
  rfl
theorem lookN_mem {l : List (Nat × Nat)} {h : Nat} (e : h ∈ l.map (·.1)) : (lookN l h).isSome = true := by
  obtain ⟨z, hz, rfl⟩ := List.mem_map.mp e
  unfold lookN
  rw [Option.isSome_map]
  exact List.find?_isSome.mpr ⟨z, hz, by simp⟩
section
variable {P : Program} {w : World} {K : PySem.W.Frag} {mg : Str → Option Value} {base : Heap}
def Clawtruly (ss : List Sh) (sh : Sh) : Prop := ∃ (p : NetP) (s : Sta), s.Fit p ∧ ss = [.d (partsD p), .d (staD s)] ∧ sh = .lk ((distL p (lawPaths (near p s.ss) p.n)).map nD) (kvF (lawPaths (near p s.ss) p.n))
theorem w_law_truly (T : Txt K mg) (Z : Tab w K mg) (h : Fn K mg "_law_truly" (F_law_truly K)) (d_law_near : FnP P w K mg base "_law_near" 1 (spP K Clawnear)) : FnP P w K mg base "_law_truly" 3 (spP K Clawtruly) := by
  obtain ⟨f, fd, h1, h2, F⟩ := h
  refine ⟨f, fd, _, h1, h2, bindsD F ?_, ok_pure (k := 2) F sc_law_truly ?_ ?_⟩
  · intro kV doc pm an cdv ct us hu
    match us, hu with
    | [a0, a1], _ => rfl
  · rintro ss sh ⟨p, st, fs, rfl, rfl⟩; rfl
  rintro cdv A outer s H E ss sh B hr ⟨p, st, fs, rfl, rfl⟩
  have ok := fs.ok
  have hn4 := ok.n4
  refine sx_of (ps_set nd_law_truly (i := 2) rfl (by first | exact Or.inl rfl | exact Or.inr rfl) pe_ej (by rfl) (by first | exact .inl rfl | exact .inr rfl)) fun I H σ s => ?_
  refine ej_dict00 T rfl (ex_lstD (ad_cons (ex_tupD (ds := [.int 0, .int 0]) (ad_cons ex_int (ad_cons ex_int ad_nil))) ad_nil)) s fun q I2 H2 hMq i2 s2 => ?_
  refine sx_at (S := [some (.d (partsD p)), some (.d (staD st)), some (.v (.ref q)), none, none, none]) (s2.set (sh := .v (.ref q)) 2 rfl) ?_
  refine sx_for (is := [3]) (List.range (p.n - 1)) (fun i => nD (1 + i)) (fun i S => S.set 3 (some (.d (nD (1 + i)))))
    (fun i S' M' => M' = mset M0 q (.dct (kvF (((List.range (p.n - 1)).take i).foldl (layerStep (near p st.ss)) [(0, 0)]))) ∧ (((List.range (p.n - 1)).take i).foldl (layerStep (near p st.ss)) [(0, 0)]).length ≤ 6 ^ i ∧ ∃ u1 u2 u3, S' = [some (.d (partsD p)), some (.d (staD st)), some (.v (.ref q)), u1, u2, u3]) own_nox rfl
    (ix_rng2 T (lo := 1) (n := p.n - 1) (by omega) rfl (by omega) (by omega) (by omega) ex_int (ex_ixT (d := nD p.n) (ex_var 0 rfl rfl) ex_int rfl)) (fun i => gx_name 3 nd_law_truly rfl) ⟨rfl, Nat.le_refl _, none, none, none, rfl⟩ ?_ ?_
  · rintro i k S' M' G hx ⟨rfl, hz, u1, u2, u3, rfl⟩
    have hi : i < p.n - 1 := by
      have := (List.getElem?_eq_some_iff.mp hx).1
      rw [List.length_range] at this
      exact this
    have hki : k = i := by rw [List.getElem?_range hi] at hx; cases hx; rfl
    subst hki
    rw [take_step hx, List.foldl_append]
    simp only [List.foldl_cons, List.foldl_nil]
    generalize ((List.range (p.n - 1)).take k).foldl (layerStep (near p st.ss)) [(0, 0)] = L at hz ⊢
    have h36 : 6 ^ k ≤ 36 := by
      have : k ≤ 2 := by omega
      calc 6 ^ k ≤ 6 ^ 2 := Nat.pow_le_pow_right (by decide) this
        _ = 36 := by decide
    refine sx_for (is := [4]) (L.map (·.1)) nD (fun h S => S.set 4 (some (.d (nD h))))
      (fun j S' M' => ∃ l, M' = mset M0 q (.dct (kvF l)) ∧ ((L.map (·.1)).drop j).foldl (hostStep (near p st.ss) (1 + k)) l = layerStep (near p st.ss) L k ∧ l.length ≤ L.length + 5 * j ∧ (∀ h ∈ L.map (·.1), (lookN l h).isSome = true) ∧ ∃ u2 u3, S' = [some (.d (partsD p)), some (.d (staD st)), some (.v (.ref q)), some (.d (nD (1 + k))), u2, u3]) own_nox rfl
      (ix_lst (EX.to (ex_d (ex_listK T rfl mset_same (keys_kvF L) (ex_var 2 rfl rfl))) (by rw [← map_nD]))) (fun h => gx_name 4 nd_law_truly rfl) ⟨L, rfl, rfl, Nat.le_refl _, fun h hh => lookN_mem hh, u2, u3, rfl⟩ ?_ ?_
    · rintro j h S' M' G hx2 ⟨l, rfl, hf, hl, hlk, u2, u3, rfl⟩
      have hlt := (List.getElem?_eq_some_iff.mp hx2).1
      have hdr : (L.map (·.1)).drop j = h :: (L.map (·.1)).drop (j + 1) := by rw [List.drop_eq_getElem_cons hlt, (List.getElem?_eq_some_iff.mp hx2).2]
      rw [hdr, List.foldl_cons] at hf
      rw [List.length_map] at hlt
      have hsome := hlk h (List.mem_of_getElem? hx2)
      obtain ⟨d, hd⟩ := Option.isSome_iff_exists.mp hsome
      have hnl := near_len ok st.ss h
      refine sx_for (is := [5]) (if lookN l h = some (1 + k - 1) then near p st.ss h else []) nD (fun o S => S.set 5 (some (.d (nD o))))
        (fun i S' M' => ∃ l2, M' = mset M0 q (.dct (kvF l2)) ∧ (((if lookN l h = some (1 + k - 1) then near p st.ss h else []).drop i).foldl (setdF (1 + k)) l2) = hostStep (near p st.ss) (1 + k) l h ∧ l2.length ≤ l.length + i ∧ (∀ h ∈ L.map (·.1), (lookN l2 h).isSome = true) ∧ ∃ u3, S' = [some (.d (partsD p)), some (.d (staD st)), some (.v (.ref q)), some (.d (nD (1 + k))), some (.d (nD h)), u3]) own_nox rfl
        (ix_lst (ex_if (k := decide (lookN l h = some (1 + k - 1))) (TX.to (tx_c c_eqI (ex_dget (sh := .d (nD d)) (room1 hr) mset_same (by rw [valV_kvF, hd]; rfl) (fun _ => .int _) (ex_var 2 rfl rfl) (ex_var 4 rfl rfl)) (ex_sub (ex_var 3 rfl rfl) ex_int)) ?_) (fun hk => ?_) (fun hk => ?_))) (fun o => gx_name 5 nd_law_truly rfl) ⟨l, rfl, ?_, Nat.le_refl _, hlk, u3, rfl⟩ ?_ ?_
      · rw [hd, decide_eq_decide]
        constructor
        · intro e; congr 1; omega
        · intro e; have e := Option.some.inj e; omega
      · rw [if_pos (of_decide_eq_true hk)]
        exact ex_d (ex_call d_law_near hr ⟨p, st, h, ok, rfl, rfl⟩ (ax_cons (ex_var 0 rfl rfl) (ax_cons (ex_var 1 rfl rfl) (ax_cons (ex_var 4 rfl rfl) ax_nil))))
      · rw [if_neg (of_decide_eq_false hk)]
        exact ex_d (ex_lstD ad_nil)
      · rw [List.drop_zero]
        unfold hostStep
        split
        · rfl
        · rfl
      · rintro i o S' M' G hx3 ⟨l2, rfl, hf2, hl2, hlk2, u3, rfl⟩
        have hlt3 := (List.getElem?_eq_some_iff.mp hx3).1
        have hdr3 : (if lookN l h = some (1 + k - 1) then near p st.ss h else []).drop i = o :: (if lookN l h = some (1 + k - 1) then near p st.ss h else []).drop (i + 1) := by rw [List.drop_eq_getElem_cons hlt3, (List.getElem?_eq_some_iff.mp hx3).2]
        rw [hdr3, List.foldl_cons] at hf2
        have hil : i < 5 := by
          by_cases hc : lookN l h = some (1 + k - 1)
          · rw [if_pos hc] at hlt3; omega
          · rw [if_neg hc] at hlt3; cases hlt3
        refine sx_exprM (mx_setd (y := V.int ((1 + k : Nat) : Int)) mset_same (by unfold kvF; rw [List.length_map]; omega) (ex_var 2 rfl rfl) (ex_var 5 rfl rfl) (ex_var 3 rfl rfl) (fun I u h => dp_int h)) ?_
        have hkv : (if (valV (kvF l2) (Sum.inl (o : Int))).isSome then kvF l2 else putK (kvF l2) (Sum.inl (o : Int)) (V.int ((1 + k : Nat) : Int))) = kvF (setdF (1 + k) l2 o) := by
          unfold setdF
          cases hs : (lookN l2 o).isSome with
          | true => rw [valV_kvF, Option.isSome_map, hs, if_pos rfl, if_pos rfl]
          | false =>
            rw [putK_new (lookN_none hs), valV_kvF, Option.isSome_map, hs, if_neg Bool.false_ne_true, if_neg Bool.false_ne_true]
            unfold kvF
            rw [List.map_append]
            rfl
        rw [mset_mset, hkv]
        refine sx_turn ⟨_, rfl, hf2, ?_, fun h hh => setdF_look (hlk2 h hh), _, rfl⟩
        have := setdF_len (1 + k) [o] l2
        simp only [List.foldl_cons, List.foldl_nil, List.length_cons, List.length_nil] at this
        omega
      · rintro S' M' ⟨l2, rfl, hf2, hl2, hlk2, u3, rfl⟩
        rw [List.drop_eq_nil_of_le (Nat.le_refl _)] at hf2
        have hf2 : l2 = hostStep (near p st.ss) (1 + k) l h := hf2
        refine sx_turn ⟨l2, rfl, by rw [hf2]; exact hf, ?_, hlk2, _, _, rfl⟩
        by_cases hc : lookN l h = some (1 + k - 1)
        · rw [if_pos hc] at hl2; omega
        · rw [if_neg hc, List.length_nil] at hl2; omega
    · rintro S' M' ⟨l, rfl, hf, hl, hlk, u2, u3, rfl⟩
      rw [List.drop_eq_nil_of_le (Nat.le_refl _)] at hf
      have hf : l = layerStep (near p st.ss) L k := hf
      refine sx_turn ⟨by rw [hf], ?_, _, _, _, rfl⟩
      rw [← hf, Nat.pow_succ]
      rw [List.length_map] at hl
      omega
  · rintro S' M' ⟨rfl, hz, u1, u2, u3, rfl⟩
    rw [List.length_range] at hz ⊢
    rw [show (List.range (p.n - 1)).take (p.n - 1) = List.range (p.n - 1) from List.take_of_length_le (by rw [List.length_range]; exact Nat.le_refl _)]
    refine sx_retLk (kvs := kvF (lawPaths (near p st.ss) p.n)) mset_same (EX.to (ex_lc0 (List.range p.n) nD _ (fun h => nD (min ((lookN (lawPaths (near p st.ss) p.n) h).getD p.far) p.far)) rfl nd_law_truly (IX.to (ix_rng1 T (by omega) (ex_ixT (d := nD p.n) (ex_var 0 rfl rfl) ex_int rfl)) (rng0 _)) (show BlkOk n_law_truly (defScope s_law_truly) _ [("host", 4)] from ⟨rfl, by decide +kernel, by decide +kernel, by decide +kernel, by decide +kernel⟩) (by rw [List.length_range]; omega) ?_ (fun s H C cl fp z => gx_name 4 nd_law_truly rfl) ?_) ?_) (ex_var 2 rfl rfl)
    · decide
    · intro s H C cl fp z hz
      refine ex_toI (ex_min T rfl (ex_dget2 (sh := .d (nD ((lookN (lawPaths (near p st.ss) p.n) z).getD p.far))) (room1 hr) mset_same (dv := V.int (p.far : Int)) (ex_ixT (d := nD p.far) (ex_var 0 rfl rfl) ex_int rfl) (fun I u h => dp_int h) (fun I => ?_) (ex_var 2 rfl rfl) (ex_var 4 rfl rfl)) (ex_ixT (d := nD p.far) (ex_var 0 rfl rfl) ex_int rfl)) ?_
      · show Dp K I ((valV (kvF (lawPaths (near p st.ss) p.n)) (Sum.inl (z : Int))).getD (V.int (p.far : Int))) _
        rw [valV_kvF]
        cases lookN (lawPaths (near p st.ss) p.n) z with
        | none => exact .int _
        | some d => exact .int _
      · split <;> omega
    · unfold distL
      rw [List.map_map]
      rfl
end
end HW
/-! The law's breaks. -/
namespace HW
open PySem PySem.Spec L2
/-- the law's walk along the pointers: the hosts gone by, the last one behind them all (none: nobody) -/
def walkB (es : List Ent) : Nat → List (Option Nat) → Option (List (Option Nat))
  | 0, _ => none
  | f + 1, here => match here.getLast? with
    | none => none
    | some o => if truthO o && !(here.dropLast.contains o) then walkB es f (here ++ [(entAt es (o.getD 0)).b]) else some here
def lawRingAt (es : List Ent) (h : Nat) : Bool := match walkB es 8 [some h] with
  | some l => truthO ((l.getLast?).getD none)
  | none => false
def isTell : Deed → Bool
  | .tell _ _ => true
  | _ => false
def lawSettled (p : NetP) (s : Sta) : Bool := !((lawAble p s).any fun d => isTell d && !decide (nextS p s d = s))
def lawTrue (p : NetP) (s : Sta) : List Nat := distL p (lawPaths (near p s.ss) p.n)
def lawClimb (p : NetP) (s s' : Sta) (d : Deed) : Bool := match d with
  | .tell _ o => decide ((entAt s.es o).d < (entAt s'.es o).d) && decide ((entAt s'.es o).d < p.far)
  | _ => false
def lawMisled (p : NetP) (s s' : Sta) (d : Deed) : Bool := match d with
  | .tell _ o => decide ((entAt s'.es o).d < (entAt s.es o).d) && (decide ((entAt s.es o).d = p.far) && !(lookN (lawPaths (near p s.ss) p.n) o).isSome)
  | _ => false
def lawRing (s : Sta) : Bool := (List.range s.es.length).any fun i => lawRingAt s.es (1 + i)
def lawWrong (p : NetP) (s : Sta) : Bool := lawSettled p s && !decide (s.es.map (·.d) = (lawTrue p s).drop 1)
def lawDue (p : NetP) (s s' : Sta) (d : Deed) : List Str :=
  (if lawClimb p s s' d then ([("climb" : Str)]) else []) ++ (if lawMisled p s s' d then [("misled" : Str)] else []) ++ (if lawRing s' then [("ring" : Str)] else []) ++ (if lawWrong p s' then [("wrong" : Str)] else [])
theorem eqv_any (l : List (Option Nat)) (o : Option Nat) : ((l.map optD).any fun z => PyData.eqv z (optD o)) = l.contains o := by
  rw [List.any_map]
  induction l with
  | nil => rfl
  | cons a l ih =>
    rw [List.any_cons, List.contains_cons, ih]
    congr 1
    show PyData.eqv (optD a) (optD o) = _
    rw [eqv_optD, Bool.eq_iff_iff]
    simp
    exact eq_comm
theorem eqv_anyS (l : List Str) (o : Str) : ((l.map sD).any fun z => PyData.eqv z (sD o)) = l.contains o := by
  rw [List.any_map]
  induction l with
  | nil => rfl
  | cons a l ih =>
    rw [List.any_cons, List.contains_cons, ih]
    congr 1
    show PyData.eqv (sD a) (sD o) = _
    rw [eqv_str, Bool.eq_iff_iff]
    simp
    exact eq_comm
/-- if c: found.append(w) -/
theorem sx_ifapp {X : Cx} {S : Sls} {M : Mp} {c e o : Expr} {pos pos2 p apos : Pos} {D : Ends} {B : Bs} {rest : List Stmt} {q : Addr} {f0 : List Str} {wd : Str} {k : Bool} (h : TX X c S M k) (hM : M q = some (.lst ((f0.map sD).map Sh.d))) (hz : f0.length < 1000) (ho : EX X o S M (.v (.ref q))) (he : EX X e S M (.d (.str wd)))
    (kk : ∀ M', (∀ a, a ≠ q → M' a = M a) → M' q = some (.lst (((f0 ++ if k then [wd] else []).map sD).map Sh.d)) → SX X rest D S M' B)
    (hbase : attributeBase o "append" X.env (eval o X.env) = eval o X.env := by rfl)
    (hfew : ((backTo p (starEach (e :: []) X.env)).all (fun x => !x.1) && (backToKw p (keywordEach [] X.env)).all (fun x => x.1.isSome)
      && decide ((e :: ([] : List Expr)).length + ([] : List Keyword).length + (if ([] : List Keyword).isEmpty then 0 else 1) < 30)) = true := by rfl)
    (hline : (apos.endLine == p.line) = true := by rfl) (hs : starEach (e :: []) X.env = (false, eval e X.env) :: starEach [] X.env := by rfl) (hplain : (backTo p (starEach [] X.env)).any (·.1) = false := by rfl)
    (hs2 : swapsWith (.Call (.Attribute o "append" apos) [e] [] p) none pos.line X.env = pure false := by rfl) : SX X (.If c [.Expr (.Call (.Attribute o "append" apos) [e] [] p) pos] [] pos2 :: rest) D S M B := by
  refine sx_if h (fun hk => ?_) (fun hk => ?_)
  · refine sx_app hM (by rw [List.length_map, List.length_map]; omega) ho he ?_ hbase hfew hline hs hplain hs2
    refine sx_go (kk _ (fun a ha => mset_ne ha) ?_)
    rw [mset_same, if_pos hk, List.map_append, List.map_append]
    rfl
  · refine sx_go (kk M (fun _ _ => rfl) ?_)
    rw [hM, if_neg (by rw [hk]; exact Bool.false_ne_true), List.append_nil]
section
variable {P : Program} {w : World} {K : PySem.W.Frag} {mg : Str → Option Value} {base : Heap}
def Clawbreaks (ss : List Sh) (sh : Sh) : Prop := ∃ (p : NetP) (s s' : Sta) (d : Deed), s.Fit p ∧ s'.Fit p ∧ d.Fit p ∧ (∀ d ∈ lawAble p s', d.Fit p ∧ ∃ s2, doF p s' d = some s2) ∧ (∀ h k, (entAt s'.es h).b = some k → k ≤ s'.es.length) ∧ (∀ h, 1 ≤ h → h < p.n → ∃ r, walkB s'.es 8 [some h] = some r) ∧
  ss = [.d (partsD p), .d (staD s), .d (deedD d), .d (staD s')] ∧ sh = .d (sDl (lawDue p s s' d))
theorem w_law_breaks (T : Txt K mg) (Z : Tab w K mg) (h : Fn K mg "_law_breaks" (F_law_breaks K)) (d_law_rows : FnP P w K mg base "_law_rows" 12 (spP K Clawrows)) (d_law_entry : FnP P w K mg base "_law_entry" 1 (spP K Clawentry)) (d_law_truly : FnP P w K mg base "_law_truly" 3 (spP K Clawtruly)) : FnP P w K mg base "_law_breaks" 14 (spP K Clawbreaks) := by
  obtain ⟨f, fd, h1, h2, F⟩ := h
  refine ⟨f, fd, _, h1, h2, bindsD F ?_, ok_pure (k := 13) F sc_law_breaks ?_ ?_⟩
  · intro kV doc pm an cdv ct us hu
    match us, hu with
    | [a0, a1, a2, a3], _ => rfl
  · rintro ss sh ⟨p, st, st', d, fs, fs', fd, al, bys, wk, rfl, rfl⟩; rfl
  rintro cdv A outer s H E ss sh B hr ⟨p, st, st', d, fs, fs', fd, al, bys, wk, rfl, rfl⟩
  have ok := fs.ok
  have hn4 := ok.n4
  have hle := fs.le
  have hle' := fs'.le
  refine sx_parLE 4 5 rfl nd_law_breaks rfl rfl (by decide) (exl_lst ax_nil (by decide)) (fun _ => ex_call d_law_rows hr ⟨p, st', fs', al, rfl, rfl⟩ (ax_cons (ex_var 0 rfl rfl) (ax_cons (ex_var 3 rfl rfl) ax_nil))) fun q hq => ?_
  -- the deed
  have stage : ∀ (f1 : List Str) (M : Mp) (u v : Option Sh), f1 = (if lawClimb p st st' d then [("climb" : Str)] else []) ++ (if lawMisled p st st' d then [("misled" : Str)] else []) → M q = some (.lst ((f1.map sD).map Sh.d)) →
      SX (cxOf CX0 P w K mg base n_law_breaks "_law_breaks" (defScope s_law_breaks) f cdv A outer s H E).nox ((defBody s_law_breaks).drop 2) (DR K B (.d (sDl (lawDue p st st' d)))) [some (.d (partsD p)), some (.d (staD st)), some (.d (deedD d)), some (.d (staD st')), some (.v (.ref q)), some (.d (.list ((lawAble p st').map (rowD p st')))), u, v, none, none, none, none] M B := by
    intro f1 M u v hf1 hM
    have hf1r : f1.contains "ring" = false := by
      rw [hf1]
      split <;> split <;> decide +kernel
    have hf1l : f1.length ≤ 2 := by
      rw [hf1]
      split <;> split <;> decide
    have ringT : ∀ b : Bool, (f1 ++ if b then [("ring" : Str)] else []).contains "ring" = b := by
      intro b
      rw [List.contains_append, hf1r, Bool.false_or]
      cases b
      · rfl
      · decide +kernel
    refine sx_for (is := [8]) (List.range (p.n - 1)) (fun i => nD (1 + i)) (fun i S => S.set 8 (some (.d (nD (1 + i)))))
      (fun i S' M' => M' q = some (.lst (((f1 ++ if ((List.range (p.n - 1)).take i).any (fun i => lawRingAt st'.es (1 + i)) then [("ring" : Str)] else []).map sD).map Sh.d)) ∧ ∃ u1 u2, S' = [some (.d (partsD p)), some (.d (staD st)), some (.d (deedD d)), some (.d (staD st')), some (.v (.ref q)), some (.d (.list ((lawAble p st').map (rowD p st')))), u, v, u1, u2, none, none]) own_nox rfl
      (ix_rng2 T (lo := 1) (n := p.n - 1) (by omega) rfl (by omega) (by omega) (by omega) ex_int (ex_ixT (d := nD p.n) (ex_var 0 rfl rfl) ex_int rfl)) (fun i => gx_name 8 nd_law_breaks rfl) ⟨by rw [List.take_zero, List.any_nil, if_neg Bool.false_ne_true, List.append_nil]; exact hM, none, none, rfl⟩ ?_ ?_
    · rintro i k S' M' G hx ⟨hMq, u1, u2, rfl⟩
      have hi : i < p.n - 1 := by
        have := (List.getElem?_eq_some_iff.mp hx).1
        rw [List.length_range] at this
        exact this
      have hki : k = i := by rw [List.getElem?_range hi] at hx; cases hx; rfl
      subst hki
      obtain ⟨res, hres⟩ := wk (1 + k) (by omega) (by omega)
      refine sx_newL 9 nd_law_breaks rfl (exl_lst (ax_cons (ex_var 8 rfl rfl) ax_nil) (by show 1 ≤ 100000; decide)) fun r hMr => ?_
      have hrq : r ≠ q := fun w => by rw [w, hMq] at hMr; cases hMr
      refine sx_while (fun n S' M'' => ∃ hl : List (Option Nat), M'' = mset M' r (.lst ((hl.map optD).map Sh.d)) ∧ walkB st'.es n hl = some res ∧ (∀ o ∈ hl, ∀ k, o = some k → k ≤ st'.es.length) ∧ hl.length + 10 * n ≤ 100 ∧
        S' = [some (.d (partsD p)), some (.d (staD st)), some (.d (deedD d)), some (.d (staD st')), some (.v (.ref q)), some (.d (.list ((lawAble p st').map (rowD p st')))), u, v, some (.d (nD (1 + k))), some (.v (.ref r)), none, none]) 8 own_nox ⟨[some (1 + k)], rfl, hres, fun o ho k' hk' => by
          rw [List.mem_singleton] at ho
          subst ho
          cases hk'
          omega, (by show 1 + 10 * 8 ≤ 100; decide), rfl⟩ ?_
      rintro n S' M'' ⟨hl, rfl, hw, hb, hln, rfl⟩
      have hMr2 : (mset M' r (.lst ((hl.map optD).map Sh.d))) r = some (.lst ((hl.map optD).map Sh.d)) := mset_same
      have hMq2 : (mset M' r (.lst ((hl.map optD).map Sh.d))) q = some (.lst (((f1 ++ if ((List.range (p.n - 1)).take k).any (fun i => lawRingAt st'.es (1 + i)) then [("ring" : Str)] else []).map sD).map Sh.d)) := by rw [mset_ne hrq.symm]; exact hMq
      cases n with
      | zero => cases hw
      | succ n =>
        cases hg : hl.getLast? with
        | none =>
          unfold walkB at hw
          rw [hg] at hw
          cases hw
        | some o =>
          have hw' : (if truthO o && !(hl.dropLast.contains o) then walkB st'.es n (hl ++ [(entAt st'.es (o.getD 0)).b]) else some hl) = some res := by
            unfold walkB at hw
            rw [hg] at hw
            exact hw
          have hom : o ∈ hl := List.mem_of_getLast? hg
          have hlast : atI (hl.map optD) (-1) = some (optD o) := atI_last (by rw [List.getLast?_map, hg]; rfl)
          have hlastM : atI ((hl.map optD).map Sh.d) (-1) = some (.d (optD o)) := atI_last (by rw [List.getLast?_map, List.getLast?_map, hg]; rfl)
          refine ⟨truthO o && !(hl.dropLast.contains o), tx_lend (.same (.same (.same (.same (.lst hMq2 (.same (.same (.same (.same (.lst hMr2 (.same (.same .nil)))))))))))) (TX.to (tx_w (wx_and (tx_tru (ex_ixL (ex_var 9 rfl rfl) (ex_neg ex_int) hlast) (truD_opt o)) fun _ => wx_and1 (tx_c (c_nin (ds := hl.dropLast.map optD) (room65 hr) ((sd_opt o).shaped (by decide)) ((Sd.list (k := 0) (Sd.map sd_opt)).shaped (by decide))) (ex_ixL (ex_var 9 rfl rfl) (ex_neg ex_int) hlast) (EX.to (ex_d (ex_slL (ex_var 9 rfl rfl) ox_none (ox_some (ex_neg ex_int)))) ?_)))) ?_), fun hk => ?_, fun hk => ?_⟩
          · rw [show cutD (hl.map optD) none (some (-1)) = (hl.map optD).dropLast from cutD_last _, List.map_dropLast]
          · rw [eqv_any]
          · rw [hk, if_pos rfl] at hw'
            cases o with
            | none => cases hk
            | some m =>
              have hmb := hb _ hom m rfl
              refine sx_app hMr2 (by rw [List.length_map, List.length_map]; omega) (ex_var 9 rfl rfl) (ex_ixT (d := optD (entAt st'.es m).b) (ex_call d_law_entry hr ⟨st', m, by omega, rfl, rfl⟩ (ax_cons (ex_var 3 rfl rfl) (ax_cons (ex_ixM (sh := .d (nD m)) hMr2 (ex_var 9 rfl rfl) (ex_neg ex_int) hlastM) ax_nil))) ex_int rfl) ?_
              rw [mset_mset]
              refine sx_turn ⟨n, Nat.lt_succ_self _, hl ++ [(entAt st'.es m).b], ?_, hw', ?_, ?_, rfl⟩
              · rw [List.map_append, List.map_append]; rfl
              · intro o' ho' k' hk'
                rcases List.mem_append.mp ho' with h | h
                · exact hb o' h k' hk'
                · rw [List.mem_singleton] at h
                  rw [h] at hk'
                  exact bys _ _ hk'
              · rw [List.length_append, List.length_singleton]; omega
          · rw [hk, if_neg Bool.false_ne_true] at hw'
            have hre : hl = res := Option.some.inj hw'
            have hring : truthO o = lawRingAt st'.es (1 + k) := by
              unfold lawRingAt
              rw [hres, ← hre]
              simp only
              rw [hg]
              rfl
            have hap : ((List.range (p.n - 1)).take (k + 1)).any (fun i => lawRingAt st'.es (1 + i)) = (((List.range (p.n - 1)).take k).any (fun i => lawRingAt st'.es (1 + i)) || truthO o) := by
              rw [take_step hx, List.any_append, hring]
              simp only [List.any_cons, List.any_nil, Bool.or_false]
            refine sx_ifapp (q := q) (wd := "ring") (k := truthO o && !(((List.range (p.n - 1)).take k).any (fun i => lawRingAt st'.es (1 + i)))) (TX.to (tx_w (wx_and (tx_tru (ex_ixM hMr2 (ex_var 9 rfl rfl) (ex_neg ex_int) hlastM) (truD_opt o)) fun _ => wx_and1 (tx_lend (.same (.same (.same (.same (.lst hMq2 (.same (.same (.same (.same (.lst hMr2 (.same (.same .nil)))))))))))) (tx_c (c_nin (room65 hr) ((sd_str).shaped (by decide)) ?_) ex_str (ex_var 4 rfl rfl))))) ?_) hMq2 ?_ (ex_var 4 rfl rfl) ex_str fun M3 _ hM3 => ?_
            · rw [hf1]
              split <;> split <;> split <;> decide +kernel
            · rw [eqv_anyS, ringT]
            · rw [List.length_append]; split <;> simp <;> omega
            · refine sx_turn ⟨?_, _, _, rfl⟩
              rw [hM3, hap, List.append_assoc]
              congr 5
              cases ((List.range (p.n - 1)).take k).any (fun i => lawRingAt st'.es (1 + i)) <;> cases truthO o <;> rfl
    · rintro S' M' ⟨hMq, u1, u2, rfl⟩
      rw [List.length_range, show (List.range (p.n - 1)).take (p.n - 1) = List.range (p.n - 1) from List.take_of_length_le (by rw [List.length_range]; exact Nat.le_refl _)] at hMq
      have hring : (List.range (p.n - 1)).any (fun i => lawRingAt st'.es (1 + i)) = lawRing st' := by unfold lawRing; rw [hle']
      rw [hring] at hMq
      have hal : (lawAble p st').length ≤ 1000 := by
        have h1 := lawFlat_len ok st' (List.range p.n)
        have h7 := ok.weak.hi
        have h2 := List.length_filter_le (stood st') p.weak
        have h3 := List.length_filter_le (fun t => !(stood st' t)) p.weak
        rw [List.length_range] at h1
        unfold lawAble lawTells fallsIn comesIn
        rw [List.length_append, List.length_append, List.length_map, List.length_map]
        omega
      have fin : ∀ (M : Mp) (S : Sls), S[4]? = some (some (.v (.ref q))) → M q = some (.lst (((lawDue p st st' d).map sD).map Sh.d)) → SX (cxOf CX0 P w K mg base n_law_breaks "_law_breaks" (defScope s_law_breaks) f cdv A outer s H E).nox ((defBody s_law_breaks).drop 4) (DR K B (.d (sDl (lawDue p st st' d)))) S M B := fun M S hS hM => sx_retM hM (ex_var 4 rfl hS)
      have hdue : lawDue p st st' d = (f1 ++ if lawRing st' then [("ring" : Str)] else []) ++ if lawWrong p st' then [("wrong" : Str)] else [] := by unfold lawDue; rw [hf1]
      refine sx_if (k := lawSettled p st') (tx_not (tx_val (ex_anyB T (p' := fun d => isTell d && !decide (nextS p st' d = st')) rfl (ex_lc0 (lawAble p st') (rowD p st') _ _ rfl nd_law_breaks (ix_lst (ex_var 5 rfl rfl)) (show BlkOk n_law_breaks (defScope s_law_breaks) _ [("row", 10)] from ⟨rfl, by decide +kernel, by decide +kernel, by decide +kernel, by decide +kernel⟩) (by omega) (by decide) (fun s H C cl fp z => gx_name 10 nd_law_breaks rfl) ?_)))) (fun hk => ?_) (fun hk => ?_)
      · intro s H C cl fp z hz
        refine ex_toB (ex_and (k := isTell z) ?_ fun _ => ex_one (ex_c (c_ne hr.units ((sd_sta _).shaped (by decide)) ((sd_sta _).shaped (by decide))) (ex_ixT (d := staD (nextS p st' z)) (ex_var 10 rfl rfl) ex_int rfl) (ex_var 3 rfl rfl))) (by rw [eqv_sta])
        cases z with
        | tell a b => exact ex_toB (ex_c c_eqS (ex_ixT (d := sD "tell") (ex_ixT (d := deedD (.tell a b)) (ex_var 10 rfl rfl) ex_int rfl) ex_int rfl) ex_str) (by show decide _ = true; decide +kernel)
        | fall a => exact ex_toB (ex_c c_eqS (ex_ixT (d := sD "fall") (ex_ixT (d := deedD (.fall a)) (ex_var 10 rfl rfl) ex_int rfl) ex_int rfl) ex_str) (by show decide _ = false; decide +kernel)
        | come a => exact ex_toB (ex_c c_eqS (ex_ixT (d := sD "come") (ex_ixT (d := deedD (.come a)) (ex_var 10 rfl rfl) ex_int rfl) ex_int rfl) ex_str) (by show decide _ = false; decide +kernel)
      · have e1 : st'.es.map (fun e => nD e.d) = (st'.es.map (·.d)).map nD := by rw [List.map_map]; rfl
        have e2 : cutD ((distL p (lawPaths (near p st'.ss) p.n)).map nD) (some 1) none = ((lawTrue p st').drop 1).map nD := (cutD_from _ 1).trans (List.map_drop ..).symm
        have hwr : lawWrong p st' = !decide (st'.es.map (·.d) = (lawTrue p st').drop 1) := by unfold lawWrong; rw [hk, Bool.true_and]
        refine sx_ifapp (q := q) (wd := "wrong") (k := lawWrong p st') (TX.to (tx_c (c_ne (f := .list (((lawTrue p st').drop 1).map nD)) hr.units (Sd.shaped (k := 1) (Sd.list (Sd.map fun _ => sd_nD)) (by decide)) (Sd.shaped (k := 1) (Sd.list (Sd.map fun _ => sd_nD)) (by decide)))
          (ex_d (ex_lc0 st'.es entD _ (fun e => nD e.d) rfl nd_law_breaks (ix_tup (ex_ixT (ex_var 3 rfl rfl) ex_int rfl)) (show BlkOk n_law_breaks (defScope s_law_breaks) _ [("entry", 11)] from ⟨rfl, by decide +kernel, by decide +kernel, by decide +kernel, by decide +kernel⟩) (by omega) (by decide) (fun s H C cl fp z => gx_name 11 nd_law_breaks rfl) (fun s H C cl fp z hz => ex_ixT (ex_var 11 rfl rfl) ex_int rfl)))
          (EX.to (ex_d (ex_slL (ex_lk0 (ex_call d_law_truly hr ⟨p, st', fs', rfl, rfl⟩ (ax_cons (ex_var 0 rfl rfl) (ax_cons (ex_var 3 rfl rfl) ax_nil))) ex_int) (ox_some ex_int) ox_none)) (by rw [e2]))) ?_) hMq ?_ (ex_var 4 rfl rfl) ex_str fun M2 _ hM2 => ?_
        · rw [e1, eqv_lst, eqvAll_map eqv_nD, hwr]
        · rw [List.length_append]; split <;> simp <;> omega
        · exact sx_go (fin M2 _ rfl (by rw [hM2, hdue]))
      · have hwr : lawWrong p st' = false := by unfold lawWrong; rw [hk, Bool.false_and]
        exact sx_go (fin M' _ rfl (by rw [hMq, hdue, hwr, if_neg Bool.false_ne_true, List.append_nil]))
  cases d with
  | fall t => exact sx_if (k := false) (tx_w (wx_andT (TX.to (tx_c c_notN (ex_var 2 rfl rfl) ex_non) rfl) (wx_and1 (TX.to (tx_c c_eqS (ex_ixT (ex_var 2 rfl rfl) ex_int rfl) ex_str) (by decide +kernel))))) (fun h => nomatch h) (fun _ => sx_go (stage [] _ none none rfl mset_same))
  | come t => exact sx_if (k := false) (tx_w (wx_andT (TX.to (tx_c c_notN (ex_var 2 rfl rfl) ex_non) rfl) (wx_and1 (TX.to (tx_c c_eqS (ex_ixT (ex_var 2 rfl rfl) ex_int rfl) ex_str) (by decide +kernel))))) (fun h => nomatch h) (fun _ => sx_go (stage [] _ none none rfl mset_same))
  | tell one o =>
    obtain ⟨g1, g2, g3⟩ := fd
    refine sx_if (k := true) (tx_w (wx_andT (TX.to (tx_c c_notN (ex_var 2 rfl rfl) ex_non) rfl) (wx_and1 (TX.to (tx_c c_eqS (ex_ixT (ex_var 2 rfl rfl) ex_int rfl) ex_str) (by decide +kernel))))) (fun _ => ?_) (fun h => nomatch h)
    refine sx_par 6 7 (s1 := .d (nD (entAt st.es o).d)) (s2 := .d (nD (entAt st'.es o).d)) rfl nd_law_breaks rfl rfl (by decide) (ex_ixT (ex_call d_law_entry hr ⟨st, o, by omega, rfl, rfl⟩ (ax_cons (ex_var 1 rfl rfl) (ax_cons (ex_ixT (d := nD o) (ex_var 2 rfl rfl) ex_int rfl) ax_nil))) ex_int rfl) (ex_ixT (ex_call d_law_entry hr ⟨st', o, by omega, rfl, rfl⟩ (ax_cons (ex_var 3 rfl rfl) (ax_cons (ex_ixT (d := nD o) (ex_var 2 rfl rfl) ex_int rfl) ax_nil))) ex_int rfl) ?_
    have hc : (decide (((entAt st.es o).d : Int) < ((entAt st'.es o).d : Int)) && decide (((entAt st'.es o).d : Int) < (p.far : Int))) = lawClimb p st st' (.tell one o) := by
      unfold lawClimb
      congr 1 <;> (rw [decide_eq_decide]; omega)
    refine sx_ifapp (q := q) (f0 := []) (wd := "climb") (TX.to (tx_ch c_lt (fun _ => c_lt) (ex_var 6 rfl rfl) (ex_var 7 rfl rfl) (ex_ixT (d := nD p.far) (ex_var 0 rfl rfl) ex_int rfl)) hc) mset_same (by decide) (ex_var 4 rfl rfl) ex_str fun M1 _ hM1 => ?_
    have hmm : (decide (((entAt st'.es o).d : Int) < ((entAt st.es o).d : Int)) && (decide (((entAt st.es o).d : Int) = (p.far : Int)) && !(valV (kvF (lawPaths (near p st.ss) p.n)) (Sum.inl (o : Int))).isSome)) = lawMisled p st st' (.tell one o) := by
      unfold lawMisled
      rw [valV_kvF, Option.isSome_map]
      congr 1
      · rw [decide_eq_decide]; omega
      · congr 1
        rw [decide_eq_decide]; omega
    refine sx_ifapp (q := q) (wd := "misled") (TX.to (tx_w (wx_and (tx_c c_lt (ex_var 7 rfl rfl) (ex_var 6 rfl rfl)) fun _ => wx_and (tx_c c_eqI (ex_var 6 rfl rfl) (ex_ixT (d := nD p.far) (ex_var 0 rfl rfl) ex_int rfl)) fun _ => wx_and1 (tx_lkNin (room1 hr) (ex_ixT (d := nD o) (ex_var 2 rfl rfl) ex_int rfl) (ex_call d_law_truly hr ⟨p, st, fs, rfl, rfl⟩ (ax_cons (ex_var 0 rfl rfl) (ax_cons (ex_var 1 rfl rfl) ax_nil))) ex_int))) hmm) hM1 (by simp only [List.nil_append]; split <;> simp) (ex_var 4 rfl rfl) ex_str fun M2 _ hM2 => ?_
    refine sx_go (stage _ M2 _ _ ?_ hM2)
    rw [List.nil_append]
end
end HW
/-! The plain law: no program in sight. -/
namespace HW
/-! graphs of at most four hosts -/
def edgeB (b01 b02 b03 b12 b13 b23 : Bool) : Nat → Nat → Bool
  | 0, 1 => b01
  | 1, 0 => b01
  | 0, 2 => b02
  | 2, 0 => b02
  | 0, 3 => b03
  | 3, 0 => b03
  | 1, 2 => b12
  | 2, 1 => b12
  | 1, 3 => b13
  | 3, 1 => b13
  | 2, 3 => b23
  | 3, 2 => b23
  | _, _ => false
def adjB (b01 b02 b03 b12 b13 b23 : Bool) (h : Nat) : List Nat := (List.range 4).filter (edgeB b01 b02 b03 b12 b13 b23 h)
def chkG (n : Nat) (adj : Nat → List Nat) : Bool := match bfs adj BF ([(0, 0)], [0]) with
  | none => false
  | some res => (List.range n).all fun h => decide (lookN res h = lookN (lawPaths adj n) h) && match dfs adj BF ([h], [h]) with
    | none => false
    | some l => l.contains 0 == (lookN (lawPaths adj n) h).isSome
theorem chk4 : ∀ b01 b02 b03 b12 b13 b23 : Bool, chkG 4 (adjB b01 b02 b03 b12 b13 b23) = true := by decide +kernel
theorem chk3 : ∀ b01 b02 b12 : Bool, chkG 3 (adjB b01 b02 false b12 false false) = true := by decide +kernel
theorem chk2 : ∀ b01 : Bool, chkG 2 (adjB b01 false false false false false) = true := by decide +kernel
/-! rings of at most four hosts -/
def decO (x : Nat) : Option Nat := match x with
  | 0 => none
  | k + 1 => some k
def entO (b : Option Nat) : Ent := ⟨0, b, 0⟩
def chkR (es : List Ent) : Bool := ((List.range es.length).all fun i => (walkB es 8 [some (1 + i)]).isSome) && (ringF es == (List.range es.length).any fun i => lawRingAt es (1 + i))
theorem ring3 : ∀ x y z : Fin 5, chkR [entO (decO x), entO (decO y), entO (decO z)] = true := by decide +kernel
theorem ring2 : ∀ x y : Fin 4, chkR [entO (decO x), entO (decO y)] = true := by decide +kernel
theorem ring1 : ∀ x : Fin 3, chkR [entO (decO x)] = true := by decide +kernel
/-! what a deed makes of the entries -/
theorem entAt_set {es : List Ent} {h : Nat} {x : Ent} (h1 : 1 ≤ h) (h2 : h < es.length + 1) (k : Nat) : entAt (es.set (h - 1) x) k = if k = h then x else entAt es k := by
  obtain ⟨j, rfl⟩ : ∃ j, h = j + 1 := ⟨h - 1, by omega⟩
  unfold entAt
  cases k with
  | zero => rw [if_neg (by omega)]; rfl
  | succ k =>
    rw [List.getD_cons_succ, List.getD_cons_succ, List.getD_eq_getElem?_getD, List.getD_eq_getElem?_getD, Nat.add_sub_cancel, List.getElem?_set]
    by_cases e : j = k
    · subst e
      rw [if_pos rfl, if_pos (by omega), if_pos rfl]
      rfl
    · rw [if_neg e, if_neg (by omega)]
theorem entAt_out {es : List Ent} {k : Nat} (h : es.length < k) : entAt es k = z0 := by
  unfold entAt
  rw [List.getD_eq_getElem?_getD, List.getElem?_eq_none (by rw [List.length_cons]; omega)]
  rfl
/-- from es to es' some entries became bad -/
structure Worse (p : NetP) (es es' : List Ent) : Prop where
  len : es'.length = es.length
  at_ : ∀ k, entAt es' k = entAt es k ∨ (1 ≤ k ∧ k < es.length + 1 ∧ entAt es' k = bad p)
theorem Worse.refl {p : NetP} {es : List Ent} : Worse p es es := ⟨rfl, fun _ => .inl rfl⟩
theorem Worse.trans {p : NetP} {a b c : List Ent} (x : Worse p a b) (y : Worse p b c) : Worse p a c := ⟨y.len.trans x.len, fun k => by
  rcases y.at_ k with h | ⟨h1, h2, h3⟩
  · rw [h]; exact x.at_ k
  · exact .inr ⟨h1, by rw [← x.len]; exact h2, h3⟩⟩
theorem Worse.set {p : NetP} {es : List Ent} {h : Nat} (h1 : 1 ≤ h) (h2 : h < es.length + 1) : Worse p es (es.set (h - 1) (bad p)) := ⟨List.length_set .., fun k => by
  rw [entAt_set h1 h2]
  by_cases e : k = h
  · subst e; rw [if_pos rfl]; exact .inr ⟨h1, h2, rfl⟩
  · rw [if_neg e]; exact .inl rfl⟩
theorem Worse.bad {p : NetP} {es es' : List Ent} (x : Worse p es es') {k : Nat} (h : entAt es k = bad p) : entAt es' k = bad p := by
  rcases x.at_ k with e | ⟨_, _, e⟩
  · rw [e, h]
  · exact e
theorem Worse.by_ {p : NetP} {es es' : List Ent} (x : Worse p es es') {h k : Nat} (e : (entAt es' h).b = some k) : (entAt es h).b = some k := by
  rcases x.at_ h with q | ⟨_, _, q⟩
  · rw [← q]; exact e
  · rw [q] at e; cases e
def cnt : List Ent → Nat
  | [] => 0
  | e :: es => (if e.b.isSome then 1 else 0) + cnt es
theorem cnt_set {p : NetP} : ∀ {es : List Ent} {i : Nat} {e : Ent}, es[i]? = some e → e.b.isSome = true → cnt (es.set i (bad p)) + 1 = cnt es
  | [], i, e, h, _ => by simp at h
  | a :: es, 0, e, h, hb => by
    have h : a = e := by simpa using h
    subst h
    show (if (bad p).b.isSome then 1 else 0) + cnt es + 1 = (if a.b.isSome then 1 else 0) + cnt es
    rw [if_pos hb, if_neg (show ¬ ((HW.bad p).b.isSome = true) from Bool.false_ne_true)]
    omega
  | a :: es, i + 1, e, h, hb => by
    have ih := cnt_set (p := p) (es := es) (i := i) (e := e) (by simpa using h) hb
    show (if a.b.isSome then 1 else 0) + cnt (es.set i (bad p)) + 1 = (if a.b.isSome then 1 else 0) + cnt es
    omega
theorem cnt_len : ∀ es : List Ent, cnt es ≤ es.length
  | [] => Nat.le_refl _
  | e :: es => by
    have := cnt_len es
    show (if e.b.isSome then 1 else 0) + cnt es ≤ es.length + 1
    split <;> omega
theorem ent_opt {es : List Ent} {i : Nat} (h : i < es.length) : es[i]? = some (entAt es (1 + i)) := by
  unfold entAt
  rw [Nat.add_comm, List.getD_cons_succ, List.getD_eq_getElem?_getD, List.getElem?_eq_getElem h]
  rfl
/-- losing comes to an end -/
def LoseOk (p : NetP) (f : Nat) : Prop := ∀ (es : List Ent) (h : Nat), 1 ≤ h → h < p.n → es.length = p.n - 1 → cnt (es.set (h - 1) (bad p)) ≤ f →
  ∃ es', loseF p (f + 1) es h = some es' ∧ Worse p (es.set (h - 1) (bad p)) es' ∧ cnt es' ≤ cnt (es.set (h - 1) (bad p))
theorem lose_step {p : NetP} {f : Nat} (ih : ∀ g, g + 1 = f → LoseOk p g) (h : Nat) : ∀ (l : List Nat), (∀ i ∈ l, i < p.n - 1) → ∀ es : List Ent, es.length = p.n - 1 → cnt es ≤ f →
    ∃ es', l.foldlM (loseS (loseF p f) h) es = some es' ∧ Worse p es es' ∧ cnt es' ≤ cnt es
  | [], _, es, _, _ => ⟨es, rfl, .refl, Nat.le_refl _⟩
  | i :: l, hl, es, hle, hc => by
    have hi := hl i (List.mem_cons_self ..)
    have hget := ent_opt (es := es) (i := i) (by omega)
    rw [List.foldlM_cons]
    by_cases e : (entAt es (1 + i)).b = some h
    · have hs : (entAt es (1 + i)).b.isSome = true := by rw [e]; rfl
      have hcs := cnt_set (p := p) hget hs
      obtain ⟨g, rfl⟩ : ∃ g, f = g + 1 := ⟨f - 1, by omega⟩
      have e1 : 1 + i - 1 = i := by omega
      obtain ⟨es1, a1, a2, a3⟩ := ih g rfl es (1 + i) (by omega) (by omega) hle (by rw [e1]; omega)
      have w1 : Worse p es es1 := (Worse.set (by omega) (by omega)).trans a2
      obtain ⟨es2, b1, b2, b3⟩ := lose_step ih h l (fun j hj => hl j (List.mem_cons_of_mem _ hj)) es1 (w1.len.trans hle) (by rw [e1] at a3; omega)
      refine ⟨es2, ?_, w1.trans b2, by rw [e1] at a3; omega⟩
      unfold loseS
      rw [if_pos e, a1]
      exact b1
    · obtain ⟨es2, b1, b2, b3⟩ := lose_step ih h l (fun j hj => hl j (List.mem_cons_of_mem _ hj)) es hle hc
      refine ⟨es2, ?_, b2, b3⟩
      unfold loseS
      rw [if_neg e]
      exact b1
theorem lose_ok (p : NetP) : ∀ f, LoseOk p f
  | f => by
    intro es h h1 h2 hle hc
    by_cases hk : p.cry = "loud"
    · have ih : ∀ g, g + 1 = f → LoseOk p g := fun g hg => lose_ok p g
      obtain ⟨es', a1, a2, a3⟩ := lose_step ih h (List.range (p.n - 1)) (fun i hi => List.mem_range.mp hi) (es.set (h - 1) (bad p)) (by rw [List.length_set]; exact hle) hc
      refine ⟨es', ?_, a2, a3⟩
      unfold loseF
      rw [if_pos hk]
      exact a1
    · refine ⟨_, ?_, Worse.refl, Nat.le_refl _⟩
      unfold loseF
      rw [if_neg hk]
termination_by f => f
/-- a host loses its way -/
theorem lose_all {p : NetP} (h4 : p.n ≤ 4) {es : List Ent} {h : Nat} (h1 : 1 ≤ h) (h2 : h < p.n) (hle : es.length = p.n - 1) : ∃ es', loseF p FU es h = some es' ∧ Worse p es es' ∧ entAt es' h = bad p := by
  have hc := cnt_len (es.set (h - 1) (bad p))
  rw [List.length_set] at hc
  obtain ⟨es', a1, a2, _⟩ := lose_ok p 4 es h h1 h2 hle (by omega)
  refine ⟨es', a1, (Worse.set h1 (by omega)).trans a2, a2.bad ?_⟩
  rw [entAt_set h1 (by omega), if_pos rfl]
/-! neighbours -/
theorem near_iff {p : NetP} {ss : List Bool} {h k : Nat} : k ∈ near p ss h ↔ ∃ (i : Nat) (t : Nat × Nat), p.ties[i]? = some t ∧ ss[i]? = some true ∧ ((t.1 = h ∧ k = t.2) ∨ (t.2 = h ∧ k = t.1)) := by
  unfold near nearL
  rw [List.mem_map]
  constructor
  · rintro ⟨z, hz, e⟩
    obtain ⟨hz1, hz2⟩ := List.mem_filter.mp hz
    obtain ⟨i, hi⟩ := List.mem_iff_getElem?.mp hz1
    rw [List.getElem?_zip_eq_some] at hi
    unfold nearC at hz2
    simp only [Bool.and_eq_true, Bool.or_eq_true, beq_iff_eq] at hz2
    unfold nearG at e
    refine ⟨i, z.1, hi.1, by rw [hi.2, hz2.1], ?_⟩
    rcases hz2.2 with q | q
    · exact .inl ⟨q, by omega⟩
    · exact .inr ⟨q, by omega⟩
  · rintro ⟨i, t, h1, h2, h3⟩
    refine ⟨(t, true), List.mem_filter.mpr ⟨List.mem_iff_getElem?.mpr ⟨i, List.getElem?_zip_eq_some.mpr ⟨h1, h2⟩⟩, ?_⟩, ?_⟩
    · unfold nearC
      simp only [Bool.and_eq_true, Bool.or_eq_true, beq_iff_eq]
      exact ⟨trivial, by omega⟩
    · unfold nearG
      show t.1 + t.2 - h = k
      omega
theorem near_symm {p : NetP} {ss : List Bool} {h k : Nat} (q : k ∈ near p ss h) : h ∈ near p ss k := by
  obtain ⟨i, t, h1, h2, h3⟩ := near_iff.mp q
  refine near_iff.mpr ⟨i, t, h1, h2, ?_⟩
  omega
theorem near_ne {p : NetP} (ok : p.Ok) {ss : List Bool} {h k : Nat} (q : k ∈ near p ss h) : k ≠ h := by
  obtain ⟨i, t, h1, h2, h3⟩ := near_iff.mp q
  have := ok.ties.ok t (List.mem_of_getElem? h1)
  omega
theorem near_out {p : NetP} (ok : p.Ok) {ss : List Bool} {h : Nat} (e : p.n ≤ h) : near p ss h = [] := by
  refine List.eq_nil_iff_forall_not_mem.mpr fun k q => ?_
  have := near_lt ok (near_symm q)
  omega
theorem near_come {p : NetP} {ss : List Bool} {t h k : Nat} (q : k ∈ near p ss h) : k ∈ near p (ss.set t true) h := by
  obtain ⟨i, u, h1, h2, h3⟩ := near_iff.mp q
  refine near_iff.mpr ⟨i, u, h1, ?_, h3⟩
  rw [List.getElem?_set]
  by_cases e : t = i
  · subst e
    rw [if_pos rfl, if_pos (List.getElem?_eq_some_iff.mp h2).1]
  · rw [if_neg e]; exact h2
theorem near_fall {p : NetP} {ss : List Bool} {t h k : Nat} (ht : t < p.ties.length) (q : k ∈ near p ss h) : k ∈ near p (ss.set t false) h ∨ ((tieAt p t).1 = h ∧ k = (tieAt p t).2) ∨ ((tieAt p t).2 = h ∧ k = (tieAt p t).1) := by
  obtain ⟨i, u, h1, h2, h3⟩ := near_iff.mp q
  by_cases e : t = i
  · subst e
    rw [tie_get ht] at h1
    cases h1
    exact .inr h3
  · refine .inl (near_iff.mpr ⟨i, u, h1, ?_, h3⟩)
    rw [List.getElem?_set, if_neg e]
    exact h2
/-! states that come about -/
structure Okk (p : NetP) (s : Sta) : Prop where
  good : Good p s
  qt : p.split = "quiet" → ∀ h k, (entAt s.es h).b = some k → (entAt s.es k).b ≠ some h
theorem EntOk.far {p : NetP} {ss : List Bool} {h : Nat} {e : Ent} (x : EntOk p ss h e) : e.d ≤ p.far := by
  rcases x with ⟨h1, _⟩ | ⟨_, h1, _⟩ <;> omega
theorem bad_ok {p : NetP} {ss : List Bool} {h : Nat} : EntOk p ss h (bad p) := .inl ⟨rfl, rfl, Nat.le_refl _⟩
theorem Good.worse {p : NetP} {s : Sta} {es : List Ent} (g : Good p s) (w : Worse p s.es es) : Good p ⟨es, s.ss⟩ where
  fit := ⟨g.fit.ok, w.len.trans g.fit.le, g.fit.ls⟩
  wk := g.wk
  en := fun h h1 h2 => by
    show EntOk p s.ss h (entAt es h)
    rcases w.at_ h with e | ⟨_, _, e⟩
    · rw [e]; exact g.en h h1 h2
    · rw [e]; exact bad_ok
theorem Good.put {p : NetP} {s : Sta} (g : Good p s) {o : Nat} {x : Ent} (h1 : 1 ≤ o) (h2 : o < p.n) (hx : EntOk p s.ss o x) : Good p ⟨s.es.set (o - 1) x, s.ss⟩ where
  fit := ⟨g.fit.ok, (List.length_set ..).trans g.fit.le, g.fit.ls⟩
  wk := g.wk
  en := fun h q1 q2 => by
    show EntOk p s.ss h (entAt (s.es.set (o - 1) x) h)
    have := g.fit.le
    rw [entAt_set h1 (by omega)]
    by_cases e : h = o
    · subst e; rw [if_pos rfl]; exact hx
    · rw [if_neg e]; exact g.en h q1 q2
theorem Good.by_ {p : NetP} {s : Sta} (g : Good p s) {h k : Nat} (e : (entAt s.es h).b = some k) : 1 ≤ h ∧ h < p.n ∧ k ∈ near p s.ss h ∧ (entAt s.es h).h = 0 := by
  have hle := g.fit.le
  have hn := g.fit.ok.n2
  by_cases c : 1 ≤ h ∧ h < p.n
  · rcases g.en h c.1 c.2 with ⟨_, b, _⟩ | ⟨_, _, b, j, b2, b3⟩
    · rw [b] at e; cases e
    · rw [b2] at e; cases e
      exact ⟨c.1, c.2, b3, b⟩
  · have : entAt s.es h = z0 := by
      rcases Nat.lt_or_ge h 1 with q | q
      · rw [show h = 0 from by omega]; rfl
      · exact entAt_out (by omega)
    rw [this] at e
    cases e
theorem qt_worse {p : NetP} {es es' : List Ent} (w : Worse p es es') (q : ∀ h k, (entAt es h).b = some k → (entAt es k).b ≠ some h) : ∀ h k, (entAt es' h).b = some k → (entAt es' k).b ≠ some h :=
  fun h k e z => q h k (w.by_ e) (w.by_ z)
theorem qt_put {es : List Ent} {o one : Nat} {x : Ent} (h1 : 1 ≤ o) (h2 : o < es.length + 1) (hx : x.b = none ∨ (x.b = some one ∧ (entAt es one).b ≠ some o ∧ one ≠ o) ∨ x.b = (entAt es o).b) (q : ∀ h k, (entAt es h).b = some k → (entAt es k).b ≠ some h) :
    ∀ h k, (entAt (es.set (o - 1) x) h).b = some k → (entAt (es.set (o - 1) x) k).b ≠ some h := fun h k => by
  rw [entAt_set h1 h2, entAt_set h1 h2]
  by_cases e : h = o
  · subst e
    rw [if_pos rfl]
    intro e
    by_cases e2 : k = h
    · subst e2
      rw [if_pos rfl]
      rcases hx with hx | ⟨hx, h3, h4⟩ | hx
      · rw [hx] at e; cases e
      · rw [hx] at e; cases e; exact absurd rfl h4
      · rw [hx] at e
        rw [hx]
        exact q _ _ e
    · rw [if_neg e2]
      rcases hx with hx | ⟨hx, h3, h4⟩ | hx
      · rw [hx] at e; cases e
      · rw [hx] at e; cases e; exact h3
      · rw [hx] at e
        exact q _ _ e
  · rw [if_neg e]
    intro e3
    by_cases e2 : k = o
    · subst e2
      rw [if_pos rfl]
      rcases hx with hx | ⟨hx, h3, h4⟩ | hx
      · rw [hx]; exact fun z => by cases z
      · rw [hx]; intro z; cases z; exact h3 e3
      · rw [hx]
        exact q _ _ e3
    · rw [if_neg e2]
      exact q _ _ e3
/-! what can be done -/
theorem canTell_iff {p : NetP} {es : List Ent} {ss : List Bool} {one o : Nat} : canTell p es ss one o = true ↔ o ≠ 0 ∧ o ∈ near p ss one ∧ (p.split = "quiet" → (entAt es one).b ≠ some o) := by
  unfold canTell
  simp only [Bool.and_eq_true, Bool.not_eq_true', beq_eq_false_iff_ne, Bool.or_eq_true, List.any_eq_true, beq_iff_eq, decide_eq_false_iff_not, exists_eq_right]
  constructor
  · rintro ⟨h1, h2, h3⟩
    exact ⟨h1, h2, fun q => h3.elim (fun z => absurd q z) id⟩
  · rintro ⟨h1, h2, h3⟩
    refine ⟨h1, h2, ?_⟩
    by_cases q : p.split = "quiet"
    · exact .inr (h3 q)
    · exact .inl q
theorem mem_able {p : NetP} {s : Sta} {d : Deed} : d ∈ ableF p s ↔ (∃ one o, d = .tell one o ∧ one < p.n ∧ o < p.n ∧ canTell p s.es s.ss one o = true) ∨ (∃ t, d = .fall t ∧ t ∈ p.weak ∧ stood s t = true) ∨ (∃ t, d = .come t ∧ t ∈ p.weak ∧ stood s t = false) := by
  unfold ableF
  rw [List.mem_append, List.mem_append, or_assoc]
  refine or_congr ?_ (or_congr ?_ ?_)
  · unfold tellsIn tellsAt
    rw [List.mem_flatMap]
    constructor
    · rintro ⟨one, h1, h2⟩
      obtain ⟨o, h3, rfl⟩ := List.mem_map.mp h2
      obtain ⟨h4, h5⟩ := List.mem_filter.mp h3
      exact ⟨one, o, rfl, List.mem_range.mp h1, List.mem_range.mp h4, h5⟩
    · rintro ⟨one, o, rfl, h1, h2, h3⟩
      exact ⟨one, List.mem_range.mpr h1, List.mem_map.mpr ⟨o, List.mem_filter.mpr ⟨List.mem_range.mpr h2, h3⟩, rfl⟩⟩
  · unfold fallsIn
    rw [List.mem_map]
    constructor
    · rintro ⟨t, h1, rfl⟩
      obtain ⟨h2, h3⟩ := List.mem_filter.mp h1
      exact ⟨t, rfl, h2, h3⟩
    · rintro ⟨t, rfl, h2, h3⟩
      exact ⟨t, List.mem_filter.mpr ⟨h2, h3⟩, rfl⟩
  · unfold comesIn
    rw [List.mem_map]
    constructor
    · rintro ⟨t, h1, rfl⟩
      obtain ⟨h2, h3⟩ := List.mem_filter.mp h1
      exact ⟨t, rfl, h2, by simpa using h3⟩
    · rintro ⟨t, rfl, h2, h3⟩
      exact ⟨t, List.mem_filter.mpr ⟨h2, by rw [h3]; rfl⟩, rfl⟩
/-- a telling -/
theorem tell_ok {p : NetP} {s : Sta} (k : Okk p s) {one o : Nat} (h1 : one < p.n) (h2 : o < p.n) (hc : canTell p s.es s.ss one o = true) : ∃ es', tellF p s.es one o = some es' ∧ Okk p ⟨es', s.ss⟩ := by
  obtain ⟨c1, c2, c3⟩ := canTell_iff.mp hc
  have g := k.good
  have ok := g.fit.ok
  have hle := g.fit.le
  have o1 : 1 ≤ o := by omega
  have hno : one ∈ near p s.ss o := near_symm c2
  have hne : one ≠ o := fun e => near_ne ok c2 e.symm
  have hl1 : 1 ≤ lateOf p s.es one o := by
    have := ok.far2
    unfold lateOf
    omega
  have hlf : lateOf p s.es one o ≤ p.far := Nat.min_le_right _ _
  have hput : lateOf p s.es one o < p.far → Okk p ⟨s.es.set (o - 1) ⟨lateOf p s.es one o, some one, 0⟩, s.ss⟩ := fun hl =>
    ⟨g.put o1 h2 (.inr ⟨hl1, hl, rfl, one, rfl, hno⟩), fun q => qt_put o1 (by omega) (.inr (.inl ⟨rfl, c3 q, hne⟩)) (k.qt q)⟩
  unfold tellF
  by_cases e : (entAt s.es o).b = some one ∧ lateOf p s.es one o = p.far
  · rw [if_pos e]
    obtain ⟨es', a1, a2, a3⟩ := lose_all ok.n4 o1 h2 hle
    exact ⟨es', a1, g.worse a2, fun q => qt_worse a2 (k.qt q)⟩
  · rw [if_neg e]
    refine ⟨_, rfl, ?_⟩
    by_cases e1 : (entAt s.es o).b = some one
    · rw [if_pos e1]
      exact hput (by have : lateOf p s.es one o ≠ p.far := fun z => e ⟨e1, z⟩; omega)
    · rw [if_neg e1]
      by_cases e2 : 0 < (entAt s.es o).h
      · rw [if_pos e2]
        refine ⟨g.put o1 h2 ?_, fun q => qt_put (one := one) o1 (by omega) (.inr (.inr rfl)) (k.qt q)⟩
        rcases g.en o o1 h2 with ⟨q1, q2, q3⟩ | ⟨_, _, q, _⟩
        · exact .inl ⟨q1, q2, by show (entAt s.es o).h - 1 ≤ p.hold; omega⟩
        · omega
      · rw [if_neg e2]
        by_cases e3 : lateOf p s.es one o < (entAt s.es o).d
        · rw [if_pos e3]
          have := (g.en o o1 h2).far
          exact hput (by omega)
        · rw [if_neg e3]
          exact ⟨⟨g.fit, g.wk, g.en⟩, k.qt⟩
theorem stood_set {s : Sta} {t i : Nat} {b : Bool} (h : (s.ss.set t b)[i]? = some false) : (i = t ∧ b = false) ∨ s.ss[i]? = some false := by
  rw [List.getElem?_set] at h
  by_cases e : t = i
  · subst e
    rw [if_pos rfl] at h
    split at h
    · cases h; exact .inl ⟨rfl, rfl⟩
    · cases h
  · rw [if_neg e] at h
    exact .inr h
theorem fallS_ok {p : NetP} (h4 : p.n ≤ 4) {es : List Ent} (hle : es.length = p.n - 1) {z : Nat × Nat} (hz : z.1 < p.n) : ∃ es', fallS p es z = some es' ∧ Worse p es es' ∧ (entAt es' z.1).b ≠ some z.2 := by
  unfold fallS
  by_cases e : (entAt es z.1).b = some z.2
  · rw [if_pos e]
    have h1 : 1 ≤ z.1 := by
      rcases Nat.lt_or_ge z.1 1 with q | q
      · rw [show z.1 = 0 from by omega] at e
        cases (show (entAt es 0).b = none from rfl).symm.trans e
      · exact q
    obtain ⟨es', a1, a2, a3⟩ := lose_all h4 h1 hz hle
    exact ⟨es', a1, a2, by rw [a3]; exact fun z => by cases z⟩
  · rw [if_neg e]
    exact ⟨es, rfl, .refl, e⟩
theorem fall_ok {p : NetP} {s : Sta} (k : Okk p s) {t : Nat} (ht : t < p.ties.length) (hw : t ∈ p.weak) : ∃ es', fallF p s.es t = some es' ∧ Okk p ⟨es', s.ss.set t false⟩ := by
  have g := k.good
  have ok := g.fit.ok
  obtain ⟨q1, q2⟩ := tie_ok ok ht
  obtain ⟨es1, a1, a2, a3⟩ := fallS_ok ok.n4 g.fit.le (z := ((tieAt p t).1, (tieAt p t).2)) (by show (tieAt p t).1 < p.n; omega)
  obtain ⟨es2, b1, b2, b3⟩ := fallS_ok ok.n4 (es := es1) (a2.len.trans g.fit.le) (z := ((tieAt p t).2, (tieAt p t).1)) q2
  have w : Worse p s.es es2 := a2.trans b2
  refine ⟨es2, ?_, ⟨⟨⟨ok, w.len.trans g.fit.le, (List.length_set ..).trans g.fit.ls⟩, fun i hi => ?_, fun h h1 h2 => ?_⟩, fun q => qt_worse w (k.qt q)⟩⟩
  · unfold fallF
    rw [List.foldlM_cons, a1]
    show (fallS p es1 ((tieAt p t).2, (tieAt p t).1)).bind _ = _
    rw [b1]
    rfl
  · rcases stood_set hi with ⟨e, _⟩ | e
    · rw [e]; exact hw
    · exact g.wk i e
  · show EntOk p (s.ss.set t false) h (entAt es2 h)
    rcases (g.worse w).en h h1 h2 with x | ⟨x1, x2, x3, j, x4, x5⟩
    · exact .inl x
    · refine .inr ⟨x1, x2, x3, j, x4, ?_⟩
      have x4 : (entAt es2 h).b = some j := x4
      rcases near_fall ht x5 with y | ⟨y1, y2⟩ | ⟨y1, y2⟩
      · exact y
      · exact absurd (b2.by_ (by rw [y1, ← y2]; exact x4)) a3
      · exact absurd (by rw [y1, ← y2]; exact x4) b3
theorem come_ok {p : NetP} {s : Sta} (k : Okk p s) {t : Nat} : Okk p ⟨s.es, s.ss.set t true⟩ := by
  have g := k.good
  refine ⟨⟨⟨g.fit.ok, g.fit.le, (List.length_set ..).trans g.fit.ls⟩, fun i hi => ?_, fun h h1 h2 => ?_⟩, k.qt⟩
  · rcases stood_set hi with ⟨_, e⟩ | e
    · cases e
    · exact g.wk i e
  · rcases g.en h h1 h2 with x | ⟨x1, x2, x3, j, x4, x5⟩
    · exact .inl x
    · exact .inr ⟨x1, x2, x3, j, x4, near_come x5⟩
theorem do_ok {p : NetP} {s : Sta} (k : Okk p s) {d : Deed} (hd : d ∈ ableF p s) : d.Fit p ∧ ∃ s', doF p s d = some s' ∧ Okk p s' := by
  have ok := k.good.fit.ok
  rcases mem_able.mp hd with ⟨one, o, rfl, h1, h2, h3⟩ | ⟨t, rfl, h1, h2⟩ | ⟨t, rfl, h1, h2⟩
  · obtain ⟨es', a1, a2⟩ := tell_ok k h1 h2 h3
    have := (canTell_iff.mp h3).1
    exact ⟨⟨h1, by omega, h2⟩, _, by show (tellF p s.es one o).map _ = _; rw [a1]; rfl, a2⟩
  · have ht := ok.weak.ok t h1
    obtain ⟨es', a1, a2⟩ := fall_ok k ht h1
    exact ⟨ht, _, by show (fallF p s.es t).map _ = _; rw [a1]; rfl, a2⟩
  · exact ⟨ok.weak.ok t h1, _, rfl, come_ok k⟩
theorem start_ok {p : NetP} (ok : p.Ok) : Okk p (startOf p) := by
  have hb : ∀ h, 1 ≤ h → h < p.n → entAt (startOf p).es h = ⟨p.far, none, 0⟩ := fun h h1 h2 => by
    unfold entAt startOf
    obtain ⟨j, rfl⟩ : ∃ j, h = j + 1 := ⟨h - 1, by omega⟩
    rw [List.getD_cons_succ, List.getD_eq_getElem?_getD, List.getElem?_replicate, if_pos (by omega)]
    rfl
  have g : Good p (startOf p) := ⟨⟨ok, List.length_replicate .., List.length_replicate ..⟩, fun t ht => (by
    unfold startOf at ht
    rw [List.getElem?_replicate] at ht
    split at ht <;> cases ht), fun h h1 h2 => (by rw [hb h h1 h2]; exact .inl ⟨rfl, rfl, Nat.zero_le _⟩)⟩
  refine ⟨g, fun _ h k e => ?_⟩
  obtain ⟨q1, q2, _⟩ := g.by_ e
  rw [hb h q1 q2] at e
  cases e
/-! the graph of a state -/
theorem pw_same : ∀ {a b : List Nat}, a.Pairwise (· < ·) → b.Pairwise (· < ·) → (∀ x, x ∈ a ↔ x ∈ b) → a = b
  | [], [], _, _, _ => rfl
  | [], y :: b, _, _, h => absurd ((h y).mpr (List.mem_cons_self ..)) (List.not_mem_nil)
  | x :: a, [], _, _, h => absurd ((h x).mp (List.mem_cons_self ..)) (List.not_mem_nil)
  | x :: a, y :: b, ha, hb, h => by
    obtain ⟨a1, a2⟩ := List.pairwise_cons.mp ha
    obtain ⟨b1, b2⟩ := List.pairwise_cons.mp hb
    have e : x = y := by
      rcases List.mem_cons.mp ((h x).mp (List.mem_cons_self ..)) with e | e
      · exact e
      · rcases List.mem_cons.mp ((h y).mpr (List.mem_cons_self ..)) with e2 | e2
        · exact e2.symm
        · have := b1 _ e
          have := a1 _ e2
          omega
    subst e
    rw [pw_same a2 b2 fun z => ?_]
    have hz := h z
    rw [List.mem_cons, List.mem_cons] at hz
    constructor
    · intro q
      rcases hz.mp (.inr q) with e | e
      · have := a1 _ q; omega
      · exact e
    · intro q
      rcases hz.mpr (.inr q) with e | e
      · have := b1 _ q; omega
      · exact e
theorem ff_iff {q : Prop} (h : ¬q) : (false = true ↔ q) := ⟨fun z => (by cases z), fun z => absurd z h⟩
theorem range_pw (n : Nat) : (List.range n).Pairwise (· < ·) := List.pairwise_lt_range
theorem near_filter {p : NetP} (ok : p.Ok) (ss : List Bool) (h m : Nat) (hm : p.n ≤ m) {f : Nat → Bool} (hf : ∀ k, k < m → (f k = true ↔ k ∈ near p ss h)) : near p ss h = (List.range m).filter f := by
  refine pw_same (near_pw ok ss h) ((range_pw m).filter _) fun x => ?_
  rw [List.mem_filter, List.mem_range]
  constructor
  · intro q
    have := near_lt ok q
    exact ⟨by omega, (hf x (by omega)).mpr q⟩
  · rintro ⟨q1, q2⟩
    exact (hf x q1).mp q2
theorem near_adj {p : NetP} (ok : p.Ok) (ss : List Bool) : near p ss = adjB (decide (1 ∈ near p ss 0)) (decide (2 ∈ near p ss 0)) (decide (3 ∈ near p ss 0)) (decide (2 ∈ near p ss 1)) (decide (3 ∈ near p ss 1)) (decide (3 ∈ near p ss 2)) := by
  have h4 := ok.n4
  funext h
  refine near_filter ok ss h 4 h4 fun k hk => ?_
  have ir : ∀ a, a ∉ near p ss a := fun a q => near_ne ok q rfl
  have sy : ∀ a b, a ∈ near p ss b ↔ b ∈ near p ss a := fun a b => ⟨near_symm, near_symm⟩
  by_cases hh : h < 4
  · have hk' : k = 0 ∨ k = 1 ∨ k = 2 ∨ k = 3 := by omega
    have hh' : h = 0 ∨ h = 1 ∨ h = 2 ∨ h = 3 := by omega
    rcases hh' with rfl | rfl | rfl | rfl <;> rcases hk' with rfl | rfl | rfl | rfl <;> first
      | exact ff_iff (ir _)
      | (simp only [edgeB, decide_eq_true_eq]; done)
      | (simp only [edgeB, decide_eq_true_eq]; exact sy _ _)
  · have e0 : near p ss h = [] := near_out ok (by omega)
    rw [e0]
    have : edgeB (decide (1 ∈ near p ss 0)) (decide (2 ∈ near p ss 0)) (decide (3 ∈ near p ss 0)) (decide (2 ∈ near p ss 1)) (decide (3 ∈ near p ss 1)) (decide (3 ∈ near p ss 2)) h k = false := by
      obtain ⟨j, rfl⟩ : ∃ j, h = j + 4 := ⟨h - 4, by omega⟩
      rfl
    rw [this]
    exact ff_iff List.not_mem_nil
theorem chk_all {p : NetP} (ok : p.Ok) (ss : List Bool) : chkG p.n (near p ss) = true := by
  have h2 := ok.n2
  have h4 := ok.n4
  have out : ∀ {a b : Nat}, p.n ≤ b → decide (b ∈ near p ss a) = false := fun {a b} h => decide_eq_false fun q => by
    have := near_lt ok q
    omega
  rw [near_adj ok ss]
  have hn : p.n = 2 ∨ p.n = 3 ∨ p.n = 4 := by omega
  rcases hn with e | e | e
  · rw [out (a := 0) (b := 2) (by omega), out (a := 0) (b := 3) (by omega), out (a := 1) (b := 2) (by omega), out (a := 1) (b := 3) (by omega), out (a := 2) (b := 3) (by omega), e]
    exact chk2 _
  · rw [out (a := 0) (b := 3) (by omega), out (a := 1) (b := 3) (by omega), out (a := 2) (b := 3) (by omega), e]
    exact chk3 _ _ _
  · rw [e]
    exact chk4 _ _ _ _ _ _
theorem graph_ok {p : NetP} (ok : p.Ok) (ss : List Bool) : ∃ res, distRes p ss = some res ∧ ∀ h, h < p.n → lookN res h = lookN (lawPaths (near p ss) p.n) h ∧ ∃ l, joinRes p ss h = some l ∧ l.contains 0 = (lookN (lawPaths (near p ss) p.n) h).isSome := by
  have c := chk_all ok ss
  unfold chkG at c
  unfold distRes joinRes
  cases e : bfs (near p ss) BF ([(0, 0)], [0]) with
  | none => rw [e] at c; cases c
  | some res =>
    rw [e] at c
    refine ⟨res, rfl, fun h hh => ?_⟩
    have c2 := List.all_eq_true.mp c h (List.mem_range.mpr hh)
    obtain ⟨c3, c4⟩ := Bool.and_eq_true_iff.mp c2
    refine ⟨of_decide_eq_true c3, ?_⟩
    cases e2 : dfs (near p ss) BF ([h], [h]) with
    | none => rw [e2] at c4; cases c4
    | some l =>
      rw [e2] at c4
      exact ⟨l, rfl, eq_of_beq c4⟩
/-! rings -/
def canE (es : List Ent) : List Ent := es.map fun e => entO e.b
theorem canE_by (es : List Ent) (h : Nat) : (entAt (canE es) h).b = (entAt es h).b := by
  unfold entAt canE
  cases h with
  | zero => rfl
  | succ h =>
    rw [List.getD_cons_succ, List.getD_cons_succ, List.getD_eq_getElem?_getD, List.getD_eq_getElem?_getD, List.getElem?_map]
    cases es[h]? <;> rfl
theorem hops_can (es : List Ent) : ∀ (k : Nat) (o : Option Nat), hops (canE es) k o = hops es k o
  | 0, _ => rfl
  | k + 1, o => by
    show hops (canE es) k (hopF (canE es) o) = hops es k (hopF es o)
    have e : hopF (canE es) o = hopF es o := by
      cases o with
      | none => rfl
      | some j => cases j with
        | zero => rfl
        | succ j => exact canE_by es (j + 1)
    rw [e, hops_can es k]
theorem walkB_can (es : List Ent) : ∀ (f : Nat) (l : List (Option Nat)), walkB (canE es) f l = walkB es f l
  | 0, _ => rfl
  | f + 1, l => by
    unfold walkB
    cases l.getLast? with
    | none => rfl
    | some o =>
      simp only
      rw [canE_by, walkB_can es f]
theorem chkR_can (es : List Ent) : chkR (canE es) = chkR es := by
  have hl : (canE es).length = es.length := List.length_map _
  unfold chkR ringF
  rw [hl]
  congr 1
  · congr 1
    funext i
    rw [walkB_can]
  · congr 1
    · congr 1
      funext i
      unfold ringAt
      rw [hops_can, hl]
    · congr 1
      funext i
      unfold lawRingAt
      rw [walkB_can]
theorem decO_of {b : Option Nat} {m : Nat} (h : ∀ k, b = some k → k ≤ m) : ∃ x : Fin (m + 2), b = decO x.val := by
  cases b with
  | none => exact ⟨⟨0, by omega⟩, rfl⟩
  | some k => exact ⟨⟨k + 1, by have := h k rfl; omega⟩, rfl⟩
theorem chkR_all {es : List Ent} (h1 : 1 ≤ es.length) (h3 : es.length ≤ 3) (hb : ∀ h k, (entAt es h).b = some k → k ≤ es.length) : chkR es = true := by
  rw [← chkR_can]
  match es, h1, h3, hb with
  | [a], _, _, hb =>
    obtain ⟨x, hx⟩ := decO_of (b := a.b) (m := 1) fun k e => hb 1 k e
    show chkR [entO a.b] = true
    rw [hx]
    exact ring1 x
  | [a, b], _, _, hb =>
    obtain ⟨x, hx⟩ := decO_of (b := a.b) (m := 2) fun k e => hb 1 k e
    obtain ⟨y, hy⟩ := decO_of (b := b.b) (m := 2) fun k e => hb 2 k e
    show chkR [entO a.b, entO b.b] = true
    rw [hx, hy]
    exact ring2 x y
  | [a, b, c], _, _, hb =>
    obtain ⟨x, hx⟩ := decO_of (b := a.b) (m := 3) fun k e => hb 1 k e
    obtain ⟨y, hy⟩ := decO_of (b := b.b) (m := 3) fun k e => hb 2 k e
    obtain ⟨z, hz⟩ := decO_of (b := c.b) (m := 3) fun k e => hb 3 k e
    show chkR [entO a.b, entO b.b, entO c.b] = true
    rw [hx, hy, hz]
    exact ring3 x y z
/-! all that is wanted of a state -/
theorem Okk.bys {p : NetP} {s : Sta} (k : Okk p s) : ∀ h j, (entAt s.es h).b = some j → j ≤ s.es.length := fun h j e => by
  obtain ⟨_, _, q, _⟩ := k.good.by_ e
  have := near_lt k.good.fit.ok q
  have := k.good.fit.le
  omega
theorem Okk.fine {p : NetP} {s : Sta} (k : Okk p s) : Fine p s where
  good := k.good
  alive := fun d hd => by
    obtain ⟨h1, s', h2, _⟩ := do_ok k hd
    exact ⟨h1, s', h2⟩
  bys := k.bys
  dist := by
    obtain ⟨res, h1, _⟩ := graph_ok k.good.fit.ok s.ss
    exact ⟨res, h1⟩
  join := fun h hh => by
    obtain ⟨res, _, h2⟩ := graph_ok k.good.fit.ok s.ss
    obtain ⟨_, l, h3, _⟩ := h2 h hh
    exact ⟨l, h3⟩
theorem true_eq {p : NetP} (ok : p.Ok) (s : Sta) : trueD p s = lawTrue p s := by
  obtain ⟨res, h1, h2⟩ := graph_ok ok s.ss
  unfold trueD lawTrue distL
  rw [h1]
  refine List.map_congr_left fun h hh => ?_
  show min ((lookN res h).getD p.far) p.far = _
  rw [(h2 h (List.mem_range.mp hh)).1]
theorem joined_eq {p : NetP} (ok : p.Ok) (s : Sta) {h : Nat} (hh : h < p.n) : joined p s h = (lookN (lawPaths (near p s.ss) p.n) h).isSome := by
  obtain ⟨res, h1, h2⟩ := graph_ok ok s.ss
  obtain ⟨_, l, h3, h4⟩ := h2 h hh
  unfold joined
  rw [h3]
  exact h4
theorem able_eq {p : NetP} (ok : p.Ok) (s : Sta) : lawAble p s = ableF p s := by
  unfold lawAble ableF lawTells tellsIn
  congr 2
  congr 1
  funext one
  unfold lawTellsAt tellsAt
  congr 1
  rw [near_filter ok s.ss one p.n (Nat.le_refl _) (f := fun k => decide (k ∈ near p s.ss one)) (fun k _ => by rw [decide_eq_true_eq]), List.filter_filter]
  refine List.filter_congr fun k _ => ?_
  rw [Bool.eq_iff_iff, canTell_iff]
  unfold lawTellC
  simp only [Bool.and_eq_true, decide_eq_true_eq, Bool.not_eq_true', Bool.and_eq_false_imp, decide_eq_false_iff_not]
  constructor
  · rintro ⟨⟨h1, h2⟩, h3⟩
    exact ⟨by omega, h3, h2⟩
  · rintro ⟨h1, h2, h3⟩
    exact ⟨⟨by omega, h3⟩, h2⟩
theorem settled_eq {p : NetP} {s : Sta} (k : Okk p s) : settledF p s = lawSettled p s := by
  have ok := k.good.fit.ok
  unfold settledF lawSettled
  rw [able_eq ok, Bool.eq_iff_iff]
  simp only [List.all_eq_true, decide_eq_true_eq, Bool.not_eq_true', List.any_eq_false, Bool.and_eq_true, not_and, Bool.not_eq_false', decide_eq_false_iff_not, Decidable.not_not, Bool.not_eq_true]
  have tl : ∀ d, d ∈ tellsIn p s ↔ d ∈ ableF p s ∧ isTell d = true := fun d => by
    constructor
    · intro h
      refine ⟨by unfold ableF; rw [List.append_assoc]; exact List.mem_append_left _ h, ?_⟩
      unfold tellsIn tellsAt at h
      obtain ⟨one, _, h2⟩ := List.mem_flatMap.mp h
      obtain ⟨o, _, rfl⟩ := List.mem_map.mp h2
      rfl
    · rintro ⟨h1, h2⟩
      unfold ableF at h1
      rw [List.append_assoc] at h1
      rcases List.mem_append.mp h1 with h | h
      · exact h
      · rcases List.mem_append.mp h with h | h
        · unfold fallsIn at h
          obtain ⟨t, _, rfl⟩ := List.mem_map.mp h
          cases h2
        · unfold comesIn at h
          obtain ⟨t, _, rfl⟩ := List.mem_map.mp h
          cases h2
  constructor
  · intro h d hd ht
    have := h d ((tl d).mpr ⟨hd, ht⟩)
    exact nextS_of this
  · intro h d hd
    obtain ⟨h1, h2⟩ := (tl d).mp hd
    obtain ⟨_, s', h3, _⟩ := do_ok k h1
    have := h d h1 h2
    rw [nextS_of h3] at this
    rw [h3, this]
theorem len_ok {p : NetP} {s : Sta} (f : s.Fit p) : 1 ≤ s.es.length ∧ s.es.length ≤ 3 := by
  have := f.le
  have := f.ok.n2
  have := f.ok.n4
  omega
theorem ring_eq {p : NetP} {s : Sta} (k : Okk p s) : ringF s.es = lawRing s := by
  obtain ⟨h1, h3⟩ := len_ok k.good.fit
  have c := chkR_all h1 h3 k.bys
  unfold chkR at c
  exact eq_of_beq (Bool.and_eq_true_iff.mp c).2
theorem walk_ex {p : NetP} {s : Sta} (k : Okk p s) {h : Nat} (q1 : 1 ≤ h) (q2 : h < p.n) : ∃ r, walkB s.es 8 [some h] = some r := by
  obtain ⟨h1, h3⟩ := len_ok k.good.fit
  have hle := k.good.fit.le
  have c := chkR_all h1 h3 k.bys
  unfold chkR at c
  have c1 := List.all_eq_true.mp (Bool.and_eq_true_iff.mp c).1 (h - 1) (List.mem_range.mpr (by omega))
  rw [show 1 + (h - 1) = h from by omega] at c1
  exact Option.isSome_iff_exists.mp c1
theorem wrong_eq {p : NetP} {s : Sta} (k : Okk p s) : (settledF p s && !decide (s.es.map (·.d) = (trueD p s).drop 1)) = lawWrong p s := by
  unfold lawWrong
  rw [settled_eq k, true_eq k.good.fit.ok]
theorem due_eq {p : NetP} {s s' : Sta} {d : Deed} (k : Okk p s) (k' : Okk p s') (fd : d.Fit p) : dueF p s s' d = lawDue p s s' d := by
  have ok := k.good.fit.ok
  have c1 : (isBadF p s' "climb" || breachF p s s' d "climb") = lawClimb p s s' d := by
    unfold isBadF breachF lawClimb
    rw [if_neg (by decide +kernel), if_neg (by decide +kernel), Bool.false_or]
    cases d <;> first | rfl | (simp only; rw [if_pos rfl])
  have c2 : (isBadF p s' "misled" || breachF p s s' d "misled") = lawMisled p s s' d := by
    unfold isBadF breachF lawMisled
    rw [if_neg (by decide +kernel), if_neg (by decide +kernel), Bool.false_or]
    cases d with
    | tell a o =>
      simp only
      rw [if_neg (by decide +kernel), if_pos trivial, joined_eq ok s fd.2.2, Bool.and_assoc]
    | _ => rfl
  have c3 : (isBadF p s' "ring" || breachF p s s' d "ring") = lawRing s' := by
    unfold isBadF breachF
    rw [if_pos rfl, ring_eq k']
    cases d with
    | tell a o =>
      simp only
      rw [if_neg (by decide +kernel), if_neg (by decide +kernel), Bool.or_false]
    | _ => exact Bool.or_false _
  have c4 : (isBadF p s' "wrong" || breachF p s s' d "wrong") = lawWrong p s' := by
    unfold isBadF breachF
    rw [if_neg (by decide +kernel), if_pos rfl, wrong_eq k']
    cases d with
    | tell a o =>
      simp only
      rw [if_neg (by decide +kernel), if_neg (by decide +kernel), Bool.or_false]
    | _ => exact Bool.or_false _
  unfold dueF lawDue
  simp only [List.filter_cons, c1, c2, c3, c4, List.filter_nil]
  cases lawClimb p s s' d <;> cases lawMisled p s s' d <;> cases lawRing s' <;> cases lawWrong p s' <;> rfl
/-! something can always be done -/
theorem able_ne {p : NetP} {s : Sta} (k : Okk p s) : ableF p s ≠ [] := by
  have g := k.good
  have ok := g.fit.ok
  have hls := g.fit.ls
  have h1 := ok.ties.lo
  intro e
  have no : ∀ d, d ∉ ableF p s := fun d => by rw [e]; exact List.not_mem_nil
  by_cases hw : ∃ t, t ∈ p.weak
  · obtain ⟨t, ht⟩ := hw
    cases hs : stood s t with
    | true => exact no _ (mem_able.mpr (.inr (.inl ⟨t, rfl, ht, hs⟩)))
    | false => exact no _ (mem_able.mpr (.inr (.inr ⟨t, rfl, ht, hs⟩)))
  · have ht : s.ss[0]? = some true := by
      cases q : s.ss[0]? with
      | none => rw [List.getElem?_eq_none_iff] at q; omega
      | some b => cases b with
        | true => rfl
        | false => exact absurd ⟨0, g.wk 0 q⟩ hw
    obtain ⟨q1, q2⟩ := tie_ok ok (t := 0) (by omega)
    have n1 : (tieAt p 0).2 ∈ near p s.ss (tieAt p 0).1 := near_iff.mpr ⟨0, tieAt p 0, tie_get (by omega), ht, .inl ⟨rfl, rfl⟩⟩
    by_cases c : p.split = "quiet" ∧ (entAt s.es (tieAt p 0).1).b = some (tieAt p 0).2
    · have z : 1 ≤ (tieAt p 0).1 := (g.by_ c.2).1
      refine no _ (mem_able.mpr (.inl ⟨_, (tieAt p 0).1, rfl, q2, by omega, canTell_iff.mpr ⟨by omega, near_symm n1, fun q => ?_⟩⟩))
      exact k.qt q _ _ c.2
    · refine no _ (mem_able.mpr (.inl ⟨_, (tieAt p 0).2, rfl, by omega, q2, canTell_iff.mpr ⟨by omega, n1, fun q z => c ⟨q, z⟩⟩⟩))
end HW
/-! What can be done, what is refused. -/
namespace HW
open PySem PySem.Spec L2
section
variable {P : Program} {w : World} {K : PySem.W.Frag} {mg : Str → Option Value} {base : Heap}
def Cafter (ss : List Sh) (sh : Sh) : Prop := ∃ (p : NetP) (s s' : Sta) (d : Deed), Good p s ∧ d.Fit p ∧ d ∈ ableF p s ∧ doF p s d = some s' ∧ ss = [.net p, .d (staD s), .d (deedD d)] ∧ sh = .d (staD s')
theorem w_after (T : Txt K mg) (Z : Tab w K mg) (h : Fn K mg "after" (F_after K)) (d_check_state : FnP P w K mg base "check_state" 7 (spP K Ccheck_state)) (d_is_deed : FnP P w K mg base "is_deed" 9 (spP K Cis_deed)) (d_done : FnP P w K mg base "done" 13 (spP K Cdone)) : FnP P w K mg base "after" 15 (spP K Cafter) := by
  obtain ⟨f, fd, h1, h2, F⟩ := h
  refine ⟨f, fd, _, h1, h2, bindsD F ?_, ok_pure (k := 14) F sc_after ?_ ?_⟩
  · intro kV doc pm an cdv ct us hu
    match us, hu with
    | [a0, a1, a2], _ => rfl
  · rintro ss sh ⟨p, st, st', d, gd, fd', hm, hl, rfl, rfl⟩; rfl
  rintro cdv A outer s H E ss sh B hr ⟨p, st, st', d, gd, fd', hm, hl, rfl, rfl⟩
  obtain ⟨b1, b2⟩ := deed_small (d := d)
  refine sx_expr (ex_call d_check_state hr ⟨p, st, gd, rfl, rfl⟩ (ax_cons (ex_var 0 rfl rfl) (ax_cons (ex_var 1 rfl rfl) ax_nil))) ?_
  refine sx_if (k := false) (tx_notF (tx_val (EX.to (ex_call d_is_deed hr ⟨p, st, deedD d, gd.fit, b1, b2, rfl, rfl⟩ (ax_cons (ex_var 0 rfl rfl) (ax_cons (ex_var 1 rfl rfl) (ax_cons (ex_var 2 rfl rfl) ax_nil)))) (by rw [isDeed_able gd.fit.ok fd' hm])))) (fun h => nomatch h) (fun _ => ?_)
  exact sx_go (sx_ret (ex_call d_done hr ⟨p, st, st', d, gd.fit, fd', hl, rfl, rfl⟩ (ax_cons (ex_var 0 rfl rfl) (ax_cons (ex_var 1 rfl rfl) (ax_cons (ex_var 2 rfl rfl) ax_nil)))))
def CafterR (ss : List Sh) (o : Option V) : Prop := ∃ (p : NetP) (s : Sta) (t : PyData), Good p s ∧ isDeedF p s t = false ∧ Sd 60 t ∧ (∀ ds, t = .tuple ds → ds.length ≤ 1000) ∧ ss = [.net p, .d (staD s), .d t] ∧ o = none
theorem wr_after (T : Txt K mg) (Z : Tab w K mg) (h : Fn K mg "after" (F_after K)) (d_check_state : FnP P w K mg base "check_state" 7 (spP K Ccheck_state)) (d_is_deed : FnP P w K mg base "is_deed" 9 (spP K Cis_deed)) (OD : OwnX K mg "BadDeed") : FnX P w K mg base "after" 11 (spR K "BadDeed" CafterR) := by
  obtain ⟨f, fd, h1, h2, F⟩ := h
  refine ⟨f, fd, _, h1, h2, bindsD F ?_, ok_ref (k := 10) F sc_after ?_ ?_⟩
  · intro kV doc pm an cdv ct us hu
    match us, hu with
    | [a0, a1, a2], _ => rfl
  · rintro ss ov ⟨p, st, t, gd, hf, sd, hl, rfl, rfl⟩; first | rfl | exact CcwR.len (by assumption)
  rintro cdv A outer s H E ss ov B hr ⟨p, st, t, gd, hf, sd, hl, rfl, rfl⟩ hE
  refine sx_expr (ex_call d_check_state hr ⟨p, st, gd, rfl, rfl⟩ (ax_cons (ex_var 0 rfl rfl) (ax_cons (ex_var 1 rfl rfl) ax_nil))) ?_
  refine sx_if (k := true) (tx_notT (tx_val (EX.to (ex_call d_is_deed hr ⟨p, st, t, gd.fit, sd, hl, rfl, rfl⟩ (ax_cons (ex_var 0 rfl rfl) (ax_cons (ex_var 1 rfl rfl) (ax_cons (ex_var 2 rfl rfl) ax_nil)))) (by rw [hf])))) (fun _ => ?_) (fun h => nomatch h)
  exact sx_raiseO (W := fun cls d _ H => E cls d H) OD rfl (takes_of rfl rfl rfl rfl) (fun σ dd H2 q c => hE dd H2 q c)
def CcwR (ss : List Sh) (o : Option V) : Prop := (∃ (p : NetP) (ds : List Deed) (sts : List Sta) (t : List PyData) (hd : PyData), p.Ok ∧ Fine p (stAt (startOf p) sts sts.length) ∧ Weave p (startOf p) ds sts ∧ Tail p (stAt (startOf p) sts sts.length) t ∧ t ≠ [] ∧ ds.length ≤ 1000 ∧ t.length ≤ 1000 ∧ seqD hd = some (ds.map deedD ++ t) ∧ ss = [.net p, .d hd] ∧ o = some (.int ((ds.length : Nat) : Int))) ∨
  ∃ (p : NetP) (i : Int), ss = [.net p, .d (.int i)] ∧ o = some .non
theorem CcwR.len {ss : List Sh} {o : Option V} (h : CcwR ss o) : ss.length = 2 := by
  rcases h with ⟨p, ds, sts, t, hd, _, _, _, _, _, _, _, _, rfl, _⟩ | ⟨p, i, rfl, _⟩ <;> rfl
theorem wr_check_weaving (T : Txt K mg) (Z : Tab w K mg) (h : Fn K mg "check_weaving" (F_check_weaving K)) (d_check_net : FnP P w K mg base "check_net" 1 (spP K Ccheck_net)) (d_followed : FnP P w K mg base "followed" 15 (spP K Cfollowed)) (BW : ∃ fI cc cda, Bw.Txt P K (He.ga K "BadWeaving") fI cc cda) (gB : mg "BadWeaving" = some (.ref (He.ga K "BadWeaving"))) (gS : mg "super" = none) : FnX P w K mg base "check_weaving" 17 (spR K "BadWeaving" CcwR) := by
  obtain ⟨f, fd, h1, h2, F⟩ := h
  refine ⟨f, fd, _, h1, h2, bindsD F ?_, ok_ref (k := 16) F sc_check_weaving ?_ ?_⟩
  · intro kV doc pm an cdv ct us hu
    match us, hu with
    | [a0, a1], _ => rfl
  · rintro ss ov hC; first | rfl | exact CcwR.len (by assumption)
  rintro cdv A outer s H E ss ov B hr hC hE
  obtain ⟨fI, cc, cda, BW⟩ := BW
  rcases hC with ⟨p, ds, sts, t, hd, ok, fl, wv, tl, tn, hz, hz2, hsq, rfl, rfl⟩ | ⟨p, i, rfl, rfl⟩
  · refine sx_expr (ex_call d_check_net hr ⟨p, rfl, rfl⟩ (ax_cons (ex_var 0 rfl rfl) ax_nil)) ?_
    have key : ∀ (e1 : SX (cxOf (L2.CX P w) P w K mg base n_check_weaving "check_weaving" (defScope s_check_weaving) f cdv A outer s H E) ((defBody s_check_weaving).drop 2) DN (startS n_check_weaving [.net p, .d hd]) M0 B),
        SX (cxOf (L2.CX P w) P w K mg base n_check_weaving "check_weaving" (defScope s_check_weaving) f cdv A outer s H E) ((defBody s_check_weaving).drop 1) DN (startS n_check_weaving [.net p, .d hd]) M0 B := fun e1 => by
      cases hd with
      | list xs => exact sx_if (k := false) (tx_notF (tx_val (ex_toB (ex_isi2 T (kt (k := true) "list" rfl (by decide +kernel)) (kt (k := false) "list" rfl (by decide +kernel)) (ex_var 1 rfl rfl) (ex_tyN T boot_list') (ex_tyN T boot_tuple')) rfl))) (fun h => nomatch h) (fun _ => sx_go e1)
      | tuple xs => exact sx_if (k := false) (tx_notF (tx_val (ex_toB (ex_isi2 T (kt (k := false) "tuple" rfl (by decide +kernel)) (kt (k := true) "tuple" rfl (by decide +kernel)) (ex_var 1 rfl rfl) (ex_tyN T boot_list') (ex_tyN T boot_tuple')) rfl))) (fun h => nomatch h) (fun _ => sx_go e1)
      | _ => cases hsq
    refine key ?_
    have hl := wv.len
    have hsd : Sd 5 (.list (sts.map staD ++ [.none])) := Sd.list (k := 4) fun d hd => by
      rcases List.mem_append.mp hd with h | h
      · exact (Sd.map sd_sta d h).mono (by decide)
      · rw [List.mem_singleton] at h
        rw [h]
        exact sd_non.mono (by decide)
    refine sx_set 2 nd_check_weaving rfl (sh := .d (.list (sts.map staD ++ [.none]))) (ex_call d_followed hr ⟨p, ds, sts, t, hd, ok, fl, wv, tl, hz, hz2, hsq, rfl, by rw [if_neg tn]⟩ (ax_cons (ex_var 0 rfl rfl) (ax_cons (ex_var 1 rfl rfl) ax_nil))) ?_
    refine sx_if (k := true) (tx_w (wx_andT (TX.to (tx_c (c_ne hr.units (hsd.shaped (by decide)) rfl) (ex_var 2 rfl rfl) (ex_d (ex_lstD ad_nil))) ?_) (wx_and1 (TX.to (tx_c c_isN (ex_ixL (d := .none) (ex_var 2 rfl rfl) (ex_neg ex_int) (atI_last (by rw [List.getLast?_append]; rfl))) ex_non) rfl)))) (fun _ => ?_) (fun h => nomatch h)
    · rw [eqv_nil]
      cases sts <;> rfl
    · exact sx_raiseB (W := fun cls d _ H => E cls d H) BW gB gS hr rfl (takes_of rfl rfl rfl rfl) (ex_toI (j := ((ds.length : Nat) : Int)) (ex_sub (ex_lenL T (ex_var 2 rfl rfl)) ex_int) (by rw [List.length_append, List.length_map, List.length_singleton]; omega)) (fun I u h => dp_int h) (fun σ dd H2 q c => hE dd H2 q c)
  · refine sx_expr (ex_call d_check_net hr ⟨p, rfl, rfl⟩ (ax_cons (ex_var 0 rfl rfl) ax_nil)) ?_
    refine sx_if (k := true) (tx_notT (tx_val (ex_toB (ex_isi2 T (kt (k := false) "int" rfl (by decide +kernel)) (kt (k := false) "int" rfl (by decide +kernel)) (ex_var 1 rfl rfl) (ex_tyN T boot_list') (ex_tyN T boot_tuple')) rfl))) (fun _ => ?_) (fun h => nomatch h)
    exact sx_raiseB (W := fun cls d _ H => E cls d H) BW gB gS hr rfl (takes_of rfl rfl rfl rfl) ex_non (fun I u h => dp_non h) (fun σ dd H2 q c => hE dd H2 q c)
theorem wr_woven (T : Txt K mg) (Z : Tab w K mg) (h : Fn K mg "woven" (F_woven K)) (d_check_weaving_R : FnX P w K mg base "check_weaving" 17 (spR K "BadWeaving" CcwR)) : FnX P w K mg base "woven" 19 (spR K "BadWeaving" CcwR) := by
  obtain ⟨f, fd, h1, h2, F⟩ := h
  refine ⟨f, fd, _, h1, h2, bindsD F ?_, ok_ref (k := 18) F sc_woven ?_ ?_⟩
  · intro kV doc pm an cdv ct us hu
    match us, hu with
    | [a0, a1], _ => rfl
  · rintro ss ov hC; first | rfl | exact CcwR.len (by assumption)
  rintro cdv A outer s H E ss ov B hr hC hE
  have hC' := hC
  have : ∃ a b, ss = [a, b] := by
    have := hC.len
    match ss, this with
    | [a, b], _ => exact ⟨a, b, rfl⟩
  obtain ⟨a, b, rfl⟩ := this
  exact sx_retR (W := fun cls d _ H => E cls d H) d_check_weaving_R hr (takes_of rfl rfl rfl rfl) hC (ax_cons (ex_var 0 rfl rfl) (ax_cons (ex_var 1 rfl rfl) ax_nil)) (fun σ dd H2 q c => hE dd H2 q c)
theorem sl_len {K : PySem.W.Frag} {I : Hp} : ∀ {σ : L2.St} {S : Sls}, Sl K I σ S → σ.length = S.length
  | [], [], _ => rfl
  | some _ :: σ, some _ :: S, h => congrArg Nat.succ (sl_len h.2)
  | some _ :: σ, none :: S, h => congrArg Nat.succ (sl_len (σ := σ) h)
  | none :: σ, none :: S, h => congrArg Nat.succ (sl_len (σ := σ) h)
  | none :: σ, some _ :: S, h => h.elim
  | [], some _ :: _, h => h.elim
  | [], none :: _, h => h.elim
  | some _ :: _, [], h => h.elim
  | none :: _, [], h => h.elim
def Clawindex (ss : List Sh) (sh : Sh) : Prop := ∃ (v : V) (d : PyData), CcwR ss (some v) ∧ ((∃ i, v = .int i ∧ d = .int i) ∨ (v = .non ∧ d = .none)) ∧ sh = .d d
theorem idx_dp {K : PySem.W.Frag} {I : Hp} {v : V} {d : PyData} (h : (∃ i, v = .int i ∧ d = .int i) ∨ (v = .non ∧ d = .none)) : Dp K I v d := by
  rcases h with ⟨i, rfl, rfl⟩ | ⟨rfl, rfl⟩
  · exact .int i
  · exact .non
theorem w_law_index (T : Txt K mg) (Z : Tab w K mg) (h : Fn K mg "_law_index" (F_law_index K)) (d_woven_R : FnX P w K mg base "woven" 19 (spR K "BadWeaving" CcwR)) (gB : mg "BadWeaving" = some (.ref (He.ga K "BadWeaving"))) (hX : XfC K (He.ga K "BadWeaving")) (hno : PySem.W.findIn K (.ref (He.ga K "BadWeaving")) "index" = some none) (hm : PySem.W.exmOne K (.ref (He.ga K "BadWeaving")) (.ref (He.ga K "BadWeaving")) = some true) : FnP P w K mg base "_law_index" 21 (spP K Clawindex) := by
  obtain ⟨f, fd, h1, h2, F⟩ := h
  refine ⟨f, fd, _, h1, h2, bindsD F ?_, ok_pure (k := 20) F sc_law_index ?_ ?_⟩
  · intro kV doc pm an cdv ct us hu
    match us, hu with
    | [a0, a1], _ => rfl
  · rintro ss sh ⟨v, d, hC, hv, rfl⟩; exact CcwR.len (by assumption)
  rintro cdv A outer s H E ss sh B hr ⟨v, d, hC, hv, rfl⟩
  have : ∃ a b, ss = [a, b] := by
    have := hC.len
    match ss, this with
    | [a, b], _ => exact ⟨a, b, rfl⟩
  obtain ⟨a, b, rfl⟩ := this
  refine sx_tryA (i := 2) rfl rfl nd_law_index rfl rfl (fun pn xe => d_woven_R) hr ⟨rfl, by decide, .inl gB⟩ hm hC (fun pn xe => ax_cons (ex_var 0 rfl rfl) (ax_cons (ex_var 1 rfl rfl) ax_nil)) ?_
  intro D' a oe dd pn I H H2 σ hD s q c hz hf
  obtain ⟨d2, rfl, hd⟩ := c
  refine sj_of (pss_one (ps_ret (pe_xf hX hno hz hf (pe_var (i := 2) rfl (Or.inl rfl) (by decide) (by decide))))) ?_
  refine ⟨.ref a, ?_, rfl, rfl, d2, _, v, rfl, hd, lk_here, ?_⟩
  · have hl : σ.length = 3 := sl_len s.l
    rw [List.getElem?_set, if_pos rfl, if_pos (by omega)]
  · rw [hD]
    exact ⟨I, s.x.trans (Ext.tell s.x.t q), idx_dp hv⟩
def Clawbarred (ss : List Sh) (sh : Sh) : Prop := ∃ (p : NetP) (s : Sta) (t : PyData), Good p s ∧ isDeedF p s t = false ∧ Sd 60 t ∧ (∀ ds, t = .tuple ds → ds.length ≤ 1000) ∧ ss = [.net p, .d (staD s), .d t] ∧ sh = .d (.bool true)
theorem w_law_is_barred (T : Txt K mg) (Z : Tab w K mg) (h : Fn K mg "_law_is_barred" (F_law_is_barred K)) (d_after_R : FnX P w K mg base "after" 11 (spR K "BadDeed" CafterR)) (OD : OwnX K mg "BadDeed") (hm : PySem.W.exmOne K (.ref (He.ga K "BadDeed")) (.ref (He.ga K "BadDeed")) = some true) : FnP P w K mg base "_law_is_barred" 13 (spP K Clawbarred) := by
  obtain ⟨f, fd, h1, h2, F⟩ := h
  refine ⟨f, fd, _, h1, h2, bindsD F ?_, ok_pure (k := 12) F sc_law_is_barred ?_ ?_⟩
  · intro kV doc pm an cdv ct us hu
    match us, hu with
    | [a0, a1, a2], _ => rfl
  · rintro ss sh ⟨p, st, t, gd, hf, sd, hl, rfl, rfl⟩; rfl
  rintro cdv A outer s H E ss sh B hr ⟨p, st, t, gd, hf, sd, hl, rfl, rfl⟩
  refine sx_tryO rfl rfl (fun pn xe => d_after_R) hr ⟨rfl, by decide, .inl OD.g⟩ hm ⟨p, st, t, gd, hf, sd, hl, rfl, rfl⟩ (fun pn xe => ax_cons (ex_var 0 rfl rfl) (ax_cons (ex_var 1 rfl rfl) (ax_cons (ex_var 2 rfl rfl) ax_nil))) ?_
  intro a oe dd pn I H H2 σ s q c hz hv
  exact sj_of (pss_one (ps_ret pe_bl)) ⟨I, s.x.trans (Ext.tell s.x.t q), .bl true⟩
end
end HW
/-! All that is told of a state is right. -/
namespace HW
open PySem PySem.Spec L2
def oddsA (p : NetP) : List PyData := [.tuple [sD "tell", .int 0, .int 0], .tuple [sD "tell", .int 1, .int 0], .tuple [sD "fall", nD p.ties.length], .tuple [sD "come", .int 9], .tuple [sD "tell", .bool true, .int 1], .int 5, .tuple [sD "fall"], .list [sD "come", .int 0]]
def oddsB (p : NetP) : List PyData := [.tuple [sD "tell", .int 1, .int 1], .tuple [sD "fall", .int 0], .tuple [sD "come", .int 0], .tuple [sD "tell", nD p.n, .int 1], .tuple [sD "tell", .int 0], .tuple [], .tuple [sD "Tell", .int 0, .int 1]]
def Small (t : PyData) : Prop := Sd 60 t ∧ ∀ ds, t = .tuple ds → ds.length ≤ 1000
theorem small_t {ds : List PyData} (h : ∀ d ∈ ds, Sd 0 d) (hl : Nat.ble ds.length 1000 = true := by rfl) : Small (.tuple ds) := ⟨(Sd.tup h).mono (by decide), fun es e => by cases e; exact Nat.le_of_ble_eq_true hl⟩
theorem sd_i {i : Int} : Sd 0 (.int i) := sd_int
theorem odds_small (p : NetP) : ∀ t ∈ oddsA p ++ oddsB p, Small t := by
  have hs : ∀ {x : Str}, (PyData.str x).canLay0 = true → Sd 0 (sD x) := fun h => sd_str h
  have t1 : Sd 0 (sD "tell") := sd_str
  have t2 : Sd 0 (sD "fall") := sd_str
  have t3 : Sd 0 (sD "come") := sd_str
  have t4 : Sd 0 (sD "Tell") := sd_str
  intro t ht
  unfold oddsA oddsB at ht
  simp only [List.cons_append, List.nil_append, List.mem_cons, List.not_mem_nil, or_false] at ht
  rcases ht with rfl | rfl | rfl | rfl | rfl | rfl | rfl | rfl | rfl | rfl | rfl | rfl | rfl | rfl | rfl
  · exact small_t (.cons t1 (.cons sd_int (.cons sd_int .nil)))
  · exact small_t (.cons t1 (.cons sd_int (.cons sd_int .nil)))
  · exact small_t (.cons t2 (.cons sd_int .nil))
  · exact small_t (.cons t3 (.cons sd_int .nil))
  · exact small_t (.cons t1 (.cons sd_bl (.cons sd_int .nil)))
  · exact ⟨sd_int.mono (by decide), fun ds e => by cases e⟩
  · exact small_t (.cons t2 .nil)
  · exact ⟨(Sd.list (k := 0) (.cons t3 (.cons sd_int .nil))).mono (by decide), fun ds e => by cases e⟩
  · exact small_t (.cons t1 (.cons sd_int (.cons sd_int .nil)))
  · exact small_t (.cons t2 (.cons sd_int .nil))
  · exact small_t (.cons t3 (.cons sd_int .nil))
  · exact small_t (.cons t1 (.cons sd_int (.cons sd_int .nil)))
  · exact small_t (.cons t1 (.cons sd_int .nil))
  · exact small_t .nil
  · exact small_t (.cons t4 (.cons sd_int (.cons sd_int .nil)))
theorem not_deed {p : NetP} {s : Sta} {t : PyData} (h : (ableF p s).any (fun d => PyData.eqv (deedD d) t) = false) : isDeedF p s t = false := by
  unfold isDeedF
  split
  · rw [h, Bool.and_false]
  · rfl
theorem len_able {p : NetP} {s : Sta} (ok : p.Ok) : (lawAble p s).length ≤ 26 := by
  have h1 := lawFlat_len ok s (List.range p.n)
  have h7 := ok.weak.hi
  have h4 := ok.n4
  have h2 := List.length_filter_le (stood s) p.weak
  have h3 := List.length_filter_le (fun t => !(stood s t)) p.weak
  rw [List.length_range] at h1
  unfold lawAble lawTells fallsIn comesIn
  rw [List.length_append, List.length_append, List.length_map, List.length_map]
  omega
theorem Okk.rows {p : NetP} {s : Sta} (k : Okk p s) : ∀ d ∈ lawAble p s, d.Fit p ∧ ∃ s', doF p s d = some s' := fun d hd => by
  rw [able_eq k.good.fit.ok] at hd
  exact k.fine.alive d hd
theorem isTell_eq (z : Deed) : ∃ x r, deedD z = .tuple (sD x :: r) ∧ decide (x = "tell") = isTell z := by
  cases z with
  | tell a b => exact ⟨"tell", _, rfl, by show decide _ = true; decide +kernel⟩
  | fall a => exact ⟨"fall", _, rfl, by show decide _ = false; decide +kernel⟩
  | come a => exact ⟨"come", _, rfl, by show decide _ = false; decide +kernel⟩
section
variable {P : Program} {w : World} {K : PySem.W.Frag} {mg : Str → Option Value} {base : Heap}
def Claw_state_right (ss : List Sh) (sh : Sh) : Prop := ∃ (p : NetP) (s : Sta), Okk p s ∧ ss = [.d (partsD p), .net p, .d (staD s)] ∧ sh = .d (.bool true)
theorem w_law_state_right (T : Txt K mg) (Z : Tab w K mg) (h : Fn K mg "_law_state_right" (F_law_state_right K)) (d_law_rows : FnP P w K mg base "_law_rows" 12 (spP K Clawrows)) (d_deeds : FnP P w K mg base "deeds" 9 (spP K Cdeeds)) (d_truly : FnP P w K mg base "truly" 9 (spP K Ctruly)) (d_law_truly : FnP P w K mg base "_law_truly" 3 (spP K Clawtruly)) (d_settled : FnP P w K mg base "settled" 17 (spP K Csettled)) (d_after : FnP P w K mg base "after" 15 (spP K Cafter)) (d_law_is_barred : FnP P w K mg base "_law_is_barred" 13 (spP K Clawbarred)) : FnP P w K mg base "_law_state_right" 19 (spP K Claw_state_right) := by
  obtain ⟨f, fd, h1, h2, F⟩ := h
  refine ⟨f, fd, _, h1, h2, bindsD F ?_, ok_pure (k := 18) F sc_law_state_right ?_ ?_⟩
  · intro kV doc pm an cdv ct us hu
    match us, hu with
    | [a0, a1, a2], _ => rfl
  · rintro ss sh ⟨p, st, kk, rfl, rfl⟩; rfl
  rintro cdv A outer s H E ss sh B hr ⟨p, st, kk, rfl, rfl⟩
  have gd := kk.good
  have fs := gd.fit
  have ok := fs.ok
  have hal := len_able (s := st) ok
  have hae := able_eq ok st
  obtain ⟨res, hres⟩ := kk.fine.dist
  have htr : distL p res = distL p (lawPaths (near p st.ss) p.n) := by
    have e := true_eq ok st
    unfold trueD at e
    rw [hres] at e
    exact e
  refine sx_set 3 nd_law_state_right rfl (ex_call d_law_rows hr ⟨p, st, fs, kk.rows, rfl, rfl⟩ (ax_cons (ex_var 0 rfl rfl) (ax_cons (ex_var 2 rfl rfl) ax_nil))) ?_
  refine sx_if (k := false) (tx_w (wx_or (k := false) (j := false) (TX.to (tx_c (c_ne (d := .list ((ableF p st).map deedD)) (f := .list ((lawAble p st).map deedD)) hr.units ((sd_deeds _).shaped (by decide)) ((sd_deeds _).shaped (by decide)))
    (ex_d (ex_call d_deeds hr ⟨p, st, gd, rfl, rfl⟩ (ax_cons (ex_var 1 rfl rfl) (ax_cons (ex_var 2 rfl rfl) ax_nil)))) (ex_d (ex_lc0 (lawAble p st) (rowD p st) _ deedD rfl nd_law_state_right (ix_lst (ex_var 3 rfl rfl)) (show BlkOk n_law_state_right (defScope s_law_state_right) _ [("row", 6)] from ⟨rfl, by decide +kernel, by decide +kernel, by decide +kernel, by decide +kernel⟩) (by omega) (by decide) (fun s H C cl fp z => gx_name 6 nd_law_state_right rfl) (fun s H C cl fp z hz => ex_ixT (ex_var 6 rfl rfl) ex_int rfl)))) ?_)
    fun _ => wx_or1 (TX.to (tx_c (c_ne (d := .list ((distL p res).map nD)) (f := .list ((distL p (lawPaths (near p st.ss) p.n)).map nD)) hr.units (Sd.shaped (k := 1) (Sd.list (Sd.map fun _ => sd_nD)) (by decide)) (Sd.shaped (k := 1) (Sd.list (Sd.map fun _ => sd_nD)) (by decide)))
      (ex_d (ex_call d_truly hr ⟨p, st, res, gd, hres, rfl, rfl⟩ (ax_cons (ex_var 1 rfl rfl) (ax_cons (ex_var 2 rfl rfl) ax_nil)))) (ex_lk0 (ex_call d_law_truly hr ⟨p, st, fs, rfl, rfl⟩ (ax_cons (ex_var 0 rfl rfl) (ax_cons (ex_var 2 rfl rfl) ax_nil))) ex_int)) ?_))) (fun h => nomatch h) (fun _ => ?_)
  · rw [hae, eqv_lst, eqvAll_map eqv_deed, decide_eq_true rfl]; rfl
  · rw [htr, eqv_lst, eqvAll_map eqv_nD, decide_eq_true rfl]; rfl
  refine sx_go (sx_if (k := false) (TX.to (tx_c (c_ne (d := .bool (settledF p st)) (f := .bool (lawSettled p st)) hr.units rfl rfl) (ex_call d_settled hr ⟨p, st, gd, kk.fine.alive, rfl, rfl⟩ (ax_cons (ex_var 1 rfl rfl) (ax_cons (ex_var 2 rfl rfl) ax_nil)))
    (ex_not (ex_anyB T (p' := fun d => isTell d && !decide (nextS p st d = st)) rfl (ex_lc0 (lawAble p st) (rowD p st) _ _ rfl nd_law_state_right (ix_lst (ex_var 3 rfl rfl)) (show BlkOk n_law_state_right (defScope s_law_state_right) _ [("row", 6)] from ⟨rfl, by decide +kernel, by decide +kernel, by decide +kernel, by decide +kernel⟩) (by omega) (by decide) (fun s H C cl fp z => gx_name 6 nd_law_state_right rfl) ?_)))) ?_) (fun h => nomatch h) (fun _ => ?_))
  · intro s H C cl fp z hz
    obtain ⟨x, r, e1, e2⟩ := isTell_eq z
    exact ex_toB (ex_and (ex_c c_eqS (ex_ixT (d := sD x) (ex_ixT (d := .tuple (sD x :: r)) (ex_var 6 rfl rfl) ex_int (by rw [← e1]; rfl)) ex_int (atI_nat (h := 0) rfl)) ex_str) fun _ => ex_one (ex_c (c_ne hr.units ((sd_sta _).shaped (by decide)) ((sd_sta _).shaped (by decide))) (ex_ixT (d := staD (nextS p st z)) (ex_var 6 rfl rfl) ex_int rfl) (ex_var 2 rfl rfl))) (by rw [eqv_sta, e2])
  · rw [settled_eq kk, show PyData.eqv (.bool (lawSettled p st)) (.bool (lawSettled p st)) = true from (eqv_bD _ _).trans (decide_eq_true rfl)]
    rfl
  refine sx_go (sx_if (k := false) (tx_notF (tx_val (EX.to (ex_allB T (p' := fun _ => true) rfl (ex_lc0 (lawAble p st) (rowD p st) _ (fun _ => .bool true) rfl nd_law_state_right (ix_lst (ex_var 3 rfl rfl)) (show BlkOk n_law_state_right (defScope s_law_state_right) _ [("row", 6)] from ⟨rfl, by decide +kernel, by decide +kernel, by decide +kernel, by decide +kernel⟩) (by omega) (by decide) (fun s H C cl fp z => gx_name 6 nd_law_state_right rfl) ?_)) ?_))) (fun h => nomatch h) (fun _ => ?_))
  · intro s H C cl fp z hz
    obtain ⟨hfit, s', hs'⟩ := kk.rows z hz
    have hn := nextS_of hs'
    refine ex_toB (ex_c (c_eq (d := staD s') (f := staD s') hr.units ((sd_sta _).shaped (by decide)) ((sd_sta _).shaped (by decide))) (ex_call d_after hr ⟨p, st, s', z, gd, hfit, by rw [← hae]; exact hz, hs', rfl, rfl⟩ (ax_cons (ex_var 1 rfl rfl) (ax_cons (ex_var 2 rfl rfl) (ax_cons (ex_ixT (d := deedD z) (ex_var 6 rfl rfl) ex_int rfl) ax_nil)))) (ex_ixT (d := staD s') (ex_var 6 rfl rfl) ex_int (by rw [← hn]; rfl))) ?_
    rw [eqv_sta, decide_eq_true rfl]
  · rw [show (lawAble p st).all (fun _ => true) = true from List.all_eq_true.mpr fun _ _ => rfl]
  refine sx_go (sx_set 4 nd_law_state_right rfl (sh := .nl (oddsA p)) (ex_lstD (ad_cons (ex_tupD (ad_cons ex_str (ad_cons ex_int (ad_cons ex_int ad_nil)))) (ad_cons (ex_tupD (ad_cons ex_str (ad_cons ex_int (ad_cons ex_int ad_nil)))) (ad_cons (ex_tupD (ad_cons ex_str (ad_cons (ex_toI (ex_lenT T (ex_ixT (d := p.tiesD) (ex_var 0 rfl rfl) ex_int rfl)) (by rw [List.length_map])) ad_nil)))
    (ad_cons (ex_tupD (ad_cons ex_str (ad_cons ex_int ad_nil))) (ad_cons (ex_tupD (ad_cons ex_str (ad_cons ex_bl (ad_cons ex_int ad_nil)))) (ad_cons ex_int (ad_cons (ex_tupD (ad_cons ex_str ad_nil)) (ad_cons (ex_d (ex_lstD (ad_cons ex_str (ad_cons ex_int ad_nil)))) ad_nil))))))))) ?_)
  refine sx_set 5 nd_law_state_right rfl (sh := .nl ((lawAble p st).map deedD)) (ex_lc0 (lawAble p st) (rowD p st) _ deedD rfl nd_law_state_right (ix_lst (ex_var 3 rfl rfl)) (show BlkOk n_law_state_right (defScope s_law_state_right) _ [("row", 6)] from ⟨rfl, by decide +kernel, by decide +kernel, by decide +kernel, by decide +kernel⟩) (by omega) (by decide) (fun s H C cl fp z => gx_name 6 nd_law_state_right rfl) (fun s H C cl fp z hz => ex_ixT (ex_var 6 rfl rfl) ex_int rfl)) ?_
  refine sx_set 4 nd_law_state_right rfl (sh := .nl (oddsA p ++ oddsB p)) (ex_catL (by show 15 ≤ sizeLine; decide) (ex_var 4 rfl rfl) (ex_lstD (ad_cons (ex_tupD (ad_cons ex_str (ad_cons ex_int (ad_cons ex_int ad_nil)))) (ad_cons (ex_tupD (ad_cons ex_str (ad_cons ex_int ad_nil))) (ad_cons (ex_tupD (ad_cons ex_str (ad_cons ex_int ad_nil)))
    (ad_cons (ex_tupD (ad_cons ex_str (ad_cons (ex_ixT (d := nD p.n) (ex_var 0 rfl rfl) ex_int rfl) (ad_cons ex_int ad_nil)))) (ad_cons (ex_tupD (ad_cons ex_str (ad_cons ex_int ad_nil))) (ad_cons (ex_tupD ad_nil) (ad_cons (ex_tupD (ad_cons ex_str (ad_cons ex_int (ad_cons ex_int ad_nil)))) ad_nil))))))))) ?_
  have hsome : Sd 2 (.list ((lawAble p st).map deedD)) := sd_deeds _
  refine sx_ret (ex_toB (ex_allB T (p' := fun _ => true) rfl (ex_lc (oddsA p ++ oddsB p) id _ (fun t => !(((lawAble p st).map deedD).any fun y => PyData.eqv y t)) (fun _ => .bool true) rfl nd_law_state_right (IX.to (ix_lst (ex_d (ex_var 4 rfl rfl))) (List.map_id _).symm) (show BlkOk n_law_state_right (defScope s_law_state_right) _ [("deed", 7)] from ⟨rfl, by decide +kernel, by decide +kernel, by decide +kernel, by decide +kernel⟩) (by show 15 ≤ 100000; decide) (by decide) (fun s H C cl fp z => gx_name 7 nd_law_state_right rfl) ?_ ?_)) ?_)
  · intro s H C cl fp z hz
    exact tsx_one (tx_c (c_nin (room65 hr) ((odds_small p z hz).1.shaped (by decide)) (hsome.shaped (by decide))) (ex_var 7 rfl rfl) (ex_d (ex_var 5 rfl rfl)))
  · intro s H C cl fp z hz hb
    obtain ⟨b1, b2⟩ := odds_small p z hz
    refine ex_call d_law_is_barred hr ⟨p, st, z, gd, not_deed ?_, b1, b2, rfl, rfl⟩ (ax_cons (ex_var 1 rfl rfl) (ax_cons (ex_var 2 rfl rfl) (ax_cons (ex_var 7 rfl rfl) ax_nil)))
    rw [hae, List.any_map] at hb
    have hb' : (ableF p st).any ((fun y => PyData.eqv y z) ∘ deedD) = false := by simpa using hb
    exact hb'
  · exact List.all_eq_true.mpr fun _ _ => rfl
end
end HW
/-! The law. -/
namespace HW
open PySem PySem.Spec L2
/-! ### weavings grow -/
theorem stAt_last {s : Sta} : ∀ (ss : List Sta) (x : Sta), stAt s (ss ++ [x]) (ss.length + 1) = x := fun ss x => by
  have a := stAt_get (s := s) (ss := ss ++ [x]) (i := ss.length + 1) (by rw [List.length_append, List.length_singleton]; omega)
  rw [List.getElem?_cons_succ, List.getElem?_append_right (Nat.le_refl _), Nat.sub_self] at a
  exact (Option.some.inj a).symm
theorem stAt_cons {s s' : Sta} {ss : List Sta} {i : Nat} (h : i < ss.length + 1) : stAt s (s' :: ss) (i + 1) = stAt s' ss i := by
  have a := stAt_get (s := s) (ss := s' :: ss) (i := i + 1) (by rw [List.length_cons]; omega)
  have b := stAt_get (s := s') (ss := ss) (i := i) h
  rw [List.getElem?_cons_succ, b] at a
  exact (Option.some.inj a).symm
theorem stAt_take {s : Sta} {ss : List Sta} {k i : Nat} (h : i ≤ k) (hk : k ≤ ss.length) : stAt s (ss.take k) i = stAt s ss i := by
  have a := stAt_get (s := s) (ss := ss.take k) (i := i) (by rw [List.length_take]; omega)
  have b := stAt_get (s := s) (ss := ss) (i := i) (by omega)
  have e : (s :: ss.take k)[i]? = (s :: ss)[i]? := by
    cases i with
    | zero => rfl
    | succ i => rw [List.getElem?_cons_succ, List.getElem?_cons_succ, List.getElem?_take, if_pos (by omega)]
  rw [a, b] at e
  exact Option.some.inj e
theorem Weave.snoc {p : NetP} {d : Deed} {s' : Sta} (h1 : d.Fit p) : ∀ {ds : List Deed} {s : Sta} {ss : List Sta}, Weave p s ds ss → Fine p (stAt s ss ss.length) → d ∈ ableF p (stAt s ss ss.length) → doF p (stAt s ss ss.length) d = some s' → Weave p s (ds ++ [d]) (ss ++ [s'])
  | _, s, _, .nil, f, h2, h3 => .cons f h1 h2 h3 .nil
  | _, s, _, .cons (s' := s1) (ss := ss) a b c e w, f, h2, h3 => by
    have q : stAt s (s1 :: ss) (s1 :: ss).length = stAt s1 ss ss.length := stAt_cons (Nat.lt_succ_self _)
    rw [q] at f h2 h3
    exact .cons a b c e (Weave.snoc h1 w f h2 h3)
theorem Weave.take {p : NetP} : ∀ {ds : List Deed} {s : Sta} {ss : List Sta} (k : Nat), Weave p s ds ss → Weave p s (ds.take k) (ss.take k)
  | _, _, _, 0, _ => .nil
  | _, _, _, _ + 1, .nil => .nil
  | _, _, _, k + 1, .cons a b c e w => .cons a b c e (Weave.take k w)
theorem dueL_snoc {p : NetP} {d : Deed} {s' : Sta} : ∀ {ds : List Deed} {s : Sta} {ss : List Sta}, ds.length = ss.length → dueL p s (ds ++ [d]) (ss ++ [s']) = dueL p s ds ss ++ [dueF p (stAt s ss ss.length) s' d]
  | [], s, [], _ => rfl
  | [], _, _ :: _, h => by simp at h
  | _ :: _, _, [], h => by simp at h
  | d0 :: ds, s, s1 :: ss, h => by
    have q : stAt s (s1 :: ss) (s1 :: ss).length = stAt s1 ss ss.length := stAt_cons (Nat.lt_succ_self _)
    rw [q]
    show dueF p s s1 d0 :: dueL p s1 (ds ++ [d]) (ss ++ [s']) = dueF p s s1 d0 :: (dueL p s1 ds ss ++ _)
    rw [dueL_snoc (by simpa using h)]
theorem sd_dueF {p : NetP} {s s' : Sta} {d : Deed} : Sd 1 (sDl (dueF p s s' d)) := Sd.list (k := 0) fun x hx => by
  obtain ⟨w, hw, rfl⟩ := List.mem_map.mp hx
  unfold dueF at hw
  have h := (List.mem_filter.mp hw).1
  simp only [List.mem_cons, List.not_mem_nil, or_false] at h
  rcases h with rfl | rfl | rfl | rfl <;> exact sd_str
theorem sd_dueL {p : NetP} : ∀ {ds : List Deed} {s : Sta} {ss : List Sta}, ∀ x ∈ (dueL p s ds ss).map sDl, Sd 1 x
  | [], _, _ => fun x hx => by cases hx
  | _ :: _, _, [] => fun x hx => by cases hx
  | d :: ds, s, s' :: ss => fun x hx => by
    rcases List.mem_cons.mp hx with rfl | h
    · exact sd_dueF
    · exact sd_dueL x h
theorem things_ex {p : NetP} {s : Sta} (kk : Okk p s) {f : Deed → Bool} {lv : List Deed} {kb c : Bool} (hlv : lv = (lawAble p s).filter f) (hkb : kb = (!lv.isEmpty && c)) : ∃ things : List Deed, (kb = true → things = lv) ∧ (kb = false → things = lawAble p s) ∧ things ≠ [] ∧ ∀ z ∈ things, z ∈ lawAble p s := by
  cases hk : kb with
  | true =>
    refine ⟨lv, fun _ => rfl, (fun h => nomatch h), fun e => ?_, fun z hz => (by rw [hlv] at hz; exact (List.mem_filter.mp hz).1)⟩
    rw [hk, e] at hkb
    cases hkb
  | false => exact ⟨lawAble p s, (fun h => nomatch h), fun _ => rfl, (by rw [able_eq kk.good.fit.ok]; exact able_ne kk), fun z hz => hz⟩
def oddsC : List PyData := [.tuple [sD "tell", .int 1, .int 0], .none, .int 5, .tuple [sD "fall", .int 9], sD "tell", .tuple [sD "come"]]
theorem oddsC_ok {p : NetP} {s : Sta} (ok : p.Ok) : ∀ t ∈ oddsC, isDeedF p s t = false ∧ Small t := by
  have t1 : Sd 0 (sD "tell") := sd_str
  have t2 : Sd 0 (sD "fall") := sd_str
  have t3 : Sd 0 (sD "come") := sd_str
  have h6 := ok.ties.hi
  intro t ht
  unfold oddsC at ht
  simp only [List.mem_cons, List.not_mem_nil, or_false] at ht
  rcases ht with rfl | rfl | rfl | rfl | rfl | rfl
  · refine ⟨not_deed (List.any_eq_false.mpr fun d hd => ?_), small_t (.cons t1 (.cons sd_int (.cons sd_int .nil)))⟩
    show ¬ PyData.eqv (deedD d) (deedD (.tell 1 0)) = true
    rw [eqv_deed, decide_eq_true_eq]
    rintro rfl
    rcases mem_able.mp hd with ⟨a, o, e, _, _, h⟩ | ⟨t, e, _⟩ | ⟨t, e, _⟩
    · cases e
      exact (canTell_iff.mp h).1 rfl
    · cases e
    · cases e
  · exact ⟨rfl, sd_non.mono (by decide), fun ds e => by cases e⟩
  · exact ⟨rfl, sd_int.mono (by decide), fun ds e => by cases e⟩
  · refine ⟨not_deed (List.any_eq_false.mpr fun d hd => ?_), small_t (.cons t2 (.cons sd_int .nil))⟩
    show ¬ PyData.eqv (deedD d) (deedD (.fall 9)) = true
    rw [eqv_deed, decide_eq_true_eq]
    rintro rfl
    rcases mem_able.mp hd with ⟨a, o, e, _⟩ | ⟨t, e, h, _⟩ | ⟨t, e, _⟩
    · cases e
    · cases e
      have := ok.weak.ok 9 h
      omega
    · cases e
  · exact ⟨rfl, t1.mono (by decide), fun ds e => by cases e⟩
  · exact ⟨rfl, small_t (.cons t3 .nil)⟩
/-! ### rules -/
section
variable {X : Cx} {S : Sls} {M : Mp} {a b c e d tg : Expr} {es : List Expr} {pos : Pos} {x y : Str} {D : Ends} {B : Bs} {rest sts : List Stmt}
theorem sx_sub {M' : Mp} (h : SX X sts D S M' B) (s : SubM M' M) : SX X sts D S M B := fun I H σ st => h I H σ (st.subM s)
theorem aj_4 {I H : Hp} {σ : L2.St} {Q : List V → Hp → Prop} (h : EJ X a σ H fun u H1 => EJ X b σ H1 fun v H2 => EJ X c σ H2 fun w H3 => EJ X d σ H3 fun z H4 => Q [u, v, w, z] H4) (he : starEach (a :: [b, c, d]) X.env = (false, eval a X.env) :: starEach [b, c, d] X.env := by rfl) (he2 : starEach (b :: [c, d]) X.env = (false, eval b X.env) :: starEach [c, d] X.env := by rfl)
    (he3 : starEach (c :: [d]) X.env = (false, eval c X.env) :: starEach [d] X.env := by rfl) (he4 : starEach (d :: []) X.env = (false, eval d X.env) :: starEach [] X.env := by rfl) : AJ X [a, b, c, d] σ H Q :=
  aj_of (pa_cons pe_ej (pa_cons pe_ej (pa_cons pe_ej (pa_cons pe_ej pa_nil he4) he3) he2) he) h
theorem dx_at {R : Sh → Mp → Prop} {I H : Hp} {σ : L2.St} {Q : VK} (h : DX X e S M R) (s : Stt X.K B I H M σ S) (k : ∀ v sh M' I2 H2, R sh M' → Same I I2 → Stt X.K B I2 H2 M' σ S → sh.ok X.K I2 v → Q v H2) : EJ X e σ H Q := h B I H σ s Q k
/-- a target takes what is drawn -/
theorem sx_asgD {R : Sh → Mp → Prop} (h : DX X e S M R) (k : ∀ sh M', R sh M' → ∃ (d : PyData) (is : List Nat) (f : Sls → Sls), sh = .d d ∧ GX X tg d is f ∧ SX X rest D (f S) M' B) (hs : swapsWithSole [tg] e pos.line X.env = pure false := by rfl) (hw : swappedStores [tg] e X.env = pure none := by rfl)
    (h1 : (assignEach [tg] X.env).map (·.2) = [assign tg X.env] := by rfl) : SX X (.Assign [tg] e pos :: rest) D S M B :=
  sx_of (ps_asg pe_ej pg_gj hs hw h1) fun I H σ s => h B I H σ s _ fun v sh M' I2 H2 r i2 s2 hv => by
    obtain ⟨d, is, f, rfl, hg, k2⟩ := k sh M' r
    exact hg I2 H2 σ S v s2.x.t s2.l hv _ fun σ' l' _ => k2 I2 H2 σ' ⟨s2.x, s2.g, l', s2.m, s2.fr⟩
end
section
variable {P : Program} {w : World} {K : PySem.W.Frag} {mg : Str → Option Value} {base : Heap}
def Claw (ss : List Sh) (sh : Sh) : Prop := ∃ ns : List Int, ss = [.d (scrD ns)] ∧ sh = .d (.bool true)
theorem w_law (T : Txt K mg) (Z : Tab w K mg) {f : Addr} {fd : FuncData} (F : F_law K f fd) (d_law_parts : FnP P w K mg base "_law_parts" 7 (spD K Clawparts)) (d_law_made : FnP P w K mg base "_law_made" 10 (spP K Clawmade)) (d_law_first : FnP P w K mg base "_law_first" 1 (spP K Clawfirst)) (d_first_state : FnP P w K mg base "first_state" 5 (spP K Cfirst_state)) (d_law_state_right : FnP P w K mg base "_law_state_right" 19 (spP K Claw_state_right)) (d_law_rows : FnP P w K mg base "_law_rows" 12 (spP K Clawrows)) (d_law_pick : FnP P w K mg base "_law_pick" 5 (spD K Clawpick)) (d_law_take : FnP P w K mg base "_law_take" 3 (spD K Clawtake)) (d_law_breaks : FnP P w K mg base "_law_breaks" 14 (spP K Clawbreaks)) (d_woven : FnP P w K mg base "woven" 19 (spP K Ccheck_weaving)) (d_broken_by : FnP P w K mg base "broken_by" 19 (spP K Cbroken_by)) (d_law_index : FnP P w K mg base "_law_index" 21 (spP K Clawindex)) : FnOk P w K mg base CX0 23 f fd p_law (spP K Claw) := by
  refine ok_pure (k := 22) F sc_law ?_ ?_
  · rintro ss sh ⟨ns, rfl, rfl⟩; rfl
  rintro cdv A outer s H E ss sh B hr ⟨ns, rfl, rfl⟩
  refine sx_newL 1 nd_law rfl (exl_lst (ax_cons (ex_var 0 rfl rfl) (ax_cons ex_int ax_nil)) (by show 2 ≤ 100000; decide)) fun q hq => ?_
  refine sx_for (is := [2]) (List.range 4) nD (fun i S => S.set 2 (some (.d (nD i))))
    (fun i S' M' => (∃ c, M' q = some (drawM ns c)) ∧ ∃ u2 u3 u4 u5 u6 u7 u8 u9 u10 u11 u12 u13 u14 u15 u16, S' = [some (.d (scrD ns)), some (.v (.ref q)), u2, u3, u4, u5, u6, u7, u8, u9, u10, u11, u12, u13, u14, u15, u16]) own_nox rfl
    (IX.to (ix_rng1 T (n := 4) (by decide) ex_int) (rng0 _)) (fun i => gx_name 2 nd_law rfl) ⟨⟨0, mset_same⟩, none, none, none, none, none, none, none, none, none, none, none, none, none, none, none, rfl⟩ ?_ ?_
  rotate_left
  · rintro S' M' ⟨⟨c, hMq⟩, u2, u3, u4, u5, u6, u7, u8, u9, u10, u11, u12, u13, u14, u15, u16, rfl⟩
    refine sx_ret (ex_toB (ex_c (c_eq (d := .tuple wishesD) (f := .tuple wishesD) hr.units (by decide +kernel) (by decide +kernel)) (ex_gTup rfl Z.wi) (ex_tupD (ad_cons ex_str (ad_cons ex_str (ad_cons ex_str (ad_cons ex_str ad_nil)))))) ?_)
    decide +kernel
  rintro i k S' M G hx ⟨⟨c, hMq⟩, u2, u3, u4, u5, u6, u7, u8, u9, u10, u11, u12, u13, u14, u15, u16, rfl⟩
  refine sx_setD 3 nd_law rfl (dx_call d_law_parts hr ⟨ns, q, c, hMq, rfl, rfl⟩ (fun sh M' p ⟨_, c', _, _, e⟩ => dom_draw hMq e p) (ax_cons (ex_var 1 rfl rfl) (ax_cons ex_int ax_nil))) ?_
  rintro sh M1 ⟨p, c1, ok, rfl, rfl⟩
  have hn4 := ok.n4
  refine sx_asgV (t := gCons (gName 4) (gCons (gName 5) (gCons (gName 6) (gCons (gName 7) (gNil))))) ?_ ?_ (n := 4) ?_ ?_ ?_ ?_ ?_ ?_ ?_
  · exact rfl
  · exact pgs_cons (pg_name (i := 4) nd_law (by rfl) (by first | exact Or.inl rfl | exact Or.inr rfl) (by first | exact .inl rfl | exact .inr rfl)) (pgs_cons (pg_name (i := 5) nd_law (by rfl) (by first | exact Or.inl rfl | exact Or.inr rfl) (by first | exact .inl rfl | exact .inr rfl)) (pgs_cons (pg_name (i := 6) nd_law (by rfl) (by first | exact Or.inl rfl | exact Or.inr rfl) (by first | exact .inl rfl | exact .inr rfl)) (pgs_cons (pg_name (i := 7) nd_law (by rfl) (by first | exact Or.inl rfl | exact Or.inr rfl) (by first | exact .inl rfl | exact .inr rfl)) (pgs_nil))))
  · exact rfl
  · exact rfl
  · decide
  rotate_left
  · exact rfl
  · exact rfl
  · exact rfl
  refine fun I H σ s => aj_4 (I := I) ?_
  refine ex_q s (ex_call d_law_made hr ⟨p, ok, rfl, rfl⟩ (ax_cons (ex_var 3 rfl rfl) ax_nil)) fun v I1 H1 s1 e1 hv => ?_
  refine exl_q s1 (exl_lst ax_nil (by decide)) fun qh I2 H2 hMh e2 s2 vs2 _ _ s3 => ?_
  refine exl_q s3 (exl_lst ax_nil (by decide)) fun qs I3 H3 hMs e3 s4 vs3 _ _ s5 => ?_
  refine exl_q s5 (exl_lst ax_nil (by decide)) fun qd I4 H4 hMd e4 s6 vs4 _ _ s7 => ⟨rfl, fun TT hT => ?_⟩
  refine ⟨_, _, rfl, _, _, rfl, _, _, rfl, _, _, rfl, rfl, ?_⟩
  refine sx_at (((((s7.tell hT).set (sh := .net p) 4 (Sh.mono (e2.i.trans (e3.i.trans e4.i)) hv)).set (sh := .v (.ref qh)) 5 rfl).set (sh := .v (.ref qs)) 6 rfl).set (sh := .v (.ref qd)) 7 rfl) ?_
  have nq : ∀ {M : Mp} {a b : Addr} {o : MO}, M a = none → M b = some o → a ≠ b := fun {M a b o} h1 h2 e => by rw [e, h2] at h1; cases h1
  have nhq : qh ≠ q := nq hMh mset_same
  have nsh : qs ≠ qh := nq hMs mset_same
  have nsq : qs ≠ q := nq hMs (by rw [mset_ne nhq.symm]; exact mset_same)
  have nds : qd ≠ qs := nq hMd mset_same
  have ndh : qd ≠ qh := nq hMd (by rw [mset_ne nsh.symm]; exact mset_same)
  have ndq : qd ≠ q := nq hMd (by rw [mset_ne nsq.symm, mset_ne nhq.symm]; exact mset_same)
  refine sx_set 8 nd_law rfl (ex_call d_law_first hr ⟨p, ok, rfl, rfl⟩ (ax_cons (ex_var 3 rfl rfl) ax_nil)) ?_
  refine sx_if (k := false) (TX.to (tx_c (c_ne hr.units ((sd_sta _).shaped (by decide)) ((sd_sta _).shaped (by decide))) (ex_call d_first_state hr ⟨p, ok, rfl, rfl⟩ (ax_cons (ex_var 4 rfl rfl) ax_nil)) (ex_var 8 rfl rfl)) (by rw [eqv_sta, decide_eq_true rfl]; rfl)) (fun h => nomatch h) (fun _ => ?_)
  refine sx_go (sx_for (is := [9]) (List.range 12) nD (fun i S => S.set 9 (some (.d (nD i))))
    (fun j S' M' => ∃ (c : Nat) (ds : List Deed) (sts : List Sta) (cur : Sta), cur = stAt (startOf p) sts sts.length ∧ ds.length = j ∧ sts.length = j ∧ Weave p (startOf p) ds sts ∧ Okk p cur ∧ M' q = some (drawM ns c) ∧ M' qh = some (.lst ((ds.map deedD).map Sh.d)) ∧ M' qs = some (.lst ((sts.map staD).map Sh.d)) ∧ M' qd = some (.lst (((dueL p (startOf p) ds sts).map sDl).map Sh.d)) ∧
      ∃ u9 u10 u11 u12 u13 u14 u15 u16, S' = [some (.d (scrD ns)), some (.v (.ref q)), some (.d (nD k)), some (.d (partsD p)), some (.net p), some (.v (.ref qh)), some (.v (.ref qs)), some (.v (.ref qd)), some (.d (staD cur)), u9, u10, u11, u12, u13, u14, u15, u16]) own_nox rfl
    (IX.to (ix_rng1 T (n := 12) (by decide) ex_int) (rng0 _)) (fun i => gx_name 9 nd_law rfl) ⟨c1, [], [], startOf p, rfl, rfl, rfl, .nil, start_ok ok, ?_, ?_, ?_, mset_same, _, _, _, _, _, _, _, _, rfl⟩ ?_ ?_)
  · rw [mset_ne ndq.symm, mset_ne nsq.symm, mset_ne nhq.symm]; exact mset_same
  · rw [mset_ne ndh.symm, mset_ne nsh.symm]; exact mset_same
  · rw [mset_ne nds.symm]; exact mset_same
  · rintro j k2 S' M' G hx ⟨c, ds, sts, cur, hcur, hdl, hsl, wv, kk, gq, gh, gs, gd, u9, u10, u11, u12, u13, u14, u15, u16, rfl⟩
    have hj : j < 12 := by
      have := (List.getElem?_eq_some_iff.mp hx).1
      rw [List.length_range] at this
      exact this
    have fs := kk.good.fit
    have hal := len_able (s := cur) ok
    have hae := able_eq ok cur
    refine sx_if (k := false) (tx_notF (tx_val (ex_call d_law_state_right hr ⟨p, cur, kk, rfl, rfl⟩ (ax_cons (ex_var 3 rfl rfl) (ax_cons (ex_var 4 rfl rfl) (ax_cons (ex_var 8 rfl rfl) ax_nil)))))) (fun h => nomatch h) (fun _ => ?_)
    refine sx_go (sx_set 10 nd_law rfl (ex_call d_law_rows hr ⟨p, cur, fs, kk.rows, rfl, rfl⟩ (ax_cons (ex_var 3 rfl rfl) (ax_cons (ex_var 8 rfl rfl) ax_nil))) ?_)
    refine sx_setLc 11 (lawAble p cur) (rowD p cur) _ (fun z => !decide (nextS p cur z = cur)) (rowD p cur) rfl nd_law rfl (ix_lst (ex_var 10 rfl rfl)) (show BlkOk n_law (defScope s_law) _ [("row", 16)] from ⟨rfl, by decide +kernel, by decide +kernel, by decide +kernel, by decide +kernel⟩) (by omega) (by decide) (fun s H C cl fp z => gx_name 16 nd_law rfl)
      (fun s H C cl fp z hz => tsx_one (TX.to (tx_c (c_ne hr.units ((sd_sta _).shaped (by decide)) ((sd_sta _).shaped (by decide))) (ex_ixT (d := staD (nextS p cur z)) (ex_var 16 rfl rfl) ex_int rfl) (ex_var 8 rfl rfl)) (by rw [eqv_sta]))) (fun s H C cl fp z hz _ => (ex_var 16 rfl rfl)) ?_
    obtain ⟨lv, hlv⟩ : ∃ lv, lv = (lawAble p cur).filter (fun z => !decide (nextS p cur z = cur)) := ⟨_, rfl⟩
    rw [← hlv]
    obtain ⟨kb, hkb⟩ : ∃ kb, kb = (!lv.isEmpty && decide ((0 : Int) < ((k2 : Nat) : Int) % 4)) := ⟨_, rfl⟩
    obtain ⟨things, th1, th2, thn, ths⟩ := things_ex kk hlv hkb
    have hrs : ∀ l : List Deed, Sd 5 (.list (l.map (rowD p cur))) := fun l => Sd.list (k := 4) (Sd.map fun z => Sd.tup (k := 3) (.cons ((sd_deed z).mono (by decide)) (.cons (sd_sta _) .nil)))
    refine sx_asgD (dx_call d_law_pick hr ⟨ns, q, c, things.map (rowD p cur), ?_, gq, rfl, rfl⟩ (fun sh M' p ⟨_, c', _, _, e⟩ => dom_draw gq e p) (ax_cons (ex_var 1 rfl rfl) (ax_cons (ex_if (k := kb) (TX.to (tx_w (wx_and (k := !lv.isEmpty) (j := decide ((0 : Int) < ((k2 : Nat) : Int) % 4)) (TX.to (tx_c (c_ne (d := .list (lv.map (rowD p cur))) (f := .list []) hr.units ((hrs lv).shaped (by decide)) rfl) (ex_d (ex_var 11 rfl rfl)) (ex_d (ex_lstD ad_nil))) ?_)
      fun _ => wx_and1 (tx_c c_gt (ex_mod (by decide) (ex_var 9 rfl rfl) ex_int) ex_int))) hkb.symm) (fun hk => EX.to (ex_d (ex_var 11 rfl rfl)) (by rw [th1 hk])) (fun hk => EX.to (ex_var 10 rfl rfl) (by rw [th2 hk]))) ax_nil))) ?_
    · rw [List.length_map]
      exact Nat.pos_of_ne_zero fun e => thn (List.eq_nil_of_length_eq_zero e)
    · rw [eqv_nil, List.isEmpty_map]
    rintro sh M2 ⟨d, c2, hd, rfl, rfl⟩
    obtain ⟨z, hz, rfl⟩ := List.mem_map.mp hd
    refine ⟨_, _, _, rfl, gx_pair 12 13 (d1 := deedD z) (d2 := staD (nextS p cur z)) rfl nd_law rfl rfl, ?_⟩
    have hzm : z ∈ ableF p cur := by rw [← hae]; exact ths z hz
    obtain ⟨hfit, s', hdo, kk'⟩ := do_ok kk hzm
    rw [nextS_of hdo]
    have fs' := kk'.good.fit
    refine sx_app (q := qd) (xs := ((dueL p (startOf p) ds sts).map sDl).map Sh.d) (by rw [mset_ne ndq]; exact gd) (by rw [List.length_map, List.length_map, dueL_len (by omega)]; omega) (ex_var 7 rfl rfl) (ex_call d_law_breaks hr ⟨p, cur, s', z, fs, fs', hfit, kk'.rows, kk'.bys, fun h h1 h2 => walk_ex kk' h1 h2, rfl, rfl⟩ (ax_cons (ex_var 3 rfl rfl) (ax_cons (ex_var 8 rfl rfl) (ax_cons (ex_var 12 rfl rfl) (ax_cons (ex_var 13 rfl rfl) ax_nil))))) ?_
    refine sx_app (q := qh) (xs := (ds.map deedD).map Sh.d) (by rw [mset_ne ndh.symm, mset_ne nhq]; exact gh) (by rw [List.length_map, List.length_map]; omega) (ex_var 5 rfl rfl) (ex_var 12 rfl rfl) ?_
    refine sx_app (q := qs) (xs := (sts.map staD).map Sh.d) (by rw [mset_ne nsh, mset_ne nds.symm, mset_ne nsq]; exact gs) (by rw [List.length_map, List.length_map]; omega) (ex_var 6 rfl rfl) (ex_var 13 rfl rfl) ?_
    refine sx_set 8 nd_law rfl (ex_var 13 rfl rfl) ?_
    have hlast : stAt (startOf p) (sts ++ [s']) (sts ++ [s']).length = s' := by rw [List.length_append, List.length_singleton]; exact stAt_last sts s'
    refine sx_turn ⟨c2, ds ++ [z], sts ++ [s'], s', hlast.symm, by rw [List.length_append, List.length_singleton, hdl], by rw [List.length_append, List.length_singleton, hsl], Weave.snoc hfit wv (by rw [← hcur]; exact kk.fine) (by rw [← hcur]; exact hzm) (by rw [← hcur]; exact hdo), kk', ?_, ?_, ?_, ?_, _, _, _, _, _, _, _, _, rfl⟩
    · rw [mset_ne nsq.symm, mset_ne nhq.symm, mset_ne ndq.symm]; exact mset_same
    · rw [mset_ne nsh.symm, mset_same, List.map_append, List.map_append]; rfl
    · rw [mset_same, List.map_append, List.map_append]; rfl
    · rw [mset_ne nds, mset_ne ndh, mset_same, dueL_snoc (by omega), ← hcur, due_eq kk kk' hfit, List.map_append, List.map_append]; rfl
  · rintro S' M' ⟨c, ds, sts, cur, hcur, hdl, hsl, wv, kk, gq, gh, gs, gd, u9, u10, u11, u12, u13, u14, u15, u16, rfl⟩
    rw [List.length_range] at hdl hsl
    have fl : Fine p (stAt (startOf p) sts sts.length) := by rw [← hcur]; exact kk.fine
    refine sx_frz 5 (q := qh) rfl gh ?_
    refine sx_frz 6 (q := qs) rfl (by rw [mdel_ne nsh]; exact gs) ?_
    refine sx_frz 7 (q := qd) rfl (by rw [mdel_ne nds, mdel_ne ndh]; exact gd) ?_
    have gq2 : (mdel (mdel (mdel M' qh) qs) qd) q = some (drawM ns c) := by rw [mdel_ne ndq.symm, mdel_ne nsq.symm, mdel_ne nhq.symm]; exact gq
    generalize mdel (mdel (mdel M' qh) qs) qd = M9 at gq2 ⊢
    have same : PyData.eqv (.list (sts.map staD)) (.list (sts.map staD)) = true := by rw [eqv_lst, eqvAll_map eqv_sta, decide_eq_true rfl]
    refine sx_if (k := false) (tx_w (wx_or (k := false) (j := false) (TX.to (tx_c (c_ne hr.units ((sd_stas sts).shaped (by decide)) ((sd_stas sts).shaped (by decide))) (ex_call d_woven hr ⟨p, ds, sts, .list (ds.map deedD), ok, fl, wv, by omega, rfl, rfl, rfl⟩ (ax_cons (ex_var 4 rfl rfl) (ax_cons (ex_var 5 rfl rfl) ax_nil))) (ex_var 6 rfl rfl)) (by rw [same]; rfl))
      fun _ => wx_or1 (TX.to (tx_c (c_ne hr.units ((sd_stas sts).shaped (by decide)) ((sd_stas sts).shaped (by decide))) (ex_call d_woven hr ⟨p, ds, sts, .tuple (ds.map deedD), ok, fl, wv, by omega, rfl, rfl, rfl⟩ (ax_cons (ex_var 4 rfl rfl) (ax_cons (ex_tupOf T (d := .list (ds.map deedD)) rfl (ex_var 5 rfl rfl)) ax_nil))) (ex_var 6 rfl rfl)) (by rw [same]; rfl)))) (fun h => nomatch h) (fun _ => ?_)
    have hsdue : Sd 2 (.list ((dueL p (startOf p) ds sts).map sDl)) := Sd.list sd_dueL
    refine sx_go (sx_if (k := false) (TX.to (tx_c (c_ne hr.units (hsdue.shaped (by decide)) (hsdue.shaped (by decide))) (ex_call d_broken_by hr ⟨p, ds, sts, .list (ds.map deedD), ok, fl, wv, by omega, rfl, rfl, rfl⟩ (ax_cons (ex_var 4 rfl rfl) (ax_cons (ex_var 5 rfl rfl) ax_nil))) (ex_var 7 rfl rfl)) ?_) (fun h => nomatch h) (fun _ => ?_))
    · rw [eqv_lst, eqvAll_map (f := sDl) (fun x y => by rw [eqv_lst, eqvAll_map eqv_str]), decide_eq_true rfl]; rfl
    refine sx_go (sx_parQ 14 15 rfl nd_law rfl rfl (by decide) fun I H σ s => ?_)
    refine dx_at (dx_call d_law_take hr ⟨ns, q, c, 13, by decide, gq2, rfl, rfl⟩ (fun sh M' p ⟨_, c', _, _, e⟩ => dom_draw gq2 e p) (ax_cons (ex_var 1 rfl rfl) (ax_cons ex_int ax_nil))) s fun u sh M2 I2 H2 r i2 s2 hu => ?_
    obtain ⟨k3, c3, hk3, rfl, rfl⟩ := r
    refine dx_at (dx_call d_law_pick hr ⟨ns, q, c3, oddsC, by decide, mset_same, rfl, rfl⟩ (fun sh M' p ⟨_, c', _, _, e⟩ => dom_draw (o := drawM ns c3) mset_same e p) (ax_cons (ex_var 1 rfl rfl) (ax_cons (ex_d (ex_lstD (ad_cons (ex_tupD (ad_cons ex_str (ad_cons ex_int (ad_cons ex_int ad_nil)))) (ad_cons ex_non (ad_cons ex_int (ad_cons (ex_tupD (ad_cons ex_str (ad_cons ex_int ad_nil))) (ad_cons ex_str (ad_cons (ex_tupD (ad_cons ex_str ad_nil)) ad_nil)))))))) ax_nil))) s2 fun v sh M3 I3 H3 r i3 s3 hv => ?_
    obtain ⟨d, c4, hd, rfl, rfl⟩ := r
    refine sx_at ((s3.set 14 (Sh.mono i3 hu)).set 15 hv) ?_
    have hkl : (ds.take k3).length = k3 := by rw [List.length_take]; omega
    have hks : (sts.take k3).length = k3 := by rw [List.length_take]; omega
    obtain ⟨o1, o2, o3⟩ := oddsC_ok (s := stAt (startOf p) (sts.take k3) (sts.take k3).length) ok d hd
    have flk : Fine p (stAt (startOf p) (sts.take k3) (sts.take k3).length) := by rw [hks, stAt_take (Nat.le_refl _) (by omega)]; exact wv.fine fl (by omega)
    refine sx_if (k := false) (tx_w (wx_or (k := false) (j := false) (TX.to (tx_c (c_neI (i := (((ds.take k3).length : Nat) : Int)) (j := (k3 : Int))) (ex_call d_law_index hr ⟨.int (((ds.take k3).length : Nat) : Int), .int (((ds.take k3).length : Nat) : Int), .inl ⟨p, ds.take k3, sts.take k3, [d, .int 5], .list ((ds.take k3).map deedD ++ [d, .int 5]), ok, flk, wv.take k3, .inr ⟨d, [.int 5], rfl, o1, o2, o3⟩, by simp, by omega, by show 2 ≤ 1000; decide, rfl, rfl, rfl⟩, .inl ⟨_, rfl, rfl⟩, rfl⟩
      (ax_cons (ex_var 4 rfl rfl) (ax_cons (ex_d (ex_catL (ds := (ds.take k3).map deedD) (by rw [List.length_map, hkl]; exact sz_of' (by show k3 + 2 ≤ 100000; omega)) (EX.to (ex_slL (ex_var 5 rfl rfl) ox_none (ox_some (ex_var 14 rfl rfl))) (by rw [cutD_to, List.map_take])) (ex_lstD (ad_cons (ex_var 15 rfl rfl) (ad_cons ex_int ad_nil))))) ax_nil))) (ex_var 14 rfl rfl)) (by rw [hkl, decide_eq_true rfl]; rfl))
      fun _ => wx_or1 (TX.to (tx_c c_notN (ex_call d_law_index hr ⟨.non, .none, .inr ⟨p, 5, rfl, rfl⟩, .inr ⟨rfl, rfl⟩, rfl⟩ (ax_cons (ex_var 4 rfl rfl) (ax_cons ex_int ax_nil))) ex_non) rfl))) (fun h => nomatch h) (fun _ => ?_)
    exact sx_go (sx_turn ⟨⟨c4, mset_same⟩, _, _, _, _, _, _, _, _, _, _, _, _, _, _, _, rfl⟩)
end
end HW
/-! All defs keep their promises: printed by gen_end.py. -/
namespace HW
open PySem PySem.Spec L2
/-- where the defs stand -/
structure Defs (K : PySem.W.Frag) (mg : Str → Option Value) : Prop where
  is_number : Fn K mg "is_number" (F_is_number K)
  is_tie : Fn K mg "is_tie" (F_is_tie K)
  is_ascending : Fn K mg "is_ascending" (F_is_ascending K)
  are_ties : Fn K mg "are_ties" (F_are_ties K)
  are_weak : Fn K mg "are_weak" (F_are_weak K)
  is_rule : Fn K mg "is_rule" (F_is_rule K)
  check_net : Fn K mg "check_net" (F_check_net K)
  Net_len : Mt K "Net" "__len__" (F_Net_len K)
  Book_init : MkD K "Book" (F_Book_init K)
  Book_neighbours : Mt K "Book" "neighbours" (F_Book_neighbours K)
  Book_distance_of : Mt K "Book" "distance_of" (F_Book_distance_of K)
  Book_goes_by : Mt K "Book" "goes_by" (F_Book_goes_by K)
  Book_can_tell : Mt K "Book" "can_tell" (F_Book_can_tell K)
  Book_heard : Mt K "Book" "heard" (F_Book_heard K)
  Book_lose : Mt K "Book" "lose" (F_Book_lose K)
  Book_tell : Mt K "Book" "tell" (F_Book_tell K)
  Book_fall : Mt K "Book" "fall" (F_Book_fall K)
  Book_do : Mt K "Book" "do" (F_Book_do K)
  Book_state : Mt K "Book" "state" (F_Book_state K)
  start_of : Fn K mg "start_of" (F_start_of K)
  done : Fn K mg "done" (F_done K)
  tells_in : Fn K mg "tells_in" (F_tells_in K)
  able : Fn K mg "able" (F_able K)
  is_deed : Fn K mg "is_deed" (F_is_deed K)
  is_entry : Fn K mg "is_entry" (F_is_entry K)
  is_state : Fn K mg "is_state" (F_is_state K)
  check_state : Fn K mg "check_state" (F_check_state K)
  first_state : Fn K mg "first_state" (F_first_state K)
  deeds : Fn K mg "deeds" (F_deeds K)
  is_settled : Fn K mg "is_settled" (F_is_settled K)
  settled : Fn K mg "settled" (F_settled K)
  true_distances : Fn K mg "true_distances" (F_true_distances K)
  truly : Fn K mg "truly" (F_truly K)
  are_joined : Fn K mg "are_joined" (F_are_joined K)
  has_ring : Fn K mg "has_ring" (F_has_ring K)
  is_bad : Fn K mg "is_bad" (F_is_bad K)
  is_breach : Fn K mg "is_breach" (F_is_breach K)
  followed : Fn K mg "followed" (F_followed K)
  check_weaving : Fn K mg "check_weaving" (F_check_weaving K)
  woven : Fn K mg "woven" (F_woven K)
  broken_by : Fn K mg "broken_by" (F_broken_by K)
  law_number : Fn K mg "_law_number" (F_law_number K)
  law_take : Fn K mg "_law_take" (F_law_take K)
  law_pick : Fn K mg "_law_pick" (F_law_pick K)
  law_parts : Fn K mg "_law_parts" (F_law_parts K)
  Net_init : MkD K "Net" (F_Net_init K)
  law_made : Fn K mg "_law_made" (F_law_made K)
  law_first : Fn K mg "_law_first" (F_law_first K)
  law_near : Fn K mg "_law_near" (F_law_near K)
  law_entry : Fn K mg "_law_entry" (F_law_entry K)
  law_lost : Fn K mg "_law_lost" (F_law_lost K)
  law_told : Fn K mg "_law_told" (F_law_told K)
  law_rows : Fn K mg "_law_rows" (F_law_rows K)
  law_truly : Fn K mg "_law_truly" (F_law_truly K)
  law_breaks : Fn K mg "_law_breaks" (F_law_breaks K)
  after : Fn K mg "after" (F_after K)
  law_index : Fn K mg "_law_index" (F_law_index K)
  law_is_barred : Fn K mg "_law_is_barred" (F_law_is_barred K)
  law_state_right : Fn K mg "_law_state_right" (F_law_state_right K)
  law : Fn K mg "law" (F_law K)
/-- what is wanted of the errors -/
structure Errs (P : Program) (K : PySem.W.Frag) (mg : Str → Option Value) : Prop where
  OD : OwnX K mg "BadDeed"
  hmD : PySem.W.exmOne K (.ref (He.ga K "BadDeed")) (.ref (He.ga K "BadDeed")) = some true
  BW : ∃ fI cc cda, Bw.Txt P K (He.ga K "BadWeaving") fI cc cda
  gB : mg "BadWeaving" = some (.ref (He.ga K "BadWeaving"))
  gS : mg "super" = none
  hX : XfC K (He.ga K "BadWeaving")
  hno : PySem.W.findIn K (.ref (He.ga K "BadWeaving")) "index" = some none
  hm : PySem.W.exmOne K (.ref (He.ga K "BadWeaving")) (.ref (He.ga K "BadWeaving")) = some true
section
variable {P : Program} {w : World} {K : PySem.W.Frag} {mg : Str → Option Value} {base : Heap}
theorem all_law (T : Txt K mg) (Z : Tab w K mg) (h : Defs K mg) (X : Errs P K mg) {f : Addr} {fd : FuncData} (F : F_law K f fd) : FnOk P w K mg base CX0 23 f fd ["script"] (spP K Claw) := by
  have o_is_number := w_is_number (P := P) (w := w) (base := base) T Z h.is_number
  have o_is_tie := w_is_tie (P := P) (w := w) (base := base) T Z h.is_tie (d_is_number := o_is_number)
  have o_is_ascending := w_is_ascending (P := P) (w := w) (base := base) T Z h.is_ascending
  have o_are_ties := w_are_ties (P := P) (w := w) (base := base) T Z h.are_ties (d_is_tie := o_is_tie) (d_is_ascending := o_is_ascending)
  have o_are_weak := w_are_weak (P := P) (w := w) (base := base) T Z h.are_weak (d_is_number := o_is_number) (d_is_ascending := o_is_ascending)
  have o_is_rule := w_is_rule (P := P) (w := w) (base := base) T Z h.is_rule (d_is_number := o_is_number)
  have o_check_net := w_check_net (P := P) (w := w) (base := base) T Z h.check_net
  have o_Net_len := w_Net_len (P := P) (w := w) (base := base) T Z h.Net_len
  have o_Book_init := w_Book_init (P := P) (w := w) (base := base) T Z h.Book_init
  have o_Book_neighbours := w_Book_neighbours (P := P) (w := w) (base := base) T Z h.Book_neighbours
  have o_Book_distance_of := w_Book_distance_of (P := P) (w := w) (base := base) T Z h.Book_distance_of
  have o_Book_goes_by := w_Book_goes_by (P := P) (w := w) (base := base) T Z h.Book_goes_by
  have o_Book_can_tell := w_Book_can_tell (P := P) (w := w) (base := base) T Z h.Book_can_tell (d_Book_neighbours := o_Book_neighbours) (d_Book_goes_by := o_Book_goes_by)
  have o_Book_heard := w_Book_heard (P := P) (w := w) (base := base) T Z h.Book_heard (d_Book_distance_of := o_Book_distance_of) (d_Book_goes_by := o_Book_goes_by)
  have o_lose : MtP P w K mg base "Book" "lose" 8 (spM K (CBook_lose FU)) := w_lose T Z h.Book_lose o_Net_len o_Book_goes_by FU
  have o_Book_tell := w_Book_tell (P := P) (w := w) (base := base) T Z h.Book_tell (d_Book_heard := o_Book_heard) (d_lose := o_lose)
  have o_Book_fall := w_Book_fall (P := P) (w := w) (base := base) T Z h.Book_fall (d_Book_goes_by := o_Book_goes_by) (d_lose := o_lose)
  have o_Book_do := w_Book_do (P := P) (w := w) (base := base) T Z h.Book_do (d_Book_tell := o_Book_tell) (d_Book_fall := o_Book_fall)
  have o_Book_state := w_Book_state (P := P) (w := w) (base := base) T Z h.Book_state
  have o_start_of := w_start_of (P := P) (w := w) (base := base) T Z h.start_of (d_Net_len := o_Net_len)
  have o_done := w_done (P := P) (w := w) (base := base) T Z h.done (d_Book_init := o_Book_init) (d_Book_do := o_Book_do) (d_Book_state := o_Book_state)
  have o_tells_in := w_tells_in (P := P) (w := w) (base := base) T Z h.tells_in (d_Net_len := o_Net_len) (d_Book_init := o_Book_init) (d_Book_can_tell := o_Book_can_tell)
  have o_able := w_able (P := P) (w := w) (base := base) T Z h.able (d_tells_in := o_tells_in)
  have o_is_deed := w_is_deed (P := P) (w := w) (base := base) T Z h.is_deed (d_able := o_able) (d_is_number := o_is_number)
  have o_is_entry := w_is_entry (P := P) (w := w) (base := base) T Z h.is_entry (d_is_number := o_is_number) (d_Net_len := o_Net_len) (d_Book_neighbours := o_Book_neighbours)
  have o_is_state := w_is_state (P := P) (w := w) (base := base) T Z h.is_state (d_Net_len := o_Net_len) (d_Book_init := o_Book_init) (d_is_entry := o_is_entry)
  have o_check_state := w_check_state (P := P) (w := w) (base := base) T Z h.check_state (d_check_net := o_check_net) (d_is_state := o_is_state)
  have o_first_state := w_first_state (P := P) (w := w) (base := base) T Z h.first_state (d_check_net := o_check_net) (d_start_of := o_start_of)
  have o_deeds := w_deeds (P := P) (w := w) (base := base) T Z h.deeds (d_check_state := o_check_state) (d_able := o_able)
  have o_is_settled := w_is_settled (P := P) (w := w) (base := base) T Z h.is_settled (d_tells_in := o_tells_in) (d_done := o_done)
  have o_settled := w_settled (P := P) (w := w) (base := base) T Z h.settled (d_check_state := o_check_state) (d_is_settled := o_is_settled)
  have o_true_distances := w_true_distances (P := P) (w := w) (base := base) T Z h.true_distances (d_Book_init := o_Book_init) (d_Book_neighbours := o_Book_neighbours) (d_Net_len := o_Net_len)
  have o_truly := w_truly (P := P) (w := w) (base := base) T Z h.truly (d_check_state := o_check_state) (d_true_distances := o_true_distances)
  have o_are_joined := w_are_joined (P := P) (w := w) (base := base) T Z h.are_joined (d_Book_init := o_Book_init) (d_Book_neighbours := o_Book_neighbours)
  have o_has_ring := w_has_ring (P := P) (w := w) (base := base) T Z h.has_ring
  have o_is_bad := w_is_bad (P := P) (w := w) (base := base) T Z h.is_bad (d_has_ring := o_has_ring) (d_is_settled := o_is_settled) (d_true_distances := o_true_distances)
  have o_is_breach := w_is_breach (P := P) (w := w) (base := base) T Z h.is_breach (d_done := o_done) (d_are_joined := o_are_joined)
  have o_followed := w_followed (P := P) (w := w) (base := base) T Z h.followed (d_start_of := o_start_of) (d_is_deed := o_is_deed) (d_done := o_done)
  have o_check_weaving := w_check_weaving (P := P) (w := w) (base := base) T Z h.check_weaving (d_check_net := o_check_net) (d_followed := o_followed)
  have o_woven := w_woven (P := P) (w := w) (base := base) T Z h.woven (d_check_weaving := o_check_weaving)
  have o_broken_by := w_broken_by (P := P) (w := w) (base := base) T Z h.broken_by (d_check_weaving := o_check_weaving) (d_start_of := o_start_of) (d_is_bad := o_is_bad) (d_is_breach := o_is_breach)
  have o_law_number := w_law_number (P := P) (w := w) (base := base) T Z h.law_number
  have o_law_take := w_law_take (P := P) (w := w) (base := base) T Z h.law_take (d_law_number := o_law_number)
  have o_law_pick := w_law_pick (P := P) (w := w) (base := base) T Z h.law_pick (d_law_take := o_law_take)
  have o_law_parts := w_law_parts (P := P) (w := w) (base := base) T Z h.law_parts (d_law_pick := o_law_pick) (d_law_take := o_law_take)
  have o_Net_init : MkK P w K mg base "Net" 3 kwN 8 (spI K "Net" CNet_init) := w_Net_init T Z h.Net_init o_is_number o_are_ties o_are_weak o_is_rule
  have o_law_made := w_law_made (P := P) (w := w) (base := base) T Z h.law_made (d_Net_init := o_Net_init)
  have o_law_first := w_law_first (P := P) (w := w) (base := base) T Z h.law_first
  have o_law_near := w_law_near (P := P) (w := w) (base := base) T Z h.law_near
  have o_law_entry := w_law_entry (P := P) (w := w) (base := base) T Z h.law_entry
  have o_lost : FnP P w K mg base "_law_lost" 6 (spM K (Clawlost FU)) := w_lawlost T Z h.law_lost FU
  have o_law_told := w_law_told (P := P) (w := w) (base := base) T Z h.law_told (d_law_entry := o_law_entry) (d_lost := o_lost)
  have o_law_rows := w_law_rows (P := P) (w := w) (base := base) T Z h.law_rows (d_law_near := o_law_near) (d_law_entry := o_law_entry) (d_law_told := o_law_told) (d_lost := o_lost)
  have o_law_truly := w_law_truly (P := P) (w := w) (base := base) T Z h.law_truly (d_law_near := o_law_near)
  have o_law_breaks := w_law_breaks (P := P) (w := w) (base := base) T Z h.law_breaks (d_law_rows := o_law_rows) (d_law_entry := o_law_entry) (d_law_truly := o_law_truly)
  have o_after := w_after (P := P) (w := w) (base := base) T Z h.after (d_check_state := o_check_state) (d_is_deed := o_is_deed) (d_done := o_done)
  have o_after_R := wr_after (P := P) (w := w) (base := base) T Z h.after (d_check_state := o_check_state) (d_is_deed := o_is_deed) (OD := X.OD)
  have o_check_weaving_R := wr_check_weaving (P := P) (w := w) (base := base) T Z h.check_weaving (d_check_net := o_check_net) (d_followed := o_followed) (BW := X.BW) (gB := X.gB) (gS := X.gS)
  have o_woven_R := wr_woven (P := P) (w := w) (base := base) T Z h.woven (d_check_weaving_R := o_check_weaving_R)
  have o_law_index := w_law_index (P := P) (w := w) (base := base) T Z h.law_index (d_woven_R := o_woven_R) (gB := X.gB) (hX := X.hX) (hno := X.hno) (hm := X.hm)
  have o_law_is_barred := w_law_is_barred (P := P) (w := w) (base := base) T Z h.law_is_barred (d_after_R := o_after_R) (OD := X.OD) (hm := X.hmD)
  have o_law_state_right := w_law_state_right (P := P) (w := w) (base := base) T Z h.law_state_right (d_law_rows := o_law_rows) (d_deeds := o_deeds) (d_truly := o_truly) (d_law_truly := o_law_truly) (d_settled := o_settled) (d_after := o_after) (d_law_is_barred := o_law_is_barred)
  exact w_law (P := P) (w := w) (base := base) T Z F (d_law_parts := o_law_parts) (d_law_made := o_law_made) (d_law_first := o_law_first) (d_first_state := o_first_state) (d_law_state_right := o_law_state_right) (d_law_rows := o_law_rows) (d_law_pick := o_law_pick) (d_law_take := o_law_take) (d_law_breaks := o_law_breaks) (d_woven := o_woven) (d_broken_by := o_broken_by) (d_law_index := o_law_index)
end
end HW
/-! What the top leaves, as facts: printed by gen_end.py. -/
namespace HW
open PySem PySem.Spec L2
namespace Hd
def d_is_number : He.DefD := ⟨("is_number", none), "is_number", "is_number", defArgs s_is_number, defBody s_is_number, defScope s_is_number, [], []⟩
def d_is_tie : He.DefD := ⟨("is_tie", none), "is_tie", "is_tie", defArgs s_is_tie, defBody s_is_tie, defScope s_is_tie, [], []⟩
def d_is_ascending : He.DefD := ⟨("is_ascending", none), "is_ascending", "is_ascending", defArgs s_is_ascending, defBody s_is_ascending, defScope s_is_ascending, [], []⟩
def d_are_ties : He.DefD := ⟨("are_ties", none), "are_ties", "are_ties", defArgs s_are_ties, defBody s_are_ties, defScope s_are_ties, [], []⟩
def d_are_weak : He.DefD := ⟨("are_weak", none), "are_weak", "are_weak", defArgs s_are_weak, defBody s_are_weak, defScope s_are_weak, [], []⟩
def d_is_rule : He.DefD := ⟨("is_rule", none), "is_rule", "is_rule", defArgs s_is_rule, defBody s_is_rule, defScope s_is_rule, [], []⟩
def d_check_net : He.DefD := ⟨("check_net", none), "check_net", "check_net", defArgs s_check_net, defBody s_check_net, defScope s_check_net, [], []⟩
def d_Net_len : He.DefD := ⟨("Net", some "__len__"), "__len__", "Net.__len__", defArgs s_Net_len, defBody s_Net_len, defScope s_Net_len, [], []⟩
def d_Book_init : He.DefD := ⟨("Book", some "__init__"), "__init__", "Book.__init__", defArgs s_Book_init, defBody s_Book_init, defScope s_Book_init, [], []⟩
def d_Book_neighbours : He.DefD := ⟨("Book", some "neighbours"), "neighbours", "Book.neighbours", defArgs s_Book_neighbours, defBody s_Book_neighbours, defScope s_Book_neighbours, [], []⟩
def d_Book_distance_of : He.DefD := ⟨("Book", some "distance_of"), "distance_of", "Book.distance_of", defArgs s_Book_distance_of, defBody s_Book_distance_of, defScope s_Book_distance_of, [], []⟩
def d_Book_goes_by : He.DefD := ⟨("Book", some "goes_by"), "goes_by", "Book.goes_by", defArgs s_Book_goes_by, defBody s_Book_goes_by, defScope s_Book_goes_by, [], []⟩
def d_Book_can_tell : He.DefD := ⟨("Book", some "can_tell"), "can_tell", "Book.can_tell", defArgs s_Book_can_tell, defBody s_Book_can_tell, defScope s_Book_can_tell, [], []⟩
def d_Book_heard : He.DefD := ⟨("Book", some "heard"), "heard", "Book.heard", defArgs s_Book_heard, defBody s_Book_heard, defScope s_Book_heard, [], []⟩
def d_Book_lose : He.DefD := ⟨("Book", some "lose"), "lose", "Book.lose", defArgs s_Book_lose, defBody s_Book_lose, defScope s_Book_lose, [], []⟩
def d_Book_tell : He.DefD := ⟨("Book", some "tell"), "tell", "Book.tell", defArgs s_Book_tell, defBody s_Book_tell, defScope s_Book_tell, [], []⟩
def d_Book_fall : He.DefD := ⟨("Book", some "fall"), "fall", "Book.fall", defArgs s_Book_fall, defBody s_Book_fall, defScope s_Book_fall, [], []⟩
def d_Book_do : He.DefD := ⟨("Book", some "do"), "do", "Book.do", defArgs s_Book_do, defBody s_Book_do, defScope s_Book_do, [], []⟩
def d_Book_state : He.DefD := ⟨("Book", some "state"), "state", "Book.state", defArgs s_Book_state, defBody s_Book_state, defScope s_Book_state, [], []⟩
def d_start_of : He.DefD := ⟨("start_of", none), "start_of", "start_of", defArgs s_start_of, defBody s_start_of, defScope s_start_of, [], []⟩
def d_done : He.DefD := ⟨("done", none), "done", "done", defArgs s_done, defBody s_done, defScope s_done, [], []⟩
def d_tells_in : He.DefD := ⟨("tells_in", none), "tells_in", "tells_in", defArgs s_tells_in, defBody s_tells_in, defScope s_tells_in, [], []⟩
def d_able : He.DefD := ⟨("able", none), "able", "able", defArgs s_able, defBody s_able, defScope s_able, [], []⟩
def d_is_deed : He.DefD := ⟨("is_deed", none), "is_deed", "is_deed", defArgs s_is_deed, defBody s_is_deed, defScope s_is_deed, [], []⟩
def d_is_entry : He.DefD := ⟨("is_entry", none), "is_entry", "is_entry", defArgs s_is_entry, defBody s_is_entry, defScope s_is_entry, [], []⟩
def d_is_state : He.DefD := ⟨("is_state", none), "is_state", "is_state", defArgs s_is_state, defBody s_is_state, defScope s_is_state, [], []⟩
def d_check_state : He.DefD := ⟨("check_state", none), "check_state", "check_state", defArgs s_check_state, defBody s_check_state, defScope s_check_state, [], []⟩
def d_first_state : He.DefD := ⟨("first_state", none), "first_state", "first_state", defArgs s_first_state, defBody s_first_state, defScope s_first_state, [], []⟩
def d_deeds : He.DefD := ⟨("deeds", none), "deeds", "deeds", defArgs s_deeds, defBody s_deeds, defScope s_deeds, [], []⟩
def d_is_settled : He.DefD := ⟨("is_settled", none), "is_settled", "is_settled", defArgs s_is_settled, defBody s_is_settled, defScope s_is_settled, [], []⟩
def d_settled : He.DefD := ⟨("settled", none), "settled", "settled", defArgs s_settled, defBody s_settled, defScope s_settled, [], []⟩
def d_true_distances : He.DefD := ⟨("true_distances", none), "true_distances", "true_distances", defArgs s_true_distances, defBody s_true_distances, defScope s_true_distances, [], []⟩
def d_truly : He.DefD := ⟨("truly", none), "truly", "truly", defArgs s_truly, defBody s_truly, defScope s_truly, [], []⟩
def d_are_joined : He.DefD := ⟨("are_joined", none), "are_joined", "are_joined", defArgs s_are_joined, defBody s_are_joined, defScope s_are_joined, [], []⟩
def d_has_ring : He.DefD := ⟨("has_ring", none), "has_ring", "has_ring", defArgs s_has_ring, defBody s_has_ring, defScope s_has_ring, [], []⟩
def d_is_bad : He.DefD := ⟨("is_bad", none), "is_bad", "is_bad", defArgs s_is_bad, defBody s_is_bad, defScope s_is_bad, [], []⟩
def d_is_breach : He.DefD := ⟨("is_breach", none), "is_breach", "is_breach", defArgs s_is_breach, defBody s_is_breach, defScope s_is_breach, [], []⟩
def d_followed : He.DefD := ⟨("followed", none), "followed", "followed", defArgs s_followed, defBody s_followed, defScope s_followed, [], []⟩
def d_check_weaving : He.DefD := ⟨("check_weaving", none), "check_weaving", "check_weaving", defArgs s_check_weaving, defBody s_check_weaving, defScope s_check_weaving, [], []⟩
def d_woven : He.DefD := ⟨("woven", none), "woven", "woven", defArgs s_woven, defBody s_woven, defScope s_woven, [], []⟩
def d_broken_by : He.DefD := ⟨("broken_by", none), "broken_by", "broken_by", defArgs s_broken_by, defBody s_broken_by, defScope s_broken_by, [], []⟩
def d_law_number : He.DefD := ⟨("_law_number", none), "_law_number", "_law_number", defArgs s_law_number, defBody s_law_number, defScope s_law_number, [], []⟩
def d_law_take : He.DefD := ⟨("_law_take", none), "_law_take", "_law_take", defArgs s_law_take, defBody s_law_take, defScope s_law_take, [], []⟩
def d_law_pick : He.DefD := ⟨("_law_pick", none), "_law_pick", "_law_pick", defArgs s_law_pick, defBody s_law_pick, defScope s_law_pick, [], []⟩
def d_law_parts : He.DefD := ⟨("_law_parts", none), "_law_parts", "_law_parts", defArgs s_law_parts, defBody s_law_parts, defScope s_law_parts, [], []⟩
def d_Net_init : He.DefD := ⟨("Net", some "__init__"), "__init__", "Net.__init__", defArgs s_Net_init, defBody s_Net_init, defScope s_Net_init, [], [("endless", .int 4)]⟩
def d_law_made : He.DefD := ⟨("_law_made", none), "_law_made", "_law_made", defArgs s_law_made, defBody s_law_made, defScope s_law_made, [], []⟩
def d_law_first : He.DefD := ⟨("_law_first", none), "_law_first", "_law_first", defArgs s_law_first, defBody s_law_first, defScope s_law_first, [], []⟩
def d_law_near : He.DefD := ⟨("_law_near", none), "_law_near", "_law_near", defArgs s_law_near, defBody s_law_near, defScope s_law_near, [], []⟩
def d_law_entry : He.DefD := ⟨("_law_entry", none), "_law_entry", "_law_entry", defArgs s_law_entry, defBody s_law_entry, defScope s_law_entry, [], []⟩
def d_law_lost : He.DefD := ⟨("_law_lost", none), "_law_lost", "_law_lost", defArgs s_law_lost, defBody s_law_lost, defScope s_law_lost, [], []⟩
def d_law_told : He.DefD := ⟨("_law_told", none), "_law_told", "_law_told", defArgs s_law_told, defBody s_law_told, defScope s_law_told, [], []⟩
def d_law_rows : He.DefD := ⟨("_law_rows", none), "_law_rows", "_law_rows", defArgs s_law_rows, defBody s_law_rows, defScope s_law_rows, [], []⟩
def d_law_truly : He.DefD := ⟨("_law_truly", none), "_law_truly", "_law_truly", defArgs s_law_truly, defBody s_law_truly, defScope s_law_truly, [], []⟩
def d_law_breaks : He.DefD := ⟨("_law_breaks", none), "_law_breaks", "_law_breaks", defArgs s_law_breaks, defBody s_law_breaks, defScope s_law_breaks, [], []⟩
def d_after : He.DefD := ⟨("after", none), "after", "after", defArgs s_after, defBody s_after, defScope s_after, [], []⟩
def d_law_index : He.DefD := ⟨("_law_index", none), "_law_index", "_law_index", defArgs s_law_index, defBody s_law_index, defScope s_law_index, [], []⟩
def d_law_is_barred : He.DefD := ⟨("_law_is_barred", none), "_law_is_barred", "_law_is_barred", defArgs s_law_is_barred, defBody s_law_is_barred, defScope s_law_is_barred, [], []⟩
def d_law_state_right : He.DefD := ⟨("_law_state_right", none), "_law_state_right", "_law_state_right", defArgs s_law_state_right, defBody s_law_state_right, defScope s_law_state_right, [], []⟩
def d_law : He.DefD := ⟨("law", none), "law", "law", defArgs s_law, defBody s_law, defScope s_law, [], []⟩
def fn0 : List He.DefD := [d_is_number, d_is_tie, d_is_ascending, d_are_ties, d_are_weak, d_is_rule, d_check_net, d_Net_len, d_Book_init, d_Book_neighbours, d_Book_distance_of, d_Book_goes_by, d_Book_can_tell, d_Book_heard, d_Book_lose, d_Book_tell, d_Book_fall, d_Book_do, d_Book_state, d_start_of]
def fn1 : List He.DefD := [d_done, d_tells_in, d_able, d_is_deed, d_is_entry, d_is_state, d_check_state, d_first_state, d_deeds, d_is_settled, d_settled, d_true_distances, d_truly, d_are_joined, d_has_ring, d_is_bad, d_is_breach, d_followed, d_check_weaving, d_woven]
def fn2 : List He.DefD := [d_broken_by, d_law_number, d_law_take, d_law_pick, d_law_parts, d_Net_init, d_law_made, d_law_first, d_law_near, d_law_entry, d_law_lost, d_law_told, d_law_rows, d_law_truly, d_law_breaks, d_after, d_law_index, d_law_is_barred, d_law_state_right, d_law]
def fn : List He.DefD := fn0 ++ fn1 ++ fn2
def fa0 : List He.Fa := [.glo "is_number", .glo "is_tie", .glo "is_ascending", .glo "are_ties", .glo "are_weak", .glo "is_rule", .glo "check_net", .glo "start_of", .glo "done", .glo "tells_in", .glo "able", .glo "is_deed", .glo "is_entry", .glo "is_state", .glo "check_state", .glo "first_state", .glo "deeds", .glo "is_settled", .glo "settled", .glo "true_distances"]
def fa1 : List He.Fa := [.glo "truly", .glo "are_joined", .glo "has_ring", .glo "is_bad", .glo "is_breach", .glo "followed", .glo "check_weaving", .glo "woven", .glo "broken_by", .glo "_law_number", .glo "_law_take", .glo "_law_pick", .glo "_law_parts", .glo "_law_made", .glo "_law_first", .glo "_law_near", .glo "_law_entry", .glo "_law_lost", .glo "_law_told", .glo "_law_rows"]
def fa2 : List He.Fa := [.glo "_law_truly", .glo "_law_breaks", .glo "after", .glo "_law_index", .glo "_law_is_barred", .glo "_law_state_right", .glo "law", .glo "Net", .glo "Book", .glo "BadWeaving", .glo "BadDeed", .glo "RULES", .glo "WISHES", .glo "BY_DEEDS", .glo "CAN_BE", .free "len", .free "isinstance", .free "int", .free "bool", .free "str"]
def fa3 : List He.Fa := [.free "tuple", .free "list", .free "zip", .free "range", .free "sorted", .free "all", .free "any", .free "min", .free "enumerate", .free "dict", .free "sum", .free "super", .int "MOST_HOSTS" 4, .int "MOST_TIES" 5, .int "MOST_WEAK" 3, .cls "Net", .cls "Book", .noat "Net" "hosts", .noat "Net" "ties", .noat "Net" "weak"]
def fa4 : List He.Fa := [.noat "Net" "endless", .noat "Net" "split", .noat "Net" "cry", .noat "Net" "hold", .noat "Book" "net", .noat "Book" "entries", .noat "Book" "stands", .meth "Net" "__len__", .meth "Book" "neighbours", .meth "Book" "distance_of", .meth "Book" "goes_by", .meth "Book" "can_tell", .meth "Book" "heard", .meth "Book" "lose", .meth "Book" "tell", .meth "Book" "fall", .meth "Book" "do", .meth "Book" "state", .mkr "Book", .mkr "Net"]
def fa5 : List He.Fa := [.exc "BadDeed", .exm "BadDeed" "BadDeed" true, .exm "BadWeaving" "BadWeaving" true]
def fa : List He.Fa := fa0 ++ fa1 ++ fa2 ++ fa3 ++ fa4 ++ fa5
def ts : List He.Tab := [(fun K => He.ga K "CAN_BE", ["endless", "split", "cry", "hold"])]
theorem mem_fn (i : Nat) {d : He.DefD} (h : fn[i]? = some d) : d ∈ fn := List.mem_of_getElem? h
section
variable (K : PySem.W.Frag)
/-! tuples -/
def tupAt (b : Addr) (vs : List He.Dv) : Bool := match K.lookup b with
  | some o => (match o.data with
    | .seq its _ => decide (o.cls = .type "tuple") && (decide (its.size ≤ sizeLine) && He.relAll (vs.map (He.Dv.v K)) its.toList)
    | _ => false)
  | none => false
def cbA (x : Str) : Addr := match PySem.W.nsIn K (He.ga K "CAN_BE") x with
  | some (some (.ref b)) => b
  | _ => 0
def cbB (q : Str × List He.Dv) : Bool := He.eqO (PySem.W.nsIn K (He.ga K "CAN_BE") q.1) (some (some (.ref (cbA K q.1)))) && tupAt K (cbA K q.1) q.2
/-! BadWeaving -/
def bC : Addr := He.ga K "BadWeaving"
def bI : Addr := He.ma K (bC K) "__init__"
def bwFd : Option FuncData := match K.lookup (bI K) with
  | some o => (match o.data with
    | .func fd => some fd
    | _ => none)
  | none => none
abbrev FnB : Type := Option (Str × Str × Arguments × FuncBody × Scope × Addr × List Str × Addr)
def bwF : FnB := (bwFd K).map fun fd => (fd.name, fd.qualname, fd.params, fd.body, fd.scope, fd.globals, fd.closure.map (·.1), fd.builtins)
abbrev sBW : Stmt := inClass (top 7) 0
def bwV : FnB := some ("__init__", "BadWeaving.__init__", defArgs sBW, .stmts (defBody sBW), defScope sBW, mainGlobals, ["__class__"], builtinsNs)
def bCell : Addr := match bwFd K with
  | some fd => (match fd.closure with
    | [(_, c)] => c
    | _ => 0)
  | none => 0
def bCode : Addr := match bwFd K with
  | some fd => (match fd.code with
    | .ref c => c
    | _ => 0)
  | none => 0
def mroB (C : Addr) (mro : List Value) (sl : List (Option Value)) : Bool := match mro, sl with
  | .ref c :: bm, [_, _, _, _, some (.builtin n), _] => decide (c = C) && (decide (n = "ValueError.__new__") && HandSPX.refsVE bm)
  | _, _ => false
def bwClsB : Bool := match K.lookup (bC K) with
  | some o => (match o.data with
    | .cls cd => decide (o.cls = .type "type") && (cd.hasDict && (!cd.hasDel && mroB (bC K) cd.mro o.slots.toList))
    | _ => false)
  | none => false
def bwDefB : Bool := match bwFd K with
  | some fd => decide (fd.defaults = .none) && decide (fd.code = .ref (bCode K))
  | none => false
def bwCodeB : Bool := match K.lookup (bCode K) with
  | some o => (match o.data with
    | .fields vs => (match vs[2]? with
      | some (Value.str f _) => ((PySem.Challenge.pw_hearsayways_k02_whole_deeds.main.file : Str) == f)
      | _ => false)
    | _ => false)
  | none => false
def bwCellB : Bool := match K.lookup (bCell K) with
  | some o => (match o.data with
    | .cell (some v) => decide (v = .ref (bC K))
    | _ => false)
  | none => false
/-- all that is wanted beyond the facts -/
def exL : List Bool := [He.tupB K "RULES" [.str "endless", .str "split", .str "cry", .str "hold"], He.tupB K "WISHES" [.str "climb", .str "misled", .str "ring", .str "wrong"], He.tupB K "BY_DEEDS" [.str "climb", .str "misled"],
  cbB K ("endless", [.int 2, .int 3, .int 4, .int 5]), cbB K ("split", [.str "plain", .str "poison", .str "quiet"]), cbB K ("cry", [.str "loud", .str "still"]), cbB K ("hold", [.int 0, .int 1, .int 2]),
  He.eqO (PySem.W.findIn K (.ref (He.ga K "Net")) "__class__") (some (some (.builtin "object.__class__"))), He.eqO (PySem.W.specialIn K (.builtin "object.__class__") "__get__") (some (some (.builtin "getset_descriptor.__get__"))), decide (PySem.W.takesIn K (.builtin "object.__class__") = some true), decide (PySem.W.mroIn K (He.ga K "Net") (.type "object") = some true),
  bwClsB K, He.eqO (PySem.W.findIn K (.ref (bC K)) "__setattr__") (some (some (.builtin "object.__setattr__"))), He.eqO (PySem.W.findIn K (.ref (bC K)) "index") (some none), He.eqO (PySem.W.findIn K (.ref (bC K)) "__init__") (some (some (.ref (bI K)))), decide (PySem.W.typeIn K (.ref (bI K)) = some (.type "function")),
  PySem.W.keepIn K (.ref (bC K)), decide (PySem.W.subIn K (.ref (bC K)) (.type "BaseException") = some true), decide (PySem.W.typeIn K (.ref (bC K)) = some (.type "type")), bwDefB K, PySem.W.codeIn K (.ref (bCode K)) "BadWeaving.__init__", bwCodeB K, bwCellB K,
  He.eqO (PySem.W.ks_superIn K (bC K) (bC K) "__init__") (some (some (.builtin "ValueError.__init__"))), decide (PySem.W.mroIn K (bC K) (.ref (bC K)) = some true), decide (PySem.W.subIn K (.ref (bC K)) (.type "ValueError") = some true), He.eqO (PySem.W.nsIn K cStatics "thirdparty.any") (some none), xfB K (bC K)]
end
section
variable {K : PySem.W.Frag} {mg : Str → Option Value} {hp : Heap}
theorem ex_at (h : (exL K).all id = true) (i : Nat) {b : Bool} (e : (exL K)[i]? = some b := by rfl) : b = true := List.all_eq_true.mp h b (List.mem_of_getElem? e)
theorem tupAt_ok {b : Addr} {vs : List He.Dv} (h : tupAt K b vs = true) (H : Hp) : SqT K H b (vs.map (He.Dv.v K)) := by
  unfold tupAt at h
  cases q : K.lookup b with
  | none => rw [q] at h; cases h
  | some o =>
    rw [q] at h
    simp only at h
    split at h
    · rename_i its n hd
      obtain ⟨h1, h2⟩ := He.ba h
      obtain ⟨h3, h4⟩ := He.ba h2
      exact .inr ⟨o, its, n, q, of_decide_eq_true h1, hd, of_decide_eq_true h3, He.relAll_ok h4⟩
    · cases h
theorem dpS {H : Hp} : ∀ l : List Str, DpAll K H ((l.map He.Dv.str).map (He.Dv.v K)) (l.map sD)
  | [] => .nil
  | x :: l => .cons (.str x) (dpS l)
theorem dpI {H : Hp} : ∀ l : List Int, DpAll K H ((l.map He.Dv.int).map (He.Dv.v K)) (l.map PyData.int)
  | [] => .nil
  | x :: l => .cons (.int x) (dpI l)
theorem cb_ok {w : World} {es : Array DictEntry} {n : Nat} (D : KDict K w (He.ga K "CAN_BE") es n) {q : Str × List He.Dv} {ds : List PyData} (h : cbB K q = true) (hd : ∀ H, DpAll K H (q.2.map (He.Dv.v K)) ds) : ∃ v, KDct K w (He.ga K "CAN_BE") q.1 v ∧ ∀ H, Dp K H v (.tuple ds) := by
  obtain ⟨h1, h2⟩ := He.ba h
  exact ⟨.ref (cbA K q.1), ⟨es, n, _, D.at_, D.lit, He.eqO_ok h1, rfl⟩, fun H => .tup (tupAt_ok h2 H) (hd H)⟩
theorem mroB_ok {C : Addr} : ∀ {mro : List Value} {sl : List (Option Value)}, mroB C mro sl = true → ∃ bm k0 k1 k2 k3 k5, mro = .ref C :: bm ∧ sl = [k0, k1, k2, k3, some (.builtin "ValueError.__new__"), k5] ∧ HandSPX.refsVE bm = true := by
  intro mro sl h
  unfold mroB at h
  split at h
  · rename_i c bm k0 k1 k2 k3 n k5
    obtain ⟨h4, g4⟩ := He.ba h
    obtain ⟨h5, h6⟩ := He.ba g4
    have e4 := of_decide_eq_true h4
    have e5 := of_decide_eq_true h5
    exact ⟨bm, k0, k1, k2, k3, k5, by rw [e4], by rw [e5], h6⟩
  · cases h
theorem bw_cls (h : bwClsB K = true) : ∃ nm q N bs bm sn sub ab col dd k0 k1 k2 k3 k5, K.lookup (bC K) = some (excClassObj nm q (bC K) N bs bm true sn sub ab col dd k0 k1 k2 k3 k5 "ValueError.__new__") ∧ HandSPX.refsVE bm = true := by
  unfold bwClsB at h
  cases e : K.lookup (bC K) with
  | none => rw [e] at h; cases h
  | some o =>
    rw [e] at h
    obtain ⟨oc, od, dt, osl⟩ := o
    cases dt with
    | cls cd =>
      obtain ⟨nm, bs, mro, ns, qn, hd, sn, sub, ab, col, del⟩ := cd
      have h0 : (decide (oc = .type "type") && (hd && (!del && mroB (bC K) mro osl.toList))) = true := h
      obtain ⟨h1, g1⟩ := He.ba h0
      obtain ⟨h2, g2⟩ := He.ba g1
      obtain ⟨h3, g3⟩ := He.ba g2
      obtain ⟨bm, k0, k1, k2, k3, k5, hm, hs, h6⟩ := mroB_ok g3
      have e1 : oc = .type "type" := of_decide_eq_true h1
      have e3 : del = false := by simpa using h3
      obtain ⟨sl⟩ := osl
      have hs : sl = [k0, k1, k2, k3, some (.builtin "ValueError.__new__"), k5] := hs
      rw [e1, h2, e3, hm, hs]
      exact ⟨nm, qn, ns, bs, bm, sn, sub, ab, col, od, k0, k1, k2, k3, k5, rfl, h6⟩
    | _ => cases h
theorem bw_fn (h : bwDefB K = true) (f : bwF K = bwV) : ∃ (oc : Value) (od : Option Addr) (kV doc pm : Value) (an : Option Addr) (ct : Value) (osl : Array (Option Value)) (p1 p2 a0 a1 a3 a5 q1 q2 q3 q4 : Pos),
    K.lookup (bI K) = some ⟨oc, od, .func (PySem.W.ksFn "__init__" "BadWeaving.__init__" (Bw.wA p1 p2) (Bw.wB a0 a1 a3 a5 q1 q2 q3 q4) Bw.wS .none kV doc pm an (.ref (bCode K)) ct (bCell K)), osl⟩ := by
  obtain ⟨fd, hfd⟩ : ∃ fd, bwFd K = some fd := by
    cases q : bwFd K with
    | none => unfold bwDefB at h; rw [q] at h; cases h
    | some fd => exact ⟨fd, rfl⟩
  have hcell : ∀ c x, fd.closure = [(x, c)] → bCell K = c := fun c x z => by unfold bCell; rw [hfd]; simp only; rw [z]
  unfold bwDefB at h
  rw [hfd] at h
  obtain ⟨h1, h2⟩ := He.ba h
  have g1 := of_decide_eq_true h1
  have g2 := of_decide_eq_true h2
  clear h1 h2
  unfold bwF at f
  rw [hfd] at f
  have lk : ∃ oc od osl, K.lookup (bI K) = some ⟨oc, od, .func fd, osl⟩ := by
    unfold bwFd at hfd
    cases q : K.lookup (bI K) with
    | none => rw [q] at hfd; cases hfd
    | some o =>
      obtain ⟨oc, od, dt, osl⟩ := o
      rw [q] at hfd
      cases dt with
      | func fd2 => cases hfd; exact ⟨oc, od, osl, rfl⟩
      | _ => cases hfd
  obtain ⟨oc, od, osl, lk⟩ := lk
  obtain ⟨n1, n2, n3, n4, n5, n6, n7, n8, n9, n10, n11, n12, n13, n14, n15⟩ := fd
  have f : some (n1, n2, n3, n4, n5, n6, n7.map (·.1), n15) = bwV := f
  unfold bwV at f
  simp only [Option.some.injEq, Prod.mk.injEq] at f
  obtain ⟨f1, f2, f3, f4, f5, f6, f7, f8⟩ := f
  simp only at g1 g2 hcell
  obtain ⟨c, hc⟩ : ∃ c, n7 = [(("__class__" : Str), c)] := by
    match n7, f7 with
    | [(x, c)], f7 =>
      have : x = "__class__" := by simpa using f7
      exact ⟨c, by rw [this]⟩
  have hce := hcell _ _ hc
  refine ⟨oc, od, n9, n10, n11, n12, n14, osl, ⟨20, 17, 20, 21⟩, ⟨20, 23, 20, 28⟩, ⟨21, 8, 21, 13⟩, ⟨21, 8, 21, 15⟩, ⟨21, 25, 21, 30⟩, ⟨21, 8, 21, 31⟩, ⟨22, 8, 22, 12⟩, ⟨22, 8, 22, 18⟩, ⟨22, 21, 22, 26⟩, ⟨22, 8, 22, 26⟩, ?_⟩
  rw [lk, hce]
  subst f1 f2 f3 f4 f5 f6 f8 hc g1 g2
  rfl
theorem bw_txt (h : (exL K).all id = true) (f : bwF K = bwV) : Bw.Txt PySem.Challenge.pw_hearsayways_k02_whole_deeds K (bC K) (bI K) (bCell K) (bCode K) where
  cls := bw_cls (ex_at h 11)
  sa := He.eqO_ok (ex_at h 12)
  no := He.eqO_ok (ex_at h 13)
  iC := He.eqO_ok (ex_at h 14)
  tC := of_decide_eq_true (ex_at h 15)
  kC := ex_at h 16
  exC := of_decide_eq_true (ex_at h 17)
  tyC := of_decide_eq_true (ex_at h 18)
  fn := bw_fn (ex_at h 19) f
  hcd := ex_at h 20
  code := by
    have z := ex_at h 21
    unfold bwCodeB at z
    cases q : K.lookup (bCode K) with
    | none => rw [q] at z; cases z
    | some o =>
      rw [q] at z
      obtain ⟨oc, od, dt, osl⟩ := o
      cases dt with
      | fields vs =>
        simp only at z
        split at z
        · rename_i fl t hv
          exact ⟨oc, od, vs, osl, fl, t, rfl, hv, z⟩
        · cases z
      | _ => cases z
  cell := by
    have z := ex_at h 22
    unfold bwCellB at z
    cases q : K.lookup (bCell K) with
    | none => rw [q] at z; cases z
    | some o =>
      rw [q] at z
      obtain ⟨oc, od, dt, osl⟩ := o
      cases dt with
      | cell v =>
        cases v with
        | none => cases z
        | some v =>
          have e : v = .ref (bC K) := of_decide_eq_true z
          rw [e]
          exact ⟨oc, od, osl, rfl⟩
      | _ => cases z
  sup := He.eqO_ok (ex_at h 23)
  me := of_decide_eq_true (ex_at h 24)
  ve := of_decide_eq_true (ex_at h 25)
  opq := He.eqO_ok (ex_at h 26)
  top := by kernel_rfl

theorem defs_ok (c : He.SaysD fa fn K) (X : K.In hp) (G : hp.Ns mainGlobals mg) : Defs K mg where
  is_number := by
    obtain ⟨fd, F⟩ := c.def_ 0 (d := d_is_number) rfl
    exact ⟨_, fd, He.glo_ok X G (c.fact 0 (f := .glo "is_number") rfl), F.kp, F⟩
  is_tie := by
    obtain ⟨fd, F⟩ := c.def_ 1 (d := d_is_tie) rfl
    exact ⟨_, fd, He.glo_ok X G (c.fact 1 (f := .glo "is_tie") rfl), F.kp, F⟩
  is_ascending := by
    obtain ⟨fd, F⟩ := c.def_ 2 (d := d_is_ascending) rfl
    exact ⟨_, fd, He.glo_ok X G (c.fact 2 (f := .glo "is_ascending") rfl), F.kp, F⟩
  are_ties := by
    obtain ⟨fd, F⟩ := c.def_ 3 (d := d_are_ties) rfl
    exact ⟨_, fd, He.glo_ok X G (c.fact 3 (f := .glo "are_ties") rfl), F.kp, F⟩
  are_weak := by
    obtain ⟨fd, F⟩ := c.def_ 4 (d := d_are_weak) rfl
    exact ⟨_, fd, He.glo_ok X G (c.fact 4 (f := .glo "are_weak") rfl), F.kp, F⟩
  is_rule := by
    obtain ⟨fd, F⟩ := c.def_ 5 (d := d_is_rule) rfl
    exact ⟨_, fd, He.glo_ok X G (c.fact 5 (f := .glo "is_rule") rfl), F.kp, F⟩
  check_net := by
    obtain ⟨fd, F⟩ := c.def_ 6 (d := d_check_net) rfl
    exact ⟨_, fd, He.glo_ok X G (c.fact 6 (f := .glo "check_net") rfl), F.kp, F⟩
  Net_len := by
    obtain ⟨fd, F⟩ := c.def_ 7 (d := d_Net_len) rfl
    exact ⟨_, fd, He.meth_ok (c.fact 87 (f := .meth "Net" "__len__") rfl), F⟩
  Book_init := by
    obtain ⟨fd, F⟩ := c.def_ 8 (d := d_Book_init) rfl
    exact ⟨_, fd, He.mkr_ok (c.fact 98 (f := .mkr "Book") rfl), F⟩
  Book_neighbours := by
    obtain ⟨fd, F⟩ := c.def_ 9 (d := d_Book_neighbours) rfl
    exact ⟨_, fd, He.meth_ok (c.fact 88 (f := .meth "Book" "neighbours") rfl), F⟩
  Book_distance_of := by
    obtain ⟨fd, F⟩ := c.def_ 10 (d := d_Book_distance_of) rfl
    exact ⟨_, fd, He.meth_ok (c.fact 89 (f := .meth "Book" "distance_of") rfl), F⟩
  Book_goes_by := by
    obtain ⟨fd, F⟩ := c.def_ 11 (d := d_Book_goes_by) rfl
    exact ⟨_, fd, He.meth_ok (c.fact 90 (f := .meth "Book" "goes_by") rfl), F⟩
  Book_can_tell := by
    obtain ⟨fd, F⟩ := c.def_ 12 (d := d_Book_can_tell) rfl
    exact ⟨_, fd, He.meth_ok (c.fact 91 (f := .meth "Book" "can_tell") rfl), F⟩
  Book_heard := by
    obtain ⟨fd, F⟩ := c.def_ 13 (d := d_Book_heard) rfl
    exact ⟨_, fd, He.meth_ok (c.fact 92 (f := .meth "Book" "heard") rfl), F⟩
  Book_lose := by
    obtain ⟨fd, F⟩ := c.def_ 14 (d := d_Book_lose) rfl
    exact ⟨_, fd, He.meth_ok (c.fact 93 (f := .meth "Book" "lose") rfl), F⟩
  Book_tell := by
    obtain ⟨fd, F⟩ := c.def_ 15 (d := d_Book_tell) rfl
    exact ⟨_, fd, He.meth_ok (c.fact 94 (f := .meth "Book" "tell") rfl), F⟩
  Book_fall := by
    obtain ⟨fd, F⟩ := c.def_ 16 (d := d_Book_fall) rfl
    exact ⟨_, fd, He.meth_ok (c.fact 95 (f := .meth "Book" "fall") rfl), F⟩
  Book_do := by
    obtain ⟨fd, F⟩ := c.def_ 17 (d := d_Book_do) rfl
    exact ⟨_, fd, He.meth_ok (c.fact 96 (f := .meth "Book" "do") rfl), F⟩
  Book_state := by
    obtain ⟨fd, F⟩ := c.def_ 18 (d := d_Book_state) rfl
    exact ⟨_, fd, He.meth_ok (c.fact 97 (f := .meth "Book" "state") rfl), F⟩
  start_of := by
    obtain ⟨fd, F⟩ := c.def_ 19 (d := d_start_of) rfl
    exact ⟨_, fd, He.glo_ok X G (c.fact 7 (f := .glo "start_of") rfl), F.kp, F⟩
  done := by
    obtain ⟨fd, F⟩ := c.def_ 20 (d := d_done) rfl
    exact ⟨_, fd, He.glo_ok X G (c.fact 8 (f := .glo "done") rfl), F.kp, F⟩
  tells_in := by
    obtain ⟨fd, F⟩ := c.def_ 21 (d := d_tells_in) rfl
    exact ⟨_, fd, He.glo_ok X G (c.fact 9 (f := .glo "tells_in") rfl), F.kp, F⟩
  able := by
    obtain ⟨fd, F⟩ := c.def_ 22 (d := d_able) rfl
    exact ⟨_, fd, He.glo_ok X G (c.fact 10 (f := .glo "able") rfl), F.kp, F⟩
  is_deed := by
    obtain ⟨fd, F⟩ := c.def_ 23 (d := d_is_deed) rfl
    exact ⟨_, fd, He.glo_ok X G (c.fact 11 (f := .glo "is_deed") rfl), F.kp, F⟩
  is_entry := by
    obtain ⟨fd, F⟩ := c.def_ 24 (d := d_is_entry) rfl
    exact ⟨_, fd, He.glo_ok X G (c.fact 12 (f := .glo "is_entry") rfl), F.kp, F⟩
  is_state := by
    obtain ⟨fd, F⟩ := c.def_ 25 (d := d_is_state) rfl
    exact ⟨_, fd, He.glo_ok X G (c.fact 13 (f := .glo "is_state") rfl), F.kp, F⟩
  check_state := by
    obtain ⟨fd, F⟩ := c.def_ 26 (d := d_check_state) rfl
    exact ⟨_, fd, He.glo_ok X G (c.fact 14 (f := .glo "check_state") rfl), F.kp, F⟩
  first_state := by
    obtain ⟨fd, F⟩ := c.def_ 27 (d := d_first_state) rfl
    exact ⟨_, fd, He.glo_ok X G (c.fact 15 (f := .glo "first_state") rfl), F.kp, F⟩
  deeds := by
    obtain ⟨fd, F⟩ := c.def_ 28 (d := d_deeds) rfl
    exact ⟨_, fd, He.glo_ok X G (c.fact 16 (f := .glo "deeds") rfl), F.kp, F⟩
  is_settled := by
    obtain ⟨fd, F⟩ := c.def_ 29 (d := d_is_settled) rfl
    exact ⟨_, fd, He.glo_ok X G (c.fact 17 (f := .glo "is_settled") rfl), F.kp, F⟩
  settled := by
    obtain ⟨fd, F⟩ := c.def_ 30 (d := d_settled) rfl
    exact ⟨_, fd, He.glo_ok X G (c.fact 18 (f := .glo "settled") rfl), F.kp, F⟩
  true_distances := by
    obtain ⟨fd, F⟩ := c.def_ 31 (d := d_true_distances) rfl
    exact ⟨_, fd, He.glo_ok X G (c.fact 19 (f := .glo "true_distances") rfl), F.kp, F⟩
  truly := by
    obtain ⟨fd, F⟩ := c.def_ 32 (d := d_truly) rfl
    exact ⟨_, fd, He.glo_ok X G (c.fact 20 (f := .glo "truly") rfl), F.kp, F⟩
  are_joined := by
    obtain ⟨fd, F⟩ := c.def_ 33 (d := d_are_joined) rfl
    exact ⟨_, fd, He.glo_ok X G (c.fact 21 (f := .glo "are_joined") rfl), F.kp, F⟩
  has_ring := by
    obtain ⟨fd, F⟩ := c.def_ 34 (d := d_has_ring) rfl
    exact ⟨_, fd, He.glo_ok X G (c.fact 22 (f := .glo "has_ring") rfl), F.kp, F⟩
  is_bad := by
    obtain ⟨fd, F⟩ := c.def_ 35 (d := d_is_bad) rfl
    exact ⟨_, fd, He.glo_ok X G (c.fact 23 (f := .glo "is_bad") rfl), F.kp, F⟩
  is_breach := by
    obtain ⟨fd, F⟩ := c.def_ 36 (d := d_is_breach) rfl
    exact ⟨_, fd, He.glo_ok X G (c.fact 24 (f := .glo "is_breach") rfl), F.kp, F⟩
  followed := by
    obtain ⟨fd, F⟩ := c.def_ 37 (d := d_followed) rfl
    exact ⟨_, fd, He.glo_ok X G (c.fact 25 (f := .glo "followed") rfl), F.kp, F⟩
  check_weaving := by
    obtain ⟨fd, F⟩ := c.def_ 38 (d := d_check_weaving) rfl
    exact ⟨_, fd, He.glo_ok X G (c.fact 26 (f := .glo "check_weaving") rfl), F.kp, F⟩
  woven := by
    obtain ⟨fd, F⟩ := c.def_ 39 (d := d_woven) rfl
    exact ⟨_, fd, He.glo_ok X G (c.fact 27 (f := .glo "woven") rfl), F.kp, F⟩
  broken_by := by
    obtain ⟨fd, F⟩ := c.def_ 40 (d := d_broken_by) rfl
    exact ⟨_, fd, He.glo_ok X G (c.fact 28 (f := .glo "broken_by") rfl), F.kp, F⟩
  law_number := by
    obtain ⟨fd, F⟩ := c.def_ 41 (d := d_law_number) rfl
    exact ⟨_, fd, He.glo_ok X G (c.fact 29 (f := .glo "_law_number") rfl), F.kp, F⟩
  law_take := by
    obtain ⟨fd, F⟩ := c.def_ 42 (d := d_law_take) rfl
    exact ⟨_, fd, He.glo_ok X G (c.fact 30 (f := .glo "_law_take") rfl), F.kp, F⟩
  law_pick := by
    obtain ⟨fd, F⟩ := c.def_ 43 (d := d_law_pick) rfl
    exact ⟨_, fd, He.glo_ok X G (c.fact 31 (f := .glo "_law_pick") rfl), F.kp, F⟩
  law_parts := by
    obtain ⟨fd, F⟩ := c.def_ 44 (d := d_law_parts) rfl
    exact ⟨_, fd, He.glo_ok X G (c.fact 32 (f := .glo "_law_parts") rfl), F.kp, F⟩
  Net_init := by
    obtain ⟨fd, F⟩ := c.def_ 45 (d := d_Net_init) rfl
    exact ⟨_, fd, He.mkr_ok (c.fact 99 (f := .mkr "Net") rfl), _, List.cons_ne_nil _ _, F⟩
  law_made := by
    obtain ⟨fd, F⟩ := c.def_ 46 (d := d_law_made) rfl
    exact ⟨_, fd, He.glo_ok X G (c.fact 33 (f := .glo "_law_made") rfl), F.kp, F⟩
  law_first := by
    obtain ⟨fd, F⟩ := c.def_ 47 (d := d_law_first) rfl
    exact ⟨_, fd, He.glo_ok X G (c.fact 34 (f := .glo "_law_first") rfl), F.kp, F⟩
  law_near := by
    obtain ⟨fd, F⟩ := c.def_ 48 (d := d_law_near) rfl
    exact ⟨_, fd, He.glo_ok X G (c.fact 35 (f := .glo "_law_near") rfl), F.kp, F⟩
  law_entry := by
    obtain ⟨fd, F⟩ := c.def_ 49 (d := d_law_entry) rfl
    exact ⟨_, fd, He.glo_ok X G (c.fact 36 (f := .glo "_law_entry") rfl), F.kp, F⟩
  law_lost := by
    obtain ⟨fd, F⟩ := c.def_ 50 (d := d_law_lost) rfl
    exact ⟨_, fd, He.glo_ok X G (c.fact 37 (f := .glo "_law_lost") rfl), F.kp, F⟩
  law_told := by
    obtain ⟨fd, F⟩ := c.def_ 51 (d := d_law_told) rfl
    exact ⟨_, fd, He.glo_ok X G (c.fact 38 (f := .glo "_law_told") rfl), F.kp, F⟩
  law_rows := by
    obtain ⟨fd, F⟩ := c.def_ 52 (d := d_law_rows) rfl
    exact ⟨_, fd, He.glo_ok X G (c.fact 39 (f := .glo "_law_rows") rfl), F.kp, F⟩
  law_truly := by
    obtain ⟨fd, F⟩ := c.def_ 53 (d := d_law_truly) rfl
    exact ⟨_, fd, He.glo_ok X G (c.fact 40 (f := .glo "_law_truly") rfl), F.kp, F⟩
  law_breaks := by
    obtain ⟨fd, F⟩ := c.def_ 54 (d := d_law_breaks) rfl
    exact ⟨_, fd, He.glo_ok X G (c.fact 41 (f := .glo "_law_breaks") rfl), F.kp, F⟩
  after := by
    obtain ⟨fd, F⟩ := c.def_ 55 (d := d_after) rfl
    exact ⟨_, fd, He.glo_ok X G (c.fact 42 (f := .glo "after") rfl), F.kp, F⟩
  law_index := by
    obtain ⟨fd, F⟩ := c.def_ 56 (d := d_law_index) rfl
    exact ⟨_, fd, He.glo_ok X G (c.fact 43 (f := .glo "_law_index") rfl), F.kp, F⟩
  law_is_barred := by
    obtain ⟨fd, F⟩ := c.def_ 57 (d := d_law_is_barred) rfl
    exact ⟨_, fd, He.glo_ok X G (c.fact 44 (f := .glo "_law_is_barred") rfl), F.kp, F⟩
  law_state_right := by
    obtain ⟨fd, F⟩ := c.def_ 58 (d := d_law_state_right) rfl
    exact ⟨_, fd, He.glo_ok X G (c.fact 45 (f := .glo "_law_state_right") rfl), F.kp, F⟩
  law := by
    obtain ⟨fd, F⟩ := c.def_ 59 (d := d_law) rfl
    exact ⟨_, fd, He.glo_ok X G (c.fact 46 (f := .glo "law") rfl), F.kp, F⟩
theorem txt_ok (c : He.SaysD fa fn K) (h : (exL K).all id = true) (X : K.In hp) (G : hp.Ns mainGlobals mg) : Txt K mg where
  free := fun x hx => by
    simp only [freeNames, List.mem_cons, List.not_mem_nil, or_false] at hx
    rcases hx with rfl | rfl | rfl | rfl | rfl | rfl | rfl | rfl | rfl | rfl | rfl | rfl | rfl | rfl | rfl | rfl
    · exact He.free_ok X G (c.fact 55 (f := .free "len") rfl)
    · exact He.free_ok X G (c.fact 56 (f := .free "isinstance") rfl)
    · exact He.free_ok X G (c.fact 57 (f := .free "int") rfl)
    · exact He.free_ok X G (c.fact 58 (f := .free "bool") rfl)
    · exact He.free_ok X G (c.fact 59 (f := .free "str") rfl)
    · exact He.free_ok X G (c.fact 60 (f := .free "tuple") rfl)
    · exact He.free_ok X G (c.fact 61 (f := .free "list") rfl)
    · exact He.free_ok X G (c.fact 62 (f := .free "zip") rfl)
    · exact He.free_ok X G (c.fact 63 (f := .free "range") rfl)
    · exact He.free_ok X G (c.fact 64 (f := .free "sorted") rfl)
    · exact He.free_ok X G (c.fact 65 (f := .free "all") rfl)
    · exact He.free_ok X G (c.fact 66 (f := .free "any") rfl)
    · exact He.free_ok X G (c.fact 67 (f := .free "min") rfl)
    · exact He.free_ok X G (c.fact 68 (f := .free "enumerate") rfl)
    · exact He.free_ok X G (c.fact 69 (f := .free "dict") rfl)
    · exact He.free_ok X G (c.fact 70 (f := .free "sum") rfl)
  cNet := He.cls_ok (c.fact 75 (f := .cls "Net") rfl)
  aNet := fun x hx => by
    simp only [netNames, List.mem_cons, List.not_mem_nil, or_false] at hx
    rcases hx with rfl | rfl | rfl | rfl | rfl | rfl | rfl
    · exact He.noat_ok (c.fact 77 (f := .noat "Net" "hosts") rfl)
    · exact He.noat_ok (c.fact 78 (f := .noat "Net" "ties") rfl)
    · exact He.noat_ok (c.fact 79 (f := .noat "Net" "weak") rfl)
    · exact He.noat_ok (c.fact 80 (f := .noat "Net" "endless") rfl)
    · exact He.noat_ok (c.fact 81 (f := .noat "Net" "split") rfl)
    · exact He.noat_ok (c.fact 82 (f := .noat "Net" "cry") rfl)
    · exact He.noat_ok (c.fact 83 (f := .noat "Net" "hold") rfl)
  gNet := He.glo_ok X G (c.fact 47 (f := .glo "Net") rfl)
  iNet := ⟨He.eqO_ok (ex_at h 7), He.eqO_ok (ex_at h 8), of_decide_eq_true (ex_at h 9), of_decide_eq_true (ex_at h 10)⟩
  cBook := He.cls_ok (c.fact 76 (f := .cls "Book") rfl)
  aBook := fun x hx => by
    simp only [bookNames, List.mem_cons, List.not_mem_nil, or_false] at hx
    rcases hx with rfl | rfl | rfl
    · exact He.noat_ok (c.fact 84 (f := .noat "Book" "net") rfl)
    · exact He.noat_ok (c.fact 85 (f := .noat "Book" "entries") rfl)
    · exact He.noat_ok (c.fact 86 (f := .noat "Book" "stands") rfl)
  gBook := He.glo_ok X G (c.fact 48 (f := .glo "Book") rfl)
theorem tab_ok {w : World} (c : He.SaysT fa fn ts w K) (h : (exL K).all id = true) (X : K.In hp) (G : hp.Ns mainGlobals mg) : Tab w K mg := by
  obtain ⟨es, n, D⟩ := c.tab 0 (t := (fun K => He.ga K "CAN_BE", ["endless", "split", "cry", "hold"])) rfl
  have c := c.d
  exact {
    mh := He.int_ok X G (c.fact 72 (f := .int "MOST_HOSTS" 4) rfl), mt := He.int_ok X G (c.fact 73 (f := .int "MOST_TIES" 5) rfl), mw := He.int_ok X G (c.fact 74 (f := .int "MOST_WEAK" 3) rfl),
    ru := ⟨_, He.glo_ok X G (c.fact 51 (f := .glo "RULES") rfl), fun H => .tup (He.tupB_ok (ex_at h 0) H) (dpS (["endless", "split", "cry", "hold"] : List Str))⟩,
    wi := ⟨_, He.glo_ok X G (c.fact 52 (f := .glo "WISHES") rfl), fun H => .tup (He.tupB_ok (ex_at h 1) H) (dpS (["climb", "misled", "ring", "wrong"] : List Str))⟩,
    bd := ⟨_, He.glo_ok X G (c.fact 53 (f := .glo "BY_DEEDS") rfl), fun H => .tup (He.tupB_ok (ex_at h 2) H) (dpS (["climb", "misled"] : List Str))⟩,
    cb := ⟨_, He.glo_ok X G (c.fact 54 (f := .glo "CAN_BE") rfl), fun q hq => by
      simp only [canTab, List.mem_cons, List.not_mem_nil, or_false] at hq
      rcases hq with rfl | rfl | rfl | rfl
      · exact cb_ok D (ex_at h 3) (fun H => dpI ([2, 3, 4, 5] : List Int))
      · exact cb_ok D (ex_at h 4) (fun H => dpS (["plain", "poison", "quiet"] : List Str))
      · exact cb_ok D (ex_at h 5) (fun H => dpS (["loud", "still"] : List Str))
      · exact cb_ok D (ex_at h 6) (fun H => dpI ([0, 1, 2] : List Int))⟩ }
theorem errs_ok (c : He.SaysD fa fn K) (h : (exL K).all id = true) (f : bwF K = bwV) (X : K.In hp) (G : hp.Ns mainGlobals mg) : Errs PySem.Challenge.pw_hearsayways_k02_whole_deeds K mg := by
  obtain ⟨x1, x2, x3, x4⟩ := He.exc_ok (c.fact 100 (f := .exc "BadDeed") rfl)
  exact { OD := ⟨He.glo_ok X G (c.fact 50 (f := .glo "BadDeed") rfl), x1, x2, x3, x4⟩, hmD := He.exm_ok (c.fact 101 (f := .exm "BadDeed" "BadDeed" true) rfl), BW := ⟨_, _, _, bw_txt h f⟩, gB := He.glo_ok X G (c.fact 49 (f := .glo "BadWeaving") rfl), gS := He.free_ok X G (c.fact 71 (f := .free "super") rfl), hX := xfB_ok (ex_at h 27), hno := He.eqO_ok (ex_at h 13), hm := He.exm_ok (c.fact 102 (f := .exm "BadWeaving" "BadWeaving" true) rfl) }
end
end Hd
end HW
set_option maxHeartbeats 0
/-! The head: the top runs, the law is walked. -/
namespace HW
open PySem PySem.Spec L2
namespace Hd
abbrev RR : PySem.W.OpenRow := PySem.W.OpenLaw.row PySem.Challenge.rw_hearsayways_k02_whole_deeds
def loose0 : List PySem.Str := ["_wall", "HearsayError", "BadNet", "BadTie", "BadState", "BadDeed", "BadWeaving", "MOST_HOSTS", "MOST_TIES", "MOST_WEAK", "RULES", "CAN_BE", "is_number", "is_rule", "is_tie", "is_ascending", "are_ties", "are_weak", "Net", "check_net", "Book", "start_of", "tells_in", "able", "is_deed", "done", "true_distances", "are_joined", "is_entry", "is_state"]
def loose1 : List PySem.Str := ["check_state", "followed", "check_weaving", "first_state", "deeds", "after", "truly", "woven", "WISHES", "BY_DEEDS", "has_ring", "is_settled", "is_bad", "is_breach", "broken_by", "settled", "_law_number", "_law_take", "_law_pick", "_law_parts", "_law_made", "_law_first", "_law_near", "_law_entry", "_law_lost", "_law_told", "_law_rows", "_law_truly", "_law_breaks", "_law_index"]
def loose2 : List PySem.Str := ["_law_is_barred", "_law_state_right"]
def loose : List PySem.Str := loose0 ++ loose1 ++ loose2
abbrev Al : Type := He.AlT × FnB × Bool
def kOf (g : Addr → Option Obj) : PySem.W.Frag := He.frG g (He.asD g 5 ++ [cStatics])
def obsK (K : PySem.W.Frag) : Al := (He.obsT fa fn ts K, bwF K, (exL K).all id)
def obsH (g : Addr → Option Obj) : Al := obsK (kOf g)
def valH (w : World) : Al := (He.valT fn ts w, bwV, true)
structure Says (w : World) (K : PySem.W.Frag) : Prop where
  t : He.SaysT fa fn ts w K
  f : bwF K = bwV
  x : (exL K).all id = true
def hk : PySem.W.Hook where
  α := Al
  obs := fun s => obsH s.heap.get?
  val := valH
  says := fun w h => ∃ K : PySem.W.Frag, K.In h ∧ Says w K
  of := fun w s e => ⟨kOf s.heap.get?, He.frG_in, ⟨congrArg (fun z : Al => z.1) e, congrArg (fun z : Al => z.2.1) e, congrArg (fun z : Al => z.2.2) e⟩⟩
  keeps := fun _ _ _ ⟨K, hK, c⟩ k => ⟨K, PySem.W.Frag.In.keeps hK k, c⟩
def ob (s : PySem.W.SharedT) : Al := obsH (HandSHeadRun.getT s)
theorem ob_eq (s : PySem.W.SharedT) : ob s = hk.obs s.abs := by
  have e : HandSHeadRun.getT s = s.abs.heap.get? := funext (HandSHeadRun.getT_eq s)
  unfold ob
  rw [e]
  rfl
theorem run_f (w : World) : HandSHeadRun.RunEq RR (PySem.W.view RR.prog [67]) hk ob 4100 loose (w.withFollow "special-get-raises" false) := by
  intro os
  kernel_rfl
theorem run_t (w : World) : HandSHeadRun.RunEq RR (PySem.W.view RR.prog [67]) hk ob 4100 loose (w.withFollow "special-get-raises" true) := by
  intro os
  kernel_rfl
theorem run (w : World) : HandSHeadRun.RunEq RR (PySem.W.view RR.prog [67]) hk ob 4100 loose w := PySem.W.byRow2 "special-get-raises" (P := fun w => HandSHeadRun.RunEq RR (PySem.W.view RR.prog [67]) hk ob 4100 loose w) run_f run_t w
end Hd
end HW
/-! The end. -/
namespace HW
open PySem PySem.Spec L2
namespace Hd
theorem facts {w : World} {K : PySem.W.Frag} {h : Heap} {mg : Str → Option Value} {f : Addr} (X : K.In h) (G : h.Ns mainGlobals mg) (hfa : mg ("law" : Str) = some (.ref f)) (c : Says w K) :
    ∃ fd : FuncData, (∀ (s : Shared) (v : Value), BindsTo s fd ⟨[v], []⟩ [("script", v)]) ∧ ∀ base : Heap, K.In base → base.Ns mainGlobals mg → FnOk PySem.Challenge.pw_hearsayways_k02_whole_deeds w K mg base CX0 23 f fd ["script"] (spP K Claw) := by
  have cd := c.t.d
  have D := defs_ok cd X G
  have T := txt_ok cd c.x X G
  have Z := tab_ok (w := w) c.t c.x X G
  have E := errs_ok cd c.x c.f X G
  obtain ⟨f2, fd, g1, g2, F⟩ := D.law
  have e := hfa.symm.trans g1
  cases e
  have b := FunD.bindsA (ps := ["script"]) F fun _ _ _ _ _ _ us hl => match us, hl with | [_], _ => rfl
  exact ⟨fd, fun s v => b s [v] rfl, fun base hK hG => all_law (P := PySem.Challenge.pw_hearsayways_k02_whole_deeds) (w := w) (base := base) T Z D E F⟩
end Hd
end HW
open PySem PySem.W PySem.Calls PyProof.Rows
theorem PySem.Challenge.cw_hearsayways_k02_whole_deeds_holds : PySem.Challenge.rw_hearsayways_k02_whole_deeds.Holds := by
  w_on; o_law
  refine HandSHeadRun.head_any (r := OpenLaw.row PySem.Challenge.rw_hearsayways_k02_whole_deeds) (q := view (OpenLaw.row PySem.Challenge.rw_hearsayways_k02_whole_deeds).prog [67]) (H := HW.Hd.hk) (ob := HW.Hd.ob) (M := 4100) (loose := HW.Hd.loose) (d := HandSHeadRun.topDef (OpenLaw.row PySem.Challenge.rw_hearsayways_k02_whole_deeds).prog 67) (kwd := []) HW.Hd.ob_eq
    (by kernel_rfl) (fun s => by kernel_rfl) HW.Hd.run (by kernel_rfl) (by kernel_rfl) (by kernel_rfl) (by rfl) (by first | assumption | decide +kernel) (by decide +kernel) ⟨rfl, rfl, rfl, rfl, rfl, by decide +kernel⟩ ?hw ?hc
  case hw => w_witness2
  case hc =>
    refine L2.walk_ofE (l := PySem.Challenge.rw_hearsayways_k02_whole_deeds) (n := 63) (k := 23) (x := "script") (CX := L2.CX0) rfl (by decide) (by kernel_rfl) ⟨rfl, by decide, by decide⟩ ?F (fun _ _ _ _ z => z)
    intro w mg fa h Y G hmg0
    obtain ⟨K, KX, c⟩ := Y
    have hmg : mg ("law" : PySem.Str) = some (.ref fa) := by
      have e : (HandSHeadRun.topDef (OpenLaw.row PySem.Challenge.rw_hearsayways_k02_whole_deeds).prog 67).name = ("law" : PySem.Str) := by kernel_rfl
      rw [← e]
      exact hmg0
    obtain ⟨fd, hb, hF⟩ := HW.Hd.facts KX G hmg c
    exact ⟨K, fd, HW.spP K HW.Claw, KX, hb, fun H a ns hl _ hS => ⟨H, [.d (HW.scrD ns)], .d (.bool true), ⟨ns, rfl, rfl⟩, L2.Same.refl H, ⟨.lst hS (HW.dpAll_of_ints ns), trivial⟩, fun v I2 H2 _ hv => HW.dp_bl hv⟩, hF⟩
