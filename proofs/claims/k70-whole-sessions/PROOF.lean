import PyProof.Rows.All
import Wide.All
import OpenK.AllK
import Wide.FinOn
import HandS.ForMost
import HandS.Wide
import HandS.IsInst
import HandS.Deep
import HandS.NoneIn
import HandS.Style
import HandS.TupAny
import HandS.TupMul
import HandS.Text
import HandS.SortRule
import HandS.SortInts
import HandS.Conv
import HandS.Strs
import HandS.DictTup
import HandS.Dict
import HandS.Small
import HandS.More
import HandS.Walk
import KE.DatumOrd
import HandS.SetFor
import HandS.Set
import HandS.Exc
import HandS.ExcOwn
import HandS.ExcIs
import HandS.ExcValue
import HandS.WordsExc
import HandS.FStr
import HandS.OwnEq
import KE.GoesEnum
import KE.KCallOwn
import PySem.Challenge.RW_normpairs_k70_whole_sessions
set_option Elab.async false
set_option linter.all false
set_option maxRecDepth 100000
set_option maxHeartbeats 4000000
namespace ND
open PySem PySem.Spec L2

/-! ## Data, entries, states -/
abbrev Dt := PyData
mutual
/-- the value v stands for the datum d (a list in it stays as it is) -/
inductive Rp (K : PySem.W.Frag) (H : Hp) : V → PyData → Prop
  | non : Rp K H .non .none
  | bl (b : Bool) : Rp K H (.bl b) (.bool b)
  | int (i : Int) : Rp K H (.int i) (.int i)
  | str (x : Str) : Rp K H (.str x) (.str x)
  | tup {a : Addr} {xs : List V} {ds : List PyData} : H a = some (.tup xs) → RpAll K H xs ds → Rp K H (.ref a) (.tuple ds)
  | lst {a : Addr} {o : Obj} {xs : List V} {ds : List PyData} : H a = some (.frz o (.lst xs)) → RpAll K H xs ds → Rp K H (.ref a) (.list ds)
inductive RpAll (K : PySem.W.Frag) (H : Hp) : List V → List PyData → Prop
  | nil : RpAll K H [] []
  | cons {v : V} {vs : List V} {d : PyData} {ds : List PyData} : Rp K H v d → RpAll K H vs ds → RpAll K H (v :: vs) (d :: ds)
end

/-- what is not a list stays -/
inductive Lk : HO → Prop
  | lst (xs : List V) : Lk (.lst xs)
  | ins (C dx : Addr) (fs : List (Str × V)) : Lk (.ins C dx fs)
  | dT (kvs : List (List Key × V)) : Lk (.dT kvs)
def Ke (H H' : Hp) : Prop := ∀ b o, H b = some o → Lk o ∨ H' b = some o
theorem SqT.ke {K : PySem.W.Frag} {H H' : Hp} {a : Addr} {xs : List V} (h : SqT K H a xs) (k : Ke H H') : SqT K H' a xs := by
  rcases h with (h | ⟨o, h⟩) | h
  · rcases k _ _ h with e | e
    · cases e
    · exact .inl (.inl e)
  · rcases k _ _ h with e | e
    · cases e
    · exact .inl (.inr ⟨o, e⟩)
  · exact .inr h
mutual
theorem Rp.ke {K : PySem.W.Frag} {H H' : Hp} (k : Ke H H') : ∀ (d : PyData) (v : V), Rp K H v d → Rp K H' v d
  | .none, v, h => by cases h; exact .non
  | .bool b, v, h => by cases h; exact .bl b
  | .int i, v, h => by cases h; exact .int i
  | .str x, v, h => by cases h; exact .str x
  | .list ds, v, h => by cases h with | lst s a => exact .lst ((k _ _ s).elim (fun e => by cases e) id) (RpAll.ke k ds _ a)
  | .tuple ds, v, h => by cases h with | tup s a => exact .tup ((k _ _ s).elim (fun e => by cases e) id) (RpAll.ke k ds _ a)
  | .dict _, v, h => by cases h
theorem RpAll.ke {K : PySem.W.Frag} {H H' : Hp} (k : Ke H H') : ∀ (ds : List PyData) (vs : List V), RpAll K H vs ds → RpAll K H' vs ds
  | [], vs, h => by cases h; exact .nil
  | d :: ds, vs, h => by cases h with | cons a b => exact .cons (Rp.ke k d _ a) (RpAll.ke k ds _ b)
end
mutual
theorem Rp.dp {K : PySem.W.Frag} {H : Hp} : ∀ (d : PyData) (v : V), Rp K H v d → Dp K H v d
  | .none, v, h => by cases h; exact .non
  | .bool b, v, h => by cases h; exact .bl b
  | .int i, v, h => by cases h; exact .int i
  | .str x, v, h => by cases h; exact .str x
  | .list ds, v, h => by cases h with | lst s a => exact .lst (.inl (.inr ⟨_, s⟩)) (RpAll.dp ds _ a)
  | .tuple ds, v, h => by cases h with | tup s a => exact .tup (.inl (.inl s)) (RpAll.dp ds _ a)
  | .dict _, v, h => by cases h
theorem RpAll.dp {K : PySem.W.Frag} {H : Hp} : ∀ (ds : List PyData) (vs : List V), RpAll K H vs ds → DpAll K H vs ds
  | [], vs, h => by cases h; exact .nil
  | d :: ds, vs, h => by cases h with | cons a b => exact .cons (Rp.dp d _ a) (RpAll.dp ds _ b)
end
mutual
theorem Rp.chg {K K' : PySem.W.Frag} {H : Hp} : ∀ (d : PyData) (v : V), Rp K H v d → Rp K' H v d
  | .none, v, h => by cases h; exact .non
  | .bool b, v, h => by cases h; exact .bl b
  | .int i, v, h => by cases h; exact .int i
  | .str x, v, h => by cases h; exact .str x
  | .list ds, v, h => by cases h with | lst s a => exact .lst s (RpAll.chg ds _ a)
  | .tuple ds, v, h => by cases h with | tup s a => exact .tup s (RpAll.chg ds _ a)
  | .dict _, v, h => by cases h
theorem RpAll.chg {K K' : PySem.W.Frag} {H : Hp} : ∀ (ds : List PyData) (vs : List V), RpAll K H vs ds → RpAll K' H vs ds
  | [], vs, h => by cases h; exact .nil
  | d :: ds, vs, h => by cases h with | cons a b => exact .cons (Rp.chg d _ a) (RpAll.chg ds _ b)
end
theorem RpAll.len {K : PySem.W.Frag} {H : Hp} : ∀ {ds : List PyData} {vs : List V}, RpAll K H vs ds → vs.length = ds.length
  | [], vs, h => by cases h; rfl
  | d :: ds, vs, h => by cases h with | cons a b => simp [RpAll.len b]
theorem RpAll.get {K : PySem.W.Frag} {H : Hp} : ∀ {ds : List PyData} {vs : List V} {i : Nat} {d : PyData}, RpAll K H vs ds → ds[i]? = some d → ∃ v, vs[i]? = some v ∧ Rp K H v d
  | [], vs, i, d, h, e => by simp at e
  | d :: ds, vs, 0, d', h, e => by cases h with | cons a b => simp at e; subst e; exact ⟨_, rfl, a⟩
  | d :: ds, vs, i + 1, d', h, e => by
    cases h with
    | cons a b =>
      obtain ⟨v, h1, h2⟩ := RpAll.get (i := i) b (by simpa using e)
      exact ⟨v, by simpa using h1, h2⟩
theorem RpAll.append {K : PySem.W.Frag} {H : Hp} : ∀ {ds es : List PyData} {vs ws : List V}, RpAll K H vs ds → RpAll K H ws es → RpAll K H (vs ++ ws) (ds ++ es)
  | [], es, vs, ws, h, g => by cases h; exact g
  | d :: ds, es, vs, ws, h, g => by cases h with | cons a b => exact .cons a (RpAll.append b g)
theorem RpAll.take {K : PySem.W.Frag} {H : Hp} : ∀ {ds : List PyData} {vs : List V} (n : Nat), RpAll K H vs ds → RpAll K H (vs.take n) (ds.take n)
  | _, _, 0, _ => by simp only [List.take_zero]; exact .nil
  | [], vs, n + 1, h => by cases h; exact .nil
  | d :: ds, vs, n + 1, h => by cases h with | cons a b => exact .cons a (RpAll.take n b)
theorem RpAll.drop {K : PySem.W.Frag} {H : Hp} : ∀ {ds : List PyData} {vs : List V} (n : Nat), RpAll K H vs ds → RpAll K H (vs.drop n) (ds.drop n)
  | _, _, 0, h => by simpa using h
  | [], vs, n + 1, h => by cases h; exact .nil
  | d :: ds, vs, n + 1, h => by cases h with | cons a b => exact RpAll.drop n b
theorem RpAll.reverse {K : PySem.W.Frag} {H : Hp} : ∀ {ds : List PyData} {vs : List V}, RpAll K H vs ds → RpAll K H vs.reverse ds.reverse
  | [], vs, h => by cases h; exact .nil
  | d :: ds, vs, h => by cases h with | cons a b => simp only [List.reverse_cons]; exact RpAll.append (RpAll.reverse b) (.cons a .nil)
theorem RpAll.ints {K : PySem.W.Frag} {H : Hp} : ∀ {ns : List Int} {vs : List V}, RpAll K H vs (ns.map PyData.int) → vs = ns.map V.int
  | [], vs, h => by cases h; rfl
  | n :: ns, vs, h => by cases h with | cons a b => cases a; rw [RpAll.ints b]; rfl
theorem rpAll_ints {K : PySem.W.Frag} {H : Hp} : ∀ (ns : List Int), RpAll K H (ns.map V.int) (ns.map PyData.int)
  | [] => .nil
  | n :: ns => .cons (.int n) (rpAll_ints ns)
theorem RpAll.bls {K : PySem.W.Frag} {H : Hp} : ∀ {ns : List Bool} {vs : List V}, RpAll K H vs (ns.map PyData.bool) → vs = ns.map V.bl
  | [], vs, h => by cases h; rfl
  | n :: ns, vs, h => by cases h with | cons a b => cases a; rw [RpAll.bls b]; rfl

/-- an entry: a datum; a list that the frame owns (or that has just been made); a list that is read; the town -/
inductive En where
  | im (d : PyData)
  | own (xs : List PyData)
  | ro (xs : List PyData)
  | sc (xs : List PyData)
  | tw
  | ses (a : Addr)
  | sp (a : Addr) (d : PyData)

/-- an attribute: a datum, a list -/
inductive Fd where
  | im (d : PyData)
  | ls (xs : List PyData)
/-- an object's data: its class stands at cls -/
structure Ses where
  cls : Addr
  fs : List (Str × Fd)
/-- the town: its list's length behind the count, the draws so far; the sessions by their addresses -/
abbrev Cn := Nat × Nat × (Addr → Option Ses)
/-- what may be changed: a session, the lists that are its attributes -/
inductive Mu (H : Hp) (b : Addr) : Prop
  | ins {C dx : Addr} {fs : List (Str × V)} : H b = some (.ins C dx fs) → Mu H b
  | fld {a C dx : Addr} {fs : List (Str × V)} {x : Str} {xs : List V} : H a = some (.ins C dx fs) → (x, V.ref b) ∈ fs → H b = some (.lst xs) → Mu H b
/-- the attributes' values; ls: the addresses of those that are lists -/
inductive FdAll (H : Hp) : List (Str × V) → List (Str × Fd) → List Addr → Prop
  | nil : FdAll H [] [] []
  | im {x : Str} {v : V} {d : PyData} {vs : List (Str × V)} {fs : List (Str × Fd)} {ls : List Addr} : (∀ K, Rp K H v d) → FdAll H vs fs ls → FdAll H ((x, v) :: vs) ((x, .im d) :: fs) ls
  | ls {x : Str} {l : Addr} {ws : List V} {ds : List PyData} {vs : List (Str × V)} {fs : List (Str × Fd)} {ls : List Addr} : H l = some (.lst ws) → (∀ K, RpAll K H ws ds) → FdAll H vs fs ls → FdAll H ((x, .ref l) :: vs) ((x, .ls ds) :: fs) (l :: ls)
def SesOk (H : Hp) (a : Addr) (s : Ses) : Prop := ∃ dx vs ls, H a = some (.ins s.cls dx vs) ∧ FdAll H vs s.fs ls ∧ ls.Nodup
/-- the town's list: T its address; the sessions -/
structure Tw (T : Option Addr) (n : Nat) (c : Cn) (H : Hp) : Prop where
  tow : ∀ a, T = some a → ∃ ts : List Int, H a = some (.lst (((c.2.1 : Int) :: ts).map V.int)) ∧ ts.length = c.1
  ntw : ∀ a, T = some a → ¬ Mu H a
  ses : ∀ a s, c.2.2 a = some s → SesOk H a s
  all : ∀ a C dx fs, H a = some (.ins C dx fs) → ∃ s, c.2.2 a = some s
  dis : ∀ a b C C' dx dy fs gs x y l xs, H a = some (.ins C dx fs) → H b = some (.ins C' dy gs) → (x, V.ref l) ∈ fs → (y, V.ref l) ∈ gs → H l = some (.lst xs) → a = b
/-- neither the town nor a part of a session -/
def Nt (T : Option Addr) (H : Hp) (a : Addr) : Prop := T ≠ some a ∧ ¬ Mu H a
/-- all but the town and the sessions stays -/
structure FrT (T : Option Addr) (H H' : Hp) : Prop where
  keep : ∀ b o, H b = some o → Nt T H b → H' b = some o
  mu : ∀ b, Mu H' b → Mu H b ∨ H b = none
  trk : ∀ b, H' b = none → H b = none
theorem FrT.refl (T : Option Addr) (H : Hp) : FrT T H H := ⟨fun _ _ h _ => h, fun _ h => .inl h, fun _ h => h⟩
theorem FrT.nt {T : Option Addr} {H H' : Hp} {a : Addr} {o : HO} (f : FrT T H H') (n : Nt T H a) (h : H a = some o) : Nt T H' a := ⟨n.1, fun m => (f.mu a m).elim n.2 fun z => by rw [h] at z; cases z⟩
theorem FrT.trans {T : Option Addr} {H H1 H2 : Hp} (a : FrT T H H1) (b : FrT T H1 H2) : FrT T H H2 :=
  ⟨fun c o h n => b.keep c o (a.keep c o h n) (a.nt n h), fun c m => (b.mu c m).elim (a.mu c) fun z => .inr (a.trk c z), fun c z => a.trk c (b.trk c z)⟩
theorem Tw.lk {T : Option Addr} {n : Nat} {c : Cn} {H : Hp} (t : Tw T n c H) {b : Addr} {o : HO} (h : H b = some o) (m : ¬ Nt T H b) : Lk o := by
  by_cases e : T = some b
  · obtain ⟨ts, q, _⟩ := t.tow b e
    rw [h] at q
    rw [Option.some.inj q]
    exact .lst _
  · by_cases w : Mu H b
    · cases w with
      | ins z =>
        rw [h] at z
        rw [Option.some.inj z]
        exact .ins _ _ _
      | fld _ _ z =>
        rw [h] at z
        rw [Option.some.inj z]
        exact .lst _
    · exact absurd ⟨e, w⟩ m
theorem FrT.ke {T : Option Addr} {n : Nat} {c : Cn} {H H' : Hp} (a : FrT T H H') (t : Tw T n c H) : Ke H H' := fun b o h => by
  by_cases m : Nt T H b
  · exact .inr (a.keep b o h m)
  · exact .inl (t.lk h m)
theorem FrT.sql {T : Option Addr} {H H' : Hp} {a : Addr} {u : HO} (f : FrT T H H') (n : Nt T H a) (h : L2.Rd H a u) : L2.Rd H' a u := h.imp (fun z => f.keep _ _ z n) fun ⟨o, z⟩ => ⟨o, f.keep _ _ z n⟩
/-- what a field of a session names is tracked -/
theorem Rp.trk {K : PySem.W.Frag} {H : Hp} {a : Addr} : ∀ {d : PyData}, Rp K H (.ref a) d → ∃ o, H a = some o ∧ ∀ xs, o ≠ .lst xs
  | .tuple _, h => by cases h with | tup s _ => exact ⟨_, s, fun _ z => by cases z⟩
  | .list _, h => by cases h with | lst s _ => exact ⟨_, s, fun _ z => by cases z⟩
  | .none, h => by cases h
  | .bool _, h => by cases h
  | .int _, h => by cases h
  | .str _, h => by cases h
  | .dict _, h => by cases h
theorem FdAll.fld {H : Hp} {vs : List (Str × V)} {fs : List (Str × Fd)} {ls : List Addr} (z : FdAll H vs fs ls) {x : Str} {l : Addr} (m : (x, V.ref l) ∈ vs) : ∃ o, H l = some o ∧ ((∃ xs, o = .lst xs) → l ∈ ls) := by
  induction z with
  | nil => cases m
  | im r _ ih =>
    rcases List.mem_cons.mp m with e | m
    · cases e
      obtain ⟨o, h1, h2⟩ := (r default).trk
      exact ⟨o, h1, fun ⟨xs, e⟩ => absurd e (h2 xs)⟩
    · exact ih m
  | ls h _ _ ih =>
    rcases List.mem_cons.mp m with e | m
    · cases e
      exact ⟨_, h, fun _ => List.mem_cons_self⟩
    · obtain ⟨o, h1, h2⟩ := ih m
      exact ⟨o, h1, fun y => List.mem_cons_of_mem _ (h2 y)⟩
theorem FdAll.mem {H : Hp} {vs : List (Str × V)} {fs : List (Str × Fd)} {ls : List Addr} (z : FdAll H vs fs ls) {l : Addr} (h : l ∈ ls) : (∃ x, (x, V.ref l) ∈ vs) ∧ ∃ ws, H l = some (.lst ws) := by
  induction z with
  | nil => cases h
  | im r _ ih =>
    obtain ⟨⟨x, h1⟩, h2⟩ := ih h
    exact ⟨⟨x, List.mem_cons_of_mem _ h1⟩, h2⟩
  | ls g _ _ ih =>
    rcases List.mem_cons.mp h with e | h
    · rw [e]
      exact ⟨⟨_, List.mem_cons_self⟩, _, g⟩
    · obtain ⟨⟨x, h1⟩, h2⟩ := ih h
      exact ⟨⟨x, List.mem_cons_of_mem _ h1⟩, h2⟩
theorem FdAll.keep {H H' : Hp} {vs : List (Str × V)} {fs : List (Str × Fd)} {ls : List Addr} (z : FdAll H vs fs ls) (k : Ke H H') (kl : ∀ l ∈ ls, H' l = H l) : FdAll H' vs fs ls := by
  induction z with
  | nil => exact .nil
  | im r _ ih => exact .im (fun K => Rp.ke k _ _ (r K)) (ih kl)
  | ls h r _ ih => exact .ls ((kl _ List.mem_cons_self).trans h) (fun K => RpAll.ke k _ _ (r K)) (ih fun l hl => kl l (List.mem_cons_of_mem _ hl))
theorem Tw.fld {T : Option Addr} {n : Nat} {c : Cn} {H : Hp} (t : Tw T n c H) {a C dx : Addr} {fs : List (Str × V)} {x : Str} {l : Addr} (h : H a = some (.ins C dx fs)) (m : (x, V.ref l) ∈ fs) : ∃ o, H l = some o := by
  obtain ⟨s, hs⟩ := t.all a C dx fs h
  obtain ⟨dy, vs, ls, e, z, _⟩ := t.ses a s hs
  rw [h] at e
  cases e
  obtain ⟨o, h1, _⟩ := z.fld m
  exact ⟨o, h1⟩
/-- a list that is never changed: the script -/
def SqF (K : PySem.W.Frag) (H : Hp) (a : Addr) (xs : List V) : Prop := (∃ o, H a = some (.frz o (.lst xs))) ∨ ∃ (o : Obj) (its : Array Value) (n : Nat), K.lookup a = some o ∧ o.cls = .type "list" ∧ o.dict = none ∧ o.data = .seq its n ∧ its.size ≤ sizeLine ∧ Vals xs its.toList
theorem SqF.sq {K : PySem.W.Frag} {H : Hp} {a : Addr} {xs : List V} (h : SqF K H a xs) : SqL K H a xs := h.elim (fun z => .inl (.inr z)) .inr
theorem SqF.ke {K : PySem.W.Frag} {H H' : Hp} {a : Addr} {xs : List V} (h : SqF K H a xs) (k : Ke H H') : SqF K H' a xs := by
  rcases h with ⟨o, h⟩ | h
  · rcases k _ _ h with e | e
    · cases e
    · exact .inl ⟨o, e⟩
  · exact .inr h
/-- what was stays, no new instance -/
structure SameN (H H' : Hp) : Prop where
  sm : Same H H'
  ni : ∀ b C dx fs, H' b = some (.ins C dx fs) → H b = some (.ins C dx fs)
theorem SameN.mu {H H' : Hp} (s : SameN H H') {b : Addr} (m : Mu H' b) : Mu H b ∨ H b = none := by
  cases m with
  | ins z => exact .inl (.ins (s.ni _ _ _ _ z))
  | fld z1 z2 z3 =>
    cases e : H b with
    | none => exact .inr rfl
    | some o =>
      have := s.sm _ _ e
      rw [z3] at this
      cases this
      exact .inl (.fld (s.ni _ _ _ _ z1) z2 e)
theorem frT_same {T : Option Addr} {H H' : Hp} (s : SameN H H') : FrT T H H' := ⟨fun b o h _ => s.sm b o h, fun b m => s.mu m, fun b z => by
  cases e : H b with
  | none => rfl
  | some o => rw [s.sm _ _ e] at z; cases z⟩
theorem tw_same {T : Option Addr} {n : Nat} {c : Cn} {H H' : Hp} (t : Tw T n c H) (s : SameN H H') : Tw T n c H' where
  tow := fun a e => by
    obtain ⟨ts, q, l⟩ := t.tow a e
    exact ⟨ts, s.sm _ _ q, l⟩
  ntw := fun a e m => by
    obtain ⟨ts, q, l⟩ := t.tow a e
    exact (s.mu m).elim (t.ntw a e) fun z => by rw [q] at z; cases z
  ses := fun a x h => by
    obtain ⟨dx, vs, ls, e, z, nd⟩ := t.ses a x h
    exact ⟨dx, vs, ls, s.sm _ _ e, z.keep (fun b o e => .inr (s.sm b o e)) (fun l hl => by
      obtain ⟨_, ws, hw⟩ := z.mem hl
      rw [hw]
      exact s.sm _ _ hw), nd⟩
  all := fun a C dx fs h => t.all a C dx fs (s.ni _ _ _ _ h)
  dis := fun a b C C' dx dy fs gs x y l xs h1 h2 h3 h4 h5 => by
    obtain ⟨o, ho⟩ := t.fld (s.ni _ _ _ _ h1) h3
    have := s.sm _ _ ho
    rw [h5] at this
    cases this
    exact t.dis a b C C' dx dy fs gs x y l xs (s.ni _ _ _ _ h1) (s.ni _ _ _ _ h2) h3 h4 ho
theorem same_upd {H : Hp} {p : Addr} {o : HO} (h : H p = none) (n : ∀ C dx fs, o ≠ .ins C dx fs := by intro _ _ _ z; cases z) : SameN H (upd H p o) := ⟨fun b x e => by
  rw [upd_ne (ne_of_none e h)]
  exact e, fun b C dx fs e => by
  by_cases z : b = p
  · subst z
    rw [upd_same] at e
    exact absurd (Option.some.inj e) (n C dx fs)
  · rw [upd_ne z] at e
    exact e⟩
/-- a list of one's own is changed -/
theorem mu_upd {H : Hp} {a b : Addr} {xs ws : List V} (h : H a = some (.lst xs)) (m : Mu (upd H a (.lst ws)) b) : Mu H b := by
  have ins : ∀ {e C dx : Addr} {fs : List (Str × V)}, upd H a (.lst ws) e = some (.ins C dx fs) → H e = some (.ins C dx fs) := fun {e C dx fs} z => by
    by_cases y : e = a
    · subst y; rw [upd_same] at z; cases z
    · rw [upd_ne y] at z; exact z
  cases m with
  | ins z => exact .ins (ins z)
  | fld z1 z2 z3 =>
    by_cases y : b = a
    · subst y; exact .fld (ins z1) z2 h
    · rw [upd_ne y] at z3; exact .fld (ins z1) z2 z3
theorem tw_upd {T : Option Addr} {n : Nat} {c : Cn} {H : Hp} {a : Addr} {xs ws : List V} (t : Tw T n c H) (h : H a = some (.lst xs)) (nt : Nt T H a) : Tw T n c (upd H a (.lst ws)) := by
  have ins : ∀ {e C dx : Addr} {fs : List (Str × V)}, upd H a (.lst ws) e = some (.ins C dx fs) → H e = some (.ins C dx fs) := fun {e C dx fs} z => by
    by_cases y : e = a
    · subst y; rw [upd_same] at z; cases z
    · rw [upd_ne y] at z; exact z
  have lst : ∀ {e : Addr} {ys : List V}, upd H a (.lst ws) e = some (.lst ys) → ∃ zs, H e = some (.lst zs) := fun {e ys} z => by
    by_cases y : e = a
    · subst y; exact ⟨_, h⟩
    · rw [upd_ne y] at z; exact ⟨_, z⟩
  have ke : Ke H (upd H a (.lst ws)) := fun b o e => by
    by_cases y : b = a
    · subst y; rw [h] at e; cases e; exact .inl (.lst _)
    · exact .inr ((upd_ne y).trans e)
  refine { tow := fun b e => ?_, ntw := fun b e m => t.ntw b e (mu_upd h m), ses := fun b s hs => ?_, all := fun b C dx fs e => t.all b C dx fs (ins e), dis := fun b b' C C' dx dy fs gs x y l zs h1 h2 h3 h4 h5 => ?_ }
  · obtain ⟨ts, q, z⟩ := t.tow b e
    have ne : b ≠ a := fun y => nt.1 (by rw [e, y])
    exact ⟨ts, (upd_ne ne).trans q, z⟩
  · obtain ⟨dx, vs, ls, e, z, nd⟩ := t.ses b s hs
    refine ⟨dx, vs, ls, (upd_ne fun y => ?_).trans e, z.keep ke fun l hl => upd_ne fun y => nt.2 ?_, nd⟩
    · rw [y, h] at e
      cases e
    · obtain ⟨⟨x, hx⟩, zs, hz⟩ := z.mem hl
      rw [← y]
      exact .fld e hx hz
  · obtain ⟨ys, hy⟩ := lst h5
    exact t.dis b b' C C' dx dy fs gs x y l ys (ins h1) (ins h2) h3 h4 hy
/-- the town's list is changed -/
theorem frT_town {H : Hp} {a : Addr} {xs ws : List V} (h : H a = some (.lst xs)) : FrT (some a) H (upd H a (.lst ws)) := ⟨fun b o e n => (upd_ne fun z => n.1 (by rw [z])).trans e, fun b m => .inl (mu_upd h m), fun b z => by
  by_cases y : b = a
  · rw [y, upd_same] at z; cases z
  · rw [upd_ne y] at z; exact z⟩
theorem tw_town {n : Nat} {c c' : Cn} {H : Hp} {a : Addr} {xs : List V} {ts : List Int} (t : Tw (some a) n c H) (h : H a = some (.lst xs)) (e2 : c'.2.2 = c.2.2) (l : ts.length = c'.1) : Tw (some a) n c' (upd H a (.lst (((c'.2.1 : Int) :: ts).map V.int))) := by
  have nm := t.ntw a rfl
  have t' : Tw none n c H := ⟨fun _ z => (by cases z), fun _ z => (by cases z), t.ses, t.all, t.dis⟩
  have u := tw_upd (ws := ((c'.2.1 : Int) :: ts).map V.int) t' h ⟨fun z => (by cases z), nm⟩
  exact ⟨fun b z => (by cases z; exact ⟨ts, upd_same, l⟩), fun b z m => (by cases z; exact nm (mu_upd h m)), fun b s hs => u.ses b s (by rw [← e2]; exact hs), fun b C dx fs e => (by rw [e2]; exact u.all b C dx fs e), u.dis⟩
/-- a new list is nobody's -/
theorem nt_new {T : Option Addr} {n : Nat} {c : Cn} {H : Hp} {p : Addr} {vs : List V} (t : Tw T n c H) (hp : H p = none) : Nt T (upd H p (.lst vs)) p := by
  refine ⟨fun e => ?_, fun m => ?_⟩
  · obtain ⟨ts, q, _⟩ := t.tow p e
    rw [hp] at q
    cases q
  · have ins : ∀ {e C dx : Addr} {fs : List (Str × V)}, upd H p (.lst vs) e = some (.ins C dx fs) → H e = some (.ins C dx fs) := fun {e C dx fs} z => by
      by_cases y : e = p
      · subst y; rw [upd_same] at z; cases z
      · rw [upd_ne y] at z; exact z
    cases m with
    | ins z => rw [upd_same] at z; cases z
    | fld z1 z2 z3 =>
      obtain ⟨o, ho⟩ := t.fld (ins z1) z2
      rw [hp] at ho
      cases ho
/-- the value v stands for the entry e, to be read -/
def Rv (K : PySem.W.Frag) (T : Option Addr) (H : Hp) (v : V) : En → Prop
  | .im d => Rp K H v d
  | .own xs => ∃ a vs, v = .ref a ∧ Nt T H a ∧ H a = some (.lst vs) ∧ RpAll K H vs xs
  | .ro xs => ∃ a vs, v = .ref a ∧ Nt T H a ∧ H a = some (.lst vs) ∧ RpAll K H vs xs
  | .sc xs => ∃ a vs, v = .ref a ∧ SqF K H a vs ∧ RpAll K H vs xs
  | .tw => ∃ a, T = some a ∧ v = .ref a
  | .ses a => v = .ref a
  | .sp a d => ∃ p w, v = .ref p ∧ H p = some (.tup [.ref a, w]) ∧ Rp K H w d
/-- a new list, made since H -/
def Nw (K : PySem.W.Frag) (H H' : Hp) (v : V) : En → Prop
  | .own xs => ∃ a vs, v = .ref a ∧ H a = none ∧ H' a = some (.lst vs) ∧ RpAll K H' vs xs
  | _ => True
theorem Rv.mono {K : PySem.W.Frag} {T : Option Addr} {n : Nat} {c : Cn} {H H' : Hp} {v : V} {e : En} (r : Rv K T H v e) (f : FrT T H H') (t : Tw T n c H) : Rv K T H' v e := by
  cases e with
  | im d => exact Rp.ke (f.ke t) d v r
  | own xs =>
    obtain ⟨a, vs, e1, n1, s, q⟩ := r
    exact ⟨a, vs, e1, f.nt n1 s, f.keep _ _ s n1, RpAll.ke (f.ke t) _ _ q⟩
  | ro xs =>
    obtain ⟨a, vs, e1, n1, s, q⟩ := r
    exact ⟨a, vs, e1, f.nt n1 s, f.keep _ _ s n1, RpAll.ke (f.ke t) _ _ q⟩
  | sc xs =>
    obtain ⟨a, vs, e1, s, q⟩ := r
    exact ⟨a, vs, e1, s.ke (f.ke t), RpAll.ke (f.ke t) _ _ q⟩
  | tw => exact r
  | ses a => exact r
  | sp a d =>
    obtain ⟨p, w, e1, s, q⟩ := r
    exact ⟨p, w, e1, (f.ke t _ _ s).elim (fun e => by cases e) id, Rp.ke (f.ke t) _ _ q⟩
theorem Nw.mono {K : PySem.W.Frag} {T : Option Addr} {n : Nat} {c : Cn} {H H0 H1 H' : Hp} {v : V} {e : En} (r : Nw K H H1 v e) (r' : Rv K T H1 v e) (f : FrT T H1 H') (t : Tw T n c H1) (b : FrT T H0 H) (t0 : Tw T n c H0) : Nw K H0 H' v e := by
  cases e with
  | im d => trivial
  | own xs =>
    obtain ⟨a, vs, e1, n1, s, q⟩ := r
    obtain ⟨a2, vs2, e2, n2, _, _⟩ := r'
    rw [e1] at e2
    cases e2
    exact ⟨a, vs, e1, b.trk _ n1, f.keep _ _ s n2, RpAll.ke (f.ke t) _ _ q⟩
  | ro xs => trivial
  | sc xs => trivial
  | tw => trivial
  | ses a => trivial
  | sp a d => trivial
/-- what is known of a value that an expression has given -/
structure Rf (K : PySem.W.Frag) (T : Option Addr) (H H' : Hp) (v : V) (e : En) : Prop where
  rv : Rv K T H' v e
  nw : Nw K H H' v e

/-- an entry whose list may be changed by someone -/
def lk : En → Bool
  | .im _ => false
  | .sc _ => false
  | .ses _ => false
  | .sp _ _ => false
  | _ => true
abbrev SS := L2.St
abbrev Sl := List (Option En)
/-- the slots' entries hold -/
structure Hd (K : PySem.W.Frag) (T : Option Addr) (n : Nat) (S : Sl) (c : Cn) (σ : St) (H : Hp) : Prop where
  len : S.length = σ.length
  rep : ∀ (i : Nat) (e : En), S[i]? = some (some e) → ∃ v, σ[i]? = some (some v) ∧ Rv K T H v e
  tru : ∀ (i : Nat) (xs : List PyData), S[i]? = some (some (.own xs)) → ∃ a vs, σ[i]? = some (some (.ref a)) ∧ H a = some (.lst vs) ∧ RpAll K H vs xs
  dis : ∀ (i j : Nat) (xs : List PyData) (a : Addr) (e : En), i ≠ j → S[i]? = some (some (.own xs)) → σ[i]? = some (some (.ref a)) → S[j]? = some (some e) → lk e = true → σ[j]? ≠ some (some (.ref a))
  tow : Tw T n c H
/-- the addresses of the lists that the slots own -/
def Ow (S : Sl) (σ : St) (b : Addr) : Prop := ∃ (i : Nat) (xs : List PyData), S[i]? = some (some (.own xs)) ∧ σ[i]? = some (some (.ref b))
theorem Hd.mono {K : PySem.W.Frag} {T : Option Addr} {n : Nat} {c c' : Cn} {S : Sl} {σ : St} {H H' : Hp} (h : Hd K T n S c σ H) (f : FrT T H H') (t : Tw T n c' H') : Hd K T n S c' σ H' where
  len := h.len
  rep := fun i e q => by
    obtain ⟨v, e1, r⟩ := h.rep i e q
    exact ⟨v, e1, r.mono f h.tow⟩
  tru := fun i xs q => by
    obtain ⟨a, vs, e1, e2, r⟩ := h.tru i xs q
    obtain ⟨v, e3, r3⟩ := h.rep i _ q
    rw [e1] at e3
    cases e3
    obtain ⟨a2, vs2, e4, n4, _, _⟩ := r3
    cases e4
    exact ⟨a, vs, e1, f.keep _ _ e2 n4, RpAll.ke (f.ke h.tow) _ _ r⟩
  dis := h.dis
  tow := t

/-! ## Expressions -/
abbrev DE := Sl → Cn → (En → Cn → Prop) → Prop
abbrev DT := Sl → Cn → (Bool → Cn → Prop) → Prop
abbrev DA := Sl → Cn → (List En → Cn → Prop) → Prop
def LE (K : PySem.W.Frag) (de : DE) : TE := fun σ H Q => ∃ T n S c k, Hd K T n S c σ H ∧ de S c k ∧ ∀ e c', k e c' → ∀ v H', FrT T H H' → Tw T n c' H' → Rf K T H H' v e → Q v H'
def LT (K : PySem.W.Frag) (dt : DT) : TT := fun σ H Q => ∃ T n S c k, Hd K T n S c σ H ∧ dt S c k ∧ ∀ b c', k b c' → ∀ H', FrT T H H' → Tw T n c' H' → Q b H'
inductive RfAll (K : PySem.W.Frag) (T : Option Addr) (H H' : Hp) : List V → List En → Prop
  | nil : RfAll K T H H' [] []
  | cons {v vs e es} : Rf K T H H' v e → RfAll K T H H' vs es → RfAll K T H H' (v :: vs) (e :: es)
def LA (K : PySem.W.Frag) (da : DA) : TA := fun σ H Q => ∃ T n S c k, Hd K T n S c σ H ∧ da S c k ∧ ∀ es c', k es c' → ∀ vs H', FrT T H H' → Tw T n c' H' → RfAll K T H H' vs es → Q vs H'
theorem PE.le {X : Cx} {e : Expr} {t t' : TE} (h : PE X e t) (k : ∀ σ H Q, t' σ H Q → t σ H Q) : PE X e t' := ⟨fun p s σ H Q I q => h.run p s σ H Q I (k σ H Q q)⟩
theorem PT.le {X : Cx} {e : Expr} {t t' : TT} (h : PT X e t) (k : ∀ σ H Q, t' σ H Q → t σ H Q) : PT X e t' := ⟨fun p s σ H Q I q => h.run p s σ H Q I (k σ H Q q)⟩
theorem PW.le {X : Cx} {e : Expr} {t t' : TT} (h : PW X e t) (k : ∀ σ H Q, t' σ H Q → t σ H Q) : PW X e t' := ⟨fun w p s σ H Q I q => h.run w p s σ H Q I (k σ H Q q)⟩
theorem PA.le {X : Cx} {es : List Expr} {t t' : TA} (h : PA X es t) (k : ∀ σ H Q, t' σ H Q → t σ H Q) : PA X es t' := ⟨fun w p s σ H Q I q => h.run w p s σ H Q I (k σ H Q q)⟩
theorem PS.le {X : Cx} {st : Stmt} {t t' : TS} (h : PS X st t) (k : ∀ D σ H, t' D σ H → t D σ H) : PS X st t' := ⟨fun p s σ H D I q => h.run p s σ H D I (k D σ H q)⟩
theorem PSs.le {X : Cx} {st : List Stmt} {t t' : TS} (h : PSs X st t) (k : ∀ D σ H, t' D σ H → t D σ H) : PSs X st t' := ⟨fun p s σ H D I q => h.run p s σ H D I (k D σ H q)⟩

def dVar (i : Nat) : DE := fun S c k => match S[i]? with
  | some (some (.own xs)) => k (.ro xs) c
  | some (some (.ro xs)) => k (.ro xs) c
  | some (some (.im d)) => k (.im d) c
  | some (some (.sc xs)) => k (.sc xs) c
  | some (some .tw) => k .tw c
  | some (some (.ses a)) => k (.ses a) c
  | some (some (.sp a d)) => k (.sp a d) c
  | _ => False
def dC (d : PyData) : DE := fun _ c k => k (.im d) c
def dOp (r : En → En → (En → Prop) → Prop) (da db : DE) : DE := fun S c k => da S c fun x c1 => db S c1 fun y c2 => r x y fun z => k z c2
def dUn (r : En → (En → Prop) → Prop) (da : DE) : DE := fun S c k => da S c fun x c1 => r x fun z => k z c1
def dNil : DA := fun _ c k => k [] c
def dCons (da : DE) (dr : DA) : DA := fun S c k => da S c fun x c1 => dr S c1 fun xs c2 => k (x :: xs) c2
/-- a datum's value -/
def imOf : En → Option PyData
  | .im d => some d
  | _ => none
def imsOf : List En → Option (List PyData)
  | [] => some []
  | .im d :: es => (imsOf es).map (d :: ·)
  | _ :: _ => none
def dTup (da : DA) : DE := fun S c k => da S c fun es c1 => match imsOf es with
  | some ds => ds.length ≤ 100000 ∧ k (.im (.tuple ds)) c1
  | none => False
def dLst (da : DA) : DE := fun S c k => da S c fun es c1 => match imsOf es with
  | some ds => ds.length ≤ 100000 ∧ k (.own ds) c1
  | none => False

section
variable {X : Cx}
theorem de_var (i : Nat) {x : Str} {pos : Pos} (hN : X.N[i]? = some x := by rfl) (hv : Vis X.env.scope x := by first | exact Or.inl rfl | exact Or.inr (Or.inl rfl) | exact Or.inr (Or.inr rfl)) (hd : (x == ("__debug__" : Str)) = false := by decide)
    (hcd : (x == ("__classdict__" : Str)) = false := by decide) : PE X (.Name x pos) (LE X.K (dVar i)) := by
  refine PE.le (pe_var hN hv hd hcd) fun σ H Q h => ?_
  obtain ⟨T, n, S, c, k, hS, h, q⟩ := h
  unfold dVar at h
  split at h
  · rename_i xs e
    obtain ⟨v, e1, a, vs, e2, r⟩ := hS.rep i _ e
    exact ⟨v, e1, q _ _ h v H (.refl _ _) hS.tow ⟨⟨a, vs, e2, r⟩, trivial⟩⟩
  · rename_i xs e
    obtain ⟨v, e1, r⟩ := hS.rep i _ e
    exact ⟨v, e1, q _ _ h v H (.refl _ _) hS.tow ⟨r, trivial⟩⟩
  · rename_i xs e
    obtain ⟨v, e1, r⟩ := hS.rep i _ e
    exact ⟨v, e1, q _ _ h v H (.refl _ _) hS.tow ⟨r, trivial⟩⟩
  · rename_i xs e
    obtain ⟨v, e1, r⟩ := hS.rep i _ e
    exact ⟨v, e1, q _ _ h v H (.refl _ _) hS.tow ⟨r, trivial⟩⟩
  · rename_i e
    obtain ⟨v, e1, r⟩ := hS.rep i _ e
    exact ⟨v, e1, q _ _ h v H (.refl _ _) hS.tow ⟨r, trivial⟩⟩
  · rename_i e
    obtain ⟨v, e1, r⟩ := hS.rep i _ e
    exact ⟨v, e1, q _ _ h v H (.refl _ _) hS.tow ⟨r, trivial⟩⟩
  · rename_i e
    obtain ⟨v, e1, r⟩ := hS.rep i _ e
    exact ⟨v, e1, q _ _ h v H (.refl _ _) hS.tow ⟨r, trivial⟩⟩
  · exact h.elim
theorem de_c {e : Expr} {v : V} {d : PyData} (h : PE X e (tC v)) (r : ∀ H, Rp X.K H v d) : PE X e (LE X.K (dC d)) := by
  refine PE.le h fun σ H Q h => ?_
  obtain ⟨T, n, S, c, k, hS, h, q⟩ := h
  exact q _ _ h v H (.refl _ _) hS.tow ⟨r H, trivial⟩
theorem de_int {i j pos} : PE X (.Constant (.int i) j pos) (LE X.K (dC (.int i))) := de_c pe_int fun _ => .int i
theorem de_bl {b j pos} : PE X (.Constant (.bool b) j pos) (LE X.K (dC (.bool b))) := de_c pe_bl fun _ => .bl b
theorem de_non {j pos} : PE X (.Constant .none j pos) (LE X.K (dC .none)) := de_c pe_non fun _ => .non
theorem de_str {x j pos} : PE X (.Constant (.str x) j pos) (LE X.K (dC (.str x))) := de_c pe_str fun _ => .str x
theorem de_globI {x : Str} {i : Int} {t : Tok} {pos : Pos} (hg : Gl X x) (hm : X.mg x = some (.int i t)) (hd : (x == ("__debug__" : Str)) = false := by decide) : PE X (.Name x pos) (LE X.K (dC (.int i))) := de_c (pe_glob (v := .int i) hg hm ⟨t, rfl⟩ hd) fun _ => .int i
/-- an operator by entries -/
def RL (K : PySem.W.Frag) (r : En → En → (En → Prop) → Prop) : R2 := fun x y H Q => ∃ T n c ex ey k, Tw T n c H ∧ Rv K T H x ex ∧ Rv K T H y ey ∧ r ex ey k ∧ ∀ z, k z → ∀ v H', SameN H H' → Rf K T H H' v z → Q v H'
def RU (K : PySem.W.Frag) (r : En → (En → Prop) → Prop) : V → Hp → VK → Prop := fun x H Q => ∃ T n c ex k, Tw T n c H ∧ Rv K T H x ex ∧ r ex k ∧ ∀ z, k z → ∀ v H', SameN H H' → Rf K T H H' v z → Q v H'
theorem rf_trans {K : PySem.W.Frag} {T : Option Addr} {n : Nat} {c c' : Cn} {H H1 H2 : Hp} {v : V} {e : En} (r : Rf K T H1 H2 v e) (f : FrT T H H1) (t : Tw T n c H) : Rf K T H H2 v e := by
  refine ⟨r.rv, ?_⟩
  cases e with
  | im d => trivial
  | own xs =>
    obtain ⟨a, vs, e1, n1, s, q⟩ := r.nw
    obtain ⟨a2, vs2, e2, n2, _, _⟩ := r.rv
    rw [e1] at e2
    cases e2
    exact ⟨a, vs, e1, f.trk _ n1, s, q⟩
  | ro xs => trivial
  | sc xs => trivial
  | tw => trivial
  | ses a => trivial
  | sp a d => trivial
theorem rf_mono {K : PySem.W.Frag} {T : Option Addr} {n : Nat} {c : Cn} {H H1 H2 : Hp} {v : V} {e : En} (r : Rf K T H H1 v e) (f : FrT T H1 H2) (t : Tw T n c H1) : Rf K T H H2 v e := by
  refine ⟨r.rv.mono f t, ?_⟩
  cases e with
  | im d => trivial
  | own xs =>
    obtain ⟨a, vs, e1, n1, s, q⟩ := r.nw
    obtain ⟨a2, vs2, e2, n2, _, _⟩ := r.rv
    rw [e1] at e2
    cases e2
    exact ⟨a, vs, e1, n1, f.keep _ _ s n2, RpAll.ke (f.ke t) _ _ q⟩
  | ro xs => trivial
  | sc xs => trivial
  | tw => trivial
  | ses a => trivial
  | sp a d => trivial
variable {a b : Expr} {da db : DE} {pos : Pos}
theorem two_le {r : En → En → (En → Prop) → Prop} {σ : St} {H : Hp} {Q : VK} (h : LE X.K (dOp r da db) σ H Q) : tOp (RL X.K r) (LE X.K da) (LE X.K db) σ H Q := by
  obtain ⟨T, n, S, c, k, hS, h, q⟩ := h
  refine ⟨T, n, S, c, _, hS, h, fun e1 c1 h1 v1 H1 f1 t1 r1 => ?_⟩
  refine ⟨T, n, S, c1, _, hS.mono f1 t1, h1, fun e2 c2 h2 v2 H2 f2 t2 r2 => ?_⟩
  exact ⟨T, n, c2, e1, e2, _, t2, r1.rv.mono f2 t1, r2.rv, h2, fun z hz v H' s r => q z c2 hz v H' (f1.trans (f2.trans (frT_same s))) (tw_same t2 s) (rf_trans (c' := c2) r (f1.trans f2) hS.tow)⟩
theorem de_op {op : Operator} {r : En → En → (En → Prop) → Prop} (ho : OpR X (binaryOp op) (RL X.K r)) (ha : PE X a (LE X.K da)) (hb : PE X b (LE X.K db)) : PE X (.BinOp a op b pos) (LE X.K (dOp r da db)) :=
  PE.le (pe_op ho ha hb) fun _ _ _ h => two_le h
theorem de_un {op : UnaryOp} {r : En → (En → Prop) → Prop} (ho : UnR X (unaryOp op) (RU X.K r)) (ha : PE X a (LE X.K da)) : PE X (.UnaryOp op a pos) (LE X.K (dUn r da)) := by
  refine PE.le (pe_un ho ha) fun σ H Q h => ?_
  obtain ⟨T, n, S, c, k, hS, h, q⟩ := h
  refine ⟨T, n, S, c, _, hS, h, fun e1 c1 h1 v1 H1 f1 t1 r1 => ?_⟩
  exact ⟨T, n, c1, e1, _, t1, r1.rv, h1, fun z hz v H' s r => q z c1 hz v H' (f1.trans (frT_same s)) (tw_same t1 s) (rf_trans (c' := c1) r f1 hS.tow)⟩
theorem da_nil : PA X [] (LA X.K dNil) := by
  refine PA.le pa_nil fun σ H Q h => ?_
  obtain ⟨T, n, S, c, k, hS, h, q⟩ := h
  exact q _ _ h [] H (.refl _ _) hS.tow .nil
theorem RfAll.mono {K : PySem.W.Frag} {T : Option Addr} {n : Nat} {c : Cn} {H H1 H2 : Hp} : ∀ {vs : List V} {es : List En}, RfAll K T H1 H2 vs es → FrT T H H1 → Tw T n c H → RfAll K T H H2 vs es
  | _, _, .nil, _, _ => .nil
  | _, _, .cons r rs, f, t => .cons (rf_trans (c' := c) r f t) (RfAll.mono rs f t)
theorem da_cons {e : Expr} {es : List Expr} {dr : DA} (ha : PE X e (LE X.K da)) (hr : PA X es (LA X.K dr)) (hs : starEach (e :: es) X.env = (false, eval e X.env) :: starEach es X.env := by rfl) : PA X (e :: es) (LA X.K (dCons da dr)) := by
  refine PA.le (pa_cons ha hr hs) fun σ H Q h => ?_
  obtain ⟨T, n, S, c, k, hS, h, q⟩ := h
  refine ⟨T, n, S, c, _, hS, h, fun e1 c1 h1 v1 H1 f1 t1 r1 => ?_⟩
  refine ⟨T, n, S, c1, _, hS.mono f1 t1, h1, fun e2 c2 h2 v2 H2 f2 t2 r2 => ?_⟩
  exact q _ _ h2 _ H2 (f1.trans f2) t2 (.cons (rf_mono r1 f2 t1) (RfAll.mono r2 f1 hS.tow))
theorem ims_all {K : PySem.W.Frag} {T : Option Addr} {H H' : Hp} : ∀ {vs : List V} {es : List En} {ds : List PyData}, RfAll K T H H' vs es → imsOf es = some ds → RpAll K H' vs ds
  | _, _, _, .nil, e => by cases e; exact .nil
  | _, _, ds, .cons (e := .im d) (es := es) r rs, e => by
    simp only [imsOf] at e
    cases z : imsOf es with
    | none => rw [z] at e; cases e
    | some ds' =>
      rw [z] at e
      cases e
      exact .cons r.rv (ims_all rs z)
  | _, _, _, .cons (e := .own _) r rs, e => by cases e
  | _, _, _, .cons (e := .ro _) r rs, e => by cases e
  | _, _, _, .cons (e := .sc _) r rs, e => by cases e
  | _, _, _, .cons (e := .tw) r rs, e => by cases e
  | _, _, _, .cons (e := .ses _) r rs, e => by cases e
  | _, _, _, .cons (e := .sp _ _) r rs, e => by cases e
theorem rp_tup {K : PySem.W.Frag} {H : Hp} {p : Addr} {vs : List V} {ds : List PyData} (hp : H p = none) (r : RpAll K H vs ds) : Rp K (upd H p (.tup vs)) (.ref p) (.tuple ds) :=
  .tup upd_same (RpAll.ke (fun b o e => .inr ((same_upd hp).sm b o e)) _ _ r)
theorem rf_own {K : PySem.W.Frag} {T : Option Addr} {n : Nat} {c : Cn} {H : Hp} {p : Addr} {vs : List V} {ds : List PyData} (hp : H p = none) (r : RpAll K H vs ds) (t : Tw T n c H) : Rf K T H (upd H p (.lst vs)) (.ref p) (.own ds) := by
  have r' : RpAll K (upd H p (.lst vs)) vs ds := RpAll.ke (fun b o e => .inr ((same_upd hp).sm b o e)) _ _ r
  exact ⟨⟨p, vs, rfl, nt_new t hp, upd_same, r'⟩, ⟨p, vs, rfl, hp, upd_same, r'⟩⟩
theorem de_tup {x1} {es : List Expr} {dr : DA} (h : PA X es (LA X.K dr)) : PE X (.Tuple es x1 pos) (LE X.K (dTup dr)) := by
  refine PE.le (pe_tup h) fun σ H Q h => ?_
  obtain ⟨T, n, S, c, k, hS, h, q⟩ := h
  refine ⟨T, n, S, c, _, hS, h, fun es c1 h1 vs H1 f1 t1 r1 => ?_⟩
  split at h1
  · rename_i ds e
    have ra := ims_all r1 e
    refine ⟨?_, fun p hp => q _ _ h1.2 _ _ (f1.trans (frT_same (same_upd hp))) (tw_same t1 (same_upd hp)) ⟨rp_tup hp ra, trivial⟩⟩
    rw [ra.len, sizeLine_eq]
    exact Nat.le_trans h1.1 (by decide)
  · exact h1.elim
theorem de_lst {es : List Expr} {dr : DA} (h : PA X es (LA X.K dr)) : PE X (.List es pos) (LE X.K (dLst dr)) := by
  refine PE.le (pe_lst h) fun σ H Q h => ?_
  obtain ⟨T, n, S, c, k, hS, h, q⟩ := h
  refine ⟨T, n, S, c, _, hS, h, fun es c1 h1 vs H1 f1 t1 r1 => ?_⟩
  split at h1
  · rename_i ds e
    have ra := ims_all r1 e
    refine ⟨?_, fun p hp => q _ _ h1.2 _ _ (f1.trans (frT_same (same_upd hp))) (tw_same t1 (same_upd hp)) (rf_trans (c' := c) (rf_own hp ra t1) f1 hS.tow)⟩
    rw [ra.len, sizeLine_eq]
    exact Nat.le_trans h1.1 (by decide)
  · exact h1.elim

end
/-! ## Operators -/
section
variable {X : Cx}
theorem OpR.le {f : Value → Value → Sem Value} {r r' : R2} (h : OpR X f r) (k : ∀ x y H Q, r' x y H Q → r x y H Q) : OpR X f r' := fun p s σ H x y v u Q I rx ry q => h p s σ H x y v u Q I rx ry (k x y H Q q)
theorem UnR.le {f : Value → Sem Value} {r r' : V → Hp → VK → Prop} (h : UnR X f r) (k : ∀ x H Q, r' x H Q → r x H Q) : UnR X f r' := fun p s σ H x v Q I rx q => h p s σ H x v Q I rx (k _ _ _ q)
theorem IxR.le {r r' : R2} (h : IxR X r) (k : ∀ x y H Q, r' x y H Q → r x y H Q) : IxR X r' := fun a b p s σ H x y v u Q I rx ry q hs => h a b p s σ H x y v u Q I rx ry (k x y H Q q) hs
theorem CallR.le {f : Value} {r r' : List V → Hp → VK → Prop} (h : CallR X f r) (k : ∀ x H Q, r' x H Q → r x H Q) : CallR X f r' := fun p s σ H x v Q I rx q => h p s σ H x v Q I rx (k x H Q q)
theorem same_refl (H : Hp) : SameN H H := ⟨fun _ _ h => h, fun _ _ _ _ h => h⟩
/-- an entry that is an int -/
def rInt (g : Int → Int → En) (C : Int → Int → Prop) : En → En → (En → Prop) → Prop
  | .im (.int i), .im (.int j), k => C i j ∧ k (g i j)
  | _, _, _ => False
theorem rInt_le {K : PySem.W.Frag} {C : Int → Int → Prop} {g : Int → Int → V} {d : Int → Int → PyData} (hg : ∀ i j H, Rp K H (g i j) (d i j)) {x y : V} {H : Hp} {Q : VK} (h : RL K (rInt (fun i j => .im (d i j)) C) x y H Q) : rI C g x y H Q := by
  obtain ⟨T, n, c, ex, ey, k, t, rx, ry, h, q⟩ := h
  unfold rInt at h
  split at h
  · cases rx
    cases ry
    exact ⟨_, _, rfl, rfl, h.1, q _ h.2 _ H (same_refl H) ⟨hg _ _ H, trivial⟩⟩
  · exact h.elim
theorem rI_of0 {C : Int → Int → Prop} {g : Int → Int → V} {x y : V} {H : Hp} {Q : VK} (h : rI C g x y H Q) : rI0 g x y H Q := by
  obtain ⟨i, j, e1, e2, _, q⟩ := h
  exact ⟨i, j, e1, e2, q⟩
def CT (_ _ : Int) : Prop := True
def rSub := rInt (fun i j => .im (.int (i - j))) CT
def rMul := rInt (fun i j => .im (.int (i * j))) CMulW
def rMod := rInt (fun i j => .im (.int (i.fmod j))) (fun _ j => j ≠ 0)
def rDiv := rInt (fun i j => .im (.int (i / j))) CDivW
def rPow := rInt (fun i j => .im (.int (i ^ j.toNat))) CPow
def rLt := rInt (fun i j => .im (.bool (decide (i < j)))) CT
def rLe := rInt (fun i j => .im (.bool (decide (i ≤ j)))) CT
def rGt := rInt (fun i j => .im (.bool (decide (j < i)))) CT
def rGe := rInt (fun i j => .im (.bool (decide (j ≤ i)))) CT
theorem od_sub : OpR X (binaryOp .Sub) (RL X.K rSub) := OpR.le op_sub fun _ _ _ _ h => rI_of0 (rInt_le (fun _ _ _ => .int _) h)
theorem od_mul : OpR X (binaryOp .Mult) (RL X.K rMul) := OpR.le op_mulW fun _ _ _ _ h => rInt_le (fun _ _ _ => .int _) h
theorem od_mod : OpR X (binaryOp .Mod) (RL X.K rMod) := OpR.le op_modN fun _ _ _ _ h => rInt_le (fun _ _ _ => .int _) h
theorem od_div : OpR X (binaryOp .FloorDiv) (RL X.K rDiv) := OpR.le op_fdivW fun _ _ _ _ h => rInt_le (fun _ _ _ => .int _) h
theorem od_pow : OpR X (binaryOp .Pow) (RL X.K rPow) := OpR.le op_pow fun _ _ _ _ h => rInt_le (fun _ _ _ => .int _) h
theorem od_lt : OpR X (compareOp .Lt) (RL X.K rLt) := OpR.le op_lt fun _ _ _ _ h => rI_of0 (rInt_le (fun _ _ _ => .bl _) h)
theorem od_le : OpR X (compareOp .LtE) (RL X.K rLe) := OpR.le op_le fun _ _ _ _ h => rI_of0 (rInt_le (fun _ _ _ => .bl _) h)
theorem od_gt : OpR X (compareOp .Gt) (RL X.K rGt) := OpR.le op_gt fun _ _ _ _ h => rI_of0 (rInt_le (fun _ _ _ => .bl _) h)
theorem od_ge : OpR X (compareOp .GtE) (RL X.K rGe) := OpR.le op_ge fun _ _ _ _ h => rI_of0 (rInt_le (fun _ _ _ => .bl _) h)
/-- a list's items, read -/
def lsOf : En → Option (List PyData)
  | .own xs => some xs
  | .ro xs => some xs
  | _ => none
theorem lsOf_rv {K : PySem.W.Frag} {T : Option Addr} {H : Hp} {v : V} {e : En} {xs : List PyData} (r : Rv K T H v e) (h : lsOf e = some xs) : ∃ a vs, v = .ref a ∧ Nt T H a ∧ H a = some (.lst vs) ∧ RpAll K H vs xs := by
  cases e with
  | im d => cases h
  | own ys => cases h; exact r
  | ro ys => cases h; exact r
  | sc ys => cases h
  | tw => cases h
  | ses a => cases h
  | sp a d => cases h
/-- a sum -/
def rAdd : En → En → (En → Prop) → Prop
  | .im (.int i), .im (.int j), k => k (.im (.int (i + j)))
  | .im (.str x), .im (.str y), k => x.length + y.length ≤ 100000 ∧ k (.im (.str (x ++ y)))
  | x, y, k => match lsOf x, lsOf y with
    | some xs, some ys => xs.length + ys.length ≤ 100000 ∧ k (.own (xs ++ ys))
    | _, _ => False
theorem line_of {n : Nat} (h : n ≤ 100000) : n ≤ sizeLine := by
  rw [sizeLine_eq]
  exact Nat.le_trans h (by decide)
theorem od_add : OpR X (binaryOp .Add) (RL X.K rAdd) := by
  refine OpR.le (L2.OpR.or op_add (L2.OpR.or op_add_str op_cat)) fun x y H Q h => ?_
  obtain ⟨T, n, c, ex, ey, k, t, rx, ry, h, q⟩ := h
  unfold rAdd at h
  split at h
  · cases rx
    cases ry
    exact .inl ⟨_, _, rfl, rfl, q _ h _ H (same_refl H) ⟨.int _, trivial⟩⟩
  · cases rx
    cases ry
    exact .inr (.inl ⟨_, _, rfl, rfl, line_of h.1, q _ h.2 _ H (same_refl H) ⟨.str _, trivial⟩⟩)
  · split at h
    · rename_i xs ys e1 e2
      obtain ⟨a, vs, rfl, n1, s1, r1⟩ := lsOf_rv rx e1
      obtain ⟨b, ws, rfl, n2, s2, r2⟩ := lsOf_rv ry e2
      refine .inr (.inr ⟨a, b, vs, ws, rfl, rfl, s1, s2, ?_, fun p hp => q _ h.2 _ _ (same_upd hp) (rf_own hp (r1.append r2) t)⟩)
      rw [r1.len, r2.len]
      exact line_of h.1
    · exact h.elim
def rNeg : En → (En → Prop) → Prop
  | .im (.int i), k => k (.im (.int (-i)))
  | _, _ => False
theorem ud_neg : UnR X (unaryOp .USub) (RU X.K rNeg) := by
  refine UnR.le un_neg fun x H Q h => ?_
  obtain ⟨T, n, c, ex, k, t, rx, h, q⟩ := h
  unfold rNeg at h
  split at h
  · cases rx
    exact ⟨_, rfl, q _ h _ H (same_refl H) ⟨.int _, trivial⟩⟩
  · exact h.elim
/-- == and != -/
def dpOf : En → Option PyData
  | .im d => some d
  | .own xs => some (.list xs)
  | .ro xs => some (.list xs)
  | .sc xs => some (.list xs)
  | _ => none
def Shp (d : PyData) : Prop := SeqAt.shaped d = true
def rEq (f : Bool → Bool) : En → En → (En → Prop) → Prop := fun x y k => match dpOf x, dpOf y with
  | some d, some e => Shp d ∧ Shp e ∧ k (.im (.bool (f (PyData.eqv d e))))
  | _, _ => False
theorem dpOf_dp {K : PySem.W.Frag} {T : Option Addr} {H : Hp} {v : V} {e : En} {d : PyData} (r : Rv K T H v e) (h : dpOf e = some d) : Dp K H v d := by
  cases e with
  | im d => cases h; exact Rp.dp _ _ r
  | own xs => cases h; obtain ⟨a, vs, rfl, _, s, r⟩ := r; exact .lst (.inl (.inl s)) (RpAll.dp _ _ r)
  | ro xs => cases h; obtain ⟨a, vs, rfl, _, s, r⟩ := r; exact .lst (.inl (.inl s)) (RpAll.dp _ _ r)
  | sc xs => cases h; obtain ⟨a, vs, rfl, s, r⟩ := r; exact .lst s.sq (RpAll.dp _ _ r)
  | tw => cases h
  | ses a => cases h
  | sp a d => cases h
theorem od_eq (hu : X.A.units + 64 < cLine) : OpR X (compareOp .Eq) (RL X.K (rEq id)) := by
  refine OpR.le (op_eqD hu) fun x y H Q h => ?_
  obtain ⟨T, n, c, ex, ey, k, t, rx, ry, h, q⟩ := h
  unfold rEq at h
  split at h
  · rename_i d e e1 e2
    exact ⟨d, e, dpOf_dp rx e1, dpOf_dp ry e2, h.1, h.2.1, q _ h.2.2 _ H (same_refl H) ⟨.bl _, trivial⟩⟩
  · exact h.elim
theorem od_ne (hu : X.A.units + 64 < cLine) : OpR X (compareOp .NotEq) (RL X.K (rEq not)) := by
  refine OpR.le (op_neD hu) fun x y H Q h => ?_
  obtain ⟨T, n, c, ex, ey, k, t, rx, ry, h, q⟩ := h
  unfold rEq at h
  split at h
  · rename_i d e e1 e2
    exact ⟨d, e, dpOf_dp rx e1, dpOf_dp ry e2, h.1, h.2.1, q _ h.2.2 _ H (same_refl H) ⟨.bl _, trivial⟩⟩
  · exact h.elim
/-- is None, is not None -/
def rIsN (f : Bool → Bool) : En → En → (En → Prop) → Prop
  | .im .none, .im .none, k => k (.im (.bool (f true)))
  | .im (.int _), .im .none, k => k (.im (.bool (f false)))
  | .im (.tuple _), .im .none, k => k (.im (.bool (f false)))
  | .im (.bool _), .im .none, k => k (.im (.bool (f false)))
  | .im (.str _), .im .none, k => k (.im (.bool (f false)))
  | _, _, _ => False
theorem od_isN : OpR X (compareOp .Is) (RL X.K (rIsN id)) := by
  refine OpR.le op_isN fun x y H Q h => ?_
  obtain ⟨T, n, c, ex, ey, k, t, rx, ry, h, q⟩ := h
  unfold rIsN at h
  split at h
  all_goals first
    | exact h.elim
    | (cases ry; cases rx; exact ⟨rfl, q _ h _ H (same_refl H) ⟨.bl _, trivial⟩⟩)
theorem od_notN : OpR X (compareOp .IsNot) (RL X.K (rIsN not)) := by
  refine OpR.le op_notN fun x y H Q h => ?_
  obtain ⟨T, n, c, ex, ey, k, t, rx, ry, h, q⟩ := h
  unfold rIsN at h
  split at h
  all_goals first
    | exact h.elim
    | (cases ry; cases rx; exact ⟨rfl, q _ h _ H (same_refl H) ⟨.bl _, trivial⟩⟩)
variable {a b cc : Expr} {da db dc : DE} {pos : Pos}
theorem de_cmp {op : CmpOp} {r : En → En → (En → Prop) → Prop} (ho : OpR X (compareOp op) (RL X.K r)) (ha : PE X a (LE X.K da)) (hb : PE X b (LE X.K db)) (hm : behindInMarks op b = false) : PE X (.Compare a [op] [b] pos) (LE X.K (dOp r da db)) :=
  PE.le (pe_cmpR ho ha hb hm) fun _ _ _ h => two_le h
/-- an item -/
def sqOf : En → Option (List PyData)
  | .own xs => some xs
  | .ro xs => some xs
  | .im (.tuple xs) => some xs
  | _ => none
def rIx : En → En → (En → Prop) → Prop
  | x, .im (.int i), k => match sqOf x with
    | some xs => match atI xs i with
      | some d => k (.im d)
      | none => False
    | none => False
  | _, _, _ => False
theorem sqOf_rv {K : PySem.W.Frag} {T : Option Addr} {H : Hp} {v : V} {e : En} {xs : List PyData} (r : Rv K T H v e) (h : sqOf e = some xs) : ∃ a vs, v = .ref a ∧ RpAll K H vs xs ∧ ((Nt T H a ∧ SqL K H a vs) ∨ (SqT K H a vs ∧ H a = some (.tup vs))) := by
  cases e with
  | im d =>
    cases d with
    | tuple ds =>
      cases h
      cases r with
      | tup s r => exact ⟨_, _, rfl, r, .inr ⟨.inl (.inl s), s⟩⟩
    | _ => cases h
  | own ys =>
    cases h
    obtain ⟨a, vs, rfl, n1, s1, r1⟩ := r
    exact ⟨a, vs, rfl, r1, .inl ⟨n1, .inl (.inl s1)⟩⟩
  | ro ys =>
    cases h
    obtain ⟨a, vs, rfl, n1, s1, r1⟩ := r
    exact ⟨a, vs, rfl, r1, .inl ⟨n1, .inl (.inl s1)⟩⟩
  | sc ys => cases h
  | tw => cases h
  | ses a => cases h
  | sp a d => cases h
theorem atI_rp {K : PySem.W.Frag} {H : Hp} {vs : List V} {ds : List PyData} {i : Int} {d : PyData} (r : RpAll K H vs ds) (h : atI ds i = some d) : ∃ v, atI vs i = some v ∧ Rp K H v d := by
  unfold atI at h ⊢
  rw [r.len]
  cases e : ixN ds.length i with
  | none => rw [e] at h; cases h
  | some j =>
    rw [e] at h
    exact r.get h
theorem xd_ix : IxR X (RL X.K rIx) := by
  refine IxR.le ix_seq fun x y H Q h => ?_
  obtain ⟨T, n, c, ex, ey, k, t, rx, ry, h, q⟩ := h
  unfold rIx at h
  split at h
  · cases ry
    split at h
    · rename_i xs e1
      split at h
      · rename_i d e2
        obtain ⟨a, ws, rfl, r2, s2⟩ := sqOf_rv rx e1
        obtain ⟨v, e3, r3⟩ := atI_rp r2 e2
        rcases s2 with ⟨n1, s1⟩ | ⟨s1, s1'⟩
        · exact .inl ⟨_, _, _, v, rfl, rfl, s1, e3, q _ h _ H (same_refl H) ⟨r3, trivial⟩⟩
        · exact .inr (.inl ⟨_, _, _, v, rfl, rfl, s1, e3, q _ h _ H (same_refl H) ⟨r3, trivial⟩⟩)
      · exact h.elim
    · exact h.elim
  · exact h.elim
theorem de_ix (ha : PE X a (LE X.K da)) (hb : PE X b (LE X.K db)) (hs : PlainIx b) : PE X (.Subscript a b pos) (LE X.K (dOp rIx da db)) := PE.le (pe_ix xd_ix ha hb hs) fun _ _ _ h => two_le h
/-! ### tests, and, or, not, if -/
def dTest (de : DE) : DT := fun S c k => de S c fun x c1 => match x with
  | .im (.bool b) => k b c1
  | _ => False
def dAnd (t u : DT) : DT := fun S c k => t S c fun b c1 => if b = true then u S c1 k else k false c1
def dOr (t u : DT) : DT := fun S c k => t S c fun b c1 => if b = true then k true c1 else u S c1 k
def dNot (t : DT) : DT := fun S c k => t S c fun b c1 => k (!b) c1
def dAndV (da db : DE) : DE := fun S c k => da S c fun x c1 => match x with
  | .im (.bool b) => if b = true then db S c1 k else k (.im (.bool false)) c1
  | _ => False
def dOrV (da db : DE) : DE := fun S c k => da S c fun x c1 => match x with
  | .im (.bool b) => if b = true then k (.im (.bool true)) c1 else db S c1 k
  | _ => False
def dNotV (da : DE) : DE := fun S c k => da S c fun x c1 => match x with
  | .im (.bool b) => k (.im (.bool (!b))) c1
  | _ => False
def dIf (t : DT) (da db : DE) : DE := fun S c k => t S c fun b c1 => if b = true then da S c1 k else db S c1 k
theorem test_le {de : DE} {σ : St} {H : Hp} {Q : Bool → Hp → Prop} {K : PySem.W.Frag} (h : LT K (dTest de) σ H Q) : tB (LE K de) σ H Q := by
  obtain ⟨T, n, S, c, k, hS, h, q⟩ := h
  refine ⟨T, n, S, c, _, hS, h, fun e1 c1 h1 v1 H1 f1 t1 r1 => ?_⟩
  split at h1
  · cases r1.rv
    exact ⟨_, rfl, q _ _ h1 H1 f1 t1⟩
  · exact h1.elim
theorem dt_val {e : Expr} (h : PE X e (LE X.K da)) (he : ∀ whole, isTrue e X.env whole = (do let v ← whole; standAt e.pos; holding [v] (truthy v)) := by intro _; rfl) : PT X e (LT X.K (dTest da)) :=
  PT.le (pt_val h he) fun _ _ _ h => test_le h
theorem dt_cmp {op : CmpOp} {r : En → En → (En → Prop) → Prop} (ho : OpR X (compareOp op) (RL X.K r)) (ha : PE X a (LE X.K da)) (hb : PE X b (LE X.K db)) (hm : behindInMarks op b = false) : PT X (.Compare a [op] [b] pos) (LT X.K (dTest (dOp r da db))) := by
  refine PT.le (pt_cmpR ho ha hb hm) fun σ H Q h => ?_
  obtain ⟨T, n, S, c, k, hS, h, q⟩ := h
  refine two_le (da := da) (db := db) (r := r) ⟨T, n, S, c, _, hS, h, fun e1 c1 h1 v1 H1 f1 t1 r1 => ?_⟩
  split at h1
  · cases r1.rv
    exact ⟨_, rfl, q _ _ h1 H1 f1 t1⟩
  · exact h1.elim
variable {t1 t2 : DT} {rest : List Expr}
theorem dw_and1 (ha : PT X a (LT X.K t1)) : PW X (.BoolOp .And [a] pos) (LT X.K t1) := pw_and1 ha
theorem dw_or1 (ha : PT X a (LT X.K t1)) : PW X (.BoolOp .Or [a] pos) (LT X.K t1) := pw_or1 ha
theorem dw_and (ha : PT X a (LT X.K t1)) (hb : PW X (.BoolOp .And (b :: rest) pos) (LT X.K t2)) : PW X (.BoolOp .And (a :: b :: rest) pos) (LT X.K (dAnd t1 t2)) := by
  refine PW.le (pw_and ha hb) fun σ H Q h => ?_
  obtain ⟨T, n, S, c, k, hS, h, q⟩ := h
  refine ⟨T, n, S, c, _, hS, h, fun b c1 h1 H1 f1 t1 => ?_⟩
  cases b with
  | true => exact ⟨T, n, S, c1, _, hS.mono f1 t1, h1, fun b2 c2 h2 H2 f2 t2 => q _ _ h2 H2 (f1.trans f2) t2⟩
  | false => exact q _ _ h1 H1 f1 t1
theorem dw_or (ha : PT X a (LT X.K t1)) (hb : PW X (.BoolOp .Or (b :: rest) pos) (LT X.K t2)) : PW X (.BoolOp .Or (a :: b :: rest) pos) (LT X.K (dOr t1 t2)) := by
  refine PW.le (pw_or ha hb) fun σ H Q h => ?_
  obtain ⟨T, n, S, c, k, hS, h, q⟩ := h
  refine ⟨T, n, S, c, _, hS, h, fun b c1 h1 H1 f1 t1 => ?_⟩
  cases b with
  | true => exact q _ _ h1 H1 f1 t1
  | false => exact ⟨T, n, S, c1, _, hS.mono f1 t1, h1, fun b2 c2 h2 H2 f2 t2 => q _ _ h2 H2 (f1.trans f2) t2⟩
theorem dt_not (ha : PT X a (LT X.K t1)) : PT X (.UnaryOp .Not a pos) (LT X.K (dNot t1)) := by
  refine PT.le (pt_not ha) fun σ H Q h => ?_
  obtain ⟨T, n, S, c, k, hS, h, q⟩ := h
  exact ⟨T, n, S, c, _, hS, h, fun b c1 h1 H1 f1 t1 => q _ _ h1 H1 f1 t1⟩
theorem de_and (ha : PE X a (LE X.K da)) (hb : PE X (.BoolOp .And (b :: rest) pos) (LE X.K db)) : PE X (.BoolOp .And (a :: b :: rest) pos) (LE X.K (dAndV da db)) := by
  refine PE.le (pe_and ha hb) fun σ H Q h => ?_
  obtain ⟨T, n, S, c, k, hS, h, q⟩ := h
  refine ⟨T, n, S, c, _, hS, h, fun e1 c1 h1 v1 H1 f1 t1 r1 => ?_⟩
  split at h1
  · rename_i b1
    cases r1.rv
    refine ⟨_, rfl, ?_⟩
    cases b1 with
    | true => exact ⟨T, n, S, c1, _, hS.mono f1 t1, h1, fun e2 c2 h2 v2 H2 f2 t2 r2 => q _ _ h2 v2 H2 (f1.trans f2) t2 (rf_trans (c' := c2) r2 f1 hS.tow)⟩
    | false => exact q _ _ h1 _ H1 f1 t1 ⟨.bl _, trivial⟩
  · exact h1.elim
theorem de_or (ha : PE X a (LE X.K da)) (hb : PE X (.BoolOp .Or (b :: rest) pos) (LE X.K db)) : PE X (.BoolOp .Or (a :: b :: rest) pos) (LE X.K (dOrV da db)) := by
  refine PE.le (pe_or ha hb) fun σ H Q h => ?_
  obtain ⟨T, n, S, c, k, hS, h, q⟩ := h
  refine ⟨T, n, S, c, _, hS, h, fun e1 c1 h1 v1 H1 f1 t1 r1 => ?_⟩
  split at h1
  · rename_i b1
    cases r1.rv
    refine ⟨_, rfl, ?_⟩
    cases b1 with
    | true => exact q _ _ h1 _ H1 f1 t1 ⟨.bl _, trivial⟩
    | false => exact ⟨T, n, S, c1, _, hS.mono f1 t1, h1, fun e2 c2 h2 v2 H2 f2 t2 r2 => q _ _ h2 v2 H2 (f1.trans f2) t2 (rf_trans (c' := c2) r2 f1 hS.tow)⟩
  · exact h1.elim
theorem de_one {op} (h : PE X a (LE X.K da)) : PE X (.BoolOp op [a] pos) (LE X.K da) := pe_one h
theorem de_not (ha : PE X a (LE X.K da)) : PE X (.UnaryOp .Not a pos) (LE X.K (dNotV da)) := by
  refine PE.le (pe_not ha) fun σ H Q h => ?_
  obtain ⟨T, n, S, c, k, hS, h, q⟩ := h
  refine ⟨T, n, S, c, _, hS, h, fun e1 c1 h1 v1 H1 f1 t1 r1 => ?_⟩
  split at h1
  · cases r1.rv
    exact ⟨_, rfl, q _ _ h1 _ H1 f1 t1 ⟨.bl _, trivial⟩⟩
  · exact h1.elim
theorem de_if {c : Expr} (hc : PT X c (LT X.K t1)) (ha : PE X a (LE X.K da)) (hb : PE X b (LE X.K db)) : PE X (.IfExp c a b pos) (LE X.K (dIf t1 da db)) := by
  refine PE.le (pe_ifExp hc ha hb) fun σ H Q h => ?_
  obtain ⟨T, n, S, c, k, hS, h, q⟩ := h
  refine ⟨T, n, S, c, _, hS, h, fun b c1 h1 H1 f1 t1 => ?_⟩
  cases b with
  | true => exact ⟨T, n, S, c1, _, hS.mono f1 t1, h1, fun e2 c2 h2 v2 H2 f2 t2 r2 => q _ _ h2 v2 H2 (f1.trans f2) t2 (rf_trans (c' := c2) r2 f1 hS.tow)⟩
  | false => exact ⟨T, n, S, c1, _, hS.mono f1 t1, h1, fun e2 c2 h2 v2 H2 f2 t2 r2 => q _ _ h2 v2 H2 (f1.trans f2) t2 (rf_trans (c' := c2) r2 f1 hS.tow)⟩
/-- a < b < c -/
def dChain (r r' : En → En → (En → Prop) → Prop) (da db dc : DE) : DE := fun S c k => da S c fun x c1 => db S c1 fun y c2 => r x y fun z => match z with
  | .im (.bool b) => if b = true then dc S c2 fun w c3 => r' y w fun z => k z c3 else k (.im (.bool false)) c2
  | _ => False
theorem chain_le {r r' : En → En → (En → Prop) → Prop} {σ : St} {H : Hp} {Q : VK} {K : PySem.W.Frag} (h : LE K (dChain r r' da db dc) σ H Q) : tChain (RL K r) (RL K r') (LE K da) (LE K db) (LE K dc) σ H Q := by
  obtain ⟨T, n, S, c, k, hS, h, q⟩ := h
  refine ⟨T, n, S, c, _, hS, h, fun e1 c1 h1 v1 H1 f1 t1 r1 => ?_⟩
  refine ⟨T, n, S, c1, _, hS.mono f1 t1, h1, fun e2 c2 h2 v2 H2 f2 t2 r2 => ?_⟩
  refine ⟨T, n, c2, e1, e2, _, t2, r1.rv.mono f2 t1, r2.rv, h2, fun z hz v H3 s3 r3 => ?_⟩
  have t3 := tw_same t2 s3
  have f3 : FrT T H H3 := f1.trans (f2.trans (frT_same s3))
  split at hz
  · rename_i b
    cases r3.rv
    refine ⟨_, rfl, ?_⟩
    cases b with
    | true =>
      refine ⟨T, n, S, c2, _, hS.mono f3 t3, hz, fun e4 c4 h4 v4 H4 f4 t4 r4 => ?_⟩
      exact ⟨T, n, c4, e2, e4, _, t4, (r2.rv.mono (frT_same s3) t2).mono f4 t3, r4.rv, h4, fun z hz v H' s r => q z c4 hz v H' (f3.trans (f4.trans (frT_same s))) (tw_same t4 s) (rf_trans (c' := c4) r (f3.trans f4) hS.tow)⟩
    | false => exact q _ _ hz _ H3 f3 t3 ⟨.bl _, trivial⟩
  · exact hz.elim
theorem de_chain {op op' : CmpOp} {r r' : En → En → (En → Prop) → Prop} (ho : OpR X (compareOp op) (RL X.K r)) (ho' : OpR X (compareOp op') (RL X.K r')) (ha : PE X a (LE X.K da)) (hb : PE X b (LE X.K db)) (hc : PE X cc (LE X.K dc))
    (hm : lastMarks [op, op'] [b, cc] = false := by with_unfolding_all rfl) : PE X (.Compare a [op, op'] [b, cc] pos) (LE X.K (dChain r r' da db dc)) := PE.le (pe_chain ho ho' ha hb hc hm) fun _ _ _ h => chain_le h
theorem dt_chain {op op' : CmpOp} {r r' : En → En → (En → Prop) → Prop} (ho : OpR X (compareOp op) (RL X.K r)) (ho' : OpR X (compareOp op') (RL X.K r')) (ha : PE X a (LE X.K da)) (hb : PE X b (LE X.K db)) (hc : PE X cc (LE X.K dc))
    (hm : lastMarks [op, op'] [b, cc] = false := by with_unfolding_all rfl) : PT X (.Compare a [op, op'] [b, cc] pos) (LT X.K (dTest (dChain r r' da db dc))) := by
  refine PT.le (pt_chain ho ho' ha hb hc hm) fun σ H Q h => ?_
  obtain ⟨T, n, S, c, k, hS, h, q⟩ := h
  refine chain_le (da := da) (db := db) (dc := dc) (r := r) (r' := r') ⟨T, n, S, c, _, hS, h, fun e1 c1 h1 v1 H1 f1 t1 r1 => ?_⟩
  split at h1
  · cases r1.rv
    exact ⟨_, rfl, q _ _ h1 H1 f1 t1⟩
  · exact h1.elim
end
/-! ## Calls -/
/-- what is handed to a def: a list is read there -/
def view : En → En
  | .own xs => .ro xs
  | e => e
abbrev FT := List En → Cn → (En → Cn → Prop) → Prop
inductive RvAll (K : PySem.W.Frag) (T : Option Addr) (H : Hp) : List V → List En → Prop
  | nil : RvAll K T H [] []
  | cons {v vs e es} : Rv K T H v e → (∀ xs, e ≠ .own xs) → RvAll K T H vs es → RvAll K T H (v :: vs) (e :: es)
theorem RfAll.view {K : PySem.W.Frag} {T : Option Addr} {H H' : Hp} : ∀ {vs : List V} {es : List En}, RfAll K T H H' vs es → RvAll K T H' vs (es.map view)
  | _, _, .nil => .nil
  | _, _, .cons (e := .im _) r rs => .cons r.rv (fun _ h => by cases h) (RfAll.view rs)
  | _, _, .cons (e := .own _) r rs => .cons r.rv (fun _ h => by cases h) (RfAll.view rs)
  | _, _, .cons (e := .ro _) r rs => .cons r.rv (fun _ h => by cases h) (RfAll.view rs)
  | _, _, .cons (e := .sc _) r rs => .cons r.rv (fun _ h => by cases h) (RfAll.view rs)
  | _, _, .cons (e := .tw) r rs => .cons r.rv (fun _ h => by cases h) (RfAll.view rs)
  | _, _, .cons (e := .ses _) r rs => .cons r.rv (fun _ h => by cases h) (RfAll.view rs)
  | _, _, .cons (e := .sp _ _) r rs => .cons r.rv (fun _ h => by cases h) (RfAll.view rs)
/-- the promise of a def, by entries -/
def spD (K : PySem.W.Frag) (F : FT) : Sp := fun vs H Q _ => ∃ T n c es k, Tw T n c H ∧ RvAll K T H vs es ∧ F es c k ∧ ∀ e c', k e c' → ∀ v H', FrT T H H' → Tw T n c' H' → Rf K T H H' v e → Q v H'
def dCall (F : FT) (da : DA) : DE := fun S c k => da S c fun es c1 => F (es.map view) c1 k
section
variable {X : Cx} {e : Expr} {es : List Expr} {da : DA} {pos p : Pos} {x : Str} {f : Addr} {fd : FuncData} {ps : List Str} {F : FT} {k : Nat}
theorem de_call (G : FnOk X.prog X.w X.K X.mg X.base CX0 k f fd ps (spD X.K F)) (hr : Room k X.A) (hg : Gl X x) (hm : X.mg x = some (.ref f)) (hk : PySem.W.keepIn X.K (.ref f) = true) (hb : Binds X.K fd ps [])
    (ha : PA X (e :: es) (LA X.K da)) (hdb : (x == ("__debug__" : Str)) = false := by decide) (he : starEach (e :: es) X.env = (false, eval e X.env) :: starEach es X.env := by rfl) (hpl : (backTo pos (starEach es X.env)).any (·.1) = false := by rfl) :
    PE X (.Call (.Name x p) (e :: es) [] pos) (LE X.K (dCall F da)) := by
  refine PE.le (pe_call G hr hg hm hk hb .nil pass0 ha hdb he hpl) fun σ H Q h => ?_
  obtain ⟨T, n, S, c, k, hS, h, q⟩ := h
  refine ⟨T, n, S, c, _, hS, h, fun es c1 h1 vs H1 f1 t1 r1 => ?_⟩
  show spD X.K F (vs ++ []) H1 Q E0
  rw [List.append_nil]
  exact ⟨T, n, c1, _, k, t1, r1.view, h1, fun e c' hk v H' f2 t2 r2 => q e c' hk v H' (f1.trans f2) t2 (rf_trans (c' := c1) r2 f1 hS.tow)⟩
/-- a built-in function or class by entries -/
def RC (K : PySem.W.Frag) (r : List En → (En → Prop) → Prop) : List V → Hp → VK → Prop := fun vs H Q => ∃ T n c es k, Tw T n c H ∧ RvAll K T H vs es ∧ r es k ∧ ∀ z, k z → ∀ v H', SameN H H' → Rf K T H H' v z → Q v H'
def dCB (r : List En → (En → Prop) → Prop) (da : DA) : DE := fun S c k => da S c fun es c1 => r (es.map view) fun z => k z c1
theorem cb_le {r : List En → (En → Prop) → Prop} {σ : St} {H : Hp} {Q : VK} {K : PySem.W.Frag} (h : LE K (dCB r da) σ H Q) : tCB (RC K r) (LA K da) σ H Q := by
  obtain ⟨T, n, S, c, k, hS, h, q⟩ := h
  refine ⟨T, n, S, c, _, hS, h, fun es c1 h1 vs H1 f1 t1 r1 => ?_⟩
  exact ⟨T, n, c1, _, _, t1, r1.view, h1, fun z hz v H' s r => q z c1 hz v H' (f1.trans (frT_same s)) (tw_same t1 s) (rf_trans (c' := c1) r f1 hS.tow)⟩
theorem de_cb {id : String} {r : List En → (En → Prop) → Prop} (hc : CallR X (.builtin id) (RC X.K r)) (hg : Gl X x) (hm : X.mg x = none) (hv : bootBuiltins x = some (.builtin id)) (ha : PA X (e :: es) (LA X.K da)) (hn : x ≠ "__name__" := by decide) (hdb : (x == ("__debug__" : Str)) = false := by decide)
    (hs : starEach (e :: es) X.env = (false, eval e X.env) :: starEach es X.env := by rfl) (hpl : (backTo pos (starEach es X.env)).any (·.1) = false := by rfl) : PE X (.Call (.Name x p) (e :: es) [] pos) (LE X.K (dCB r da)) :=
  PE.le (pe_callB hc hg hm hv ha hn hdb hs hpl) fun _ _ _ h => cb_le h
theorem de_ty {id : String} {r : List En → (En → Prop) → Prop} (hc : CallR X (.type id) (RC X.K r)) (hg : Gl X x) (hm : X.mg x = none) (hv : bootBuiltins x = some (.type id)) (ha : PA X (e :: es) (LA X.K da)) (hn : x ≠ "__name__" := by decide) (hdb : (x == ("__debug__" : Str)) = false := by decide)
    (hs : starEach (e :: es) X.env = (false, eval e X.env) :: starEach es X.env := by rfl) (hpl : (backTo pos (starEach es X.env)).any (·.1) = false := by rfl) : PE X (.Call (.Name x p) (e :: es) [] pos) (LE X.K (dCB r da)) :=
  PE.le (pe_callTy hc hg hm hv ha hn hdb hs hpl) fun _ _ _ h => cb_le h
/-- len -/
def rLen : List En → (En → Prop) → Prop
  | [x], k => match sqOf x with
    | some xs => k (.im (.int xs.length))
    | none => False
  | _, _ => False
theorem cd_len : CallR X (.builtin "len") (RC X.K rLen) := by
  refine CallR.le call_len_seq fun vs H Q h => ?_
  obtain ⟨T, n, c, es, k, t, r, h, q⟩ := h
  unfold rLen at h
  split at h
  · cases r with
    | cons r1 _ rs =>
      cases rs
      split at h
      · rename_i xs e1
        obtain ⟨a, ws, rfl, r2, s2⟩ := sqOf_rv r1 e1
        refine ⟨_, _, rfl, s2.elim (fun z => .inl z.2) (fun z => .inr z.1), ?_⟩
        rw [r2.len]
        exact q _ h _ H (same_refl H) ⟨.int _, trivial⟩
      · exact h.elim
  · exact h.elim
def rAbs : List En → (En → Prop) → Prop
  | [.im (.int i)], k => k (.im (.int (if i < 0 then -i else i)))
  | _, _ => False
theorem cd_abs : CallR X (.builtin "abs") (RC X.K rAbs) := by
  refine CallR.le call_abs fun vs H Q h => ?_
  obtain ⟨T, n, c, es, k, t, r, h, q⟩ := h
  unfold rAbs at h
  split at h
  · cases r with
    | cons r1 _ rs =>
      cases rs
      cases r1
      exact ⟨_, rfl, q _ h _ H (same_refl H) ⟨.int _, trivial⟩⟩
  · exact h.elim
def rMax2 : List En → (En → Prop) → Prop
  | [.im (.int i), .im (.int j)], k => k (.im (.int (if j > i then j else i)))
  | _, _ => False
theorem cd_max2 (hc : X.calm = true) : CallR X (.builtin "max") (RC X.K rMax2) := by
  refine CallR.le (call_max2 hc) fun vs H Q h => ?_
  obtain ⟨T, n, c, es, k, t, r, h, q⟩ := h
  unfold rMax2 at h
  split at h
  · cases r with
    | cons r1 _ rs =>
      cases rs with
      | cons r2 _ rs =>
        cases rs
        cases r1
        cases r2
        exact ⟨_, _, rfl, q _ h _ H (same_refl H) ⟨.int _, trivial⟩⟩
  · exact h.elim
def rMin2 : List En → (En → Prop) → Prop
  | [.im (.int i), .im (.int j)], k => k (.im (.int (if j < i then j else i)))
  | _, _ => False
theorem cd_min2 (hc : X.calm = true) : CallR X (.builtin "min") (RC X.K rMin2) := by
  refine CallR.le (call_min2 hc) fun vs H Q h => ?_
  obtain ⟨T, n, c, es, k, t, r, h, q⟩ := h
  unfold rMin2 at h
  split at h
  · cases r with
    | cons r1 _ rs =>
      cases rs with
      | cons r2 _ rs =>
        cases rs
        cases r1
        cases r2
        exact ⟨_, _, rfl, q _ h _ H (same_refl H) ⟨.int _, trivial⟩⟩
  · exact h.elim
/-- tuple(..), list(..) -/
def rTupOf : List En → (En → Prop) → Prop
  | [x], k => match sqOf x with
    | some xs => xs.length ≤ 100000 ∧ k (.im (.tuple xs))
    | none => False
  | _, _ => False
theorem rp_newtup {K : PySem.W.Frag} {T : Option Addr} {H : Hp} {p : Addr} {vs : List V} {ds : List PyData} (hp : H p = none) (r : RpAll K H vs ds) : Rf K T H (upd H p (.tup vs)) (.ref p) (.im (.tuple ds)) := ⟨rp_tup hp r, trivial⟩
theorem cd_tuple : CallR X (.type "tuple") (RC X.K rTupOf) := by
  refine CallR.le call_tuple_of fun vs H Q h => ?_
  obtain ⟨T, n, c, es, k, t, r, h, q⟩ := h
  unfold rTupOf at h
  split at h
  · cases r with
    | cons r1 _ rs =>
      cases rs
      split at h
      · rename_i xs e1
        obtain ⟨a, ws, rfl, r2, s2⟩ := sqOf_rv r1 e1
        rcases s2 with ⟨n1, s1⟩ | ⟨s1, s1'⟩
        · exact ⟨_, _, rfl, .inl ⟨s1, fun p hp => q _ h.2 _ _ (same_upd hp) (rp_newtup hp r2)⟩⟩
        · exact ⟨_, _, rfl, .inr ⟨s1, q _ h.2 _ H (same_refl H) ⟨.tup s1' r2, trivial⟩⟩⟩
      · exact h.elim
  · exact h.elim
def rLstOf : List En → (En → Prop) → Prop
  | [.sc xs], k => k (.own xs)
  | [x], k => match sqOf x with
    | some xs => k (.own xs)
    | none => False
  | _, _ => False
theorem cd_list : CallR X (.type "list") (RC X.K rLstOf) := by
  refine CallR.le call_list_of fun vs H Q h => ?_
  obtain ⟨T, n, c, es, k, t, r, h, q⟩ := h
  unfold rLstOf at h
  split at h
  · cases r with
    | cons r1 _ rs =>
      cases rs
      obtain ⟨a, ws, rfl, s2, r2⟩ := r1
      exact ⟨_, _, rfl, .inl s2.sq, fun p hp => q _ h _ _ (same_upd hp) (rf_own hp r2 t)⟩
  · cases r with
    | cons r1 _ rs =>
      cases rs
      split at h
      · rename_i xs e1
        obtain ⟨a, ws, rfl, r2, s2⟩ := sqOf_rv r1 e1
        exact ⟨_, _, rfl, s2.elim (fun z => .inl z.2) (fun z => .inr z.1), fun p hp => q _ h _ _ (same_upd hp) (rf_own hp r2 t)⟩
      · exact h.elim
  · exact h.elim
/-- all, any of a list of truth values -/
def blsOf : List PyData → Option (List Bool)
  | [] => some []
  | .bool b :: xs => (blsOf xs).map (b :: ·)
  | _ :: _ => none
theorem blsOf_map : ∀ {xs : List PyData} {bs : List Bool}, blsOf xs = some bs → xs = bs.map PyData.bool
  | [], bs, h => by cases h; rfl
  | .bool b :: xs, bs, h => by
    simp only [blsOf] at h
    cases z : blsOf xs with
    | none => rw [z] at h; cases h
    | some cs => rw [z] at h; cases h; rw [blsOf_map z]; rfl
  | .none :: xs, bs, h => by cases h
  | .int _ :: xs, bs, h => by cases h
  | .str _ :: xs, bs, h => by cases h
  | .list _ :: xs, bs, h => by cases h
  | .tuple _ :: xs, bs, h => by cases h
  | .dict _ :: xs, bs, h => by cases h
def rAllB (f : List Bool → Bool) : List En → (En → Prop) → Prop
  | [x], k => match lsOf x with
    | some xs => match blsOf xs with
      | some bs => k (.im (.bool (f bs)))
      | none => False
    | none => False
  | _, _ => False
theorem allB_le {K : PySem.W.Frag} {f : List Bool → Bool} {vs : List V} {H : Hp} {Q : VK} (h : RC K (rAllB f) vs H Q) : ∃ (a : Addr) (bs : List Bool), vs = [V.ref a] ∧ SqL K H a (bs.map V.bl) ∧ Q (.bl (f bs)) H := by
  obtain ⟨T, n, c, es, k, t, r, h, q⟩ := h
  unfold rAllB at h
  split at h
  · cases r with
    | cons r1 _ rs =>
      cases rs
      split at h
      · rename_i xs e1
        split at h
        · rename_i bs e2
          obtain ⟨a, ws, rfl, n1, s1, r2⟩ := lsOf_rv r1 e1
          have e3 := blsOf_map e2
          subst e3
          have e4 := r2.bls
          subst e4
          exact ⟨a, bs, rfl, .inl (.inl s1), q _ h _ H (same_refl H) ⟨.bl _, trivial⟩⟩
        · exact h.elim
      · exact h.elim
  · exact h.elim
theorem cd_all (hc : X.calm = true) : CallR X (.builtin "all") (RC X.K (rAllB fun bs => bs.all id)) := CallR.le (cr_all hc) fun _ _ _ h => allB_le h
theorem cd_any (hc : X.calm = true) : CallR X (.builtin "any") (RC X.K (rAllB fun bs => bs.any id)) := CallR.le (cr_any hc) fun _ _ _ h => allB_le h
end
end ND
namespace ND
open PySem PySem.Spec L2
/-! ## Statements -/
structure DEnds where
  nx : Sl → Cn → Prop
  rt : En → Cn → Prop
  bk : Sl → Cn → Prop := fun _ _ => False
  ct : Sl → Cn → Prop := fun _ _ => False
abbrev DS := DEnds → Sl → Cn → Prop
/-- all but the town and the lists that are owned at the start stays -/
structure Fr0 (T : Option Addr) (S : Sl) (σ : SS) (H H' : Hp) : Prop where
  keep : ∀ b o, H b = some o → Nt T H b → ¬ Ow S σ b → H' b = some o
  trk : ∀ b, H' b = none → H b = none
  mu : ∀ b, Mu H' b → Mu H b ∨ H b = none
structure Fs (T : Option Addr) (S : Sl) (σ : SS) (H : Hp) (S' : Sl) (σ' : SS) (H' : Hp) : Prop extends Fr0 T S σ H H' where
  own : ∀ b, Ow S' σ' b → Ow S σ b ∨ H b = none
theorem Fr0.refl (T : Option Addr) (S : Sl) (σ : SS) (H : Hp) : Fr0 T S σ H H := ⟨fun _ _ h _ _ => h, fun _ h => h, fun _ h => .inl h⟩
theorem Fs.refl (T : Option Addr) (S : Sl) (σ : SS) (H : Hp) : Fs T S σ H S σ H := ⟨.refl _ _ _ _, fun _ h => .inl h⟩
theorem Fs.trans0 {T : Option Addr} {S S1 : Sl} {σ σ1 : SS} {H H1 H2 : Hp} (a : Fs T S σ H S1 σ1 H1) (b : Fr0 T S1 σ1 H1 H2) : Fr0 T S σ H H2 where
  keep := fun c o h n m => b.keep c o (a.keep c o h n m) ⟨n.1, fun y => (a.mu c y).elim n.2 fun z => by rw [h] at z; cases z⟩ fun z => (a.own c z).elim m fun q => by rw [h] at q; cases q
  trk := fun c h => a.trk c (b.trk c h)
  mu := fun c h => (b.mu c h).elim (a.mu c) fun z => .inr (a.trk c z)
theorem Fs.trans {T : Option Addr} {S S1 S2 : Sl} {σ σ1 σ2 : SS} {H H1 H2 : Hp} (a : Fs T S σ H S1 σ1 H1) (b : Fs T S1 σ1 H1 S2 σ2 H2) : Fs T S σ H S2 σ2 H2 :=
  ⟨a.trans0 b.toFr0, fun c h => (b.own c h).elim (a.own c) fun q => .inr (a.trk c q)⟩
theorem fr0_of {T : Option Addr} {n : Nat} {c : Cn} {S : Sl} {σ : SS} {H H' : Hp} (f : FrT T H H') (t : Tw T n c H') : Fr0 T S σ H H' :=
  ⟨fun b o h n _ => f.keep b o h n, f.trk, f.mu⟩
theorem fs_of {T : Option Addr} {n : Nat} {c : Cn} {S : Sl} {σ : SS} {H H' : Hp} (f : FrT T H H') (t : Tw T n c H') : Fs T S σ H S σ H' := ⟨fr0_of f t, fun _ h => .inl h⟩
/-- what is known of a value that is handed back -/
def Rr (K : PySem.W.Frag) (T : Option Addr) (S : Sl) (σ : SS) (H H' : Hp) (v : V) : En → Prop
  | .im d => Rp K H' v d
  | .own xs => ∃ a vs, v = .ref a ∧ Nt T H' a ∧ (H a = none ∨ Ow S σ a) ∧ H' a = some (.lst vs) ∧ RpAll K H' vs xs
  | .ses a => v = .ref a
  | _ => False
theorem Rr.trans {K : PySem.W.Frag} {T : Option Addr} {S S1 : Sl} {σ σ1 : SS} {H H1 H2 : Hp} {v : V} {e : En} (r : Rr K T S1 σ1 H1 H2 v e) (a : Fs T S σ H S1 σ1 H1) : Rr K T S σ H H2 v e := by
  cases e with
  | im d => exact r
  | own xs =>
    obtain ⟨p, vs, e1, n1, o, h, q⟩ := r
    exact ⟨p, vs, e1, n1, o.elim (fun z => .inl (a.trk p z)) fun z => (a.own p z).elim .inr .inl, h, q⟩
  | ro xs => exact r
  | sc xs => exact r
  | tw => exact r
  | ses a => exact r
  | sp a d => exact r
def LS (K : PySem.W.Frag) (ds : DS) : TS := fun D σ H => ∃ T n S c d, Hd K T n S c σ H ∧ ds d S c ∧
  (∀ S' c', d.nx S' c' → ∀ σ' H', Fs T S σ H S' σ' H' → Hd K T n S' c' σ' H' → D.nx σ' H') ∧
  (∀ e c', d.rt e c' → ∀ v H', Fr0 T S σ H H' → Tw T n c' H' → Rr K T S σ H H' v e → D.rt v H') ∧
  (∀ S' c', d.bk S' c' → ∀ σ' H', Fs T S σ H S' σ' H' → Hd K T n S' c' σ' H' → D.bk σ' H') ∧
  (∀ S' c', d.ct S' c' → ∀ σ' H', Fs T S σ H S' σ' H' → Hd K T n S' c' σ' H' → D.ct σ' H')
def dNext : DS := fun D S c => D.nx S c
def dSeq (t u : DS) : DS := fun D S c => t { D with nx := u D } S c
def dBreak : DS := fun D S c => D.bk S c
def dCont : DS := fun D S c => D.ct S c
def dNever : DS := fun _ _ _ => False
section
variable {X : Cx} {st : Stmt} {rest : List Stmt} {t u : DS} {e : Expr} {de : DE} {pos : Pos}
theorem ds_nil : PSs X [] (LS X.K dNext) := by
  refine PSs.le pss_nil fun D σ H h => ?_
  obtain ⟨T, n, S, c, d, hS, h, h1, _⟩ := h
  exact h1 _ _ h σ H (.refl _ _ _ _) hS
theorem ds_cons (h1 : PS X st (LS X.K t)) (h2 : PSs X rest (LS X.K u)) : PSs X (st :: rest) (LS X.K (dSeq t u)) := by
  refine PSs.le (pss_cons h1 h2) fun D σ H h => ?_
  obtain ⟨T, n, S, c, d, hS, h, h1, h2, h3, h4⟩ := h
  refine ⟨T, n, S, c, { d with nx := u d }, hS, h, fun S1 c1 q1 σ1 H1 f1 hd1 => ?_, h2, h3, h4⟩
  exact ⟨T, n, S1, c1, d, hd1, q1, fun S2 c2 q2 σ2 H2 f2 hd2 => h1 _ _ q2 σ2 H2 (f1.trans f2) hd2, fun e c2 q2 v H2 f2 t2 r2 => h2 _ _ q2 v H2 (f1.trans0 f2) t2 (r2.trans f1),
    fun S2 c2 q2 σ2 H2 f2 hd2 => h3 _ _ q2 σ2 H2 (f1.trans f2) hd2, fun S2 c2 q2 σ2 H2 f2 hd2 => h4 _ _ q2 σ2 H2 (f1.trans f2) hd2⟩
theorem ds_one (h1 : PS X st (LS X.K t)) : PSs X [st] (LS X.K t) := pss_one h1
theorem ds_pass : PS X (.Pass pos) (LS X.K dNext) := by
  refine PS.le ps_pass fun D σ H h => ?_
  obtain ⟨T, n, S, c, d, hS, h, h1, _⟩ := h
  exact h1 _ _ h σ H (.refl _ _ _ _) hS
theorem ds_break : PS X (.Break pos) (LS X.K dBreak) := by
  refine PS.le ps_break fun D σ H h => ?_
  obtain ⟨T, n, S, c, d, hS, h, h1, h2, h3, h4⟩ := h
  exact h3 _ _ h σ H (.refl _ _ _ _) hS
theorem ds_cont : PS X (.Continue pos) (LS X.K dCont) := by
  refine PS.le ps_continue fun D σ H h => ?_
  obtain ⟨T, n, S, c, d, hS, h, h1, h2, h3, h4⟩ := h
  exact h4 _ _ h σ H (.refl _ _ _ _) hS
theorem ds_never : PS X st (LS X.K dNever) := by
  refine PS.le ps_never fun D σ H h => ?_
  obtain ⟨T, n, S, c, d, hS, h, _⟩ := h
  exact h.elim
def dDrop (de : DE) : DS := fun D S c => de S c fun _ c1 => D.nx S c1
theorem ds_drop (he : PE X e (LE X.K de)) (hs : swapsWith e none pos.line X.env = pure false := by rfl) : PS X (.Expr e pos) (LS X.K (dDrop de)) := by
  refine PS.le (ps_expr he hs) fun D σ H h => ?_
  obtain ⟨T, n, S, c, d, hS, h, h1, _⟩ := h
  exact ⟨T, n, S, c, _, hS, h, fun e c' k v H' f t r => h1 _ _ k σ H' (fs_of f t) (hS.mono f t)⟩
/-- hand back: a datum, or a list that was just made -/
def retE (D : DEnds) : En → Cn → Prop
  | .im d, c => D.rt (.im d) c
  | .own xs, c => D.rt (.own xs) c
  | .ses a, c => D.rt (.ses a) c
  | _, _ => False
def dRet (de : DE) : DS := fun D S c => de S c (retE D)
theorem ds_ret (he : PE X e (LE X.K de)) : PS X (.Return (some e) pos) (LS X.K (dRet de)) := by
  refine PS.le (ps_ret he) fun D σ H h => ?_
  obtain ⟨T, n, S, c, d, hS, h, h1, h2, _⟩ := h
  refine ⟨T, n, S, c, _, hS, h, fun e c' k v H' f t r => ?_⟩
  cases e with
  | im x => exact h2 _ _ k v H' (fr0_of f t) t r.rv
  | own xs =>
    obtain ⟨a, vs, e1, n1, s1, q1⟩ := r.nw
    obtain ⟨a2, vs2, e2, n2, _, _⟩ := r.rv
    rw [e1] at e2
    cases e2
    exact h2 _ _ k v H' (fr0_of f t) t ⟨a, vs, e1, n2, .inl n1, s1, q1⟩
  | ro xs => exact k.elim
  | sc xs => exact k.elim
  | tw => exact k.elim
  | ses a => exact h2 _ _ k v H' (fr0_of f t) t r.rv
  | sp a d => exact k.elim
/-- hand back a name: a list of one's own -/
def dRetV (i : Nat) : DS := fun D S c => match S[i]? with
  | some (some (.own xs)) => D.rt (.own xs) c
  | some (some (.im d)) => D.rt (.im d) c
  | some (some (.ses a)) => D.rt (.ses a) c
  | _ => False
theorem ds_retv (i : Nat) {x : Str} {p : Pos} (hN : X.N[i]? = some x := by rfl) (hv : Vis X.env.scope x := by first | exact Or.inl rfl | exact Or.inr (Or.inl rfl) | exact Or.inr (Or.inr rfl)) (hd : (x == ("__debug__" : Str)) = false := by decide)
    (hcd : (x == ("__classdict__" : Str)) = false := by decide) : PS X (.Return (some (.Name x p)) pos) (LS X.K (dRetV i)) := by
  refine PS.le (ps_ret (pe_var hN hv hd hcd)) fun D σ H h => ?_
  obtain ⟨T, n, S, c, d, hS, h, h1, h2, _⟩ := h
  unfold dRetV at h
  split at h
  · rename_i xs e
    obtain ⟨a, vs, e1, e2, r⟩ := hS.tru i _ e
    obtain ⟨v, e3, a2, vs2, e4, n4, _⟩ := hS.rep i _ e
    rw [e1] at e3
    cases e3
    cases e4
    exact ⟨_, e1, h2 _ _ h _ H (.refl _ _ _ _) hS.tow ⟨a, vs, rfl, n4, .inr ⟨i, xs, e, e1⟩, e2, r⟩⟩
  · rename_i x e
    obtain ⟨v, e1, r⟩ := hS.rep i _ e
    exact ⟨v, e1, h2 _ _ h _ H (.refl _ _ _ _) hS.tow r⟩
  · rename_i x e
    obtain ⟨v, e1, r⟩ := hS.rep i _ e
    exact ⟨v, e1, h2 _ _ h _ H (.refl _ _ _ _) hS.tow r⟩
  · exact h.elim
def dRetN : DS := fun D _ c => D.rt (.im .none) c
theorem ds_retN : PS X (.Return none pos) (LS X.K dRetN) := by
  refine PS.le ps_retN fun D σ H h => ?_
  obtain ⟨T, n, S, c, d, hS, h, h1, h2, _⟩ := h
  exact h2 _ _ h _ H (.refl _ _ _ _) hS.tow .non
def dIfS (c : DT) (t u : DS) : DS := fun D S n => c S n fun b n1 => if b = true then t D S n1 else u D S n1
theorem ds_if {c : Expr} {a b : List Stmt} {tc : DT} (hc : PT X c (LT X.K tc)) (ha : PSs X a (LS X.K t)) (hb : PSs X b (LS X.K u)) : PS X (.If c a b pos) (LS X.K (dIfS tc t u)) := by
  refine PS.le (ps_if hc ha hb) fun D σ H h => ?_
  obtain ⟨T, n, S, c, d, hS, h, h1, h2, h3, h4⟩ := h
  refine ⟨T, n, S, c, _, hS, h, fun b c1 k H1 f1 t1 => ?_⟩
  have fs : Fs T S σ H S σ H1 := fs_of f1 t1
  have g : ∀ {w : DS}, w d S c1 → LS X.K w D σ H1 := fun {w} k => ⟨T, n, S, c1, d, hS.mono f1 t1, k, fun S2 c2 q2 σ2 H2 f2 hd2 => h1 _ _ q2 σ2 H2 (fs.trans f2) hd2, fun e c2 q2 v H2 f2 t2 r2 => h2 _ _ q2 v H2 (fs.trans0 f2) t2 (r2.trans fs),
    fun S2 c2 q2 σ2 H2 f2 hd2 => h3 _ _ q2 σ2 H2 (fs.trans f2) hd2, fun S2 c2 q2 σ2 H2 f2 hd2 => h4 _ _ q2 σ2 H2 (fs.trans f2) hd2⟩
  cases b with
  | true => exact g k
  | false => exact g k
/-! ### stores -/
theorem get_set {α : Type} {l : List α} {i j : Nat} {x y : α} (h : (l.set i x)[j]? = some y) : (j = i ∧ y = x) ∨ (j ≠ i ∧ l[j]? = some y) := by
  by_cases e : i = j
  · subst e
    by_cases hi : i < l.length
    · rw [List.getElem?_set_self hi] at h
      exact .inl ⟨rfl, (Option.some.inj h).symm⟩
    · rw [List.getElem?_eq_none (by simpa using hi)] at h
      cases h
  · rw [List.getElem?_set_ne e] at h
    exact .inr ⟨fun z => e z.symm, h⟩
/-- a slot is set to a datum, or to a list that is not known to anyone -/
theorem Hd.set {K : PySem.W.Frag} {T : Option Addr} {n : Nat} {c : Cn} {S : Sl} {σ : SS} {H : Hp} (hS : Hd K T n S c σ H) (i : Nat) {v : V} {e : En} (rv : Rv K T H v e)
    (ow : ∀ xs, e = .own xs → ∃ a vs, v = .ref a ∧ H a = some (.lst vs) ∧ RpAll K H vs xs ∧ ∀ (j : Nat) e', j ≠ i → S[j]? = some (some e') → lk e' = true → σ[j]? ≠ some (some (.ref a)))
    (ro : ∀ xs, e ≠ .ro xs) (tw : e ≠ .tw) : Hd K T n (S.set i (some e)) c (σ.set i (some v)) H where
  len := by rw [List.length_set, List.length_set, hS.len]
  rep := fun j e' h => by
    rcases get_set h with ⟨rfl, q⟩ | ⟨hn, q⟩
    · cases Option.some.inj q
      refine ⟨v, ?_, rv⟩
      have hl : j < S.length := by
        by_cases z : j < S.length
        · exact z
        · rw [List.getElem?_eq_none (by simpa using z)] at h; cases h
      rw [List.getElem?_set_self (by rw [← hS.len]; exact hl)]
    · obtain ⟨w, e1, r⟩ := hS.rep j e' q
      exact ⟨w, by rw [List.getElem?_set_ne (Ne.symm hn)]; exact e1, r⟩
  tru := fun j xs h => by
    rcases get_set h with ⟨rfl, q⟩ | ⟨hn, q⟩
    · obtain ⟨a, vs, e1, e2, r, _⟩ := ow xs (Option.some.inj q).symm
      have hl : j < S.length := by
        by_cases z : j < S.length
        · exact z
        · rw [List.getElem?_eq_none (by simpa using z)] at h; cases h
      refine ⟨a, vs, ?_, e2, r⟩
      rw [List.getElem?_set_self (by rw [← hS.len]; exact hl), e1]
    · obtain ⟨a, vs, e1, r⟩ := hS.tru j xs q
      exact ⟨a, vs, by rw [List.getElem?_set_ne (Ne.symm hn)]; exact e1, r⟩
  dis := fun j l xs a e' hjl h1 h2 h3 h4 h5 => by
    rcases get_set h1 with ⟨rfl, q1⟩ | ⟨n1, q1⟩
    · obtain ⟨a', vs, e1, e2, r, far⟩ := ow xs (Option.some.inj q1).symm
      rcases get_set h2 with ⟨_, q2⟩ | ⟨n2, _⟩
      · cases Option.some.inj q2
        cases e1
        rcases get_set h3 with ⟨z, _⟩ | ⟨n3, q3⟩
        · exact hjl z.symm
        · rw [List.getElem?_set_ne (Ne.symm n3)] at h5
          exact far l e' n3 q3 h4 h5
      · exact n2 rfl
    · rw [List.getElem?_set_ne (Ne.symm n1)] at h2
      rcases get_set h3 with ⟨rfl, q3⟩ | ⟨n3, q3⟩
      · rcases get_set h5 with ⟨_, q5⟩ | ⟨n5, _⟩
        · cases Option.some.inj q3
          cases e with
          | im d => cases h4
          | own ys =>
            obtain ⟨a', vs, e1, e2, r, far⟩ := ow ys rfl
            cases Option.some.inj q5
            cases e1
            exact far j _ n1 q1 rfl h2
          | ro ys => exact ro ys rfl
          | sc ys => cases h4
          | tw => exact tw rfl
          | ses a => cases h4
          | sp a d => cases h4
        · exact n5 rfl
      · rw [List.getElem?_set_ne (Ne.symm n3)] at h5
        exact hS.dis j l xs a e' hjl q1 h2 q3 h4 h5
  tow := hS.tow
theorem Hd.tracked {K : PySem.W.Frag} {T : Option Addr} {n : Nat} {c : Cn} {S : Sl} {σ : SS} {H : Hp} (hS : Hd K T n S c σ H) {j : Nat} {e : En} {a : Addr} (h : S[j]? = some (some e)) (hn : lk e = true) (hs : σ[j]? = some (some (.ref a))) : ∃ o, H a = some o := by
  obtain ⟨v, e1, r⟩ := hS.rep j e h
  rw [hs] at e1
  cases e1
  cases e with
  | im d => cases hn
  | own xs =>
    obtain ⟨b, vs, e2, _, s, _⟩ := r
    cases e2
    exact ⟨_, s⟩
  | ro xs =>
    obtain ⟨b, vs, e2, _, s, _⟩ := r
    cases e2
    exact ⟨_, s⟩
  | sc xs => cases hn
  | tw =>
    obtain ⟨b, e2, e3⟩ := r
    cases e3
    obtain ⟨ts, q, _⟩ := hS.tow.tow _ e2
    exact ⟨_, q⟩
  | ses a => cases hn
  | sp a d => cases hn
/-- behind an expression: its value into a slot -/
theorem set_ok {K : PySem.W.Frag} {T : Option Addr} {n : Nat} {c c' : Cn} {S : Sl} {σ : SS} {H H' : Hp} (hS : Hd K T n S c σ H) (i : Nat) {v : V} {e : En} (f : FrT T H H') (t : Tw T n c' H') (r : Rf K T H H' v e) (ro : ∀ xs, e ≠ .ro xs) (tw : e ≠ .tw) :
    Hd K T n (S.set i (some e)) c' (σ.set i (some v)) H' ∧ Fs T S σ H (S.set i (some e)) (σ.set i (some v)) H' := by
  refine ⟨(hS.mono f t).set i r.rv (fun xs he => ?_) ro tw, ⟨fr0_of f t, fun b hb => ?_⟩⟩
  · subst he
    obtain ⟨a, vs, e1, n1, s1, q1⟩ := r.nw
    refine ⟨a, vs, e1, s1, q1, fun j e' hj h1 h2 h3 => ?_⟩
    obtain ⟨o, z⟩ := hS.tracked h1 h2 h3
    rw [n1] at z
    cases z
  · obtain ⟨j, xs, h1, h2⟩ := hb
    rcases get_set h1 with ⟨rfl, q1⟩ | ⟨n1, q1⟩
    · cases Option.some.inj q1
      rcases get_set h2 with ⟨_, q2⟩ | ⟨n2, _⟩
      · cases Option.some.inj q2
        obtain ⟨a, vs, e1, n1, _⟩ := r.nw
        cases e1
        exact .inr n1
      · exact absurd rfl n2
    · rw [List.getElem?_set_ne (Ne.symm n1)] at h2
      exact .inl ⟨j, xs, q1, h2⟩
def putE (i : Nat) (S : Sl) (k : Sl → Prop) : En → Prop
  | .im d => k (S.set i (some (.im d)))
  | .own xs => k (S.set i (some (.own xs)))
  | .ses a => k (S.set i (some (.ses a)))
  | _ => False
def dSet (i : Nat) (de : DE) : DS := fun D S c => de S c fun e c1 => putE i S (fun S1 => D.nx S1 c1) e
theorem asg_le {K : PySem.W.Frag} {D : Ends} {σ : SS} {H : Hp} {i : Nat} (h : LS K (dSet i de) D σ H) : tAsg (LE K de) (gName i) D σ H := by
  obtain ⟨T, n, S, c, d, hS, h, h1, _⟩ := h
  refine ⟨T, n, S, c, _, hS, h, fun e c' k v H' f t r => ?_⟩
  cases e with
  | im x =>
    obtain ⟨a, b⟩ := set_ok hS i f t r (fun _ z => by cases z) (fun z => by cases z)
    exact h1 _ _ k _ H' b a
  | own xs =>
    obtain ⟨a, b⟩ := set_ok hS i f t r (fun _ z => by cases z) (fun z => by cases z)
    exact h1 _ _ k _ H' b a
  | ro xs => exact k.elim
  | sc xs => exact k.elim
  | tw => exact k.elim
  | ses x =>
    obtain ⟨a, b⟩ := set_ok hS i f t r (fun _ z => by cases z) (fun z => by cases z)
    exact h1 _ _ k _ H' b a
  | sp x d => exact k.elim
theorem ds_set {i : Nat} {x : Str} {pos' : Pos} (hN : X.N.Nodup) (hi : X.N[i]? = some x) (hx : Loc X.env.scope x) (he : PE X e (LE X.K de)) (hs : swapsWith e (some (.Name x pos')) pos.line X.env = pure false := by rfl) (hf : X.fn x = true ∨ X.env.scope.names.lookup x = some .local := by first | exact .inl rfl | exact .inr rfl | assumption) :
    PS X (.Assign [.Name x pos'] e pos) (LS X.K (dSet i de)) := PS.le (ps_set hN hi hx he hs hf) fun _ _ _ h => asg_le h
/-- a, b = x, y -/
def dPar (i j : Nat) (da : DA) : DS := fun D S c => da S c fun es c1 => match es with
  | [.im x, .im y] => D.nx ((S.set i (some (.im x))).set j (some (.im y))) c1
  | [.own x, .im y] => D.nx ((S.set i (some (.own x))).set j (some (.im y))) c1
  | [.im x, .own y] => D.nx ((S.set i (some (.im x))).set j (some (.own y))) c1
  | [.ses x, .im y] => D.nx ((S.set i (some (.ses x))).set j (some (.im y))) c1
  | [.ses x, .ses y] => D.nx ((S.set i (some (.ses x))).set j (some (.ses y))) c1
  | _ => False
theorem set2_ok {K : PySem.W.Frag} {T : Option Addr} {n : Nat} {c c' : Cn} {S : Sl} {σ : SS} {H H' : Hp} (hS : Hd K T n S c σ H) (i j : Nat) {v w : V} {e g : En} (f : FrT T H H') (t : Tw T n c' H') (r : Rf K T H H' v e) (r2 : Rf K T H H' w g) (ro : ∀ xs, e ≠ .ro xs) (tw : e ≠ .tw)
    (ro2 : ∀ xs, g ≠ .ro xs) (tw2 : g ≠ .tw) (one : lk e = false ∨ lk g = false) :
    Hd K T n ((S.set i (some e)).set j (some g)) c' ((σ.set i (some v)).set j (some w)) H' ∧ Fs T S σ H ((S.set i (some e)).set j (some g)) ((σ.set i (some v)).set j (some w)) H' := by
  obtain ⟨a, b⟩ := set_ok hS i f t r ro tw
  refine ⟨a.set j r2.rv (fun xs he => ?_) ro2 tw2, ⟨fr0_of f t, fun q hq => ?_⟩⟩
  · subst he
    have he : lk e = false := one.elim id fun z => by cases z
    obtain ⟨p, vs, e1, n1, s1, q1⟩ := r2.nw
    refine ⟨p, vs, e1, s1, q1, fun l e' hl h1 h2 h3 => ?_⟩
    rcases get_set h1 with ⟨rfl, z⟩ | ⟨n2, z⟩
    · cases Option.some.inj z; rw [he] at h2; cases h2
    · rw [List.getElem?_set_ne (Ne.symm n2)] at h3
      obtain ⟨o, y⟩ := hS.tracked z h2 h3
      rw [n1] at y
      cases y
  · obtain ⟨l, xs, h1, h2⟩ := hq
    rcases get_set h1 with ⟨rfl, q1⟩ | ⟨n1, q1⟩
    · cases Option.some.inj q1
      rcases get_set h2 with ⟨_, q2⟩ | ⟨n2, _⟩
      · cases Option.some.inj q2
        obtain ⟨p, vs, e1, n1, _⟩ := r2.nw
        cases e1
        exact .inr n1
      · exact absurd rfl n2
    · rw [List.getElem?_set_ne (Ne.symm n1)] at h2
      exact b.own q ⟨l, xs, q1, h2⟩
theorem ds_par {st : Stmt} {i j : Nat} {da : DA} (hp : PS X st (tPar i j (LA X.K da))) : PS X st (LS X.K (dPar i j da)) := by
  refine PS.le hp fun D σ H h => ?_
  obtain ⟨T, n, S, c, d, hS, h, h1, _⟩ := h
  refine ⟨T, n, S, c, _, hS, h, fun es c' k vs H' f t r => ?_⟩
  split at k
  · cases r with
    | cons r1 rs =>
      cases rs with
      | cons r2 rs =>
        cases rs
        obtain ⟨p, q⟩ := set2_ok hS i j f t r1 r2 (fun _ z => by cases z) (fun z => by cases z) (fun _ z => by cases z) (fun z => by cases z) (.inl rfl)
        exact ⟨_, _, rfl, h1 _ _ k _ H' q p⟩
  · cases r with
    | cons r1 rs =>
      cases rs with
      | cons r2 rs =>
        cases rs
        obtain ⟨p, q⟩ := set2_ok hS i j f t r1 r2 (fun _ z => by cases z) (fun z => by cases z) (fun _ z => by cases z) (fun z => by cases z) (.inr rfl)
        exact ⟨_, _, rfl, h1 _ _ k _ H' q p⟩
  · cases r with
    | cons r1 rs =>
      cases rs with
      | cons r2 rs =>
        cases rs
        obtain ⟨p, q⟩ := set2_ok hS i j f t r1 r2 (fun _ z => by cases z) (fun z => by cases z) (fun _ z => by cases z) (fun z => by cases z) (.inl rfl)
        exact ⟨_, _, rfl, h1 _ _ k _ H' q p⟩
  · cases r with
    | cons r1 rs =>
      cases rs with
      | cons r2 rs =>
        cases rs
        obtain ⟨p, q⟩ := set2_ok hS i j f t r1 r2 (fun _ z => by cases z) (fun z => by cases z) (fun _ z => by cases z) (fun z => by cases z) (.inl rfl)
        exact ⟨_, _, rfl, h1 _ _ k _ H' q p⟩
  · cases r with
    | cons r1 rs =>
      cases rs with
      | cons r2 rs =>
        cases rs
        obtain ⟨p, q⟩ := set2_ok hS i j f t r1 r2 (fun _ z => by cases z) (fun z => by cases z) (fun _ z => by cases z) (fun z => by cases z) (.inl rfl)
        exact ⟨_, _, rfl, h1 _ _ k _ H' q p⟩
  · exact k.elim
/-! ### lists of one's own -/
theorem Hd.grow {K : PySem.W.Frag} {T : Option Addr} {n : Nat} {c : Cn} {S : Sl} {σ : SS} {H : Hp} (hS : Hd K T n S c σ H) {i : Nat} {xs : List PyData} {a : Addr} {ws : List V} {ys : List PyData} (hi : S[i]? = some (some (.own xs))) (ha : σ[i]? = some (some (.ref a)))
    (r : RpAll K H ws ys) : Hd K T n (S.set i (some (.own ys))) c σ (upd H a (.lst ws)) ∧ Fs T S σ H (S.set i (some (.own ys))) σ (upd H a (.lst ws)) := by
  obtain ⟨b, vs, e1, e2, _⟩ := hS.tru i _ hi
  rw [ha] at e1
  cases e1
  obtain ⟨v, e3, a2, vs2, e4, n4, _⟩ := hS.rep i _ hi
  rw [ha] at e3
  cases e3
  cases e4
  have ke : Ke H (upd H a (.lst ws)) := fun b o h => by
    by_cases z : b = a
    · subst z; rw [e2] at h; cases h; exact .inl (.lst _)
    · exact .inr (by rw [upd_ne z]; exact h)
  have ntu : ∀ {b : Addr}, Nt T H b → Nt T (upd H a (.lst ws)) b := fun {b} n => ⟨n.1, fun m => n.2 (mu_upd e2 m)⟩
  have rd : ∀ {b : Addr} {us : List V}, b ≠ a → H b = some (.lst us) → upd H a (.lst ws) b = some (.lst us) := fun {b us} z h => (upd_ne z).trans h
  have hl : i < S.length := by
    by_cases z : i < S.length
    · exact z
    · rw [List.getElem?_eq_none (by simpa using z)] at hi; cases hi
  refine ⟨{ len := by rw [List.length_set, hS.len], rep := fun j e h => ?_, tru := fun j zs h => ?_, dis := fun j l zs b e hjl h1 h2 h3 h4 h5 => ?_, tow := tw_upd hS.tow e2 n4 }, ⟨⟨fun b o h nt no => ?_, fun b h => ?_, fun b m => .inl (mu_upd e2 m)⟩, fun b hb => ?_⟩⟩
  · rcases get_set h with ⟨rfl, q⟩ | ⟨hn, q⟩
    · cases Option.some.inj q
      exact ⟨_, ha, a, ws, rfl, ntu n4, upd_same, RpAll.ke ke _ _ r⟩
    · obtain ⟨w, e1, q1⟩ := hS.rep j e q
      refine ⟨w, e1, ?_⟩
      cases e with
      | im d => exact Rp.ke ke _ _ q1
      | own zs =>
        obtain ⟨b, us, rfl, z1, z2, z3⟩ := q1
        exact ⟨b, us, rfl, ntu z1, rd (fun z => hS.dis i j xs a _ (Ne.symm hn) hi ha q rfl (by rw [e1, z])) z2, RpAll.ke ke _ _ z3⟩
      | ro zs =>
        obtain ⟨b, us, rfl, z1, z2, z3⟩ := q1
        exact ⟨b, us, rfl, ntu z1, rd (fun z => hS.dis i j xs a _ (Ne.symm hn) hi ha q rfl (by rw [e1, z])) z2, RpAll.ke ke _ _ z3⟩
      | sc zs =>
        obtain ⟨b, us, rfl, z2, z3⟩ := q1
        exact ⟨b, us, rfl, z2.ke ke, RpAll.ke ke _ _ z3⟩
      | tw => exact q1
      | ses _ => exact q1
      | sp _ _ =>
        obtain ⟨p, w, e1, s, q⟩ := q1
        exact ⟨p, w, e1, (ke _ _ s).elim (fun e => by cases e) id, Rp.ke ke _ _ q⟩
  · rcases get_set h with ⟨rfl, q⟩ | ⟨hn, q⟩
    · cases Option.some.inj q
      exact ⟨a, ws, ha, upd_same, RpAll.ke ke _ _ r⟩
    · obtain ⟨b, us, e1, q1, q2⟩ := hS.tru j zs q
      exact ⟨b, us, e1, by rw [upd_ne (fun z => hS.dis i j xs a _ (Ne.symm hn) hi ha q rfl (by rw [e1, z]))]; exact q1, RpAll.ke ke _ _ q2⟩
  · have old : ∀ {m : Nat} {g : En}, (S.set i (some (.own ys)))[m]? = some (some g) → lk g = true → ∃ g', S[m]? = some (some g') ∧ lk g' = true := fun {m g} h hg => by
      rcases get_set h with ⟨rfl, q⟩ | ⟨hn, q⟩
      · exact ⟨_, hi, rfl⟩
      · exact ⟨_, q, hg⟩
    obtain ⟨g3, q3, p3⟩ := old h3 h4
    rcases get_set h1 with ⟨rfl, q⟩ | ⟨hn, q⟩
    · exact hS.dis j l xs b _ hjl hi h2 q3 p3 h5
    · exact hS.dis j l zs b _ hjl q h2 q3 p3 h5
  · have ne : b ≠ a := fun y => no ⟨i, xs, hi, by rw [y]; exact ha⟩
    rw [upd_ne ne]
    exact h
  · by_cases z : b = a
    · subst z; rw [upd_same] at h; cases h
    · rw [upd_ne z] at h; exact h
  · obtain ⟨j, zs, h1, h2⟩ := hb
    rcases get_set h1 with ⟨rfl, q⟩ | ⟨hn, q⟩
    · exact .inl ⟨j, xs, hi, h2⟩
    · exact .inl ⟨j, zs, q, h2⟩
def dApp (i : Nat) (de : DE) : DS := fun D S c => match S[i]? with
  | some (some (.own xs)) => de S c fun e c1 => match e with
    | .im d => xs.length < 100000 ∧ D.nx (S.set i (some (.own (xs ++ [d])))) c1
    | _ => False
  | _ => False
theorem sz_lt {n : Nat} (h : n < 100000) : n < sizeLine := by
  rw [sizeLine_eq]
  exact Nat.lt_trans h (by decide)
theorem ds_app {st : Stmt} {i : Nat} (hp : PS X st (tDrop (tBM X.K "list" rAppend (tVar i) (tCons (LE X.K de) tNil)))) : PS X st (LS X.K (dApp i de)) := by
  refine PS.le hp fun D σ H h => ?_
  obtain ⟨T, n, S, c, d, hS, h, h1, _⟩ := h
  unfold dApp at h
  split at h
  · rename_i xs hi
    obtain ⟨a, vs, e1, e2, r⟩ := hS.tru i _ hi
    refine ⟨.ref a, e1, .inl ⟨rfl, vs, .inl (.inl e2)⟩, T, n, S, c, _, hS, h, fun e c' k v H' f t r' => ?_⟩
    have hS' := hS.mono f t
    obtain ⟨a2, vs2, e3, e4, r4⟩ := hS'.tru i _ hi
    rw [e1] at e3
    cases e3
    split at k
    · rename_i y
      obtain ⟨p, q⟩ := hS'.grow hi e1 (r4.append (.cons r'.rv .nil))
      exact ⟨a, vs2, v, rfl, rfl, e4, by rw [r4.len]; exact sz_lt k.1, h1 _ _ k.2 σ _ ((fs_of f t).trans q) p⟩
    · exact k.elim
  · exact h.elim
def dExt (i : Nat) (de : DE) : DS := fun D S c => match S[i]? with
  | some (some (.own xs)) => de S c fun e c1 => match e with
    | .own ys => xs.length + ys.length ≤ 100000 ∧ D.nx (S.set i (some (.own (xs ++ ys)))) c1
    | _ => False
  | _ => False
theorem ds_ext {st : Stmt} {i : Nat} (hp : PS X st (tDrop (tBM X.K "list" rExtend (tVar i) (tCons (LE X.K de) tNil)))) : PS X st (LS X.K (dExt i de)) := by
  refine PS.le hp fun D σ H h => ?_
  obtain ⟨T, n, S, c, d, hS, h, h1, _⟩ := h
  unfold dExt at h
  split at h
  · rename_i xs hi
    obtain ⟨a, vs, e1, e2, r⟩ := hS.tru i _ hi
    refine ⟨.ref a, e1, .inl ⟨rfl, vs, .inl (.inl e2)⟩, T, n, S, c, _, hS, h, fun e c' k v H' f t r' => ?_⟩
    have hS' := hS.mono f t
    obtain ⟨a2, vs2, e3, e4, r4⟩ := hS'.tru i _ hi
    rw [e1] at e3
    cases e3
    split at k
    · rename_i ys
      obtain ⟨b, ws, e5, n5, s5, r5⟩ := r'.nw
      obtain ⟨p, q⟩ := hS'.grow hi e1 (r4.append r5)
      exact ⟨a, b, vs2, ws, rfl, by rw [e5], e4, s5, by rw [r4.len, r5.len]; exact line_of k.1, h1 _ _ k.2 σ _ ((fs_of f t).trans q) p⟩
    · exact k.elim
  · exact h.elim
/-! ### while -/
def dWhile (cd : DT) (t : DS) : DS := fun D S c => ∃ W : Nat → Sl → Cn → Prop, (∃ m, W m S c) ∧ ∀ m S c, W m S c →
  cd S c fun b c1 => if b = true then t { nx := fun S' c' => ∃ m', m' < m ∧ W m' S' c', ct := fun S' c' => ∃ m', m' < m ∧ W m' S' c', bk := D.nx, rt := D.rt } S c1 else D.nx S c1
theorem ds_while {cx : Expr} {body : List Stmt} {tc : DT} (hp : PassesOwn (model X.prog X.w) X.A X.env X.xe) (hc : PT X cx (LT X.K tc)) (hb : PSs X body (LS X.K t)) : PS X (.While cx body [] pos) (LS X.K (dWhile tc t)) := by
  refine PS.le (ps_while hp hc hb) fun D σ H h => ?_
  obtain ⟨T, n, S, c, d, hS, ⟨W, ⟨m0, w0⟩, turn⟩, h1, h2, h3, h4⟩ := h
  refine ⟨fun m σ' H' => ∃ S' c', W m S' c' ∧ Fs T S σ H S' σ' H' ∧ Hd X.K T n S' c' σ' H', ⟨m0, S, c, w0, .refl _ _ _ _, hS⟩, ?_⟩
  rintro m σ1 H1 ⟨S1, c1, w1, f1, hd1⟩
  refine ⟨T, n, S1, c1, _, hd1, turn m S1 c1 w1, fun b c2 k H2 f2 t2 => ?_⟩
  have fs : Fs T S σ H S1 σ1 H2 := f1.trans (fs_of f2 t2)
  cases b with
  | true =>
    refine ⟨_, fun σ' H' q => q, T, n, S1, c2, _, hd1.mono f2 t2, k, ?_, ?_, ?_, ?_⟩
    · rintro S3 c3 ⟨m', hm, w3⟩ σ3 H3 f3 hd3
      exact ⟨m', hm, S3, c3, w3, fs.trans f3, hd3⟩
    · exact fun e c3 q v H3 f3 t3 r3 => h2 _ _ q v H3 (fs.trans0 f3) t3 (r3.trans fs)
    · exact fun S3 c3 q σ3 H3 f3 hd3 => h1 _ _ q σ3 H3 (fs.trans f3) hd3
    · rintro S3 c3 ⟨m', hm, w3⟩ σ3 H3 f3 hd3
      exact ⟨m', hm, S3, c3, w3, fs.trans f3, hd3⟩
  | false => exact h1 _ _ k σ1 H2 fs (hd1.mono f2 t2)
end
end ND
namespace ND
open PySem PySem.Spec L2
/-! ## Targets -/
abbrev DG := PyData → Sl → (Sl → Prop) → Prop
abbrev DGs := List PyData → Sl → (Sl → Prop) → Prop
/-- σ' differs from σ at the slots sl alone -/
def Ws (sl : List Nat) (σ σ' : SS) : Prop := ∀ vs : List Nat, (∀ i ∈ sl, i ∈ vs) → wipe σ' vs = wipe σ vs
def LG (K : PySem.W.Frag) (sl : List Nat) (dg : DG) : TG := fun v σ H Q => ∃ T n S c x k, Hd K T n S c σ H ∧ Rp K H v x ∧ dg x S k ∧ ∀ S', k S' → ∀ σ', Hd K T n S' c σ' H → (∀ b, Ow S' σ' b → Ow S σ b) → Ws sl σ σ' → Q σ' H
def LGs (K : PySem.W.Frag) (sl : List Nat) (dg : DGs) : TGs := fun vs σ H Q => ∃ T n S c xs k, Hd K T n S c σ H ∧ RpAll K H vs xs ∧ dg xs S k ∧ ∀ S', k S' → ∀ σ', Hd K T n S' c σ' H → (∀ b, Ow S' σ' b → Ow S σ b) → Ws sl σ σ' → Q σ' H
theorem wipe_in {σ : SS} {i : Nat} : ∀ {vs : List Nat}, i ∈ vs → i < σ.length → (wipe σ vs)[i]? = some none
  | v :: vs, h, hl => by
    unfold wipe
    by_cases e : v = i
    · subst e
      rw [List.getElem?_set_self (by rw [wipe_length]; exact hl)]
    · rw [List.getElem?_set_ne e]
      exact wipe_in (by rcases List.mem_cons.mp h with z | z; exact absurd z.symm e; exact z) hl
theorem wipe_ext {σ σ' : SS} {vs : List Nat} (hl : σ'.length = σ.length) (h : ∀ i, i ∉ vs → σ'[i]? = σ[i]?) : wipe σ' vs = wipe σ vs := by
  apply List.ext_getElem?
  intro i
  by_cases hi : i ∈ vs
  · by_cases z : i < σ.length
    · rw [wipe_in hi z, wipe_in hi (by rw [hl]; exact z)]
    · rw [List.getElem?_eq_none (by rw [wipe_length, hl]; omega), List.getElem?_eq_none (by rw [wipe_length]; omega)]
  · rw [wipe_out hi, wipe_out hi, h i hi]
theorem ws_set (σ : SS) (i : Nat) (x : Option V) : Ws [i] σ (σ.set i x) := fun vs h => wipe_ext (by rw [List.length_set]) fun j hj => by
  rw [List.getElem?_set_ne (fun e => hj (by rw [← e]; exact h i (List.mem_singleton.mpr rfl)))]
theorem PG.le {X : Cx} {e : Expr} {t t' : TG} (h : PG X e t) (k : ∀ v σ H Q, t' v σ H Q → t v σ H Q) : PG X e t' := ⟨fun p s σ H v u Q I r q => h.run p s σ H v u Q I r (k _ _ _ _ q)⟩
theorem PGs.le {X : Cx} {e : List Expr} {t t' : TGs} (h : PGs X e t) (k : ∀ v σ H Q, t' v σ H Q → t v σ H Q) : PGs X e t' := ⟨fun p s σ H v u Q I r q => h.run p s σ H v u Q I r (k _ _ _ _ q)⟩
def gN (i : Nat) : DG := fun x S k => k (S.set i (some (.im x)))
def gsNil : DGs := fun xs S k => match xs with
  | [] => k S
  | _ => False
def gsCons (g : DG) (r : DGs) : DGs := fun xs S k => match xs with
  | x :: ys => g x S fun S1 => r ys S1 k
  | _ => False
def gT (r : DGs) : DG := fun x S k => match x with
  | .tuple xs => r xs S k
  | _ => False
theorem Hd.im {K : PySem.W.Frag} {T : Option Addr} {n : Nat} {c : Cn} {S : Sl} {σ : SS} {H : Hp} (hS : Hd K T n S c σ H) (i : Nat) {v : V} {x : PyData} (r : Rp K H v x) : Hd K T n (S.set i (some (.im x))) c (σ.set i (some v)) H ∧ ∀ b, Ow (S.set i (some (.im x))) (σ.set i (some v)) b → Ow S σ b := by
  refine ⟨hS.set i (e := .im x) r (fun xs z => by cases z) (fun xs z => by cases z) (fun z => by cases z), fun b hb => ?_⟩
  obtain ⟨j, xs, h1, h2⟩ := hb
  rcases get_set h1 with ⟨rfl, q⟩ | ⟨hn, q⟩
  · cases Option.some.inj q
  · rw [List.getElem?_set_ne (Ne.symm hn)] at h2
    exact ⟨j, xs, q, h2⟩
section
variable {X : Cx} {pos : Pos}
theorem dg_name {i : Nat} {x : Str} (hN : X.N.Nodup) (hi : X.N[i]? = some x) (hx : Loc X.env.scope x) (hf : X.fn x = true ∨ X.env.scope.names.lookup x = some .local := by first | exact .inl rfl | exact .inr rfl | assumption) : PG X (.Name x pos) (LG X.K [i] (gN i)) := by
  refine PG.le (pg_name hN hi hx hf) fun v σ H Q h => ?_
  obtain ⟨T, n, S, c, x, k, hS, r, h, q⟩ := h
  obtain ⟨a, b⟩ := hS.im i r
  exact q _ h _ a b (ws_set σ i _)
theorem dgs_nil : PGs X [] (LGs X.K [] gsNil) := by
  refine PGs.le pgs_nil fun v σ H Q h => ?_
  obtain ⟨T, n, S, c, xs, k, hS, r, h, q⟩ := h
  unfold gsNil at h
  split at h
  · cases r
    exact ⟨rfl, q _ h _ hS (fun _ z => z) fun _ _ => rfl⟩
  · exact h.elim
theorem dgs_cons {e : Expr} {es : List Expr} {t : DG} {u : DGs} {s1 s2 : List Nat} (h1 : PG X e (LG X.K s1 t)) (h2 : PGs X es (LGs X.K s2 u))
    (hs : (assignEach (e :: es) X.env).map (·.2) = assign e X.env :: (assignEach es X.env).map (·.2) := by rfl) : PGs X (e :: es) (LGs X.K (s1 ++ s2) (gsCons t u)) := by
  refine PGs.le (pgs_cons h1 h2 hs) fun v σ H Q h => ?_
  obtain ⟨T, n, S, c, xs, k, hS, r, h, q⟩ := h
  unfold gsCons at h
  split at h
  · cases r with
    | cons r1 rs => exact ⟨_, _, rfl, T, n, S, c, _, _, hS, r1, h, fun S1 k1 σ1 hd1 o1 w1 => ⟨T, n, S1, c, _, _, hd1, rs, k1, fun S2 k2 σ2 hd2 o2 w2 => q _ k2 σ2 hd2 (fun b z => o1 b (o2 b z)) fun vs hv => (w2 vs fun i hi => hv i (List.mem_append_right _ hi)).trans (w1 vs fun i hi => hv i (List.mem_append_left _ hi))⟩⟩
  · exact h.elim
theorem dg_tup {es : List Expr} {k : Nat} {t : DGs} {sl : List Nat} (hc : X.calm = true) (h : PGs X es (LGs X.K sl t)) (n : Nat)
    (hl : ∀ xs S k, t xs S k → xs.length = n) (hn : (assignEach es X.env).length = n := by rfl) (hst : (assignEach es X.env).findIdx? (·.1) = none := by rfl) : PG X (.Tuple es k pos) (LG X.K sl (gT t)) := by
  refine PG.le (pg_tup hc h hn hst) fun v σ H Q h => ?_
  obtain ⟨T, m, S, c, x, k, hS, r, h, q⟩ := h
  unfold gT at h
  split at h
  · cases r with
    | tup s r => exact ⟨_, _, rfl, .inl (.inl s), by rw [r.len]; exact hl _ _ _ h, T, m, S, c, _, _, hS, r, h, q⟩
  · exact h.elim
theorem gs2_len {a b : DG} : ∀ xs S k, gsCons a (gsCons b gsNil) xs S k → True := fun _ _ _ _ => trivial
theorem glen1 {i : Nat} : ∀ xs S k, gsCons (gN i) gsNil xs S k → xs.length = 1
  | [], _, _, h => h.elim
  | [x], _, _, h => rfl
  | x :: y :: r, _, _, h => by simp only [gsCons, gN, gsNil] at h
theorem glen2 {i j : Nat} : ∀ xs S k, gsCons (gN i) (gsCons (gN j) gsNil) xs S k → xs.length = 2
  | [], _, _, h => h.elim
  | [x], _, _, h => by simp only [gsCons, gN, gsNil] at h
  | [x, y], _, _, h => rfl
  | x :: y :: z :: r, _, _, h => by simp only [gsCons, gN, gsNil] at h
theorem glen3 {i j l : Nat} : ∀ xs S k, gsCons (gN i) (gsCons (gN j) (gsCons (gN l) gsNil)) xs S k → xs.length = 3
  | [], _, _, h => h.elim
  | [x], _, _, h => by simp only [gsCons, gN, gsNil] at h
  | [x, y], _, _, h => by simp only [gsCons, gN, gsNil] at h
  | [x, y, z], _, _, h => rfl
  | x :: y :: z :: w :: r, _, _, h => by simp only [gsCons, gN, gsNil] at h
theorem glen4 {i j l m : Nat} : ∀ xs S k, gsCons (gN i) (gsCons (gN j) (gsCons (gN l) (gsCons (gN m) gsNil))) xs S k → xs.length = 4
  | [], _, _, h => h.elim
  | [x], _, _, h => by simp only [gsCons, gN, gsNil] at h
  | [x, y], _, _, h => by simp only [gsCons, gN, gsNil] at h
  | [x, y, z], _, _, h => by simp only [gsCons, gN, gsNil] at h
  | [x, y, z, w], _, _, h => rfl
  | x :: y :: z :: w :: v :: r, _, _, h => by simp only [gsCons, gN, gsNil] at h
theorem glen5 {i j l m o : Nat} : ∀ xs S k, gsCons (gN i) (gsCons (gN j) (gsCons (gN l) (gsCons (gN m) (gsCons (gN o) gsNil)))) xs S k → xs.length = 5
  | [], _, _, h => h.elim
  | [x], _, _, h => by simp only [gsCons, gN, gsNil] at h
  | [x, y], _, _, h => by simp only [gsCons, gN, gsNil] at h
  | [x, y, z], _, _, h => by simp only [gsCons, gN, gsNil] at h
  | [x, y, z, w], _, _, h => by simp only [gsCons, gN, gsNil] at h
  | [x, y, z, w, v], _, _, h => rfl
  | x :: y :: z :: w :: v :: u :: r, _, _, h => by simp only [gsCons, gN, gsNil] at h
/-- (a, b) = e, a datum -/
def dAsg (de : DE) (g : DG) : DS := fun D S c => de S c fun e c1 => match e with
  | .im d => g d S fun S1 => D.nx S1 c1
  | _ => False
theorem ds_asg {tg e : Expr} {de : DE} {g : DG} {sl : List Nat} (he : PE X e (LE X.K de)) (hg : PG X tg (LG X.K sl g)) (hs : swapsWithSole [tg] e pos.line X.env = pure false := by rfl) (hw : swappedStores [tg] e X.env = pure none := by rfl)
    (h1 : (assignEach [tg] X.env).map (·.2) = [assign tg X.env] := by rfl) : PS X (.Assign [tg] e pos) (LS X.K (dAsg de g)) := by
  refine PS.le (ps_asg he hg hs hw h1) fun D σ H h => ?_
  obtain ⟨T, n, S, c, d, hS, h, h1, _⟩ := h
  refine ⟨T, n, S, c, _, hS, h, fun e c' k v H' f t r => ?_⟩
  split at k
  · refine ⟨T, n, S, c', _, _, hS.mono f t, r.rv, k, fun S1 k1 σ1 hd1 o1 _ => h1 _ _ k1 σ1 H' ⟨?_, fun b z => .inl (o1 b z)⟩ hd1⟩
    exact fr0_of f t
  · exact k.elim
end
/-! ## What is walked -/
def rng (lo : Int) (n : Nat) : List PyData := (List.range n).map fun i => .int (lo + (i : Nat))
inductive Wk (K : PySem.W.Frag) (T : Option Addr) (P : Addr → Prop) (H : Hp) (J : It) (xs : List PyData) : Prop
  | lst {a : Addr} {vs : List V} : J = Itl K a → SqL K H a vs → RpAll K H vs xs → Nt T H a → P a → Wk K T P H J xs
  | tup {a : Addr} {vs : List V} : J = Itt K a → SqT K H a vs → RpAll K H vs xs → Wk K T P H J xs
  | rng {lo : Int} {n : Nat} : J = Itr lo n → xs = rng lo n → Wk K T P H J xs
abbrev DI := Sl → Cn → (List PyData → Sl → Cn → Prop) → Prop
/-- for a loop's statements: the list that is walked is owned by no slot -/
def LI (K : PySem.W.Frag) (di : DI) : TI := fun σ H R => ∃ T n S c k, Hd K T n S c σ H ∧ di S c k ∧ ∀ xs S' c', k xs S' c' → ∀ J H', FrT T H H' → Hd K T n S' c' σ H' → (∀ b, Ow S' σ b → Ow S σ b) → Wk K T (fun a => ¬ Ow S' σ a) H' J xs → R J H'
/-- enumerate(a list) -/
def enumD (ds : List PyData) : List PyData := (List.range ds.length).map fun i => .tuple [.int (i : Nat), ds.getD i .none]
/-- a text's signs -/
def sgs (z : Str) : List PyData := z.cps.toList.map fun c => .str ⟨#[c]⟩
inductive Wkc (K : PySem.W.Frag) (T : Option Addr) (H : Hp) (J : It) (xs : List PyData) : Prop
  | of : Wk K T (fun _ => True) H J xs → Wkc K T H J xs
  | enm {a : Addr} {vs : List V} {ds : List PyData} : J = Ite K a → SqL K H a vs → RpAll K H vs ds → Nt T H a → xs = enumD ds → Wkc K T H J xs
  | sgn {z : Str} : J = Its z → xs = sgs z → Wkc K T H J xs
/-- for a comprehension -/
abbrev DIc := Sl → Cn → (List PyData → Cn → Prop) → Prop
def LIc (K : PySem.W.Frag) (di : DIc) : TI := fun σ H R => ∃ T n S c k, Hd K T n S c σ H ∧ di S c k ∧ ∀ xs c', k xs c' → ∀ J H', FrT T H H' → Tw T n c' H' → Wkc K T H' J xs → R J H'
theorem PI.le {X : Cx} {tg e : Expr} {t t' : TI} (h : PI X tg e t) (k : ∀ σ H Q, t' σ H Q → t σ H Q) : PI X tg e t' := ⟨fun p s σ H R I q => h.run p s σ H R I (k _ _ _ q)⟩
def iR1 (da : DA) : DI := fun S c k => da S c fun es c1 => match es with
  | [.im (.int j)] => (-(2 ^ 62) ≤ j ∧ j < 2 ^ 62) ∧ k (rng 0 j.toNat) S c1
  | _ => False
def iR2 (da : DA) : DI := fun S c k => da S c fun es c1 => match es with
  | [.im (.int i), .im (.int j)] => (-(2 ^ 62) ≤ i ∧ i < 2 ^ 62 ∧ -(2 ^ 62) ≤ j ∧ j < 2 ^ 62) ∧ k (rng i (j - i).toNat) S c1
  | _ => False
/-- an expression: a new list, or a tuple -/
def iE (de : DE) : DI := fun S c k => de S c fun e c1 => match e with
  | .own xs => k xs S c1
  | .im (.tuple xs) => k xs S c1
  | _ => False
/-- a name: a list of one's own is read from here on -/
def iV (i : Nat) : DI := fun S c k => match S[i]? with
  | some (some (.own xs)) => k xs (S.set i (some (.ro xs))) c
  | some (some (.ro xs)) => k xs S c
  | some (some (.im (.tuple xs))) => k xs S c
  | _ => False
def cR1 (da : DA) : DIc := fun S c k => da S c fun es c1 => match es with
  | [.im (.int j)] => (-(2 ^ 62) ≤ j ∧ j < 2 ^ 62) ∧ k (rng 0 j.toNat) c1
  | _ => False
def cR2 (da : DA) : DIc := fun S c k => da S c fun es c1 => match es with
  | [.im (.int i), .im (.int j)] => (-(2 ^ 62) ≤ i ∧ i < 2 ^ 62 ∧ -(2 ^ 62) ≤ j ∧ j < 2 ^ 62) ∧ k (rng i (j - i).toNat) c1
  | _ => False
def cE (de : DE) : DIc := fun S c k => de S c fun e c1 => match sqOf e with
  | some xs => k xs c1
  | none => False
theorem Hd.freeze {K : PySem.W.Frag} {T : Option Addr} {n : Nat} {c : Cn} {S : Sl} {σ : SS} {H : Hp} (hS : Hd K T n S c σ H) {i : Nat} {xs : List PyData} (hi : S[i]? = some (some (.own xs))) : Hd K T n (S.set i (some (.ro xs))) c σ H ∧ (∀ b, Ow (S.set i (some (.ro xs))) σ b → Ow S σ b) ∧ ∀ a, σ[i]? = some (some (.ref a)) → ¬ Ow (S.set i (some (.ro xs))) σ a := by
  refine ⟨{ len := by rw [List.length_set, hS.len], rep := fun j e h => ?_, tru := fun j zs h => ?_, dis := fun j l zs b e hjl h1 h2 h3 h4 h5 => ?_, tow := hS.tow }, fun b hb => ?_, fun a ha hb => ?_⟩
  · rcases get_set h with ⟨rfl, q⟩ | ⟨hn, q⟩
    · cases Option.some.inj q
      obtain ⟨v, e1, r⟩ := hS.rep j _ hi
      exact ⟨v, e1, r⟩
    · exact hS.rep j _ q
  · rcases get_set h with ⟨rfl, q⟩ | ⟨hn, q⟩
    · cases Option.some.inj q
    · exact hS.tru j _ q
  · rcases get_set h1 with ⟨rfl, q⟩ | ⟨hn, q⟩
    · cases Option.some.inj q
    · rcases get_set h3 with ⟨rfl, q3⟩ | ⟨hn3, q3⟩
      · exact hS.dis j l zs b _ hjl q h2 hi rfl h5
      · exact hS.dis j l zs b _ hjl q h2 q3 h4 h5
  · obtain ⟨j, zs, h1, h2⟩ := hb
    rcases get_set h1 with ⟨rfl, q⟩ | ⟨hn, q⟩
    · cases Option.some.inj q
    · exact ⟨j, zs, q, h2⟩
  · obtain ⟨j, zs, h1, h2⟩ := hb
    rcases get_set h1 with ⟨rfl, q⟩ | ⟨hn, q⟩
    · cases Option.some.inj q
    · exact hS.dis j i zs a _ hn q h2 hi rfl ha
section
variable {X : Cx} {pos p : Pos} {tg : Expr}
theorem di_r1 {a : Expr} {da : DA} (hg : Gl X "range") (hm : X.mg "range" = none) (ha : PA X [a] (LA X.K da)) (hs : starEach [a] X.env = [(false, eval a X.env)] := by rfl) : PI X tg (.Call (.Name "range" p) [a] [] pos) (LI X.K (iR1 da)) := by
  refine PI.le (pi_range1 hg hm ha hs) fun σ H R h => ?_
  obtain ⟨T, n, S, c, k, hS, h, q⟩ := h
  refine ⟨T, n, S, c, _, hS, h, fun es c1 h1 vs H1 f1 t1 r1 => ?_⟩
  split at h1
  · cases r1 with
    | cons r rs =>
      cases rs
      cases r.rv
      exact ⟨_, rfl, h1.1.1, h1.1.2, q _ _ _ h1.2 _ H1 f1 (hS.mono f1 t1) (fun _ z => z) (.rng rfl rfl)⟩
  · exact h1.elim
theorem di_r2 {a b : Expr} {da : DA} (hg : Gl X "range") (hm : X.mg "range" = none) (ha : PA X [a, b] (LA X.K da)) (hs : starEach [a, b] X.env = [(false, eval a X.env), (false, eval b X.env)] := by rfl) (hs2 : starEach [b] X.env = [(false, eval b X.env)] := by rfl) :
    PI X tg (.Call (.Name "range" p) [a, b] [] pos) (LI X.K (iR2 da)) := by
  refine PI.le (pi_range2 hg hm ha hs hs2) fun σ H R h => ?_
  obtain ⟨T, n, S, c, k, hS, h, q⟩ := h
  refine ⟨T, n, S, c, _, hS, h, fun es c1 h1 vs H1 f1 t1 r1 => ?_⟩
  split at h1
  · cases r1 with
    | cons r rs =>
      cases rs with
      | cons r2 rs =>
        cases rs
        cases r.rv
        cases r2.rv
        exact ⟨_, _, rfl, h1.1, q _ _ _ h1.2 _ H1 f1 (hS.mono f1 t1) (fun _ z => z) (.rng rfl rfl)⟩
  · exact h1.elim
/-- a list or a tuple, whichever comes -/
def iBoth (K : PySem.W.Frag) (tl : TE) : TI := fun σ H R => tl σ H fun x H1 => ∃ a, x = .ref a ∧ (((∃ xs, SqL K H1 a xs) ∧ R (Itl K a) H1) ∨ ((∃ xs, SqT K H1 a xs) ∧ R (Itt K a) H1))
theorem pi_both {l : Expr} {tl : TE} (hl : PE X l tl) : PI X tg l (iBoth X.K tl) := ⟨fun pins s σ H R I h => by
  refine thn (hl.run pins s σ H _ I h) fun v s1 ⟨x, H1, I1, r1, a, ea, hq⟩ => ?_
  subst ea
  have fp : ∀ b ∈ [s1.heap.objs.size], FpOk X pins H1 b := fun b hb => by rw [show b = s1.heap.objs.size by simpa using hb]; exact I1.fpOk (Nat.le_refl _) I1.fresh
  have old : ∀ (o' : Obj) b o, s1.heap.get? b = some o → (s1.heap.push o').get? b = some o := fun o' b o e => Heap.get?_push_of_some _ e
  rcases hq with ⟨⟨xs, hs⟩, hR⟩ | ⟨⟨xs, hs⟩, hR⟩
  · cases r1
    obtain ⟨its, rv, pl, hz⟩ := I1.list hs
    exact wpAny_pyIter_list pl.isList ⟨_, [s1.heap.objs.size], _, _, H1, rfl, I1.kept (t' := s1.toks) (old _), turn_list a _, ⟨_, Heap.get?_push_size _ rfl, rfl, rfl⟩, fp, hR⟩
  · cases r1
    obtain ⟨its, rv, pl, hz⟩ := I1.tuple hs
    exact wpAny_pyIter_tuple (show s1.heap.IsTuple a its.toArray from pl) ⟨_, [s1.heap.objs.size], _, _, H1, rfl, I1.kept (t' := s1.toks) (old _), turn_tuple a _, ⟨_, Heap.get?_push_size _ rfl, rfl, rfl⟩, fp, hR⟩⟩
theorem nw_ow {K : PySem.W.Frag} {T : Option Addr} {n : Nat} {c : Cn} {S : Sl} {σ : SS} {H : Hp} (hS : Hd K T n S c σ H) {a : Addr} (h : H a = none) : ¬ Ow S σ a := fun ⟨i, xs, h1, h2⟩ => by
  obtain ⟨o, z⟩ := hS.tracked h1 rfl h2
  rw [h] at z
  cases z
theorem di_e {l : Expr} {de : DE} (hl : PE X l (LE X.K de)) : PI X tg l (LI X.K (iE de)) := by
  refine PI.le (pi_both hl) fun σ H R h => ?_
  obtain ⟨T, n, S, c, k, hS, h, q⟩ := h
  refine ⟨T, n, S, c, _, hS, h, fun e c1 h1 v H1 f1 t1 r1 => ?_⟩
  split at h1
  · obtain ⟨a, vs, e1, n1, s1, q1⟩ := r1.nw
    obtain ⟨a2, vs2, e2, n2, _, _⟩ := r1.rv
    rw [e1] at e2
    cases e2
    exact ⟨a, e1, .inl ⟨⟨vs, .inl (.inl s1)⟩, q _ _ _ h1 _ H1 f1 (hS.mono f1 t1) (fun _ z => z) (.lst rfl (.inl (.inl s1)) q1 n2 (nw_ow hS n1))⟩⟩
  · cases r1.rv with
    | tup s r => exact ⟨_, rfl, .inr ⟨⟨_, .inl (.inl s)⟩, q _ _ _ h1 _ H1 f1 (hS.mono f1 t1) (fun _ z => z) (.tup rfl (.inl (.inl s)) r)⟩⟩
  · exact h1.elim
theorem di_v (i : Nat) {x : Str} (hN : X.N[i]? = some x := by rfl) (hv : Vis X.env.scope x := by first | exact Or.inl rfl | exact Or.inr (Or.inl rfl) | exact Or.inr (Or.inr rfl)) (hd : (x == ("__debug__" : Str)) = false := by decide)
    (hcd : (x == ("__classdict__" : Str)) = false := by decide) : PI X tg (.Name x pos) (LI X.K (iV i)) := by
  refine PI.le (pi_both (pe_var hN hv hd hcd)) fun σ H R h => ?_
  obtain ⟨T, n, S, c, k, hS, h, q⟩ := h
  unfold iV at h
  split at h
  · rename_i xs hi
    obtain ⟨a, vs, e1, e2, r⟩ := hS.tru i _ hi
    obtain ⟨v, e3, a2, vs2, e4, n4, _⟩ := hS.rep i _ hi
    rw [e1] at e3
    cases e3
    cases e4
    obtain ⟨p1, p2, p3⟩ := hS.freeze hi
    exact ⟨_, e1, a, rfl, .inl ⟨⟨vs, .inl (.inl e2)⟩, q _ _ _ h _ H (.refl _ _) p1 p2 (.lst rfl (.inl (.inl e2)) r n4 (p3 a e1))⟩⟩
  · rename_i xs hi
    obtain ⟨v, e3, a, vs, e4, n4, s, r⟩ := hS.rep i _ hi
    subst e4
    refine ⟨_, e3, a, rfl, .inl ⟨⟨vs, .inl (.inl s)⟩, q _ _ _ h _ H (.refl _ _) hS (fun _ z => z) (.lst rfl (.inl (.inl s)) r n4 fun ⟨j, zs, h1, h2⟩ => ?_)⟩⟩
    by_cases z : j = i
    · subst z; rw [hi] at h1; cases h1
    · exact hS.dis j i zs a _ z h1 h2 hi rfl e3
  · rename_i xs hi
    obtain ⟨v, e3, r⟩ := hS.rep i _ hi
    cases r with
    | tup s r => exact ⟨_, e3, _, rfl, .inr ⟨⟨_, .inl (.inl s)⟩, q _ _ _ h _ H (.refl _ _) hS (fun _ z => z) (.tup rfl (.inl (.inl s)) r)⟩⟩
  · exact h.elim
theorem dic_r1 {a : Expr} {da : DA} (hg : Gl X "range") (hm : X.mg "range" = none) (ha : PA X [a] (LA X.K da)) (hs : starEach [a] X.env = [(false, eval a X.env)] := by rfl) : PI X tg (.Call (.Name "range" p) [a] [] pos) (LIc X.K (cR1 da)) := by
  refine PI.le (pi_range1 hg hm ha hs) fun σ H R h => ?_
  obtain ⟨T, n, S, c, k, hS, h, q⟩ := h
  refine ⟨T, n, S, c, _, hS, h, fun es c1 h1 vs H1 f1 t1 r1 => ?_⟩
  split at h1
  · cases r1 with
    | cons r rs =>
      cases rs
      cases r.rv
      exact ⟨_, rfl, h1.1.1, h1.1.2, q _ _ h1.2 _ H1 f1 t1 (.of (.rng rfl rfl))⟩
  · exact h1.elim
theorem dic_r2 {a b : Expr} {da : DA} (hg : Gl X "range") (hm : X.mg "range" = none) (ha : PA X [a, b] (LA X.K da)) (hs : starEach [a, b] X.env = [(false, eval a X.env), (false, eval b X.env)] := by rfl) (hs2 : starEach [b] X.env = [(false, eval b X.env)] := by rfl) :
    PI X tg (.Call (.Name "range" p) [a, b] [] pos) (LIc X.K (cR2 da)) := by
  refine PI.le (pi_range2 hg hm ha hs hs2) fun σ H R h => ?_
  obtain ⟨T, n, S, c, k, hS, h, q⟩ := h
  refine ⟨T, n, S, c, _, hS, h, fun es c1 h1 vs H1 f1 t1 r1 => ?_⟩
  split at h1
  · cases r1 with
    | cons r rs =>
      cases rs with
      | cons r2 rs =>
        cases rs
        cases r.rv
        cases r2.rv
        exact ⟨_, _, rfl, h1.1, q _ _ h1.2 _ H1 f1 t1 (.of (.rng rfl rfl))⟩
  · exact h1.elim
theorem dic_e {l : Expr} {de : DE} (hl : PE X l (LE X.K de)) : PI X tg l (LIc X.K (cE de)) := by
  refine PI.le (pi_both hl) fun σ H R h => ?_
  obtain ⟨T, n, S, c, k, hS, h, q⟩ := h
  refine ⟨T, n, S, c, _, hS, h, fun e c1 h1 v H1 f1 t1 r1 => ?_⟩
  split at h1
  · rename_i xs e1
    obtain ⟨a, ws, rfl, r2, s2⟩ := sqOf_rv r1.rv e1
    rcases s2 with ⟨n1, s1⟩ | ⟨s1, s1'⟩
    · exact ⟨a, rfl, .inl ⟨⟨ws, s1⟩, q _ _ h1 _ H1 f1 t1 (.of (.lst rfl s1 r2 n1 trivial))⟩⟩
    · exact ⟨a, rfl, .inr ⟨⟨ws, s1⟩, q _ _ h1 _ H1 f1 t1 (.of (.tup rfl s1 r2))⟩⟩
  · exact h1.elim
def cS (de : DE) : DIc := fun S c k => de S c fun e c1 => match e with
  | .im (.str z) => k (sgs z) c1
  | _ => False
theorem dic_s {l : Expr} {de : DE} (hl : PE X l (LE X.K de)) : PI X tg l (LIc X.K (cS de)) := by
  refine PI.le (pi_str hl) fun σ H R h => ?_
  obtain ⟨T, n, S, c, k, hS, h, q⟩ := h
  refine ⟨T, n, S, c, _, hS, h, fun e c1 h1 v H1 f1 t1 r1 => ?_⟩
  split at h1
  · cases r1.rv
    exact ⟨_, rfl, q _ _ h1 _ H1 f1 t1 (.sgn rfl rfl)⟩
  · exact h1.elim
def cEn (da : DA) : DIc := fun S c k => da S c fun es c1 => match es with
  | [x] => match lsOf x with
    | some xs => k (enumD xs) c1
    | none => False
  | _ => False
theorem dic_enum {e : Expr} {da : DA} {tpos : Pos} {elts : List Expr} {kk : Nat} (hg : Gl X "enumerate") (hm : X.mg "enumerate" = none) (ha : PA X [e] (LA X.K da)) (hs : starEach [e] X.env = [(false, eval e X.env)] := by rfl) :
    PI X (.Tuple elts kk tpos) (.Call (.Name "enumerate" p) [e] [] pos) (LIc X.K (cEn da)) := by
  refine PI.le (pi_enum hg hm ha hs) fun σ H R h => ?_
  obtain ⟨T, n, S, c, k, hS, h, q⟩ := h
  refine ⟨T, n, S, c, _, hS, h, fun es c1 h1 vs H1 f1 t1 r1 => ?_⟩
  split at h1
  · cases r1 with
    | cons r rs =>
      cases rs
      split at h1
      · rename_i xs e1
        obtain ⟨a, ws, rfl, n1, s1, r2⟩ := lsOf_rv r.rv e1
        exact ⟨a, ws, rfl, .inl (.inl s1), q _ _ h1 _ H1 f1 t1 (.enm rfl (.inl (.inl s1)) r2 n1 rfl)⟩
      · exact h1.elim
  · exact h1.elim
end
/-! ## for -/
def forL (g : DG) (t : DS) (D : DEnds) : List PyData → Sl → Cn → Prop
  | [], S, c => D.nx S c
  | x :: xs, S, c => g x S fun S1 => t { nx := forL g t D xs, ct := forL g t D xs, bk := D.nx, rt := D.rt } S1 c
def dFor (di : DI) (g : DG) (t : DS) : DS := fun D S c => di S c fun xs S1 c1 => forL g t D xs S1 c1
theorem drop_get {α : Type} {l : List α} {i : Nat} {x : α} (h : l[i]? = some x) : l.drop i = x :: l.drop (i + 1) := by
  obtain ⟨hl, e⟩ := List.getElem?_eq_some_iff.mp h
  rw [List.drop_eq_getElem_cons hl, e]
section
variable {X : Cx} {tg : Expr} {g : DG} {t : DS} {di : DI} {pos : Pos} {sl : List Nat}
theorem ds_for {iter : Expr} {body : List Stmt} (hp : PassesOwn (model X.prog X.w) X.A X.env X.xe) (hc : X.calm = true) (hi : PI X tg iter (LI X.K di)) (hg : PG X tg (LG X.K sl g)) (hb : PSs X body (LS X.K t))
    (hs : ∀ x, foldedSetIterable iter X.env x = pure x := by intro _; rfl) : PS X (.For tg iter body [] pos) (LS X.K (dFor di g t)) := by
  refine PS.le (ps_for hp hc hi hg hb hs) fun D σ H h => ?_
  obtain ⟨T, n, S, c, d, hS, h, h1, h2, h3, h4⟩ := h
  refine ⟨T, n, S, c, _, hS, h, fun xs S0 c0 k0 J H0 f0 hd0 o0 w0 => ?_⟩
  have s0 : Fs T S σ H S0 σ H0 := ⟨fr0_of f0 hd0.tow, fun b z => .inl (o0 b z)⟩
  -- the invariant behind i turns
  let Pv : Nat → SS → Hp → Prop := fun i σ' H' => ∃ S' c', forL g t d (xs.drop i) S' c' ∧ Fs T S0 σ H0 S' σ' H' ∧ Hd X.K T n S' c' σ' H'
  have p0 : Pv 0 σ H0 := ⟨S0, c0, k0, .refl _ _ _ _, hd0⟩
  have turn : ∀ (i : Nat) (x : PyData) (v : V) (σ' : SS) (H' : Hp), xs[i]? = some x → (∀ S', (∃ c', Hd X.K T n S' c' σ' H') → Rp X.K H' v x) → Pv i σ' H' → LG X.K sl g v σ' H' fun σ2 H2 => LS X.K t { D with nx := Pv (i + 1), ct := Pv (i + 1), bk := D.nx } σ2 H2 := by
    rintro i x v σ' H' hx hr ⟨S', c', k, f, hd⟩
    rw [drop_get hx] at k
    refine ⟨T, n, S', c', x, _, hd, hr S' ⟨c', hd⟩, k, fun S2 k2 σ2 hd2 o2 _ => ?_⟩
    have f2 : Fs T S0 σ H0 S2 σ2 H' := f.trans ⟨.refl _ _ _ _, fun b z => .inl (o2 b z)⟩
    have f3 := s0.trans f2
    exact ⟨T, n, S2, c', _, hd2, k2, fun S3 c3 q σ3 H3 g3 hd3 => ⟨S3, c3, q, f2.trans g3, hd3⟩, fun e c3 q v H3 g3 t3 r3 => h2 _ _ q v H3 (f3.trans0 g3) t3 (r3.trans f3),
      fun S3 c3 q σ3 H3 g3 hd3 => h1 _ _ q σ3 H3 (f3.trans g3) hd3, fun S3 c3 q σ3 H3 g3 hd3 => ⟨S3, c3, q, f2.trans g3, hd3⟩⟩
  have done : ∀ σ' H', Pv xs.length σ' H' → D.nx σ' H' := by
    rintro σ' H' ⟨S', c', k, f, hd⟩
    rw [List.drop_length] at k
    exact h1 _ _ k σ' H' (s0.trans f) hd
  have kef : ∀ {S' : Sl} {σ' : SS} {H' : Hp} {c' : Cn}, Fs T S0 σ H0 S' σ' H' → Ke H0 H' := fun {S' σ' H' c'} f b o h => by
    by_cases z : Nt T H0 b
    · by_cases y : Ow S0 σ b
      · obtain ⟨j, zs, q1, q2⟩ := y
        obtain ⟨a, vs, e1, e2, _⟩ := hd0.tru j zs q1
        rw [q2] at e1
        cases e1
        rw [h] at e2
        rw [Option.some.inj e2]
        exact .inl (.lst _)
      · exact .inr (f.keep b o h z y)
    · exact .inl (hd0.tow.lk h z)
  cases w0 with
  | lst e s r nt no =>
    rename_i a vs
    subst e
    have kp : ∀ i σ' H', Pv i σ' H' → SqL X.K H' a vs ∧ RpAll X.K H' vs xs := by
      rintro i σ' H' ⟨S', c', k, f, hd⟩
      refine ⟨?_, RpAll.ke (kef (c' := c') f) _ _ r⟩
      rcases s with (s | ⟨o, s⟩) | s
      · exact .inl (.inl (f.keep a _ s nt no))
      · exact .inl (.inr ⟨o, f.keep a _ s nt no⟩)
      · exact .inr s
    refine for_list (xs := vs) Pv p0 (fun i σ' H' _ p => (kp i σ' H' p).1) (fun i v σ' H' hv p => ?_) (by rw [r.len]; exact done)
    obtain ⟨x, hx⟩ : ∃ x, xs[i]? = some x := by
      have hl : i < xs.length := by
        rw [← r.len]
        exact (List.getElem?_eq_some_iff.mp hv).1
      exact ⟨_, List.getElem?_eq_getElem hl⟩
    refine turn i x v σ' H' hx (fun _ _ => ?_) p
    obtain ⟨w, e1, e2⟩ := (kp i σ' H' p).2.get hx
    rw [hv] at e1
    cases e1
    exact e2
  | tup e s r =>
    rename_i a vs
    subst e
    have kp : ∀ i σ' H', Pv i σ' H' → SqT X.K H' a vs ∧ RpAll X.K H' vs xs := by
      rintro i σ' H' ⟨S', c', k, f, hd⟩
      exact ⟨SqT.ke s (kef (c' := c') f), RpAll.ke (kef (c' := c') f) _ _ r⟩
    refine for_tup (xs := vs) Pv p0 (fun i σ' H' _ p => (kp i σ' H' p).1) (fun i v σ' H' hv p => ?_) (by rw [r.len]; exact done)
    obtain ⟨x, hx⟩ : ∃ x, xs[i]? = some x := by
      have hl : i < xs.length := by
        rw [← r.len]
        exact (List.getElem?_eq_some_iff.mp hv).1
      exact ⟨_, List.getElem?_eq_getElem hl⟩
    refine turn i x v σ' H' hx (fun _ _ => ?_) p
    obtain ⟨w, e1, e2⟩ := (kp i σ' H' p).2.get hx
    rw [hv] at e1
    cases e1
    exact e2
  | rng e ex =>
    rename_i lo m
    subst e
    have el : xs.length = m := by rw [ex]; simp [rng]
    refine for_range Pv p0 (fun i σ' H' hi p => turn i (.int (lo + (i : Nat))) _ σ' H' ?_ (fun _ _ => .int _) p) (by rw [← el]; exact done)
    rw [ex]
    simp [rng, hi]
end
end ND
namespace ND
open PySem PySem.Spec L2
/-! ## Comprehensions -/
def wipeS (S : Sl) : List Nat → Sl
  | [] => S
  | v :: vs => (wipeS S vs).set v none
theorem wipeS_length (S : Sl) : ∀ vs : List Nat, (wipeS S vs).length = S.length
  | [] => rfl
  | v :: vs => by unfold wipeS; rw [List.length_set, wipeS_length S vs]
theorem wipeS_some {S : Sl} {i : Nat} {e : En} : ∀ {vs : List Nat}, (wipeS S vs)[i]? = some (some e) → S[i]? = some (some e) ∧ i ∉ vs
  | [], h => ⟨h, fun z => by cases z⟩
  | v :: vs, h => by
    unfold wipeS at h
    rcases get_set h with ⟨_, q⟩ | ⟨hn, q⟩
    · cases q
    · obtain ⟨h1, h2⟩ := wipeS_some q
      exact ⟨h1, fun z => by rcases List.mem_cons.mp z with z | z; exact hn z; exact h2 z⟩
theorem Hd.wipe {K : PySem.W.Frag} {T : Option Addr} {n : Nat} {c : Cn} {S : Sl} {σ : SS} {H : Hp} (hS : Hd K T n S c σ H) (vs : List Nat) : Hd K T n (wipeS S vs) c (L2.wipe σ vs) H where
  len := by rw [wipeS_length, wipe_length, hS.len]
  rep := fun i e h => by
    obtain ⟨h1, h2⟩ := wipeS_some h
    obtain ⟨v, e1, r⟩ := hS.rep i e h1
    exact ⟨v, by rw [wipe_out h2]; exact e1, r⟩
  tru := fun i xs h => by
    obtain ⟨h1, h2⟩ := wipeS_some h
    obtain ⟨a, vs, e1, r⟩ := hS.tru i xs h1
    exact ⟨a, vs, by rw [wipe_out h2]; exact e1, r⟩
  dis := fun i j xs a e hij h1 h2 h3 h4 h5 => by
    obtain ⟨p1, p2⟩ := wipeS_some h1
    obtain ⟨q1, q2⟩ := wipeS_some h3
    rw [wipe_out p2] at h2
    rw [wipe_out q2] at h5
    exact hS.dis i j xs a e hij p1 h2 q1 h4 h5
  tow := hS.tow
def lcL (g : DG) (dt : DT) (de : DE) (S : Sl) (k : En → Cn → Prop) : List PyData → List PyData → Cn → Prop
  | [], acc, c => k (.own acc) c
  | x :: xs, acc, c => g x S fun S1 => dt S1 c fun b c1 => if b = true then de S1 c1 (fun e c2 => match e with
    | .im d => acc.length < 100000 ∧ lcL g dt de S k xs (acc ++ [d]) c2
    | _ => False) else lcL g dt de S k xs acc c1
def dLc (di : DIc) (g : DG) (dt : DT) (de : DE) (vs : List Nat) : DE := fun S c k => di S c fun xs c1 => lcL g dt de (wipeS S vs) k xs [] c1
def dYes : DT := fun _ c k => k true c
section
variable {X : Cx} {pos : Pos}
theorem PTs.le {e : List Expr} {t t' : TT} (h : PTs X e t) (k : ∀ σ H Q, t' σ H Q → t σ H Q) : PTs X e t' := ⟨fun p s σ H Q I q => h.run p s σ H Q I (k σ H Q q)⟩
theorem dts_nil : PTs X [] (LT X.K dYes) := by
  refine PTs.le pts_nil fun σ H Q h => ?_
  obtain ⟨T, n, S, c, k, hS, h, q⟩ := h
  exact q _ _ h H (.refl _ _) hS.tow
theorem dts_one {c : Expr} {t : DT} (h : PT X c (LT X.K t)) : PTs X [c] (LT X.K t) := pts_one h
variable {di : DIc} {g : DG} {dt : DT} {de : DE} {sl vs : List Nat}
theorem lc_le {σ : SS} {H : Hp} {Q : VK} {K : PySem.W.Frag} (hv : ∀ i ∈ sl, i ∈ vs) (h : LE K (dLc di g dt de vs) σ H Q) : tLc (LIc K di) (LG K sl g) (LT K dt) (LE K de) vs σ H Q := by
  obtain ⟨T, n, S, c, k, hS, h, q⟩ := h
  refine ⟨T, n, S, c, _, hS, h, fun xs c0 k0 J H0 f0 t0 w0 D hD => ?_⟩
  have hd0 : Hd K T n (wipeS S vs) c0 (L2.wipe σ vs) H0 := (hS.mono f0 t0).wipe vs
  have hDH : H D = none := f0.trk D hD
  let Pv : Nat → Hp → Prop := fun i H' => ∃ c' acc ws, lcL g dt de (wipeS S vs) k (xs.drop i) acc c' ∧ FrT T H0 H' ∧ Tw T n c' H' ∧ H' D = some (.lst ws) ∧ RpAll K H' ws acc ∧ Nt T H' D
  have p0 : Pv 0 (upd H0 D (.lst [])) := ⟨c0, [], [], k0, frT_same (same_upd hD), tw_same t0 (same_upd hD), upd_same, .nil, nt_new t0 hD⟩
  have turn : ∀ (i : Nat) (x : PyData) (v : V) (H' : Hp), xs[i]? = some x → Rp K H' v x → Pv i H' → LG K sl g v (L2.wipe σ vs) H' fun σ2 H2 => L2.wipe σ2 vs = L2.wipe σ vs ∧ LT K dt σ2 H2 fun b H3 =>
      if b = true then LE K de σ2 H3 fun y H4 => ∃ acc, H4 D = some (.lst acc) ∧ acc.length < sizeLine ∧ Pv (i + 1) (upd H4 D (.lst (acc ++ [y]))) else Pv (i + 1) H3 := by
    rintro i x v H' hx hr ⟨c', acc, ws, kk, f, t, e, r, ntD⟩
    rw [drop_get hx] at kk
    refine ⟨T, n, _, c', x, _, hd0.mono f t, hr, kk, fun S2 k2 σ2 hd2 o2 w2 => ⟨?_, ?_⟩⟩
    · have z : L2.wipe (L2.wipe σ vs) vs = L2.wipe σ vs := wipe_ext (wipe_length σ vs) fun j hj => wipe_out hj
      exact (w2 vs hv).trans z
    · refine ⟨T, n, S2, c', _, hd2, k2, fun b c3 k3 H3 f3 t3 => ?_⟩
      cases b with
      | false => exact ⟨c3, acc, ws, k3, f.trans f3, t3, f3.keep _ _ e ntD, RpAll.ke (f3.ke t) _ _ r, f3.nt ntD e⟩
      | true =>
        refine ⟨T, n, S2, c3, _, hd2.mono f3 t3, k3, fun ee c4 k4 y H4 f4 t4 r4 => ?_⟩
        split at k4
        · have e3 := f3.keep _ _ e ntD
          have nt3 := f3.nt ntD e
          have e4 := f4.keep _ _ e3 nt3
          have nt4 := f4.nt nt3 e3
          have r5 : RpAll K H4 ws acc := RpAll.ke (f4.ke t3) _ _ (RpAll.ke (f3.ke t) _ _ r)
          have ke : Ke H4 (upd H4 D (.lst (ws ++ [y]))) := fun b o h => by
            by_cases z : b = D
            · subst z; rw [e4] at h; cases h; exact .inl (.lst _)
            · exact .inr (by rw [upd_ne z]; exact h)
          have f5 : FrT T H0 H4 := (f.trans f3).trans f4
          refine ⟨ws, e4, ?_, c4, _, ws ++ [y], k4.2, ⟨fun b o h nt => ?_, fun b m => f5.mu b (mu_upd e4 m), fun b h => ?_⟩, tw_upd t4 e4 nt4, upd_same, RpAll.ke ke _ _ (r5.append (.cons r4.rv .nil)), ⟨nt4.1, fun m => nt4.2 (mu_upd e4 m)⟩⟩
          · rw [r5.len]
            exact sz_lt k4.1
          · have hb : b ≠ D := fun z => by rw [z, hD] at h; cases h
            rw [upd_ne hb]
            exact f5.keep b o h nt
          · by_cases z : b = D
            · rw [z]; exact hD
            · rw [upd_ne z] at h
              exact f5.trk b h
        · exact k4.elim
  have done : ∀ H', Pv xs.length H' → Q (.ref D) H' := by
    rintro H' ⟨c', acc, ws, kk, f, t, e, r, ntD⟩
    rw [List.drop_length] at kk
    exact q _ _ kk _ H' (f0.trans f) t ⟨⟨D, ws, rfl, ntD, e, r⟩, ⟨D, ws, rfl, hDH, e, r⟩⟩
  have kep : ∀ {i H'}, Pv i H' → Ke H0 H' := fun {i H'} ⟨c', acc, ws, kk, f, t, e, r, ntD⟩ => f.ke t0
  rcases w0 with w0 | ⟨eJ, s, r, nt, ex⟩ | ⟨eJ, ex⟩
  rotate_left 2
  · rename_i z
    subst eJ
    have lx : xs.length = z.cps.size := by rw [ex]; simp [sgs]
    refine ⟨(fun i m H2 => m = z.cps.size - i ∧ i ≤ z.cps.size ∧ Pv i H2), ⟨z.cps.size, by simp, Nat.zero_le _, p0⟩, ?_⟩
    rintro i m H' ⟨rfl, hi, p⟩
    by_cases hlt : i < z.cps.size
    · refine .inr ⟨hlt, Pv (i + 1), (fun H2 p2 => ⟨z.cps.size - (i + 1), by omega, rfl, hlt, p2⟩), fun x H2 y => ?_⟩
      obtain ⟨rfl, cc, hcc, rfl⟩ := y
      refine turn i (.str ⟨#[cc]⟩) _ _ ?_ (.str _) p
      rw [ex]
      simp [sgs, hcc]
    · have e : i = z.cps.size := by omega
      subst e
      exact .inl ⟨Nat.le_refl _, done H' (by rw [lx]; exact p)⟩
  rotate_left
  · rename_i a us dd
    subst eJ
    have kp : ∀ i H', Pv i H' → SqL K H' a us := by
      rintro i H' ⟨c', acc, ws, kk, f, t, e, r, ntD⟩
      exact s.elim (fun z => .inl (f.sql nt z)) .inr
    have lx : xs.length = us.length := by rw [ex, r.len]; simp [enumD]
    refine ⟨(fun i m H2 => m = us.length - i ∧ i ≤ us.length ∧ Pv i H2), ⟨us.length, by simp, Nat.zero_le _, p0⟩, ?_⟩
    rintro i m H' ⟨rfl, hi, p⟩
    have q1 := kp i H' p
    by_cases hlt : i < us.length
    · refine .inr ⟨⟨us, us[i], q1, by simp [hlt]⟩, Pv (i + 1), (fun H2 p2 => ⟨us.length - (i + 1), by omega, rfl, hlt, p2⟩), fun x H2 y => ?_⟩
      obtain ⟨Tt, xv, rfl, hT, rfl, hy⟩ := y
      have hxv := hy us q1
      have hl : i < dd.length := by rw [← r.len]; exact hlt
      obtain ⟨w, e1, e2⟩ := (RpAll.ke (kep p) _ _ r).get (List.getElem?_eq_getElem hl)
      rw [hxv] at e1
      cases e1
      have sm := same_upd (o := HO.tup [.int ((i : Nat) : Int), xv]) hT
      have p' : Pv i (upd H' Tt (.tup [.int ((i : Nat) : Int), xv])) := by
        obtain ⟨c', acc, ws, kk, f, t, e, r', ntD⟩ := p
        exact ⟨c', acc, ws, kk, f.trans (frT_same sm), tw_same t sm, sm.sm _ _ e, RpAll.ke (fun b o z => .inr (sm.sm b o z)) _ _ r', (frT_same sm).nt ntD e⟩
      refine turn i (.tuple [.int ((i : Nat) : Int), dd[i]]) (.ref Tt) _ ?_ (rp_tup hT (.cons (.int _) (.cons e2 .nil))) p'
      rw [ex]
      simp [enumD, hl]
    · have e : i = us.length := by omega
      subst e
      exact .inl ⟨⟨us, q1, Nat.le_refl _⟩, done H' (by rw [lx]; exact p)⟩
  cases w0 with
  | lst e s r nt no =>
    rename_i a us
    subst e
    have kp : ∀ i H', Pv i H' → SqL K H' a us := by
      rintro i H' ⟨c', acc, ws, kk, f, t, e, r, ntD⟩
      exact s.elim (fun z => .inl (f.sql nt z)) .inr
    refine lc_list (xs := us) Pv p0 (fun i H' _ p => kp i H' p) (fun i v H' hv p => ?_) (by rw [r.len]; exact done)
    have hl : i < xs.length := by rw [← r.len]; exact (List.getElem?_eq_some_iff.mp hv).1
    obtain ⟨w, e1, e2⟩ := (RpAll.ke (kep p) _ _ r).get (List.getElem?_eq_getElem hl)
    rw [hv] at e1
    cases e1
    exact turn i _ _ H' (List.getElem?_eq_getElem hl) e2 p
  | tup e s r =>
    rename_i a us
    subst e
    refine lc_tup (xs := us) Pv p0 (fun i H' _ p => SqT.ke s (kep p)) (fun i v H' hv p => ?_) (by rw [r.len]; exact done)
    have hl : i < xs.length := by rw [← r.len]; exact (List.getElem?_eq_some_iff.mp hv).1
    obtain ⟨w, e1, e2⟩ := (RpAll.ke (kep p) _ _ r).get (List.getElem?_eq_getElem hl)
    rw [hv] at e1
    cases e1
    exact turn i _ _ H' (List.getElem?_eq_getElem hl) e2 p
  | rng e ex =>
    rename_i lo m
    subst e
    have el : xs.length = m := by rw [ex]; simp [rng]
    refine lc_range Pv p0 (fun i H' hi p => turn i (.int (lo + (i : Nat))) _ H' ?_ (.int _) p) (by rw [← el]; exact done)
    rw [ex]
    simp [rng, hi]
theorem de_lc {elt tg iter : Expr} {ifs : List Expr} {scope : Scope} {own : List (Str × Nat)} (hc : X.calm = true) (hN : X.N.Nodup) (hi : PI X tg iter (LIc X.K di)) (ok : BlkOk X.N X.env.scope scope own)
    (hg : ∀ (s : Shared) (H : Hp) (C : Addr) (cl : List (Str × Addr)) (fp : List Addr), PG (X.blk s H scope (compEnvC scope cl C X.env) fp) tg (LG X.K sl g)) (ht : ∀ (s : Shared) (H : Hp) (C : Addr) (cl : List (Str × Addr)) (fp : List Addr), PTs (X.blk s H scope (compEnvC scope cl C X.env) fp) ifs (LT X.K dt))
    (he : ∀ (s : Shared) (H : Hp) (C : Addr) (cl : List (Str × Addr)) (fp : List Addr), PE (X.blk s H scope (compEnvC scope cl C X.env) fp) elt (LE X.K de)) (hv : ∀ i ∈ sl, i ∈ own.map (·.2) := by decide) (hs : ∀ x, foldedSetIterable iter X.env x = pure x := by intro _; rfl) :
    PE X (.ListComp elt [⟨tg, iter, ifs, 0⟩] scope pos) (LE X.K (dLc di g dt de (own.map (·.2)))) := PE.le (pe_lc hc hN hi ok hg ht he hs) fun _ _ _ h => lc_le hv h
theorem ds_lc {i : Nat} {y : Str} {py : Pos} {elt tg iter : Expr} {ifs : List Expr} {scope : Scope} {own : List (Str × Nat)} {spos : Pos} (hc : X.calm = true) (hN : X.N.Nodup) (hy : X.N[i]? = some y) (hyl : X.env.scope.names.lookup y = some .local)
    (hsw : swapsWith (.ListComp elt [⟨tg, iter, ifs, 0⟩] scope pos) (some (.Name y py)) spos.line X.env = pure true) (hi : PI X tg iter (LIc X.K di)) (ok : BlkOk X.N X.env.scope scope own)
    (hg : ∀ (s : Shared) (H : Hp) (C : Addr) (cl : List (Str × Addr)) (fp : List Addr), PG (X.blk s H scope (compEnvC scope cl C X.env) fp) tg (LG X.K sl g)) (ht : ∀ (s : Shared) (H : Hp) (C : Addr) (cl : List (Str × Addr)) (fp : List Addr), PTs (X.blk s H scope (compEnvC scope cl C X.env) fp) ifs (LT X.K dt))
    (he : ∀ (s : Shared) (H : Hp) (C : Addr) (cl : List (Str × Addr)) (fp : List Addr), PE (X.blk s H scope (compEnvC scope cl C X.env) fp) elt (LE X.K de)) (hv : ∀ i ∈ sl, i ∈ own.map (·.2) := by decide) (hs : ∀ x, foldedSetIterable iter X.env x = pure x := by intro _; rfl) :
    PS X (.Assign [.Name y py] (.ListComp elt [⟨tg, iter, ifs, 0⟩] scope pos) spos) (LS X.K (dSet i (dLc di g dt de (own.map (·.2))))) := by
  refine PS.le (ps_setLc hc hN hy hyl hsw hi ok hg ht he hs) fun D σ H h => ?_
  obtain ⟨T, n, S, c, d, hS, h, h1, _⟩ := h
  refine lc_le (di := di) (g := g) (dt := dt) (de := de) hv ⟨T, n, S, c, _, hS, h, fun e c' k v H' f t r => ?_⟩
  cases e with
  | im x =>
    obtain ⟨a, b⟩ := set_ok hS i f t r (fun _ z => by cases z) (fun z => by cases z)
    exact h1 _ _ k _ H' b a
  | own xs =>
    obtain ⟨a, b⟩ := set_ok hS i f t r (fun _ z => by cases z) (fun z => by cases z)
    exact h1 _ _ k _ H' b a
  | ro xs => exact k.elim
  | sc xs => exact k.elim
  | tw => exact k.elim
  | ses x =>
    obtain ⟨a, b⟩ := set_ok hS i f t r (fun _ z => by cases z) (fun z => by cases z)
    exact h1 _ _ k _ H' b a
  | sp _ _ => exact k.elim
end
/-! ## A def by its body's reading -/
def st0 (N : List Str) (es : List En) : Sl := es.map some ++ List.replicate (N.length - es.length) none
theorem RvAll.len {K : PySem.W.Frag} {T : Option Addr} {H : Hp} : ∀ {vs : List V} {es : List En}, RvAll K T H vs es → vs.length = es.length
  | _, _, .nil => rfl
  | _, _, .cons _ _ rs => by simp [RvAll.len rs]
theorem RvAll.get {K : PySem.W.Frag} {T : Option Addr} {H : Hp} : ∀ {vs : List V} {es : List En} {i : Nat} {e : En}, RvAll K T H vs es → es[i]? = some e → ∃ v, vs[i]? = some v ∧ Rv K T H v e ∧ ∀ xs, e ≠ .own xs
  | _, _, i, e, .nil, h => by simp at h
  | _, _, 0, e, .cons r n rs, h => by simp at h; subst h; exact ⟨_, rfl, r, n⟩
  | _, _, i + 1, e, .cons r n rs, h => by
    obtain ⟨v, h1, h2⟩ := RvAll.get (i := i) rs (by simpa using h)
    exact ⟨v, by simpa using h1, h2⟩
theorem st0_get {N : List Str} {es : List En} {i : Nat} {e : En} (h : (st0 N es)[i]? = some (some e)) : es[i]? = some e := by
  unfold st0 at h
  by_cases hi : i < es.length
  · rw [List.getElem?_append_left (by simpa using hi), List.getElem?_map] at h
    cases z : es[i]? with
    | none => rw [z] at h; cases h
    | some y => rw [z] at h; simp at h; rw [h]
  · rw [List.getElem?_append_right (by simpa using hi)] at h
    obtain ⟨h1, h2⟩ := List.getElem?_eq_some_iff.mp h
    simp at h2
theorem body_ok {K : PySem.W.Frag} {F : FT} {ds : DS} {N : List Str} (hd : ∀ es c k, F es c k → ds { nx := fun _ c' => k (.im .none) c', rt := k } (st0 N es) c) {vs : List V} {H : Hp} {Q : VK} {E : XK} (h : spD K F vs H Q E) :
    LS K ds { nx := fun _ H' => Q .non H', rt := Q } (start N vs) H := by
  obtain ⟨T, n, c, es, k, t, rs, hF, q⟩ := h
  have noO : ∀ {i : Nat} {xs : List PyData}, (st0 N es)[i]? ≠ some (some (.own xs)) := fun {i xs} z => by
    obtain ⟨v, _, _, r⟩ := rs.get (st0_get z)
    exact r xs rfl
  have no : ∀ b, ¬ Ow (st0 N es) (start N vs) b := fun b ⟨i, xs, h1, _⟩ => noO h1
  have hS : Hd K T n (st0 N es) c (start N vs) H := {
    len := by simp [st0, L2.start, rs.len]
    rep := fun i e h => by
      have h1 := st0_get h
      obtain ⟨v, e1, r, _⟩ := rs.get h1
      refine ⟨v, ?_, r⟩
      unfold L2.start
      have hl : i < vs.length := (List.getElem?_eq_some_iff.mp e1).1
      rw [List.getElem?_append_left (by simpa using hl), List.getElem?_map, e1]
      rfl
    tru := fun i xs h => absurd h noO
    dis := fun i j xs a e _ h => absurd h noO
    tow := t }
  refine ⟨T, n, _, c, _, hS, hd es c k hF, fun S' c' h σ' H' f hd' => ?_, fun e c' h v H' f t' r => ?_, fun _ _ h => h.elim, fun _ _ h => h.elim⟩
  · exact q _ _ h .non H' ⟨fun b o z nt => f.keep b o z nt (no b), f.mu, f.trk⟩ hd'.tow ⟨.non, trivial⟩
  · refine q _ _ h v H' ⟨fun b o z nt => f.keep b o z nt (no b), f.mu, f.trk⟩ t' ?_
    cases e with
    | im d => exact ⟨r, trivial⟩
    | own xs =>
      obtain ⟨a, ws, e1, n1, o, s, z⟩ := r
      exact ⟨⟨a, ws, e1, n1, s, z⟩, ⟨a, ws, e1, o.resolve_right (no a), s, z⟩⟩
    | ro xs => exact r.elim
    | sc xs => exact r.elim
    | tw => exact r.elim
    | ses a => exact ⟨r, trivial⟩
    | sp a d => exact r.elim
theorem fnD {P : Program} {w : World} {K : PySem.W.Frag} {mg : Str → Option Value} {base : Heap} {x qual : Str} {st : Stmt} {f : Addr} {fd : FuncData} {N ps : List Str} {k : Nat} {F : FT} {ds : DS} (Fn : Fun K x qual st f fd) (S : FnScope N ps (defScope st)) (len : ∀ es c k, F es c k → es.length = ps.length)
    (hb : ∀ (cdv : Value) (A : Around) (outer : List Env) (s : Shared) (H : Hp) (E : XK), Room k (A.deeper (PyProof.Rows.envOfC qual (defScope st) s.heap.objs.size f cdv)) → PSs (cxOf CX0 P w K mg base N qual (defScope st) f cdv A outer s H E).nox (defBody st) (LS K ds))
    (hd : ∀ es c k, F es c k → ds { nx := fun _ c' => k (.im .none) c', rt := k } (st0 N es) c) : FnOk P w K mg base CX0 (k + 1) f fd ps (spD K F) := by
  refine Fn.ok S (fun vs H Q E h => ?_) (fun cdv A outer s H vs Q E hr h => ⟨_, hb cdv A outer s H E hr, body_ok hd h⟩)
  obtain ⟨T, n, c, es, k, t, rs, hF, q⟩ := h
  rw [rs.len]
  exact len es c k hF
end ND
namespace ND
open PySem PySem.Spec L2
/-! ## isinstance -/
def isiB (ty : String) : En → Option Bool
  | .im .none => some false
  | .im (.bool _) => some (ty == "bool" || ty == "int")
  | .im (.int _) => some (ty == "int")
  | .im (.str _) => some (ty == "str")
  | .im (.tuple _) => some (ty == "tuple")
  | .im (.list _) => some (ty == "list")
  | .own _ => some (ty == "list")
  | .ro _ => some (ty == "list")
  | .sc _ => none
  | _ => none
def dIsi (ty : String) (de : DE) : DE := fun S c k => de S c fun x c1 => match isiB ty x with
  | some b => k (.im (.bool b)) c1
  | none => False
def tyOk (ty : String) : Prop := ty = "int" ∨ ty = "bool" ∨ ty = "str" ∨ ty = "tuple" ∨ ty = "list"
theorem isi_ty {K : PySem.W.Frag} {T : Option Addr} {H : Hp} {v : V} {e : En} {ty : String} {b : Bool} (ht : tyOk ty) (r : Rv K T H v e) (h : isiB ty e = some b) : ∃ t, TyX K H v t ∧ PySem.W.kitOne K t (.type ty) = some b := by
  cases e with
  | im d =>
    cases r with
    | non =>
      cases h
      refine ⟨_, .base .non, kit_ty ?_⟩
      rcases ht with rfl | rfl | rfl | rfl | rfl <;> decide +kernel
    | bl y =>
      refine ⟨_, .base (.bl y), kit_ty ?_⟩
      rw [← h]
      rcases ht with rfl | rfl | rfl | rfl | rfl <;> first | exact (show kitB _ _ = some true by decide +kernel) | exact (show kitB _ _ = some false by decide +kernel)
    | int i =>
      refine ⟨_, .base (.int i), kit_ty ?_⟩
      rw [← h]
      rcases ht with rfl | rfl | rfl | rfl | rfl <;> first | exact (show kitB _ _ = some true by decide +kernel) | exact (show kitB _ _ = some false by decide +kernel)
    | str x =>
      refine ⟨_, .base (.str x), kit_ty ?_⟩
      rw [← h]
      rcases ht with rfl | rfl | rfl | rfl | rfl <;> first | exact (show kitB _ _ = some true by decide +kernel) | exact (show kitB _ _ = some false by decide +kernel)
    | @tup a xs ds s q =>
      refine ⟨.type "tuple", ?_, kit_ty ?_⟩
      · exact .base (.tup s)
      · rw [← h]
        rcases ht with rfl | rfl | rfl | rfl | rfl <;> first | exact (show kitB _ _ = some true by decide +kernel) | exact (show kitB _ _ = some false by decide +kernel)
    | @lst a o xs ds s q =>
      refine ⟨.type "list", .base (.frz s), kit_ty ?_⟩
      rw [← h]
      rcases ht with rfl | rfl | rfl | rfl | rfl <;> first | exact (show kitB _ _ = some true by decide +kernel) | exact (show kitB _ _ = some false by decide +kernel)
  | own xs =>
    obtain ⟨a, vs, rfl, _, s, _⟩ := r
    refine ⟨.type "list", ?_, kit_ty ?_⟩
    · exact .base (.lst s)
    · rw [← h]
      rcases ht with rfl | rfl | rfl | rfl | rfl <;> first | exact (show kitB _ _ = some true by decide +kernel) | exact (show kitB _ _ = some false by decide +kernel)
  | ro xs =>
    obtain ⟨a, vs, rfl, _, s, _⟩ := r
    refine ⟨.type "list", ?_, kit_ty ?_⟩
    · exact .base (.lst s)
    · rw [← h]
      rcases ht with rfl | rfl | rfl | rfl | rfl <;> first | exact (show kitB _ _ = some true by decide +kernel) | exact (show kitB _ _ = some false by decide +kernel)
  | sc xs => cases h
  | tw => cases h
  | ses a => cases h
  | sp a d => cases h
section
variable {X : Cx} {pos p : Pos} {e : Expr} {de : DE}
theorem de_isi {ty : Str} {tyS : String} {p2 : Pos} (ht : tyOk tyS) (hg : Gl X "isinstance") (hm : X.mg "isinstance" = none) (hg2 : Gl X ty) (hm2 : X.mg ty = none) (hb : bootBuiltins ty = some (.type tyS)) (he : PE X e (LE X.K de)) (hn2 : ty ≠ "__name__" := by decide) (hd2 : (ty == ("__debug__" : Str)) = false := by decide)
    (hs : starEach (e :: [.Name ty p2]) X.env = (false, eval e X.env) :: starEach [.Name ty p2] X.env := by rfl) (hs2 : starEach [.Name ty p2] X.env = (false, eval (.Name ty p2) X.env) :: starEach [] X.env := by rfl) (hpl : (backTo pos (starEach [.Name ty p2] X.env)).any (·.1) = false := by rfl) :
    PE X (.Call (.Name "isinstance" p) [e, .Name ty p2] [] pos) (LE X.K (dIsi tyS de)) := by
  refine PE.le (pe_callB call_isi hg hm (by decide +kernel) (pa_cons he (pa_cons (pe_bltn (v := .ty tyS) hg2 hm2 hb rfl hn2 hd2) pa_nil hs2) hs) (by decide) (by decide) hs hpl) fun σ H Q h => ?_
  obtain ⟨T, n, S, c, k, hS, h, q⟩ := h
  refine ⟨T, n, S, c, _, hS, h, fun e1 c1 h1 v1 H1 f1 t1 r1 => ?_⟩
  split at h1
  · rename_i b eb
    obtain ⟨t, ty1, kt⟩ := isi_ty ht r1.rv eb
    exact ⟨v1, .ty tyS, t, .type tyS, b, rfl, .ty _, ty1, kt, q _ _ h1 _ H1 f1 t1 ⟨.bl _, trivial⟩⟩
  · exact h1.elim
/-! ## in, not in: a list, a tuple -/
def rInD (f : Bool → Bool) : En → En → (En → Prop) → Prop := fun x y k => match dpOf x, dpOf y with
  | some d, some (.list ds) => Shp d ∧ Shp (.list ds) ∧ k (.im (.bool (f (ds.any fun z => PyData.eqv z d))))
  | some d, some (.tuple ds) => Shp d ∧ Shp (.tuple ds) ∧ k (.im (.bool (f (ds.any fun z => PyData.eqv z d))))
  | _, _ => False
def rInT (K : PySem.W.Frag) (f : Bool → Bool) : R2 := fun x y H Q => ∃ d ds, Dp K H x d ∧ (Dp K H y (.list ds) ∧ SeqAt.shaped (.list ds) = true ∨ Dp K H y (.tuple ds) ∧ SeqAt.shaped (.tuple ds) = true) ∧ SeqAt.shaped d = true ∧ Q (.bl (f (ds.any fun z => PyData.eqv z d))) H
theorem op_inT (hu : X.A.units + 65 < cLine) : OpR X (compareOp .In) (rInT X.K id) := by
  rintro pins s σ H x y v u Q I rx ry ⟨d, ds, hd, he, sd, q⟩
  have ⟨as, r1⟩ := Dp.reads I _ _ _ hd rx
  rcases he with ⟨he, se⟩ | ⟨he, se⟩
  · obtain ⟨bs, r2⟩ := Dp.reads I (.list ds) y u he ry
    exact SeqAt.in_list_reads r2 r1 (SeqAt.canLay_of_shaped se) (SeqAt.canLay_of_shaped sd) (PyProof.Rows.room_in_shaped sd hu) ⟨.bl _, H, I, rfl, q⟩
  · obtain ⟨bs, r2⟩ := Dp.reads I (.tuple ds) y u he ry
    exact SeqAt.in_tuple_reads r2 r1 (SeqAt.canLay_of_shaped se) (SeqAt.canLay_of_shaped sd) (PyProof.Rows.room_in_shaped sd hu) ⟨.bl _, H, I, rfl, q⟩
theorem op_notInT (hu : X.A.units + 65 < cLine) : OpR X (compareOp .NotIn) (rInT X.K not) := by
  rintro pins s σ H x y v u Q I rx ry ⟨d, ds, hd, he, sd, q⟩
  have ⟨as, r1⟩ := Dp.reads I _ _ _ hd rx
  rcases he with ⟨he, se⟩ | ⟨he, se⟩
  · obtain ⟨bs, r2⟩ := Dp.reads I (.list ds) y u he ry
    exact SeqAt.notIn_list_reads r2 r1 (SeqAt.canLay_of_shaped se) (SeqAt.canLay_of_shaped sd) (PyProof.Rows.room_in_shaped sd hu) ⟨.bl _, H, I, rfl, q⟩
  · obtain ⟨bs, r2⟩ := Dp.reads I (.tuple ds) y u he ry
    exact SeqAt.notIn_tuple_reads r2 r1 (SeqAt.canLay_of_shaped se) (SeqAt.canLay_of_shaped sd) (PyProof.Rows.room_in_shaped sd hu) ⟨.bl _, H, I, rfl, q⟩
theorem rInT_of {K : PySem.W.Frag} {f : Bool → Bool} {x y : V} {H : Hp} {Q : VK} (h : RL K (rInD f) x y H Q) : rInT K f x y H Q := by
  obtain ⟨T, n, c, ex, ey, k, t, rx, ry, h, q⟩ := h
  unfold rInD at h
  split at h
  · rename_i d ds e1 e2
    exact ⟨d, ds, dpOf_dp rx e1, .inl ⟨dpOf_dp ry e2, h.2.1⟩, h.1, q _ h.2.2 _ H (same_refl H) ⟨.bl _, trivial⟩⟩
  · rename_i d ds e1 e2
    exact ⟨d, ds, dpOf_dp rx e1, .inr ⟨dpOf_dp ry e2, h.2.1⟩, h.1, q _ h.2.2 _ H (same_refl H) ⟨.bl _, trivial⟩⟩
  · exact h.elim
theorem od_in (hu : X.A.units + 65 < cLine) : OpR X (compareOp .In) (RL X.K (rInD id)) := OpR.le (op_inT hu) fun x y H Q h => rInT_of h
theorem od_notin (hu : X.A.units + 65 < cLine) : OpR X (compareOp .NotIn) (RL X.K (rInD not)) := OpR.le (op_notInT hu) fun x y H Q h => rInT_of h
end
/-! ## shapes -/
structure Nice (n : Nat) (d : PyData) : Prop where
  lay : d.canLay0 = true
  dep : d.depth ≤ n
theorem Nice.shp {n : Nat} {d : PyData} (h : Nice n d) (hn : n ≤ 64) : Shp d := by
  unfold Shp SeqAt.shaped
  rw [h.lay, decide_eq_true (Nat.le_trans h.dep hn)]
  rfl
theorem nice_int (n : Nat) (i : Int) : Nice n (.int i) := ⟨rfl, by simp [PyData.depth]⟩
theorem nice_bool (n : Nat) (b : Bool) : Nice n (.bool b) := ⟨rfl, by simp [PyData.depth]⟩
theorem nice_none (n : Nat) : Nice n .none := ⟨rfl, by simp [PyData.depth]⟩
theorem nice_all {n : Nat} : ∀ {xs : List PyData}, (∀ x ∈ xs, Nice n x) → PyData.canLayAll0 xs = true ∧ PyData.depthAll xs ≤ n
  | [], _ => ⟨rfl, by simp [PyData.depthAll]⟩
  | x :: xs, h => by
    obtain ⟨h1, h2⟩ := nice_all (xs := xs) fun y hy => h y (List.mem_cons_of_mem _ hy)
    have h3 := h x List.mem_cons_self
    refine ⟨by simp [PyData.canLayAll0, h3.lay, h1], ?_⟩
    simp only [PyData.depthAll]
    have := h3.dep
    omega
theorem nice_tup {n : Nat} {xs : List PyData} (h : ∀ x ∈ xs, Nice n x) : Nice (n + 1) (.tuple xs) := by
  obtain ⟨h1, h2⟩ := nice_all h
  exact ⟨by simp [PyData.canLay0, h1], by simp only [PyData.depth]; omega⟩
theorem nice_list {n : Nat} {xs : List PyData} (h : ∀ x ∈ xs, Nice n x) : Nice (n + 1) (.list xs) := by
  obtain ⟨h1, h2⟩ := nice_all h
  exact ⟨by simp [PyData.canLay0, h1], by simp only [PyData.depth]; omega⟩
theorem shp_int (i : Int) : Shp (.int i) := (nice_int 0 i).shp (by decide)
theorem shp_bool (b : Bool) : Shp (.bool b) := (nice_bool 0 b).shp (by decide)
theorem shp_none : Shp .none := (nice_none 0).shp (by decide)
abbrev pr (x y : Int) : PyData := .tuple [.int x, .int y]
theorem nice_pr (x y : Int) : Nice 1 (pr x y) := nice_tup fun z h => by
  simp only [List.mem_cons, List.not_mem_nil, or_false] at h
  rcases h with rfl | rfl <;> exact nice_int 0 _
theorem shp_pr (x y : Int) : Shp (pr x y) := (nice_pr x y).shp (by decide)
theorem nice_ints (ns : List Int) : Nice 1 (.list (ns.map PyData.int)) := nice_list fun z h => by
  obtain ⟨i, _, rfl⟩ := List.mem_map.mp h
  exact nice_int 0 i
theorem eqv_pr (x y z w : Int) : PyData.eqv (pr x y) (pr z w) = (decide (x = z) && decide (y = w)) := by
  simp only [pr, PyData.eqv, PyData.eqvAll, Bool.and_true, Bool.beq_eq_decide_eq]
theorem eqv_int (x y : Int) : PyData.eqv (.int x) (.int y) = decide (x = y) := by
  simp only [PyData.eqv, Bool.beq_eq_decide_eq]
end ND
namespace ND
open PySem PySem.Spec L2
/-! ## Mathematics for all -/
/-- below 2 ^ n -/
def Bd (n : Nat) (x : Int) : Prop := x.natAbs < 2 ^ n
theorem Bd.mono {m n : Nat} {x : Int} (h : Bd m x) (l : m ≤ n) : Bd n x := Nat.lt_of_lt_of_le h (Nat.pow_le_pow_right (by decide) l)
theorem Bd.mul {m n : Nat} {x y : Int} (h : Bd m x) (g : Bd n y) : Bd (m + n) (x * y) := wide_lt h g
theorem Bd.add {m : Nat} {x y : Int} (h : Bd m x) (g : Bd m y) : Bd (m + 1) (x + y) := by
  unfold Bd at *
  rw [Nat.pow_succ]
  omega
theorem Bd.sub {m : Nat} {x y : Int} (h : Bd m x) (g : Bd m y) : Bd (m + 1) (x - y) := by
  unfold Bd at *
  rw [Nat.pow_succ]
  omega
theorem Bd.neg {m : Nat} {x : Int} (h : Bd m x) : Bd m (-x) := by
  unfold Bd at *
  omega
theorem Bd.mulW {m n : Nat} {x y : Int} (h : Bd m x) (g : Bd n y) (l : m + n ≤ 999990) : CMulW x y := wide_mul (a := m + 1) (b := n + 1) (h.mono (Nat.le_succ _)) (g.mono (Nat.le_succ _)) (Nat.succ_pos _) (Nat.succ_pos _) (by omega)
theorem Bd.of {n : Nat} {x : Int} (h1 : -(2 ^ n) < x) (h2 : x < 2 ^ n) : Bd n x := by
  unfold Bd
  have e : ((2 ^ n : Nat) : Int) = 2 ^ n := by simp
  omega
/-- the greatest integer whose square is at most n -/
structure IsRoot (n r : Int) : Prop where
  nn : 0 ≤ r
  le : r * r ≤ n
  lt : n < (r + 1) * (r + 1)
theorem IsRoot.uniq {n r s : Int} (a : IsRoot n r) (b : IsRoot n s) : r = s := by
  have h1 : ¬ r + 1 ≤ s := fun h => by
    have := Int.mul_le_mul h h (by have := a.nn; omega) b.nn
    have := a.lt; have := b.le
    omega
  have h2 : ¬ s + 1 ≤ r := fun h => by
    have := Int.mul_le_mul h h (by have := b.nn; omega) a.nn
    have := b.lt; have := a.le
    omega
  omega
theorem sq_lt {a b : Int} (h0 : 0 ≤ a) (h : a < b) : a * a < b * b :=
  Int.lt_of_le_of_lt (Int.mul_le_mul_of_nonneg_left (Int.le_of_lt h) h0) (Int.mul_lt_mul_of_pos_right h (by omega))
theorem bd_sq {m : Nat} {x n : Int} (h0 : 0 ≤ x) (h : x * x ≤ n) (hn : Bd m n) : Bd m x := by
  unfold Bd at *
  have h1 : x ≤ x * x := by
    by_cases z : x = 0
    · subst z; decide
    · have := Int.mul_le_mul (show (1 : Int) ≤ x by omega) (Int.le_refl x) h0 h0
      omega
  omega
end ND
namespace ND
open PySem PySem.Spec L2
/-! ## (a, b, ..) = a tuple or a list -/
def dAsgB (de : DE) (t : DGs) : DS := fun D S c => de S c fun e c1 => match sqOf e with
  | some xs => t xs S fun S1 => D.nx S1 c1
  | none => False
theorem PG.or {X : Cx} {e : Expr} {t u : TG} (h : PG X e t) (g : PG X e u) : PG X e (fun v σ H Q => t v σ H Q ∨ u v σ H Q) := ⟨fun p s σ H v w Q I r q => q.elim (h.run p s σ H v w Q I r) (g.run p s σ H v w Q I r)⟩
theorem ds_asgB {X : Cx} {es : List Expr} {e : Expr} {de : DE} {t : DGs} {sl : List Nat} {k : Nat} {tp pos : Pos} (hc : X.calm = true) (he : PE X e (LE X.K de)) (h : PGs X es (LGs X.K sl t)) (n : Nat)
    (hl : ∀ xs S k, t xs S k → xs.length = n) (hn : (assignEach es X.env).length = n := by rfl) (hst : (assignEach es X.env).findIdx? (·.1) = none := by rfl) (hs : swapsWithSole [.Tuple es k tp] e pos.line X.env = pure false := by rfl) (hw : swappedStores [.Tuple es k tp] e X.env = pure none := by rfl)
    (h1 : (assignEach [.Tuple es k tp] X.env).map (·.2) = [assign (.Tuple es k tp) X.env] := by rfl) : PS X (.Assign [.Tuple es k tp] e pos) (LS X.K (dAsgB de t)) := by
  refine PS.le (ps_asg he (PG.or (pg_tup hc h hn hst) (pg_unl hc h hn hst)) hs hw h1) fun D σ H h => ?_
  obtain ⟨T, m, S, c, d, hS, h, h1, _⟩ := h
  refine ⟨T, m, S, c, _, hS, h, fun e c' k v H' f t r => ?_⟩
  split at k
  · rename_i xs e1
    obtain ⟨a, ws, rfl, r2, s2⟩ := sqOf_rv r.rv e1
    have fin : LGs X.K sl _ ws σ H' D.nx := ⟨T, m, S, c', xs, _, hS.mono f t, r2, k, fun S1 k1 σ1 hd1 o1 _ => h1 _ _ k1 σ1 H' ⟨fr0_of f t, fun b z => .inl (o1 b z)⟩ hd1⟩
    rcases s2 with ⟨n1, s1⟩ | ⟨s1, s1'⟩
    · exact .inr ⟨a, ws, rfl, s1, by rw [r2.len]; exact hl _ _ _ k, fin⟩
    · exact .inl ⟨a, ws, rfl, s1, by rw [r2.len]; exact hl _ _ _ k, fin⟩
  · exact k.elim
/-- a, b, c = x, y, z, data -/
def dPar3 (i j l : Nat) (da : DA) : DS := fun D S c => da S c fun es c1 => match es with
  | [.im x, .im y, .im z] => D.nx (((S.set i (some (.im x))).set j (some (.im y))).set l (some (.im z))) c1
  | _ => False
theorem ds_par3 {X : Cx} {st : Stmt} {i j l : Nat} {da : DA} (hp : PS X st (tPar3 i j l (LA X.K da))) : PS X st (LS X.K (dPar3 i j l da)) := by
  refine PS.le hp fun D σ H h => ?_
  obtain ⟨T, n, S, c, d, hS, h, h1, _⟩ := h
  refine ⟨T, n, S, c, _, hS, h, fun es c' k vs H' f t r => ?_⟩
  split at k
  · cases r with
    | cons r1 rs =>
      cases rs with
      | cons r2 rs =>
        cases rs with
        | cons r3 rs =>
          cases rs
          obtain ⟨p1, q1⟩ := (hS.mono f t).im i r1.rv
          obtain ⟨p2, q2⟩ := p1.im j r2.rv
          obtain ⟨p3, q3⟩ := p2.im l r3.rv
          exact ⟨_, _, _, rfl, h1 _ _ k _ H' ⟨fr0_of f t, fun b z => .inl (q1 b (q2 b (q3 b z)))⟩ p3⟩
  · exact k.elim
/-! ## the law -/
def F_law_town : FT := fun es c k => match es with
  | [.sc ss] => ss.length ≤ 63 ∧ k (.own (.int 0 :: ss)) c
  | _ => False
def spLaw (K : PySem.W.Frag) : Sp := fun vs H Q _ => ∃ (a : Addr) (ns : List Int), vs = [.ref a] ∧ SqF K H a (ns.map V.int) ∧ ns.length ≤ 63 ∧ (∀ b C dx fs, H b ≠ some (.ins C dx fs)) ∧ ∀ H', Q (.bl true) H'
theorem spLaw_of {K : PySem.W.Frag} {H : Hp} {a : Addr} {ns : List Int} {E : XK} (hl : ns.length ≤ 63) (hO : Only H) (hS : SqL K H a (ns.map V.int)) : spLaw K [.ref a] H (fun v _ => v = .bl true) E := by
  refine ⟨a, ns, rfl, ?_, hl, fun b C dx fs e => ?_, fun _ => rfl⟩
  rotate_left
  · rcases hO b with z | ⟨o, xs, z⟩
    · rw [e] at z; cases z
    · rw [e] at z; cases z
  rcases hS with (h | h) | h
  · rcases hO a with z | ⟨o, xs, z⟩
    · rw [h] at z; cases z
    · rw [h] at z; cases z
  · exact .inl h
  · exact .inr h
def lawEnds : DEnds := { nx := fun _ _ => False, rt := fun e _ => e = .im (.bool true) }
def lawSt (n : Nat) (ss : List PyData) : Sl := some (.sc ss) :: some .tw :: List.replicate n none
theorem fnLaw {P : Program} {w : World} {K : PySem.W.Frag} {mg : Str → Option Value} {base : Heap} {st : Stmt} {f : Addr} {fd : FuncData} {N : List Str} {k : Nat} {ds : DS} (Fn : Fun K "law" "law" st f fd) (S : FnScope ("script" :: "town" :: N) ["script"] (defScope st))
    (hb1 : ∀ (cdv : Value) (A : Around) (outer : List Env) (s : Shared) (H : Hp) (E : XK), Room k (A.deeper (PyProof.Rows.envOfC "law" (defScope st) s.heap.objs.size f cdv)) → PS (cxOf CX0 P w K mg base ("script" :: "town" :: N) "law" (defScope st) f cdv A outer s H E).nox ((defBody st).getD 0 (.Pass ⟨0, 0, 0, 0⟩)) (tAsg (tCall (spD K F_law_town) [] E0 (tCons (tVar 0) tNil)) (gName 1)))
    (hb2 : ∀ (cdv : Value) (A : Around) (outer : List Env) (s : Shared) (H : Hp) (E : XK), Room k (A.deeper (PyProof.Rows.envOfC "law" (defScope st) s.heap.objs.size f cdv)) → PSs (cxOf CX0 P w K mg base ("script" :: "town" :: N) "law" (defScope st) f cdv A outer s H E).nox (defBody st).tail (LS K ds))
    (hd : ∀ ns : List Int, ns.length ≤ 63 → ds lawEnds (lawSt N.length (ns.map PyData.int)) (ns.length, 0, fun _ => none))
    (hbd : defBody st = (defBody st).getD 0 (.Pass ⟨0, 0, 0, 0⟩) :: (defBody st).tail := by rfl) : FnOk P w K mg base CX0 (k + 1) f fd ["script"] (spLaw K) := by
  refine Fn.ok S (fun vs H Q E h => ?_) (fun cdv A outer s H vs Q E hr h => ⟨_, Eq.mpr (congrArg (fun b => PSs _ b _) hbd) (pss_cons (hb1 cdv A outer s H E hr) (hb2 cdv A outer s H E hr)), ?_⟩)
  · obtain ⟨a, ns, rfl, _⟩ := h
    rfl
  · obtain ⟨a, ns, rfl, hF, hl, hni, hq⟩ := h
    have nm : ∀ b, ¬ Mu H b := fun b m => by
      cases m with
      | ins z => exact hni _ _ _ _ z
      | fld z _ _ => exact hni _ _ _ _ z
    refine ⟨.ref a, rfl, none, 0, (0, 0, fun _ => none), [.sc (ns.map PyData.int)], (fun e q => e = .own (.int 0 :: ns.map PyData.int) ∧ q = (0, 0, fun _ => none)), ⟨fun _ z => (by cases z), fun _ z => (by cases z), fun _ _ z => (by cases z), fun _ _ _ _ z => absurd z (hni _ _ _ _), fun _ _ _ _ _ _ _ _ _ _ _ _ z => absurd z (hni _ _ _ _)⟩, .cons ⟨a, _, rfl, hF, rpAll_ints ns⟩ (fun _ z => by cases z) .nil, ⟨by rw [List.length_map]; exact hl, rfl, rfl⟩, ?_⟩
    rintro e c' ⟨rfl, rfl⟩ v H' f1 t1 r1
    obtain ⟨p, vs, rfl, hp, hp', rp⟩ := r1.nw
    have ev : vs = ((0 : Int) :: ns).map V.int := RpAll.ints (ns := 0 :: ns) rp
    subst ev
    have hF' : SqF K H' a (ns.map V.int) := hF.ke fun b o z => .inr (f1.keep b o z ⟨fun y => (by cases y), nm b⟩)
    have noI : ∀ b C dx fs, H' b ≠ some (.ins C dx fs) := fun b C dx fs z => by
      obtain ⟨x, hx⟩ := t1.all b C dx fs z
      cases hx
    have nmH : ∀ b, ¬ Mu H' b := fun b m => by
      cases m with
      | ins z => exact noI _ _ _ _ z
      | fld z _ _ => exact noI _ _ _ _ z
    have tw : Tw (some p) 0 (ns.length, 0, fun _ => none) H' := ⟨fun b z => (by
      cases z
      exact ⟨ns, hp', rfl⟩), fun b _ => nmH b, fun _ _ z => (by cases z), fun _ _ _ _ z => absurd z (noI _ _ _ _), fun _ _ _ _ _ _ _ _ _ _ _ _ z => absurd z (noI _ _ _ _)⟩
    have g : ∀ {i : Nat} {e : En}, (lawSt N.length (ns.map PyData.int))[i]? = some (some e) → (i = 0 ∧ e = .sc (ns.map PyData.int)) ∨ (i = 1 ∧ e = .tw) := fun {i e} z => by
      match i, z with
      | 0, z => exact .inl ⟨rfl, (Option.some.inj (Option.some.inj z)).symm⟩
      | 1, z => exact .inr ⟨rfl, (Option.some.inj (Option.some.inj z)).symm⟩
      | i + 2, z =>
        have z' : (List.replicate N.length (none : Option En))[i]? = some (some e) := z
        obtain ⟨h1, h2⟩ := List.getElem?_eq_some_iff.mp z'
        simp at h2
    have no : ∀ b, ¬ Ow (lawSt N.length (ns.map PyData.int)) ((L2.start ("script" :: "town" :: N) [.ref a]).set 1 (some (.ref p))) b := fun b ⟨i, xs, z, _⟩ => by
      rcases g z with ⟨_, y⟩ | ⟨_, y⟩ <;> cases y
    have hS : Hd K (some p) 0 (lawSt N.length (ns.map PyData.int)) (ns.length, 0, fun _ => none) ((L2.start ("script" :: "town" :: N) [.ref a]).set 1 (some (.ref p))) H' := {
      len := by simp [lawSt, L2.start]
      rep := fun i e z => by
        rcases g z with ⟨rfl, rfl⟩ | ⟨rfl, rfl⟩
        · exact ⟨.ref a, rfl, a, _, rfl, hF', rpAll_ints ns⟩
        · exact ⟨.ref p, rfl, p, rfl, rfl⟩
      tru := fun i xs z => by rcases g z with ⟨_, y⟩ | ⟨_, y⟩ <;> cases y
      dis := fun i j xs b e _ z => by rcases g z with ⟨_, y⟩ | ⟨_, y⟩ <;> cases y
      tow := tw }
    refine ⟨some p, 0, _, _, _, hS, hd ns hl, fun S' c' h => h.elim, fun e c' h v H2 f t' r => ?_, fun _ _ h => h.elim, fun _ _ h => h.elim⟩
    have h' : e = .im (.bool true) := h
    subst h'
    cases r
    exact hq H2
/-! ## loops by an invariant -/
theorem forL_inv {g : DG} {t : DS} {D : DEnds} {xs : List PyData} (I : Nat → Sl → Cn → Prop)
    (step : ∀ (i : Nat) (x : PyData) (S : Sl) (c : Cn) (N : Sl → Cn → Prop), xs[i]? = some x → I i S c → (∀ S' c', I (i + 1) S' c' → N S' c') → g x S fun S1 => t { nx := N, ct := N, bk := D.nx, rt := D.rt } S1 c)
    (done : ∀ S c, I xs.length S c → D.nx S c) : ∀ (n i : Nat) (S : Sl) (c : Cn), n = xs.length - i → i ≤ xs.length → I i S c → forL g t D (xs.drop i) S c
  | 0, i, S, c, hn, hi, h => by
    have e : i = xs.length := by omega
    subst e
    rw [List.drop_length]
    exact done S c h
  | n + 1, i, S, c, hn, hi, h => by
    have hl : i < xs.length := by omega
    rw [drop_get (List.getElem?_eq_getElem hl)]
    exact step i _ S c _ (List.getElem?_eq_getElem hl) h fun S' c' h' => forL_inv I step done n (i + 1) S' c' (by omega) hl h'
theorem forL_by {g : DG} {t : DS} {D : DEnds} {xs : List PyData} {S : Sl} {c : Cn} (I : Nat → Sl → Cn → Prop) (h0 : I 0 S c)
    (step : ∀ (i : Nat) (x : PyData) (S : Sl) (c : Cn) (N : Sl → Cn → Prop), xs[i]? = some x → I i S c → (∀ S' c', I (i + 1) S' c' → N S' c') → g x S fun S1 => t { nx := N, ct := N, bk := D.nx, rt := D.rt } S1 c)
    (done : ∀ S c, I xs.length S c → D.nx S c) : forL g t D xs S c := by
  have h := forL_inv I step done _ 0 S c rfl (Nat.zero_le _) h0
  rwa [List.drop_zero] at h
theorem ifF {b : Bool} {A B : Prop} (h : b = false) (q : B) : if b = true then A else B := by
  rw [h, if_neg Bool.false_ne_true]
  exact q
theorem ifT {b : Bool} {A B : Prop} (h : b = true) (q : A) : if b = true then A else B := by
  rw [if_pos h]
  exact q
theorem ne_int {x y : Int} (h : x = y) : (!PyData.eqv (.int x) (.int y)) = false := by
  rw [eqv_int, decide_eq_true h]
  rfl
theorem ne_pr {x y z w : Int} (h : x = z) (g : y = w) : (!PyData.eqv (pr x y) (pr z w)) = false := by
  rw [eqv_pr, decide_eq_true h, decide_eq_true g]
  rfl
theorem abs_mul_le {a b A B : Int} (h1 : -A ≤ a) (h2 : a ≤ A) (h3 : -B ≤ b) (h4 : b ≤ B) : -(A * B) ≤ a * b ∧ a * b ≤ A * B := by
  have e : a.natAbs * b.natAbs ≤ A.natAbs * B.natAbs := Nat.mul_le_mul (by omega) (by omega)
  have e1 : (a * b).natAbs = a.natAbs * b.natAbs := Int.natAbs_mul a b
  have e2 : (A * B).natAbs = A.natAbs * B.natAbs := Int.natAbs_mul A B
  have e3 : 0 ≤ A * B := Int.mul_nonneg (by omega) (by omega)
  omega
/-- a comprehension whose element is a function of the item -/
theorem lc_fun {g : DG} {dt : DT} {de : DE} {S : Sl} {k : En → Cn → Prop} {c : Cn} (t : PyData → Bool) (f : PyData → PyData) : ∀ (xs acc : List PyData), (∀ x ∈ xs, ∃ S1, (∀ q : Sl → Prop, q S1 → g x S q) ∧ (∀ q : Bool → Cn → Prop, q (t x) c → dt S1 c q) ∧ (t x = true → ∀ q : En → Cn → Prop, q (.im (f x)) c → de S1 c q)) →
    acc.length + xs.length ≤ 100000 → k (.own (acc ++ (xs.filter t).map f)) c → lcL g dt de S k xs acc c
  | [], acc, _, _, h => by simpa [lcL] using h
  | x :: xs, acc, hx, hl, h => by
    obtain ⟨S1, h1, h2, h3⟩ := hx x List.mem_cons_self
    unfold lcL
    refine h1 _ (h2 _ ?_)
    simp only [List.length_cons] at hl
    by_cases z : t x = true
    · rw [if_pos z]
      refine h3 z _ ⟨by omega, lc_fun t f xs _ (fun y hy => hx y (List.mem_cons_of_mem _ hy)) (by simp; omega) ?_⟩
      rw [List.filter_cons_of_pos z] at h
      simpa using h
    · rw [if_neg z]
      refine lc_fun t f xs _ (fun y hy => hx y (List.mem_cons_of_mem _ hy)) (by omega) ?_
      rw [List.filter_cons_of_neg z] at h
      exact h
theorem mem_rng {lo : Int} {n : Nat} {x : PyData} (h : x ∈ rng lo n) : ∃ i : Nat, i < n ∧ x = .int (lo + i) := by
  unfold rng at h
  obtain ⟨i, hi, rfl⟩ := List.mem_map.mp h
  exact ⟨i, List.mem_range.mp hi, rfl⟩
theorem len_rng (lo : Int) (n : Nat) : (rng lo n).length = n := by simp [rng]
theorem rng_get {lo : Int} {n i : Nat} {x : PyData} (h : (rng lo n)[i]? = some x) : i < n ∧ x = .int (lo + i) := by
  obtain ⟨h1, h2⟩ := List.getElem?_eq_some_iff.mp h
  rw [len_rng] at h1
  refine ⟨h1, ?_⟩
  rw [← h2]
  simp [rng]
theorem rIx_of {x : En} {xs : List PyData} {i : Int} {d : PyData} {k : En → Prop} (h : sqOf x = some xs) (g : atI xs i = some d) (q : k (.im d)) : rIx x (.im (.int i)) k := by
  unfold rIx
  simp only [h, g]
  exact q
theorem fnOr {P : Program} {w : World} {K : PySem.W.Frag} {mg : Str → Option Value} {base : Heap} {k : Nat} {f : Addr} {fd : FuncData} {ps : List Str} {F F1 F2 : FT} (hc : ∀ es c k, F es c k → F1 es c k ∨ F2 es c k)
    (h1 : FnOk P w K mg base CX0 k f fd ps (spD K F1)) (h2 : FnOk P w K mg base CX0 k f fd ps (spD K F2)) : FnOk P w K mg base CX0 k f fd ps (spD K F) := by
  refine ⟨fun vs H Q E h => ?_, fun A outer s H args us vs Q E hr he hb hv h => ?_⟩
  · obtain ⟨T, n, c, es, k, t, rs, hF, q⟩ := h
    rcases hc es c k hF with z | z
    · exact h1.len vs H Q E ⟨T, n, c, es, k, t, rs, z, q⟩
    · exact h2.len vs H Q E ⟨T, n, c, es, k, t, rs, z, q⟩
  · obtain ⟨T, n, c, es, k, t, rs, hF, q⟩ := h
    rcases hc es c k hF with z | z
    · exact h1.run A outer s H args us vs Q E hr he hb hv ⟨T, n, c, es, k, t, rs, z, q⟩
    · exact h2.run A outer s H args us vs Q E hr he hb hv ⟨T, n, c, es, k, t, rs, z, q⟩
end ND
namespace ND
open PySem PySem.Spec L2
/-! ## The continued fraction of the root of d, for the d that may be asked -/
/-- an int from 2 to 60 that is not a square -/
def rootD (i : Int) : Bool := decide (2 ≤ i) && decide (i ≤ 60) && !([4, 9, 16, 25, 36, 49].contains i)
theorem root_le {d : Int} (h : rootD d = true) : 2 ≤ d ∧ d ≤ 60 := by
  unfold rootD at h
  simp only [Bool.and_eq_true, decide_eq_true_eq] at h
  omega
theorem rootD_bd {d : Int} (h : rootD d = true) : Bd 6 d := by
  have := root_le h
  unfold Bd
  omega
/-- what is checked of each d holds of every d -/
theorem all_d {c : Int → Bool} (h : ∀ i : Fin 61, rootD (i.val : Int) = true → c (i.val : Int) = true) {d : Int} (hd : rootD d = true) : c d = true := by
  have h2 := root_le hd
  obtain ⟨n, rfl⟩ : ∃ n : Nat, d = n := ⟨d.toNat, by omega⟩
  exact h ⟨n, by omega⟩ hd
/-- the root's whole part -/
def rt (d : Int) : Int := if d < 4 then 1 else if d < 9 then 2 else if d < 16 then 3 else if d < 25 then 4 else if d < 36 then 5 else if d < 49 then 6 else 7
theorem rt_root {d : Int} (h : rootD d = true) : IsRoot d (rt d) := by
  have h2 := root_le h
  unfold rt
  repeat' split
  all_goals exact ⟨by decide, by omega, by omega⟩
def cfStep (d f : Int) (s : Int × Int × Int) : Int × Int × Int :=
  let p := s.2.2 * s.2.1 - s.1
  let q := (d - p * p) / s.2.1
  (p, q, (f + p) / q)
def cfS (d : Int) : Nat → Int × Int × Int
  | 0 => (0, 1, rt d)
  | j + 1 => cfStep d (rt d) (cfS d j)
/-- the period's length -/
def cfL (d : Int) : Nat := ((List.range 20).find? fun j => decide ((cfS d j).2.2 = 2 * rt d)).getD 0
def rest (d : Int) : List Int := (List.range (cfL d)).map fun j => (cfS d (j + 1)).2.2
/-- small and fit at each step -/
def cfOk (d : Int) : Bool := decide (1 ≤ cfL d) && decide (cfL d ≤ 12) && decide ((cfS d (cfL d)).2.2 = 2 * rt d) && (List.range (cfL d)).all fun j => !decide ((cfS d j).2.2 = 2 * rt d) &&
  decide (0 ≤ (cfS d j).1 ∧ (cfS d j).1 ≤ 20 ∧ 0 < (cfS d j).2.1 ∧ (cfS d j).2.1 ≤ 60 ∧ 0 < (cfS d j).2.2 ∧ (cfS d j).2.2 ≤ 14) && decide (0 < (cfS d (j + 1)).2.1 ∧ (cfS d (j + 1)).2.1 ≤ 60 ∧ 0 ≤ (cfS d (j + 1)).1 ∧ (cfS d (j + 1)).1 ≤ 20) && decide (1 ≤ (cfS d (j + 1)).2.2 ∧ (cfS d (j + 1)).2.2 ≤ 14)
theorem cf_ok {d : Int} (h : rootD d = true) : cfOk d = true := all_d (by decide +kernel) h
/-- the convergents: the one before, the one at hand -/
def cvS (d : Int) : Nat → (Int × Int) × (Int × Int)
  | 0 => ((1, 0), (rt d, 1))
  | k + 1 => ((cvS d k).2, ((rest d).getD (k % cfL d) 0 * (cvS d k).2.1 + (cvS d k).1.1, (rest d).getD (k % cfL d) 0 * (cvS d k).2.2 + (cvS d k).1.2))
def uIx (d : Int) : Nat := if cfL d % 2 = 0 then cfL d - 1 else 2 * cfL d - 1
/-- the least units -/
def uTab : List (Int × Int) := [(0, 0), (0, 0), (3, 2), (2, 1), (0, 0), (9, 4), (5, 2), (8, 3), (3, 1), (0, 0), (19, 6), (10, 3), (7, 2), (649, 180), (15, 4), (4, 1), (0, 0), (33, 8), (17, 4), (170, 39), (9, 2), (55, 12), (197, 42), (24, 5), (5, 1), (0, 0), (51, 10), (26, 5), (127, 24), (9801, 1820), (11, 2), (1520, 273), (17, 3), (23, 4), (35, 6), (6, 1), (0, 0), (73, 12), (37, 6), (25, 4), (19, 3), (2049, 320), (13, 2), (3482, 531), (199, 30), (161, 24), (24335, 3588), (48, 7), (7, 1), (0, 0), (99, 14), (50, 7), (649, 90), (66249, 9100), (485, 66), (89, 12), (15, 2), (151, 20), (19603, 2574), (530, 69), (31, 4)]
def uT (d : Int) : Int := (uTab.getD d.toNat (0, 0)).1
def uU (d : Int) : Int := (uTab.getD d.toNat (0, 0)).2
theorem u_cv {d : Int} (h : rootD d = true) : (cvS d (uIx d)).2 = (uT d, uU d) := by
  have := all_d (c := fun d => decide ((cvS d (uIx d)).2 = (uT d, uU d))) (by decide +kernel) h
  exact of_decide_eq_true this
structure UnitOk (d t u : Int) : Prop where
  nrm : t * t = d * u * u + 1
  t2 : 2 ≤ t
  u1 : 1 ≤ u
  t3 : t ≤ 66249
  u3 : u ≤ 9100
theorem u_ok {d : Int} (h : rootD d = true) : UnitOk d (uT d) (uU d) := by
  have := all_d (c := fun d => decide (uT d * uT d = d * uU d * uU d + 1 ∧ 2 ≤ uT d ∧ 1 ≤ uU d ∧ uT d ≤ 66249 ∧ uU d ≤ 9100)) (by decide +kernel) h
  obtain ⟨a, b, c, e, f⟩ := of_decide_eq_true this
  exact ⟨a, b, c, e, f⟩
theorem cf_len {d : Int} (h : rootD d = true) : 1 ≤ cfL d ∧ cfL d ≤ 12 := by
  have := cf_ok h
  unfold cfOk at this
  simp only [Bool.and_eq_true, decide_eq_true_eq] at this
  exact ⟨this.1.1.1, this.1.1.2⟩
theorem rest_len (d : Int) : (rest d).length = cfL d := by simp [rest]
theorem cf_at {d : Int} (h : rootD d = true) {j : Nat} (hj : j < cfL d) : ¬ (cfS d j).2.2 = 2 * rt d ∧ (0 ≤ (cfS d j).1 ∧ (cfS d j).1 ≤ 20 ∧ 0 < (cfS d j).2.1 ∧ (cfS d j).2.1 ≤ 60 ∧ 0 < (cfS d j).2.2 ∧ (cfS d j).2.2 ≤ 14) ∧ (0 < (cfS d (j + 1)).2.1 ∧ (cfS d (j + 1)).2.1 ≤ 60 ∧ 0 ≤ (cfS d (j + 1)).1 ∧ (cfS d (j + 1)).1 ≤ 20) ∧ (1 ≤ (cfS d (j + 1)).2.2 ∧ (cfS d (j + 1)).2.2 ≤ 14) := by
  have := cf_ok h
  unfold cfOk at this
  simp only [Bool.and_eq_true] at this
  have q := List.all_eq_true.mp this.2 j (List.mem_range.mpr hj)
  simp only [Bool.and_eq_true, decide_eq_true_eq, Bool.not_eq_true', decide_eq_false_iff_not] at q
  exact ⟨q.1.1.1, q.1.1.2, q.1.2, q.2⟩
theorem cf_end {d : Int} (h : rootD d = true) : (cfS d (cfL d)).2.2 = 2 * rt d := by
  have := cf_ok h
  unfold cfOk at this
  simp only [Bool.and_eq_true, decide_eq_true_eq] at this
  exact this.1.2
theorem rest_get {d : Int} {j : Nat} (hj : j < cfL d) : (rest d).getD j 0 = (cfS d (j + 1)).2.2 := by
  simp [rest, hj]
theorem rest_pos {d : Int} (h : rootD d = true) {j : Nat} (hj : j < cfL d) : 1 ≤ (rest d).getD j 0 ∧ (rest d).getD j 0 ≤ 14 := by
  rw [rest_get hj]
  exact (cf_at h hj).2.2.2
theorem rt_pos {d : Int} : 1 ≤ rt d ∧ rt d ≤ 7 := by
  unfold rt
  repeat' split
  all_goals decide
/-- the convergents grow slowly -/
theorem cv_bd {d : Int} (h : rootD d = true) : ∀ k : Nat, (0 ≤ (cvS d k).1.1 ∧ (cvS d k).1.1 < 2 ^ (4 * k + 4)) ∧ (0 ≤ (cvS d k).1.2 ∧ (cvS d k).1.2 < 2 ^ (4 * k + 4)) ∧ (1 ≤ (cvS d k).2.1 ∧ (cvS d k).2.1 < 2 ^ (4 * k + 4)) ∧ (1 ≤ (cvS d k).2.2 ∧ (cvS d k).2.2 < 2 ^ (4 * k + 4))
  | 0 => by
    have := rt_pos (d := d)
    show (0 ≤ (1 : Int) ∧ (1 : Int) < 2 ^ 4) ∧ (0 ≤ (0 : Int) ∧ (0 : Int) < 2 ^ 4) ∧ (1 ≤ rt d ∧ rt d < 2 ^ 4) ∧ (1 ≤ (1 : Int) ∧ (1 : Int) < 2 ^ 4)
    omega
  | k + 1 => by
    obtain ⟨⟨a1, a2⟩, ⟨b1, b2⟩, ⟨c1, c2⟩, ⟨e1, e2⟩⟩ := cv_bd h k
    have hl := cf_len h
    have hr := rest_pos h (j := k % cfL d) (Nat.mod_lt _ (by omega))
    generalize hx : (rest d).getD (k % cfL d) 0 = x at hr
    have e : (2 : Int) ^ (4 * (k + 1) + 4) = 16 * 2 ^ (4 * k + 4) := by
      rw [show 4 * (k + 1) + 4 = (4 * k + 4) + 4 by omega, Int.pow_add]
      omega
    have m1 : 0 ≤ x * (cvS d k).2.1 ∧ x * (cvS d k).2.1 ≤ 14 * (cvS d k).2.1 := ⟨Int.mul_nonneg (by omega) (by omega), Int.mul_le_mul_of_nonneg_right hr.2 (by omega)⟩
    have m2 : 0 ≤ x * (cvS d k).2.2 ∧ x * (cvS d k).2.2 ≤ 14 * (cvS d k).2.2 := ⟨Int.mul_nonneg (by omega) (by omega), Int.mul_le_mul_of_nonneg_right hr.2 (by omega)⟩
    have m3 : (cvS d k).2.1 ≤ x * (cvS d k).2.1 := by
      have := Int.mul_le_mul_of_nonneg_right hr.1 (show 0 ≤ (cvS d k).2.1 by omega)
      omega
    have m4 : (cvS d k).2.2 ≤ x * (cvS d k).2.2 := by
      have := Int.mul_le_mul_of_nonneg_right hr.1 (show 0 ≤ (cvS d k).2.2 by omega)
      omega
    show (0 ≤ (cvS d k).2.1 ∧ (cvS d k).2.1 < _) ∧ (0 ≤ (cvS d k).2.2 ∧ (cvS d k).2.2 < _) ∧ (1 ≤ _ * (cvS d k).2.1 + (cvS d k).1.1 ∧ _ * (cvS d k).2.1 + (cvS d k).1.1 < _) ∧ (1 ≤ _ * (cvS d k).2.2 + (cvS d k).1.2 ∧ _ * (cvS d k).2.2 + (cvS d k).1.2 < _)
    rw [hx, e]
    omega
/-! ## pairs -/
def normI (d x y : Int) : Int := x * x - d * y * y
def mulX (d a b c e : Int) : Int := a * c + d * b * e
def mulY (a b c e : Int) : Int := a * e + b * c
def mulP (d : Int) (p q : Int × Int) : Int × Int := (mulX d p.1 p.2 q.1 q.2, mulY p.1 p.2 q.1 q.2)
theorem mulP_assoc (d : Int) (p q r : Int × Int) : mulP d (mulP d p q) r = mulP d p (mulP d q r) := by
  simp only [mulP, mulX, mulY, Prod.mk.injEq]
  constructor <;> grind
theorem mulP_comm (d : Int) (p q : Int × Int) : mulP d p q = mulP d q p := by
  simp only [mulP, mulX, mulY, Prod.mk.injEq]
  constructor <;> grind
theorem mulP_one (d : Int) (p : Int × Int) : mulP d p (1, 0) = p := by
  obtain ⟨a, b⟩ := p
  simp only [mulP, mulX, mulY, Prod.mk.injEq]
  constructor <;> grind
theorem one_mulP (d : Int) (p : Int × Int) : mulP d (1, 0) p = p := by rw [mulP_comm, mulP_one]
def nrm (d : Int) (p : Int × Int) : Int := normI d p.1 p.2
theorem nrm_mul (d : Int) (p q : Int × Int) : nrm d (mulP d p q) = nrm d p * nrm d q := by
  simp only [nrm, normI, mulP, mulX, mulY]
  grind
def pw (d : Int) (p : Int × Int) : Nat → Int × Int
  | 0 => (1, 0)
  | n + 1 => mulP d (pw d p n) p
theorem pw_add (d : Int) (p : Int × Int) (m : Nat) : ∀ n, pw d p (m + n) = mulP d (pw d p m) (pw d p n)
  | 0 => by rw [Nat.add_zero]; exact (mulP_one d _).symm
  | n + 1 => by
    show mulP d (pw d p (m + n)) p = mulP d (pw d p m) (mulP d (pw d p n) p)
    rw [pw_add d p m n, mulP_assoc]
theorem pw_sq (d : Int) (p : Int × Int) : ∀ n, pw d p (2 * n) = pw d (mulP d p p) n
  | 0 => rfl
  | n + 1 => by
    show pw d p (2 * n + 1 + 1) = mulP d (pw d (mulP d p p) n) (mulP d p p)
    rw [← pw_sq d p n]
    show mulP d (mulP d (pw d p (2 * n)) p) p = _
    rw [mulP_assoc]
def opp (p : Int × Int) : Int × Int := (p.1, -p.2)
theorem opp_mul (d : Int) (p q : Int × Int) : opp (mulP d p q) = mulP d (opp p) (opp q) := by
  simp only [opp, mulP, mulX, mulY, Prod.mk.injEq]
  constructor <;> grind
theorem opp_pw (d : Int) (p : Int × Int) : ∀ n, opp (pw d p n) = pw d (opp p) n
  | 0 => rfl
  | n + 1 => by
    show opp (mulP d (pw d p n) p) = mulP d (pw d (opp p) n) (opp p)
    rw [opp_mul, opp_pw d p n]
theorem nrm_pw (d : Int) (p : Int × Int) (h : nrm d p = 1) : ∀ n, nrm d (pw d p n) = 1
  | 0 => by simp [nrm, normI, pw]
  | n + 1 => by
    show nrm d (mulP d (pw d p n) p) = 1
    rw [nrm_mul, nrm_pw d p h n, h]
    rfl
theorem Bd.mulP {d : Int} {p q : Int × Int} {m n : Nat} (hd : Bd 6 d) (h1 : Bd m p.1) (h2 : Bd m p.2) (h3 : Bd n q.1) (h4 : Bd n q.2) : Bd (m + n + 7) (mulP d p q).1 ∧ Bd (m + n + 7) (mulP d p q).2 := by
  constructor
  · exact Bd.add (m := m + n + 6) ((h1.mul h3).mono (by omega)) (((hd.mul h2).mul h4).mono (by omega))
  · exact (Bd.add (m := m + n) (h1.mul h4) (h2.mul h3)).mono (by omega)
abbrev prP (p : Int × Int) : PyData := pr p.1 p.2
/-- the least unit, its powers -/
def un (d : Int) : Int × Int := (uT d, uU d)
theorem un_nrm {d : Int} (h : rootD d = true) : nrm d (un d) = 1 := by
  have := (u_ok h).nrm
  simp only [nrm, normI, un]
  omega
def upw (d : Int) (k : Int) : Int × Int := if k < 0 then opp (pw d (un d) (-k).toNat) else pw d (un d) k.toNat
end ND
namespace ND
open PySem PySem.Spec L2
/-! ## Remainders of powers -/
def rmod (m : Int) (p : Int × Int) : Int × Int := (p.1 % m, p.2 % m)
theorem emod_sub_mul (x m t : Int) : (x - m * t) % m = x % m := by
  rw [show x - m * t = x + m * (-t) by grind]
  exact Int.add_mul_emod_self_left x m (-t)
theorem rmod_mul_left (d m : Int) (p q : Int × Int) : rmod m (mulP d (rmod m p) q) = rmod m (mulP d p q) := by
  obtain ⟨a, b⟩ := p
  obtain ⟨c, e⟩ := q
  have ha : a % m = a - m * (a / m) := Int.emod_def a m
  have hb : b % m = b - m * (b / m) := Int.emod_def b m
  simp only [rmod, mulP, mulX, mulY, Prod.mk.injEq]
  constructor
  · rw [← emod_sub_mul (a * c + d * b * e) m ((a / m) * c + d * (b / m) * e), ha, hb]
    congr 1
    grind
  · rw [← emod_sub_mul (a * e + b * c) m ((a / m) * e + (b / m) * c), ha, hb]
    congr 1
    grind
theorem rmod_mul_right (d m : Int) (p q : Int × Int) : rmod m (mulP d p (rmod m q)) = rmod m (mulP d p q) := by
  rw [mulP_comm, rmod_mul_left, mulP_comm]
theorem rmod_one {m : Int} (h : 2 ≤ m) : rmod m (1, 0) = (1, 0) := by
  simp only [rmod, Prod.mk.injEq]
  exact ⟨Int.emod_eq_of_lt (by decide) (by omega), Int.zero_emod m⟩
theorem rmod_rmod (m : Int) (p : Int × Int) : rmod m (rmod m p) = rmod m p := by
  simp only [rmod, Int.emod_emod]
theorem pig : ∀ (n : Nat) (f : Nat → Nat), (∀ i, i ≤ n → f i < n) → ∃ i j, i < j ∧ j ≤ n ∧ f i = f j
  | 0, f, h => absurd (h 0 (Nat.le_refl 0)) (Nat.not_lt_zero _)
  | n + 1, f, h => by
    by_cases hx : ∃ i, i ≤ n ∧ f i = f (n + 1)
    · obtain ⟨i, hi, e⟩ := hx
      exact ⟨i, n + 1, by omega, Nat.le_refl _, e⟩
    · have hv := h (n + 1) (Nat.le_refl _)
      have hne : ∀ i, i ≤ n → f i ≠ f (n + 1) := fun i hi e => hx ⟨i, hi, e⟩
      obtain ⟨i, j, hij, hj, e⟩ := pig n (fun i => if f (n + 1) < f i then f i - 1 else f i) (fun i hi => by
        have h1 := h i (by omega)
        have h2 := hne i hi
        split <;> omega)
      refine ⟨i, j, hij, by omega, ?_⟩
      have h1 := hne i (by omega)
      have h2 := hne j hj
      split at e <;> split at e <;> omega
/-- a pair times its opposite is its norm -/
theorem mul_opp (d : Int) (p : Int × Int) : mulP d p (opp p) = (nrm d p, 0) := by
  obtain ⟨a, b⟩ := p
  simp only [mulP, mulX, mulY, opp, nrm, normI, Prod.mk.injEq]
  constructor <;> grind
theorem per_ex {d : Int} (hd : rootD d = true) {m : Int} (h2 : 2 ≤ m) (h100 : m ≤ 100) : ∃ k, 1 ≤ k ∧ k ≤ 10000 ∧ rmod m (pw d (un d) k) = (1, 0) := by
  obtain ⟨M, rfl⟩ : ∃ M : Nat, m = M := ⟨m.toNat, by omega⟩
  let g : Nat → Int × Int := fun i => rmod M (pw d (un d) i)
  have bx : ∀ i, 0 ≤ (g i).1 ∧ (g i).1 < M := fun i => ⟨Int.emod_nonneg _ (by omega), Int.emod_lt_of_pos _ (by omega)⟩
  have by' : ∀ i, 0 ≤ (g i).2 ∧ (g i).2 < M := fun i => ⟨Int.emod_nonneg _ (by omega), Int.emod_lt_of_pos _ (by omega)⟩
  obtain ⟨i, j, hij, hj, e⟩ := pig (M * M) (fun i => (g i).1.toNat * M + (g i).2.toNat) (fun i _ => by
    have h1 := bx i
    have h3 := by' i
    have h4 : ((g i).1.toNat + 1) * M ≤ M * M := Nat.mul_le_mul_right M (by omega)
    have h5 : ((g i).1.toNat + 1) * M = (g i).1.toNat * M + M := Nat.succ_mul _ _
    omega)
  have hM : 0 < M := by omega
  have eq : g i = g j := by
    have h1 := bx i
    have h3 := by' i
    have h1' := bx j
    have h3' := by' j
    have r1 : ((g i).1.toNat * M + (g i).2.toNat) % M = (g i).2.toNat := by
      rw [Nat.mul_comm, Nat.mul_add_mod]
      exact Nat.mod_eq_of_lt (by omega)
    have r2 : ((g j).1.toNat * M + (g j).2.toNat) % M = (g j).2.toNat := by
      rw [Nat.mul_comm, Nat.mul_add_mod]
      exact Nat.mod_eq_of_lt (by omega)
    have q1 : (g i).2.toNat = (g j).2.toNat := by
      rw [← r1, ← r2]
      exact congrArg (· % M) e
    have q2 : (g i).1.toNat * M = (g j).1.toNat * M := by
      omega
    have q3 : (g i).1.toNat = (g j).1.toNat := Nat.eq_of_mul_eq_mul_right hM q2
    exact Prod.ext (by omega) (by omega)
  have h100 : M * M ≤ 10000 := by
    have := Nat.mul_le_mul (show M ≤ 100 by omega) (show M ≤ 100 by omega)
    omega
  refine ⟨j - i, by omega, by omega, ?_⟩
  have ej : pw d (un d) j = mulP d (pw d (un d) i) (pw d (un d) (j - i)) := by
    rw [← pw_add]
    congr 1
    omega
  have n1 := nrm_pw d (un d) (un_nrm hd) i
  have inv : mulP d (opp (pw d (un d) i)) (pw d (un d) i) = (1, 0) := by
    rw [mulP_comm, mul_opp, n1]
  have e1 : pw d (un d) (j - i) = mulP d (opp (pw d (un d) i)) (pw d (un d) j) := by
    rw [ej, ← mulP_assoc, inv, one_mulP]
  rw [e1, ← rmod_mul_right, show rmod M (pw d (un d) j) = rmod M (pw d (un d) i) from eq.symm, rmod_mul_right, inv, rmod_one h2]
/-- the unit period -/
def per (d m : Int) : Nat := ((List.range 10001).find? fun k => decide (1 ≤ k) && decide (rmod m (pw d (un d) k) = (1, 0))).getD 0
structure IsPer (d m : Int) (p : Nat) : Prop where
  pos : 1 ≤ p
  le : p ≤ 10000
  one : rmod m (pw d (un d) p) = (1, 0)
  least : ∀ k, 1 ≤ k → k < p → ¬ rmod m (pw d (un d) k) = (1, 0)
theorem per_ok {d : Int} (hd : rootD d = true) {m : Int} (h2 : 2 ≤ m) (h100 : m ≤ 100) : IsPer d m (per d m) := by
  obtain ⟨k, k1, k2, k3⟩ := per_ex hd h2 h100
  cases hf : (List.range 10001).find? fun k => decide (1 ≤ k) && decide (rmod m (pw d (un d) k) = (1, 0)) with
  | none =>
    have := List.find?_eq_none.mp hf k (List.mem_range.mpr (by omega))
    simp [k1, k3] at this
  | some p =>
    have e : per d m = p := by unfold per; rw [hf]; rfl
    rw [e]
    have h1 := List.find?_some hf
    simp only [Bool.and_eq_true, decide_eq_true_eq] at h1
    have hm := List.mem_range.mp (List.mem_of_find?_eq_some hf)
    refine ⟨h1.1, by omega, h1.2, fun j j1 j2 hj => ?_⟩
    obtain ⟨_, as, bs, hl, hall⟩ := List.find?_eq_some_iff_append.mp hf
    have hp : as.length = p := by
      have e1 : (List.range 10001)[as.length]? = some p := by rw [hl]; simp
      have hlt : as.length < 10001 := by
        have := congrArg List.length hl
        simp at this
        omega
      rw [List.getElem?_range hlt] at e1
      exact Option.some.inj e1
    have hj' : j ∈ as := by
      have e1 : (List.range 10001)[j]? = some j := List.getElem?_range (by omega)
      rw [hl, List.getElem?_append_left (by omega)] at e1
      exact List.mem_of_getElem? e1
    have := hall j hj'
    simp [j1, hj] at this
theorem per_add {d m : Int} {p : Nat} (hm : 2 ≤ m) (h : IsPer d m p) (a : Nat) : ∀ q : Nat, rmod m (pw d (un d) (a + p * q)) = rmod m (pw d (un d) a)
  | 0 => rfl
  | q + 1 => by
    rw [show a + p * (q + 1) = (a + p * q) + p by rw [Nat.mul_succ]; omega, pw_add, ← rmod_mul_right, h.one, mulP_one]
    exact per_add hm h a q
theorem per_mod {d m : Int} {p : Nat} (hm : 2 ≤ m) (h : IsPer d m p) (a : Nat) : rmod m (pw d (un d) a) = rmod m (pw d (un d) (a % p)) := by
  have := per_add hm h (a % p) (a / p)
  rw [Nat.mod_add_div] at this
  exact this
theorem per_neg {d m : Int} (hd : rootD d = true) {p : Nat} (hm : 2 ≤ m) (h : IsPer d m p) (a b : Nat) (e : (a + b) % p = 0) : rmod m (opp (pw d (un d) a)) = rmod m (pw d (un d) b) := by
  have n1 := nrm_pw d (un d) (un_nrm hd) a
  have inv : mulP d (opp (pw d (un d) a)) (pw d (un d) a) = (1, 0) := by rw [mulP_comm, mul_opp, n1]
  have e1 : mulP d (opp (pw d (un d) a)) (pw d (un d) (a + b)) = pw d (un d) b := by rw [pw_add, ← mulP_assoc, inv, one_mulP]
  have e2 : rmod m (pw d (un d) (a + b)) = (1, 0) := by
    rw [per_mod hm h, e]
    exact rmod_one hm
  rw [← e1, ← rmod_mul_right, e2, mulP_one]
end ND
namespace ND
open PySem PySem.Spec L2
theorem Bd.divW {n : Nat} {x y : Int} (h0 : 0 < y) (h : Bd n y) (l : n ≤ 9000) : CDivW x y :=
  ⟨h0, (Nat.log2_lt (by omega)).mpr (h.mono l)⟩
/-! ## Powers whose second part is a multiple -/
/-- the second part of the power k is a multiple of m -/
def Yz (d m : Int) (k : Nat) : Prop := m ∣ (pw d (un d) k).2
/-- the power k is 1 -/
def Oz (d m : Int) (k : Nat) : Prop := m ∣ (pw d (un d) k).1 - 1 ∧ m ∣ (pw d (un d) k).2
instance (d m : Int) (k : Nat) : Decidable (Yz d m k) := inferInstanceAs (Decidable (_ ∣ _))
theorem oz_iff {d m : Int} (h2 : 2 ≤ m) (k : Nat) : rmod m (pw d (un d) k) = (1, 0) ↔ Oz d m k := by
  unfold rmod Oz
  rw [Prod.mk.injEq]
  have e1 : (pw d (un d) k).1 % m = 1 ↔ m ∣ (pw d (un d) k).1 - 1 := by
    constructor
    · intro h
      have := Int.emod_def (pw d (un d) k).1 m
      exact ⟨(pw d (un d) k).1 / m, by omega⟩
    · rintro ⟨c, hc⟩
      rw [show (pw d (un d) k).1 = 1 + m * c by omega, Int.add_mul_emod_self_left]
      exact Int.emod_eq_of_lt (by decide) (by omega)
  rw [e1]
  constructor
  · rintro ⟨a, b⟩
    exact ⟨a, Int.dvd_of_emod_eq_zero b⟩
  · rintro ⟨a, b⟩
    exact ⟨a, Int.emod_eq_zero_of_dvd b⟩
theorem pw_nrm1 {d : Int} (hd : rootD d = true) (k : Nat) : (pw d (un d) k).1 * (pw d (un d) k).1 = 1 + d * (pw d (un d) k).2 * (pw d (un d) k).2 := by
  have := nrm_pw d (un d) (un_nrm hd) k
  unfold nrm normI at this
  omega
theorem yz_add {d m : Int} (hd : rootD d = true) {a b : Nat} (h : Yz d m a) : Yz d m (a + b) ↔ Yz d m b := by
  unfold Yz at *
  obtain ⟨c, hc⟩ := h
  have hn := pw_nrm1 hd a
  rw [pw_add]
  generalize pw d (un d) a = p at *
  generalize pw d (un d) b = q at *
  obtain ⟨x, y⟩ := p
  obtain ⟨z, w⟩ := q
  simp only [mulP, mulY] at *
  subst hc
  constructor
  · rintro ⟨e, he⟩
    exact ⟨x * e - x * c * z - d * c * m * c * w, by
      have : w = x * (x * w + m * c * z) - x * (m * c * z) - d * (m * c) * (m * c) * w := by grind
      rw [he] at this
      rw [this]
      grind⟩
  · rintro ⟨e, he⟩
    exact ⟨x * e + c * z, by rw [he]; grind⟩
theorem yz_zero (d m : Int) : Yz d m 0 := ⟨0, by simp [pw]⟩
theorem oz_yz {d m : Int} {k : Nat} (h : Oz d m k) : Yz d m k := h.2
theorem oz_add {d m : Int} {a b : Nat} (h : Oz d m a) : Oz d m (a + b) ↔ Oz d m b := by
  unfold Oz at *
  obtain ⟨⟨u, hu⟩, ⟨c, hc⟩⟩ := h
  rw [pw_add]
  generalize pw d (un d) a = p at *
  generalize pw d (un d) b = q at *
  obtain ⟨x, y⟩ := p
  obtain ⟨z, w⟩ := q
  simp only [mulP, mulY, mulX] at *
  obtain rfl : x = 1 + m * u := by omega
  subst hc
  constructor
  · rintro ⟨⟨e, he⟩, ⟨f, hf⟩⟩
    exact ⟨⟨e - u * z - d * c * w, by grind⟩, ⟨f - u * w - c * z, by grind⟩⟩
  · rintro ⟨⟨e, he⟩, ⟨f, hf⟩⟩
    obtain rfl : z = 1 + m * e := by omega
    subst hf
    exact ⟨⟨e + u * (1 + m * e) + d * c * m * f, by grind⟩, ⟨(1 + m * u) * f + c * (1 + m * e), by grind⟩⟩
theorem oz_zero (d m : Int) : Oz d m 0 := ⟨⟨0, by simp [pw]⟩, ⟨0, by simp [pw]⟩⟩
/-- a set of numbers closed under sums and differences: the multiples of its least one -/
theorem mult_of {P : Nat → Prop} (h0 : P 0) (ha : ∀ a b, P a → (P (a + b) ↔ P b)) {f : Nat} (hf : 1 ≤ f) (hP : P f) (hl : ∀ k, 1 ≤ k → k < f → ¬ P k) (k : Nat) : P k ↔ f ∣ k := by
  have hq : ∀ q b, P (f * q + b) ↔ P b := fun q => by
    induction q with
    | zero => intro b; rw [Nat.mul_zero, Nat.zero_add]
    | succ q ih => intro b; rw [show f * (q + 1) + b = f + (f * q + b) by rw [Nat.mul_succ]; omega, ha _ _ hP, ih]
  have e := hq (k / f) (k % f)
  rw [Nat.div_add_mod] at e
  rw [e, Nat.dvd_iff_mod_eq_zero]
  constructor
  · intro h
    by_cases z : k % f = 0
    · exact z
    · exact absurd h (hl _ (by omega) (Nat.mod_lt _ (by omega)))
  · intro h
    rw [h]
    exact h0
/-- the least number with a second part that is a multiple -/
def fdv (d m : Int) : Nat := ((List.range 10001).find? fun k => decide (1 ≤ k) && decide (Yz d m k)).getD 0
structure IsFd (d m : Int) (f : Nat) : Prop where
  pos : 1 ≤ f
  le : f ≤ 10000
  yz : Yz d m f
  least : ∀ k, 1 ≤ k → k < f → ¬ Yz d m k
theorem find_least {P : Nat → Prop} [DecidablePred P] {n k : Nat} (k1 : 1 ≤ k) (kn : k < n) (hk : P k) : ∃ p, (List.range n).find? (fun k => decide (1 ≤ k) && decide (P k)) = some p ∧ 1 ≤ p ∧ p ≤ k ∧ P p ∧ ∀ j, 1 ≤ j → j < p → ¬ P j := by
  cases hf : (List.range n).find? fun k => decide (1 ≤ k) && decide (P k) with
  | none =>
    have := List.find?_eq_none.mp hf k (List.mem_range.mpr kn)
    simp [k1, hk] at this
  | some p =>
    have h1 := List.find?_some hf
    simp only [Bool.and_eq_true, decide_eq_true_eq] at h1
    have hm := List.mem_range.mp (List.mem_of_find?_eq_some hf)
    have hl : ∀ j, 1 ≤ j → j < p → ¬ P j := fun j j1 j2 hj => by
      obtain ⟨_, as, bs, hl, hall⟩ := List.find?_eq_some_iff_append.mp hf
      have hp : as.length = p := by
        have e1 : (List.range n)[as.length]? = some p := by rw [hl]; simp
        have hlt : as.length < n := by
          have := congrArg List.length hl
          simp at this
          omega
        rw [List.getElem?_range hlt] at e1
        exact Option.some.inj e1
      have hj' : j ∈ as := by
        have e1 : (List.range n)[j]? = some j := List.getElem?_range (by omega)
        rw [hl, List.getElem?_append_left (by omega)] at e1
        exact List.mem_of_getElem? e1
      have := hall j hj'
      simp [j1, hj] at this
    refine ⟨p, rfl, h1.1, ?_, h1.2, hl⟩
    by_cases z : p ≤ k
    · exact z
    · exact absurd hk (hl k k1 (by omega))
theorem fd_ok {d : Int} (hd : rootD d = true) {m : Int} (h2 : 2 ≤ m) (h100 : m ≤ 100) : IsFd d m (fdv d m) ∧ fdv d m ≤ per d m := by
  have hp := per_ok hd h2 h100
  have hz := oz_yz ((oz_iff h2 _).mp hp.one)
  have hl := hp.le
  obtain ⟨p, e, p1, p2, p3, p4⟩ := find_least (P := Yz d m) (n := 10001) hp.pos (by omega) hz
  have e' : fdv d m = p := by unfold fdv; rw [e]; rfl
  rw [e']
  exact ⟨⟨p1, by omega, p3, p4⟩, p2⟩
theorem fd_iff {d : Int} (hd : rootD d = true) {m : Int} {f : Nat} (h : IsFd d m f) (k : Nat) : Yz d m k ↔ f ∣ k :=
  mult_of (yz_zero d m) (fun a b z => yz_add hd z) h.pos h.yz h.least k
theorem per_iff {d : Int} {m : Int} (h2 : 2 ≤ m) {p : Nat} (h : IsPer d m p) (k : Nat) : Oz d m k ↔ p ∣ k :=
  mult_of (oz_zero d m) (fun a b z => oz_add z) h.pos ((oz_iff h2 _).mp h.one) (fun k k1 k2 z => h.least k k1 k2 ((oz_iff h2 _).mpr z)) k
theorem fd_dvd_per {d : Int} (hd : rootD d = true) {m : Int} (h2 : 2 ≤ m) {f p : Nat} (hf : IsFd d m f) (hp : IsPer d m p) : f ∣ p :=
  (fd_iff hd hf p).mp (oz_yz ((oz_iff h2 _).mp hp.one))
theorem fd_sq {d : Int} (hd : rootD d = true) {m : Int} {f : Nat} (hf : Yz d m f) : m ∣ (pw d (un d) f).1 * (pw d (un d) f).1 - 1 := by
  obtain ⟨c, hc⟩ := hf
  have := pw_nrm1 hd f
  exact ⟨d * c * (pw d (un d) f).2, by rw [this, hc]; grind⟩
theorem fd_two {d : Int} (hd : rootD d = true) {m : Int} (h2 : 2 ≤ m) {f p : Nat} (hf : IsFd d m f) (hp : IsPer d m p) : p = f ∨ p = 2 * f := by
  have h1 : Oz d m (2 * f) := by
    obtain ⟨c, hc⟩ := hf.yz
    obtain ⟨e, he⟩ := fd_sq hd hf.yz
    unfold Oz
    rw [show 2 * f = f + f by omega, pw_add]
    generalize pw d (un d) f = q at *
    obtain ⟨x, y⟩ := q
    simp only [mulP, mulX, mulY] at *
    subst hc
    exact ⟨⟨e + d * c * m * c, by grind⟩, ⟨2 * x * c, by grind⟩⟩
  obtain ⟨q, hq⟩ := fd_dvd_per hd h2 hf hp
  have h3 := (per_iff h2 hp _).mp h1
  subst hq
  have h4 : q ∣ 2 := by
    rw [Nat.mul_comm 2 f] at h3
    exact Nat.dvd_of_mul_dvd_mul_left hf.pos h3
  have := Nat.le_of_dvd (by decide) h4
  have := hp.pos
  have q0 : q ≠ 0 := fun z => by subst z; simp at this
  rcases (show q = 1 ∨ q = 2 by omega) with rfl | rfl
  · exact .inl (Nat.mul_one f)
  · exact .inr (Nat.mul_comm f 2)
theorem lcm_dvd_int (a b : Nat) (z : Int) : ((Nat.lcm a b : Nat) : Int) ∣ z ↔ (a : Int) ∣ z ∧ (b : Int) ∣ z := by
  have h : ∀ (a : Nat), (a : Int) ∣ z ↔ a ∣ z.natAbs := fun a => by
    rw [← Int.natAbs_dvd_natAbs, Int.natAbs_natCast]
  rw [h, h, h]
  exact Nat.lcm_dvd_iff
theorem fd_lcm {d : Int} (hd : rootD d = true) {a b f g h : Nat} (hf : IsFd d a f) (hg : IsFd d b g) (hh : IsFd d (Nat.lcm a b : Nat) h) : h = Nat.lcm f g := by
  have e : ∀ k, h ∣ k ↔ Nat.lcm f g ∣ k := fun k => by
    rw [← fd_iff hd hh, Nat.lcm_dvd_iff, ← fd_iff hd hf, ← fd_iff hd hg]
    exact lcm_dvd_int _ _ _
  exact Nat.dvd_antisymm ((e _).mpr (Nat.dvd_refl _)) ((e _).mp (Nat.dvd_refl _))
theorem per_lcm {d : Int} {a b f g h : Nat} (ha : 2 ≤ (a : Int)) (hb : 2 ≤ (b : Int)) (hab : 2 ≤ ((Nat.lcm a b : Nat) : Int)) (hf : IsPer d a f) (hg : IsPer d b g) (hh : IsPer d (Nat.lcm a b : Nat) h) : h = Nat.lcm f g := by
  have e : ∀ k, h ∣ k ↔ Nat.lcm f g ∣ k := fun k => by
    rw [← per_iff hab hh, Nat.lcm_dvd_iff, ← per_iff ha hf, ← per_iff hb hg]
    unfold Oz
    rw [lcm_dvd_int, lcm_dvd_int]
    constructor
    · rintro ⟨⟨a, b⟩, c, d⟩
      exact ⟨⟨a, c⟩, b, d⟩
    · rintro ⟨⟨a, b⟩, c, d⟩
      exact ⟨⟨a, c⟩, b, d⟩
  exact Nat.dvd_antisymm ((e _).mpr (Nat.dvd_refl _)) ((e _).mp (Nat.dvd_refl _))
end ND
namespace ND
open PySem PySem.Spec L2
/-! ## The least pairs with norm 1 and -1 -/
/-- the least pair with norm -1, where there is one -/
def mOdd (d : Int) : Bool := cfL d % 2 == 1
def mP (d : Int) : Int × Int := (cvS d (cfL d - 1)).2
/-- no y from y on, n of them, has a pair with norm 1, nor, below m, with norm -1; r is the root of d * y * y -/
def scan (d a m : Nat) : Nat → Nat → Nat → Bool
  | 0, _, _ => true
  | n + 1, y, r => Nat.ble (r * r) (d * y * y) && (Nat.ble (d * y * y + 2) ((r + 1) * (r + 1)) && ((Nat.ble m y || !(Nat.beq (r * r + 1) (d * y * y))) &&
      scan d a m n (y + 1) (bif Nat.ble ((r + a + 1) * (r + a + 1)) (d * (y + 1) * (y + 1)) then r + a + 1 else r + a)))
theorem scan_ok {d a m : Nat} : ∀ {n y r : Nat}, scan d a m n y r = true → ∀ i, i < n → ∃ r : Nat, r * r ≤ d * (y + i) * (y + i) ∧ d * (y + i) * (y + i) + 2 ≤ (r + 1) * (r + 1) ∧ (y + i < m → r * r + 1 ≠ d * (y + i) * (y + i))
  | 0, _, _, _, i, hi => absurd hi (Nat.not_lt_zero i)
  | n + 1, y, r, h, i, hi => by
    unfold scan at h
    simp only [Bool.and_eq_true, Bool.or_eq_true, Bool.not_eq_true'] at h
    obtain ⟨h1, h2, h3, h4⟩ := h
    cases i with
    | zero =>
      refine ⟨r, Nat.le_of_ble_eq_true h1, Nat.le_of_ble_eq_true h2, fun hm e => ?_⟩
      rcases h3 with h3 | h3
      · have := Nat.le_of_ble_eq_true h3
        omega
      · exact absurd e (Nat.ne_of_beq_eq_false h3)
    | succ i =>
      have := scan_ok h4 i (by omega)
      rw [show y + (i + 1) = y + 1 + i by omega]
      exact this
def mLim (d : Int) : Int := if mOdd d = true then (mP d).2 else uU d
theorem scan_d {d : Int} (h : rootD d = true) : scan d.toNat (rt d).toNat (mLim d).toNat (uU d - 1).toNat 1 (rt d).toNat = true :=
  all_d (c := fun d => scan d.toNat (rt d).toNat (mLim d).toNat (uU d - 1).toNat 1 (rt d).toNat) (by decide +kernel) h
theorem mp_ok {d : Int} (h : rootD d = true) (ho : mOdd d = true) : (mP d).1 * (mP d).1 = d * (mP d).2 * (mP d).2 - 1 ∧ 1 ≤ (mP d).1 ∧ 1 ≤ (mP d).2 ∧ (mP d).2 < uU d ∧ (mP d).1 ≤ 66249 ∧ mulP d (mP d) (mP d) = un d := by
  have := all_d (c := fun d => !mOdd d || decide ((mP d).1 * (mP d).1 = d * (mP d).2 * (mP d).2 - 1 ∧ 1 ≤ (mP d).1 ∧ 1 ≤ (mP d).2 ∧ (mP d).2 < uU d ∧ (mP d).1 ≤ 66249 ∧ mulP d (mP d) (mP d) = un d)) (by decide +kernel) h
  rw [ho, Bool.not_true, Bool.false_or] at this
  exact of_decide_eq_true this
theorem scan_at {d : Int} (h : rootD d = true) {y : Int} (y1 : 1 ≤ y) (yu : y < uU d) : ∃ r : Int, 0 ≤ r ∧ r * r ≤ d * y * y ∧ d * y * y + 2 ≤ (r + 1) * (r + 1) ∧ (y < mLim d → r * r + 1 ≠ d * y * y) := by
  have h2 := root_le h
  obtain ⟨D, rfl⟩ : ∃ D : Nat, d = D := ⟨d.toNat, by omega⟩
  obtain ⟨Y, rfl⟩ : ∃ Y : Nat, y = Y := ⟨y.toNat, by omega⟩
  obtain ⟨r, r1, r2, r3⟩ := scan_ok (scan_d h) (Y - 1) (by omega)
  rw [show 1 + (Y - 1) = Y by omega, Int.toNat_natCast] at r1 r2 r3
  refine ⟨r, by omega, by exact_mod_cast r1, by exact_mod_cast r2, fun hm e => r3 (by omega) (by exact_mod_cast e)⟩
/-- no pair with norm 1 below the least unit -/
theorem no_one {d : Int} (h : rootD d = true) {y x : Int} (y1 : 1 ≤ y) (yu : y < uU d) (x0 : 0 ≤ x) : x * x ≠ d * y * y + 1 := by
  obtain ⟨r, r0, r1, r2, _⟩ := scan_at h y1 yu
  intro e
  have h1 : r < x + 1 := by
    by_cases z : r < x + 1
    · exact z
    · have := Int.mul_le_mul (show x + 1 ≤ r by omega) (show x + 1 ≤ r by omega) (by omega) r0
      have e2 : (x + 1) * (x + 1) = x * x + 2 * x + 1 := by grind
      omega
  have h2 : x < r + 1 := by
    by_cases z : x < r + 1
    · exact z
    · have := Int.mul_le_mul (show r + 1 ≤ x by omega) (show r + 1 ≤ x by omega) (by omega) x0
      omega
  have h3 : x = r := by omega
  subst h3
  omega
theorem no_minus {d : Int} (h : rootD d = true) {y x : Int} (y1 : 1 ≤ y) (yu : y < uU d) (ym : y < mLim d) (x0 : 0 ≤ x) : x * x ≠ d * y * y - 1 := by
  obtain ⟨r, r0, r1, r2, r3⟩ := scan_at h y1 yu
  intro e
  have h2 : x < r + 1 := by
    by_cases z : x < r + 1
    · exact z
    · have := Int.mul_le_mul (show r + 1 ≤ x by omega) (show r + 1 ≤ x by omega) (by omega) x0
      omega
  have h1 : r ≤ x := by
    by_cases z : r ≤ x
    · exact z
    · have := Int.mul_le_mul (show x + 1 ≤ r by omega) (show x + 1 ≤ r by omega) (by omega) r0
      have e2 : (x + 1) * (x + 1) = x * x + 2 * x + 1 := by grind
      have : x = 0 := by omega
      subst this
      have : (1 : Int) ≤ d * y * y := by omega
      have : r * r ≤ 1 := by omega
      have := Int.mul_le_mul (show 1 ≤ r by omega) (show 1 ≤ r by omega) (by omega) r0
      have e5 : r = 1 := by
        by_cases z : r ≤ 1
        · omega
        · have := Int.mul_le_mul (show 2 ≤ r by omega) (show 2 ≤ r by omega) (by omega) r0
          omega
      subst e5
      have hd2 := root_le h
      have := Int.mul_le_mul (show 1 ≤ y by omega) (show 1 ≤ y by omega) (by omega) (show 0 ≤ y by omega)
      have := Int.mul_le_mul (show 2 ≤ d by omega) (show (1 : Int) ≤ y * y by omega) (by omega) (by omega)
      have : d * (y * y) = d * y * y := by grind
      omega
  have h3 : x = r := by omega
  subst h3
  exact r3 ym (by omega)
theorem no_two {t x : Int} (h : 2 ≤ t) (x0 : 0 ≤ x) : x * x ≠ t * t - 2 := by
  intro e
  have h1 : x < t := by
    by_cases z : x < t
    · exact z
    · have := Int.mul_le_mul (show t ≤ x by omega) (show t ≤ x by omega) (by omega) x0
      omega
  have := Int.mul_le_mul (show x + 1 ≤ t by omega) (show x + 1 ≤ t by omega) (by omega) (by omega)
  have e2 : (x + 1) * (x + 1) = x * x + 2 * x + 1 := by grind
  have : x = 0 := by omega
  subst this
  have := Int.mul_le_mul h h (by omega) (by omega)
  omega
/-! ## powers of the least unit -/
theorem un_bd' {d : Int} (h : rootD d = true) : Bd 17 (un d).1 ∧ Bd 17 (un d).2 := by
  have := u_ok h
  have h1 := this.t2
  have h2 := this.t3
  have h3 := this.u1
  have h4 := this.u3
  constructor <;> (unfold Bd un; simp only; omega)
theorem pw_bd {d : Int} (h : rootD d = true) : ∀ n : Nat, Bd (24 * n + 1) (pw d (un d) n).1 ∧ Bd (24 * n + 1) (pw d (un d) n).2
  | 0 => ⟨(by decide : (1 : Int).natAbs < 2 ^ 1), (by decide : (0 : Int).natAbs < 2 ^ 1)⟩
  | n + 1 => by
    obtain ⟨h1, h2⟩ := pw_bd h n
    have hu := un_bd' h
    have := Bd.mulP (rootD_bd h) h1 h2 hu.1 hu.2
    exact ⟨this.1.mono (by omega), this.2.mono (by omega)⟩
theorem pw_pos {d : Int} (h : rootD d = true) : ∀ n : Nat, 1 ≤ (pw d (un d) n).1 ∧ 0 ≤ (pw d (un d) n).2 ∧ (1 ≤ n → 1 ≤ (pw d (un d) n).2)
  | 0 => ⟨(by decide : (1 : Int) ≤ 1), (by decide : (0 : Int) ≤ 0), fun h => absurd h (by decide)⟩
  | n + 1 => by
    obtain ⟨h1, h2, _⟩ := pw_pos h n
    have hu := u_ok h
    have a1 := hu.t2
    have a2 := hu.u1
    have hd := root_le h
    have b1 : 0 ≤ d * (pw d (un d) n).2 * uU d := Int.mul_nonneg (Int.mul_nonneg (by omega) h2) (by omega)
    have b2 : 1 ≤ (pw d (un d) n).1 * uT d := by
      have := Int.mul_le_mul h1 (show 1 ≤ uT d by omega) (by omega) (by omega)
      omega
    have b3 : 1 ≤ (pw d (un d) n).1 * uU d := by
      have := Int.mul_le_mul h1 a2 (by omega) (by omega)
      omega
    have b4 : 0 ≤ (pw d (un d) n).2 * uT d := Int.mul_nonneg h2 (by omega)
    show 1 ≤ (pw d (un d) n).1 * uT d + d * (pw d (un d) n).2 * uU d ∧ 0 ≤ (pw d (un d) n).1 * uU d + (pw d (un d) n).2 * uT d ∧ (1 ≤ n + 1 → 1 ≤ (pw d (un d) n).1 * uU d + (pw d (un d) n).2 * uT d)
    omega
theorem pw_down {d : Int} (h : rootD d = true) (n : Nat) : mulP d (pw d (un d) (n + 1)) (opp (un d)) = pw d (un d) n := by
  show mulP d (mulP d (pw d (un d) n) (un d)) (opp (un d)) = _
  rw [mulP_assoc, mul_opp, un_nrm h, mulP_one]
end ND
namespace ND
open PySem PySem.Spec L2
/-! ## Convergents -/
/-- the complete quotient that stands behind the convergent k: p, q -/
def cP (d : Int) (k : Nat) : Int := (cfS d (k % cfL d + 1)).1
def cQ (d : Int) (k : Nat) : Int := (cfS d (k % cfL d + 1)).2.1
def cA (d : Int) (k : Nat) : Int := (rest d).getD (k % cfL d) 0
def qOk (d : Int) : Bool := decide ((cfS d 1).1 = rt d ∧ (cfS d 1).2.1 = d - rt d * rt d ∧ (cfS d (cfL d + 1)).1 = rt d ∧ (cfS d (cfL d + 1)).2.1 = d - rt d * rt d) && ((List.range (cfL d + 1)).all fun j =>
  decide ((cfS d (j + 1)).2.1 * (cfS d j).2.1 = d - (cfS d (j + 1)).1 * (cfS d (j + 1)).1 ∧ 0 < (cfS d (j + 1)).2.1 ∧ (cfS d (j + 1)).2.1 * (cfS d (j + 1)).2.1 < 4 * d ∧ (j < cfL d → ((cfS d (j + 1)).2.1 = 1 ↔ j + 1 = cfL d))))
theorem q_ok {d : Int} (h : rootD d = true) : qOk d = true := all_d (by decide +kernel) h
structure QAt (d : Int) (j : Nat) : Prop where
  mul : (cfS d (j + 1)).2.1 * (cfS d j).2.1 = d - (cfS d (j + 1)).1 * (cfS d (j + 1)).1
  pos : 0 < (cfS d (j + 1)).2.1
  small : (cfS d (j + 1)).2.1 * (cfS d (j + 1)).2.1 < 4 * d
  one : j < cfL d → ((cfS d (j + 1)).2.1 = 1 ↔ j + 1 = cfL d)
theorem q_at {d : Int} (h : rootD d = true) {j : Nat} (hj : j ≤ cfL d) : QAt d j := by
  have := q_ok h
  unfold qOk at this
  simp only [Bool.and_eq_true] at this
  have q := of_decide_eq_true (List.all_eq_true.mp this.2 j (List.mem_range.mpr (by omega)))
  exact ⟨q.1, q.2.1, q.2.2.1, q.2.2.2⟩
theorem q_one {d : Int} (h : rootD d = true) : (cfS d 1).1 = rt d ∧ (cfS d 1).2.1 = d - rt d * rt d ∧ (cfS d (cfL d + 1)).1 = rt d ∧ (cfS d (cfL d + 1)).2.1 = d - rt d * rt d := by
  have := q_ok h
  unfold qOk at this
  simp only [Bool.and_eq_true] at this
  exact of_decide_eq_true this.1
theorem mod_succ {k L : Nat} (hL : 1 ≤ L) : (k + 1) % L = if k % L + 1 = L then 0 else k % L + 1 := by
  split
  · rename_i h
    rw [Nat.add_mod]
    by_cases h1 : L = 1
    · subst h1
      omega
    · rw [Nat.mod_eq_of_lt (show 1 < L by omega), h, Nat.mod_self]
  · rename_i h
    have := Nat.mod_lt k (show 0 < L by omega)
    rw [Nat.add_mod]
    by_cases h1 : L = 1
    · subst h1
      omega
    · rw [Nat.mod_eq_of_lt (show 1 < L by omega), Nat.mod_eq_of_lt (by omega)]
theorem cP_zero {d : Int} (h : rootD d = true) : cP d 0 = rt d := by
  unfold cP
  rw [Nat.zero_mod]
  exact (q_one h).1
theorem cQ_zero {d : Int} (h : rootD d = true) : cQ d 0 = d - rt d * rt d := by
  unfold cQ
  rw [Nat.zero_mod]
  exact (q_one h).2.1
theorem cA_eq {d : Int} (h : rootD d = true) (k : Nat) : cA d k = (cfS d (k % cfL d + 1)).2.2 := by
  have hl := cf_len h
  exact rest_get (Nat.mod_lt _ (by omega))
theorem cP_succ {d : Int} (h : rootD d = true) (k : Nat) : cP d (k + 1) = cA d k * cQ d k - cP d k := by
  have hl := cf_len h
  have e : (cfS d (k % cfL d + 1 + 1)).1 = cA d k * cQ d k - cP d k := by rw [cA_eq h]; rfl
  rw [← e]
  unfold cP
  rw [mod_succ (by omega)]
  split
  · rename_i z
    rw [z, (q_one h).1, (q_one h).2.2.1]
  · rfl
theorem cQ_succ {d : Int} (h : rootD d = true) (k : Nat) : cQ d (k + 1) * cQ d k = d - cP d (k + 1) * cP d (k + 1) := by
  have hl := cf_len h
  have hlt := Nat.mod_lt k (show 0 < cfL d by omega)
  have e := (q_at h (j := k % cfL d + 1) (by omega)).mul
  have e1 : cQ d (k + 1) = (cfS d (k % cfL d + 1 + 1)).2.1 := by
    unfold cQ
    rw [mod_succ (by omega)]
    split
    · rename_i z
      rw [z, (q_one h).2.1, (q_one h).2.2.2]
    · rfl
  have e2 : cP d (k + 1) = (cfS d (k % cfL d + 1 + 1)).1 := by
    rw [cP_succ h, cA_eq h]
    rfl
  rw [e1, e2]
  exact e
theorem cQ_pos {d : Int} (h : rootD d = true) (k : Nat) : 0 < cQ d k ∧ cQ d k * cQ d k < 4 * d ∧ (cQ d k = 1 ↔ k % cfL d + 1 = cfL d) := by
  have hl := cf_len h
  have hlt := Nat.mod_lt k (show 0 < cfL d by omega)
  have e := q_at h (j := k % cfL d) (by omega)
  exact ⟨e.pos, e.small, e.one hlt⟩
/-- the sign of the norm of the convergent k -/
def sg (k : Nat) : Int := if k % 2 = 0 then -1 else 1
theorem sg_succ (k : Nat) : sg (k + 1) = -sg k := by
  unfold sg
  by_cases h : k % 2 = 0
  · rw [if_pos h, if_neg (by omega)]
    rfl
  · rw [if_neg h, if_pos (by omega)]
theorem sg_sq (k : Nat) : sg k * sg k = 1 := by
  unfold sg
  split <;> rfl
abbrev cx (d : Int) (k : Nat) : Int := (cvS d k).2.1
abbrev cy (d : Int) (k : Nat) : Int := (cvS d k).2.2
theorem ri1 (q r a p : Int) : q * (r - a * a * q + 2 * a * p) = q * r - (a * q - p) * (a * q - p) + p * p := by grind
theorem ri2 (d a x y x' y' : Int) : (a * x + x') * (a * x + x') - d * (a * y + y') * (a * y + y') = a * a * (x * x - d * y * y) + 2 * a * (x * x' - d * y * y') + (x' * x' - d * y' * y') := by grind
theorem ri3 (s q r a p : Int) : a * a * (s * q) + 2 * a * (-s * p) + -s * r = -s * (r - a * a * q + 2 * a * p) := by grind
theorem ri4 (d a x y x' y' : Int) : (a * x + x') * x - d * (a * y + y') * y = a * (x * x - d * y * y) + (x * x' - d * y * y') := by grind
theorem ri5 (s q a p : Int) : a * (s * q) + -s * p = - -s * (a * q - p) := by grind
theorem ri6 (a x y x' y' : Int) : (a * x + x') * y - (a * y + y') * x = -(x * y' - y * x') := by grind
structure CvAt (d : Int) (k : Nat) : Prop where
  nrm : normI d (cx d k) (cy d k) = sg k * cQ d k
  cross : cx d k * (cvS d k).1.1 - d * cy d k * (cvS d k).1.2 = -sg k * cP d k
  prev : ∃ r, normI d (cvS d k).1.1 (cvS d k).1.2 = -sg k * r ∧ cQ d k * r = d - cP d k * cP d k
  det : cx d k * (cvS d k).1.2 - cy d k * (cvS d k).1.1 = sg k
theorem cv_at {d : Int} (h : rootD d = true) : ∀ k, CvAt d k
  | 0 => by
    refine ⟨?_, ?_, ⟨1, ?_, ?_⟩, ?_⟩
    · rw [cQ_zero h]
      show rt d * rt d - d * 1 * 1 = -1 * (d - rt d * rt d)
      grind
    · rw [cP_zero h]
      show rt d * 1 - d * 1 * 0 = -(-1) * rt d
      grind
    · show (1 : Int) * 1 - d * 0 * 0 = - -1 * 1
      grind
    · rw [cQ_zero h, cP_zero h]
      grind
    · show rt d * 0 - 1 * 1 = -1
      grind
  | k + 1 => by
    obtain ⟨h1, h2, ⟨r, h3, h3'⟩, h4⟩ := cv_at h k
    have e1 := cP_succ h k
    have e2 := cQ_succ h k
    have p0 := (cQ_pos h k).1
    have e3 : cQ d (k + 1) = r - cA d k * cA d k * cQ d k + 2 * cA d k * cP d k := by
      have i1 := ri1 (cQ d k) r (cA d k) (cP d k)
      rw [Int.mul_comm, e1] at e2
      have : cQ d k * cQ d (k + 1) = cQ d k * (r - cA d k * cA d k * cQ d k + 2 * cA d k * cP d k) := by omega
      exact Int.eq_of_mul_eq_mul_left (by omega) this
    unfold normI at h1 h3
    refine ⟨?_, ?_, ⟨cQ d k, ?_, ?_⟩, ?_⟩
    · show (cA d k * cx d k + (cvS d k).1.1) * (cA d k * cx d k + (cvS d k).1.1) - d * (cA d k * cy d k + (cvS d k).1.2) * (cA d k * cy d k + (cvS d k).1.2) = _
      rw [ri2, h1, h2, h3, ri3, e3, sg_succ]
    · show (cA d k * cx d k + (cvS d k).1.1) * cx d k - d * (cA d k * cy d k + (cvS d k).1.2) * cy d k = _
      rw [ri4, h1, h2, ri5, sg_succ, e1]
    · show cx d k * cx d k - d * cy d k * cy d k = _
      rw [h1, sg_succ, Int.neg_neg]
    · exact e2
    · show (cA d k * cx d k + (cvS d k).1.1) * cy d k - (cA d k * cy d k + (cvS d k).1.2) * cx d k = _
      rw [ri6, h4, sg_succ]
/-- the convergents grow -/
theorem cy_pos {d : Int} (h : rootD d = true) (k : Nat) : 1 ≤ cy d k := (cv_bd h k).2.2.2.1
theorem cx_pos {d : Int} (h : rootD d = true) (k : Nat) : 1 ≤ cx d k := (cv_bd h k).2.2.1.1
theorem cA_pos {d : Int} (h : rootD d = true) (k : Nat) : 1 ≤ cA d k := by
  have hl := cf_len h
  exact (rest_pos h (j := k % cfL d) (Nat.mod_lt _ (by omega))).1
theorem cy_le {d : Int} (h : rootD d = true) (k : Nat) : cy d k ≤ cy d (k + 1) := by
  have b := cy_pos h k
  have c : 0 ≤ (cvS d k).1.2 := (cv_bd h k).2.1.1
  have e2 : cy d (k + 1) = cA d k * cy d k + (cvS d k).1.2 := rfl
  have m1 : cy d k ≤ cA d k * cy d k := by
    have := Int.mul_le_mul_of_nonneg_right (cA_pos h k) (show 0 ≤ cy d k by omega)
    rw [Int.one_mul] at this
    exact this
  omega
theorem cy_two {d : Int} (h : rootD d = true) (k : Nat) : 2 * cy d k ≤ cy d (k + 2) := by
  have b := cy_pos h (k + 1)
  have c := cy_le h k
  have e1 : cy d (k + 2) = cA d (k + 1) * cy d (k + 1) + cy d k := rfl
  have m2 : cy d (k + 1) ≤ cA d (k + 1) * cy d (k + 1) := by
    have := Int.mul_le_mul_of_nonneg_right (cA_pos h (k + 1)) (show 0 ≤ cy d (k + 1) by omega)
    rw [Int.one_mul] at this
    exact this
  omega
theorem cy_pow {d : Int} (h : rootD d = true) : ∀ k : Nat, (2 : Int) ^ k ≤ cy d (2 * k)
  | 0 => by
    show (1 : Int) ≤ 1
    omega
  | k + 1 => by
    have h1 := cy_pow h k
    have h2 := cy_two h (2 * k)
    rw [Int.pow_succ]
    show 2 ^ k * 2 ≤ cy d (2 * k + 2)
    omega
theorem rt_sq {d : Int} (h : rootD d = true) : rt d * rt d < d ∧ d < (rt d + 1) * (rt d + 1) := by
  have := rt_root h
  have h1 := this.lt
  have h2 := this.le
  have : rt d * rt d ≠ d := by
    have := all_d (c := fun d => decide (rt d * rt d ≠ d)) (by decide +kernel) h
    exact of_decide_eq_true this
  omega
/-- d is no square -/
theorem no_sq {d : Int} (h : rootD d = true) : ∀ (n : Nat) (x y : Int), y.natAbs ≤ n → x * x = d * (y * y) → y = 0
  | 0, x, y, hn, _ => by omega
  | n + 1, x, y, hn, e => by
    by_cases y0 : y = 0
    · exact y0
    · obtain ⟨r1, r2⟩ := rt_sq h
      have ax : ((x.natAbs : Int)) * x.natAbs = x * x := Int.natAbs_mul_self
      have ay : ((y.natAbs : Int)) * y.natAbs = y * y := Int.natAbs_mul_self
      generalize hX : (x.natAbs : Int) = X at ax
      generalize hY : (y.natAbs : Int) = Y at ay
      have Y1 : 1 ≤ Y := by omega
      have X0 : 0 ≤ X := by omega
      have e' : X * X = d * (Y * Y) := by rw [ax, ay, e]
      have f1 := (rt_pos (d := d)).1
      generalize rt d = f at r1 r2 f1
      have l1 : f * Y < X := by
        by_cases z : f * Y < X
        · exact z
        · exfalso
          have f0 : 0 ≤ f * Y := by omega
          have a1 := Int.mul_le_mul (show X ≤ f * Y by omega) (show X ≤ f * Y by omega) X0 f0
          have a2 := Int.mul_lt_mul_of_pos_right r1 (show 0 < Y * Y from Int.mul_pos (by omega) (by omega))
          have a3 : f * Y * (f * Y) = f * f * (Y * Y) := by grind
          omega
      have l2 : X < (f + 1) * Y := by
        by_cases z : X < (f + 1) * Y
        · exact z
        · exfalso
          by_cases fp : 0 ≤ (f + 1) * Y
          · have a1 := Int.mul_le_mul (show (f + 1) * Y ≤ X by omega) (show (f + 1) * Y ≤ X by omega) fp X0
            have a2 := Int.mul_lt_mul_of_pos_right r2 (show 0 < Y * Y from Int.mul_pos (by omega) (by omega))
            have a3 : (f + 1) * Y * ((f + 1) * Y) = (f + 1) * (f + 1) * (Y * Y) := by grind
            omega
          · exact fp (Int.mul_nonneg (by omega) (by omega))
      have key := no_sq h n (d * Y - f * X) (X - f * Y) (by
        have e3 : (f + 1) * Y = f * Y + Y := by grind
        omega) (by grind)
      omega
theorem no_sq' {d : Int} (h : rootD d = true) {x y : Int} (e : x * x = d * (y * y)) : y = 0 := no_sq h _ x y (Nat.le_refl _) e
/-! ## the Stern-Brocot search -/
structure SB (d : Int) (most : Int) (l h : Int × Int) : Prop where
  l0 : 1 ≤ l.1
  l1 : 1 ≤ l.2
  h0 : 1 ≤ h.1
  h1 : 1 ≤ h.2
  lb : l.1 * l.1 < d * (l.2 * l.2)
  hb : d * (h.2 * h.2) < h.1 * h.1
  det : h.1 * l.2 - l.1 * h.2 = 1
  lm : l.2 ≤ most
  hm : h.2 ≤ most
theorem SB.first {d most : Int} (h : rootD d = true) (hm : 1 ≤ most) : SB d most (rt d, 1) (rt d + 1, 1) := by
  have r := rt_sq h
  have f := (rt_pos (d := d)).1
  exact ⟨f, by simp only; omega, by simp only; omega, by simp only; omega, by simp only; omega, by simp only; omega, by simp only; omega, hm, hm⟩
theorem SB.low {d most : Int} {l h : Int × Int} (s : SB d most l h) (hm : l.2 + h.2 ≤ most) (hb : (l.1 + h.1) * (l.1 + h.1) < d * ((l.2 + h.2) * (l.2 + h.2))) : SB d most (l.1 + h.1, l.2 + h.2) h := by
  have := s.l0; have := s.l1; have := s.h0; have := s.h1; have := s.det
  refine ⟨by simp only; omega, by simp only; omega, s.h0, s.h1, hb, s.hb, ?_, hm, s.hm⟩
  simp only
  have e : h.1 * (l.2 + h.2) - (l.1 + h.1) * h.2 = h.1 * l.2 - l.1 * h.2 := by grind
  omega
theorem SB.high {d most : Int} (hd : rootD d = true) {l h : Int × Int} (s : SB d most l h) (hm : l.2 + h.2 ≤ most) (hb : ¬ (l.1 + h.1) * (l.1 + h.1) < d * ((l.2 + h.2) * (l.2 + h.2))) : SB d most l (l.1 + h.1, l.2 + h.2) := by
  have := s.l0; have := s.l1; have := s.h0; have := s.h1; have := s.det
  have ne : (l.1 + h.1) * (l.1 + h.1) ≠ d * ((l.2 + h.2) * (l.2 + h.2)) := fun e => by
    have := no_sq' hd e
    omega
  refine ⟨s.l0, s.l1, by simp only; omega, by simp only; omega, s.lb, by simp only; omega, ?_, s.lm, hm⟩
  simp only
  have e : (l.1 + h.1) * l.2 - l.1 * (l.2 + h.2) = h.1 * l.2 - l.1 * h.2 := by grind
  omega
/-- between neighbours there is no fraction with a small denominator -/
theorem SB.gap {d most : Int} {l h : Int × Int} (s : SB d most l h) (hs : most < l.2 + h.2) {p q : Int} (q1 : 1 ≤ q) (qm : q ≤ most) : p * l.2 ≤ l.1 * q ∨ h.1 * q ≤ p * h.2 := by
  by_cases z : p * l.2 ≤ l.1 * q
  · exact .inl z
  · by_cases z2 : h.1 * q ≤ p * h.2
    · exact .inr z2
    · exfalso
      have a1 : 1 ≤ p * l.2 - l.1 * q := by omega
      have a2 : 1 ≤ h.1 * q - p * h.2 := by omega
      have b1 := Int.mul_le_mul_of_nonneg_right a1 (show 0 ≤ h.2 by have := s.h1; omega)
      have b2 := Int.mul_le_mul_of_nonneg_right a2 (show 0 ≤ l.2 by have := s.l1; omega)
      have e : (p * l.2 - l.1 * q) * h.2 + (h.1 * q - p * h.2) * l.2 = q * (h.1 * l.2 - l.1 * h.2) := by grind
      rw [s.det, Int.mul_one] at e
      omega
def below (d : Int) (p : Int × Int) : Bool := decide (p.1 * p.1 < d * p.2 * p.2)
/-- p is nearer to the root than q -/
def near (d : Int) (p q : Int × Int) : Bool :=
  if below d p = true ∧ below d q = true then decide (q.1 * p.2 < p.1 * q.2)
  else if below d p = false ∧ below d q = false then decide (p.1 * q.2 < q.1 * p.2)
  else decide (4 * d * (p.2 * q.2) * (p.2 * q.2) < (p.1 * q.2 + q.1 * p.2) * (p.1 * q.2 + q.1 * p.2)) == below d p
def bestOf (d : Int) (l h : Int × Int) : Int × Int := if 4 * d * (l.2 * h.2) * (l.2 * h.2) < (l.1 * h.2 + h.1 * l.2) * (l.1 * h.2 + h.1 * l.2) then l else h
theorem below_iff (d : Int) (p : Int × Int) : below d p = true ↔ p.1 * p.1 < d * (p.2 * p.2) := by
  unfold below
  rw [decide_eq_true_iff, Int.mul_assoc]
theorem below_not (d : Int) (p : Int × Int) : below d p = false ↔ ¬ p.1 * p.1 < d * (p.2 * p.2) := by
  unfold below
  rw [decide_eq_false_iff_not, Int.mul_assoc]
theorem sq_le {a b : Int} (h0 : 0 ≤ a) (h : a ≤ b) : a * a ≤ b * b := Int.mul_le_mul h h h0 (by omega)
theorem lt_of_sq {a b : Int} (h0 : 0 ≤ b) (h : a * a < b * b) : a < b := by
  by_cases z : a < b
  · exact z
  · have := sq_le h0 (show b ≤ a by omega)
    omega
theorem low_below {d : Int} (hd : rootD d = true) {l p : Int × Int} (l1 : 1 ≤ l.2) (p0 : 0 ≤ p.1) (p1 : 1 ≤ p.2) (lb : l.1 * l.1 < d * (l.2 * l.2)) (h : p.1 * l.2 ≤ l.1 * p.2) : below d p = true := by
  rw [below_iff]
  have a := sq_le (Int.mul_nonneg p0 (show 0 ≤ l.2 by omega)) h
  have b := Int.mul_lt_mul_of_pos_right lb (show 0 < p.2 * p.2 from Int.mul_pos (by omega) (by omega))
  have e1 : p.1 * l.2 * (p.1 * l.2) = p.1 * p.1 * (l.2 * l.2) := by grind
  have e2 : l.1 * p.2 * (l.1 * p.2) = l.1 * l.1 * (p.2 * p.2) := by grind
  have e3 : d * (l.2 * l.2) * (p.2 * p.2) = d * (p.2 * p.2) * (l.2 * l.2) := by grind
  exact Int.lt_of_mul_lt_mul_right (a := l.2 * l.2) (by omega) (Int.mul_nonneg (by omega) (by omega))
theorem high_above {d : Int} (hd : rootD d = true) {h p : Int × Int} (h0 : 0 ≤ h.1) (h1 : 1 ≤ h.2) (p1 : 1 ≤ p.2) (hb : d * (h.2 * h.2) < h.1 * h.1) (g : h.1 * p.2 ≤ p.1 * h.2) : below d p = false := by
  rw [below_not]
  intro z
  have a := sq_le (Int.mul_nonneg h0 (show 0 ≤ p.2 by omega)) g
  have b := Int.mul_lt_mul_of_pos_right hb (show 0 < p.2 * p.2 from Int.mul_pos (by omega) (by omega))
  have c := Int.mul_lt_mul_of_pos_right z (show 0 < h.2 * h.2 from Int.mul_pos (by omega) (by omega))
  have e1 : p.1 * h.2 * (p.1 * h.2) = p.1 * p.1 * (h.2 * h.2) := by grind
  have e2 : h.1 * p.2 * (h.1 * p.2) = h.1 * h.1 * (p.2 * p.2) := by grind
  have e3 : d * (h.2 * h.2) * (p.2 * p.2) = d * (p.2 * p.2) * (h.2 * h.2) := by grind
  omega
theorem bestOf_cases {d most : Int} (hd : rootD d = true) {l h : Int × Int} (s : SB d most l h) : (bestOf d l h = l ∧ 4 * d * (l.2 * h.2) * (l.2 * h.2) < (l.1 * h.2 + h.1 * l.2) * (l.1 * h.2 + h.1 * l.2)) ∨ (bestOf d l h = h ∧ (l.1 * h.2 + h.1 * l.2) * (l.1 * h.2 + h.1 * l.2) < 4 * d * (l.2 * h.2) * (l.2 * h.2)) := by
  unfold bestOf
  by_cases z : 4 * d * (l.2 * h.2) * (l.2 * h.2) < (l.1 * h.2 + h.1 * l.2) * (l.1 * h.2 + h.1 * l.2)
  · exact .inl ⟨if_pos z, z⟩
  · refine .inr ⟨if_neg z, ?_⟩
    have ne : (l.1 * h.2 + h.1 * l.2) * (l.1 * h.2 + h.1 * l.2) ≠ 4 * d * (l.2 * h.2) * (l.2 * h.2) := fun e => by
      have e2 : (l.1 * h.2 + h.1 * l.2) * (l.1 * h.2 + h.1 * l.2) = d * (2 * (l.2 * h.2) * (2 * (l.2 * h.2))) := by rw [e]; grind
      have := no_sq' hd e2
      have := Int.mul_pos (show 0 < l.2 by have := s.l1; omega) (show 0 < h.2 by have := s.h1; omega)
      omega
    omega
theorem sum_up {d : Int} {l h p : Int × Int} (l0 : 0 ≤ l.1) (l1 : 1 ≤ l.2) (h0 : 0 ≤ h.1) (h1 : 1 ≤ h.2) (p0 : 0 ≤ p.1) (p1 : 1 ≤ p.2) (T : 4 * d * (l.2 * h.2) * (l.2 * h.2) < (l.1 * h.2 + h.1 * l.2) * (l.1 * h.2 + h.1 * l.2)) (g : h.1 * p.2 ≤ p.1 * h.2) :
    4 * d * (l.2 * p.2) * (l.2 * p.2) < (l.1 * p.2 + p.1 * l.2) * (l.1 * p.2 + p.1 * l.2) := by
  have a0 : 0 ≤ l.1 * h.2 + h.1 * l.2 := Int.add_nonneg (Int.mul_nonneg l0 (by omega)) (Int.mul_nonneg h0 (by omega))
  have a1 : (l.1 * h.2 + h.1 * l.2) * p.2 ≤ (l.1 * p.2 + p.1 * l.2) * h.2 := by
    have := Int.mul_le_mul_of_nonneg_right g (show 0 ≤ l.2 by omega)
    have e1 : (l.1 * h.2 + h.1 * l.2) * p.2 = l.1 * h.2 * p.2 + h.1 * p.2 * l.2 := by grind
    have e2 : (l.1 * p.2 + p.1 * l.2) * h.2 = l.1 * h.2 * p.2 + p.1 * h.2 * l.2 := by grind
    omega
  have a2 := sq_le (Int.mul_nonneg a0 (show 0 ≤ p.2 by omega)) a1
  have a3 := Int.mul_lt_mul_of_pos_right T (show 0 < p.2 * p.2 from Int.mul_pos (by omega) (by omega))
  generalize l.1 * h.2 + h.1 * l.2 = t at *
  generalize l.1 * p.2 + p.1 * l.2 = u at *
  have e1 : t * p.2 * (t * p.2) = t * t * (p.2 * p.2) := by grind
  have e2 : u * h.2 * (u * h.2) = u * u * (h.2 * h.2) := by grind
  have e3 : 4 * d * (l.2 * h.2) * (l.2 * h.2) * (p.2 * p.2) = 4 * d * (l.2 * p.2) * (l.2 * p.2) * (h.2 * h.2) := by grind
  exact Int.lt_of_mul_lt_mul_right (a := h.2 * h.2) (by omega) (Int.mul_nonneg (by omega) (by omega))
theorem sum_down {d : Int} {l h p : Int × Int} (l0 : 0 ≤ l.1) (l1 : 1 ≤ l.2) (h0 : 0 ≤ h.1) (h1 : 1 ≤ h.2) (p0 : 0 ≤ p.1) (p1 : 1 ≤ p.2) (T : (l.1 * h.2 + h.1 * l.2) * (l.1 * h.2 + h.1 * l.2) < 4 * d * (l.2 * h.2) * (l.2 * h.2)) (g : p.1 * l.2 ≤ l.1 * p.2) :
    (h.1 * p.2 + p.1 * h.2) * (h.1 * p.2 + p.1 * h.2) < 4 * d * (h.2 * p.2) * (h.2 * p.2) := by
  have a0 : 0 ≤ h.1 * p.2 + p.1 * h.2 := Int.add_nonneg (Int.mul_nonneg h0 (by omega)) (Int.mul_nonneg p0 (by omega))
  have a1 : (h.1 * p.2 + p.1 * h.2) * l.2 ≤ (l.1 * h.2 + h.1 * l.2) * p.2 := by
    have := Int.mul_le_mul_of_nonneg_right g (show 0 ≤ h.2 by omega)
    have e1 : (l.1 * h.2 + h.1 * l.2) * p.2 = l.1 * p.2 * h.2 + h.1 * p.2 * l.2 := by grind
    have e2 : (h.1 * p.2 + p.1 * h.2) * l.2 = h.1 * p.2 * l.2 + p.1 * l.2 * h.2 := by grind
    omega
  have a2 := sq_le (Int.mul_nonneg a0 (show 0 ≤ l.2 by omega)) a1
  have a3 := Int.mul_lt_mul_of_pos_right T (show 0 < p.2 * p.2 from Int.mul_pos (by omega) (by omega))
  generalize l.1 * h.2 + h.1 * l.2 = t at *
  generalize h.1 * p.2 + p.1 * h.2 = u at *
  have e1 : t * p.2 * (t * p.2) = t * t * (p.2 * p.2) := by grind
  have e2 : u * l.2 * (u * l.2) = u * u * (l.2 * l.2) := by grind
  have e3 : 4 * d * (l.2 * h.2) * (l.2 * h.2) * (p.2 * p.2) = 4 * d * (h.2 * p.2) * (h.2 * p.2) * (l.2 * l.2) := by grind
  exact Int.lt_of_mul_lt_mul_right (a := l.2 * l.2) (by omega) (Int.mul_nonneg (by omega) (by omega))
theorem best_near {d most : Int} (hd : rootD d = true) {l h : Int × Int} (s : SB d most l h) (hs : most < l.2 + h.2) {p : Int × Int} (p0 : 0 ≤ p.1) (p1 : 1 ≤ p.2) (pm : p.2 ≤ most) (ne : p.1 * (bestOf d l h).2 ≠ (bestOf d l h).1 * p.2) : near d (bestOf d l h) p = true := by
  have l0 := s.l0; have l1 := s.l1; have h0 := s.h0; have h1 := s.h1
  have bl : below d l = true := (below_iff d l).mpr s.lb
  have bh : below d h = false := (below_not d h).mpr (by have := s.hb; omega)
  rcases bestOf_cases hd s with ⟨e, T⟩ | ⟨e, T⟩
  · rw [e] at ne ⊢
    unfold near
    rcases s.gap hs p1 pm (p := p.1) with g | g
    · have bp := low_below hd l1 p0 p1 s.lb g
      rw [if_pos ⟨bl, bp⟩]
      exact decide_eq_true (by omega)
    · have bp := high_above hd (by omega) h1 p1 s.hb g
      rw [if_neg (by rw [bp]; simp), if_neg (by rw [bl]; simp), bl, decide_eq_true (sum_up (by omega) l1 (by omega) h1 p0 p1 T g)]
      rfl
  · rw [e] at ne ⊢
    unfold near
    rcases s.gap hs p1 pm (p := p.1) with g | g
    · have bp := low_below hd l1 p0 p1 s.lb g
      have := sum_down (by omega) l1 (by omega) h1 p0 p1 T g
      rw [if_neg (by rw [bh]; simp), if_neg (by rw [bp]; simp), bh, decide_eq_false (by omega)]
      rfl
    · have bp := high_above hd (by omega) h1 p1 s.hb g
      rw [if_neg (by rw [bh]; simp), if_pos ⟨bh, bp⟩]
      exact decide_eq_true (by omega)
theorem best_low {d most : Int} (hd : rootD d = true) {l h : Int × Int} (s : SB d most l h) {p : Int × Int} (p1 : 1 ≤ p.2) (e : p.1 * (bestOf d l h).2 = (bestOf d l h).1 * p.2) : (bestOf d l h).2 ≤ p.2 := by
  have dt := s.det
  rcases bestOf_cases hd s with ⟨b, _⟩ | ⟨b, _⟩
  · rw [b] at e ⊢
    refine Int.le_of_dvd (by omega) ⟨h.1 * p.2 - p.1 * h.2, ?_⟩
    have : p.2 * (h.1 * l.2 - l.1 * h.2) = l.2 * (h.1 * p.2) - l.1 * p.2 * h.2 := by grind
    rw [dt, ← e] at this
    grind
  · rw [b] at e ⊢
    refine Int.le_of_dvd (by omega) ⟨p.1 * l.2 - l.1 * p.2, ?_⟩
    have : p.2 * (h.1 * l.2 - l.1 * h.2) = h.1 * p.2 * l.2 - l.1 * p.2 * h.2 := by grind
    rw [dt, ← e] at this
    grind
theorem cross_lt {d : Int} {a b : Int × Int} (a1 : 1 ≤ a.2) (b0 : 0 ≤ b.1) (b1 : 1 ≤ b.2) (ha : a.1 * a.1 < d * (a.2 * a.2)) (hb : d * (b.2 * b.2) < b.1 * b.1) : a.1 * b.2 < b.1 * a.2 := by
  refine lt_of_sq (Int.mul_nonneg b0 (by omega)) ?_
  have x1 := Int.mul_lt_mul_of_pos_right ha (show 0 < b.2 * b.2 from Int.mul_pos (by omega) (by omega))
  have x2 := Int.mul_lt_mul_of_pos_right hb (show 0 < a.2 * a.2 from Int.mul_pos (by omega) (by omega))
  have e1 : a.1 * b.2 * (a.1 * b.2) = a.1 * a.1 * (b.2 * b.2) := by grind
  have e2 : b.1 * a.2 * (b.1 * a.2) = b.1 * b.1 * (a.2 * a.2) := by grind
  have e3 : d * (a.2 * a.2) * (b.2 * b.2) = d * (b.2 * b.2) * (a.2 * a.2) := by grind
  omega
/-- what lies strictly between two neighbours has a great denominator -/
theorem gap_of {l h b : Int × Int} (det : h.1 * l.2 - l.1 * h.2 = 1) (l1 : 1 ≤ l.2) (h1 : 1 ≤ h.2) (g1 : l.1 * b.2 < b.1 * l.2) (g2 : b.1 * h.2 < h.1 * b.2) : l.2 + h.2 ≤ b.2 := by
  have b1 := Int.mul_le_mul_of_nonneg_right (show 1 ≤ b.1 * l.2 - l.1 * b.2 by omega) (show 0 ≤ h.2 by omega)
  have b2 := Int.mul_le_mul_of_nonneg_right (show 1 ≤ h.1 * b.2 - b.1 * h.2 by omega) (show 0 ≤ l.2 by omega)
  have e : (b.1 * l.2 - l.1 * b.2) * h.2 + (h.1 * b.2 - b.1 * h.2) * l.2 = b.2 * (h.1 * l.2 - l.1 * h.2) := by grind
  rw [det, Int.mul_one] at e
  omega
theorem lowest_l {l h b : Int × Int} (det : h.1 * l.2 - l.1 * h.2 = 1) (b1 : 1 ≤ b.2) (e : b.1 * l.2 = l.1 * b.2) : l.2 ≤ b.2 := by
  refine Int.le_of_dvd (by omega) ⟨h.1 * b.2 - b.1 * h.2, ?_⟩
  have : b.2 * (h.1 * l.2 - l.1 * h.2) = l.2 * (h.1 * b.2) - l.1 * b.2 * h.2 := by grind
  rw [det, ← e] at this
  grind
theorem lowest_h {l h b : Int × Int} (det : h.1 * l.2 - l.1 * h.2 = 1) (b1 : 1 ≤ b.2) (e : b.1 * h.2 = h.1 * b.2) : h.2 ≤ b.2 := by
  refine Int.le_of_dvd (by omega) ⟨b.1 * l.2 - l.1 * b.2, ?_⟩
  have : b.2 * (h.1 * l.2 - l.1 * h.2) = h.1 * b.2 * l.2 - l.1 * b.2 * h.2 := by grind
  rw [det, ← e] at this
  grind
/-- the nearer one of two neighbours, if it has the lesser denominator, is nearest of all with denominators up to its own -/
theorem near_low {d : Int} (hd : rootD d = true) {c C b : Int × Int} (c0 : 1 ≤ c.1) (c1 : 1 ≤ c.2) (C0 : 1 ≤ C.1) (C1 : c.2 < C.2) (cb : c.1 * c.1 < d * (c.2 * c.2)) (Cb : d * (C.2 * C.2) < C.1 * C.1) (det : C.1 * c.2 - c.1 * C.2 = 1) (b0 : 1 ≤ b.1) (b1 : 1 ≤ b.2) (bm : b.2 ≤ c.2) (n : near d b c = true) : False := by
  have bc : below d c = true := (below_iff d c).mpr cb
  unfold near at n
  by_cases bb : below d b = true
  · rw [if_pos ⟨bb, bc⟩] at n
    have n1 := of_decide_eq_true n
    have := gap_of det c1 (by omega) n1 (cross_lt b1 (by omega) (by omega) ((below_iff d b).mp bb) Cb)
    omega
  · have bf : below d b = false := by cases h : below d b; rfl; exact absurd h bb
    rw [if_neg (fun z => bb z.1), if_neg (by rw [bc]; simp), bf] at n
    have n1 : ¬ 4 * d * (b.2 * c.2) * (b.2 * c.2) < (b.1 * c.2 + c.1 * b.2) * (b.1 * c.2 + c.1 * b.2) := fun z => by
      rw [decide_eq_true z] at n
      cases n
    apply n1
    have ba : d * (b.2 * b.2) < b.1 * b.1 := by
      have h1 := (below_not d b).mp bf
      have h2 : b.1 * b.1 ≠ d * (b.2 * b.2) := fun z => by have := no_sq' hd z; omega
      omega
    have g1 := cross_lt c1 (by omega) b1 cb ba
    have g2 : C.1 * b.2 ≤ b.1 * C.2 := by
      by_cases z : b.1 * C.2 < C.1 * b.2
      · have := gap_of det c1 (by omega) g1 z
        omega
      · omega
    have g3 : C.1 * b.2 ≠ b.1 * C.2 := fun z => by
      have := lowest_h det b1 z.symm
      omega
    have g4 := Int.mul_le_mul_of_nonneg_right (show 1 ≤ b.1 * C.2 - C.1 * b.2 by omega) (show 0 ≤ c.2 by omega)
    have e1 : (b.1 * c.2 + c.1 * b.2) * C.2 = 2 * C.1 * (b.2 * c.2) + (b.1 * C.2 - C.1 * b.2) * c.2 - (C.1 * c.2 - c.1 * C.2) * b.2 := by grind
    rw [det] at e1
    have g5 : 2 * C.1 * (b.2 * c.2) ≤ (b.1 * c.2 + c.1 * b.2) * C.2 := by omega
    have w0 : 0 < b.2 * c.2 := Int.mul_pos (by omega) (by omega)
    have g6 := sq_le (Int.mul_nonneg (show 0 ≤ 2 * C.1 by omega) (by omega)) g5
    have g7 := Int.mul_lt_mul_of_pos_right Cb (show 0 < 4 * (b.2 * c.2 * (b.2 * c.2)) by have := Int.mul_pos w0 w0; omega)
    generalize b.1 * c.2 + c.1 * b.2 = t at *
    generalize b.2 * c.2 = w at *
    have e2 : t * C.2 * (t * C.2) = t * t * (C.2 * C.2) := by grind
    have e3 : 2 * C.1 * w * (2 * C.1 * w) = C.1 * C.1 * (4 * (w * w)) := by grind
    have e4 : d * (C.2 * C.2) * (4 * (w * w)) = 4 * d * w * w * (C.2 * C.2) := by grind
    exact Int.lt_of_mul_lt_mul_right (a := C.2 * C.2) (by omega) (Int.mul_nonneg (by omega) (by omega))
theorem near_high {d : Int} (hd : rootD d = true) {c C b : Int × Int} (c0 : 1 ≤ c.1) (c1 : 1 ≤ c.2) (C0 : 1 ≤ C.1) (C1 : c.2 < C.2) (cb : d * (c.2 * c.2) < c.1 * c.1) (Cb : C.1 * C.1 < d * (C.2 * C.2)) (det : c.1 * C.2 - C.1 * c.2 = 1) (b0 : 1 ≤ b.1) (b1 : 1 ≤ b.2) (bm : b.2 ≤ c.2) (n : near d b c = true) : False := by
  have bc : below d c = false := (below_not d c).mpr (by omega)
  unfold near at n
  by_cases bb : below d b = true
  · rw [if_neg (by rw [bc]; simp), if_neg (by rw [bb]; simp), bb] at n
    have n1 : 4 * d * (b.2 * c.2) * (b.2 * c.2) < (b.1 * c.2 + c.1 * b.2) * (b.1 * c.2 + c.1 * b.2) := by
      by_cases z : 4 * d * (b.2 * c.2) * (b.2 * c.2) < (b.1 * c.2 + c.1 * b.2) * (b.1 * c.2 + c.1 * b.2)
      · exact z
      · rw [decide_eq_false z] at n
        cases n
    have ba := (below_iff d b).mp bb
    have g1 := cross_lt b1 (by omega) c1 ba cb
    have g2 : b.1 * C.2 ≤ C.1 * b.2 := by
      by_cases z : C.1 * b.2 < b.1 * C.2
      · have := gap_of det (by omega) c1 z g1
        omega
      · omega
    have g3 : b.1 * C.2 ≠ C.1 * b.2 := fun z => by
      have := lowest_l det b1 z
      omega
    have g4 := Int.mul_le_mul_of_nonneg_right (show 1 ≤ C.1 * b.2 - b.1 * C.2 by omega) (show 0 ≤ c.2 by omega)
    have e1 : (b.1 * c.2 + c.1 * b.2) * C.2 = 2 * C.1 * (b.2 * c.2) - (C.1 * b.2 - b.1 * C.2) * c.2 + (c.1 * C.2 - C.1 * c.2) * b.2 := by grind
    rw [det] at e1
    have g5 : (b.1 * c.2 + c.1 * b.2) * C.2 ≤ 2 * C.1 * (b.2 * c.2) := by omega
    have w0 : 0 < b.2 * c.2 := Int.mul_pos (by omega) (by omega)
    have t0 : 0 ≤ b.1 * c.2 + c.1 * b.2 := Int.add_nonneg (Int.mul_nonneg (by omega) (by omega)) (Int.mul_nonneg (by omega) (by omega))
    have g6 := sq_le (Int.mul_nonneg t0 (show 0 ≤ C.2 by omega)) g5
    have g7 := Int.mul_lt_mul_of_pos_right Cb (show 0 < 4 * (b.2 * c.2 * (b.2 * c.2)) by have := Int.mul_pos w0 w0; omega)
    have g8 := Int.mul_lt_mul_of_pos_right n1 (show 0 < C.2 * C.2 from Int.mul_pos (by omega) (by omega))
    generalize b.1 * c.2 + c.1 * b.2 = t at *
    generalize b.2 * c.2 = w at *
    have e2 : t * C.2 * (t * C.2) = t * t * (C.2 * C.2) := by grind
    have e3 : 2 * C.1 * w * (2 * C.1 * w) = C.1 * C.1 * (4 * (w * w)) := by grind
    have e4 : d * (C.2 * C.2) * (4 * (w * w)) = 4 * d * w * w * (C.2 * C.2) := by grind
    omega
  · have bf : below d b = false := by cases h : below d b; rfl; exact absurd h bb
    rw [if_neg (fun z => bb z.1), if_pos ⟨bf, bc⟩] at n
    have n1 := of_decide_eq_true n
    have ba : d * (b.2 * b.2) < b.1 * b.1 := by
      have h1 := (below_not d b).mp bf
      have h2 : b.1 * b.1 ≠ d * (b.2 * b.2) := fun z => by have := no_sq' hd z; omega
      omega
    have := gap_of det (by omega) c1 (cross_lt (by omega) (by omega) b1 Cb ba) n1
    omega
theorem cv_side {d : Int} (h : rootD d = true) (k : Nat) : if k % 2 = 0 then cx d k * cx d k < d * (cy d k * cy d k) else d * (cy d k * cy d k) < cx d k * cx d k := by
  have e := (cv_at h k).nrm
  have p := (cQ_pos h k).1
  unfold normI sg at e
  rw [Int.mul_assoc] at e
  by_cases z : k % 2 = 0
  · rw [if_pos z] at e ⊢
    omega
  · rw [if_neg z] at e ⊢
    omega
theorem cv_det {d : Int} (h : rootD d = true) (k : Nat) : cx d (k + 1) * cy d k - cy d (k + 1) * cx d k = -sg k := by
  rw [← sg_succ]
  exact (cv_at h (k + 1)).det
theorem SB.best_pos {d most : Int} (hd : rootD d = true) {l h : Int × Int} (s : SB d most l h) : 1 ≤ (bestOf d l h).1 ∧ 1 ≤ (bestOf d l h).2 ∧ (bestOf d l h).2 ≤ most := by
  rcases bestOf_cases hd s with ⟨e, _⟩ | ⟨e, _⟩
  · rw [e]; exact ⟨s.l0, s.l1, s.lm⟩
  · rw [e]; exact ⟨s.h0, s.h1, s.hm⟩
theorem cv_lowest {d : Int} (h : rootD d = true) (k : Nat) {p : Int × Int} (p1 : 1 ≤ p.2) (e : p.1 * cy d k = cx d k * p.2) : cy d k ≤ p.2 := by
  have dt := cv_det h k
  unfold sg at dt
  by_cases z : k % 2 = 0
  · rw [if_pos z] at dt
    exact lowest_l (l := (cx d k, cy d k)) (h := (cx d (k + 1), cy d (k + 1))) (by
      show cx d (k + 1) * cy d k - cx d k * cy d (k + 1) = 1
      rw [Int.mul_comm (cx d k)]; omega) p1 e
  · rw [if_neg z] at dt
    exact lowest_h (h := (cx d k, cy d k)) (l := (cx d (k + 1), cy d (k + 1))) (by
      show cx d k * cy d (k + 1) - cx d (k + 1) * cy d k = 1
      rw [Int.mul_comm (cx d k)]; omega) p1 e
theorem best_cv_eq {d most : Int} (hd : rootD d = true) (k : Nat) {l h : Int × Int} (s : SB d most l h) (e : cx d k * (bestOf d l h).2 = (bestOf d l h).1 * cy d k) : bestOf d l h = (cx d k, cy d k) := by
  obtain ⟨b0, b1, bm⟩ := s.best_pos hd
  have y1 := cy_pos hd k
  have e1 := best_low hd s (p := (cx d k, cy d k)) y1 e
  have e2 := cv_lowest hd k b1 e.symm
  have e3 : (bestOf d l h).2 = cy d k := Int.le_antisymm e1 e2
  rw [e3] at e
  have e4 : cx d k = (bestOf d l h).1 := Int.eq_of_mul_eq_mul_right (by omega) e
  exact Prod.ext e4.symm e3
theorem conv_best {d : Int} (hd : rootD d = true) {k : Nat} (hq : cy d k < cy d (k + 1)) {l h : Int × Int} (s : SB d (cy d k) l h) (hs : cy d k < l.2 + h.2) : bestOf d l h = (cx d k, cy d k) := by
  by_cases e : cx d k * (bestOf d l h).2 = (bestOf d l h).1 * cy d k
  · exact best_cv_eq hd k s e
  · exfalso
    have x1 := cx_pos hd k
    have y1 := cy_pos hd k
    have n := best_near hd s hs (p := (cx d k, cy d k)) (show 0 ≤ cx d k by omega) y1 (Int.le_refl _) e
    obtain ⟨b0, b1, bm⟩ := s.best_pos hd
    have sd := cv_side hd k
    have sd1 := cv_side hd (k + 1)
    have dt := cv_det hd k
    unfold sg at dt
    by_cases z : k % 2 = 0
    · rw [if_pos z] at dt sd
      rw [if_neg (by omega)] at sd1
      exact near_low hd (c := (cx d k, cy d k)) (C := (cx d (k + 1), cy d (k + 1))) x1 y1 (cx_pos hd _) hq sd sd1 (by
        show cx d (k + 1) * cy d k - cx d k * cy d (k + 1) = 1
        rw [Int.mul_comm (cx d k)]; omega) b0 b1 bm n
    · rw [if_neg z] at dt sd
      rw [if_pos (by omega)] at sd1
      exact near_high hd (c := (cx d k, cy d k)) (C := (cx d (k + 1), cy d (k + 1))) x1 y1 (cx_pos hd _) hq sd sd1 (by
        show cx d k * cy d (k + 1) - cx d (k + 1) * cy d k = 1
        rw [Int.mul_comm (cx d k)]; omega) b0 b1 bm n
/-- two best ones -/
theorem best_eq {d m M : Int} (hd : rootD d = true) {l h L H : Int × Int} (s : SB d m l h) (S : SB d M L H) (e : (bestOf d l h).1 * (bestOf d L H).2 = (bestOf d L H).1 * (bestOf d l h).2) : bestOf d L H = bestOf d l h := by
  obtain ⟨b0, b1, bm⟩ := s.best_pos hd
  obtain ⟨B0, B1, Bm⟩ := S.best_pos hd
  have e1 := best_low hd S b1 e
  have e2 := best_low hd s B1 e.symm
  have e3 : (bestOf d L H).2 = (bestOf d l h).2 := by omega
  rw [e3] at e
  exact Prod.ext (Int.eq_of_mul_eq_mul_right (by omega) e.symm) e3
end ND
namespace ND
open PySem PySem.Spec PyProof.Rows L2
/-! ## Slices -/
def cutD (xs : List PyData) (lo hi : Option Int) : List PyData := (xs.drop (HT.sIx xs.length 0 lo)).take (HT.sIx xs.length xs.length hi - HT.sIx xs.length 0 lo)
theorem RpAll.cut {K : PySem.W.Frag} {H : Hp} {ds : List PyData} {vs : List V} (lo hi : Option Int) (h : RpAll K H vs ds) : RpAll K H (cutV vs lo hi) (cutD ds lo hi) := by
  unfold cutV cutD
  rw [h.len]
  exact (h.drop _).take _
abbrev DO := Sl → Cn → (Option Int → Cn → Prop) → Prop
def LO (K : PySem.W.Frag) (d : DO) : TO := fun σ H Q => ∃ T n S c k, Hd K T n S c σ H ∧ d S c k ∧ ∀ o c', k o c' → ∀ H', FrT T H H' → Tw T n c' H' → Q o H'
def oNone : DO := fun _ c k => k none c
def oSome (de : DE) : DO := fun S c k => de S c fun x c1 => match x with
  | .im (.int i) => k (some i) c1
  | _ => False
theorem PO.le {X : Cx} {e : Option Expr} {t t' : TO} (h : PO X e t) (k : ∀ σ H Q, t' σ H Q → t σ H Q) : PO X e t' := ⟨fun p s σ H Q I q => h.run p s σ H Q I (k σ H Q q)⟩
theorem PE.or {X : Cx} {e : Expr} {t u : TE} (h : PE X e t) (g : PE X e u) : PE X e (fun σ H Q => t σ H Q ∨ u σ H Q) := ⟨fun p s σ H Q I q => q.elim (h.run p s σ H Q I) (g.run p s σ H Q I)⟩
theorem SlR.le {X : Cx} {r r' : V → Option Int → Option Int → Hp → VK → Prop} (h : SlR X r) (k : ∀ x lo hi H Q, r' x lo hi H Q → r x lo hi H Q) : SlR X r' := fun p s σ H x v vl vu lo hi sl Q I rx hs pl pu q => h p s σ H x v vl vu lo hi sl Q I rx hs pl pu (k _ _ _ _ _ q)
def rCut : En → Option Int → Option Int → (En → Prop) → Prop
  | .im (.tuple xs), lo, hi, k => k (.im (.tuple (cutD xs lo hi)))
  | .im (.str z), lo, hi, k => z.length ≤ 100000 ∧ k (.im (.str (cutS z lo hi)))
  | .own xs, lo, hi, k => k (.own (cutD xs lo hi))
  | .ro xs, lo, hi, k => k (.own (cutD xs lo hi))
  | _, _, _, _ => False
def RLs (K : PySem.W.Frag) (r : En → Option Int → Option Int → (En → Prop) → Prop) : V → Option Int → Option Int → Hp → VK → Prop := fun x lo hi H Q => ∃ T n c ex k, Tw T n c H ∧ Rv K T H x ex ∧ r ex lo hi k ∧ ∀ z, k z → ∀ v H', SameN H H' → Rf K T H H' v z → Q v H'
def dSl (r : En → Option Int → Option Int → (En → Prop) → Prop) (de : DE) (dl dh : DO) : DE := fun S c k => de S c fun x c1 => dl S c1 fun l c2 => dh S c2 fun u c3 => r x l u fun z => k z c3
theorem cutV_whole {xs : List V} {lo hi : Option Int} (h : HT.sIx xs.length 0 lo = 0 ∧ HT.sIx xs.length xs.length hi = xs.length) : cutV xs lo hi = xs := by
  unfold cutV
  rw [h.1, h.2, List.drop_zero, Nat.sub_zero, List.take_length]
section
variable {X : Cx} {e : Expr} {lo hi : Option Expr} {de : DE} {dl dh : DO} {pos p2 : Pos}
theorem do_none : PO X none (LO X.K oNone) := by
  refine PO.le po_none fun σ H Q h => ?_
  obtain ⟨T, n, S, c, k, hS, h, q⟩ := h
  exact q _ _ h H (.refl _ _) hS.tow
theorem do_some (he : PE X e (LE X.K de)) : PO X (some e) (LO X.K (oSome de)) := by
  refine PO.le (po_some he) fun σ H Q h => ?_
  obtain ⟨T, n, S, c, k, hS, h, q⟩ := h
  refine ⟨T, n, S, c, _, hS, h, fun e1 c1 h1 v1 H1 f1 t1 r1 => ?_⟩
  split at h1
  · cases r1.rv
    exact ⟨_, rfl, q _ _ h1 H1 f1 t1⟩
  · exact h1.elim
theorem sd_cut : SlR X (RLs X.K rCut) := by
  refine SlR.le (SlR.or sl_tupA (SlR.or sl_str sl_list)) fun x lo hi H Q h => ?_
  obtain ⟨T, n, c, ex, k, t, r, h, q⟩ := h
  unfold rCut at h
  split at h
  · obtain ⟨s, ra⟩ : ∃ a xs, x = .ref a ∧ H a = some (.tup xs) ∧ RpAll X.K H xs _ := by cases r with | tup s ra => exact ⟨_, _, rfl, s, ra⟩
    obtain ⟨xs, rfl, sq, ra⟩ := ra
    refine .inl ⟨_, _, rfl, .inl (.inl sq), fun hw => ?_, fun hw p hp => ?_⟩
    · have rc := ra.cut lo hi
      rw [cutV_whole hw] at rc
      exact q _ h _ H (same_refl H) ⟨.tup sq rc, trivial⟩
    · exact q _ h _ _ (same_upd hp) (rp_newtup hp (ra.cut lo hi))
  · cases r
    exact .inr (.inl ⟨_, rfl, line_of h.1, q _ h.2 _ H (same_refl H) ⟨.str _, trivial⟩⟩)
  · obtain ⟨a, vs, rfl, n1, s, ra⟩ := r
    exact .inr (.inr ⟨a, vs, rfl, .inl (.inl s), fun p hp => q _ h _ _ (same_upd hp) (rf_own hp (ra.cut lo hi) t)⟩)
  · obtain ⟨a, vs, rfl, n1, s, ra⟩ := r
    exact .inr (.inr ⟨a, vs, rfl, .inl (.inl s), fun p hp => q _ h _ _ (same_upd hp) (rf_own hp (ra.cut lo hi) t)⟩)
  · exact h.elim
theorem de_slice (he : PE X e (LE X.K de)) (hl : PO X lo (LO X.K dl)) (hh : PO X hi (LO X.K dh)) : PE X (.Subscript e (.Slice lo hi none p2) pos) (LE X.K (dSl rCut de dl dh)) := by
  refine PE.le (pe_slice sd_cut he hl hh) fun σ H Q h => ?_
  obtain ⟨T, n, S, c, k, hS, h, q⟩ := h
  refine ⟨T, n, S, c, _, hS, h, fun e1 c1 h1 v1 H1 f1 t1 r1 => ?_⟩
  refine ⟨T, n, S, c1, _, hS.mono f1 t1, h1, fun o2 c2 h2 H2 f2 t2 => ?_⟩
  refine ⟨T, n, S, c2, _, (hS.mono f1 t1).mono f2 t2, h2, fun o3 c3 h3 H3 f3 t3 => ?_⟩
  exact ⟨T, n, c3, e1, _, t3, (r1.rv.mono f2 t1).mono f3 t2, h3, fun z hz v H' s r => q z c3 hz v H' (f1.trans (f2.trans (f3.trans (frT_same s)))) (tw_same t3 s) (rf_trans (c' := c3) r (f1.trans (f2.trans f3)) hS.tow)⟩
/-! ### t[::-1] of a tuple -/
theorem adjust_rev (n : Nat) : Builtin.Slice.sliceAdjust none none (-1) (n : Int) = ((n : Int) - 1, -1) := by simp [Builtin.Slice.sliceAdjust]
theorem places_rev (n : Nat) : Builtin.Slice.slicePlaces ((n : Int) - 1) (-1) (-1) = n := by
  simp [Builtin.Slice.slicePlaces]
  omega
theorem fm_some {α β : Type} (f : α → Option β) (g : α → β) : ∀ (l : List α), (∀ x ∈ l, f x = some (g x)) → l.filterMap f = l.map g
  | [], _ => rfl
  | x :: l, h => by
    rw [List.filterMap_cons, h x List.mem_cons_self, List.map_cons, fm_some f g l fun y hy => h y (List.mem_cons_of_mem _ hy)]
theorem pick_rev (xs : Array Value) : ((List.range xs.size).filterMap fun (m : Nat) => xs[(((xs.size : Nat) : Int) - 1 + (m : Int) * -1).toNat]?) = xs.toList.reverse := by
  rw [fm_some _ (fun m => xs.toList.reverse.getD m .none)]
  · apply List.ext_getElem
    · simp
    · intro j h1 h2
      have h3 : j < xs.size := by simpa using h2
      simp [h3]
  · intro m hm
    have hm := List.mem_range.mp hm
    have e : (((xs.size : Nat) : Int) - 1 + (m : Int) * -1).toNat = xs.size - 1 - m := by omega
    rw [e]
    have h4 : xs.size - 1 - m < xs.size := by omega
    simp [h4, hm]
/-- the object of [::-1] -/
def BkAt (h : Heap) (b : Addr) : Prop := ∃ st, h.IsSliceOf b .none .none st ∧ IsPart st (some (-1))
section
variable {P : Program} {w : World} {A : Around} {E : Value → Shared → Prop} {s : Shared} {t b : Addr} {its : Array Value}
/-- where it begins, its step, how many -/
theorem bk_applied {R : Int × Int × Nat → Shared → Prop} {m : Nat} (B : BkAt s.heap b) (q : R ((m : Int) - 1, -1, m) s) : wpAny (model P w) A (Builtin.Slice.sliceApplied (.ref b) (pure (m : Int))) R E s := by
  rcases B with ⟨st, ⟨ob, ho, _, hf⟩, hp⟩
  simp only [Builtin.Slice.sliceApplied, Builtin.Slice.sliceFields]
  have fin : wpAny (model P w) A (match Builtin.Slice.sliceAdjust none none (-1) (m : Int) with | (lo, hi) => pure (lo, (-1 : Int), Builtin.Slice.slicePlaces lo hi (-1))) R E s := by
    simp only [adjust_rev, places_rev]
    exact wpAny_pure q
  apply wpAny_bind
  apply wpAny_bind
  apply wpAny_field ho hf rfl
  apply wpAny_bind
  apply wpAny_field ho hf rfl
  apply wpAny_bind
  apply wpAny_field ho hf rfl
  apply wpAny_pure
  apply wpAny_bind
  apply HT.slicePart_ hp
  apply wpAny_bind
  apply HT.slicePart_ .none
  apply wpAny_bind
  apply HT.slicePart_ .none
  apply wpAny_bind
  exact wpAny_pure fin
theorem bk_item {R : Value → Shared → Prop} (T : PyProof.Rows.IsTup s.heap t its) (B : BkAt s.heap b) (l : its.size ≤ sizeLine) (q : R (.ref s.heap.objs.size) { s with heap := s.heap.push { cls := .type "tuple", data := .seq its.toList.reverse.toArray } }) :
    wpAny (model P w) A (getItem (.ref t) (.ref b)) R E s := by
  have ty : s.TypeIs (.ref b) "slice" := B.elim fun _ z => z.1.elim fun o z => ⟨o, z.1, z.2.1⟩
  have sz : sizeOk (.seq its.toList.reverse.toArray) := by
    show its.toList.reverse.toArray.size ≤ sizeLine
    simpa using l
  apply wpAny_getItem_slot T.typeIs (by decide) PyProof.Rows.slot_tuple_getitem
  apply wpAny_call_entry PyProof.Rows.slot_tuple_getitem T.typeIs PyProof.Rows.entry_tuple_getitem _ (PyProof.Rows.args_tuple_getitem _ _)
  apply wpAny_bind (m := Builtin.Tuple.tupleItemsOf (.ref t))
  apply PyProof.Rows.tupleItemsOf_ T
  apply wpAny_bind
  apply wpAny_typeOf ty
  simp only [beq_self_eq_true, if_true]
  apply wpAny_bind
  apply bk_applied B
  simp only [Int.reduceBEq, Bool.and_false, Bool.false_and, Bool.false_eq_true, if_false, pick_rev]
  apply wpAny_bind
  exact wpAny_newObj_type (wpAny_pure ⟨_, rfl, q⟩) sz
end
abbrev bkE (k : Nat) (p1 p2 p3 : Pos) : Expr := .Slice none none (some (.UnaryOp .USub (.Constant (.int 1) k p1) p2)) p3
theorem bk_eval {k : Nat} {p1 p2 p3 : Pos} {pins : List (Addr × Obj)} {s : Shared} {σ : L2.St} {H : Hp} {R : Value → Shared → Prop} (I : Inv X pins σ H s) (q : ∀ s' b, Inv X pins σ H s' → BkAt s'.heap b → R (.ref b) s') :
    wpAny (model X.prog X.w) X.A (eval (bkE k p1 p2 p3) X.env) R X.xe s := by
  have none_ := fun s1 (J : Inv X pins σ H s1) => (po_none (X := X)).run pins s1 σ H (fun o G => o = none ∧ G = H) J ⟨rfl, rfl⟩
  have step : PO X (some (.UnaryOp .USub (.Constant (.int 1) k p1) p2)) _ := po_some (pe_un un_neg pe_int)
  have one_ := fun s1 (J : Inv X pins σ H s1) => step.run pins s1 σ H (fun o G => o = some (-1) ∧ G = H) J ⟨1, rfl, -1, rfl, rfl, rfl⟩
  apply wpAny_Slice
  apply thn (none_ s I)
  rintro l s1 ⟨_, _, J1, a1, rfl, rfl⟩
  apply thn (none_ s1 J1)
  rintro u s2 ⟨_, _, J2, a2, rfl, rfl⟩
  apply thn (one_ s2 J2)
  rintro st s3 ⟨_, _, J3, a3, rfl, rfl⟩
  cases a1
  cases a2
  exact q _ _ (J3.kept (t' := s3.toks) fun _ _ => Heap.get?_push_of_some _) ⟨st, Heap.IsSliceOf.new _ _ _ _, a3⟩
theorem pe_back {te : TE} {k : Nat} {p1 p2 p3 pos : Pos} (he : PE X e te) : PE X (.Subscript e (bkE k p1 p2 p3) pos)
    (fun σ H R => te σ H fun x G => ∃ a vs, x = .ref a ∧ SqT X.K G a vs ∧ ∀ p, G p = none → R (.ref p) (upd G p (.tup vs.reverse))) := by
  constructor
  intro pins s σ H R I h
  apply PyProof.Rows.Subscript_
  apply thn (he.run pins s σ H _ I h)
  rintro v s1 ⟨x, G, J, rv, a, vs, rfl, sq, q⟩
  cases rv
  apply bk_eval J
  intro s2 b J2 B
  obtain ⟨us, ru, T, l⟩ := J2.tuple sq
  apply tail_any (ops := [.ref a, .ref b]) T.typeIs PyProof.Rows.slot_tuple_getitem.lookup _ (by with_unfolding_all rfl)
  have lu : us.length = vs.length := ru.length.symm
  have lr : vs.reverse.length ≤ sizeLine := by rw [List.length_reverse]; exact l
  apply bk_item T B (by rw [List.size_toArray, lu]; exact l)
  exact ⟨.ref _, upd G _ (.tup vs.reverse), J2.laid (t' := s2.toks) (fun _ _ => Heap.get?_push_of_some _) (Nat.le_refl _) ⟨lr, us.reverse, ru.reverse, PyProof.Rows.IsTup.new _ _⟩, rfl, q _ (J2.hok.fresh (Nat.le_refl _))⟩
def dRev (de : DE) : DE := fun S c k => de S c fun x c1 => match x with
  | .im (.tuple xs) => k (.im (.tuple xs.reverse)) c1
  | _ => False
theorem de_rev {k : Nat} {p1 p2 p3 pos : Pos} (he : PE X e (LE X.K de)) : PE X (.Subscript e (bkE k p1 p2 p3) pos) (LE X.K (dRev de)) := by
  refine PE.le (pe_back he) fun σ H Q h => ?_
  obtain ⟨T, n, S, c, k, hS, h, q⟩ := h
  refine ⟨T, n, S, c, _, hS, h, fun e1 c1 h1 v1 H1 f1 t1 r1 => ?_⟩
  split at h1
  · cases r1.rv with
    | tup s ra => exact ⟨_, _, rfl, .inl (.inl s), fun p hp => q _ _ h1 _ _ (f1.trans (frT_same (same_upd hp))) (tw_same t1 (same_upd hp)) (rf_trans (c' := c1) (rp_newtup hp ra.reverse) f1 hS.tow)⟩
  · exact h1.elim
/-! ### xs * n -/
def rRepD : En → En → (En → Prop) → Prop
  | .im (.tuple xs), .im (.int m), k => xs ≠ [] ∧ 2 ≤ m ∧ m ≤ 1000 ∧ xs.length ≤ 1000 ∧ k (.im (.tuple (List.replicate m.toNat xs).flatten))
  | .own xs, .im (.int m), k => 0 ≤ m ∧ m ≤ 1000 ∧ xs.length ≤ 1000 ∧ k (.own (List.replicate m.toNat xs).flatten)
  | .ro xs, .im (.int m), k => 0 ≤ m ∧ m ≤ 1000 ∧ xs.length ≤ 1000 ∧ k (.own (List.replicate m.toNat xs).flatten)
  | _, _, _ => False
theorem RpAll.rep {K : PySem.W.Frag} {H : Hp} {ds : List PyData} {vs : List V} (h : RpAll K H vs ds) (m : Nat) : RpAll K H (List.replicate m vs).flatten (List.replicate m ds).flatten := by
  induction m with
  | zero => exact .nil
  | succ m ih => simpa only [List.replicate_succ, List.flatten_cons] using RpAll.append h ih
theorem od_rep : OpR X (binaryOp .Mult) (RL X.K rRepD) := by
  refine OpR.le (L2.OpR.or op_repT op_rep) fun x y H Q h => ?_
  obtain ⟨T, n, c, ex, ey, k, t, rx, ry, h, q⟩ := h
  have sz : ∀ (m : Int) (l : Nat), 0 ≤ m → m ≤ 1000 → l ≤ 1000 → l * m.toNat ≤ sizeLine := fun m l h0 h1 h2 => by
    rw [sizeLine_eq]
    have : l * m.toNat ≤ 1000 * 1000 := Nat.mul_le_mul h2 (by omega)
    omega
  unfold rRepD at h
  split at h
  · cases ry
    obtain ⟨h1, h2, h3, h4, h⟩ := h
    cases rx with
    | tup s ra =>
      have hl := ra.len
      refine .inl ⟨_, _, _, rfl, rfl, .inl (.inl s), fun z => h1 ?_, h2, h3, by omega, fun p hp => q _ h _ _ (same_upd hp) (rp_newtup hp (ra.rep _))⟩
      rw [z] at hl
      exact List.eq_nil_of_length_eq_zero hl.symm
  · cases ry
    obtain ⟨h1, h2, h3, h⟩ := h
    obtain ⟨a, vs, rfl, n1, s, ra⟩ := rx
    have hl := ra.len
    exact .inr ⟨_, _, _, rfl, rfl, s, by omega, by omega, sz _ _ h1 h2 (by omega), fun p hp => q _ h _ _ (same_upd hp) (rf_own hp (ra.rep _) t)⟩
  · cases ry
    obtain ⟨h1, h2, h3, h⟩ := h
    obtain ⟨a, vs, rfl, n1, s, ra⟩ := rx
    have hl := ra.len
    exact .inr ⟨_, _, _, rfl, rfl, s, by omega, by omega, sz _ _ h1 h2 (by omega), fun p hp => q _ h _ _ (same_upd hp) (rf_own hp (ra.rep _) t)⟩
  · exact h.elim
/-! ### methods of a built-in type -/
def RM (K : PySem.W.Frag) (r : En → List En → (En → Prop) → Prop) : V → List V → Hp → VK → Prop := fun x vs H Q => ∃ T n c ex es k, Tw T n c H ∧ Rv K T H x ex ∧ RvAll K T H vs es ∧ r ex es k ∧ ∀ z, k z → ∀ v H', SameN H H' → Rf K T H H' v z → Q v H'
theorem MtR.le {id : String} {r r' : V → List V → Hp → VK → Prop} (h : MtR X id r) (k : ∀ x xs H Q, r' x xs H Q → r x xs H Q) : MtR X id r' := fun p s σ H x xs v us Q I rx rs q => h p s σ H x xs v us Q I rx rs (k _ _ _ _ q)
/-- the type of an entry -/
def tyE : En → String
  | .im (.str _) => "str"
  | .own _ => "list"
  | .ro _ => "list"
  | .sc _ => "list"
  | _ => ""
def dMt (T : String) (r : En → List En → (En → Prop) → Prop) (do_ : DE) (da : DA) : DE := fun S c k => do_ S c fun x c1 => tyE x = T ∧ da S c1 fun es c2 => r x (es.map view) fun z => k z c2
theorem tyE_ty {K : PySem.W.Frag} {T : Option Addr} {H : Hp} {v : V} {e : En} {ty : String} (h : tyE e = ty) (hs : ty ≠ "") (r : Rv K T H v e) : tyV K ty v H := by
  subst h
  cases e with
  | im d => cases r with
    | str x => rfl
    | non => exact absurd rfl hs
    | bl _ => exact absurd rfl hs
    | int _ => exact absurd rfl hs
    | tup _ _ => exact absurd rfl hs
    | lst _ _ => exact absurd rfl hs
  | own xs => obtain ⟨a, vs, rfl, n1, s, ra⟩ := r; exact .inl ⟨rfl, vs, .inl (.inl s)⟩
  | ro xs => obtain ⟨a, vs, rfl, n1, s, ra⟩ := r; exact .inl ⟨rfl, vs, .inl (.inl s)⟩
  | sc xs => obtain ⟨a, vs, rfl, s, ra⟩ := r; exact .inl ⟨rfl, vs, s.sq⟩
  | tw => exact absurd rfl hs
  | ses a => exact absurd rfl hs
  | sp a d => exact absurd rfl hs
/-- a method's call, by the rule that is given -/
theorem de_mt {E : Expr} {do_ : DE} {da : DA} {T : String} {r : En → List En → (En → Prop) → Prop} (hT : T ≠ "") (hp : PE X E (tBM X.K T (RM X.K r) (LE X.K do_) (LA X.K da))) : PE X E (LE X.K (dMt T r do_ da)) := by
  refine PE.le hp fun σ H Q h => ?_
  obtain ⟨Tw', n, S, c, k, hS, h, q⟩ := h
  refine ⟨Tw', n, S, c, _, hS, h, fun e1 c1 h1 v1 H1 f1 t1 r1 => ?_⟩
  refine ⟨tyE_ty h1.1 hT r1.rv, Tw', n, S, c1, _, hS.mono f1 t1, h1.2, fun es2 c2 h2 vs H2 f2 t2 r2 => ?_⟩
  exact ⟨Tw', n, c2, e1, _, _, t2, r1.rv.mono f2 t1, r2.view, h2, fun z hz v H' s r => q z c2 hz v H' (f1.trans (f2.trans (frT_same s))) (tw_same t2 s) (rf_trans (c' := c2) r (f1.trans f2) hS.tow)⟩
/-- xs.index(y) -/
def rIndexE : En → List En → (En → Prop) → Prop := fun x es k => match x, es with
  | .ro ds, [.im d] => Shp (.list ds) ∧ Shp d ∧ ∃ (j : Nat) (z : PyData), ds[j]? = some z ∧ PyData.eqv z d = true ∧ (∀ (m : Nat) (z' : PyData), m < j → ds[m]? = some z' → PyData.eqv z' d = false) ∧ k (.im (.int (j : Nat)))
  | _, _ => False
theorem md_index (hu : X.A.units + 65 < cLine) : MtR X "list.index" (RM X.K rIndexE) := by
  refine MtR.le (mt_indexD hu) fun x xs H Q h => ?_
  obtain ⟨T, n, c, ex, es, k, t, rx, rs, h, q⟩ := h
  unfold rIndexE at h
  split at h
  · cases rs with
    | cons r1 _ rs =>
      cases rs
      obtain ⟨s1, s2, j, z, h1, h2, h3, h4⟩ := h
      have e1 := dpOf_dp rx (by rfl)
      have e2 := dpOf_dp r1 (by rfl)
      obtain ⟨a, vs, rfl, _⟩ := rx
      exact ⟨_, _, _, _, j, z, rfl, rfl, e1, e2, s1, s2, h1, h2, h3, q _ h4 _ H (same_refl H) ⟨.int _, trivial⟩⟩
  · exact h.elim
/-! ### max, min of a tuple or list of ints -/
/-- the ints of a sequence -/
def intsOf : List PyData → Option (List Int)
  | [] => some []
  | .int b :: xs => (intsOf xs).map (b :: ·)
  | _ :: _ => none
theorem intsOf_map : ∀ {xs : List PyData} {bs : List Int}, intsOf xs = some bs → xs = bs.map PyData.int
  | [], bs, h => by cases h; rfl
  | .int b :: xs, bs, h => by
    simp only [intsOf] at h
    cases z : intsOf xs with
    | none => rw [z] at h; cases h
    | some cs => rw [z] at h; cases h; rw [intsOf_map z]; rfl
  | .none :: xs, bs, h => by cases h
  | .bool _ :: xs, bs, h => by cases h
  | .str _ :: xs, bs, h => by cases h
  | .list _ :: xs, bs, h => by cases h
  | .tuple _ :: xs, bs, h => by cases h
  | .dict _ :: xs, bs, h => by cases h
theorem intsOf_ints : ∀ ns : List Int, intsOf (ns.map PyData.int) = some ns
  | [] => rfl
  | n :: ns => by
    show (intsOf (ns.map PyData.int)).map (n :: ·) = _
    rw [intsOf_ints ns]
    rfl
def rMaxE (le : Int → Int → Prop) : List En → (En → Prop) → Prop
  | [x], k => match sqOf x with
    | some xs => match intsOf xs with
      | some ns => 0 < ns.length ∧ ∀ m, m ∈ ns → (∀ y, y ∈ ns → le y m) → k (.im (.int m))
      | none => False
    | none => False
  | _, _ => False
def rMaxT (K : PySem.W.Frag) (le : Int → Int → Prop) : List V → Hp → VK → Prop := fun vs H Q => ∃ (a : Addr) (ns : List Int), vs = [V.ref a] ∧ SqT K H a (ns.map V.int) ∧ 0 < ns.length ∧ ∀ m, m ∈ ns → (∀ y, y ∈ ns → le y m) → Q (.int m) H
theorem maxOf_int (x : Int) (xs : List Int) : PySem.W.maxOf x xs ∈ x :: xs ∧ ∀ y ∈ x :: xs, y ≤ PySem.W.maxOf x xs := by
  revert x
  induction xs with
  | nil =>
    intro x
    exact ⟨List.mem_cons_self, fun y hy => Int.le_of_eq (by rcases List.mem_singleton.mp hy with rfl; rfl)⟩
  | cons z zs ih =>
    intro x
    have e : PySem.W.maxOf x (z :: zs) = PySem.W.maxOf (if x < z then z else x) zs := by
      by_cases c : x < z <;> simp [PySem.W.maxOf, PySem.W.DatumOrd.lt, c]
    rw [e]
    by_cases c : x < z
    · rw [if_pos c]
      obtain ⟨i1, i2⟩ := ih z
      have i3 := i2 _ List.mem_cons_self
      refine ⟨List.mem_cons_of_mem _ i1, fun y hy => ?_⟩
      rcases List.mem_cons.mp hy with rfl | hq
      · omega
      · exact i2 y hq
    · rw [if_neg c]
      obtain ⟨i1, i2⟩ := ih x
      have i3 := i2 _ List.mem_cons_self
      refine ⟨?_, fun y hy => ?_⟩
      · rcases List.mem_cons.mp i1 with h | h <;> simp [h]
      · simp only [List.mem_cons] at hy i2
        rcases hy with rfl | rfl | hq
        · exact i3
        · omega
        · exact i2 y (.inr hq)
theorem minOf_int (x : Int) (xs : List Int) : PySem.W.minOf x xs ∈ x :: xs ∧ ∀ y ∈ x :: xs, PySem.W.minOf x xs ≤ y := by
  revert x
  induction xs with
  | nil =>
    intro x
    exact ⟨List.mem_cons_self, fun y hy => Int.le_of_eq (by rcases List.mem_singleton.mp hy with rfl; rfl)⟩
  | cons z zs ih =>
    intro x
    have e : PySem.W.minOf x (z :: zs) = PySem.W.minOf (if z < x then z else x) zs := by
      by_cases c : z < x <;> simp [PySem.W.minOf, PySem.W.DatumOrd.lt, c]
    rw [e]
    by_cases c : z < x
    · rw [if_pos c]
      obtain ⟨i1, i2⟩ := ih z
      have i3 := i2 _ List.mem_cons_self
      refine ⟨List.mem_cons_of_mem _ i1, fun y hy => ?_⟩
      rcases List.mem_cons.mp hy with rfl | hq
      · omega
      · exact i2 y hq
    · rw [if_neg c]
      obtain ⟨i1, i2⟩ := ih x
      have i3 := i2 _ List.mem_cons_self
      refine ⟨?_, fun y hy => ?_⟩
      · rcases List.mem_cons.mp i1 with h | h <;> simp [h]
      · simp only [List.mem_cons] at hy i2
        rcases hy with rfl | rfl | hq
        · exact i3
        · omega
        · exact i2 y (.inr hq)
theorem cr_maxT (hc : X.calm = true) (hu : X.A.units + 65 < cLine) : CallR X (.builtin "max") (rMaxT X.K (· ≤ ·)) := by
  rintro pins s σ H _ us Q I r ⟨a, ns, rfl, sq, pos, q⟩
  obtain ⟨its, rv, T, _⟩ := I.tuple sq
  cases Vals.ref1 r
  cases ns with
  | nil => exact absurd pos (Nat.lt_irrefl _)
  | cons x xs =>
    obtain ⟨m1, m2⟩ := maxOf_int x xs
    refine PySem.W.max_tuple_datum (I.ok.hd hc) T (PySem.W.HoldAll.of_ints rv.ints) (Nat.lt_of_le_of_lt (by show X.A.units + 1 + 0 ≤ X.A.units + 65; omega) hu) fun i v h' tk _ hv kp => ?_
    obtain ⟨as, hv⟩ := hv
    cases hv
    exact ⟨.int _, H, I.kept kp, ⟨_, rfl⟩, q _ m1 m2⟩
theorem cr_minT (hc : X.calm = true) (hu : X.A.units + 65 < cLine) : CallR X (.builtin "min") (rMaxT X.K (fun y m => m ≤ y)) := by
  rintro pins s σ H _ us Q I r ⟨a, ns, rfl, sq, pos, q⟩
  obtain ⟨its, rv, T, _⟩ := I.tuple sq
  cases Vals.ref1 r
  cases ns with
  | nil => exact absurd pos (Nat.lt_irrefl _)
  | cons x xs =>
    obtain ⟨m1, m2⟩ := minOf_int x xs
    refine PySem.W.min_tuple_datum (I.ok.hd hc) T (PySem.W.HoldAll.of_ints rv.ints) (Nat.lt_of_le_of_lt (by show X.A.units + 1 + 0 ≤ X.A.units + 65; omega) hu) fun i v h' tk _ hv kp => ?_
    obtain ⟨as, hv⟩ := hv
    cases hv
    exact ⟨.int _, H, I.kept kp, ⟨_, rfl⟩, q _ m1 m2⟩
theorem maxE_le {le : Int → Int → Prop} {vs : List V} {H : Hp} {Q : VK} {K : PySem.W.Frag} (h : RC K (rMaxE le) vs H Q) : rMaxT K le vs H Q ∨ ∃ (a : Addr) (ns : List Int), vs = [V.ref a] ∧ SqL K H a (ns.map V.int) ∧ 0 < ns.length ∧ ∀ m, m ∈ ns → (∀ y, y ∈ ns → le y m) → Q (.int m) H := by
  obtain ⟨T, n, c, es, k, t, r, h, q⟩ := h
  unfold rMaxE at h
  split at h
  · cases r with
    | cons r1 _ rs =>
      cases rs
      split at h
      · rename_i xs e1
        split at h
        · rename_i ns e2
          obtain ⟨a, ws, rfl, r2, s2⟩ := sqOf_rv r1 e1
          have e3 := intsOf_map e2
          subst e3
          have e4 := r2.ints
          subst e4
          rcases s2 with ⟨_, s1⟩ | ⟨s1, s1'⟩
          · exact .inr ⟨a, ns, rfl, s1, h.1, fun m m1 m2 => q _ (h.2 m m1 m2) _ H (same_refl H) ⟨.int _, trivial⟩⟩
          · exact .inl ⟨a, ns, rfl, s1, h.1, fun m m1 m2 => q _ (h.2 m m1 m2) _ H (same_refl H) ⟨.int _, trivial⟩⟩
        · exact h.elim
      · exact h.elim
  · exact h.elim
theorem CallR.or {f : Value} {r r' : List V → Hp → VK → Prop} (h : CallR X f r) (h' : CallR X f r') : CallR X f (fun x H Q => r x H Q ∨ r' x H Q) := fun p s σ H x v Q I rx q => q.elim (h p s σ H x v Q I rx) (h' p s σ H x v Q I rx)
theorem cd_max1 (hc : X.calm = true) (hu : X.A.units + 65 < cLine) : CallR X (.builtin "max") (RC X.K (rMaxE (· ≤ ·))) := CallR.le (CallR.or (cr_maxT hc hu) (cr_max hc)) fun _ _ _ h => maxE_le h
theorem cd_min1 (hc : X.calm = true) (hu : X.A.units + 65 < cLine) : CallR X (.builtin "min") (RC X.K (rMaxE (fun y m => m ≤ y))) := CallR.le (CallR.or (cr_minT hc hu) (cr_min hc)) fun _ _ _ h => maxE_le h
end
end ND
namespace ND
open PySem PySem.Spec L2
/-! ## Convergents by their numbers -/
theorem cy_mono {d : Int} (h : rootD d = true) {i j : Nat} (hij : i ≤ j) : cy d i ≤ cy d j := by
  obtain ⟨k, rfl⟩ := Nat.exists_eq_add_of_le hij
  clear hij
  induction k with
  | zero => exact Int.le_refl _
  | succ k ih => exact Int.le_trans ih (cy_le h _)
theorem cy_lt {d : Int} (h : rootD d = true) (k : Nat) : cy d (k + 1) < cy d (k + 2) := by
  have b := cy_pos h (k + 1)
  have c := cy_pos h k
  have e1 : cy d (k + 2) = cA d (k + 1) * cy d (k + 1) + cy d k := rfl
  have m2 : cy d (k + 1) ≤ cA d (k + 1) * cy d (k + 1) := by
    have := Int.mul_le_mul_of_nonneg_right (cA_pos h (k + 1)) (show 0 ≤ cy d (k + 1) by omega)
    rw [Int.one_mul] at this
    exact this
  omega
theorem cv_ne {d : Int} (h : rootD d = true) {i j : Nat} (hij : i < j) : (cvS d i).2 ≠ (cvS d j).2 := by
  intro e
  have ey : cy d i = cy d j := congrArg Prod.snd e
  have h1 := cy_mono h (show i + 1 ≤ j by omega)
  have h2 := cy_le h i
  cases i with
  | succ i =>
    have := cy_lt h i
    have e3 : cy d (i + 1 + 1) = cy d (i + 2) := rfl
    omega
  | zero =>
    have hj : j = 1 := by
      by_cases z : j = 1
      · exact z
      · have h3 := cy_mono h (show 2 ≤ j by omega)
        have := cy_lt h 0
        have e4 : cy d (0 + 1) = cy d 1 := rfl
        have e5 : cy d (0 + 2) = cy d 2 := rfl
        omega
    subst hj
    have ex : cx d 0 = cx d 1 := congrArg Prod.fst e
    have e1 : cy d 0 = 1 := rfl
    have e2 : cy d 1 = cA d 0 * 1 + 0 := rfl
    have e3 : cx d 1 = cA d 0 * rt d + 1 := rfl
    have e4 : cx d 0 = rt d := rfl
    have e6 : cA d 0 = 1 := by omega
    rw [e3, e4, e6] at ex
    omega
theorem cv_inj {d : Int} (h : rootD d = true) {i j : Nat} (e : (cvS d i).2 = (cvS d j).2) : i = j := by
  rcases Nat.lt_trichotomy i j with z | z | z
  · exact absurd e (cv_ne h z)
  · exact z
  · exact absurd e.symm (cv_ne h z)
theorem cy_grow {d : Int} (h : rootD d = true) (k : Nat) : ∀ i : Nat, (2 : Int) ^ i * cy d k ≤ cy d (k + 2 * i)
  | 0 => by rw [Int.pow_zero, Int.one_mul]; exact Int.le_refl _
  | i + 1 => by
    have h1 := cy_grow h k i
    have h2 := cy_two h (k + 2 * i)
    have e : k + 2 * (i + 1) = k + 2 * i + 2 := by omega
    rw [e, Int.pow_succ, Int.mul_right_comm]
    omega
theorem cv_ratio {d : Int} (h : rootD d = true) : ∀ k : Nat, (cy d k ≤ cx d k ∧ cx d k ≤ (rt d + 1) * cy d k) ∧ (cy d (k + 1) ≤ cx d (k + 1) ∧ cx d (k + 1) ≤ (rt d + 1) * cy d (k + 1))
  | 0 => by
    have hr := rt_pos (d := d)
    have ha := cA_pos h 0
    have e2 : cy d 1 = cA d 0 * 1 + 0 := rfl
    have e3 : cx d 1 = cA d 0 * rt d + 1 := rfl
    have e4 : cx d 0 = rt d := rfl
    have e1 : cy d 0 = 1 := rfl
    have p1 := Int.mul_le_mul_of_nonneg_left hr.1 (show 0 ≤ cA d 0 by omega)
    have e5 : (rt d + 1) * cA d 0 = cA d 0 * rt d + cA d 0 := by grind
    simp only [show (0 : Nat) + 1 = 1 from rfl]
    rw [e2, e3, e4, e1]
    simp only [Int.mul_one, Int.add_zero] at p1 ⊢
    rw [e5]
    omega
  | k + 1 => by
    obtain ⟨⟨a1, a2⟩, b1, b2⟩ := cv_ratio h k
    have ha := cA_pos h (k + 1)
    have e2 : cy d (k + 2) = cA d (k + 1) * cy d (k + 1) + cy d k := rfl
    have e3 : cx d (k + 2) = cA d (k + 1) * cx d (k + 1) + cx d k := rfl
    refine ⟨⟨b1, b2⟩, ?_⟩
    have p1 := Int.mul_le_mul_of_nonneg_left b1 (show 0 ≤ cA d (k + 1) by omega)
    have p2 := Int.mul_le_mul_of_nonneg_left b2 (show 0 ≤ cA d (k + 1) by omega)
    have e5 : (rt d + 1) * (cA d (k + 1) * cy d (k + 1) + cy d k) = cA d (k + 1) * ((rt d + 1) * cy d (k + 1)) + (rt d + 1) * cy d k := by grind
    show cy d (k + 2) ≤ cx d (k + 2) ∧ cx d (k + 2) ≤ (rt d + 1) * cy d (k + 2)
    rw [e2, e3, e5]
    omega
theorem cx_le8 {d : Int} (h : rootD d = true) (k : Nat) : cx d k ≤ 8 * cy d k := by
  have h1 := (cv_ratio h k).1.2
  have hr := rt_pos (d := d)
  have := Int.mul_le_mul_of_nonneg_right (show rt d + 1 ≤ 8 by omega) (show 0 ≤ cy d k by have := cy_pos h k; omega)
  omega
/-- a convergent with a second part not much greater comes soon -/
theorem cv_soon {d : Int} (h : rootD d = true) {j k : Nat} (hy : cy d j ≤ 8 * cy d k) : j < k + 8 := by
  by_cases z : j < k + 8
  · exact z
  · have h1 := cy_mono h (show k + 2 * 4 ≤ j by omega)
    have h2 := cy_grow h k 4
    have := cy_pos h k
    have e : (2 : Int) ^ 4 = 16 := rfl
    rw [e] at h2
    omega
theorem cv_big {d : Int} (h : rootD d = true) {j : Nat} (hy : cy d j ≤ 1000000000000000000000000000000000000000000000000000000000000) : j < 400 := by
  by_cases z : j < 400
  · exact z
  · have h1 := cy_mono h (show 2 * 200 ≤ j by omega)
    have h2 := cy_pow h 200
    have : (1000000000000000000000000000000000000000000000000000000000000 : Int) < 2 ^ 200 := by decide
    omega
theorem cv_no2 {d : Int} (h : rootD d = true) {j k : Nat} : (cvS d j).2 ≠ (2 * cx d k, 2 * cy d k) := by
  intro e
  have ex : cx d j = 2 * cx d k := congrArg Prod.fst e
  have ey : cy d j = 2 * cy d k := congrArg Prod.snd e
  have := cv_lowest h j (p := (cx d k, cy d k)) (cy_pos h k) (by show cx d k * cy d j = cx d j * cy d k; rw [ex, ey]; grind)
  have hp := cy_pos h k
  simp only at this
  omega
/-! ### small norms -/
def isqGo (n : Nat) : Nat → Nat → Nat → Nat
  | 0, lo, _ => lo
  | f + 1, lo, hi => if (lo + hi) / 2 * ((lo + hi) / 2) ≤ n then isqGo n f ((lo + hi) / 2) hi else isqGo n f lo ((lo + hi) / 2)
def isq (n : Nat) : Nat := isqGo n 10 0 1024
def smAt (d : Int) (ns : List (Int × Int)) (x y : Nat) : Bool := !(decide (((x : Int) * x - d * y * y) * ((x : Int) * x - d * y * y) < d) && (Nat.gcd x y == 1)) || ns.contains ((x : Int), (y : Int))
def smRow (d : Int) (ns : List (Int × Int)) : Bool := (List.range 119).all fun i => let r := isq (d.toNat * (i + 1) * (i + 1)); decide (r * r ≤ d.toNat * (i + 1) * (i + 1)) && decide (d.toNat * (i + 1) * (i + 1) < (r + 1) * (r + 1)) && smAt d ns r (i + 1) && smAt d ns (r + 1) (i + 1)
def cv30 (d : Int) : List (Int × Int) := (List.range 30).map fun j => (cvS d j).2
theorem sm_ok {d : Int} (h : rootD d = true) : smRow d (cv30 d) = true := all_d (c := fun d => smRow d (cv30 d)) (by decide +kernel) h
theorem small_cv {d : Int} (h : rootD d = true) {y r : Int} (y1 : 1 ≤ y) (y2 : y < 120) (hr : IsRoot (d * y * y) r) {x : Int} (hx : x = r ∨ x = r + 1) (hs : (x * x - d * y * y) * (x * x - d * y * y) < d) (hg : Nat.gcd x.natAbs y.natAbs = 1) : (x, y) ∈ cv30 d := by
  have hd := root_le h
  have h0 := sm_ok h
  unfold smRow at h0
  obtain ⟨i, rfl⟩ : ∃ i : Nat, y = (i : Int) + 1 := ⟨(y - 1).toNat, by omega⟩
  have h1 := List.all_eq_true.mp h0 i (List.mem_range.mpr (by omega))
  simp only [Bool.and_eq_true, decide_eq_true_eq] at h1
  obtain ⟨⟨⟨a1, a2⟩, a3⟩, a4⟩ := h1
  generalize isq (d.toNat * (i + 1) * (i + 1)) = q at a1 a2 a3 a4
  obtain ⟨dn, rfl⟩ : ∃ n : Nat, d = n := ⟨d.toNat, by omega⟩
  rw [Int.toNat_natCast] at a1 a2
  have e0 : ((dn * (i + 1) * (i + 1) : Nat) : Int) = (dn : Int) * ((i : Int) + 1) * ((i : Int) + 1) := by push_cast; rfl
  have hq : IsRoot ((dn : Int) * ((i : Int) + 1) * ((i : Int) + 1)) (q : Int) := ⟨by omega, by rw [← e0]; exact_mod_cast a1, by rw [← e0]; exact_mod_cast a2⟩
  have er := hq.uniq hr
  subst er
  have fin : ∀ x : Nat, smAt dn (cv30 dn) x (i + 1) = true → ((x : Int) * x - (dn : Int) * ((i : Int) + 1) * ((i : Int) + 1)) * ((x : Int) * x - (dn : Int) * ((i : Int) + 1) * ((i : Int) + 1)) < dn → Nat.gcd x (i + 1) = 1 → ((x : Int), (i : Int) + 1) ∈ cv30 dn := by
    intro x hx h1 h2
    unfold smAt at hx
    have ec : ((i + 1 : Nat) : Int) = (i : Int) + 1 := by omega
    rw [ec, decide_eq_true h1, h2] at hx
    simpa using hx
  have ei : ((i : Int) + 1).natAbs = i + 1 := by omega
  rcases hx with rfl | rfl
  · rw [Int.natAbs_natCast, ei] at hg
    exact fin q a3 hs hg
  · have e1 : ((q : Int) + 1).natAbs = q + 1 := by omega
    rw [e1, ei] at hg
    have e2 : ((q + 1 : Nat) : Int) = (q : Int) + 1 := by omega
    have := fin (q + 1) a4 (by rw [e2]; exact hs) hg
    rw [e2] at this
    exact this
/-! ## equality of data -/
theorem eqvAll_ints : ∀ a b : List Int, PyData.eqvAll (a.map PyData.int) (b.map PyData.int) = decide (a = b)
  | [], [] => rfl
  | [], _ :: _ => rfl
  | _ :: _, [] => rfl
  | x :: a, y :: b => by
    show (PyData.eqv (.int x) (.int y) && PyData.eqvAll (a.map PyData.int) (b.map PyData.int)) = _
    rw [eqv_int, eqvAll_ints a b]
    apply Bool.eq_iff_iff.mpr
    rw [Bool.and_eq_true, decide_eq_true_iff, decide_eq_true_iff, decide_eq_true_iff, List.cons.injEq]
theorem eqv_prP (p q : Int × Int) : PyData.eqv (prP p) (prP q) = decide (p = q) := by
  rw [show prP p = pr p.1 p.2 from rfl, show prP q = pr q.1 q.2 from rfl, eqv_pr]
  apply Bool.eq_iff_iff.mpr
  rw [Bool.and_eq_true, decide_eq_true_iff, decide_eq_true_iff, decide_eq_true_iff]
  exact ⟨fun h => Prod.ext h.1 h.2, fun h => h ▸ ⟨rfl, rfl⟩⟩
theorem eqvAll_prs : ∀ a b : List (Int × Int), PyData.eqvAll (a.map prP) (b.map prP) = decide (a = b)
  | [], [] => rfl
  | [], _ :: _ => rfl
  | _ :: _, [] => rfl
  | x :: a, y :: b => by
    show (PyData.eqv (prP x) (prP y) && PyData.eqvAll (a.map prP) (b.map prP)) = _
    rw [eqv_prP, eqvAll_prs a b]
    apply Bool.eq_iff_iff.mpr
    rw [Bool.and_eq_true, decide_eq_true_iff, decide_eq_true_iff, decide_eq_true_iff, List.cons.injEq]
theorem eqv_tupI (a b : List Int) : PyData.eqv (.tuple (a.map PyData.int)) (.tuple (b.map PyData.int)) = decide (a = b) := eqvAll_ints a b
theorem eqv_lstP (a b : List (Int × Int)) : PyData.eqv (.list (a.map prP)) (.list (b.map prP)) = decide (a = b) := eqvAll_prs a b
theorem eqv_tupP (a b : List (Int × Int)) : PyData.eqv (.tuple (a.map prP)) (.tuple (b.map prP)) = decide (a = b) := eqvAll_prs a b
theorem cutD_init (xs : List PyData) : cutD xs none (some (-1)) = xs.dropLast := by
  unfold cutD
  rw [HT.sIx_none, List.drop_zero, Nat.sub_zero, List.dropLast_eq_take]
  congr 1
  show ((-1 : Int) + (xs.length : Int)).toNat = _
  omega
theorem cutD_take (xs : List PyData) (k : Nat) : cutD xs none (some (k : Int)) = xs.take k := by
  unfold cutD
  rw [HT.sIx_none, List.drop_zero, Nat.sub_zero, HT.sIx_nat]
  by_cases h : k ≤ xs.length
  · rw [Nat.min_eq_left h]
  · rw [Nat.min_eq_right (by omega), List.take_of_length_le (Nat.le_refl _), List.take_of_length_le (by omega)]
/-! ## the period's form -/
def perOk (d : Int) : Bool := decide ((rest d).dropLast = (rest d).dropLast.reverse) && decide ((rest d).getLast? = some (2 * rt d)) &&
  ((List.range (cfL d)).all fun j => decide (1 ≤ j → cfL d % j = 0 → rest d ≠ (List.replicate (cfL d / j) ((rest d).take j)).flatten) && decide (1 ≤ j → ¬ ((cfS d (j + 1)).1 = rt d ∧ (cfS d (j + 1)).2.1 = d - rt d * rt d)))
theorem per_form {d : Int} (h : rootD d = true) : (rest d).dropLast = (rest d).dropLast.reverse ∧ (rest d).getLast? = some (2 * rt d) ∧ ∀ j, 1 ≤ j → j < cfL d → (cfL d % j = 0 → rest d ≠ (List.replicate (cfL d / j) ((rest d).take j)).flatten) ∧ ¬ ((cfS d (j + 1)).1 = rt d ∧ (cfS d (j + 1)).2.1 = d - rt d * rt d) := by
  have := all_d (c := perOk) (by decide +kernel) h
  unfold perOk at this
  simp only [Bool.and_eq_true, decide_eq_true_eq, List.all_eq_true] at this
  exact ⟨this.1.1, this.1.2, fun j j1 j2 => ⟨(this.2 j (List.mem_range.mpr j2)).1 j1, (this.2 j (List.mem_range.mpr j2)).2 j1⟩⟩
end ND
namespace ND
open PySem PySem.Spec L2
/-! ## powers of the least unit, by integers -/
theorem upw_ofNat (d : Int) (n : Nat) : upw d (n : Int) = pw d (un d) n := by
  unfold upw
  rw [if_neg (by omega), Int.toNat_natCast]
theorem upw_ofNeg (d : Int) (n : Nat) : upw d (-(n : Int)) = opp (pw d (un d) n) := by
  unfold upw
  by_cases hz : -(n : Int) < 0
  · rw [if_pos hz]
    congr 2
    omega
  · have e0 : n = 0 := by omega
    subst e0
    rfl
theorem opp_opp' (p : Int × Int) : opp (opp p) = p := by
  obtain ⟨a, b⟩ := p
  simp [opp]
theorem upw_neg' (d k : Int) : upw d (-k) = opp (upw d k) := by
  rcases Int.le_total 0 k with h | h
  · obtain ⟨n, rfl⟩ := Int.eq_ofNat_of_zero_le h
    rw [upw_ofNeg, upw_ofNat]
  · obtain ⟨n, hn⟩ := Int.eq_ofNat_of_zero_le (show 0 ≤ -k by omega)
    have : k = -(n : Int) := by omega
    rw [this, upw_ofNeg, Int.neg_neg, upw_ofNat, opp_opp']
theorem upw_up {d : Int} (h : rootD d = true) (k : Int) : upw d (k + 1) = mulP d (upw d k) (un d) := by
  rcases Int.lt_or_le k 0 with hk | hk
  · obtain ⟨n, hn⟩ : ∃ n : Nat, k = -((n + 1 : Nat) : Int) := ⟨(-k - 1).toNat, by omega⟩
    rw [hn, upw_ofNeg, show -((n + 1 : Nat) : Int) + 1 = -(n : Int) by omega, upw_ofNeg]
    have := pw_down h n
    rw [← this, opp_mul, opp_opp']
  · obtain ⟨n, rfl⟩ := Int.eq_ofNat_of_zero_le hk
    rw [show (n : Int) + 1 = ((n + 1 : Nat) : Int) by omega, upw_ofNat, upw_ofNat]
    rfl
theorem upw_down {d : Int} (h : rootD d = true) (k : Int) : upw d (k - 1) = mulP d (upw d k) (opp (un d)) := by
  have := upw_up h (-k)
  rw [show -k + 1 = -(k - 1) by omega, upw_neg', upw_neg'] at this
  have e := congrArg opp this
  rw [opp_opp', opp_mul, opp_opp'] at e
  exact e
theorem upw_zero (d : Int) : upw d 0 = (1, 0) := rfl
theorem upw_one {d : Int} (h : rootD d = true) : upw d 1 = un d := by
  have := upw_up h 0
  rw [upw_zero, one_mulP] at this
  exact this
theorem upw_m1 {d : Int} (h : rootD d = true) : upw d (-1) = opp (un d) := by
  rw [upw_neg', upw_one h]
theorem upw_addN {d : Int} (h : rootD d = true) (a : Int) : ∀ n : Nat, upw d (a + n) = mulP d (upw d a) (upw d n)
  | 0 => by rw [show a + ((0 : Nat) : Int) = a by omega, show ((0 : Nat) : Int) = 0 from rfl, upw_zero, mulP_one]
  | n + 1 => by
    rw [show a + ((n + 1 : Nat) : Int) = a + n + 1 by omega, upw_up h, upw_addN h a n, show ((n + 1 : Nat) : Int) = (n : Int) + 1 by omega, upw_up h, mulP_assoc]
theorem upw_add {d : Int} (h : rootD d = true) (a b : Int) : upw d (a + b) = mulP d (upw d a) (upw d b) := by
  rcases Int.le_total 0 b with hb | hb
  · obtain ⟨n, rfl⟩ := Int.eq_ofNat_of_zero_le hb
    exact upw_addN h a n
  · obtain ⟨n, hn⟩ := Int.eq_ofNat_of_zero_le (show 0 ≤ -b by omega)
    have := upw_addN h (-a) n
    rw [show -a + (n : Int) = -(a + b) by omega, upw_neg', upw_neg'] at this
    have e := congrArg opp this
    rw [opp_opp', opp_mul, opp_opp', ← upw_neg', show -(n : Int) = b by omega] at e
    exact e
theorem nrm_opp (d : Int) (p : Int × Int) : nrm d (opp p) = nrm d p := by
  simp only [nrm, normI, opp]
  grind
theorem nrm_upw {d : Int} (h : rootD d = true) (k : Int) : nrm d (upw d k) = 1 := by
  rcases Int.le_total 0 k with hk | hk
  · obtain ⟨n, rfl⟩ := Int.eq_ofNat_of_zero_le hk
    rw [upw_ofNat]
    exact nrm_pw d _ (un_nrm h) n
  · obtain ⟨n, hn⟩ := Int.eq_ofNat_of_zero_le (show 0 ≤ -k by omega)
    have : k = -(n : Int) := by omega
    rw [this, upw_ofNeg, nrm_opp]
    exact nrm_pw d _ (un_nrm h) n
theorem upw_pos1 {d : Int} (h : rootD d = true) (k : Int) : 1 ≤ (upw d k).1 := by
  rcases Int.le_total 0 k with hk | hk
  · obtain ⟨n, rfl⟩ := Int.eq_ofNat_of_zero_le hk
    rw [upw_ofNat]
    exact (pw_pos h n).1
  · obtain ⟨n, hn⟩ := Int.eq_ofNat_of_zero_le (show 0 ≤ -k by omega)
    have : k = -(n : Int) := by omega
    rw [this, upw_ofNeg]
    exact (pw_pos h n).1
theorem upw_pos2 {d : Int} (h : rootD d = true) {k : Int} (hk : 0 < k) : 1 ≤ (upw d k).2 := by
  obtain ⟨n, rfl⟩ := Int.eq_ofNat_of_zero_le (show 0 ≤ k by omega)
  rw [upw_ofNat]
  exact (pw_pos h n).2.2 (by omega)
theorem upw_neg2 {d : Int} (h : rootD d = true) {k : Int} (hk : k < 0) : (upw d k).2 ≤ -1 := by
  have := upw_pos2 h (show 0 < -k by omega)
  rw [upw_neg'] at this
  simp only [opp] at this
  omega
/-! ## signs -/
def scl (s : Int) (p : Int × Int) : Int × Int := (s * p.1, s * p.2)
theorem scl_one (p : Int × Int) : scl 1 p = p := by
  obtain ⟨a, b⟩ := p
  simp [scl]
theorem scl_mul (d s : Int) (p q : Int × Int) : mulP d (scl s p) q = scl s (mulP d p q) := by
  simp only [scl, mulP, mulX, mulY, Prod.mk.injEq]
  constructor <;> grind
theorem mul_scl (d s : Int) (p q : Int × Int) : mulP d p (scl s q) = scl s (mulP d p q) := by
  rw [mulP_comm, scl_mul, mulP_comm]
theorem scl_scl (s r : Int) (p : Int × Int) : scl s (scl r p) = scl (s * r) p := by
  simp only [scl, Prod.mk.injEq]
  constructor <;> grind
theorem nrm_scl (d s : Int) (p : Int × Int) : nrm d (scl s p) = s * s * nrm d p := by
  simp only [nrm, normI, scl]
  grind
def isS (s : Int) : Prop := s = 1 ∨ s = -1
theorem isS.sq {s : Int} (h : isS s) : s * s = 1 := by
  rcases h with rfl | rfl <;> rfl
theorem isS.mul {s r : Int} (h : isS s) (g : isS r) : isS (s * r) := by
  rcases h with rfl | rfl <;> rcases g with rfl | rfl <;> (unfold isS; decide)
/-! ## every unit is a power of the least one, or the opposite of one -/
theorem sqnn (y : Int) : 0 ≤ y * y := by
  rcases Int.le_total 0 y with h | h
  · exact Int.mul_nonneg h h
  · have := Int.mul_nonneg (show 0 ≤ -y by omega) (show 0 ≤ -y by omega)
    rw [Int.neg_mul_neg] at this
    exact this
theorem sq_lt_of {a b : Int} (h0 : 0 ≤ b) (h : a * a < b * b) : a < b := lt_of_sq h0 h
theorem sq_le_of {a b : Int} (h0 : 0 ≤ b) (h : a * a ≤ b * b) : a ≤ b := by
  by_cases z : a ≤ b
  · exact z
  · have := Int.mul_le_mul (show b + 1 ≤ a by omega) (show b + 1 ≤ a by omega) (by omega) (by omega)
    have e : (b + 1) * (b + 1) = b * b + 2 * b + 1 := by grind
    omega
theorem unit_pos {d : Int} (h : rootD d = true) : ∀ (n : Nat) (x y : Int), y.toNat ≤ n → 0 < x → 0 ≤ y → normI d x y = 1 → ∃ k : Nat, (x, y) = upw d k
  | n, x, y, hn, hx, hy, hN => by
    have hd := root_le h
    have hu := u_ok h
    have hnu := hu.nrm
    have ht := hu.t2
    have hu1 := hu.u1
    unfold normI at hN
    by_cases hy0 : y = 0
    · subst hy0
      have hx1 : x = 1 := by
        have e : x * x = 1 := by
          rw [Int.mul_zero] at hN
          omega
        by_cases z : x = 1
        · exact z
        · have := Int.mul_le_mul (show 2 ≤ x by omega) (show 2 ≤ x by omega) (by omega) (by omega)
          omega
      subst hx1
      exact ⟨0, rfl⟩
    · have hge : uU d ≤ y := by
        by_cases z : uU d ≤ y
        · exact z
        · exact absurd (show x * x = d * y * y + 1 by omega) (no_one h (by omega) (by omega) (by omega))
      have hn1 : 1 ≤ n := by omega
      obtain ⟨m, rfl⟩ : ∃ m, n = m + 1 := ⟨n - 1, by omega⟩
      have t2 : uT d * uT d = 1 + d * uU d * uU d := by
        omega
      -- the next one below
      have i1 : (uT d * y) * (uT d * y) - (uU d * x) * (uU d * x) = y * y - uU d * uU d := by
        have : (uT d * y) * (uT d * y) = (uT d * uT d) * (y * y) := by grind
        rw [this, t2, show (uU d * x) * (uU d * x) = (uU d * uU d) * (x * x) by grind, show x * x = 1 + d * y * y by omega]
        grind
      have i2 : uU d * x ≤ uT d * y := by
        refine sq_le_of (Int.mul_nonneg (by omega) hy) ?_
        have := sq_le (show 0 ≤ uU d by omega) hge
        omega
      have i3 : (uT d - 1) * y < uU d * x := by
        refine sq_lt_of (Int.mul_nonneg (by omega) (by omega)) ?_
        have e1 : ((uT d - 1) * y) * ((uT d - 1) * y) = (uT d * y) * (uT d * y) - 2 * uT d * (y * y) + y * y := by grind
        have e2 : 4 * (y * y) ≤ 2 * uT d * (y * y) := Int.mul_le_mul_of_nonneg_right (by omega) (Int.mul_nonneg hy hy)
        have e3 : 1 ≤ y * y := Int.mul_le_mul (show 1 ≤ y by omega) (show 1 ≤ y by omega) (by omega) hy
        have e4 : 0 ≤ uU d * uU d := Int.mul_nonneg (by omega) (by omega)
        omega
      have i4 : d * uU d * y < uT d * x := by
        refine sq_lt_of (Int.mul_nonneg (by omega) (by omega)) ?_
        have e1 : (uT d * x) * (uT d * x) - (d * uU d * y) * (d * uU d * y) = uT d * uT d + d * (y * y) := by
          have : (uT d * x) * (uT d * x) = (uT d * uT d) * (x * x) := by grind
          rw [this, show x * x = 1 + d * y * y by omega, show (d * uU d * y) * (d * uU d * y) = (d * uU d * uU d) * (d * y * y) by grind, show d * uU d * uU d = uT d * uT d - 1 by omega]
          grind
        have e2 : 0 ≤ d * (y * y) := Int.mul_nonneg (by omega) (Int.mul_nonneg hy hy)
        have e3 : 1 ≤ uT d * uT d := Int.mul_le_mul (show 1 ≤ uT d by omega) (show 1 ≤ uT d by omega) (by omega) (by omega)
        omega
      have eM : mulP d (x, y) (opp (un d)) = (uT d * x - d * uU d * y, uT d * y - uU d * x) := by
        simp only [mulP, mulX, mulY, opp, un, Prod.mk.injEq]
        constructor <;> grind
      have hM : normI d (uT d * x - d * uU d * y) (uT d * y - uU d * x) = 1 := by
        have := nrm_mul d (x, y) (opp (un d))
        rw [eM, nrm_opp, un_nrm h, Int.mul_one] at this
        unfold nrm at this
        rw [this]
        exact hN
      have e5 : (uT d - 1) * y = uT d * y - y := by grind
      obtain ⟨k, hk⟩ := unit_pos h m _ _ (by omega) (by omega) (by omega) hM
      refine ⟨k + 1, ?_⟩
      rw [show ((k + 1 : Nat) : Int) = (k : Int) + 1 by omega, upw_up h, ← hk, ← eM, mulP_assoc, mulP_comm d (opp (un d)), mul_opp, un_nrm h, mulP_one]
theorem unit_all {d : Int} (h : rootD d = true) {u : Int × Int} (hN : nrm d u = 1) : ∃ s k, isS s ∧ u = scl s (upw d k) := by
  have hd := root_le h
  obtain ⟨x, y⟩ := u
  have hN' : normI d x y = 1 := hN
  have hx0 : x ≠ 0 := by
    intro e
    subst e
    unfold normI at hN'
    have : 0 ≤ d * y * y := by
      have := Int.mul_nonneg (show 0 ≤ d by omega) (sqnn y)
      rw [← Int.mul_assoc] at this
      exact this
    omega
  have main : ∀ x y : Int, 0 < x → normI d x y = 1 → ∃ k, (x, y) = upw d k := by
    intro x y hx hN
    rcases Int.le_total 0 y with hy | hy
    · obtain ⟨k, hk⟩ := unit_pos h _ x y (Nat.le_refl _) hx hy hN
      exact ⟨k, hk⟩
    · have hN2 : normI d x (-y) = 1 := by
        unfold normI at hN ⊢
        rw [← hN]
        grind
      obtain ⟨k, hk⟩ := unit_pos h _ x (-y) (Nat.le_refl _) hx (by omega) hN2
      refine ⟨-(k : Int), ?_⟩
      rw [upw_neg', ← hk]
      simp [opp]
  rcases Int.lt_or_gt_of_ne hx0 with hx | hx
  · have hN2 : normI d (-x) (-y) = 1 := by
      unfold normI at hN' ⊢
      rw [← hN']
      grind
    obtain ⟨k, hk⟩ := main (-x) (-y) (by omega) hN2
    refine ⟨-1, k, .inr rfl, ?_⟩
    rw [← hk]
    simp [scl]
  · obtain ⟨k, hk⟩ := main x y hx hN'
    refine ⟨1, k, .inl rfl, ?_⟩
    rw [← hk]
    simp [scl]
/-! ## families -/
/-- p times the power k, times a sign -/
def mem (d : Int) (p : Int × Int) (s k : Int) : Int × Int := scl s (mulP d p (upw d k))
/-- p and q are of one family -/
def Fam (d : Int) (p q : Int × Int) : Prop := ∃ s k, isS s ∧ q = mem d p s k
theorem Fam.refl (d : Int) (p : Int × Int) : Fam d p p := ⟨1, 0, .inl rfl, by rw [mem, upw_zero, mulP_one, scl_one]⟩
theorem mem_mem {d : Int} (h : rootD d = true) (p : Int × Int) (s k r j : Int) : mem d (mem d p s k) r j = mem d p (r * s) (k + j) := by
  unfold mem
  rw [scl_mul, scl_scl, mulP_assoc, upw_add h]
theorem Fam.trans {d : Int} (h : rootD d = true) {p q r : Int × Int} (a : Fam d p q) (b : Fam d q r) : Fam d p r := by
  obtain ⟨s, k, hs, rfl⟩ := a
  obtain ⟨s', k', hs', rfl⟩ := b
  exact ⟨_, _, hs'.mul hs, mem_mem h p s k s' k'⟩
theorem mem_back {d : Int} (h : rootD d = true) (p : Int × Int) {s : Int} (hs : isS s) (k : Int) : mem d (mem d p s k) s (-k) = p := by
  rw [mem_mem h, hs.sq, show k + -k = 0 by omega, mem, upw_zero, mulP_one, scl_one]
theorem Fam.symm {d : Int} (h : rootD d = true) {p q : Int × Int} (a : Fam d p q) : Fam d q p := by
  obtain ⟨s, k, hs, rfl⟩ := a
  exact ⟨s, -k, hs, (mem_back h p hs k).symm⟩
theorem nrm_mem {d : Int} (h : rootD d = true) (p : Int × Int) {s : Int} (hs : isS s) (k : Int) : nrm d (mem d p s k) = nrm d p := by
  unfold mem
  rw [nrm_scl, hs.sq, nrm_mul, nrm_upw h]
  grind
theorem Fam.nrm {d : Int} (h : rootD d = true) {p q : Int × Int} (a : Fam d p q) : nrm d q = nrm d p := by
  obtain ⟨s, k, hs, rfl⟩ := a
  exact nrm_mem h p hs k
theorem fam_unit {d : Int} (h : rootD d = true) {p u : Int × Int} (hu : nrm d u = 1) : Fam d p (mulP d p u) := by
  obtain ⟨s, k, hs, rfl⟩ := unit_all h hu
  exact ⟨s, k, hs, by rw [mul_scl]; rfl⟩
/-- the law's own test: the quotient is a unit -/
def famB (d n : Int) (p q : Int × Int) : Bool := decide ((p.1 * q.1 - d * p.2 * q.2) % n = 0) && decide ((p.2 * q.1 - p.1 * q.2) % n = 0)
theorem quot_eq (d : Int) (p q : Int × Int) : mulP d p (opp q) = (p.1 * q.1 - d * p.2 * q.2, p.2 * q.1 - p.1 * q.2) := by
  simp only [mulP, mulX, mulY, opp, Prod.mk.injEq]
  constructor <;> grind
theorem mulP_cancel {d : Int} {n : Int} (hn : n ≠ 0) {p q : Int × Int} (e : scl n p = scl n q) : p = q := by
  have e1 : n * p.1 = n * q.1 := congrArg Prod.fst e
  have e2 : n * p.2 = n * q.2 := congrArg Prod.snd e
  exact Prod.ext (Int.eq_of_mul_eq_mul_left hn e1) (Int.eq_of_mul_eq_mul_left hn e2)
theorem famB_iff {d n : Int} (h : rootD d = true) (hn : n ≠ 0) {p q : Int × Int} (hp : nrm d p = n) (hq : nrm d q = n) : famB d n p q = true ↔ Fam d q p := by
  unfold famB
  rw [Bool.and_eq_true, decide_eq_true_iff, decide_eq_true_iff]
  have hmul : mulP d q (mulP d p (opp q)) = scl n p := by
    rw [mulP_comm d p, ← mulP_assoc, mul_opp, hq]
    simp only [mulP, mulX, mulY, scl, Prod.mk.injEq]
    constructor <;> grind
  constructor
  · rintro ⟨h1, h2⟩
    obtain ⟨a, ha⟩ := Int.dvd_of_emod_eq_zero h1
    obtain ⟨b, hb⟩ := Int.dvd_of_emod_eq_zero h2
    have eu : mulP d p (opp q) = scl n (a, b) := by
      rw [quot_eq, ha, hb]
      rfl
    have hu : nrm d (a, b) = 1 := by
      have e := nrm_mul d p (opp q)
      rw [eu, nrm_opp, hp, hq, nrm_scl] at e
      have e2 : n * n * nrm d (a, b) = n * n * 1 := by rw [e]; grind
      exact Int.eq_of_mul_eq_mul_left (by intro z; rcases Int.mul_eq_zero.mp z with z | z <;> exact hn z) e2
    have e3 : mulP d q (a, b) = p := by
      rw [eu, mul_scl] at hmul
      exact mulP_cancel (d := d) hn hmul
    rw [← e3]
    exact fam_unit h hu
  · rintro ⟨s, k, hs, rfl⟩
    have e : mulP d (mem d q s k) (opp q) = scl n (scl s (upw d k)) := by
      unfold mem
      rw [scl_mul, mulP_comm d q, mulP_assoc, mul_opp, hq, scl_scl, Int.mul_comm n s, ← scl_scl]
      congr 1
      simp only [mulP, mulX, mulY, scl, Prod.mk.injEq]
      constructor <;> grind
    rw [quot_eq] at e
    have e1 := congrArg Prod.fst e
    have e2 := congrArg Prod.snd e
    simp only [scl] at e1 e2
    rw [e1, e2]
    exact ⟨Int.mul_emod_right _ _, Int.mul_emod_right _ _⟩
/-! ## along a family -/
def three (t : Int) (f : Nat → Int) : Prop := ∀ j, f (j + 2) = 2 * t * f (j + 1) - f j
theorem grow_step {t a b c : Int} (ht : 2 ≤ t) (e : c = 2 * t * b - a) (h : a.natAbs ≤ b.natAbs) (hb : b ≠ 0) : b.natAbs < c.natAbs := by
  rcases Int.lt_or_gt_of_ne hb with hb | hb
  · have : 2 * t * b ≤ 4 * b := by
      have := Int.mul_le_mul_of_nonneg_right (show 4 ≤ 2 * t by omega) (show 0 ≤ -b by omega)
      have e2 : 2 * t * -b = -(2 * t * b) := by grind
      have e3 : 4 * -b = -(4 * b) := by grind
      omega
    omega
  · have : 4 * b ≤ 2 * t * b := Int.mul_le_mul_of_nonneg_right (by omega) (by omega)
    omega
theorem grow {t : Int} (ht : 2 ≤ t) {f : Nat → Int} (hf : three t f) (h : (f 0).natAbs ≤ (f 1).natAbs) (h1 : f 1 ≠ 0) : ∀ j, (f (j + 1)).natAbs < (f (j + 2)).natAbs ∧ f (j + 1) ≠ 0
  | 0 => ⟨grow_step ht (hf 0) h h1, h1⟩
  | j + 1 => by
    obtain ⟨a, b⟩ := grow ht hf h h1 j
    have hb : f (j + 2) ≠ 0 := by omega
    exact ⟨grow_step ht (hf (j + 1)) (Nat.le_of_lt a) hb, hb⟩
theorem grow_all {t : Int} (ht : 2 ≤ t) {f : Nat → Int} (hf : three t f) (h : (f 0).natAbs ≤ (f 1).natAbs) (h1 : f 1 ≠ 0) : ∀ j, (f 1).natAbs < (f (j + 2)).natAbs
  | 0 => (grow ht hf h h1 0).1
  | j + 1 => Nat.lt_trans (grow_all ht hf h h1 j) (grow ht hf h h1 (j + 1)).1
/-- the second part of the k-th member -/
def yAt (d : Int) (p : Int × Int) (k : Int) : Int := (mulP d p (upw d k)).2
theorem yAt_three {d : Int} (h : rootD d = true) (p : Int × Int) (k : Int) : yAt d p (k + 1) + yAt d p (k - 1) = 2 * uT d * yAt d p k := by
  unfold yAt
  rw [upw_up h, upw_down h, ← mulP_assoc, ← mulP_assoc]
  generalize mulP d p (upw d k) = q
  simp only [mulP, mulX, mulY, opp, un]
  grind
theorem yAt_zero (d : Int) (p : Int × Int) : yAt d p 0 = p.2 := by
  unfold yAt
  rw [upw_zero, mulP_one]
/-- two neighbours are not both 0 -/
theorem yAt_ne {d : Int} (h : rootD d = true) {p : Int × Int} (hp : nrm d p ≠ 0) (hy : p.2 = 0) : yAt d p 1 ≠ 0 ∧ yAt d p (-1) ≠ 0 := by
  have hx : p.1 ≠ 0 := by
    intro e
    apply hp
    simp only [nrm, normI, e, hy]
    simp
  have hu := (u_ok h).u1
  unfold yAt
  rw [upw_one h, upw_m1 h]
  simp only [mulP, mulX, mulY, opp, un, hy]
  constructor
  · intro e
    have : p.1 * uU d = 0 := by grind
    rcases Int.mul_eq_zero.mp this with z | z
    · exact hx z
    · omega
  · intro e
    have : p.1 * uU d = 0 := by grind
    rcases Int.mul_eq_zero.mp this with z | z
    · exact hx z
    · omega
theorem far {d : Int} (h : rootD d = true) {p : Int × Int} (hp : nrm d p ≠ 0) (h1 : p.2.natAbs ≤ (yAt d p 1).natAbs) : ∀ j : Nat, (yAt d p 1).natAbs < (yAt d p ((j : Int) + 2)).natAbs := by
  have ht := (u_ok h).t2
  have hf : three (uT d) (fun j : Nat => yAt d p j) := fun j => by
    have := yAt_three h p ((j : Int) + 1)
    rw [show (j : Int) + 1 + 1 = ((j + 2 : Nat) : Int) by omega, show (j : Int) + 1 - 1 = (j : Int) by omega] at this
    show yAt d p ((j + 2 : Nat) : Int) = 2 * uT d * yAt d p ((j + 1 : Nat) : Int) - yAt d p (j : Int)
    rw [show ((j + 1 : Nat) : Int) = (j : Int) + 1 by omega]
    omega
  have e0 : (yAt d p ((0 : Nat) : Int)) = p.2 := yAt_zero d p
  have hne : yAt d p ((1 : Nat) : Int) ≠ 0 := by
    intro e
    have e' : yAt d p 1 = 0 := e
    have : p.2 = 0 := by omega
    exact (yAt_ne h hp this).1 e'
  intro j
  have := grow_all ht hf (by show (yAt d p ((0 : Nat) : Int)).natAbs ≤ (yAt d p 1).natAbs; rw [e0]; exact h1) hne j
  have e2 : ((j + 2 : Nat) : Int) = (j : Int) + 2 := by omega
  show (yAt d p ((1 : Nat) : Int)).natAbs < (yAt d p ((j : Int) + 2)).natAbs
  rw [← e2]
  exact this
theorem yAt_opp {d : Int} (p : Int × Int) (k : Int) : yAt d (opp p) k = -yAt d p (-k) := by
  unfold yAt
  rw [upw_neg']
  simp only [mulP, mulX, mulY, opp]
  grind
theorem far' {d : Int} (h : rootD d = true) {p : Int × Int} (hp : nrm d p ≠ 0) (h1 : p.2.natAbs ≤ (yAt d p (-1)).natAbs) : ∀ j : Nat, (yAt d p (-1)).natAbs < (yAt d p (-((j : Int) + 2))).natAbs := by
  intro j
  have e1 := yAt_opp (d := d) p 1
  have := far h (p := opp p) (by rw [nrm_opp]; exact hp) (by rw [e1]; show (-p.2).natAbs ≤ _; omega) j
  rw [yAt_opp, yAt_opp] at this
  omega
/-! ## heads -/
/-- p comes before q as a head -/
def bet (p q : Int × Int) : Prop := p.2 < q.2 ∨ (p.2 = q.2 ∧ q.1 < p.1)
instance (p q : Int × Int) : Decidable (bet p q) := inferInstanceAs (Decidable (_ ∨ _))
theorem bet_irr {p : Int × Int} : ¬ bet p p := by
  unfold bet
  omega
theorem bet_asymm {p q : Int × Int} (h : bet p q) : ¬ bet q p := by
  unfold bet at *
  omega
theorem bet_tri {p q : Int × Int} (h : ¬ bet p q) (g : ¬ bet q p) : p = q := by
  unfold bet at *
  exact Prod.ext (by omega) (by omega)
/-- p is the head of its family -/
structure Head (d : Int) (p : Int × Int) : Prop where
  nn : 0 ≤ p.2
  low : ∀ q, Fam d p q → 0 ≤ q.2 → q ≠ p → bet p q
theorem Head.uniq {d : Int} (h : rootD d = true) {p q : Int × Int} (hp : Head d p) (hq : Head d q) (f : Fam d p q) : p = q := by
  by_cases e : q = p
  · exact e.symm
  · exact absurd (hp.low q f hq.nn e) (bet_asymm (hq.low p (f.symm h) hp.nn fun z => e z.symm))
/-- the five others that matter -/
def near5 (d : Int) (p : Int × Int) : List (Int × Int) := [mulP d p (un d), mulP d p (opp (un d)), scl (-1) (mulP d p (un d)), scl (-1) (mulP d p (opp (un d))), scl (-1) p]
def headB (d : Int) (p : Int × Int) : Bool := decide (0 ≤ p.2) && (near5 d p).all fun q => !decide (0 ≤ q.2) || decide (q = p) || decide (bet p q)
theorem mem_zero {d : Int} (p : Int × Int) (s : Int) : mem d p s 0 = scl s p := by
  unfold mem
  rw [upw_zero, mulP_one]
theorem mem_y {d : Int} (p : Int × Int) {s : Int} (hs : isS s) (k : Int) : (mem d p s k).2.natAbs = (yAt d p k).natAbs := by
  unfold mem yAt scl
  rcases hs with rfl | rfl <;> simp
/-- what lies two steps off or farther -/
theorem far_mem {d : Int} (h : rootD d = true) {p : Int × Int} (hp : nrm d p ≠ 0) (h1 : p.2.natAbs ≤ (yAt d p 1).natAbs) (h2 : p.2.natAbs ≤ (yAt d p (-1)).natAbs) {s k : Int} (hs : isS s) (hk : k ≤ -2 ∨ 2 ≤ k) : p.2.natAbs < (mem d p s k).2.natAbs := by
  rw [mem_y p hs]
  rcases hk with hk | hk
  · have := far' h hp h2 (-k - 2).toNat
    rw [show -((((-k - 2).toNat : Nat) : Int) + 2) = k by omega] at this
    omega
  · have := far h hp h1 (k - 2).toNat
    rw [show (((k - 2).toNat : Nat) : Int) + 2 = k by omega] at this
    omega
theorem head_of_near {d : Int} (h : rootD d = true) {p : Int × Int} (hp : nrm d p ≠ 0) (h0 : 0 ≤ p.2) (hn : ∀ q ∈ near5 d p, 0 ≤ q.2 → q = p ∨ bet p q) : Head d p := by
  have m1 : ∀ {s : Int}, isS s → 0 ≤ (mem d p s 1).2 → mem d p s 1 = p ∨ bet p (mem d p s 1) := fun {s} hs hy => by
    unfold mem at hy ⊢
    rw [upw_one h] at hy ⊢
    rcases hs with rfl | rfl
    · rw [scl_one] at hy ⊢
      exact hn _ (by simp [near5]) hy
    · exact hn _ (by simp [near5]) hy
  have m2 : ∀ {s : Int}, isS s → 0 ≤ (mem d p s (-1)).2 → mem d p s (-1) = p ∨ bet p (mem d p s (-1)) := fun {s} hs hy => by
    unfold mem at hy ⊢
    rw [upw_m1 h] at hy ⊢
    rcases hs with rfl | rfl
    · rw [scl_one] at hy ⊢
      exact hn _ (by simp [near5]) hy
    · exact hn _ (by simp [near5]) hy
  have ab : ∀ {k : Int}, (∀ {s : Int}, isS s → 0 ≤ (mem d p s k).2 → mem d p s k = p ∨ bet p (mem d p s k)) → p.2.natAbs ≤ (yAt d p k).natAbs := fun {k} hm => by
    have f : ∀ {s : Int}, isS s → 0 ≤ (mem d p s k).2 → p.2.natAbs ≤ (yAt d p k).natAbs := fun {s} hs hy => by
      rw [← mem_y p hs]
      rcases hm hs hy with e | b
      · rw [e]; exact Nat.le_refl _
      · unfold bet at b
        omega
    by_cases z : 0 ≤ (mem d p 1 k).2
    · exact f (.inl rfl) z
    · refine f (s := -1) (.inr rfl) ?_
      unfold mem scl at z ⊢
      simp only at z ⊢
      omega
  have a1 := ab (k := 1) m1
  have a2 := ab (k := -1) m2
  refine ⟨h0, fun q f hq hne => ?_⟩
  obtain ⟨s, k, hs, rfl⟩ := f
  by_cases k0 : k = 0
  · subst k0
    rw [mem_zero] at hq hne ⊢
    rcases hs with rfl | rfl
    · rw [scl_one] at hne
      exact absurd rfl hne
    · exact (hn _ (by simp [near5]) hq).resolve_left hne
  · by_cases k1 : k = 1
    · subst k1
      exact (m1 hs hq).resolve_left hne
    · by_cases k2 : k = -1
      · subst k2
        exact (m2 hs hq).resolve_left hne
      · have := far_mem h hp a1 a2 hs (k := k) (by omega)
        unfold bet
        omega
theorem near5_fam {d : Int} (h : rootD d = true) {p q : Int × Int} (hq : q ∈ near5 d p) : Fam d p q := by
  simp only [near5, List.mem_cons, List.not_mem_nil, or_false] at hq
  rcases hq with rfl | rfl | rfl | rfl | rfl
  · exact ⟨1, 1, .inl rfl, by rw [mem, upw_one h, scl_one]⟩
  · exact ⟨1, -1, .inl rfl, by rw [mem, upw_m1 h, scl_one]⟩
  · exact ⟨-1, 1, .inr rfl, by rw [mem, upw_one h]⟩
  · exact ⟨-1, -1, .inr rfl, by rw [mem, upw_m1 h]⟩
  · exact ⟨-1, 0, .inr rfl, by rw [mem_zero]⟩
theorem headB_iff {d : Int} (h : rootD d = true) {p : Int × Int} (hp : nrm d p ≠ 0) : headB d p = true ↔ Head d p := by
  unfold headB
  rw [Bool.and_eq_true, decide_eq_true_iff, List.all_eq_true]
  constructor
  · rintro ⟨h0, hn⟩
    refine head_of_near h hp h0 fun q hq hy => ?_
    have := hn q hq
    simp only [Bool.or_eq_true, Bool.not_eq_true', decide_eq_false_iff_not, decide_eq_true_iff] at this
    rcases this with (z | z) | z
    · exact absurd hy z
    · exact .inl z
    · exact .inr z
  · intro H
    refine ⟨H.nn, fun q hq => ?_⟩
    simp only [Bool.or_eq_true, Bool.not_eq_true', decide_eq_false_iff_not, decide_eq_true_iff]
    by_cases hy : 0 ≤ q.2
    · by_cases e : q = p
      · exact .inl (.inr e)
      · exact .inr (H.low q (near5_fam h hq) hy e)
    · exact .inl (.inl hy)
/-! ### sizes of heads -/
theorem head_small {d : Int} (h : rootD d = true) {p : Int × Int} (hp : Head d p) (hn : nrm d p ≠ 0) : 2 * d * (p.2 * p.2) ≤ (nrm d p).natAbs * (uT d + 1) := by
  have hd := root_le h
  have hu := u_ok h
  have ht := hu.t2
  have hu1 := hu.u1
  have hnu := hu.nrm
  have y0 := hp.nn
  obtain ⟨x, y⟩ := p
  simp only at y0
  -- the neighbours are not smaller
  have nb : ∀ s k, isS s → 0 ≤ (mem d (x, y) s k).2 → y ≤ (mem d (x, y) s k).2 := fun s k hs hy => by
    by_cases e : mem d (x, y) s k = (x, y)
    · rw [e]; exact Int.le_refl _
    · have := hp.low _ ⟨s, k, hs, rfl⟩ hy e
      unfold bet at this
      simp only at this
      omega
  have nab : ∀ k, y ≤ (yAt d (x, y) k).natAbs := fun k => by
    by_cases z : 0 ≤ (mem d (x, y) 1 k).2
    · have := nb 1 k (.inl rfl) z
      have e := mem_y (d := d) (x, y) (.inl rfl : isS 1) k
      omega
    · have z2 : 0 ≤ (mem d (x, y) (-1) k).2 := by
        unfold mem scl at z ⊢
        simp only at z ⊢
        omega
      have := nb (-1) k (.inr rfl) z2
      have e := mem_y (d := d) (x, y) (.inr rfl : isS (-1)) k
      omega
  have e1 : yAt d (x, y) 1 = x * uU d + y * uT d := by
    unfold yAt
    rw [upw_one h]
    rfl
  have e2 : yAt d (x, y) (-1) = y * uT d - x * uU d := by
    unfold yAt
    rw [upw_m1 h]
    simp only [mulP, mulX, mulY, opp, un]
    grind
  have n1 := nab 1
  have n2 := nab (-1)
  rw [e1] at n1
  rw [e2] at n2
  have hN : nrm d (x, y) = x * x - d * y * y := rfl
  generalize nrm d (x, y) = n at *
  have t2 : uT d * uT d = 1 + d * uU d * uU d := by omega
  -- |x| u is at least (t+1) y or at most (t-1) y
  have yt : y ≤ y * uT d := by
    have := Int.mul_le_mul_of_nonneg_left (show 1 ≤ uT d by omega) y0
    omega
  have key : ((x * uU d).natAbs : Int) ≤ y * uT d - y ∨ y * uT d + y ≤ ((x * uU d).natAbs : Int) := by omega
  have hA : ((x * uU d).natAbs : Int) * ((x * uU d).natAbs : Int) = (x * uU d) * (x * uU d) := Int.natAbs_mul_self
  have xx : (x * uU d) * (x * uU d) = (n + d * y * y) * (uU d * uU d) := by
    rw [hN]
    grind
  have uu : 1 ≤ uU d * uU d := Int.mul_le_mul hu1 hu1 (by omega) (by omega)
  have duu : d * (uU d * uU d) = uT d * uT d - 1 := by
    have : d * (uU d * uU d) = d * uU d * uU d := by grind
    omega
  rcases key with k1 | k1
  · -- |x| u ≤ (t-1) y
    have s1 := Int.mul_le_mul k1 k1 (by omega) (by omega)
    rw [hA, xx] at s1
    have s2 : (y * uT d - y) * (y * uT d - y) = (y * y) * (uT d * uT d) - 2 * uT d * (y * y) + y * y := by grind
    have s3 : (n + d * y * y) * (uU d * uU d) = n * (uU d * uU d) + (y * y) * (d * (uU d * uU d)) := by grind
    rw [s2, s3, duu] at s1
    have s4 : (y * y) * (uT d * uT d - 1) = (y * y) * (uT d * uT d) - y * y := by grind
    -- n uu ≤ -2 (t-1) y²
    have s5 : n * (uU d * uU d) ≤ -(2 * (uT d - 1) * (y * y)) := by
      have : 2 * (uT d - 1) * (y * y) = 2 * uT d * (y * y) - 2 * (y * y) := by grind
      omega
    have yy := sqnn y
    have p1 : 0 ≤ 2 * (uT d - 1) * (y * y) := Int.mul_nonneg (by omega) yy
    have n0 : n ≤ 0 := by
      by_cases z : n ≤ 0
      · exact z
      · have := Int.mul_le_mul (show 1 ≤ n by omega) uu (by omega) (by omega)
        omega
    -- multiply by d: |n| (t²-1) ≥ 2 (t-1) d y²
    have s6 : 2 * (uT d - 1) * (d * (y * y)) ≤ -n * (uT d * uT d - 1) := by
      have := Int.mul_le_mul_of_nonneg_left s5 (show 0 ≤ d by omega)
      have a1 : d * (n * (uU d * uU d)) = n * (d * (uU d * uU d)) := by grind
      rw [a1, duu] at this
      have a2 : d * -(2 * (uT d - 1) * (y * y)) = -(2 * (uT d - 1) * (d * (y * y))) := by grind
      have a3 : -n * (uT d * uT d - 1) = -(n * (uT d * uT d - 1)) := by grind
      omega
    have s7 : (uT d - 1) * (2 * d * (y * y)) ≤ (uT d - 1) * (-n * (uT d + 1)) := by
      have a1 : (uT d - 1) * (2 * d * (y * y)) = 2 * (uT d - 1) * (d * (y * y)) := by grind
      have a2 : (uT d - 1) * (-n * (uT d + 1)) = -n * (uT d * uT d - 1) := by grind
      rw [a1, a2]
      exact s6
    have s8 := Int.le_of_mul_le_mul_left s7 (by omega)
    rw [show ((n.natAbs : Nat) : Int) = -n by omega]
    exact s8
  · -- (t+1) y ≤ |x| u
    have s1 := Int.mul_le_mul k1 k1 (by omega) (by omega)
    rw [hA, xx] at s1
    have s2 : (y * uT d + y) * (y * uT d + y) = (y * y) * (uT d * uT d) + 2 * uT d * (y * y) + y * y := by grind
    have s3 : (n + d * y * y) * (uU d * uU d) = n * (uU d * uU d) + (y * y) * (d * (uU d * uU d)) := by grind
    rw [s2, s3, duu] at s1
    have s4 : (y * y) * (uT d * uT d - 1) = (y * y) * (uT d * uT d) - y * y := by grind
    have s5 : 2 * (uT d + 1) * (y * y) ≤ n * (uU d * uU d) := by
      have : 2 * (uT d + 1) * (y * y) = 2 * uT d * (y * y) + 2 * (y * y) := by grind
      omega
    have yy := sqnn y
    have p1 : 0 ≤ 2 * (uT d + 1) * (y * y) := Int.mul_nonneg (by omega) yy
    have n0 : 0 ≤ n := by
      by_cases z : 0 ≤ n
      · exact z
      · have := Int.mul_le_mul_of_nonneg_right (show 1 ≤ -n by omega) (show 0 ≤ uU d * uU d by omega)
        have e : -n * (uU d * uU d) = -(n * (uU d * uU d)) := by grind
        omega
    have s6 : 2 * (uT d + 1) * (d * (y * y)) ≤ n * (uT d * uT d - 1) := by
      have := Int.mul_le_mul_of_nonneg_left s5 (show 0 ≤ d by omega)
      have a1 : d * (n * (uU d * uU d)) = n * (d * (uU d * uU d)) := by grind
      rw [a1, duu] at this
      have a2 : d * (2 * (uT d + 1) * (y * y)) = 2 * (uT d + 1) * (d * (y * y)) := by grind
      omega
    have s7 : (uT d + 1) * (2 * d * (y * y)) ≤ (uT d + 1) * (n * (uT d - 1)) := by
      have a1 : (uT d + 1) * (2 * d * (y * y)) = 2 * (uT d + 1) * (d * (y * y)) := by grind
      have a2 : (uT d + 1) * (n * (uT d - 1)) = n * (uT d * uT d - 1) := by grind
      rw [a1, a2]
      exact s6
    have s8 := Int.le_of_mul_le_mul_left s7 (by omega)
    rw [show ((n.natAbs : Nat) : Int) = n by omega]
    have s9 : n * (uT d - 1) ≤ n * (uT d + 1) := Int.mul_le_mul_of_nonneg_left (by omega) n0
    show 2 * d * (y * y) ≤ n * (uT d + 1)
    omega
/-! ### the head of a family, found from any of its members -/
/-- the six that are looked at -/
def six (d : Int) (p : Int × Int) : List (Int × Int) := [mem d p 1 (-1), mem d p (-1) (-1), mem d p 1 0, mem d p (-1) 0, mem d p 1 1, mem d p (-1) 1]
theorem mem_six {d : Int} {p : Int × Int} {s k : Int} (hs : isS s) (hk : k = -1 ∨ k = 0 ∨ k = 1) : mem d p s k ∈ six d p := by
  rcases hs with rfl | rfl <;> rcases hk with rfl | rfl | rfl <;> simp [six]
theorem six_mem {d : Int} {p q : Int × Int} (h : q ∈ six d p) : ∃ s k, isS s ∧ (k = -1 ∨ k = 0 ∨ k = 1) ∧ q = mem d p s k := by
  simp only [six, List.mem_cons, List.not_mem_nil, or_false] at h
  rcases h with rfl | rfl | rfl | rfl | rfl | rfl
  · exact ⟨_, _, .inl rfl, .inl rfl, rfl⟩
  · exact ⟨_, _, .inr rfl, .inl rfl, rfl⟩
  · exact ⟨_, _, .inl rfl, .inr (.inl rfl), rfl⟩
  · exact ⟨_, _, .inr rfl, .inr (.inl rfl), rfl⟩
  · exact ⟨_, _, .inl rfl, .inr (.inr rfl), rfl⟩
  · exact ⟨_, _, .inr rfl, .inr (.inr rfl), rfl⟩
theorem head_pick {d : Int} (h : rootD d = true) {p : Int × Int} (hp : nrm d p ≠ 0) (h1 : p.2.natAbs ≤ (yAt d p 1).natAbs) (h2 : p.2.natAbs ≤ (yAt d p (-1)).natAbs) {b : Int × Int} (hb : b ∈ six d p) (b0 : 0 ≤ b.2) (hm : ∀ c ∈ six d p, 0 ≤ c.2 → ¬ bet c b) : Head d b := by
  obtain ⟨s, k, hs, hk, rfl⟩ := six_mem hb
  refine ⟨b0, fun q f hq hne => ?_⟩
  have f2 : Fam d p q := Fam.trans h ⟨s, k, hs, rfl⟩ f
  obtain ⟨r, j, hr, rfl⟩ := f2
  by_cases hj : j = -1 ∨ j = 0 ∨ j = 1
  · have := hm _ (mem_six hr hj) hq
    by_cases z : bet (mem d p s k) (mem d p r j)
    · exact z
    · exact absurd (bet_tri this z) hne
  · have hf := far_mem h hp h1 h2 hr (k := j) (by omega)
    have hle : (mem d p s k).2 ≤ (p.2.natAbs : Int) := by
      by_cases z : 0 ≤ (mem d p 1 0).2
      · have := hm _ (mem_six (.inl rfl) (.inr (.inl rfl))) z
        rw [mem_zero, scl_one] at this
        rw [mem_zero, scl_one] at z
        unfold bet at this
        omega
      · have z2 : 0 ≤ (mem d p (-1) 0).2 := by
          rw [mem_zero] at z ⊢
          unfold scl at z ⊢
          simp only at z ⊢
          omega
        have := hm _ (mem_six (.inr rfl) (.inr (.inl rfl))) z2
        rw [mem_zero] at this z2
        unfold bet scl at this
        unfold scl at z2
        simp only at this z2
        omega
    unfold bet
    omega
theorem mul_cancel {d : Int} {h p q : Int × Int} (hh : nrm d h ≠ 0) (e : mulP d h p = mulP d h q) : p = q := by
  have e2 := congrArg (mulP d (opp h)) e
  rw [← mulP_assoc, ← mulP_assoc, mulP_comm d (opp h) h, mul_opp] at e2
  have e3 : scl (nrm d h) p = scl (nrm d h) q := by
    have f : ∀ r : Int × Int, mulP d (nrm d h, 0) r = scl (nrm d h) r := fun r => by
      simp only [mulP, mulX, mulY, scl, Prod.mk.injEq]
      constructor <;> grind
    rw [← f, ← f]
    exact e2
  exact mulP_cancel (d := d) hh e3
theorem upw_inj {d : Int} (h : rootD d = true) {j k : Int} (e : upw d j = upw d k) : j = k := by
  have e1 : upw d (j - k) = (1, 0) := by
    rw [show j - k = j + -k by omega, upw_add h, e, ← upw_add h, show k + -k = 0 by omega]
    rfl
  rcases Int.lt_trichotomy (j - k) 0 with z | z | z
  · have := upw_neg2 h z
    rw [e1] at this
    omega
  · omega
  · have := upw_pos2 h z
    rw [e1] at this
    omega
theorem mem_inj {d : Int} (h : rootD d = true) {p : Int × Int} (hp : nrm d p ≠ 0) {s k r j : Int} (hs : isS s) (hr : isS r) (e : mem d p s k = mem d p r j) : s = r ∧ k = j := by
  unfold mem at e
  rw [← mul_scl, ← mul_scl] at e
  have e2 := mul_cancel hp e
  have h1 := upw_pos1 h k
  have h2 := upw_pos1 h j
  have e3 : s * (upw d k).1 = r * (upw d j).1 := congrArg Prod.fst e2
  have hsr : s = r := by
    rcases hs with rfl | rfl <;> rcases hr with rfl | rfl <;> first | rfl | (exfalso; omega)
  subst hsr
  refine ⟨rfl, upw_inj h ?_⟩
  have e4 := congrArg (scl s) e2
  rw [scl_scl, scl_scl, hs.sq, scl_one, scl_one] at e4
  exact e4
/-! ## integer roots -/
theorem isqGo_ok (n : Nat) : ∀ (f lo hi : Nat), lo < hi → hi - lo ≤ 2 ^ f → lo * lo ≤ n → n < hi * hi → isqGo n f lo hi * isqGo n f lo hi ≤ n ∧ n < (isqGo n f lo hi + 1) * (isqGo n f lo hi + 1)
  | 0, lo, hi, h1, h2, h3, h4 => by
    have e : hi = lo + 1 := by
      rw [Nat.pow_zero] at h2
      omega
    subst e
    exact ⟨h3, h4⟩
  | f + 1, lo, hi, h1, h2, h3, h4 => by
    unfold isqGo
    rw [Nat.pow_succ] at h2
    by_cases h5 : hi = lo + 1
    · subst h5
      have e : (lo + (lo + 1)) / 2 = lo := by omega
      rw [e, if_pos h3]
      exact isqGo_ok n f lo (lo + 1) h1 (by have := Nat.one_le_two_pow (n := f); omega) h3 h4
    · split
      · rename_i hm
        exact isqGo_ok n f _ hi (by omega) (by omega) hm h4
      · rename_i hm
        exact isqGo_ok n f lo _ (by omega) (by omega) h3 (by omega)
/-- the root of a number below 2^80 -/
def rtN (n : Nat) : Nat := isqGo n 40 0 (2 ^ 40)
theorem rtN_ok {n : Nat} (h : n < 2 ^ 80) : IsRoot (n : Int) (rtN n : Int) := by
  have := isqGo_ok n 40 0 (2 ^ 40) (by decide) (by decide) (Nat.zero_le _) (by rw [← Nat.pow_add]; exact h)
  refine ⟨by omega, ?_, ?_⟩
  · exact_mod_cast this.1
  · exact_mod_cast this.2
/-! ## all heads -/
/-- the bound of the search -/
def bnd (d n : Int) : Nat := rtN ((n.natAbs : Int) * (uT d + 1) / (2 * d)).toNat
def norOk (n : Int) : Bool := decide (-200 ≤ n) && decide (n ≤ 200) && decide (n ≠ 0)
theorem norOk_iff {n : Int} : norOk n = true ↔ -200 ≤ n ∧ n ≤ 200 ∧ n ≠ 0 := by
  unfold norOk
  simp only [Bool.and_eq_true, decide_eq_true_eq, and_assoc]
theorem bnd_root {d n : Int} (h : rootD d = true) (hn : norOk n = true) : IsRoot ((n.natAbs : Int) * (uT d + 1) / (2 * d)) (bnd d n) := by
  have hd := root_le h
  have hu := u_ok h
  have h1 := hu.t2
  have h2 := hu.t3
  have h3 := norOk_iff.mp hn
  have a1 : 0 ≤ (n.natAbs : Int) * (uT d + 1) := Int.mul_nonneg (by omega) (by omega)
  have a2 : (n.natAbs : Int) * (uT d + 1) ≤ 200 * (uT d + 1) := Int.mul_le_mul_of_nonneg_right (by omega) (by omega)
  have a3 : 0 ≤ (n.natAbs : Int) * (uT d + 1) / (2 * d) := Int.ediv_nonneg a1 (by omega)
  have a4 : (n.natAbs : Int) * (uT d + 1) / (2 * d) ≤ (n.natAbs : Int) * (uT d + 1) := Int.ediv_le_self _ a1
  have a5 : (((n.natAbs : Int) * (uT d + 1) / (2 * d)).toNat : Int) = (n.natAbs : Int) * (uT d + 1) / (2 * d) := Int.toNat_of_nonneg a3
  unfold bnd
  have := rtN_ok (n := ((n.natAbs : Int) * (uT d + 1) / (2 * d)).toNat) (by
    have : (200 * (uT d + 1)) < 2 ^ 80 := by
      have : (2 : Int) ^ 80 = 1208925819614629174706176 := by decide
      omega
    have e : ((2 ^ 80 : Nat) : Int) = 2 ^ 80 := by decide
    omega)
  rw [a5] at this
  exact this
theorem bnd_le {d n : Int} (h : rootD d = true) (hn : norOk n = true) : bnd d n ≤ 4000 := by
  have hd := root_le h
  have hr := bnd_root h hn
  have hu := u_ok h
  have h1 := hu.t2
  have h2 := hu.t3
  have h3 := norOk_iff.mp hn
  have a2 : (n.natAbs : Int) * (uT d + 1) ≤ 200 * (uT d + 1) := Int.mul_le_mul_of_nonneg_right (by omega) (by omega)
  have a1 : 0 ≤ (n.natAbs : Int) * (uT d + 1) := Int.mul_nonneg (by omega) (by omega)
  have a4 : (n.natAbs : Int) * (uT d + 1) / (2 * d) ≤ (n.natAbs : Int) * (uT d + 1) := Int.ediv_le_self _ a1
  have h5 := hr.le
  by_cases z : bnd d n ≤ 4000
  · exact z
  · have := Int.mul_le_mul (show (4001 : Int) ≤ bnd d n by omega) (show (4001 : Int) ≤ bnd d n by omega) (by omega) (by omega)
    omega
theorem head_bnd {d n : Int} (h : rootD d = true) (hn : norOk n = true) {p : Int × Int} (hp : Head d p) (e : nrm d p = n) : p.2 ≤ bnd d n := by
  have hd := root_le h
  have h3 := norOk_iff.mp hn
  have hs := head_small h hp (by rw [e]; exact h3.2.2)
  rw [e] at hs
  have hr := bnd_root h hn
  have y0 := hp.nn
  have q : p.2 * p.2 ≤ (n.natAbs : Int) * (uT d + 1) / (2 * d) := by
    apply (Int.le_ediv_iff_mul_le (by omega)).mpr
    rw [Int.mul_comm]
    exact hs
  have l := hr.lt
  have := lt_of_sq (a := p.2) (b := (bnd d n : Int) + 1) (by omega) (by omega)
  omega
/-! ### lists in order -/
def ltL (p q : Int × Int) : Prop := p.1 < q.1 ∨ (p.1 = q.1 ∧ p.2 < q.2)
instance (p q : Int × Int) : Decidable (ltL p q) := inferInstanceAs (Decidable (_ ∨ _))
theorem ltL_irr {p : Int × Int} : ¬ ltL p p := by unfold ltL; omega
theorem ltL_trans {p q r : Int × Int} (a : ltL p q) (b : ltL q r) : ltL p r := by unfold ltL at *; omega
theorem ltL_tri {p q : Int × Int} (h : ¬ ltL p q) (g : ¬ ltL q p) : p = q := by
  unfold ltL at *
  exact Prod.ext (by omega) (by omega)
/-- two lists in order with the same members are one -/
theorem ord_uniq : ∀ {l m : List (Int × Int)}, l.Pairwise ltL → m.Pairwise ltL → (∀ p, p ∈ l ↔ p ∈ m) → l = m
  | [], [], _, _, _ => rfl
  | [], y :: m, _, _, h => absurd ((h y).mpr List.mem_cons_self) (by simp)
  | x :: l, [], _, _, h => absurd ((h x).mp List.mem_cons_self) (by simp)
  | x :: l, y :: m, hl, hm, h => by
    rw [List.pairwise_cons] at hl hm
    have e : x = y := by
      apply ltL_tri
      · intro z
        rcases List.mem_cons.mp ((h x).mp List.mem_cons_self) with e | e
        · rw [e] at z; exact ltL_irr z
        · exact ltL_irr (ltL_trans z (hm.1 x e))
      · intro z
        rcases List.mem_cons.mp ((h y).mpr List.mem_cons_self) with e | e
        · rw [e] at z; exact ltL_irr z
        · exact ltL_irr (ltL_trans z (hl.1 y e))
    subst e
    rw [ord_uniq hl.2 hm.2 fun p => ?_]
    constructor
    · intro hp
      rcases List.mem_cons.mp ((h p).mp (List.mem_cons_of_mem _ hp)) with e | e
      · rw [e] at hp; exact absurd (hl.1 _ hp) ltL_irr
      · exact e
    · intro hp
      rcases List.mem_cons.mp ((h p).mpr (List.mem_cons_of_mem _ hp)) with e | e
      · rw [e] at hp; exact absurd (hm.1 _ hp) ltL_irr
      · exact e
def ins (p : Int × Int) : List (Int × Int) → List (Int × Int)
  | [] => [p]
  | q :: l => if ltL p q then p :: q :: l else if p = q then q :: l else q :: ins p l
def isort : List (Int × Int) → List (Int × Int)
  | [] => []
  | p :: l => ins p (isort l)
theorem mem_ins {p q : Int × Int} : ∀ {l : List (Int × Int)}, q ∈ ins p l ↔ q = p ∨ q ∈ l
  | [] => by simp [ins]
  | r :: l => by
    unfold ins
    split
    · simp
    · split
      · rename_i e
        subst e
        simp
      · rw [List.mem_cons, mem_ins, List.mem_cons]
        constructor
        · rintro (h | h | h)
          · exact .inr (.inl h)
          · exact .inl h
          · exact .inr (.inr h)
        · rintro (h | h | h)
          · exact .inr (.inl h)
          · exact .inl h
          · exact .inr (.inr h)
theorem ins_ord {p : Int × Int} : ∀ {l : List (Int × Int)}, l.Pairwise ltL → (ins p l).Pairwise ltL
  | [], _ => List.pairwise_singleton _ _
  | r :: l, h => by
    rw [List.pairwise_cons] at h
    unfold ins
    split
    · rename_i z
      rw [List.pairwise_cons, List.pairwise_cons]
      refine ⟨fun q hq => ?_, h⟩
      rcases List.mem_cons.mp hq with rfl | hq
      · exact z
      · exact ltL_trans z (h.1 q hq)
    · rename_i z
      split
      · exact List.pairwise_cons.mpr h
      · rename_i e
        rw [List.pairwise_cons]
        refine ⟨fun q hq => ?_, ins_ord h.2⟩
        rcases mem_ins.mp hq with rfl | hq
        · by_cases w : ltL r q
          · exact w
          · exact absurd (ltL_tri z w) e
        · exact h.1 q hq
theorem mem_isort {q : Int × Int} : ∀ {l : List (Int × Int)}, q ∈ isort l ↔ q ∈ l
  | [] => Iff.rfl
  | p :: l => by
    rw [isort, mem_ins, mem_isort, List.mem_cons]
theorem isort_ord : ∀ (l : List (Int × Int)), (isort l).Pairwise ltL
  | [] => List.Pairwise.nil
  | p :: l => ins_ord (isort_ord l)
/-- the solutions with this y -/
def solY (d n : Int) (y : Nat) : List (Int × Int) := if 0 ≤ n + d * y * y ∧ ((rtN (n + d * y * y).toNat : Nat) : Int) * (rtN (n + d * y * y).toNat : Nat) = n + d * y * y then [((rtN (n + d * y * y).toNat : Nat), (y : Int)), (-((rtN (n + d * y * y).toNat : Nat) : Int), (y : Int))] else []
/-- all heads, in order -/
def hds (d n : Int) : List (Int × Int) := isort (((List.range (bnd d n + 1)).flatMap (solY d n)).filter (headB d))
theorem hds_ord (d n : Int) : (hds d n).Pairwise ltL := isort_ord _
theorem sq_eq {a b : Int} (ha : 0 ≤ a) (h : a * a = b * b) : b = a ∨ b = -a := by
  rcases Int.le_total 0 b with hb | hb
  · have h1 := sq_le_of ha (show b * b ≤ a * a by omega)
    have h2 := sq_le_of hb (show a * a ≤ b * b by omega)
    exact .inl (by omega)
  · have e : -b * -b = b * b := Int.neg_mul_neg b b
    have h1 := sq_le_of ha (show -b * -b ≤ a * a by omega)
    have h2 := sq_le_of (show 0 ≤ -b by omega) (show a * a ≤ -b * -b by omega)
    exact .inr (by omega)
theorem mem_solY {d n : Int} (h : rootD d = true) (hn : norOk n = true) {y : Nat} (hy : y ≤ 100000) {p : Int × Int} : p ∈ solY d n y ↔ nrm d p = n ∧ p.2 = y := by
  have hd := root_le h
  have h3 := norOk_iff.mp hn
  have hs : n + d * y * y < 2 ^ 80 := by
    have a : d * y * y ≤ 60 * 100000 * 100000 := by
      have a1 : d * y ≤ 60 * 100000 := Int.mul_le_mul (by omega) (by omega) (by omega) (by omega)
      exact Int.mul_le_mul a1 (by omega) (by omega) (by omega)
    have : (2 : Int) ^ 80 = 1208925819614629174706176 := by decide
    omega
  have hrt : 0 ≤ n + d * y * y → IsRoot (n + d * y * y) (rtN (n + d * y * y).toNat : Nat) := fun h0 => by
    have e : (((n + d * y * y).toNat : Nat) : Int) = n + d * y * y := Int.toNat_of_nonneg h0
    have := rtN_ok (n := (n + d * y * y).toNat) (by
      have e2 : ((2 ^ 80 : Nat) : Int) = 2 ^ 80 := by decide
      omega)
    rw [e] at this
    exact this
  unfold solY
  constructor
  · intro hp
    split at hp
    · rename_i hc
      simp only [List.mem_cons, List.not_mem_nil, or_false] at hp
      rcases hp with rfl | rfl
      · refine ⟨?_, rfl⟩
        simp only [nrm, normI]
        omega
      · refine ⟨?_, rfl⟩
        simp only [nrm, normI]
        rw [Int.neg_mul_neg]
        omega
    · exact absurd hp (by simp)
  · rintro ⟨h1, h2⟩
    obtain ⟨x, z⟩ := p
    simp only at h2
    subst h2
    have h1' : x * x - d * (y : Int) * (y : Int) = n := h1
    have h0 : 0 ≤ n + d * (y : Int) * (y : Int) := by
      have := sqnn x
      omega
    have hr := hrt h0
    -- the root of a square
    have ex : (rtN (n + d * (y : Int) * (y : Int)).toNat : Nat) = x.natAbs := by
      have hu : IsRoot (n + d * (y : Int) * (y : Int)) (x.natAbs : Nat) := by
        have e : ((x.natAbs : Nat) : Int) * (x.natAbs : Nat) = x * x := Int.natAbs_mul_self
        refine ⟨by omega, by omega, ?_⟩
        have e2 : ((x.natAbs : Int) + 1) * ((x.natAbs : Int) + 1) = (x.natAbs : Int) * x.natAbs + 2 * x.natAbs + 1 := by grind
        omega
      have := hr.uniq hu
      omega
    have e : ((x.natAbs : Nat) : Int) * (x.natAbs : Nat) = x * x := Int.natAbs_mul_self
    rw [ex, if_pos ⟨h0, by omega⟩]
    simp only [List.mem_cons, List.not_mem_nil, or_false, Prod.mk.injEq, and_true]
    omega
theorem mem_hds {d n : Int} (h : rootD d = true) (hn : norOk n = true) {p : Int × Int} : p ∈ hds d n ↔ Head d p ∧ nrm d p = n := by
  have h3 := norOk_iff.mp hn
  unfold hds
  rw [mem_isort, List.mem_filter, List.mem_flatMap]
  constructor
  · rintro ⟨⟨y, hy, hp⟩, hb⟩
    have hy := List.mem_range.mp hy
    have := bnd_le h hn
    have hm := (mem_solY h hn (by omega)).mp hp
    exact ⟨(headB_iff h (by rw [hm.1]; exact h3.2.2)).mp hb, hm.1⟩
  · rintro ⟨hh, hm⟩
    have hb := head_bnd h hn hh hm
    have := bnd_le h hn
    have h0 := hh.nn
    refine ⟨⟨p.2.toNat, List.mem_range.mpr (by omega), (mem_solY h hn (by omega)).mpr ⟨hm, by omega⟩⟩, (headB_iff h (by rw [hm]; exact h3.2.2)).mpr hh⟩
end ND
namespace ND
open PySem PySem.Spec PyProof.Rows L2
/-! ## sorted: pairs of ints -/
/-- the pair at a value -/
def pkV (H : Hp) : V → Int × Int
  | .ref t => match H t with
    | some (.tup [.int a, .int b]) => (a, b)
    | _ => (0, 0)
  | _ => (0, 0)
theorem pkV_at {H : Hp} {t : Addr} {a b : Int} (h : H t = some (.tup [.int a, .int b])) : pkV H (.ref t) = (a, b) := by
  show (match H t with | some (.tup [.int a, .int b]) => (a, b) | _ => (0, 0)) = (a, b)
  rw [h]
/-- what stands for pairs -/
theorem rp_pairs {K : PySem.W.Frag} {H : Hp} : ∀ {ps : List (Int × Int)} {ws : List V}, RpAll K H ws (ps.map prP) → (∀ w ∈ ws, ∃ t, w = V.ref t ∧ H t = some (.tup [.int (pkV H w).1, .int (pkV H w).2])) ∧ ws.map (pkV H) = ps
  | [], ws, h => by cases h; exact ⟨fun w hw => absurd hw (by simp), rfl⟩
  | p :: ps, ws, h => by
    cases h with
    | cons a r =>
      obtain ⟨i1, i2⟩ := rp_pairs r
      cases a with
      | tup s ra =>
        cases ra with
        | cons a1 ra => cases ra with
          | cons a2 ra =>
            cases ra
            cases a1
            cases a2
            have e := pkV_at s
            refine ⟨fun w hw => ?_, ?_⟩
            · rcases List.mem_cons.mp hw with rfl | hw
              · exact ⟨_, rfl, by rw [e]; exact s⟩
              · exact i1 w hw
            · rw [List.map_cons, i2, e]
theorem rp_of_pairs {K : PySem.W.Frag} {H : Hp} : ∀ {ws : List V}, (∀ w ∈ ws, ∃ t, w = V.ref t ∧ H t = some (.tup [.int (pkV H w).1, .int (pkV H w).2])) → RpAll K H ws ((ws.map (pkV H)).map prP)
  | [], _ => .nil
  | w :: ws, h => by
    obtain ⟨t, e, ht⟩ := h w List.mem_cons_self
    refine .cons ?_ (rp_of_pairs fun y hy => h y (List.mem_cons_of_mem _ hy))
    rw [e] at ht ⊢
    exact .tup ht (.cons (.int _) (.cons (.int _) .nil))
theorem lexB_ltL (p q : Int × Int) : SrtO.lexB p q = decide (ltL p q) := by
  apply Bool.eq_iff_iff.mpr
  rw [SrtO.lexB_iff, decide_eq_true_iff]
  rfl
theorem srtd_pairs {H : Hp} {ys : List V} (h : SrtO.Srtd (ltP (pkV H)) ys) : (ys.map (pkV H)).Pairwise (fun p q => ¬ ltL q p) := by
  refine List.pairwise_map.mpr (List.Pairwise.imp (fun {a b} hab => ?_) h)
  have : SrtO.lexB (pkV H b) (pkV H a) = false := hab
  rw [lexB_ltL, decide_eq_false_iff_not] at this
  exact this
/-- the pairs of a list -/
def prsOf : List PyData → Option (List (Int × Int))
  | [] => some []
  | .tuple [.int a, .int b] :: xs => (prsOf xs).map ((a, b) :: ·)
  | _ :: _ => none
theorem prsOf_map : ∀ {xs : List PyData} {ps : List (Int × Int)}, prsOf xs = some ps → xs = ps.map prP
  | [], ps, h => by cases h; rfl
  | x :: xs, ps, h => by
    unfold prsOf at h
    split at h
    · rename_i h1; cases h1
    · rename_i h1
      cases h1
      cases z : prsOf xs with
      | none => rw [z] at h; cases h
      | some qs => rw [z] at h; cases h; rw [prsOf_map z]; rfl
    · cases h
theorem prsOf_prs : ∀ ps : List (Int × Int), prsOf (ps.map prP) = some ps
  | [] => rfl
  | p :: ps => by
    show (prsOf (ps.map prP)).map ((p.1, p.2) :: ·) = _
    rw [prsOf_prs ps]
    rfl
def rSortE : List En → (En → Prop) → Prop
  | [x], k => match lsOf x with
    | some xs => (∃ ps, xs = ps.map prP ∧ ∀ qs : List (Int × Int), qs.Perm ps → qs.Pairwise (fun p q => ¬ ltL q p) → k (.own (qs.map prP))) ∨ (∃ ns, xs = ns.map PyData.int ∧ ∀ ms : List Int, ms.Perm ns → ms.Pairwise (· ≤ ·) → k (.own (ms.map PyData.int)))
    | none => False
  | _, _ => False
section
variable {X : Cx}
theorem cd_sorted (hc : X.calm = true) : CallR X (.builtin "sorted") (RC X.K rSortE) := by
  refine CallR.le (CallR.or cr_sortedPO cr_sortedI) fun vs H Q h => ?_
  obtain ⟨T, n, c, es, k, t, r, h, q⟩ := h
  unfold rSortE at h
  split at h
  · cases r with
    | cons r1 _ rs =>
      cases rs
      split at h
      · rename_i xs e1
        obtain ⟨a, ws, rfl, n1, s1, r2⟩ := lsOf_rv r1 e1
        rcases h with ⟨ps, rfl, h⟩ | ⟨ns, rfl, h⟩
        · obtain ⟨i1, i2⟩ := rp_pairs r2
          refine .inl ⟨a, ws, pkV H, rfl, .inl (.inl s1), i1, fun ys p hs hb hp => ?_⟩
          have hy : ∀ w ∈ ys, ∃ t, w = V.ref t ∧ H t = some (.tup [.int (pkV H w).1, .int (pkV H w).2]) := fun w hw => i1 w (hb.perm.mem_iff.mp hw)
          refine q _ (h (ys.map (pkV H)) ?_ (srtd_pairs hs)) _ _ (same_upd hp) (rf_own hp (rp_of_pairs hy) t)
          rw [← i2]
          exact hb.perm.map _
        · have e := r2.ints
          subst e
          exact .inr ⟨a, ns, rfl, .inl (.inl s1), fun ms p hm hs hp => q _ (h ms hm hs) _ _ (same_upd hp) (rf_own hp (rpAll_ints ms) t)⟩
      · exact h.elim
  · exact h.elim
/-- a dict's key -/
def key2 (p : Int × Int) : List Key := [.inl p.1, .inl p.2]
end
/-! ### sorted of whatever can be collected -/
section
variable {P : Program} {w : World} {A : Around} {E : Value → Shared → Prop} {s : Shared} {x : Value} {lt : Value → Value → Bool}
/-- vs, collected up to the state s1, can be put in order, and R holds of any new list that holds them in order -/
structure Sorts (P : Program) (w : World) (A : Around) (lt : Value → Value → Bool) (R : Value → Shared → Prop) (vs : List Value) (s1 : Shared) : Prop where
  fit : vs.length ≤ sizeLine
  cmp : ∀ (h : Heap) (a : Addr), 2 ≤ vs.length → h.get? a = some (seqObj "list" vs.toArray 0) → (∀ b o, s1.heap.get? b = some o → b ≠ a ∧ h.get? b = some o) → SrtO.SortableO P w A.in1.in1 { s1 with heap := h } a vs lt
  fin : ∀ (out : List Value) (h : Heap) (c : Nat), SrtO.Srtd lt out → SrtO.Stb lt out vs → (∀ b o, s1.heap.get? b = some o → h.get? b = some o) → h.get? s1.heap.objs.size = some (seqObj "list" out.toArray c) → R (.ref s1.heap.objs.size) { s1 with heap := h }
theorem sorted_from {R : Value → Shared → Prop} (O : SrtO.Swo lt) (hx : wpAny (model P w) A.in1 (collect x) (Sorts P w A lt R) E s) : wpAny (model P w) A (call (.builtin "sorted") [x]) R E s := by
  apply Calls.call_function_entry (hk := kind_sorted) (hp := plain_sorted) (hb := entry_sorted) (ha := args_sorted1 _)
  apply wpAny_bind (m := checkCount "sorted" 1 1 1)
  apply wpAny_pure
  apply wpAny_bind (m := collect x)
  apply wpAny_mono hx
  · intro vs s1 S
    apply wpAny_bind (m := newList vs)
    apply wpAny_newList _ S.fit
    have here : (s1.heap.push (seqObj "list" vs.toArray 0)).get? s1.heap.objs.size = some (seqObj "list" vs.toArray 0) := Heap.get?_push_size _ rfl
    have old : ∀ b o, s1.heap.get? b = some o → b ≠ s1.heap.objs.size ∧ (s1.heap.push (seqObj "list" vs.toArray 0)).get? b = some o := fun b o e => ⟨Nat.ne_of_lt (Heap.lt_size e), Heap.get?_push_of_some _ e⟩
    apply wpAny_bind
    apply wpAny_holding
    have isL : Shared.TypeIs { s1 with heap := s1.heap.push (seqObj "list" vs.toArray 0) } (.ref s1.heap.objs.size) "list" := ⟨_, here, rfl⟩
    apply wpAny_call_entry slot_list_sort isL entry_list_sort _ (args_list_sort _)
    apply SrtO.list_sort_ord (s := { s1 with heap := s1.heap.push (seqObj "list" vs.toArray 0) }) O here S.fit (fun two => S.cmp _ _ two here old)
    intro out h1 h2
    obtain ⟨c, hc⟩ := sortedHeap_at (out := out.toArray) here
    refine ⟨_, rfl, wpAny_pure ⟨_, rfl, S.fin out _ c h1 h2 (fun b o e => ?_) hc⟩⟩
    have lt1 : b < (s1.heap.push (seqObj "list" vs.toArray 0)).objs.size := Heap.lt_size (old b o e).2
    exact (sortedHeap_old (old b o e).1 lt1).trans (old b o e).2
  · exact fun _ _ e => e
theorem items_map {α : Type} {p : Nat → Value → Prop} {acc : Array Value} {ks : List α} {f : α → Value} {n : Nat} (it : ItemsOf p acc n) (hn : n = ks.length) (h : ∀ j v k, p j v → ks[j]? = some k → v = f k) : acc.toList = ks.map f := by
  subst hn
  apply List.ext_getElem
  · simp [it.1]
  · intro j h1 h2
    have h3 : j < ks.length := by simpa using h2
    have h4 : j < acc.size := by simpa using h1
    rw [List.getElem_map]
    exact h j _ _ (it.2 j _ (by simp [h4])) (List.getElem?_eq_getElem h3)
end
section
variable {X : Cx}
/-- the pairs that are a dict's keys, where they lie -/
theorem keys_pairs {H : Hp} {kvs : List (List Key × V)} {ks : List (List Key × Addr × Value)} {ps : List (Int × Int)} (hp : Paired (fun (p : List Key × V) (q : List Key × Addr × Value) => p.1 = q.1 ∧ H q.2.1 = some (.tup (p.1.map kV)) ∧ RelV p.2 q.2.2) kvs ks) (e : kvs.map (·.1) = ps.map key2) :
    (∀ y ∈ ks, H y.2.1 = some (.tup [.int (pkV H (.ref y.2.1)).1, .int (pkV H (.ref y.2.1)).2])) ∧ ks.map (fun y => pkV H (.ref y.2.1)) = ps := by
  induction hp generalizing ps with
  | nil =>
    have : ps = [] := by simpa using e.symm
    subst this
    exact ⟨fun y hy => absurd hy (by simp), rfl⟩
  | cons a r ih =>
    cases ps with
    | nil => cases e
    | cons p ps =>
      have e1 := congrArg (List.map kV) (List.cons.inj e).1
      obtain ⟨j1, j2⟩ := ih (List.cons.inj e).2
      have a2 := a.2.1.trans (congrArg (fun l => some (HO.tup l)) e1)
      have e3 := pkV_at (a := p.1) (b := p.2) a2
      constructor
      · intro y hy
        rcases List.mem_cons.mp hy with rfl | hy
        · rw [e3]; exact a2
        · exact j1 y hy
      · rw [List.map_cons, j2, e3]
theorem cr_sortedDT (hc : X.calm = true) : CallR X (.builtin "sorted") (fun vs H Q => ∃ (a : Addr) (kvs : List (List Key × V)) (ps : List (Int × Int)), vs = [V.ref a] ∧ H a = some (.dT kvs) ∧ kvs.map (·.1) = ps.map key2 ∧
    ∀ (ws : List V) (qs : List (Int × Int)) (p : Addr), RpAll X.K H ws (qs.map prP) → qs.Perm ps → qs.Pairwise (fun p q => ¬ ltL q p) → H p = none → Q (.ref p) (upd H p (.lst ws))) := by
  rintro pins s σ H _ us Q I r ⟨d, kvs, ps, rfl, hd, hkp, q⟩
  cases Vals.ref1 r
  obtain ⟨z, lo, ks, pr, o, es, ep, ho, ex, dt, he, hn⟩ := (show ObjOk X.prog X.w H s.heap d (.dT kvs) from I.hok _ _ hd)
  obtain ⟨g1, g2⟩ := keys_pairs pr hkp
  have n1 : es.size = ks.length := size_of_entries he
  have n2 : ks.length ≤ sizeLine := by rw [← Paired.length pr]; omega
  apply sorted_from (SrtO.swo_lex fun v => pkV H (backV v))
  apply PySem.W.kdu_collect (A := X.A.in1) (kdl_raw lo ex dt) (I.ok.hd hc) ho (by omega)
  intro h1 tk acc kp it
  have J : Inv X pins σ H { s with heap := h1, toks := tk } := I.kept kp
  have ea : acc.toList = ks.map fun y => Value.ref y.2.1 := items_map it n1 fun j v k ⟨en, e1, e2⟩ e3 => by
    have e4 := entry_at he j
    rw [e1, e3] at e4
    cases e4
    exact e2
  have keys : ∀ v ∈ acc.toList, ∃ t, v = Value.ref t ∧ H t = some (.tup [.int (pkV H (.ref t)).1, .int (pkV H (.ref t)).2]) := by
    intro v hv
    rw [ea, List.mem_map] at hv
    obtain ⟨y, hy, rfl⟩ := hv
    exact ⟨_, rfl, g1 y hy⟩
  constructor
  · rw [ea, List.length_map]; exact n2
  · intro h2 a two here old
    apply SrtO.pairs_sortableO (Nat.lt_of_lt_of_le Nat.zero_lt_two two)
    · intro v hv
      obtain ⟨t, rfl, ht⟩ := keys v hv
      obtain ⟨_, _, r2, ot, ot1, ot2, m, ot3⟩ := J.hok _ _ ht
      obtain ⟨_, _, rfl, ⟨t1, rfl⟩, ⟨t2, rfl⟩⟩ := vals2 r2
      exact ⟨t, ot, t1, t2, m, rfl, (old _ _ ot1).2, ot2, ot3⟩
    · intro oa ea2 ty
      have : oa = seqObj "list" acc.toList.toArray 0 := Option.some.inj (ea2.symm.trans here)
      subst this
      exact absurd ty (by simp [seqObj])
  · intro out h2 c so st kp2 at2
    have keysO : ∀ u ∈ out, ∃ t, u = Value.ref t ∧ H t = some (.tup [.int (pkV H (.ref t)).1, .int (pkV H (.ref t)).2]) := fun u hu => keys u (st.perm.mem_iff.mp hu)
    have refs : Vals (out.map backV) out := vals_back fun u hu => (keysO u hu).imp fun _ z => z.1
    have prs : ∀ v ∈ out.map backV, ∃ t, v = V.ref t ∧ H t = some (.tup [.int (pkV H v).1, .int (pkV H v).2]) := by
      intro v hv
      obtain ⟨u, hu, rfl⟩ := List.mem_map.mp hv
      obtain ⟨t, rfl, ht⟩ := keysO u hu
      exact ⟨t, rfl, ht⟩
    have perm : ((out.map backV).map (pkV H)).Perm ps := by
      have := (st.perm.map backV).map (pkV H)
      rw [ea, List.map_map (l := ks), List.map_map (l := ks)] at this
      exact g2 ▸ this
    have size : (out.map backV).length ≤ sizeLine := by
      rw [List.length_map, st.perm.length_eq, ea, List.length_map]
      exact n2
    exact ⟨.ref h1.objs.size, upd H h1.objs.size (.lst (out.map backV)), J.laid (t' := tk) kp2 (Nat.le_refl _) (show ObjOk X.prog X.w _ _ _ (.lst (out.map backV)) from ⟨size, out, c, refs, at2⟩), rfl,
      q _ _ _ (rp_of_pairs prs) perm (srtd_pairs (SrtO.srtd_map so)) (J.hok.fresh (Nat.le_refl _))⟩
end
end ND
namespace ND
open PySem PySem.Spec L2
/-! ## every solution has a head -/
theorem best_ex : ∀ (l : List (Int × Int)), (∃ c ∈ l, 0 ≤ c.2) → ∃ b ∈ l, 0 ≤ b.2 ∧ ∀ c ∈ l, 0 ≤ c.2 → ¬ bet c b
  | [], h => by obtain ⟨c, hc, _⟩ := h; exact absurd hc (by simp)
  | p :: l, h => by
    by_cases hl : ∃ c ∈ l, 0 ≤ c.2
    · obtain ⟨b, b1, b2, b3⟩ := best_ex l hl
      by_cases hp : 0 ≤ p.2 ∧ bet p b
      · refine ⟨p, List.mem_cons_self, hp.1, fun c hc hy z => ?_⟩
        rcases List.mem_cons.mp hc with rfl | hc
        · exact bet_irr z
        · refine b3 c hc hy ?_
          have := hp.2
          unfold bet at *
          omega
      · refine ⟨b, List.mem_cons_of_mem _ b1, b2, fun c hc hy z => ?_⟩
        rcases List.mem_cons.mp hc with rfl | hc
        · exact hp ⟨hy, z⟩
        · exact b3 c hc hy z
    · obtain ⟨c, hc, hy⟩ := h
      rcases List.mem_cons.mp hc with rfl | hc
      · refine ⟨c, List.mem_cons_self, hy, fun e he hy' z => ?_⟩
        rcases List.mem_cons.mp he with rfl | he
        · exact bet_irr z
        · exact hl ⟨e, he, hy'⟩
      · exact absurd ⟨c, hc, hy⟩ hl
theorem head_exN {d : Int} (h : rootD d = true) : ∀ (m : Nat) (p : Int × Int), p.2.natAbs ≤ m → nrm d p ≠ 0 → ∃ q, Head d q ∧ Fam d q p
  | m, p, hm, hp => by
    by_cases h1 : p.2.natAbs ≤ (yAt d p 1).natAbs
    · by_cases h2 : p.2.natAbs ≤ (yAt d p (-1)).natAbs
      · obtain ⟨b, b1, b2, b3⟩ := best_ex (six d p) (by
          by_cases z : 0 ≤ p.2
          · exact ⟨_, mem_six (.inl rfl) (.inr (.inl rfl)), by rw [mem_zero, scl_one]; exact z⟩
          · refine ⟨_, mem_six (.inr rfl) (.inr (.inl rfl)), ?_⟩
            rw [mem_zero]
            unfold scl
            simp only
            omega)
        obtain ⟨s, k, hs, hk, rfl⟩ := six_mem b1
        exact ⟨_, head_pick h hp h1 h2 b1 b2 b3, Fam.symm h ⟨s, k, hs, rfl⟩⟩
      · obtain ⟨m', rfl⟩ : ∃ m', m = m' + 1 := ⟨m - 1, by omega⟩
        have hl : (mem d p 1 (-1)).2.natAbs ≤ m' := by rw [mem_y p (.inl rfl)]; omega
        obtain ⟨q, hq, f⟩ := head_exN h m' (mem d p 1 (-1)) hl (by rw [nrm_mem h p (.inl rfl)]; exact hp)
        exact ⟨q, hq, f.trans h (Fam.symm h ⟨1, -1, .inl rfl, rfl⟩)⟩
    · obtain ⟨m', rfl⟩ : ∃ m', m = m' + 1 := ⟨m - 1, by omega⟩
      have hl : (mem d p 1 1).2.natAbs ≤ m' := by rw [mem_y p (.inl rfl)]; omega
      obtain ⟨q, hq, f⟩ := head_exN h m' (mem d p 1 1) hl (by rw [nrm_mem h p (.inl rfl)]; exact hp)
      exact ⟨q, hq, f.trans h (Fam.symm h ⟨1, 1, .inl rfl, rfl⟩)⟩
theorem head_ex {d : Int} (h : rootD d = true) {p : Int × Int} (hp : nrm d p ≠ 0) : ∃ q, Head d q ∧ Fam d q p := head_exN h _ p (Nat.le_refl _) hp
/-! ## the list of all heads -/
theorem len_ins (p : Int × Int) : ∀ l : List (Int × Int), (ins p l).length ≤ l.length + 1
  | [] => by simp [ins]
  | q :: l => by
    unfold ins
    split
    · simp
    · split
      · simp
      · have := len_ins p l
        simp only [List.length_cons]
        omega
theorem len_isort : ∀ l : List (Int × Int), (isort l).length ≤ l.length
  | [] => Nat.le_refl _
  | p :: l => by
    have h1 := len_ins p (isort l)
    have h2 := len_isort l
    simp only [isort, List.length_cons]
    omega
theorem len_solY (d n : Int) (y : Nat) : (solY d n y).length ≤ 2 := by
  unfold solY
  split <;> simp
theorem len_flat {f : Nat → List (Int × Int)} (hf : ∀ y, (f y).length ≤ 2) : ∀ l : List Nat, (l.flatMap f).length ≤ 2 * l.length
  | [] => by simp
  | y :: l => by
    have h1 := hf y
    have h2 := len_flat hf l
    simp only [List.flatMap_cons, List.length_append, List.length_cons]
    omega
theorem hds_len {d n : Int} (h : rootD d = true) (hn : norOk n = true) : (hds d n).length ≤ 10000 := by
  have hb := bnd_le h hn
  have h1 := len_flat (len_solY d n) (List.range (bnd d n + 1))
  rw [List.length_range] at h1
  have h2 := List.length_filter_le (headB d) ((List.range (bnd d n + 1)).flatMap (solY d n))
  have h3 := len_isort (((List.range (bnd d n + 1)).flatMap (solY d n)).filter (headB d))
  unfold hds
  omega
theorem hds_nodup (d n : Int) : (hds d n).Nodup := by
  refine List.Pairwise.imp (fun {a b} z e => ?_) (hds_ord d n)
  subst e
  exact ltL_irr z
theorem filter_one : ∀ {l : List (Int × Int)} {f : Int × Int → Bool} {h : Int × Int}, l.Nodup → h ∈ l → f h = true → (∀ q ∈ l, f q = true → q = h) → l.filter f = [h]
  | [], f, h, _, hm, _, _ => absurd hm (by simp)
  | p :: l, f, h, nd, hm, hf, hu => by
    rw [List.nodup_cons] at nd
    by_cases e : p = h
    · subst e
      rw [List.filter_cons_of_pos hf, List.filter_eq_nil_iff.mpr fun q hq hfq => ?_]
      have := hu q (List.mem_cons_of_mem _ hq) hfq
      rw [this] at hq
      exact nd.1 hq
    · have hp : ¬ f p = true := fun z => e (hu p List.mem_cons_self z)
      rw [List.filter_cons_of_neg hp]
      exact filter_one nd.2 ((List.mem_cons.mp hm).resolve_left fun z => e z.symm) hf fun q hq => hu q (List.mem_cons_of_mem _ hq)
/-- just one head for each solution -/
theorem one_head {d n : Int} (h : rootD d = true) (hn : norOk n = true) {p : Int × Int} (hp : nrm d p = n) : ∃ q, Head d q ∧ nrm d q = n ∧ Fam d q p ∧ (hds d n).filter (fun o => famB d n o p) = [q] := by
  have h3 := (norOk_iff.mp hn).2.2
  obtain ⟨q, hq, f⟩ := head_ex h (p := p) (by rw [hp]; exact h3)
  have hqn : nrm d q = n := by rw [← f.nrm h]; exact hp
  refine ⟨q, hq, hqn, f, filter_one (hds_nodup d n) ((mem_hds h hn).mpr ⟨hq, hqn⟩) ((famB_iff h h3 hqn hp).mpr (f.symm h)) fun o ho hf => ?_⟩
  obtain ⟨ho1, ho2⟩ := (mem_hds h hn).mp ho
  have fo := (famB_iff h h3 ho2 hp).mp hf
  exact ho1.uniq h hq ((fo.symm h).trans h (f.symm h))
/-! ## the law's own search -/
def srch (d n : Int) (m : Nat) : List (Int × Int) := (List.range m).flatMap fun y => (solY d n y).take 1
def allS (d n : Int) (m : Nat) : List (Int × Int) := (List.range m).flatMap (solY d n)
theorem srch_succ (d n : Int) (m : Nat) : srch d n (m + 1) = srch d n m ++ (solY d n m).take 1 := by
  unfold srch
  rw [List.range_succ, List.flatMap_append]
  simp
theorem allS_succ (d n : Int) (m : Nat) : allS d n (m + 1) = allS d n m ++ solY d n m := by
  unfold allS
  rw [List.range_succ, List.flatMap_append]
  simp
/-- both signs -/
def both (p : Int × Int) : List (Int × Int) := [p, (-p.1, p.2)]
theorem both_solY (d n : Int) (y : Nat) : ((solY d n y).take 1).flatMap both = solY d n y := by
  unfold solY
  split <;> simp [both]
theorem srch_both (d n : Int) : ∀ m, (srch d n m).flatMap both = allS d n m
  | 0 => rfl
  | m + 1 => by rw [srch_succ, allS_succ, List.flatMap_append, srch_both d n m, both_solY]
theorem mem_srch {d n : Int} (h : rootD d = true) (hn : norOk n = true) {m : Nat} (hm : m ≤ 100000) {p : Int × Int} : p ∈ srch d n m ↔ nrm d p = n ∧ 0 ≤ p.1 ∧ 0 ≤ p.2 ∧ p.2 < m := by
  unfold srch
  rw [List.mem_flatMap]
  constructor
  · rintro ⟨y, hy, hp⟩
    have hy := List.mem_range.mp hy
    have hp2 := (mem_solY h hn (by omega)).mp (List.mem_of_mem_take hp)
    refine ⟨hp2.1, ?_, by omega, by omega⟩
    unfold solY at hp
    split at hp
    · simp only [List.take_succ_cons, List.take_zero, List.mem_singleton] at hp
      rw [hp]
      simp only
      omega
    · simp at hp
  · rintro ⟨h1, h2, h3, h4⟩
    refine ⟨p.2.toNat, List.mem_range.mpr (by omega), ?_⟩
    have hp := (mem_solY h hn (y := p.2.toNat) (by omega)).mpr ⟨h1, by omega⟩
    unfold solY at hp ⊢
    split at hp
    · rename_i hc
      rw [if_pos hc]
      simp only [List.mem_cons, List.not_mem_nil, or_false] at hp
      simp only [List.take_succ_cons, List.take_zero, List.mem_singleton]
      rcases hp with hp | hp
      · exact hp
      · have e1 := congrArg Prod.fst hp
        have e2 := congrArg Prod.snd hp
        simp only at e1 e2
        refine Prod.ext ?_ e2
        simp only
        omega
    · simp at hp
theorem mem_allS {d n : Int} (h : rootD d = true) (hn : norOk n = true) {m : Nat} (hm : m ≤ 100000) {p : Int × Int} : p ∈ allS d n m ↔ nrm d p = n ∧ 0 ≤ p.2 ∧ p.2 < m := by
  unfold allS
  rw [List.mem_flatMap]
  constructor
  · rintro ⟨y, hy, hp⟩
    have hy := List.mem_range.mp hy
    have hp2 := (mem_solY h hn (by omega)).mp hp
    exact ⟨hp2.1, by omega, by omega⟩
  · rintro ⟨h1, h3, h4⟩
    exact ⟨p.2.toNat, List.mem_range.mpr (by omega), (mem_solY h hn (by omega)).mpr ⟨h1, by omega⟩⟩
theorem allS_ord {d n : Int} (h : rootD d = true) (hn : norOk n = true) : ∀ {m : Nat}, m ≤ 100000 → (allS d n m).Pairwise (fun a b => ¬ bet b a)
  | 0, _ => List.Pairwise.nil
  | m + 1, hm => by
    rw [allS_succ, List.pairwise_append]
    refine ⟨allS_ord h hn (by omega), ?_, fun a ha b hb => ?_⟩
    · unfold solY
      split
      · rename_i hc
        rw [List.pairwise_cons]
        refine ⟨fun b hb => ?_, List.pairwise_singleton _ _⟩
        rw [List.mem_singleton.mp hb]
        unfold bet
        simp only
        omega
      · exact List.Pairwise.nil
    · have h1 := (mem_allS h hn (by omega)).mp ha
      have h2 := (mem_solY h hn (by omega)).mp hb
      unfold bet
      omega
theorem len_srch (d n : Int) (m : Nat) : (srch d n m).length ≤ 2 * m := by
  have := len_flat (f := fun y => (solY d n y).take 1) (fun y => Nat.le_trans (List.length_take_le' _ _) (len_solY d n y)) (List.range m)
  rw [List.length_range] at this
  exact this
theorem len_allS (d n : Int) (m : Nat) : (allS d n m).length ≤ 2 * m := by
  have := len_flat (len_solY d n) (List.range m)
  rw [List.length_range] at this
  exact this
/-- what the law has found among the first ones -/
structure Lst (d : Int) (pre fs : List (Int × Int)) : Prop where
  nd : fs.Nodup
  mem : ∀ p, p ∈ fs ↔ p ∈ pre ∧ Head d p
theorem Lst.zero (d : Int) : Lst d [] [] := ⟨List.nodup_nil, fun p => by simp⟩
theorem Lst.step {d n : Int} (h : rootD d = true) (hn : norOk n = true) {L pre post fs : List (Int × Int)} {p : Int × Int} (e : L = pre ++ p :: post) (hL : ∀ q, Head d q → nrm d q = n → q ∈ L) (hN : ∀ q ∈ L, nrm d q = n ∧ 0 ≤ q.2) (ord : L.Pairwise (fun a b => ¬ bet b a)) (f : Lst d pre fs) :
    Lst d (pre ++ [p]) (if fs.filter (fun o => famB d n o p) = [] then fs ++ [p] else fs) := by
  have h3 := (norOk_iff.mp hn).2.2
  have hp := hN p (by rw [e]; simp)
  have hfs : ∀ q ∈ fs, nrm d q = n ∧ Head d q := fun q hq => by
    have := (f.mem q).mp hq
    exact ⟨(hN q (by rw [e]; exact List.mem_append_left _ this.1)).1, this.2⟩
  by_cases hh : Head d p
  · have hiff : fs.filter (fun o => famB d n o p) = [] ↔ p ∉ fs := by
      rw [List.filter_eq_nil_iff]
      constructor
      · intro z hp'
        exact z p hp' ((famB_iff h h3 hp.1 hp.1).mpr (Fam.refl d p))
      · intro z q hq hf
        obtain ⟨q1, q2⟩ := hfs q hq
        have := (famB_iff h h3 q1 hp.1).mp hf
        rw [hh.uniq h q2 this] at z
        exact z hq
    by_cases hm : p ∈ fs
    · rw [if_neg (fun z => (hiff.mp z) hm)]
      refine ⟨f.nd, fun q => ?_⟩
      rw [f.mem, List.mem_append, List.mem_singleton]
      constructor
      · rintro ⟨a, b⟩; exact ⟨.inl a, b⟩
      · rintro ⟨a | a, b⟩
        · exact ⟨a, b⟩
        · rw [a]; exact (f.mem p).mp hm
    · rw [if_pos (hiff.mpr hm)]
      refine ⟨?_, fun q => ?_⟩
      · rw [List.nodup_append]
        exact ⟨f.nd, by simp, fun a ha b hb => by rw [List.mem_singleton.mp hb]; exact fun w => hm (w ▸ ha)⟩
      · rw [List.mem_append, List.mem_singleton, f.mem, List.mem_append, List.mem_singleton]
        constructor
        · rintro (⟨a, b⟩ | a)
          · exact ⟨.inl a, b⟩
          · rw [a]; exact ⟨.inr rfl, hh⟩
        · rintro ⟨a | a, b⟩
          · exact .inl ⟨a, b⟩
          · exact .inr a
  · obtain ⟨q, hq, fq⟩ := head_ex h (p := p) (by rw [hp.1]; exact h3)
    have hqn : nrm d q = n := by rw [← fq.nrm h]; exact hp.1
    have hne : p ≠ q := fun z => hh (by rw [z]; exact hq)
    have hb := hq.low p fq hp.2 hne
    have hqp : q ∈ pre := by
      have := hL q hq hqn
      rw [e] at this ord
      rcases List.mem_append.mp this with z | z
      · exact z
      · rcases List.mem_cons.mp z with z | z
        · exact absurd z.symm hne
        · exact absurd hb ((List.pairwise_cons.mp (List.pairwise_append.mp ord).2.1).1 q z)
    have hqf : q ∈ fs := (f.mem q).mpr ⟨hqp, hq⟩
    have : ¬ fs.filter (fun o => famB d n o p) = [] := fun z => (List.filter_eq_nil_iff.mp z) q hqf ((famB_iff h h3 hqn hp.1).mpr (fq.symm h))
    rw [if_neg this]
    refine ⟨f.nd, fun r => ?_⟩
    rw [f.mem, List.mem_append, List.mem_singleton]
    constructor
    · rintro ⟨a, b⟩; exact ⟨.inl a, b⟩
    · rintro ⟨a | a, b⟩
      · exact ⟨a, b⟩
      · rw [a] at b; exact absurd b hh
theorem lst_hds {d n : Int} (h : rootD d = true) (hn : norOk n = true) {fs qs : List (Int × Int)} (f : Lst d (allS d n (bnd d n + 1)) fs) (hp : qs.Perm fs) (hs : qs.Pairwise (fun p q => ¬ ltL q p)) : qs = hds d n := by
  have hb := bnd_le h hn
  refine ord_uniq ?_ (hds_ord d n) fun p => ?_
  · have hnd : qs.Nodup := hp.nodup_iff.mpr f.nd
    have := List.pairwise_and_iff.mpr ⟨hs, hnd⟩
    refine List.Pairwise.imp (fun {a b} z => ?_) this
    by_cases w : ltL a b
    · exact w
    · exact absurd (ltL_tri w z.1) z.2
  · rw [hp.mem_iff, f.mem, mem_hds h hn]
    constructor
    · rintro ⟨a, b⟩
      exact ⟨b, ((mem_allS h hn (by omega)).mp a).1⟩
    · rintro ⟨a, b⟩
      have := head_bnd h hn a b
      have := a.nn
      exact ⟨(mem_allS h hn (by omega)).mpr ⟨b, a.nn, by omega⟩, a⟩
end ND
namespace ND
open PySem PySem.Spec L2
/-! ## greatest common divisors -/
theorem gcd_shift {a b c t : Int} (e : c = a - b * t) : Int.gcd b c = Int.gcd a b := by
  apply Nat.dvd_antisymm
  · apply Int.natCast_dvd_natCast.mp
    have h1 : ((Int.gcd b c : Nat) : Int) ∣ b := Int.gcd_dvd_left b c
    have h2 : ((Int.gcd b c : Nat) : Int) ∣ c := Int.gcd_dvd_right b c
    refine Int.dvd_coe_gcd ?_ h1
    have : a = c + b * t := by omega
    rw [this]
    exact Int.dvd_add h2 (Int.dvd_trans h1 ⟨t, rfl⟩)
  · apply Int.natCast_dvd_natCast.mp
    have h1 : ((Int.gcd a b : Nat) : Int) ∣ a := Int.gcd_dvd_left a b
    have h2 : ((Int.gcd a b : Nat) : Int) ∣ b := Int.gcd_dvd_right a b
    refine Int.dvd_coe_gcd h2 ?_
    rw [e]
    exact Int.dvd_sub h1 (Int.dvd_trans h2 ⟨t, rfl⟩)
theorem fmod_shift (a b : Int) : ∃ t, a.fmod b = a - b * t := ⟨a.fdiv b, by have := Int.mul_fdiv_add_fmod a b; omega⟩
theorem fmod_small {a b : Int} (hb : b ≠ 0) : (a.fmod b).natAbs < b.natAbs := by
  rw [Int.fmod_eq_emod]
  have h1 := Int.emod_nonneg a hb
  have h2 := Int.emod_lt a hb
  split
  · omega
  · rename_i h
    have : b < 0 := by
      by_cases z : 0 ≤ b
      · exact absurd (.inl z) h
      · omega
    have h3 : a % b ≠ 0 := fun z => h (.inr (Int.dvd_of_emod_eq_zero z))
    omega
def gcdP (p : Int × Int) : Nat := Int.gcd p.1 p.2
theorem gcdP_dvd {d : Int} (p u : Int × Int) : gcdP p ∣ gcdP (mulP d p u) := by
  apply Int.natCast_dvd_natCast.mp
  have h1 : ((gcdP p : Nat) : Int) ∣ p.1 := Int.gcd_dvd_left p.1 p.2
  have h2 : ((gcdP p : Nat) : Int) ∣ p.2 := Int.gcd_dvd_right p.1 p.2
  refine Int.dvd_coe_gcd ?_ ?_
  · simp only [mulP, mulX]
    refine Int.dvd_add (Int.dvd_trans h1 ⟨u.1, rfl⟩) (Int.dvd_trans h2 ⟨d * u.2, by grind⟩)
  · simp only [mulP, mulY]
    refine Int.dvd_add (Int.dvd_trans h1 ⟨u.2, rfl⟩) (Int.dvd_trans h2 ⟨u.1, rfl⟩)
theorem gcdP_mul {d : Int} (p : Int × Int) {u : Int × Int} (hu : nrm d u = 1) : gcdP (mulP d p u) = gcdP p := by
  apply Nat.dvd_antisymm
  · have := gcdP_dvd (d := d) (mulP d p u) (opp u)
    rw [mulP_assoc, mul_opp, hu, mulP_one] at this
    exact this
  · exact gcdP_dvd p u
/-! ## multiples of solutions -/
theorem scl_mem {d f : Int} (p : Int × Int) (s k : Int) : mem d (scl f p) s k = scl f (mem d p s k) := by
  unfold mem
  rw [scl_mul, scl_scl, scl_scl, Int.mul_comm]
theorem bet_scl {f : Int} (hf : 0 < f) {p q : Int × Int} : bet (scl f p) (scl f q) ↔ bet p q := by
  unfold bet scl
  simp only
  constructor
  · rintro (h | ⟨h1, h2⟩)
    · exact .inl (Int.lt_of_mul_lt_mul_left h (by omega))
    · exact .inr ⟨Int.eq_of_mul_eq_mul_left (by omega) h1, Int.lt_of_mul_lt_mul_left h2 (by omega)⟩
  · rintro (h | ⟨h1, h2⟩)
    · exact .inl (Int.mul_lt_mul_of_pos_left h hf)
    · exact .inr ⟨by rw [h1], Int.mul_lt_mul_of_pos_left h2 hf⟩
theorem scl_inj {f : Int} (hf : f ≠ 0) {p q : Int × Int} (e : scl f p = scl f q) : p = q := mulP_cancel (d := 0) hf e
theorem scl_nn {f : Int} (hf : 0 < f) {p : Int × Int} : 0 ≤ (scl f p).2 ↔ 0 ≤ p.2 := by
  unfold scl
  simp only
  constructor
  · intro h
    by_cases z : 0 ≤ p.2
    · exact z
    · have := Int.mul_lt_mul_of_pos_left (show p.2 < 0 by omega) hf
      omega
  · intro h
    exact Int.mul_nonneg (by omega) h
theorem head_scl {d f : Int} (hf : 0 < f) {p : Int × Int} : Head d (scl f p) ↔ Head d p := by
  constructor
  · intro h
    refine ⟨(scl_nn hf).mp h.nn, fun q g hq hne => ?_⟩
    obtain ⟨s, k, hs, rfl⟩ := g
    have := h.low (scl f (mem d p s k)) ⟨s, k, hs, (scl_mem p s k).symm⟩ ((scl_nn hf).mpr hq) fun e => hne (scl_inj (by omega) e)
    exact (bet_scl hf).mp this
  · intro h
    refine ⟨(scl_nn hf).mpr h.nn, fun q g hq hne => ?_⟩
    obtain ⟨s, k, hs, rfl⟩ := g
    rw [scl_mem] at hq hne ⊢
    exact (bet_scl hf).mpr (h.low _ ⟨s, k, hs, rfl⟩ ((scl_nn hf).mp hq) fun e => hne (by rw [e]))
/-- a solution is its divisor times a coprime one -/
theorem gcdP_parts {p : Int × Int} (hp : p ≠ (0, 0)) : ∃ q : Int × Int, p = scl (gcdP p) q ∧ gcdP q = 1 ∧ 0 < gcdP p := by
  have h0 : gcdP p ≠ 0 := by
    intro z
    unfold gcdP at z
    have := Int.gcd_eq_zero_iff.mp z
    exact hp (Prod.ext this.1 this.2)
  obtain ⟨a, ha⟩ : ((gcdP p : Nat) : Int) ∣ p.1 := Int.gcd_dvd_left p.1 p.2
  obtain ⟨b, hb⟩ : ((gcdP p : Nat) : Int) ∣ p.2 := Int.gcd_dvd_right p.1 p.2
  refine ⟨(a, b), Prod.ext ha hb, ?_, by omega⟩
  have e : gcdP p = gcdP p * Int.gcd a b := by
    have := Int.gcd_mul_left (gcdP p : Int) a b
    rw [← ha, ← hb, Int.natAbs_natCast] at this
    exact this
  show Int.gcd a b = 1
  have e2 : gcdP p * Int.gcd a b = gcdP p * 1 := by rw [Nat.mul_one]; exact e.symm
  exact Nat.eq_of_mul_eq_mul_left (by omega) e2
end ND
namespace ND
open PySem PySem.Spec L2
/-! ## helpers of the laws -/
theorem shp_lstP (ps : List (Int × Int)) : Shp (.list (ps.map prP)) := (nice_list (n := 1) fun z h => by
  obtain ⟨p, _, rfl⟩ := List.mem_map.mp h
  exact nice_pr _ _).shp (by decide)
theorem shp_tupP (ps : List (Int × Int)) : Shp (.tuple (ps.map prP)) := (nice_tup (n := 1) fun z h => by
  obtain ⟨p, _, rfl⟩ := List.mem_map.mp h
  exact nice_pr _ _).shp (by decide)
theorem ne_nil (ps : List (Int × Int)) : (!PyData.eqv (.list (ps.map prP)) (.list [])) = decide (ps ≠ []) := by
  rw [show (PyData.list [] : PyData) = .list (([] : List (Int × Int)).map prP) from rfl, eqv_lstP]
  by_cases z : ps = [] <;> simp [z]
theorem ne_nilT (ps : List (Int × Int)) : (!PyData.eqv (.tuple (ps.map prP)) (.tuple [])) = decide (ps ≠ []) := by
  rw [show (PyData.tuple [] : PyData) = .tuple (([] : List (Int × Int)).map prP) from rfl, eqv_tupP]
  by_cases z : ps = [] <;> simp [z]
theorem bd_root {m : Nat} {a : Int} (h : Bd (2 * m) (a * a)) : Bd m a := by
  unfold Bd at *
  rw [Int.natAbs_mul, Nat.two_mul, Nat.pow_add] at h
  by_cases z : a.natAbs < 2 ^ m
  · exact z
  · have := Nat.mul_le_mul (show 2 ^ m ≤ a.natAbs by omega) (show 2 ^ m ≤ a.natAbs by omega)
    omega
theorem sol_bd {d n : Int} (h : rootD d = true) (hn : norOk n = true) {p : Int × Int} (e : nrm d p = n) (h0 : 0 ≤ p.2) (h1 : p.2 ≤ 4000) : Bd 100 p.1 ∧ Bd 100 p.2 := by
  have h3 := norOk_iff.mp hn
  have by_ : Bd 12 p.2 := by unfold Bd; omega
  refine ⟨(bd_root (m := 20) ?_).mono (by decide), by_.mono (by decide)⟩
  have e1 : p.1 * p.1 = n + d * p.2 * p.2 := by
    have e' : p.1 * p.1 - d * p.2 * p.2 = n := e
    omega
  rw [e1]
  exact ((Bd.mono (m := 8) (by unfold Bd; omega) (by decide) : Bd 30 n).add ((((rootD_bd h).mul by_).mul by_).mono (by decide))).mono (by decide)
/-- the family's test on data -/
def famD (d n : Int) (p : Int × Int) : PyData → Bool
  | .tuple [.int a, .int b] => famB d n (a, b) p
  | _ => false
theorem filter_fam (d n : Int) (p : Int × Int) : ∀ fs : List (Int × Int), ((fs.map prP).filter (famD d n p)).map id = (fs.filter (fun o => famB d n o p)).map prP
  | [] => rfl
  | q :: fs => by
    rw [List.map_cons]
    by_cases z : famB d n q p = true
    · rw [List.filter_cons_of_pos (show famD d n p (prP q) = true from z), List.filter_cons_of_pos (p := fun o => famB d n o p) z, List.map_cons, List.map_cons, filter_fam d n p fs]
      rfl
    · rw [List.filter_cons_of_neg (show ¬ famD d n p (prP q) = true from z), List.filter_cons_of_neg (p := fun o => famB d n o p) z, filter_fam d n p fs]
theorem eq_nil (ps : List (Int × Int)) : PyData.eqv (.list (ps.map prP)) (.list []) = decide (ps = []) := by
  rw [show (PyData.list [] : PyData) = .list (([] : List (Int × Int)).map prP) from rfl, eqv_lstP]
theorem take_snoc {α : Type} {l : List α} {i : Nat} {x : α} (h : l[i]? = some x) : l.take (i + 1) = l.take i ++ [x] ∧ ∃ post, l = l.take i ++ x :: post := by
  obtain ⟨hl, e⟩ := List.getElem?_eq_some_iff.mp h
  refine ⟨by rw [List.take_succ_eq_append_getElem hl, e], l.drop (i + 1), ?_⟩
  rw [← e, ← List.drop_eq_getElem_cons hl, List.take_append_drop]
theorem norOk_of {n : Int} (h1 : -200 ≤ n) (h2 : n ≤ 200) (h3 : n ≠ 0) : norOk n = true := norOk_iff.mpr ⟨h1, h2, h3⟩
theorem joinS {t r : DS} {E : DEnds} {S : Sl} {c : Cn} (J : Sl → Cn → Prop) (h1 : ∀ N : Sl → Cn → Prop, (∀ S' c', J S' c' → N S' c') → t { nx := N, rt := E.rt, bk := E.bk, ct := E.ct } S c) (h2 : ∀ S' c', J S' c' → r E S' c') : dSeq t r E S c := h1 (r E) h2
theorem testIs {dt : DT} {S : Sl} {c : Cn} {k : Bool → Cn → Prop} (b : Bool) (h : ∀ q : Bool → Cn → Prop, q b c → dt S c q) (g : k b c) : dt S c k := h k g
theorem forV {i : Nat} {g : DG} {t r : DS} {E : DEnds} {S : Sl} {c : Cn} {xs : List PyData} (hS : S[i]? = some (some (.own xs))) (I : Nat → Sl → Cn → Prop) (h0 : I 0 (S.set i (some (.ro xs))) c)
    (step : ∀ (j : Nat) (x : PyData) (S : Sl) (c : Cn) (N : Sl → Cn → Prop), xs[j]? = some x → I j S c → (∀ S' c', I (j + 1) S' c' → N S' c') → g x S fun S1 => t { nx := N, ct := N, bk := r E, rt := E.rt } S1 c)
    (done : ∀ S c, I xs.length S c → r E S c) : dSeq (dFor (iV i) g t) r E S c := by
  show iV i S c fun xs S1 c1 => forL g t { nx := r E, rt := E.rt, bk := E.bk, ct := E.ct } xs S1 c1
  unfold iV
  rw [hS]
  exact forL_by I h0 step done
theorem skipIf {dt : DT} {a b : DS} {D : DEnds} {S : Sl} {c : Cn} (h : ∀ q : Bool → Cn → Prop, q false c → dt S c q) (g : b D S c) : dIfS dt a b D S c := h _ (by rw [if_neg Bool.false_ne_true]; exact g)
theorem skipS {dt : DT} {a b r : DS} {E : DEnds} {S : Sl} {c : Cn} (h : ∀ q : Bool → Cn → Prop, q false c → dt S c q) (g : b { nx := r E, rt := E.rt, bk := E.bk, ct := E.ct } S c) : dSeq (dIfS dt a b) r E S c := skipIf h g
theorem forVT {i : Nat} {g : DG} {t r : DS} {E : DEnds} {S : Sl} {c : Cn} {xs : List PyData} (hS : S[i]? = some (some (.im (.tuple xs)))) (I : Nat → Sl → Cn → Prop) (h0 : I 0 S c)
    (step : ∀ (j : Nat) (x : PyData) (S : Sl) (c : Cn) (N : Sl → Cn → Prop), xs[j]? = some x → I j S c → (∀ S' c', I (j + 1) S' c' → N S' c') → g x S fun S1 => t { nx := N, ct := N, bk := r E, rt := E.rt } S1 c)
    (done : ∀ S c, I xs.length S c → r E S c) : dSeq (dFor (iV i) g t) r E S c := by
  show iV i S c fun xs S1 c1 => forL g t { nx := r E, rt := E.rt, bk := E.bk, ct := E.ct } xs S1 c1
  unfold iV
  rw [hS]
  exact forL_by I h0 step done
theorem get_prs {ps : List (Int × Int)} {i : Nat} {x : PyData} (h : (ps.map prP)[i]? = some x) : ∃ p, p ∈ ps ∧ x = prP p := by
  rw [List.getElem?_map] at h
  cases z : ps[i]? with
  | none => rw [z] at h; cases h
  | some p => rw [z] at h; cases h; exact ⟨p, List.mem_of_getElem? z, rfl⟩
theorem any_prs (ps : List (Int × Int)) (p : Int × Int) : ((ps.map prP).any fun z => PyData.eqv z (prP p)) = decide (p ∈ ps) := by
  apply Bool.eq_iff_iff.mpr
  rw [List.any_eq_true, decide_eq_true_iff]
  constructor
  · rintro ⟨z, hz, e⟩
    obtain ⟨q, hq, rfl⟩ := List.mem_map.mp hz
    rw [eqv_prP, decide_eq_true_iff] at e
    subst e
    exact hq
  · intro h
    exact ⟨prP p, List.mem_map.mpr ⟨p, h, rfl⟩, by rw [eqv_prP]; exact decide_eq_true rfl⟩
theorem head_sq {d n r : Int} (h : rootD d = true) (hn : norOk n = true) (r0 : 0 ≤ r) (e : r * r = n) : (r, 0) ∈ hds d n := by
  have h3 := (norOk_iff.mp hn).2.2
  have rp : 0 < r := by
    by_cases z : r = 0
    · subst z
      exact absurd e.symm h3
    · omega
  have hN : nrm d (r, 0) = n := by
    simp only [nrm, normI]
    rw [Int.mul_zero, e]
    omega
  refine (mem_hds h hn).mpr ⟨⟨Int.le_refl _, fun q f hq hne => ?_⟩, hN⟩
  unfold bet
  by_cases z : q.2 = 0
  · right
    refine ⟨z.symm, ?_⟩
    have e2 : q.1 * q.1 - d * q.2 * q.2 = n := by
      have := f.nrm h
      rw [hN] at this
      exact this
    rw [z, Int.mul_zero] at e2
    rcases sq_eq r0 (show r * r = q.1 * q.1 by omega) with w | w
    · exact absurd (Prod.ext w z) hne
    · show q.1 < r
      omega
  · left
    show (0 : Int) < q.2
    omega
theorem eqv_bool2 (a b : Bool) : PyData.eqv (.bool a) (.bool b) = (a == b) := by cases a <;> cases b <;> rfl
theorem len_one {α : Type} {l : List α} {q : α} (h : l = [q]) : ((l.length : Nat) : Int) = 1 := by rw [h]; rfl
end ND
namespace ND
open PySem PySem.Spec L2
/-! ## climbing through a family -/
def nnP (p : Int × Int) : Prop := 0 ≤ p.1 ∧ 0 ≤ p.2
instance (p : Int × Int) : Decidable (nnP p) := inferInstanceAs (Decidable (_ ∧ _))
theorem up_nn {d : Int} (h : rootD d = true) {p : Int × Int} (hp : nrm d p ≠ 0) (hn : nnP p) : nnP (mulP d p (un d)) ∧ p.2 < (mulP d p (un d)).2 := by
  have hu := u_ok h
  have t2 := hu.t2
  have u1 := hu.u1
  have hd := root_le h
  obtain ⟨x, y⟩ := p
  obtain ⟨x0, y0⟩ := hn
  simp only at x0 y0
  have e1 : (mulP d (x, y) (un d)).1 = x * uT d + d * y * uU d := rfl
  have e2 : (mulP d (x, y) (un d)).2 = x * uU d + y * uT d := rfl
  have a1 : 0 ≤ x * uT d := Int.mul_nonneg x0 (by omega)
  have a2 : 0 ≤ d * y * uU d := Int.mul_nonneg (Int.mul_nonneg (by omega) y0) (by omega)
  have a3 : x ≤ x * uU d := by
    have := Int.mul_le_mul_of_nonneg_left u1 x0
    omega
  have a4 : y * 2 ≤ y * uT d := Int.mul_le_mul_of_nonneg_left (by omega) y0
  have ne : ¬ (x = 0 ∧ y = 0) := fun ⟨z1, z2⟩ => hp (by simp [nrm, normI, z1, z2])
  unfold nnP
  rw [e1, e2]
  refine ⟨⟨by omega, by omega⟩, ?_⟩
  show y < x * uU d + y * uT d
  omega
theorem up_nnN {d : Int} (h : rootD d = true) {p : Int × Int} (hp : nrm d p ≠ 0) (hn : nnP p) : ∀ j : Nat, nnP (mulP d p (upw d j)) ∧ (mulP d p (upw d j)).2 < (mulP d p (upw d ((j : Int) + 1))).2
  | 0 => by
    have := up_nn h hp hn
    rw [show ((0 : Nat) : Int) = 0 from rfl, upw_zero, mulP_one, show (0 : Int) + 1 = 1 from rfl, upw_one h]
    exact ⟨hn, this.2⟩
  | j + 1 => by
    have ih := up_nnN h hp hn j
    have e1 : mulP d p (upw d ((j + 1 : Nat) : Int)) = mulP d (mulP d p (upw d j)) (un d) := by
      rw [show ((j + 1 : Nat) : Int) = (j : Int) + 1 by omega, upw_up h, ← mulP_assoc]
    have hnr : nrm d (mulP d p (upw d j)) ≠ 0 := by rw [nrm_mul, nrm_upw h, Int.mul_one]; exact hp
    have a := up_nn h hnr ih.1
    rw [← e1] at a
    have hnr2 : nrm d (mulP d p (upw d ((j + 1 : Nat) : Int))) ≠ 0 := by rw [nrm_mul, nrm_upw h, Int.mul_one]; exact hp
    have b := up_nn h hnr2 a.1
    rw [mulP_assoc, ← upw_up h] at b
    exact ⟨a.1, b.2⟩
/-- from which one climbs -/
def bas (d : Int) (h : Int × Int) : Int × Int := if 0 < h.1 ∨ nrm d h < 0 then h else scl (-1) h
theorem bas_fam (d : Int) (h : Int × Int) : Fam d h (bas d h) := by
  unfold bas
  split
  · exact Fam.refl d h
  · exact ⟨-1, 0, .inr rfl, (mem_zero h (-1)).symm⟩
theorem bas_nrm {d : Int} (hd : rootD d = true) (h : Int × Int) : nrm d (bas d h) = nrm d h := (bas_fam d h).nrm hd
/-- where it begins -/
def stt (d : Int) (h : Int × Int) : Int := if nnP (bas d h) then 0 else 1
def cl (d : Int) (h : Int × Int) (i : Nat) : Int × Int := mulP d (bas d h) (upw d (stt d h + i))
theorem sq_pos {x : Int} (h : x ≠ 0) : 0 < x * x := by
  have := sqnn x
  rcases Int.lt_or_eq_of_le this with z | z
  · exact z
  · rcases Int.mul_eq_zero.mp z.symm with w | w <;> exact absurd w h
theorem abs_lt_sq {a b : Int} (h0 : 0 < b) (h : a * a < b * b) : -b < a ∧ a < b := by
  have h1 := lt_of_sq (a := a) (b := b) (by omega) h
  have h2 := lt_of_sq (a := -a) (b := b) (by omega) (by rw [Int.neg_mul_neg]; exact h)
  omega
/-- where the norm is positive, the first part keeps its sign -/
theorem pos_x {d : Int} (h : rootD d = true) {p : Int × Int} (hp : 0 < nrm d p) (hx : 0 < p.1) (k : Int) : 0 < (mulP d p (upw d k)).1 := by
  have hd := root_le h
  obtain ⟨x, y⟩ := p
  have hN : 0 < x * x - d * y * y := hp
  have hx : 0 < x := hx
  have hU := nrm_upw h k
  have hU1 := upw_pos1 h k
  generalize upw d k = w at hU hU1 ⊢
  obtain ⟨U, V⟩ := w
  have hU : U * U - d * V * V = 1 := hU
  have hU1 : 1 ≤ U := hU1
  have e : (mulP d (x, y) (U, V)).1 = x * U + d * y * V := rfl
  rw [e]
  have xu : 0 < x * U := Int.mul_pos hx (by omega)
  have key : (d * y * V) * (d * y * V) < (x * U) * (x * U) := by
    have a1 : (d * y * V) * (d * y * V) = (d * y * y) * (d * V * V) := by grind
    have a2 : (x * U) * (x * U) = (x * x) * (U * U) := by grind
    rw [a1, a2]
    have b1 : 0 ≤ d * y * y := by
      have := Int.mul_nonneg (show 0 ≤ d by omega) (sqnn y)
      rw [← Int.mul_assoc] at this
      exact this
    have b2 : 0 ≤ d * V * V := by
      have := Int.mul_nonneg (show 0 ≤ d by omega) (sqnn V)
      rw [← Int.mul_assoc] at this
      exact this
    have c1 : (d * y * y) * (d * V * V) ≤ (x * x) * (d * V * V) := Int.mul_le_mul_of_nonneg_right (by omega) b2
    have c2 : (x * x) * (d * V * V) < (x * x) * (U * U) := Int.mul_lt_mul_of_pos_left (by omega) (sq_pos (by omega))
    omega
  have := abs_lt_sq xu key
  omega
/-- where it is negative, the second -/
theorem pos_y {d : Int} (h : rootD d = true) {p : Int × Int} (hp : nrm d p < 0) (hy : 0 < p.2) (k : Int) : 0 < (mulP d p (upw d k)).2 := by
  have hd := root_le h
  obtain ⟨x, y⟩ := p
  have hN : x * x - d * y * y < 0 := hp
  have hy : 0 < y := hy
  have hU := nrm_upw h k
  have hU1 := upw_pos1 h k
  generalize upw d k = w at hU hU1 ⊢
  obtain ⟨U, V⟩ := w
  have hU : U * U - d * V * V = 1 := hU
  have hU1 : 1 ≤ U := hU1
  have e : (mulP d (x, y) (U, V)).2 = x * V + y * U := rfl
  rw [e]
  have yu : 0 < y * U := Int.mul_pos hy (by omega)
  have key : (x * V) * (x * V) < (y * U) * (y * U) := by
    have c1 : d * ((x * V) * (x * V)) < d * ((y * U) * (y * U)) := by
      have a1 : d * ((x * V) * (x * V)) = (x * x) * (d * V * V) := by grind
      have a2 : d * ((y * U) * (y * U)) = (d * y * y) * (U * U) := by grind
      rw [a1, a2]
      have b2 : 0 ≤ d * V * V := by
        have := Int.mul_nonneg (show 0 ≤ d by omega) (sqnn V)
        rw [← Int.mul_assoc] at this
        exact this
      have b3 := sqnn x
      have c1 : (x * x) * (d * V * V) ≤ (d * y * y) * (d * V * V) := Int.mul_le_mul_of_nonneg_right (by omega) b2
      have c2 : (d * y * y) * (d * V * V) < (d * y * y) * (U * U) := Int.mul_lt_mul_of_pos_left (by omega) (by omega)
      omega
    exact Int.lt_of_mul_lt_mul_left c1 (by omega)
  have := abs_lt_sq yu key
  omega
section
variable {d : Int} (hd : rootD d = true) {h : Int × Int} (hh : Head d h) (hn : nrm d h ≠ 0)
include hd hh hn
theorem neg_y : nrm d h < 0 → 0 < h.2 := fun z => by
  have := hh.nn
  by_cases w : h.2 = 0
  · have : nrm d h = h.1 * h.1 := by
      simp only [nrm, normI, w]
      simp
    have := sqnn h.1
    omega
  · omega
theorem bas_x : 0 < nrm d h → 0 < (bas d h).1 := fun z => by
  unfold bas
  split
  · rename_i w
    omega
  · rename_i w
    have hx : h.1 ≠ 0 := fun e => by
      have hN : h.1 * h.1 - d * h.2 * h.2 > 0 := z
      rw [e] at hN
      have := Int.mul_nonneg (show 0 ≤ d by have := root_le hd; omega) (sqnn h.2)
      rw [← Int.mul_assoc] at this
      omega
    show 0 < -1 * h.1
    omega
/-- what lies before it is not wholly nonnegative -/
theorem low_no : ¬ nnP (mulP d (bas d h) (upw d (-1))) := fun z => by
  have hr : nrm d (mulP d (bas d h) (upw d (-1))) ≠ 0 := by rw [nrm_mul, nrm_upw hd, Int.mul_one, bas_nrm hd]; exact hn
  have a := up_nn hd hr z
  rw [mulP_assoc, ← upw_up hd, show (-1 : Int) + 1 = 0 from rfl, upw_zero, mulP_one] at a
  have hf : Fam d h (mulP d (bas d h) (upw d (-1))) := Fam.trans hd (bas_fam d h) ⟨1, -1, .inl rfl, by rw [mem, scl_one]⟩
  have y0 := hh.nn
  have z2 := z.2
  have key : mulP d (bas d h) (upw d (-1)) ≠ h → h.2 ≤ (mulP d (bas d h) (upw d (-1))).2 := fun ne => by
    have := hh.low _ hf z2 ne
    unfold bet at this
    omega
  have a2 := a.2
  generalize mulP d (bas d h) (upw d (-1)) = r at key a2 z2
  unfold bas at a2
  split at a2
  · by_cases e : r = h
    · rw [e] at a2; omega
    · have := key e; omega
  · have e : (scl (-1) h).2 = -h.2 := by simp [scl]
    rw [e] at a2
    omega
theorem stt_nn : nnP (mulP d (bas d h) (upw d (stt d h))) := by
  unfold stt
  split
  · rename_i z
    rw [upw_zero, mulP_one]
    exact z
  · rename_i z
    rw [upw_one hd]
    have hu := u_ok hd
    have y0 := hh.nn
    have hN := bas_nrm hd h
    have hf : Fam d h (mulP d (bas d h) (upw d 1)) := Fam.trans hd (bas_fam d h) ⟨1, 1, .inl rfl, by rw [mem, scl_one]⟩
    rw [upw_one hd] at hf
    rcases Int.lt_or_gt_of_ne hn with s | s
    · -- norm negative: bas = h
      have eb : bas d h = h := by unfold bas; rw [if_pos (.inr s)]
      have hy := neg_y hd hh hn s
      rw [eb] at z hf ⊢
      have y1 := pos_y hd s hy 1
      rw [upw_one hd] at y1
      refine ⟨?_, by omega⟩
      by_cases w : 0 ≤ (mulP d h (un d)).1
      · exact w
      · exfalso
        have e : mulP d (mulP d h (un d)) (opp (un d)) = h := by rw [mulP_assoc, mul_opp, un_nrm hd, mulP_one]
        have e2 : h.2 = (mulP d h (un d)).2 * uT d - (mulP d h (un d)).1 * uU d := by
          have := congrArg Prod.snd e
          rw [← this]
          simp only [mulP, mulX, mulY, opp, un]
          grind
        generalize mulP d h (un d) = r at hf y1 w e2
        have t2 := hu.t2
        have u1 := hu.u1
        have a1 : r.2 * 2 ≤ r.2 * uT d := Int.mul_le_mul_of_nonneg_left (by omega) (by omega)
        have a2 : 0 < -r.1 * uU d := Int.mul_pos (by omega) (by omega)
        have a3 : -r.1 * uU d = -(r.1 * uU d) := by grind
        have lt : r.2 < h.2 := by omega
        have ne : r ≠ h := fun q => by rw [q] at lt; omega
        have := hh.low r hf (by omega) ne
        unfold bet at this
        omega
    · have hx := bas_x hd hh hn s
      have hx1 := pos_x hd (by rw [hN]; exact s) hx 1
      rw [upw_one hd] at hx1
      refine ⟨by omega, ?_⟩
      have by0 : (bas d h).2 < 0 := by
        by_cases w : 0 ≤ (bas d h).2
        · exact absurd ⟨by omega, w⟩ z
        · omega
      have eb : bas d h = scl (-1) h := by
        unfold bas at by0 ⊢
        split at by0
        · omega
        · rename_i w; rw [if_neg w]
      have eb2 : (bas d h).2 = -h.2 := by rw [eb]; simp [scl]
      by_cases w : 0 ≤ (mulP d (bas d h) (un d)).2
      · exact w
      · exfalso
        -- it rises
        have e2 : (mulP d (bas d h) (un d)).2 = (bas d h).1 * uU d + (bas d h).2 * uT d := rfl
        have t2 := hu.t2
        have u1 := hu.u1
        have hnu := hu.nrm
        have hNN : (bas d h).1 * (bas d h).1 - d * (bas d h).2 * (bas d h).2 > 0 := by
          have : nrm d (bas d h) > 0 := by rw [hN]; exact s
          exact this
        generalize (bas d h).1 = X at hx hNN e2
        generalize (bas d h).2 = Y at by0 eb2 hNN e2
        have k1 : ((uT d - 1) * Y) * ((uT d - 1) * Y) < (X * uU d) * (X * uU d) := by
          have a1 : (X * uU d) * (X * uU d) = (X * X) * (uU d * uU d) := by grind
          have a2 : ((uT d - 1) * Y) * ((uT d - 1) * Y) = (Y * Y) * ((uT d - 1) * (uT d - 1)) := by grind
          have a3 : (d * Y * Y) * (uU d * uU d) = (Y * Y) * (uT d * uT d - 1) := by
            have : uT d * uT d - 1 = d * uU d * uU d := by omega
            rw [this]
            grind
          have a4 : (d * Y * Y) * (uU d * uU d) < (X * X) * (uU d * uU d) := Int.mul_lt_mul_of_pos_right (by omega) (sq_pos (by omega))
          have a5 : (Y * Y) * ((uT d - 1) * (uT d - 1)) ≤ (Y * Y) * (uT d * uT d - 1) := by
            refine Int.mul_le_mul_of_nonneg_left ?_ (sqnn Y)
            have : (uT d - 1) * (uT d - 1) = uT d * uT d - 2 * uT d + 1 := by grind
            omega
          rw [a1, a2]
          omega
        have k2 := abs_lt_sq (Int.mul_pos hx (by omega)) k1
        have k3 : (uT d - 1) * Y = Y * uT d - Y := by grind
        -- so the opposite is a smaller one
        have hf2 : Fam d h (scl (-1) (mulP d (bas d h) (un d))) := Fam.trans hd hf ⟨-1, 0, .inr rfl, (mem_zero _ _).symm⟩
        have e3 : (scl (-1) (mulP d (bas d h) (un d))).2 = -(mulP d (bas d h) (un d)).2 := by simp [scl]
        have lt : (scl (-1) (mulP d (bas d h) (un d))).2 < h.2 := by rw [e3]; omega
        have ne : scl (-1) (mulP d (bas d h) (un d)) ≠ h := fun q => by rw [q] at lt; omega
        have := hh.low _ hf2 (by rw [e3]; omega) ne
        unfold bet at this
        omega
theorem cl_at (i : Nat) : nnP (cl d h i) ∧ (cl d h i).2 < (cl d h (i + 1)).2 := by
  have hr : nrm d (mulP d (bas d h) (upw d (stt d h))) ≠ 0 := by rw [nrm_mul, nrm_upw hd, Int.mul_one, bas_nrm hd]; exact hn
  have := up_nnN hd hr (stt_nn hd hh hn) i
  rw [mulP_assoc, mulP_assoc, ← upw_add hd, ← upw_add hd] at this
  unfold cl
  rw [show stt d h + ((i + 1 : Nat) : Int) = stt d h + ((i : Int) + 1) by omega]
  exact this
theorem cl_fam (i : Nat) : Fam d h (cl d h i) := Fam.trans hd (bas_fam d h) ⟨1, _, .inl rfl, by rw [mem, scl_one]; rfl⟩
/-- every nonnegative member is climbed to -/
theorem cl_all {m : Int × Int} (f : Fam d h m) (hm : nnP m) : ∃ i : Nat, m = cl d h i := by
  obtain ⟨s, k, hs, e⟩ := Fam.trans hd (Fam.symm hd (bas_fam d h)) f
  have hN := bas_nrm hd h
  have s1 : s = 1 := by
    rcases hs with hs | hs
    · exact hs
    · exfalso
      rw [hs] at e
      rcases Int.lt_or_gt_of_ne hn with z | z
      · have eb : bas d h = h := by unfold bas; rw [if_pos (.inr z)]
        have := pos_y hd z (neg_y hd hh hn z) k
        have h2 := hm.2
        rw [e, eb] at h2
        unfold mem scl at h2
        simp only at h2
        omega
      · have := pos_x hd (by rw [hN]; exact z) (bas_x hd hh hn z) k
        have h1 := hm.1
        rw [e] at h1
        unfold mem scl at h1
        simp only at h1
        omega
  subst s1
  have e2 : m = mulP d (bas d h) (upw d k) := by rw [e, mem, scl_one]
  have hr : ∀ j, nrm d (mulP d (bas d h) (upw d j)) ≠ 0 := fun j => by rw [nrm_mul, nrm_upw hd, Int.mul_one, hN]; exact hn
  have k0 : 0 ≤ k := by
    by_cases z : 0 ≤ k
    · exact z
    · exfalso
      have := (up_nnN hd (hr k) (by rw [← e2]; exact hm) (-1 - k).toNat).1
      rw [mulP_assoc, ← upw_add hd, show k + ((-1 - k).toNat : Int) = -1 by omega] at this
      exact low_no hd hh hn this
  have ks : stt d h ≤ k := by
    unfold stt
    split
    · exact k0
    · rename_i z
      by_cases w : k = 0
      · subst w
        rw [upw_zero, mulP_one] at e2
        rw [e2] at hm
        exact absurd hm z
      · omega
  exact ⟨(k - stt d h).toNat, by rw [e2, cl, show stt d h + (((k - stt d h).toNat : Nat) : Int) = k by omega]⟩
end
end ND
namespace ND
open PySem PySem.Spec L2
abbrev great : Int := 1000000000000000000000000000000000000000000000000000000000000
/-! ## all solutions with x and y at least 0 -/
def Sol (d n : Int) (p : Int × Int) : Prop := nrm d p = n ∧ nnP p
theorem sol_y {d n : Int} {p q : Int × Int} (hp : Sol d n p) (hq : Sol d n q) (e : p.2 = q.2) : p = q := by
  refine Prod.ext ?_ e
  have h1 : p.1 * p.1 - d * p.2 * p.2 = n := hp.1
  have h2 : q.1 * q.1 - d * q.2 * q.2 = n := hq.1
  rw [e] at h1
  have a := hp.2.1
  have b := hq.2.1
  rcases sq_eq a (show p.1 * p.1 = q.1 * q.1 by omega) with z | z
  · exact z.symm
  · omega
section
variable {d n : Int} (hd : rootD d = true) (hn : norOk n = true)
include hd hn
theorem hds_head {h : Int × Int} (hh : h ∈ hds d n) : Head d h ∧ nrm d h = n ∧ nrm d h ≠ 0 := by
  obtain ⟨h1, h2⟩ := (mem_hds hd hn).mp hh
  exact ⟨h1, h2, by rw [h2]; exact (norOk_iff.mp hn).2.2⟩
theorem cl_sol {h : Int × Int} (hh : h ∈ hds d n) (i : Nat) : Sol d n (cl d h i) := by
  obtain ⟨h1, h2, h3⟩ := hds_head hd hn hh
  exact ⟨by rw [(cl_fam hd h1 h3 i).nrm hd]; exact h2, (cl_at hd h1 h3 i).1⟩
theorem sol_cl {p : Int × Int} (hp : Sol d n p) : ∃ h ∈ hds d n, ∃ i, p = cl d h i := by
  have h3 := (norOk_iff.mp hn).2.2
  obtain ⟨h, hh, f⟩ := head_ex hd (p := p) (by rw [hp.1]; exact h3)
  have hN : nrm d h = n := by rw [← f.nrm hd]; exact hp.1
  obtain ⟨i, e⟩ := cl_all hd hh (by rw [hN]; exact h3) f hp.2
  exact ⟨h, (mem_hds hd hn).mpr ⟨hh, hN⟩, i, e⟩
theorem cl_lt {h : Int × Int} (hh : h ∈ hds d n) {i j : Nat} (hij : i < j) : (cl d h i).2 < (cl d h j).2 := by
  obtain ⟨h1, h2, h3⟩ := hds_head hd hn hh
  obtain ⟨k, rfl⟩ := Nat.exists_eq_add_of_le (show i + 1 ≤ j by omega)
  clear hij
  induction k with
  | zero => exact (cl_at hd h1 h3 i).2
  | succ k ih => exact Int.lt_trans ih (cl_at hd h1 h3 (i + 1 + k)).2
theorem cl_inj {h g : Int × Int} (hh : h ∈ hds d n) (hg : g ∈ hds d n) {i j : Nat} (e : cl d h i = cl d g j) : h = g ∧ i = j := by
  obtain ⟨h1, h2, h3⟩ := hds_head hd hn hh
  obtain ⟨g1, g2, g3⟩ := hds_head hd hn hg
  have f := cl_fam hd h1 h3 i
  rw [e] at f
  have eh : h = g := h1.uniq hd g1 (f.trans hd ((cl_fam hd g1 g3 j).symm hd))
  subst eh
  refine ⟨rfl, ?_⟩
  rcases Nat.lt_trichotomy i j with z | z | z
  · have := cl_lt hd hn hh z
    rw [e] at this
    omega
  · exact z
  · have := cl_lt hd hn hh z
    rw [e] at this
    omega
end
/-! ## lists -/
theorem nodup_sub_len : ∀ {B C : List (Int × Int)}, B.Nodup → (∀ x ∈ B, x ∈ C) → B.length ≤ C.length
  | [], C, _, _ => Nat.zero_le _
  | x :: B, C, nd, h => by
    rw [List.nodup_cons] at nd
    have hx := h x List.mem_cons_self
    have := nodup_sub_len (C := C.erase x) nd.2 fun y hy => by
      have hne : y ≠ x := fun e => nd.1 (e ▸ hy)
      exact (List.mem_erase_of_ne hne).mpr (h y (List.mem_cons_of_mem _ hy))
    rw [List.length_erase_of_mem hx] at this
    have hp : 0 < C.length := List.length_pos_of_mem hx
    simp only [List.length_cons]
    omega
/-- the first ones, in the order of y -/
structure Ini (S : Int × Int → Prop) (l : List (Int × Int)) : Prop where
  ord : l.Pairwise (fun p q => p.2 < q.2)
  sol : ∀ p ∈ l, S p
  ini : ∀ p, S p → p ∉ l → ∀ q ∈ l, q.2 < p.2
theorem ini_take : ∀ {S : Int × Int → Prop} {l m : List (Int × Int)}, (∀ p q, S p → S q → p.2 = q.2 → p = q) → Ini S l → Ini S m → l.length ≤ m.length → l = m.take l.length
  | S, [], m, _, _, _, _ => rfl
  | S, p :: l, [], _, _, _, h => absurd h (by simp)
  | S, p :: l, q :: m, hy, hl, hm, h => by
    have ol := List.pairwise_cons.mp hl.ord
    have om := List.pairwise_cons.mp hm.ord
    have sp := hl.sol p List.mem_cons_self
    have sq := hm.sol q List.mem_cons_self
    have e : p = q := by
      refine hy p q sp sq ?_
      have a1 : q.2 ≤ p.2 := by
        by_cases z : p ∈ q :: m
        · rcases List.mem_cons.mp z with z | z
          · rw [z]; exact Int.le_refl _
          · exact Int.le_of_lt (om.1 p z)
        · exact Int.le_of_lt (hm.ini p sp z q List.mem_cons_self)
      have a2 : p.2 ≤ q.2 := by
        by_cases z : q ∈ p :: l
        · rcases List.mem_cons.mp z with z | z
          · rw [z]; exact Int.le_refl _
          · exact Int.le_of_lt (ol.1 q z)
        · exact Int.le_of_lt (hl.ini q sq z p List.mem_cons_self)
      omega
    subst e
    have tl : ∀ {l : List (Int × Int)}, Ini S (p :: l) → Ini (fun x => S x ∧ x ≠ p) l := fun {l} h => by
      have o := List.pairwise_cons.mp h.ord
      refine ⟨o.2, fun x hx => ⟨h.sol x (List.mem_cons_of_mem _ hx), fun e => ?_⟩, fun x hx hn y hy => h.ini x hx.1 (fun z => (List.mem_cons.mp z).elim hx.2 hn) y (List.mem_cons_of_mem _ hy)⟩
      have := o.1 x hx
      rw [e] at this
      omega
    have := ini_take (S := fun x => S x ∧ x ≠ p) (fun x y hx hy' e => hy x y hx.1 hy'.1 e) (tl hl) (tl hm) (by simpa using h)
    rw [List.length_cons, List.take_succ_cons, ← this]
theorem ord_nodup {l : List (Int × Int)} (h : l.Pairwise (fun p q => p.2 < q.2)) : l.Nodup := by
  refine List.Pairwise.imp (fun {a b} z e => ?_) h
  subst e
  omega
/-- all up to a bound -/
structure UpTo (d n M : Int) (l : List (Int × Int)) : Prop where
  nd : l.Nodup
  mem : ∀ p, p ∈ l ↔ Sol d n p ∧ p.2 ≤ M
theorem upto_len {d n M : Int} {l m : List (Int × Int)} (hl : UpTo d n M l) (hm : UpTo d n M m) : l.length = m.length :=
  Nat.le_antisymm (nodup_sub_len hl.nd fun x hx => (hm.mem x).mpr ((hl.mem x).mp hx)) (nodup_sub_len hm.nd fun x hx => (hl.mem x).mpr ((hm.mem x).mp hx))
/-! ### how many heads -/
def bOk (d : Int) : Bool := decide (200 * (uT d + 1) < 400 * 400 * (2 * d))
theorem bnd_le4 {d n : Int} (h : rootD d = true) (hn : norOk n = true) : bnd d n < 400 := by
  have hb : 200 * (uT d + 1) < 400 * 400 * (2 * d) := of_decide_eq_true (all_d (c := bOk) (by decide +kernel) h)
  have hd := root_le h
  have hr := bnd_root h hn
  have hu := u_ok h
  have h1 := hu.t2
  have h3 := norOk_iff.mp hn
  have a2 : (n.natAbs : Int) * (uT d + 1) ≤ 200 * (uT d + 1) := Int.mul_le_mul_of_nonneg_right (by omega) (by omega)
  have a4 : (n.natAbs : Int) * (uT d + 1) / (2 * d) < 400 * 400 := by
    apply Int.ediv_lt_of_lt_mul (by omega)
    omega
  have h5 := hr.le
  have := lt_of_sq (a := (bnd d n : Int)) (b := 400) (by omega) (by omega)
  omega
theorem hds_len8 {d n : Int} (h : rootD d = true) (hn : norOk n = true) : (hds d n).length ≤ 800 := by
  have hb := bnd_le4 h hn
  have h1 := len_flat (len_solY d n) (List.range (bnd d n + 1))
  rw [List.length_range] at h1
  have h2 := List.length_filter_le (headB d) ((List.range (bnd d n + 1)).flatMap (solY d n))
  have h3 := len_isort (((List.range (bnd d n + 1)).flatMap (solY d n)).filter (headB d))
  unfold hds
  omega
/-! ### the first ones of all families -/
def fams (d : Int) (hs : List (Int × Int)) (m : Nat) : List (Int × Int) := hs.flatMap fun h => (List.range m).map (cl d h)
theorem fams_len (d : Int) (hs : List (Int × Int)) (m : Nat) : (fams d hs m).length = hs.length * m := by
  unfold fams
  induction hs with
  | nil => simp
  | cons a l ih => simp only [List.flatMap_cons, List.length_append, List.length_map, List.length_range, ih, List.length_cons, Nat.succ_mul]; omega
theorem mem_fams {d : Int} {hs : List (Int × Int)} {m : Nat} {p : Int × Int} : p ∈ fams d hs m ↔ ∃ h ∈ hs, ∃ i, i < m ∧ p = cl d h i := by
  unfold fams
  rw [List.mem_flatMap]
  constructor
  · rintro ⟨h, hh, hp⟩
    obtain ⟨i, hi, rfl⟩ := List.mem_map.mp hp
    exact ⟨h, hh, i, List.mem_range.mp hi, rfl⟩
  · rintro ⟨h, hh, i, hi, rfl⟩
    exact ⟨h, hh, List.mem_map.mpr ⟨i, List.mem_range.mpr hi, rfl⟩⟩
def sw (p : Int × Int) : Int × Int := (p.2, p.1)
theorem sw_sw (p : Int × Int) : sw (sw p) = p := rfl
theorem range_cl_nodup {d n : Int} (hd : rootD d = true) (hn : norOk n = true) {h : Int × Int} (hh : h ∈ hds d n) (m : Nat) : ((List.range m).map (cl d h)).Nodup := by
  refine List.Pairwise.map _ (fun {a b} z e => ?_) (List.nodup_range (n := m))
  exact z (cl_inj hd hn hh hh e).2
theorem fams_nodup {d n : Int} (hd : rootD d = true) (hn : norOk n = true) (m : Nat) : ∀ {hs : List (Int × Int)}, hs.Nodup → (∀ h ∈ hs, h ∈ hds d n) → (fams d hs m).Nodup
  | [], _, _ => List.nodup_nil
  | h :: hs, nd, hm => by
    rw [List.nodup_cons] at nd
    show ((List.range m).map (cl d h) ++ fams d hs m).Nodup
    rw [List.nodup_append]
    refine ⟨range_cl_nodup hd hn (hm h List.mem_cons_self) m, fams_nodup hd hn m nd.2 fun g hg => hm g (List.mem_cons_of_mem _ hg), fun a ha b hb e => ?_⟩
    obtain ⟨i, _, rfl⟩ := List.mem_map.mp ha
    obtain ⟨g, hg, j, _, rfl⟩ := mem_fams.mp hb
    have := (cl_inj hd hn (hm h List.mem_cons_self) (hm g (List.mem_cons_of_mem _ hg)) e).1
    exact nd.1 (this ▸ hg)
theorem first_ok {d n : Int} (hd : rootD d = true) (hn : norOk n = true) {m : Nat} {qs : List (Int × Int)} (hp : qs.Perm ((fams d (hds d n) m).map sw)) (hs : qs.Pairwise (fun p q => ¬ ltL q p)) :
    Ini (Sol d n) ((qs.take m).map sw) ∧ ((qs.take m).map sw).length = if hds d n = [] then 0 else m := by
  have ndA := fams_nodup hd hn m (hds_nodup d n) fun h hh => hh
  have mA : ∀ p ∈ fams d (hds d n) m, Sol d n p := fun p hp => by
    obtain ⟨h, hh, i, _, rfl⟩ := mem_fams.mp hp
    exact cl_sol hd hn hh i
  obtain ⟨rs, hrs⟩ : ∃ rs, rs = qs.map sw := ⟨_, rfl⟩
  have prs : rs.Perm (fams d (hds d n) m) := by
    have := hp.map sw
    rw [List.map_map] at this
    rw [hrs]
    have e : (sw ∘ sw : Int × Int → Int × Int) = id := funext fun p => rfl
    rw [e, List.map_id] at this
    exact this
  have ord : rs.Pairwise (fun p q => p.2 < q.2) := by
    have nd : rs.Nodup := prs.nodup_iff.mpr ndA
    have o1 : rs.Pairwise (fun p q => ¬ ltL (sw q) (sw p)) := by
      rw [hrs, List.pairwise_map]
      exact hs
    have hall := List.pairwise_and_iff.mpr ⟨o1, nd⟩
    refine List.Pairwise.imp_of_mem (fun {a b} ha hb z => ?_) hall
    have sa := mA a (prs.mem_iff.mp ha)
    have sb := mA b (prs.mem_iff.mp hb)
    by_cases e : a.2 = b.2
    · exact absurd (sol_y sa sb e) z.2
    · have := z.1
      unfold ltL sw at this
      simp only at this
      omega
  have et : (qs.take m).map sw = rs.take m := by rw [hrs, List.map_take]
  rw [et]
  refine ⟨⟨List.Pairwise.sublist (List.take_sublist m rs) ord, fun p hp => mA p (prs.mem_iff.mp (List.mem_of_mem_take hp)), fun p hp hno q hq => ?_⟩, ?_⟩
  · by_cases hin : p ∈ rs
    · -- it stands behind
      have : p ∈ rs.drop m := by
        rw [← List.take_append_drop m rs] at hin
        exact (List.mem_append.mp hin).resolve_left hno
      have o := ord
      rw [← List.take_append_drop m rs, List.pairwise_append] at o
      exact o.2.2 q hq p this
    · -- m others of its family stand before
      obtain ⟨h, hh, i, rfl⟩ := sol_cl hd hn hp
      have hi : m ≤ i := by
        by_cases z : m ≤ i
        · exact z
        · exact absurd (prs.mem_iff.mpr (mem_fams.mpr ⟨h, hh, i, by omega, rfl⟩)) hin
      by_cases z : q.2 < (cl d h i).2
      · exact z
      · exfalso
        obtain ⟨j, hj, ej⟩ := List.getElem_of_mem hq
        have hjm : j < m := by
          rw [List.length_take] at hj
          omega
        have hjr : j < rs.length := by
          rw [List.length_take] at hj
          omega
        have eq : rs[j] = q := by rw [← ej, List.getElem_take]
        have hsub : ∀ x ∈ (List.range m).map (cl d h), x ∈ rs.take j := fun x hx => by
          obtain ⟨k, hk, rfl⟩ := List.mem_map.mp hx
          have hk := List.mem_range.mp hk
          have xin : cl d h k ∈ rs := prs.mem_iff.mpr (mem_fams.mpr ⟨h, hh, k, hk, rfl⟩)
          have lt : (cl d h k).2 < (cl d h i).2 := cl_lt hd hn hh (by omega)
          rw [← List.take_append_drop j rs] at xin
          rcases List.mem_append.mp xin with w | w
          · exact w
          · exfalso
            have ed : rs.drop j = q :: rs.drop (j + 1) := by rw [List.drop_eq_getElem_cons hjr, eq]
            rw [ed] at w
            rcases List.mem_cons.mp w with w | w
            · rw [w] at lt; exact z lt
            · have o := ord
              rw [← List.take_append_drop j rs, List.pairwise_append, ed] at o
              have := (List.pairwise_cons.mp o.2.1).1 _ w
              omega
        have := nodup_sub_len (range_cl_nodup hd hn hh m) hsub
        rw [List.length_map, List.length_range, List.length_take] at this
        omega
  · rw [List.length_take, prs.length_eq, fams_len]
    split
    · rename_i z
      rw [z]
      simp
    · rename_i z
      have : 1 ≤ (hds d n).length := List.length_pos_iff.mpr z
      have := Nat.mul_le_mul_right m this
      omega
end ND
namespace ND
open PySem PySem.Spec PyProof.Rows L2
/-! ## sets of ints -/
section
variable {X : Cx}
/-- sorted(s) of a set of ints -/
theorem cr_sortedSetA (hc : X.calm = true) : CallR X (.builtin "sorted") (fun vs H Q => ∃ (a : Addr) (S : Int → Bool) (n : Nat), vs = [V.ref a] ∧ H a = some (SetO X.w a S n) ∧ n ≤ sizeLine ∧ ∀ (ns : List Int) (p : Addr), ns.Pairwise (· < ·) → (∀ k : Int, k ∈ ns ↔ S k = true) → H p = none → Q (.ref p) (upd H p (.lst (ns.map V.int)))) := by
  rintro pins s σ H _ us Q I r ⟨a, S, n, rfl, ha, hn, q⟩
  cases Vals.ref1 r
  obtain ⟨o, es, ep, t, ho, ex, dt, ks, nd, hm, bd, ft, sz, rs, ld⟩ := setO_get I ha
  apply sorted_from SrtO.swo_int
  apply collect_set (A := X.A.in1) (I.ok.hd hc) ⟨o, ho, ex.1, dt⟩ ft bd rs ld
  intro s1 vs kp grow gens os pm
  have isI : IntsAre vs (vs.map Builtin.Re.reRawOf) := ints_of vs fun v hv => by
    obtain ⟨e, he, rfl⟩ := List.mem_map.mp (pm.mem_iff.mp hv)
    exact (ks e he).imp fun k z => z.imp fun t z => z.1
  have keys : (vs.map Builtin.Re.reRawOf).Perm (es.toList.map keyOf) := by
    have pm2 := pm.map Builtin.Re.reRawOf
    rw [List.map_map (l := es.toList)] at pm2
    exact pm2
  have len : vs.length = n := by simpa [sz] using pm.length_eq
  constructor
  · omega
  · exact fun h b two _ _ => SrtO.ints_sortable isI two
  · intro out h c so st kp2 at2
    obtain ⟨i1, i2, i3⟩ := SrtO.ints_out isI so st
    have perm := i2.trans keys
    have ord := lt_of_le_nodup _ i3 (perm.nodup_iff.mpr nd)
    have size : ((out.map SrtO.iv).map V.int).length ≤ sizeLine := by
      rw [List.length_map, i2.length_eq, List.length_map]
      omega
    have kp3 : ∀ b ob, s.heap.get? b = some ob → h.get? b = some ob := fun b ob e => kp2 b ob (kp b ob e)
    have fr : H s1.heap.objs.size = none := I.hok.fresh grow
    have J : Inv X pins σ (upd H s1.heap.objs.size (.lst ((out.map SrtO.iv).map V.int))) { s with heap := h, gens := s1.gens, drawn := s1.drawn, toks := s1.toks } :=
      I.call (ch := []) (Un.laid kp3 grow fr) (I.hok.laid kp3 grow ⟨size, out, c, vals_of_ints i1, at2⟩) (by rw [gens]; exact I.bare) (fun _ z => nomatch z)
    have same : { s1 with heap := h } = { s with heap := h, gens := s1.gens, drawn := s1.drawn, toks := s1.toks } := by
      cases s1; cases s; cases os; rfl
    rw [same]
    exact ⟨.ref s1.heap.objs.size, _, J, rfl, q _ _ ord (fun k => (perm.mem_iff).trans (hm k).symm) fr⟩
end
section
variable {P : Program} {w : World} {A : Around} {E : Value → Shared → Prop} {s : Shared}
/-- a built-in type called: its __new__, then its __init__ -/
theorem call_made {T nw ini : String} {args : List Value} {Q Q1 : Value → Shared → Prop} (ft : TypeCalled T nw ini) (ok : checkTypeCall T ⟨args, []⟩ = pure ())
    (made : codeAny (model P w) A.in1 (.call (.builtin nw) ⟨.type T :: args, []⟩) (wants Q1 E) s)
    (fill : ∀ v s1, Q1 v s1 → s1.TypeIs v T ∧ codeAny (model P w) A.in1 (.call (.builtin ini) ⟨v :: args, []⟩) (wants (fun r s2 => r = .none ∧ Q v s2) E) s1) :
    wpAny (model P w) A (call (.type T) args) Q E s := by
  rcases ft with ⟨f1, f2, ⟨c0, cs, f3⟩, f4, f5, f6, f7⟩
  apply wpAny_call
  apply codeAny_of_tree
  change wpAny _ _ (callAny (.type T) _) _ _ _
  apply wpAny_pure
  constructor
  · exact Code.quiet_builtin _ (by decide +kernel)
  apply codeAny_builtin F.entry_type_call
  have plain := Around.under_plain (A := A) (weight_type_call_type T args []) (units_type_call_type T args [])
  rw [plain]
  repeat' (first | assumption | wp_step)
  apply codeAny_mono made
  intro r s1 hr
  match r, hr with
  | .error _, hr => exact hr
  | .ok (.ret v), hr =>
    obtain ⟨ty, run⟩ := fill v s1 hr
    have g1 := f7.lookup
    have g2 := f7.bind v
    repeat' (first | assumption | wp_step)
    apply codeAny_mono run
    intro r2 s2 hr2
    match r2, hr2 with
    | .error _, hr2 => exact hr2
    | .ok (.ret _), ⟨rfl, hq⟩ =>
      repeat' (first | assumption | wp_step)
/-- the empty set, new -/
abbrev set0 (w : World) : Obj := { cls := .type "set", dict := none, data := .set #[] 0 (.fresh 0 0 (!w.params.followText "set-order")) }
/-- it is filled from a list of ints -/
theorem set_filled {l p : Addr} {its : Array Value} {ns : List Int} {R : Fin → Shared → Prop} (hh : A.handled = none) (L : s.heap.IsList l its) (isI : IntsAre its.toList ns) (room : ns.length + 1 < scanBound) (at0 : s.heap.get? p = some (set0 w))
    (q : ∀ h tk c, SetR w h p (fun j => decide (j ∈ ns)) c → c ≤ ns.length → (∀ b o, b ≠ p → s.heap.get? b = some o → h.get? b = some o) → R (.done (.ret .none)) { s with heap := h, toks := tk }) :
    wpAny (model P w) A (Builtin.«set.__init__» ⟨[.ref p, .ref l], []⟩) R E s := by
  have tp : s.TypeIs (.ref p) "set" := ⟨_, at0, rfl⟩
  have tl := L.typeIs
  have s1 := F.sub_list_set
  have s2 := F.sub_list_frozenset
  have nd : (Value.type "list" == Value.type "dict") = false := by decide
  unfold Builtin.«set.__init__» Builtin.Frozenset.updateFrom noKeywords
  generalize gi : pyIter = PI
  repeat' (first | assumption | wp_step)
  subst gi
  have lp : l < s.heap.objs.size := L.elim fun _ z => Heap.lt_size z.1
  have pp : p < s.heap.objs.size := Heap.lt_size at0
  have pl : p ≠ l := by
    rintro rfl
    obtain ⟨o, o1, o2, _⟩ := L
    cases Option.some.inj (at0.symm.trans o1)
    exact absurd o2 (by simp)
  apply wpAny_pyIter_list L
  apply wpAny_bind
  apply wpAny_runValue
  have hh1 : (A.in1).handled = none := hh
  have out : p ∉ [s.heap.objs.size, l] := by
    simp only [List.mem_cons, List.not_mem_nil, or_false, not_or]
    exact ⟨Nat.ne_of_lt pp, pl⟩
  have len : its.size = ns.length := by simpa using IntsAre.length isI
  apply set_update_ints (Walks.list hh1 s.heap.objs.size l (Nat.ne_of_lt lp) its).toS p out ns len room _ ns.length 0 _ (by omega) (Nat.zero_le _) ⟨⟨_, Heap.get?_push_size _ rfl, rfl, rfl⟩, L.push _⟩ ⟨0, Nat.le_refl _, setR_new_at (Heap.get?_push_of_some _ at0)⟩
  · rintro ⟨h, g, d, tk, os⟩ c mv cn R1
    have eg : g = s.gens := mv.gens
    have ed : d = s.drawn := mv.drawn
    have eo : os = s.os := mv.os
    subst eg ed eo
    apply wpAny_pure
    apply wpAny_pure
    refine q h tk c R1 (by omega) fun b o nb e => mv.heap b o ?_ (Heap.get?_push_of_some _ e)
    simp only [List.mem_cons, List.not_mem_nil, or_false, not_or]
    exact ⟨nb, Nat.ne_of_lt (Heap.lt_size e)⟩
  · intro i v hv
    obtain ⟨t, rfl⟩ := IntsAre.int_at isI i v (by rw [Array.getElem?_toList]; exact hv)
    have li : i < ns.length := by
      have := (Array.getElem?_eq_some_iff.mp hv).1
      omega
    exact ⟨_, t, by simp [List.getD_eq_getElem?_getD, List.getElem?_eq_getElem li], rfl⟩
theorem set_of_list {l : Addr} {its : Array Value} {ns : List Int} {Q : Value → Shared → Prop} (hh : A.handled = none) (L : s.heap.IsList l its) (isI : IntsAre its.toList ns) (room : ns.length + 1 < scanBound)
    (q : ∀ h tk c, SetR w h s.heap.objs.size (fun j => decide (j ∈ ns)) c → c ≤ ns.length → (∀ b o, s.heap.get? b = some o → h.get? b = some o) → Q (.ref s.heap.objs.size) { s with heap := h, toks := tk }) :
    wpAny (model P w) A (call (.type "set") [.ref l]) Q E s := by
  apply call_made F.called_set (F.typeCall_set_1 _) (code_set_led1 (.ref l) (Q₁ := fun v s1 => v = .ref s.heap.objs.size ∧ s1 = { s with heap := s.heap.push (set0 w) }) ⟨rfl, rfl⟩)
  rintro _ _ ⟨rfl, rfl⟩
  have at0 : (s.heap.push (set0 w)).get? s.heap.objs.size = some (set0 w) := Heap.get?_push_size _ rfl
  have ty : Shared.TypeIs { s with heap := s.heap.push (set0 w) } (.ref s.heap.objs.size) "set" := ⟨_, at0, rfl⟩
  refine ⟨ty, codeAny_call_builtin F.called_set.init.plain F.entry_set_init (check_set_init_1 ty ?_)⟩
  apply set_filled (s := { s with heap := s.heap.push (set0 w) }) (its := its) (ns := ns) _ (L.push _) isI room at0
  · intro h tk c R1 cn kp
    exact ⟨rfl, q h tk c R1 cn fun b o e => kp b o (Nat.ne_of_lt (Heap.lt_size e)) (Heap.get?_push_of_some _ e)⟩
  · exact hh
end
section
variable {X : Cx}
theorem cr_setL (hc : X.calm = true) : CallR X (.type "set") (fun vs H Q => ∃ (a : Addr) (ns : List Int), vs = [V.ref a] ∧ SqL X.K H a (ns.map V.int) ∧ ns.length ≤ 1000 ∧ ∀ (p : Addr) (c : Nat), c ≤ ns.length → H p = none → Q (.ref p) (upd H p (SetO X.w p (fun j => decide (j ∈ ns)) c))) := by
  rintro pins s σ H _ us Q I r ⟨a, ns, rfl, sq, len, q⟩
  cases Vals.ref1 r
  obtain ⟨its, rv, L, _⟩ := I.list sq
  apply set_of_list (I.ok.hd hc) L.isList rv.ints (by unfold scanBound; omega)
  intro h tk c R1 cn kp
  exact ⟨.ref s.heap.objs.size, _, I.laid (t' := tk) kp (Nat.le_refl _) (setO_new R1), rfl, q _ c cn (I.hok.fresh (Nat.le_refl _))⟩
end
end ND
namespace ND
open PySem PySem.Spec PyProof.Rows L2
/-! ## sorted(set(xs)), a list of ints -/
abbrev rSrtS (w : World) : List V → Hp → VK → Prop := fun vs H Q => ∃ (a : Addr) (S : Int → Bool) (n : Nat), vs = [V.ref a] ∧ H a = some (SetO w a S n) ∧ n ≤ sizeLine ∧ ∀ (ns : List Int) (p : Addr), ns.Pairwise (· < ·) → (∀ k : Int, k ∈ ns ↔ S k = true) → H p = none → Q (.ref p) (upd H p (.lst (ns.map V.int)))
abbrev rSetL (K : PySem.W.Frag) (w : World) : List V → Hp → VK → Prop := fun vs H Q => ∃ (a : Addr) (ns : List Int), vs = [V.ref a] ∧ (SqL K H a (ns.map V.int) ∨ SqT K H a (ns.map V.int)) ∧ ns.length ≤ 1000 ∧ ∀ (p : Addr) (c : Nat), c ≤ ns.length → H p = none → Q (.ref p) (upd H p (SetO w p (fun j => decide (j ∈ ns)) c))
def dSrtSet (de : DE) : DE := fun S c k => de S c fun x c1 => match sqOf x with
  | some xs => ∃ ns : List Int, xs = ns.map PyData.int ∧ ns.length ≤ 1000 ∧ ∀ ms : List Int, ms.Pairwise (· < ·) → (∀ j, j ∈ ms ↔ j ∈ ns) → k (.own (ms.map PyData.int)) c1
  | none => False
section
variable {X : Cx}
theorem cr_setI (hc : X.calm = true) : CallR X (.type "set") (rSetL X.K X.w) := by
  rintro pins s σ H _ us Q I r ⟨a, ns, rfl, sq | sq, len, q⟩
  · exact cr_setL hc pins s σ H _ us Q I r ⟨a, ns, rfl, sq, len, q⟩
  · cases Vals.ref1 r
    obtain ⟨its, rv, T, _⟩ := I.tuple sq
    apply call_set_tupI ns (I.ok.hd hc) T rv.ints (by unfold scanBound; omega)
    intro h tk c R1 cn kp
    exact ⟨.ref s.heap.objs.size, _, I.laid (t' := tk) kp (Nat.le_refl _) (setO_new R1), rfl, q _ c cn (I.hok.fresh (Nat.le_refl _))⟩
theorem de_sortset {E : Expr} {de : DE} (hp : PE X E (tCB (rSrtS X.w) (tCons (tCB (rSetL X.K X.w) (tCons (LE X.K de) tNil)) tNil))) : PE X E (LE X.K (dSrtSet de)) := by
  refine PE.le hp fun σ H Q h => ?_
  obtain ⟨T, n, S, c, k, hS, h, q⟩ := h
  refine ⟨T, n, S, c, _, hS, h, fun e1 c1 h1 v1 H1 f1 t1 r1 => ?_⟩
  split at h1
  · rename_i xs ex
    obtain ⟨ns, rfl, len, h1⟩ := h1
    obtain ⟨a, ws, rfl, r2, s1⟩ := sqOf_rv r1.rv ex
    have ew := r2.ints
    subst ew
    refine ⟨a, ns, rfl, s1.imp (fun z => z.2) (fun z => z.1), len, fun p m hm hp => ?_⟩
    refine ⟨p, _, m, rfl, upd_same, Nat.le_trans hm (line_of (by omega)), fun ms p2 so mem hp2 => ?_⟩
    have sm := same_upd (o := SetO X.w p (fun j => decide (j ∈ ns)) m) hp
    have f2 : FrT T H1 (upd H1 p (SetO X.w p (fun j => decide (j ∈ ns)) m)) := frT_same sm
    have t2 := tw_same t1 sm
    have sm2 := same_upd (o := HO.lst (ms.map V.int)) hp2
    refine q _ _ (h1 ms so fun j => (mem j).trans (by simp)) _ _ (f1.trans (f2.trans (frT_same sm2))) (tw_same t2 sm2) ?_
    exact rf_trans (c' := c1) (rf_own hp2 (rpAll_ints ms) t2) (f1.trans f2) hS.tow
  · exact h1.elim
end
/-! ## [f(x, y) for x in xs for y in ys], two lists that have names -/
def lsAt (S : Sl) (i : Nat) : Option (List PyData) := match S[i]? with
  | some (some e) => lsOf e
  | _ => none
def dLc2 (p q i j : Nat) (de : DE) : DE := fun S c k => ∃ xs ys, ∃ f : PyData → PyData → PyData, lsAt S p = some xs ∧ lsAt S q = some ys ∧ xs.length * ys.length < 100000 ∧
  (∀ x ∈ xs, ∀ y ∈ ys, de ((wipeS ((wipeS S [i, j]).set i (some (.im x))) [j]).set j (some (.im y))) c fun e c' => e = .im (f x y) ∧ c' = c) ∧ k (.own (xs.flatMap fun x => ys.map (f x))) c
theorem lsAt_rep {K : PySem.W.Frag} {T : Option Addr} {n : Nat} {c : Cn} {S : Sl} {σ : SS} {H : Hp} {i : Nat} {xs : List PyData} (hS : Hd K T n S c σ H) (h : lsAt S i = some xs) : ∃ a us, σ[i]? = some (some (.ref a)) ∧ Nt T H a ∧ H a = some (.lst us) ∧ RpAll K H us xs := by
  unfold lsAt at h
  split at h
  · rename_i e he
    obtain ⟨v, e1, r⟩ := hS.rep i e he
    obtain ⟨a, us, rfl, z⟩ := lsOf_rv r h
    exact ⟨a, us, e1, z⟩
  · cases h
/-- a walk over a list that stays -/
theorem walk_list {K : PySem.W.Frag} {a : Addr} {us : List V} {Hs : Hp} {Pv : Nat → Hp → Prop} {Fin : Hp → Prop} {St : V → Hp → (Hp → Prop) → Prop} (p0 : Pv 0 Hs) (kp : ∀ i H, Pv i H → H a = some (.lst us)) (done : ∀ H, Pv us.length H → Fin H)
    (turn : ∀ i v H, us[i]? = some v → Pv i H → St v H (Pv (i + 1))) : ∃ W : Nat → Nat → Hp → Prop, (∃ m, W 0 m Hs) ∧ ∀ i m H, W i m H →
      ((Itl K a).stop i H ∧ Fin H) ∨ ((Itl K a).go i H ∧ ∃ Nx : Hp → Prop, (∀ H', Nx H' → ∃ m', m' < m ∧ W (i + 1) m' H') ∧ ∀ v H', (Itl K a).yld i H v H' → St v H' Nx) := by
  refine ⟨fun i m H => Pv i H ∧ i + m = us.length, ⟨us.length, p0, Nat.zero_add _⟩, ?_⟩
  rintro i m H ⟨p, e⟩
  have at_ : SqL K H a us := .inl (.inl (kp i H p))
  cases m with
  | zero =>
    have ei : i = us.length := by omega
    exact .inl ⟨⟨us, at_, Nat.le_of_eq ei.symm⟩, done H (ei ▸ p)⟩
  | succ m =>
    have li : i < us.length := by omega
    refine .inr ⟨⟨us, us[i], at_, List.getElem?_eq_getElem li⟩, Pv (i + 1), fun H' p' => ⟨m, Nat.lt_succ_self m, p', by omega⟩, ?_⟩
    rintro v H' ⟨rfl, hv⟩
    exact turn i v _ (hv us at_) p
section
variable {X : Cx}
theorem wipe_set_in {σ : SS} {v : Option V} : ∀ {vs : List Nat} {i : Nat}, i ∈ vs → L2.wipe (σ.set i v) vs = L2.wipe σ vs := by
  intro vs i hi
  refine wipe_ext (by simp) fun j hj => ?_
  have ne : i ≠ j := fun e => hj (by rw [← e]; exact hi)
  exact List.getElem?_set_ne ne
theorem de_lc2 {E : Expr} {p q i j : Nat} {de : DE} (np : p ≠ i ∧ p ≠ j) (nq : q ≠ i ∧ q ≠ j) (hp : PE X E (tLc2 (iList X.K (tVar p)) (gName i) tYes (iList X.K (tVar q)) (gName j) tYes (LE X.K de) [i, j] [j])) : PE X E (LE X.K (dLc2 p q i j de)) := by
  refine PE.le hp fun σ H Q h => ?_
  obtain ⟨T, n, S, c, k, hS, ⟨xs, ys, f, hx, hy, len, el, kk⟩, q⟩ := h
  obtain ⟨a, us, ea, nta, ha, ra⟩ := lsAt_rep hS hx
  obtain ⟨b, ws, eb, ntb, hb, rb⟩ := lsAt_rep hS hy
  refine ⟨_, ea, a, rfl, ⟨us, .inl (.inl ha)⟩, fun D hD => ?_⟩
  let In : List PyData → Hp → Prop := fun acc G => ∃ zs, FrT T H G ∧ Tw T n c G ∧ G D = some (.lst zs) ∧ RpAll X.K G zs acc ∧ Nt T G D
  have i0 : In [] (upd H D (.lst [])) := ⟨[], frT_same (same_upd hD), tw_same hS.tow (same_upd hD), upd_same, .nil, nt_new hS.tow hD⟩
  refine walk_list (Pv := fun m G => In ((xs.take m).flatMap fun x => ys.map (f x)) G) (by simpa using i0) (fun m G ⟨_, fr, _⟩ => fr.keep a _ ha nta) ?_ ?_
  · rintro G ⟨zs, fr, tw, d1, rz, ntD⟩
    rw [ra.len, List.take_length] at rz
    exact q _ _ kk (.ref D) G fr tw ⟨⟨D, zs, rfl, ntD, d1, rz⟩, ⟨D, zs, rfl, hD, d1, rz⟩⟩
  rintro m v G hv I
  have lm : m < xs.length := by rw [← ra.len]; exact (List.getElem?_eq_some_iff.mp hv).1
  obtain ⟨v', hv', rv⟩ := ra.get (List.getElem?_eq_getElem lm)
  cases Option.some.inj (hv.symm.trans hv')
  have hd1 := ((hS.wipe [i, j]).im i rv).1
  refine ⟨by rw [wipe_set_in (by simp)]; exact wipe_ext (wipe_length σ _) fun l hl => wipe_out hl, ?_⟩
  refine ⟨.ref b, ?_, b, rfl, ?_, ?_⟩
  · rw [List.getElem?_set_ne (Ne.symm nq.1), wipe_out (by simp [nq.1, nq.2])]
    exact eb
  · obtain ⟨_, fr, _⟩ := I
    exact ⟨ws, .inl (.inl (fr.keep b _ hb ntb))⟩
  have tk : xs.take (m + 1) = xs.take m ++ [xs[m]] := by rw [List.take_succ, List.getElem?_eq_getElem lm]; rfl
  refine walk_list (Pv := fun l G => In ((xs.take m).flatMap (fun x => ys.map (f x)) ++ (ys.take l).map (f xs[m])) G) (by simpa using I) (fun l G ⟨_, fr, _⟩ => fr.keep b _ hb ntb) ?_ ?_
  · intro G I
    rw [rb.len, List.take_length] at I
    rw [tk, List.flatMap_append]
    simpa using I
  rintro l u G hu I
  have ll : l < ys.length := by rw [← rb.len]; exact (List.getElem?_eq_some_iff.mp hu).1
  obtain ⟨u', hu', ru⟩ := rb.get (List.getElem?_eq_getElem ll)
  cases Option.some.inj (hu.symm.trans hu')
  have hd2 := ((hd1.wipe [j]).im j ru).1
  obtain ⟨zs, fr, tw, d1, rz, ntD⟩ := I
  refine ⟨by rw [wipe_set_in (by simp)]; exact wipe_ext (wipe_length _ _) fun r hr => wipe_out hr, ?_⟩
  refine ⟨T, n, _, c, _, hd2.mono fr tw, el _ (List.getElem_mem lm) _ (List.getElem_mem ll), ?_⟩
  rintro _ _ ⟨rfl, rfl⟩ y G2 f2 t2 r2
  have d2 := f2.keep _ _ d1 ntD
  have nt2 := f2.nt ntD d1
  have f3 := fr.trans f2
  have rz2 : RpAll X.K G2 zs _ := RpAll.ke (f2.ke tw) _ _ rz
  have ke : Ke G2 (upd G2 D (.lst (zs ++ [y]))) := fun b' o h => by
    by_cases z : b' = D
    · subst z; rw [d2] at h; cases h; exact .inl (.lst _)
    · exact .inr (by rw [upd_ne z]; exact h)
  have small : zs.length < 100000 := by
    rw [rz.len]
    have e1 : ∀ l : List PyData, (l.flatMap fun x => ys.map (f x)).length = l.length * ys.length := fun l => by
      induction l with
      | nil => simp
      | cons x l ih => rw [List.flatMap_cons, List.length_append, ih, List.length_map, List.length_cons, Nat.succ_mul, Nat.add_comm]
    rw [List.length_append, e1, List.length_map, List.length_take, List.length_take, Nat.min_eq_left (Nat.le_of_lt lm), Nat.min_eq_left (Nat.le_of_lt ll)]
    have : (m + 1) * ys.length ≤ xs.length * ys.length := Nat.mul_le_mul_right _ lm
    rw [Nat.succ_mul] at this
    omega
  refine ⟨zs, d2, sz_lt small, zs ++ [y], ⟨fun b' o h nt => ?_, fun b' m => f3.mu b' (mu_upd d2 m), fun b' h => ?_⟩, tw_upd t2 d2 nt2, upd_same, ?_, ⟨nt2.1, fun m => nt2.2 (mu_upd d2 m)⟩⟩
  · have hb : b' ≠ D := fun z => by rw [z, hD] at h; cases h
    rw [upd_ne hb]
    exact f3.keep b' o h nt
  · by_cases z : b' = D
    · rw [z]; exact hD
    · rw [upd_ne z] at h
      exact f3.trk b' h
  · have tk2 : ys.take (l + 1) = ys.take l ++ [ys[l]] := by rw [List.take_succ, List.getElem?_eq_getElem ll]; rfl
    rw [tk2, List.map_append, ← List.append_assoc]
    exact RpAll.ke ke _ _ (rz2.append (.cons r2.rv .nil))
end
end ND
namespace ND
open PySem PySem.Spec L2
/-! ## strings as data -/
theorem nice_str (n : Nat) {s : Str} (h : (PyData.str s).canLay0 = true) : Nice n (.str s) := ⟨h, by simp [PyData.depth]⟩
theorem shp_str {s : Str} (h : (PyData.str s).canLay0 = true) : Shp (.str s) := (nice_str 0 h).shp (by decide)
theorem nice_two {n : Nat} {a b : PyData} (ha : Nice n a) (hb : Nice n b) : Nice (n + 1) (.tuple [a, b]) := nice_tup fun x hx => by
  rcases List.mem_cons.mp hx with rfl | hx
  · exact ha
  · cases List.mem_singleton.mp hx
    exact hb
theorem eqv_str (a b : Str) : PyData.eqv (.str a) (.str b) = (a == b) := by simp only [PyData.eqv]
theorem eqv_si (a b : Str) (i j : Int) : PyData.eqv (.tuple [.str a, .int i]) (.tuple [.str b, .int j]) = ((a == b) && decide (i = j)) := by
  simp only [PyData.eqv, PyData.eqvAll, Bool.and_true]
  by_cases h : i = j <;> simp [h]
/-! ## what a modulus bars -/
def barB (d n m : Int) : Bool := (List.range m.toNat).all fun x => (List.range m.toNat).all fun y => decide (((x : Int) * x - d * ((y : Int) * y) - n) % m ≠ 0)
theorem mod_sqs (d n m x y : Int) : (x * x - d * (y * y) - n) % m = (x * x % m - d * (y * y % m) - n) % m := by
  have h1 := Int.emod_add_mul_ediv (x * x) m
  have h2 := Int.emod_add_mul_ediv (y * y) m
  generalize x * x % m = r at *
  generalize x * x / m = q at *
  generalize y * y % m = r' at *
  generalize y * y / m = q' at *
  rw [← h1, ← h2]
  have e : r + m * q - d * (r' + m * q') - n = (r - d * r' - n) + m * (q - d * q') := by
    rw [Int.mul_add, Int.mul_sub, ← Int.mul_assoc d m, ← Int.mul_assoc m d, Int.mul_comm d m]
    omega
  rw [e, Int.add_mul_emod_self_left]
theorem sq_mod (x m : Int) : (x % m) * (x % m) % m = x * x % m := by rw [← Int.mul_emod]
theorem barB_iff {d n m : Int} (hm : 0 < m) : barB d n m = true ↔ ∀ x y : Int, (x * x - d * (y * y) - n) % m ≠ 0 := by
  unfold barB
  simp only [List.all_eq_true, List.mem_range, decide_eq_true_eq]
  constructor
  · intro h x y
    have hx := Int.emod_nonneg x (Int.ne_of_gt hm)
    have hy := Int.emod_nonneg y (Int.ne_of_gt hm)
    have lx := Int.emod_lt_of_pos x hm
    have ly := Int.emod_lt_of_pos y hm
    have := h (x % m).toNat (by omega) (y % m).toNat (by omega)
    rw [Int.toNat_of_nonneg hx, Int.toNat_of_nonneg hy, mod_sqs, sq_mod, sq_mod, ← mod_sqs] at this
    exact this
  · intro h x _ y _
    exact h x y
/-- the squares' remainders -/
def sqm (m : Int) : List Int := (List.range m.toNat).map fun x : Nat => (x : Int) * x % m
theorem mem_sqm {m a : Int} (hm : 0 < m) : a ∈ sqm m ↔ ∃ x : Int, a = x * x % m := by
  unfold sqm
  rw [List.mem_map]
  constructor
  · rintro ⟨x, _, rfl⟩
    exact ⟨x, rfl⟩
  · rintro ⟨x, rfl⟩
    have hx := Int.emod_nonneg x (Int.ne_of_gt hm)
    have lx := Int.emod_lt_of_pos x hm
    exact ⟨(x % m).toNat, List.mem_range.mpr (by omega), by rw [Int.toNat_of_nonneg hx, sq_mod]⟩
theorem sqm_bd {m a : Int} (hm : 0 < m) (h : a ∈ sqm m) : 0 ≤ a ∧ a < m := by
  obtain ⟨x, rfl⟩ := (mem_sqm hm).mp h
  exact ⟨Int.emod_nonneg _ (Int.ne_of_gt hm), Int.emod_lt_of_pos _ hm⟩
/-- a pair of remainders that solves it -/
theorem bar_none {d n m : Int} (hm : 0 < m) {ms : List Int} (h : ∀ j, j ∈ ms ↔ j ∈ sqm m) : barB d n m = true ↔ ∀ a ∈ ms, ∀ b ∈ ms, (a - d * b - n) % m ≠ 0 := by
  rw [barB_iff hm]
  constructor
  · intro g a ha b hb
    obtain ⟨x, rfl⟩ := (mem_sqm hm).mp ((h a).mp ha)
    obtain ⟨y, rfl⟩ := (mem_sqm hm).mp ((h b).mp hb)
    rw [← mod_sqs]
    exact g x y
  · intro g x y
    rw [mod_sqs]
    exact g _ ((h _).mpr ((mem_sqm hm).mpr ⟨x, rfl⟩)) _ ((h _).mpr ((mem_sqm hm).mpr ⟨y, rfl⟩))
theorem bar_no {d n m : Int} (hm : 0 < m) {p : Int × Int} (e : nrm d p = n) : barB d n m = false := by
  cases z : barB d n m with
  | false => rfl
  | true =>
    have := (barB_iff hm).mp z p.1 p.2
    simp only [nrm, normI] at e
    rw [Int.mul_assoc] at e
    rw [show p.1 * p.1 - d * (p.2 * p.2) - n = 0 by omega] at this
    exact absurd (Int.zero_emod m) this
/-- the moduli that bar -/
def bars (d n : Int) : List Int := ((List.range 99).map fun i : Nat => 2 + (i : Int)).filter (barB d n)
theorem bars_no {d n : Int} {p : Int × Int} (e : nrm d p = n) : bars d n = [] := by
  unfold bars
  rw [List.filter_eq_nil_iff]
  intro m hm
  obtain ⟨i, _, rfl⟩ := List.mem_map.mp hm
  rw [bar_no (by omega) e]
  exact Bool.false_ne_true
/-- the reason -/
def rsn (d n : Int) : PyData := if hds d n ≠ [] then .none else match bars d n with
  | m :: _ => .tuple [.str "modulus", .int m]
  | [] => .tuple [.str "search", .int (bnd d n : Nat)]
theorem shp_rsn (d n : Int) : Shp (rsn d n) := by
  unfold rsn
  split
  · exact shp_none
  · split
    · exact (nice_two (nice_str 0 (by decide +kernel)) (nice_int 0 _)).shp (by decide)
    · exact (nice_two (nice_str 0 (by decide +kernel)) (nice_int 0 _)).shp (by decide)
theorem bls_of : ∀ bs : List Bool, blsOf (bs.map PyData.bool) = some bs
  | [] => rfl
  | b :: bs => by
    show (blsOf (bs.map PyData.bool)).map (b :: ·) = _
    rw [bls_of bs]
    rfl
end ND
namespace ND
open PySem PySem.Spec L2
/-! ## which n have solutions -/
theorem srch_nil {d n : Int} (hd : rootD d = true) (hn : norOk n = true) : (srch d n (bnd d n + 1) ≠ []) = (hds d n ≠ []) := by
  apply propext
  have hb := bnd_le hd hn
  constructor
  · intro h e
    obtain ⟨p, hp⟩ := List.exists_mem_of_ne_nil _ h
    have h1 := (mem_srch hd hn (by omega)).mp hp
    obtain ⟨q, h2, h3, h4, h5⟩ := one_head hd hn h1.1
    rw [e] at h5
    cases h5
  · intro h e
    obtain ⟨p, hp⟩ := List.exists_mem_of_ne_nil _ h
    obtain ⟨h1, h2⟩ := (mem_hds hd hn).mp hp
    have h3 := head_bnd hd hn h1 h2
    have h4 : ((p.1.natAbs : Int), p.2) ∈ srch d n (bnd d n + 1) := by
      refine (mem_srch hd hn (by omega)).mpr ⟨?_, by show (0 : Int) ≤ (p.1.natAbs : Int); omega, h1.nn, by show p.2 < ((bnd d n + 1 : Nat) : Int); omega⟩
      rw [← h2]
      simp only [nrm, normI, Int.natAbs_mul_self']
    rw [e] at h4
    cases h4
theorem sol_iff {d n : Int} (hd : rootD d = true) (hn : norOk n = true) : hds d n ≠ [] ↔ ∃ p, nrm d p = n := by
  constructor
  · intro h
    obtain ⟨p, hp⟩ := List.exists_mem_of_ne_nil _ h
    exact ⟨p, ((mem_hds hd hn).mp hp).2⟩
  · rintro ⟨p, hp⟩ e
    obtain ⟨q, h2, h3, h4, h5⟩ := one_head hd hn hp
    rw [e] at h5
    cases h5
def isV (d n : Int) : Bool := decide (n ≠ 0) && decide (hds d n ≠ [])
def vls (d m : Int) : List Int := ((List.range (2 * m.toNat + 1)).map fun i : Nat => -m + (i : Int)).filter (isV d)
theorem mem_vls {d m n : Int} (hd : rootD d = true) (h0 : 0 ≤ m) (h1 : m ≤ 200) : n ∈ vls d m ↔ n ≠ 0 ∧ -m ≤ n ∧ n ≤ m ∧ ∃ p, nrm d p = n := by
  unfold vls isV
  rw [List.mem_filter, List.mem_map, Bool.and_eq_true, decide_eq_true_iff, decide_eq_true_iff]
  constructor
  · rintro ⟨⟨i, hi, rfl⟩, h2, h3⟩
    have hi := List.mem_range.mp hi
    have hn : norOk (-m + (i : Int)) = true := norOk_of (by omega) (by omega) h2
    exact ⟨h2, by omega, by omega, (sol_iff hd hn).mp h3⟩
  · rintro ⟨h2, h3, h4, h5⟩
    have hn : norOk n = true := norOk_of (by omega) (by omega) h2
    exact ⟨⟨(n + m).toNat, List.mem_range.mpr (by omega), by omega⟩, h2, (sol_iff hd hn).mpr h5⟩
theorem vls_ord (d m : Int) : (vls d m).Pairwise (· < ·) := by
  unfold vls
  refine List.Pairwise.filter _ (List.pairwise_map.mpr (List.Pairwise.imp (fun {a b} h => ?_) List.pairwise_lt_range))
  omega
theorem vls_len {d m : Int} (h : m ≤ 200) : (vls d m).length ≤ 401 := by
  unfold vls
  refine Nat.le_trans (List.length_filter_le _ _) ?_
  rw [List.length_map, List.length_range]
  omega
/-- ascending lists with the same members -/
theorem ord_one : ∀ {a b : List Int}, a.Pairwise (· < ·) → b.Pairwise (· < ·) → (∀ x, x ∈ a ↔ x ∈ b) → a = b
  | [], [], _, _, _ => rfl
  | [], y :: b, _, _, h => absurd ((h y).mpr List.mem_cons_self) (by simp)
  | x :: a, [], _, _, h => absurd ((h x).mp List.mem_cons_self) (by simp)
  | x :: a, y :: b, ha, hb, h => by
    have ha := List.pairwise_cons.mp ha
    have hb := List.pairwise_cons.mp hb
    have e : x = y := by
      rcases List.mem_cons.mp ((h x).mp List.mem_cons_self) with e | e
      · exact e
      · rcases List.mem_cons.mp ((h y).mpr List.mem_cons_self) with e2 | e2
        · exact e2.symm
        · have := ha.1 _ e2
          have := hb.1 _ e
          omega
    subst e
    congr 1
    refine ord_one ha.2 hb.2 fun z => ?_
    constructor
    · intro hz
      rcases List.mem_cons.mp ((h z).mp (List.mem_cons_of_mem _ hz)) with e | e
      · have := ha.1 z hz
        omega
      · exact e
    · intro hz
      rcases List.mem_cons.mp ((h z).mpr (List.mem_cons_of_mem _ hz)) with e | e
      · have := hb.1 z hz
        omega
      · exact e
theorem mem_sq {d m k : Int} (hd : rootD d = true) (m0 : 0 ≤ m) (m1 : m ≤ 200) (k1 : 1 ≤ k) (h : k * k ≤ m) : k * k ∈ vls d m := by
  have := Int.mul_le_mul k1 k1 (by decide) (by omega)
  refine (mem_vls hd m0 m1).mpr ⟨by omega, by omega, h, (k, 0), ?_⟩
  simp only [nrm, normI]
  omega
theorem mem_dsq {d m k : Int} (hd : rootD d = true) (m0 : 0 ≤ m) (m1 : m ≤ 200) (k1 : 1 ≤ k) (h : d * k * k ≤ m) : -d * k * k ∈ vls d m := by
  have hdl := root_le hd
  have h1 := Int.mul_le_mul k1 k1 (by decide) (by omega)
  have h2 : d * 1 ≤ d * (k * k) := Int.mul_le_mul_of_nonneg_left (by omega) (by omega)
  rw [← Int.mul_assoc] at h2
  have e : -d * k * k = -(d * k * k) := by rw [Int.neg_mul, Int.neg_mul]
  rw [e]
  refine (mem_vls hd m0 m1).mpr ⟨by omega, by omega, by omega, (0, k), ?_⟩
  simp only [nrm, normI]
  omega
theorem mem_mulV {d m a b : Int} (hd : rootD d = true) (m0 : 0 ≤ m) (m1 : m ≤ 200) (ha : a ∈ vls d m) (hb : b ∈ vls d m) (h1 : -m ≤ a * b) (h2 : a * b ≤ m) : a * b ∈ vls d m := by
  obtain ⟨a1, _, _, p, hp⟩ := (mem_vls hd m0 m1).mp ha
  obtain ⟨b1, _, _, q, hq⟩ := (mem_vls hd m0 m1).mp hb
  exact (mem_vls hd m0 m1).mpr ⟨Int.mul_ne_zero a1 b1, h1, h2, mulP d p q, by rw [nrm_mul, hp, hq]⟩
theorem mem_dneg {d m a : Int} (hd : rootD d = true) (m0 : 0 ≤ m) (m1 : m ≤ 200) (ha : a ∈ vls d m) (h1 : -m ≤ -d * a) (h2 : -d * a ≤ m) : -d * a ∈ vls d m := by
  have hdl := root_le hd
  obtain ⟨a1, _, _, p, hp⟩ := (mem_vls hd m0 m1).mp ha
  refine (mem_vls hd m0 m1).mpr ⟨Int.mul_ne_zero (by omega) a1, h1, h2, mulP d p (0, 1), ?_⟩
  rw [nrm_mul, hp]
  simp only [nrm, normI]
  rw [Int.mul_comm]
  congr 1
  omega
theorem neg_none : ∀ i : Fin 59, rootD (2 + (i.val : Int)) = true → mOdd (2 + (i.val : Int)) = false → hds (2 + (i.val : Int)) (-1) = [] := by decide +kernel
theorem neg_no {d : Int} (hd : rootD d = true) (ho : mOdd d = false) : hds d (-1) = [] := by
  have hdl := root_le hd
  have e : d = 2 + (((⟨(d - 2).toNat, by omega⟩ : Fin 59).val : Nat) : Int) := by
    show d = 2 + (((d - 2).toNat : Nat) : Int)
    omega
  rw [e] at hd ho ⊢
  exact neg_none _ hd ho
theorem mem_neg {d m a : Int} (hd : rootD d = true) (ho : mOdd d = true) (m0 : 0 ≤ m) (m1 : m ≤ 200) (ha : a ∈ vls d m) : -a ∈ vls d m := by
  obtain ⟨a1, a2, a3, p, hp⟩ := (mem_vls hd m0 m1).mp ha
  have h1 := (mp_ok hd ho).1
  refine (mem_vls hd m0 m1).mpr ⟨by omega, by omega, by omega, mulP d p (mP d), ?_⟩
  rw [nrm_mul, hp]
  simp only [nrm, normI]
  rw [show (mP d).1 * (mP d).1 - d * (mP d).2 * (mP d).2 = -1 by omega]
  omega
theorem vls_rev {d m : Int} (hd : rootD d = true) (ho : mOdd d = true) (m0 : 0 ≤ m) (m1 : m ≤ 200) : (vls d m).reverse.map (fun n => -n) = vls d m := by
  refine ord_one ?_ (vls_ord d m) fun x => ?_
  · rw [List.pairwise_map, List.pairwise_reverse]
    exact List.Pairwise.imp (fun {a b} h => by omega) (vls_ord d m)
  · rw [List.mem_map]
    constructor
    · rintro ⟨y, hy, rfl⟩
      exact mem_neg hd ho m0 m1 (List.mem_reverse.mp hy)
    · intro hx
      exact ⟨-x, List.mem_reverse.mpr (mem_neg hd ho m0 m1 hx), by omega⟩
theorem vls_one {d : Int} (hd : rootD d = true) (ho : mOdd d = false) : vls d 1 = [1] := by
  refine ord_one (vls_ord d 1) (by simp) fun x => ?_
  rw [List.mem_singleton]
  constructor
  · intro hx
    have h := (mem_vls hd (by decide) (by decide)).mp hx
    by_cases z : x = 1
    · exact z
    · have e : x = -1 := by omega
      have h3 := (sol_iff hd (norOk_of (by omega) (by omega) h.1)).mpr h.2.2.2
      rw [e, neg_no hd ho] at h3
      exact absurd rfl h3
  · rintro rfl
    have := mem_sq (k := 1) (m := 1) hd (by decide) (by decide) (by decide) (by decide)
    exact this
end ND
namespace ND
open PySem PySem.Spec L2
/-! ## known values -/
theorem near_asymm {d : Int} {p q : Int × Int} (h1 : near d p q = true) (h2 : near d q p = true) : False := by
  unfold near at h1 h2
  have e1 : 4 * d * (q.2 * p.2) * (q.2 * p.2) = 4 * d * (p.2 * q.2) * (p.2 * q.2) := by rw [Int.mul_comm q.2 p.2]
  have e2 : (q.1 * p.2 + p.1 * q.2) * (q.1 * p.2 + p.1 * q.2) = (p.1 * q.2 + q.1 * p.2) * (p.1 * q.2 + q.1 * p.2) := by rw [Int.add_comm]
  rw [e1, e2] at h2
  cases bp : below d p <;> cases bq : below d q <;> simp only [bp, bq, true_and, and_true, and_self, if_true, if_false, Bool.false_eq_true, Bool.true_eq_false, false_and, and_false, decide_eq_true_eq, beq_iff_eq, decide_eq_false_iff_not] at h1 h2
  · omega
  · exact h1 h2
  · exact h2 h1
  · omega
theorem best_one {d m : Int} (hd : rootD d = true) {l h L H : Int × Int} (s : SB d m l h) (hs : m < l.2 + h.2) (S : SB d m L H) (hS : m < L.2 + H.2) : bestOf d l h = bestOf d L H := by
  obtain ⟨a1, a2, a3⟩ := s.best_pos hd
  obtain ⟨b1, b2, b3⟩ := S.best_pos hd
  refine best_eq hd S s ?_
  by_cases e : (bestOf d L H).1 * (bestOf d l h).2 = (bestOf d l h).1 * (bestOf d L H).2
  · exact e
  · exact (near_asymm (best_near hd s hs (p := bestOf d L H) (by omega) b2 b3 e) (best_near hd S hS (p := bestOf d l h) (by omega) a2 a3 fun z => e z.symm)).elim
/-- the last of a list -/
theorem atI_last {ps : List (Int × Int)} (h : 0 < ps.length) : ∃ p ∈ ps, atI (ps.map prP) (-1) = some (prP p) := by
  refine ⟨ps[ps.length - 1], List.getElem_mem _, ?_⟩
  unfold atI ixN
  rw [List.length_map]
  rw [if_neg (by decide), if_pos (by omega), show ((-1 : Int) + (ps.length : Int)).toNat = ps.length - 1 by omega]
  show (ps.map prP)[ps.length - 1]? = _
  rw [List.getElem?_map, List.getElem?_eq_getElem (by omega)]
  rfl
theorem ini_srch {d n : Int} (hd : rootD d = true) (hn : norOk n = true) {m : Nat} (hm : m ≤ 100000) (ord : (srch d n m).Pairwise (fun p q => p.2 < q.2)) : Ini (Sol d n) (srch d n m) where
  ord := ord
  sol := fun p hp => by
    have h := (mem_srch hd hn hm).mp hp
    exact ⟨h.1, h.2.1, h.2.2.1⟩
  ini := fun p hp hno q hq => by
    have h := (mem_srch hd hn hm).mp hq
    by_cases z : p.2 < (m : Int)
    · exact absurd ((mem_srch hd hn hm).mpr ⟨hp.1, hp.2.1, hp.2.2, z⟩) hno
    · omega
theorem upto_srch {d n : Int} (hd : rootD d = true) (hn : norOk n = true) {m : Nat} (hm : m ≤ 100000) (nd : (srch d n m).Nodup) : UpTo d n ((m : Int) - 1) (srch d n m) where
  nd := nd
  mem := fun p => by
    rw [mem_srch hd hn hm]
    constructor
    · rintro ⟨h1, h2, h3, h4⟩
      exact ⟨⟨h1, h2, h3⟩, by omega⟩
    · rintro ⟨⟨h1, h2, h3⟩, h4⟩
      exact ⟨h1, h2, h3, by omega⟩
/-- triangular squares -/
theorem tri {x y : Int} (h : x * x - 2 * y * y = 1) : ((x - 1).fdiv 2) * ((x - 1).fdiv 2 + 1) = 2 * (y.fdiv 2) * (y.fdiv 2) := by
  have hx : x % 2 = 1 := by
    rcases Int.emod_two_eq x with z | z
    · obtain ⟨a, rfl⟩ : ∃ a, x = 2 * a := ⟨x / 2, by omega⟩
      have e1 : 2 * a * (2 * a) = 2 * (a * (2 * a)) := Int.mul_assoc _ _ _
      have e2 : 2 * y * y = 2 * (y * y) := Int.mul_assoc _ _ _
      omega
    · exact z
  obtain ⟨a, rfl⟩ : ∃ a, x = 2 * a + 1 := ⟨x / 2, by omega⟩
  have e1 : (2 * a + 1) * (2 * a + 1) = 4 * (a * a + a) + 1 := by
    rw [Int.add_mul, Int.mul_add, Int.mul_assoc, show a * (2 * a) = 2 * (a * a) by rw [← Int.mul_assoc, Int.mul_comm a 2, Int.mul_assoc]]
    omega
  have e2 : 2 * y * y = 2 * (y * y) := Int.mul_assoc _ _ _
  have hy : y % 2 = 0 := by
    rcases Int.emod_two_eq y with z | z
    · exact z
    · obtain ⟨b, rfl⟩ : ∃ b, y = 2 * b + 1 := ⟨y / 2, by omega⟩
      have e3 : (2 * b + 1) * (2 * b + 1) = 4 * (b * b + b) + 1 := by
        rw [Int.add_mul, Int.mul_add, Int.mul_assoc, show b * (2 * b) = 2 * (b * b) by rw [← Int.mul_assoc, Int.mul_comm b 2, Int.mul_assoc]]
        omega
      omega
  obtain ⟨b, rfl⟩ : ∃ b, y = 2 * b := ⟨y / 2, by omega⟩
  have e4 : 2 * b * (2 * b) = 4 * (b * b) := by
    rw [Int.mul_assoc, show b * (2 * b) = 2 * (b * b) by rw [← Int.mul_assoc, Int.mul_comm b 2, Int.mul_assoc]]
    omega
  rw [Int.fdiv_eq_ediv_of_nonneg _ (by decide), Int.fdiv_eq_ediv_of_nonneg _ (by decide)]
  rw [show (2 * a + 1 - 1) / 2 = a by omega, show 2 * b / 2 = b by omega]
  have e5 : a * (a + 1) = a * a + a := by rw [Int.mul_add, Int.mul_one]
  have e6 : 2 * b * b = 2 * (b * b) := Int.mul_assoc _ _ _
  omega
/-- neighbours -/
theorem pyth {x y : Int} (h : x * x - 2 * y * y = -1) : ((x - 1).fdiv 2) * ((x - 1).fdiv 2) + ((x + 1).fdiv 2) * ((x + 1).fdiv 2) = y * y := by
  have e2 : 2 * y * y = 2 * (y * y) := Int.mul_assoc _ _ _
  have hx : x % 2 = 1 := by
    rcases Int.emod_two_eq x with z | z
    · obtain ⟨a, rfl⟩ : ∃ a, x = 2 * a := ⟨x / 2, by omega⟩
      have e1 : 2 * a * (2 * a) = 2 * (a * (2 * a)) := Int.mul_assoc _ _ _
      omega
    · exact z
  obtain ⟨a, rfl⟩ : ∃ a, x = 2 * a + 1 := ⟨x / 2, by omega⟩
  have e1 : (2 * a + 1) * (2 * a + 1) = 4 * (a * a + a) + 1 := by
    rw [Int.add_mul, Int.mul_add, Int.mul_assoc, show a * (2 * a) = 2 * (a * a) by rw [← Int.mul_assoc, Int.mul_comm a 2, Int.mul_assoc]]
    omega
  rw [Int.fdiv_eq_ediv_of_nonneg _ (by decide), Int.fdiv_eq_ediv_of_nonneg _ (by decide)]
  rw [show (2 * a + 1 - 1) / 2 = a by omega, show (2 * a + 1 + 1) / 2 = a + 1 by omega]
  have e5 : (a + 1) * (a + 1) = a * a + a + a + 1 := by rw [Int.add_mul, Int.mul_add, Int.mul_one, Int.one_mul]; omega
  omega
theorem k_hds : hds 2 1 = [(1, 0)] ∧ hds 2 (-1) = [(1, 1)] ∧ hds 2 7 = [(-3, 1), (3, 1)] ∧ hds 10 9 = [(-7, 2), (3, 0), (7, 2)] ∧ hds 3 (-1) = [] ∧ hds 2 3 = [] ∧ hds 34 (-1) = [] ∧ hds 2 49 ≠ [] ∧ hds 5 4 ≠ [] := by decide +kernel
theorem k_vls : vls 3 6 = [-3, -2, 1, 4, 6] := by decide +kernel
theorem k_bar3 : barB 3 (-1) 2 = false ∧ barB 3 (-1) 3 = true := by decide +kernel
theorem k_bar2 : (∀ j : Fin 6, barB 2 3 (2 + (j.val : Int)) = false) ∧ barB 2 3 8 = true := by decide +kernel
theorem k_bar34 : ∀ j : Fin 99, barB 34 (-1) (2 + (j.val : Int)) = false := by decide +kernel
theorem k_per : per 2 7 = 3 := by decide +kernel
theorem k_fdv : fdv 3 4 = 2 := by decide +kernel
theorem k_srch : srch 5 4 4 = [(2, 0), (3, 1), (7, 3)] ∧ srch 5 4 9 = [(2, 0), (3, 1), (7, 3), (18, 8)] := by decide +kernel
end ND
namespace ND
open PySem PySem.Spec L2
/-! ## a list as a datum: it stays as it is -/
def dLstF (da : DA) : DE := fun S c k => da S c fun es c1 => match imsOf es with
  | some ds => ds.length ≤ 100000 ∧ k (.im (.list ds)) c1
  | none => False
section
variable {X : Cx} {pos : Pos}
theorem pe_lstF {es : List Expr} {t : TA} (h : PA X es t) : PE X (.List es pos) (fun σ H Q => t σ H fun xs G => xs.length ≤ sizeLine ∧ ∀ p o, G p = none → Q (.ref p) (upd G p (.frz o (.lst xs)))) := by
  constructor
  intro pins s σ H Q I hq
  apply wpAny_List_spliced
  apply thn (h.run pos pins s σ H _ I hq)
  rintro us s1 ⟨xs, G, J, r, z, q⟩
  have there : (s1.heap.push { cls := .type "list", data := .seq us.toArray }).get? s1.heap.objs.size = some { cls := .type "list", data := .seq us.toArray } := Heap.get?_push_size _ rfl
  constructor
  · rw [← r.length]
    exact z
  · exact ⟨.ref _, _, J.laid (t' := s1.toks) (o := .frz { cls := .type "list", data := .seq us.toArray } (.lst xs)) (fun _ _ => Heap.get?_push_of_some _) (Nat.le_refl _) ⟨there, z, us, 0, r, there⟩, rfl, q _ _ (J.hok.fresh (Nat.le_refl _))⟩
theorem de_lstF {es : List Expr} {dr : DA} (h : PA X es (LA X.K dr)) : PE X (.List es pos) (LE X.K (dLstF dr)) := by
  refine PE.le (pe_lstF h) fun σ H Q h => ?_
  obtain ⟨T, n, S, c, k, hS, h, q⟩ := h
  refine ⟨T, n, S, c, _, hS, h, fun es c1 h1 vs H1 f1 t1 r1 => ?_⟩
  split at h1
  · rename_i ds e
    have ra := ims_all r1 e
    refine ⟨?_, fun p o hp => ?_⟩
    · rw [ra.len]
      exact line_of h1.1
    · have sm := same_upd (o := HO.frz o (.lst vs)) hp
      have rp : Rp X.K (upd H1 p (.frz o (.lst vs))) (.ref p) (.list ds) := .lst upd_same (RpAll.ke (fun b ob z => .inr (sm.sm b ob z)) _ _ ra)
      exact q _ _ h1.2 _ _ (f1.trans (frT_same sm)) (tw_same t1 sm) (rf_trans (c' := c1) ⟨rp, trivial⟩ f1 hS.tow)
  · exact h1.elim
/-! ## is True, is False -/
def rIsBo (f : Bool → Bool) : En → En → (En → Prop) → Prop
  | .im (.bool a), .im (.bool b), k => k (.im (.bool (f (decide (a = b)))))
  | _, _, _ => False
theorem od_isB : OpR X (compareOp .Is) (RL X.K (rIsBo id)) := by
  refine OpR.le op_isBl fun x y H Q h => ?_
  obtain ⟨T, n, c, ex, ey, k, t, rx, ry, h, q⟩ := h
  unfold rIsBo at h
  split at h
  · cases rx
    cases ry
    exact ⟨_, _, rfl, rfl, q _ h _ H (same_refl H) ⟨.bl _, trivial⟩⟩
  · exact h.elim
theorem od_notB : OpR X (compareOp .IsNot) (RL X.K (rIsBo not)) := by
  refine OpR.le op_notBl fun x y H Q h => ?_
  obtain ⟨T, n, c, ex, ey, k, t, rx, ry, h, q⟩ := h
  unfold rIsBo at h
  split at h
  · cases rx
    cases ry
    exact ⟨_, _, rfl, rfl, q _ h _ H (same_refl H) ⟨.bl _, trivial⟩⟩
  · exact h.elim
end
/-! ## a comprehension by an invariant -/
theorem lc_by {g : DG} {dt : DT} {de : DE} {S : Sl} {k : En → Cn → Prop} {xs : List PyData} {c : Cn} (I : Nat → List PyData → Cn → Prop) (h0 : I 0 [] c)
    (step : ∀ (i : Nat) (x : PyData) (acc : List PyData) (c : Cn) (N : List PyData → Cn → Prop), xs[i]? = some x → I i acc c → (∀ a c', I (i + 1) a c' → N a c') → g x S fun S1 => dt S1 c fun b c1 => if b = true then de S1 c1 (fun e c2 => match e with
      | .im d => acc.length < 100000 ∧ N (acc ++ [d]) c2
      | _ => False) else N acc c1)
    (done : ∀ acc c, I xs.length acc c → k (.own acc) c) : lcL g dt de S k xs [] c := by
  have key : ∀ (m i : Nat) (acc : List PyData) (c : Cn), i + m = xs.length → I i acc c → lcL g dt de S k (xs.drop i) acc c := by
    intro m
    induction m with
    | zero =>
      intro i acc c e hi
      have ei : i = xs.length := by omega
      subst ei
      rw [List.drop_length]
      exact done acc c hi
    | succ m ih =>
      intro i acc c e hi
      have li : i < xs.length := by omega
      rw [List.drop_eq_getElem_cons li]
      exact step i _ acc c (fun a c' => lcL g dt de S k (xs.drop (i + 1)) a c') (List.getElem?_eq_getElem li) hi fun a c' h => ih (i + 1) a c' (by omega) h
  exact key xs.length 0 [] c (Nat.zero_add _) h0
end ND
namespace ND
open PySem PySem.Spec PyProof.Rows L2
/-! ## an exception that was caught and is kept -/
/-- an exception of the class cls at a -/
def ExT (cls : Value) (a : Addr) : HO := .ext fun h => ∃ (oe : Obj) (vs : Array Value), h.get? a = some oe ∧ Zc cls none oe ∧ oe.data = .fields vs
theorem exT_ok {P : Program} {w : World} {H : Hp} {h : Heap} {a : Addr} {cls : Value} {oe : Obj} {vs : Array Value} (e : h.get? a = some oe) (z : Zc cls none oe) (d : oe.data = .fields vs) : ObjOk P w H h a (ExT cls a) :=
  ⟨⟨oe, vs, e, z, d⟩, ⟨oe, e⟩, fun _ _ ⟨o, v, q, r⟩ k => ⟨o, v, k o q, r⟩⟩
section
variable {X : Cx} {pins : List (Addr × Obj)} {σ : L2.St} {H : Hp} {s : Shared}
/-- a pin that is new since the entry becomes tracked -/
theorem Inv.track {a : Addr} {oe : Obj} {u : HO} (I : L2.Inv X ((a, oe) :: pins) σ H s) (n0 : X.s_0.heap.get? a = none) (np : ∀ p ∈ X.pn ++ pins, p.1 ≠ a) (ok : ObjOk X.prog X.w (upd H a u) s.heap a u) : L2.Inv X pins σ (upd H a u) s := by
  obtain ⟨g1, g2, g3, g4, g5⟩ := I.pin (a, oe) (List.mem_append_right _ List.mem_cons_self)
  have old : ∀ {b : Addr} {o : HO}, H b = some o → upd H a u b = some o := fun {b o} e => by
    rw [upd_ne (ne_of_none e g2)]
    exact e
  exact {
    ok := I.ok, os := I.os, bare := I.bare, loc := I.loc, cell := I.cell, len := I.len
    base := { keep := I.base.keep, slot := I.base.slot, there := I.base.there
              free := fun b o e n x => by
                have ne : b ≠ a := fun z => by rw [z, n0] at e; cases e
                rw [upd_ne ne]
                exact I.base.free b o e n x
              tups := fun b xs e => old (I.base.tups b xs e)
              frzs := fun b o v e => old (I.base.frzs b o v e)
              tbls := fun b ps e => (I.base.tbls b ps e).imp fun _ z => old z }
    free := by rw [upd_ne (Ne.symm g3)]; exact I.free
    freeC := fun x c e => by
      have ne : c ≠ a := fun z => by
        obtain ⟨v, cv⟩ := I.cell x c e
        obtain ⟨o, o1, o2⟩ := cv
        rw [z, g1] at o1
        cases o1
        exact g5 v o2
      rw [upd_ne ne]
      exact I.freeC x c e
    pin := fun p hp => by
      have hp' : p ∈ X.pn ++ (a, oe) :: pins := by
        rcases List.mem_append.mp hp with z | z
        · exact List.mem_append_left _ z
        · exact List.mem_append_right _ (List.mem_cons_of_mem _ z)
      obtain ⟨q1, q2, q3⟩ := I.pin p hp'
      refine ⟨q1, ?_, q3⟩
      rw [upd_ne (np p hp)]
      exact q2
    hok := HOk.laidN I.hok (fun _ _ e => e) g2 ok }
/-- the suite is left, its exception still pinned -/
theorem Inv.unsuiteK {a : Addr} {oe : Obj} (I : L2.Inv (X.suite a ((a, oe) :: (X.pn ++ pins))) [] σ H s) (ok : X.Ok) : L2.Inv X ((a, oe) :: pins) σ H s := {
  ok := ok, os := I.os, bare := I.bare, base := I.base, loc := I.loc, cell := I.cell, free := I.free, freeC := I.freeC, hok := I.hok, len := I.len
  pin := fun p hp => I.pin p (by
    show p ∈ ((a, oe) :: (X.pn ++ pins)) ++ []
    rw [List.append_nil]
    rcases List.mem_append.mp hp with z | z
    · exact List.mem_cons_of_mem _ (List.mem_append_left _ z)
    · rcases List.mem_cons.mp z with z | z
      · rw [z]; exact List.mem_cons_self
      · exact List.mem_cons_of_mem _ (List.mem_append_right _ z)) }
end
/-- except x as n: m = n, slots i and j: the exception is of the class c, and is kept -/
def wKp (K : PySem.W.Frag) (c : Value) (i j : Nat) (D : Ends) : WX := fun cls d σ H =>
  d = none ∧ PySem.W.exmOne K cls c = some true ∧ ∀ a, H a = none → D.nx (((σ.set i (some (.ref a))).set j (some (.ref a))).set i none) (upd H a (ExT cls a))
section
variable {X : Cx} {x n : Str} {c : Value} {i j : Nat} {body : List Stmt} {b0 : Stmt} {np pos pos' : Pos} {tb : WX → TS}
theorem ps_try_keep (hs : X.stack = X.env :: X.outer) (hf : X.env.frame = some X.env.locals) (hx : X.ex = []) (hN : X.N.Nodup) (hi : X.N[i]? = some n) (hln : X.env.kindOf n = some .local) (hc : Names X x c)
    (hb : ∀ (W : WX) (pn : List (Addr × Obj)) (xe : Value → Shared → Prop), Takes (X.tr pn xe) W → PassesOwn (model X.prog X.w) X.A X.env xe → PSs (X.tr pn xe) body (tb W))
    (hk : ∀ (a : Addr) (pn : List (Addr × Obj)), PSs (X.suite a pn) [b0] (fun D σ H => ∃ v, σ[i]? = some (some v) ∧ D.nx (σ.set j (some v)) H)) :
    PS X (.Try body [.ExceptHandler (some (.Name x np)) (some n) [b0] pos'] [] [] pos) (fun D σ H => tb (wKp X.K c i j D) D σ H) := by
  constructor
  intro pins s σ H D I h
  have ok := I.ok
  have frames : X.A.frames = some (X.env :: X.outer) := ok.frames.trans (congrArg some hs)
  let M := model X.prog X.w
  let hd : ExceptHandler := .ExceptHandler (some (.Name x np)) (some n) [b0] pos'
  let xe : Value → Shared → Prop := fun e s1 => wpAny M X.A (noteFrame e X.env) (fun _ s2 => wpAny M X.A (setFlight e none) (fun _ s3 => wpAny M X.A (handleBy e X.env [hd]) (SP X pins D) X.xe s3) X.xe s2) X.xe s1
  have take : Takes (X.tr (X.pn ++ pins) xe) (wKp X.K c i j D) := by
    rintro _ s' ⟨a, B, sI, _, σ', H', cls, d, rfl, J', nb, up, sky, na, os, ag, dn, hm, fin⟩
    subst dn
    have J : L2.Inv X pins σ' H' sI := Inv.ofTry J' ok
    have sky : Sky B (X.env :: X.outer) a (Zc cls none) X.env.locals s'.heap := by
      rw [← hs]
      exact sky
    apply Sky.land Zc.steady frames hf sky
    intro h3 fl3 up3
    have J3 : L2.Inv X pins σ' H' { s' with heap := h3 } := J.landed nb fl3.1 (up.trans up3) os ag
    obtain ⟨oe3, vs3, at3, z3, d3⟩ := fl3.there
    have noFr : a ∉ frs (X.env :: X.outer) := fun m => by
      obtain ⟨_, o', e', nf⟩ := fl3.2.2.1.mem m
      rw [at3] at e'
      cases e'
      exact nf _ d3
    have noL : a ≠ X.env.locals := fun z => noFr (List.mem_filterMap.mpr ⟨X.env, List.mem_cons_self, z ▸ hf⟩)
    have noF : a ∉ X.fs := fun m => (List.mem_filterMap.mp m).elim fun e z => noFr (List.mem_filterMap.mpr ⟨e, List.mem_cons_of_mem _ z.1, z.2⟩)
    have newI : sI.heap.get? a = none := by
      cases e : sI.heap.get? a with
      | none => rfl
      | some o =>
        have := nb a o e (by rw [hs]; exact noFr)
        rw [fl3.2.1] at this
        cases this
    have new0 : X.s_0.heap.get? a = none := by
      cases e : X.s_0.heap.get? a with
      | none => rfl
      | some o =>
        obtain ⟨o', e'⟩ := J.base.there a o e (by rw [hx]; simp)
        rw [newI] at e'
        cases e'
    have others : ∀ p ∈ X.pn ++ pins, p.1 ≠ a := fun p hp z => by
      have := (J.pin p hp).1
      rw [z, newI] at this
      cases this
    have S3 := J3.suite at3 d3 na noL noF
    have named : ∀ {R : Value → Shared → Prop} {F : Value → Shared → Prop}, R c { s' with heap := h3 } → wpAny M (X.A.mark (some (.ref a))) (eval (.Name x np) X.env) R F { s' with heap := h3 } := fun {R F} q => by
      obtain ⟨g1, g2, g3 | ⟨g3, g4, g5⟩⟩ := hc
      · exact ld_glob (X := X.suite a ((a, oe3) :: (X.pn ++ pins))) S3 g1 g3 q g2
      · exact ld_blt (X := X.suite a ((a, oe3) :: (X.pn ++ pins))) S3 g1 g3 g4 q g5 g2
    have isOf : PySem.W.Looks M h3 (typeOf (.ref a)) cls := fun _ _ _ _ k q => wpAny_typeOf_ref (k _ _ at3) (by rw [z3.1]; exact q)
    refine wpAny_handleBy_cons (codeAny_handlers_test (named ((PySem.W.exm_one (M := M) J3.kIn isOf hm).here ?_))) (by rintro ⟨⟩)
    apply codeAny_handlers_suite_as
    apply HandSPX.lands_againZ fl3
    intro h4 fl4 up4
    have J4 : L2.Inv X pins σ' H' { s' with heap := h4 } := J.landed nb fl4.1 ((up.trans up3).trans up4) os ag
    obtain ⟨oe4, vs4, at4, z4, d4⟩ := fl4.there
    apply store_ok (X := X.suite a ((a, oe4) :: (X.pn ++ pins))) (v := .ref a) (J4.suite at4 d4 na noL noF) hN hi (.inl hln) rfl _ (.inr hln)
    intro s5 S5
    have li : i < σ'.length := by
      rw [J.len]
      exact (List.getElem?_eq_some_iff.mp hi).1
    apply wpAny_mono ((hk a ((a, oe4) :: (X.pn ++ pins))).run [] s5 _ H' { nx := fun σ6 H6 => σ6 = (σ'.set i (some (.ref a))).set j (some (.ref a)) ∧ H6 = H', rt := fun _ _ => False, bk := fun _ _ => False, ct := fun _ _ => False } S5 ⟨.ref a, by simp [li], rfl, rfl⟩) _ (fun _ _ z => False.elim z)
    intro f s6 e6
    cases f with
    | next =>
      obtain ⟨_, _, S6, rfl, rfl⟩ := e6
      have J6 := Inv.unsuiteK S6 ok
      apply gone_ok J6 hN hi hln
      intro s7 J7
      obtain ⟨at7, _⟩ := J7.pin (a, oe4) (List.mem_append_right _ List.mem_cons_self)
      exact ⟨_, _, Inv.track J7 new0 others (exT_ok at7 z4 d4), fin a na⟩
    | brk => exact e6.elim fun _ z => z.elim fun _ z => z.2.elim
    | cont => exact e6.elim fun _ z => z.elim fun _ z => z.2.elim
    | ret u => exact e6.elim fun _ z => z.elim fun _ z => z.elim fun _ z => z.2.2.elim
  apply wpAny_Try_except
  apply wpAny_mono ((hb (wKp X.K c i j D) (X.pn ++ pins) xe take PassesOwn.looking).run [] s σ H D (I.toTry _) h) _ (fun _ _ z => z)
  intro f s1 e1
  cases f with
  | next => exact e1.elim fun σ1 z => z.elim fun H1 z => wpAny_execs_nil ⟨σ1, H1, Inv.ofTry z.1 ok, z.2⟩
  | brk => exact e1.imp fun _ z => z.imp fun _ z => ⟨Inv.ofTry z.1 ok, z.2⟩
  | cont => exact e1.imp fun _ z => z.imp fun _ z => ⟨Inv.ofTry z.1 ok, z.2⟩
  | ret u => exact e1.imp fun _ z => z.imp fun _ z => z.imp fun _ z => ⟨Inv.ofTry z.1 ok, z.2⟩
end
/-! ## isinstance of an exception that is kept -/
section
variable {X : Cx}
theorem call_isT : CallR X (.builtin "isinstance") (fun xs H Q => ∃ (D a : Addr) (c : V) (cv : Value) (b : Bool), ExcC X.K D ∧ xs = [.ref a, c] ∧ H a = some (ExT (.ref D) a) ∧ (∀ u, RelV c u → u = cv) ∧ PySem.W.kitOne X.K (.ref D) cv = some b ∧ Q (.bl b) H) := by
  rintro pins s σ H _ us Q I r ⟨D, a, c, cv, b, C, rfl, ha, hcv, e, q⟩
  obtain ⟨u1, u2, rfl, r1, r2⟩ := vals2 r
  cases r1
  cases hcv _ r2
  obtain ⟨⟨oe, vs, g, ⟨z1, z2⟩, dt⟩, _⟩ := I.hok a _ ha
  have inst : PySem.W.InstAt s.heap a oe D none := by
    cases oe
    cases z1
    cases z2
    cases dt
    exact ⟨g, rfl, rfl, trivial⟩
  exact PySem.W.kia_one (PySem.W.handS_kitx_exc C.hg C.hk C.hs C.hd C.ha C.hn C.ht C.hm) I.kIn inst e (fun z => nomatch z) fun tk => ⟨.bl b, H, I.kept (t' := tk) fun _ _ z => z, rfl, q⟩
/-- bs.count(True) -/
theorem mt_cntB : MtR X "list.count" (fun x xs H Q => ∃ (p : Addr) (bs : List Bool), x = .ref p ∧ xs = [.bl true] ∧ SqL X.K H p (bs.map V.bl) ∧ Q (.int (bs.count true : Nat)) H) := by
  rintro pins s σ H _ _ v us Q I rx rxs ⟨p, bs, rfl, rfl, sq, q⟩
  cases rx
  obtain ⟨u, rfl, ru⟩ := rxs.one
  cases (show u = Value.bool true from ru)
  obtain ⟨its, rv, ⟨⟨cl, dd, dt, sl⟩, m, ho, h1, h2, h3⟩, _⟩ := I.list sq
  cases h1
  cases h3
  have items : ∀ {bs : List Bool} {us : List Value}, Vals (bs.map V.bl) us → us = bs.map Value.bool := by
    intro bs
    induction bs with
    | nil => intro us r; cases r; rfl
    | cons b bs ih =>
      intro us r
      cases r with
      | cons r1 r2 => rw [ih r2, show _ = Value.bool b from r1]; rfl
  have ei := items rv
  let f : Value → Bool := fun v => match v with
    | .bool b => b == true
    | _ => false
  have tl : s.TypeIs (.ref p) "list" := ⟨_, ho, rfl⟩
  apply call_meets PySem.F.slot_list_count tl PySem.F.entry_list_count (PySem.F.args_list_count_2 _ _) (SeqAt.list_countAt p its.toArray m dd sl (.bool true) f)
  refine ⟨ho, fun y hy => ?_, .int (bs.count true : Nat), H, I.tok _, ⟨s.toks, ?_⟩, q⟩
  · have hy : y ∈ its := by simpa using hy
    rw [ei] at hy
    obtain ⟨b, _, rfl⟩ := List.mem_map.mp hy
    exact SeqAt.EqAt.bool_bool b true
  · have ec : its.toArray.toList.countP f = bs.count true := by
      show its.countP f = _
      rw [ei, List.countP_map]
      rfl
    rw [ec]
end
end ND
namespace ND
open PySem PySem.Spec L2
/-! ## Statements that may raise: exceptions by their number -/
structure XEnds where
  nx : Sl → Cn → Prop
  rt : En → Cn → Prop
  ex : Nat → Cn → Prop
abbrev DX := XEnds → Sl → Cn → Prop
abbrev FTx := List En → Cn → (En → Cn → Prop) → (Nat → Cn → Prop) → Prop
def LX (K : PySem.W.Frag) (cl : Nat → Value) (E : XK) (dx : DX) : TS := fun D σ H => ∃ T n S c d, Hd K T n S c σ H ∧ dx d S c ∧
  (∀ S' c', d.nx S' c' → ∀ σ' H', Fs T S σ H S' σ' H' → Hd K T n S' c' σ' H' → D.nx σ' H') ∧
  (∀ e c', d.rt e c' → ∀ v H', ND.Fr0 T S σ H H' → Tw T n c' H' → Rr K T S σ H H' v e → D.rt v H') ∧
  (∀ j c', d.ex j c' → ∀ H', ND.Fr0 T S σ H H' → Tw T n c' H' → E (cl j) none H')
def spX (K : PySem.W.Frag) (cl : Nat → Value) (F : FTx) : Sp := fun vs H Q E => ∃ T n c es k ke, Tw T n c H ∧ RvAll K T H vs es ∧ F es c k ke ∧
  (∀ e c', k e c' → ∀ v H', FrT T H H' → Tw T n c' H' → Rf K T H H' v e → Q v H') ∧ ∀ j c', ke j c' → ∀ H', FrT T H H' → Tw T n c' H' → E (cl j) none H'
/-- no exception -/
def xOf (ds : DS) : DX := fun d S c => ds { nx := d.nx, rt := d.rt } S c
def xSeq (a b : DX) : DX := fun d S c => a { d with nx := b d } S c
def xIfR (dt : DT) (j : Nat) : DX := fun d S c => dt S c fun b c1 => if b = true then d.ex j c1 else d.nx S c1
def xDrop (F : FTx) (da : DA) : DX := fun d S c => da S c fun es c1 => F (es.map view) c1 (fun _ c2 => d.nx S c2) d.ex
def xRet (F : FTx) (da : DA) : DX := fun d S c => da S c fun es c1 => F (es.map view) c1 (retE { nx := d.nx, rt := d.rt }) d.ex
section
variable {X : Cx} {cl : Nat → Value} {E : XK} {st : Stmt} {rest : List Stmt} {ds : DS} {a b : DX} {da : DA} {e : Expr} {pos : Pos}
theorem xs_of (h : PS X st (LS X.K ds)) : PS X st (LX X.K cl E (xOf ds)) := PS.le h fun D σ H ⟨T, n, S, c, d, hS, h, h1, h2, _⟩ => ⟨T, n, S, c, _, hS, h, h1, h2, fun _ _ z => z.elim, fun _ _ z => z.elim⟩
theorem xs_tail (h : PSs X rest (LS X.K ds)) : PSs X rest (LX X.K cl E (xOf ds)) := PSs.le h fun D σ H ⟨T, n, S, c, d, hS, h, h1, h2, _⟩ => ⟨T, n, S, c, _, hS, h, h1, h2, fun _ _ z => z.elim, fun _ _ z => z.elim⟩
theorem xs_one (h : PS X st (LX X.K cl E a)) : PSs X [st] (LX X.K cl E a) := pss_one h
theorem xs_cons (h1 : PS X st (LX X.K cl E a)) (h2 : PSs X rest (LX X.K cl E b)) : PSs X (st :: rest) (LX X.K cl E (xSeq a b)) := by
  refine PSs.le (pss_cons h1 h2) fun D σ H h => ?_
  obtain ⟨T, n, S, c, d, hS, h, h1, h2, h3⟩ := h
  refine ⟨T, n, S, c, { d with nx := b d }, hS, h, fun S1 c1 q1 σ1 H1 f1 hd1 => ?_, h2, h3⟩
  exact ⟨T, n, S1, c1, d, hd1, q1, fun S2 c2 q2 σ2 H2 f2 hd2 => h1 _ _ q2 σ2 H2 (f1.trans f2) hd2, fun e c2 q2 v H2 f2 t2 r2 => h2 _ _ q2 v H2 (f1.trans0 f2) t2 (r2.trans f1), fun j c2 q2 H2 f2 t2 => h3 _ _ q2 H2 (f1.trans0 f2) t2⟩
theorem xs_ifr {c : Expr} {ss : List Stmt} {dt : DT} {j : Nat} (hc : PT X c (LT X.K dt)) (hr : PSs X ss (fun _ _ H => E (cl j) none H)) : PS X (.If c ss [] pos) (LX X.K cl E (xIfR dt j)) := by
  refine PS.le (ps_if hc hr pss_nil) fun D σ H h => ?_
  obtain ⟨T, n, S, c, d, hS, h, h1, h2, h3⟩ := h
  refine ⟨T, n, S, c, _, hS, h, fun b c1 k H1 f1 t1 => ?_⟩
  cases b with
  | true => exact h3 j c1 k H1 (fr0_of f1 t1) t1
  | false => exact h1 S c1 k σ H1 (fs_of f1 t1) (hS.mono f1 t1)
theorem xs_expr {F : FTx} (hp : PE X e (tCallS (spX X.K cl F) (fun _ => E) (LA X.K da))) (hs : swapsWith e none pos.line X.env = pure false := by rfl) : PS X (.Expr e pos) (LX X.K cl E (xDrop F da)) := by
  refine PS.le (ps_expr hp hs) fun D σ H h => ?_
  obtain ⟨T, n, S, c, d, hS, h, h1, h2, h3⟩ := h
  refine ⟨T, n, S, c, _, hS, h, fun es c1 k1 vs H1 f1 t1 r1 => ?_⟩
  exact ⟨T, n, c1, _, _, _, t1, r1.view, k1, fun _ c' k v H' f2 t2 r2 => h1 S c' k σ H' (fs_of (f1.trans f2) t2) (hS.mono (f1.trans f2) t2), fun j c' k H' f2 t2 => h3 j c' k H' (fr0_of (f1.trans f2) t2) t2⟩
theorem xs_ret {F : FTx} (hp : PE X e (tCallS (spX X.K cl F) (fun _ => E) (LA X.K da))) : PS X (.Return (some e) pos) (LX X.K cl E (xRet F da)) := by
  refine PS.le (ps_ret hp) fun D σ H h => ?_
  obtain ⟨T, n, S, c, d, hS, h, h1, h2, h3⟩ := h
  refine ⟨T, n, S, c, _, hS, h, fun es c1 k1 vs H1 f1 t1 r1 => ?_⟩
  refine ⟨T, n, c1, _, _, _, t1, r1.view, k1, fun e c' k v H' f2 t2 r2 => ?_, fun j c' k H' f2 t2 => h3 j c' k H' (fr0_of (f1.trans f2) t2) t2⟩
  have r := rf_trans (c' := c1) r2 f1 hS.tow
  have f := f1.trans f2
  cases e with
  | im x => exact h2 _ _ k v H' (fr0_of f t2) t2 r.rv
  | own xs =>
    obtain ⟨a, vs, e1, n1, s1, q1⟩ := r.nw
    obtain ⟨a2, vs2, e2, n2, _, _⟩ := r.rv
    rw [e1] at e2
    cases e2
    exact h2 _ _ k v H' (fr0_of f t2) t2 ⟨a, vs, e1, n2, .inl n1, s1, q1⟩
  | ro xs => exact k.elim
  | sc xs => exact k.elim
  | tw => exact k.elim
  | ses a => exact h2 _ _ k v H' (fr0_of f t2) t2 r.rv
  | sp a d => exact k.elim
end
/-- the state at a call -/
theorem hd_start {K : PySem.W.Frag} {N : List Str} {T : Option Addr} {n : Nat} {c : Cn} {H : Hp} {vs : List V} {es : List En} (t : Tw T n c H) (rs : RvAll K T H vs es) : Hd K T n (st0 N es) c (start N vs) H ∧ ∀ b, ¬ Ow (st0 N es) (start N vs) b := by
  have noO : ∀ {i : Nat} {xs : List PyData}, (st0 N es)[i]? ≠ some (some (.own xs)) := fun {i xs} z => by
    obtain ⟨v, _, _, r⟩ := rs.get (st0_get z)
    exact r xs rfl
  refine ⟨{ len := by simp [st0, L2.start, rs.len], rep := fun i e h => ?_, tru := fun i xs h => absurd h noO, dis := fun i j xs a e _ h => absurd h noO, tow := t }, fun b ⟨i, xs, h1, _⟩ => noO h1⟩
  obtain ⟨v, e1, r, _⟩ := rs.get (st0_get h)
  refine ⟨v, ?_, r⟩
  have hl : i < vs.length := (List.getElem?_eq_some_iff.mp e1).1
  unfold L2.start
  rw [List.getElem?_append_left (by simpa using hl), List.getElem?_map, e1]
  rfl
theorem fnX {P : Program} {w : World} {K : PySem.W.Frag} {mg : Str → Option Value} {base : Heap} {x qual : Str} {st : Stmt} {f : Addr} {fd : FuncData} {N ps : List Str} {k : Nat} {F : FTx} {cl : Nat → Value} {dx : DX} (Fn : Fun K x qual st f fd) (S : FnScope N ps (defScope st)) (len : ∀ es c k ke, F es c k ke → es.length = ps.length)
    (hb : ∀ (cdv : Value) (A : Around) (outer : List Env) (s : Shared) (H : Hp) (E : XK), Room k (A.deeper (PyProof.Rows.envOfC qual (defScope st) s.heap.objs.size f cdv)) → PSs (cxOf (L2.CX P w) P w K mg base N qual (defScope st) f cdv A outer s H E) (defBody st) (LX K cl E dx))
    (hd : ∀ es c k ke, F es c k ke → dx { nx := fun _ c' => k (.im .none) c', rt := k, ex := ke } (st0 N es) c) : FnOk P w K mg base (L2.CX P w) (k + 1) f fd ps (spX K cl F) := by
  refine Fn.okX S (fun vs H Q E h => ?_) (fun cdv A outer s H vs Q E hr h => ⟨_, hb cdv A outer s H E hr, ?_⟩)
  · obtain ⟨T, n, c, es, k, ke, t, rs, hF, q⟩ := h
    rw [rs.len]
    exact len es c k ke hF
  · obtain ⟨T, n, c, es, k, ke, t, rs, hF, q, qe⟩ := h
    obtain ⟨hS, no⟩ := hd_start (N := N) t rs
    have fr : ∀ {H' : Hp}, ND.Fr0 T (st0 N es) (start N vs) H H' → FrT T H H' := fun {H'} f => ⟨fun b o z nt => f.keep b o z nt (no b), f.mu, f.trk⟩
    refine ⟨T, n, _, c, _, hS, hd es c k ke hF, fun S' c' h σ' H' f hd' => q _ _ h .non H' (fr f.toFr0) hd'.tow ⟨.non, trivial⟩, fun e c' h v H' f t' r => q _ _ h v H' (fr f) t' ?_, fun j c' h H' f t' => qe j c' h H' (fr f) t'⟩
    cases e with
    | im d => exact ⟨r, trivial⟩
    | own xs =>
      obtain ⟨a, ws, e1, n1, o, s, z⟩ := r
      exact ⟨⟨a, ws, e1, n1, s, z⟩, ⟨a, ws, e1, o.resolve_right (no a), s, z⟩⟩
    | ro xs => exact r.elim
    | sc xs => exact r.elim
    | tw => exact r.elim
    | ses a => exact ⟨r, trivial⟩
    | sp a d => exact r.elim
/-! ## classes of exceptions: what isinstance says -/
theorem kit_own {K : PySem.W.Frag} {D C : Addr} {b : Bool} (hd : PySem.W.hasDictIn K C = true) (ht : PySem.W.typeIn K (.ref C) = some (.type "type")) (hs : PySem.W.subIn K (.ref D) (.ref D) = some true) (h : PySem.W.subIn K (.ref D) (.ref C) = some b) : PySem.W.kitOne K (.ref D) (.ref C) = some b := by
  unfold PySem.W.kitOne
  by_cases e : D = C
  · subst e
    rw [hs] at h
    rw [if_pos (by simp)]
    exact h
  · rw [if_neg (by simpa using e)]
    obtain ⟨cd, hc, _⟩ := PySem.W.any_some hd
    have ok : ((PySem.W.clsIn K C).isSome && PySem.W.typeIn K (.ref C) == some (.type "type")) = true := by
      rw [hc, ht]
      rfl
    show (if ((PySem.W.clsIn K C).isSome && PySem.W.typeIn K (.ref C) == some (.type "type")) = true then PySem.W.subIn K (.ref D) (.ref C) else none) = some b
    rw [if_pos ok]
    exact h
theorem kit_val {K : PySem.W.Frag} {D : Addr} (h : PySem.W.subIn K (.ref D) (.type "ValueError") = some true) : PySem.W.kitOne K (.ref D) (.type "ValueError") = some true := by
  have m : PySem.W.kitMeta "ValueError" = true := by decide +kernel
  show (if PySem.W.kitMeta "ValueError" = true then PySem.W.subIn K (.ref D) (.type "ValueError") else none) = some true
  rw [if_pos m]
  exact h
end ND
namespace ND
open PySem PySem.Spec L2
/-! ## places -/
theorem pw_grow {d : Int} (h : rootD d = true) : ∀ n : Nat, (2 : Int) ^ n ≤ (pw d (un d) n).1
  | 0 => by show (1 : Int) ≤ 1; decide
  | n + 1 => by
    have ih := pw_grow h n
    obtain ⟨p1, p2, _⟩ := pw_pos h n
    have hu := u_ok h
    have t2 := hu.t2
    have u3 := hu.u3
    have hdl := root_le h
    show (2 : Int) ^ (n + 1) ≤ mulX d (pw d (un d) n).1 (pw d (un d) n).2 (un d).1 (un d).2
    have e1 : (pw d (un d) n).1 * 2 ≤ (pw d (un d) n).1 * (un d).1 := Int.mul_le_mul_of_nonneg_left t2 (by omega)
    have e2 : 0 ≤ d * (pw d (un d) n).2 * (un d).2 := Int.mul_nonneg (Int.mul_nonneg (by omega) p2) (by have : 1 ≤ (un d).2 := hu.u1; omega)
    have e3 : (2 : Int) ^ (n + 1) = 2 ^ n * 2 := Int.pow_succ _ _
    unfold mulX
    rw [e3]
    omega
theorem upw_grow {d : Int} (h : rootD d = true) (m : Int) : (2 : Int) ^ m.natAbs ≤ (upw d m).1 := by
  rcases Int.le_total 0 m with hm | hm
  · obtain ⟨n, rfl⟩ := Int.eq_ofNat_of_zero_le hm
    rw [upw_ofNat, Int.natAbs_natCast]
    exact pw_grow h n
  · obtain ⟨n, hn⟩ := Int.eq_ofNat_of_zero_le (show 0 ≤ -m by omega)
    have e : m = -(n : Int) := by omega
    rw [e, upw_neg', upw_ofNat, Int.natAbs_neg, Int.natAbs_natCast]
    exact pw_grow h n
/-- the step that is taken, and its power -/
def stp (d m : Int) : Int × Int := if 0 < m then un d else opp (un d)
theorem stp_pw {d : Int} (h : rootD d = true) (m : Int) : pw d (stp d m) m.natAbs = upw d m := by
  unfold stp
  by_cases z : 0 < m
  · rw [if_pos z]
    obtain ⟨n, rfl⟩ := Int.eq_ofNat_of_zero_le (show 0 ≤ m by omega)
    rw [upw_ofNat, Int.natAbs_natCast]
  · rw [if_neg z]
    obtain ⟨n, hn⟩ := Int.eq_ofNat_of_zero_le (show 0 ≤ -m by omega)
    have e : m = -(n : Int) := by omega
    rw [e, upw_neg', upw_ofNat, Int.natAbs_neg, Int.natAbs_natCast, opp_pw]
theorem head_one {d n : Int} (hd : rootD d = true) (hn : norOk n = true) {h g p : Int × Int} (hh : Head d h) (hg : Head d g) (fh : Fam d h p) (fg : Fam d g p) (e : nrm d p = n) : h = g := by
  have h0 := (norOk_iff.mp hn).2.2
  have eh : nrm d h = n := by rw [← e]; exact (fh.nrm hd).symm
  have eg : nrm d g = n := by rw [← e]; exact (fg.nrm hd).symm
  obtain ⟨q, _, _, _, hf⟩ := one_head hd hn e
  have mh : h ∈ (hds d n).filter (fun o => famB d n o p) := List.mem_filter.mpr ⟨(mem_hds hd hn).mpr ⟨hh, eh⟩, (famB_iff hd h0 eh e).mpr (fh.symm hd)⟩
  have mg : g ∈ (hds d n).filter (fun o => famB d n o p) := List.mem_filter.mpr ⟨(mem_hds hd hn).mpr ⟨hg, eg⟩, (famB_iff hd h0 eg e).mpr (fg.symm hd)⟩
  rw [hf] at mh mg
  rw [List.mem_singleton.mp mh, List.mem_singleton.mp mg]
theorem num_bd {d n : Int} (hd : rootD d = true) (hn : norOk n = true) {h : Int × Int} {s m x y : Int} (hh : Head d h) (hs : isS s) (e : (x, y) = mem d h s m) (en : nrm d (x, y) = n) (hx : x.natAbs ≤ 20) (hy : y.natAbs ≤ 6) : m.natAbs ≤ 20 := by
  have hdl := root_le hd
  have h3 := norOk_iff.mp hn
  have eh : nrm d h = n := by
    rw [← en, e]
    exact (nrm_mem hd h hs m).symm
  have hb := head_bnd hd hn hh eh
  have h4 := bnd_le4 hd hn
  have h0 := hh.nn
  have g := upw_grow hd m
  -- n u^m = s (opp h) (x, y)
  have key : n * (upw d m).1 = s * (h.1 * x - d * h.2 * y) := by
    have e1 : x = s * (h.1 * (upw d m).1 + d * h.2 * (upw d m).2) := congrArg Prod.fst e
    have e2 : y = s * (h.1 * (upw d m).2 + h.2 * (upw d m).1) := congrArg Prod.snd e
    have e3 : h.1 * h.1 - d * h.2 * h.2 = n := eh
    have s2 : s * s = 1 := by rcases hs with rfl | rfl <;> rfl
    rw [e1, e2, ← e3]
    generalize (upw d m).1 = a
    generalize (upw d m).2 = b
    grind
  have b1 : h.1 * h.1 < 3200 * 3200 := by
    have e3 : h.1 * h.1 - d * h.2 * h.2 = n := eh
    have t1 : d * h.2 ≤ 60 * 400 := Int.mul_le_mul (by omega) (by omega) h0 (by decide)
    have t2 : d * h.2 * h.2 ≤ 60 * 400 * 400 := Int.mul_le_mul t1 (by omega) h0 (by decide)
    omega
  have b2 : h.1.natAbs < 3200 := by
    by_cases z : h.1.natAbs < 3200
    · exact z
    · have := Int.mul_le_mul (show (3200 : Int) ≤ (h.1.natAbs : Int) by omega) (show (3200 : Int) ≤ (h.1.natAbs : Int) by omega) (by decide) (by omega)
      rw [Int.natAbs_mul_self'] at this
      omega
  have b3 : (h.1 * x).natAbs ≤ 3200 * 20 := by
    rw [Int.natAbs_mul]
    exact Nat.mul_le_mul (by omega) hx
  have b4 : (d * h.2 * y).natAbs ≤ 60 * 400 * 6 := by
    rw [Int.natAbs_mul, Int.natAbs_mul]
    exact Nat.mul_le_mul (Nat.mul_le_mul (by omega) (by omega)) hy
  have b5 : (s * (h.1 * x - d * h.2 * y)).natAbs ≤ 210000 := by
    rw [Int.natAbs_mul]
    have : s.natAbs = 1 := by rcases hs with rfl | rfl <;> rfl
    rw [this]
    omega
  have p1 := upw_pos1 hd m
  have b6 : (upw d m).1 ≤ 210000 := by
    rw [← key, Int.natAbs_mul] at b5
    have n1 : 1 ≤ n.natAbs := by omega
    have := Nat.mul_le_mul n1 (Nat.le_refl (upw d m).1.natAbs)
    omega
  by_cases z : m.natAbs ≤ 20
  · exact z
  · have t : (2 : Int) ^ 21 ≤ 2 ^ m.natAbs := by
      have := Nat.pow_le_pow_right (show 0 < 2 by decide) (show 21 ≤ m.natAbs by omega)
      exact_mod_cast this
    have : (2 : Int) ^ 21 = 2097152 := by decide
    omega
end ND
namespace ND
open PySem PySem.Spec L2
/-! ## promises of defs that may raise, joined -/
section
variable {P : Program} {w : World} {K : PySem.W.Frag} {mg : Str → Option Value} {base : Heap} {k : Nat} {f : Addr} {fd : FuncData} {ps : List Str} {cl : Nat → Value}
theorem fn_lift {F : FT} (G : FnOk P w K mg base CX0 k f fd ps (spD K F)) : FnOk P w K mg base (L2.CX P w) k f fd ps (spX K cl fun es c q _ => F es c q) := by
  have down : ∀ vs H Q E, spX K cl (fun es c q _ => F es c q) vs H Q E → spD K F vs H Q E := fun vs H Q E ⟨T, n, c, es, q, _, t, rs, hF, g, _⟩ => ⟨T, n, c, es, q, t, rs, hF, g⟩
  refine ⟨fun vs H Q E h => G.len vs H Q E (down _ _ _ _ h), fun A outer s H args us vs Q E hr he hb hv hs => codeAny_mono (G.run A outer s H args us vs Q E hr he hb hv (down _ _ _ _ hs)) fun r s' h => ?_⟩
  match r, h with
  | .ok (.ret u), h => exact h
  | .error e, h => exact h.elim
theorem fn_orX {F F1 F2 : FTx} (o : ∀ es c q e, F es c q e → F1 es c q e ∨ F2 es c q e) (G1 : FnOk P w K mg base (L2.CX P w) k f fd ps (spX K cl F1)) (G2 : FnOk P w K mg base (L2.CX P w) k f fd ps (spX K cl F2)) : FnOk P w K mg base (L2.CX P w) k f fd ps (spX K cl F) := by
  have one : ∀ vs H Q E, spX K cl F vs H Q E → spX K cl F1 vs H Q E ∨ spX K cl F2 vs H Q E := fun vs H Q E ⟨T, n, c, es, q, e, t, rs, hF, g⟩ => (o es c q e hF).imp (fun z => ⟨T, n, c, es, q, e, t, rs, z, g⟩) (fun z => ⟨T, n, c, es, q, e, t, rs, z, g⟩)
  exact ⟨fun vs H Q E h => (one vs H Q E h).elim (G1.len vs H Q E) (G2.len vs H Q E), fun A outer s H args us vs Q E hr he hb hv hs => (one vs H Q E hs).elim (G1.run A outer s H args us vs Q E hr he hb hv) (G2.run A outer s H args us vs Q E hr he hb hv)⟩
end
def xNever : DX := fun _ _ _ => False
section
variable {X : Cx} {cl : Nat → Value} {E : XK} {rest : List Stmt} {e ix : Expr} {es args : List Expr} {fs : List Addr} {Ffs : List FTx} {di : DE} {da : DA} {pos tp sp : Pos} {kk : Nat}
theorem xs_nevers : PSs X rest (LX X.K cl E xNever) := ⟨fun pins s σ H D I h => by
  obtain ⟨_, _, _, _, _, _, z, _⟩ := h
  exact z.elim⟩
/-! ## functions out of a tuple -/
inductive Fns (X : Cx) (cl : Nat → Value) : List Expr → List Addr → List FTx → Prop
  | nil : Fns X cl [] [] []
  | cons {x : Str} {p : Pos} {f : Addr} {fd : FuncData} {ps : List Str} {k : Nat} {F : FTx} {es : List Expr} {fs : List Addr} {Ffs : List FTx} (hg : Gl X x) (hm : X.mg x = some (.ref f)) (hd : (x == ("__debug__" : Str)) = false) (hk : PySem.W.keepIn X.K (.ref f) = true) (hb : Binds X.K fd ps [])
      (hr : Room k X.A) (G : FnOk X.prog X.w X.K X.mg X.base (L2.CX X.prog X.w) k f fd ps (spX X.K cl F)) (r : Fns X cl es fs Ffs) : Fns X cl (.Name x p :: es) (f :: fs) (F :: Ffs)
theorem Fns.pa (h : Fns X cl es fs Ffs) : PA X es (fun _ H Q => Q (fs.map V.ref) H) := by
  induction h with
  | nil => exact pa_nil
  | cons hg hm hd hk hb hr G r ih => exact PA.le (pa_cons (pe_glob (v := .ref _) hg hm rfl hd) ih rfl) fun σ H Q q => q
/-- what a call of a function needs -/
def Cal (X : Cx) (cl : Nat → Value) (f : Addr) (F : FTx) : Prop := ∃ (fd : FuncData) (ps : List Str) (k : Nat), PySem.W.keepIn X.K (.ref f) = true ∧ Binds X.K fd ps [] ∧ Room k X.A ∧ FnOk X.prog X.w X.K X.mg X.base (L2.CX X.prog X.w) k f fd ps (spX X.K cl F)
theorem Fns.get (h : Fns X cl es fs Ffs) : ∀ {i : Nat} {F : FTx}, Ffs[i]? = some F → ∃ f, fs[i]? = some f ∧ Cal X cl f F := by
  induction h with
  | nil => intro i F e; simp at e
  | cons hg hm hd hk hb hr G r ih =>
    intro i F e
    cases i with
    | zero =>
      cases (show some _ = some F from e)
      exact ⟨_, rfl, _, _, _, hk, hb, hr, G⟩
    | succ i => exact ih (i := i) (by simpa using e)
theorem Fns.len (h : Fns X cl es fs Ffs) : fs.length = Ffs.length := by
  induction h with
  | nil => rfl
  | cons _ _ _ _ _ _ _ _ ih => simp [ih]
theorem pe_callE {fe : Expr} {tf : TE} {t : TA} (tk : Takes X (fun cls d _ H => E cls d H)) (hf : PE X fe tf) (ha : PA X (e :: args) t)
    (ht : eval (.Call fe (e :: args) [] pos) X.env = (do callWith pos (← eval fe X.env) [] (backTo pos (starEach (e :: args) X.env)) (backToKw pos (keywordEach [] X.env))) := by rfl)
    (he : starEach (e :: args) X.env = (false, eval e X.env) :: starEach args X.env := by rfl) (hpl : (backTo pos (starEach args X.env)).any (·.1) = false := by rfl) :
    PE X (.Call fe (e :: args) [] pos) (fun σ H Q => tf σ H fun v H1 => ∃ f F, v = .ref f ∧ Cal X cl f F ∧ t σ H1 fun vs H2 => spX X.K cl F vs H2 Q E) := by
  constructor
  intro pins s σ H Q I h
  rw [ht]
  apply wpAny_bind
  apply thn (hf.run pins s σ H _ I h)
  rintro v s1 ⟨x, H1, I1, r1, f, F, rfl, ⟨fd, ps, k, hk, hb, hr, G⟩, q⟩
  cases r1
  exact PySem.W.callWith_K (h₀ := X.base) I.ok.mod.kin hk (thn (ha.run pos pins s1 σ H1 _ I1 q) fun us s2 ⟨vs, H2, I2, r, q2⟩ => ⟨I2.kIn, run_fnS (E := fun _ => E) G hr hb (passAt tk σ) I2 r q2⟩) he hpl
end
/-- a slot that is not known any more -/
theorem Hd.hide {K : PySem.W.Frag} {T : Option Addr} {n : Nat} {c : Cn} {S : Sl} {σ : SS} {H : Hp} (hS : Hd K T n S c σ H) (i : Nat) (v : Option V) : Hd K T n (S.set i none) c (σ.set i v) H := by
  have old : ∀ {j : Nat} {e : En}, (S.set i none)[j]? = some (some e) → j ≠ i ∧ S[j]? = some (some e) := fun {j e} h => by
    rcases get_set h with ⟨_, z⟩ | z
    · cases z
    · exact z
  have at_ : ∀ {j : Nat}, j ≠ i → (σ.set i v)[j]? = σ[j]? := fun {j} h => List.getElem?_set_ne (Ne.symm h)
  exact {
    len := by rw [List.length_set, List.length_set]; exact hS.len
    rep := fun j e h => by
      obtain ⟨n, z⟩ := old h
      obtain ⟨u, e1, r⟩ := hS.rep j e z
      exact ⟨u, by rw [at_ n]; exact e1, r⟩
    tru := fun j xs h => by
      obtain ⟨n, z⟩ := old h
      obtain ⟨a, vs, e1, r⟩ := hS.tru j xs z
      exact ⟨a, vs, by rw [at_ n]; exact e1, r⟩
    dis := fun j l xs a e hjl h1 h2 h3 h4 h5 => by
      obtain ⟨n1, z1⟩ := old h1
      obtain ⟨n2, z2⟩ := old h3
      rw [at_ n1] at h2
      rw [at_ n2] at h5
      exact hS.dis j l xs a e hjl z1 h2 z2 h4 h5
    tow := hS.tow }
end ND
namespace ND
open PySem PySem.Spec L2
/-! ## return (f, g, ..)[i](args) -/
section
variable {X : Cx} {cl : Nat → Value} {E : XK} {e ix : Expr} {es args : List Expr} {fs : List Addr} {Ffs : List FTx} {di : DE} {dt : DT} {da db : DA} {pos tp sp rp : Pos}
theorem ret_end {K : PySem.W.Frag} {T : Option Addr} {n : Nat} {S : Sl} {c c1 : Cn} {σ : SS} {H H1 : Hp} {D : Ends} {d : XEnds} {F : FTx} {vs : List V} {es : List En} (t : Tw T n c H)
    (h2 : ∀ e c', d.rt e c' → ∀ v H', ND.Fr0 T S σ H H' → Tw T n c' H' → Rr K T S σ H H' v e → D.rt v H') (h3 : ∀ j c', d.ex j c' → ∀ H', ND.Fr0 T S σ H H' → Tw T n c' H' → E (cl j) none H')
    (f1 : FrT T H H1) (t1 : Tw T n c1 H1) (r1 : RvAll K T H1 vs es) (k1 : F es c1 (retE { nx := d.nx, rt := d.rt }) d.ex) : spX K cl F vs H1 D.rt E := by
  refine ⟨T, n, c1, es, _, _, t1, r1, k1, fun e c' k v H' f2 t2 r2 => ?_, fun j c' k H' f2 t2 => h3 j c' k H' (fr0_of (f1.trans f2) t2) t2⟩
  have r := rf_trans (c' := c1) r2 f1 t
  have f := f1.trans f2
  match e, k, r with
  | .im x, k, r => exact h2 _ _ k v H' (fr0_of f t2) t2 r.rv
  | .own xs, k, r =>
    obtain ⟨a, vs, e1, n1, s1, q1⟩ := r.nw
    obtain ⟨a2, vs2, e2, n2, _, _⟩ := r.rv
    cases e1.symm.trans e2
    exact h2 _ _ k v H' (fr0_of f t2) t2 ⟨a, vs, e1, n2, .inl n1, s1, q1⟩
  | .ro xs, k, _ => exact k.elim
  | .sc xs, k, _ => exact k.elim
  | .tw, k, _ => exact k.elim
  | .ses a, k, r => exact h2 _ _ k v H' (fr0_of f t2) t2 r.rv
  | .sp _ _, k, _ => exact k.elim
def xPick (Ffs : List FTx) (di : DE) (da : DA) : DX := fun d S c => di S c fun e c1 => ∃ (i : Nat) (F : FTx), e = .im (.int (i : Nat)) ∧ Ffs[i]? = some F ∧ da S c1 fun es c2 => F (es.map view) c2 (retE { nx := d.nx, rt := d.rt }) d.ex
/-- the tuple stands at p, the index and the arguments follow -/
theorem pick_from {T : Option Addr} {n : Nat} {S0 S : Sl} {c0 c : Cn} {σ0 σ : SS} {H0 H : Hp} {D : Ends} {d : XEnds} {p : Addr} (hF : Fns X cl es fs Ffs) (t0 : Tw T n c0 H0) (hS : Hd X.K T n S c σ H) (f0 : FrT T H0 H) (hp : H p = some (.tup (fs.map V.ref))) (nt : Nt T H p)
    (h2 : ∀ e c', d.rt e c' → ∀ v H', ND.Fr0 T S0 σ0 H0 H' → Tw T n c' H' → Rr X.K T S0 σ0 H0 H' v e → D.rt v H') (h3 : ∀ j c', d.ex j c' → ∀ H', ND.Fr0 T S0 σ0 H0 H' → Tw T n c' H' → E (cl j) none H')
    (h : xPick Ffs di da d S c) : LE X.K di σ H fun y H2 => rIxT X.K (.ref p) y H2 fun v H3 => ∃ f F, v = .ref f ∧ Cal X cl f F ∧ LA X.K da σ H3 fun vs H4 => spX X.K cl F vs H4 D.rt E := by
  refine ⟨T, n, S, c, _, hS, h, ?_⟩
  rintro _ c1 ⟨i, F, rfl, eF, k1⟩ y H2 f2 t2 r2
  obtain ⟨f, e1, C⟩ := hF.get eF
  have ry : y = .int (i : Nat) := by
    have := r2.rv
    cases this
    rfl
  refine ⟨p, fs.map V.ref, (i : Nat), .ref f, rfl, ry, .inl (.inl (f2.keep p _ hp nt)), atI_nat (by rw [List.getElem?_map, e1]; rfl), f, F, rfl, C, T, n, S, c1, _, hS.mono f2 t2, k1, fun es c3 k3 vs H3 f3 t3 r3 => ?_⟩
  exact ret_end t0 h2 h3 ((f0.trans f2).trans f3) t3 r3.view k3
theorem xs_pick {x1} (tk : Takes X (fun cls d _ H => E cls d H)) (hF : Fns X cl es fs Ffs) (hl : Ffs.length ≤ 100) (hi : PE X ix (LE X.K di)) (ha : PA X (e :: args) (LA X.K da)) (hx : PlainIx ix := by exact fun _ _ => rfl)
    (ht : eval (.Call (.Subscript (.Tuple es x1 tp) ix sp) (e :: args) [] pos) X.env = (do callWith pos (← eval (.Subscript (.Tuple es x1 tp) ix sp) X.env) [] (backTo pos (starEach (e :: args) X.env)) (backToKw pos (keywordEach [] X.env))) := by rfl)
    (he : starEach (e :: args) X.env = (false, eval e X.env) :: starEach args X.env := by rfl) (hpl : (backTo pos (starEach args X.env)).any (·.1) = false := by rfl) :
    PS X (.Return (some (.Call (.Subscript (.Tuple es x1 tp) ix sp) (e :: args) [] pos)) rp) (LX X.K cl E (xPick Ffs di da)) := by
  refine PS.le (ps_ret (pe_callE (cl := cl) (E := E) tk (pe_ix ix_tup (pe_tup hF.pa) hi hx) ha ht he hpl)) fun D σ H h => ?_
  obtain ⟨T, n, S, c, d, hS, h, h1, h2, h3⟩ := h
  have nl := sizeLine_eq
  have hlen := hF.len
  refine ⟨by rw [List.length_map]; omega, fun p hp => ?_⟩
  have s := same_upd (o := HO.tup (fs.map V.ref)) hp
  have nt : Nt T (upd H p (.tup (fs.map V.ref))) p := ⟨fun z => (by
    obtain ⟨ts, e, _⟩ := hS.tow.tow p z
    rw [hp] at e
    cases e), fun m => by
    cases m with
    | ins z => rw [upd_same] at z; cases z
    | fld _ _ z => rw [upd_same] at z; cases z⟩
  exact pick_from hF hS.tow (hS.mono (frT_same s) (tw_same hS.tow s)) (frT_same s) upd_same nt h2 h3 h
/-- n = (f, g, ..); return h(args) if test else n[i](args) -/
def xAsk (a : Nat) (Ffs : List FTx) (F : FTx) (dt : DT) (db : DA) (di : DE) (da : DA) : DX := fun d S c => a < S.length ∧ dt (S.set a none) c fun b c1 =>
  if b = true then db (S.set a none) c1 fun es c2 => F (es.map view) c2 (retE { nx := d.nx, rt := d.rt }) d.ex else xPick Ffs di da d (S.set a none) c1
theorem xs_ask {x1 : Nat} {tst ec : Expr} {a : Nat} {x : Str} {p1 p2 p3 p4 p5 : Pos} {F : FTx} (tk : Takes X (fun cls d _ H => E cls d H)) (hN : X.N.Nodup) (hi : X.N[a]? = some x) (hx : Loc X.env.scope x) (hF : Fns X cl es fs Ffs) (hl : Ffs.length ≤ 100)
    (hs : PS X (.Assign [.Name x p1] (.Tuple es x1 tp) p2) (tAsg (tTup (fun _ H Q => Q (fs.map V.ref) H)) (gName a)))
    (hc : PT X tst (LT X.K dt)) (hb : PE X ec (tCallS (spX X.K cl F) (fun _ => E) (LA X.K db))) (hix : PE X ix (LE X.K di)) (ha : PA X (e :: args) (LA X.K da)) (hp : PlainIx ix := by exact fun _ _ => rfl)
    (ht : eval (.Call (.Subscript (.Name x p3) ix sp) (e :: args) [] pos) X.env = (do callWith pos (← eval (.Subscript (.Name x p3) ix sp) X.env) [] (backTo pos (starEach (e :: args) X.env)) (backToKw pos (keywordEach [] X.env))) := by rfl)
    (he : starEach (e :: args) X.env = (false, eval e X.env) :: starEach args X.env := by rfl) (hpl : (backTo pos (starEach args X.env)).any (·.1) = false := by rfl) (hv : PE X (.Name x p3) (tVar a)) :
    PSs X [.Assign [.Name x p1] (.Tuple es x1 tp) p2, .Return (some (.IfExp tst ec (.Call (.Subscript (.Name x p3) ix sp) (e :: args) [] pos) p4)) p5] (LX X.K cl E (xAsk a Ffs F dt db di da)) := by
  refine PSs.le (pss_cons hs (pss_one (ps_ret (pe_ifExp hc hb (pe_callE (cl := cl) (E := E) tk (pe_ix ix_tup hv hix hp) ha ht he hpl))))) fun D σ H h => ?_
  obtain ⟨T, n, S, c, d, hS, ⟨la, h⟩, h1, h2, h3⟩ := h
  have nl := sizeLine_eq
  have hlen := hF.len
  refine ⟨by rw [List.length_map]; omega, fun p hp => ?_⟩
  have s := same_upd (o := HO.tup (fs.map V.ref)) hp
  have nt : Nt T (upd H p (.tup (fs.map V.ref))) p := ⟨fun z => (by
    obtain ⟨ts, e, _⟩ := hS.tow.tow p z
    rw [hp] at e
    cases e), fun m => by
    cases m with
    | ins z => rw [upd_same] at z; cases z
    | fld _ _ z => rw [upd_same] at z; cases z⟩
  have hS1 := (hS.mono (frT_same s) (tw_same hS.tow s)).hide a (some (.ref p))
  refine ⟨T, n, _, c, _, hS1, h, fun b c1 k H1 f1 t1 => ?_⟩
  cases b with
  | true =>
    refine ⟨T, n, _, c1, _, hS1.mono f1 t1, k, fun es c2 k2 vs H2 f2 t2 r2 => ?_⟩
    exact ret_end hS.tow h2 h3 (((frT_same s).trans f1).trans f2) t2 r2.view k2
  | false =>
    refine ⟨.ref p, List.getElem?_set_self (by have := hS.len; omega), ?_⟩
    exact pick_from hF hS.tow (hS1.mono f1 t1) ((frT_same s).trans f1) (f1.keep p _ upd_same nt) (f1.nt nt upd_same) h2 h3 k
/-- if test: return .. -/
def xIf (dt : DT) (a : DX) : DX := fun d S c => dt S c fun b c1 => if b = true then a d S c1 else d.nx S c1
theorem xs_if {tst : Expr} {ss : List Stmt} {a : DX} (hc : PT X tst (LT X.K dt)) (hb : PSs X ss (LX X.K cl E a)) : PS X (.If tst ss [] pos) (LX X.K cl E (xIf dt a)) := by
  refine PS.le (ps_if hc hb pss_nil) fun D σ H h => ?_
  obtain ⟨T, n, S, c, d, hS, h, h1, h2, h3⟩ := h
  refine ⟨T, n, S, c, _, hS, h, fun b c1 k H1 f1 t1 => ?_⟩
  have f0 := fs_of (S := S) (σ := σ) f1 t1
  cases b with
  | true => exact ⟨T, n, S, c1, d, hS.mono f1 t1, k, fun S2 c2 q2 σ2 H2 f2 hd2 => h1 _ _ q2 σ2 H2 (f0.trans f2) hd2, fun e c2 q2 v H2 f2 t2 r2 => h2 _ _ q2 v H2 (f0.trans0 f2) t2 (r2.trans f0), fun j c2 q2 H2 f2 t2 => h3 _ _ q2 H2 (f0.trans0 f2) t2⟩
  | false => exact h1 S c1 k σ H1 f0 (hS.mono f1 t1)
end
section
variable {X : Cx} {k : Nat} {f : Addr} {fd : FuncData} {ps : List Str} {F : FT} {x : Str} {p pos : Pos}
theorem de_call0 (G : FnOk X.prog X.w X.K X.mg X.base CX0 k f fd ps (spD X.K F)) (hr : Room k X.A) (hg : Gl X x) (hm : X.mg x = some (.ref f)) (hk : PySem.W.keepIn X.K (.ref f) = true) (hb : Binds X.K fd ps []) (hdb : (x == ("__debug__" : Str)) = false := by decide) :
    PE X (.Call (.Name x p) [] [] pos) (LE X.K (dCall F dNil)) := by
  refine PE.le (pe_call0 G hr hg hm hk hb .nil pass0 hdb) fun σ H Q h => ?_
  obtain ⟨T, n, S, c, q, hS, h, g⟩ := h
  exact ⟨T, n, c, [], q, hS.tow, .nil, h, g⟩
end
/-- a check, and the number of the exception -/
def ck (good : Bool) (j : Nat) (r : Option Nat) : Option Nat := if good = true then r else some j
theorem ck_of {good : Bool} {j J : Nat} {r : Option Nat} {P Q : Prop} (h : ck good j r = some J) (q : J = j → Q) (next : r = some J → P) : if good = true then P else Q := by
  cases good with
  | true => exact next h
  | false => exact q (by cases h; rfl)
end ND
namespace ND
open PySem PySem.Spec L2
/-! ## texts: len, in, int, str, list, split, f-strings -/
section
variable {X : Cx}
def rLenS : List En → (En → Prop) → Prop
  | [.im (.str z)], k => z.length ≤ 100000 ∧ k (.im (.int z.length))
  | _, _ => False
theorem cd_lenS : CallR X (.builtin "len") (RC X.K rLenS) := by
  refine CallR.le call_len_str fun vs H Q h => ?_
  obtain ⟨T, n, c, es, k, t, r, h, q⟩ := h
  unfold rLenS at h
  split at h
  · cases r with
    | cons r1 _ rs =>
      cases rs
      cases r1
      exact ⟨_, rfl, line_of h.1, q _ h.2 _ H (same_refl H) ⟨.int _, trivial⟩⟩
  · exact h.elim
def rIntS : List En → (En → Prop) → Prop
  | [.im (.str z)], k => ∃ i, PySem.intText? z = some i ∧ z.length ≤ 640 ∧ k (.im (.int i))
  | _, _ => False
theorem cd_intS : CallR X (.type "int") (RC X.K rIntS) := by
  refine CallR.le call_int_str fun vs H Q h => ?_
  obtain ⟨T, n, c, es, k, t, r, h, q⟩ := h
  unfold rIntS at h
  split at h
  · cases r with
    | cons r1 _ rs =>
      cases rs
      cases r1
      obtain ⟨i, h1, h2, h3⟩ := h
      exact ⟨_, i, rfl, h1, h2, q _ h3 _ H (same_refl H) ⟨.int _, trivial⟩⟩
  · exact h.elim
/-- a number's text -/
def nTx (i : Int) : Str := Str.ofString (toString i)
def rStrI : List En → (En → Prop) → Prop
  | [.im (.int i)], k => i.natAbs.log2 < 1920 ∧ k (.im (.str (nTx i)))
  | _, _ => False
theorem cd_strI : CallR X (.type "str") (RC X.K rStrI) := by
  refine CallR.le call_str_int fun vs H Q h => ?_
  obtain ⟨T, n, c, es, k, t, r, h, q⟩ := h
  unfold rStrI at h
  split at h
  · cases r with
    | cons r1 _ rs =>
      cases rs
      cases r1
      exact ⟨_, rfl, h.1, q _ h.2 _ H (same_refl H) ⟨.str _, trivial⟩⟩
  · exact h.elim
theorem call_list_sg (hc : X.calm = true) : CallR X (.type "list") (fun xs H Q => ∃ z : Str, xs = [.str z] ∧ z.length ≤ sizeLine ∧ ∀ p, H p = none → Q (.ref p) (upd H p (.lst (z.cps.toList.map fun c => V.str ⟨#[c]⟩)))) := by
  rintro pins s σ H _ us Q I r ⟨z, rfl, hz, q⟩
  obtain ⟨u, rfl, t, rfl⟩ := vals1 r
  refine call_list_str (I.ok.hd hc) z t (fun h' tk acc c' kp e items => ?_) hz
  refine ⟨.ref s.heap.objs.size, _, I.laid (t' := tk) kp (Nat.le_refl _) (show ObjOk X.prog X.w _ h' _ (.lst _) from ⟨by rw [List.length_map]; exact hz, acc.toList, c', ?_, e⟩), rfl, q _ (I.hok.fresh (Nat.le_refl _))⟩
  refine vals_of_idx _ _ (by rw [List.length_map]; exact items.1) fun j v hv => ?_
  obtain ⟨c, w, e1, rfl⟩ := items.2 j v (by simpa using hv)
  exact ⟨.str ⟨#[c]⟩, by simp [e1], ⟨w, rfl⟩⟩
def rLstS : List En → (En → Prop) → Prop
  | [.im (.str z)], k => z.length ≤ 100000 ∧ k (.own (sgs z))
  | _, _ => False
theorem rpAll_sgs {K : PySem.W.Frag} {H : Hp} : ∀ l : List Nat, RpAll K H (l.map fun c => V.str ⟨#[c]⟩) (l.map fun c => PyData.str ⟨#[c]⟩)
  | [] => .nil
  | c :: l => .cons (.str _) (rpAll_sgs l)
theorem cd_lstS (hc : X.calm = true) : CallR X (.type "list") (RC X.K rLstS) := by
  refine CallR.le (call_list_sg hc) fun vs H Q h => ?_
  obtain ⟨T, n, c, es, k, t, r, h, q⟩ := h
  unfold rLstS at h
  split at h
  · cases r with
    | cons r1 _ rs =>
      cases rs
      cases r1
      exact ⟨_, rfl, line_of h.1, fun p hp => q _ h.2 _ _ (same_upd hp) (rf_own hp (rpAll_sgs _) t)⟩
  · exact h.elim
/-- c in z, c one sign -/
def rInS (f : Bool → Bool) : En → En → (En → Prop) → Prop
  | .im (.str a), .im (.str z), k => ∃ c, a = ⟨#[c]⟩ ∧ k (.im (.bool (f (decide (c ∈ z.cps.toList)))))
  | _, _, _ => False
theorem od_inS : OpR X (compareOp .In) (RL X.K (rInS id)) := by
  refine OpR.le op_in_sign fun x y H Q h => ?_
  obtain ⟨T, n, c, ex, ey, k, t, rx, ry, h, q⟩ := h
  unfold rInS at h
  split at h
  · cases rx
    cases ry
    obtain ⟨c, rfl, h⟩ := h
    exact ⟨c, _, rfl, rfl, q _ h _ H (same_refl H) ⟨.bl _, trivial⟩⟩
  · exact h.elim
/-- z.split(y) -/
def rSplit : En → List En → (En → Prop) → Prop := fun x es k => match x, es with
  | .im (.str a), [.im (.str b)] => (b.length == 0) = false ∧ a.length ≤ 100000 ∧ k (.own ((Txt.split a b).map PyData.str))
  | _, _ => False
theorem rpAll_strs {K : PySem.W.Frag} {H : Hp} : ∀ l : List Str, RpAll K H (l.map V.str) (l.map PyData.str)
  | [] => .nil
  | c :: l => .cons (.str _) (rpAll_strs l)
theorem md_split : MtR X "str.split" (RM X.K rSplit) := by
  refine MtR.le mt_split fun x xs H Q h => ?_
  obtain ⟨T, n, c, ex, es, k, t, rx, rs, h, q⟩ := h
  unfold rSplit at h
  split at h
  · cases rx
    cases rs with
    | cons r1 _ rs =>
      cases rs
      cases r1
      have nl := sizeLine_eq
      exact ⟨_, _, rfl, rfl, h.1, by omega, fun p hp => q _ h.2.2 _ _ (same_upd hp) (rf_own hp (rpAll_strs _) t)⟩
  · exact h.elim
end
/-! ### f-strings -/
def dFmt (de : DE) : DE := fun S c k => de S c fun x c1 => match x with
  | .im (.int i) => i.natAbs.log2 < 1920 ∧ k (.im (.str (nTx i))) c1
  | .im (.str z) => z.length ≤ 100000 ∧ k (.im (.str z)) c1
  | _ => False
def dJs : List DE → Str → Sl → Cn → (Str → Cn → Prop) → Prop
  | [], acc, _, c, k => k acc c
  | d :: ds, acc, S, c, k => d S c fun x c1 => match x with
    | .im (.str y) => (acc ++ y).length ≤ 100000 ∧ dJs ds (acc ++ y) S c1 k
    | _ => False
def dJoin (ds : List DE) : DE := fun S c k => dJs ds Str.empty S c fun out c1 => k (.im (.str out)) c1
section
variable {X : Cx} {e v1 v2 : Expr} {rest : List Expr} {de : DE} {ds : List DE} {pos : Pos}
theorem de_fmt (he : PE X e (LE X.K de)) : PE X (.FormattedValue e (-1) none pos) (LE X.K (dFmt de)) := by
  refine PE.le (pe_fmt he) fun σ H Q h => ?_
  obtain ⟨T, n, S, c, k, hS, h, q⟩ := h
  refine ⟨T, n, S, c, _, hS, h, fun e1 c1 h1 v1 H1 f1 t1 r1 => ?_⟩
  split at h1
  · cases r1.rv
    exact .inr ⟨_, rfl, h1.1, q _ _ h1.2 _ H1 f1 t1 ⟨.str _, trivial⟩⟩
  · cases r1.rv
    exact .inl ⟨_, rfl, line_of h1.1, q _ _ h1.2 _ H1 f1 t1 ⟨.str _, trivial⟩⟩
  · exact h1.elim
theorem dj_nil : PJ X [] (([] : List DE).map (LE X.K)) := .nil
theorem dj_cons {es : List Expr} (h : PE X e (LE X.K de)) (r : PJ X es (ds.map (LE X.K))) : PJ X (e :: es) ((de :: ds).map (LE X.K)) := .cons h r
theorem js_le {K : PySem.W.Frag} {T : Option Addr} {n : Nat} {S : Sl} {σ : SS} {Q : Str → Hp → Prop} {k : Str → Cn → Prop} : ∀ {ds : List DE} {acc : Str} {c : Cn} {H : Hp}, Hd K T n S c σ H → dJs ds acc S c k →
    (∀ out c', k out c' → ∀ H', FrT T H H' → Tw T n c' H' → Q out H') → tJs (ds.map (LE K)) acc σ H Q
  | [], acc, c, H, hS, h, q => q _ _ h H (.refl _ _) hS.tow
  | d :: ds, acc, c, H, hS, h, q => by
    refine ⟨T, n, S, c, _, hS, h, fun e1 c1 h1 v1 H1 f1 t1 r1 => ?_⟩
    split at h1
    · cases r1.rv
      exact ⟨_, rfl, line_of h1.1, js_le (hS.mono f1 t1) h1.2 fun out c' k' H' f t => q _ _ k' H' (f1.trans f) t⟩
    · exact h1.elim
theorem de_joined (h : PJ X (v1 :: v2 :: rest) (ds.map (LE X.K))) : PE X (.JoinedStr (v1 :: v2 :: rest) pos) (LE X.K (dJoin ds)) := by
  refine PE.le (pe_joined h) fun σ H Q h => ?_
  obtain ⟨T, n, S, c, k, hS, h, q⟩ := h
  exact js_le hS h fun out c' k' H' f t => q _ _ k' _ H' f t ⟨.str _, trivial⟩
end
end ND
namespace ND
open PySem PySem.Spec L2 TL
/-! ## the texts of equations -/
def sX : Str := "x*x - "
def sY : Str := "*y*y = "
def tex (d n : Int) : Str := sX ++ nTx d ++ sY ++ nTx n
def pfx (d : Int) : Str := sX ++ nTx d ++ sY
theorem tex_pfx (d n : Int) : tex d n = pfx d ++ nTx n := rfl
theorem tl_cut (z : Str) (lo hi : Option Int) : tl (cutS z lo hi) = ((tl z).drop (HT.sIx z.length 0 lo)).take (HT.sIx z.length z.length hi - HT.sIx z.length 0 lo) := rfl
theorem tl_take (z : Str) (m : Nat) : tl (cutS z none (some (m : Int))) = (tl z).take m := by
  rw [tl_cut, HT.sIx_none, HT.sIx_nat, List.drop_zero, Nat.sub_zero, len_tl, List.take_eq_take_iff]
  omega
theorem tl_cut1 (z : Str) (m : Nat) : tl (cutS z (some (m : Int)) none) = (tl z).drop m := by
  rw [tl_cut, HT.sIx_none, HT.sIx_nat, len_tl]
  by_cases h : m ≤ (tl z).length
  · rw [Nat.min_eq_left h, List.take_of_length_le (by rw [List.length_drop]; omega)]
  · rw [Nat.min_eq_right (by omega), List.drop_eq_nil_of_le (Nat.le_refl _), List.drop_eq_nil_of_le (by omega), List.take_nil]
theorem tl_cutN (z : Str) (m : Nat) (hm : 0 < m) : tl (cutS z none (some (-(m : Int)))) = (tl z).take ((tl z).length - m) := by
  rw [tl_cut, HT.sIx_none, List.drop_zero, Nat.sub_zero, len_tl]
  have e : HT.sIx (tl z).length (tl z).length (some (-(m : Int))) = (-(m : Int) + ((tl z).length : Int)).toNat := if_pos (by omega)
  rw [e]
  congr 1
  omega
/-! ### a word's number -/
def dgW (w : Str) : Str := if cutS w none (some 1) = ("-" : Str) then cutS w (some 1) none else w
def okD (c : Nat) : Bool := decide (c ∈ ("0123456789" : Str).cps.toList)
def okW (w : Str) : Bool := decide (1 ≤ (dgW w).length) && decide ((dgW w).length ≤ 3) && (dgW w).cps.toList.all okD
def rdN (w : Str) : PyData := if okW w = true then .int ((intText? w).getD 0) else .none
theorem dig_list : ("0123456789" : Str).cps.toList = [48, 49, 50, 51, 52, 53, 54, 55, 56, 57] := by decide +kernel
theorem okD_iff {c : Nat} (h : okD c = true) : 48 ≤ c ∧ c ≤ 57 := by
  unfold okD at h
  rw [dig_list] at h
  simp at h
  omega
theorem minus_tl : tl ("-" : Str) = [45] := by decide +kernel
theorem rd_int {w : Str} (h : okW w = true) : ∃ i, intText? w = some i ∧ w.length ≤ 640 := by
  unfold okW at h
  simp only [Bool.and_eq_true, decide_eq_true_eq, List.all_eq_true] at h
  obtain ⟨⟨h1, h3⟩, hd⟩ := h
  have ad : NumText.AllDigits (tl (dgW w)) := fun c hc => okD_iff (hd c hc)
  have ne : tl (dgW w) ≠ [] := fun e => by
    rw [len_tl, e] at h1
    simp at h1
  unfold dgW at h1 h3 ad ne
  split at h1
  · rename_i hm
    rw [if_pos hm] at h3 ad ne
    have e1 : (tl w).take 1 = [45] := by rw [← tl_take w 1, ← minus_tl]; exact congrArg tl hm
    have e2 : tl (cutS w (some 1) none) = (tl w).drop 1 := tl_cut1 w 1
    have e3 : tl w = 45 :: (tl w).drop 1 := by
      have := List.take_append_drop 1 (tl w)
      rw [e1] at this
      exact this.symm
    rw [len_tl, e2] at h3
    have hl : w.length ≤ 4 := by
      rw [len_tl, e3, List.length_cons]
      omega
    rw [e2] at ad ne
    exact ⟨_, PySem.intText_neg e3 ad ne (by omega), by omega⟩
  · rename_i hm
    rw [if_neg hm] at h3 ad ne
    exact ⟨_, PySem.intText_digits ad ne (by omega), by omega⟩
/-! ### reading -/
def prs (t : Str) : Option (Int × Int) := match Txt.split t (" " : Str) with
  | [_, _, w2, _, w4] => match rdN (cutS w2 none (some (-4))), rdN w4 with
    | .int d, .int n => if rootD d = true ∧ norOk n = true ∧ tex d n = t then some (d, n) else none
    | _, _ => none
  | _ => none
def isI (x : PyData) (i : Int) : Bool := match x with
  | .int j => j == i
  | _ => false
theorem isI_eq {x : PyData} {i : Int} (h : isI x i = true) : x = .int i := by
  cases x <;> simp [isI] at h
  rw [h]
theorem num_all : (List.range 401).all (fun k : Nat => isI (rdN (nTx ((k : Int) - 200))) ((k : Int) - 200) && decide (32 ∉ tl (nTx ((k : Int) - 200))) && decide ((nTx ((k : Int) - 200)).length ≤ 4)) = true := by decide +kernel
theorem root_all : (List.range 61).all (fun k : Nat => isI (rdN (cutS (nTx (k : Int) ++ ("*y*y" : Str)) none (some (-4)))) (k : Int) && decide (32 ∉ tl (nTx (k : Int) ++ ("*y*y" : Str)))) = true := by decide +kernel
theorem num_of {n : Int} (h : -200 ≤ n ∧ n ≤ 200) : rdN (nTx n) = .int n ∧ 32 ∉ tl (nTx n) ∧ (nTx n).length ≤ 4 := by
  have := List.all_eq_true.mp num_all (n + 200).toNat (List.mem_range.mpr (by omega))
  rw [show (((n + 200).toNat : Nat) : Int) - 200 = n by omega] at this
  simp only [Bool.and_eq_true, decide_eq_true_eq] at this
  exact ⟨isI_eq this.1.1, this.1.2, this.2⟩
theorem root_of {d : Int} (h : 0 ≤ d ∧ d ≤ 60) : rdN (cutS (nTx d ++ ("*y*y" : Str)) none (some (-4))) = .int d ∧ 32 ∉ tl (nTx d ++ ("*y*y" : Str)) := by
  have := List.all_eq_true.mp root_all d.toNat (List.mem_range.mpr (by omega))
  rw [show ((d.toNat : Nat) : Int) = d by omega] at this
  simp only [Bool.and_eq_true, decide_eq_true_eq] at this
  exact ⟨isI_eq this.1, this.2⟩
theorem tex_split {d n : Int} (hd : 0 ≤ d ∧ d ≤ 60) (hn : -200 ≤ n ∧ n ≤ 200) : Txt.split (tex d n) (" " : Str) = [("x*x" : Str), ("-" : Str), nTx d ++ ("*y*y" : Str), ("=" : Str), nTx n] := by
  have e : tex d n = Txt.join (" " : Str) [("x*x" : Str), ("-" : Str), nTx d ++ ("*y*y" : Str), ("=" : Str), nTx n] := by
    refine ext_tl ?_
    rw [join_eq, tl_join]
    unfold tex
    simp only [tl_append, List.map_cons, List.map_nil, joinL]
    have h1 : tl sX = tl ("x*x" : Str) ++ (tl (" " : Str) ++ (tl ("-" : Str) ++ tl (" " : Str))) := by decide +kernel
    have h2 : tl sY = tl ("*y*y" : Str) ++ (tl (" " : Str) ++ (tl ("=" : Str) ++ tl (" " : Str))) := by decide +kernel
    rw [h1, h2]
    simp only [List.append_assoc]
  rw [e]
  refine split_join (s := 32) (S := []) (by decide +kernel) (by decide +kernel) (by simp) fun p hp => ?_
  simp only [List.mem_cons, List.not_mem_nil, or_false] at hp
  rcases hp with rfl | rfl | rfl | rfl | rfl
  · decide +kernel
  · decide +kernel
  · exact (root_of hd).2
  · decide +kernel
  · exact (num_of hn).2.1
theorem prs_tex {d n : Int} (hd : rootD d = true) (hn : norOk n = true) : prs (tex d n) = some (d, n) := by
  have h1 := root_le hd
  have h2 := norOk_iff.mp hn
  unfold prs
  rw [tex_split ⟨by omega, h1.2⟩ ⟨h2.1, h2.2.1⟩]
  simp only
  rw [(root_of ⟨by omega, h1.2⟩).1, (num_of ⟨h2.1, h2.2.1⟩).1]
  simp [hd, hn]
theorem prs_some {t : Str} {d n : Int} (h : prs t = some (d, n)) : rootD d = true ∧ norOk n = true ∧ t = tex d n := by
  unfold prs at h
  split at h
  · split at h
    · split at h
      · rename_i g
        cases h
        exact ⟨g.1, g.2.1, g.2.2.symm⟩
      · cases h
    · cases h
  · cases h
/-! ### the law's search -/
/-- text[:len(..) - 1] == ..[:-1] -/
def pmT (t : Str) (d : Int) : Bool := cutS t none (some (((tex d 0).length : Int) - 1)) == cutS (tex d 0) none (some (-1))
theorem zero_len : tl (nTx 0) = [48] := by decide +kernel
theorem pmT_iff (t : Str) (d : Int) : pmT t d = true ↔ (tl t).take (tl (pfx d)).length = tl (pfx d) := by
  have e0 : tl (tex d 0) = tl (pfx d) ++ [48] := by rw [tex_pfx, tl_append, zero_len]
  have e1 : ((tex d 0).length : Int) - 1 = ((tl (pfx d)).length : Nat) := by
    rw [len_tl, e0, List.length_append]
    simp
  have e2 : tl (cutS (tex d 0) none (some (-1))) = tl (pfx d) := by
    have := tl_cutN (tex d 0) 1 (by decide)
    rw [show (-((1 : Nat) : Int)) = -1 by decide] at this
    rw [this, e0]
    simp
  unfold pmT
  rw [e1, beq_iff_eq]
  constructor
  · intro h
    have h' := congrArg tl h
    rw [tl_take, e2] at h'
    exact h'
  · intro h
    refine ext_tl ?_
    rw [tl_take, e2]
    exact h
theorem pmT_tex (d n : Int) : pmT (tex d n) d = true := by
  rw [pmT_iff, tex_pfx, tl_append, List.take_left']
  rfl
theorem pfx_free : (List.range 59).all (fun a : Nat => (List.range 59).all fun b : Nat => (decide (a = b)) || !((tl (pfx ((b : Int) + 2))).take (tl (pfx ((a : Int) + 2))).length == tl (pfx ((a : Int) + 2)))) = true := by decide +kernel
theorem pfx_inj {d e : Int} (hd : 2 ≤ d ∧ d ≤ 60) (he : 2 ≤ e ∧ e ≤ 60) (h : (tl (pfx e)).take (tl (pfx d)).length = tl (pfx d)) : d = e := by
  have := List.all_eq_true.mp (List.all_eq_true.mp pfx_free (d - 2).toNat (List.mem_range.mpr (by omega))) (e - 2).toNat (List.mem_range.mpr (by omega))
  rw [show (((d - 2).toNat : Nat) : Int) + 2 = d by omega, show (((e - 2).toNat : Nat) : Int) + 2 = e by omega] at this
  rw [h] at this
  simp at this
  omega
theorem pmT_inj {t : Str} {d e : Int} (hd : 2 ≤ d ∧ d ≤ 60) (he : 2 ≤ e ∧ e ≤ 60) (h1 : pmT t d = true) (h2 : pmT t e = true) : d = e := by
  rw [pmT_iff] at h1 h2
  by_cases l : (tl (pfx d)).length ≤ (tl (pfx e)).length
  · refine pfx_inj hd he ?_
    rw [← h2, List.take_take, Nat.min_eq_left l, h1]
  · refine (pfx_inj he hd ?_).symm
    rw [← h1, List.take_take, Nat.min_eq_left (by omega), h2]
theorem nTx_inj {n m : Int} (hn : -200 ≤ n ∧ n ≤ 200) (hm : -200 ≤ m ∧ m ≤ 200) (h : nTx n = nTx m) : n = m := by
  have h1 := (num_of hn).1
  rw [h, (num_of hm).1] at h1
  cases h1
  rfl
theorem tex_inj {d n m : Int} (hn : -200 ≤ n ∧ n ≤ 200) (hm : -200 ≤ m ∧ m ≤ 200) (h : tex d n = tex d m) : n = m := by
  refine nTx_inj hn hm (ext_tl ?_)
  have := congrArg tl h
  rw [tex_pfx, tex_pfx, tl_append, tl_append] at this
  exact List.append_cancel_left this
/-- what the law reads -/
def plr (t : Str) : PyData := match prs t with
  | some (d, n) => pr d n
  | none => .none
/-- those that fit -/
def fits (t : Str) (d : Int) : List Int := ((List.range 401).map fun i : Nat => -200 + (i : Int)).filter fun n => decide (t = tex d n)
theorem mem_fits {t : Str} {d n : Int} : n ∈ fits t d ↔ (-200 ≤ n ∧ n ≤ 200) ∧ t = tex d n := by
  unfold fits
  simp only [List.mem_filter, List.mem_map, List.mem_range, decide_eq_true_eq]
  constructor
  · rintro ⟨⟨i, hi, rfl⟩, h⟩
    exact ⟨by omega, h⟩
  · rintro ⟨h, e⟩
    exact ⟨⟨(n + 200).toNat, by omega, by omega⟩, e⟩
theorem fits_one {t : Str} {d n : Int} {r : List Int} (h : fits t d = n :: r) : r = [] := by
  have nd : (fits t d).Nodup := by
    unfold fits
    refine List.Pairwise.filter _ ?_
    refine List.pairwise_map.mpr ((List.nodup_range (n := 401)).imp fun hab e => hab ?_)
    omega
  cases r with
  | nil => rfl
  | cons m r =>
    have hn : n ∈ fits t d := by rw [h]; exact List.mem_cons_self
    have hm : m ∈ fits t d := by rw [h]; exact List.mem_cons_of_mem _ List.mem_cons_self
    rw [mem_fits] at hn hm
    have e := tex_inj hn.1 hm.1 (hn.2.symm.trans hm.2)
    rw [h, e] at nd
    simp at nd
/-- the answer behind a prefix that fits -/
theorem plr_at {t : Str} {d : Int} (hd : rootD d = true) (hp : pmT t d = true) : plr t = match fits t d with
    | [] => .none
    | n :: _ => if n = 0 then .none else pr d n := by
  have rd := root_le hd
  have key : ∀ e n, prs t = some (e, n) → e = d ∧ n ∈ fits t d ∧ n ≠ 0 := fun e n h => by
    obtain ⟨h1, h2, h3⟩ := prs_some h
    have h4 := norOk_iff.mp h2
    have e1 : e = d := pmT_inj (root_le h1) rd (by rw [h3]; exact pmT_tex e n) hp
    subst e1
    exact ⟨rfl, mem_fits.mpr ⟨⟨h4.1, h4.2.1⟩, h3⟩, h4.2.2⟩
  cases hf : fits t d with
  | nil =>
    unfold plr
    split
    · rename_i e n h
      obtain ⟨_, h, _⟩ := key e n h
      rw [hf] at h
      cases h
    · rfl
  | cons n r =>
    have r0 := fits_one hf
    subst r0
    have hn : n ∈ fits t d := by rw [hf]; exact List.mem_cons_self
    by_cases z : n = 0
    · simp only [z, if_true]
      unfold plr
      split
      · rename_i e m h
        obtain ⟨_, h, h0⟩ := key e m h
        rw [hf] at h
        rw [List.mem_singleton.mp h] at h0
        exact absurd z h0
      · rfl
    · simp only [z, if_false]
      obtain ⟨h1, h2⟩ := mem_fits.mp hn
      have h3 : norOk n = true := norOk_iff.mpr ⟨h1.1, h1.2, z⟩
      unfold plr
      rw [h2, prs_tex hd h3]
theorem plr_no {t : Str} (h : ∀ d, rootD d = true → pmT t d = false) : plr t = .none := by
  unfold plr
  split
  · rename_i e n h'
    obtain ⟨h1, h2, h3⟩ := prs_some h'
    have := h e h1
    rw [h3, pmT_tex] at this
    cases this
  · rfl
theorem tex_len {d n : Int} (hd : 2 ≤ d ∧ d ≤ 60) (hn : -200 ≤ n ∧ n ≤ 200) : (tex d n).length ≤ 30 := by
  have h1 := (num_of (n := d) ⟨by omega, by omega⟩).2.2
  have h2 := (num_of hn).2.2
  have e1 : (tl sX).length = 6 := by decide +kernel
  have e2 : (tl sY).length = 7 := by decide +kernel
  rw [len_tl] at h1 h2
  unfold tex
  rw [len_tl]
  simp only [tl_append, List.length_append]
  omega
/-! ### short plain texts -/
def Asc (x : Str) : Prop := (∀ c ∈ tl x, c < 128) ∧ x.length ≤ 1000
theorem Asc.shp {x : Str} (h : Asc x) : Shp (.str x) := shp_str (by
  show PyData.strOk x = true
  unfold PyData.strOk
  rw [Array.all_eq_true']
  intro c hc
  have := h.1 c (Array.mem_toList_iff.mpr hc)
  simp only [decide_eq_true_eq]
  omega)
theorem Asc.cut {x : Str} (h : Asc x) (lo hi : Option Int) : Asc (cutS x lo hi) := ⟨fun c hc => h.1 c (by
  rw [tl_cut] at hc
  exact List.mem_of_mem_drop (List.mem_of_mem_take hc)), Nat.le_trans (cutS_length x lo hi) h.2⟩
theorem spl_mem (S : List Nat) : ∀ (L : List Nat) (k : Nat) (acc : List Nat), ∀ p ∈ spl S k acc L, (∀ c ∈ p, c ∈ acc ∨ c ∈ L) ∧ p.length ≤ acc.length + L.length
  | [], k, acc, p, hp => by
    rw [spl_nil, List.mem_singleton] at hp
    subst hp
    exact ⟨fun c hc => .inl hc, by simp⟩
  | x :: L, 0, acc, p, hp => by
    unfold spl at hp
    split at hp
    · rcases List.mem_cons.mp hp with rfl | hp
      · exact ⟨fun c hc => .inl hc, by omega⟩
      · obtain ⟨h1, h2⟩ := spl_mem S L _ [] p hp
        refine ⟨fun c hc => .inr (List.mem_cons_of_mem _ ((h1 c hc).resolve_left (by simp))), ?_⟩
        simp at h2 ⊢
        omega
    · obtain ⟨h1, h2⟩ := spl_mem S L 0 _ p hp
      refine ⟨fun c hc => ?_, by simp at h2 ⊢; omega⟩
      rcases h1 c hc with h | h
      · rcases List.mem_append.mp h with h | h
        · exact .inl h
        · rw [List.mem_singleton.mp h]
          exact .inr List.mem_cons_self
      · exact .inr (List.mem_cons_of_mem _ h)
  | x :: L, k + 1, acc, p, hp => by
    unfold spl at hp
    obtain ⟨h1, h2⟩ := spl_mem S L k acc p hp
    exact ⟨fun c hc => (h1 c hc).imp id (List.mem_cons_of_mem _), by simp; omega⟩
theorem Asc.split {t w : Str} (h : Asc t) (hw : w ∈ Txt.split t (" " : Str)) : Asc w := by
  have e := split_spl t (" " : Str) (by decide +kernel) (kind_ok (by decide +kernel))
  have hm : tl w ∈ spl (tl (" " : Str)) 0 [] (tl t) := by
    rw [← e]
    exact List.mem_map_of_mem hw
  obtain ⟨h1, h2⟩ := spl_mem _ _ _ _ _ hm
  refine ⟨fun c hc => h.1 c ((h1 c hc).resolve_left (by simp)), ?_⟩
  have := h.2
  rw [len_tl] at this ⊢
  rw [List.length_nil] at h2
  omega
theorem asc_num : (List.range 401).all (fun k : Nat => (tl (nTx ((k : Int) - 200))).all fun c => decide (c < 128)) = true := by decide +kernel
theorem asc_nTx {n : Int} (h : -200 ≤ n ∧ n ≤ 200) : ∀ c ∈ tl (nTx n), c < 128 := by
  have := List.all_eq_true.mp asc_num (n + 200).toNat (List.mem_range.mpr (by omega))
  rw [show (((n + 200).toNat : Nat) : Int) - 200 = n by omega] at this
  intro c hc
  exact of_decide_eq_true (List.all_eq_true.mp this c hc)
theorem asc_sX : ∀ c ∈ tl sX, c < 128 := by
  have : (tl sX).all (fun c => decide (c < 128)) = true := by decide +kernel
  exact fun c hc => of_decide_eq_true (List.all_eq_true.mp this c hc)
theorem asc_sY : ∀ c ∈ tl sY, c < 128 := by
  have : (tl sY).all (fun c => decide (c < 128)) = true := by decide +kernel
  exact fun c hc => of_decide_eq_true (List.all_eq_true.mp this c hc)
theorem asc_tex {d n : Int} (hd : 2 ≤ d ∧ d ≤ 60) (hn : -200 ≤ n ∧ n ≤ 200) : Asc (tex d n) := by
  refine ⟨fun c hc => ?_, Nat.le_trans (tex_len hd hn) (by decide)⟩
  unfold tex at hc
  simp only [tl_append, List.mem_append] at hc
  rcases hc with ((hc | hc) | hc) | hc
  · exact asc_sX c hc
  · exact asc_nTx ⟨by omega, by omega⟩ c hc
  · exact asc_sY c hc
  · exact asc_nTx hn c hc
theorem log_small {n : Int} (h : -200 ≤ n ∧ n ≤ 200) : n.natAbs.log2 < 1920 := by
  rcases Nat.eq_zero_or_pos n.natAbs with e | e
  · rw [e]; decide
  · rw [Nat.log2_lt (by omega)]
    have : (2 : Nat) ^ 8 ≤ 2 ^ 1920 := Nat.pow_le_pow_right (by decide) (by decide)
    omega
theorem emp_app (x : Str) : Str.empty ++ x = x := ext_tl (by rw [tl_append]; rfl)
theorem len_app (x y : Str) : (x ++ y).length = x.length + y.length := by rw [len_tl, len_tl, len_tl, tl_append, List.length_append]
theorem len_sX : sX.length = 6 := by decide +kernel
theorem len_sY : sY.length = 7 := by decide +kernel
/-- a store of a datum -/
theorem setIm {i : Nat} {de : DE} {r : DS} {E : DEnds} {S : Sl} {c : Cn} (x : PyData) (h : ∀ q : En → Cn → Prop, q (.im x) c → de S c q) (g : r E (S.set i (some (.im x))) c) : dSeq (dSet i de) r E S c := h _ g
theorem setOwn {i : Nat} {de : DE} {r : DS} {E : DEnds} {S : Sl} {c : Cn} (x : List PyData) (h : ∀ q : En → Cn → Prop, q (.own x) c → de S c q) (g : r E (S.set i (some (.own x))) c) : dSeq (dSet i de) r E S c := h _ g
theorem ifIs {dt : DT} {a b r : DS} {E : DEnds} {S : Sl} {c : Cn} (v : Bool) (h : ∀ q : Bool → Cn → Prop, q v c → dt S c q) (g : if v = true then a { nx := r E, rt := E.rt, bk := E.bk, ct := E.ct } S c else b { nx := r E, rt := E.rt, bk := E.bk, ct := E.ct } S c) : dSeq (dIfS dt a b) r E S c := h _ g
/-- a def that raises nothing at such arguments -/
theorem fn_drop {P : Program} {w : World} {K : PySem.W.Frag} {mg : Str → Option Value} {base : Heap} {k : Nat} {f : Addr} {fd : FuncData} {ps : List Str} {cl : Nat → Value} {F : FT} {Fx : FTx} (o : ∀ es c q, F es c q → Fx es c q fun _ _ => False)
    (G : FnOk P w K mg base (L2.CX P w) k f fd ps (spX K cl Fx)) : FnOk P w K mg base CX0 k f fd ps (spD K F) := by
  have up : ∀ vs H Q E, spD K F vs H Q E → spX K cl Fx vs H Q fun _ _ _ => False := fun vs H Q E ⟨T, n, c, es, q, t, rs, hF, g⟩ => ⟨T, n, c, es, q, _, t, rs, o es c q hF, g, fun _ _ z => z.elim⟩
  refine ⟨fun vs H Q E h => G.len vs H Q _ (up _ _ _ _ h), fun A outer s H args us vs Q E hr he hb hv hs => codeAny_mono (G.run A outer s H args us vs Q _ hr he hb hv (up _ _ _ _ hs)) fun r s' h => ?_⟩
  match r, h with
  | .ok (.ret u), h => exact h
  | .error e, h =>
    obtain ⟨a, B, H', cls, d, _, _, _, _, _, _, _, z⟩ := h
    exact z.elim
/-- return f(..) if test else g(..) -/
def xRetIf (dt : DT) (F1 : FTx) (da1 : DA) (F2 : FTx) (da2 : DA) : DX := fun d S c => dt S c fun b c1 => if b = true then xRet F1 da1 d S c1 else xRet F2 da2 d S c1
theorem xs_retIf {X : Cx} {cl : Nat → Value} {E : XK} {tst e1 e2 : Expr} {dt : DT} {F1 F2 : FTx} {da1 da2 : DA} {p pos : Pos} (hc : PT X tst (LT X.K dt)) (h1 : PE X e1 (tCallS (spX X.K cl F1) (fun _ => E) (LA X.K da1))) (h2 : PE X e2 (tCallS (spX X.K cl F2) (fun _ => E) (LA X.K da2))) :
    PS X (.Return (some (.IfExp tst e1 e2 p)) pos) (LX X.K cl E (xRetIf dt F1 da1 F2 da2)) := by
  refine PS.le (ps_ret (pe_ifExp hc h1 h2)) fun D σ H h => ?_
  obtain ⟨T, n, S, c, d, hS, h, h1, h2, h3⟩ := h
  refine ⟨T, n, S, c, _, hS, h, fun b c1 k H1 f1 t1 => ?_⟩
  cases b with
  | true => exact ⟨T, n, _, c1, _, hS.mono f1 t1, k, fun es c2 k2 vs H2 f2 t2 r2 => ret_end hS.tow h2 h3 (f1.trans f2) t2 r2.view k2⟩
  | false => exact ⟨T, n, _, c1, _, hS.mono f1 t1, k, fun es c2 k2 vs H2 f2 t2 r2 => ret_end hS.tow h2 h3 (f1.trans f2) t2 r2.view k2⟩
end ND
namespace ND
open PySem PySem.Spec L2
/-! ## objects with attributes -/
def putS (z : Addr → Option Ses) (a : Addr) (s : Ses) : Addr → Option Ses := fun x => if x = a then some s else z x
theorem putS_at (z : Addr → Option Ses) (a : Addr) (s : Ses) : putS z a s a = some s := if_pos rfl
theorem putS_ne {z : Addr → Option Ses} {a b : Addr} {s : Ses} (h : b ≠ a) : putS z a s b = z b := if_neg h
/-- since H0: the object at x and its lists L may have been changed, nothing else; no new object -/
structure Wx (H0 H : Hp) (x : Addr) (L : List Addr) : Prop where
  keep : ∀ b o, H0 b = some o → b ≠ x → b ∉ L → H b = some o
  trk : ∀ b, H b = none → H0 b = none
  ins : ∀ b C dx fs, H b = some (.ins C dx fs) → b = x ∨ H0 b = some (.ins C dx fs)
theorem Wx.refl (H : Hp) (x : Addr) (L : List Addr) : Wx H H x L := ⟨fun _ _ h _ _ => h, fun _ h => h, fun _ _ _ _ h => .inr h⟩
theorem upd_none {H : Hp} {p b : Addr} {o : HO} (h : upd H p o b = none) : H b = none := by
  by_cases z : b = p
  · rw [z, upd_same] at h; cases h
  · rw [upd_ne z] at h; exact h
theorem Wx.new {H0 H : Hp} {x p : Addr} {L : List Addr} {o : HO} (w : Wx H0 H x L) (hp : H p = none) (n : ∀ C dx fs, o ≠ .ins C dx fs := by intro _ _ _ z; cases z) : Wx H0 (upd H p o) x L :=
  ⟨fun b u h h1 h2 => (by rw [upd_ne (fun z => by rw [z, w.trk p hp] at h; cases h)]; exact w.keep b u h h1 h2), fun b h => w.trk b (upd_none h), fun b C dx fs h => by
    by_cases z : b = p
    · rw [z, upd_same] at h; exact absurd (Option.some.inj h) (n C dx fs)
    · rw [upd_ne z] at h; exact w.ins b C dx fs h⟩
theorem Wx.obj {H0 H : Hp} {x : Addr} {L : List Addr} {C dx : Addr} {fs : List (Str × V)} (w : Wx H0 H x L) : Wx H0 (upd H x (.ins C dx fs)) x L :=
  ⟨fun b u h h1 h2 => (by rw [upd_ne h1]; exact w.keep b u h h1 h2), fun b h => w.trk b (upd_none h), fun b C dx fs h => by
    by_cases z : b = x
    · exact .inl z
    · rw [upd_ne z] at h; exact w.ins b C dx fs h⟩
theorem Wx.lst {H0 H : Hp} {x l : Addr} {L : List Addr} {ws : List V} (w : Wx H0 H x L) (hl : l ∈ L ∨ H0 l = none) : Wx H0 (upd H l (.lst ws)) x L :=
  ⟨fun b u h h1 h2 => (by
    rw [upd_ne (fun z => by subst z; exact hl.elim h2 fun y => by rw [y] at h; cases h)]
    exact w.keep b u h h1 h2), fun b h => w.trk b (upd_none h), fun b C dx fs h => by
    by_cases z : b = l
    · rw [z, upd_same] at h; cases h
    · rw [upd_ne z] at h; exact w.ins b C dx fs h⟩
theorem Wx.ke {H0 H : Hp} {x : Addr} {L : List Addr} (w : Wx H0 H x L) {C dx : Addr} {vs : List (Str × V)} (hx : H0 x = some (.ins C dx vs)) (hL : ∀ l ∈ L, ∃ ws, H0 l = some (.lst ws)) : Ke H0 H := fun b o h => by
  by_cases z : b = x
  · rw [z, hx] at h; cases h; exact .inl (.ins _ _ _)
  · by_cases y : b ∈ L
    · obtain ⟨ws, hw⟩ := hL b y
      rw [hw] at h; cases h; exact .inl (.lst _)
    · exact .inr (w.keep b o h z y)
theorem RvAll.mono {K : PySem.W.Frag} {T : Option Addr} {n : Nat} {c : Cn} {H H' : Hp} : ∀ {vs : List V} {es : List En}, RvAll K T H vs es → FrT T H H' → Tw T n c H → RvAll K T H' vs es
  | _, _, .nil, _, _ => .nil
  | _, _, .cons r h rs, f, t => .cons (r.mono f t) h (RvAll.mono rs f t)
section
variable {T : Option Addr} {n : Nat} {c : Cn} {H0 H Hb : Hp} {x : Addr} {s s' : Ses} {dx dx' : Addr} {vs vs' : List (Str × V)} {ls ls' : List Addr}
theorem ses_fin (t : Tw T n c H0) (hs : c.2.2 x = some s) (e0 : H0 x = some (.ins s.cls dx vs)) (z0 : FdAll H0 vs s.fs ls) (w : Wx H0 H x ls) (e1 : H x = some (.ins s'.cls dx' vs')) (z1 : FdAll H vs' s'.fs ls') (nd : ls'.Nodup)
    (nw : ∀ l ∈ ls', l ∈ ls ∨ H0 l = none ∨ (Nt T H0 l ∧ ∃ ws, H0 l = some (.lst ws))) : Tw T n (c.1, c.2.1, putS c.2.2 x s') H := by
  have lsm : ∀ l ∈ ls, Mu H0 l := fun l hl => by
    obtain ⟨⟨y, hy⟩, ws, hw⟩ := z0.mem hl
    exact .fld e0 hy hw
  have ke : Ke H0 H := w.ke e0 fun l hl => (z0.mem hl).2
  -- a list in H that an old object names was a list
  have old : ∀ {e C dy : Addr} {fs : List (Str × V)} {y : Str} {l : Addr} {xs : List V}, H0 e = some (.ins C dy fs) → (y, V.ref l) ∈ fs → H l = some (.lst xs) → ∃ zs, H0 l = some (.lst zs) := fun {e C dy fs y l xs} h1 h2 h3 => by
    obtain ⟨o, ho⟩ := t.fld h1 h2
    by_cases z : l ∈ ls
    · exact (z0.mem z).2
    · by_cases q : l = x
      · rw [q, e1] at h3; cases h3
      · have := w.keep l o ho q z
        rw [h3] at this
        cases this
        exact ⟨_, ho⟩
  have mem' : ∀ {y : Str} {l : Addr} {xs : List V}, (y, V.ref l) ∈ vs' → H l = some (.lst xs) → l ∈ ls' := fun {y l xs} h1 h2 => by
    obtain ⟨o, ho, g⟩ := z1.fld h1
    rw [h2] at ho
    cases ho
    exact g ⟨_, rfl⟩
  have far : ∀ {e C dy : Addr} {fs : List (Str × V)} {y y' : Str} {l : Addr} {xs : List V}, H0 e = some (.ins C dy fs) → (y, V.ref l) ∈ fs → (y', V.ref l) ∈ vs' → H l = some (.lst xs) → e = x := fun {e C dy fs y y' l xs} h1 h2 h3 h4 => by
    obtain ⟨zs, hz⟩ := old h1 h2 h4
    rcases nw l (mem' h3 h4) with q | q | q
    · obtain ⟨⟨y2, hy2⟩, _⟩ := z0.mem q
      exact t.dis e x _ _ _ _ _ _ _ _ l zs h1 e0 h2 hy2 hz
    · rw [hz] at q; cases q
    · exact absurd (.fld h1 h2 hz) q.1.2
  refine { tow := fun a e => ?_, ntw := fun a e m => ?_, ses := fun b r hr => ?_, all := fun b C dy fs h => ?_, dis := fun a b C C' da db fs gs y y' l xs h1 h2 h3 h4 h5 => ?_ }
  · obtain ⟨ts, q, l⟩ := t.tow a e
    refine ⟨ts, w.keep a _ q (fun z => ?_) (fun z => t.ntw a e (lsm a z)), l⟩
    rw [z, e0] at q
    cases q
  · obtain ⟨ts, q, l⟩ := t.tow a e
    cases m with
    | ins z =>
      rcases w.ins _ _ _ _ z with y | y
      · rw [y, e0] at q; cases q
      · rw [q] at y; cases y
    | fld z1' z2 z3 =>
      rcases w.ins _ _ _ _ z1' with y | y
      · rw [y, e1] at z1'
        cases z1'
        rcases nw a (mem' z2 z3) with g | g | g
        · exact t.ntw a e (lsm a g)
        · rw [q] at g; cases g
        · exact g.1.1 e
      · exact t.ntw a e (.fld y z2 q)
  · have hr : putS c.2.2 x s' b = some r := hr
    by_cases z : b = x
    · rw [z, putS_at] at hr
      cases hr
      rw [z]
      exact ⟨dx', vs', ls', e1, z1, nd⟩
    · rw [putS_ne z] at hr
      obtain ⟨dy, us, ms, h1, h2, h3⟩ := t.ses b r hr
      refine ⟨dy, us, ms, w.keep b _ h1 z fun y => ?_, h2.keep ke fun l hl => ?_, h3⟩
      · obtain ⟨_, ws, hw⟩ := z0.mem y
        rw [h1] at hw; cases hw
      · obtain ⟨⟨y, hy⟩, ws, hw⟩ := h2.mem hl
        rw [hw]
        refine w.keep l _ hw (fun q => ?_) fun q => z ?_
        · rw [q, e0] at hw; cases hw
        · obtain ⟨⟨y2, hy2⟩, _⟩ := z0.mem q
          exact t.dis b x _ _ _ _ _ _ _ _ l ws h1 e0 hy hy2 hw
  · show ∃ r, putS c.2.2 x s' b = some r
    by_cases z : b = x
    · rw [z, putS_at]
      exact ⟨_, rfl⟩
    · rw [putS_ne z]
      exact t.all b C dy fs ((w.ins _ _ _ _ h).resolve_left z)
  · rcases w.ins _ _ _ _ h1 with p | p <;> rcases w.ins _ _ _ _ h2 with q | q
    · rw [p, q]
    · subst p
      rw [e1] at h1
      cases h1
      exact (far q h4 h3 h5).symm
    · subst q
      rw [e1] at h2
      cases h2
      exact far p h3 h4 h5
    · obtain ⟨zs, hz⟩ := old p h3 h5
      exact t.dis a b C C' da db fs gs y y' l zs p q h3 h4 hz
theorem ses_frT (t : Tw T n c H0) (e0 : H0 x = some (.ins s.cls dx vs)) (z0 : FdAll H0 vs s.fs ls) (w : Wx H0 H x ls) (e1 : H x = some (.ins s'.cls dx' vs')) (z1 : FdAll H vs' s'.fs ls') (f : FrT T Hb H0)
    (nw : ∀ l ∈ ls', l ∈ ls ∨ Hb l = none) : FrT T Hb H where
  keep := fun b o h m => by
    have m0 := f.nt m h
    have h0 := f.keep b o h m
    refine w.keep b o h0 (fun z => m0.2 (by rw [z]; exact .ins e0)) fun z => m0.2 ?_
    obtain ⟨⟨y, hy⟩, ws, hw⟩ := z0.mem z
    exact .fld e0 hy hw
  mu := fun b m => by
    cases m with
    | ins z =>
      rcases w.ins _ _ _ _ z with y | y
      · exact f.mu b (by rw [y]; exact .ins e0)
      · exact f.mu b (.ins y)
    | fld z1' z2 z3 =>
      rcases w.ins _ _ _ _ z1' with y | y
      · rw [y, e1] at z1'
        cases z1'
        obtain ⟨o, ho, g⟩ := z1.fld z2
        rw [z3] at ho
        cases ho
        rcases nw b (g ⟨_, rfl⟩) with q | q
        · obtain ⟨⟨y, hy⟩, ws, hw⟩ := z0.mem q
          exact f.mu b (.fld e0 hy hw)
        · exact .inr q
      · obtain ⟨o, ho⟩ := t.fld y z2
        by_cases p : b ∈ ls
        · exact f.mu b (.fld y z2 (z0.mem p).2.choose_spec)
        · by_cases q : b = x
          · rw [q, e1] at z3; cases z3
          · have := w.keep b o ho q p
            rw [z3] at this
            cases this
            exact f.mu b (.fld y z2 ho)
  trk := fun b h => f.trk b (w.trk b h)
/-- a new object without attributes -/
theorem ses_born {C : Addr} (t : Tw T n c H0) (hx : H0 x = none) (hd : H0 dx = none) (ne : dx ≠ x) : Tw T n (c.1, c.2.1, putS c.2.2 x ⟨C, []⟩) (upd (upd H0 dx (.own x)) x (.ins C dx [])) ∧ FrT T H0 (upd (upd H0 dx (.own x)) x (.ins C dx [])) ∧ c.2.2 x = none := by
  have t1 := tw_same t (same_upd (o := .own x) hd)
  have hx1 : upd H0 dx (.own x) x = none := (upd_ne ne.symm).trans hx
  have c0 : c.2.2 x = none := by
    cases e : c.2.2 x with
    | none => rfl
    | some r =>
      obtain ⟨_, _, _, h, _⟩ := t.ses x r e
      rw [hx] at h; cases h
  have f1 : FrT T H0 (upd H0 dx (.own x)) := frT_same (same_upd (o := .own x) hd)
  generalize upd H0 dx (.own x) = H1 at t1 hx1 f1 ⊢
  have sm : ∀ b o, H1 b = some o → upd H1 x (.ins C dx []) b = some o := fun b o h => by
    rw [upd_ne (fun z => by rw [z, hx1] at h; cases h)]
    exact h
  have ins : ∀ {b C' dy : Addr} {fs : List (Str × V)} {y : Str} {l : Addr}, upd H1 x (.ins C dx []) b = some (.ins C' dy fs) → (y, V.ref l) ∈ fs → H1 b = some (.ins C' dy fs) := fun {b C' dy fs y l} h m => by
    by_cases z : b = x
    · rw [z, upd_same] at h; cases h; cases m
    · rw [upd_ne z] at h; exact h
  have lst : ∀ {b : Addr} {xs : List V}, upd H1 x (.ins C dx []) b = some (.lst xs) → H1 b = some (.lst xs) := fun {b xs} h => by
    by_cases z : b = x
    · rw [z, upd_same] at h; cases h
    · rw [upd_ne z] at h; exact h
  refine ⟨{ tow := fun a e => ?_, ntw := fun a e m => ?_, ses := fun b r hr => ?_, all := fun b C' dy fs h => ?_, dis := fun a b C1 C2 da db fs gs y y' l xs h1 h2 h3 h4 h5 => t1.dis a b C1 C2 da db fs gs y y' l xs (ins h1 h3) (ins h2 h4) h3 h4 (lst h5) }, f1.trans ⟨fun b o h _ => sm b o h, fun b m => ?_, fun b h => upd_none h⟩, c0⟩
  · obtain ⟨ts, q, l⟩ := t1.tow a e
    exact ⟨ts, sm _ _ q, l⟩
  · obtain ⟨ts, q, l⟩ := t1.tow a e
    cases m with
    | ins z => rw [sm _ _ q] at z; cases z
    | fld z1 z2 z3 => exact t1.ntw a e (.fld (ins z1 z2) z2 (lst z3))
  · have hr : putS c.2.2 x ⟨C, []⟩ b = some r := hr
    by_cases z : b = x
    · rw [z, putS_at] at hr
      cases hr
      rw [z]
      exact ⟨dx, [], [], upd_same, .nil, List.nodup_nil⟩
    · rw [putS_ne z] at hr
      obtain ⟨dy, us, ms, h1, h2, h3⟩ := t1.ses b r hr
      exact ⟨dy, us, ms, sm _ _ h1, h2.keep (fun b o e => .inr (sm b o e)) (fun l hl => by
        obtain ⟨_, ws, hw⟩ := h2.mem hl
        rw [hw]
        exact sm _ _ hw), h3⟩
  · show ∃ r, putS c.2.2 x ⟨C, []⟩ b = some r
    by_cases z : b = x
    · rw [z, putS_at]
      exact ⟨_, rfl⟩
    · rw [putS_ne z]
      rw [upd_ne z] at h
      exact t1.all b C' dy fs h
  · cases m with
    | ins z =>
      by_cases y : b = x
      · rw [y]; exact .inr hx1
      · rw [upd_ne y] at z; exact .inl (.ins z)
    | fld z1 z2 z3 => exact .inl (.fld (ins z1 z2) z2 (lst z3))
/-! ## calls of methods, new objects -/
theorem FdAll.none {H : Hp} {vs : List (Str × V)} {fs : List (Str × Fd)} {ls : List Addr} (z : FdAll H vs fs ls) {m : Str} (h : fs.lookup m = none) : vs.lookup m = none := by
  induction z with
  | nil => rfl
  | im _ _ ih =>
    simp only [List.lookup] at h ⊢
    split at h
    · cases h
    · exact ih h
  | ls _ _ _ ih =>
    simp only [List.lookup] at h ⊢
    split at h
    · cases h
    · exact ih h
def dMeth (C : Addr) (m : Str) (F : FT) (de : DE) (da : DA) : DE := fun S c k => de S c fun e c1 => match e with
  | .ses a => (∃ s, c1.2.2 a = some s ∧ s.cls = C ∧ s.fs.lookup m = none) ∧ da S c1 fun es c2 => F (.ses a :: es.map view) c2 k
  | _ => False
theorem meth_le {K : PySem.W.Frag} {σ : SS} {Q : VK} {C : Addr} {m : Str} {F : FT} {de : DE} {da : DA} (h : LE K (dMeth C m F de da) σ H Q) : tMeth C m (spD K F) [] E0 (LE K de) (LA K da) σ H Q := by
  obtain ⟨T, n, S, c, k, hS, h, q⟩ := h
  refine ⟨T, n, S, c, _, hS, h, fun e1 c1 h1 v1 H1 f1 t1 r1 => ?_⟩
  split at h1
  · rename_i a
    have ev : v1 = .ref a := r1.rv
    subst ev
    obtain ⟨⟨s, hs, rfl, hm⟩, h1⟩ := h1
    obtain ⟨dx, vs, ls, e, z, nd⟩ := t1.ses a s hs
    refine ⟨a, dx, vs, rfl, e, z.none hm, T, n, S, c1, _, hS.mono f1 t1, h1, fun es c2 h2 us H2 f2 t2 r2 => ?_⟩
    show spD K F (.ref a :: (us ++ [])) H2 Q E0
    rw [List.append_nil]
    exact ⟨T, n, c2, .ses a :: es.map view, k, t2, .cons rfl (fun _ z => by cases z) r2.view, h2, fun e c' hk v H' f3 t3 r3 => q e c' hk v H' (f1.trans (f2.trans f3)) t3 (rf_trans (c' := c2) r3 (f1.trans f2) hS.tow)⟩
  · exact h1.elim
/-- Session(..) -/
def dMake (C : Addr) (F : FT) (da : DA) : DE := fun S c k => da S c fun es c1 => ∀ x, c1.2.2 x = none → F (.ses x :: es.map view) (c1.1, c1.2.1, putS c1.2.2 x ⟨C, []⟩) fun e c2 => e = .im .none ∧ k (.ses x) c2
theorem make_le {K : PySem.W.Frag} {σ : SS} {Q : VK} {C : Addr} {F : FT} {da : DA} (h : LE K (dMake C F da) σ H Q) : tMake C (spD K F) [] E0 (LA K da) σ H Q := by
  obtain ⟨T, n, S, c, k, hS, h, q⟩ := h
  refine ⟨T, n, S, c, _, hS, h, fun es c1 h1 us H1 f1 t1 r1 x dx hx hdx ne => ?_⟩
  rw [List.append_nil]
  obtain ⟨t2, f2, c0⟩ := ses_born (C := C) t1 hx hdx ne
  refine ⟨T, n, _, .ses x :: es.map view, _, t2, .cons rfl (fun _ z => by cases z) ?_, h1 x c0, fun e c' hk v H' f3 t3 r3 => ?_⟩
  · exact r1.view.mono f2 t1
  · obtain ⟨rfl, hk⟩ := hk
    refine ⟨by have := r3.rv; cases this; rfl, q _ _ hk _ H' (f1.trans (f2.trans f3)) t3 ⟨rfl, trivial⟩⟩
end
section
variable {X : Cx} {o e : Expr} {es : List Expr} {de : DE} {da : DA} {C f : Addr} {fd : FuncData} {ps : List Str} {F : FT} {k : Nat} {m x : Str} {p apos pos : Pos}
theorem de_make (M : Mk X.K C f) (G : FnOk X.prog X.w X.K X.mg X.base CX0 k f fd ps (spD X.K F)) (hr : Room (k + 1) X.A) (hg : Gl X x) (hm : X.mg x = some (.ref C)) (hb : Binds X.K fd ps []) (ha : PA X (e :: es) (LA X.K da)) (hdb : (x == ("__debug__" : Str)) = false := by decide)
    (he : starEach (e :: es) X.env = (false, eval e X.env) :: starEach es X.env := by rfl) (hpl : (backTo pos (starEach es X.env)).any (·.1) = false := by rfl) : PE X (.Call (.Name x p) (e :: es) [] pos) (LE X.K (dMake C F da)) :=
  PE.le (pe_make M G hr hg hm hb .nil pass0 ha hdb he hpl) fun _ _ _ h => make_le h
theorem de_meth {pl : Sem Bool} (c : Cls X.K C) (hm : Meth X.K C m f) (G : FnOk X.prog X.w X.K X.mg X.base CX0 k f fd ps (spD X.K F)) (hr : Room k X.A) (hb : Binds X.K fd ps []) (ho : PE X o (LE X.K de)) (ha : PA X (e :: es) (LA X.K da))
    (hst : starEach (e :: es) X.env = (false, eval e X.env) :: starEach es X.env := by rfl) (hpl : (backTo pos (starEach es X.env)).any (·.1) = false := by rfl)
    (ht : eval (.Call (.Attribute o m apos) (e :: es) [] pos) X.env = (do
      let ov ← eval o X.env
      standAt apos.atName
      let (f, first) ← holding [ov] (getMethod ov m pl)
      callWith pos f first (backTo pos (starEach (e :: es) X.env)) (backToKw pos (keywordEach [] X.env))) := by rfl) : PE X (.Call (.Attribute o m apos) (e :: es) [] pos) (LE X.K (dMeth C m F de da)) :=
  PE.le (pe_meth ho c hm G hr hb .nil pass0 ha hst hpl ht) fun _ _ _ h => meth_le h
theorem de_meth0 {pl : Sem Bool} (c : Cls X.K C) (hm : Meth X.K C m f) (G : FnOk X.prog X.w X.K X.mg X.base CX0 k f fd ps (spD X.K F)) (hr : Room k X.A) (hb : Binds X.K fd ps []) (ho : PE X o (LE X.K de))
    (ht : eval (.Call (.Attribute o m apos) [] [] pos) X.env = (do
      let ov ← eval o X.env
      standAt apos.atName
      let (f, first) ← holding [ov] (getMethod ov m pl)
      callWith pos f first (backTo pos (starEach [] X.env)) (backToKw pos (keywordEach [] X.env))) := by rfl) : PE X (.Call (.Attribute o m apos) [] [] pos) (LE X.K (dMeth C m F de dNil)) := by
  refine PE.le (pe_meth0 ho c hm G hr hb .nil pass0 ht) fun σ H Q h => ?_
  obtain ⟨T, n, S, c, k, hS, h, q⟩ := h
  refine ⟨T, n, S, c, _, hS, h, fun e1 c1 h1 v1 H1 f1 t1 r1 => ?_⟩
  split at h1
  · rename_i a
    have ev : v1 = .ref a := r1.rv
    subst ev
    obtain ⟨⟨s, hs, rfl, hn⟩, h1⟩ := h1
    obtain ⟨dx, vs, ls, e, z, nd⟩ := t1.ses a s hs
    refine ⟨a, dx, vs, rfl, e, z.none hn, ?_⟩
    show spD X.K F [.ref a] H1 Q E0
    exact ⟨T, n, c1, [.ses a], k, t1, .cons rfl (fun _ z => by cases z) .nil, h1, fun e c' hk v H' f3 t3 r3 => q e c' hk v H' (f1.trans f3) t3 (rf_trans (c' := c1) r3 f1 hS.tow)⟩
  · exact h1.elim
end
/-! ## a session's attributes -/
/-- an attribute that is a datum -/
def dFld (C : Addr) (x : Str) (de : DE) : DE := fun S c k => de S c fun e c1 => match e with
  | .ses a => ∃ s d, c1.2.2 a = some s ∧ s.cls = C ∧ s.fs.lookup x = some (.im d) ∧ k (.im d) c1
  | _ => False
theorem FdAll.im_at {H : Hp} {vs : List (Str × V)} {fs : List (Str × Fd)} {ls : List Addr} (z : FdAll H vs fs ls) {m : Str} {d : PyData} (h : fs.lookup m = some (.im d)) : ∃ v, vs.lookup m = some v ∧ ∀ K, Rp K H v d := by
  induction z with
  | nil => cases h
  | im r _ ih =>
    simp only [List.lookup] at h ⊢
    split at h
    · cases h
      exact ⟨_, rfl, r⟩
    · exact ih h
  | ls _ _ _ ih =>
    simp only [List.lookup] at h ⊢
    split at h
    · cases h
    · exact ih h
theorem FdAll.ls_at {H : Hp} {vs : List (Str × V)} {fs : List (Str × Fd)} {ls : List Addr} (z : FdAll H vs fs ls) {m : Str} {ds : List PyData} (h : fs.lookup m = some (.ls ds)) : ∃ l ws, vs.lookup m = some (.ref l) ∧ H l = some (.lst ws) ∧ ∀ K, RpAll K H ws ds := by
  induction z with
  | nil => cases h
  | im r _ ih =>
    simp only [List.lookup] at h ⊢
    split at h
    · cases h
    · exact ih h
  | ls g r _ ih =>
    simp only [List.lookup] at h ⊢
    split at h
    · cases h
      exact ⟨_, _, rfl, g, r⟩
    · exact ih h
section
variable {X : Cx} {o : Expr} {de : DE} {C : Addr} {x : Str} {pos : Pos}
theorem de_fld (cl : Cls X.K C) (na : NoAttr X.K C x) (ho : PE X o (LE X.K de)) (hb : attributeBase o x X.env (eval o X.env) = eval o X.env := by rfl) : PE X (.Attribute o x pos) (LE X.K (dFld C x de)) := by
  refine PE.le (pe_fld ho hb) fun σ H Q h => ?_
  obtain ⟨T, n, S, c, k, hS, h, q⟩ := h
  refine ⟨T, n, S, c, _, hS, h, fun e1 c1 h1 v1 H1 f1 t1 r1 => ?_⟩
  split at h1
  · rename_i a
    have ev : v1 = .ref a := r1.rv
    subst ev
    obtain ⟨s, d, hs, rfl, hl, h1⟩ := h1
    obtain ⟨dx, vs, ls, e, z, nd⟩ := t1.ses a s hs
    obtain ⟨v, hv, rv⟩ := z.im_at hl
    exact ⟨a, s.cls, dx, vs, v, rfl, e, cl, na, hv, q _ _ h1 v H1 f1 t1 ⟨rv X.K, trivial⟩⟩
  · exact h1.elim
end
/-! ## a session by its parts -/
structure Sv where
  eqn : PyData
  sts : List PyData
  cur : PyData
  ear : List PyData
  don : List PyData
  und : List PyData
def Sv.fs (v : Sv) : List (Str × Fd) := [("equation", .im v.eqn), ("starts", .ls v.sts), ("current", .im v.cur), ("earlier", .ls v.ear), ("done", .ls v.don), ("undone", .ls v.und)]
abbrev mkS (C : Addr) (v : Sv) : Ses := ⟨C, v.fs⟩
def fl (e0 : V) (lS : Addr) (c0 : V) (lE lD lU : Addr) : List (Str × V) := [("equation", e0), ("starts", .ref lS), ("current", c0), ("earlier", .ref lE), ("done", .ref lD), ("undone", .ref lU)]
section
variable (e0 c0 v : V) (lS lE lD lU : Addr)
theorem fl_eqn : (fl e0 lS c0 lE lD lU).lookup ("equation" : Str) = some e0 := by rfl
theorem fl_sts : (fl e0 lS c0 lE lD lU).lookup ("starts" : Str) = some (.ref lS) := by rfl
theorem fl_cur : (fl e0 lS c0 lE lD lU).lookup ("current" : Str) = some c0 := by rfl
theorem fl_ear : (fl e0 lS c0 lE lD lU).lookup ("earlier" : Str) = some (.ref lE) := by rfl
theorem fl_don : (fl e0 lS c0 lE lD lU).lookup ("done" : Str) = some (.ref lD) := by rfl
theorem fl_und : (fl e0 lS c0 lE lD lU).lookup ("undone" : Str) = some (.ref lU) := by rfl
theorem put_cur : putF "current" v (fl e0 lS c0 lE lD lU) = fl e0 lS v lE lD lU := by rfl
theorem put_und (l : Addr) : putF "undone" (.ref l) (fl e0 lS c0 lE lD lU) = fl e0 lS c0 lE lD l := by rfl
theorem fl_len : (fl e0 lS c0 lE lD lU).length < 1000 := by show 6 < 1000; decide
end
/-- the session's object by its parts -/
structure SesV (H : Hp) (a C dx : Addr) (v : Sv) (e0 : V) (lS : Addr) (c0 : V) (lE lD lU : Addr) (vS vE vD vU : List V) : Prop where
  ob : H a = some (.ins C dx (fl e0 lS c0 lE lD lU))
  eq : ∀ K, Rp K H e0 v.eqn
  cu : ∀ K, Rp K H c0 v.cur
  hS : H lS = some (.lst vS)
  hE : H lE = some (.lst vE)
  hD : H lD = some (.lst vD)
  hU : H lU = some (.lst vU)
  rS : ∀ K, RpAll K H vS v.sts
  rE : ∀ K, RpAll K H vE v.ear
  rD : ∀ K, RpAll K H vD v.don
  rU : ∀ K, RpAll K H vU v.und
  nd : [lS, lE, lD, lU].Nodup
theorem FdAll.inv_im {H : Hp} {x : Str} {d : PyData} {us : List (Str × V)} {fs : List (Str × Fd)} {ls : List Addr} (z : FdAll H us ((x, .im d) :: fs) ls) : ∃ v vs, us = (x, v) :: vs ∧ (∀ K, Rp K H v d) ∧ FdAll H vs fs ls := by
  cases z with
  | im r z => exact ⟨_, _, rfl, r, z⟩
theorem FdAll.inv_ls {H : Hp} {x : Str} {ds : List PyData} {us : List (Str × V)} {fs : List (Str × Fd)} {ms : List Addr} (z : FdAll H us ((x, .ls ds) :: fs) ms) : ∃ l ws vs ls, us = (x, .ref l) :: vs ∧ ms = l :: ls ∧ H l = some (.lst ws) ∧ (∀ K, RpAll K H ws ds) ∧ FdAll H vs fs ls := by
  cases z with
  | ls g r z => exact ⟨_, _, _, _, rfl, rfl, g, r, z⟩
theorem SesV.of {H : Hp} {a C : Addr} {v : Sv} (h : SesOk H a (mkS C v)) : ∃ dx e0 lS c0 lE lD lU vS vE vD vU, SesV H a C dx v e0 lS c0 lE lD lU vS vE vD vU := by
  obtain ⟨dx, vs, ls, e, z, nd⟩ := h
  have z : FdAll H vs [("equation", .im v.eqn), ("starts", .ls v.sts), ("current", .im v.cur), ("earlier", .ls v.ear), ("done", .ls v.don), ("undone", .ls v.und)] ls := z
  obtain ⟨e0, _, rfl, r1, z⟩ := z.inv_im
  obtain ⟨lS, vS, _, _, rfl, rfl, g2, r2, z⟩ := z.inv_ls
  obtain ⟨c0, _, rfl, r3, z⟩ := z.inv_im
  obtain ⟨lE, vE, _, _, rfl, rfl, g4, r4, z⟩ := z.inv_ls
  obtain ⟨lD, vD, _, _, rfl, rfl, g5, r5, z⟩ := z.inv_ls
  obtain ⟨lU, vU, _, _, rfl, rfl, g6, r6, z⟩ := z.inv_ls
  cases z
  exact ⟨dx, e0, lS, c0, lE, lD, lU, vS, vE, vD, vU, e, r1, r3, g2, g4, g5, g6, r2, r4, r5, r6, nd⟩
section
variable {H : Hp} {a C dx : Addr} {v : Sv} {e0 : V} {lS : Addr} {c0 : V} {lE lD lU : Addr} {vS vE vD vU : List V}
theorem SesV.all (z : SesV H a C dx v e0 lS c0 lE lD lU vS vE vD vU) : FdAll H (fl e0 lS c0 lE lD lU) v.fs [lS, lE, lD, lU] := .im z.eq (.ls z.hS z.rS (.im z.cu (.ls z.hE z.rE (.ls z.hD z.rD (.ls z.hU z.rU .nil)))))
end
/-- behind a method -/
theorem SesV.fin {T : Option Addr} {n : Nat} {c : Cn} {H0 H : Hp} {a C dx dx' : Addr} {v v' : Sv} {e0 e0' : V} {lS lS' : Addr} {c0 c0' : V} {lE lD lU lE' lD' lU' : Addr} {vS vE vD vU vS' vE' vD' vU' : List V} (t : Tw T n c H0) (hs : c.2.2 a = some (mkS C v))
    (z0 : SesV H0 a C dx v e0 lS c0 lE lD lU vS vE vD vU) (w : Wx H0 H a [lS, lE, lD, lU]) (z1 : SesV H a C dx' v' e0' lS' c0' lE' lD' lU' vS' vE' vD' vU') (nw : ∀ l ∈ [lS', lE', lD', lU'], l ∈ [lS, lE, lD, lU] ∨ H0 l = none) :
    Tw T n (c.1, c.2.1, putS c.2.2 a (mkS C v')) H ∧ FrT T H0 H :=
  ⟨ses_fin (s' := mkS C v') t hs z0.ob z0.all w z1.ob z1.all z1.nd fun l hl => (nw l hl).imp id .inl, ses_frT (s := mkS C v) (s' := mkS C v') t z0.ob z0.all w z1.ob z1.all (.refl T H0) nw⟩
theorem four_nd {a b c d : Addr} (h : [a, b, c, d].Nodup) : a ≠ b ∧ a ≠ c ∧ a ≠ d ∧ b ≠ c ∧ b ≠ d ∧ c ≠ d := by
  simp only [List.nodup_cons, List.mem_cons, List.not_mem_nil, or_false, not_or] at h
  exact ⟨h.1.1, h.1.2.1, h.1.2.2, h.2.1.1, h.2.1.2, h.2.2.1⟩
theorem nd_four {a b c d : Addr} (h1 : a ≠ b) (h2 : a ≠ c) (h3 : a ≠ d) (h4 : b ≠ c) (h5 : b ≠ d) (h6 : c ≠ d) : [a, b, c, d].Nodup := by
  simp [h1, h2, h3, h4, h5, h6]
theorem lst_ne {H : Hp} {a l C dx : Addr} {fs : List (Str × V)} {ws : List V} (h1 : H a = some (.ins C dx fs)) (h2 : H l = some (.lst ws)) : l ≠ a := fun z => by
  rw [z, h1] at h2; cases h2
theorem putS_putS (z : Addr → Option Ses) (a : Addr) (s t : Ses) : putS (putS z a s) a t = putS z a t := by
  funext x
  by_cases h : x = a
  · rw [h, putS_at, putS_at]
  · rw [putS_ne h, putS_ne h, putS_ne h]
/-! ## isinstance(x, (list, dict)) -/
def isi2B : PyData → Option Bool
  | .dict _ => none
  | .list _ => some true
  | _ => some false
def dIsi2 (de : DE) : DE := fun S c k => de S c fun x c1 => match x with
  | .im d => match isi2B d with
    | some b => k (.im (.bool b)) c1
    | none => False
  | _ => False
theorem isi2_ty {K : PySem.W.Frag} {H : Hp} {v : V} {d : PyData} {b : Bool} (r : Rp K H v d) (h : isi2B d = some b) : ∃ t, TyX K H v t ∧ PySem.W.kitOne K t (.type "list") = some b ∧ PySem.W.kitOne K t (.type "dict") = some false := by
  cases r with
  | non => cases h; exact ⟨_, .base .non, kit_ty (by decide +kernel), kit_ty (by decide +kernel)⟩
  | bl y => cases h; exact ⟨_, .base (.bl y), kit_ty (by decide +kernel), kit_ty (by decide +kernel)⟩
  | int i => cases h; exact ⟨_, .base (.int i), kit_ty (by decide +kernel), kit_ty (by decide +kernel)⟩
  | str x => cases h; exact ⟨_, .base (.str x), kit_ty (by decide +kernel), kit_ty (by decide +kernel)⟩
  | tup s q => cases h; exact ⟨.type "tuple", .base (.tup s), kit_ty (by decide +kernel), kit_ty (by decide +kernel)⟩
  | lst s q => cases h; exact ⟨.type "list", .base (.frz s), kit_ty (by decide +kernel), kit_ty (by decide +kernel)⟩
section
variable {X : Cx} {pos p p2 p3 p4 : Pos} {e : Expr} {de : DE} {k1 : Nat}
theorem de_isi2 (hg : Gl X "isinstance") (hm : X.mg "isinstance" = none) (hg1 : Gl X "list") (hm1 : X.mg "list" = none) (hg2 : Gl X "dict") (hm2 : X.mg "dict" = none) (he : PE X e (LE X.K de))
    (hs : starEach (e :: [.Tuple [.Name "list" p2, .Name "dict" p3] k1 p4]) X.env = (false, eval e X.env) :: starEach [.Tuple [.Name "list" p2, .Name "dict" p3] k1 p4] X.env := by rfl) (hs2 : starEach [.Tuple [.Name "list" p2, .Name "dict" p3] k1 p4] X.env = (false, eval (.Tuple [.Name "list" p2, .Name "dict" p3] k1 p4) X.env) :: starEach [] X.env := by rfl)
    (hs3 : starEach [.Name "list" p2, .Name "dict" p3] X.env = (false, eval (.Name "list" p2) X.env) :: starEach [.Name "dict" p3] X.env := by rfl) (hs4 : starEach [.Name "dict" p3] X.env = (false, eval (.Name "dict" p3) X.env) :: starEach [] X.env := by rfl)
    (hpl : (backTo pos (starEach [.Tuple [.Name "list" p2, .Name "dict" p3] k1 p4] X.env)).any (·.1) = false := by rfl) :
    PE X (.Call (.Name "isinstance" p) [e, .Tuple [.Name "list" p2, .Name "dict" p3] k1 p4] [] pos) (LE X.K (dIsi2 de)) := by
  refine PE.le (pe_callB call_isiT hg hm (by decide +kernel) (pa_cons he (pa_cons (pe_tup (pa_cons (pe_bltn (v := .ty "list") hg1 hm1 (by decide +kernel) rfl) (pa_cons (pe_bltn (v := .ty "dict") hg2 hm2 (by decide +kernel) rfl) pa_nil hs4) hs3)) pa_nil hs2) hs) (by decide) (by decide) hs hpl) fun σ H Q h => ?_
  obtain ⟨T, n, S, c, k, hS, h, q⟩ := h
  refine ⟨T, n, S, c, _, hS, h, fun e1 c1 h1 v1 H1 f1 t1 r1 => ?_⟩
  split at h1
  · split at h1
    · rename_i b eb
      have nl := sizeLine_eq
      refine ⟨by show 2 ≤ sizeLine; omega, fun pt hpt => ?_⟩
      have sm := same_upd (o := .tup [.ty "list", .ty "dict"]) hpt
      have rv : Rv X.K T H1 v1 (.im _) := r1.rv
      obtain ⟨t, ty, k1, k2⟩ := isi2_ty (Rp.ke ((frT_same sm).ke t1) _ _ rv) eb
      refine ⟨v1, pt, [.ty "list", .ty "dict"], t, [.type "list", .type "dict"], b, rfl, upd_same, .cons (.ty _) (.cons (.ty _) .nil), ty, ?_, q _ _ h1 _ _ (f1.trans (frT_same sm)) (tw_same t1 sm) ⟨.bl _, trivial⟩⟩
      unfold PySem.W.kitAny
      rw [k1]
      cases b with
      | true => rfl
      | false =>
        show PySem.W.kitAny X.K t [.type "dict"] = some false
        unfold PySem.W.kitAny
        rw [k2]
        rfl
    · exact h1.elim
  · exact h1.elim
end
end ND
namespace ND
open PySem PySem.Spec L2
/-! ## units, best fractions, first solutions: only one each -/
theorem hds1_all : (List.range 61).all (fun k : Nat => !rootD (k : Int) || decide (hds (k : Int) 1 = [(1, 0)])) = true := by decide +kernel
theorem hds1 {d : Int} (h : rootD d = true) : hds d 1 = [(1, 0)] := by
  have hd := root_le h
  have := List.all_eq_true.mp hds1_all d.toNat (List.mem_range.mpr (by omega))
  rw [show ((d.toNat : Nat) : Int) = d by omega, h] at this
  simpa using this
theorem one_mul {d : Int} (p : Int × Int) : mulP d (1, 0) p = p := by
  obtain ⟨x, y⟩ := p
  simp [mulP, mulX, mulY]
theorem unit_ex {d x y : Int} (h : rootD d = true) (e : nrm d (x, y) = 1) : ∃ s j : Int, isS s ∧ x = s * (upw d j).1 ∧ y = s * (upw d j).2 := by
  obtain ⟨q, hq, f⟩ := head_ex h (p := (x, y)) (by rw [e]; decide)
  have hqn : nrm d q = 1 := by rw [← f.nrm h]; exact e
  have hm := (mem_hds h (show norOk 1 = true by decide)).mpr ⟨hq, hqn⟩
  rw [hds1 h, List.mem_singleton] at hm
  subst hm
  obtain ⟨s, j, hs, e2⟩ := f
  unfold mem at e2
  rw [one_mul] at e2
  have := Prod.ext_iff.mp e2
  exact ⟨s, j, hs, this.1, this.2⟩
theorem unit_small {d x y s j : Int} (h : rootD d = true) (hs : isS s) (ex : x = s * (upw d j).1) (hx : x.natAbs ≤ 30) : -100 ≤ j ∧ j ≤ 100 := by
  have g := upw_grow h j
  have p : (0 : Int) < 2 ^ j.natAbs := Int.pow_pos (by decide)
  have e : (upw d j).1 ≤ 30 := by
    rcases hs with rfl | rfl <;> omega
  have : j.natAbs < 5 := by
    by_cases z : j.natAbs < 5
    · exact z
    · have q : (2 : Nat) ^ 5 ≤ 2 ^ j.natAbs := Nat.pow_le_pow_right (by decide) (by omega)
      have c : ((2 ^ j.natAbs : Nat) : Int) = 2 ^ j.natAbs := by simp
      omega
  omega
theorem near_asym {d : Int} {p q : Int × Int} (h : near d p q = true) (g : near d q p = true) : False := by
  unfold near at h g
  have e1 : 4 * d * (q.2 * p.2) * (q.2 * p.2) = 4 * d * (p.2 * q.2) * (p.2 * q.2) := by rw [Int.mul_comm q.2]
  have e2 : q.1 * p.2 + p.1 * q.2 = p.1 * q.2 + q.1 * p.2 := Int.add_comm _ _
  rw [e1, e2] at g
  cases hp : below d p <;> cases hq : below d q <;> rw [hp, hq] at h g <;> simp at h g <;> omega
theorem best_uniq {d m : Int} (hd : rootD d = true) {l h L H : Int × Int} (s : SB d m l h) (hs : m < l.2 + h.2) (S : SB d m L H) (hS : m < L.2 + H.2) : bestOf d L H = bestOf d l h := by
  obtain ⟨b0, b1, bm⟩ := s.best_pos hd
  obtain ⟨B0, B1, Bm⟩ := S.best_pos hd
  by_cases e : (bestOf d l h).1 * (bestOf d L H).2 = (bestOf d L H).1 * (bestOf d l h).2
  · exact best_eq hd s S e
  · have g1 := best_near hd S hS (p := bestOf d l h) (by omega) b1 bm e
    have g2 := best_near hd s hs (p := bestOf d L H) (by omega) B1 Bm (fun z => e z.symm)
    exact (near_asym g1 g2).elim
theorem ini_uniq {d n : Int} {l m : List (Int × Int)} (hl : Ini (Sol d n) l) (hm : Ini (Sol d n) m) (e : l.length = m.length) : l = m := by
  have := ini_take (fun p q hp hq e => sol_y hp hq e) hl hm (by omega)
  rw [this, e, List.take_length]
/-! ### the first five solutions are small -/
theorem bd_rt {m : Nat} {a : Int} (h : Bd (2 * m) (a * a)) : Bd m a := by
  unfold Bd at *
  rw [Int.natAbs_mul, Nat.two_mul, Nat.pow_add] at h
  by_cases z : a.natAbs < 2 ^ m
  · exact z
  · have := Nat.mul_le_mul (Nat.le_of_not_lt z) (Nat.le_of_not_lt z)
    omega
theorem head_bds {d n : Int} (h : rootD d = true) (hn : norOk n = true) {p : Int × Int} (hp : Head d p) (e : nrm d p = n) : Bd 13 p.1 ∧ Bd 9 p.2 := by
  have h1 := head_bnd h hn hp e
  have h2 := bnd_le4 h hn
  have h3 := norOk_iff.mp hn
  have h0 := hp.nn
  have hd := root_le h
  have yy : p.2 * p.2 ≤ 400 * 400 := Int.mul_le_mul (by omega) (by omega) h0 (by decide)
  have yy0 : 0 ≤ p.2 * p.2 := Int.mul_nonneg h0 h0
  have dy : d * (p.2 * p.2) ≤ 60 * (400 * 400) := Int.mul_le_mul hd.2 yy yy0 (by decide)
  have dy0 : 0 ≤ d * (p.2 * p.2) := Int.mul_nonneg (by omega) yy0
  have e1 : p.1 * p.1 - d * p.2 * p.2 = n := e
  rw [Int.mul_assoc] at e1
  refine ⟨bd_rt (m := 13) ?_, ?_⟩
  · unfold Bd
    omega
  · unfold Bd
    omega
theorem sol5 {d n : Int} (h : rootD d = true) (hn : norOk n = true) {l : List (Int × Int)} (hl : Ini (Sol d n) l) (h5 : l.length ≤ 5) {p : Int × Int} (hp : p ∈ l) : Bd 190 p.1 ∧ Bd 190 p.2 := by
  have hs := hl.sol p hp
  obtain ⟨g, hg, i, rfl⟩ := sol_cl h hn hs
  have hi : i < 5 := by
    have sub : ∀ x ∈ (List.range (i + 1)).map (cl d g), x ∈ l := fun x hx => by
      obtain ⟨j, hj, rfl⟩ := List.mem_map.mp hx
      have hj : j < i + 1 := List.mem_range.mp hj
      by_cases z : cl d g j ∈ l
      · exact z
      · have q := hl.ini _ (cl_sol h hn hg j) z _ hp
        by_cases e : j = i
        · rw [e] at q; omega
        · have := cl_lt h hn hg (show j < i by omega)
          omega
    have := nodup_sub_len (range_cl_nodup h hn hg (i + 1)) sub
    rw [List.length_map, List.length_range] at this
    omega
  obtain ⟨hh, hgn, _⟩ := hds_head h hn hg
  obtain ⟨b1, b2⟩ := head_bds h hn hh hgn
  have bb : Bd 13 (bas d g).1 ∧ Bd 9 (bas d g).2 := by
    unfold bas
    split
    · exact ⟨b1, b2⟩
    · refine ⟨?_, ?_⟩ <;> (unfold scl; simp only [Int.neg_mul, Int.one_mul]; first | exact b1.neg | exact b2.neg)
  obtain ⟨m, hm, m5⟩ : ∃ m : Nat, stt d g + (i : Int) = (m : Int) ∧ m ≤ 5 := by
    unfold stt
    split
    · exact ⟨i, by omega, by omega⟩
    · exact ⟨i + 1, by omega, by omega⟩
  have ub : Bd 121 (upw d (stt d g + i)).1 ∧ Bd 121 (upw d (stt d g + i)).2 := by
    rw [hm, upw_ofNat]
    have := pw_bd h m
    exact ⟨this.1.mono (by omega), this.2.mono (by omega)⟩
  have d6 := rootD_bd h
  unfold cl mulP mulX mulY
  refine ⟨?_, ?_⟩
  · exact (((bb.1.mul ub.1).mono (by decide : 13 + 121 ≤ 150)).add ((((d6.mul bb.2).mul ub.2)).mono (by decide : 6 + 9 + 121 ≤ 150))).mono (by decide)
  · exact (((bb.1.mul ub.2).mono (by decide : 13 + 121 ≤ 150)).add ((bb.2.mul ub.1).mono (by decide : 9 + 121 ≤ 150))).mono (by decide)
theorem skipN {dt : DT} {a r : DS} {E : DEnds} {S : Sl} {c : Cn} (h : ∀ q : Bool → Cn → Prop, q false c → dt S c q) (g : r E S c) : dSeq (dIfS dt a dNext) r E S c := skipS h g
theorem testIsi2 {de : DE} {S : Sl} {c : Cn} {k : Bool → Cn → Prop} {d : PyData} {b : Bool} (h : ∀ q : En → Cn → Prop, q (.im d) c → de S c q) (e : isi2B d = some b) (q : k b c) : dTest (dIsi2 de) S c k := by
  unfold dTest dIsi2
  refine h _ ?_
  simp only [e]
  exact q
theorem varIm {i : Nat} {S : Sl} {c : Cn} {d : PyData} (hS : S[i]? = some (some (.im d))) (q : En → Cn → Prop) (h : q (.im d) c) : dVar i S c q := by
  unfold dVar
  rw [hS]
  exact h
/-- [x for x in xs if ..] != [], where none is -/
theorem testNo {i j : Nat} {R : List PyData} {dt : DT} {de : DE} {vs : List Nat} {S : Sl} {c : Cn} {q : Bool → Cn → Prop} (hS : S[i]? = some (some (.own R))) (ht : ∀ z ∈ R, ∀ q : Bool → Cn → Prop, q false c → dt ((wipeS S vs).set j (some (.im z))) c q) (lR : R.length ≤ 100000) (hq : q false c) :
    dTest (dOp (rEq not) (dLc (cE (dVar i)) (gN j) dt de vs) (dLst dNil)) S c q := by
  have e0 : Shp (.list []) := (nice_list (n := 0) (xs := []) fun z hz => by cases hz).shp (by decide)
  have ef : R.filter (fun _ => false) = [] := List.filter_eq_nil_iff.mpr (fun _ _ h => by cases h)
  unfold dTest dOp dLc cE dVar
  rw [hS]
  show lcL (gN j) dt de (wipeS S vs) _ R [] c
  refine lc_fun (fun _ => false) id R [] (fun z hz => ⟨_, fun q h => h, ht z hz, fun h => by cases h⟩) (by rw [List.length_nil, Nat.zero_add]; exact lR) ?_
  rw [ef]
  exact ⟨Nat.zero_le _, e0, e0, hq⟩
/-! ### an expression that gives just one entry -/
abbrev Gv (de : DE) (S : Sl) (c : Cn) (e : En) : Prop := ∀ q : En → Cn → Prop, q e c → de S c q
abbrev Tv (dt : DT) (S : Sl) (c : Cn) (b : Bool) : Prop := ∀ q : Bool → Cn → Prop, q b c → dt S c q
section
variable {S : Sl} {c : Cn} {da db de : DE} {t u : DT} {x y z : En} {a b : Bool} {r : En → En → (En → Prop) → Prop}
theorem Gv.op (ha : Gv da S c x) (hb : Gv db S c y) (hr : ∀ q : En → Prop, q z → r x y q) : Gv (dOp r da db) S c z := fun q h => ha _ (hb _ (hr _ h))
theorem Gv.test (h : Gv de S c (.im (.bool b))) : Tv (dTest de) S c b := fun q g => h _ g
theorem Gv.const (d : PyData) : Gv (dC d) S c (.im d) := fun q h => h
theorem Gv.var {i : Nat} {d : PyData} (hS : S[i]? = some (some (.im d))) : Gv (dVar i) S c (.im d) := fun q h => varIm hS q h
theorem Gv.tup0 : Gv (dTup dNil) S c (.im (.tuple [])) := fun q h => ⟨Nat.zero_le _, h⟩
theorem Gv.ix {i : Nat} {R : List PyData} {n : Int} {d : PyData} (hS : S[i]? = some (some (.own R))) (h : atI R n = some d) : Gv (dOp rIx (dVar i) (dC (.int n))) S c (.im d) := fun q hq => by
  unfold dOp dVar dC
  rw [hS]
  show rIx (.ro R) (.im (.int n)) _
  unfold rIx
  simp only [sqOf, h]
  exact hq
theorem Tv.or (h : Tv t S c a) (g : a = false → Tv u S c b) (hb : a = true → b = true) : Tv (dOr t u) S c b := fun q hq => h _ (by
  cases a with
  | true => rw [hb rfl] at hq; exact hq
  | false => exact g rfl _ hq)
theorem Tv.and (h : Tv t S c a) (g : a = true → Tv u S c b) (hb : a = false → b = false) : Tv (dAnd t u) S c b := fun q hq => h _ (by
  cases a with
  | true => exact g rfl _ hq
  | false => rw [hb rfl] at hq; exact hq)
theorem eq_is {f : Bool → Bool} {d e : PyData} (hd : Shp d) (he : Shp e) (h : f (PyData.eqv d e) = b) : ∀ q : En → Prop, q (.im (.bool b)) → rEq f (.im d) (.im e) q := fun q hq => by
  refine ⟨hd, he, ?_⟩
  show q (.im (.bool (f (PyData.eqv d e))))
  rw [h]
  exact hq
theorem in_is {f : Bool → Bool} {d : PyData} {ds : List PyData} (hd : Shp d) (he : Shp (.tuple ds)) (h : f (ds.any fun z => PyData.eqv z d) = b) : ∀ q : En → Prop, q (.im (.bool b)) → rInD f (.im d) (.im (.tuple ds)) q := fun q hq => by
  refine ⟨hd, he, ?_⟩
  show q (.im (.bool (f (ds.any fun z => PyData.eqv z d))))
  rw [h]
  exact hq
/-- return [x for x in a tuple if ..] == [], where none is -/
theorem retNo {j : Nat} {R : List PyData} {dt : DT} {di : DE} {vs : List Nat} (hi : Gv di S c (.im (.tuple R))) (ht : ∀ z ∈ R, Tv dt ((wipeS S vs).set j (some (.im z))) c false) (lR : R.length ≤ 100000) :
    dRet (dOp (rEq id) (dLc (cE di) (gN j) dt de vs) (dLst dNil)) lawEnds S c := by
  have e0 : Shp (.list []) := (nice_list (n := 0) (xs := []) fun z hz => by cases hz).shp (by decide)
  have ef : R.filter (fun _ => false) = [] := List.filter_eq_nil_iff.mpr (fun _ _ h => by cases h)
  unfold dRet dOp dLc cE
  refine hi _ ?_
  show lcL (gN j) dt de (wipeS S vs) _ R [] c
  refine lc_fun (fun _ => false) id R [] (fun z hz => ⟨_, fun q h => h, ht z hz, fun h => by cases h⟩) (by rw [List.length_nil, Nat.zero_add]; exact lR) ?_
  rw [ef]
  exact ⟨Nat.zero_le _, e0, e0, rfl⟩
end
theorem eqv_bool (a b : Bool) : PyData.eqv (.bool a) (.bool b) = (a == b) := by cases a <;> cases b <;> rfl
theorem rIx_first {d : PyData} {r : List PyData} {k : En → Prop} (h : k (.im d)) : rIx (.im (.tuple (d :: r))) (.im (.int 0)) k := by
  have e : atI (d :: r) 0 = some d := atI_nat (j := 0) rfl
  unfold rIx
  simp only [sqOf, e]
  exact h
/-- f(..)[0] not in xs[0]: no -/
theorem notInT {S : Sl} {c : Cn} {F : FT} {da : DA} {es : List En} {j : Nat} {R hs : List PyData} (ha : ∀ q : List En → Cn → Prop, q es c → da S c q) (hF : ∀ k : En → Cn → Prop, (∀ d r, (hs.any fun z => PyData.eqv z d) = true → Shp d → k (.im (.tuple (d :: r))) c) → F (es.map view) c k)
    (hS : S[j]? = some (some (.own R))) (h0 : atI R 0 = some (.tuple hs)) (sh : Shp (.tuple hs)) : Tv (dTest (dOp (rInD not) (dOp rIx (dCall F da) (dC (.int 0))) (dOp rIx (dVar j) (dC (.int 0))))) S c false := fun q hq => by
  refine ha _ (hF _ fun d r hany hsd => ?_)
  exact Gv.const (.int 0) _ (rIx_first (Gv.ix hS h0 _ (in_is (f := not) (b := false) hsd sh (by rw [hany]; rfl) _ hq)))
end ND
namespace ND
open PySem PySem.Spec PyProof.Rows L2
/-! ## built-ins that call a method of the object's class -/
section
variable {X : Cx} {k : Nat} {f C : Addr} {fd : FuncData} {ps : List Str} {sp : Sp} {A : Around} {pins : List (Addr × Obj)} {σ : L2.St} {H : Hp} {s : Shared} {vs : List V} {us : List Value} {Q : VK}
theorem run_own (G : FnOk X.prog X.w X.K X.mg X.base CX0 k f fd ps sp) (hr : Room k A) (hf : A.frames = X.A.frames) (hb : Binds X.K fd ps []) (I : Inv X pins σ H s) (r : Vals vs us) (h : sp vs H Q E0) :
    wpAny (model X.prog X.w) A (call (.ref f) us) (fun v s' => ∃ x H', Inv X pins σ H' s' ∧ RelV x v ∧ Q x H') X.xe s := by
  have env : Env0 X.prog X.w X.K X.mg X.base A X.stack s H := { I.env0 with frames := by rw [hf]; exact I.env0.frames }
  have bd : BindsTo s fd ⟨us, []⟩ (ps.zip us) := by
    have := hb s us I.kIn (by rw [List.append_nil, ← r.length]; exact G.len _ _ _ _ h)
    rwa [List.append_nil] at this
  refine wpAny_call (codeAny_mono (G.run A X.stack s H ⟨us, []⟩ us vs Q E0 hr env bd r h) fun o s' hq => ?_)
  match o, hq with
  | .ok (.ret w), hq =>
    obtain ⟨z, H', I', rz, q⟩ := I.after hq
    exact ⟨z, H', I', rz, q⟩
  | .error e, hq => exact hq.elim
/-- len(o) by the class's own __len__ -/
theorem call_lenO (G : FnOk X.prog X.w X.K X.mg X.base CX0 k f fd ps sp) (hr : Room (k + 1) X.A) (M : Meth X.K C "__len__" f) (hb : Binds X.K fd ps []) :
    CallR X (.builtin "len") (fun xs H Q => ∃ a dx fs, xs = [.ref a] ∧ H a = some (.ins C dx fs) ∧ sp [.ref a] H (fun v H' => ∃ n : Int, v = .int n ∧ 0 ≤ n ∧ n < 2 ^ 63 ∧ Q (.int n) H') E0) := by
  rintro pins s σ H _ us Q I r ⟨a, dx, fs, rfl, ha, h⟩
  obtain ⟨u, rfl, ru⟩ := vals1 r
  cases ru
  obtain ⟨mA, J, _⟩ := ins_get I.hok ha
  obtain ⟨od, J, _⟩ := J.look
  obtain ⟨m, hF⟩ := I.fr
  refine PySem.W.len_K hF I.ok.mod.kin J M.at_ M.fn (wpAny_mono (run_own (A := X.A.in1) G hr.in1 rfl hb I (vs := [.ref a]) (.cons rfl .nil) h) (fun v s' hv => ?_) fun _ _ z => z)
  obtain ⟨z, H', I', rz, n, rfl, n0, n1, q⟩ := hv
  obtain ⟨t, rfl⟩ := rz
  exact ⟨⟨n0, n1⟩, .int n, H', I'.tok _, ⟨_, rfl⟩, q⟩
end
/-- len(session) -/
def dLenO (C : Addr) (F : FT) (de : DE) : DE := fun S c k => de S c fun e c1 => match e with
  | .ses a => (∃ s, c1.2.2 a = some s ∧ s.cls = C) ∧ F [.ses a] c1 fun r c2 => ∃ n : Int, r = .im (.int n) ∧ 0 ≤ n ∧ n < 2 ^ 63 ∧ k (.im (.int n)) c2
  | _ => False
theorem de_lenO {X : Cx} {k : Nat} {f C : Addr} {fd : FuncData} {ps : List Str} {F : FT} {e : Expr} {de : DE} {p pos : Pos} (G : FnOk X.prog X.w X.K X.mg X.base CX0 k f fd ps (spD X.K F)) (hr : Room (k + 1) X.A) (M : Meth X.K C "__len__" f) (hb : Binds X.K fd ps []) (hg : Gl X "len") (hm : X.mg "len" = none) (he : PE X e (LE X.K de))
    (hs : starEach [e] X.env = (false, eval e X.env) :: starEach [] X.env := by rfl) (hpl : (backTo pos (starEach [] X.env)).any (·.1) = false := by rfl) : PE X (.Call (.Name "len" p) [e] [] pos) (LE X.K (dLenO C F de)) := by
  refine PE.le (pe_callB (call_lenO G hr M hb) hg hm PySem.boot_len (pa_cons he pa_nil hs) (by decide) (by decide) hs hpl) fun σ H Q h => ?_
  obtain ⟨T, n, S, c, k, hS, h, q⟩ := h
  refine ⟨T, n, S, c, _, hS, h, fun e1 c1 h1 v1 H1 f1 t1 r1 => ?_⟩
  split at h1
  · rename_i a
    have ev : v1 = .ref a := r1.rv
    subst ev
    obtain ⟨⟨s, hs, rfl⟩, h1⟩ := h1
    obtain ⟨dx, vs, ls, e, z, nd⟩ := t1.ses a s hs
    refine ⟨a, dx, vs, rfl, e, T, n, c1, [.ses a], _, t1, .cons rfl (fun _ z => by cases z) .nil, h1, fun e c' hk v H' f3 t3 r3 => ?_⟩
    obtain ⟨m, rfl, m0, m1, hk⟩ := hk
    have rv := r3.rv
    cases rv
    exact ⟨m, rfl, m0, m1, q _ _ hk _ H' (f1.trans f3) t3 ⟨.int _, trivial⟩⟩
  · exact h1.elim
end ND
namespace ND
open PySem PySem.Spec PyProof.Rows L2
/-! ## for i, x in enumerate(tuple) -/
theorem enum_new1 {v : Value} {o : Obj} {Hh : Heap → Prop} (B : Begins v o Hh) :
    Meets (Builtin.«enumerate.__new__» ⟨[.type "enumerate", v], []⟩) (fun _ R s => Hh s.heap ∧
      R (.ok (.ret (.ref (s.heap.push o).objs.size))) { s with heap := (s.heap.push o).push { cls := .type "enumerate", data := .fields #[.none, .bool false, .ref s.heap.objs.size, rawInt 0, .none, .none] } }) :=
  .of_wp fun prog w A R s hh => by
    obtain ⟨hp, gg, dd, tt, oo⟩ := s
    obtain ⟨hB, hR⟩ := hh
    have es := sub_enumerate
    have itr : ∀ {A' : Around} {E : Value → Shared → Prop} {Q : Value → Shared → Prop}, Q (.ref hp.objs.size) ⟨hp.push o, gg, dd, tt, oo⟩ → wpAny (model prog w) A' (pyIter v) Q E ⟨hp, gg, dd, tt, oo⟩ := fun q => B.iter prog w _ _ ⟨hp, gg, dd, tt, oo⟩ _ hB q
    wp_walk using itr
    refine wpAny_stack_any fun stk => wpAny_pure ?_
    split
    · rename_i cc _ _ _ _ _
      cases (cc == Value.type "enumerate") <;>
      · wp_walk using itr
        exact ⟨_, rfl, hR⟩
    · wp_walk using itr
      exact ⟨_, rfl, hR⟩
section
variable {prog : Program} {w : World} {A : Around} {E : Value → Shared → Prop} {s : Shared}
theorem call_enumT {t : Addr} {items : Array Value} {Q : Value → Shared → Prop} (ht : s.heap.IsTuple t items)
    (q : ∀ h', IsEnum h' (s.heap.objs.size + 1) s.heap.objs.size 0 .none → h'.IsTupleIter s.heap.objs.size t 0 → (∀ b o, s.heap.get? b = some o → h'.get? b = some o) → Q (.ref (s.heap.objs.size + 1)) { s with heap := h' }) :
    wpAny (model prog w) A (call (.type "enumerate") [.ref t]) Q E s := by
  have B := begins_tuple t items
  refine callType_new F.called_enumerate (by decide) (F.typeCall_enumerate_1 _) (F.newCall_enumerate_1 _) (fun obj => F.args_object_init_2 obj _) F.entry_enumerate_new (enum_new1 B) ⟨ht, ?_⟩
  have sz : (s.heap.push { cls := .type "tuple_iterator", data := .fields #[.ref t, .int 0 0] }).objs.size = s.heap.objs.size + 1 := Heap.size_push ..
  have at1 := Heap.get?_push_size (s.heap.push { cls := .type "tuple_iterator", data := .fields #[.ref t, .int 0 0] }) (o := { cls := .type "enumerate", data := .fields #[.none, .bool false, .ref s.heap.objs.size, rawInt 0, .none, .none] }) rfl
  show _ ∧ _
  rw [sz] at at1 ⊢
  exact ⟨⟨_, at1, rfl⟩, q _ at1 ⟨_, Heap.get?_push_of_some _ (Heap.get?_push_size _ rfl), rfl, rfl⟩ fun b o x => Heap.get?_push_of_some _ (Heap.get?_push_of_some _ x)⟩
end
/-- the tuple at a, item by item, each in a new pair with its number -/
def IteT (K : PySem.W.Frag) (a : Addr) : It :=
  ⟨fun i H => ∃ (xs : List V) (x : V), SqT K H a xs ∧ xs[i]? = some x, fun i H v H' => ∃ p x, v = .ref p ∧ H p = none ∧ H' = upd H p (.tup [.int (i : Nat), x]) ∧ ∀ xs, SqT K H a xs → xs[i]? = some x, fun i H => ∃ xs : List V, SqT K H a xs ∧ xs.length = i⟩
theorem turn_enumT {P : Program} {w : World} {K : PySem.W.Frag} {elts : List Expr} {kk : Nat} {tpos : Pos} (a e it : Addr) (ae : a ≠ e) (ai : a ≠ it) (ei : e ≠ it) :
    Turn P w K (.Tuple elts kk tpos) (IteT K a) [e, it] e (fun i h => (∃ old, IsEnum h e it ((i : Nat) : Int) old) ∧ h.IsTupleIter it a i) where
  mem := List.mem_cons_self
  obj := fun i h st b hb => by
    obtain ⟨⟨old, he⟩, o, ho, _, hd⟩ := st
    simp only [List.mem_cons, List.not_mem_nil, or_false] at hb
    rcases hb with rfl | rfl
    · exact ⟨_, he, fun _ q => nomatch q⟩
    · exact ⟨o, ho, fun _ q => by rw [hd] at q; cases q⟩
  keep := fun i h h' st k => by
    obtain ⟨⟨old, he⟩, hi⟩ := st
    exact ⟨⟨old, k e List.mem_cons_self _ he⟩, hi.at fun o q => k it (List.mem_cons_of_mem _ List.mem_cons_self) o q⟩
  item := by
    intro X hP hw hK hc i pins s σ H E I hf st hg
    subst hP hw hK
    obtain ⟨⟨old, he⟩, hit⟩ := st
    obtain ⟨xs, x, hq, hx⟩ := hg
    obtain ⟨its, rv, p, _⟩ := I.tuple hq
    obtain ⟨u, hu, ru⟩ := rv.get hx
    have tp : s.heap.IsTuple a its.toArray := p
    have hh : X.A.in1.handled = none := I.ok.hd hc
    have sz : i < its.toArray.size := by
      have := (List.getElem?_eq_some_iff.mp hu).1
      simpa using this
    have le : e < s.heap.objs.size := Heap.lt_size he
    have li : it < s.heap.objs.size := by obtain ⟨_, q, _⟩ := hit; exact Heap.lt_size q
    refine wpAny_pyNext_enum_itemC (Draws.tuple hh it a ai its.toArray) he ⟨hit, tp⟩ sz ei (by simp [ei, Ne.symm ae]) fun y h' tk hy ho hst hT _ hk => ?_
    have ey : y = u := by
      have hy : its.toArray[i]? = some y := hy
      rw [List.getElem?_toArray, hu] at hy
      exact (Option.some.inj hy).symm
    subst ey
    refine ⟨_, rfl, wpAny_letOwnedTupleGo_enum (s := { s with heap := h', toks := tk + 1 }) ho fun h2 he2 sb => ?_⟩
    have hT2 : h2.get? s.heap.objs.size = some { cls := .type "tuple", data := .seq #[.int ((i : Nat) : Int) tk, y] } := (sb.2 _ (Nat.ne_of_gt le)).trans hT
    have new : ObjOk X.prog X.w (upd H s.heap.objs.size (.tup [.int (i : Nat), x])) h2 s.heap.objs.size (.tup [.int (i : Nat), x]) := ⟨by show 2 ≤ sizeLine; decide, [.int ((i : Nat) : Int) tk, y], .cons ⟨_, rfl⟩ (.cons ru .nil), ⟨_, hT2, rfl, _, rfl⟩⟩
    have kp : ∀ b ob, b ∉ [e, it] → s.heap.get? b = some ob → h2.get? b = some ob := fun b ob hb q => by
      simp only [List.mem_cons, List.not_mem_nil, or_false, not_or] at hb
      exact (sb.2 b hb.1).trans (hk b ob hb.1 hb.2 q)
    have I1 : Inv X pins σ (upd H s.heap.objs.size (.tup [.int (i : Nat), x])) { s with heap := h2, toks := tk + 1 } := I.turnedNew (ch := [e, it]) kp hf (Nat.le_refl _) new
    refine ⟨.ref s.heap.objs.size, _, I1, rfl, ⟨_, x, rfl, I.hok.fresh (Nat.le_refl _), rfl, fun ys hy => by rw [I.tuple_inj hy hq]; exact hx⟩, ⟨⟨y, ?_⟩, hst.1.at fun o q => (sb.2 it (Ne.symm ei)).trans q⟩, fun b hb => ?_⟩
    · rw [show ((i + 1 : Nat) : Int) = (i : Int) + 1 by omega]
      exact he2
    · have lb : b < s.heap.objs.size := by
        simp only [List.mem_cons, List.not_mem_nil, or_false] at hb
        rcases hb with rfl | rfl
        · exact le
        · exact li
      rw [upd_ne (Nat.ne_of_lt lb)]
      exact (hf b hb).1
  done := by
    intro X hP hw hK hc i pins s σ H E I hf st hg
    subst hP hw hK
    obtain ⟨⟨old, he⟩, hit⟩ := st
    obtain ⟨xs, hq, hx⟩ := hg
    obtain ⟨its, rv, p, _⟩ := I.tuple hq
    have tp : s.heap.IsTuple a its.toArray := p
    have hh : X.A.in1.handled = none := I.ok.hd hc
    obtain ⟨f0, f1, f2, f3, f4, f5⟩ := hf it (List.mem_cons_of_mem _ List.mem_cons_self)
    have sz : its.toArray.size = i := by
      rw [← hx, rv.length]
      simp
    exact wpAny_pyNext_enum_endD (Draws.tuple hh it a ai its.toArray) he (by rw [sz]; exact ⟨hit, tp⟩) fun h' eb => ⟨rfl, I.turned (t' := s.toks) (fun b o hb q => eb b o hb q) f0 f1 f3 f4 f5⟩
  self := fun A i s Q E st h => by
    obtain ⟨⟨_, he⟩, _⟩ := st
    exact wpAny_pyIter_enum he h
def iEnumT (K : PySem.W.Frag) (ta : TA) : TI := fun σ H R => ta σ H fun vs H1 => ∃ a xs, vs = [.ref a] ∧ SqT K H1 a xs ∧ R (IteT K a) H1
theorem pi_enumT {X : Cx} {e : Expr} {ta : TA} {p pos tpos : Pos} {elts : List Expr} {kk : Nat} (hg : Gl X "enumerate") (hm : X.mg "enumerate" = none) (ha : PA X [e] ta) (hs : starEach [e] X.env = [(false, eval e X.env)] := by rfl) :
    PI X (.Tuple elts kk tpos) (.Call (.Name "enumerate" p) [e] [] pos) (iEnumT X.K ta) := by
  constructor
  intro pins s σ H R I h
  refine Call_ (ld_blt I hg hm boot_enumerate (callWith_type1 (thn (ha.run pos pins s σ H _ I h) fun us s1 ⟨vs, H1, I1, r1, a, xs, ev, hq, q⟩ => ?_) hs rfl))
  subst ev
  obtain ⟨u, rfl, ru⟩ := r1.one
  cases ru
  obtain ⟨its, rv, tp, _⟩ := I1.tuple hq
  have tp : s1.heap.IsTuple a its.toArray := tp
  have la : a < s1.heap.objs.size := by obtain ⟨_, z, _⟩ := tp; exact Heap.lt_size z
  refine call_enumT tp fun h' he hit hk => wpAny_pyIter_enum he ?_
  refine ⟨s1.heap.objs.size + 1, [s1.heap.objs.size + 1, s1.heap.objs.size], _, _, H1, rfl, I1.kept (t' := s1.toks) hk, turn_enumT a (s1.heap.objs.size + 1) s1.heap.objs.size (Nat.ne_of_lt (Nat.lt_succ_of_lt la)) (Nat.ne_of_lt la) (Nat.succ_ne_self _), ⟨⟨.none, he⟩, hit⟩, fun b hb => ?_, q⟩
  have hle : s1.heap.objs.size ≤ b := by
    simp only [List.mem_cons, List.not_mem_nil, or_false] at hb
    rcases hb with rfl | rfl
    · exact Nat.le_succ _
    · exact Nat.le_refl _
  exact I1.fpOk hle (I1.hok.fresh hle)
end ND
namespace ND
open PySem PySem.Spec PyProof.Rows L2
/-! ## != by an own __eq__ -/
section
variable {prog : Program} {w : World} {A : Around} {E : Value → Shared → Prop} {s : Shared} {K : PySem.W.Frag} {x C f : Addr} {ox : Obj} {od : Option Obj} {b tb : Value}
/-- o.__ne__ is the one that every object has -/
theorem bound_ne {M : Model} {args : List Value} {Q : Option Value → Shared → Prop} (hK : K.In s.heap) (I : PySem.W.InstAt s.heap x ox C od) (hn : PySem.W.findIn K (.ref C) "__ne__" = some (some (.builtin "object.__ne__")))
    (q : wpAny M A (call (.builtin "object.__ne__") (.ref x :: args)) (fun v => Q (some v)) E s) : wpAny M A (callSpecialIfBound? (.ref x) "__ne__" args) Q E s := by
  have go : wpAny M A (call (.builtin "object.__ne__") ([.ref x] ++ args) >>= fun v => pure (some v)) Q E s := wpAny_bind (wpAny_mono q (fun _ _ z => wpAny_pure z) fun _ _ z => z)
  have bd : ∀ {R : Value × List Value → Shared → Prop} {E' : Value → Shared → Prop}, R (.builtin "object.__ne__", [.ref x]) s → wpAny M A (bindSpecial (.builtin "object.__ne__") (.ref x)) R E' s := fun {R E'} z => wpAny_of_eq (F.cmp_object.ne.bind _) z
  simp only [callSpecialIfBound?, bindSpecialIfBound?]
  refine wpAny_holding (wpAny_bind (wpAny_bind (wpAny_bind (I.type.here ((PySem.W.looks_findIn hK hn).here (wpAny_bind (wpAny_askSetting (wpAny_ite ?_))))))))
  split
  · exact wpAny_bind (bd (wpAny_pure (by exact go)))
  · exact wpAny_tryCatch (wpAny_bind (bd (wpAny_pure (by exact go))))
theorem ne_body (hu : A.units < cLine) (hK : K.In s.heap) (I : PySem.W.InstAt s.heap x ox C od) (he : PySem.W.findIn K (.ref C) "__eq__" = some (some (.ref f))) (hf : PySem.W.isFn K (.ref f) = true) {Q : Fin → Shared → Prop}
    (q : wpAny (model prog w) A (call (.ref f) [.ref x, b]) (fun v s' => ∃ r, v = .bool r ∧ Q (.done (.ret (.bool (!r)))) s') E s) : wpAny (model prog w) A (Builtin.«object.__ne__» ⟨[.ref x, b], []⟩) Q E s := by
  unfold Builtin.«object.__ne__»
  repeat (first
    | with_reducible refine wpAny_cRoomFor hu ?_
    | (refine wpAny_bind (m := callSpecialIfBound? (.ref x) (Str.ofString "__eq__") [b]) (PySem.W.ifBound_K hK I he hf (wpAny_mono q (fun v s' z => ?_) fun _ _ z => z)); obtain ⟨r, rfl, z⟩ := z)
    | with_reducible exact wpAny_truthy_bool z
    | (refine wpAny_bind (m := truthy (.bool _)) (wpAny_truthy_bool ?_))
    | exact wpAny_pure z
    | wp_step)
theorem ne_own (hu : A.units + 1 < cLine) (hK : K.In s.heap) (I : PySem.W.InstAt s.heap x ox C od) (hb : PySem.W.Looks (model prog w) s.heap (typeOf b) tb) (hn : PySem.W.notFirst K C tb = true) (nn : PySem.W.findIn K (.ref C) "__ne__" = some (some (.builtin "object.__ne__")))
    (mo : PySem.W.mroIn K C (.type "object") = some true) (he : PySem.W.findIn K (.ref C) "__eq__" = some (some (.ref f))) (hf : PySem.W.isFn K (.ref f) = true) {Q : Value → Shared → Prop}
    (q : wpAny (model prog w) A.in1 (call (.ref f) [.ref x, b]) (fun v s' => ∃ r, v = .bool r ∧ Q (.bool (!r)) s') E s) : wpAny (model prog w) A (richCompare .NotEq (.ref x) b) Q E s := by
  have one : wpAny (model prog w) A (tryCompare (.ref x) "__ne__" b) (fun r s' => ∃ v, r = some v ∧ Q v s') E s := by
    unfold tryCompare
    refine wpAny_bind (bound_ne hK I nn (wpAny_call (codeAny_call_builtin F.cmp_object.ne.plain F.cmpEntry_ne (PySem.W.check_slot F.cmpKind_ne F.cmpSplit_ne (I.type.andThen (PySem.W.looks_mroIn hK mo)) (F.cmpArgs_ne _ _) (ne_body (A := A.in1) hu hK I he hf (wpAny_mono q (fun v s' z => ?_) fun _ _ z => z))))))
    obtain ⟨r, rfl, z⟩ := z
    exact ⟨r, rfl, wpAny_pure ⟨_, rfl, z⟩⟩
  have fin : ∀ {r : Option Value} {s' : Shared} {m : Sem Value}, (∃ v, r = some v ∧ Q v s') → wpAny (model prog w) A (match r with | some v => pure v | none => m) Q E s' := fun {r s' m} ⟨v, e, z⟩ => by
    subst e
    exact wpAny_pure z
  unfold richCompare
  simp only [oneThing_ref]
  refine wpAny_holding (wpAny_bind (wpAny_cRoomFor (by omega) ?_))
  refine wpAny_bind (I.type.here (wpAny_bind (hb.here ?_)))
  split
  · rename_i d
    have e : PySem.W.subIn K tb (.ref C) = some false := (Bool.or_eq_true_iff.mp hn).elim (fun z => by rw [beq_iff_eq.mp z] at d; simp at d) beq_iff_eq.mp
    refine wpAny_bind ((PySem.W.looks_subIn hK e).here ?_)
    simp only [Bool.false_eq_true, if_false]
    refine wpAny_bind (wpAny_mono one (fun r s' z => ?_) fun _ _ z => z)
    obtain ⟨v, rfl, z⟩ := z
    exact wpAny_pure z
  · refine wpAny_bind (wpAny_pure ?_)
    simp only [Bool.false_eq_true, if_false]
    refine wpAny_bind (wpAny_mono one (fun r s' z => ?_) fun _ _ z => z)
    obtain ⟨v, rfl, z⟩ := z
    exact wpAny_pure z
end
/-- what is known of a class with an own __eq__ -/
structure EqC (K : PySem.W.Frag) (C f : Addr) : Prop where
  eq : PySem.W.findIn K (.ref C) "__eq__" = some (some (.ref f))
  fn : PySem.W.isFn K (.ref f) = true
  ne : PySem.W.findIn K (.ref C) "__ne__" = some (some (.builtin "object.__ne__"))
  mo : PySem.W.mroIn K C (.type "object") = some true
section
variable {X : Cx} {k : Nat} {f C : Addr} {fd : FuncData} {ps : List Str} {sp : Sp}
/-- o != p, two objects of the class -/
theorem op_neO (G : FnOk X.prog X.w X.K X.mg X.base CX0 k f fd ps sp) (hr : Room (k + 1) X.A) (M : EqC X.K C f) (hb : Binds X.K fd ps []) :
    OpR X (compareOp .NotEq) (fun x y H Q => ∃ a b dx dy fs gs, x = .ref a ∧ y = .ref b ∧ H a = some (.ins C dx fs) ∧ H b = some (.ins C dy gs) ∧ sp [.ref a, .ref b] H (fun v H' => ∃ r, v = .bl r ∧ Q (.bl (!r)) H') E0) := by
  rintro pins s σ H _ _ v u Q I rx ry ⟨a, b, dx, dy, fs, gs, rfl, rfl, ha, hb', h⟩
  cases rx
  cases ry
  obtain ⟨_, J, _⟩ := ins_get I.hok ha
  obtain ⟨_, J', _⟩ := ins_get I.hok hb'
  obtain ⟨od, J, _⟩ := J.look
  obtain ⟨od', J', _⟩ := J'.look
  have hu : X.A.units + 1 < cLine := by have := hr.units; omega
  show wpAny (model X.prog X.w) X.A (richCompare .NotEq (.ref a) (.ref b)) (EP X pins σ Q) X.xe s
  refine ne_own hu I.kIn J J'.type (by simp [PySem.W.notFirst]) M.ne M.mo M.eq M.fn (wpAny_mono (run_own (A := X.A.in1) G hr.in1 rfl hb I (vs := [.ref a, .ref b]) (.cons rfl (.cons rfl .nil)) h) (fun v s' hv => ?_) fun _ _ z => z)
  obtain ⟨z, H', I', rz, r, rfl, q⟩ := hv
  cases rz
  exact ⟨r, rfl, .bl (!r), H', I', rfl, q⟩
end
/-- session != session -/
def dNeO (C : Addr) (F : FT) (da db : DE) : DE := fun S c k => da S c fun x c1 => db S c1 fun y c2 => match x, y with
  | .ses a, .ses b => (∃ s, c2.2.2 a = some s ∧ s.cls = C) ∧ (∃ s, c2.2.2 b = some s ∧ s.cls = C) ∧ F [.ses a, .ses b] c2 fun r c3 => ∃ z, r = .im (.bool z) ∧ k (.im (.bool (!z))) c3
  | _, _ => False
section
variable {X : Cx} {k : Nat} {f C : Addr} {fd : FuncData} {ps : List Str} {F : FT} {a b : Expr} {da db : DE} {pos : Pos}
theorem neO_le {σ : SS} {H : Hp} {Q : VK} (h : LE X.K (dNeO C F da db) σ H Q) :
    tOp (fun x y H Q => ∃ a b dx dy fs gs, x = .ref a ∧ y = .ref b ∧ H a = some (.ins C dx fs) ∧ H b = some (.ins C dy gs) ∧ spD X.K F [.ref a, .ref b] H (fun v H' => ∃ r, v = .bl r ∧ Q (.bl (!r)) H') E0) (LE X.K da) (LE X.K db) σ H Q := by
  obtain ⟨T, n, S, c, k, hS, h, q⟩ := h
  refine ⟨T, n, S, c, _, hS, h, fun e1 c1 h1 v1 H1 f1 t1 r1 => ?_⟩
  refine ⟨T, n, S, c1, _, hS.mono f1 t1, h1, fun e2 c2 h2 v2 H2 f2 t2 r2 => ?_⟩
  split at h2
  · rename_i a b
    have ea : v1 = .ref a := r1.rv
    have eb : v2 = .ref b := r2.rv
    subst ea eb
    obtain ⟨⟨s1, g1, rfl⟩, ⟨s2, g2, e2⟩, h2⟩ := h2
    obtain ⟨dx, vs, ls, o1, _, _⟩ := t2.ses a s1 g1
    obtain ⟨dy, us, ms, o2, _, _⟩ := t2.ses b s2 g2
    rw [e2] at o2
    refine ⟨a, b, dx, dy, vs, us, rfl, rfl, o1, o2, T, n, c2, [.ses a, .ses b], _, t2, .cons rfl (fun _ z => by cases z) (.cons rfl (fun _ z => by cases z) .nil), h2, fun e c' hk v H' f3 t3 r3 => ?_⟩
    obtain ⟨z, rfl, hk⟩ := hk
    have rv := r3.rv
    cases rv
    exact ⟨z, rfl, q _ _ hk _ H' (f1.trans (f2.trans f3)) t3 ⟨.bl _, trivial⟩⟩
  · exact h2.elim
theorem de_neO (G : FnOk X.prog X.w X.K X.mg X.base CX0 k f fd ps (spD X.K F)) (hr : Room (k + 1) X.A) (M : EqC X.K C f) (hb : Binds X.K fd ps []) (ha : PE X a (LE X.K da)) (hb' : PE X b (LE X.K db)) (hm : behindInMarks .NotEq b = false) : PE X (.Compare a [.NotEq] [b] pos) (LE X.K (dNeO C F da db)) :=
  PE.le (pe_cmpR (op_neO G hr M hb) ha hb' hm) fun _ _ _ h => neO_le h
theorem dt_neO (G : FnOk X.prog X.w X.K X.mg X.base CX0 k f fd ps (spD X.K F)) (hr : Room (k + 1) X.A) (M : EqC X.K C f) (hb : Binds X.K fd ps []) (ha : PE X a (LE X.K da)) (hb' : PE X b (LE X.K db)) (hm : behindInMarks .NotEq b = false) : PT X (.Compare a [.NotEq] [b] pos) (LT X.K (dTest (dNeO C F da db))) := by
  refine PT.le (pt_cmpR (op_neO G hr M hb) ha hb' hm) fun σ H Q h => ?_
  obtain ⟨T, n, S, c, k, hS, h, q⟩ := h
  refine neO_le (da := da) (db := db) ⟨T, n, S, c, _, hS, h, fun e1 c1 h1 v1 H1 f1 t1 r1 => ?_⟩
  split at h1
  · cases r1.rv
    exact ⟨_, rfl, q _ _ h1 H1 f1 t1⟩
  · exact h1.elim
end
/-! ## (session, datum) -/
def dTupS (i : Nat) (de : DE) : DE := fun S c k => match S[i]? with
  | some (some (.ses a)) => de S c fun x c1 => match x with
    | .im d => k (.sp a d) c1
    | _ => False
  | _ => False
theorem de_tupS {X : Cx} {e : Expr} {de : DE} {x1 : Nat} {pos p : Pos} {x : Str} (i : Nat) (he : PE X e (LE X.K de)) (hv : PE X (.Name x p) (tVar i)) (hs : starEach [.Name x p, e] X.env = (false, eval (.Name x p) X.env) :: starEach [e] X.env := by rfl) (hs2 : starEach [e] X.env = (false, eval e X.env) :: starEach [] X.env := by rfl) :
    PE X (.Tuple [.Name x p, e] x1 pos) (LE X.K (dTupS i de)) := by
  refine PE.le (pe_tup (pa_cons hv (pa_cons he pa_nil hs2) hs)) fun σ H Q h => ?_
  obtain ⟨T, n, S, c, k, hS, h, q⟩ := h
  unfold dTupS at h
  split at h
  · rename_i a ea
    obtain ⟨v, ev, rv⟩ := hS.rep i _ ea
    have rv : v = .ref a := rv
    subst rv
    refine ⟨_, ev, T, n, S, c, _, hS, h, fun e1 c1 h1 v1 H1 f1 t1 r1 => ?_⟩
    split at h1
    · have nl := sizeLine_eq
      refine ⟨by show 2 ≤ sizeLine; omega, fun p hp => ?_⟩
      have sm := same_upd (o := HO.tup [.ref a, v1]) hp
      exact q _ _ h1 _ _ (f1.trans (frT_same sm)) (tw_same t1 sm) ⟨⟨p, v1, rfl, upd_same, Rp.ke ((frT_same sm).ke t1) _ _ r1.rv⟩, trivial⟩
    · exact h1.elim
  · exact h.elim
/-! ## for i, x in enumerate(tuple), by entries -/
theorem walk_enumT {K : PySem.W.Frag} {a : Addr} {xs : List V} : Walk (IteT K a) xs.length (fun H => SqT K H a xs) (YPair (fun i => some (.int (i : Nat))) (fun i => xs[i]?)) :=
  ⟨fun i _ hi q => ⟨xs, xs[i], q, by simp [hi]⟩, fun _ q => ⟨xs, q, rfl⟩, fun i H v H' _ q ⟨p, x, h1, h2, h3, h4⟩ => ⟨p, .int (i : Nat), x, h1, h2, h3, rfl, h4 xs q⟩⟩
def dForE (da : DA) (g : DG) (t : DS) : DS := fun D S c => da S c fun es c1 => match es with
  | [.im (.tuple xs)] => forL g t D (enumD xs) S c1
  | _ => False
theorem enumD_get {xs : List PyData} {i : Nat} {x : PyData} (h : xs[i]? = some x) : (enumD xs)[i]? = some (.tuple [.int (i : Nat), x]) := by
  have hl := (List.getElem?_eq_some_iff.mp h).1
  unfold enumD
  rw [List.getElem?_map, List.getElem?_range hl]
  simp [List.getD_eq_getElem?_getD, h]
theorem ds_forE {X : Cx} {elts : List Expr} {kk : Nat} {p pos tpos cpos : Pos} {e : Expr} {body : List Stmt} {da : DA} {g : DG} {t : DS} {sl : List Nat} (hp : PassesOwn (model X.prog X.w) X.A X.env X.xe) (hc : X.calm = true) (hgl : Gl X "enumerate") (hm : X.mg "enumerate" = none) (ha : PA X [e] (LA X.K da)) (hg : PG X (.Tuple elts kk tpos) (LG X.K sl g)) (hb : PSs X body (LS X.K t))
    (hs : starEach [e] X.env = [(false, eval e X.env)] := by rfl) (hf : ∀ x, foldedSetIterable (.Call (.Name "enumerate" p) [e] [] cpos) X.env x = pure x := by intro _; rfl) :
    PS X (.For (.Tuple elts kk tpos) (.Call (.Name "enumerate" p) [e] [] cpos) body [] pos) (LS X.K (dForE da g t)) := by
  refine PS.le (ps_for hp hc (pi_enumT hgl hm ha hs) hg hb hf) fun D σ H h => ?_
  obtain ⟨T, n, S, c, d, hS, h, h1, h2, h3, h4⟩ := h
  refine ⟨T, n, S, c, _, hS, h, fun es c1 k1 vs H1 f1 t1 r1 => ?_⟩
  split at k1
  · rename_i xs
    cases r1 with
    | cons r rs =>
    cases rs
    have rv : Rp X.K H1 _ (.tuple xs) := r.rv
    cases rv with
    | @tup a ws _ sa ra =>
    have hS1 := hS.mono f1 t1
    have s0 : Fs T S σ H S σ H1 := fs_of f1 t1
    refine ⟨a, ws, rfl, .inl (.inl sa), ?_⟩
    let Pv : Nat → SS → Hp → Prop := fun i σ' H' => ∃ S' c', forL g t d ((enumD xs).drop i) S' c' ∧ Fs T S σ H1 S' σ' H' ∧ Hd X.K T n S' c' σ' H'
    have kef : ∀ {S' : Sl} {σ' : SS} {H' : Hp}, Fs T S σ H1 S' σ' H' → Ke H1 H' := fun {S' σ' H'} f b o h => by
      by_cases z : Nt T H1 b
      · by_cases y : Ow S σ b
        · obtain ⟨j, zs, q1, q2⟩ := y
          obtain ⟨a, vs, e1, e2, _⟩ := hS1.tru j zs q1
          rw [q2] at e1
          cases e1
          rw [h] at e2
          rw [Option.some.inj e2]
          exact .inl (.lst _)
        · exact .inr (f.keep b o h z y)
      · exact .inl (hS1.tow.lk h z)
    have el : (enumD xs).length = ws.length := by rw [ra.len]; simp [enumD]
    refine for_it (walk_enumT (xs := ws)) Pv ⟨S, c1, k1, .refl _ _ _ _, hS1⟩ (fun i σ' H' _ hp => ?_) (fun i v σ' H' H2 hi hp hy => ?_) (fun σ' H' hp => ?_)
    · obtain ⟨S', c', _, f, _⟩ := hp
      exact SqT.ke (.inl (.inl sa)) (kef f)
    · obtain ⟨S', c', k, f, hd⟩ := hp
      obtain ⟨p, y, z, rfl, np, rfl, ey, ez⟩ := hy
      cases ey
      obtain ⟨x, hx⟩ : ∃ x, xs[i]? = some x := ⟨_, List.getElem?_eq_getElem (by rw [← ra.len]; exact hi)⟩
      obtain ⟨w, ew, rw_⟩ := (RpAll.ke (kef f) _ _ ra).get hx
      have ez : ws[i]? = some z := ez
      rw [ez] at ew
      cases ew
      have sm := same_upd (o := HO.tup [.int (i : Nat), z]) np
      have hd2 := hd.mono (frT_same sm) (tw_same hd.tow sm)
      rw [drop_get (enumD_get hx)] at k
      refine ⟨T, n, S', c', _, _, hd2, .tup upd_same (.cons (.int _) (.cons (Rp.ke ((frT_same sm).ke hd.tow) _ _ rw_) .nil)), k, fun S2 k2 σ2 hd2' o2 _ => ?_⟩
      have f2 : Fs T S σ H1 S2 σ2 (upd H' p (.tup [.int (i : Nat), z])) := (f.trans (fs_of (frT_same sm) (tw_same hd.tow sm))).trans ⟨.refl _ _ _ _, fun b z => .inl (o2 b z)⟩
      have f3 := s0.trans f2
      exact ⟨T, n, S2, c', _, hd2', k2, fun S3 c3 q σ3 H3 g3 hd3 => ⟨S3, c3, q, f2.trans g3, hd3⟩, fun e c3 q v H3 g3 t3 r3 => h2 _ _ q v H3 (f3.trans0 g3) t3 (r3.trans f3),
        fun S3 c3 q σ3 H3 g3 hd3 => h1 _ _ q σ3 H3 (f3.trans g3) hd3, fun S3 c3 q σ3 H3 g3 hd3 => ⟨S3, c3, q, f2.trans g3, hd3⟩⟩
    · obtain ⟨S', c', k, f, hd⟩ := hp
      rw [← el, List.drop_length] at k
      exact h1 _ _ k σ' H' (s0.trans f) hd
  · exact k1.elim
end ND
namespace ND
open PySem PySem.Spec L2
/-! ## attributes that are lists -/
/-- len(o.x) -/
def dLenF (C : Addr) (x : Str) (de : DE) : DE := fun S c k => de S c fun e c1 => match e with
  | .ses a => ∃ s xs, c1.2.2 a = some s ∧ s.cls = C ∧ s.fs.lookup x = some (.ls xs) ∧ k (.im (.int (xs.length : Nat))) c1
  | _ => False
/-- o.x[name] -/
def dIxF (C : Addr) (x : Str) (j : Nat) (de : DE) : DE := fun S c k => de S c fun e c1 => match e, S[j]? with
  | .ses a, some (some (.im (.int i))) => ∃ s xs d, c1.2.2 a = some s ∧ s.cls = C ∧ s.fs.lookup x = some (.ls xs) ∧ atI xs i = some d ∧ k (.im d) c1
  | _, _ => False
/-- o.x == [] -/
def dNilF (C : Addr) (x : Str) (de : DE) : DT := fun S c k => de S c fun e c1 => match e with
  | .ses a => ∃ s xs, c1.2.2 a = some s ∧ s.cls = C ∧ s.fs.lookup x = some (.ls xs) ∧ Shp (.list xs) ∧ k (PyData.eqv (.list xs) (.list [])) c1
  | _ => False
/-- o.x == p.x, o and p names -/
def dEqF (C : Addr) (x : Str) (i j : Nat) : DE := fun S c k => match S[i]?, S[j]? with
  | some (some (.ses a)), some (some (.ses b)) => ∃ s r xs ys, c.2.2 a = some s ∧ s.cls = C ∧ s.fs.lookup x = some (.ls xs) ∧ c.2.2 b = some r ∧ r.cls = C ∧ r.fs.lookup x = some (.ls ys) ∧ Shp (.list xs) ∧ Shp (.list ys) ∧ k (.im (.bool (PyData.eqv (.list xs) (.list ys)))) c
  | _, _ => False
theorem shp_nil : Shp (.list []) := (nice_list (n := 0) (xs := []) fun z hz => by cases hz).shp (by decide)
section
variable {X : Cx} {o : Expr} {de : DE} {C : Addr} {x : Str} {p p2 pos : Pos}
theorem de_lenF (cl : Cls X.K C) (na : NoAttr X.K C x) (hg : Gl X "len") (hm : X.mg "len" = none) (ho : PE X o (LE X.K de)) (hb : attributeBase o x X.env (eval o X.env) = eval o X.env := by rfl)
    (hs : starEach [.Attribute o x p2] X.env = (false, eval (.Attribute o x p2) X.env) :: starEach [] X.env := by rfl) (hpl : (backTo pos (starEach [] X.env)).any (·.1) = false := by rfl) : PE X (.Call (.Name "len" p) [.Attribute o x p2] [] pos) (LE X.K (dLenF C x de)) := by
  refine PE.le (pe_callB call_len_seq hg hm PySem.boot_len (pa_cons (pe_fld ho hb) pa_nil hs) (by decide) (by decide) hs hpl) fun σ H Q h => ?_
  obtain ⟨T, n, S, c, k, hS, h, q⟩ := h
  refine ⟨T, n, S, c, _, hS, h, fun e1 c1 h1 v1 H1 f1 t1 r1 => ?_⟩
  split at h1
  · rename_i a
    have ev : v1 = .ref a := r1.rv
    subst ev
    obtain ⟨s, xs, hs, rfl, hl, h1⟩ := h1
    obtain ⟨dx, vs, ls, e, z, nd⟩ := t1.ses a s hs
    obtain ⟨l, ws, hv, g, rw_⟩ := z.ls_at hl
    refine ⟨a, s.cls, dx, vs, _, rfl, e, cl, na, hv, l, ws, rfl, .inl (SqL.of g), ?_⟩
    rw [(rw_ X.K).len]
    exact q _ _ h1 _ H1 f1 t1 ⟨.int _, trivial⟩
  · exact h1.elim
theorem de_ixF {y : Str} (j : Nat) (cl : Cls X.K C) (na : NoAttr X.K C x) (ho : PE X o (LE X.K de)) (hv : PE X (.Name y p) (tVar j)) (hb : attributeBase o x X.env (eval o X.env) = eval o X.env := by rfl) (hs : PlainIx (.Name y p) := by exact fun _ _ => rfl) :
    PE X (.Subscript (.Attribute o x p2) (.Name y p) pos) (LE X.K (dIxF C x j de)) := by
  refine PE.le (pe_ix ix_list (pe_fld ho hb) hv hs) fun σ H Q h => ?_
  obtain ⟨T, n, S, c, k, hS, h, q⟩ := h
  refine ⟨T, n, S, c, _, hS, h, fun e1 c1 h1 v1 H1 f1 t1 r1 => ?_⟩
  split at h1
  · rename_i a i ei
    have ev : v1 = .ref a := r1.rv
    subst ev
    obtain ⟨s, xs, d, hs, rfl, hl, ha, h1⟩ := h1
    obtain ⟨dx, vs, ls, e, z, nd⟩ := t1.ses a s hs
    obtain ⟨l, ws, hv, g, rw_⟩ := z.ls_at hl
    obtain ⟨u, e3, r3⟩ := atI_rp (rw_ X.K) ha
    obtain ⟨w, ew, rw2⟩ := hS.rep j _ ei
    cases rw2
    exact ⟨a, s.cls, dx, vs, _, rfl, e, cl, na, hv, _, ew, l, ws, _, u, rfl, rfl, SqL.of g, e3, q _ _ h1 _ H1 f1 t1 ⟨r3, trivial⟩⟩
  · exact h1.elim
theorem dt_nilF {p3 : Pos} (hu : X.A.units + 64 < cLine) (cl : Cls X.K C) (na : NoAttr X.K C x) (ho : PE X o (LE X.K de)) (hb : attributeBase o x X.env (eval o X.env) = eval o X.env := by rfl) :
    PT X (.Compare (.Attribute o x p2) [.Eq] [.List [] p3] pos) (LT X.K (dNilF C x de)) := by
  refine PT.le (pt_cmpR (op_eqD hu) (pe_fld ho hb) (pe_lst pa_nil) (nomark _)) fun σ H Q h => ?_
  obtain ⟨T, n, S, c, k, hS, h, q⟩ := h
  refine ⟨T, n, S, c, _, hS, h, fun e1 c1 h1 v1 H1 f1 t1 r1 => ?_⟩
  split at h1
  · rename_i a
    have ev : v1 = .ref a := r1.rv
    subst ev
    obtain ⟨s, xs, hs, rfl, hl, sh, h1⟩ := h1
    obtain ⟨dx, vs, ls, e, z, nd⟩ := t1.ses a s hs
    obtain ⟨l, ws, hv, g, rw_⟩ := z.ls_at hl
    refine ⟨a, s.cls, dx, vs, _, rfl, e, cl, na, hv, Nat.zero_le _, fun pn hpn => ?_⟩
    have sm := same_upd (o := HO.lst []) hpn
    exact ⟨.list xs, .list [], .lst (SqL.of (sm.sm _ _ g)) (RpAll.dp _ _ (RpAll.ke ((frT_same sm).ke t1) _ _ (rw_ X.K))), .lst (SqL.of upd_same) .nil, sh, shp_nil, _, rfl, q _ _ h1 _ (f1.trans (frT_same sm)) (tw_same t1 sm)⟩
  · exact h1.elim
theorem de_eqF {y z : Str} {p3 p4 : Pos} (i j : Nat) (hu : X.A.units + 64 < cLine) (cl : Cls X.K C) (na : NoAttr X.K C x) (hv : PE X (.Name y p) (tVar i)) (hw : PE X (.Name z p3) (tVar j)) (hb : attributeBase (.Name y p) x X.env (eval (.Name y p) X.env) = eval (.Name y p) X.env := by rfl)
    (hb2 : attributeBase (.Name z p3) x X.env (eval (.Name z p3) X.env) = eval (.Name z p3) X.env := by rfl) : PE X (.Compare (.Attribute (.Name y p) x p2) [.Eq] [.Attribute (.Name z p3) x p4] pos) (LE X.K (dEqF C x i j)) := by
  refine PE.le (pe_cmpR (op_eqD hu) (pe_fld hv hb) (pe_fld hw hb2) (nomark _)) fun σ H Q h => ?_
  obtain ⟨T, n, S, c, k, hS, h, q⟩ := h
  unfold dEqF at h
  split at h
  · rename_i a b ea eb
    obtain ⟨s, r, xs, ys, h1, c1, l1, h2, c2, l2, s1, s2, h⟩ := h
    obtain ⟨v, ev, rv⟩ := hS.rep i _ ea
    have rv : v = .ref a := rv
    subst rv
    obtain ⟨w, ew, rw'⟩ := hS.rep j _ eb
    have rw' : w = .ref b := rw'
    subst rw'
    obtain ⟨dx, vs, ls, e, z, _⟩ := hS.tow.ses a s h1
    obtain ⟨l, ws, hv, g, rs⟩ := z.ls_at l1
    obtain ⟨dy, vs', ls', e', z', _⟩ := hS.tow.ses b r h2
    obtain ⟨l', ws', hv', g', rs'⟩ := z'.ls_at l2
    refine ⟨_, ev, a, _, dx, vs, _, rfl, e, by rw [c1]; exact cl, by rw [c1]; exact na, hv, _, ew, b, _, dy, vs', _, rfl, e', by rw [c2]; exact cl, by rw [c2]; exact na, hv', ?_⟩
    exact ⟨.list xs, .list ys, .lst (SqL.of g) (RpAll.dp _ _ (rs X.K)), .lst (SqL.of g') (RpAll.dp _ _ (rs' X.K)), s1, s2, q _ _ h _ H (.refl _ _) hS.tow ⟨.bl _, trivial⟩⟩
  · exact h.elim
end
/-! ## isinstance(x, Session) -/
/-- what isinstance asks of an own class -/
structure IsC (K : PySem.W.Frag) (C : Addr) : Prop where
  cl : Cls K C
  ha : PySem.W.findIn K (.ref C) "__class__" = some (some (.builtin "object.__class__"))
  hn : PySem.W.specialIn K (.builtin "object.__class__") "__get__" = some (some (.builtin "getset_descriptor.__get__"))
  ht : PySem.W.takesIn K (.builtin "object.__class__") = some true
  hm : PySem.W.mroIn K C (.type "object") = some true
  ty : PySem.W.typeIn K (.ref C) = some (.type "type")
  sb : PySem.W.subIn K (.ref C) (.ref C) = some true
theorem IsC.own {K : PySem.W.Frag} {C : Addr} (c : IsC K C) : PySem.W.kitOne K (.ref C) (.ref C) = some true := kit_own c.cl.hd c.ty c.sb c.sb
theorem IsC.non {K : PySem.W.Frag} {C : Addr} (c : IsC K C) {t : String} (h : PySem.W.subIn K (.type t) (.ref C) = some false) : PySem.W.kitOne K (.type t) (.ref C) = some false := by
  unfold PySem.W.kitOne
  rw [if_neg (by simp)]
  obtain ⟨cd, hc, _⟩ := PySem.W.any_some c.cl.hd
  have ok : ((PySem.W.clsIn K C).isSome && PySem.W.typeIn K (.ref C) == some (.type "type")) = true := by
    rw [hc, c.ty]
    rfl
  show (if ((PySem.W.clsIn K C).isSome && PySem.W.typeIn K (.ref C) == some (.type "type")) = true then PySem.W.subIn K (.type t) (.ref C) else none) = some false
  rw [if_pos ok]
  exact h
def dIsiO (C : Addr) (de : DE) : DE := fun S c k => de S c fun e c1 => match e with
  | .ses a => (∃ s, c1.2.2 a = some s ∧ s.cls = C) ∧ k (.im (.bool true)) c1
  | .im (.tuple _) => k (.im (.bool false)) c1
  | .im (.str _) => k (.im (.bool false)) c1
  | _ => False
theorem de_isiO {X : Cx} {e : Expr} {de : DE} {C : Addr} {y : Str} {p p2 pos : Pos} (c : IsC X.K C) (hg : Gl X "isinstance") (hm : X.mg "isinstance" = none) (hy : Gl X y) (hmy : X.mg y = some (.ref C)) (he : PE X e (LE X.K de)) (hd : (y == ("__debug__" : Str)) = false := by decide)
    (hs : starEach [e, .Name y p2] X.env = (false, eval e X.env) :: starEach [.Name y p2] X.env := by rfl) (hs2 : starEach [.Name y p2] X.env = (false, eval (.Name y p2) X.env) :: starEach [] X.env := by rfl) (hpl : (backTo pos (starEach [.Name y p2] X.env)).any (·.1) = false := by rfl) :
    PE X (.Call (.Name "isinstance" p) [e, .Name y p2] [] pos) (LE X.K (dIsiO C de)) := by
  refine PE.le (pe_callB call_isi hg hm (by decide +kernel) (pa_cons he (pa_cons (pe_glob (v := .ref C) hy hmy rfl hd) pa_nil hs2) hs) (by decide) (by decide) hs hpl) fun σ H Q h => ?_
  obtain ⟨T, n, S, c0, k, hS, h, q⟩ := h
  refine ⟨T, n, S, c0, _, hS, h, fun e1 c1 h1 v1 H1 f1 t1 r1 => ?_⟩
  split at h1
  · rename_i a
    have ev : v1 = .ref a := r1.rv
    subst ev
    obtain ⟨⟨s, hs, rfl⟩, h1⟩ := h1
    obtain ⟨dx, vs, ls, e, z, nd⟩ := t1.ses a s hs
    exact ⟨_, _, _, _, true, rfl, .own _, .base (.ins e c.cl c.ha c.hn c.ht c.hm), c.own, q _ _ h1 _ H1 f1 t1 ⟨.bl _, trivial⟩⟩
  · have rv : Rp X.K H1 v1 _ := r1.rv
    cases rv with
    | tup s r => exact ⟨_, _, _, _, false, rfl, .own _, .base (.tup s), c.non (by rfl), q _ _ h1 _ H1 f1 t1 ⟨.bl _, trivial⟩⟩
  · have rv : Rp X.K H1 v1 _ := r1.rv
    cases rv with
    | str => exact ⟨_, _, _, _, false, rfl, .own _, .base (.str _), c.non (by rfl), q _ _ h1 _ H1 f1 t1 ⟨.bl _, trivial⟩⟩
  · exact h1.elim
/-! ## an item of (session, datum), or of a tuple -/
def dIxA (i : Nat) (j : Int) : DE := fun S c k => match S[i]? with
  | some (some (.sp a d)) => (j = 0 ∧ k (.ses a) c) ∨ (j = 1 ∧ k (.im d) c)
  | some (some (.im (.tuple xs))) => ∃ d, atI xs j = some d ∧ k (.im d) c
  | _ => False
theorem de_ixA {X : Cx} {x : Str} {j : Int} {kk : Nat} {p p2 pos : Pos} (i : Nat) (hv : PE X (.Name x p) (tVar i)) : PE X (.Subscript (.Name x p) (.Constant (.int j) kk p2) pos) (LE X.K (dIxA i j)) := by
  refine PE.le (pe_ix ix_tup hv pe_int (fun _ _ => rfl)) fun σ H Q h => ?_
  obtain ⟨T, n, S, c, k, hS, h, q⟩ := h
  unfold dIxA at h
  split at h
  · rename_i a d ea
    obtain ⟨v, ev, pt, w, rfl, hp, rw_⟩ := hS.rep i _ ea
    rcases h with ⟨rfl, h⟩ | ⟨rfl, h⟩
    · exact ⟨_, ev, pt, _, 0, .ref a, rfl, rfl, .inl (.inl hp), atI_nat (j := 0) rfl, q _ _ h _ H (.refl _ _) hS.tow ⟨rfl, trivial⟩⟩
    · exact ⟨_, ev, pt, _, 1, w, rfl, rfl, .inl (.inl hp), atI_nat (j := 1) rfl, q _ _ h _ H (.refl _ _) hS.tow ⟨rw_, trivial⟩⟩
  · rename_i xs ea
    obtain ⟨v, ev, rv⟩ := hS.rep i _ ea
    obtain ⟨d, ha, h⟩ := h
    have rv : Rp X.K H v (.tuple xs) := rv
    cases rv with
    | tup s r =>
      obtain ⟨u, e3, r3⟩ := atI_rp r ha
      exact ⟨_, ev, _, _, j, u, rfl, rfl, .inl (.inl s), e3, q _ _ h _ H (.refl _ _) hS.tow ⟨r3, trivial⟩⟩
  · exact h.elim
/-! ## expressions that may raise -/
abbrev DEX := Sl → Cn → (En → Cn → Prop) → (Nat → Cn → Prop) → Prop
def LEX (K : PySem.W.Frag) (cl : Nat → Value) (E : XK) (dx : DEX) : TE := fun σ H Q => ∃ T n S c k ke, Hd K T n S c σ H ∧ dx S c k ke ∧
  (∀ e c', k e c' → ∀ v H', FrT T H H' → Tw T n c' H' → Rf K T H H' v e → Q v H') ∧ ∀ j c', ke j c' → ∀ H', FrT T H H' → Tw T n c' H' → E (cl j) none H'
def xOfE (de : DE) : DEX := fun S c k _ => de S c k
def xCallE (F : FTx) (da : DA) : DEX := fun S c k ke => da S c fun es c1 => F (es.map view) c1 k ke
def xMake (C : Addr) (F : FTx) (da : DA) : DEX := fun S c k ke => da S c fun es c1 => ∀ x, c1.2.2 x = none → F (.ses x :: es.map view) (c1.1, c1.2.1, putS c1.2.2 x ⟨C, []⟩) (fun e c2 => e = .im .none ∧ k (.ses x) c2) ke
def xMeth (C : Addr) (m : Str) (F : FTx) (de : DE) (da : DA) : DEX := fun S c k ke => de S c fun e c1 => match e with
  | .ses a => (∃ s, c1.2.2 a = some s ∧ s.cls = C ∧ s.fs.lookup m = none) ∧ da S c1 fun es c2 => F (.ses a :: es.map view) c2 k ke
  | _ => False
def xIfE (t : DT) (a b : DEX) : DEX := fun S c k ke => t S c fun z c1 => if z = true then a S c1 k ke else b S c1 k ke
def xRetX (dx : DEX) : DX := fun d S c => dx S c (retE { nx := d.nx, rt := d.rt }) d.ex
section
variable {X : Cx} {cl : Nat → Value} {E : XK} {e o a b : Expr} {es : List Expr} {de : DE} {da : DA} {F : FTx} {C f : Addr} {fd : FuncData} {ps : List Str} {k : Nat} {m x : Str} {p apos pos : Pos} {xa xb : DEX} {dt : DT}
theorem ex_of (h : PE X e (LE X.K de)) : PE X e (LEX X.K cl E (xOfE de)) := PE.le h fun σ H Q ⟨T, n, S, c, k, ke, hS, h, q, _⟩ => ⟨T, n, S, c, k, hS, h, q⟩
theorem ex_call (hp : PE X e (tCallS (spX X.K cl F) (fun _ => E) (LA X.K da))) : PE X e (LEX X.K cl E (xCallE F da)) := by
  refine PE.le hp fun σ H Q h => ?_
  obtain ⟨T, n, S, c, k, ke, hS, h, q, qe⟩ := h
  refine ⟨T, n, S, c, _, hS, h, fun es c1 h1 vs H1 f1 t1 r1 => ?_⟩
  exact ⟨T, n, c1, _, k, ke, t1, r1.view, h1, fun e c' hk v H' f2 t2 r2 => q e c' hk v H' (f1.trans f2) t2 (rf_trans (c' := c1) r2 f1 hS.tow), fun j c' hk H' f2 t2 => qe j c' hk H' (f1.trans f2) t2⟩
theorem ex_make (tk : Takes X (fun cls d _ H => E cls d H)) (M : Mk X.K C f) (G : FnOk X.prog X.w X.K X.mg X.base (L2.CX X.prog X.w) k f fd ps (spX X.K cl F)) (hr : Room (k + 1) X.A) (hg : Gl X x) (hm : X.mg x = some (.ref C)) (hb : Binds X.K fd ps []) (ha : PA X (e :: es) (LA X.K da)) (hdb : (x == ("__debug__" : Str)) = false := by decide)
    (he : starEach (e :: es) X.env = (false, eval e X.env) :: starEach es X.env := by rfl) (hpl : (backTo pos (starEach es X.env)).any (·.1) = false := by rfl) : PE X (.Call (.Name x p) (e :: es) [] pos) (LEX X.K cl E (xMake C F da)) := by
  refine PE.le (pe_make (E := E) M G hr hg hm hb .nil (fun pins σ H s e s' I c => passAt tk σ pins H s e s' I c) ha hdb he hpl) fun σ H Q h => ?_
  obtain ⟨T, n, S, c, k, ke, hS, h, q, qe⟩ := h
  refine ⟨T, n, S, c, _, hS, h, fun es c1 h1 us H1 f1 t1 r1 x dx hx hdx ne => ?_⟩
  rw [List.append_nil]
  obtain ⟨t2, f2, c0⟩ := ses_born (C := C) t1 hx hdx ne
  refine ⟨T, n, _, .ses x :: es.map view, _, ke, t2, .cons rfl (fun _ z => by cases z) (r1.view.mono f2 t1), h1 x c0, fun e c' hk v H' f3 t3 r3 => ?_, fun j c' hk H' f3 t3 => qe j c' hk H' (f1.trans (f2.trans f3)) t3⟩
  obtain ⟨rfl, hk⟩ := hk
  exact ⟨by have := r3.rv; cases this; rfl, q _ _ hk _ H' (f1.trans (f2.trans f3)) t3 ⟨rfl, trivial⟩⟩
theorem ex_meth {pl : Sem Bool} (tk : Takes X (fun cls d _ H => E cls d H)) (c : Cls X.K C) (hm : Meth X.K C m f) (G : FnOk X.prog X.w X.K X.mg X.base (L2.CX X.prog X.w) k f fd ps (spX X.K cl F)) (hr : Room k X.A) (hb : Binds X.K fd ps []) (ho : PE X o (LE X.K de)) (ha : PA X (e :: es) (LA X.K da))
    (hst : starEach (e :: es) X.env = (false, eval e X.env) :: starEach es X.env := by rfl) (hpl : (backTo pos (starEach es X.env)).any (·.1) = false := by rfl)
    (ht : eval (.Call (.Attribute o m apos) (e :: es) [] pos) X.env = (do
      let ov ← eval o X.env
      standAt apos.atName
      let (f, first) ← holding [ov] (getMethod ov m pl)
      callWith pos f first (backTo pos (starEach (e :: es) X.env)) (backToKw pos (keywordEach [] X.env))) := by rfl) : PE X (.Call (.Attribute o m apos) (e :: es) [] pos) (LEX X.K cl E (xMeth C m F de da)) := by
  refine PE.le (pe_meth (E := E) ho c hm G hr hb .nil (fun pins σ H s e s' I c => passAt tk σ pins H s e s' I c) ha hst hpl ht) fun σ H Q h => ?_
  obtain ⟨T, n, S, c, k, ke, hS, h, q, qe⟩ := h
  refine ⟨T, n, S, c, _, hS, h, fun e1 c1 h1 v1 H1 f1 t1 r1 => ?_⟩
  split at h1
  · rename_i a
    have ev : v1 = .ref a := r1.rv
    subst ev
    obtain ⟨⟨s, hs, rfl, hn⟩, h1⟩ := h1
    obtain ⟨dx, vs, ls, e, z, nd⟩ := t1.ses a s hs
    refine ⟨a, dx, vs, rfl, e, z.none hn, T, n, S, c1, _, hS.mono f1 t1, h1, fun es c2 h2 us H2 f2 t2 r2 => ?_⟩
    show spX X.K cl F (.ref a :: (us ++ [])) H2 Q E
    rw [List.append_nil]
    exact ⟨T, n, c2, .ses a :: es.map view, k, ke, t2, .cons rfl (fun _ z => by cases z) r2.view, h2, fun e c' hk v H' f3 t3 r3 => q e c' hk v H' (f1.trans (f2.trans f3)) t3 (rf_trans (c' := c2) r3 (f1.trans f2) hS.tow), fun j c' hk H' f3 t3 => qe j c' hk H' (f1.trans (f2.trans f3)) t3⟩
  · exact h1.elim
theorem ex_meth0 {pl : Sem Bool} (tk : Takes X (fun cls d _ H => E cls d H)) (c : Cls X.K C) (hm : Meth X.K C m f) (G : FnOk X.prog X.w X.K X.mg X.base (L2.CX X.prog X.w) k f fd ps (spX X.K cl F)) (hr : Room k X.A) (hb : Binds X.K fd ps []) (ho : PE X o (LE X.K de))
    (ht : eval (.Call (.Attribute o m apos) [] [] pos) X.env = (do
      let ov ← eval o X.env
      standAt apos.atName
      let (f, first) ← holding [ov] (getMethod ov m pl)
      callWith pos f first (backTo pos (starEach [] X.env)) (backToKw pos (keywordEach [] X.env))) := by rfl) : PE X (.Call (.Attribute o m apos) [] [] pos) (LEX X.K cl E (xMeth C m F de dNil)) := by
  refine PE.le (pe_meth0 (E := E) ho c hm G hr hb .nil (fun pins σ H s e s' I c => passAt tk σ pins H s e s' I c) ht) fun σ H Q h => ?_
  obtain ⟨T, n, S, c, k, ke, hS, h, q, qe⟩ := h
  refine ⟨T, n, S, c, _, hS, h, fun e1 c1 h1 v1 H1 f1 t1 r1 => ?_⟩
  split at h1
  · rename_i a
    have ev : v1 = .ref a := r1.rv
    subst ev
    obtain ⟨⟨s, hs, rfl, hn⟩, h1⟩ := h1
    obtain ⟨dx, vs, ls, e, z, nd⟩ := t1.ses a s hs
    refine ⟨a, dx, vs, rfl, e, z.none hn, ?_⟩
    show spX X.K cl F [.ref a] H1 Q E
    exact ⟨T, n, c1, [.ses a], k, ke, t1, .cons rfl (fun _ z => by cases z) .nil, h1, fun e c' hk v H' f3 t3 r3 => q e c' hk v H' (f1.trans f3) t3 (rf_trans (c' := c1) r3 f1 hS.tow), fun j c' hk H' f3 t3 => qe j c' hk H' (f1.trans f3) t3⟩
  · exact h1.elim
theorem ex_if {tst : Expr} (hc : PT X tst (LT X.K dt)) (ha : PE X a (LEX X.K cl E xa)) (hb : PE X b (LEX X.K cl E xb)) : PE X (.IfExp tst a b pos) (LEX X.K cl E (xIfE dt xa xb)) := by
  refine PE.le (pe_ifExp hc ha hb) fun σ H Q h => ?_
  obtain ⟨T, n, S, c, k, ke, hS, h, q, qe⟩ := h
  refine ⟨T, n, S, c, _, hS, h, fun z c1 h1 H1 f1 t1 => ?_⟩
  have g : ∀ {w : DEX}, w S c1 k ke → LEX X.K cl E w σ H1 Q := fun {w} h => ⟨T, n, S, c1, k, ke, hS.mono f1 t1, h, fun e2 c2 h2 v2 H2 f2 t2 r2 => q _ _ h2 v2 H2 (f1.trans f2) t2 (rf_trans (c' := c2) r2 f1 hS.tow), fun j c2 h2 H2 f2 t2 => qe j c2 h2 H2 (f1.trans f2) t2⟩
  cases z with
  | true => exact g h1
  | false => exact g h1
theorem xs_retX (hp : PE X e (LEX X.K cl E xa)) : PS X (.Return (some e) pos) (LX X.K cl E (xRetX xa)) := by
  refine PS.le (ps_ret hp) fun D σ H h => ?_
  obtain ⟨T, n, S, c, d, hS, h, h1, h2, h3⟩ := h
  refine ⟨T, n, S, c, _, _, hS, h, fun e c' k v H' f t r => ?_, fun j c' k H' f t => h3 j c' k H' (fr0_of f t) t⟩
  match e, k, r with
  | .im x, k, r => exact h2 _ _ k v H' (fr0_of f t) t r.rv
  | .own xs, k, r =>
    obtain ⟨a, vs, e1, n1, s1, q1⟩ := r.nw
    obtain ⟨a2, vs2, e2, n2, _, _⟩ := r.rv
    cases e1.symm.trans e2
    exact h2 _ _ k v H' (fr0_of f t) t ⟨a, vs, e1, n2, .inl n1, s1, q1⟩
  | .ro xs, k, _ => exact k.elim
  | .sc xs, k, _ => exact k.elim
  | .tw, k, _ => exact k.elim
  | .ses a, k, r => exact h2 _ _ k v H' (fr0_of f t) t r.rv
  | .sp _ _, k, _ => exact k.elim
end
end ND
namespace ND
open PySem PySem.Spec PyProof.Rows L2
/-! ## str(o) by an own __str__ -/
section
variable {X : Cx} {k : Nat} {f C : Addr} {fd : FuncData} {ps : List Str} {sp : Sp}
theorem call_strO (G : FnOk X.prog X.w X.K X.mg X.base CX0 k f fd ps sp) (hr : Room (k + 2) X.A) (M : Meth X.K C "__str__" f) (hb : Binds X.K fd ps []) :
    CallR X (.type "str") (fun xs H Q => ∃ a dx fs, xs = [.ref a] ∧ H a = some (.ins C dx fs) ∧ sp [.ref a] H (fun v H' => ∃ z : Str, v = .str z ∧ Q (.str z) H') E0) := by
  rintro pins s σ H _ us Q I r ⟨a, dx, fs, rfl, ha, h⟩
  obtain ⟨u, rfl, ru⟩ := vals1 r
  cases ru
  obtain ⟨_, J, _⟩ := ins_get I.hok ha
  obtain ⟨od, J, _⟩ := J.look
  have hu : X.A.in1.in1.units < cLine := hr.in1.in1.units0
  refine PySem.W.kso_call hu I.kIn J M.at_ M.fn (wpAny_mono (run_own (A := X.A.in1.in1) G hr.in1.in1 rfl hb I (vs := [.ref a]) (.cons rfl .nil) h) (fun v s' hv => ?_) fun _ _ z => z)
  obtain ⟨z, H', I', rz, y, rfl, q⟩ := hv
  obtain ⟨t, rfl⟩ := rz
  exact ⟨.str y, H', I', ⟨_, rfl⟩, q⟩
end
/-- str(session) -/
def dStrO (C : Addr) (F : FT) (de : DE) : DE := fun S c k => de S c fun e c1 => match e with
  | .ses a => (∃ s, c1.2.2 a = some s ∧ s.cls = C) ∧ F [.ses a] c1 fun r c2 => ∃ z : Str, r = .im (.str z) ∧ k (.im (.str z)) c2
  | _ => False
theorem de_strO {X : Cx} {k : Nat} {f C : Addr} {fd : FuncData} {ps : List Str} {F : FT} {e : Expr} {de : DE} {p pos : Pos} (G : FnOk X.prog X.w X.K X.mg X.base CX0 k f fd ps (spD X.K F)) (hr : Room (k + 2) X.A) (M : Meth X.K C "__str__" f) (hb : Binds X.K fd ps []) (hg : Gl X "str") (hm : X.mg "str" = none) (he : PE X e (LE X.K de))
    (hs : starEach [e] X.env = (false, eval e X.env) :: starEach [] X.env := by rfl) (hpl : (backTo pos (starEach [] X.env)).any (·.1) = false := by rfl) : PE X (.Call (.Name "str" p) [e] [] pos) (LE X.K (dStrO C F de)) := by
  refine PE.le (pe_callTy (call_strO G hr M hb) hg hm (by decide +kernel) (pa_cons he pa_nil hs) (by decide) (by decide) hs hpl) fun σ H Q h => ?_
  obtain ⟨T, n, S, c, k, hS, h, q⟩ := h
  refine ⟨T, n, S, c, _, hS, h, fun e1 c1 h1 v1 H1 f1 t1 r1 => ?_⟩
  split at h1
  · rename_i a
    have ev : v1 = .ref a := r1.rv
    subst ev
    obtain ⟨⟨s, hs, rfl⟩, h1⟩ := h1
    obtain ⟨dx, vs, ls, e, z, nd⟩ := t1.ses a s hs
    refine ⟨a, dx, vs, rfl, e, T, n, c1, [.ses a], _, t1, .cons rfl (fun _ z => by cases z) .nil, h1, fun e c' hk v H' f3 t3 r3 => ?_⟩
    obtain ⟨m, rfl, hk⟩ := hk
    have rv := r3.rv
    cases rv
    exact ⟨m, rfl, q _ _ hk _ H' (f1.trans f3) t3 ⟨.str _, trivial⟩⟩
  · exact h1.elim
/-! ## == and != by an own __eq__, whatever stands behind the sign -/
/-- an object of the class, a tuple, a text -/
def Oth (K : PySem.W.Frag) (C : Addr) (H : Hp) (y : V) : Prop := (∃ b dy gs, y = .ref b ∧ H b = some (.ins C dy gs)) ∨ (∃ b xs, y = .ref b ∧ H b = some (.tup xs)) ∨ ∃ z : Str, y = .str z
section
variable {X : Cx} {k : Nat} {f C : Addr} {fd : FuncData} {ps : List Str} {sp : Sp} {pins : List (Addr × Obj)} {σ : L2.St} {H : Hp} {s : Shared}
theorem oth_looks (I : Inv X pins σ H s) {y : V} {u : Value} (h : Oth X.K C H y) (r : RelV y u) : ∃ tb, PySem.W.Looks (model X.prog X.w) s.heap (typeOf u) tb ∧ PySem.W.notFirst X.K C tb = true := by
  rcases h with ⟨b, dy, gs, rfl, hb⟩ | ⟨b, xs, rfl, hb⟩ | ⟨z, rfl⟩
  · cases r
    obtain ⟨_, J, _⟩ := ins_get I.hok hb
    obtain ⟨od, J, _⟩ := J.look
    exact ⟨_, J.type, by simp [PySem.W.notFirst]⟩
  · cases r
    obtain ⟨its, _, ⟨o, e, hc, _⟩, _⟩ := I.tuple (a := b) (xs := xs) (.inl (.inl hb))
    refine ⟨.type "tuple", fun A Q E s' k q => wpAny_typeOf_ref (k _ _ e) (by rw [hc]; exact q), ?_⟩
    exact Bool.or_eq_true_iff.mpr (.inr (by rfl))
  · obtain ⟨t, rfl⟩ := r
    exact ⟨.type "str", .of_pure rfl, Bool.or_eq_true_iff.mpr (.inr (by rfl))⟩
theorem op_eqO2 (G : FnOk X.prog X.w X.K X.mg X.base CX0 k f fd ps sp) (hr : Room (k + 1) X.A) (M : EqC X.K C f) (hb : Binds X.K fd ps []) :
    OpR X (compareOp .Eq) (fun x y H Q => ∃ a dx fs, x = .ref a ∧ H a = some (.ins C dx fs) ∧ Oth X.K C H y ∧ sp [.ref a, y] H (fun v H' => ∃ r, v = .bl r ∧ Q (.bl (id r)) H') E0) := by
  rintro pins s σ H _ y v u Q I rx ry ⟨a, dx, fs, rfl, ha, ho, h⟩
  cases rx
  obtain ⟨_, J, _⟩ := ins_get I.hok ha
  obtain ⟨od, J, _⟩ := J.look
  obtain ⟨tb, lk, nf⟩ := oth_looks I ho ry
  obtain ⟨m, hF⟩ := I.fr
  show wpAny (model X.prog X.w) X.A (richCompare .Eq (.ref a) u) (EP X pins σ Q) X.xe s
  refine PySem.W.cmp_K (op := .Eq) hr.units0 hF I.ok.mod.kin J lk nf M.eq M.fn (wpAny_mono (run_own (A := X.A) G (hr.mono (Nat.le_succ _)) rfl hb I (vs := [.ref a, y]) (.cons rfl (.cons ry .nil)) h) (fun v s' hv => ?_) fun _ _ z => z)
  obtain ⟨z, H', I', rz, r, rfl, q⟩ := hv
  cases rz
  exact ⟨.bl r, H', I', rfl, q⟩
theorem op_neO2 (G : FnOk X.prog X.w X.K X.mg X.base CX0 k f fd ps sp) (hr : Room (k + 1) X.A) (M : EqC X.K C f) (hb : Binds X.K fd ps []) :
    OpR X (compareOp .NotEq) (fun x y H Q => ∃ a dx fs, x = .ref a ∧ H a = some (.ins C dx fs) ∧ Oth X.K C H y ∧ sp [.ref a, y] H (fun v H' => ∃ r, v = .bl r ∧ Q (.bl (!r)) H') E0) := by
  rintro pins s σ H _ y v u Q I rx ry ⟨a, dx, fs, rfl, ha, ho, h⟩
  cases rx
  obtain ⟨_, J, _⟩ := ins_get I.hok ha
  obtain ⟨od, J, _⟩ := J.look
  obtain ⟨tb, lk, nf⟩ := oth_looks I ho ry
  have hu : X.A.units + 1 < cLine := by have := hr.units; omega
  show wpAny (model X.prog X.w) X.A (richCompare .NotEq (.ref a) u) (EP X pins σ Q) X.xe s
  refine ne_own hu I.kIn J lk nf M.ne M.mo M.eq M.fn (wpAny_mono (run_own (A := X.A.in1) G hr.in1 rfl hb I (vs := [.ref a, y]) (.cons rfl (.cons ry .nil)) h) (fun v s' hv => ?_) fun _ _ z => z)
  obtain ⟨z, H', I', rz, r, rfl, q⟩ := hv
  cases rz
  exact ⟨r, rfl, .bl (!r), H', I', rfl, q⟩
end
/-- session == x (f: id), session != x (f: not) -/
def dCmpO (C : Addr) (F : FT) (f : Bool → Bool) (da db : DE) : DE := fun S c k => da S c fun x c1 => db S c1 fun y c2 => match x with
  | .ses a => (∃ s, c2.2.2 a = some s ∧ s.cls = C) ∧ (match y with
    | .ses b => ∃ s, c2.2.2 b = some s ∧ s.cls = C
    | .im (.tuple _) => True
    | .im (.str _) => True
    | _ => False) ∧ F [.ses a, y] c2 fun r c3 => ∃ z, r = .im (.bool z) ∧ k (.im (.bool (f z))) c3
  | _ => False
section
variable {X : Cx} {k : Nat} {f C : Addr} {fd : FuncData} {ps : List Str} {F : FT} {a b : Expr} {da db : DE} {pos : Pos} {g : Bool → Bool}
theorem cmpO_le {σ : SS} {H : Hp} {Q : VK} (h : LE X.K (dCmpO C F g da db) σ H Q) :
    tOp (fun x y H Q => ∃ a dx fs, x = .ref a ∧ H a = some (.ins C dx fs) ∧ Oth X.K C H y ∧ spD X.K F [.ref a, y] H (fun v H' => ∃ r, v = .bl r ∧ Q (.bl (g r)) H') E0) (LE X.K da) (LE X.K db) σ H Q := by
  obtain ⟨T, n, S, c, k, hS, h, q⟩ := h
  refine ⟨T, n, S, c, _, hS, h, fun e1 c1 h1 v1 H1 f1 t1 r1 => ?_⟩
  refine ⟨T, n, S, c1, _, hS.mono f1 t1, h1, fun e2 c2 h2 v2 H2 f2 t2 r2 => ?_⟩
  split at h2
  · rename_i a
    have ea : v1 = .ref a := r1.rv
    subst ea
    obtain ⟨⟨s1, g1, rfl⟩, hy, h2⟩ := h2
    obtain ⟨dx, vs, ls, o1, _, _⟩ := t2.ses a s1 g1
    have ho : Oth X.K s1.cls H2 v2 := by
      split at hy
      · rename_i b
        have eb : v2 = .ref b := r2.rv
        subst eb
        obtain ⟨s2, g2, e2⟩ := hy
        obtain ⟨dy, us, ms, o2, _, _⟩ := t2.ses b s2 g2
        rw [e2] at o2
        exact .inl ⟨b, dy, us, rfl, o2⟩
      · have rv : Rp X.K H2 v2 _ := r2.rv
        cases rv with
        | tup s r => exact .inr (.inl ⟨_, _, rfl, s⟩)
      · have rv : Rp X.K H2 v2 _ := r2.rv
        cases rv with
        | str z => exact .inr (.inr ⟨_, rfl⟩)
      · exact hy.elim
    have ni : ∀ xs, e2 ≠ .own xs := fun xs z => by
      subst z
      exact hy
    refine ⟨a, dx, vs, rfl, o1, ho, T, n, c2, [.ses a, e2], _, t2, .cons rfl (fun _ z => by cases z) (.cons r2.rv ni .nil), h2, fun e c' hk v H' f3 t3 r3 => ?_⟩
    obtain ⟨z, rfl, hk⟩ := hk
    have rv := r3.rv
    cases rv
    exact ⟨z, rfl, q _ _ hk _ H' (f1.trans (f2.trans f3)) t3 ⟨.bl _, trivial⟩⟩
  · exact h2.elim
theorem de_ceqO (G : FnOk X.prog X.w X.K X.mg X.base CX0 k f fd ps (spD X.K F)) (hr : Room (k + 1) X.A) (M : EqC X.K C f) (hb : Binds X.K fd ps []) (ha : PE X a (LE X.K da)) (hb' : PE X b (LE X.K db)) (hm : behindInMarks .Eq b = false) : PE X (.Compare a [.Eq] [b] pos) (LE X.K (dCmpO C F id da db)) :=
  PE.le (pe_cmpR (op_eqO2 G hr M hb) ha hb' hm) fun _ _ _ h => cmpO_le (g := id) h
theorem de_cneO (G : FnOk X.prog X.w X.K X.mg X.base CX0 k f fd ps (spD X.K F)) (hr : Room (k + 1) X.A) (M : EqC X.K C f) (hb : Binds X.K fd ps []) (ha : PE X a (LE X.K da)) (hb' : PE X b (LE X.K db)) (hm : behindInMarks .NotEq b = false) : PE X (.Compare a [.NotEq] [b] pos) (LE X.K (dCmpO C F not da db)) :=
  PE.le (pe_cmpR (op_neO2 G hr M hb) ha hb' hm) fun _ _ _ h => cmpO_le (g := not) h
theorem dt_ceqO (G : FnOk X.prog X.w X.K X.mg X.base CX0 k f fd ps (spD X.K F)) (hr : Room (k + 1) X.A) (M : EqC X.K C f) (hb : Binds X.K fd ps []) (ha : PE X a (LE X.K da)) (hb' : PE X b (LE X.K db)) (hm : behindInMarks .Eq b = false) : PT X (.Compare a [.Eq] [b] pos) (LT X.K (dTest (dCmpO C F id da db))) := by
  refine PT.le (pt_cmpR (op_eqO2 G hr M hb) ha hb' hm) fun σ H Q h => ?_
  obtain ⟨T, n, S, c, k, hS, h, q⟩ := h
  refine cmpO_le (da := da) (db := db) (g := id) ⟨T, n, S, c, _, hS, h, fun e1 c1 h1 v1 H1 f1 t1 r1 => ?_⟩
  split at h1
  · cases r1.rv
    exact ⟨_, rfl, q _ _ h1 H1 f1 t1⟩
  · exact h1.elim
theorem dt_cneO (G : FnOk X.prog X.w X.K X.mg X.base CX0 k f fd ps (spD X.K F)) (hr : Room (k + 1) X.A) (M : EqC X.K C f) (hb : Binds X.K fd ps []) (ha : PE X a (LE X.K da)) (hb' : PE X b (LE X.K db)) (hm : behindInMarks .NotEq b = false) : PT X (.Compare a [.NotEq] [b] pos) (LT X.K (dTest (dCmpO C F not da db))) := by
  refine PT.le (pt_cmpR (op_neO2 G hr M hb) ha hb' hm) fun σ H Q h => ?_
  obtain ⟨T, n, S, c, k, hS, h, q⟩ := h
  refine cmpO_le (da := da) (db := db) (g := not) ⟨T, n, S, c, _, hS, h, fun e1 c1 h1 v1 H1 f1 t1 r1 => ?_⟩
  split at h1
  · cases r1.rv
    exact ⟨_, rfl, q _ _ h1 H1 f1 t1⟩
  · exact h1.elim
end
/-! ## a list's second name, for one expression -/
theorem Hd.hid {K : PySem.W.Frag} {T : Option Addr} {n : Nat} {c : Cn} {S : Sl} {σ : SS} {H : Hp} (hS : Hd K T n S c σ H) (i : Nat) (x : Option V) : Hd K T n (S.set i none) c (σ.set i x) H where
  len := by rw [List.length_set, List.length_set, hS.len]
  rep := fun j e h => by
    rcases get_set h with ⟨_, q⟩ | ⟨hn, q⟩
    · cases q
    · obtain ⟨v, e1, r⟩ := hS.rep j e q
      exact ⟨v, by rw [List.getElem?_set_ne (Ne.symm hn)]; exact e1, r⟩
  tru := fun j xs h => by
    rcases get_set h with ⟨_, q⟩ | ⟨hn, q⟩
    · cases q
    · obtain ⟨a, vs, e1, r⟩ := hS.tru j xs q
      exact ⟨a, vs, by rw [List.getElem?_set_ne (Ne.symm hn)]; exact e1, r⟩
  dis := fun j l xs a e hjl h1 h2 h3 h4 h5 => by
    rcases get_set h1 with ⟨_, q⟩ | ⟨n1, q1⟩
    · cases q
    rcases get_set h3 with ⟨_, q⟩ | ⟨n3, q3⟩
    · cases q
    rw [List.getElem?_set_ne (Ne.symm n1)] at h2
    rw [List.getElem?_set_ne (Ne.symm n3)] at h5
    exact hS.dis j l xs a e hjl q1 h2 q3 h4 h5
  tow := hS.tow
theorem Hd.alias {K : PySem.W.Frag} {T : Option Addr} {n : Nat} {c : Cn} {S : Sl} {σ : SS} {H : Hp} (hS : Hd K T n S c σ H) {i l : Nat} {xs : List PyData} {p : Addr} (hl : S[l]? = some (some (.own xs))) (hp : σ[l]? = some (some (.ref p))) (il : i ≠ l) :
    Hd K T n ((S.set l (some (.ro xs))).set i (some (.ro xs))) c (σ.set i (some (.ref p))) H := by
  obtain ⟨v, e1, rv⟩ := hS.rep l _ hl
  rw [hp] at e1
  cases e1
  have rv' : Rv K T H (.ref p) (.ro xs) := rv
  have ow : ∀ {j : Nat} {ys : List PyData}, ((S.set l (some (.ro xs))).set i (some (.ro xs)))[j]? = some (some (.own ys)) → j ≠ i ∧ j ≠ l ∧ S[j]? = some (some (.own ys)) := fun {j ys} h => by
    rcases get_set h with ⟨_, q⟩ | ⟨n1, q⟩
    · cases q
    rcases get_set q with ⟨_, q⟩ | ⟨n2, q⟩
    · cases q
    exact ⟨n1, n2, q⟩
  refine { len := by rw [List.length_set, List.length_set, List.length_set, hS.len], rep := fun j e h => ?_, tru := fun j ys h => ?_, dis := fun j m ys a e hjm h1 h2 h3 h4 h5 => ?_, tow := hS.tow }
  · rcases get_set h with ⟨rfl, q⟩ | ⟨n1, q⟩
    · cases Option.some.inj q
      have hj : j < σ.length := by
        have := (List.getElem?_eq_some_iff.mp h).1
        rw [List.length_set, List.length_set, hS.len] at this
        exact this
      exact ⟨.ref p, by rw [List.getElem?_set_self hj], rv'⟩
    · rcases get_set q with ⟨rfl, q2⟩ | ⟨n2, q⟩
      · cases Option.some.inj q2
        exact ⟨.ref p, by rw [List.getElem?_set_ne (Ne.symm n1)]; exact hp, rv'⟩
      · obtain ⟨w, e2, r⟩ := hS.rep j e q
        exact ⟨w, by rw [List.getElem?_set_ne (Ne.symm n1)]; exact e2, r⟩
  · obtain ⟨n1, n2, q⟩ := ow h
    obtain ⟨a, vs, e2, r⟩ := hS.tru j ys q
    exact ⟨a, vs, by rw [List.getElem?_set_ne (Ne.symm n1)]; exact e2, r⟩
  · obtain ⟨n1, n2, q⟩ := ow h1
    rw [List.getElem?_set_ne (Ne.symm n1)] at h2
    have far := hS.dis j l ys a _ n2 q h2 hl rfl
    rcases get_set h3 with ⟨rfl, q3⟩ | ⟨n3, q3⟩
    · rcases get_set h5 with ⟨_, q5⟩ | ⟨n5, _⟩
      · cases Option.some.inj q5
        exact far hp
      · exact n5 rfl
    · rw [List.getElem?_set_ne (Ne.symm n3)] at h5
      rcases get_set q3 with ⟨rfl, _⟩ | ⟨n4, q4⟩
      · exact far h5
      · exact hS.dis j m ys a e hjm q h2 q4 h4 h5
/-- i = a if t else b, two lists' names; j = an expression over them; then i is no name of theirs any more -/
def dAl (i j a b : Nat) (dt : DT) (de : DE) (rest : DS) : DS := fun D S c => dt S c fun z c1 => match S[if z = true then a else b]? with
  | some (some (.own xs)) => de ((S.set (if z = true then a else b) (some (.ro xs))).set i (some (.ro xs))) c1 fun e c2 => match e with
    | .im d => rest D ((S.set i none).set j (some (.im d))) c2
    | _ => False
  | _ => False
theorem dss_al {X : Cx} {st1 st2 : Stmt} {rest : List Stmt} {i j a b : Nat} {dt : DT} {de : DE} {u : DS} (ia : i ≠ a) (ib : i ≠ b) (h1 : PS X st1 (tAsg (tIf (LT X.K dt) (tVar a) (tVar b)) (gName i))) (h2 : PS X st2 (tAsg (LE X.K de) (gName j))) (hr : PSs X rest (LS X.K u)) :
    PSs X (st1 :: st2 :: rest) (LS X.K (dAl i j a b dt de u)) := by
  refine PSs.le (pss_cons h1 (pss_cons h2 hr)) fun D σ H h => ?_
  obtain ⟨T, n, S, c, d, hS, h, g1, g2, g3, g4⟩ := h
  refine ⟨T, n, S, c, _, hS, h, fun z c1 k1 H1 f1 t1 => ?_⟩
  have hS1 := hS.mono f1 t1
  have il : i ≠ (if z = true then a else b) := by split <;> assumption
  have key : ∀ {l : Nat} {xs : List PyData}, i ≠ l → S[l]? = some (some (.own xs)) → de ((S.set l (some (.ro xs))).set i (some (.ro xs))) c1 (fun e c2 => match e with
      | .im d' => u d ((S.set i none).set j (some (.im d'))) c2
      | _ => False) → tVar l σ H1 fun x H2 => gName i x σ H2 fun σ3 H3 => tAsg (LE X.K de) (gName j) { D with nx := LS X.K u D } σ3 H3 := fun {l xs} il hl k => by
    obtain ⟨p, vs, ep, _, _⟩ := hS1.tru l _ hl
    refine ⟨.ref p, ep, ?_⟩
    show LE X.K de (σ.set i (some (.ref p))) H1 _
    refine ⟨T, n, _, c1, _, hS1.alias hl ep il, k, fun e c2 k2 v H2 f2 t2 r2 => ?_⟩
    split at k2
    · rename_i d'
      obtain ⟨hS3, o3⟩ := ((hS1.mono f2 t2).hid i (some (.ref p))).im j r2.rv
      have fs : Fs T S σ H ((S.set i none).set j (some (.im d'))) ((σ.set i (some (.ref p))).set j (some v)) H2 := by
        refine ⟨fr0_of (f1.trans f2) t2, fun q hq => ?_⟩
        obtain ⟨m, ys, q1, q2⟩ := o3 q hq
        rcases get_set q1 with ⟨_, z⟩ | ⟨n1, z⟩
        · cases z
        · rw [List.getElem?_set_ne (Ne.symm n1)] at q2
          exact .inl ⟨m, ys, z, q2⟩
      exact ⟨T, n, _, c2, d, hS3, k2, fun S4 c4 q4 σ4 H4 f4 hd4 => g1 _ _ q4 σ4 H4 (fs.trans f4) hd4, fun e c4 q4 v4 H4 f4 t4 r4 => g2 _ _ q4 v4 H4 (fs.trans0 f4) t4 (r4.trans fs),
        fun S4 c4 q4 σ4 H4 f4 hd4 => g3 _ _ q4 σ4 H4 (fs.trans f4) hd4, fun S4 c4 q4 σ4 H4 f4 hd4 => g4 _ _ q4 σ4 H4 (fs.trans f4) hd4⟩
    · exact k2.elim
  split at k1
  · rename_i xs hl
    cases z with
    | true => exact key ia hl k1
    | false => exact key ib hl k1
  · exact k1.elim
/-! ## lists of one's own: pop -/
/-- a, b, .. = i.pop() -/
def dUnpop (i : Nat) (g : DG) : DS := fun D S c => match S[i]? with
  | some (some (.own ys)) => ∃ xs d, ys = xs ++ [d] ∧ g d (S.set i (some (.own xs))) fun S' => D.nx S' c
  | _ => False
theorem snocR {K : PySem.W.Frag} {H : Hp} : ∀ {ds : List PyData} {d : PyData} {vs : List V}, RpAll K H vs (ds ++ [d]) → ∃ us u, vs = us ++ [u] ∧ RpAll K H us ds ∧ Rp K H u d
  | [], d, vs, h => by
    cases h with
    | cons r rs => cases rs; exact ⟨[], _, rfl, .nil, r⟩
  | e :: ds, d, vs, h => by
    cases h with
    | cons r rs =>
      obtain ⟨us, u, rfl, r1, r2⟩ := snocR rs
      exact ⟨_ :: us, u, rfl, .cons r r1, r2⟩
theorem lastV {α : Type} (us : List α) (u : α) : (us ++ [u])[(us ++ [u]).length - 1]? = some u := by simp
theorem ds_unpop {X : Cx} {st : Stmt} {i : Nat} {g : DG} {sl : List Nat} (hp : PS X st (tAsg (tBM0 X.K "list" rPop (tVar i)) (LG X.K sl g))) : PS X st (LS X.K (dUnpop i g)) := by
  refine PS.le hp fun D σ H h => ?_
  obtain ⟨T, n, S, c, d, hS, h, h1, _⟩ := h
  unfold dUnpop at h
  split at h
  · rename_i ys hi
    obtain ⟨xs, x, rfl, h⟩ := h
    obtain ⟨a, vs, e1, e2, r⟩ := hS.tru i _ hi
    obtain ⟨us, u, rfl, r1, r2⟩ := snocR r
    obtain ⟨p, q⟩ := hS.grow hi e1 r1
    refine ⟨.ref a, e1, .inl ⟨rfl, _, .inl (.inl e2)⟩, a, _, u, rfl, rfl, e2, lastV _ _, ?_⟩
    rw [List.dropLast_concat]
    have ke : Rp X.K (upd H a (.lst us)) u x := Rp.ke (fun b o hb => by
      by_cases z : b = a
      · subst z; rw [e2] at hb; cases hb; exact .inl (.lst _)
      · exact .inr (by rw [upd_ne z]; exact hb)) _ _ r2
    exact ⟨T, n, _, c, x, _, p, ke, h, fun S1 k1 σ1 hd1 o1 _ => h1 _ _ k1 σ1 _ (q.trans ⟨.refl _ _ _ _, fun b z => .inl (o1 b z)⟩) hd1⟩
  · exact h.elim
/-- u.append(i.pop() + (j.pop(),)) -/
def dMove (u i j : Nat) : DS := fun D S c => match S[u]?, S[i]?, S[j]? with
  | some (some (.own us)), some (some (.own ys)), some (some (.own zs)) => ∃ xs a b ps p, ys = xs ++ [.tuple [a, b]] ∧ zs = ps ++ [p] ∧ us.length < 100000 ∧ D.nx (((S.set i (some (.own xs))).set j (some (.own ps))).set u (some (.own (us ++ [.tuple [a, b, p]])))) c
  | _, _, _ => False
theorem ds_move {X : Cx} {st : Stmt} {u i j : Nat} (ui : u ≠ i) (uj : u ≠ j) (ij : i ≠ j) (hp : PS X st (tDrop (tBM X.K "list" rAppend (tVar u) (tCons (tOp (rCatA X.K) (tBM0 X.K "list" rPop (tVar i)) (tTup (tCons (tBM0 X.K "list" rPop (tVar j)) tNil))) tNil)))) : PS X st (LS X.K (dMove u i j)) := by
  refine PS.le hp fun D σ H h => ?_
  obtain ⟨T, n, S, c, d, hS, h, h1, _⟩ := h
  unfold dMove at h
  split at h
  · rename_i us ys zs hu hi hj
    obtain ⟨xs, x, y, ps, p, rfl, rfl, lu, h⟩ := h
    have nl := sizeLine_eq
    obtain ⟨au, vu, eu, ou, ru⟩ := hS.tru u _ hu
    obtain ⟨ai, vi, ei, oi, ri⟩ := hS.tru i _ hi
    obtain ⟨wi, w, rfl, r1, r2⟩ := snocR ri
    refine ⟨.ref au, eu, .inl ⟨rfl, _, .inl (.inl ou)⟩, .ref ai, ei, .inl ⟨rfl, _, .inl (.inl oi)⟩, ai, _, w, rfl, rfl, oi, lastV _ _, ?_⟩
    rw [List.dropLast_concat]
    obtain ⟨p1, q1⟩ := hS.grow hi ei r1
    have ke1 : Ke H (upd H ai (.lst wi)) := fun b o hb => by
      by_cases z : b = ai
      · subst z; rw [oi] at hb; cases hb; exact .inl (.lst _)
      · exact .inr (by rw [upd_ne z]; exact hb)
    have r2' := Rp.ke ke1 _ _ r2
    generalize upd H ai (.lst wi) = H1 at p1 q1 r2'
    have hj1 : (S.set i (some (.own xs)))[j]? = some (some (.own (ps ++ [p]))) := by rw [List.getElem?_set_ne ij]; exact hj
    obtain ⟨aj, vj, ej, oj, rj⟩ := p1.tru j _ hj1
    obtain ⟨wj, w', rfl, r3, r4⟩ := snocR rj
    refine ⟨.ref aj, ej, .inl ⟨rfl, _, .inl (.inl oj)⟩, aj, _, w', rfl, rfl, oj, lastV _ _, ?_⟩
    rw [List.dropLast_concat]
    obtain ⟨p2, q2⟩ := p1.grow hj1 ej r3
    have ke2 : Ke H1 (upd H1 aj (.lst wj)) := fun b o hb => by
      by_cases z : b = aj
      · subst z; rw [oj] at hb; cases hb; exact .inl (.lst _)
      · exact .inr (by rw [upd_ne z]; exact hb)
    have r2'' := Rp.ke ke2 _ _ r2'
    have r4' := Rp.ke ke2 _ _ r4
    generalize upd H1 aj (.lst wj) = H2 at p2 q2 r2'' r4'
    refine ⟨by show 1 ≤ sizeLine; omega, fun pt hpt => ?_⟩
    have s3 := same_upd (o := HO.tup [w']) hpt
    have p3 := p2.mono (frT_same s3) (tw_same p2.tow s3)
    have q3 := (q1.trans q2).trans (fs_of (frT_same s3) (tw_same p2.tow s3))
    have r2a := Rp.ke (fun b o hb => .inr (s3.sm b o hb)) _ _ r2''
    have r4a := Rp.ke (fun b o hb => .inr (s3.sm b o hb)) _ _ r4'
    have ot : upd H2 pt (.tup [w']) pt = some (.tup [w']) := upd_same
    generalize upd H2 pt (.tup [w']) = H3 at p3 q3 r2a r4a ot
    cases r2a with
    | @tup at' ts _ ht rts =>
    cases rts with
    | @cons v1 _ _ _ ra rts =>
    cases rts with
    | @cons v2 _ _ _ rb rts =>
    cases rts
    refine ⟨at', pt, [v1, v2], [w'], rfl, rfl, .inl (.inl ht), .inl (.inl ot), (by show 3 ≤ sizeLine; omega), (fun z => nomatch z), (fun _ z => nomatch z), fun _ _ pn hpn => ?_⟩
    have s4 := same_upd (o := HO.tup ([v1, v2] ++ [w'])) hpn
    have p4 := p3.mono (frT_same s4) (tw_same p3.tow s4)
    have q4 := q3.trans (fs_of (frT_same s4) (tw_same p3.tow s4))
    have rt : Rp X.K (upd H3 pn (.tup ([v1, v2] ++ [w']))) (.ref pn) (.tuple [x, y, p]) := rp_tup hpn (.cons ra (.cons rb (.cons r4a .nil)))
    generalize upd H3 pn (.tup ([v1, v2] ++ [w'])) = H4 at p4 q4 rt ⊢
    have hu4 : ((S.set i (some (.own xs))).set j (some (.own ps)))[u]? = some (some (.own us)) := by
      rw [List.getElem?_set_ne (Ne.symm uj), List.getElem?_set_ne (Ne.symm ui)]
      exact hu
    obtain ⟨a2, vs2, e4, o4, r4⟩ := p4.tru u _ hu4
    rw [eu] at e4
    cases e4
    obtain ⟨p5, q5⟩ := p4.grow hu4 eu (r4.append (.cons rt .nil))
    exact ⟨au, vs2, _, rfl, rfl, o4, by rw [r4.len]; exact sz_lt lu, h1 _ _ h σ _ (q4.trans q5) p5⟩
  · exact h.elim
/-- i, j, l = [e], [], [] -/
def dThree (i j l : Nat) (de : DE) : DS := fun D S c => de S c fun e c1 => match e with
  | .im d => D.nx (((S.set i (some (.own [d]))).set j (some (.own []))).set l (some (.own []))) c1
  | _ => False
theorem ds_three {X : Cx} {st : Stmt} {i j l : Nat} {de : DE} (hp : PS X st (tPar3 i j l (tCons (tLst (tCons (LE X.K de) tNil)) (tCons (tLst tNil) (tCons (tLst tNil) tNil))))) : PS X st (LS X.K (dThree i j l de)) := by
  refine PS.le hp fun D σ H h => ?_
  obtain ⟨T, n, S, c, d, hS, h, h1, _⟩ := h
  refine ⟨T, n, S, c, _, hS, h, fun e c1 k1 v H1 f1 t1 r1 => ?_⟩
  split at k1
  · rename_i x
    have nl := sizeLine_eq
    refine ⟨by show 1 ≤ sizeLine; omega, fun p1 hp1 => ⟨Nat.zero_le _, fun p2 hp2 => ⟨Nat.zero_le _, fun p3 hp3 => ⟨_, _, _, rfl, ?_⟩⟩⟩⟩
    have hS1 := hS.mono f1 t1
    have s1 := same_upd (o := HO.lst [v]) hp1
    obtain ⟨a1, b1⟩ := set_ok hS1 i (frT_same s1) (tw_same t1 s1) (rf_own (ds := [x]) hp1 (.cons r1.rv .nil) t1) (fun _ z => by cases z) (fun z => by cases z)
    have s2 := same_upd (o := HO.lst []) hp2
    obtain ⟨a2, b2⟩ := set_ok a1 j (frT_same s2) (tw_same a1.tow s2) (rf_own (ds := []) hp2 .nil a1.tow) (fun _ z => by cases z) (fun z => by cases z)
    have s3 := same_upd (o := HO.lst []) hp3
    obtain ⟨a3, b3⟩ := set_ok a2 l (frT_same s3) (tw_same a2.tow s3) (rf_own (ds := []) hp3 .nil a2.tow) (fun _ z => by cases z) (fun z => by cases z)
    exact h1 _ _ k1 _ _ ((((fs_of f1 t1).trans b1).trans b2).trans b3) a3
  · exact k1.elim
end ND
namespace ND
open PySem PySem.Spec L2
/-! ## walks told by their operations -/
inductive Op where
  | up
  | down
  | ch (i : Nat)
def Op.nm : Op → Str
  | .up => "up"
  | .down => "down"
  | .ch _ => "choose"
def Op.no : Op → Int
  | .up => 0
  | .down => 0
  | .ch i => (i : Nat)
def Op.dat (o : Op) : PyData := .tuple [.str o.nm, .int o.no]
def Op.ok (hs : List (Int × Int)) : Op → Prop
  | .ch i => i < hs.length
  | _ => True
def Op.go (d : Int) (hs : List (Int × Int)) : Op → Int × Int → Int × Int
  | .up, p => mulP d p (un d)
  | .down, p => mulP d p (opp (un d))
  | .ch i, _ => hs.getD i (1, 0)
theorem Op.nm_in (o : Op) : o.nm ∈ (["up", "down", "choose"] : List Str) := by cases o <;> simp [Op.nm]
theorem Op.nm_lay (o : Op) : (PyData.str o.nm).canLay0 = true := by
  cases o with
  | up => decide +kernel
  | down => decide +kernel
  | ch i =>
    show (PyData.str ("choose" : Str)).canLay0 = true
    decide +kernel
theorem Op.nice (o : Op) : Nice 1 o.dat := nice_two (nice_str 0 o.nm_lay) (nice_int 0 _)
theorem Op.shp_nm (o : Op) : Shp (.str o.nm) := shp_str o.nm_lay
/-- where a walk stands -/
def posn (d : Int) (hs : List (Int × Int)) (p : Int × Int) : List Op → Int × Int
  | [] => p
  | o :: L => posn d hs (o.go d hs p) L
theorem posn_snoc (d : Int) (hs : List (Int × Int)) (o : Op) : ∀ (L : List Op) (p : Int × Int), posn d hs p (L ++ [o]) = o.go d hs (posn d hs p L)
  | [], p => rfl
  | x :: L, p => posn_snoc d hs o L _
theorem app2 {α : Type} {a b c d : List α} (h1 : a = b) (h2 : c = d) : a ++ c = b ++ d := by rw [h1, h2]
theorem takeS {α : Type} {L : List α} {k : Nat} {o : α} (h : L[k]? = some o) : L.take (k + 1) = L.take k ++ [o] := by
  rw [List.take_add_one, h]
  rfl
theorem posn_ok {d n : Int} (hd : rootD d = true) (hn : norOk n = true) : ∀ (L : List Op) (p : Int × Int) (m : Nat), (∀ o ∈ L, o.ok (hds d n)) → nrm d p = n → 13 ≤ m → Bd m p.1 → Bd m p.2 →
    nrm d (posn d (hds d n) p L) = n ∧ Bd (m + 24 * L.length) (posn d (hds d n) p L).1 ∧ Bd (m + 24 * L.length) (posn d (hds d n) p L).2
  | [], p, m, _, hp, _, b1, b2 => ⟨hp, b1, b2⟩
  | o :: L, p, m, ho, hp, hm, b1, b2 => by
    have hu := un_bd' hd
    have h6 := rootD_bd hd
    have key : nrm d (o.go d (hds d n) p) = n ∧ Bd (m + 24) (o.go d (hds d n) p).1 ∧ Bd (m + 24) (o.go d (hds d n) p).2 := by
      cases o with
      | up =>
        obtain ⟨c1, c2⟩ := Bd.mulP (q := un d) h6 b1 b2 hu.1 hu.2
        refine ⟨?_, c1.mono (by omega), c2.mono (by omega)⟩
        show nrm d (mulP d p (un d)) = n
        rw [nrm_mul, un_nrm hd, Int.mul_one, hp]
      | down =>
        obtain ⟨c1, c2⟩ := Bd.mulP (q := opp (un d)) h6 b1 b2 hu.1 hu.2.neg
        refine ⟨?_, c1.mono (by omega), c2.mono (by omega)⟩
        show nrm d (mulP d p (opp (un d))) = n
        have e : nrm d (opp (un d)) = 1 := by
          rw [← un_nrm hd]
          simp [nrm, normI, opp, Int.mul_neg, Int.neg_mul]
        rw [nrm_mul, e, Int.mul_one, hp]
      | ch i =>
        have hi : i < (hds d n).length := ho _ List.mem_cons_self
        have e : (hds d n).getD i (1, 0) = (hds d n)[i] := by rw [List.getD_eq_getElem?_getD, List.getElem?_eq_getElem hi]; rfl
        have hh := (mem_hds hd hn).mp (List.getElem_mem hi)
        have bh := head_bds hd hn hh.1 hh.2
        show nrm d ((hds d n).getD i (1, 0)) = n ∧ Bd (m + 24) ((hds d n).getD i (1, 0)).1 ∧ Bd (m + 24) ((hds d n).getD i (1, 0)).2
        rw [e]
        exact ⟨hh.2, bh.1.mono (by omega), bh.2.mono (by omega)⟩
    obtain ⟨k1, k2, k3⟩ := posn_ok hd hn L (o.go d (hds d n) p) (m + 24) (fun x hx => ho x (List.mem_cons_of_mem _ hx)) key.1 (by omega) key.2.1 key.2.2
    exact ⟨k1, k2.mono (by rw [List.length_cons]; omega), k3.mono (by rw [List.length_cons]; omega)⟩
section
variable (d n : Int) (h0 : Int × Int) (L : List Op) (k : Nat)
/-- the solution behind so many operations -/
def ptA (i : Nat) : Int × Int := posn d (hds d n) h0 (L.take i)
def undA (j : Nat) : PyData := .tuple [(L.getD j .up).dat, prP (ptA d n h0 L (j + 1))]
/-- the session behind L, all but the first k undone -/
def svA : Sv := { eqn := pr d n, sts := (hds d n).map prP, cur := prP (ptA d n h0 L k), ear := (List.range k).map (fun i => prP (ptA d n h0 L i)), don := (L.take k).map Op.dat, und := (List.range (L.length - k)).map (fun i => undA d n h0 L (L.length - 1 - i)) }
end
section
variable {d n : Int} {h0 : Int × Int} {L : List Op} {k : Nat}
theorem getD_some {α : Type} {L : List α} {k : Nat} {x : α} (h : k < L.length) : L[k]? = some (L.getD k x) := by
  rw [List.getD_eq_getElem?_getD, List.getElem?_eq_getElem h]
  rfl
theorem ptA_snoc (hk : k ≤ L.length) (o : Op) {i : Nat} (hi : i ≤ k) : ptA d n h0 (L.take k ++ [o]) i = ptA d n h0 L i := by
  unfold ptA
  rw [List.take_append_of_le_length (by rw [List.length_take]; omega), List.take_take, Nat.min_eq_left hi]
theorem ptA_last (hk : k ≤ L.length) (o : Op) : ptA d n h0 (L.take k ++ [o]) (k + 1) = o.go d (hds d n) (ptA d n h0 L k) := by
  unfold ptA
  rw [List.take_of_length_le (by rw [List.length_append, List.length_take]; simp; omega), posn_snoc]
theorem svA_len (hk : k ≤ L.length) (o : Op) : (L.take k ++ [o]).length = k + 1 := by
  rw [List.length_append, List.length_take]
  simp
  omega
theorem takeA (hk : k ≤ L.length) (o : Op) : (L.take k ++ [o]).take (k + 1) = L.take k ++ [o] := List.take_of_length_le (Nat.le_of_eq (svA_len hk o))
theorem Sv.ext {v w : Sv} (h1 : v.eqn = w.eqn) (h2 : v.sts = w.sts) (h3 : v.cur = w.cur) (h4 : v.ear = w.ear) (h5 : v.don = w.don) (h6 : v.und = w.und) : v = w := by
  cases v
  cases w
  simp_all
theorem svA_act (hk : k ≤ L.length) (o : Op) : ({ svA d n h0 L k with ear := (svA d n h0 L k).ear ++ [(svA d n h0 L k).cur], cur := prP (o.go d (hds d n) (ptA d n h0 L k)), don := (svA d n h0 L k).don ++ [o.dat], und := [] } : Sv) = svA d n h0 (L.take k ++ [o]) (k + 1) := by
  refine Sv.ext rfl rfl ?_ ?_ ?_ ?_
  · show prP _ = prP _
    rw [ptA_last hk]
  · show (List.range k).map _ ++ [_] = (List.range (k + 1)).map _
    rw [List.range_succ, List.map_append]
    refine app2 (List.map_congr_left fun i hi => ?_) ?_
    · rw [ptA_snoc hk o (Nat.le_of_lt (List.mem_range.mp hi))]
    · show [prP _] = [prP _]
      rw [ptA_snoc hk o (Nat.le_refl k)]
  · show (L.take k).map Op.dat ++ [o.dat] = ((L.take k ++ [o]).take (k + 1)).map Op.dat
    rw [takeA hk, List.map_append]
    rfl
  · show [] = (List.range _).map _
    rw [svA_len hk, Nat.sub_self]
    rfl
theorem svA_don (hk : k < L.length) : (svA d n h0 L (k + 1)).don = (svA d n h0 L k).don ++ [(L.getD k .up).dat] := by
  show (L.take (k + 1)).map Op.dat = (L.take k).map Op.dat ++ _
  rw [takeS (getD_some (x := Op.up) hk), List.map_append]
  rfl
theorem svA_ear : (svA d n h0 L (k + 1)).ear = (svA d n h0 L k).ear ++ [(svA d n h0 L k).cur] := by
  show (List.range (k + 1)).map _ = (List.range k).map _ ++ [_]
  rw [List.range_succ, List.map_append]
  rfl
theorem svA_und (hk : k < L.length) : (svA d n h0 L k).und = (svA d n h0 L (k + 1)).und ++ [.tuple [(L.getD k .up).dat, (svA d n h0 L (k + 1)).cur]] := by
  show (List.range (L.length - k)).map _ = (List.range (L.length - (k + 1))).map _ ++ _
  rw [show L.length - k = (L.length - (k + 1)) + 1 by omega, List.range_succ, List.map_append]
  refine app2 rfl ?_
  show [undA d n h0 L (L.length - 1 - (L.length - (k + 1)))] = _
  rw [show L.length - 1 - (L.length - (k + 1)) = k by omega]
  rfl
theorem svA_undo (hk : k < L.length) : ({ svA d n h0 L (k + 1) with ear := (svA d n h0 L k).ear, cur := (svA d n h0 L k).cur, don := (svA d n h0 L k).don, und := (svA d n h0 L (k + 1)).und ++ [.tuple [(L.getD k .up).dat, (svA d n h0 L (k + 1)).cur]] } : Sv) = svA d n h0 L k :=
  Sv.ext rfl rfl rfl rfl rfl (svA_und hk).symm
theorem svA_redo (hk : k < L.length) : ({ svA d n h0 L k with ear := (svA d n h0 L k).ear ++ [(svA d n h0 L k).cur], cur := (svA d n h0 L (k + 1)).cur, don := (svA d n h0 L k).don ++ [(L.getD k .up).dat], und := (svA d n h0 L (k + 1)).und } : Sv) = svA d n h0 L (k + 1) :=
  Sv.ext rfl rfl rfl svA_ear.symm (svA_don hk).symm rfl
theorem ops_nice (M : List Op) : Nice 2 (.list (M.map Op.dat)) := nice_list fun z hz => by
  obtain ⟨o, _, rfl⟩ := List.mem_map.mp hz
  exact o.nice
theorem shp_ops (M : List Op) : Shp (.list (M.map Op.dat)) := (ops_nice M).shp (by decide)
theorem shp_und : Shp (.list (svA d n h0 L k).und) := (nice_list (n := 2) fun z hz => by
  obtain ⟨i, _, rfl⟩ := List.mem_map.mp hz
  exact nice_two (Op.nice _) (nice_pr _ _)).shp (by decide)
theorem len_ear : (svA d n h0 L k).ear.length = k := by
  show ((List.range k).map _).length = k
  rw [List.length_map, List.length_range]
theorem len_don (hk : k ≤ L.length) : (svA d n h0 L k).don.length = k := by
  show ((L.take k).map _).length = k
  rw [List.length_map, List.length_take]
  omega
theorem len_und : (svA d n h0 L k).und.length = L.length - k := by
  show ((List.range _).map _).length = _
  rw [List.length_map, List.length_range]
theorem last_at (xs : List PyData) (x : PyData) : atI (xs ++ [x]) (-1) = some x := by
  have e : ixN (xs ++ [x]).length (-1) = some xs.length := by
    unfold ixN
    rw [List.length_append]
    simp
    omega
  unfold atI
  rw [e]
  simp
/-- the mirror's lists -/
def stM (d n : Int) (h0 : Int × Int) (L : List Op) (k : Nat) : List PyData := (List.range (k + 1)).map fun i => prP (ptA d n h0 L i)
def trM (d n : Int) (h0 : Int × Int) (L : List Op) (j : Nat) : PyData := .tuple [.str (L.getD j .up).nm, .int (L.getD j .up).no, prP (ptA d n h0 L (j + 1))]
def unM (d n : Int) (h0 : Int × Int) (L : List Op) (k : Nat) : List PyData := (List.range (L.length - k)).map fun i => trM d n h0 L (L.length - 1 - i)
def dnM (L : List Op) (k : Nat) : List PyData := (L.take k).map Op.dat
theorem stM_succ : stM d n h0 L (k + 1) = stM d n h0 L k ++ [prP (ptA d n h0 L (k + 1))] := by
  unfold stM
  rw [List.range_succ, List.map_append]
  rfl
theorem stM_last : atI (stM d n h0 L k) (-1) = some (prP (ptA d n h0 L k)) := by
  unfold stM
  rw [List.range_succ, List.map_append]
  exact last_at _ _
theorem stM_len : (stM d n h0 L k).length = k + 1 := by
  unfold stM
  rw [List.length_map, List.length_range]
theorem dnM_succ (hk : k < L.length) : dnM L (k + 1) = dnM L k ++ [(L.getD k .up).dat] := svA_don (d := 0) (n := 0) (h0 := (0, 0)) hk
theorem dnM_len (hk : k ≤ L.length) : (dnM L k).length = k := len_don (d := 0) (n := 0) (h0 := (0, 0)) hk
theorem unM_succ (hk : k < L.length) : unM d n h0 L k = unM d n h0 L (k + 1) ++ [trM d n h0 L k] := by
  unfold unM
  rw [show L.length - k = (L.length - (k + 1)) + 1 by omega, List.range_succ, List.map_append]
  refine app2 rfl ?_
  show [trM d n h0 L (L.length - 1 - (L.length - (k + 1)))] = _
  rw [show L.length - 1 - (L.length - (k + 1)) = k by omega]
theorem unM_len : (unM d n h0 L k).length = L.length - k := by
  unfold unM
  rw [List.length_map, List.length_range]
theorem unM_end (h : L.length ≤ k) : unM d n h0 L k = [] := by
  unfold unM
  rw [show L.length - k = 0 by omega]
  rfl
theorem stM_act (hk : k ≤ L.length) (o : Op) : stM d n h0 (L.take k ++ [o]) (k + 1) = stM d n h0 L k ++ [prP (o.go d (hds d n) (ptA d n h0 L k))] := by
  rw [stM_succ, ptA_last hk]
  refine congrArg (· ++ _) ?_
  unfold stM
  refine List.map_congr_left fun i hi => ?_
  rw [ptA_snoc hk o (by have := List.mem_range.mp hi; omega)]
theorem dnM_act (hk : k ≤ L.length) (o : Op) : dnM (L.take k ++ [o]) (k + 1) = dnM L k ++ [o.dat] := by
  unfold dnM
  rw [takeA hk, List.map_append]
  rfl
theorem unM_act (hk : k ≤ L.length) (o : Op) : unM d n h0 (L.take k ++ [o]) (k + 1) = [] := unM_end (Nat.le_of_eq (svA_len hk o))
theorem shp_unM : Shp (.list (unM d n h0 L k)) := (nice_list (n := 2) fun z hz => by
  obtain ⟨i, _, rfl⟩ := List.mem_map.mp hz
  refine nice_tup fun y hy => ?_
  rcases List.mem_cons.mp hy with rfl | hy
  · exact nice_str 1 (Op.nm_lay _)
  rcases List.mem_cons.mp hy with rfl | hy
  · exact nice_int 1 _
  cases List.mem_singleton.mp hy
  exact nice_pr _ _).shp (by decide)
theorem varRo {i : Nat} {S : Sl} {c : Cn} {xs : List PyData} {k : En → Cn → Prop} (hS : S[i]? = some (some (.own xs)) ∨ S[i]? = some (some (.ro xs))) (hk : k (.ro xs) c) : dVar i S c k := by
  unfold dVar
  rcases hS with hS | hS
  · rw [hS]; exact hk
  · rw [hS]; exact hk
theorem ixLast {i : Nat} {S : Sl} {c : Cn} {xs : List PyData} {t : PyData} {k : En → Cn → Prop} (hS : S[i]? = some (some (.own xs)) ∨ S[i]? = some (some (.ro xs))) (h : atI xs (-1) = some t) (hk : k (.im t) c) : dOp rIx (dVar i) (dUn rNeg (dC (.int 1))) S c k := by
  unfold dOp dUn dC
  refine varRo hS ?_
  simp only [rNeg, rIx, sqOf, h]
  exact hk
theorem ixLast0 {i : Nat} {S : Sl} {c : Cn} {xs r : List PyData} {x : PyData} {k : En → Cn → Prop} (hS : S[i]? = some (some (.own xs)) ∨ S[i]? = some (some (.ro xs))) (h : atI xs (-1) = some (.tuple (x :: r))) (hk : k (.im x) c) :
    dOp rIx (dOp rIx (dVar i) (dUn rNeg (dC (.int 1)))) (dC (.int 0)) S c k := by
  unfold dOp
  refine ixLast hS h ?_
  exact rIx_first (k := fun z => k z c) hk
theorem ixLast1 {i : Nat} {S : Sl} {c : Cn} {xs r : List PyData} {x y : PyData} {k : En → Cn → Prop} (hS : S[i]? = some (some (.own xs)) ∨ S[i]? = some (some (.ro xs))) (h : atI xs (-1) = some (.tuple (x :: y :: r))) (hk : k (.im y) c) :
    dOp rIx (dOp rIx (dVar i) (dUn rNeg (dC (.int 1)))) (dC (.int 1)) S c k := by
  unfold dOp dC
  refine ixLast hS h ?_
  have e : atI (x :: y :: r) 1 = some y := atI_nat (j := 1) rfl
  show rIx (.im (.tuple (x :: y :: r))) (.im (.int 1)) _
  unfold rIx
  simp only [sqOf, e]
  exact hk
theorem ixV {i j : Nat} {R : List PyData} {n : Int} {d : PyData} {S : Sl} {c : Cn} {k : En → Cn → Prop} (hS : S[i]? = some (some (.im (.tuple R)))) (hj : S[j]? = some (some (.im (.int n)))) (h : atI R n = some d) (hk : k (.im d) c) : dOp rIx (dVar i) (dVar j) S c k := by
  unfold dOp dVar
  rw [hS, hj]
  show rIx (.im (.tuple R)) (.im (.int n)) _
  unfold rIx
  simp only [sqOf, h]
  exact hk
/-- ("returned", xs[-1][0]) if xs != [] else .. -/
theorem due_some {i : Nat} {S : Sl} {c : Cn} {xs r : List PyData} {x : PyData} {w : Str} {db : DE} {q : En → Cn → Prop} (hS : S[i]? = some (some (.own xs)) ∨ S[i]? = some (some (.ro xs))) (sh : Shp (.list xs)) (ne : PyData.eqv (.list xs) (.list []) = false) (h : atI xs (-1) = some (.tuple (x :: r)))
    (hq : q (.im (.tuple [.str w, x])) c) : dIf (dTest (dOp (rEq not) (dVar i) (dLst dNil))) (dTup (dCons (dC (.str w)) (dCons (dOp rIx (dOp rIx (dVar i) (dUn rNeg (dC (.int 1)))) (dC (.int 0))) dNil))) db S c q := by
  unfold dIf dTest
  show dOp (rEq not) (dVar i) (dLst dNil) S c _
  unfold dOp
  refine varRo hS ⟨Nat.zero_le _, sh, shp_nil, ifT (by rw [ne]; rfl) ?_⟩
  exact ixLast0 hS h ⟨(by decide : 2 ≤ 100000), hq⟩
theorem due_none {i : Nat} {S : Sl} {c : Cn} {da db : DE} {q : En → Cn → Prop} (hS : S[i]? = some (some (.own [])) ∨ S[i]? = some (some (.ro []))) (hq : db S c q) : dIf (dTest (dOp (rEq not) (dVar i) (dLst dNil))) da db S c q := by
  unfold dIf dTest
  show dOp (rEq not) (dVar i) (dLst dNil) S c _
  unfold dOp
  exact varRo hS ⟨Nat.zero_le _, shp_nil, shp_nil, ifF rfl hq⟩
theorem alT {i j a b l : Nat} {dt : DT} {de : DE} {rest : DS} {D : DEnds} {S : Sl} {c : Cn} {z : Bool} {xs : List PyData} (ht : ∀ q : Bool → Cn → Prop, q z c → dt S c q) (el : (if z = true then a else b) = l) (hl : S[l]? = some (some (.own xs)))
    (h : de ((S.set l (some (.ro xs))).set i (some (.ro xs))) c fun e c2 => match e with
      | .im d => rest D ((S.set i none).set j (some (.im d))) c2
      | _ => False) : dAl i j a b dt de rest D S c := by
  unfold dAl
  refine ht _ ?_
  subst el
  simp only [hl]
  exact h
theorem testCall {f : Bool → Bool} {F : FT} {da : DA} {db : DE} {S : Sl} {c : Cn} {es : List En} {q : Bool → Cn → Prop} (ha : ∀ k : List En → Cn → Prop, k es c → da S c k) (hF : F (es.map view) c fun x c1 => db S c1 fun y c2 => rEq f x y fun z => match z with
      | .im (.bool b) => q b c2
      | _ => False) : dTest (dOp (rEq f) (dCall F da) db) S c q := by
  unfold dTest dOp dCall
  exact ha _ hF
theorem dropCall {F : FT} {da : DA} {D : DEnds} {S : Sl} {c : Cn} {es : List En} (ha : ∀ k : List En → Cn → Prop, k es c → da S c k) (hF : F (es.map view) c fun _ c1 => D.nx S c1) : dDrop (dCall F da) D S c := by
  unfold dDrop dCall
  exact ha _ hF
theorem asgCall {F : FT} {da : DA} {g : DGs} {r : DS} {D : DEnds} {S : Sl} {c : Cn} {es : List En} (ha : ∀ k : List En → Cn → Prop, k es c → da S c k) (hF : F (es.map view) c fun e c1 => match sqOf e with
      | some xs => g xs S fun S1 => r D S1 c1
      | none => False) : dSeq (dAsgB (dCall F da) g) r D S c := by
  unfold dSeq dAsgB dCall
  exact ha _ hF
theorem alJ {i j a b : Nat} {dt : DT} {de : DE} {rest : DS} {D : DEnds} {S : Sl} {c : Cn} (v : PyData) (h1 : ∃ z l xs, (∀ q : Bool → Cn → Prop, q z c → dt S c q) ∧ (if z = true then a else b) = l ∧ S[l]? = some (some (.own xs)) ∧ ∀ q : En → Cn → Prop, q (.im v) c → de ((S.set l (some (.ro xs))).set i (some (.ro xs))) c q)
    (h2 : rest D ((S.set i none).set j (some (.im v))) c) : dAl i j a b dt de rest D S c := by
  obtain ⟨z, l, xs, ht, el, hl, hd⟩ := h1
  exact alT ht el hl (hd _ h2)
/-- the solutions of a walk are those of the equation, not too great -/
theorem ptA_ok (hd : rootD d = true) (hn : norOk n = true) (hh : h0 ∈ hds d n) (hL : ∀ o ∈ L, o.ok (hds d n)) (i : Nat) : nrm d (ptA d n h0 L i) = n ∧ Bd (13 + 24 * L.length) (ptA d n h0 L i).1 ∧ Bd (13 + 24 * L.length) (ptA d n h0 L i).2 := by
  have hm := (mem_hds hd hn).mp hh
  have bh := head_bds hd hn hm.1 hm.2
  obtain ⟨k1, k2, k3⟩ := posn_ok hd hn (L.take i) h0 13 (fun o ho => hL o (List.mem_of_mem_take ho)) hm.2 (Nat.le_refl _) bh.1 (bh.2.mono (by decide))
  have : (L.take i).length ≤ L.length := by rw [List.length_take]; omega
  exact ⟨k1, k2.mono (by omega), k3.mono (by omega)⟩
theorem ok_act {hs : List (Int × Int)} (hL : ∀ o ∈ L, o.ok hs) {o : Op} (ho : o.ok hs) : ∀ x ∈ L.take k ++ [o], x.ok hs := fun x hx => by
  rcases List.mem_append.mp hx with hx | hx
  · exact hL x (List.mem_of_mem_take hx)
  · rw [List.mem_singleton.mp hx]
    exact ho
/-- the outcome of undo (0), redo -/
def outB (L : List Op) (k : Nat) (w : Int) : PyData × Nat := if w = 0 then (if 0 < k then (.tuple [.str "returned", .str (L.getD (k - 1) .up).nm], k - 1) else (.tuple [.str "raised", .int ((8 : Nat) : Int)], k))
  else if k < L.length then (.tuple [.str "returned", .str (L.getD k .up).nm], k + 1) else (.tuple [.str "raised", .int ((8 : Nat) : Int)], k)
theorem nice_outB (L : List Op) (k : Nat) (w : Int) : Nice 1 (outB L k w).1 := by
  unfold outB
  have r : ∀ o : Op, Nice 1 (.tuple [.str "returned", .str o.nm]) := fun o => nice_two (nice_str 0 (by decide +kernel)) (nice_str 0 o.nm_lay)
  have z : Nice 1 (.tuple [.str "raised", .int ((8 : Nat) : Int)]) := nice_two (nice_str 0 (by decide +kernel)) (nice_int 0 _)
  split
  · split
    · exact r _
    · exact z
  · split
    · exact r _
    · exact z
theorem outB_le (hk : k ≤ L.length) (w : Int) : (outB L k w).2 ≤ L.length := by
  unfold outB
  split
  · split
    · show k - 1 ≤ _; omega
    · exact hk
  · split
    · show k + 1 ≤ _; omega
    · exact hk
theorem outB_undo (L : List Op) (k : Nat) : outB L (k + 1) 0 = (.tuple [.str "returned", .str (L.getD k .up).nm], k) := by
  unfold outB
  rw [if_pos rfl, if_pos (Nat.succ_pos k)]
  rfl
theorem outB_undo0 (L : List Op) : outB L 0 0 = (.tuple [.str "raised", .int ((8 : Nat) : Int)], 0) := by
  unfold outB
  rw [if_pos rfl, if_neg (Nat.lt_irrefl 0)]
theorem outB_redo (hk : k < L.length) : outB L k 1 = (.tuple [.str "returned", .str (L.getD k .up).nm], k + 1) := by
  unfold outB
  rw [if_neg (by decide), if_pos hk]
theorem outB_redo0 (hk : ¬ k < L.length) : outB L k 1 = (.tuple [.str "raised", .int ((8 : Nat) : Int)], k) := by
  unfold outB
  rw [if_neg (by decide), if_neg hk]
theorem eqvAll_len : ∀ {xs ys : List PyData}, PyData.eqvAll xs ys = true → xs.length = ys.length
  | [], [], _ => rfl
  | [], _ :: _, h => by simp [PyData.eqvAll] at h
  | _ :: _, [], h => by simp [PyData.eqvAll] at h
  | x :: xs, y :: ys, h => by
    simp only [PyData.eqvAll, Bool.and_eq_true] at h
    rw [List.length_cons, List.length_cons, eqvAll_len h.2]
theorem eqv_lenF {xs ys : List PyData} (h : xs.length ≠ ys.length) : PyData.eqv (.list xs) (.list ys) = false := by
  cases e : PyData.eqv (.list xs) (.list ys) with
  | false => rfl
  | true =>
    simp only [PyData.eqv] at e
    exact absurd (eqvAll_len e) h
theorem eqv_ops (M : List Op) : PyData.eqv (.list (M.map Op.dat)) (.list (M.map Op.dat)) = true := SeqAt.eqv_refl _ (ops_nice M).lay
end
end ND
namespace ND
open PySem PySem.Spec L2
local macro_rules | `(tactic| walk_at "nd") => `(tactic| simp only [dRet, retE, dRetV, dRetN, dSeq, dNext, dDrop, dSet, putE, dPar, dPar3, dAsg, dAsgB, dIfS, dApp, dExt, dFor, iR1, iR2, iE, iV, cR1, cR2, cE, cEn, dLc, dYes, wipeS, dVar, dC, dOp, dUn, dNil, dCons, imsOf, imOf, Option.map_some, dTup, dLst, rInt, rSub, rMul, rMod, rDiv, rPow, rLt, rLe, rGt, rGe, rAdd, rNeg, lsOf, dpOf, sqOf, rEq, rIsN, rIx, dTest, dAnd, dOr, dNot, dAndV, dOrV, dNotV, dIf, dChain, dCall, view, dCB, rLen, rAbs, rMax2, rMin2, rTupOf, rLstOf, rAllB, dIsi, rInD, gN, gT, gsCons, gsNil, st0, List.map_cons, List.map_nil, List.length_cons, List.length_nil, Nat.reduceAdd, Nat.reduceSub, List.replicate_succ, List.replicate_zero, List.cons_append, List.nil_append, List.getElem?_cons_zero, List.getElem?_cons_succ, List.set_cons_zero, List.set_cons_succ, id_eq, CT, true_and, and_true, if_true, Bool.not_true, Bool.not_false, Bool.false_eq_true, if_false, Nat.reduceLeDiff, decide_true, decide_false])
local macro_rules | `(tactic| walk_at "dd") => `(tactic| dsimp only [dRet, retE, dRetV, dRetN, dSeq, dNext, dDrop, dSet, putE, dPar, dPar3, dAsg, dAsgB, dIfS, dApp, dExt, dFor, iR1, iR2, iE, iV, cR1, cR2, cE, cEn, dLc, dYes, wipeS, dVar, dC, dOp, dUn, dNil, dCons, imsOf, imOf, Option.map_some, dTup, dLst, rInt, rSub, rMul, rMod, rDiv, rPow, rLt, rLe, rGt, rGe, rAdd, rNeg, lsOf, dpOf, sqOf, rEq, rIsN, rIx, dTest, dAnd, dOr, dNot, dAndV, dOrV, dNotV, dIf, dChain, dCall, view, dCB, rLen, rAbs, rMax2, rMin2, rTupOf, rLstOf, rAllB, dIsi, rInD, gN, gT, gsCons, gsNil, st0, List.map_cons, List.map_nil, List.length_cons, List.length_nil, Nat.reduceAdd, Nat.reduceSub, List.replicate_succ, List.replicate_zero, List.cons_append, List.nil_append, List.getElem?_cons_zero, List.getElem?_cons_succ, List.set_cons_zero, List.set_cons_succ])
local macro_rules | `(tactic| walk_at "d1") => `(tactic| dsimp only [dRet, retE, dRetV, dRetN, dSeq, dNext, dDrop, dSet, putE, dPar, dPar3, dAsg, dAsgB, dIfS, dApp, dExt, dFor, iR1, iR2, iE, iV, cR1, cR2, cE, cEn, dLc, dYes, wipeS, dVar, dC, dOp, dUn, dNil, dCons, imsOf, imOf, Option.map_some, dTup, dLst, rInt, rSub, rMul, rMod, rDiv, rPow, rLt, rLe, rGt, rGe, rAdd, rNeg, lsOf, dpOf, sqOf, rEq, rIsN, dTest, dAnd, dOr, dNot, dAndV, dOrV, dNotV, dIf, dChain, dCall, view, dCB, rLen, rAbs, rMax2, rMin2, rTupOf, rLstOf, rAllB, dIsi, rInD, gN, gT, gsCons, gsNil, st0, List.map_cons, List.map_nil, List.length_cons, List.length_nil, Nat.reduceAdd, Nat.reduceSub, List.replicate_succ, List.replicate_zero, List.cons_append, List.nil_append, List.getElem?_cons_zero, List.getElem?_cons_succ, List.set_cons_zero, List.set_cons_succ])
/-! ## the text -/
def topS (i : Nat) : Stmt := PySem.Challenge.pw_normpairs_k70_whole_sessions.main.body.getD i (.Pass ⟨0, 0, 0, 0⟩)
abbrev s_is_integer : Stmt := topS 13
theorem sc_is_integer : FnScope ["value"] ["value"] (defScope s_is_integer) := ⟨rfl, rfl, rfl, by decide +kernel, rfl, by decide +kernel, by decide +kernel⟩
abbrev s_is_between : Stmt := topS 14
theorem sc_is_between : FnScope ["value", "low", "high"] ["value", "low", "high"] (defScope s_is_between) := ⟨rfl, rfl, rfl, by decide +kernel, rfl, by decide +kernel, by decide +kernel⟩
abbrev s_root_of : Stmt := topS 15
theorem sc_root_of : FnScope ["number", "low", "high", "middle"] ["number"] (defScope s_root_of) := ⟨rfl, rfl, rfl, by decide +kernel, rfl, by decide +kernel, by decide +kernel⟩
abbrev s_is_root : Stmt := topS 16
theorem sc_is_root : FnScope ["value"] ["value"] (defScope s_is_root) := ⟨rfl, rfl, rfl, by decide +kernel, rfl, by decide +kernel, by decide +kernel⟩
abbrev s_check_root : Stmt := topS 17
theorem sc_check_root : FnScope ["d"] ["d"] (defScope s_check_root) := ⟨rfl, rfl, rfl, by decide +kernel, rfl, by decide +kernel, by decide +kernel⟩
abbrev s_is_pair : Stmt := topS 18
theorem sc_is_pair : FnScope ["value", "part"] ["value"] (defScope s_is_pair) := ⟨rfl, rfl, rfl, by decide +kernel, rfl, by decide +kernel, by decide +kernel⟩
abbrev s_check_pair : Stmt := topS 19
theorem sc_check_pair : FnScope ["value"] ["value"] (defScope s_check_pair) := ⟨rfl, rfl, rfl, by decide +kernel, rfl, by decide +kernel, by decide +kernel⟩
abbrev s_check_number : Stmt := topS 20
theorem sc_check_number : FnScope ["value", "low", "high"] ["value", "low", "high"] (defScope s_check_number) := ⟨rfl, rfl, rfl, by decide +kernel, rfl, by decide +kernel, by decide +kernel⟩
abbrev s_norm_of : Stmt := topS 21
theorem sc_norm_of : FnScope ["d", "pair"] ["d", "pair"] (defScope s_norm_of) := ⟨rfl, rfl, rfl, by decide +kernel, rfl, by decide +kernel, by decide +kernel⟩
abbrev s_times : Stmt := topS 22
theorem sc_times : FnScope ["d", "one", "other"] ["d", "one", "other"] (defScope s_times) := ⟨rfl, rfl, rfl, by decide +kernel, rfl, by decide +kernel, by decide +kernel⟩
abbrev s_opposite : Stmt := topS 23
theorem sc_opposite : FnScope ["pair"] ["pair"] (defScope s_opposite) := ⟨rfl, rfl, rfl, by decide +kernel, rfl, by decide +kernel, by decide +kernel⟩
abbrev s_fractions_of : Stmt := topS 24
theorem sc_fractions_of : FnScope ["d", "first", "found", "p", "q", "a"] ["d"] (defScope s_fractions_of) := ⟨rfl, rfl, rfl, by decide +kernel, rfl, by decide +kernel, by decide +kernel⟩
abbrev s_convergent_of : Stmt := topS 25
theorem sc_convergent_of : FnScope ["d", "k", "first", "rest", "before", "now", "place", "a"] ["d", "k"] (defScope s_convergent_of) := ⟨rfl, rfl, rfl, by decide +kernel, rfl, by decide +kernel, by decide +kernel⟩
abbrev s_found_unit : Stmt := topS 26
theorem sc_found_unit : FnScope ["d", "size"] ["d"] (defScope s_found_unit) := ⟨rfl, rfl, rfl, by decide +kernel, rfl, by decide +kernel, by decide +kernel⟩
abbrev s_least_unit : Stmt := topS 27
theorem sc_least_unit : FnScope ["d"] ["d"] (defScope s_least_unit) := ⟨rfl, rfl, rfl, by decide +kernel, rfl, by decide +kernel, by decide +kernel⟩
abbrev s_is_norm : Stmt := topS 29
theorem sc_is_norm : FnScope ["value"] ["value"] (defScope s_is_norm) := ⟨rfl, rfl, rfl, by decide +kernel, rfl, by decide +kernel, by decide +kernel⟩
abbrev s_check_norm : Stmt := topS 30
theorem sc_check_norm : FnScope ["n"] ["n"] (defScope s_check_norm) := ⟨rfl, rfl, rfl, by decide +kernel, rfl, by decide +kernel, by decide +kernel⟩
abbrev s_check_both : Stmt := topS 31
theorem sc_check_both : FnScope ["d", "n"] ["d", "n"] (defScope s_check_both) := ⟨rfl, rfl, rfl, by decide +kernel, rfl, by decide +kernel, by decide +kernel⟩
abbrev s_bound_for : Stmt := topS 32
theorem sc_bound_for : FnScope ["d", "n"] ["d", "n"] (defScope s_bound_for) := ⟨rfl, rfl, rfl, by decide +kernel, rfl, by decide +kernel, by decide +kernel⟩
abbrev s_is_better : Stmt := topS 33
theorem sc_is_better : FnScope ["one", "other"] ["one", "other"] (defScope s_is_better) := ⟨rfl, rfl, rfl, by decide +kernel, rfl, by decide +kernel, by decide +kernel⟩
abbrev s_head_of : Stmt := topS 34
theorem sc_head_of : FnScope ["d", "pair", "step", "best", "mark", "now", "number", "near", "one", "many", "sign", "other"] ["d", "pair"] (defScope s_head_of) := ⟨rfl, rfl, rfl, by decide +kernel, rfl, by decide +kernel, by decide +kernel⟩
abbrev s_found_heads : Stmt := topS 35
theorem sc_found_heads : FnScope ["d", "n", "found", "y", "square", "x"] ["d", "n"] (defScope s_found_heads) := ⟨rfl, rfl, rfl, by decide +kernel, rfl, by decide +kernel, by decide +kernel⟩
abbrev s_heads : Stmt := topS 36
theorem sc_heads : FnScope ["d", "n"] ["d", "n"] (defScope s_heads) := ⟨rfl, rfl, rfl, by decide +kernel, rfl, by decide +kernel, by decide +kernel⟩
abbrev s_place_of : Stmt := topS 37
theorem sc_place_of : FnScope ["d", "pair"] ["d", "pair"] (defScope s_place_of) := ⟨rfl, rfl, rfl, by decide +kernel, rfl, by decide +kernel, by decide +kernel⟩
abbrev s_S_init : Stmt := inClass (topS 39) 0
theorem sc_S_init : FnScope ["self", "d", "n"] ["self", "d", "n"] (defScope s_S_init) := ⟨rfl, rfl, rfl, by decide +kernel, rfl, by decide +kernel, by decide +kernel⟩
abbrev s_S_len : Stmt := inClass (topS 39) 1
theorem sc_S_len : FnScope ["self"] ["self"] (defScope s_S_len) := ⟨rfl, rfl, rfl, by decide +kernel, rfl, by decide +kernel, by decide +kernel⟩
abbrev s_S_eq : Stmt := inClass (topS 39) 2
theorem sc_S_eq : FnScope ["self", "other"] ["self", "other"] (defScope s_S_eq) := ⟨rfl, rfl, rfl, by decide +kernel, rfl, by decide +kernel, by decide +kernel⟩
abbrev s_S_str : Stmt := inClass (topS 39) 3
theorem sc_S_str : FnScope ["self"] ["self"] (defScope s_S_str) := ⟨rfl, rfl, rfl, by decide +kernel, rfl, by decide +kernel, by decide +kernel⟩
abbrev s_S_perform : Stmt := inClass (topS 39) 4
theorem sc_S_perform : FnScope ["self", "pair", "operation"] ["self", "pair", "operation"] (defScope s_S_perform) := ⟨rfl, rfl, rfl, by decide +kernel, rfl, by decide +kernel, by decide +kernel⟩
abbrev s_S_up : Stmt := inClass (topS 39) 5
theorem sc_S_up : FnScope ["self", "d"] ["self"] (defScope s_S_up) := ⟨rfl, rfl, rfl, by decide +kernel, rfl, by decide +kernel, by decide +kernel⟩
abbrev s_S_down : Stmt := inClass (topS 39) 6
theorem sc_S_down : FnScope ["self", "d"] ["self"] (defScope s_S_down) := ⟨rfl, rfl, rfl, by decide +kernel, rfl, by decide +kernel, by decide +kernel⟩
abbrev s_S_choose : Stmt := inClass (topS 39) 7
theorem sc_S_choose : FnScope ["self", "number"] ["self", "number"] (defScope s_S_choose) := ⟨rfl, rfl, rfl, by decide +kernel, rfl, by decide +kernel, by decide +kernel⟩
abbrev s_S_solution : Stmt := inClass (topS 39) 8
theorem sc_S_solution : FnScope ["self"] ["self"] (defScope s_S_solution) := ⟨rfl, rfl, rfl, by decide +kernel, rfl, by decide +kernel, by decide +kernel⟩
abbrev s_S_number : Stmt := inClass (topS 39) 9
theorem sc_S_number : FnScope ["self"] ["self"] (defScope s_S_number) := ⟨rfl, rfl, rfl, by decide +kernel, rfl, by decide +kernel, by decide +kernel⟩
abbrev s_S_undo : Stmt := inClass (topS 39) 10
theorem sc_S_undo : FnScope ["self", "operation"] ["self"] (defScope s_S_undo) := ⟨rfl, rfl, rfl, by decide +kernel, rfl, by decide +kernel, by decide +kernel⟩
abbrev s_S_redo : Stmt := inClass (topS 39) 11
theorem sc_S_redo : FnScope ["self", "operation", "pair"] ["self"] (defScope s_S_redo) := ⟨rfl, rfl, rfl, by decide +kernel, rfl, by decide +kernel, by decide +kernel⟩
abbrev s_has_solution : Stmt := topS 41
theorem sc_has_solution : FnScope ["d", "n"] ["d", "n"] (defScope s_has_solution) := ⟨rfl, rfl, rfl, by decide +kernel, rfl, by decide +kernel, by decide +kernel⟩
abbrev s_law_town : Stmt := topS 43
theorem sc_law_town : FnScope ["script"] ["script"] (defScope s_law_town) := ⟨rfl, rfl, rfl, by decide +kernel, rfl, by decide +kernel, by decide +kernel⟩
abbrev s_law_draw : Stmt := topS 44
theorem sc_law_draw : FnScope ["script", "town", "limit", "at", "left", "number"] ["script", "town", "limit"] (defScope s_law_draw) := ⟨rfl, rfl, rfl, by decide +kernel, rfl, by decide +kernel, by decide +kernel⟩
abbrev s_law_pick : Stmt := topS 45
theorem sc_law_pick : FnScope ["script", "town", "choices"] ["script", "town", "choices"] (defScope s_law_pick) := ⟨rfl, rfl, rfl, by decide +kernel, rfl, by decide +kernel, by decide +kernel⟩
abbrev s_law_name : Stmt := topS 47
theorem sc_law_name : FnScope ["caught", "found"] ["caught"] (defScope s_law_name) := ⟨rfl, rfl, rfl, by decide +kernel, rfl, by decide +kernel, by decide +kernel⟩
abbrev s_law_raises : Stmt := topS 48
theorem sc_law_raises : FnScope ["name", "names"] ["name"] (defScope s_law_raises) := ⟨rfl, rfl, rfl, by decide +kernel, rfl, by decide +kernel, by decide +kernel⟩
abbrev s_law_d : Stmt := topS 49
theorem sc_law_d : FnScope ["script", "town", "squares", "k", "d"] ["script", "town"] (defScope s_law_d) := ⟨rfl, rfl, rfl, by decide +kernel, rfl, by decide +kernel, by decide +kernel⟩
abbrev s_law_n : Stmt := topS 50
theorem sc_law_n : FnScope ["script", "town", "d", "x", "y", "n"] ["script", "town", "d"] (defScope s_law_n) := ⟨rfl, rfl, rfl, by decide +kernel, rfl, by decide +kernel, by decide +kernel⟩
abbrev s_law_times : Stmt := topS 51
theorem sc_law_times : FnScope ["d", "one", "other"] ["d", "one", "other"] (defScope s_law_times) := ⟨rfl, rfl, rfl, by decide +kernel, rfl, by decide +kernel, by decide +kernel⟩
abbrev s_law_edit : Stmt := topS 52
theorem sc_law_edit : FnScope ["script", "town", "d", "rows", "pair", "t", "u", "way", "number"] ["script", "town", "d", "rows", "pair"] (defScope s_law_edit) := ⟨rfl, rfl, rfl, by decide +kernel, rfl, by decide +kernel, by decide +kernel⟩
abbrev s_law_do : Stmt := topS 53
theorem sc_law_do : FnScope ["session", "name", "number"] ["session", "name", "number"] (defScope s_law_do) := ⟨rfl, rfl, rfl, by decide +kernel, rfl, by decide +kernel, by decide +kernel⟩
abbrev s_law_back : Stmt := topS 54
theorem sc_law_back : FnScope ["way", "session"] ["way", "session"] (defScope s_law_back) := ⟨rfl, rfl, rfl, by decide +kernel, rfl, by decide +kernel, by decide +kernel⟩
abbrev s_law_equation : Stmt := topS 55
theorem sc_law_equation : FnScope ["script", "town", "d", "n"] ["script", "town"] (defScope s_law_equation) := ⟨rfl, rfl, rfl, by decide +kernel, rfl, by decide +kernel, by decide +kernel⟩
abbrev s_law_call : Stmt := topS 56
theorem sc_law_call : FnScope ["way", "arguments"] ["way", "arguments"] (defScope s_law_call) := ⟨rfl, rfl, rfl, by decide +kernel, rfl, by decide +kernel, by decide +kernel⟩
abbrev s_law_outcome : Stmt := topS 46
theorem sc_law_outcome : FnScope ["way", "arguments", "caught", "result", "error"] ["way", "arguments"] (defScope s_law_outcome) := ⟨rfl, rfl, rfl, by decide +kernel, rfl, by decide +kernel, by decide +kernel⟩
abbrev s_law : Stmt := topS 57
theorem sc_law : FnScope ["script", "town", "d", "n", "rows", "session", "other", "states", "done", "undone", "k", "way", "some", "due", "name", "number", "pair"] ["script"] (defScope s_law) := ⟨rfl, rfl, rfl, by decide +kernel, rfl, by decide +kernel, by decide +kernel⟩
/-- what the top has written -/
structure Txt (K : PySem.W.Frag) (mg : Str → Option Value) where
  c_Session : Addr
  g_Session : mg "Session" = some (.ref c_Session)
  cl_Session : Cls K c_Session
  n_equation : NoAttr K c_Session "equation"
  n_starts : NoAttr K c_Session "starts"
  n_current : NoAttr K c_Session "current"
  n_earlier : NoAttr K c_Session "earlier"
  n_done : NoAttr K c_Session "done"
  n_undone : NoAttr K c_Session "undone"
  a_is_integer : Addr
  d_is_integer : FuncData
  F_is_integer : Fun K "is_integer" "is_integer" s_is_integer a_is_integer d_is_integer
  g_is_integer : mg "is_integer" = some (.ref a_is_integer)
  a_is_between : Addr
  d_is_between : FuncData
  F_is_between : Fun K "is_between" "is_between" s_is_between a_is_between d_is_between
  g_is_between : mg "is_between" = some (.ref a_is_between)
  a_root_of : Addr
  d_root_of : FuncData
  F_root_of : Fun K "root_of" "root_of" s_root_of a_root_of d_root_of
  g_root_of : mg "root_of" = some (.ref a_root_of)
  a_is_root : Addr
  d_is_root : FuncData
  F_is_root : Fun K "is_root" "is_root" s_is_root a_is_root d_is_root
  g_is_root : mg "is_root" = some (.ref a_is_root)
  a_check_root : Addr
  d_check_root : FuncData
  F_check_root : Fun K "check_root" "check_root" s_check_root a_check_root d_check_root
  g_check_root : mg "check_root" = some (.ref a_check_root)
  a_is_pair : Addr
  d_is_pair : FuncData
  F_is_pair : Fun K "is_pair" "is_pair" s_is_pair a_is_pair d_is_pair
  g_is_pair : mg "is_pair" = some (.ref a_is_pair)
  a_check_pair : Addr
  d_check_pair : FuncData
  F_check_pair : Fun K "check_pair" "check_pair" s_check_pair a_check_pair d_check_pair
  g_check_pair : mg "check_pair" = some (.ref a_check_pair)
  a_check_number : Addr
  d_check_number : FuncData
  F_check_number : Fun K "check_number" "check_number" s_check_number a_check_number d_check_number
  g_check_number : mg "check_number" = some (.ref a_check_number)
  a_norm_of : Addr
  d_norm_of : FuncData
  F_norm_of : Fun K "norm_of" "norm_of" s_norm_of a_norm_of d_norm_of
  g_norm_of : mg "norm_of" = some (.ref a_norm_of)
  a_times : Addr
  d_times : FuncData
  F_times : Fun K "times" "times" s_times a_times d_times
  g_times : mg "times" = some (.ref a_times)
  a_opposite : Addr
  d_opposite : FuncData
  F_opposite : Fun K "opposite" "opposite" s_opposite a_opposite d_opposite
  g_opposite : mg "opposite" = some (.ref a_opposite)
  a_fractions_of : Addr
  d_fractions_of : FuncData
  F_fractions_of : Fun K "fractions_of" "fractions_of" s_fractions_of a_fractions_of d_fractions_of
  g_fractions_of : mg "fractions_of" = some (.ref a_fractions_of)
  a_convergent_of : Addr
  d_convergent_of : FuncData
  F_convergent_of : Fun K "convergent_of" "convergent_of" s_convergent_of a_convergent_of d_convergent_of
  g_convergent_of : mg "convergent_of" = some (.ref a_convergent_of)
  a_found_unit : Addr
  d_found_unit : FuncData
  F_found_unit : Fun K "found_unit" "found_unit" s_found_unit a_found_unit d_found_unit
  g_found_unit : mg "found_unit" = some (.ref a_found_unit)
  a_least_unit : Addr
  d_least_unit : FuncData
  F_least_unit : Fun K "least_unit" "least_unit" s_least_unit a_least_unit d_least_unit
  g_least_unit : mg "least_unit" = some (.ref a_least_unit)
  a_is_norm : Addr
  d_is_norm : FuncData
  F_is_norm : Fun K "is_norm" "is_norm" s_is_norm a_is_norm d_is_norm
  g_is_norm : mg "is_norm" = some (.ref a_is_norm)
  a_check_norm : Addr
  d_check_norm : FuncData
  F_check_norm : Fun K "check_norm" "check_norm" s_check_norm a_check_norm d_check_norm
  g_check_norm : mg "check_norm" = some (.ref a_check_norm)
  a_check_both : Addr
  d_check_both : FuncData
  F_check_both : Fun K "check_both" "check_both" s_check_both a_check_both d_check_both
  g_check_both : mg "check_both" = some (.ref a_check_both)
  a_bound_for : Addr
  d_bound_for : FuncData
  F_bound_for : Fun K "bound_for" "bound_for" s_bound_for a_bound_for d_bound_for
  g_bound_for : mg "bound_for" = some (.ref a_bound_for)
  a_is_better : Addr
  d_is_better : FuncData
  F_is_better : Fun K "is_better" "is_better" s_is_better a_is_better d_is_better
  g_is_better : mg "is_better" = some (.ref a_is_better)
  a_head_of : Addr
  d_head_of : FuncData
  F_head_of : Fun K "head_of" "head_of" s_head_of a_head_of d_head_of
  g_head_of : mg "head_of" = some (.ref a_head_of)
  a_found_heads : Addr
  d_found_heads : FuncData
  F_found_heads : Fun K "found_heads" "found_heads" s_found_heads a_found_heads d_found_heads
  g_found_heads : mg "found_heads" = some (.ref a_found_heads)
  a_heads : Addr
  d_heads : FuncData
  F_heads : Fun K "heads" "heads" s_heads a_heads d_heads
  g_heads : mg "heads" = some (.ref a_heads)
  a_place_of : Addr
  d_place_of : FuncData
  F_place_of : Fun K "place_of" "place_of" s_place_of a_place_of d_place_of
  g_place_of : mg "place_of" = some (.ref a_place_of)
  a_S_init : Addr
  d_S_init : FuncData
  F_S_init : Fun K "__init__" "Session.__init__" s_S_init a_S_init d_S_init
  m_S_init : Meth K c_Session "__init__" a_S_init
  a_S_len : Addr
  d_S_len : FuncData
  F_S_len : Fun K "__len__" "Session.__len__" s_S_len a_S_len d_S_len
  m_S_len : Meth K c_Session "__len__" a_S_len
  a_S_eq : Addr
  d_S_eq : FuncData
  F_S_eq : Fun K "__eq__" "Session.__eq__" s_S_eq a_S_eq d_S_eq
  m_S_eq : Meth K c_Session "__eq__" a_S_eq
  a_S_str : Addr
  d_S_str : FuncData
  F_S_str : Fun K "__str__" "Session.__str__" s_S_str a_S_str d_S_str
  m_S_str : Meth K c_Session "__str__" a_S_str
  a_S_perform : Addr
  d_S_perform : FuncData
  F_S_perform : Fun K "perform" "Session.perform" s_S_perform a_S_perform d_S_perform
  m_S_perform : Meth K c_Session "perform" a_S_perform
  a_S_up : Addr
  d_S_up : FuncData
  F_S_up : Fun K "up" "Session.up" s_S_up a_S_up d_S_up
  m_S_up : Meth K c_Session "up" a_S_up
  a_S_down : Addr
  d_S_down : FuncData
  F_S_down : Fun K "down" "Session.down" s_S_down a_S_down d_S_down
  m_S_down : Meth K c_Session "down" a_S_down
  a_S_choose : Addr
  d_S_choose : FuncData
  F_S_choose : Fun K "choose" "Session.choose" s_S_choose a_S_choose d_S_choose
  m_S_choose : Meth K c_Session "choose" a_S_choose
  a_S_solution : Addr
  d_S_solution : FuncData
  F_S_solution : Fun K "solution" "Session.solution" s_S_solution a_S_solution d_S_solution
  m_S_solution : Meth K c_Session "solution" a_S_solution
  a_S_number : Addr
  d_S_number : FuncData
  F_S_number : Fun K "number" "Session.number" s_S_number a_S_number d_S_number
  m_S_number : Meth K c_Session "number" a_S_number
  a_S_undo : Addr
  d_S_undo : FuncData
  F_S_undo : Fun K "undo" "Session.undo" s_S_undo a_S_undo d_S_undo
  m_S_undo : Meth K c_Session "undo" a_S_undo
  a_S_redo : Addr
  d_S_redo : FuncData
  F_S_redo : Fun K "redo" "Session.redo" s_S_redo a_S_redo d_S_redo
  m_S_redo : Meth K c_Session "redo" a_S_redo
  a_has_solution : Addr
  d_has_solution : FuncData
  F_has_solution : Fun K "has_solution" "has_solution" s_has_solution a_has_solution d_has_solution
  g_has_solution : mg "has_solution" = some (.ref a_has_solution)
  a_law_town : Addr
  d_law_town : FuncData
  F_law_town : Fun K "_law_town" "_law_town" s_law_town a_law_town d_law_town
  g_law_town : mg "_law_town" = some (.ref a_law_town)
  a_law_draw : Addr
  d_law_draw : FuncData
  F_law_draw : Fun K "_law_draw" "_law_draw" s_law_draw a_law_draw d_law_draw
  g_law_draw : mg "_law_draw" = some (.ref a_law_draw)
  a_law_pick : Addr
  d_law_pick : FuncData
  F_law_pick : Fun K "_law_pick" "_law_pick" s_law_pick a_law_pick d_law_pick
  g_law_pick : mg "_law_pick" = some (.ref a_law_pick)
  a_law_name : Addr
  d_law_name : FuncData
  F_law_name : Fun K "_law_name" "_law_name" s_law_name a_law_name d_law_name
  g_law_name : mg "_law_name" = some (.ref a_law_name)
  a_law_raises : Addr
  d_law_raises : FuncData
  F_law_raises : Fun K "_law_raises" "_law_raises" s_law_raises a_law_raises d_law_raises
  g_law_raises : mg "_law_raises" = some (.ref a_law_raises)
  a_law_d : Addr
  d_law_d : FuncData
  F_law_d : Fun K "_law_d" "_law_d" s_law_d a_law_d d_law_d
  g_law_d : mg "_law_d" = some (.ref a_law_d)
  a_law_n : Addr
  d_law_n : FuncData
  F_law_n : Fun K "_law_n" "_law_n" s_law_n a_law_n d_law_n
  g_law_n : mg "_law_n" = some (.ref a_law_n)
  a_law_times : Addr
  d_law_times : FuncData
  F_law_times : Fun K "_law_times" "_law_times" s_law_times a_law_times d_law_times
  g_law_times : mg "_law_times" = some (.ref a_law_times)
  a_law_edit : Addr
  d_law_edit : FuncData
  F_law_edit : Fun K "_law_edit" "_law_edit" s_law_edit a_law_edit d_law_edit
  g_law_edit : mg "_law_edit" = some (.ref a_law_edit)
  a_law_do : Addr
  d_law_do : FuncData
  F_law_do : Fun K "_law_do" "_law_do" s_law_do a_law_do d_law_do
  g_law_do : mg "_law_do" = some (.ref a_law_do)
  a_law_back : Addr
  d_law_back : FuncData
  F_law_back : Fun K "_law_back" "_law_back" s_law_back a_law_back d_law_back
  g_law_back : mg "_law_back" = some (.ref a_law_back)
  a_law_equation : Addr
  d_law_equation : FuncData
  F_law_equation : Fun K "_law_equation" "_law_equation" s_law_equation a_law_equation d_law_equation
  g_law_equation : mg "_law_equation" = some (.ref a_law_equation)
  a_law_call : Addr
  d_law_call : FuncData
  F_law_call : Fun K "_law_call" "_law_call" s_law_call a_law_call d_law_call
  g_law_call : mg "_law_call" = some (.ref a_law_call)
  a_law_outcome : Addr
  d_law_outcome : FuncData
  F_law_outcome : Fun K "_law_outcome" "_law_outcome" s_law_outcome a_law_outcome d_law_outcome
  g_law_outcome : mg "_law_outcome" = some (.ref a_law_outcome)
  m_ValueError : mg "ValueError" = none
  m_abs : mg "abs" = none
  m_all : mg "all" = none
  m_bool : mg "bool" = none
  m_int : mg "int" = none
  m_isinstance : mg "isinstance" = none
  m_len : mg "len" = none
  m_list : mg "list" = none
  m_max : mg "max" = none
  m_range : mg "range" = none
  m_sorted : mg "sorted" = none
  m_str : mg "str" = none
  m_tuple : mg "tuple" = none
  mk_Session : Mk K c_Session a_S_init
  e_Session : EqC K c_Session a_S_eq
  is_Session : IsC K c_Session
  c_NormError : Addr
  g_NormError : mg "NormError" = some (.ref c_NormError)
  c_InvalidRoot : Addr
  g_InvalidRoot : mg "InvalidRoot" = some (.ref c_InvalidRoot)
  x_InvalidRoot : PySem.W.excIn K c_InvalidRoot [.type "ValueError", .type "Exception", .type "BaseException", .type "object"] "ValueError.__new__" = true
  k_InvalidRoot : PySem.W.keepIn K (.ref c_InvalidRoot) = true
  b_InvalidRoot : PySem.W.subIn K (.ref c_InvalidRoot) (.type "BaseException") = some true
  t_InvalidRoot : PySem.W.typeIn K (.ref c_InvalidRoot) = some (.type "type")
  e_InvalidRoot : ExcC K c_InvalidRoot
  v_InvalidRoot : PySem.W.kitOne K (.ref c_InvalidRoot) (.type "ValueError") = some true
  n_InvalidRoot : PySem.W.exmOne K (.ref c_InvalidRoot) (.ref c_NormError) = some true
  c_InvalidNorm : Addr
  g_InvalidNorm : mg "InvalidNorm" = some (.ref c_InvalidNorm)
  x_InvalidNorm : PySem.W.excIn K c_InvalidNorm [.type "ValueError", .type "Exception", .type "BaseException", .type "object"] "ValueError.__new__" = true
  k_InvalidNorm : PySem.W.keepIn K (.ref c_InvalidNorm) = true
  b_InvalidNorm : PySem.W.subIn K (.ref c_InvalidNorm) (.type "BaseException") = some true
  t_InvalidNorm : PySem.W.typeIn K (.ref c_InvalidNorm) = some (.type "type")
  e_InvalidNorm : ExcC K c_InvalidNorm
  v_InvalidNorm : PySem.W.kitOne K (.ref c_InvalidNorm) (.type "ValueError") = some true
  n_InvalidNorm : PySem.W.exmOne K (.ref c_InvalidNorm) (.ref c_NormError) = some true
  c_InvalidPair : Addr
  g_InvalidPair : mg "InvalidPair" = some (.ref c_InvalidPair)
  x_InvalidPair : PySem.W.excIn K c_InvalidPair [.type "ValueError", .type "Exception", .type "BaseException", .type "object"] "ValueError.__new__" = true
  k_InvalidPair : PySem.W.keepIn K (.ref c_InvalidPair) = true
  b_InvalidPair : PySem.W.subIn K (.ref c_InvalidPair) (.type "BaseException") = some true
  t_InvalidPair : PySem.W.typeIn K (.ref c_InvalidPair) = some (.type "type")
  e_InvalidPair : ExcC K c_InvalidPair
  v_InvalidPair : PySem.W.kitOne K (.ref c_InvalidPair) (.type "ValueError") = some true
  n_InvalidPair : PySem.W.exmOne K (.ref c_InvalidPair) (.ref c_NormError) = some true
  c_InvalidNumber : Addr
  g_InvalidNumber : mg "InvalidNumber" = some (.ref c_InvalidNumber)
  x_InvalidNumber : PySem.W.excIn K c_InvalidNumber [.type "ValueError", .type "Exception", .type "BaseException", .type "object"] "ValueError.__new__" = true
  k_InvalidNumber : PySem.W.keepIn K (.ref c_InvalidNumber) = true
  b_InvalidNumber : PySem.W.subIn K (.ref c_InvalidNumber) (.type "BaseException") = some true
  t_InvalidNumber : PySem.W.typeIn K (.ref c_InvalidNumber) = some (.type "type")
  e_InvalidNumber : ExcC K c_InvalidNumber
  v_InvalidNumber : PySem.W.kitOne K (.ref c_InvalidNumber) (.type "ValueError") = some true
  n_InvalidNumber : PySem.W.exmOne K (.ref c_InvalidNumber) (.ref c_NormError) = some true
  c_InvalidModulus : Addr
  g_InvalidModulus : mg "InvalidModulus" = some (.ref c_InvalidModulus)
  x_InvalidModulus : PySem.W.excIn K c_InvalidModulus [.type "ValueError", .type "Exception", .type "BaseException", .type "object"] "ValueError.__new__" = true
  k_InvalidModulus : PySem.W.keepIn K (.ref c_InvalidModulus) = true
  b_InvalidModulus : PySem.W.subIn K (.ref c_InvalidModulus) (.type "BaseException") = some true
  t_InvalidModulus : PySem.W.typeIn K (.ref c_InvalidModulus) = some (.type "type")
  e_InvalidModulus : ExcC K c_InvalidModulus
  v_InvalidModulus : PySem.W.kitOne K (.ref c_InvalidModulus) (.type "ValueError") = some true
  n_InvalidModulus : PySem.W.exmOne K (.ref c_InvalidModulus) (.ref c_NormError) = some true
  c_InvalidRests : Addr
  g_InvalidRests : mg "InvalidRests" = some (.ref c_InvalidRests)
  x_InvalidRests : PySem.W.excIn K c_InvalidRests [.type "ValueError", .type "Exception", .type "BaseException", .type "object"] "ValueError.__new__" = true
  k_InvalidRests : PySem.W.keepIn K (.ref c_InvalidRests) = true
  b_InvalidRests : PySem.W.subIn K (.ref c_InvalidRests) (.type "BaseException") = some true
  t_InvalidRests : PySem.W.typeIn K (.ref c_InvalidRests) = some (.type "type")
  e_InvalidRests : ExcC K c_InvalidRests
  v_InvalidRests : PySem.W.kitOne K (.ref c_InvalidRests) (.type "ValueError") = some true
  n_InvalidRests : PySem.W.exmOne K (.ref c_InvalidRests) (.ref c_NormError) = some true
  c_InvalidText : Addr
  g_InvalidText : mg "InvalidText" = some (.ref c_InvalidText)
  x_InvalidText : PySem.W.excIn K c_InvalidText [.type "ValueError", .type "Exception", .type "BaseException", .type "object"] "ValueError.__new__" = true
  k_InvalidText : PySem.W.keepIn K (.ref c_InvalidText) = true
  b_InvalidText : PySem.W.subIn K (.ref c_InvalidText) (.type "BaseException") = some true
  t_InvalidText : PySem.W.typeIn K (.ref c_InvalidText) = some (.type "type")
  e_InvalidText : ExcC K c_InvalidText
  v_InvalidText : PySem.W.kitOne K (.ref c_InvalidText) (.type "ValueError") = some true
  n_InvalidText : PySem.W.exmOne K (.ref c_InvalidText) (.ref c_NormError) = some true
  c_NoSolution : Addr
  g_NoSolution : mg "NoSolution" = some (.ref c_NoSolution)
  x_NoSolution : PySem.W.excIn K c_NoSolution [.type "ValueError", .type "Exception", .type "BaseException", .type "object"] "ValueError.__new__" = true
  k_NoSolution : PySem.W.keepIn K (.ref c_NoSolution) = true
  b_NoSolution : PySem.W.subIn K (.ref c_NoSolution) (.type "BaseException") = some true
  t_NoSolution : PySem.W.typeIn K (.ref c_NoSolution) = some (.type "type")
  e_NoSolution : ExcC K c_NoSolution
  v_NoSolution : PySem.W.kitOne K (.ref c_NoSolution) (.type "ValueError") = some true
  n_NoSolution : PySem.W.exmOne K (.ref c_NoSolution) (.ref c_NormError) = some true
  c_NothingToUndo : Addr
  g_NothingToUndo : mg "NothingToUndo" = some (.ref c_NothingToUndo)
  x_NothingToUndo : PySem.W.excIn K c_NothingToUndo [.type "ValueError", .type "Exception", .type "BaseException", .type "object"] "ValueError.__new__" = true
  k_NothingToUndo : PySem.W.keepIn K (.ref c_NothingToUndo) = true
  b_NothingToUndo : PySem.W.subIn K (.ref c_NothingToUndo) (.type "BaseException") = some true
  t_NothingToUndo : PySem.W.typeIn K (.ref c_NothingToUndo) = some (.type "type")
  e_NothingToUndo : ExcC K c_NothingToUndo
  v_NothingToUndo : PySem.W.kitOne K (.ref c_NothingToUndo) (.type "ValueError") = some true
  n_NothingToUndo : PySem.W.exmOne K (.ref c_NothingToUndo) (.ref c_NormError) = some true
  i_InvalidRoot_InvalidRoot : PySem.W.kitOne K (.ref c_InvalidRoot) (.ref c_InvalidRoot) = some true
  i_InvalidRoot_InvalidNorm : PySem.W.kitOne K (.ref c_InvalidRoot) (.ref c_InvalidNorm) = some false
  i_InvalidRoot_InvalidPair : PySem.W.kitOne K (.ref c_InvalidRoot) (.ref c_InvalidPair) = some false
  i_InvalidRoot_InvalidNumber : PySem.W.kitOne K (.ref c_InvalidRoot) (.ref c_InvalidNumber) = some false
  i_InvalidRoot_InvalidModulus : PySem.W.kitOne K (.ref c_InvalidRoot) (.ref c_InvalidModulus) = some false
  i_InvalidRoot_InvalidRests : PySem.W.kitOne K (.ref c_InvalidRoot) (.ref c_InvalidRests) = some false
  i_InvalidRoot_InvalidText : PySem.W.kitOne K (.ref c_InvalidRoot) (.ref c_InvalidText) = some false
  i_InvalidRoot_NoSolution : PySem.W.kitOne K (.ref c_InvalidRoot) (.ref c_NoSolution) = some false
  i_InvalidRoot_NothingToUndo : PySem.W.kitOne K (.ref c_InvalidRoot) (.ref c_NothingToUndo) = some false
  i_InvalidNorm_InvalidRoot : PySem.W.kitOne K (.ref c_InvalidNorm) (.ref c_InvalidRoot) = some false
  i_InvalidNorm_InvalidNorm : PySem.W.kitOne K (.ref c_InvalidNorm) (.ref c_InvalidNorm) = some true
  i_InvalidNorm_InvalidPair : PySem.W.kitOne K (.ref c_InvalidNorm) (.ref c_InvalidPair) = some false
  i_InvalidNorm_InvalidNumber : PySem.W.kitOne K (.ref c_InvalidNorm) (.ref c_InvalidNumber) = some false
  i_InvalidNorm_InvalidModulus : PySem.W.kitOne K (.ref c_InvalidNorm) (.ref c_InvalidModulus) = some false
  i_InvalidNorm_InvalidRests : PySem.W.kitOne K (.ref c_InvalidNorm) (.ref c_InvalidRests) = some false
  i_InvalidNorm_InvalidText : PySem.W.kitOne K (.ref c_InvalidNorm) (.ref c_InvalidText) = some false
  i_InvalidNorm_NoSolution : PySem.W.kitOne K (.ref c_InvalidNorm) (.ref c_NoSolution) = some false
  i_InvalidNorm_NothingToUndo : PySem.W.kitOne K (.ref c_InvalidNorm) (.ref c_NothingToUndo) = some false
  i_InvalidPair_InvalidRoot : PySem.W.kitOne K (.ref c_InvalidPair) (.ref c_InvalidRoot) = some false
  i_InvalidPair_InvalidNorm : PySem.W.kitOne K (.ref c_InvalidPair) (.ref c_InvalidNorm) = some false
  i_InvalidPair_InvalidPair : PySem.W.kitOne K (.ref c_InvalidPair) (.ref c_InvalidPair) = some true
  i_InvalidPair_InvalidNumber : PySem.W.kitOne K (.ref c_InvalidPair) (.ref c_InvalidNumber) = some false
  i_InvalidPair_InvalidModulus : PySem.W.kitOne K (.ref c_InvalidPair) (.ref c_InvalidModulus) = some false
  i_InvalidPair_InvalidRests : PySem.W.kitOne K (.ref c_InvalidPair) (.ref c_InvalidRests) = some false
  i_InvalidPair_InvalidText : PySem.W.kitOne K (.ref c_InvalidPair) (.ref c_InvalidText) = some false
  i_InvalidPair_NoSolution : PySem.W.kitOne K (.ref c_InvalidPair) (.ref c_NoSolution) = some false
  i_InvalidPair_NothingToUndo : PySem.W.kitOne K (.ref c_InvalidPair) (.ref c_NothingToUndo) = some false
  i_InvalidNumber_InvalidRoot : PySem.W.kitOne K (.ref c_InvalidNumber) (.ref c_InvalidRoot) = some false
  i_InvalidNumber_InvalidNorm : PySem.W.kitOne K (.ref c_InvalidNumber) (.ref c_InvalidNorm) = some false
  i_InvalidNumber_InvalidPair : PySem.W.kitOne K (.ref c_InvalidNumber) (.ref c_InvalidPair) = some false
  i_InvalidNumber_InvalidNumber : PySem.W.kitOne K (.ref c_InvalidNumber) (.ref c_InvalidNumber) = some true
  i_InvalidNumber_InvalidModulus : PySem.W.kitOne K (.ref c_InvalidNumber) (.ref c_InvalidModulus) = some false
  i_InvalidNumber_InvalidRests : PySem.W.kitOne K (.ref c_InvalidNumber) (.ref c_InvalidRests) = some false
  i_InvalidNumber_InvalidText : PySem.W.kitOne K (.ref c_InvalidNumber) (.ref c_InvalidText) = some false
  i_InvalidNumber_NoSolution : PySem.W.kitOne K (.ref c_InvalidNumber) (.ref c_NoSolution) = some false
  i_InvalidNumber_NothingToUndo : PySem.W.kitOne K (.ref c_InvalidNumber) (.ref c_NothingToUndo) = some false
  i_InvalidModulus_InvalidRoot : PySem.W.kitOne K (.ref c_InvalidModulus) (.ref c_InvalidRoot) = some false
  i_InvalidModulus_InvalidNorm : PySem.W.kitOne K (.ref c_InvalidModulus) (.ref c_InvalidNorm) = some false
  i_InvalidModulus_InvalidPair : PySem.W.kitOne K (.ref c_InvalidModulus) (.ref c_InvalidPair) = some false
  i_InvalidModulus_InvalidNumber : PySem.W.kitOne K (.ref c_InvalidModulus) (.ref c_InvalidNumber) = some false
  i_InvalidModulus_InvalidModulus : PySem.W.kitOne K (.ref c_InvalidModulus) (.ref c_InvalidModulus) = some true
  i_InvalidModulus_InvalidRests : PySem.W.kitOne K (.ref c_InvalidModulus) (.ref c_InvalidRests) = some false
  i_InvalidModulus_InvalidText : PySem.W.kitOne K (.ref c_InvalidModulus) (.ref c_InvalidText) = some false
  i_InvalidModulus_NoSolution : PySem.W.kitOne K (.ref c_InvalidModulus) (.ref c_NoSolution) = some false
  i_InvalidModulus_NothingToUndo : PySem.W.kitOne K (.ref c_InvalidModulus) (.ref c_NothingToUndo) = some false
  i_InvalidRests_InvalidRoot : PySem.W.kitOne K (.ref c_InvalidRests) (.ref c_InvalidRoot) = some false
  i_InvalidRests_InvalidNorm : PySem.W.kitOne K (.ref c_InvalidRests) (.ref c_InvalidNorm) = some false
  i_InvalidRests_InvalidPair : PySem.W.kitOne K (.ref c_InvalidRests) (.ref c_InvalidPair) = some false
  i_InvalidRests_InvalidNumber : PySem.W.kitOne K (.ref c_InvalidRests) (.ref c_InvalidNumber) = some false
  i_InvalidRests_InvalidModulus : PySem.W.kitOne K (.ref c_InvalidRests) (.ref c_InvalidModulus) = some false
  i_InvalidRests_InvalidRests : PySem.W.kitOne K (.ref c_InvalidRests) (.ref c_InvalidRests) = some true
  i_InvalidRests_InvalidText : PySem.W.kitOne K (.ref c_InvalidRests) (.ref c_InvalidText) = some false
  i_InvalidRests_NoSolution : PySem.W.kitOne K (.ref c_InvalidRests) (.ref c_NoSolution) = some false
  i_InvalidRests_NothingToUndo : PySem.W.kitOne K (.ref c_InvalidRests) (.ref c_NothingToUndo) = some false
  i_InvalidText_InvalidRoot : PySem.W.kitOne K (.ref c_InvalidText) (.ref c_InvalidRoot) = some false
  i_InvalidText_InvalidNorm : PySem.W.kitOne K (.ref c_InvalidText) (.ref c_InvalidNorm) = some false
  i_InvalidText_InvalidPair : PySem.W.kitOne K (.ref c_InvalidText) (.ref c_InvalidPair) = some false
  i_InvalidText_InvalidNumber : PySem.W.kitOne K (.ref c_InvalidText) (.ref c_InvalidNumber) = some false
  i_InvalidText_InvalidModulus : PySem.W.kitOne K (.ref c_InvalidText) (.ref c_InvalidModulus) = some false
  i_InvalidText_InvalidRests : PySem.W.kitOne K (.ref c_InvalidText) (.ref c_InvalidRests) = some false
  i_InvalidText_InvalidText : PySem.W.kitOne K (.ref c_InvalidText) (.ref c_InvalidText) = some true
  i_InvalidText_NoSolution : PySem.W.kitOne K (.ref c_InvalidText) (.ref c_NoSolution) = some false
  i_InvalidText_NothingToUndo : PySem.W.kitOne K (.ref c_InvalidText) (.ref c_NothingToUndo) = some false
  i_NoSolution_InvalidRoot : PySem.W.kitOne K (.ref c_NoSolution) (.ref c_InvalidRoot) = some false
  i_NoSolution_InvalidNorm : PySem.W.kitOne K (.ref c_NoSolution) (.ref c_InvalidNorm) = some false
  i_NoSolution_InvalidPair : PySem.W.kitOne K (.ref c_NoSolution) (.ref c_InvalidPair) = some false
  i_NoSolution_InvalidNumber : PySem.W.kitOne K (.ref c_NoSolution) (.ref c_InvalidNumber) = some false
  i_NoSolution_InvalidModulus : PySem.W.kitOne K (.ref c_NoSolution) (.ref c_InvalidModulus) = some false
  i_NoSolution_InvalidRests : PySem.W.kitOne K (.ref c_NoSolution) (.ref c_InvalidRests) = some false
  i_NoSolution_InvalidText : PySem.W.kitOne K (.ref c_NoSolution) (.ref c_InvalidText) = some false
  i_NoSolution_NoSolution : PySem.W.kitOne K (.ref c_NoSolution) (.ref c_NoSolution) = some true
  i_NoSolution_NothingToUndo : PySem.W.kitOne K (.ref c_NoSolution) (.ref c_NothingToUndo) = some false
  i_NothingToUndo_InvalidRoot : PySem.W.kitOne K (.ref c_NothingToUndo) (.ref c_InvalidRoot) = some false
  i_NothingToUndo_InvalidNorm : PySem.W.kitOne K (.ref c_NothingToUndo) (.ref c_InvalidNorm) = some false
  i_NothingToUndo_InvalidPair : PySem.W.kitOne K (.ref c_NothingToUndo) (.ref c_InvalidPair) = some false
  i_NothingToUndo_InvalidNumber : PySem.W.kitOne K (.ref c_NothingToUndo) (.ref c_InvalidNumber) = some false
  i_NothingToUndo_InvalidModulus : PySem.W.kitOne K (.ref c_NothingToUndo) (.ref c_InvalidModulus) = some false
  i_NothingToUndo_InvalidRests : PySem.W.kitOne K (.ref c_NothingToUndo) (.ref c_InvalidRests) = some false
  i_NothingToUndo_InvalidText : PySem.W.kitOne K (.ref c_NothingToUndo) (.ref c_InvalidText) = some false
  i_NothingToUndo_NoSolution : PySem.W.kitOne K (.ref c_NothingToUndo) (.ref c_NoSolution) = some false
  i_NothingToUndo_NothingToUndo : PySem.W.kitOne K (.ref c_NothingToUndo) (.ref c_NothingToUndo) = some true
  t_GREAT : Tok
  g_GREAT : mg "GREAT" = some (.int (1000000000000000000000000000000000000000000000000000000000000) t_GREAT)
def Txt.ca {K : PySem.W.Frag} {mg : Str → Option Value} (T : Txt K mg) : Nat → Addr
  | 0 => T.c_InvalidRoot
  | 1 => T.c_InvalidNorm
  | 2 => T.c_InvalidPair
  | 3 => T.c_InvalidNumber
  | 4 => T.c_InvalidModulus
  | 5 => T.c_InvalidRests
  | 6 => T.c_InvalidText
  | 7 => T.c_NoSolution
  | _ => T.c_NothingToUndo
def Txt.cl {K : PySem.W.Frag} {mg : Str → Option Value} (T : Txt K mg) (j : Nat) : Value := .ref (T.ca j)
theorem hu65 {k : Nat} {A : Around} (r : Room k A) : A.units + 65 < cLine := by have := r.un; omega
section
variable {P : Program} {w : World} {K : PySem.W.Frag} {mg : Str → Option Value} {base : Heap}
theorem b_is_integer (T : Txt K mg) : Binds K T.d_is_integer ["value"] [] := T.F_is_integer.binds (ps := ["value"]) fun _ _ _ _ _ _ us hl => match us, hl with | [_], _ => rfl
theorem b_is_between (T : Txt K mg) : Binds K T.d_is_between ["value", "low", "high"] [] := T.F_is_between.binds (ps := ["value", "low", "high"]) fun _ _ _ _ _ _ us hl => match us, hl with | [_, _, _], _ => rfl
theorem b_root_of (T : Txt K mg) : Binds K T.d_root_of ["number"] [] := T.F_root_of.binds (ps := ["number"]) fun _ _ _ _ _ _ us hl => match us, hl with | [_], _ => rfl
theorem b_is_root (T : Txt K mg) : Binds K T.d_is_root ["value"] [] := T.F_is_root.binds (ps := ["value"]) fun _ _ _ _ _ _ us hl => match us, hl with | [_], _ => rfl
theorem b_check_root (T : Txt K mg) : Binds K T.d_check_root ["d"] [] := T.F_check_root.binds (ps := ["d"]) fun _ _ _ _ _ _ us hl => match us, hl with | [_], _ => rfl
theorem b_is_pair (T : Txt K mg) : Binds K T.d_is_pair ["value"] [] := T.F_is_pair.binds (ps := ["value"]) fun _ _ _ _ _ _ us hl => match us, hl with | [_], _ => rfl
theorem b_check_pair (T : Txt K mg) : Binds K T.d_check_pair ["value"] [] := T.F_check_pair.binds (ps := ["value"]) fun _ _ _ _ _ _ us hl => match us, hl with | [_], _ => rfl
theorem b_check_number (T : Txt K mg) : Binds K T.d_check_number ["value", "low", "high"] [] := T.F_check_number.binds (ps := ["value", "low", "high"]) fun _ _ _ _ _ _ us hl => match us, hl with | [_, _, _], _ => rfl
theorem b_norm_of (T : Txt K mg) : Binds K T.d_norm_of ["d", "pair"] [] := T.F_norm_of.binds (ps := ["d", "pair"]) fun _ _ _ _ _ _ us hl => match us, hl with | [_, _], _ => rfl
theorem b_times (T : Txt K mg) : Binds K T.d_times ["d", "one", "other"] [] := T.F_times.binds (ps := ["d", "one", "other"]) fun _ _ _ _ _ _ us hl => match us, hl with | [_, _, _], _ => rfl
theorem b_opposite (T : Txt K mg) : Binds K T.d_opposite ["pair"] [] := T.F_opposite.binds (ps := ["pair"]) fun _ _ _ _ _ _ us hl => match us, hl with | [_], _ => rfl
theorem b_fractions_of (T : Txt K mg) : Binds K T.d_fractions_of ["d"] [] := T.F_fractions_of.binds (ps := ["d"]) fun _ _ _ _ _ _ us hl => match us, hl with | [_], _ => rfl
theorem b_convergent_of (T : Txt K mg) : Binds K T.d_convergent_of ["d", "k"] [] := T.F_convergent_of.binds (ps := ["d", "k"]) fun _ _ _ _ _ _ us hl => match us, hl with | [_, _], _ => rfl
theorem b_found_unit (T : Txt K mg) : Binds K T.d_found_unit ["d"] [] := T.F_found_unit.binds (ps := ["d"]) fun _ _ _ _ _ _ us hl => match us, hl with | [_], _ => rfl
theorem b_least_unit (T : Txt K mg) : Binds K T.d_least_unit ["d"] [] := T.F_least_unit.binds (ps := ["d"]) fun _ _ _ _ _ _ us hl => match us, hl with | [_], _ => rfl
theorem b_is_norm (T : Txt K mg) : Binds K T.d_is_norm ["value"] [] := T.F_is_norm.binds (ps := ["value"]) fun _ _ _ _ _ _ us hl => match us, hl with | [_], _ => rfl
theorem b_check_norm (T : Txt K mg) : Binds K T.d_check_norm ["n"] [] := T.F_check_norm.binds (ps := ["n"]) fun _ _ _ _ _ _ us hl => match us, hl with | [_], _ => rfl
theorem b_check_both (T : Txt K mg) : Binds K T.d_check_both ["d", "n"] [] := T.F_check_both.binds (ps := ["d", "n"]) fun _ _ _ _ _ _ us hl => match us, hl with | [_, _], _ => rfl
theorem b_bound_for (T : Txt K mg) : Binds K T.d_bound_for ["d", "n"] [] := T.F_bound_for.binds (ps := ["d", "n"]) fun _ _ _ _ _ _ us hl => match us, hl with | [_, _], _ => rfl
theorem b_is_better (T : Txt K mg) : Binds K T.d_is_better ["one", "other"] [] := T.F_is_better.binds (ps := ["one", "other"]) fun _ _ _ _ _ _ us hl => match us, hl with | [_, _], _ => rfl
theorem b_head_of (T : Txt K mg) : Binds K T.d_head_of ["d", "pair"] [] := T.F_head_of.binds (ps := ["d", "pair"]) fun _ _ _ _ _ _ us hl => match us, hl with | [_, _], _ => rfl
theorem b_found_heads (T : Txt K mg) : Binds K T.d_found_heads ["d", "n"] [] := T.F_found_heads.binds (ps := ["d", "n"]) fun _ _ _ _ _ _ us hl => match us, hl with | [_, _], _ => rfl
theorem b_heads (T : Txt K mg) : Binds K T.d_heads ["d", "n"] [] := T.F_heads.binds (ps := ["d", "n"]) fun _ _ _ _ _ _ us hl => match us, hl with | [_, _], _ => rfl
theorem b_place_of (T : Txt K mg) : Binds K T.d_place_of ["d", "pair"] [] := T.F_place_of.binds (ps := ["d", "pair"]) fun _ _ _ _ _ _ us hl => match us, hl with | [_, _], _ => rfl
theorem b_S_init (T : Txt K mg) : Binds K T.d_S_init ["self", "d", "n"] [] := T.F_S_init.binds (ps := ["self", "d", "n"]) fun _ _ _ _ _ _ us hl => match us, hl with | [_, _, _], _ => rfl
theorem b_S_len (T : Txt K mg) : Binds K T.d_S_len ["self"] [] := T.F_S_len.binds (ps := ["self"]) fun _ _ _ _ _ _ us hl => match us, hl with | [_], _ => rfl
theorem b_S_eq (T : Txt K mg) : Binds K T.d_S_eq ["self", "other"] [] := T.F_S_eq.binds (ps := ["self", "other"]) fun _ _ _ _ _ _ us hl => match us, hl with | [_, _], _ => rfl
theorem b_S_str (T : Txt K mg) : Binds K T.d_S_str ["self"] [] := T.F_S_str.binds (ps := ["self"]) fun _ _ _ _ _ _ us hl => match us, hl with | [_], _ => rfl
theorem b_S_perform (T : Txt K mg) : Binds K T.d_S_perform ["self", "pair", "operation"] [] := T.F_S_perform.binds (ps := ["self", "pair", "operation"]) fun _ _ _ _ _ _ us hl => match us, hl with | [_, _, _], _ => rfl
theorem b_S_up (T : Txt K mg) : Binds K T.d_S_up ["self"] [] := T.F_S_up.binds (ps := ["self"]) fun _ _ _ _ _ _ us hl => match us, hl with | [_], _ => rfl
theorem b_S_down (T : Txt K mg) : Binds K T.d_S_down ["self"] [] := T.F_S_down.binds (ps := ["self"]) fun _ _ _ _ _ _ us hl => match us, hl with | [_], _ => rfl
theorem b_S_choose (T : Txt K mg) : Binds K T.d_S_choose ["self", "number"] [] := T.F_S_choose.binds (ps := ["self", "number"]) fun _ _ _ _ _ _ us hl => match us, hl with | [_, _], _ => rfl
theorem b_S_solution (T : Txt K mg) : Binds K T.d_S_solution ["self"] [] := T.F_S_solution.binds (ps := ["self"]) fun _ _ _ _ _ _ us hl => match us, hl with | [_], _ => rfl
theorem b_S_number (T : Txt K mg) : Binds K T.d_S_number ["self"] [] := T.F_S_number.binds (ps := ["self"]) fun _ _ _ _ _ _ us hl => match us, hl with | [_], _ => rfl
theorem b_S_undo (T : Txt K mg) : Binds K T.d_S_undo ["self"] [] := T.F_S_undo.binds (ps := ["self"]) fun _ _ _ _ _ _ us hl => match us, hl with | [_], _ => rfl
theorem b_S_redo (T : Txt K mg) : Binds K T.d_S_redo ["self"] [] := T.F_S_redo.binds (ps := ["self"]) fun _ _ _ _ _ _ us hl => match us, hl with | [_], _ => rfl
theorem b_has_solution (T : Txt K mg) : Binds K T.d_has_solution ["d", "n"] [] := T.F_has_solution.binds (ps := ["d", "n"]) fun _ _ _ _ _ _ us hl => match us, hl with | [_, _], _ => rfl
theorem b_law_town (T : Txt K mg) : Binds K T.d_law_town ["script"] [] := T.F_law_town.binds (ps := ["script"]) fun _ _ _ _ _ _ us hl => match us, hl with | [_], _ => rfl
theorem b_law_draw (T : Txt K mg) : Binds K T.d_law_draw ["script", "town", "limit"] [] := T.F_law_draw.binds (ps := ["script", "town", "limit"]) fun _ _ _ _ _ _ us hl => match us, hl with | [_, _, _], _ => rfl
theorem b_law_pick (T : Txt K mg) : Binds K T.d_law_pick ["script", "town", "choices"] [] := T.F_law_pick.binds (ps := ["script", "town", "choices"]) fun _ _ _ _ _ _ us hl => match us, hl with | [_, _, _], _ => rfl
theorem b_law_name (T : Txt K mg) : Binds K T.d_law_name ["caught"] [] := T.F_law_name.binds (ps := ["caught"]) fun _ _ _ _ _ _ us hl => match us, hl with | [_], _ => rfl
theorem b_law_raises (T : Txt K mg) : Binds K T.d_law_raises ["name"] [] := T.F_law_raises.binds (ps := ["name"]) fun _ _ _ _ _ _ us hl => match us, hl with | [_], _ => rfl
theorem b_law_d (T : Txt K mg) : Binds K T.d_law_d ["script", "town"] [] := T.F_law_d.binds (ps := ["script", "town"]) fun _ _ _ _ _ _ us hl => match us, hl with | [_, _], _ => rfl
theorem b_law_n (T : Txt K mg) : Binds K T.d_law_n ["script", "town", "d"] [] := T.F_law_n.binds (ps := ["script", "town", "d"]) fun _ _ _ _ _ _ us hl => match us, hl with | [_, _, _], _ => rfl
theorem b_law_times (T : Txt K mg) : Binds K T.d_law_times ["d", "one", "other"] [] := T.F_law_times.binds (ps := ["d", "one", "other"]) fun _ _ _ _ _ _ us hl => match us, hl with | [_, _, _], _ => rfl
theorem b_law_edit (T : Txt K mg) : Binds K T.d_law_edit ["script", "town", "d", "rows", "pair"] [] := T.F_law_edit.binds (ps := ["script", "town", "d", "rows", "pair"]) fun _ _ _ _ _ _ us hl => match us, hl with | [_, _, _, _, _], _ => rfl
theorem b_law_do (T : Txt K mg) : Binds K T.d_law_do ["session", "name", "number"] [] := T.F_law_do.binds (ps := ["session", "name", "number"]) fun _ _ _ _ _ _ us hl => match us, hl with | [_, _, _], _ => rfl
theorem b_law_back (T : Txt K mg) : Binds K T.d_law_back ["way", "session"] [] := T.F_law_back.binds (ps := ["way", "session"]) fun _ _ _ _ _ _ us hl => match us, hl with | [_, _], _ => rfl
theorem b_law_equation (T : Txt K mg) : Binds K T.d_law_equation ["script", "town"] [] := T.F_law_equation.binds (ps := ["script", "town"]) fun _ _ _ _ _ _ us hl => match us, hl with | [_, _], _ => rfl
theorem b_law_call (T : Txt K mg) : Binds K T.d_law_call ["way", "arguments"] [] := T.F_law_call.binds (ps := ["way", "arguments"]) fun _ _ _ _ _ _ us hl => match us, hl with | [_, _], _ => rfl
theorem b_law_outcome (T : Txt K mg) : Binds K T.d_law_outcome ["way", "arguments"] [] := T.F_law_outcome.binds (ps := ["way", "arguments"]) fun _ _ _ _ _ _ us hl => match us, hl with | [_, _], _ => rfl
end
/-- is it an int, not a bool -/
def intE : En → Bool
  | .im (.int _) => true
  | _ => false
def okE : En → Bool
  | .im (.dict _) => false
  | .sc _ => false
  | .tw => false
  | .own _ => false
  | .ses _ => false
  | .sp _ _ => false
  | _ => true
def F_is_integer : FT := fun es c k => match es with
  | [x] => okE x = true ∧ k (.im (.bool (intE x))) c
  | _ => False

section
variable {P : Program} {w : World} {K : PySem.W.Frag} {mg : Str → Option Value} {base : Heap}
theorem ok_is_integer (T : Txt K mg) : FnOk P w K mg base CX0 1 T.a_is_integer T.d_is_integer ["value"] (spD K F_is_integer) := by
  refine fnD T.F_is_integer sc_is_integer (fun es c k h => ?_) (fun cdv A outer s H E hr => (ds_one (ds_ret (de_and (de_isi (Or.inl rfl) (by rfl) T.m_isinstance (by rfl) T.m_int (by decide +kernel) (de_var 0)) (de_one (de_not (de_isi (Or.inr (Or.inl rfl)) (by rfl) T.m_isinstance (by rfl) T.m_bool (by decide +kernel) (de_var 0)))))))) (fun es c k h => ?_)
  · unfold F_is_integer at h
    split at h <;> first | rfl | exact h.elim
  · unfold F_is_integer at h
    split at h
    · rename_i x
      obtain ⟨h1, h⟩ := h
      cases x with
      | im d => cases d <;> first | exact h | cases h1
      | ro xs => exact h
      | _ => cases h1
    · exact h.elim
end
/-- is it an int from lo to hi -/
def betE (lo hi : Int) : En → Bool
  | .im (.int i) => decide (lo ≤ i) && decide (i ≤ hi)
  | _ => false
def F_is_between : FT := fun es c k => match es with
  | [x, .im (.int lo), .im (.int hi)] => okE x = true ∧ k (.im (.bool (betE lo hi x))) c
  | _ => False

section
variable {P : Program} {w : World} {K : PySem.W.Frag} {mg : Str → Option Value} {base : Heap}
theorem ok_is_between (T : Txt K mg) : FnOk P w K mg base CX0 2 T.a_is_between T.d_is_between ["value", "low", "high"] (spD K F_is_between) := by
  have G_is_integer := ok_is_integer (P := P) (w := w) (base := base) T
  refine fnD T.F_is_between sc_is_between (fun es c k h => ?_) (fun cdv A outer s H E hr => (ds_one (ds_ret (de_and (de_call G_is_integer (hr.mono (by decide)) (by rfl) T.g_is_integer T.F_is_integer.kp (b_is_integer T) (da_cons (de_var 0) da_nil)) (de_one (de_chain od_le od_le (de_var 1) (de_var 0) (de_var 2))))))) (fun es c k h => ?_)
  · unfold F_is_between at h
    split at h <;> first | rfl | exact h.elim
  · unfold F_is_between at h
    split at h
    · rename_i x lo hi
      obtain ⟨h1, h⟩ := h
      cases x with
      | im d =>
        cases d with
        | int i =>
          walk_at "nd"
          refine ⟨rfl, ?_⟩
          simp only [intE, if_true]
          unfold betE at h
          by_cases h1 : lo ≤ i
          · simp only [decide_eq_true h1, if_true, Bool.true_and] at h ⊢
            exact h
          · simp only [decide_eq_false h1, Bool.false_and, Bool.false_eq_true, if_false] at h ⊢
            exact h
        | _ => first | exact ⟨rfl, h⟩ | cases h1
      | ro xs => exact ⟨rfl, h⟩
      | _ => cases h1
    · exact h.elim
end
def F_root_of : FT := fun es c k => match es with
  | [.im (.int n)] => 0 ≤ n ∧ Bd 9000 n ∧ ∀ r, IsRoot n r → k (.im (.int r)) c
  | _ => False

section
variable {P : Program} {w : World} {K : PySem.W.Frag} {mg : Str → Option Value} {base : Heap}
theorem ok_root_of (T : Txt K mg) : FnOk P w K mg base CX0 1 T.a_root_of T.d_root_of ["number"] (spD K F_root_of) := by
  refine fnD T.F_root_of sc_root_of (fun es c k h => ?_) (fun cdv A outer s H E hr => (ds_cons (ds_asgB rfl (de_tup (da_cons de_int (da_cons de_int da_nil))) (dgs_cons (dg_name (i := 1) sc_root_of.nd rfl (by first | exact Or.inl rfl | exact Or.inr rfl)) (dgs_cons (dg_name (i := 2) sc_root_of.nd rfl (by first | exact Or.inl rfl | exact Or.inr rfl)) dgs_nil)) 2 glen2)
  (ds_cons (ds_while PassesOwn.never (dt_cmp od_le (de_op od_mul (de_var 2) (de_var 2)) (de_var 0) (nomark _))
    (ds_one (ds_set (i := 2) sc_root_of.nd rfl (by first | exact Or.inl rfl | exact Or.inr rfl) (de_op od_mul de_int (de_var 2)))))
  (ds_cons (ds_while PassesOwn.never (dt_cmp od_gt (de_op od_sub (de_var 2) (de_var 1)) de_int (nomark _))
    (ds_cons (ds_set (i := 3) sc_root_of.nd rfl (by first | exact Or.inl rfl | exact Or.inr rfl) (de_op od_div (de_op od_add (de_var 1) (de_var 2)) de_int))
    (ds_one (ds_if (dt_cmp od_le (de_op od_mul (de_var 3) (de_var 3)) (de_var 0) (nomark _))
      (ds_one (ds_set (i := 1) sc_root_of.nd rfl (by first | exact Or.inl rfl | exact Or.inr rfl) (de_var 3)))
      (ds_one (ds_set (i := 2) sc_root_of.nd rfl (by first | exact Or.inl rfl | exact Or.inr rfl) (de_var 3)))))))
  (ds_one (ds_retv 1)))))) (fun es c k h => ?_)
  · unfold F_root_of at h
    split at h <;> first | rfl | exact h.elim
  · unfold F_root_of at h
    split at h
    · rename_i n
      obtain ⟨h0, hb, h⟩ := h
      walk_at "nd"
      have one : Bd 1 1 := (by decide : (1 : Int).natAbs < 2 ^ 1)
      have two : Bd 2 2 := (by decide : (2 : Int).natAbs < 2 ^ 2)
      refine ⟨fun (m : Nat) (S : Sl) c' => c' = c ∧ ∃ hi : Int, S = [some (.im (.int n)), some (.im (.int 0)), some (.im (.int hi)), none] ∧ 1 ≤ hi ∧ (hi = 1 ∨ ∃ g, hi = 2 * g ∧ 0 ≤ g ∧ g * g ≤ n) ∧ m = (2 * n + 2 - hi).toNat, ⟨_, rfl, 1, rfl, by omega, .inl rfl, rfl⟩, ?_⟩
      intro m S c' hW
      obtain ⟨hc, hi, rfl, h1, hg, rfl⟩ := hW
      have hbi : Bd 9002 hi := by
        rcases hg with rfl | ⟨g, rfl, g0, g1⟩
        · exact one.mono (by decide)
        · have := two.mul (bd_sq g0 g1 hb)
          exact this.mono (by decide)
      walk_at "nd"
      refine ⟨hbi.mulW hbi (by decide), ?_⟩
      by_cases hl : hi * hi ≤ n
      · simp only [decide_eq_true hl, if_true]
        have h2 : hi ≤ hi * hi := by
          have := Int.mul_le_mul h1 (Int.le_refl hi) (by omega) (by omega)
          omega
        exact ⟨two.mulW hbi (by decide), _, (by omega : (2 * n + 2 - 2 * hi).toNat < _), hc, 2 * hi, rfl, by omega, .inr ⟨hi, rfl, by omega, hl⟩, rfl⟩
      · simp only [decide_eq_false hl, Bool.false_eq_true, if_false]
        refine ⟨fun (m : Nat) (S : Sl) q => q = c ∧ ∃ lo hi : Int, ∃ x, S = [some (.im (.int n)), some (.im (.int lo)), some (.im (.int hi)), x] ∧ 0 ≤ lo ∧ lo < hi ∧ lo * lo ≤ n ∧ n < hi * hi ∧ Bd 9002 hi ∧ m = (hi - lo).toNat, ⟨_, hc, 0, hi, none, rfl, by omega, by omega, by omega, by omega, hbi, rfl⟩, ?_⟩
        intro m S q hW
        obtain ⟨hq', lo, hi, x, rfl, l0, l1, l2, l3, hh, rfl⟩ := hW
        walk_at "nd"
        by_cases hd : 1 < hi - lo
        · simp only [decide_eq_true hd, if_true]
          have e2 : (lo + hi) / 2 * 2 ≤ lo + hi ∧ lo + hi < (lo + hi) / 2 * 2 + 2 := by omega
          generalize hm : (lo + hi) / 2 = mid
          rw [hm] at e2
          refine ⟨⟨by decide, by decide⟩, ?_⟩
          have m0 : 0 ≤ mid := by omega
          have m1 : Bd 9002 mid := by
            unfold Bd at hh ⊢
            omega
          refine ⟨m1.mulW m1 (by decide), ?_⟩
          by_cases hq : mid * mid ≤ n
          · simp only [decide_eq_true hq, if_true]
            exact ⟨_, (by omega : (hi - mid).toNat < _), hq', mid, hi, _, rfl, by omega, by omega, hq, l3, hh, rfl⟩
          · simp only [decide_eq_false hq, Bool.false_eq_true, if_false]
            exact ⟨_, (by omega : (mid - lo).toNat < _), hq', lo, mid, _, rfl, by omega, by omega, l2, by omega, m1, rfl⟩
        · simp only [decide_eq_false hd, Bool.false_eq_true, if_false]
          have e : hi = lo + 1 := by omega
          subst e
          rw [hq']
          exact h lo ⟨l0, l2, l3⟩
    · exact h.elim
end
def rootE : En → Bool
  | .im (.int i) => rootD i
  | _ => false
def F_is_root : FT := fun es c k => match es with
  | [x] => okE x = true ∧ k (.im (.bool (rootE x))) c
  | _ => False
theorem sq_dec : ∀ n : Fin 61, ∀ r : Fin 61, (r.val : Int) * r.val ≤ n.val → (n.val : Int) < (r.val + 1) * (r.val + 1) → 2 ≤ n.val → decide (¬ (r.val : Int) * r.val = n.val) = !([4, 9, 16, 25, 36, 49].contains (n.val : Int)) := by decide +kernel
theorem isq_dec {i r : Int} (h2 : 2 ≤ i) (h60 : i ≤ 60) (h : IsRoot i r) : (!decide (r * r = i)) = rootD i := by
  have r0 := h.nn
  have r1 : r ≤ 60 := by
    have h1 := h.le
    have : ¬ 8 ≤ r := fun z => by
      have := Int.mul_le_mul z z (by decide) r0
      omega
    omega
  obtain ⟨n, rfl⟩ : ∃ n : Nat, i = n := ⟨i.toNat, by omega⟩
  obtain ⟨m, rfl⟩ : ∃ m : Nat, r = m := ⟨r.toNat, by omega⟩
  have := sq_dec ⟨n, by omega⟩ ⟨m, by omega⟩ h.le h.lt (by simp only; omega)
  simp only at this
  unfold rootD
  rw [decide_eq_true h2, decide_eq_true h60, ← this]
  by_cases z : (m : Int) * m = n <;> simp [z]

section
variable {P : Program} {w : World} {K : PySem.W.Frag} {mg : Str → Option Value} {base : Heap}
theorem ok_is_root (T : Txt K mg) : FnOk P w K mg base CX0 3 T.a_is_root T.d_is_root ["value"] (spD K F_is_root) := by
  have G_is_between := ok_is_between (P := P) (w := w) (base := base) T
  have G_root_of := ok_root_of (P := P) (w := w) (base := base) T
  refine fnD T.F_is_root sc_is_root (fun es c k h => ?_) (fun cdv A outer s H E hr => (ds_one (ds_ret (de_and (de_call G_is_between (hr.mono (by decide)) (by rfl) T.g_is_between T.F_is_between.kp (b_is_between T) (da_cons (de_var 0) (da_cons de_int (da_cons de_int da_nil)))) (de_one (de_cmp (od_ne hr.units) (de_op od_mul (de_call G_root_of (hr.mono (by decide)) (by rfl) T.g_root_of T.F_root_of.kp (b_root_of T) (da_cons (de_var 0) da_nil)) (de_call G_root_of (hr.mono (by decide)) (by rfl) T.g_root_of T.F_root_of.kp (b_root_of T) (da_cons (de_var 0) da_nil))) (de_var 0) (nomark _))))))) (fun es c k h => ?_)
  · unfold F_is_root at h
    split at h <;> first | rfl | exact h.elim
  · unfold F_is_root at h
    split at h
    · rename_i x
      obtain ⟨h1, h⟩ := h
      cases x with
      | im d =>
        cases d with
        | int i =>
          walk_at "nd"
          refine ⟨rfl, ?_⟩
          by_cases hi : 2 ≤ i ∧ i ≤ 60
          · have hb : Bd 9000 i := Bd.mono (m := 6) (by unfold Bd; omega) (by decide)
            simp only [betE, decide_eq_true hi.1, decide_eq_true hi.2, Bool.and_self, if_true]
            refine ⟨by omega, hb, fun r hr => ⟨by omega, hb, fun r2 hr2 => ?_⟩⟩
            have e := hr.uniq hr2
            subst e
            have r3 : Bd 9000 r := bd_sq hr.nn hr.le hb
            refine ⟨r3.mulW r3 (by decide), shp_int _, shp_int _, ?_⟩
            rw [eqv_int, isq_dec hi.1 hi.2 hr]
            exact h
          · have e : betE 2 60 (.im (.int i)) = false := by
              show (decide (2 ≤ i) && decide (i ≤ 60)) = false
              by_cases z : 2 ≤ i
              · rw [decide_eq_true z, decide_eq_false (fun y => hi ⟨z, y⟩)]
                rfl
              · rw [decide_eq_false z]
                rfl
            simp only [e, Bool.false_eq_true, if_false]
            have e2 : rootE (.im (.int i)) = false := by
              unfold rootE rootD
              have e' : (decide (2 ≤ i) && decide (i ≤ 60)) = false := e
              simp only [e', Bool.false_and]
            rw [e2] at h
            exact h
        | _ => first | exact ⟨rfl, h⟩ | cases h1
      | ro xs => exact ⟨rfl, h⟩
      | _ => cases h1
    · exact h.elim
end
def F_check_root : FT := fun es c k => match es with
  | [.im (.int i)] => rootD i = true ∧ k (.im .none) c
  | _ => False

section
variable {P : Program} {w : World} {K : PySem.W.Frag} {mg : Str → Option Value} {base : Heap}
theorem ok_check_root (T : Txt K mg) : FnOk P w K mg base CX0 4 T.a_check_root T.d_check_root ["d"] (spD K F_check_root) := by
  have G_is_root := ok_is_root (P := P) (w := w) (base := base) T
  refine fnD T.F_check_root sc_check_root (fun es c k h => ?_) (fun cdv A outer s H E hr => (ds_one (ds_if (dt_not (dt_val (de_call G_is_root (hr.mono (by decide)) (by rfl) T.g_is_root T.F_is_root.kp (b_is_root T) (da_cons (de_var 0) da_nil))))
    (ds_one ds_never)
    ds_nil))) (fun es c k h => ?_)
  · unfold F_check_root at h
    split at h <;> first | rfl | exact h.elim
  · unfold F_check_root at h
    split at h
    · rename_i i
      obtain ⟨h1, h⟩ := h
      walk_at "nd"
      refine ⟨rfl, ?_⟩
      simp only [rootE, h1, Bool.not_true, Bool.false_eq_true, if_false]
      exact h
    · exact h.elim
end
def inG (x : Int) : Bool := decide (-great ≤ x) && decide (x ≤ great)
def pairE : En → Bool
  | .im (.tuple [a, b]) => betE (-great) great (.im a) && betE (-great) great (.im b)
  | _ => false
/-- no list in it -/
def okP : En → Bool
  | .im (.tuple ds) => ds.all fun d => okE (.im d)
  | x => okE x
def F_is_pair : FT := fun es c k => match es with
  | [x] => okP x = true ∧ k (.im (.bool (pairE x))) c
  | _ => False
theorem inG_bd {x : Int} (h : inG x = true) : Bd 4000 x := by
  unfold inG great at h
  simp only [Bool.and_eq_true, decide_eq_true_eq] at h
  refine Bd.mono (m := 200) ?_ (by decide)
  unfold Bd
  omega
theorem betG (x : Int) : betE (-great) great (.im (.int x)) = inG x := rfl
theorem pair_int (x y : Int) : pairE (.im (pr x y)) = (inG x && inG y) := rfl

section
variable {P : Program} {w : World} {K : PySem.W.Frag} {mg : Str → Option Value} {base : Heap}
theorem ok_is_pair (T : Txt K mg) : FnOk P w K mg base CX0 3 T.a_is_pair T.d_is_pair ["value"] (spD K F_is_pair) := by
  have G_is_between := ok_is_between (P := P) (w := w) (base := base) T
  refine fnD T.F_is_pair sc_is_pair (fun es c k h => ?_) (fun cdv A outer s H E hr => (ds_one (ds_ret (de_and (de_isi (Or.inr (Or.inr (Or.inr (Or.inl rfl)))) (by rfl) T.m_isinstance (by rfl) T.m_tuple (by decide +kernel) (de_var 0)) (de_and (de_cmp (od_eq hr.units) (de_cb cd_len (by rfl) T.m_len (by decide +kernel) (da_cons (de_var 0) da_nil)) de_int (nomark _)) (de_one (de_cb (cd_all rfl) (by rfl) T.m_all (by decide +kernel) (da_cons (de_lc (own := [("part", 1)]) rfl sc_is_pair.nd (dic_e (de_var 0)) (blkOk_by (N := ["value", "part"]) (sc := defScope s_is_pair) (by decide +kernel)) (fun _ _ _ _ _ => (dg_name (i := 1) sc_is_pair.nd rfl (by first | exact Or.inl rfl | exact Or.inr rfl))) (fun _ _ _ _ _ => dts_nil) (fun _ _ _ _ _ => (de_call G_is_between (hr.mono (by decide)) (by rfl) T.g_is_between T.F_is_between.kp (b_is_between T) (da_cons (de_var 1) (da_cons (de_un ud_neg (de_globI (by rfl) T.g_GREAT)) (da_cons (de_globI (by rfl) T.g_GREAT) da_nil)))))) da_nil)))))))) (fun es c k h => ?_)
  · unfold F_is_pair at h
    split at h <;> first | rfl | exact h.elim
  · unfold F_is_pair at h
    split at h
    · rename_i x
      obtain ⟨h1, h⟩ := h
      cases x with
      | im d =>
        cases d with
        | tuple ds =>
          have hok : ∀ d ∈ ds, okE (.im d) = true := List.all_eq_true.mp h1
          walk_at "nd"
          simp only [isiB, beq_self_eq_true, if_true]
          refine ⟨shp_int _, shp_int _, ?_⟩
          rw [eqv_int]
          match ds, hok, h with
          | [], _, h => exact h
          | [_], _, h => exact h
          | [a, b], hok, h =>
            have e : pairE (.im (.tuple [a, b])) = [betE (-great) great (.im a), betE (-great) great (.im b)].all id := by
              show (betE (-great) great (.im a) && betE (-great) great (.im b)) = (betE (-great) great (.im a) && (betE (-great) great (.im b) && true))
              rw [Bool.and_true]
            rw [e] at h
            exact ⟨hok a List.mem_cons_self, (show 0 < 100000 by decide), hok b (List.mem_cons_of_mem _ List.mem_cons_self), (show 1 < 100000 by decide), h⟩
          | a :: b :: e :: r, _, h =>
            have e : decide ((((a :: b :: e :: r).length : Nat) : Int) = 2) = false := decide_eq_false (by simp only [List.length_cons]; omega)
            rw [e]
            exact h
        | _ => first | exact h | cases h1
      | ro xs => exact h
      | _ => cases h1
    · exact h.elim
end
def F_check_pair : FT := fun es c k => match es with
  | [.im (.tuple [.int x, .int y])] => inG x = true ∧ inG y = true ∧ k (.im .none) c
  | _ => False

section
variable {P : Program} {w : World} {K : PySem.W.Frag} {mg : Str → Option Value} {base : Heap}
theorem ok_check_pair (T : Txt K mg) : FnOk P w K mg base CX0 4 T.a_check_pair T.d_check_pair ["value"] (spD K F_check_pair) := by
  have G_is_pair := ok_is_pair (P := P) (w := w) (base := base) T
  refine fnD T.F_check_pair sc_check_pair (fun es c k h => ?_) (fun cdv A outer s H E hr => (ds_one (ds_if (dt_not (dt_val (de_call G_is_pair (hr.mono (by decide)) (by rfl) T.g_is_pair T.F_is_pair.kp (b_is_pair T) (da_cons (de_var 0) da_nil))))
    (ds_one ds_never)
    ds_nil))) (fun es c k h => ?_)
  · unfold F_check_pair at h
    split at h <;> first | rfl | exact h.elim
  · unfold F_check_pair at h
    split at h
    · rename_i x y
      obtain ⟨h1, h2, h⟩ := h
      walk_at "nd"
      refine ⟨rfl, ?_⟩
      simp only [pair_int, h1, h2, Bool.and_self, Bool.not_true, Bool.false_eq_true, if_false]
      exact h
    · exact h.elim
end
def F_check_number : FT := fun es c k => match es with
  | [.im (.int i), .im (.int lo), .im (.int hi)] => lo ≤ i ∧ i ≤ hi ∧ k (.im .none) c
  | _ => False

section
variable {P : Program} {w : World} {K : PySem.W.Frag} {mg : Str → Option Value} {base : Heap}
theorem ok_check_number (T : Txt K mg) : FnOk P w K mg base CX0 3 T.a_check_number T.d_check_number ["value", "low", "high"] (spD K F_check_number) := by
  have G_is_between := ok_is_between (P := P) (w := w) (base := base) T
  refine fnD T.F_check_number sc_check_number (fun es c k h => ?_) (fun cdv A outer s H E hr => (ds_one (ds_if (dt_not (dt_val (de_call G_is_between (hr.mono (by decide)) (by rfl) T.g_is_between T.F_is_between.kp (b_is_between T) (da_cons (de_var 0) (da_cons (de_var 1) (da_cons (de_var 2) da_nil))))))
    (ds_one ds_never)
    ds_nil))) (fun es c k h => ?_)
  · unfold F_check_number at h
    split at h <;> first | rfl | exact h.elim
  · unfold F_check_number at h
    split at h
    · rename_i i lo hi
      obtain ⟨h1, h2, h⟩ := h
      refine ⟨rfl, ?_⟩
      refine ifF ?_ h
      show (!(decide (lo ≤ i) && decide (i ≤ hi))) = false
      rw [decide_eq_true h1, decide_eq_true h2]
      rfl
    · exact h.elim
end
def F_norm_of : FT := fun es c k => match es with
  | [.im (.int d), .im (.tuple [.int x, .int y])] => Bd 6 d ∧ Bd 4000 x ∧ Bd 4000 y ∧ k (.im (.int (normI d x y))) c
  | _ => False

section
variable {P : Program} {w : World} {K : PySem.W.Frag} {mg : Str → Option Value} {base : Heap}
theorem ok_norm_of (T : Txt K mg) : FnOk P w K mg base CX0 1 T.a_norm_of T.d_norm_of ["d", "pair"] (spD K F_norm_of) := by
  refine fnD T.F_norm_of sc_norm_of (fun es c k h => ?_) (fun cdv A outer s H E hr => (ds_one (ds_ret (de_op od_sub (de_op od_mul (de_ix (de_var 1) de_int (fun _ _ => rfl)) (de_ix (de_var 1) de_int (fun _ _ => rfl))) (de_op od_mul (de_op od_mul (de_var 0) (de_ix (de_var 1) de_int (fun _ _ => rfl))) (de_ix (de_var 1) de_int (fun _ _ => rfl))))))) (fun es c k h => ?_)
  · unfold F_norm_of at h
    split at h <;> first | rfl | exact h.elim
  · unfold F_norm_of at h
    split at h
    · rename_i d x y
      obtain ⟨hd, hx, hy, h⟩ := h
      exact ⟨hx.mulW hx (by decide), hd.mulW hy (by decide), (hd.mul hy).mulW hy (by decide), trivial, h⟩
    · exact h.elim
end
def F_times : FT := fun es c k => match es with
  | [.im (.int d), .im (.tuple [.int x, .int y]), .im (.tuple [.int z, .int w])] => Bd 6 d ∧ Bd 4000 x ∧ Bd 4000 y ∧ Bd 4000 z ∧ Bd 4000 w ∧ k (.im (pr (mulX d x y z w) (mulY x y z w))) c
  | _ => False

section
variable {P : Program} {w : World} {K : PySem.W.Frag} {mg : Str → Option Value} {base : Heap}
theorem ok_times (T : Txt K mg) : FnOk P w K mg base CX0 1 T.a_times T.d_times ["d", "one", "other"] (spD K F_times) := by
  refine fnD T.F_times sc_times (fun es c k h => ?_) (fun cdv A outer s H E hr => (ds_one (ds_ret (de_tup (da_cons (de_op od_add (de_op od_mul (de_ix (de_var 1) de_int (fun _ _ => rfl)) (de_ix (de_var 2) de_int (fun _ _ => rfl))) (de_op od_mul (de_op od_mul (de_var 0) (de_ix (de_var 1) de_int (fun _ _ => rfl))) (de_ix (de_var 2) de_int (fun _ _ => rfl)))) (da_cons (de_op od_add (de_op od_mul (de_ix (de_var 1) de_int (fun _ _ => rfl)) (de_ix (de_var 2) de_int (fun _ _ => rfl))) (de_op od_mul (de_ix (de_var 1) de_int (fun _ _ => rfl)) (de_ix (de_var 2) de_int (fun _ _ => rfl)))) da_nil)))))) (fun es c k h => ?_)
  · unfold F_times at h
    split at h <;> first | rfl | exact h.elim
  · unfold F_times at h
    split at h
    · rename_i d x y z w
      obtain ⟨hd, hx, hy, hz, hw, h⟩ := h
      exact ⟨hx.mulW hz (by decide), hd.mulW hy (by decide), (hd.mul hy).mulW hw (by decide), hx.mulW hw (by decide), hy.mulW hz (by decide), (by decide : 2 ≤ 100000), h⟩
    · exact h.elim
end
def F_opposite : FT := fun es c k => match es with
  | [.im (.tuple [.int x, .int y])] => k (.im (pr x (-y))) c
  | _ => False

section
variable {P : Program} {w : World} {K : PySem.W.Frag} {mg : Str → Option Value} {base : Heap}
theorem ok_opposite (T : Txt K mg) : FnOk P w K mg base CX0 1 T.a_opposite T.d_opposite ["pair"] (spD K F_opposite) := by
  refine fnD T.F_opposite sc_opposite (fun es c k h => ?_) (fun cdv A outer s H E hr => (ds_one (ds_ret (de_tup (da_cons (de_ix (de_var 0) de_int (fun _ _ => rfl)) (da_cons (de_un ud_neg (de_ix (de_var 0) de_int (fun _ _ => rfl))) da_nil)))))) (fun es c k h => ?_)
  · unfold F_opposite at h
    split at h <;> first | rfl | exact h.elim
  · unfold F_opposite at h
    split at h
    · exact ⟨(by decide : 2 ≤ 100000), h⟩
    · exact h.elim
end
def iL (ns : List Int) : List PyData := ns.map PyData.int
def F_fractions_of : FT := fun es c k => match es with
  | [.im (.int d)] => rootD d = true ∧ k (.im (.tuple [.int (rt d), .tuple (iL (rest d))])) c
  | _ => False
theorem rest_take {d : Int} {j : Nat} (h : j < cfL d) : (rest d).take (j + 1) = (rest d).take j ++ [(cfS d (j + 1)).2.2] := by
  have hl : j < (rest d).length := by rw [rest_len]; exact h
  rw [List.take_succ_eq_append_getElem hl]
  simp [rest]

section
variable {P : Program} {w : World} {K : PySem.W.Frag} {mg : Str → Option Value} {base : Heap}
theorem ok_fractions_of (T : Txt K mg) : FnOk P w K mg base CX0 2 T.a_fractions_of T.d_fractions_of ["d"] (spD K F_fractions_of) := by
  have G_root_of := ok_root_of (P := P) (w := w) (base := base) T
  refine fnD T.F_fractions_of sc_fractions_of (fun es c k h => ?_) (fun cdv A outer s H E hr => (ds_cons (ds_set (i := 1) sc_fractions_of.nd rfl (by first | exact Or.inl rfl | exact Or.inr rfl) (de_call G_root_of (hr.mono (by decide)) (by rfl) T.g_root_of T.F_root_of.kp (b_root_of T) (da_cons (de_var 0) da_nil)))
  (ds_cons (ds_set (i := 2) sc_fractions_of.nd rfl (by first | exact Or.inl rfl | exact Or.inr rfl) (de_lst da_nil))
  (ds_cons (ds_par3 (ps_par3 rfl sc_fractions_of.nd (i := 3) (j := 4) (l := 5) rfl rfl rfl (by decide) (by decide) (by decide) rfl rfl rfl (da_cons de_int (da_cons de_int (da_cons (de_var 1) da_nil))) rfl))
  (ds_cons (ds_while PassesOwn.never (dt_cmp (od_ne hr.units) (de_var 5) (de_op od_mul de_int (de_var 1)) (nomark _))
    (ds_cons (ds_set (i := 3) sc_fractions_of.nd rfl (by first | exact Or.inl rfl | exact Or.inr rfl) (de_op od_sub (de_op od_mul (de_var 5) (de_var 4)) (de_var 3)))
    (ds_cons (ds_set (i := 4) sc_fractions_of.nd rfl (by first | exact Or.inl rfl | exact Or.inr rfl) (de_op od_div (de_op od_sub (de_var 0) (de_op od_mul (de_var 3) (de_var 3))) (de_var 4)))
    (ds_cons (ds_set (i := 5) sc_fractions_of.nd rfl (by first | exact Or.inl rfl | exact Or.inr rfl) (de_op od_div (de_op od_add (de_var 1) (de_var 3)) (de_var 4)))
    (ds_one (ds_app (ps_expr (pe_bm PySem.F.plainAttrs_list PySem.F.slot_list_append PySem.F.type_list_append mt_append (pv 2) (pa_cons (de_var 5) pa_nil)))))))))
  (ds_one (ds_ret (de_tup (da_cons (de_var 1) (da_cons (de_ty cd_tuple (by rfl) T.m_tuple (by decide +kernel) (da_cons (de_var 2) da_nil)) da_nil)))))))))) (fun es c k h => ?_)
  · unfold F_fractions_of at h
    split at h <;> first | rfl | exact h.elim
  · unfold F_fractions_of at h
    split at h
    · rename_i d
      obtain ⟨hd, h⟩ := h
      have hd60 := root_le hd
      have hd6 := rootD_bd hd
      refine ⟨by omega, hd6.mono (by decide), fun r hr => ?_⟩
      have er := hr.uniq (rt_root hd)
      subst er
      have two : Bd 2 2 := (by decide : (2 : Int).natAbs < 2 ^ 2)
      have hrt := rt_pos (d := d)
      have brt : Bd 6 (rt d) := by unfold Bd; omega
      refine ⟨Nat.zero_le _, ?_⟩
      refine ⟨fun (m : Nat) (S : Sl) q => q = c ∧ ∃ j, j ≤ cfL d ∧ m = cfL d - j ∧ S = [some (.im (.int d)), some (.im (.int (rt d))), some (.own (iL ((rest d).take j))), some (.im (.int (cfS d j).1)), some (.im (.int (cfS d j).2.1)), some (.im (.int (cfS d j).2.2))], ⟨_, rfl, 0, Nat.zero_le _, rfl, rfl⟩, ?_⟩
      rintro m S q ⟨hq, j, hj, rfl, rfl⟩
      refine ⟨two.mulW brt (by decide), shp_int _, shp_int _, ?_⟩
      by_cases hlt : j < cfL d
      · obtain ⟨c1, c2, c3, c4⟩ := cf_at hd hlt
        have e1 : (!PyData.eqv (.int (cfS d j).2.2) (.int (2 * rt d))) = true := by
          rw [eqv_int, decide_eq_false c1]
          rfl
        refine ifT e1 ?_
        have ba : Bd 6 (cfS d j).2.2 := by unfold Bd; omega
        have bq : Bd 6 (cfS d j).2.1 := by unfold Bd; omega
        have bp : Bd 6 (cfS d (j + 1)).1 := by unfold Bd; omega
        have dq : CDivW (d - (cfS d (j + 1)).1 * (cfS d (j + 1)).1) (cfS d j).2.1 := wide_div (b := 6) (by omega) (by have := bq; unfold Bd at this; exact this) (by decide) (by decide)
        have dq2 : CDivW (rt d + (cfS d (j + 1)).1) (cfS d (j + 1)).2.1 := wide_div (b := 6) (by omega) (by omega) (by decide) (by decide)
        refine ⟨ba.mulW bq (by decide), trivial, bp.mulW bp (by decide), trivial, dq, dq2, ?_⟩
        refine ⟨?_, _, ?_, hq, j + 1, hlt, rfl, ?_⟩
        · show (iL ((rest d).take j)).length < 100000
          have := cf_len hd
          simp only [iL, List.length_map, List.length_take]
          omega
        · omega
        · rw [rest_take hlt]
          simp only [iL, List.map_append, List.map_cons, List.map_nil]
          rfl
      · have ej : j = cfL d := by omega
        subst ej
        have e1 : (!PyData.eqv (.int (cfS d (cfL d)).2.2) (.int (2 * rt d))) = false := ne_int (cf_end hd)
        refine ifF e1 ?_
        have et : (rest d).take (cfL d) = rest d := List.take_of_length_le (by rw [rest_len]; exact Nat.le_refl _)
        rw [et]
        have := cf_len hd
        refine ⟨?_, (by decide : 2 ≤ 100000), ?_⟩
        · show (iL (rest d)).length ≤ 100000
          simp only [iL, List.length_map, rest_len]
          omega
        · rw [hq]
          exact h
    · exact h.elim
end
def F_convergent_of : FT := fun es c k => match es with
  | [.im (.int d), .im (.int j)] => rootD d = true ∧ 0 ≤ j ∧ j ≤ 900 ∧ k (.im (prP (cvS d j.toNat).2)) c
  | _ => False
theorem bd_of_lt {x : Int} {n : Nat} (h0 : 0 ≤ x) (h1 : x < 2 ^ n) : Bd n x := by
  unfold Bd
  have e : ((2 ^ n : Nat) : Int) = 2 ^ n := by simp
  omega
theorem iL_get (ns : List Int) {j : Nat} (h : j < ns.length) : atI (iL ns) (j : Int) = some (.int (ns.getD j 0)) := by
  refine atI_nat ?_
  simp [iL, h]

section
variable {P : Program} {w : World} {K : PySem.W.Frag} {mg : Str → Option Value} {base : Heap}
theorem ok_convergent_of (T : Txt K mg) : FnOk P w K mg base CX0 3 T.a_convergent_of T.d_convergent_of ["d", "k"] (spD K F_convergent_of) := by
  have G_fractions_of := ok_fractions_of (P := P) (w := w) (base := base) T
  refine fnD T.F_convergent_of sc_convergent_of (fun es c k h => ?_) (fun cdv A outer s H E hr => (ds_cons (ds_asgB rfl (de_call G_fractions_of (hr.mono (by decide)) (by rfl) T.g_fractions_of T.F_fractions_of.kp (b_fractions_of T) (da_cons (de_var 0) da_nil)) (dgs_cons (dg_name (i := 2) sc_convergent_of.nd rfl (by first | exact Or.inl rfl | exact Or.inr rfl)) (dgs_cons (dg_name (i := 3) sc_convergent_of.nd rfl (by first | exact Or.inl rfl | exact Or.inr rfl)) dgs_nil)) 2 glen2)
  (ds_cons (ds_par (ps_par rfl sc_convergent_of.nd (i := 4) (j := 5) rfl rfl (by decide) rfl rfl (da_cons (de_tup (da_cons de_int (da_cons de_int da_nil))) (da_cons (de_tup (da_cons (de_var 2) (da_cons de_int da_nil))) da_nil)) rfl))
  (ds_cons (ds_for PassesOwn.never rfl (di_r1 (by rfl) T.m_range (da_cons (de_var 1) da_nil)) (dg_name (i := 6) sc_convergent_of.nd rfl (by first | exact Or.inl rfl | exact Or.inr rfl))
    (ds_cons (ds_set (i := 7) sc_convergent_of.nd rfl (by first | exact Or.inl rfl | exact Or.inr rfl) (de_ix (de_var 3) (de_op od_mod (de_var 6) (de_cb cd_len (by rfl) T.m_len (by decide +kernel) (da_cons (de_var 3) da_nil))) (fun _ _ => rfl)))
    (ds_one (ds_par (ps_par rfl sc_convergent_of.nd (i := 4) (j := 5) rfl rfl (by decide) rfl rfl (da_cons (de_var 5) (da_cons (de_tup (da_cons (de_op od_add (de_op od_mul (de_var 7) (de_ix (de_var 5) de_int (fun _ _ => rfl))) (de_ix (de_var 4) de_int (fun _ _ => rfl))) (da_cons (de_op od_add (de_op od_mul (de_var 7) (de_ix (de_var 5) de_int (fun _ _ => rfl))) (de_ix (de_var 4) de_int (fun _ _ => rfl))) da_nil))) da_nil)) rfl)))))
  (ds_one (ds_retv 5)))))) (fun es c k h => ?_)
  · unfold F_convergent_of at h
    split at h <;> first | rfl | exact h.elim
  · unfold F_convergent_of at h
    split at h
    · rename_i d j
      obtain ⟨hd, j0, j1, h⟩ := h
      have hl := cf_len hd
      obtain ⟨n, rfl⟩ : ∃ n : Nat, j = n := ⟨j.toNat, by omega⟩
      rw [Int.toNat_natCast] at h
      refine ⟨hd, (by decide : 2 ≤ 100000), (by decide : 2 ≤ 100000), ⟨by omega, by omega⟩, ?_⟩
      have en : (rng 0 (n : Int).toNat).length = n := by rw [len_rng, Int.toNat_natCast]
      refine forL_by (fun i S q => q = c ∧ ∃ x6 x7, S = [some (.im (.int d)), some (.im (.int n)), some (.im (.int (rt d))), some (.im (.tuple (iL (rest d)))), some (.im (prP (cvS d i).1)), some (.im (prP (cvS d i).2)), x6, x7]) ⟨rfl, none, none, rfl⟩ ?_ ?_
      · rintro i x S q N hx ⟨hq, x6, x7, rfl⟩ hN
        obtain ⟨hi, rfl⟩ := rng_get hx
        rw [Int.toNat_natCast] at hi
        obtain ⟨⟨a1, a2⟩, ⟨b1, b2⟩, ⟨c1, c2⟩, ⟨e1, e2⟩⟩ := cv_bd hd i
        have hr := rest_pos hd (j := i % cfL d) (Nat.mod_lt _ (by omega))
        have br : Bd 6 ((rest d).getD (i % cfL d) 0) := by unfold Bd; omega
        have bc : Bd 4000 (cvS d i).2.1 := (bd_of_lt (by omega) c2).mono (by omega)
        have be : Bd 4000 (cvS d i).2.2 := (bd_of_lt (by omega) e2).mono (by omega)
        have hm : ((0 : Int) + (i : Int)).fmod ((iL (rest d)).length : Int) = ((i % cfL d : Nat) : Int) := by
          simp only [iL, List.length_map, rest_len]
          rw [Int.fmod_eq_emod_of_nonneg _ (by omega), Int.zero_add]
          exact (Int.natCast_emod _ _).symm
        refine ⟨(by show ((iL (rest d)).length : Int) ≠ 0; simp only [iL, List.length_map, rest_len]; omega), ?_⟩
        have hg := iL_get (rest d) (j := i % cfL d) (by rw [rest_len]; exact Nat.mod_lt _ (by omega))
        rw [← hm] at hg
        refine rIx_of (by rfl) hg ?_
        refine ⟨br.mulW bc (by decide), br.mulW be (by decide), (by decide : 2 ≤ 100000), ?_⟩
        exact hN _ _ ⟨hq, _, _, rfl⟩
      · rintro S q ⟨hq, x6, x7, rfl⟩
        rw [en, hq]
        exact h
    · exact h.elim
end
def F_found_unit : FT := fun es c k => match es with
  | [.im (.int d)] => rootD d = true ∧ k (.im (prP (un d))) c
  | _ => False

section
variable {P : Program} {w : World} {K : PySem.W.Frag} {mg : Str → Option Value} {base : Heap}
theorem ok_found_unit (T : Txt K mg) : FnOk P w K mg base CX0 4 T.a_found_unit T.d_found_unit ["d"] (spD K F_found_unit) := by
  have G_convergent_of := ok_convergent_of (P := P) (w := w) (base := base) T
  have G_fractions_of := ok_fractions_of (P := P) (w := w) (base := base) T
  refine fnD T.F_found_unit sc_found_unit (fun es c k h => ?_) (fun cdv A outer s H E hr => (ds_cons (ds_set (i := 1) sc_found_unit.nd rfl (by first | exact Or.inl rfl | exact Or.inr rfl) (de_cb cd_len (by rfl) T.m_len (by decide +kernel) (da_cons (de_ix (de_call G_fractions_of (hr.mono (by decide)) (by rfl) T.g_fractions_of T.F_fractions_of.kp (b_fractions_of T) (da_cons (de_var 0) da_nil)) de_int (fun _ _ => rfl)) da_nil)))
  (ds_one (ds_ret (de_call G_convergent_of (hr.mono (by decide)) (by rfl) T.g_convergent_of T.F_convergent_of.kp (b_convergent_of T) (da_cons (de_var 0) (da_cons (de_if (dt_cmp (od_eq hr.units) (de_op od_mod (de_var 1) de_int) de_int (nomark _)) (de_op od_sub (de_var 1) de_int) (de_op od_sub (de_op od_mul de_int (de_var 1)) de_int)) da_nil))))))) (fun es c k h => ?_)
  · unfold F_found_unit at h
    split at h <;> first | rfl | exact h.elim
  · unfold F_found_unit at h
    split at h
    · rename_i d
      obtain ⟨hd, h⟩ := h
      have hl := cf_len hd
      have two : Bd 2 2 := (by decide : (2 : Int).natAbs < 2 ^ 2)
      have eL : ((iL (rest d)).length : Int) = (cfL d : Int) := by simp only [iL, List.length_map, rest_len]
      refine ⟨hd, ?_⟩
      refine ⟨(by decide : (2 : Int) ≠ 0), shp_int _, shp_int _, ?_⟩
      have em : (((iL (rest d)).length : Int).fmod 2) = ((cfL d % 2 : Nat) : Int) := by
        rw [eL, Int.fmod_eq_emod_of_nonneg _ (by decide)]
        omega
      have hu := u_cv hd
      by_cases hz : cfL d % 2 = 0
      · have e1 : PyData.eqv (.int (((iL (rest d)).length : Int).fmod 2)) (.int 0) = true := by
          rw [eqv_int, em, hz]
          rfl
        refine ifT e1 ?_
        refine ⟨trivial, hd, (by rw [eL]; omega), (by rw [eL]; omega), ?_⟩
        have ex : (((iL (rest d)).length : Int) - 1).toNat = uIx d := by
          rw [eL]
          unfold uIx
          rw [if_pos hz]
          omega
        rw [ex, hu]
        exact h
      · have e1 : PyData.eqv (.int (((iL (rest d)).length : Int).fmod 2)) (.int 0) = false := by
          rw [eqv_int, em]
          exact decide_eq_false (by omega)
        refine ifF e1 ?_
        have bL : Bd 6 ((iL (rest d)).length : Int) := by
          rw [eL]
          unfold Bd
          omega
        refine ⟨two.mulW bL (by decide), trivial, hd, (by rw [eL]; omega), (by rw [eL]; omega), ?_⟩
        have ex : (2 * ((iL (rest d)).length : Int) - 1).toNat = uIx d := by
          rw [eL]
          unfold uIx
          rw [if_neg hz]
          omega
        rw [ex, hu]
        exact h
    · exact h.elim
end
def F_least_unit : FT := fun es c k => match es with
  | [.im (.int d)] => rootD d = true ∧ k (.im (prP (un d))) c
  | _ => False

section
variable {P : Program} {w : World} {K : PySem.W.Frag} {mg : Str → Option Value} {base : Heap}
theorem ok_least_unit (T : Txt K mg) : FnOk P w K mg base CX0 5 T.a_least_unit T.d_least_unit ["d"] (spD K F_least_unit) := by
  have G_check_root := ok_check_root (P := P) (w := w) (base := base) T
  have G_found_unit := ok_found_unit (P := P) (w := w) (base := base) T
  refine fnD T.F_least_unit sc_least_unit (fun es c k h => ?_) (fun cdv A outer s H E hr => (ds_cons (ds_drop (de_call G_check_root (hr.mono (by decide)) (by rfl) T.g_check_root T.F_check_root.kp (b_check_root T) (da_cons (de_var 0) da_nil)))
  (ds_one (ds_ret (de_call G_found_unit (hr.mono (by decide)) (by rfl) T.g_found_unit T.F_found_unit.kp (b_found_unit T) (da_cons (de_var 0) da_nil)))))) (fun es c k h => ?_)
  · unfold F_least_unit at h
    split at h <;> first | rfl | exact h.elim
  · unfold F_least_unit at h
    split at h
    · obtain ⟨hd, h⟩ := h
      exact ⟨hd, hd, h⟩
    · exact h.elim
end
def norE : En → Bool
  | .im (.int i) => norOk i
  | _ => false
def F_is_norm : FT := fun es c k => match es with
  | [x] => okE x = true ∧ k (.im (.bool (norE x))) c
  | _ => False

section
variable {P : Program} {w : World} {K : PySem.W.Frag} {mg : Str → Option Value} {base : Heap}
theorem ok_is_norm (T : Txt K mg) : FnOk P w K mg base CX0 3 T.a_is_norm T.d_is_norm ["value"] (spD K F_is_norm) := by
  have G_is_between := ok_is_between (P := P) (w := w) (base := base) T
  refine fnD T.F_is_norm sc_is_norm (fun es c k h => ?_) (fun cdv A outer s H E hr => (ds_one (ds_ret (de_and (de_call G_is_between (hr.mono (by decide)) (by rfl) T.g_is_between T.F_is_between.kp (b_is_between T) (da_cons (de_var 0) (da_cons (de_un ud_neg de_int) (da_cons de_int da_nil)))) (de_one (de_cmp (od_ne hr.units) (de_var 0) de_int (nomark _))))))) (fun es c k h => ?_)
  · unfold F_is_norm at h
    split at h <;> first | rfl | exact h.elim
  · unfold F_is_norm at h
    split at h
    · rename_i x
      obtain ⟨h1, h⟩ := h
      cases x with
      | im d =>
        cases d with
        | int i =>
          refine ⟨rfl, ?_⟩
          have e : norE (.im (.int i)) = (betE (-200) 200 (.im (.int i)) && !(PyData.eqv (.int i) (.int 0))) := by
            show norOk i = ((decide (-200 ≤ i) && decide (i ≤ 200)) && !(PyData.eqv (.int i) (.int 0)))
            unfold norOk
            rw [eqv_int]
            congr 1
            by_cases z : i = 0 <;> simp [z]
          rw [e] at h
          cases z : betE (-200) 200 (.im (.int i)) with
          | true =>
            rw [z] at h
            exact ifT z ⟨shp_int _, shp_int _, h⟩
          | false =>
            rw [z] at h
            exact ifF z h
        | _ => first | exact ⟨rfl, h⟩ | cases h1
      | ro xs => exact ⟨rfl, h⟩
      | _ => cases h1
    · exact h.elim
end
def F_check_norm : FT := fun es c k => match es with
  | [.im (.int i)] => norOk i = true ∧ k (.im .none) c
  | _ => False

section
variable {P : Program} {w : World} {K : PySem.W.Frag} {mg : Str → Option Value} {base : Heap}
theorem ok_check_norm (T : Txt K mg) : FnOk P w K mg base CX0 4 T.a_check_norm T.d_check_norm ["n"] (spD K F_check_norm) := by
  have G_is_norm := ok_is_norm (P := P) (w := w) (base := base) T
  refine fnD T.F_check_norm sc_check_norm (fun es c k h => ?_) (fun cdv A outer s H E hr => (ds_one (ds_if (dt_not (dt_val (de_call G_is_norm (hr.mono (by decide)) (by rfl) T.g_is_norm T.F_is_norm.kp (b_is_norm T) (da_cons (de_var 0) da_nil))))
    (ds_one ds_never)
    ds_nil))) (fun es c k h => ?_)
  · unfold F_check_norm at h
    split at h <;> first | rfl | exact h.elim
  · unfold F_check_norm at h
    split at h
    · rename_i i
      obtain ⟨h1, h⟩ := h
      refine ⟨rfl, ?_⟩
      refine ifF ?_ h
      show (!norOk i) = false
      rw [h1]
      rfl
    · exact h.elim
end
def F_check_both : FT := fun es c k => match es with
  | [.im (.int d), .im (.int n)] => rootD d = true ∧ norOk n = true ∧ k (.im .none) c
  | _ => False

section
variable {P : Program} {w : World} {K : PySem.W.Frag} {mg : Str → Option Value} {base : Heap}
theorem ok_check_both (T : Txt K mg) : FnOk P w K mg base CX0 5 T.a_check_both T.d_check_both ["d", "n"] (spD K F_check_both) := by
  have G_check_norm := ok_check_norm (P := P) (w := w) (base := base) T
  have G_check_root := ok_check_root (P := P) (w := w) (base := base) T
  refine fnD T.F_check_both sc_check_both (fun es c k h => ?_) (fun cdv A outer s H E hr => (ds_cons (ds_drop (de_call G_check_root (hr.mono (by decide)) (by rfl) T.g_check_root T.F_check_root.kp (b_check_root T) (da_cons (de_var 0) da_nil)))
  (ds_one (ds_drop (de_call G_check_norm (hr.mono (by decide)) (by rfl) T.g_check_norm T.F_check_norm.kp (b_check_norm T) (da_cons (de_var 1) da_nil)))))) (fun es c k h => ?_)
  · unfold F_check_both at h
    split at h <;> first | rfl | exact h.elim
  · unfold F_check_both at h
    split at h
    · obtain ⟨h1, h2, h⟩ := h
      exact ⟨h1, h2, h⟩
    · exact h.elim
end
def F_bound_for : FT := fun es c k => match es with
  | [.im (.int d), .im (.int n)] => rootD d = true ∧ norOk n = true ∧ k (.im (.int (bnd d n : Nat))) c
  | _ => False
theorem abs_nat (n : Int) : (if n < 0 then -n else n) = (n.natAbs : Int) := by split <;> omega
theorem bnd_fit {d n : Int} (hd : rootD d = true) (hn : norOk n = true) : Bd 8 (n.natAbs : Int) ∧ Bd 18 (uT d + 1) ∧ 0 ≤ (n.natAbs : Int) * (uT d + 1) / (2 * d) ∧ Bd 9000 ((n.natAbs : Int) * (uT d + 1) / (2 * d)) := by
  have h3 := norOk_iff.mp hn
  have hu := u_ok hd
  have a1 := hu.t2
  have a2 := hu.t3
  have hdl := root_le hd
  have b0 : Bd 8 (n.natAbs : Int) := by unfold Bd; omega
  have b1 : Bd 18 (uT d + 1) := by unfold Bd; omega
  have c1 : 0 ≤ (n.natAbs : Int) * (uT d + 1) := Int.mul_nonneg (by omega) (by omega)
  have c2 : 0 ≤ (n.natAbs : Int) * (uT d + 1) / (2 * d) := Int.ediv_nonneg c1 (by omega)
  have c3 : (n.natAbs : Int) * (uT d + 1) / (2 * d) ≤ (n.natAbs : Int) * (uT d + 1) := Int.ediv_le_self _ c1
  have b2 := b0.mul b1
  refine ⟨b0, b1, c2, Bd.mono (m := 26) ?_ (by decide)⟩
  unfold Bd at b2 ⊢
  omega

section
variable {P : Program} {w : World} {K : PySem.W.Frag} {mg : Str → Option Value} {base : Heap}
theorem ok_bound_for (T : Txt K mg) : FnOk P w K mg base CX0 5 T.a_bound_for T.d_bound_for ["d", "n"] (spD K F_bound_for) := by
  have G_found_unit := ok_found_unit (P := P) (w := w) (base := base) T
  have G_root_of := ok_root_of (P := P) (w := w) (base := base) T
  refine fnD T.F_bound_for sc_bound_for (fun es c k h => ?_) (fun cdv A outer s H E hr => (ds_one (ds_ret (de_call G_root_of (hr.mono (by decide)) (by rfl) T.g_root_of T.F_root_of.kp (b_root_of T) (da_cons (de_op od_div (de_op od_mul (de_cb cd_abs (by rfl) T.m_abs (by decide +kernel) (da_cons (de_var 1) da_nil)) (de_op od_add (de_ix (de_call G_found_unit (hr.mono (by decide)) (by rfl) T.g_found_unit T.F_found_unit.kp (b_found_unit T) (da_cons (de_var 0) da_nil)) de_int (fun _ _ => rfl)) de_int)) (de_op od_mul de_int (de_var 0))) da_nil))))) (fun es c k h => ?_)
  · unfold F_bound_for at h
    split at h <;> first | rfl | exact h.elim
  · unfold F_bound_for at h
    split at h
    · rename_i d n
      obtain ⟨hd, hn, h⟩ := h
      have hd6 := rootD_bd hd
      have hdl := root_le hd
      obtain ⟨b0, b1, c2, b3⟩ := bnd_fit hd hn
      have two : Bd 2 2 := (by decide : (2 : Int).natAbs < 2 ^ 2)
      refine ⟨hd, ?_⟩
      show CMulW (if n < 0 then -n else n) (uT d + 1) ∧ CMulW 2 d ∧ CDivW ((if n < 0 then -n else n) * (uT d + 1)) (2 * d) ∧ 0 ≤ (if n < 0 then -n else n) * (uT d + 1) / (2 * d) ∧ Bd 9000 ((if n < 0 then -n else n) * (uT d + 1) / (2 * d)) ∧ ∀ r, IsRoot ((if n < 0 then -n else n) * (uT d + 1) / (2 * d)) r → k (.im (.int r)) c
      rw [abs_nat]
      refine ⟨b0.mulW b1 (by decide), two.mulW hd6 (by decide), Bd.divW (by omega) (two.mul hd6) (by decide), c2, b3, fun r hr => ?_⟩
      rw [hr.uniq (bnd_root hd hn)]
      exact h
    · exact h.elim
end
def F_is_better : FT := fun es c k => match es with
  | [.im (.tuple [.int a, .int b]), .im (.tuple [.int x, .int y])] => k (.im (.bool (decide (bet (a, b) (x, y))))) c
  | _ => False

section
variable {P : Program} {w : World} {K : PySem.W.Frag} {mg : Str → Option Value} {base : Heap}
theorem ok_is_better (T : Txt K mg) : FnOk P w K mg base CX0 1 T.a_is_better T.d_is_better ["one", "other"] (spD K F_is_better) := by
  refine fnD T.F_is_better sc_is_better (fun es c k h => ?_) (fun cdv A outer s H E hr => (ds_one (ds_ret (de_or (de_cmp od_lt (de_ix (de_var 0) de_int (fun _ _ => rfl)) (de_ix (de_var 1) de_int (fun _ _ => rfl)) (nomark _)) (de_one (de_and (de_cmp (od_eq hr.units) (de_ix (de_var 0) de_int (fun _ _ => rfl)) (de_ix (de_var 1) de_int (fun _ _ => rfl)) (nomark _)) (de_one (de_cmp od_gt (de_ix (de_var 0) de_int (fun _ _ => rfl)) (de_ix (de_var 1) de_int (fun _ _ => rfl)) (nomark _))))))))) (fun es c k h => ?_)
  · unfold F_is_better at h
    split at h <;> first | rfl | exact h.elim
  · unfold F_is_better at h
    split at h
    · rename_i a b x y
      refine ⟨trivial, ?_⟩
      by_cases h1 : b < y
      · rw [decide_eq_true (show bet (a, b) (x, y) from .inl h1)] at h
        exact ifT (decide_eq_true h1) h
      · refine ifF (decide_eq_false h1) ⟨shp_int _, shp_int _, ?_⟩
        by_cases h2 : b = y
        · refine ifT (by rw [eqv_int]; exact decide_eq_true h2) ⟨trivial, ?_⟩
          have e : decide (bet (a, b) (x, y)) = decide (x < a) := by
            apply Bool.eq_iff_iff.mpr
            rw [decide_eq_true_iff, decide_eq_true_iff]
            unfold bet
            simp only
            omega
          rw [e] at h
          exact h
        · have e : decide (bet (a, b) (x, y)) = false := decide_eq_false (by unfold bet; simp only; omega)
          rw [e] at h
          exact ifF (by rw [eqv_int]; exact decide_eq_false h2) h
    · exact h.elim
end
def F_head_of : FT := fun es c k => match es with
  | [.im (.int d), .im (.tuple [.int x, .int y])] => rootD d = true ∧ nrm d (x, y) ≠ 0 ∧ Bd 3000 x ∧ Bd 3000 y ∧ ∀ (h : Int × Int) (s m : Int), Head d h → isS s → (x, y) = mem d h s m → k (.im (.tuple [prP h, .int s, .int m])) c
  | _ => False
theorem now_bd {d x y : Int} {P : Int × Int} {N : Nat} (hd : Bd 6 d) (hx : Bd N x) (hy : Bd N y) (e : nrm d P = nrm d (x, y)) (hP : P.2.natAbs ≤ y.natAbs) : Bd (N + 4) P.1 ∧ Bd N P.2 := by
  have h2 : Bd N P.2 := Nat.lt_of_le_of_lt hP hy
  refine ⟨bd_root ?_, h2⟩
  have e1 : P.1 * P.1 = (x * x - d * y * y) + d * P.2 * P.2 := by
    have e' : P.1 * P.1 - d * P.2 * P.2 = x * x - d * y * y := e
    omega
  rw [e1]
  have b1 := ((hx.mul hx).mono (n := 2 * N + 6) (by omega)).sub (((hd.mul hy).mul hy).mono (n := 2 * N + 6) (by omega))
  have b2 := ((hd.mul h2).mul h2).mono (n := 2 * N + 6 + 1) (by omega)
  exact (b1.add b2).mono (by omega)
/-- what has been found so far: the six candidates, each with its sign and number -/
abbrev Cd := (Int × Int) × Int × Int
inductive Bst (l : List Cd) : PyData → PyData → Prop
  | no : (∀ c ∈ l, ¬ 0 ≤ c.1.2) → Bst l .none .none
  | yes {c : Cd} : c ∈ l → 0 ≤ c.1.2 → (∀ e ∈ l, 0 ≤ e.1.2 → ¬ bet e.1 c.1) → Bst l (prP c.1) (.tuple [.int c.2.1, .int c.2.2])
theorem bet_trans {p q r : Int × Int} (h : bet p q) (g : bet q r) : bet p r := by
  unfold bet at *
  omega
theorem Bst.skip {l : List Cd} {b m : PyData} (h : Bst l b m) {c : Cd} (hc : ¬ 0 ≤ c.1.2) : Bst (l ++ [c]) b m := by
  cases h with
  | no h =>
    refine .no fun e he => ?_
    rcases List.mem_append.mp he with he | he
    · exact h e he
    · rw [List.mem_singleton.mp he]; exact hc
  | yes h1 h2 h3 =>
    refine .yes (List.mem_append_left _ h1) h2 fun e he => ?_
    rcases List.mem_append.mp he with he | he
    · exact h3 e he
    · rw [List.mem_singleton.mp he]; exact fun z => absurd z hc
theorem Bst.keep {l : List Cd} {c e : Cd} (h1 : e ∈ l) (h2 : 0 ≤ e.1.2) (h3 : ∀ f ∈ l, 0 ≤ f.1.2 → ¬ bet f.1 e.1) (hn : ¬ bet c.1 e.1) : Bst (l ++ [c]) (prP e.1) (.tuple [.int e.2.1, .int e.2.2]) :=
  .yes (List.mem_append_left _ h1) h2 fun f hf => by
    rcases List.mem_append.mp hf with hf | hf
    · exact h3 f hf
    · rw [List.mem_singleton.mp hf]; exact fun _ => hn
theorem Bst.take {l : List Cd} {c e : Cd} (h3 : ∀ f ∈ l, 0 ≤ f.1.2 → ¬ bet f.1 e.1) (hc : 0 ≤ c.1.2) (hb : bet c.1 e.1) : Bst (l ++ [c]) (prP c.1) (.tuple [.int c.2.1, .int c.2.2]) :=
  .yes (List.mem_append_right _ List.mem_cons_self) hc fun f hf hy z => by
    rcases List.mem_append.mp hf with hf | hf
    · exact h3 f hf hy (bet_trans z hb)
    · rw [List.mem_singleton.mp hf] at z; exact bet_irr z
theorem Bst.first {l : List Cd} {c : Cd} (h : ∀ e ∈ l, ¬ 0 ≤ e.1.2) (hc : 0 ≤ c.1.2) : Bst (l ++ [c]) (prP c.1) (.tuple [.int c.2.1, .int c.2.2]) :=
  .yes (List.mem_append_right _ List.mem_cons_self) hc fun f hf hy z => by
    rcases List.mem_append.mp hf with hf | hf
    · exact h f hf hy
    · rw [List.mem_singleton.mp hf] at z; exact bet_irr z
def cands (d : Int) (P : Int × Int) (num : Int) : List Cd := [(mem d P 1 (-1), 1, num + 1), (mem d P (-1) (-1), -1, num + 1), (mem d P 1 0, 1, num), (mem d P (-1) 0, -1, num), (mem d P 1 1, 1, num - 1), (mem d P (-1) 1, -1, num - 1)]
theorem cands_end {d : Int} (hd : rootD d = true) {x y : Int} {P : Int × Int} {num : Int} (hn : nrm d P ≠ 0) (e : (x, y) = mem d P 1 num) (h1 : P.2.natAbs ≤ (yAt d P 1).natAbs) (h2 : P.2.natAbs ≤ (yAt d P (-1)).natAbs) {b m : PyData} (h : Bst (cands d P num) b m) :
    ∃ (h : Int × Int) (s k : Int), b = prP h ∧ m = .tuple [.int s, .int k] ∧ Head d h ∧ isS s ∧ (x, y) = mem d h s k := by
  cases h with
  | no h =>
    exfalso
    have a1 := h (mem d P 1 0, 1, num) (by simp [cands])
    have a2 := h (mem d P (-1) 0, -1, num) (by simp [cands])
    rw [mem_zero] at a1 a2
    unfold scl at a1 a2
    simp only at a1 a2
    omega
  | @yes c h1' h2' h3' =>
    obtain ⟨s, j, hs, hj, hc⟩ : ∃ s j, isS s ∧ (j = -1 ∨ j = 0 ∨ j = 1) ∧ c = (mem d P s j, s, num - j) := by
      simp only [cands, List.mem_cons, List.not_mem_nil, or_false] at h1'
      rcases h1' with rfl | rfl | rfl | rfl | rfl | rfl
      · exact ⟨1, -1, .inl rfl, .inl rfl, by rw [show num - -1 = num + 1 by omega]⟩
      · exact ⟨-1, -1, .inr rfl, .inl rfl, by rw [show num - -1 = num + 1 by omega]⟩
      · exact ⟨1, 0, .inl rfl, .inr (.inl rfl), by rw [show num - 0 = num by omega]⟩
      · exact ⟨-1, 0, .inr rfl, .inr (.inl rfl), by rw [show num - 0 = num by omega]⟩
      · exact ⟨1, 1, .inl rfl, .inr (.inr rfl), rfl⟩
      · exact ⟨-1, 1, .inr rfl, .inr (.inr rfl), rfl⟩
    subst hc
    refine ⟨mem d P s j, s, num - j, rfl, rfl, ?_, hs, ?_⟩
    · refine head_pick hd hn h1 h2 (mem_six hs hj) h2' fun c hc hy => ?_
      obtain ⟨r, i, hr, hi, rfl⟩ := six_mem hc
      refine h3' (mem d P r i, r, num - i) ?_ hy
      rcases hr with rfl | rfl <;> rcases hi with rfl | rfl | rfl <;> simp [cands] <;> omega
    · rw [mem_mem hd, hs.sq, show j + (num - j) = num by omega]
      exact e
theorem yAt_up {d : Int} (h : rootD d = true) (P : Int × Int) : (mulP d P (un d)).2 = yAt d P 1 := by
  unfold yAt
  rw [upw_one h]
theorem yAt_dn {d : Int} (h : rootD d = true) (P : Int × Int) : (mulP d P (opp (un d))).2 = yAt d P (-1) := by
  unfold yAt
  rw [upw_m1 h]

section
variable {P : Program} {w : World} {K : PySem.W.Frag} {mg : Str → Option Value} {base : Heap}
theorem ok_head_of (T : Txt K mg) : FnOk P w K mg base CX0 5 T.a_head_of T.d_head_of ["d", "pair"] (spD K F_head_of) := by
  have G_found_unit := ok_found_unit (P := P) (w := w) (base := base) T
  have G_is_better := ok_is_better (P := P) (w := w) (base := base) T
  have G_opposite := ok_opposite (P := P) (w := w) (base := base) T
  have G_times := ok_times (P := P) (w := w) (base := base) T
  refine fnD T.F_head_of sc_head_of (fun es c k h => ?_) (fun cdv A outer s H E hr => (ds_cons (ds_set (i := 2) sc_head_of.nd rfl (by first | exact Or.inl rfl | exact Or.inr rfl) (de_call G_found_unit (hr.mono (by decide)) (by rfl) T.g_found_unit T.F_found_unit.kp (b_found_unit T) (da_cons (de_var 0) da_nil)))
  (ds_cons (ds_asgB rfl (de_tup (da_cons de_non (da_cons de_non da_nil))) (dgs_cons (dg_name (i := 3) sc_head_of.nd rfl (by first | exact Or.inl rfl | exact Or.inr rfl)) (dgs_cons (dg_name (i := 4) sc_head_of.nd rfl (by first | exact Or.inl rfl | exact Or.inr rfl)) dgs_nil)) 2 glen2)
  (ds_cons (ds_par (ps_par rfl sc_head_of.nd (i := 5) (j := 6) rfl rfl (by decide) rfl rfl (da_cons (de_var 1) (da_cons de_int da_nil)) rfl))
  (ds_cons (ds_while PassesOwn.never (dt_cmp od_lt (de_cb cd_abs (by rfl) T.m_abs (by decide +kernel) (da_cons (de_ix (de_call G_times (hr.mono (by decide)) (by rfl) T.g_times T.F_times.kp (b_times T) (da_cons (de_var 0) (da_cons (de_var 5) (da_cons (de_call G_opposite (hr.mono (by decide)) (by rfl) T.g_opposite T.F_opposite.kp (b_opposite T) (da_cons (de_var 2) da_nil)) da_nil)))) de_int (fun _ _ => rfl)) da_nil)) (de_cb cd_abs (by rfl) T.m_abs (by decide +kernel) (da_cons (de_ix (de_var 5) de_int (fun _ _ => rfl)) da_nil)) (nomark _))
    (ds_one (ds_par (ps_par rfl sc_head_of.nd (i := 5) (j := 6) rfl rfl (by decide) rfl rfl (da_cons (de_call G_times (hr.mono (by decide)) (by rfl) T.g_times T.F_times.kp (b_times T) (da_cons (de_var 0) (da_cons (de_var 5) (da_cons (de_call G_opposite (hr.mono (by decide)) (by rfl) T.g_opposite T.F_opposite.kp (b_opposite T) (da_cons (de_var 2) da_nil)) da_nil)))) (da_cons (de_op od_add (de_var 6) de_int) da_nil)) rfl))))
  (ds_cons (ds_while PassesOwn.never (dt_cmp od_lt (de_cb cd_abs (by rfl) T.m_abs (by decide +kernel) (da_cons (de_ix (de_call G_times (hr.mono (by decide)) (by rfl) T.g_times T.F_times.kp (b_times T) (da_cons (de_var 0) (da_cons (de_var 5) (da_cons (de_var 2) da_nil)))) de_int (fun _ _ => rfl)) da_nil)) (de_cb cd_abs (by rfl) T.m_abs (by decide +kernel) (da_cons (de_ix (de_var 5) de_int (fun _ _ => rfl)) da_nil)) (nomark _))
    (ds_one (ds_par (ps_par rfl sc_head_of.nd (i := 5) (j := 6) rfl rfl (by decide) rfl rfl (da_cons (de_call G_times (hr.mono (by decide)) (by rfl) T.g_times T.F_times.kp (b_times T) (da_cons (de_var 0) (da_cons (de_var 5) (da_cons (de_var 2) da_nil)))) (da_cons (de_op od_sub (de_var 6) de_int) da_nil)) rfl))))
  (ds_cons (ds_set (i := 7) sc_head_of.nd rfl (by first | exact Or.inl rfl | exact Or.inr rfl) (de_lst (da_cons (de_tup (da_cons (de_call G_times (hr.mono (by decide)) (by rfl) T.g_times T.F_times.kp (b_times T) (da_cons (de_var 0) (da_cons (de_var 5) (da_cons (de_call G_opposite (hr.mono (by decide)) (by rfl) T.g_opposite T.F_opposite.kp (b_opposite T) (da_cons (de_var 2) da_nil)) da_nil)))) (da_cons (de_op od_add (de_var 6) de_int) da_nil))) (da_cons (de_tup (da_cons (de_var 5) (da_cons (de_var 6) da_nil))) (da_cons (de_tup (da_cons (de_call G_times (hr.mono (by decide)) (by rfl) T.g_times T.F_times.kp (b_times T) (da_cons (de_var 0) (da_cons (de_var 5) (da_cons (de_var 2) da_nil)))) (da_cons (de_op od_sub (de_var 6) de_int) da_nil))) da_nil)))))
  (ds_cons (ds_for PassesOwn.never rfl (di_v 7) (dg_tup rfl (dgs_cons (dg_name (i := 8) sc_head_of.nd rfl (by first | exact Or.inl rfl | exact Or.inr rfl)) (dgs_cons (dg_name (i := 9) sc_head_of.nd rfl (by first | exact Or.inl rfl | exact Or.inr rfl)) dgs_nil)) 2 glen2)
    (ds_one (ds_for PassesOwn.never rfl (di_e (de_tup (da_cons de_int (da_cons (de_un ud_neg de_int) da_nil)))) (dg_name (i := 10) sc_head_of.nd rfl (by first | exact Or.inl rfl | exact Or.inr rfl))
      (ds_cons (ds_set (i := 11) sc_head_of.nd rfl (by first | exact Or.inl rfl | exact Or.inr rfl) (de_tup (da_cons (de_op od_mul (de_var 10) (de_ix (de_var 8) de_int (fun _ _ => rfl))) (da_cons (de_op od_mul (de_var 10) (de_ix (de_var 8) de_int (fun _ _ => rfl))) da_nil))))
      (ds_one (ds_if (PW.pt (dw_and (dt_cmp od_ge (de_ix (de_var 11) de_int (fun _ _ => rfl)) de_int (nomark _)) (dw_and1 (PW.pt (dw_or (dt_cmp od_isN (de_var 3) de_non (nomark _)) (dw_or1 (dt_val (de_call G_is_better (hr.mono (by decide)) (by rfl) T.g_is_better T.F_is_better.kp (b_is_better T) (da_cons (de_var 11) (da_cons (de_var 3) da_nil))))))))))
        (ds_one (ds_par (ps_par rfl sc_head_of.nd (i := 3) (j := 4) rfl rfl (by decide) rfl rfl (da_cons (de_var 11) (da_cons (de_tup (da_cons (de_var 10) (da_cons (de_var 9) da_nil))) da_nil)) rfl)))
        ds_nil))))))
  (ds_one (ds_ret (de_tup (da_cons (de_var 3) (da_cons (de_ix (de_var 4) de_int (fun _ _ => rfl)) (da_cons (de_ix (de_var 4) de_int (fun _ _ => rfl)) da_nil)))))))))))))) (fun es c k h => ?_)
  · unfold F_head_of at h
    split at h <;> first | rfl | exact h.elim
  · unfold F_head_of at h
    split at h
    · rename_i d x y
      obtain ⟨hd, hn, bx, by_, h⟩ := h
      have hd6 := rootD_bd hd
      have hub := un_bd' hd
      have two : (2 : Nat) ≤ 100000 := by decide
      have ab : ∀ z : Int, (if z < 0 then -z else z) = (z.natAbs : Int) := abs_nat
      refine ⟨hd, ?_⟩
      obtain ⟨U, hU⟩ : ∃ U, U = un d := ⟨_, rfl⟩
      have yUp : ∀ P : Int × Int, (mulP d P U).2 = yAt d P 1 := fun P => by rw [hU]; exact yAt_up hd P
      have yDn : ∀ P : Int × Int, (mulP d P (opp U)).2 = yAt d P (-1) := fun P => by rw [hU]; exact yAt_dn hd P
      have uOne : upw d 1 = U := by rw [hU]; exact upw_one hd
      have uM1 : upw d (-1) = opp U := by rw [hU]; exact upw_m1 hd
      have nU : nrm d U = 1 := by rw [hU]; exact un_nrm hd
      rw [← hU] at hub ⊢
      clear hU
      refine ⟨two, ?_⟩
      -- going down
      have e0 : (x, y) = mem d (x, y) 1 0 := by rw [mem_zero, scl_one]
      refine ⟨fun (w : Nat) (S : Sl) q => q = c ∧ ∃ (P : Int × Int) (num : Int), (x, y) = mem d P 1 num ∧ P.2.natAbs ≤ y.natAbs ∧ w = P.2.natAbs ∧ S = [some (.im (.int d)), some (.im (pr x y)), some (.im (prP (U))), some (.im .none), some (.im .none), some (.im (prP P)), some (.im (.int num)), none, none, none, none, none], ⟨_, rfl, (x, y), 0, e0, Nat.le_refl _, rfl, rfl⟩, ?_⟩
      rintro w S q ⟨rfl, P, num, e1, hP, rfl, rfl⟩
      have nP : nrm d P = nrm d (x, y) := by rw [e1, nrm_mem hd P (.inl rfl)]
      obtain ⟨bP1, bP2⟩ := now_bd hd6 bx by_ nP hP
      have b1 : Bd 4000 P.1 := bP1.mono (by decide)
      have b2 : Bd 4000 P.2 := bP2.mono (by decide)
      refine ⟨hd6, b1, b2, hub.1.mono (by decide), hub.2.neg.mono (by decide), trivial, ?_⟩
      show (if decide ((if (mulP d P (opp (U))).2 < 0 then -(mulP d P (opp (U))).2 else (mulP d P (opp (U))).2) < (if P.2 < 0 then -P.2 else P.2)) = true then _ else _)
      rw [ab, ab, yDn]
      by_cases hlt : ((yAt d P (-1)).natAbs : Int) < (P.2.natAbs : Int)
      · refine ifT (decide_eq_true hlt) ?_
        refine ⟨hd6, b1, b2, hub.1.mono (by decide), hub.2.neg.mono (by decide), (yAt d P (-1)).natAbs, by omega, rfl, mulP d P (opp (U)), num + 1, ?_, ?_, ?_, rfl⟩
        · rw [e1]
          unfold mem
          rw [scl_one, scl_one, mulP_assoc, show num + 1 = 1 + num by omega, upw_add hd, ← mulP_assoc d (opp (U)), uOne, mulP_comm d (opp (U)), mul_opp, nU, one_mulP]
        · rw [yDn]; omega
        · rw [yDn]
      · refine ifF (decide_eq_false hlt) ?_
        have hlow : P.2.natAbs ≤ (yAt d P (-1)).natAbs := by omega
        clear hlt b1 b2 bP1 bP2
        -- going up
        refine ⟨fun (w : Nat) (S : Sl) q' => q' = q ∧ ∃ (P : Int × Int) (num : Int), (x, y) = mem d P 1 num ∧ P.2.natAbs ≤ y.natAbs ∧ P.2.natAbs ≤ (yAt d P (-1)).natAbs ∧ w = P.2.natAbs ∧ S = [some (.im (.int d)), some (.im (pr x y)), some (.im (prP (U))), some (.im .none), some (.im .none), some (.im (prP P)), some (.im (.int num)), none, none, none, none, none], ⟨_, rfl, P, num, e1, hP, hlow, rfl, rfl⟩, ?_⟩
        clear e1 hP nP hlow
        rintro w S q ⟨rfl, P, num, e1, hP, hlow, rfl, rfl⟩
        have nP : nrm d P = nrm d (x, y) := by rw [e1, nrm_mem hd P (.inl rfl)]
        obtain ⟨bP1, bP2⟩ := now_bd hd6 bx by_ nP hP
        have b1 : Bd 4000 P.1 := bP1.mono (by decide)
        have b2 : Bd 4000 P.2 := bP2.mono (by decide)
        refine ⟨hd6, b1, b2, hub.1.mono (by decide), hub.2.mono (by decide), trivial, ?_⟩
        show (if decide ((if (mulP d P (U)).2 < 0 then -(mulP d P (U)).2 else (mulP d P (U)).2) < (if P.2 < 0 then -P.2 else P.2)) = true then _ else _)
        rw [ab, ab, yUp]
        by_cases hlt : ((yAt d P 1).natAbs : Int) < (P.2.natAbs : Int)
        · refine ifT (decide_eq_true hlt) ?_
          refine ⟨hd6, b1, b2, hub.1.mono (by decide), hub.2.mono (by decide), trivial, (yAt d P 1).natAbs, by omega, rfl, mulP d P (U), num - 1, ?_, ?_, ?_, ?_, rfl⟩
          · rw [e1]
            unfold mem
            rw [scl_one, scl_one, mulP_assoc, show num - 1 = -1 + num by omega, upw_add hd, ← mulP_assoc d (U), uM1, mul_opp, nU, one_mulP]
          · rw [yUp]; omega
          · have e9 : yAt d (mulP d P (U)) (-1) = P.2 := by
              unfold yAt
              rw [uM1, mulP_assoc, mul_opp, nU, mulP_one]
            rw [e9, yUp]
            omega
          · rw [yUp]
        · refine ifF (decide_eq_false hlt) ?_
          have hup : P.2.natAbs ≤ (yAt d P 1).natAbs := by omega
          refine ⟨hd6, b1, b2, hub.1.mono (by decide), hub.2.neg.mono (by decide), two, two, hd6, b1, b2, hub.1.mono (by decide), hub.2.mono (by decide), trivial, two, (by decide : 3 ≤ 100000), ?_⟩
          dsimp only [putE]
          refine forV rfl (fun i S q' => q' = q ∧ ∃ b m x7 x8 x9 x10 x11, Bst ((cands d P num).take (2 * i)) b m ∧ S = [some (.im (.int d)), some (.im (pr x y)), some (.im (prP (U))), some (.im b), some (.im m), some (.im (prP P)), some (.im (.int num)), x7, x8, x9, x10, x11]) ⟨rfl, _, _, _, none, none, none, none, .no (fun c hc => absurd hc (by simp)), rfl⟩ ?_ ?_
          · rintro i z S q' N hz ⟨rfl, b, m, x7, x8, x9, x10, x11, hb, rfl⟩ hN
            obtain ⟨one, num', rfl, htk, bo1, bo2⟩ : ∃ (one : Int × Int) (num' : Int), z = .tuple [prP one, .int num'] ∧ (cands d P num).take (2 * (i + 1)) = (cands d P num).take (2 * i) ++ [(scl 1 one, 1, num'), (scl (-1) one, -1, num')] ∧ Bd 4030 one.1 ∧ Bd 4030 one.2 := by
              have bm := Bd.mulP hd6 bP1 (bP2.mono (by decide)) hub.1 hub.2
              have bn := Bd.mulP (q := opp (U)) hd6 bP1 (bP2.mono (by decide)) hub.1 hub.2.neg
              have em1 : ∀ s, mem d P s (-1) = scl s (mulP d P (opp (U))) := fun s => by unfold mem; rw [uM1]
              have ep1 : ∀ s, mem d P s 1 = scl s (mulP d P (U)) := fun s => by unfold mem; rw [uOne]
              have ez1 : ∀ s, mem d P s 0 = scl s P := fun s => mem_zero P s
              have hz' : [PyData.tuple [prP (mulP d P (opp (U))), .int (num + 1)], .tuple [prP P, .int num], .tuple [prP (mulP d P (U)), .int (num - 1)]][i]? = some z := hz
              unfold cands
              rw [em1, em1, ez1, ez1, ep1, ep1]
              generalize mulP d P (opp (U)) = A at bn hz' ⊢
              generalize mulP d P (U) = B at bm hz' ⊢
              match i, hz' with
              | 0, hz => cases hz; exact ⟨A, num + 1, rfl, rfl, bn.1.mono (by decide), bn.2.mono (by decide)⟩
              | 1, hz => cases hz; exact ⟨P, num, rfl, rfl, bP1.mono (by decide), bP2.mono (by decide)⟩
              | 2, hz => cases hz; exact ⟨B, num - 1, rfl, rfl, bm.1.mono (by decide), bm.2.mono (by decide)⟩
              | _ + 3, hz => cases hz
            dsimp only [gT, gsCons, gsNil, gN]
            refine ⟨two, ?_⟩
            refine forL_by (fun j S q'' => q'' = q' ∧ ∃ b m x10 x11, Bst ((cands d P num).take (2 * i) ++ [(scl 1 one, 1, num'), (scl (-1) one, -1, num')].take j) b m ∧ S = [some (.im (.int d)), some (.im (pr x y)), some (.im (prP (U))), some (.im b), some (.im m), some (.im (prP P)), some (.im (.int num)), x7, some (.im (prP one)), some (.im (.int num')), x10, x11]) ⟨rfl, b, m, x10, x11, by rw [List.take_zero, List.append_nil]; exact hb, rfl⟩ ?_ ?_
            · clear hb
              rintro j z S q'' N' hz ⟨rfl, b, m, x10, x11, hb, rfl⟩ hN'
              obtain ⟨s, rfl, hs, htk2⟩ : ∃ s : Int, z = .int s ∧ isS s ∧ [(scl 1 one, (1 : Int), num'), (scl (-1) one, -1, num')].take (j + 1) = [(scl 1 one, 1, num'), (scl (-1) one, -1, num')].take j ++ [(scl s one, s, num')] := by
                match j, hz with
                | 0, hz => cases hz; exact ⟨1, rfl, .inl rfl, rfl⟩
                | 1, hz => cases hz; exact ⟨-1, rfl, .inr rfl, rfl⟩
                | _ + 2, hz => cases hz
              have bs : Bd 2 s := by rcases hs with rfl | rfl <;> (unfold Bd; decide)
              have step : ∀ b' m', Bst ((cands d P num).take (2 * i) ++ [(scl 1 one, (1 : Int), num'), (scl (-1) one, -1, num')].take j ++ [(scl s one, s, num')]) b' m' → N' [some (.im (.int d)), some (.im (pr x y)), some (.im (prP (U))), some (.im b'), some (.im m'), some (.im (prP P)), some (.im (.int num)), x7, some (.im (prP one)), some (.im (.int num')), some (.im (.int s)), some (.im (prP (scl s one)))] q'' := fun b' m' hb' => by
                refine hN' _ _ ⟨rfl, b', m', _, _, ?_, rfl⟩
                rw [htk2, ← List.append_assoc]
                exact hb'
              refine ⟨bs.mulW bo1 (by decide), bs.mulW bo2 (by decide), two, ?_⟩
              refine ⟨trivial, ?_⟩
              by_cases hy : 0 ≤ (scl s one).2
              · refine ifT (decide_eq_true hy) ?_
                cases hb with
                | no hb => exact ⟨two, step _ _ (Bst.first hb hy)⟩
                | @yes c h1 h2 h3 =>
                  by_cases hbt : bet (scl s one) c.1
                  · exact ifT (decide_eq_true hbt) ⟨two, step _ _ (Bst.take h3 hy hbt)⟩
                  · exact ifF (decide_eq_false hbt) (step _ _ (Bst.keep h1 h2 h3 hbt))
              · exact ifF (decide_eq_false hy) (step _ _ (hb.skip hy))
            · rintro S q'' ⟨rfl, b, m, x10, x11, hb, rfl⟩
              refine hN _ _ ⟨rfl, b, m, _, _, _, _, _, ?_, rfl⟩
              rw [htk]
              exact hb
          · rintro S q' ⟨rfl, b, m, x7, x8, x9, x10, x11, hb, rfl⟩
            have hb' : Bst (cands d P num) b m := hb
            obtain ⟨hh, s, k', rfl, rfl, hhd, hs, he⟩ := cands_end hd (by rw [nP]; exact hn) e1 hup hlow hb'
            exact ⟨(by decide : 3 ≤ 100000), h hh s k' hhd hs he⟩
    · exact h.elim
end
def F_found_heads : FT := fun es c k => match es with
  | [.im (.int d), .im (.int n)] => rootD d = true ∧ norOk n = true ∧ k (.own ((hds d n).map prP)) c
  | _ => False
/-! data at a frame of ints -/
def toE : Option V → Option En
  | some (.int z) => some (.im (.int z))
  | _ => none
theorem hd_of {K : PySem.W.Frag} {T : Option Addr} {n : Nat} {c : Cn} {H : Hp} (tw : Tw T n c H) (σ : SS) : Hd K T n (σ.map toE) c σ H where
  len := by simp
  rep := fun i e h => by
    rw [List.getElem?_map] at h
    cases z : σ[i]? with
    | none => rw [z] at h; cases h
    | some v =>
      rw [z] at h
      have h' : toE v = some e := Option.some.inj h
      unfold toE at h'
      split at h'
      · cases h'
        exact ⟨_, rfl, .int _⟩
      · cases h'
  tru := fun i xs h => by
    rw [List.getElem?_map] at h
    cases z : σ[i]? with
    | none => rw [z] at h; cases h
    | some v =>
      rw [z] at h
      have h' : toE v = some (.own xs) := Option.some.inj h
      unfold toE at h'
      split at h' <;> cases h'
  dis := fun i j xs a e _ h => by
    rw [List.getElem?_map] at h
    cases z : σ[i]? with
    | none => rw [z] at h; cases h
    | some v =>
      rw [z] at h
      have h' : toE v = some (.own xs) := Option.some.inj h
      unfold toE at h'
      split at h' <;> cases h'
  tow := tw
/-- what was neither a list nor an object stays; the town and the objects are as they were -/
structure Kp (T : Option Addr) (n : Nat) (c : Cn) (H H' : Hp) : Prop where
  fr : FrT T H H'
  tw : Tw T n c H'
theorem Kp.trans {T : Option Addr} {n : Nat} {c : Cn} {H H1 H2 : Hp} (a : Kp T n c H H1) (b : Kp T n c H1 H2) : Kp T n c H H2 := ⟨a.fr.trans b.fr, b.tw⟩
theorem Kp.at {T : Option Addr} {n : Nat} {c : Cn} {H H' : Hp} (k : Kp T n c H H') (tw : Tw T n c H) {b : Addr} {o : HO} (h : H b = some o) (nl : ∀ xs, o ≠ .lst xs) (ni : ∀ C dx fs, o ≠ .ins C dx fs) : H' b = some o := by
  refine k.fr.keep b o h ⟨fun e => ?_, fun m => ?_⟩
  · obtain ⟨ts, q, _⟩ := tw.tow b e
    rw [h] at q
    exact nl _ (Option.some.inj q)
  · cases m with
    | ins z => rw [h] at z; exact ni _ _ _ (Option.some.inj z)
    | fld _ _ z => rw [h] at z; exact nl _ (Option.some.inj z)
/-- a dict that is new since H is changed -/
theorem Kp.dict {T : Option Addr} {n : Nat} {c : Cn} {H H' : Hp} (k : Kp T n c H H') {p : Addr} {kvs kvs' : List (List Key × V)} (hp : H p = none) (h : H' p = some (.dT kvs)) : Kp T n c H (upd H' p (.dT kvs')) := by
  have ins : ∀ {e C dx : Addr} {fs : List (Str × V)}, upd H' p (.dT kvs') e = some (.ins C dx fs) → H' e = some (.ins C dx fs) := fun {e C dx fs} z => by
    by_cases y : e = p
    · subst y; rw [upd_same] at z; cases z
    · rw [upd_ne y] at z; exact z
  have lst : ∀ {e : Addr} {ys : List V}, upd H' p (.dT kvs') e = some (.lst ys) → H' e = some (.lst ys) := fun {e ys} z => by
    by_cases y : e = p
    · subst y; rw [upd_same] at z; cases z
    · rw [upd_ne y] at z; exact z
  have mu : ∀ {b : Addr}, Mu (upd H' p (.dT kvs')) b → Mu H' b := fun {b} m => by
    cases m with
    | ins z => exact .ins (ins z)
    | fld z1 z2 z3 => exact .fld (ins z1) z2 (lst z3)
  have ke : Ke H' (upd H' p (.dT kvs')) := fun b o e => by
    by_cases y : b = p
    · subst y; rw [h] at e; cases e; exact .inl (.dT _)
    · exact .inr ((upd_ne y).trans e)
  refine ⟨⟨fun b o z nt => ?_, fun b m => k.fr.mu b (mu m), fun b z => ?_⟩, { tow := fun b e => ?_, ntw := fun b e m => k.tw.ntw b e (mu m), ses := fun b s hs => ?_, all := fun b C dx fs e => k.tw.all b C dx fs (ins e), dis := fun b b' C C' dx dy fs gs x y l zs h1 h2 h3 h4 h5 => k.tw.dis b b' C C' dx dy fs gs x y l zs (ins h1) (ins h2) h3 h4 (lst h5) }⟩
  · rw [upd_ne (fun w => by rw [w, hp] at z; cases z)]
    exact k.fr.keep b o z nt
  · by_cases y : b = p
    · rw [y]; exact hp
    · rw [upd_ne y] at z
      exact k.fr.trk b z
  · obtain ⟨ts, q, z⟩ := k.tw.tow b e
    exact ⟨ts, (upd_ne (fun w => by rw [w, h] at q; cases q)).trans q, z⟩
  · obtain ⟨dx, vs, ls, e, z, nd⟩ := k.tw.ses b s hs
    refine ⟨dx, vs, ls, (upd_ne (fun w => by rw [w, h] at e; cases e)).trans e, z.keep ke fun l hl => upd_ne fun w => ?_, nd⟩
    obtain ⟨_, ws, hw⟩ := z.mem hl
    rw [w, h] at hw
    cases hw
theorem useE {K : PySem.W.Frag} {de : DE} {σ : SS} {H : Hp} {Q : VK} {T : Option Addr} {n : Nat} {c : Cn} (tw : Tw T n c H) (Pe : En → Prop) (h : ∀ k : En → Cn → Prop, (∀ e, Pe e → k e c) → de (σ.map toE) c k) (q : ∀ e, Pe e → ∀ v H', Kp T n c H H' → Rv K T H' v e → Q v H') : LE K de σ H Q :=
  ⟨T, n, _, c, fun e' c' => Pe e' ∧ c' = c, hd_of tw σ, h _ fun e he => ⟨he, rfl⟩, fun e' c' he v H' f t r => by obtain ⟨he, rfl⟩ := he; exact q e' he v H' ⟨f, t⟩ r.rv⟩
theorem useT {K : PySem.W.Frag} {dt : DT} {σ : SS} {H : Hp} {Q : Bool → Hp → Prop} {T : Option Addr} {n : Nat} {c : Cn} (tw : Tw T n c H) (b : Bool) (h : ∀ k : Bool → Cn → Prop, k b c → dt (σ.map toE) c k) (q : ∀ H', Kp T n c H H' → Q b H') : LT K dt σ H Q :=
  ⟨T, n, _, c, fun b' c' => b' = b ∧ c' = c, hd_of tw σ, h _ ⟨rfl, rfl⟩, fun b' c' he H' f t => by obtain ⟨rfl, rfl⟩ := he; exact q H' ⟨f, t⟩⟩
theorem useA {K : PySem.W.Frag} {da : DA} {σ : SS} {H : Hp} {Q : List V → Hp → Prop} {T : Option Addr} {n : Nat} {c : Cn} (tw : Tw T n c H) (i : Int) (h : ∀ k : List En → Cn → Prop, k [.im (.int i)] c → da (σ.map toE) c k) (q : ∀ H', Kp T n c H H' → Q [.int i] H') : LA K da σ H Q :=
  ⟨T, n, _, c, fun es c' => es = [.im (.int i)] ∧ c' = c, hd_of tw σ, h _ ⟨rfl, rfl⟩, fun es c' he vs H' f t r => by
    obtain ⟨rfl, rfl⟩ := he
    cases r with
    | cons r1 rs =>
      cases rs
      cases r1.rv
      exact q H' ⟨f, t⟩⟩
def ent (q : Int × Int) : List Key × V := (key2 q, .bl true)
def addP (ps : List (Int × Int)) (q : Int × Int) : List (Int × Int) := if q ∈ ps then ps else ps ++ [q]
theorem key2_inj {p q : Int × Int} (h : key2 p = key2 q) : p = q := by
  unfold key2 at h
  simp only [List.cons.injEq, Sum.inl.injEq, and_true] at h
  exact Prod.ext h.1 h.2
theorem putK_ent (ps : List (Int × Int)) (q : Int × Int) : putK (ps.map ent) (key2 q) (.bl true) = (addP ps q).map ent := by
  unfold putK addP
  by_cases h : q ∈ ps
  · rw [if_pos h, if_pos]
    · apply List.ext_getElem
      · simp
      · intro i h1 h2
        simp only [List.getElem_map]
        split
        · rename_i e
          exact Prod.ext rfl rfl
        · rfl
    · rw [List.any_eq_true]
      exact ⟨ent q, List.mem_map.mpr ⟨q, h, rfl⟩, decide_eq_true rfl⟩
  · rw [if_neg h, if_neg]
    · simp [ent]
    · intro z
      rw [List.any_eq_true] at z
      obtain ⟨x, hx, e⟩ := z
      obtain ⟨p, hp, rfl⟩ := List.mem_map.mp hx
      have e2 : key2 p = key2 q := of_decide_eq_true e
      rw [key2_inj e2] at hp
      exact h hp
structure Fnd (d n : Int) (ps : List (Int × Int)) (y : Nat) (m : Nat) (xs : List Int) : Prop where
  nd : ps.Nodup
  hd : ∀ q ∈ ps, Head d q ∧ nrm d q = n
  all : ∀ q, Head d q → nrm d q = n → q.2 < y → q ∈ ps
  now : ∀ x ∈ xs.take m, Head d (x, (y : Int)) → (x, (y : Int)) ∈ ps
  len : ps.length ≤ 2 * y + m
theorem mem_addP {ps : List (Int × Int)} {q p : Int × Int} : p ∈ addP ps q ↔ p ∈ ps ∨ p = q := by
  unfold addP
  split
  · rename_i h
    constructor
    · exact .inl
    · rintro (z | z)
      · exact z
      · rw [z]; exact h
  · rw [List.mem_append, List.mem_singleton]
theorem Fnd.step {d n : Int} (hd : rootD d = true) {ps : List (Int × Int)} {y m : Nat} {xs : List Int} {x : Int} (f : Fnd d n ps y m xs) (hx : xs[m]? = some x) (hN : nrm d (x, (y : Int)) = n) {h : Int × Int} {s k : Int} (hh : Head d h) (hs : isS s) (e : (x, (y : Int)) = mem d h s k) : Fnd d n (addP ps h) y (m + 1) xs where
  nd := by
    unfold addP
    split
    · exact f.nd
    · rename_i z
      rw [List.nodup_append]
      exact ⟨f.nd, by simp, fun a ha b hb => by rw [List.mem_singleton.mp hb]; exact fun w => z (w ▸ ha)⟩
  hd := fun q hq => by
    rcases mem_addP.mp hq with hq | rfl
    · exact f.hd q hq
    · refine ⟨hh, ?_⟩
      rw [e, nrm_mem hd _ hs] at hN
      exact hN
  all := fun q h1 h2 h3 => mem_addP.mpr (.inl (f.all q h1 h2 h3))
  now := fun z hz hZ => by
    have hl : m < xs.length := (List.getElem?_eq_some_iff.mp hx).1
    rw [List.take_succ_eq_append_getElem hl] at hz
    rcases List.mem_append.mp hz with hz | hz
    · exact mem_addP.mpr (.inl (f.now z hz hZ))
    · have ez : z = x := by
        rw [List.mem_singleton.mp hz]
        have := (List.getElem?_eq_some_iff.mp hx).2
        exact this
      subst ez
      refine mem_addP.mpr (.inr ?_)
      exact (hh.uniq hd hZ ⟨s, k, hs, e⟩).symm
  len := by
    have := f.len
    unfold addP
    split
    · omega
    · rw [List.length_append, List.length_singleton]
      omega
theorem Fnd.next {d n : Int} (hd : rootD d = true) {ps : List (Int × Int)} {y m : Nat} {xs : List Int} (f : Fnd d n ps y m xs) (hm : m = xs.length) (h2 : m ≤ 2) (hall : ∀ q : Int × Int, nrm d q = n → q.2 = y → q.1 ∈ xs) : Fnd d n ps (y + 1) 0 [] where
  nd := f.nd
  hd := f.hd
  all := fun q h1 h2 h3 => by
    by_cases z : q.2 < y
    · exact f.all q h1 h2 z
    · have ey : q.2 = y := by omega
      have := f.now q.1 (by rw [hm, List.take_length]; exact hall q h2 ey)
      rw [← ey] at this
      exact this h1
  now := fun x hx => absurd hx (by simp)
  len := by
    have := f.len
    omega
theorem sorted_hds {d n : Int} (h : rootD d = true) (hn : norOk n = true) {ps qs : List (Int × Int)} (f : Fnd d n ps (bnd d n + 1) 0 []) (hp : qs.Perm ps) (hs : qs.Pairwise (fun p q => ¬ ltL q p)) : qs = hds d n := by
  refine ord_uniq ?_ (hds_ord d n) fun p => ?_
  · have hnd : qs.Nodup := hp.nodup_iff.mpr f.nd
    have := List.pairwise_and_iff.mpr ⟨hs, hnd⟩
    refine List.Pairwise.imp (fun {a b} z => ?_) this
    by_cases w : ltL a b
    · exact w
    · exact absurd (ltL_tri w z.1) z.2
  · rw [hp.mem_iff, mem_hds h hn]
    constructor
    · exact f.hd p
    · rintro ⟨h1, h2⟩
      have := head_bnd h hn h1 h2
      exact f.all p h1 h2 (by omega)

section
variable {P : Program} {w : World} {K : PySem.W.Frag} {mg : Str → Option Value} {base : Heap}
theorem ok_found_heads (T : Txt K mg) : FnOk P w K mg base CX0 6 T.a_found_heads T.d_found_heads ["d", "n"] (spD K F_found_heads) := by
  have G_bound_for := ok_bound_for (P := P) (w := w) (base := base) T
  have G_root_of := ok_root_of (P := P) (w := w) (base := base) T
  have G_head_of := ok_head_of (P := P) (w := w) (base := base) T
  refine T.F_found_heads.ok sc_found_heads (fun vs H Q E h => ?_) (fun cdv A outer s H vs Q E hr h => ?_)
  · obtain ⟨Tt, n, c, es, k, t, rs, hF, q⟩ := h
    rw [rs.len]
    unfold F_found_heads at hF
    split at hF
    · rfl
    · exact hF.elim
  · refine ⟨_, pss_cons (ps_set (i := 2) sc_found_heads.nd rfl (.inl rfl) pe_dnewT)
      (pss_cons (ps_for PassesOwn.never rfl (pi_range1 (by rfl) T.m_range (da_cons (de_op od_add (de_call G_bound_for (hr.mono (by decide)) (by rfl) T.g_bound_for T.F_bound_for.kp (b_bound_for T) (da_cons (de_var 0) (da_cons (de_var 1) da_nil))) de_int) da_nil)) (pg_name (i := 3) sc_found_heads.nd rfl (.inl rfl))
        (pss_cons (ps_set (i := 4) sc_found_heads.nd rfl (.inl rfl) (de_op od_add (de_var 1) (de_op od_mul (de_op od_mul (de_var 0) (de_var 3)) (de_var 3))))
        (pss_one (ps_if (PW.pt (dw_and (dt_cmp od_ge (de_var 4) de_int (nomark _)) (dw_and1 (dt_cmp (od_eq hr.units) (de_op od_mul (de_call G_root_of (hr.mono (by decide)) (by rfl) T.g_root_of T.F_root_of.kp (b_root_of T) (da_cons (de_var 4) da_nil)) (de_call G_root_of (hr.mono (by decide)) (by rfl) T.g_root_of T.F_root_of.kp (b_root_of T) (da_cons (de_var 4) da_nil))) (de_var 4) (nomark _)))))
          (pss_one (ps_for PassesOwn.never rfl (pi_both (de_tup (da_cons (de_call G_root_of (hr.mono (by decide)) (by rfl) T.g_root_of T.F_root_of.kp (b_root_of T) (da_cons (de_var 4) da_nil)) (da_cons (de_un ud_neg (de_call G_root_of (hr.mono (by decide)) (by rfl) T.g_root_of T.F_root_of.kp (b_root_of T) (da_cons (de_var 4) da_nil))) da_nil)))) (pg_name (i := 5) sc_found_heads.nd rfl (.inl rfl))
            (pss_one (ps_asg pe_bl (pg_sub (pv 2) (de_ix (de_call G_head_of (hr.mono (by decide)) (by rfl) T.g_head_of T.F_head_of.kp (b_head_of T) (da_cons (de_var 0) (da_cons (de_tup (da_cons (de_var 5) (da_cons (de_var 3) da_nil))) da_nil))) de_int (fun _ _ => rfl)) (set_dict (Nat.lt_of_le_of_lt (Nat.add_le_add_left (by decide) _) (hu65 hr)))))))) pss_nil))))
      (pss_one (ps_ret (pe_callB (cr_sortedDT rfl) (by rfl) T.m_sorted PyProof.Rows.boot_sorted (pa_cons (pv 2) pa_nil))))), ?_⟩
    obtain ⟨Tt, nn, c, es, k, tw, rs, hF, q⟩ := h
    unfold F_found_heads at hF
    split at hF
    · rename_i d n
      obtain ⟨hd, hn, hk⟩ := hF
      cases rs with
      | cons r1 _ rs =>
      cases rs with
      | cons r2 _ rs =>
      cases rs
      cases r1
      cases r2
      intro p hp
      have hd6 := rootD_bd hd
      have hdl := root_le hd
      have hb4 := bnd_le hd hn
      have h3 := norOk_iff.mp hn
      have two : (2 : Nat) ≤ 100000 := by decide
      have tw0 := tw_same tw (same_upd (o := .dT []) hp)
      refine useA tw0 ((bnd d n : Int) + 1) (fun k' hk' => ⟨hd, hn, hk'⟩) fun H1 kp1 => ⟨_, rfl, by omega, by omega, ?_⟩
      have k01 : Kp Tt nn c H H1 := ⟨(frT_same (same_upd hp)).trans kp1.fr, kp1.tw⟩
      have nd1 : ∀ kvs : List (List Key × V), ∀ xs, HO.dT kvs ≠ .lst xs := fun _ _ z => by cases z
      have nd2 : ∀ kvs : List (List Key × V), ∀ C dx fs, HO.dT kvs ≠ .ins C dx fs := fun _ _ _ _ z => by cases z
      have nu1 : ∀ ys : List V, ∀ xs, HO.tup ys ≠ .lst xs := fun _ _ z => by cases z
      have nu2 : ∀ ys : List V, ∀ C dx fs, HO.tup ys ≠ .ins C dx fs := fun _ _ _ _ z => by cases z
      refine for_range (fun i σ H' => ∃ ps x3 x4 x5, σ = [some (.int d), some (.int n), some (.ref p), x3, x4, x5] ∧ Kp Tt nn c H H' ∧ H' p = some (.dT (ps.map ent)) ∧ Fnd d n ps i 0 []) ⟨[], none, none, none, rfl, k01, kp1.at tw0 upd_same (nd1 _) (nd2 _), ⟨List.nodup_nil, fun q hq => absurd hq (by simp), fun q h1 _ h2 => absurd h1.nn (by omega), fun x hx => absurd hx (by simp), Nat.zero_le _⟩⟩ ?_ ?_
      · rintro i σ H2 hi ⟨ps, x3, x4, x5, rfl, kp2, hD, hf⟩
        have hi4 : i ≤ 4000 := by omega
        rw [Int.zero_add]
        have bi : Bd 12 (i : Int) := by unfold Bd; omega
        obtain ⟨sq, hsq⟩ : ∃ sq : Int, sq = n + d * i * i := ⟨_, rfl⟩
        have bsq : Bd 40 sq := by
          rw [hsq]
          exact ((Bd.mono (m := 8) (by unfold Bd; omega) (by decide) : Bd 30 n).add (((hd6.mul bi).mul bi).mono (by decide))).mono (by decide)
        refine useE kp2.tw (fun e => e = .im (.int sq)) (fun k' hk' => ⟨hd6.mulW bi (by decide), (hd6.mul bi).mulW bi (by decide), hk' _ (by rw [hsq])⟩) ?_
        rintro e rfl v H3 kp3 r
        cases r
        have hq : ∀ q : Int × Int, nrm d q = n → q.2 = i → q.1 * q.1 = sq := fun q h1 h2 => by
          have h1' : q.1 * q.1 - d * q.2 * q.2 = n := h1
          rw [h2] at h1'
          omega
        obtain ⟨r, hr'⟩ : ∃ r : Int, 0 ≤ sq → IsRoot sq r := by
          by_cases z : 0 ≤ sq
          · have e : ((sq.toNat : Nat) : Int) = sq := Int.toNat_of_nonneg z
            have := rtN_ok (n := sq.toNat) (by
              unfold Bd at bsq
              have : (2 : Nat) ^ 40 < 2 ^ 80 := by decide
              omega)
            rw [e] at this
            exact ⟨_, fun _ => this⟩
          · exact ⟨0, fun y => absurd y z⟩
        refine useT kp3.tw (decide (0 ≤ sq ∧ r * r = sq)) (fun k' hk' => ⟨trivial, ?_⟩) fun H4 kp4 => ?_
        · by_cases z : 0 ≤ sq
          · refine ifT (decide_eq_true z) ⟨z, bsq.mono (by decide), fun r1 h1 => ⟨z, bsq.mono (by decide), fun r2 h2 => ?_⟩⟩
            have e1 := (hr' z).uniq h1
            have e2 := (hr' z).uniq h2
            subst e1
            subst e2
            have br : Bd 40 r := bd_sq h1.nn h1.le bsq
            refine ⟨br.mulW br (by decide), shp_int _, shp_int _, ?_⟩
            show k' (PyData.eqv (.int (r * r)) (.int sq)) c
            rw [eqv_int]
            have e3 : decide (r * r = sq) = decide (0 ≤ sq ∧ r * r = sq) := by
              apply Bool.eq_iff_iff.mpr
              rw [decide_eq_true_iff, decide_eq_true_iff]
              exact ⟨fun w => ⟨z, w⟩, fun w => w.2⟩
            rw [e3]
            exact hk'
          · rw [decide_eq_false (fun w => z w.1)] at hk'
            exact ifF (decide_eq_false z) hk'
        · have kp5 : Kp Tt nn c H H4 := (kp2.trans kp3).trans kp4
          have hD4 : H4 p = some (.dT (ps.map ent)) := kp4.at kp3.tw (kp3.at kp2.tw hD (nd1 _) (nd2 _)) (nd1 _) (nd2 _)
          by_cases z : 0 ≤ sq ∧ r * r = sq
          · refine ifT (decide_eq_true z) ?_
            have hR := hr' z.1
            have br : Bd 40 r := bd_sq hR.nn hR.le bsq
            refine useE kp4.tw (fun e => e = .im (.tuple [.int r, .int (-r)])) (fun k' hk' => ⟨z.1, bsq.mono (by decide), fun r1 h1 => ⟨z.1, bsq.mono (by decide), fun r2 h2 => ⟨two, ?_⟩⟩⟩) ?_
            · have e1 := hR.uniq h1
              have e2 := hR.uniq h2
              subst e1
              subst e2
              exact hk' _ rfl
            · rintro e rfl v H5 kp6 rv
              obtain ⟨a, rfl, hA⟩ : ∃ a, v = .ref a ∧ H5 a = some (.tup [.int r, .int (-r)]) := by
                cases rv with
                | tup s ra =>
                  cases ra with
                  | cons a1 ra => cases ra with
                    | cons a2 ra =>
                      cases ra
                      cases a1
                      cases a2
                      exact ⟨_, rfl, s⟩
              have hne : a ≠ p := fun w => by
                rw [w, kp6.at kp4.tw hD4 (nd1 _) (nd2 _)] at hA
                cases hA
              refine ⟨a, rfl, .inr ⟨⟨_, .inl (.inl hA)⟩, ?_⟩⟩
              refine for_it (walk_tup (xs := [.int r, .int (-r)])) (fun m σ H' => ∃ ps x5, σ = [some (.int d), some (.int n), some (.ref p), some (.int i), some (.int sq), x5] ∧ Kp Tt nn c H H' ∧ H' a = some (.tup [.int r, .int (-r)]) ∧ H' p = some (.dT (ps.map ent)) ∧ Fnd d n ps i m [r, -r]) ⟨ps, _, rfl, kp5.trans kp6, hA, kp6.at kp4.tw hD4 (nd1 _) (nd2 _), ⟨hf.nd, hf.hd, hf.all, fun x hx => absurd hx (by simp), hf.len⟩⟩ ?_ ?_ ?_
              · rintro m σ H' _ ⟨ps, x5, rfl, _, hA', _⟩
                exact .inl (.inl hA')
              · rintro m x σ H6 H7 hm ⟨ps, y5, rfl, kp7, hA7, hD7, hf7⟩ ⟨rfl, hx⟩
                obtain ⟨x', rfl, hx', hxr⟩ : ∃ x' : Int, x = .int x' ∧ [r, -r][m]? = some x' ∧ (x' = r ∨ x' = -r) := by
                  match m, hx with
                  | 0, hx => cases hx; exact ⟨_, rfl, rfl, .inl rfl⟩
                  | 1, hx => cases hx; exact ⟨_, rfl, rfl, .inr rfl⟩
                  | _ + 2, hx => cases hx
                have hxx : x' * x' = sq := by
                  rcases hxr with rfl | rfl
                  · exact z.2
                  · rw [Int.neg_mul_neg]; exact z.2
                have bx : Bd 40 x' := by
                  rcases hxr with rfl | rfl
                  · exact br
                  · exact br.neg
                have hN : nrm d (x', (i : Int)) = n := by
                  show x' * x' - d * i * i = n
                  omega
                refine ⟨_, rfl, ?_⟩
                refine useE kp7.tw (fun e => ∃ h s m', Head d h ∧ isS s ∧ (x', (i : Int)) = mem d h s m' ∧ e = .im (prP h)) (fun k' hk' => ⟨two, hd, by rw [hN]; exact h3.2.2, bx.mono (by decide), bi.mono (by decide), fun h s m' hh hs he => hk' _ ⟨h, s, m', hh, hs, he, rfl⟩⟩) ?_
                rintro e ⟨h, s, m', hh, hs, he, rfl⟩ v H8 kp8 rv
                obtain ⟨b, rfl, hB⟩ : ∃ b, v = .ref b ∧ H8 b = some (.tup ((key2 h).map kV)) := by
                  cases rv with
                  | tup s ra =>
                    cases ra with
                    | cons a1 ra => cases ra with
                      | cons a2 ra =>
                        cases ra
                        cases a1
                        cases a2
                        exact ⟨_, rfl, s⟩
                have hl : (ps.map ent).length < sizeLine := by
                  have := hf7.len
                  rw [List.length_map]
                  refine Nat.lt_of_le_of_lt this ?_
                  rw [sizeLine_eq]
                  have : m < 2 := hm
                  omega
                refine ⟨p, _, rfl, DPut.t (kp8.at kp7.tw hD7 (nd1 _) (nd2 _)) hB hl, ?_⟩
                rw [putK_ent]
                refine ⟨addP ps h, _, rfl, (kp7.trans kp8).dict hp (kp8.at kp7.tw hD7 (nd1 _) (nd2 _)), ?_, upd_same, hf7.step hd hx' hN hh hs he⟩
                · rw [upd_ne hne]
                  exact kp8.at kp7.tw hA7 (nu1 _) (nu2 _)
              · rintro σ H6 ⟨ps, y5, rfl, kp7, hA7, hD7, hf7⟩
                exact ⟨ps, _, _, _, rfl, kp7, hD7, hf7.next hd rfl (Nat.le_refl 2) fun q h1 h2 => by
                  have := sq_eq (a := r) (b := q.1) hR.nn (by rw [hq q h1 h2]; exact z.2)
                  simpa using this⟩
          · refine ifF (decide_eq_false z) ?_
            exact ⟨ps, _, _, _, rfl, kp5, hD4, hf.next hd rfl (by decide) fun q h1 h2 => by
              exfalso
              have e := hq q h1 h2
              have z0 : 0 ≤ sq := by
                have := sqnn q.1
                omega
              have hR := hr' z0
              refine z ⟨z0, ?_⟩
              have hu : IsRoot sq (q.1.natAbs : Nat) := by
                have e1 : ((q.1.natAbs : Nat) : Int) * (q.1.natAbs : Nat) = q.1 * q.1 := Int.natAbs_mul_self
                refine ⟨by omega, by omega, ?_⟩
                have e2 : ((q.1.natAbs : Int) + 1) * ((q.1.natAbs : Int) + 1) = (q.1.natAbs : Int) * q.1.natAbs + 2 * q.1.natAbs + 1 := by grind
                omega
              rw [hR.uniq hu]
              have e1 : ((q.1.natAbs : Nat) : Int) * (q.1.natAbs : Nat) = q.1 * q.1 := Int.natAbs_mul_self
              omega⟩
      · rintro σ H2 ⟨ps, x3, x4, x5, rfl, kp2, hD, hf⟩
        rw [show ((bnd d n : Int) + 1).toNat = bnd d n + 1 by omega] at hf
        refine ⟨_, rfl, p, _, ps, rfl, hD, by rw [List.map_map]; rfl, fun ws qs p' ra hperm hsort hp' => ?_⟩
        have e := sorted_hds hd hn hf hperm hsort
        subst e
        have f2 : FrT Tt H H2 := kp2.fr
        have t2 : Tw Tt nn c H2 := kp2.tw
        exact q _ _ hk _ _ (f2.trans (frT_same (same_upd hp'))) (tw_same t2 (same_upd hp')) (rf_trans (c' := c) (rf_own hp' ra t2) f2 tw)
    · exact hF.elim

end
def F_heads : FT := fun es c k => match es with
  | [.im (.int d), .im (.int n)] => rootD d = true ∧ norOk n = true ∧ k (.im (.tuple ((hds d n).map prP))) c
  | _ => False
theorem hds_len2 {d n : Int} (h : rootD d = true) (hn : norOk n = true) : ((hds d n).map prP).length ≤ 100000 := by
  rw [List.length_map]
  exact Nat.le_trans (hds_len h hn) (by decide)

section
variable {P : Program} {w : World} {K : PySem.W.Frag} {mg : Str → Option Value} {base : Heap}
theorem ok_heads (T : Txt K mg) : FnOk P w K mg base CX0 7 T.a_heads T.d_heads ["d", "n"] (spD K F_heads) := by
  have G_check_both := ok_check_both (P := P) (w := w) (base := base) T
  have G_found_heads := ok_found_heads (P := P) (w := w) (base := base) T
  refine fnD T.F_heads sc_heads (fun es c k h => ?_) (fun cdv A outer s H E hr => (ds_cons (ds_drop (de_call G_check_both (hr.mono (by decide)) (by rfl) T.g_check_both T.F_check_both.kp (b_check_both T) (da_cons (de_var 0) (da_cons (de_var 1) da_nil))))
  (ds_one (ds_ret (de_ty cd_tuple (by rfl) T.m_tuple (by decide +kernel) (da_cons (de_call G_found_heads (hr.mono (by decide)) (by rfl) T.g_found_heads T.F_found_heads.kp (b_found_heads T) (da_cons (de_var 0) (da_cons (de_var 1) da_nil))) da_nil)))))) (fun es c k h => ?_)
  · unfold F_heads at h
    split at h <;> first | rfl | exact h.elim
  · unfold F_heads at h
    split at h
    · obtain ⟨hd, hn, h⟩ := h
      exact ⟨hd, hn, hd, hn, hds_len2 hd hn, h⟩
    · exact h.elim
end
def F_place_of : FT := fun es c k => match es with
  | [.im (.int d), .im (.tuple [.int x, .int y])] => rootD d = true ∧ inG x = true ∧ inG y = true ∧ norOk (nrm d (x, y)) = true ∧ ∀ (h : Int × Int) (s m : Int), Head d h → isS s → (x, y) = mem d h s m → k (.im (.tuple [prP h, .int s, .int m])) c
  | _ => False
theorem inG_bd2 {x : Int} (h : inG x = true) : Bd 200 x := by
  unfold inG great at h
  simp only [Bool.and_eq_true, decide_eq_true_eq] at h
  unfold Bd
  omega

section
variable {P : Program} {w : World} {K : PySem.W.Frag} {mg : Str → Option Value} {base : Heap}
theorem ok_place_of (T : Txt K mg) : FnOk P w K mg base CX0 6 T.a_place_of T.d_place_of ["d", "pair"] (spD K F_place_of) := by
  have G_check_norm := ok_check_norm (P := P) (w := w) (base := base) T
  have G_check_pair := ok_check_pair (P := P) (w := w) (base := base) T
  have G_check_root := ok_check_root (P := P) (w := w) (base := base) T
  have G_head_of := ok_head_of (P := P) (w := w) (base := base) T
  have G_norm_of := ok_norm_of (P := P) (w := w) (base := base) T
  refine fnD T.F_place_of sc_place_of (fun es c k h => ?_) (fun cdv A outer s H E hr => (ds_cons (ds_drop (de_call G_check_root (hr.mono (by decide)) (by rfl) T.g_check_root T.F_check_root.kp (b_check_root T) (da_cons (de_var 0) da_nil)))
  (ds_cons (ds_drop (de_call G_check_pair (hr.mono (by decide)) (by rfl) T.g_check_pair T.F_check_pair.kp (b_check_pair T) (da_cons (de_var 1) da_nil)))
  (ds_cons (ds_drop (de_call G_check_norm (hr.mono (by decide)) (by rfl) T.g_check_norm T.F_check_norm.kp (b_check_norm T) (da_cons (de_call G_norm_of (hr.mono (by decide)) (by rfl) T.g_norm_of T.F_norm_of.kp (b_norm_of T) (da_cons (de_var 0) (da_cons (de_var 1) da_nil))) da_nil)))
  (ds_one (ds_ret (de_call G_head_of (hr.mono (by decide)) (by rfl) T.g_head_of T.F_head_of.kp (b_head_of T) (da_cons (de_var 0) (da_cons (de_var 1) da_nil))))))))) (fun es c k h => ?_)
  · unfold F_place_of at h
    split at h <;> first | rfl | exact h.elim
  · unfold F_place_of at h
    split at h
    · obtain ⟨hd, gx, gy, hn, h⟩ := h
      have bx := inG_bd2 gx
      have by_ := inG_bd2 gy
      exact ⟨hd, gx, gy, rootD_bd hd, bx.mono (by decide), by_.mono (by decide), hn, hd, (norOk_iff.mp hn).2.2, bx.mono (by decide), by_.mono (by decide), h⟩
    · exact h.elim
end
/-- a session at its start -/
def sv0 (d n : Int) (h : Int × Int) : Sv := { eqn := pr d n, sts := (hds d n).map prP, cur := prP h, ear := [], don := [], und := [] }
def F_S_init (C : Addr) : FT := fun es c k => match es with
  | [.ses a, .im (.int d), .im (.int n)] => c.2.2 a = some ⟨C, []⟩ ∧ rootD d = true ∧ norOk n = true ∧ ∃ h hs, hds d n = h :: hs ∧ k (.im .none) (c.1, c.2.1, putS c.2.2 a (mkS C (sv0 d n h)))
  | _ => False

section
variable {P : Program} {w : World} {K : PySem.W.Frag} {mg : Str → Option Value} {base : Heap}
theorem ok_S_init (T : Txt K mg) : FnOk P w K mg base CX0 8 T.a_S_init T.d_S_init ["self", "d", "n"] (spD K (F_S_init T.c_Session)) := by
  have G_check_both := ok_check_both (P := P) (w := w) (base := base) T
  have G_found_heads := ok_found_heads (P := P) (w := w) (base := base) T
  refine T.F_S_init.ok sc_S_init (fun vs H Q E h => ?_) (fun cdv A outer s H vs Q E hr h => ?_)
  · obtain ⟨Tt, n, c, es, k, t, rs, hF, q⟩ := h
    rw [rs.len]
    unfold F_S_init at hF
    split at hF
    · rfl
    · exact hF.elim
  · refine ⟨_, pss_cons (ps_expr (pe_call G_check_both (hr.mono (by decide)) (by rfl) T.g_check_both T.F_check_both.kp (b_check_both T) .nil pass0 (pa_cons (pv 1) (pa_cons (pv 2) pa_nil))))
      (pss_cons (ps_fld (pv 0) (pe_tup (pa_cons (pv 1) (pa_cons (pv 2) pa_nil))) rfl)
      (pss_cons (ps_fld (pv 0) (pe_call G_found_heads (hr.mono (by decide)) (by rfl) T.g_found_heads T.F_found_heads.kp (b_found_heads T) .nil pass0 (pa_cons (pv 1) (pa_cons (pv 2) pa_nil))) rfl)
      (pss_cons (ps_if (pt_cmpR (op_eqD hr.units) (pe_fld (pv 0) rfl) (pe_lst pa_nil) (nomark _)) (pss_one ps_never) pss_nil)
      (pss_cons (ps_fld (pv 0) (pe_ix ix_list (pe_fld (pv 0) rfl) pe_int (fun _ _ => rfl)) rfl)
      (pss_cons (ps_fld (pv 0) (pe_lst pa_nil) rfl)
      (pss_cons (ps_fld (pv 0) (pe_lst pa_nil) rfl)
      (pss_one (ps_fld (pv 0) (pe_lst pa_nil) rfl)))))))), ?_⟩
    obtain ⟨Tt, nn, c, es, k, tw, rs, hF, q⟩ := h
    unfold F_S_init at hF
    split at hF
    · rename_i a d n
      obtain ⟨hc, hd, hn, h0, hs, hH, hk⟩ := hF
      cases rs with
      | cons r1 _ rs =>
      cases rs with
      | cons r2 _ rs =>
      cases rs with
      | cons r3 _ rs =>
      cases rs
      have r1 : _ = V.ref a := r1
      subst r1
      cases r2
      cases r3
      have nl := sizeLine_eq
      have args : ∀ H', RvAll K Tt H' [V.int d, V.int n] [.im (.int d), .im (.int n)] := fun H' => .cons (Rp.int d) (fun _ z => by cases z) (.cons (Rp.int n) (fun _ z => by cases z) .nil)
      -- check_both(d, n)
      refine ⟨_, rfl, _, rfl, Tt, nn, c, _, (fun e c' => e = .im .none ∧ c' = c), tw, args H, ⟨hd, hn, rfl, rfl⟩, ?_⟩
      rintro e c' ⟨rfl, hc'⟩ v H1 f1 t1 r1
      rw [hc'] at t1
      obtain ⟨dx, vs, ls, e1, z1, _⟩ := t1.ses a _ hc
      cases z1
      -- self.equation = (d, n)
      refine ⟨_, rfl, _, rfl, (by show 2 ≤ sizeLine; omega), fun p hp => ⟨_, rfl, a, _, dx, _, rfl, (upd_ne (ne_of_none e1 hp)).trans e1, T.cl_Session, T.n_equation, (by show 0 < 1000; decide), ?_⟩⟩
      have pq : putF "equation" (.ref p) [] = [(("equation" : Str), V.ref p)] := rfl
      rw [pq]
      have w2 : Wx H1 (upd (upd H1 p (.tup [.int d, .int n])) a (.ins T.c_Session dx [("equation", .ref p)])) a [] := ((Wx.refl _ _ _).new hp).obj
      have q2 : upd (upd H1 p (.tup [.int d, .int n])) a (.ins T.c_Session dx [("equation", .ref p)]) a = some (.ins T.c_Session dx [("equation", .ref p)]) := upd_same
      have q3 : upd (upd H1 p (.tup [.int d, .int n])) a (.ins T.c_Session dx [("equation", .ref p)]) p = some (.tup [.int d, .int n]) := by rw [upd_ne (ne_of_none e1 hp).symm]; exact upd_same
      generalize upd (upd H1 p (.tup [.int d, .int n])) a (.ins T.c_Session dx [("equation", .ref p)]) = H2 at w2 q2 q3
      have z2 : FdAll H2 [("equation", .ref p)] [("equation", .im (pr d n))] [] := .im (fun _ => .tup q3 (.cons (.int d) (.cons (.int n) .nil))) .nil
      have t2 := ses_fin (s' := ⟨T.c_Session, [("equation", .im (pr d n))]⟩) t1 hc e1 .nil w2 q2 z2 List.nodup_nil (fun _ h => by cases h)
      have f2 : FrT Tt H H2 := ses_frT (s := ⟨T.c_Session, []⟩) (s' := ⟨T.c_Session, [("equation", .im (pr d n))]⟩) t1 e1 .nil w2 q2 z2 f1 (fun _ h => by cases h)
      -- self.starts = found_heads(d, n)
      refine ⟨_, rfl, _, rfl, Tt, nn, _, _, (fun e c' => e = .own ((hds d n).map prP) ∧ c' = (c.1, c.2.1, putS c.2.2 a ⟨T.c_Session, [("equation", .im (pr d n))]⟩)), t2, args H2, ⟨hd, hn, rfl, rfl⟩, ?_⟩
      rintro e c' ⟨rfl, hc'⟩ v H3 f3 t3 r3
      rw [hc'] at t3
      obtain ⟨l, vS, rfl, ntl, hl, rl⟩ := r3.rv
      obtain ⟨l', _, el, hl2, _, _⟩ := r3.nw
      cases el
      obtain ⟨dx, vs, ls, e3, z3, _⟩ := t3.ses a _ (putS_at _ _ _)
      obtain ⟨e0, _, rfl, req, z4⟩ := z3.inv_im
      cases z4
      have nla : l ≠ a := lst_ne e3 hl
      refine ⟨_, rfl, a, _, dx, _, rfl, e3, T.cl_Session, T.n_starts, (by show 1 < 1000; decide), ?_⟩
      have pq : putF "starts" (.ref l) [(("equation" : Str), e0)] = [(("equation" : Str), e0), ("starts", .ref l)] := rfl
      rw [pq]
      have w4 : Wx H3 (upd H3 a (.ins T.c_Session dx [("equation", e0), ("starts", .ref l)])) a [] := (Wx.refl _ _ _).obj
      have a4 : upd H3 a (.ins T.c_Session dx [("equation", e0), ("starts", .ref l)]) a = some (.ins T.c_Session dx [("equation", e0), ("starts", .ref l)]) := upd_same
      have l4 : upd H3 a (.ins T.c_Session dx [("equation", e0), ("starts", .ref l)]) l = some (.lst vS) := by rw [upd_ne nla]; exact hl
      generalize upd H3 a (.ins T.c_Session dx [("equation", e0), ("starts", .ref l)]) = H4 at w4 a4 l4
      have rl' : RpAll K H3 vS (prP h0 :: hs.map prP) := by rw [hH] at rl; exact rl
      -- if self.starts == []
      refine ⟨_, rfl, a, _, dx, _, _, rfl, a4, T.cl_Session, T.n_starts, rfl, Nat.zero_le _, fun p5 hp5 => ?_⟩
      have w5 := w4.new (o := .lst []) hp5
      have a5 : upd H4 p5 (.lst []) a = _ := (upd_ne (ne_of_none a4 hp5)).trans a4
      have l5 : upd H4 p5 (.lst []) l = _ := (upd_ne (ne_of_none l4 hp5)).trans l4
      have b5 : upd H4 p5 (.lst []) p5 = some (.lst []) := upd_same
      generalize upd H4 p5 (.lst []) = H5 at w5 a5 l5 b5
      have nm : Nice 2 (.list ((hds d n).map prP)) := nice_list (n := 1) fun z hz => by
        obtain ⟨x, _, rfl⟩ := List.mem_map.mp hz
        exact nice_pr _ _
      have n0 : Nice 1 (.list []) := nice_list (n := 0) fun z hz => by cases hz
      have ke5 := w5.ke e3 (fun _ h => by cases h)
      refine ⟨.list ((hds d n).map prP), .list [], .lst (SqL.of l5) (RpAll.dp _ _ (RpAll.ke ke5 _ _ rl)), .lst (SqL.of b5) .nil, nm.shp (by decide), n0.shp (by decide), _, rfl, ?_⟩
      have ef : PyData.eqv (.list ((hds d n).map prP)) (.list []) = false := by rw [hH]; rfl
      refine ifF ef ?_
      -- self.current = self.starts[0]
      obtain ⟨c0, vr, rfl⟩ : ∃ c0 vr, vS = c0 :: vr := by
        cases rl' with
        | cons r rs => exact ⟨_, _, rfl⟩
      have rc : Rp K H3 c0 (prP h0) := by
        cases rl' with
        | cons r rs => exact r
      refine ⟨_, rfl, a, _, dx, _, _, rfl, a5, T.cl_Session, T.n_starts, rfl, l, _, 0, c0, rfl, rfl, SqL.of l5, atI_nat (j := 0) rfl, _, rfl, a, _, dx, _, rfl, a5, T.cl_Session, T.n_current, (by show 2 < 1000; decide), ?_⟩
      have pq : putF "current" c0 [(("equation" : Str), e0), ("starts", .ref l)] = [(("equation" : Str), e0), ("starts", .ref l), ("current", c0)] := rfl
      rw [pq]
      have w6 := w5.obj (C := T.c_Session) (dx := dx) (fs := [("equation", e0), ("starts", .ref l), ("current", c0)])
      have a6 : upd H5 a (.ins T.c_Session dx [("equation", e0), ("starts", .ref l), ("current", c0)]) a = _ := upd_same
      have l6 : upd H5 a (.ins T.c_Session dx [("equation", e0), ("starts", .ref l), ("current", c0)]) l = _ := (upd_ne nla).trans l5
      generalize upd H5 a (.ins T.c_Session dx [("equation", e0), ("starts", .ref l), ("current", c0)]) = H6 at w6 a6 l6
      -- self.earlier = []
      refine ⟨Nat.zero_le _, fun p7 hp7 => ⟨_, rfl, a, _, dx, _, rfl, (upd_ne (ne_of_none a6 hp7)).trans a6, T.cl_Session, T.n_earlier, (by show 3 < 1000; decide), ?_⟩⟩
      have pq : putF "earlier" (.ref p7) [(("equation" : Str), e0), ("starts", .ref l), ("current", c0)] = [(("equation" : Str), e0), ("starts", .ref l), ("current", c0), ("earlier", .ref p7)] := rfl
      rw [pq]
      have w7 := (w6.new (o := .lst []) hp7).obj (C := T.c_Session) (dx := dx) (fs := [("equation", e0), ("starts", .ref l), ("current", c0), ("earlier", .ref p7)])
      have pa7 := ne_of_none a6 hp7
      have pl7 := ne_of_none l6 hp7
      have a7 : upd (upd H6 p7 (.lst [])) a (.ins T.c_Session dx [("equation", e0), ("starts", .ref l), ("current", c0), ("earlier", .ref p7)]) a = _ := upd_same
      have l7 : upd (upd H6 p7 (.lst [])) a (.ins T.c_Session dx [("equation", e0), ("starts", .ref l), ("current", c0), ("earlier", .ref p7)]) l = _ := (upd_ne nla).trans ((upd_ne pl7).trans l6)
      have b7 : upd (upd H6 p7 (.lst [])) a (.ins T.c_Session dx [("equation", e0), ("starts", .ref l), ("current", c0), ("earlier", .ref p7)]) p7 = some (.lst []) := (upd_ne pa7.symm).trans upd_same
      have o7 := w6.trk p7 hp7
      generalize upd (upd H6 p7 (.lst [])) a (.ins T.c_Session dx [("equation", e0), ("starts", .ref l), ("current", c0), ("earlier", .ref p7)]) = H7 at w7 a7 l7 b7
      -- self.done = []
      refine ⟨Nat.zero_le _, fun p8 hp8 => ⟨_, rfl, a, _, dx, _, rfl, (upd_ne (ne_of_none a7 hp8)).trans a7, T.cl_Session, T.n_done, (by show 4 < 1000; decide), ?_⟩⟩
      have pq : putF "done" (.ref p8) [(("equation" : Str), e0), ("starts", .ref l), ("current", c0), ("earlier", .ref p7)] = [(("equation" : Str), e0), ("starts", .ref l), ("current", c0), ("earlier", .ref p7), ("done", .ref p8)] := rfl
      rw [pq]
      have w8 := (w7.new (o := .lst []) hp8).obj (C := T.c_Session) (dx := dx) (fs := [("equation", e0), ("starts", .ref l), ("current", c0), ("earlier", .ref p7), ("done", .ref p8)])
      have pa8 := ne_of_none a7 hp8
      have pl8 := ne_of_none l7 hp8
      have pb8 := ne_of_none b7 hp8
      have a8 : upd (upd H7 p8 (.lst [])) a (.ins T.c_Session dx [("equation", e0), ("starts", .ref l), ("current", c0), ("earlier", .ref p7), ("done", .ref p8)]) a = _ := upd_same
      have l8 : upd (upd H7 p8 (.lst [])) a (.ins T.c_Session dx [("equation", e0), ("starts", .ref l), ("current", c0), ("earlier", .ref p7), ("done", .ref p8)]) l = _ := (upd_ne nla).trans ((upd_ne pl8).trans l7)
      have b8 : upd (upd H7 p8 (.lst [])) a (.ins T.c_Session dx [("equation", e0), ("starts", .ref l), ("current", c0), ("earlier", .ref p7), ("done", .ref p8)]) p7 = some (.lst []) := (upd_ne pa7.symm).trans ((upd_ne pb8).trans b7)
      have c8 : upd (upd H7 p8 (.lst [])) a (.ins T.c_Session dx [("equation", e0), ("starts", .ref l), ("current", c0), ("earlier", .ref p7), ("done", .ref p8)]) p8 = some (.lst []) := (upd_ne pa8.symm).trans upd_same
      have o8 := w7.trk p8 hp8
      generalize upd (upd H7 p8 (.lst [])) a (.ins T.c_Session dx [("equation", e0), ("starts", .ref l), ("current", c0), ("earlier", .ref p7), ("done", .ref p8)]) = H8 at w8 a8 l8 b8 c8
      -- self.undone = []
      refine ⟨Nat.zero_le _, fun p9 hp9 => ⟨_, rfl, a, _, dx, _, rfl, (upd_ne (ne_of_none a8 hp9)).trans a8, T.cl_Session, T.n_undone, (by show 5 < 1000; decide), ?_⟩⟩
      have pq : putF "undone" (.ref p9) [(("equation" : Str), e0), ("starts", .ref l), ("current", c0), ("earlier", .ref p7), ("done", .ref p8)] = fl e0 l c0 p7 p8 p9 := rfl
      rw [pq]
      have w9 := (w8.new (o := .lst []) hp9).obj (C := T.c_Session) (dx := dx) (fs := fl e0 l c0 p7 p8 p9)
      have pa9 := ne_of_none a8 hp9
      have pl9 := ne_of_none l8 hp9
      have pb9 := ne_of_none b8 hp9
      have pc9 := ne_of_none c8 hp9
      have a9 : upd (upd H8 p9 (.lst [])) a (.ins T.c_Session dx (fl e0 l c0 p7 p8 p9)) a = _ := upd_same
      have l9 : upd (upd H8 p9 (.lst [])) a (.ins T.c_Session dx (fl e0 l c0 p7 p8 p9)) l = _ := (upd_ne nla).trans ((upd_ne pl9).trans l8)
      have b9 : upd (upd H8 p9 (.lst [])) a (.ins T.c_Session dx (fl e0 l c0 p7 p8 p9)) p7 = some (.lst []) := (upd_ne pa7.symm).trans ((upd_ne pb9).trans b8)
      have c9 : upd (upd H8 p9 (.lst [])) a (.ins T.c_Session dx (fl e0 l c0 p7 p8 p9)) p8 = some (.lst []) := (upd_ne pa8.symm).trans ((upd_ne pc9).trans c8)
      have d9 : upd (upd H8 p9 (.lst [])) a (.ins T.c_Session dx (fl e0 l c0 p7 p8 p9)) p9 = some (.lst []) := (upd_ne pa9.symm).trans upd_same
      have o9 := w8.trk p9 hp9
      generalize upd (upd H8 p9 (.lst [])) a (.ins T.c_Session dx (fl e0 l c0 p7 p8 p9)) = H9 at w9 a9 l9 b9 c9 d9
      have ke := w9.ke e3 (fun _ h => by cases h)
      have z9 : SesV H9 a T.c_Session dx (sv0 d n h0) e0 l c0 p7 p8 p9 (c0 :: vr) [] [] [] := {
        ob := a9
        eq := fun K => Rp.ke ke _ _ (req K)
        cu := fun K => Rp.ke ke _ _ (Rp.chg _ _ rc)
        hS := l9, hE := b9, hD := c9, hU := d9
        rS := fun K => RpAll.ke ke _ _ (RpAll.chg _ _ rl)
        rE := fun K => .nil, rD := fun K => .nil, rU := fun K => .nil
        nd := nd_four pl7 pl8 pl9 pb8 pb9 pc9 }
      have f23 := f2.trans f3
      have t9 := ses_fin (s' := mkS T.c_Session (sv0 d n h0)) t3 (putS_at _ _ _) e3 z3 w9 z9.ob z9.all z9.nd (fun l' hl' => by
        simp only [List.mem_cons, List.not_mem_nil, or_false] at hl'
        rcases hl' with rfl | rfl | rfl | rfl
        · exact .inr (.inr ⟨ntl, _, hl⟩)
        · exact .inr (.inl o7)
        · exact .inr (.inl o8)
        · exact .inr (.inl o9))
      have f9 : FrT Tt H H9 := ses_frT (s := ⟨T.c_Session, [("equation", .im (pr d n))]⟩) (s' := mkS T.c_Session (sv0 d n h0)) t3 e3 z3 w9 z9.ob z9.all f23 (fun l' hl' => by
        simp only [List.mem_cons, List.not_mem_nil, or_false] at hl'
        rcases hl' with rfl | rfl | rfl | rfl
        · exact .inr (f2.trk _ hl2)
        · exact .inr (f23.trk _ o7)
        · exact .inr (f23.trk _ o8)
        · exact .inr (f23.trk _ o9))
      have t9 : Tw Tt nn (c.1, c.2.1, putS c.2.2 a (mkS T.c_Session (sv0 d n h0))) H9 := by
        have := t9
        rw [show (c.1, c.2.1, putS c.2.2 a (⟨T.c_Session, [("equation", .im (pr d n))]⟩ : Ses)).2.2 = putS c.2.2 a ⟨T.c_Session, [("equation", .im (pr d n))]⟩ from rfl, putS_putS] at this
        exact this
      exact q _ _ hk .non H9 f9 t9 ⟨.non, trivial⟩
    · exact hF.elim

end
def F_S_len (C : Addr) : FT := fun es c k => match es with
  | [.ses a] => ∃ v, c.2.2 a = some (mkS C v) ∧ k (.im (.int (v.don.length : Nat))) c
  | _ => False

section
variable {P : Program} {w : World} {K : PySem.W.Frag} {mg : Str → Option Value} {base : Heap}
theorem ok_S_len (T : Txt K mg) : FnOk P w K mg base CX0 1 T.a_S_len T.d_S_len ["self"] (spD K (F_S_len T.c_Session)) := by
  refine fnD T.F_S_len sc_S_len (fun es c k h => ?_) (fun cdv A outer s H E hr => (ds_one (ds_ret (de_lenF T.cl_Session T.n_done (by rfl) T.m_len (de_var 0))))) (fun es c k h => ?_)
  · unfold F_S_len at h
    split at h <;> first | rfl | exact h.elim
  · unfold F_S_len at h
    split at h
    · obtain ⟨v, hc, hk⟩ := h
      exact ⟨_, _, hc, rfl, rfl, hk⟩
    · exact h.elim
end
def F_S_eq (C : Addr) : FT := fun es c k => match es with
  | [.ses a, .ses b] => ∃ v w, c.2.2 a = some (mkS C v) ∧ c.2.2 b = some (mkS C w) ∧ Shp v.eqn ∧ Shp w.eqn ∧ Shp (.list v.don) ∧ Shp (.list w.don) ∧ k (.im (.bool (PyData.eqv v.eqn w.eqn && PyData.eqv (.list v.don) (.list w.don)))) c
  | [.ses _, .im (.tuple _)] => k (.im (.bool false)) c
  | [.ses _, .im (.str _)] => k (.im (.bool false)) c
  | _ => False

section
variable {P : Program} {w : World} {K : PySem.W.Frag} {mg : Str → Option Value} {base : Heap}
theorem ok_S_eq (T : Txt K mg) : FnOk P w K mg base CX0 1 T.a_S_eq T.d_S_eq ["self", "other"] (spD K (F_S_eq T.c_Session)) := by
  refine fnD T.F_S_eq sc_S_eq (fun es c k h => ?_) (fun cdv A outer s H E hr => (ds_one (ds_ret (de_and (de_isiO T.is_Session (by rfl) T.m_isinstance (by rfl) T.g_Session (de_var 1)) (de_and (de_cmp (od_eq hr.units) (de_fld T.cl_Session T.n_equation (de_var 0)) (de_fld T.cl_Session T.n_equation (de_var 1)) (nomark _)) (de_one (de_eqF 0 1 hr.units T.cl_Session T.n_done (pv 0) (pv 1)))))))) (fun es c k h => ?_)
  · unfold F_S_eq at h
    split at h <;> first | rfl | exact h.elim
  · unfold F_S_eq at h
    split at h
    · obtain ⟨v, w, ha, hb, s1, s2, s3, s4, hk⟩ := h
      refine ⟨⟨_, hb, rfl⟩, ?_⟩
      refine ifT rfl ?_
      refine ⟨_, _, ha, rfl, rfl, _, _, hb, rfl, rfl, s1, s2, ?_⟩
      cases e : PyData.eqv v.eqn w.eqn with
      | true =>
        rw [e] at hk
        exact ifT rfl ⟨_, _, _, _, ha, rfl, rfl, hb, rfl, rfl, s3, s4, hk⟩
      | false =>
        rw [e] at hk
        exact ifF rfl hk
    · exact h
    · exact h
    · exact h.elim
end
/-- a session's text -/
def stx (d n : Int) (l : Nat) : Str := ((((((Str.empty ++ sX) ++ nTx d) ++ sY) ++ nTx n) ++ (", " : Str)) ++ nTx (l : Nat)) ++ (" steps" : Str)
def F_S_str (C : Addr) : FT := fun es c k => match es with
  | [.ses a] => ∃ v d n, c.2.2 a = some (mkS C v) ∧ v.eqn = pr d n ∧ (2 ≤ d ∧ d ≤ 60) ∧ (-200 ≤ n ∧ n ≤ 200) ∧ v.don.length ≤ 200 ∧ k (.im (.str (stx d n v.don.length))) c
  | _ => False
theorem stx_ok {d n : Int} {l : Nat} (hd : 2 ≤ d ∧ d ≤ 60) (hn : -200 ≤ n ∧ n ≤ 200) (hl : l ≤ 200) : (Str.empty ++ sX).length ≤ 100000 ∧ d.natAbs.log2 < 1920 ∧ ((Str.empty ++ sX) ++ nTx d).length ≤ 100000 ∧ (((Str.empty ++ sX) ++ nTx d) ++ sY).length ≤ 100000 ∧ n.natAbs.log2 < 1920 ∧
    ((((Str.empty ++ sX) ++ nTx d) ++ sY) ++ nTx n).length ≤ 100000 ∧ (((((Str.empty ++ sX) ++ nTx d) ++ sY) ++ nTx n) ++ (", " : Str)).length ≤ 100000 ∧ ((l : Nat) : Int).natAbs.log2 < 1920 ∧ ((((((Str.empty ++ sX) ++ nTx d) ++ sY) ++ nTx n) ++ (", " : Str)) ++ nTx (l : Nat)).length ≤ 100000 ∧ (stx d n l).length ≤ 60 := by
  have l1 := (num_of (n := d) ⟨by omega, by omega⟩).2.2
  have l2 := (num_of hn).2.2
  have l3 := len_sX
  have l4 := len_sY
  have l5 := (num_of (n := (l : Nat)) ⟨by omega, by omega⟩).2.2
  have l6 : (", " : Str).length = 2 := by decide +kernel
  have l7 : (" steps" : Str).length = 6 := by decide +kernel
  unfold stx
  simp only [emp_app, len_app]
  exact ⟨by omega, log_small ⟨by omega, by omega⟩, by omega, by omega, log_small hn, by omega, by omega, log_small ⟨by omega, by omega⟩, by omega, by omega⟩
theorem asc_stx {d n : Int} {l : Nat} (hd : 2 ≤ d ∧ d ≤ 60) (hn : -200 ≤ n ∧ n ≤ 200) (hl : l ≤ 200) : Asc (stx d n l) := by
  refine ⟨fun c hc => ?_, Nat.le_trans (stx_ok hd hn hl).2.2.2.2.2.2.2.2.2 (by decide)⟩
  unfold stx at hc
  rw [emp_app] at hc
  simp only [TL.tl_append, List.mem_append] at hc
  have e1 : ∀ c ∈ TL.tl (", " : Str), c < 128 := by decide +kernel
  have e2 : ∀ c ∈ TL.tl (" steps" : Str), c < 128 := by decide +kernel
  rcases hc with (((((hc | hc) | hc) | hc) | hc) | hc) | hc
  · exact asc_sX c hc
  · exact asc_nTx (n := d) ⟨by omega, by omega⟩ c hc
  · exact asc_sY c hc
  · exact asc_nTx hn c hc
  · exact e1 c hc
  · exact asc_nTx (n := (l : Nat)) ⟨by omega, by omega⟩ c hc
  · exact e2 c hc

section
variable {P : Program} {w : World} {K : PySem.W.Frag} {mg : Str → Option Value} {base : Heap}
theorem ok_S_str (T : Txt K mg) : FnOk P w K mg base CX0 1 T.a_S_str T.d_S_str ["self"] (spD K (F_S_str T.c_Session)) := by
  refine fnD T.F_S_str sc_S_str (fun es c k h => ?_) (fun cdv A outer s H E hr => (ds_one (ds_ret (de_joined (dj_cons de_str (dj_cons (de_fmt (de_ix (de_fld T.cl_Session T.n_equation (de_var 0)) de_int (fun _ _ => rfl))) (dj_cons de_str (dj_cons (de_fmt (de_ix (de_fld T.cl_Session T.n_equation (de_var 0)) de_int (fun _ _ => rfl))) (dj_cons de_str (dj_cons (de_fmt (de_lenF T.cl_Session T.n_done (by rfl) T.m_len (de_var 0))) (dj_cons de_str dj_nil))))))))))) (fun es c k h => ?_)
  · unfold F_S_str at h
    split at h <;> first | rfl | exact h.elim
  · unfold F_S_str at h
    split at h
    · obtain ⟨⟨eqn, sts, cur, ear, don, und⟩, d, n, hc, rfl, hd, hn, hl, hk⟩ := h
      obtain ⟨a1, b1, a2, a3, b2, a4, a5, b3, a6, a7⟩ := stx_ok hd hn hl
      exact ⟨a1, _, _, hc, rfl, rfl, b1, a2, a3, _, _, hc, rfl, rfl, b2, a4, a5, _, _, hc, rfl, rfl, b3, a6, Nat.le_trans a7 (by decide), hk⟩
    · exact h.elim
end
def Sv.act (v : Sv) (pair op : PyData) : Sv := { v with ear := v.ear ++ [v.cur], cur := pair, don := v.don ++ [op], und := [] }
def F_S_perform (C : Addr) : FT := fun es c k => match es with
  | [.ses a, .im pair, .im op] => ∃ v, c.2.2 a = some (mkS C v) ∧ v.ear.length < 100000 ∧ v.don.length < 100000 ∧ k (.im pair) (c.1, c.2.1, putS c.2.2 a (mkS C (v.act pair op)))
  | _ => False

section
variable {P : Program} {w : World} {K : PySem.W.Frag} {mg : Str → Option Value} {base : Heap}
theorem ok_S_perform (T : Txt K mg) : FnOk P w K mg base CX0 1 T.a_S_perform T.d_S_perform ["self", "pair", "operation"] (spD K (F_S_perform T.c_Session)) := by
  refine T.F_S_perform.ok sc_S_perform (fun vs H Q E h => ?_) (fun cdv A outer s H vs Q E hr h => ?_)
  · obtain ⟨Tt, n, c, es, k, t, rs, hF, q⟩ := h
    rw [rs.len]
    unfold F_S_perform at hF
    split at hF
    · rfl
    · exact hF.elim
  · refine ⟨_, pss_cons (ps_expr (pe_bm PySem.F.plainAttrs_list PySem.F.slot_list_append PySem.F.type_list_append mt_append (pe_fld (pv 0) rfl) (pa_cons (pe_fld (pv 0) rfl) pa_nil)))
      (pss_cons (ps_fld (pv 0) (pv 1) rfl)
      (pss_cons (ps_expr (pe_bm PySem.F.plainAttrs_list PySem.F.slot_list_append PySem.F.type_list_append mt_append (pe_fld (pv 0) rfl) (pa_cons (pv 2) pa_nil)))
      (pss_cons (ps_fld (pv 0) (pe_lst pa_nil) rfl)
      (pss_one (ps_ret (pv 1)))))), ?_⟩
    obtain ⟨Tt, nn, c, es, k, tw, rs, hF, q⟩ := h
    unfold F_S_perform at hF
    split at hF
    · rename_i a pair op
      obtain ⟨v, hc, l1, l2, hk⟩ := hF
      cases rs with
      | cons r1 _ rs =>
      cases rs with
      | @cons v1 _ _ _ r2 _ rs =>
      cases rs with
      | @cons v2 _ _ _ r3 _ rs =>
      cases rs
      have r1 : _ = V.ref a := r1
      subst r1
      obtain ⟨dx, e0, lS, c0, lE, lD, lU, vS, vE, vD, vU, z⟩ := SesV.of (tw.ses a _ hc)
      have nA := lst_ne z.ob z.hE
      have nD := lst_ne z.ob z.hD
      have nS := lst_ne z.ob z.hS
      have nU := lst_ne z.ob z.hU
      obtain ⟨n1, n2, n3, n4, n5, n6⟩ := four_nd z.nd
      refine ⟨_, rfl, a, _, dx, _, _, rfl, z.ob, T.cl_Session, T.n_earlier, fl_ear _ _ _ _ _ _, .inl ⟨rfl, _, SqL.of z.hE⟩, _, rfl, a, _, dx, _, _, rfl, z.ob, T.cl_Session, T.n_current, fl_cur _ _ _ _ _ _, lE, _, _, rfl, rfl, z.hE, by rw [(z.rE K).len]; exact sz_lt l1, ?_⟩
      generalize hH1 : upd H lE (.lst (vE ++ [c0])) = H1
      have w1 : Wx H H1 a [lS, lE, lD, lU] := by rw [← hH1]; exact (Wx.refl _ _ _).lst (.inl (by simp))
      have a1 : H1 a = some (.ins T.c_Session dx (fl e0 lS c0 lE lD lU)) := by rw [← hH1, upd_ne nA.symm]; exact z.ob
      have d1 : H1 lD = some (.lst vD) := by rw [← hH1, upd_ne n4.symm]; exact z.hD
      have s1 : H1 lS = some (.lst vS) := by rw [← hH1, upd_ne n1]; exact z.hS
      have e1 : H1 lE = some (.lst (vE ++ [c0])) := by rw [← hH1]; exact upd_same
      -- self.current = pair
      refine ⟨_, rfl, _, rfl, a, _, dx, _, rfl, a1, T.cl_Session, T.n_current, fl_len _ _ _ _ _ _, ?_⟩
      rw [put_cur]
      generalize hH2 : upd H1 a (.ins T.c_Session dx (fl e0 lS v1 lE lD lU)) = H2
      have w2 : Wx H H2 a [lS, lE, lD, lU] := by rw [← hH2]; exact w1.obj
      have a2 : H2 a = some (.ins T.c_Session dx (fl e0 lS v1 lE lD lU)) := by rw [← hH2]; exact upd_same
      have d2 : H2 lD = some (.lst vD) := by rw [← hH2, upd_ne nD]; exact d1
      have s2 : H2 lS = some (.lst vS) := by rw [← hH2, upd_ne nS]; exact s1
      have e2 : H2 lE = some (.lst (vE ++ [c0])) := by rw [← hH2, upd_ne nA]; exact e1
      -- self.done.append(operation)
      refine ⟨_, rfl, a, _, dx, _, _, rfl, a2, T.cl_Session, T.n_done, fl_don _ _ _ _ _ _, .inl ⟨rfl, _, SqL.of d2⟩, _, rfl, lD, _, _, rfl, rfl, d2, by rw [(z.rD K).len]; exact sz_lt l2, ?_⟩
      generalize hH3 : upd H2 lD (.lst (vD ++ [v2])) = H3
      have w3 : Wx H H3 a [lS, lE, lD, lU] := by rw [← hH3]; exact w2.lst (.inl (by simp))
      have a3 : H3 a = some (.ins T.c_Session dx (fl e0 lS v1 lE lD lU)) := by rw [← hH3, upd_ne nD.symm]; exact a2
      have d3 : H3 lD = some (.lst (vD ++ [v2])) := by rw [← hH3]; exact upd_same
      have s3 : H3 lS = some (.lst vS) := by rw [← hH3, upd_ne n2]; exact s2
      have e3 : H3 lE = some (.lst (vE ++ [c0])) := by rw [← hH3, upd_ne n4]; exact e2
      -- self.undone = []
      refine ⟨Nat.zero_le _, fun p hp => ⟨_, rfl, a, _, dx, _, rfl, (upd_ne (ne_of_none a3 hp)).trans a3, T.cl_Session, T.n_undone, fl_len _ _ _ _ _ _, ?_⟩⟩
      rw [put_und]
      have w4 : Wx H (upd H3 p (.lst [])) a [lS, lE, lD, lU] := w3.new hp
      have pe := ne_of_none e3 hp
      have pd := ne_of_none d3 hp
      have ps := ne_of_none s3 hp
      have pa := ne_of_none a3 hp
      have hp0 := w3.trk p hp
      generalize hH4 : upd H3 p (.lst []) = H4 at w4
      have p4 : H4 p = some (.lst []) := by rw [← hH4]; exact upd_same
      have d4 : H4 lD = some (.lst (vD ++ [v2])) := by rw [← hH4, upd_ne pd]; exact d3
      have s4 : H4 lS = some (.lst vS) := by rw [← hH4, upd_ne ps]; exact s3
      have e4 : H4 lE = some (.lst (vE ++ [c0])) := by rw [← hH4, upd_ne pe]; exact e3
      generalize hH5 : upd H4 a (.ins T.c_Session dx (fl e0 lS v1 lE lD p)) = H5
      have w5 : Wx H H5 a [lS, lE, lD, lU] := by rw [← hH5]; exact w4.obj
      have ke := w5.ke z.ob fun l hl => (z.all.mem hl).2
      have fin : SesV H5 a T.c_Session dx (v.act pair op) e0 lS v1 lE lD p vS (vE ++ [c0]) (vD ++ [v2]) [] := {
        ob := by rw [← hH5]; exact upd_same
        eq := fun K => Rp.ke ke _ _ (z.eq K)
        cu := fun K => Rp.ke ke _ _ (Rp.chg _ _ r2)
        hS := by rw [← hH5, upd_ne nS]; exact s4
        hE := by rw [← hH5, upd_ne nA]; exact e4
        hD := by rw [← hH5, upd_ne nD]; exact d4
        hU := by rw [← hH5, upd_ne pa.symm]; exact p4
        rS := fun K => RpAll.ke ke _ _ (z.rS K)
        rE := fun K => (RpAll.ke ke _ _ (z.rE K)).append (.cons (Rp.ke ke _ _ (z.cu K)) .nil)
        rD := fun K => (RpAll.ke ke _ _ (z.rD K)).append (.cons (Rp.ke ke _ _ (Rp.chg _ _ r3)) .nil)
        rU := fun K => .nil
        nd := nd_four n1 n2 ps n4 pe pd }
      obtain ⟨t5, f5⟩ := SesV.fin tw hc z w5 fin (fun l hl => by
        simp only [List.mem_cons, List.not_mem_nil, or_false] at hl ⊢
        rcases hl with rfl | rfl | rfl | rfl
        · exact .inl (.inl rfl)
        · exact .inl (.inr (.inl rfl))
        · exact .inl (.inr (.inr (.inl rfl)))
        · exact .inr hp0)
      exact ⟨_, rfl, q _ _ hk _ H5 f5 t5 ⟨Rp.ke ke _ _ r2, trivial⟩⟩
    · exact hF.elim

end
def F_S_up (C : Addr) : FT := fun es c k => match es with
  | [.ses a] => ∃ v d n p, c.2.2 a = some (mkS C v) ∧ v.eqn = pr d n ∧ v.cur = prP p ∧ rootD d = true ∧ Bd 4000 p.1 ∧ Bd 4000 p.2 ∧ v.ear.length < 100000 ∧ v.don.length < 100000 ∧ k (.im (prP (mulP d p (un d)))) (c.1, c.2.1, putS c.2.2 a (mkS C (v.act (prP (mulP d p (un d))) (.tuple [.str "up", .int 0]))))
  | _ => False

section
variable {P : Program} {w : World} {K : PySem.W.Frag} {mg : Str → Option Value} {base : Heap}
theorem ok_S_up (T : Txt K mg) : FnOk P w K mg base CX0 5 T.a_S_up T.d_S_up ["self"] (spD K (F_S_up T.c_Session)) := by
  have G_S_perform := ok_S_perform (P := P) (w := w) (base := base) T
  have G_found_unit := ok_found_unit (P := P) (w := w) (base := base) T
  have G_times := ok_times (P := P) (w := w) (base := base) T
  refine fnD T.F_S_up sc_S_up (fun es c k h => ?_) (fun cdv A outer s H E hr => (ds_cons (ds_set (i := 1) sc_S_up.nd rfl (by first | exact Or.inl rfl | exact Or.inr rfl) (de_ix (de_fld T.cl_Session T.n_equation (de_var 0)) de_int (fun _ _ => rfl)))
  (ds_one (ds_ret (de_meth T.cl_Session T.m_S_perform G_S_perform (hr.mono (by decide)) (b_S_perform T) (de_var 0) (da_cons (de_call G_times (hr.mono (by decide)) (by rfl) T.g_times T.F_times.kp (b_times T) (da_cons (de_var 1) (da_cons (de_fld T.cl_Session T.n_current (de_var 0)) (da_cons (de_call G_found_unit (hr.mono (by decide)) (by rfl) T.g_found_unit T.F_found_unit.kp (b_found_unit T) (da_cons (de_var 1) da_nil)) da_nil)))) (da_cons (de_tup (da_cons de_str (da_cons de_int da_nil))) da_nil))))))) (fun es c k h => ?_)
  · unfold F_S_up at h
    split at h <;> first | rfl | exact h.elim
  · unfold F_S_up at h
    split at h
    · obtain ⟨⟨eqn, sts, cur, ear, don, und⟩, d, n, p, hc, rfl, rfl, hd, bx, by_, le, ld, hk⟩ := h
      have ub := un_bd' hd
      have two : (2 : Nat) ≤ 100000 := by decide
      refine ⟨_, _, hc, rfl, rfl, ?_⟩
      refine ⟨⟨_, hc, rfl, rfl⟩, _, _, hc, rfl, rfl, hd, (rootD_bd hd), bx, by_, ub.1.mono (by decide), ub.2.mono (by decide), two, _, hc, le, ld, hk⟩
    · exact h.elim
end
def F_S_down (C : Addr) : FT := fun es c k => match es with
  | [.ses a] => ∃ v d n p, c.2.2 a = some (mkS C v) ∧ v.eqn = pr d n ∧ v.cur = prP p ∧ rootD d = true ∧ Bd 4000 p.1 ∧ Bd 4000 p.2 ∧ v.ear.length < 100000 ∧ v.don.length < 100000 ∧ k (.im (prP (mulP d p (opp (un d))))) (c.1, c.2.1, putS c.2.2 a (mkS C (v.act (prP (mulP d p (opp (un d)))) (.tuple [.str "down", .int 0]))))
  | _ => False

section
variable {P : Program} {w : World} {K : PySem.W.Frag} {mg : Str → Option Value} {base : Heap}
theorem ok_S_down (T : Txt K mg) : FnOk P w K mg base CX0 5 T.a_S_down T.d_S_down ["self"] (spD K (F_S_down T.c_Session)) := by
  have G_S_perform := ok_S_perform (P := P) (w := w) (base := base) T
  have G_found_unit := ok_found_unit (P := P) (w := w) (base := base) T
  have G_opposite := ok_opposite (P := P) (w := w) (base := base) T
  have G_times := ok_times (P := P) (w := w) (base := base) T
  refine fnD T.F_S_down sc_S_down (fun es c k h => ?_) (fun cdv A outer s H E hr => (ds_cons (ds_set (i := 1) sc_S_down.nd rfl (by first | exact Or.inl rfl | exact Or.inr rfl) (de_ix (de_fld T.cl_Session T.n_equation (de_var 0)) de_int (fun _ _ => rfl)))
  (ds_one (ds_ret (de_meth T.cl_Session T.m_S_perform G_S_perform (hr.mono (by decide)) (b_S_perform T) (de_var 0) (da_cons (de_call G_times (hr.mono (by decide)) (by rfl) T.g_times T.F_times.kp (b_times T) (da_cons (de_var 1) (da_cons (de_fld T.cl_Session T.n_current (de_var 0)) (da_cons (de_call G_opposite (hr.mono (by decide)) (by rfl) T.g_opposite T.F_opposite.kp (b_opposite T) (da_cons (de_call G_found_unit (hr.mono (by decide)) (by rfl) T.g_found_unit T.F_found_unit.kp (b_found_unit T) (da_cons (de_var 1) da_nil)) da_nil)) da_nil)))) (da_cons (de_tup (da_cons de_str (da_cons de_int da_nil))) da_nil))))))) (fun es c k h => ?_)
  · unfold F_S_down at h
    split at h <;> first | rfl | exact h.elim
  · unfold F_S_down at h
    split at h
    · obtain ⟨⟨eqn, sts, cur, ear, don, und⟩, d, n, p, hc, rfl, rfl, hd, bx, by_, le, ld, hk⟩ := h
      have ub := un_bd' hd
      have two : (2 : Nat) ≤ 100000 := by decide
      refine ⟨_, _, hc, rfl, rfl, ?_⟩
      refine ⟨⟨_, hc, rfl, rfl⟩, _, _, hc, rfl, rfl, hd, (rootD_bd hd), bx, by_, ub.1.mono (by decide), ub.2.neg.mono (by decide), two, _, hc, le, ld, hk⟩
    · exact h.elim
end
def F_S_choose (C : Addr) : FT := fun es c k => match es with
  | [.ses a, .im (.int i)] => ∃ v p, c.2.2 a = some (mkS C v) ∧ 0 ≤ i ∧ i ≤ (v.sts.length : Nat) - 1 ∧ atI v.sts i = some p ∧ v.ear.length < 100000 ∧ v.don.length < 100000 ∧ k (.im p) (c.1, c.2.1, putS c.2.2 a (mkS C (v.act p (.tuple [.str "choose", .int i]))))
  | _ => False

section
variable {P : Program} {w : World} {K : PySem.W.Frag} {mg : Str → Option Value} {base : Heap}
theorem ok_S_choose (T : Txt K mg) : FnOk P w K mg base CX0 4 T.a_S_choose T.d_S_choose ["self", "number"] (spD K (F_S_choose T.c_Session)) := by
  have G_S_perform := ok_S_perform (P := P) (w := w) (base := base) T
  have G_check_number := ok_check_number (P := P) (w := w) (base := base) T
  refine fnD T.F_S_choose sc_S_choose (fun es c k h => ?_) (fun cdv A outer s H E hr => (ds_cons (ds_drop (de_call G_check_number (hr.mono (by decide)) (by rfl) T.g_check_number T.F_check_number.kp (b_check_number T) (da_cons (de_var 1) (da_cons de_int (da_cons (de_op od_sub (de_lenF T.cl_Session T.n_starts (by rfl) T.m_len (de_var 0)) de_int) da_nil)))))
  (ds_one (ds_ret (de_meth T.cl_Session T.m_S_perform G_S_perform (hr.mono (by decide)) (b_S_perform T) (de_var 0) (da_cons (de_ixF 1 T.cl_Session T.n_starts (de_var 0) (pv 1)) (da_cons (de_tup (da_cons de_str (da_cons (de_var 1) da_nil))) da_nil))))))) (fun es c k h => ?_)
  · unfold F_S_choose at h
    split at h <;> first | rfl | exact h.elim
  · unfold F_S_choose at h
    split at h
    · obtain ⟨v, p, hc, h1, h2, hi, le, ld, hk⟩ := h
      have two : (2 : Nat) ≤ 100000 := by decide
      refine ⟨_, _, hc, rfl, rfl, trivial, h1, h2, ?_⟩
      exact ⟨⟨_, hc, rfl, rfl⟩, _, _, _, hc, rfl, rfl, hi, two, v, hc, le, ld, hk⟩
    · exact h.elim
end
def F_S_solution (C : Addr) : FT := fun es c k => match es with
  | [.ses a] => ∃ v, c.2.2 a = some (mkS C v) ∧ k (.im v.cur) c
  | _ => False

section
variable {P : Program} {w : World} {K : PySem.W.Frag} {mg : Str → Option Value} {base : Heap}
theorem ok_S_solution (T : Txt K mg) : FnOk P w K mg base CX0 1 T.a_S_solution T.d_S_solution ["self"] (spD K (F_S_solution T.c_Session)) := by
  refine fnD T.F_S_solution sc_S_solution (fun es c k h => ?_) (fun cdv A outer s H E hr => (ds_one (ds_ret (de_fld T.cl_Session T.n_current (de_var 0))))) (fun es c k h => ?_)
  · unfold F_S_solution at h
    split at h <;> first | rfl | exact h.elim
  · unfold F_S_solution at h
    split at h
    · obtain ⟨v, hc, hk⟩ := h
      exact ⟨_, _, hc, rfl, rfl, hk⟩
    · exact h.elim
end
def F_S_number (C : Addr) : FT := fun es c k => match es with
  | [.ses a] => ∃ v d n p, c.2.2 a = some (mkS C v) ∧ v.eqn = pr d n ∧ v.cur = prP p ∧ rootD d = true ∧ nrm d p ≠ 0 ∧ Bd 3000 p.1 ∧ Bd 3000 p.2 ∧ ∀ (h : Int × Int) (s m : Int), Head d h → isS s → p = mem d h s m → k (.im (.int m)) c
  | _ => False

section
variable {P : Program} {w : World} {K : PySem.W.Frag} {mg : Str → Option Value} {base : Heap}
theorem ok_S_number (T : Txt K mg) : FnOk P w K mg base CX0 6 T.a_S_number T.d_S_number ["self"] (spD K (F_S_number T.c_Session)) := by
  have G_head_of := ok_head_of (P := P) (w := w) (base := base) T
  refine fnD T.F_S_number sc_S_number (fun es c k h => ?_) (fun cdv A outer s H E hr => (ds_one (ds_ret (de_ix (de_call G_head_of (hr.mono (by decide)) (by rfl) T.g_head_of T.F_head_of.kp (b_head_of T) (da_cons (de_ix (de_fld T.cl_Session T.n_equation (de_var 0)) de_int (fun _ _ => rfl)) (da_cons (de_fld T.cl_Session T.n_current (de_var 0)) da_nil))) de_int (fun _ _ => rfl))))) (fun es c k h => ?_)
  · unfold F_S_number at h
    split at h <;> first | rfl | exact h.elim
  · unfold F_S_number at h
    split at h
    · obtain ⟨⟨eqn, sts, cur, ear, don, und⟩, d, n, p, hc, rfl, rfl, hd, hz, bx, by_, hk⟩ := h
      exact ⟨_, _, hc, rfl, rfl, _, _, hc, rfl, rfl, hd, hz, bx, by_, hk⟩
    · exact h.elim
end
/-- the last step undone -/
def F_S_undo (C : Addr) : FT := fun es c k => match es with
  | [.ses a] => ∃ v don op ear pair, c.2.2 a = some (mkS C v) ∧ v.don = don ++ [op] ∧ v.ear = ear ++ [pair] ∧ v.und.length < 100000 ∧ Shp (.list v.don) ∧ ∃ nm x, op = .tuple [nm, x] ∧ k (.im nm) (c.1, c.2.1, putS c.2.2 a (mkS C { v with ear := ear, cur := pair, don := don, und := v.und ++ [.tuple [op, v.cur]] }))
  | _ => False
theorem RpAll.snoc {K : PySem.W.Frag} {H : Hp} : ∀ {ds : List PyData} {d : PyData} {vs : List V}, RpAll K H vs (ds ++ [d]) → ∃ us u, vs = us ++ [u] ∧ RpAll K H us ds ∧ Rp K H u d
  | [], d, vs, h => by
    cases h with
    | cons r rs => cases rs; exact ⟨[], _, rfl, .nil, r⟩
  | e :: ds, d, vs, h => by
    cases h with
    | cons r rs =>
      obtain ⟨us, u, rfl, r1, r2⟩ := RpAll.snoc rs
      exact ⟨_ :: us, u, rfl, .cons r r1, r2⟩
theorem last_snoc {α : Type} (us : List α) (u : α) : (us ++ [u])[(us ++ [u]).length - 1]? = some u := by simp
theorem eqv_snoc (xs : List PyData) (x : PyData) : PyData.eqv (.list (xs ++ [x])) (.list []) = false := by cases xs <;> rfl

section
variable {P : Program} {w : World} {K : PySem.W.Frag} {mg : Str → Option Value} {base : Heap}
theorem ok_S_undo (T : Txt K mg) : FnOk P w K mg base CX0 1 T.a_S_undo T.d_S_undo ["self"] (spD K (F_S_undo T.c_Session)) := by
  refine T.F_S_undo.ok sc_S_undo (fun vs H Q E h => ?_) (fun cdv A outer s H vs Q E hr h => ?_)
  · obtain ⟨Tt, n, c, es, k, t, rs, hF, q⟩ := h
    rw [rs.len]
    unfold F_S_undo at hF
    split at hF
    · rfl
    · exact hF.elim
  · refine ⟨_, pss_cons (ps_if (pt_cmpR (op_eqD hr.units) (pe_fld (pv 0) rfl) (pe_lst pa_nil) (nomark _)) (pss_one ps_never) pss_nil)
      (pss_cons (ps_set (i := 1) sc_S_undo.nd rfl (by first | exact Or.inl rfl | exact Or.inr rfl) (pe_bm0 PySem.F.plainAttrs_list PySem.F.slot_list_pop PySem.F.type_list_pop mt_pop (pe_fld (pv 0) rfl)))
      (pss_cons (ps_expr (pe_bm PySem.F.plainAttrs_list PySem.F.slot_list_append PySem.F.type_list_append mt_append (pe_fld (pv 0) rfl) (pa_cons (pe_tup (pa_cons (pv 1) (pa_cons (pe_fld (pv 0) rfl) pa_nil))) pa_nil)))
      (pss_cons (ps_fld (pv 0) (pe_bm0 PySem.F.plainAttrs_list PySem.F.slot_list_pop PySem.F.type_list_pop mt_pop (pe_fld (pv 0) rfl)) rfl)
      (pss_one (ps_ret (pe_ix ix_tup (pv 1) pe_int (fun _ _ => rfl))))))), ?_⟩
    obtain ⟨Tt, nn, c, es, k, tw, rs, hF, q⟩ := h
    unfold F_S_undo at hF
    split at hF
    · rename_i a
      obtain ⟨v, don, op, ear, pair, hc, hdon, hear, lu, shd, nm, x, rfl, hk⟩ := hF
      cases rs with
      | cons r1 _ rs =>
      cases rs
      have r1 : _ = V.ref a := r1
      subst r1
      obtain ⟨dx, e0, lS, c0, lE, lD, lU, vS, vE, vD, vU, z⟩ := SesV.of (tw.ses a _ hc)
      have nA := lst_ne z.ob z.hE
      have nD := lst_ne z.ob z.hD
      have nS := lst_ne z.ob z.hS
      have nU := lst_ne z.ob z.hU
      obtain ⟨n1, n2, n3, n4, n5, n6⟩ := four_nd z.nd
      have nl := sizeLine_eq
      have rD := z.rD K
      rw [hdon] at rD
      obtain ⟨vd, vo, rfl, rd, ro⟩ := rD.snoc
      have rE := z.rE K
      rw [hear] at rE
      obtain ⟨ve, vp, rfl, re, rp⟩ := rE.snoc
      -- if self.done == []
      refine ⟨_, rfl, a, _, dx, _, _, rfl, z.ob, T.cl_Session, T.n_done, fl_don _ _ _ _ _ _, Nat.zero_le _, fun p1 hp1 => ?_⟩
      have w1 := (Wx.refl H a [lS, lE, lD, lU]).new (o := .lst []) hp1
      have k1 : ∀ {b : Addr} {o : HO}, H b = some o → upd H p1 (.lst []) b = some o := fun {b o} h => (upd_ne (ne_of_none h hp1)).trans h
      have b1 : upd H p1 (.lst []) p1 = some (.lst []) := upd_same
      generalize upd H p1 (.lst []) = H1 at w1 k1 b1
      have n0 : Nice 1 (.list []) := nice_list (n := 0) fun z hz => by cases hz
      have ke1 := w1.ke z.ob fun l hl => (z.all.mem hl).2
      refine ⟨.list v.don, .list [], .lst (SqL.of (k1 z.hD)) (RpAll.dp _ _ (RpAll.ke ke1 _ _ (z.rD K))), .lst (SqL.of b1) .nil, shd, n0.shp (by decide), _, rfl, ?_⟩
      refine ifF (by rw [hdon]; exact eqv_snoc _ _) ?_
      -- operation = self.done.pop()
      refine ⟨_, rfl, a, _, dx, _, _, rfl, k1 z.ob, T.cl_Session, T.n_done, fl_don _ _ _ _ _ _, .inl ⟨rfl, _, SqL.of (k1 z.hD)⟩, lD, _, vo, rfl, rfl, k1 z.hD, last_snoc _ _, ?_⟩
      rw [List.dropLast_concat]
      have w2 := w1.lst (l := lD) (ws := vd) (.inl (by simp))
      have a2 : upd H1 lD (.lst vd) a = _ := (upd_ne nD.symm).trans (k1 z.ob)
      have d2 : upd H1 lD (.lst vd) lD = some (.lst vd) := upd_same
      have s2 : upd H1 lD (.lst vd) lS = _ := (upd_ne n2).trans (k1 z.hS)
      have e2 : upd H1 lD (.lst vd) lE = _ := (upd_ne n4).trans (k1 z.hE)
      have u2 : upd H1 lD (.lst vd) lU = _ := (upd_ne n6.symm).trans (k1 z.hU)
      generalize upd H1 lD (.lst vd) = H2 at w2 a2 d2 s2 e2 u2
      -- self.undone.append((operation, self.current))
      refine ⟨_, rfl, a, _, dx, _, _, rfl, a2, T.cl_Session, T.n_undone, fl_und _ _ _ _ _ _, .inl ⟨rfl, _, SqL.of u2⟩, _, rfl, _, rfl, a, _, dx, _, _, rfl, a2, T.cl_Session, T.n_current, fl_cur _ _ _ _ _ _, (by show 2 ≤ sizeLine; omega), fun pt hpt => ?_⟩
      have w3 := w2.new (o := .tup [vo, c0]) hpt
      have k3 : ∀ {b : Addr} {o : HO}, H2 b = some o → upd H2 pt (.tup [vo, c0]) b = some o := fun {b o} h => (upd_ne (ne_of_none h hpt)).trans h
      have b3 : upd H2 pt (.tup [vo, c0]) pt = some (.tup [vo, c0]) := upd_same
      generalize upd H2 pt (.tup [vo, c0]) = H3 at w3 k3 b3
      refine ⟨lU, _, _, rfl, rfl, k3 u2, by rw [(z.rU K).len]; exact sz_lt lu, ?_⟩
      have w4 := w3.lst (l := lU) (ws := vU ++ [.ref pt]) (.inl (by simp))
      have a4 : upd H3 lU (.lst (vU ++ [.ref pt])) a = _ := (upd_ne nU.symm).trans (k3 a2)
      have d4 : upd H3 lU (.lst (vU ++ [.ref pt])) lD = _ := (upd_ne n6).trans (k3 d2)
      have s4 : upd H3 lU (.lst (vU ++ [.ref pt])) lS = _ := (upd_ne n3).trans (k3 s2)
      have e4 : upd H3 lU (.lst (vU ++ [.ref pt])) lE = _ := (upd_ne n5).trans (k3 e2)
      have u4 : upd H3 lU (.lst (vU ++ [.ref pt])) lU = some (.lst (vU ++ [.ref pt])) := upd_same
      have t4 : upd H3 lU (.lst (vU ++ [.ref pt])) pt = _ := (upd_ne (fun y => by rw [y, k3 u2] at b3; cases b3)).trans b3
      generalize upd H3 lU (.lst (vU ++ [.ref pt])) = H4 at w4 a4 d4 s4 e4 u4 t4
      -- self.current = self.earlier.pop()
      refine ⟨_, rfl, a, _, dx, _, _, rfl, a4, T.cl_Session, T.n_earlier, fl_ear _ _ _ _ _ _, .inl ⟨rfl, _, SqL.of e4⟩, lE, _, vp, rfl, rfl, e4, last_snoc _ _, ?_⟩
      rw [List.dropLast_concat]
      have w5 := w4.lst (l := lE) (ws := ve) (.inl (by simp))
      have a5 : upd H4 lE (.lst ve) a = _ := (upd_ne nA.symm).trans a4
      have d5 : upd H4 lE (.lst ve) lD = _ := (upd_ne n4.symm).trans d4
      have s5 : upd H4 lE (.lst ve) lS = _ := (upd_ne n1).trans s4
      have e5 : upd H4 lE (.lst ve) lE = some (.lst ve) := upd_same
      have u5 : upd H4 lE (.lst ve) lU = _ := (upd_ne n5.symm).trans u4
      have t5 : upd H4 lE (.lst ve) pt = _ := (upd_ne (fun y => by rw [y, e4] at t4; cases t4)).trans t4
      generalize upd H4 lE (.lst ve) = H5 at w5 a5 d5 s5 e5 u5 t5
      refine ⟨_, rfl, a, _, dx, _, rfl, a5, T.cl_Session, T.n_current, fl_len _ _ _ _ _ _, ?_⟩
      rw [put_cur]
      have w6 := w5.obj (C := T.c_Session) (dx := dx) (fs := fl e0 lS vp lE lD lU)
      have a6 : upd H5 a (.ins T.c_Session dx (fl e0 lS vp lE lD lU)) a = _ := upd_same
      have d6 : upd H5 a (.ins T.c_Session dx (fl e0 lS vp lE lD lU)) lD = _ := (upd_ne nD).trans d5
      have s6 : upd H5 a (.ins T.c_Session dx (fl e0 lS vp lE lD lU)) lS = _ := (upd_ne nS).trans s5
      have e6 : upd H5 a (.ins T.c_Session dx (fl e0 lS vp lE lD lU)) lE = _ := (upd_ne nA).trans e5
      have u6 : upd H5 a (.ins T.c_Session dx (fl e0 lS vp lE lD lU)) lU = _ := (upd_ne nU).trans u5
      have t6 : upd H5 a (.ins T.c_Session dx (fl e0 lS vp lE lD lU)) pt = _ := (upd_ne (fun y => by rw [y, a5] at t5; cases t5)).trans t5
      generalize upd H5 a (.ins T.c_Session dx (fl e0 lS vp lE lD lU)) = H6 at w6 a6 d6 s6 e6 u6 t6
      have ke := w6.ke z.ob fun l hl => (z.all.mem hl).2
      have fin : SesV H6 a T.c_Session dx { v with ear := ear, cur := pair, don := don, und := v.und ++ [.tuple [.tuple [nm, x], v.cur]] } e0 lS vp lE lD lU vS ve vd (vU ++ [.ref pt]) := {
        ob := a6
        eq := fun K => Rp.ke ke _ _ (z.eq K)
        cu := fun K => Rp.ke ke _ _ (Rp.chg _ _ rp)
        hS := s6, hE := e6, hD := d6, hU := u6
        rS := fun K => RpAll.ke ke _ _ (z.rS K)
        rE := fun K => RpAll.ke ke _ _ (RpAll.chg _ _ re)
        rD := fun K => RpAll.ke ke _ _ (RpAll.chg _ _ rd)
        rU := fun K => (RpAll.ke ke _ _ (z.rU K)).append (.cons (.tup t6 (.cons (Rp.ke ke _ _ (Rp.chg _ _ ro)) (.cons (Rp.ke ke _ _ (z.cu K)) .nil))) .nil)
        nd := z.nd }
      obtain ⟨t7, f7⟩ := SesV.fin tw hc z w6 fin (fun l hl => .inl hl)
      -- return operation[0]
      have ro6 := Rp.ke ke _ _ ro
      cases ro6 with
      | tup ho rvs =>
        cases rvs with
        | cons rn rvs =>
          exact ⟨_, rfl, _, _, 0, _, rfl, rfl, .inl (.inl ho), atI_nat (j := 0) rfl, q _ _ hk _ H6 f7 t7 ⟨rn, trivial⟩⟩
    · exact hF.elim

end
def Fr_S_undo (C : Addr) : FTx := fun es c k ke => match es with
  | [.ses a] => ∃ v, c.2.2 a = some (mkS C v) ∧ v.don = [] ∧ ke 8 c
  | _ => False

section
variable {P : Program} {w : World} {K : PySem.W.Frag} {mg : Str → Option Value} {base : Heap}
theorem okr_S_undo (T : Txt K mg) : FnOk P w K mg base (L2.CX P w) 1 T.a_S_undo T.d_S_undo ["self"] (spX K T.cl (Fr_S_undo T.c_Session)) := by
  refine fnX T.F_S_undo sc_S_undo (fun es c k ke h => ?_) (fun cdv A outer s H E hr => (xs_cons (xs_ifr (j := 8) (dt_nilF hr.units T.cl_Session T.n_done (de_var 0)) (pss_one (ps_raise rfl (takes_of rfl rfl rfl rfl) (pmk_own PySem.F.excBase_ValueError T.x_NothingToUndo T.g_NothingToUndo T.k_NothingToUndo (raises_own T.b_NothingToUndo T.t_NothingToUndo) (by rfl)))))
  xs_nevers)) (fun es c k ke h => ?_)
  · unfold Fr_S_undo at h
    split at h <;> first | rfl | exact h.elim
  · unfold Fr_S_undo at h
    split at h
    · obtain ⟨v, hc, h2, h⟩ := h
      refine ⟨_, _, hc, rfl, rfl, ?_⟩
      rw [h2]
      exact ⟨shp_nil, ifT rfl h⟩
    · exact h.elim
def Fx_S_undo (C : Addr) : FTx := fun es c k ke => F_S_undo C es c k ∨ Fr_S_undo C es c k ke
theorem okx_S_undo (T : Txt K mg) : FnOk P w K mg base (L2.CX P w) 1 T.a_S_undo T.d_S_undo ["self"] (spX K T.cl (Fx_S_undo T.c_Session)) := fn_orX (fun _ _ _ _ h => h) (fn_lift (ok_S_undo T)) (okr_S_undo T)
end
/-- the last step done again -/
def F_S_redo (C : Addr) : FT := fun es c k => match es with
  | [.ses a] => ∃ v und op pair, c.2.2 a = some (mkS C v) ∧ v.und = und ++ [.tuple [op, pair]] ∧ v.ear.length < 100000 ∧ v.don.length < 100000 ∧ Shp (.list v.und) ∧ ∃ nm x, op = .tuple [nm, x] ∧ k (.im nm) (c.1, c.2.1, putS c.2.2 a (mkS C { v with ear := v.ear ++ [v.cur], cur := pair, don := v.don ++ [op], und := und }))
  | _ => False

section
variable {P : Program} {w : World} {K : PySem.W.Frag} {mg : Str → Option Value} {base : Heap}
theorem ok_S_redo (T : Txt K mg) : FnOk P w K mg base CX0 1 T.a_S_redo T.d_S_redo ["self"] (spD K (F_S_redo T.c_Session)) := by
  refine T.F_S_redo.ok sc_S_redo (fun vs H Q E h => ?_) (fun cdv A outer s H vs Q E hr h => ?_)
  · obtain ⟨Tt, n, c, es, k, t, rs, hF, q⟩ := h
    rw [rs.len]
    unfold F_S_redo at hF
    split at hF
    · rfl
    · exact hF.elim
  · refine ⟨_, pss_cons (ps_if (pt_cmpR (op_eqD hr.units) (pe_fld (pv 0) rfl) (pe_lst pa_nil) (nomark _)) (pss_one ps_never) pss_nil)
      (pss_cons (ps_asg (pe_bm0 PySem.F.plainAttrs_list PySem.F.slot_list_pop PySem.F.type_list_pop mt_pop (pe_fld (pv 0) rfl)) (pg_tup (n := 2) rfl (pgs_cons (pg_name (i := 1) sc_S_redo.nd rfl (by first | exact Or.inl rfl | exact Or.inr rfl)) (pgs_cons (pg_name (i := 2) sc_S_redo.nd rfl (by first | exact Or.inl rfl | exact Or.inr rfl)) pgs_nil)) rfl rfl))
      (pss_cons (ps_expr (pe_bm PySem.F.plainAttrs_list PySem.F.slot_list_append PySem.F.type_list_append mt_append (pe_fld (pv 0) rfl) (pa_cons (pe_fld (pv 0) rfl) pa_nil)))
      (pss_cons (ps_fld (pv 0) (pv 2) rfl)
      (pss_cons (ps_expr (pe_bm PySem.F.plainAttrs_list PySem.F.slot_list_append PySem.F.type_list_append mt_append (pe_fld (pv 0) rfl) (pa_cons (pv 1) pa_nil)))
      (pss_one (ps_ret (pe_ix ix_tup (pv 1) pe_int (fun _ _ => rfl)))))))), ?_⟩
    obtain ⟨Tt, nn, c, es, k, tw, rs, hF, q⟩ := h
    unfold F_S_redo at hF
    split at hF
    · rename_i a
      obtain ⟨v, und, op, pair, hc, hund, le, ld, shu, nm, x, rfl, hk⟩ := hF
      cases rs with
      | cons r1 _ rs =>
      cases rs
      have r1 : _ = V.ref a := r1
      subst r1
      obtain ⟨dx, e0, lS, c0, lE, lD, lU, vS, vE, vD, vU, z⟩ := SesV.of (tw.ses a _ hc)
      have nA := lst_ne z.ob z.hE
      have nD := lst_ne z.ob z.hD
      have nS := lst_ne z.ob z.hS
      have nU := lst_ne z.ob z.hU
      obtain ⟨n1, n2, n3, n4, n5, n6⟩ := four_nd z.nd
      have nl := sizeLine_eq
      have rU := z.rU K
      rw [hund] at rU
      obtain ⟨vu, vt, rfl, ru, rt⟩ := rU.snoc
      cases rt with
      | @tup pt ts _ ht rts =>
      cases rts with
      | @cons vo _ _ _ ro rts =>
      cases rts with
      | @cons vp _ _ _ rp rts =>
      cases rts
      -- if self.undone == []
      refine ⟨_, rfl, a, _, dx, _, _, rfl, z.ob, T.cl_Session, T.n_undone, fl_und _ _ _ _ _ _, Nat.zero_le _, fun p1 hp1 => ?_⟩
      have w1 := (Wx.refl H a [lS, lE, lD, lU]).new (o := .lst []) hp1
      have k1 : ∀ {b : Addr} {o : HO}, H b = some o → upd H p1 (.lst []) b = some o := fun {b o} h => (upd_ne (ne_of_none h hp1)).trans h
      have b1 : upd H p1 (.lst []) p1 = some (.lst []) := upd_same
      generalize upd H p1 (.lst []) = H1 at w1 k1 b1
      have n0 : Nice 1 (.list []) := nice_list (n := 0) fun z hz => by cases hz
      have ke1 := w1.ke z.ob fun l hl => (z.all.mem hl).2
      refine ⟨.list v.und, .list [], .lst (SqL.of (k1 z.hU)) (RpAll.dp _ _ (RpAll.ke ke1 _ _ (z.rU K))), .lst (SqL.of b1) .nil, shu, n0.shp (by decide), _, rfl, ?_⟩
      refine ifF (by rw [hund]; exact eqv_snoc _ _) ?_
      -- operation, pair = self.undone.pop()
      refine ⟨_, rfl, a, _, dx, _, _, rfl, k1 z.ob, T.cl_Session, T.n_undone, fl_und _ _ _ _ _ _, .inl ⟨rfl, _, SqL.of (k1 z.hU)⟩, lU, _, .ref pt, rfl, rfl, k1 z.hU, last_snoc _ _, ?_⟩
      rw [List.dropLast_concat]
      have w2 := w1.lst (l := lU) (ws := vu) (.inl (by simp))
      have a2 : upd H1 lU (.lst vu) a = _ := (upd_ne nU.symm).trans (k1 z.ob)
      have d2 : upd H1 lU (.lst vu) lD = _ := (upd_ne n6).trans (k1 z.hD)
      have s2 : upd H1 lU (.lst vu) lS = _ := (upd_ne n3).trans (k1 z.hS)
      have e2 : upd H1 lU (.lst vu) lE = _ := (upd_ne n5).trans (k1 z.hE)
      have u2 : upd H1 lU (.lst vu) lU = some (.lst vu) := upd_same
      have ht2 : upd H1 lU (.lst vu) pt = some (.tup [vo, vp]) := (upd_ne (fun y => by rw [y, z.hU] at ht; cases ht)).trans (k1 ht)
      generalize upd H1 lU (.lst vu) = H2 at w2 a2 d2 s2 e2 u2 ht2
      refine ⟨pt, [vo, vp], rfl, .inl (.inl ht2), rfl, vo, [vp], rfl, vp, [], rfl, rfl, ?_⟩
      -- self.earlier.append(self.current)
      refine ⟨_, rfl, a, _, dx, _, _, rfl, a2, T.cl_Session, T.n_earlier, fl_ear _ _ _ _ _ _, .inl ⟨rfl, _, SqL.of e2⟩, _, rfl, a, _, dx, _, _, rfl, a2, T.cl_Session, T.n_current, fl_cur _ _ _ _ _ _, lE, _, _, rfl, rfl, e2, by rw [(z.rE K).len]; exact sz_lt le, ?_⟩
      have w3 := w2.lst (l := lE) (ws := vE ++ [c0]) (.inl (by simp))
      have a3 : upd H2 lE (.lst (vE ++ [c0])) a = _ := (upd_ne nA.symm).trans a2
      have d3 : upd H2 lE (.lst (vE ++ [c0])) lD = _ := (upd_ne n4.symm).trans d2
      have s3 : upd H2 lE (.lst (vE ++ [c0])) lS = _ := (upd_ne n1).trans s2
      have e3 : upd H2 lE (.lst (vE ++ [c0])) lE = some (.lst (vE ++ [c0])) := upd_same
      have u3 : upd H2 lE (.lst (vE ++ [c0])) lU = _ := (upd_ne n5.symm).trans u2
      generalize upd H2 lE (.lst (vE ++ [c0])) = H3 at w3 a3 d3 s3 e3 u3
      -- self.current = pair
      refine ⟨_, rfl, _, rfl, a, _, dx, _, rfl, a3, T.cl_Session, T.n_current, fl_len _ _ _ _ _ _, ?_⟩
      rw [put_cur]
      have w4 := w3.obj (C := T.c_Session) (dx := dx) (fs := fl e0 lS vp lE lD lU)
      have a4 : upd H3 a (.ins T.c_Session dx (fl e0 lS vp lE lD lU)) a = _ := upd_same
      have d4 : upd H3 a (.ins T.c_Session dx (fl e0 lS vp lE lD lU)) lD = _ := (upd_ne nD).trans d3
      have s4 : upd H3 a (.ins T.c_Session dx (fl e0 lS vp lE lD lU)) lS = _ := (upd_ne nS).trans s3
      have e4 : upd H3 a (.ins T.c_Session dx (fl e0 lS vp lE lD lU)) lE = _ := (upd_ne nA).trans e3
      have u4 : upd H3 a (.ins T.c_Session dx (fl e0 lS vp lE lD lU)) lU = _ := (upd_ne nU).trans u3
      generalize upd H3 a (.ins T.c_Session dx (fl e0 lS vp lE lD lU)) = H4 at w4 a4 d4 s4 e4 u4
      -- self.done.append(operation)
      refine ⟨_, rfl, a, _, dx, _, _, rfl, a4, T.cl_Session, T.n_done, fl_don _ _ _ _ _ _, .inl ⟨rfl, _, SqL.of d4⟩, _, rfl, lD, _, _, rfl, rfl, d4, by rw [(z.rD K).len]; exact sz_lt ld, ?_⟩
      have w5 := w4.lst (l := lD) (ws := vD ++ [vo]) (.inl (by simp))
      have a5 : upd H4 lD (.lst (vD ++ [vo])) a = _ := (upd_ne nD.symm).trans a4
      have d5 : upd H4 lD (.lst (vD ++ [vo])) lD = some (.lst (vD ++ [vo])) := upd_same
      have s5 : upd H4 lD (.lst (vD ++ [vo])) lS = _ := (upd_ne n2).trans s4
      have e5 : upd H4 lD (.lst (vD ++ [vo])) lE = _ := (upd_ne n4).trans e4
      have u5 : upd H4 lD (.lst (vD ++ [vo])) lU = _ := (upd_ne n6.symm).trans u4
      generalize upd H4 lD (.lst (vD ++ [vo])) = H5 at w5 a5 d5 s5 e5 u5
      have ke := w5.ke z.ob fun l hl => (z.all.mem hl).2
      have ro5 := Rp.ke ke _ _ ro
      have rp5 := Rp.ke ke _ _ rp
      have fin : SesV H5 a T.c_Session dx { v with ear := v.ear ++ [v.cur], cur := pair, don := v.don ++ [.tuple [nm, x]], und := und } e0 lS vp lE lD lU vS (vE ++ [c0]) (vD ++ [vo]) vu := {
        ob := a5
        eq := fun K => Rp.ke ke _ _ (z.eq K)
        cu := fun K => Rp.chg _ _ rp5
        hS := s5, hE := e5, hD := d5, hU := u5
        rS := fun K => RpAll.ke ke _ _ (z.rS K)
        rE := fun K => (RpAll.ke ke _ _ (z.rE K)).append (.cons (Rp.ke ke _ _ (z.cu K)) .nil)
        rD := fun K => (RpAll.ke ke _ _ (z.rD K)).append (.cons (Rp.chg _ _ ro5) .nil)
        rU := fun K => RpAll.ke ke _ _ (RpAll.chg _ _ ru)
        nd := z.nd }
      obtain ⟨t7, f7⟩ := SesV.fin tw hc z w5 fin (fun l hl => .inl hl)
      cases ro5 with
      | tup ho rvs =>
        cases rvs with
        | cons rn rvs =>
          exact ⟨_, rfl, _, _, 0, _, rfl, rfl, .inl (.inl ho), atI_nat (j := 0) rfl, q _ _ hk _ H5 f7 t7 ⟨rn, trivial⟩⟩
    · exact hF.elim

end
def Fr_S_redo (C : Addr) : FTx := fun es c k ke => match es with
  | [.ses a] => ∃ v, c.2.2 a = some (mkS C v) ∧ v.und = [] ∧ ke 8 c
  | _ => False

section
variable {P : Program} {w : World} {K : PySem.W.Frag} {mg : Str → Option Value} {base : Heap}
theorem okr_S_redo (T : Txt K mg) : FnOk P w K mg base (L2.CX P w) 1 T.a_S_redo T.d_S_redo ["self"] (spX K T.cl (Fr_S_redo T.c_Session)) := by
  refine fnX T.F_S_redo sc_S_redo (fun es c k ke h => ?_) (fun cdv A outer s H E hr => (xs_cons (xs_ifr (j := 8) (dt_nilF hr.units T.cl_Session T.n_undone (de_var 0)) (pss_one (ps_raise rfl (takes_of rfl rfl rfl rfl) (pmk_own PySem.F.excBase_ValueError T.x_NothingToUndo T.g_NothingToUndo T.k_NothingToUndo (raises_own T.b_NothingToUndo T.t_NothingToUndo) (by rfl)))))
  xs_nevers)) (fun es c k ke h => ?_)
  · unfold Fr_S_redo at h
    split at h <;> first | rfl | exact h.elim
  · unfold Fr_S_redo at h
    split at h
    · obtain ⟨v, hc, h2, h⟩ := h
      refine ⟨_, _, hc, rfl, rfl, ?_⟩
      rw [h2]
      exact ⟨shp_nil, ifT rfl h⟩
    · exact h.elim
def Fx_S_redo (C : Addr) : FTx := fun es c k ke => F_S_redo C es c k ∨ Fr_S_redo C es c k ke
theorem okx_S_redo (T : Txt K mg) : FnOk P w K mg base (L2.CX P w) 1 T.a_S_redo T.d_S_redo ["self"] (spX K T.cl (Fx_S_redo T.c_Session)) := fn_orX (fun _ _ _ _ h => h) (fn_lift (ok_S_redo T)) (okr_S_redo T)
end
def F_has_solution : FT := fun es c k => match es with
  | [.im (.int d), .im (.int n)] => rootD d = true ∧ norOk n = true ∧ k (.im (.bool (decide (hds d n ≠ [])))) c
  | _ => False
section
variable {P : Program} {w : World} {K : PySem.W.Frag} {mg : Str → Option Value} {base : Heap}
theorem ok_has_solution (T : Txt K mg) : FnOk P w K mg base CX0 7 T.a_has_solution T.d_has_solution ["d", "n"] (spD K F_has_solution) := by
  have G_check_both := ok_check_both (P := P) (w := w) (base := base) T
  have G_found_heads := ok_found_heads (P := P) (w := w) (base := base) T
  refine fnD T.F_has_solution sc_has_solution (fun es c k h => ?_) (fun cdv A outer s H E hr => (ds_cons (ds_drop (de_call G_check_both (hr.mono (by decide)) (by rfl) T.g_check_both T.F_check_both.kp (b_check_both T) (da_cons (de_var 0) (da_cons (de_var 1) da_nil))))
  (ds_one (ds_ret (de_cmp (od_ne hr.units) (de_call G_found_heads (hr.mono (by decide)) (by rfl) T.g_found_heads T.F_found_heads.kp (b_found_heads T) (da_cons (de_var 0) (da_cons (de_var 1) da_nil))) (de_lst da_nil) (nomark _)))))) (fun es c k h => ?_)
  · unfold F_has_solution at h
    split at h <;> first | rfl | exact h.elim
  · unfold F_has_solution at h
    split at h
    · rename_i d n
      obtain ⟨hd, hn, h⟩ := h
      refine ⟨hd, hn, hd, hn, Nat.zero_le _, shp_lstP _, shp_lstP [], ?_⟩
      rw [← ne_nil] at h
      exact h
    · exact h.elim
end

section
variable {P : Program} {w : World} {K : PySem.W.Frag} {mg : Str → Option Value} {base : Heap}
theorem ok_law_town (T : Txt K mg) : FnOk P w K mg base CX0 1 T.a_law_town T.d_law_town ["script"] (spD K F_law_town) := by
  refine fnD T.F_law_town sc_law_town (fun es c k h => ?_) (fun cdv A outer s H E hr => (ds_one (ds_ret (de_op od_add (de_lst (da_cons de_int da_nil)) (de_ty cd_list (by rfl) T.m_list (by decide +kernel) (da_cons (de_var 0) da_nil)))))) (fun es c k h => ?_)
  · unfold F_law_town at h
    split at h <;> first | rfl | exact h.elim
  · unfold F_law_town at h
    split at h
    · rename_i ss
      exact ⟨(by decide : 1 ≤ 100000), (by show 1 + ss.length ≤ 100000; omega), h.2⟩
    · exact h.elim
end
/-- a draw below a limit: any number below it; one more draw -/
def F_law_draw : FT := fun es c k => match es with
  | [.sc ss, .tw, .im (.int lim)] => (∃ ns : List Int, ss = ns.map PyData.int ∧ ns.length = c.1) ∧ 0 < lim ∧ lim < 2 ^ 200 ∧ c.2.1 < 1000000 ∧ ∀ r, 0 ≤ r → r < lim → k (.im (.int r)) (c.1, c.2.1 + 1, c.2.2)
  | _ => False
theorem small_of {x : Int} {a : Nat} (h0 : 0 ≤ x) (h1 : x < 2 ^ a) : x.natAbs < 2 ^ a := by
  have e : ((2 ^ a : Nat) : Int) = 2 ^ a := by simp
  omega

section
variable {P : Program} {w : World} {K : PySem.W.Frag} {mg : Str → Option Value} {base : Heap}
theorem ok_law_draw (T : Txt K mg) : FnOk P w K mg base CX0 1 T.a_law_draw T.d_law_draw ["script", "town", "limit"] (spD K F_law_draw) := by
  refine T.F_law_draw.ok sc_law_draw (fun vs H Q E h => ?_) (fun cdv A outer s H vs Q E hr h => ?_)
  · obtain ⟨Tt, n, c, es, k, t, rs, hF, q⟩ := h
    rw [rs.len]
    unfold F_law_draw at hF
    split at hF
    · rfl
    · exact hF.elim
  · refine ⟨_, pss_cons (ps_asg (pe_op op_add (pe_ix ix_list (pv 1) pe_int (fun _ _ => rfl)) pe_int) (pg_sub (pv 1) pe_int set_list))
      (pss_cons (ps_if (pt_cmpR (op_eqD hr.units) (pv 0) (pe_lst pa_nil) (nomark _))
        (pss_one (ps_ret (pe_op op_mod (pe_op op_fdiv (pe_op op_mul (pe_op op_mul (pe_ix ix_list (pv 1) pe_int (fun _ _ => rfl)) (pe_ix ix_list (pv 1) pe_int (fun _ _ => rfl))) pe_int) pe_int) (pv 2)))) pss_nil)
      (pss_cons (ps_set (i := 3) sc_law_draw.nd rfl (.inl rfl) (pe_op op_mod (pe_ix ix_list (pv 1) pe_int (fun _ _ => rfl)) (pe_callB call_len_seq (by rfl) T.m_len PySem.boot_len (pa_cons (pv 0) pa_nil))))
      (pss_cons (ps_set (i := 4) sc_law_draw.nd rfl (.inl rfl) (pe_ix ix_list (pv 1) (pe_op op_add pe_int (pv 3)) (fun _ _ => rfl)))
      (pss_cons (ps_if (PW.pt (pw_and (pt_cmpR op_ge (pe_ix ix_list (pv 0) (pv 3) (fun _ _ => rfl)) (pe_op op_pow pe_int pe_int) (nomark _)) (pw_and1 (pt_cmpR op_gt (pv 4) pe_int (nomark _)))))
        (pss_cons (ps_asg (pe_op op_fdivW (pv 4) (pv 2)) (pg_sub (pv 1) (pe_op op_add pe_int (pv 3)) set_list)) (pss_one (ps_ret (pe_op op_mod (pv 4) (pv 2))))) pss_nil)
      (pss_cons (ps_set (i := 5) sc_law_draw.nd rfl (.inl rfl) (pe_op op_mod (pe_op op_add (pe_ix ix_list (pv 0) (pv 3) (fun _ _ => rfl)) (pe_op op_mul pe_int (pe_ix ix_list (pv 1) pe_int (fun _ _ => rfl)))) pe_int))
      (pss_cons (ps_set (i := 5) sc_law_draw.nd rfl (.inl rfl) (pe_op op_mod (pe_op op_pow (pv 5) pe_int) pe_int))
      (pss_one (ps_ret (pe_op op_mod (pe_op op_fdiv (pe_op op_mod (pe_op op_add (pe_op op_mul (pe_op op_fdiv (pv 5) pe_int) pe_int) (pv 5)) pe_int) pe_int) (pv 2)))))))))), ?_⟩
    obtain ⟨Tt, n, c, es, k, tw, rs, hF, q⟩ := h
    unfold F_law_draw at hF
    split at hF
    · rename_i ss lim
      obtain ⟨⟨ns, rfl, hn⟩, l0, l1, hc, hk⟩ := hF
      cases rs with
      | cons r1 _ rs =>
      cases rs with
      | cons r2 _ rs =>
      cases rs with
      | cons r3 _ rs =>
      cases rs
      obtain ⟨sa, vs, rfl, s1, ra⟩ := r1
      obtain ⟨t, et, rfl⟩ := r2
      have e3 := ra.ints
      subst e3
      cases r3
      subst et
      obtain ⟨ts, ht, hts⟩ := tw.tow t rfl
      have e1 : atI (((c.2.1 : Int) :: ts).map V.int) 0 = some (.int c.2.1) := atI_nat (j := 0) rfl
      -- town[0] = town[0] + 1
      refine ⟨_, rfl, t, _, 0, _, rfl, rfl, SqL.of ht, e1, (c.2.1 : Int), 1, rfl, rfl, _, rfl, t, _, 0, 0, rfl, rfl, ht, (by unfold ixN; rw [if_pos (by decide), if_pos (by rw [List.length_map, List.length_cons]; omega)]; rfl), ?_⟩
      have hN : upd H t (.lst ((((c.2.1 : Int) :: ts).map V.int).set 0 (.int ((c.2.1 : Int) + 1)))) = upd H t (.lst (((((c.2.1 + 1 : Nat)) : Int) :: ts).map V.int)) := by simp
      rw [hN]
      generalize hH1 : upd H t (.lst (((((c.2.1 + 1 : Nat)) : Int) :: ts).map V.int)) = H1
      have ht1 : H1 t = some (.lst (((((c.2.1 + 1 : Nat)) : Int) :: ts).map V.int)) := by rw [← hH1]; exact upd_same
      have fr1 : FrT (some t) H H1 := by rw [← hH1]; exact frT_town ht
      have tw1 : Tw (some t) n (c.1, c.2.1 + 1, c.2.2) H1 := by rw [← hH1]; exact tw_town (c' := (c.1, c.2.1 + 1, c.2.2)) tw ht rfl hts
      have s1' : SqL K H1 sa (ns.map V.int) := (s1.ke (fr1.ke tw)).sq
      -- script == []
      refine ⟨_, rfl, Nat.zero_le _, fun p hp => ?_⟩
      generalize hH2 : upd H1 p (.lst []) = H2
      have sm2' : SameN H1 H2 := by rw [← hH2]; exact same_upd hp
      have sm2 : Same H1 H2 := sm2'.sm
      have tw2 := tw_same tw1 sm2'
      have ht2 := sm2 _ _ ht1
      have fr2 : FrT (some t) H H2 := fr1.trans (frT_same sm2')
      have s2 : SqL K H2 sa (ns.map V.int) := sm2.seq s1'
      have fin : ∀ (r : Int) (H' : Hp), 0 ≤ r → r < lim → FrT (some t) H H' → Tw (some t) n (c.1, c.2.1 + 1, c.2.2) H' → Q (.int r) H' := fun r H' h2 h3 h4 h5 =>
        q _ _ (hk r h2 h3) _ H' h4 h5 ⟨.int r, trivial⟩
      refine ⟨.list (ns.map PyData.int), .list [], .lst s2 (RpAll.dp _ _ (rpAll_ints ns)), .lst (SqL.of (by rw [← hH2]; exact upd_same)) .nil, (nice_ints ns).shp (by decide), (nice_ints []).shp (by decide), _, rfl, ?_⟩
      have c1 : ((c.2.1 + 1 : Nat) : Int) < 2 ^ 64 := by omega
      have c2 : -(2 ^ 64) < ((c.2.1 + 1 : Nat) : Int) := by omega
      have e2 : atI (((((c.2.1 + 1 : Nat)) : Int) :: ts).map V.int) 0 = some (.int ((c.2.1 + 1 : Nat) : Int)) := atI_nat (j := 0) rfl
      cases ns with
      | nil =>
        refine iteT ?_
        refine ⟨_, rfl, t, _, 0, _, rfl, rfl, SqL.of ht2, e2, _, rfl, t, _, 0, _, rfl, rfl, SqL.of ht2, e2, _, _, rfl, rfl, .inl ⟨c2, c1⟩, _, 7, rfl, rfl, .inr ⟨by decide, by decide⟩, _, 3, rfl, rfl, ⟨by decide, by decide⟩, _, rfl, _, lim, rfl, rfl, l0, ?_⟩
        exact fin _ _ (Int.emod_nonneg _ (by omega)) (Int.emod_lt_of_pos _ l0) fr2 tw2
      | cons n0 nr =>
        refine iteF ?_
        -- at = town[0] % len(script)
        have hlen : ((n0 :: nr).map V.int).length = c.1 := by rw [List.length_map]; exact hn
        have hpos : 0 < c.1 := by rw [← hn]; simp
        refine ⟨_, rfl, t, _, 0, _, rfl, rfl, SqL.of ht2, e2, _, rfl, sa, _, rfl, .inl s2, _, _, rfl, rfl, ?_, ?_⟩
        · show (0 : Int) < (((n0 :: nr).map V.int).length : Int)
          rw [hlen]
          omega
        · rw [hlen]
          obtain ⟨at', hat, hal⟩ : ∃ a : Nat, ((c.2.1 + 1 : Nat) : Int) % (c.1 : Int) = (a : Int) ∧ a < c.1 := ⟨(c.2.1 + 1) % c.1, by omega, Nat.mod_lt _ hpos⟩
          dsimp only
          rw [hat]
          have gl : at' < ts.length := by rw [hts]; exact hal
          have gs : at' < (n0 :: nr).length := by rw [hn]; exact hal
          have ga : (((((c.2.1 + 1 : Nat)) : Int) :: ts).map V.int)[at' + 1]? = some (.int ts[at']) := by
            rw [List.map_cons, List.getElem?_cons_succ, List.getElem?_map, List.getElem?_eq_getElem gl]
            rfl
          have gb : ((n0 :: nr).map V.int)[at']? = some (.int (n0 :: nr)[at']) := by
            rw [List.getElem?_map, List.getElem?_eq_getElem gs]
            rfl
          have e5 : atI (((((c.2.1 + 1 : Nat)) : Int) :: ts).map V.int) (1 + (at' : Int)) = some (.int ts[at']) := by
            rw [show (1 + (at' : Int)) = ((at' + 1 : Nat) : Int) by omega]
            exact atI_nat ga
          have e6 : atI ((n0 :: nr).map V.int) (at' : Int) = some (.int (n0 :: nr)[at']) := atI_nat gb
          -- left = town[1 + at]
          refine ⟨_, rfl, _, rfl, 1, (at' : Int), rfl, rfl, t, _, _, _, rfl, rfl, SqL.of ht2, e5, ?_⟩
          -- script[at] >= 10 ** 18 and left > 0
          have lst : ∀ x : Int, 0 ≤ x → x < 4294967279 → Q (.int ((x / 64 * 69621 + x) % 4294967231 / 8 % lim)) H2 := fun x _ _ => fin _ _ (Int.emod_nonneg _ (by omega)) (Int.emod_lt_of_pos _ l0) fr2 tw2
          refine ⟨_, rfl, _, rfl, sa, _, _, _, rfl, rfl, s2, e6, 10, 18, rfl, rfl, ⟨by decide, by decide, by decide⟩, _, _, rfl, rfl, _, rfl, ite2 (fun _ => ⟨_, rfl, _, 0, rfl, rfl, _, rfl, ite2 (fun hle => ?pos) (fun _ => ?neg1)⟩) (fun _ => ?neg2)⟩
          case pos =>
            refine ⟨_, rfl, _, rfl, _, lim, rfl, rfl, wide_div l0 (small_of (Int.le_of_lt l0) l1) (by decide) (by decide), _, rfl, _, rfl, 1, (at' : Int), rfl, rfl, t, _, _, at' + 1, rfl, rfl, ht2, ?_, ?_⟩
            · rw [show (1 + (at' : Int)) = ((at' + 1 : Nat) : Int) by omega]
              unfold ixN
              rw [if_pos (by omega), if_pos (by rw [List.length_map, List.length_cons]; omega)]
              rfl
            · refine ⟨_, rfl, _, rfl, _, lim, rfl, rfl, l0, ?_⟩
              have em : ((((c.2.1 + 1 : Nat) : Int) :: ts).map V.int).set (at' + 1) (.int (ts[at'] / lim)) = (((c.2.1 + 1 : Nat) : Int) :: ts.set at' (ts[at'] / lim)).map V.int := by simp [List.map_set]
              rw [em]
              exact fin _ _ (Int.emod_nonneg _ (by omega)) (Int.emod_lt_of_pos _ l0) (fr2.trans (frT_town ht2)) (tw_town (c' := (c.1, c.2.1 + 1, c.2.2)) tw2 ht2 rfl (by rw [List.length_set]; exact hts))
          all_goals
            refine ⟨_, rfl, _, rfl, sa, _, _, _, rfl, rfl, s2, e6, _, rfl, t, _, 0, _, rfl, rfl, SqL.of ht2, e2, 104729, _, rfl, rfl, .inl ⟨by decide, by decide⟩, _, _, rfl, rfl, _, 4294967291, rfl, rfl, (by show (0 : Int) < 4294967291; decide), ?_⟩
            dsimp only
            generalize hx : ((n0 :: nr)[at'] + 104729 * ((c.2.1 + 1 : Nat) : Int)) % 4294967291 = x
            have x0 : 0 ≤ x := by rw [← hx]; exact Int.emod_nonneg _ (by decide)
            have x1 : x < 4294967291 := by rw [← hx]; exact Int.emod_lt_of_pos _ (by decide)
            refine ⟨_, rfl, x, 5, rfl, rfl, ⟨by decide, by decide, by omega⟩, _, 4294967279, rfl, rfl, (by show (0 : Int) < 4294967279; decide), ?_⟩
            dsimp only
            generalize hy : x ^ (5 : Int).toNat % 4294967279 = y
            have y0 : 0 ≤ y := by rw [← hy]; exact Int.emod_nonneg _ (by decide)
            have y1 : y < 4294967279 := by rw [← hy]; exact Int.emod_lt_of_pos _ (by decide)
            exact ⟨_, rfl, y, 64, rfl, rfl, ⟨by decide, by decide⟩, _, 69621, rfl, rfl, .inr ⟨by decide, by decide⟩, _, rfl, _, y, rfl, rfl, _, 4294967231, rfl, rfl, (by show (0 : Int) < 4294967231; decide), _, 8, rfl, rfl, ⟨by decide, by decide⟩, _, rfl, _, lim, rfl, rfl, l0, lst y y0 y1⟩
    · exact hF.elim

end
def F_law_pick : FT := fun es c k => match es with
  | [.sc ss, .tw, .ro xs] => (∃ ns : List Int, ss = ns.map PyData.int ∧ ns.length = c.1) ∧ 0 < xs.length ∧ xs.length ≤ 100000 ∧ c.2.1 < 1000000 ∧ ∀ d ∈ xs, k (.im d) (c.1, c.2.1 + 1, c.2.2)
  | [.sc ss, .tw, .im (.tuple xs)] => (∃ ns : List Int, ss = ns.map PyData.int ∧ ns.length = c.1) ∧ 0 < xs.length ∧ xs.length ≤ 100000 ∧ c.2.1 < 1000000 ∧ ∀ d ∈ xs, k (.im d) (c.1, c.2.1 + 1, c.2.2)
  | _ => False
theorem pick_at {xs : List PyData} {r : Int} {k : PyData → Prop} (h0 : 0 ≤ r) (h1 : r < (xs.length : Int)) (h : ∀ d ∈ xs, k d) : match atI xs r with | some d => k d | none => False := by
  obtain ⟨j, rfl⟩ : ∃ j : Nat, r = j := ⟨r.toNat, by omega⟩
  have hj : j < xs.length := by omega
  rw [atI_nat (List.getElem?_eq_getElem hj)]
  exact h _ (List.getElem_mem hj)
theorem len_lt {n : Nat} (h : n ≤ 100000) : (n : Int) < 2 ^ 200 := by
  have : (100000 : Int) < 2 ^ 200 := by decide
  omega

section
variable {P : Program} {w : World} {K : PySem.W.Frag} {mg : Str → Option Value} {base : Heap}
theorem ok_law_pick (T : Txt K mg) : FnOk P w K mg base CX0 2 T.a_law_pick T.d_law_pick ["script", "town", "choices"] (spD K F_law_pick) := by
  have G_law_draw := ok_law_draw (P := P) (w := w) (base := base) T
  refine fnD T.F_law_pick sc_law_pick (fun es c k h => ?_) (fun cdv A outer s H E hr => (ds_one (ds_ret (de_ix (de_var 2) (de_call G_law_draw (hr.mono (by decide)) (by rfl) T.g_law_draw T.F_law_draw.kp (b_law_draw T) (da_cons (de_var 0) (da_cons (de_var 1) (da_cons (de_cb cd_len (by rfl) T.m_len (by decide +kernel) (da_cons (de_var 2) da_nil)) da_nil)))) (fun _ _ => rfl))))) (fun es c k h => ?_)
  · unfold F_law_pick at h
    split at h <;> first | rfl | exact h.elim
  · unfold F_law_pick at h
    split at h
    · obtain ⟨h1, h2, h3, h4, h⟩ := h
      exact ⟨h1, Int.natCast_pos.mpr h2, len_lt h3, h4, fun r r0 r1 => pick_at (k := fun d => retE _ (.im d) _) r0 r1 h⟩
    · obtain ⟨h1, h2, h3, h4, h⟩ := h
      exact ⟨h1, Int.natCast_pos.mpr h2, len_lt h3, h4, fun r r0 r1 => pick_at (k := fun d => retE _ (.im d) _) r0 r1 h⟩
    · exact h.elim
end
/-- a caught exception's place among the classes -/
def spNm (K : PySem.W.Frag) (ca : Nat → Addr) : Sp := fun vs H Q _ => ∃ (a : Addr) (j : Nat), vs = [.ref a] ∧ j < 9 ∧ H a = some (ExT (.ref (ca j)) a) ∧ ∀ H', SameN H H' → Q (.int (j : Nat)) H'
abbrev rIsT (K : PySem.W.Frag) : List V → Hp → VK → Prop := fun xs H Q => ∃ (D a : Addr) (c : V) (cv : Value) (b : Bool), ExcC K D ∧ xs = [.ref a, c] ∧ H a = some (ExT (.ref D) a) ∧ (∀ u, RelV c u → u = cv) ∧ PySem.W.kitOne K (.ref D) cv = some b ∧ Q (.bl b) H
abbrev tIs (K : PySem.W.Frag) (c : Addr) : TE := tCB (rIsT K) (tCons (tVar 0) (tCons (tC (.ref c)) tNil))
theorem same_trans {A B C : Hp} (a : SameN A B) (b : SameN B C) : SameN A C := ⟨fun x o h => b.sm x o (a.sm x o h), fun x C dx fs h => a.ni x C dx fs (b.ni x C dx fs h)⟩
/-- the exception at a of the class D, and the list of bools at l -/
structure NmI (K : PySem.W.Frag) (D a l : Addr) (bs : List Bool) (H0 H : Hp) : Prop where
  ec : ExcC K D
  ex : H a = some (ExT (.ref D) a)
  ls : H l = some (.lst (bs.map V.bl))
  sm : SameN H0 H
  sz : bs.length ≤ 20
theorem is_rd {K : PySem.W.Frag} {D a c : Addr} {b : Bool} {σ : SS} {H : Hp} {Q : VK} (hC : ExcC K D) (ha : H a = some (ExT (.ref D) a)) (hσ : σ[0]? = some (some (.ref a))) (e : PySem.W.kitOne K (.ref D) (.ref c) = some b) (q : Q (.bl b) H) : tIs K c σ H Q :=
  ⟨.ref a, hσ, D, a, .ref c, .ref c, b, hC, rfl, ha, fun u h => h, e, q⟩
theorem nm_add2 {K : PySem.W.Frag} {D a l c1 c2 : Addr} {b1 b2 : Bool} {bs : List Bool} {H0 H : Hp} {E : Ends} (I : NmI K D a l bs H0 H) (e1 : PySem.W.kitOne K (.ref D) (.ref c1) = some b1) (e2 : PySem.W.kitOne K (.ref D) (.ref c2) = some b2) (hz : bs.length ≤ 18)
    (q : ∀ l' H', NmI K D a l' (bs ++ [b1, b2]) H0 H' → E.nx [some (.ref a), some (.ref l')] H') : tAsg (tOp rCat (tVar 1) (tLst (tCons (tIs K c1) (tCons (tIs K c2) tNil)))) (gName 1) E [some (.ref a), some (.ref l)] H := by
  have nl := sizeLine_eq
  refine ⟨.ref l, rfl, is_rd I.ec I.ex rfl e1 (is_rd I.ec I.ex rfl e2 ⟨by show 2 ≤ sizeLine; omega, fun p hp => ?_⟩)⟩
  have s1 := same_upd (o := HO.lst [.bl b1, .bl b2]) hp
  refine ⟨l, p, bs.map V.bl, [.bl b1, .bl b2], rfl, rfl, s1.sm _ _ I.ls, upd_same, by rw [List.length_map]; show bs.length + 2 ≤ sizeLine; omega, fun p2 hp2 => ?_⟩
  have s2 := same_upd (o := HO.lst (bs.map V.bl ++ [.bl b1, .bl b2])) hp2
  exact q p2 _ ⟨I.ec, s2.sm _ _ (s1.sm _ _ I.ex), by rw [upd_same, List.map_append]; rfl, same_trans I.sm (same_trans s1 s2), by rw [List.length_append]; show bs.length + 2 ≤ 20; omega⟩
theorem nm_add1 {K : PySem.W.Frag} {D a l c1 : Addr} {b1 : Bool} {bs : List Bool} {H0 H : Hp} {E : Ends} (I : NmI K D a l bs H0 H) (e1 : PySem.W.kitOne K (.ref D) (.ref c1) = some b1) (hz : bs.length ≤ 18)
    (q : ∀ l' H', NmI K D a l' (bs ++ [b1]) H0 H' → E.nx [some (.ref a), some (.ref l')] H') : tAsg (tOp rCat (tVar 1) (tLst (tCons (tIs K c1) tNil))) (gName 1) E [some (.ref a), some (.ref l)] H := by
  have nl := sizeLine_eq
  refine ⟨.ref l, rfl, is_rd I.ec I.ex rfl e1 ⟨by show 1 ≤ sizeLine; omega, fun p hp => ?_⟩⟩
  have s1 := same_upd (o := HO.lst [.bl b1]) hp
  refine ⟨l, p, bs.map V.bl, [.bl b1], rfl, rfl, s1.sm _ _ I.ls, upd_same, by rw [List.length_map]; show bs.length + 1 ≤ sizeLine; omega, fun p2 hp2 => ?_⟩
  have s2 := same_upd (o := HO.lst (bs.map V.bl ++ [.bl b1])) hp2
  exact q p2 _ ⟨I.ec, s2.sm _ _ (s1.sm _ _ I.ex), by rw [upd_same, List.map_append]; rfl, same_trans I.sm (same_trans s1 s2), by rw [List.length_append]; show bs.length + 1 ≤ 20; omega⟩
/-- nine bools, one of them true -/
def at9 (j : Nat) : List Bool := [decide (j = 0), decide (j = 1), decide (j = 2), decide (j = 3), decide (j = 4), decide (j = 5), decide (j = 6), decide (j = 7), decide (j = 8)]
theorem at9_cnt : ∀ j : Fin 9, (at9 j.val).count true = 1 ∧ (at9 j.val)[j.val]? = some true ∧ ∀ m : Fin 9, m.val < j.val → (at9 j.val)[m.val]? = some false := by decide
theorem dpAll_bls {K : PySem.W.Frag} {H : Hp} : ∀ bs : List Bool, DpAll K H (bs.map V.bl) (bs.map PyData.bool)
  | [] => .nil
  | b :: bs => .cons (.bl b) (dpAll_bls bs)

section
variable {P : Program} {w : World} {K : PySem.W.Frag} {mg : Str → Option Value} {base : Heap}
theorem ok_law_name (T : Txt K mg) : FnOk P w K mg base CX0 1 T.a_law_name T.d_law_name ["caught"] (spNm K T.ca) := by
  refine T.F_law_name.ok sc_law_name (fun vs H Q E h => ?_) (fun cdv A outer s H vs Q E hr h => ?_)
  · obtain ⟨a, j, rfl, _⟩ := h
    rfl
  · obtain ⟨a, j, rfl, hj, ha, q⟩ := h
    refine ⟨_, (pss_cons (ps_if (pt_not (pt_val (pe_callB call_isT (by rfl) T.m_isinstance (by decide +kernel) (pa_cons (pv 0) (pa_cons (pe_bltn (v := .ty "ValueError") (by rfl) T.m_ValueError (by decide +kernel) rfl) pa_nil))))) (pss_one (ps_ret (pe_un un_neg pe_int))) pss_nil)
      (pss_cons (ps_set (i := 1) sc_law_name.nd rfl (by first | exact Or.inl rfl | exact Or.inr rfl) (pe_lst (pa_cons (pe_callB call_isT (by rfl) T.m_isinstance (by decide +kernel) (pa_cons (pv 0) (pa_cons (pe_glob (v := .ref T.c_InvalidRoot) (by rfl) T.g_InvalidRoot rfl) pa_nil))) (pa_cons (pe_callB call_isT (by rfl) T.m_isinstance (by decide +kernel) (pa_cons (pv 0) (pa_cons (pe_glob (v := .ref T.c_InvalidNorm) (by rfl) T.g_InvalidNorm rfl) pa_nil))) pa_nil))))
      (pss_cons (ps_set (i := 1) sc_law_name.nd rfl (by first | exact Or.inl rfl | exact Or.inr rfl) (pe_op op_cat (pv 1) (pe_lst (pa_cons (pe_callB call_isT (by rfl) T.m_isinstance (by decide +kernel) (pa_cons (pv 0) (pa_cons (pe_glob (v := .ref T.c_InvalidPair) (by rfl) T.g_InvalidPair rfl) pa_nil))) (pa_cons (pe_callB call_isT (by rfl) T.m_isinstance (by decide +kernel) (pa_cons (pv 0) (pa_cons (pe_glob (v := .ref T.c_InvalidNumber) (by rfl) T.g_InvalidNumber rfl) pa_nil))) pa_nil)))))
      (pss_cons (ps_set (i := 1) sc_law_name.nd rfl (by first | exact Or.inl rfl | exact Or.inr rfl) (pe_op op_cat (pv 1) (pe_lst (pa_cons (pe_callB call_isT (by rfl) T.m_isinstance (by decide +kernel) (pa_cons (pv 0) (pa_cons (pe_glob (v := .ref T.c_InvalidModulus) (by rfl) T.g_InvalidModulus rfl) pa_nil))) (pa_cons (pe_callB call_isT (by rfl) T.m_isinstance (by decide +kernel) (pa_cons (pv 0) (pa_cons (pe_glob (v := .ref T.c_InvalidRests) (by rfl) T.g_InvalidRests rfl) pa_nil))) pa_nil)))))
      (pss_cons (ps_set (i := 1) sc_law_name.nd rfl (by first | exact Or.inl rfl | exact Or.inr rfl) (pe_op op_cat (pv 1) (pe_lst (pa_cons (pe_callB call_isT (by rfl) T.m_isinstance (by decide +kernel) (pa_cons (pv 0) (pa_cons (pe_glob (v := .ref T.c_InvalidText) (by rfl) T.g_InvalidText rfl) pa_nil))) (pa_cons (pe_callB call_isT (by rfl) T.m_isinstance (by decide +kernel) (pa_cons (pv 0) (pa_cons (pe_glob (v := .ref T.c_NoSolution) (by rfl) T.g_NoSolution rfl) pa_nil))) pa_nil)))))
      (pss_cons (ps_set (i := 1) sc_law_name.nd rfl (by first | exact Or.inl rfl | exact Or.inr rfl) (pe_op op_cat (pv 1) (pe_lst (pa_cons (pe_callB call_isT (by rfl) T.m_isinstance (by decide +kernel) (pa_cons (pv 0) (pa_cons (pe_glob (v := .ref T.c_NothingToUndo) (by rfl) T.g_NothingToUndo rfl) pa_nil))) pa_nil))))
      (pss_one (ps_ret (pe_ifExp (pt_cmpR op_eq (pe_bm PySem.F.plainAttrs_list PySem.F.slot_list_count PySem.F.type_list_count mt_cntB (pv 1) (pa_cons pe_bl pa_nil)) pe_int (nomark _)) (pe_bm PySem.F.plainAttrs_list PySem.F.slot_list_index PySem.F.type_list_index (mt_indexD (hu65 hr)) (pv 1) (pa_cons pe_bl pa_nil)) (pe_un un_neg pe_int)))))))))), ?_⟩
    have key : ExcC K (T.ca j) ∧ PySem.W.kitOne K (.ref (T.ca j)) (.type "ValueError") = some true ∧ PySem.W.kitOne K (.ref (T.ca j)) (.ref T.c_InvalidRoot) = some (decide (j = 0)) ∧ PySem.W.kitOne K (.ref (T.ca j)) (.ref T.c_InvalidNorm) = some (decide (j = 1)) ∧ PySem.W.kitOne K (.ref (T.ca j)) (.ref T.c_InvalidPair) = some (decide (j = 2)) ∧ PySem.W.kitOne K (.ref (T.ca j)) (.ref T.c_InvalidNumber) = some (decide (j = 3)) ∧ PySem.W.kitOne K (.ref (T.ca j)) (.ref T.c_InvalidModulus) = some (decide (j = 4)) ∧ PySem.W.kitOne K (.ref (T.ca j)) (.ref T.c_InvalidRests) = some (decide (j = 5)) ∧ PySem.W.kitOne K (.ref (T.ca j)) (.ref T.c_InvalidText) = some (decide (j = 6)) ∧ PySem.W.kitOne K (.ref (T.ca j)) (.ref T.c_NoSolution) = some (decide (j = 7)) ∧ PySem.W.kitOne K (.ref (T.ca j)) (.ref T.c_NothingToUndo) = some (decide (j = 8)) := by
      match j, hj with
      | 0, _ => exact ⟨T.e_InvalidRoot, T.v_InvalidRoot, T.i_InvalidRoot_InvalidRoot, T.i_InvalidRoot_InvalidNorm, T.i_InvalidRoot_InvalidPair, T.i_InvalidRoot_InvalidNumber, T.i_InvalidRoot_InvalidModulus, T.i_InvalidRoot_InvalidRests, T.i_InvalidRoot_InvalidText, T.i_InvalidRoot_NoSolution, T.i_InvalidRoot_NothingToUndo⟩
      | 1, _ => exact ⟨T.e_InvalidNorm, T.v_InvalidNorm, T.i_InvalidNorm_InvalidRoot, T.i_InvalidNorm_InvalidNorm, T.i_InvalidNorm_InvalidPair, T.i_InvalidNorm_InvalidNumber, T.i_InvalidNorm_InvalidModulus, T.i_InvalidNorm_InvalidRests, T.i_InvalidNorm_InvalidText, T.i_InvalidNorm_NoSolution, T.i_InvalidNorm_NothingToUndo⟩
      | 2, _ => exact ⟨T.e_InvalidPair, T.v_InvalidPair, T.i_InvalidPair_InvalidRoot, T.i_InvalidPair_InvalidNorm, T.i_InvalidPair_InvalidPair, T.i_InvalidPair_InvalidNumber, T.i_InvalidPair_InvalidModulus, T.i_InvalidPair_InvalidRests, T.i_InvalidPair_InvalidText, T.i_InvalidPair_NoSolution, T.i_InvalidPair_NothingToUndo⟩
      | 3, _ => exact ⟨T.e_InvalidNumber, T.v_InvalidNumber, T.i_InvalidNumber_InvalidRoot, T.i_InvalidNumber_InvalidNorm, T.i_InvalidNumber_InvalidPair, T.i_InvalidNumber_InvalidNumber, T.i_InvalidNumber_InvalidModulus, T.i_InvalidNumber_InvalidRests, T.i_InvalidNumber_InvalidText, T.i_InvalidNumber_NoSolution, T.i_InvalidNumber_NothingToUndo⟩
      | 4, _ => exact ⟨T.e_InvalidModulus, T.v_InvalidModulus, T.i_InvalidModulus_InvalidRoot, T.i_InvalidModulus_InvalidNorm, T.i_InvalidModulus_InvalidPair, T.i_InvalidModulus_InvalidNumber, T.i_InvalidModulus_InvalidModulus, T.i_InvalidModulus_InvalidRests, T.i_InvalidModulus_InvalidText, T.i_InvalidModulus_NoSolution, T.i_InvalidModulus_NothingToUndo⟩
      | 5, _ => exact ⟨T.e_InvalidRests, T.v_InvalidRests, T.i_InvalidRests_InvalidRoot, T.i_InvalidRests_InvalidNorm, T.i_InvalidRests_InvalidPair, T.i_InvalidRests_InvalidNumber, T.i_InvalidRests_InvalidModulus, T.i_InvalidRests_InvalidRests, T.i_InvalidRests_InvalidText, T.i_InvalidRests_NoSolution, T.i_InvalidRests_NothingToUndo⟩
      | 6, _ => exact ⟨T.e_InvalidText, T.v_InvalidText, T.i_InvalidText_InvalidRoot, T.i_InvalidText_InvalidNorm, T.i_InvalidText_InvalidPair, T.i_InvalidText_InvalidNumber, T.i_InvalidText_InvalidModulus, T.i_InvalidText_InvalidRests, T.i_InvalidText_InvalidText, T.i_InvalidText_NoSolution, T.i_InvalidText_NothingToUndo⟩
      | 7, _ => exact ⟨T.e_NoSolution, T.v_NoSolution, T.i_NoSolution_InvalidRoot, T.i_NoSolution_InvalidNorm, T.i_NoSolution_InvalidPair, T.i_NoSolution_InvalidNumber, T.i_NoSolution_InvalidModulus, T.i_NoSolution_InvalidRests, T.i_NoSolution_InvalidText, T.i_NoSolution_NoSolution, T.i_NoSolution_NothingToUndo⟩
      | 8, _ => exact ⟨T.e_NothingToUndo, T.v_NothingToUndo, T.i_NothingToUndo_InvalidRoot, T.i_NothingToUndo_InvalidNorm, T.i_NothingToUndo_InvalidPair, T.i_NothingToUndo_InvalidNumber, T.i_NothingToUndo_InvalidModulus, T.i_NothingToUndo_InvalidRests, T.i_NothingToUndo_InvalidText, T.i_NothingToUndo_NoSolution, T.i_NothingToUndo_NothingToUndo⟩
    obtain ⟨ec, kv, k0, k1, k2, k3, k4, k5, k6, k7, k8⟩ := key
    have nl := sizeLine_eq
    refine ⟨.ref a, rfl, _, a, .ty "ValueError", .type "ValueError", true, ec, rfl, ha, fun u h => h, kv, true, rfl, ?_⟩
    refine ifF (b := !true) rfl ?_
    show tSeq (tAsg (tLst (tCons (tIs K T.c_InvalidRoot) (tCons (tIs K T.c_InvalidNorm) tNil))) (gName 1)) _ _ [some (.ref a), none] H
    refine is_rd ec ha rfl k0 (is_rd ec ha rfl k1 ⟨by show 2 ≤ sizeLine; omega, fun p hp => ?_⟩)
    have s1 := same_upd (o := HO.lst [.bl (decide (j = 0)), .bl (decide (j = 1))]) hp
    refine nm_add2 (l := p) (bs := [decide (j = 0), decide (j = 1)]) ⟨ec, s1.sm _ _ ha, upd_same, s1, by simp⟩ k2 k3 (by simp) fun l1 H1 I1 => ?_
    refine nm_add2 I1 k4 k5 (by simp) fun l2 H2 I2 => ?_
    refine nm_add2 I2 k6 k7 (by simp) fun l3 H3 I3 => ?_
    refine nm_add1 I3 k8 (by simp) fun l4 H4 I4 => ?_
    have hl : H4 l4 = some (.lst ((at9 j).map V.bl)) := I4.ls
    obtain ⟨c1, c2, c3⟩ := at9_cnt ⟨j, hj⟩
    have c1 : (at9 j).count true = 1 := c1
    refine ⟨.ref l4, rfl, .inl ⟨rfl, _, .inl (.inl hl)⟩, l4, at9 j, rfl, rfl, .inl (.inl hl), ?_⟩
    rw [c1]
    refine ⟨rfl, true, rfl, ?_⟩
    refine ifT (b := true) rfl ?_
    have dl : Dp K H4 (V.ref l4) (.list ((at9 j).map PyData.bool)) := .lst (.inl (.inl hl)) (dpAll_bls _)
    have sl : SeqAt.shaped (.list ((at9 j).map PyData.bool)) = true := (nice_list (n := 0) fun z hz => by
      obtain ⟨b, _, rfl⟩ := List.mem_map.mp hz
      exact nice_bool 0 b).shp (by decide)
    refine ⟨.ref l4, rfl, .inl ⟨rfl, _, .inl (.inl hl)⟩, l4, .bl true, .bool true, (at9 j).map PyData.bool, j, .bool true, rfl, rfl, dl, .bl true, sl, shp_bool true, ?_, rfl, fun m z hm hz => ?_, q _ I4.sm⟩
    · rw [List.getElem?_map]
      have c2 : (at9 j)[j]? = some true := c2
      rw [c2]
      rfl
    · rw [List.getElem?_map] at hz
      have c3 := c3 ⟨m, by omega⟩ hm
      have c3 : (at9 j)[m]? = some false := c3
      rw [c3] at hz
      cases hz
      rfl

end
def rnames : List Str := ["root", "norm", "pair", "number", "modulus", "rests", "text", "none", "undo"]
def F_law_raises : FT := fun es c k => match es with
  | [.im (.str s)] => ∃ j : Nat, rnames[j]? = some s ∧ k (.im (.tuple [.str "raised", .int (j : Nat)])) c
  | _ => False
theorem rn_lay : ∀ s ∈ rnames, (PyData.str s).canLay0 = true := by decide +kernel
theorem rn_neF : ∀ m j : Fin 9, m.val < j.val → ((rnames.getD m.val "") == (rnames.getD j.val "")) = false := by decide +kernel
theorem rn_ne (m j : Nat) (h : m < j) {r s : Str} (h1 : rnames[m]? = some r) (h2 : rnames[j]? = some s) : (r == s) = false := by
  have lj : j < 9 := (List.getElem?_eq_some_iff.mp h2).1
  have := rn_neF ⟨m, by omega⟩ ⟨j, lj⟩ h
  simpa [List.getD_eq_getElem?_getD, h1, h2] using this

section
variable {P : Program} {w : World} {K : PySem.W.Frag} {mg : Str → Option Value} {base : Heap}
theorem ok_law_raises (T : Txt K mg) : FnOk P w K mg base CX0 1 T.a_law_raises T.d_law_raises ["name"] (spD K F_law_raises) := by
  refine fnD T.F_law_raises sc_law_raises (fun es c k h => ?_) (fun cdv A outer s H E hr => (ds_cons (ds_set (i := 1) sc_law_raises.nd rfl (by first | exact Or.inl rfl | exact Or.inr rfl) (de_lst (da_cons de_str (da_cons de_str (da_cons de_str (da_cons de_str (da_cons de_str da_nil)))))))
  (ds_cons (ds_set (i := 1) sc_law_raises.nd rfl (by first | exact Or.inl rfl | exact Or.inr rfl) (de_op od_add (de_var 1) (de_lst (da_cons de_str (da_cons de_str (da_cons de_str (da_cons de_str da_nil)))))))
  (ds_one (ds_ret (de_tup (da_cons de_str (da_cons (de_mt (by decide) (pe_bm PySem.F.plainAttrs_list PySem.F.slot_list_index PySem.F.type_list_index (md_index (hu65 hr)) (de_var 1) (da_cons (de_var 0) da_nil))) da_nil)))))))) (fun es c k h => ?_)
  · unfold F_law_raises at h
    split at h <;> first | rfl | exact h.elim
  · unfold F_law_raises at h
    split at h
    · rename_i s
      obtain ⟨j, hj, h⟩ := h
      refine ⟨(by decide : (5 : Nat) ≤ 100000), (by decide : (4 : Nat) ≤ 100000), (by decide : (5 : Nat) + 4 ≤ 100000), ?_⟩
      dsimp only [putE]
      have ez : (rnames.map PyData.str)[j]? = some (.str s) := by rw [List.getElem?_map, hj]; rfl
      refine ⟨rfl, ?_, shp_str (rn_lay s (List.mem_of_getElem? hj)), j, .str s, ez, by rw [eqv_str, beq_self_eq_true], fun m z hm hz => ?_, (by decide : (2 : Nat) ≤ 100000), h⟩
      · show Shp (.list (rnames.map PyData.str))
        refine (nice_list (n := 0) fun z hz => ?_).shp (by decide)
        obtain ⟨r, hr, rfl⟩ := List.mem_map.mp hz
        exact nice_str 0 (rn_lay r hr)
      · have hz : (rnames.map PyData.str)[m]? = some z := hz
        rw [List.getElem?_map] at hz
        cases er : rnames[m]? with
        | none => rw [er] at hz; cases hz
        | some r =>
          rw [er] at hz
          cases hz
          rw [eqv_str]
          exact rn_ne m j hm er hj
    · exact h.elim
end
def F_law_d : FT := fun es c k => match es with
  | [.sc ss, .tw] => (∃ ns : List Int, ss = ns.map PyData.int ∧ ns.length = c.1) ∧ c.2.1 < 1000000 ∧ ∀ d, rootD d = true → k (.im (.int d)) (c.1, c.2.1 + 1, c.2.2)
  | _ => False
def sqs : List PyData := [.int 0, .int 1, .int 4, .int 9, .int 16, .int 25, .int 36, .int 49]
def notSq : PyData → Bool := fun x => !(sqs.any fun z => PyData.eqv z x)
def nsq (i : Int) : Bool := !(decide (0 = i) || (decide (1 = i) || (decide (4 = i) || (decide (9 = i) || (decide (16 = i) || (decide (25 = i) || (decide (36 = i) || (decide (49 = i) || false))))))))
theorem notSq_int (i : Int) : notSq (.int i) = nsq i := by
  simp only [notSq, sqs, List.any_cons, List.any_nil, eqv_int, nsq]
theorem nsq_root : ∀ i : Fin 59, nsq (2 + (i.val : Nat)) = rootD (2 + (i.val : Nat)) := by decide +kernel
theorem ds_val : ∀ d ∈ ((rng 2 59).filter notSq).map id, ∃ i, d = .int i ∧ rootD i = true := by
  intro d hd
  rw [List.map_id] at hd
  obtain ⟨h1, h2⟩ := List.mem_filter.mp hd
  obtain ⟨i, hi, rfl⟩ := mem_rng h1
  refine ⟨_, rfl, ?_⟩
  rw [notSq_int, nsq_root ⟨i, hi⟩] at h2
  exact h2
theorem ds_len : 0 < (((rng 2 59).filter notSq).map id).length := by
  rw [List.map_id]
  have h : PyData.int (2 + ((0 : Nat) : Int)) ∈ (rng 2 59).filter notSq := List.mem_filter.mpr ⟨List.mem_map.mpr ⟨0, List.mem_range.mpr (by decide), rfl⟩, by rw [notSq_int]; decide⟩
  exact List.length_pos_of_mem h
theorem ds_len2 : (((rng 2 59).filter notSq).map id).length ≤ 100000 := by
  rw [List.length_map]
  exact Nat.le_trans (List.length_filter_le _ _) (by rw [len_rng]; decide)
theorem nice_sqs : Shp (.list sqs) := (nice_ints [0, 1, 4, 9, 16, 25, 36, 49]).shp (by decide)
theorem sqs_eq : (((rng 0 8).filter fun _ => true).map fun x => match x with | .int i => .int (i * i) | y => y) = sqs := by rfl

section
variable {P : Program} {w : World} {K : PySem.W.Frag} {mg : Str → Option Value} {base : Heap}
theorem ok_law_d (T : Txt K mg) : FnOk P w K mg base CX0 3 T.a_law_d T.d_law_d ["script", "town"] (spD K F_law_d) := by
  have G_law_pick := ok_law_pick (P := P) (w := w) (base := base) T
  refine fnD T.F_law_d sc_law_d (fun es c k h => ?_) (fun cdv A outer s H E hr => (ds_cons (ds_set (i := 2) sc_law_d.nd rfl (by first | exact Or.inl rfl | exact Or.inr rfl) (de_lc (own := [("k", 3)]) rfl sc_law_d.nd (dic_r1 (by rfl) T.m_range (da_cons de_int da_nil)) (blkOk_by (N := ["script", "town", "squares", "k", "d"]) (sc := defScope s_law_d) (by decide +kernel)) (fun _ _ _ _ _ => (dg_name (i := 3) sc_law_d.nd rfl (by first | exact Or.inl rfl | exact Or.inr rfl))) (fun _ _ _ _ _ => dts_nil) (fun _ _ _ _ _ => (de_op od_mul (de_var 3) (de_var 3)))))
  (ds_one (ds_ret (de_call G_law_pick (hr.mono (by decide)) (by rfl) T.g_law_pick T.F_law_pick.kp (b_law_pick T) (da_cons (de_var 0) (da_cons (de_var 1) (da_cons (de_lc (own := [("d", 4)]) rfl sc_law_d.nd (dic_r2 (by rfl) T.m_range (da_cons de_int (da_cons de_int da_nil))) (blkOk_by (N := ["script", "town", "squares", "k", "d"]) (sc := defScope s_law_d) (by decide +kernel)) (fun _ _ _ _ _ => (dg_name (i := 4) sc_law_d.nd rfl (by first | exact Or.inl rfl | exact Or.inr rfl))) (fun _ _ _ _ _ => (dts_one (dt_cmp (od_notin (hu65 hr)) (de_var 4) (de_var 2) (by rfl)))) (fun _ _ _ _ _ => (de_var 4))) da_nil)))))))) (fun es c k h => ?_)
  · unfold F_law_d at h
    split at h <;> first | rfl | exact h.elim
  · unfold F_law_d at h
    split at h
    · obtain ⟨h1, h2, h⟩ := h
      refine ⟨by decide, lc_fun (fun _ => true) (fun x => match x with | .int i => .int (i * i) | y => y) _ _ (fun x hx => ?_) (by rw [len_rng]; decide) ?_⟩
      · obtain ⟨i, hi, rfl⟩ := mem_rng hx
        refine ⟨_, fun q hq => hq, fun q hq => hq, fun _ q hq => ?_⟩
        have b : Bd 4 (0 + (i : Int)) := by
          have : i < 8 := hi
          unfold Bd
          omega
        exact ⟨b.mulW b (by decide), hq⟩
      · rw [List.nil_append, show (8 : Int).toNat = 8 from rfl, sqs_eq]
        refine ⟨by decide, lc_fun notSq id _ _ (fun x hx => ?_) (by rw [len_rng]; decide) ?_⟩
        · obtain ⟨i, hi, rfl⟩ := mem_rng hx
          exact ⟨_, fun q hq => hq, fun q hq => ⟨shp_int _, nice_sqs, hq⟩, fun _ q hq => hq⟩
        · refine ⟨h1, ds_len, ds_len2, h2, fun d hd => ?_⟩
          obtain ⟨i, rfl, hr⟩ := ds_val d hd
          exact h i hr
    · exact h.elim
end
def F_law_n : FT := fun es c k => match es with
  | [.sc ss, .tw, .im (.int d)] => (∃ ns : List Int, ss = ns.map PyData.int ∧ ns.length = c.1) ∧ c.2.1 < 900000 ∧ rootD d = true ∧ ∀ (n : Int) (m : Nat), norOk n = true → c.2.1 ≤ m → m ≤ c.2.1 + 4 → k (.im (.int n)) (c.1, m, c.2.2)
  | _ => False
section
variable {P : Program} {w : World} {K : PySem.W.Frag} {mg : Str → Option Value} {base : Heap}
theorem ok_law_n (T : Txt K mg) : FnOk P w K mg base CX0 2 T.a_law_n T.d_law_n ["script", "town", "d"] (spD K F_law_n) := by
  have G_law_draw := ok_law_draw (P := P) (w := w) (base := base) T
  refine fnD T.F_law_n sc_law_n (fun es c k h => ?_) (fun cdv A outer s H E hr => (ds_cons (ds_par (ps_par rfl sc_law_n.nd (i := 3) (j := 4) rfl rfl (by decide) rfl rfl (da_cons (de_call G_law_draw (hr.mono (by decide)) (by rfl) T.g_law_draw T.F_law_draw.kp (b_law_draw T) (da_cons (de_var 0) (da_cons (de_var 1) (da_cons de_int da_nil)))) (da_cons (de_call G_law_draw (hr.mono (by decide)) (by rfl) T.g_law_draw T.F_law_draw.kp (b_law_draw T) (da_cons (de_var 0) (da_cons (de_var 1) (da_cons de_int da_nil)))) da_nil)) rfl))
  (ds_cons (ds_set (i := 5) sc_law_n.nd rfl (by first | exact Or.inl rfl | exact Or.inr rfl) (de_op od_sub (de_op od_mul (de_var 3) (de_var 3)) (de_op od_mul (de_op od_mul (de_var 2) (de_var 4)) (de_var 4))))
  (ds_cons (ds_if (PW.pt (dw_and (dt_cmp od_gt (de_call G_law_draw (hr.mono (by decide)) (by rfl) T.g_law_draw T.F_law_draw.kp (b_law_draw T) (da_cons (de_var 0) (da_cons (de_var 1) (da_cons de_int da_nil)))) de_int (nomark _)) (dw_and (dt_cmp (od_ne hr.units) (de_var 5) de_int (nomark _)) (dw_and1 (dt_chain od_le od_le (de_un ud_neg de_int) (de_var 5) de_int)))))
    (ds_one (ds_retv 5))
    ds_nil)
  (ds_cons (ds_set (i := 5) sc_law_n.nd rfl (by first | exact Or.inl rfl | exact Or.inr rfl) (de_op od_sub (de_call G_law_draw (hr.mono (by decide)) (by rfl) T.g_law_draw T.F_law_draw.kp (b_law_draw T) (da_cons (de_var 0) (da_cons (de_var 1) (da_cons de_int da_nil)))) de_int))
  (ds_one (ds_ret (de_if (dt_cmp (od_ne hr.units) (de_var 5) de_int (nomark _)) (de_var 5) de_int)))))))) (fun es c k h => ?_)
  · unfold F_law_n at h
    split at h <;> first | rfl | exact h.elim
  · unfold F_law_n at h
    split at h
    · rename_i ss d
      obtain ⟨⟨ns, rfl, hc⟩, hc2, hd, h⟩ := h
      have hd6 := rootD_bd hd
      refine ⟨⟨ns, rfl, hc⟩, (by decide : (0 : Int) < 15), (by decide : (15 : Int) < 2 ^ 200), (by omega : c.2.1 < 1000000), fun x x0 x1 => ?_⟩
      refine ⟨⟨ns, rfl, hc⟩, (by decide : (0 : Int) < 5), (by decide : (5 : Int) < 2 ^ 200), (by show c.2.1 + 1 < 1000000; omega), fun y y0 y1 => ?_⟩
      have bx : Bd 4 x := by unfold Bd; omega
      have by_ : Bd 4 y := by unfold Bd; omega
      refine ⟨bx.mulW bx (by decide), hd6.mulW by_ (by decide), (hd6.mul by_).mulW by_ (by decide), trivial, ?_⟩
      dsimp only [putE]
      refine joinS (fun S q => q = (c.1, c.2.1 + 3, c.2.2) ∧ S = [some (.sc (ns.map PyData.int)), some .tw, some (.im (.int d)), some (.im (.int x)), some (.im (.int y)), some (.im (.int (x * x - d * y * y)))]) ?_ ?_
      · intro N hN
        refine ⟨⟨ns, rfl, hc⟩, (by decide : (0 : Int) < 3), (by decide : (3 : Int) < 2 ^ 200), (by show c.2.1 + 1 + 1 < 1000000; omega), fun z z0 z1 => ⟨trivial, ?_⟩⟩
        have go := hN _ _ ⟨rfl, rfl⟩
        by_cases hz : 0 < z
        · refine ifT (decide_eq_true hz) ⟨shp_int _, shp_int _, ?_⟩
          by_cases hn0 : x * x - d * y * y = 0
          · exact ifF (by rw [eqv_int, decide_eq_true hn0]; rfl) go
          · refine ifT (by rw [eqv_int, decide_eq_false hn0]; rfl) ⟨trivial, ?_⟩
            by_cases h1 : -200 ≤ x * x - d * y * y
            · refine ifT (decide_eq_true h1) ⟨trivial, ?_⟩
              by_cases h2 : x * x - d * y * y ≤ 200
              · exact ifT (decide_eq_true h2) (h _ (c.2.1 + 3) (norOk_of h1 h2 hn0) (by omega) (by omega))
              · exact ifF (decide_eq_false h2) go
            · exact ifF (decide_eq_false h1) go
        · exact ifF (decide_eq_false hz) go
      · rintro S q ⟨rfl, rfl⟩
        refine ⟨⟨ns, rfl, hc⟩, (by decide : (0 : Int) < 400), (by decide : (400 : Int) < 2 ^ 200), (by show c.2.1 + 3 < 1000000; omega), fun w w0 w1 => ⟨trivial, shp_int _, shp_int _, ?_⟩⟩
        by_cases hz : w - 200 = 0
        · refine ifF (by rw [eqv_int, decide_eq_true hz]; rfl) ?_
          exact h 200 (c.2.1 + 4) (by decide) (by omega) (by omega)
        · refine ifT (by rw [eqv_int, decide_eq_false hz]; rfl) ?_
          exact h (w - 200) (c.2.1 + 4) (norOk_of (by omega) (by omega) hz) (by omega) (by omega)
    · exact h.elim
end
def F_law_times : FT := fun es c k => match es with
  | [.im (.int d), .im (.tuple [.int x, .int y]), .im (.tuple [.int z, .int w])] => Bd 6 d ∧ Bd 4000 x ∧ Bd 4000 y ∧ Bd 4000 z ∧ Bd 4000 w ∧ k (.im (pr (mulX d x y z w) (mulY x y z w))) c
  | _ => False

section
variable {P : Program} {w : World} {K : PySem.W.Frag} {mg : Str → Option Value} {base : Heap}
theorem ok_law_times (T : Txt K mg) : FnOk P w K mg base CX0 1 T.a_law_times T.d_law_times ["d", "one", "other"] (spD K F_law_times) := by
  refine fnD T.F_law_times sc_law_times (fun es c k h => ?_) (fun cdv A outer s H E hr => (ds_one (ds_ret (de_tup (da_cons (de_op od_add (de_op od_mul (de_ix (de_var 1) de_int (fun _ _ => rfl)) (de_ix (de_var 2) de_int (fun _ _ => rfl))) (de_op od_mul (de_op od_mul (de_var 0) (de_ix (de_var 1) de_int (fun _ _ => rfl))) (de_ix (de_var 2) de_int (fun _ _ => rfl)))) (da_cons (de_op od_add (de_op od_mul (de_ix (de_var 1) de_int (fun _ _ => rfl)) (de_ix (de_var 2) de_int (fun _ _ => rfl))) (de_op od_mul (de_ix (de_var 1) de_int (fun _ _ => rfl)) (de_ix (de_var 2) de_int (fun _ _ => rfl)))) da_nil)))))) (fun es c k h => ?_)
  · unfold F_law_times at h
    split at h <;> first | rfl | exact h.elim
  · unfold F_law_times at h
    split at h
    · rename_i d x y z w
      obtain ⟨hd, hx, hy, hz, hw, h⟩ := h
      exact ⟨hx.mulW hz (by decide), hd.mulW hy (by decide), (hd.mul hy).mulW hw (by decide), hx.mulW hw (by decide), hy.mulW hz (by decide), (by decide : 2 ≤ 100000), h⟩
    · exact h.elim
end
/-- the solution behind an operation, as the law tells it -/
def edR (d : Int) (rows : List PyData) (p : Int × Int) : Op → Option PyData
  | .up => some (prP (mulP d p (un d)))
  | .down => some (prP (mulP d p (opp (un d))))
  | .ch i => rows[i]?
def F_law_edit : FT := fun es c k => match es with
  | [.sc ss, .tw, .im (.int d), .im (.tuple rows), .im (.tuple [.int x, .int y])] => (∃ ns : List Int, ss = ns.map PyData.int ∧ ns.length = c.1) ∧ c.2.1 < 900000 ∧ rootD d = true ∧ Bd 3000 x ∧ Bd 3000 y ∧ 0 < rows.length ∧ rows.length ≤ 100000 ∧
    ∀ (o : Op) (m : Nat) (p : PyData), m ≤ c.2.1 + 2 → edR d rows (x, y) o = some p → k (.im (.tuple [.str o.nm, .int o.no, p])) (c.1, m, c.2.2)
  | _ => False

section
variable {P : Program} {w : World} {K : PySem.W.Frag} {mg : Str → Option Value} {base : Heap}
theorem ok_law_edit (T : Txt K mg) : FnOk P w K mg base CX0 6 T.a_law_edit T.d_law_edit ["script", "town", "d", "rows", "pair"] (spD K F_law_edit) := by
  have G_law_draw := ok_law_draw (P := P) (w := w) (base := base) T
  have G_law_times := ok_law_times (P := P) (w := w) (base := base) T
  have G_least_unit := ok_least_unit (P := P) (w := w) (base := base) T
  refine fnD T.F_law_edit sc_law_edit (fun es c k h => ?_) (fun cdv A outer s H E hr => (ds_cons (ds_asgB rfl (de_call G_least_unit (hr.mono (by decide)) (by rfl) T.g_least_unit T.F_least_unit.kp (b_least_unit T) (da_cons (de_var 2) da_nil)) (dgs_cons (dg_name (i := 5) sc_law_edit.nd rfl (by first | exact Or.inl rfl | exact Or.inr rfl)) (dgs_cons (dg_name (i := 6) sc_law_edit.nd rfl (by first | exact Or.inl rfl | exact Or.inr rfl)) dgs_nil)) 2 glen2)
  (ds_cons (ds_set (i := 7) sc_law_edit.nd rfl (by first | exact Or.inl rfl | exact Or.inr rfl) (de_call G_law_draw (hr.mono (by decide)) (by rfl) T.g_law_draw T.F_law_draw.kp (b_law_draw T) (da_cons (de_var 0) (da_cons (de_var 1) (da_cons de_int da_nil)))))
  (ds_cons (ds_if (dt_cmp od_lt (de_var 7) de_int (nomark _))
    (ds_one (ds_ret (de_tup (da_cons de_str (da_cons de_int (da_cons (de_call G_law_times (hr.mono (by decide)) (by rfl) T.g_law_times T.F_law_times.kp (b_law_times T) (da_cons (de_var 2) (da_cons (de_var 4) (da_cons (de_tup (da_cons (de_var 5) (da_cons (de_var 6) da_nil))) da_nil)))) da_nil))))))
    ds_nil)
  (ds_cons (ds_if (dt_cmp od_lt (de_var 7) de_int (nomark _))
    (ds_one (ds_ret (de_tup (da_cons de_str (da_cons de_int (da_cons (de_call G_law_times (hr.mono (by decide)) (by rfl) T.g_law_times T.F_law_times.kp (b_law_times T) (da_cons (de_var 2) (da_cons (de_var 4) (da_cons (de_tup (da_cons (de_var 5) (da_cons (de_un ud_neg (de_var 6)) da_nil))) da_nil)))) da_nil))))))
    ds_nil)
  (ds_cons (ds_set (i := 8) sc_law_edit.nd rfl (by first | exact Or.inl rfl | exact Or.inr rfl) (de_call G_law_draw (hr.mono (by decide)) (by rfl) T.g_law_draw T.F_law_draw.kp (b_law_draw T) (da_cons (de_var 0) (da_cons (de_var 1) (da_cons (de_cb cd_len (by rfl) T.m_len (by decide +kernel) (da_cons (de_var 3) da_nil)) da_nil)))))
  (ds_one (ds_ret (de_tup (da_cons de_str (da_cons (de_var 8) (da_cons (de_ix (de_var 3) (de_var 8) (fun _ _ => rfl)) da_nil)))))))))))) (fun es c k h => ?_)
  · unfold F_law_edit at h
    split at h <;> first | rfl | exact h.elim
  · unfold F_law_edit at h
    split at h
    · rename_i ss d rows x y
      obtain ⟨⟨ns, rfl, hc⟩, hc2, hd, bx, by_, r0, r1, h⟩ := h
      have ub := un_bd' hd
      have b6 := rootD_bd hd
      have two : (2 : Nat) ≤ 100000 := by decide
      have three : (3 : Nat) ≤ 100000 := by decide
      refine ⟨hd, ?_⟩
      refine ⟨⟨ns, rfl, hc⟩, (by decide : (0 : Int) < 5), (by decide : (5 : Int) < 2 ^ 200), (by omega : c.2.1 < 1000000), fun w w0 w1 => ?_⟩
      dsimp only [putE]
      refine ⟨trivial, ?_⟩
      by_cases h2 : w < 2
      · refine ifT (decide_eq_true h2) ⟨two, b6, bx.mono (by decide), by_.mono (by decide), ub.1.mono (by decide), ub.2.mono (by decide), three, h .up _ _ (by show c.2.1 + 1 ≤ _; omega) rfl⟩
      refine ifF (decide_eq_false h2) ⟨trivial, ?_⟩
      by_cases h4 : w < 4
      · refine ifT (decide_eq_true h4) ⟨two, b6, bx.mono (by decide), by_.mono (by decide), ub.1.mono (by decide), ub.2.neg.mono (by decide), three, h .down _ _ (by show c.2.1 + 1 ≤ _; omega) rfl⟩
      refine ifF (decide_eq_false h4) ?_
      have p200 : (100000 : Int) < 2 ^ 200 := by decide
      refine ⟨⟨ns, rfl, hc⟩, (by omega : (0 : Int) < (rows.length : Nat)), (by omega : ((rows.length : Nat) : Int) < 2 ^ 200), (by show c.2.1 + 1 < 1000000; omega), fun r r0 r1 => ?_⟩
      dsimp only [putE]
      obtain ⟨i, rfl⟩ := Int.eq_ofNat_of_zero_le r0
      have hi : i < rows.length := by have r1 : (i : Int) < (rows.length : Nat) := r1; omega
      simp only [dRet, dTup, dCons, dC, dNil]
      refine varIm (d := .int (i : Nat)) rfl _ ?_
      refine ixV rfl rfl (atI_nat (List.getElem?_eq_getElem hi)) ⟨three, h (.ch i) _ _ (by show c.2.1 + 1 + 1 ≤ _; omega) (List.getElem?_eq_getElem hi)⟩
    · exact h.elim
end
def F_law_do (C : Addr) : FT := fun es c k => match es with
  | [.ses a, .im (.str nm), .im (.int i)] => (nm = "choose" ∧ F_S_choose C [.ses a, .im (.int i)] c k) ∨ (nm = "up" ∧ F_S_up C [.ses a] c k) ∨ (nm = "down" ∧ F_S_down C [.ses a] c k)
  | _ => False

section
variable {P : Program} {w : World} {K : PySem.W.Frag} {mg : Str → Option Value} {base : Heap}
theorem ok_law_do (T : Txt K mg) : FnOk P w K mg base CX0 6 T.a_law_do T.d_law_do ["session", "name", "number"] (spD K (F_law_do T.c_Session)) := by
  have G_S_choose := ok_S_choose (P := P) (w := w) (base := base) T
  have G_S_down := ok_S_down (P := P) (w := w) (base := base) T
  have G_S_up := ok_S_up (P := P) (w := w) (base := base) T
  refine fnD T.F_law_do sc_law_do (fun es c k h => ?_) (fun cdv A outer s H E hr => (ds_cons (ds_if (dt_cmp (od_eq hr.units) (de_var 1) de_str (nomark _))
    (ds_one (ds_ret (de_meth T.cl_Session T.m_S_choose G_S_choose (hr.mono (by decide)) (b_S_choose T) (de_var 0) (da_cons (de_var 2) da_nil))))
    ds_nil)
  (ds_one (ds_ret (de_if (dt_cmp (od_eq hr.units) (de_var 1) de_str (nomark _)) (de_meth0 T.cl_Session T.m_S_up G_S_up (hr.mono (by decide)) (b_S_up T) (de_var 0)) (de_meth0 T.cl_Session T.m_S_down G_S_down (hr.mono (by decide)) (b_S_down T) (de_var 0))))))) (fun es c k h => ?_)
  · unfold F_law_do at h
    split at h <;> first | rfl | exact h.elim
  · unfold F_law_do at h
    split at h
    · rename_i a nm i
      have s1 : Shp (.str "choose") := shp_str (by decide +kernel)
      have s2 : Shp (.str "up") := shp_str (by decide +kernel)
      have s3 : Shp (.str "down") := shp_str (by decide +kernel)
      rcases h with ⟨rfl, h⟩ | ⟨rfl, h⟩ | ⟨rfl, h⟩
      · refine ⟨s1, s1, ifT (by rw [id_eq, eqv_str, beq_self_eq_true]) ?_⟩
        have h' := h
        unfold F_S_choose at h'
        obtain ⟨v, p, hc, _⟩ := h'
        exact ⟨⟨_, hc, rfl, rfl⟩, h⟩
      · refine ⟨s2, s1, ifF (by rw [id_eq, eqv_str]; decide +kernel) ⟨s2, s2, ifT (by rw [id_eq, eqv_str, beq_self_eq_true]) ?_⟩⟩
        have h' := h
        unfold F_S_up at h'
        obtain ⟨v, d, n, p, hc, _⟩ := h'
        exact ⟨⟨_, hc, rfl, rfl⟩, h⟩
      · refine ⟨s3, s1, ifF (by rw [id_eq, eqv_str]; decide +kernel) ⟨s3, s2, ifF (by rw [id_eq, eqv_str]; decide +kernel) ?_⟩⟩
        have h' := h
        unfold F_S_down at h'
        obtain ⟨v, d, n, p, hc, _⟩ := h'
        exact ⟨⟨_, hc, rfl, rfl⟩, h⟩
    · exact h.elim
end
section
variable {P : Program} {w : World} {K : PySem.W.Frag} {mg : Str → Option Value} {base : Heap}
end
def Fx_law_back (C : Addr) : FTx := fun es c k ke => match es with
  | [.im (.int w), .ses a] => (∃ v, c.2.2 a = some (mkS C v)) ∧ ((w = 0 ∧ Fx_S_undo C [.ses a] c k ke) ∨ (w = 1 ∧ Fx_S_redo C [.ses a] c k ke))
  | _ => False
theorem fx_undo {C : Addr} {a : Addr} {c : Cn} {k k' : En → Cn → Prop} {ke : Nat → Cn → Prop} (h : Fx_S_undo C [.ses a] c k ke) (g : ∀ d c', k (.im d) c' → k' (.im d) c') : Fx_S_undo C [.ses a] c k' ke := by
  rcases h with h | h
  · obtain ⟨v, don, op, ear, pair, h1, h2, h3, h4, h5, nm, x, h6, h7⟩ := h
    exact .inl ⟨v, don, op, ear, pair, h1, h2, h3, h4, h5, nm, x, h6, g _ _ h7⟩
  · exact .inr h
theorem fx_redo {C : Addr} {a : Addr} {c : Cn} {k k' : En → Cn → Prop} {ke : Nat → Cn → Prop} (h : Fx_S_redo C [.ses a] c k ke) (g : ∀ d c', k (.im d) c' → k' (.im d) c') : Fx_S_redo C [.ses a] c k' ke := by
  rcases h with h | h
  · obtain ⟨v, und, op, pair, h1, h2, h3, h4, h5, nm, x, h6, h7⟩ := h
    exact .inl ⟨v, und, op, pair, h1, h2, h3, h4, h5, nm, x, h6, g _ _ h7⟩
  · exact .inr h

section
variable {P : Program} {w : World} {K : PySem.W.Frag} {mg : Str → Option Value} {base : Heap}
theorem okx_law_back (T : Txt K mg) : FnOk P w K mg base (L2.CX P w) 3 T.a_law_back T.d_law_back ["way", "session"] (spX K T.cl (Fx_law_back T.c_Session)) := by
  have Gx_S_redo := okx_S_redo (P := P) (w := w) (base := base) T
  have Gx_S_undo := okx_S_undo (P := P) (w := w) (base := base) T
  refine fnX T.F_law_back sc_law_back (fun es c k ke h => ?_) (fun cdv A outer s H E hr => (xs_one (xs_retX (ex_if (dt_cmp (od_eq hr.units) (de_var 0) de_int (nomark _)) (ex_meth0 (takes_of rfl rfl rfl rfl) T.cl_Session T.m_S_undo Gx_S_undo (hr.mono (by decide)) (b_S_undo T) (de_var 1)) (ex_meth0 (takes_of rfl rfl rfl rfl) T.cl_Session T.m_S_redo Gx_S_redo (hr.mono (by decide)) (b_S_redo T) (de_var 1)))))) (fun es c k ke h => ?_)
  · unfold Fx_law_back at h
    split at h <;> first | rfl | exact h.elim
  · unfold Fx_law_back at h
    split at h
    · obtain ⟨⟨v, hv⟩, ⟨rfl, h⟩ | ⟨rfl, h⟩⟩ := h
      · exact ⟨shp_int _, shp_int _, ifT (by rw [id_eq, eqv_int]; rfl) ⟨⟨_, hv, rfl, rfl⟩, fx_undo h fun _ _ z => z⟩⟩
      · exact ⟨shp_int _, shp_int _, ifF (by rw [id_eq, eqv_int]; rfl) ⟨⟨_, hv, rfl, rfl⟩, fx_redo h fun _ _ z => z⟩⟩
    · exact h.elim
end
def F_law_equation : FT := fun es c k => match es with
  | [.sc ss, .tw] => (∃ ns : List Int, ss = ns.map PyData.int ∧ ns.length = c.1) ∧ c.2.1 < 800000 ∧ ∀ (d n : Int) (m : Nat), rootD d = true → norOk n = true → hds d n ≠ [] → c.2.1 ≤ m → m ≤ c.2.1 + 5 → k (.im (pr d n)) (c.1, m, c.2.2)
  | _ => False

section
variable {P : Program} {w : World} {K : PySem.W.Frag} {mg : Str → Option Value} {base : Heap}
theorem ok_law_equation (T : Txt K mg) : FnOk P w K mg base CX0 8 T.a_law_equation T.d_law_equation ["script", "town"] (spD K F_law_equation) := by
  have G_law_d := ok_law_d (P := P) (w := w) (base := base) T
  have G_law_n := ok_law_n (P := P) (w := w) (base := base) T
  have G_has_solution := ok_has_solution (P := P) (w := w) (base := base) T
  refine fnD T.F_law_equation sc_law_equation (fun es c k h => ?_) (fun cdv A outer s H E hr => (ds_cons (ds_set (i := 2) sc_law_equation.nd rfl (by first | exact Or.inl rfl | exact Or.inr rfl) (de_call G_law_d (hr.mono (by decide)) (by rfl) T.g_law_d T.F_law_d.kp (b_law_d T) (da_cons (de_var 0) (da_cons (de_var 1) da_nil))))
  (ds_cons (ds_set (i := 3) sc_law_equation.nd rfl (by first | exact Or.inl rfl | exact Or.inr rfl) (de_call G_law_n (hr.mono (by decide)) (by rfl) T.g_law_n T.F_law_n.kp (b_law_n T) (da_cons (de_var 0) (da_cons (de_var 1) (da_cons (de_var 2) da_nil)))))
  (ds_one (ds_ret (de_tup (da_cons (de_var 2) (da_cons (de_if (dt_val (de_call G_has_solution (hr.mono (by decide)) (by rfl) T.g_has_solution T.F_has_solution.kp (b_has_solution T) (da_cons (de_var 2) (da_cons (de_var 3) da_nil)))) (de_var 3) de_int) da_nil)))))))) (fun es c k h => ?_)
  · unfold F_law_equation at h
    split at h <;> first | rfl | exact h.elim
  · unfold F_law_equation at h
    split at h
    · rename_i ss
      obtain ⟨⟨ns, rfl, hc⟩, hc2, h⟩ := h
      have two : (2 : Nat) ≤ 100000 := by decide
      refine ⟨⟨ns, rfl, hc⟩, (by omega : c.2.1 < 1000000), fun d hd => ?_⟩
      refine ⟨⟨ns, rfl, hc⟩, (by show c.2.1 + 1 < 900000; omega), hd, fun n m hn hm1 hm2 => ?_⟩
      have hm1 : c.2.1 + 1 ≤ m := hm1
      have hm2 : m ≤ c.2.1 + 1 + 4 := hm2
      refine ⟨hd, hn, ?_⟩
      by_cases z : hds d n = []
      · refine ifF (decide_eq_false (fun y => y z)) ⟨two, ?_⟩
        exact h d 1 m hd (by decide) (by rw [hds1 hd]; simp) (by omega) (by omega)
      · exact ifT (decide_eq_true z) ⟨two, h d n m hd hn z (by omega) (by omega)⟩
    · exact h.elim
end
section
variable {P : Program} {w : World} {K : PySem.W.Frag} {mg : Str → Option Value} {base : Heap}
end
def Fx_law_call (C : Addr) : FTx := fun es c k ke => match es with
  | [.im (.int w), .ses a] => Fx_law_back C [.im (.int w), .ses a] c k ke
  | _ => False
theorem lenx_law_call {C : Addr} {es : List En} {c : Cn} {k : En → Cn → Prop} {ke : Nat → Cn → Prop} (h : Fx_law_call C es c k ke) : es.length = 2 := by
  unfold Fx_law_call at h
  split at h <;> first | rfl | exact h.elim
theorem fx_back {C : Addr} {es : List En} {c : Cn} {k k' : En → Cn → Prop} {ke : Nat → Cn → Prop} (h : Fx_law_back C es c k ke) (g : ∀ d c', k (.im d) c' → k' (.im d) c') : Fx_law_back C es c k' ke := by
  unfold Fx_law_back at h ⊢
  split at h
  · exact ⟨h.1, h.2.imp (fun z => ⟨z.1, fx_undo z.2 g⟩) fun z => ⟨z.1, fx_redo z.2 g⟩⟩
  · exact h.elim

section
variable {P : Program} {w : World} {K : PySem.W.Frag} {mg : Str → Option Value} {base : Heap}
theorem okx_law_call (T : Txt K mg) : FnOk P w K mg base (L2.CX P w) 4 T.a_law_call T.d_law_call ["way", "arguments"] (spX K T.cl (Fx_law_call T.c_Session)) := by
  have Gx_law_back := okx_law_back (P := P) (w := w) (base := base) T
  refine fnX T.F_law_call sc_law_call (fun es c k ke h => ?_) (fun cdv A outer s H E hr => (xs_one (xs_retX (ex_call (pe_callS Gx_law_back (hr.mono (by decide)) (by rfl) T.g_law_back T.F_law_back.kp (b_law_back T) (fun σ => passAt (takes_of rfl rfl rfl rfl) σ) (da_cons (de_var 0) (da_cons (de_var 1) da_nil))))))) (fun es c k ke h => ?_)
  · unfold Fx_law_call at h
    split at h <;> first | rfl | exact h.elim
  · unfold Fx_law_call at h
    split at h
    · exact fx_back h fun _ _ z => z
    · exact h.elim
end
def F_law_outcome (C : Addr) : FT := fun es c k => Fx_law_call C es c (fun e c' => match e with | .im d => k (.im (.tuple [.str "returned", d])) c' | _ => False) (fun j c' => j < 9 ∧ k (.im (.tuple [.str "raised", .int (j : Nat)])) c')

section
variable {P : Program} {w : World} {K : PySem.W.Frag} {mg : Str → Option Value} {base : Heap}
theorem ok_law_outcome (T : Txt K mg) : FnOk P w K mg base CX0 12 T.a_law_outcome T.d_law_outcome ["way", "arguments"] (spD K (F_law_outcome T.c_Session)) := by
  have Gx_law_call := okx_law_call (P := P) (w := w) (base := base) T
  have G_law_name := ok_law_name (P := P) (w := w) (base := base) T
  refine T.F_law_outcome.ok sc_law_outcome (fun vs H Q E h => ?_) (fun cdv A outer s H vs Q E hr h => ?_)
  · obtain ⟨T, n, c, es, k, t, rs, hF, q⟩ := h
    rw [rs.len]
    exact lenx_law_call hF
  · refine ⟨_, (pss_cons (ps_set (i := 2) sc_law_outcome.nd rfl (by first | exact Or.inl rfl | exact Or.inr rfl) pe_non)
      (pss_cons (ps_set (i := 3) sc_law_outcome.nd rfl (by first | exact Or.inl rfl | exact Or.inr rfl) pe_non)
      (pss_cons (ps_try_keep (i := 4) (j := 2) rfl rfl rfl sc_law_outcome.nd rfl rfl ⟨by rfl, by decide, .inl T.g_NormError⟩
        (fun W pn xe tk _ => pss_one (ps_set (i := 3) sc_law_outcome.nd rfl (by first | exact Or.inl rfl | exact Or.inr rfl) (pe_callS Gx_law_call (hr.mono (by decide)) (by rfl) T.g_law_call T.F_law_call.kp (b_law_call T) (fun σ => passAt tk σ) (pa_cons (pv 0) (pa_cons (pv 1) pa_nil)))))
        (fun a pn => pss_one (ps_set (i := 2) sc_law_outcome.nd rfl (by first | exact Or.inl rfl | exact Or.inr rfl) (pv 4))))
      (pss_cons (ps_if (pt_cmpR op_isN (pv 2) pe_non (nomark _)) (pss_one (ds_ret (de_tup (da_cons de_str (da_cons (de_var 3) da_nil))))) pss_nil)
      (pss_one (ps_ret (pe_tup (pa_cons pe_str (pa_cons (pe_call G_law_name (hr.mono (by decide)) (by rfl) T.g_law_name T.F_law_name.kp (b_law_name T) .nil pass0 (pa_cons (pv 2) pa_nil)) pa_nil))))))))), ?_⟩
    obtain ⟨Tn, n, c, es, k, t, rs, hF, q⟩ := h
    have l2 : vs.length = 2 := by rw [rs.len]; exact lenx_law_call hF
    match vs, l2, rs with
    | [v0, v1], _, rs =>
      have exm : ∀ j : Nat, j < 9 → PySem.W.exmOne K (T.cl j) (.ref T.c_NormError) = some true := fun j hj => by
        match j, hj with
        | 0, _ => exact T.n_InvalidRoot
        | 1, _ => exact T.n_InvalidNorm
        | 2, _ => exact T.n_InvalidPair
        | 3, _ => exact T.n_InvalidNumber
        | 4, _ => exact T.n_InvalidModulus
        | 5, _ => exact T.n_InvalidRests
        | 6, _ => exact T.n_InvalidText
        | 7, _ => exact T.n_NoSolution
        | 8, _ => exact T.n_NothingToUndo
      have nl := sizeLine_eq
      show tAsg (tCallS (spX K T.cl (Fx_law_call T.c_Session)) _ (tCons (tVar 0) (tCons (tVar 1) tNil))) (gName 3) _ [some v0, some v1, some .non, some .non, none] H
      refine ⟨v0, rfl, v1, rfl, Tn, n, c, es, _, _, t, rs, hF, fun e c' hk v H' f t' r => ?_, fun j c' hk H' f t' => ?_⟩
      · split at hk
        · rename_i d
          refine ⟨.non, rfl, rfl, true, rfl, ?_⟩
          refine ifT (b := true) rfl ?_
          have hS : Hd K Tn n [none, none, none, some (.im d), none] c' [some v0, some v1, some .non, some v, none] H' := {
            len := rfl, tow := t'
            rep := fun i e h => by
              match i, h with
              | 3, h => cases h; exact ⟨v, rfl, r.rv⟩
              | 4, h => cases h
              | i + 5, h => simp at h
            tru := fun i xs h => by
              match i, h with
              | 3, h => cases h
              | 4, h => cases h
              | i + 5, h => simp at h
            dis := fun i j xs a e _ h => by
              match i, h with
              | 3, h => cases h
              | 4, h => cases h
              | i + 5, h => simp at h }
          refine ⟨Tn, n, _, c', { nx := fun _ _ => False, rt := fun e c2 => e = .im (.tuple [.str "returned", d]) ∧ c2 = c' }, hS, ⟨(by decide : (2 : Nat) ≤ 100000), rfl, rfl⟩, fun _ _ z => z.elim, ?_, fun _ _ z => z.elim, fun _ _ z => z.elim⟩
          rintro _ _ ⟨rfl, rfl⟩ v2 H2 f2 t2 r2
          refine q _ _ hk v2 H2 (f.trans ⟨fun b o z nt => f2.keep b o z nt ?_, f2.mu, f2.trk⟩) t2 ⟨r2, trivial⟩
          rintro ⟨i, xs, h, _⟩
          match i, h with
          | 3, h => cases h
          | 4, h => cases h
          | i + 5, h => simp at h
        · exact hk.elim
      · obtain ⟨hj, hk⟩ := hk
        refine ⟨rfl, exm j hj, fun a na => ?_⟩
        refine ⟨.ref a, rfl, rfl, false, rfl, ?_⟩
        refine ifF (b := false) rfl ?_
        refine ⟨.ref a, rfl, a, j, rfl, hj, upd_same, fun H3 s3 => ⟨by show 2 ≤ sizeLine; omega, fun p hp => ?_⟩⟩
        have s1 := same_upd (o := ExT (T.cl j) a) na
        have s2 := same_upd (o := HO.tup [.str "raised", .int (j : Nat)]) hp
        exact q _ _ hk (.ref p) _ (f.trans ((frT_same s1).trans ((frT_same s3).trans (frT_same s2)))) (tw_same (tw_same (tw_same t' s1) s3) s2) ⟨.tup upd_same (.cons (.str _) (.cons (.int _) .nil)), trivial⟩

end
/-! the law -/
theorem do_ok {C : Addr} {d n : Int} {h0 : Int × Int} {L : List Op} {k : Nat} {a : Addr} {c : Cn} {K : En → Cn → Prop} (hd : rootD d = true) (hn : norOk n = true) (hh : h0 ∈ hds d n) (hL : ∀ o ∈ L, o.ok (hds d n)) (hk : k ≤ L.length) (lL : L.length ≤ 100) (o : Op) (ho : o.ok (hds d n))
    (hz : c.2.2 a = some (mkS C (svA d n h0 L k))) (hK : K (.im (prP (o.go d (hds d n) (ptA d n h0 L k)))) (c.1, c.2.1, putS c.2.2 a (mkS C (svA d n h0 (L.take k ++ [o]) (k + 1))))) : F_law_do C [.ses a, .im (.str o.nm), .im (.int o.no)] c K := by
  obtain ⟨_, b1, b2⟩ := ptA_ok hd hn hh hL k
  have le : (svA d n h0 L k).ear.length < 100000 := by rw [len_ear]; omega
  have ld : (svA d n h0 L k).don.length < 100000 := by rw [len_don hk]; omega
  rw [← svA_act hk o] at hK
  cases o with
  | up => exact .inr (.inl ⟨rfl, _, d, n, _, hz, rfl, rfl, hd, b1.mono (by omega), b2.mono (by omega), le, ld, hK⟩)
  | down => exact .inr (.inr ⟨rfl, _, d, n, _, hz, rfl, rfl, hd, b1.mono (by omega), b2.mono (by omega), le, ld, hK⟩)
  | ch i =>
    have hi : i < (hds d n).length := ho
    have hl : (svA d n h0 L k).sts.length = (hds d n).length := List.length_map _
    refine .inl ⟨rfl, _, prP ((hds d n).getD i (1, 0)), hz, Int.natCast_nonneg _, by rw [hl]; show ((i : Nat) : Int) ≤ _; omega, ?_, le, ld, hK⟩
    refine atI_nat (j := i) ?_
    show ((hds d n).map prP)[i]? = _
    rw [List.getElem?_map, getD_some (x := ((1, 0) : Int × Int)) hi]
    rfl
theorem outc_ok {C : Addr} {d n : Int} {h0 : Int × Int} {L : List Op} {k : Nat} {a : Addr} {c : Cn} {K : En → Cn → Prop} (hk : k ≤ L.length) (lL : L.length ≤ 100) (w : Int) (hw : w = 0 ∨ w = 1) (hz : c.2.2 a = some (mkS C (svA d n h0 L k)))
    (hK : ∀ Z : Addr → Option Ses, Z a = some (mkS C (svA d n h0 L (outB L k w).2)) → (∀ b, b ≠ a → Z b = c.2.2 b) → K (.im (outB L k w).1) (c.1, c.2.1, Z)) : F_law_outcome C [.im (.int w), .ses a] c K := by
  have lu : ∀ j, (svA d n h0 L j).und.length < 100000 := fun j => by rw [len_und]; omega
  have le : ∀ j, j ≤ L.length → (svA d n h0 L j).ear.length < 100000 := fun j hj => by rw [len_ear]; omega
  have ld : ∀ j, j ≤ L.length → (svA d n h0 L j).don.length < 100000 := fun j hj => by rw [len_don hj]; omega
  rcases hw with rfl | rfl
  · refine ⟨⟨_, hz⟩, .inl ⟨rfl, ?_⟩⟩
    cases k with
    | zero =>
      rw [outB_undo0] at hK
      exact .inr ⟨_, hz, rfl, by decide, hK _ hz fun _ _ => rfl⟩
    | succ k =>
      rw [outB_undo] at hK
      have g := hK (putS c.2.2 a (mkS C (svA d n h0 L k))) (putS_at _ _ _) fun b hb => putS_ne hb
      rw [← svA_undo (d := d) (n := n) (h0 := h0) (show k < L.length by omega)] at g
      exact .inl ⟨_, _, _, _, _, hz, svA_don (by omega), svA_ear, lu _, shp_ops _, _, _, rfl, g⟩
  · refine ⟨⟨_, hz⟩, .inr ⟨rfl, ?_⟩⟩
    by_cases hl : k < L.length
    · rw [outB_redo hl] at hK
      have g := hK (putS c.2.2 a (mkS C (svA d n h0 L (k + 1)))) (putS_at _ _ _) fun b hb => putS_ne hb
      rw [← svA_redo (d := d) (n := n) (h0 := h0) hl] at g
      exact .inl ⟨_, _, _, _, hz, svA_und hl, le _ hk, ld _ hk, shp_und, _, _, rfl, g⟩
    · rw [outB_redo0 hl] at hK
      refine .inr ⟨_, hz, ?_, by decide, hK _ hz fun _ _ => rfl⟩
      have e := len_und (d := d) (n := n) (h0 := h0) (L := L) (k := k)
      exact List.length_eq_zero_iff.mp (by rw [e]; omega)
theorem sv0_A (d n : Int) (h0 : Int × Int) : sv0 d n h0 = svA d n h0 [] 0 := rfl
theorem skipC {dt : DT} {a r : DS} {E : DEnds} {S : Sl} {c : Cn} (J : Cn → Prop) (h : ∀ q : Bool → Cn → Prop, (∀ c', J c' → q false c') → dt S c q) (g : ∀ c', J c' → r E S c') : dSeq (dIfS dt a dNext) r E S c := h _ fun c' hj => ifF rfl (g c' hj)
theorem skipC1 {dt : DT} {a : DS} {D : DEnds} {S : Sl} {c : Cn} (J : Cn → Prop) (h : ∀ q : Bool → Cn → Prop, (∀ c', J c' → q false c') → dt S c q) (g : ∀ c', J c' → D.nx S c') : dIfS dt a dNext D S c := h _ fun c' hj => ifF rfl (g c' hj)
theorem ixT {i : Nat} {R : List PyData} {n : Int} {d : PyData} {S : Sl} {c : Cn} {k : En → Cn → Prop} (hS : S[i]? = some (some (.im (.tuple R)))) (h : atI R n = some d) (hk : k (.im d) c) : dOp rIx (dVar i) (dC (.int n)) S c k := by
  unfold dOp dVar dC
  rw [hS]
  show rIx (.im (.tuple R)) (.im (.int n)) _
  unfold rIx
  simp only [sqOf, h]
  exact hk
theorem consIs {da : DE} {dr : DA} {S : Sl} {c : Cn} {x : En} {es : List En} (h1 : ∀ q : En → Cn → Prop, q x c → da S c q) (h2 : ∀ q : List En → Cn → Prop, q es c → dr S c q) : ∀ k : List En → Cn → Prop, k (x :: es) c → dCons da dr S c k := fun k hk => h1 _ (h2 _ hk)
theorem maxT {i : Nat} {S : Sl} {c : Cn} {xs : List PyData} {x y : Int} {q : Bool → Cn → Prop} (hS : S[i]? = some (some (.own xs)) ∨ S[i]? = some (some (.ro xs))) (h : atI xs (-1) = some (.tuple [.int x, .int y]))
    (hq : q (decide ((if (if y < 0 then -y else y) > (if x < 0 then -x else x) then (if y < 0 then -y else y) else (if x < 0 then -x else x)) ≤ 10 ^ (60 : Int).toNat)) c) :
    dTest (dOp rLe (dCB rMax2 (dCons (dCB rAbs (dCons (dOp rIx (dOp rIx (dVar i) (dUn rNeg (dC (.int 1)))) (dC (.int 0))) dNil)) (dCons (dCB rAbs (dCons (dOp rIx (dOp rIx (dVar i) (dUn rNeg (dC (.int 1)))) (dC (.int 1))) dNil)) dNil))) (dOp rPow (dC (.int 10)) (dC (.int 60)))) S c q := by
  have ab : ∀ {da : DE} {z : Int}, Gv da S c (.im (.int z)) → Gv (dCB rAbs (dCons da dNil)) S c (.im (.int (if z < 0 then -z else z))) := fun {da z} g q hq => by
    unfold dCB
    exact consIs (es := []) g (fun _ h => h) _ hq
  have g0 : Gv (dOp rIx (dOp rIx (dVar i) (dUn rNeg (dC (.int 1)))) (dC (.int 0))) S c (.im (.int x)) := fun q hq => ixLast0 hS h hq
  have g1 : Gv (dOp rIx (dOp rIx (dVar i) (dUn rNeg (dC (.int 1)))) (dC (.int 1))) S c (.im (.int y)) := fun q hq => ixLast1 hS h hq
  have gm : Gv (dCB rMax2 (dCons (dCB rAbs (dCons (dOp rIx (dOp rIx (dVar i) (dUn rNeg (dC (.int 1)))) (dC (.int 0))) dNil)) (dCons (dCB rAbs (dCons (dOp rIx (dOp rIx (dVar i) (dUn rNeg (dC (.int 1)))) (dC (.int 1))) dNil)) dNil))) S c (.im (.int (if (if y < 0 then -y else y) > (if x < 0 then -x else x) then (if y < 0 then -y else y) else (if x < 0 then -x else x)))) := fun q hq => by
    unfold dCB
    exact consIs (ab g0) (consIs (es := []) (ab g1) (fun _ h => h)) _ hq
  have gp : Gv (dOp rPow (dC (.int 10)) (dC (.int 60))) S c (.im (.int (10 ^ (60 : Int).toNat))) := Gv.op (Gv.const _) (Gv.const _) fun q hq => ⟨(⟨by decide, by decide, by decide⟩ : L2.CPow 10 60), hq⟩
  exact Gv.test (Gv.op gm gp fun q hq => ⟨trivial, hq⟩) _ hq
theorem andV {da db : DE} {S : Sl} {c : Cn} {k : En → Cn → Prop} (h1 : ∀ q : En → Cn → Prop, q (.im (.bool true)) c → da S c q) (h2 : db S c k) : dAndV da db S c k := h1 _ h2
theorem varSes {i : Nat} {S : Sl} {c : Cn} {a : Addr} (hS : S[i]? = some (some (.ses a))) (q : En → Cn → Prop) (h : q (.ses a) c) : dVar i S c q := by
  unfold dVar
  rw [hS]
  exact h
theorem threeIs {i j l : Nat} {de : DE} {r : DS} {E : DEnds} {S : Sl} {c : Cn} (x : PyData) (h : ∀ q : En → Cn → Prop, q (.im x) c → de S c q) (g : r E (((S.set i (some (.own [x]))).set j (some (.own []))).set l (some (.own []))) c) : dSeq (dThree i j l de) r E S c := h _ g
theorem num_at {d : Int} (hd : rootD d = true) {h0 h : Int × Int} {s0 m0 s m : Int} (hh0 : Head d h0) (hz : nrm d h0 ≠ 0) (hs0 : isS s0) (hh : Head d h) (hs : isS s) (e : mem d h0 s0 m0 = mem d h s m) : h = h0 ∧ s = s0 ∧ m = m0 := by
  have f : Fam d h h0 := ⟨s0 * s, m + -m0, hs0.mul hs, by
    rw [← mem_mem hd, ← e, mem_mem hd, hs0.sq, show m0 + -m0 = 0 by omega, mem_zero, scl_one]⟩
  have eh := Head.uniq hd hh hh0 f
  subst eh
  obtain ⟨rfl, rfl⟩ := mem_inj hd hz hs0 hs e
  exact ⟨rfl, rfl, rfl⟩
theorem snoc_nil (xs : List PyData) (x : PyData) : PyData.eqv (.list (xs ++ [x])) (.list []) = false := by cases xs <;> rfl
theorem shp_len {xs : List PyData} {l : Nat} (h : xs.length = l) : xs.length = l := h
theorem rep_in {d n : Int} {L : List Op} {k : Nat} {h0 : Int × Int} {o : Op} {p : PyData} (h : edR d ((hds d n).map prP) (ptA d n h0 L k) o = some p) : o.ok (hds d n) ∧ p = prP (o.go d (hds d n) (ptA d n h0 L k)) := by
  cases o with
  | up => exact ⟨trivial, (Option.some.inj h).symm⟩
  | down => exact ⟨trivial, (Option.some.inj h).symm⟩
  | ch i =>
    have h : ((hds d n).map prP)[i]? = some p := h
    rw [List.getElem?_map] at h
    obtain ⟨q, hq, rfl⟩ := Option.map_eq_some_iff.mp h
    have hi := (List.getElem?_eq_some_iff.mp hq).1
    refine ⟨hi, ?_⟩
    show _ = prP ((hds d n).getD i (1, 0))
    rw [List.getD_eq_getElem?_getD, hq]
    rfl
theorem outB_two {L : List Op} {k : Nat} : outB L k 0 = outB L k 0 := rfl
theorem placeArgs {i j : Nat} {S : Sl} {c : Cn} {xs : List PyData} {t x : PyData} {k : List En → Cn → Prop} (hS : S[i]? = some (some (.own xs)) ∨ S[i]? = some (some (.ro xs))) (hj : S[j]? = some (some (.im x))) (h : atI xs (-1) = some t) (hk : k [.im x, .im t] c) :
    dCons (dVar j) (dCons (dOp rIx (dVar i) (dUn rNeg (dC (.int 1)))) dNil) S c k := by
  unfold dCons
  refine varIm hj _ ?_
  exact ixLast hS h hk
/-- what holds at each turn -/
structure I70 (C : Addr) (d n : Int) (h0 : Int × Int) (a b : Addr) (l j : Nat) (Ls : List Op) (k m : Nat) (Z : Addr → Option Ses) (q : Cn) : Prop where
  eq : q = (l, m, Z)
  em : m ≤ 6 + 4 * j
  ek : k ≤ Ls.length
  ej : Ls.length ≤ j
  eo : ∀ o ∈ Ls, o.ok (hds d n)
  ea : Z a = some (mkS C (svA d n h0 Ls k))
  eb : Z b = some (mkS C (svA d n h0 [] 0))

section
variable {P : Program} {w : World} {K : PySem.W.Frag} {mg : Str → Option Value} {base : Heap}
theorem ok_law {f : Addr} {fd : FuncData} (Fl : Fun K "law" "law" s_law f fd) (T : Txt K mg) : FnOk P w K mg base CX0 13 f fd ["script"] (spLaw K) := by
  have G_S_eq := ok_S_eq (P := P) (w := w) (base := base) T
  have G_S_init := ok_S_init (P := P) (w := w) (base := base) T
  have G_S_len := ok_S_len (P := P) (w := w) (base := base) T
  have G_S_str := ok_S_str (P := P) (w := w) (base := base) T
  have G_S_number := ok_S_number (P := P) (w := w) (base := base) T
  have G_S_solution := ok_S_solution (P := P) (w := w) (base := base) T
  have G_law_do := ok_law_do (P := P) (w := w) (base := base) T
  have G_law_draw := ok_law_draw (P := P) (w := w) (base := base) T
  have G_law_edit := ok_law_edit (P := P) (w := w) (base := base) T
  have G_law_equation := ok_law_equation (P := P) (w := w) (base := base) T
  have G_law_outcome := ok_law_outcome (P := P) (w := w) (base := base) T
  have G_law_raises := ok_law_raises (P := P) (w := w) (base := base) T
  have G_law_town := ok_law_town (P := P) (w := w) (base := base) T
  have G_heads := ok_heads (P := P) (w := w) (base := base) T
  have G_place_of := ok_place_of (P := P) (w := w) (base := base) T
  refine fnLaw Fl sc_law (fun cdv A outer s H E hr => ps_set (i := 1) sc_law.nd rfl (by first | exact Or.inl rfl | exact Or.inr rfl) (pe_call G_law_town (hr.mono (by decide)) (by rfl) T.g_law_town T.F_law_town.kp (b_law_town T) .nil pass0 (pa_cons (pv 0) pa_nil))) (fun cdv A outer s H E hr => (ds_cons (ds_asgB rfl (de_call G_law_equation (hr.mono (by decide)) (by rfl) T.g_law_equation T.F_law_equation.kp (b_law_equation T) (da_cons (de_var 0) (da_cons (de_var 1) da_nil))) (dgs_cons (dg_name (i := 2) sc_law.nd rfl (by first | exact Or.inl rfl | exact Or.inr rfl)) (dgs_cons (dg_name (i := 3) sc_law.nd rfl (by first | exact Or.inl rfl | exact Or.inr rfl)) dgs_nil)) 2 glen2)
  (ds_cons (ds_set (i := 4) sc_law.nd rfl (by first | exact Or.inl rfl | exact Or.inr rfl) (de_call G_heads (hr.mono (by decide)) (by rfl) T.g_heads T.F_heads.kp (b_heads T) (da_cons (de_var 2) (da_cons (de_var 3) da_nil))))
  (ds_cons (ds_par (ps_par rfl sc_law.nd (i := 5) (j := 6) rfl rfl (by decide) rfl rfl (da_cons (de_make T.mk_Session G_S_init (hr.mono (by decide)) (by rfl) T.g_Session (b_S_init T) (da_cons (de_var 2) (da_cons (de_var 3) da_nil))) (da_cons (de_make T.mk_Session G_S_init (hr.mono (by decide)) (by rfl) T.g_Session (b_S_init T) (da_cons (de_var 2) (da_cons (de_var 3) da_nil))) da_nil)) rfl))
  (ds_cons (ds_three (ps_par3 rfl sc_law.nd (i := 7) (j := 8) (l := 9) rfl rfl rfl (by decide) (by decide) (by decide) rfl rfl rfl (pa_cons (pe_lst (pa_cons (de_ix (de_var 4) de_int (fun _ _ => rfl)) pa_nil)) (pa_cons (pe_lst pa_nil) (pa_cons (pe_lst pa_nil) pa_nil))) rfl))
  (ds_cons (ds_for PassesOwn.never rfl (di_r1 (by rfl) T.m_range (da_cons (de_op od_add de_int (de_call G_law_draw (hr.mono (by decide)) (by rfl) T.g_law_draw T.F_law_draw.kp (b_law_draw T) (da_cons (de_var 0) (da_cons (de_var 1) (da_cons de_int da_nil))))) da_nil)) (dg_name (i := 10) sc_law.nd rfl (by first | exact Or.inl rfl | exact Or.inr rfl))
    (ds_cons (ds_set (i := 11) sc_law.nd rfl (by first | exact Or.inl rfl | exact Or.inr rfl) (de_call G_law_draw (hr.mono (by decide)) (by rfl) T.g_law_draw T.F_law_draw.kp (b_law_draw T) (da_cons (de_var 0) (da_cons (de_var 1) (da_cons de_int da_nil)))))
    (ds_cons (ds_if (dt_cmp od_lt (de_var 11) de_int (nomark _))
      (dss_al (i := 12) (j := 13) (a := 8) (b := 9) (by decide) (by decide) (ps_set (i := 12) sc_law.nd rfl (by first | exact Or.inl rfl | exact Or.inr rfl) (pe_ifExp (dt_cmp (od_eq hr.units) (de_var 11) de_int (nomark _)) (pv 8) (pv 9))) (ps_set (i := 13) sc_law.nd rfl (by first | exact Or.inl rfl | exact Or.inr rfl) (de_if (dt_cmp (od_ne hr.units) (de_var 12) (de_lst da_nil) (nomark _)) (de_tup (da_cons de_str (da_cons (de_ix (de_ix (de_var 12) (de_un ud_neg de_int) (fun _ _ => rfl)) de_int (fun _ _ => rfl)) da_nil))) (de_call G_law_raises (hr.mono (by decide)) (by rfl) T.g_law_raises T.F_law_raises.kp (b_law_raises T) (da_cons de_str da_nil))))
      (ds_cons (ds_if (dt_cmp (od_ne hr.units) (de_call G_law_outcome (hr.mono (by decide)) (by rfl) T.g_law_outcome T.F_law_outcome.kp (b_law_outcome T) (da_cons (de_var 11) (da_cons (de_var 5) da_nil))) (de_var 13) (nomark _))
        (ds_one (ds_ret de_bl))
        ds_nil)
      (ds_one (ds_if (PW.pt (dw_and (dt_cmp (od_eq hr.units) (de_var 11) de_int (nomark _)) (dw_and1 (dt_cmp (od_ne hr.units) (de_var 8) (de_lst da_nil) (nomark _)))))
        (ds_one (ds_move (u := 9) (i := 8) (j := 7) (by decide) (by decide) (by decide) (ps_expr (pe_bm PySem.F.plainAttrs_list PySem.F.slot_list_append PySem.F.type_list_append mt_append (pv 9) (pa_cons (pe_op op_catA (pe_bm0 PySem.F.plainAttrs_list PySem.F.slot_list_pop PySem.F.type_list_pop mt_pop (pv 8)) (pe_tup (pa_cons (pe_bm0 PySem.F.plainAttrs_list PySem.F.slot_list_pop PySem.F.type_list_pop mt_pop (pv 7)) pa_nil))) pa_nil)))))
        (ds_one (ds_if (PW.pt (dw_and (dt_cmp (od_eq hr.units) (de_var 11) de_int (nomark _)) (dw_and1 (dt_cmp (od_ne hr.units) (de_var 9) (de_lst da_nil) (nomark _)))))
          (ds_cons (ds_unpop (i := 9) (ps_asg (pe_bm0 PySem.F.plainAttrs_list PySem.F.slot_list_pop PySem.F.type_list_pop mt_pop (pv 9)) (dg_tup rfl (dgs_cons (dg_name (i := 14) sc_law.nd rfl (by first | exact Or.inl rfl | exact Or.inr rfl)) (dgs_cons (dg_name (i := 15) sc_law.nd rfl (by first | exact Or.inl rfl | exact Or.inr rfl)) (dgs_cons (dg_name (i := 16) sc_law.nd rfl (by first | exact Or.inl rfl | exact Or.inr rfl)) dgs_nil))) 3 glen3)))
          (ds_cons (ds_app (ps_expr (pe_bm PySem.F.plainAttrs_list PySem.F.slot_list_append PySem.F.type_list_append mt_append (pv 8) (pa_cons (de_tup (da_cons (de_var 14) (da_cons (de_var 15) da_nil))) pa_nil))))
          (ds_one (ds_app (ps_expr (pe_bm PySem.F.plainAttrs_list PySem.F.slot_list_append PySem.F.type_list_append mt_append (pv 7) (pa_cons (de_var 16) pa_nil)))))))
          ds_nil))))))
      (ds_cons (ds_asgB rfl (de_call G_law_edit (hr.mono (by decide)) (by rfl) T.g_law_edit T.F_law_edit.kp (b_law_edit T) (da_cons (de_var 0) (da_cons (de_var 1) (da_cons (de_var 2) (da_cons (de_var 4) (da_cons (de_ix (de_var 7) (de_un ud_neg de_int) (fun _ _ => rfl)) da_nil)))))) (dgs_cons (dg_name (i := 14) sc_law.nd rfl (by first | exact Or.inl rfl | exact Or.inr rfl)) (dgs_cons (dg_name (i := 15) sc_law.nd rfl (by first | exact Or.inl rfl | exact Or.inr rfl)) (dgs_cons (dg_name (i := 16) sc_law.nd rfl (by first | exact Or.inl rfl | exact Or.inr rfl)) dgs_nil))) 3 glen3)
      (ds_cons (ds_if (dt_cmp (od_ne hr.units) (de_call G_law_do (hr.mono (by decide)) (by rfl) T.g_law_do T.F_law_do.kp (b_law_do T) (da_cons (de_var 5) (da_cons (de_var 14) (da_cons (de_var 15) da_nil)))) (de_var 16) (nomark _))
        (ds_one (ds_ret de_bl))
        ds_nil)
      (ds_cons (ds_app (ps_expr (pe_bm PySem.F.plainAttrs_list PySem.F.slot_list_append PySem.F.type_list_append mt_append (pv 7) (pa_cons (de_var 16) pa_nil))))
      (ds_cons (ds_app (ps_expr (pe_bm PySem.F.plainAttrs_list PySem.F.slot_list_append PySem.F.type_list_append mt_append (pv 8) (pa_cons (de_tup (da_cons (de_var 14) (da_cons (de_var 15) da_nil))) pa_nil))))
      (ds_one (ds_set (i := 9) sc_law.nd rfl (by first | exact Or.inl rfl | exact Or.inr rfl) (de_lst da_nil))))))))
    (ds_cons (ds_if (PW.pt (dw_or (dt_cmp (od_ne hr.units) (de_meth0 T.cl_Session T.m_S_solution G_S_solution (hr.mono (by decide)) (b_S_solution T) (de_var 5)) (de_ix (de_var 7) (de_un ud_neg de_int) (fun _ _ => rfl)) (nomark _)) (dw_or1 (dt_cmp (od_ne hr.units) (de_lenO G_S_len (hr.mono (by decide)) T.m_S_len (b_S_len T) (by rfl) T.m_len (de_var 5)) (de_cb cd_len (by rfl) T.m_len (by decide +kernel) (da_cons (de_var 8) da_nil)) (nomark _)))))
      (ds_one (ds_ret de_bl))
      ds_nil)
    (ds_cons (ds_if (dt_cmp (od_ne hr.units) (de_strO G_S_str (hr.mono (by decide)) T.m_S_str (b_S_str T) (by rfl) T.m_str (de_var 5)) (de_joined (dj_cons de_str (dj_cons (de_fmt (de_var 2)) (dj_cons de_str (dj_cons (de_fmt (de_var 3)) (dj_cons de_str (dj_cons (de_fmt (de_cb cd_len (by rfl) T.m_len (by decide +kernel) (da_cons (de_var 8) da_nil))) (dj_cons de_str dj_nil)))))))) (nomark _))
      (ds_one (ds_ret de_bl))
      ds_nil)
    (ds_one (ds_if (dt_cmp od_le (de_cb (cd_max2 rfl) (by rfl) T.m_max (by decide +kernel) (da_cons (de_cb cd_abs (by rfl) T.m_abs (by decide +kernel) (da_cons (de_ix (de_ix (de_var 7) (de_un ud_neg de_int) (fun _ _ => rfl)) de_int (fun _ _ => rfl)) da_nil)) (da_cons (de_cb cd_abs (by rfl) T.m_abs (by decide +kernel) (da_cons (de_ix (de_ix (de_var 7) (de_un ud_neg de_int) (fun _ _ => rfl)) de_int (fun _ _ => rfl)) da_nil)) da_nil))) (de_op od_pow de_int de_int) (nomark _))
      (ds_one (ds_if (dt_cmp (od_ne hr.units) (de_meth0 T.cl_Session T.m_S_number G_S_number (hr.mono (by decide)) (b_S_number T) (de_var 5)) (de_ix (de_call G_place_of (hr.mono (by decide)) (by rfl) T.g_place_of T.F_place_of.kp (b_place_of T) (da_cons (de_var 2) (da_cons (de_ix (de_var 7) (de_un ud_neg de_int) (fun _ _ => rfl)) da_nil))) de_int (fun _ _ => rfl)) (nomark _))
        (ds_one (ds_ret de_bl))
        ds_nil))
      ds_nil)))))))
  (ds_cons (ds_for PassesOwn.never rfl (di_v 8) (dg_tup rfl (dgs_cons (dg_name (i := 14) sc_law.nd rfl (by first | exact Or.inl rfl | exact Or.inr rfl)) (dgs_cons (dg_name (i := 15) sc_law.nd rfl (by first | exact Or.inl rfl | exact Or.inr rfl)) dgs_nil)) 2 glen2)
    (ds_cons (ds_if (dt_ceqO G_S_eq (hr.mono (by decide)) T.e_Session (b_S_eq T) (de_var 5) (de_var 6) (nomark _))
      (ds_one (ds_ret de_bl))
      ds_nil)
    (ds_one (ds_drop (de_call G_law_do (hr.mono (by decide)) (by rfl) T.g_law_do T.F_law_do.kp (b_law_do T) (da_cons (de_var 6) (da_cons (de_var 14) (da_cons (de_var 15) da_nil))))))))
  (ds_one (ds_ret (de_and (de_ceqO G_S_eq (hr.mono (by decide)) T.e_Session (b_S_eq T) (de_var 5) (de_var 6) (nomark _)) (de_and (de_cneO G_S_eq (hr.mono (by decide)) T.e_Session (b_S_eq T) (de_var 5) (de_ix (de_var 7) (de_un ud_neg de_int) (fun _ _ => rfl)) (nomark _)) (de_and (de_cneO G_S_eq (hr.mono (by decide)) T.e_Session (b_S_eq T) (de_var 5) de_str (nomark _)) (de_one (de_not (de_cneO G_S_eq (hr.mono (by decide)) T.e_Session (b_S_eq T) (de_var 5) (de_var 6) (nomark _)))))))))))))))) (fun ss hl => ?_)
  · have two : (2 : Nat) ≤ 100000 := by decide
    refine ⟨⟨ss, rfl, rfl⟩, (show 0 < 800000 by decide), fun d n m hd hn hz hm1 hm2 => ?_⟩
    have hm2 : m ≤ 5 := by simpa using hm2
    have hdl := root_le hd
    have h3 := norOk_iff.mp hn
    have hn2 : -200 ≤ n ∧ n ≤ 200 := ⟨h3.1, h3.2.1⟩
    obtain ⟨h0, hs, hH⟩ : ∃ h0 hs, hds d n = h0 :: hs := by
      cases e : hds d n with
      | nil => exact absurd e hz
      | cons a b => exact ⟨a, b, rfl⟩
    have hh0 : h0 ∈ hds d n := by rw [hH]; exact List.mem_cons_self
    dsimp only [sqOf, gsCons, gsNil, gN]
    show dSeq _ _ lawEnds [some (.sc (ss.map PyData.int)), some .tw, some (.im (.int d)), some (.im (.int n)), none, none, none, none, none, none, none, none, none, none, none, none, none] (ss.length, m, fun _ => none)
    generalize (fun _ => none : Addr → Option Ses) = Z0
    refine ⟨hd, hn, ?_⟩
    dsimp only [putE]
    refine fun a ha => ⟨putS_at _ _ _, hd, hn, h0, hs, hH, rfl, fun b hb => ⟨putS_at _ _ _, hd, hn, h0, hs, hH, rfl, ?_⟩⟩
    have za0 : putS (putS Z0 a ⟨T.c_Session, []⟩) a (mkS T.c_Session (sv0 d n h0)) a = some (mkS T.c_Session (sv0 d n h0)) := putS_at _ _ _
    have hb : putS (putS Z0 a ⟨T.c_Session, []⟩) a (mkS T.c_Session (sv0 d n h0)) b = none := hb
    have ab : a ≠ b := fun z => by
      rw [← z, za0] at hb
      cases hb
    generalize putS (putS Z0 a ⟨T.c_Session, []⟩) a (mkS T.c_Session (sv0 d n h0)) = Z1 at za0 hb
    have za1 : putS (putS Z1 b ⟨T.c_Session, []⟩) b (mkS T.c_Session (sv0 d n h0)) a = some (mkS T.c_Session (svA d n h0 [] 0)) := by
      rw [putS_ne ab, putS_ne ab, ← sv0_A]
      exact za0
    have zb1 : putS (putS Z1 b ⟨T.c_Session, []⟩) b (mkS T.c_Session (sv0 d n h0)) b = some (mkS T.c_Session (svA d n h0 [] 0)) := putS_at _ _ _
    dsimp only [dNil]
    show dSeq _ _ lawEnds [some (.sc (ss.map PyData.int)), some .tw, some (.im (.int d)), some (.im (.int n)), some (.im (.tuple ((hds d n).map prP))), some (.ses a), some (.ses b), none, none, none, none, none, none, none, none, none, none] (ss.length, m, putS (putS Z1 b ⟨T.c_Session, []⟩) b (mkS T.c_Session (sv0 d n h0)))
    generalize putS (putS Z1 b ⟨T.c_Session, []⟩) b (mkS T.c_Session (sv0 d n h0)) = Z2 at za1 zb1
    have i0 : atI ((hds d n).map prP) 0 = some (prP h0) := by
      rw [hH]
      exact atI_nat (j := 0) rfl
    refine threeIs (prP h0) (fun q hq => ixT rfl i0 hq) ?_
    show dSeq _ _ lawEnds [some (.sc (ss.map PyData.int)), some .tw, some (.im (.int d)), some (.im (.int n)), some (.im (.tuple ((hds d n).map prP))), some (.ses a), some (.ses b), some (.own (stM d n h0 [] 0)), some (.own (dnM [] 0)), some (.own (unM d n h0 [] 0)), none, none, none, none, none, none, none] (ss.length, m, Z2)
    refine ⟨⟨ss, rfl, rfl⟩, (by decide : (0 : Int) < 11), (by decide : (11 : Int) < 2 ^ 200), (show m < 1000000 by omega), fun r r0 r1 => ?_⟩
    have r0 : 0 ≤ r := r0
    have r1 : r < 11 := r1
    refine ⟨⟨by omega, by omega⟩, ?_⟩
    refine forL_by (fun j S q => ∃ L k m Z x10 x11 x13 x14 x15 x16, I70 T.c_Session d n h0 a b ss.length j L k m Z q ∧ S = [some (.sc (ss.map PyData.int)), some .tw, some (.im (.int d)), some (.im (.int n)), some (.im (.tuple ((hds d n).map prP))), some (.ses a), some (.ses b), some (.own (stM d n h0 L k)), some (.own (dnM L k)), some (.own (unM d n h0 L k)), x10, x11, none, x13, x14, x15, x16])
      ⟨[], 0, m + 1, Z2, none, none, none, none, none, none, ⟨rfl, by omega, Nat.le_refl _, Nat.le_refl _, (fun o ho => by cases ho), za1, zb1⟩, rfl⟩ ?_ ?_
    · rintro j x S q N hx ⟨L, k, m, Z, x10, x11, x13, x14, x15, x16, II, rfl⟩ hN
      obtain ⟨hj, rfl⟩ := rng_get hx
      have hj : j < (2 + r).toNat := hj
      obtain ⟨rfl, hm, hk, lj, hL, za, zb⟩ := II
      dsimp only [gN]
      show dSeq _ _ _ [some (.sc (ss.map PyData.int)), some .tw, some (.im (.int d)), some (.im (.int n)), some (.im (.tuple ((hds d n).map prP))), some (.ses a), some (.ses b), some (.own (stM d n h0 L k)), some (.own (dnM L k)), some (.own (unM d n h0 L k)), some (.im (.int (0 + (j : Nat)))), x11, none, x13, x14, x15, x16] (ss.length, m, Z)
      refine ⟨⟨ss, rfl, rfl⟩, (by decide : (0 : Int) < 5), (by decide : (5 : Int) < 2 ^ 200), (show m < 1000000 by omega), fun w w0 w1 => ?_⟩
      have w0 : 0 ≤ w := w0
      have w1 : w < 5 := w1
      dsimp only [putE]
      show dSeq _ _ _ [some (.sc (ss.map PyData.int)), some .tw, some (.im (.int d)), some (.im (.int n)), some (.im (.tuple ((hds d n).map prP))), some (.ses a), some (.ses b), some (.own (stM d n h0 L k)), some (.own (dnM L k)), some (.own (unM d n h0 L k)), some (.im (.int (0 + (j : Nat)))), some (.im (.int w)), none, x13, x14, x15, x16] (ss.length, m + 1, Z)
      refine joinS (fun S q => ∃ L k m Z x10 x11 x13 x14 x15 x16, I70 T.c_Session d n h0 a b ss.length (j + 1) L k m Z q ∧ S = [some (.sc (ss.map PyData.int)), some .tw, some (.im (.int d)), some (.im (.int n)), some (.im (.tuple ((hds d n).map prP))), some (.ses a), some (.ses b), some (.own (stM d n h0 L k)), some (.own (dnM L k)), some (.own (unM d n h0 L k)), x10, x11, none, x13, x14, x15, x16]) ?_ ?_
      · intro N2 hN2
        refine ⟨trivial, ?_⟩
        by_cases h2 : w < 2
        · refine ifT (decide_eq_true h2) ?_
          have hw : w = 0 ∨ w = 1 := by omega
          have ee : ∀ {x y : Int} {v : Bool} {q : Bool → Cn → Prop} {c' : Cn}, decide (x = y) = v → q v c' → q (id (PyData.eqv (.int x) (.int y))) c' := fun {x y v q c'} e h => by
            rw [id_eq, eqv_int, e]
            exact h
          refine alJ (outB L k w).1 ?_ ?_
          · rcases hw with rfl | rfl
            · refine ⟨true, 8, dnM L k, fun q hq => ⟨shp_int _, shp_int _, ee (decide_eq_true rfl) hq⟩, rfl, rfl, fun q hq => ?_⟩
              cases k with
              | zero =>
                rw [outB_undo0] at hq
                exact due_none (.inr rfl) ⟨8, rfl, hq⟩
              | succ k =>
                rw [outB_undo] at hq
                refine due_some (.inr rfl) (shp_ops _) (by rw [dnM_succ hk]; exact snoc_nil _ _) (by rw [dnM_succ hk]; exact last_at _ _) hq
            · refine ⟨false, 9, unM d n h0 L k, fun q hq => ⟨shp_int _, shp_int _, ee (decide_eq_false (by decide)) hq⟩, rfl, rfl, fun q hq => ?_⟩
              by_cases hl : k < L.length
              · rw [outB_redo hl] at hq
                refine due_some (.inr rfl) shp_unM (by rw [unM_succ hl]; exact snoc_nil _ _) (by rw [unM_succ hl]; exact last_at _ _) hq
              · rw [outB_redo0 hl] at hq
                rw [unM_end (by omega)]
                exact due_none (.inr rfl) ⟨8, rfl, hq⟩
          show dSeq (dIfS _ _ dNext) _ _ [some (.sc (ss.map PyData.int)), some .tw, some (.im (.int d)), some (.im (.int n)), some (.im (.tuple ((hds d n).map prP))), some (.ses a), some (.ses b), some (.own (stM d n h0 L k)), some (.own (dnM L k)), some (.own (unM d n h0 L k)), some (.im (.int (0 + (j : Nat)))), some (.im (.int w)), none, some (.im (outB L k w).1), x14, x15, x16] (ss.length, m + 1, Z)
          refine skipC (fun c' => ∃ Z', c' = (ss.length, m + 1, Z') ∧ Z' a = some (mkS T.c_Session (svA d n h0 L (outB L k w).2)) ∧ Z' b = some (mkS T.c_Session (svA d n h0 [] 0))) (fun q hq => ?_) ?_
          · refine testCall (es := [.im (.int w), .ses a]) (fun q h => h) (outc_ok hk (by omega) w hw za fun Z' h1 h2 => ?_)
            refine ⟨(nice_outB L k w).shp (by decide), (nice_outB L k w).shp (by decide), ?_⟩
            show q (!PyData.eqv _ _) _
            rw [SeqAt.eqv_refl _ (nice_outB L k w).lay]
            exact hq _ ⟨Z', rfl, h1, by rw [h2 b (Ne.symm ab)]; exact zb⟩
          rintro _ ⟨Z', rfl, za', zb'⟩
          have stay : ∀ {q : Cn}, q = (ss.length, m + 1, Z') → Z' a = some (mkS T.c_Session (svA d n h0 L k)) → I70 T.c_Session d n h0 a b ss.length (j + 1) L k (m + 1) Z' q := fun {q} e h => ⟨e, by omega, hk, by omega, hL, h, zb'⟩
          rcases hw with rfl | rfl
          · refine ⟨shp_int _, shp_int _, ifT (by rw [id_eq, eqv_int]; rfl) ⟨Nat.zero_le _, shp_ops _, shp_nil, ?_⟩⟩
            cases k with
            | zero =>
              refine ifF rfl ⟨shp_int _, shp_int _, ifF (by rw [id_eq, eqv_int]; rfl) (ifF rfl (hN2 _ _ ⟨L, 0, m + 1, Z', _, _, _, _, _, _, stay rfl ?_, rfl⟩))⟩
              rw [outB_undo0] at za'
              exact za'
            | succ k =>
              rw [outB_undo] at za'
              refine ifT (by rw [dnM_succ hk, snoc_nil]; rfl) ?_
              refine ⟨_, _, _, _, _, dnM_succ hk, stM_succ, by rw [unM_len]; omega, hN2 _ _ ⟨L, k, m + 1, Z', some (.im (.int (0 + (j : Nat)))), some (.im (.int 0)), some (.im (outB L (k + 1) 0).1), x14, x15, x16, ⟨rfl, by omega, by omega, by omega, hL, za', zb'⟩, ?_⟩⟩
              rw [unM_succ (k := k) hk]
              rfl
          · refine ⟨shp_int _, shp_int _, ifF (by rw [id_eq, eqv_int]; rfl) (ifF rfl ⟨shp_int _, shp_int _, ifT (by rw [id_eq, eqv_int]; rfl) ⟨Nat.zero_le _, shp_unM, shp_nil, ?_⟩⟩)⟩
            by_cases hl : k < L.length
            · rw [outB_redo hl] at za'
              refine ifT (by rw [unM_succ hl, snoc_nil]; rfl) ?_
              refine ⟨_, _, unM_succ hl, ⟨two, by rw [dnM_len hk]; omega, by rw [stM_len]; omega, hN2 _ _ ⟨L, k + 1, m + 1, Z', some (.im (.int (0 + (j : Nat)))), some (.im (.int 1)), some (.im (outB L k 1).1), some (.im (.str (L.getD k .up).nm)), some (.im (.int (L.getD k .up).no)), some (.im (prP (ptA d n h0 L (k + 1)))), ⟨rfl, by omega, hl, by omega, hL, za', zb'⟩, ?_⟩⟩⟩
              rw [stM_succ, dnM_succ hl]
              rfl
            · rw [outB_redo0 hl] at za'
              refine ifF (by rw [unM_end (by omega)]; rfl) (hN2 _ _ ⟨L, k, m + 1, Z', _, _, _, _, _, _, stay rfl za', rfl⟩)
        · refine ifF (decide_eq_false h2) ?_
          refine asgCall (es := [.sc (ss.map PyData.int), .tw, .im (.int d), .im (.tuple ((hds d n).map prP)), .im (prP (ptA d n h0 L k))]) (consIs (fun _ h => h) (consIs (fun _ h => h) (consIs (fun _ h => h) (consIs (fun _ h => h) (consIs (fun _ h => ixLast (.inl rfl) stM_last h) (fun _ h => h)))))) ?_
          obtain ⟨hp, b1, b2⟩ := ptA_ok hd hn hh0 hL k
          have hl0 : 0 < ((hds d n).map prP).length := by rw [hH]; simp
          have hl8 := hds_len8 hd hn
          refine ⟨⟨ss, rfl, rfl⟩, (show m + 1 < 900000 by omega), hd, b1.mono (by omega), b2.mono (by omega), hl0, by rw [List.length_map]; omega, fun o m' p hm' hp' => ?_⟩
          have hm' : m' ≤ m + 1 + 2 := hm'
          obtain ⟨ho, rfl⟩ := rep_in hp'
          dsimp only [sqOf, gsCons, gsNil, gN]
          show dSeq (dIfS _ _ dNext) _ _ [some (.sc (ss.map PyData.int)), some .tw, some (.im (.int d)), some (.im (.int n)), some (.im (.tuple ((hds d n).map prP))), some (.ses a), some (.ses b), some (.own (stM d n h0 L k)), some (.own (dnM L k)), some (.own (unM d n h0 L k)), some (.im (.int (0 + (j : Nat)))), some (.im (.int w)), none, x13, some (.im (.str o.nm)), some (.im (.int o.no)), some (.im (prP (o.go d (hds d n) (ptA d n h0 L k))))] (ss.length, m', Z)
          refine skipC (fun c' => c' = (ss.length, m', putS Z a (mkS T.c_Session (svA d n h0 (L.take k ++ [o]) (k + 1))))) (fun q hq => ?_) ?_
          · refine testCall (es := [.ses a, .im (.str o.nm), .im (.int o.no)]) (fun q h => h) (do_ok hd hn hh0 hL hk (by omega) o ho za ?_)
            refine ⟨shp_pr _ _, shp_pr _ _, ?_⟩
            show q (!PyData.eqv (prP _) (prP _)) _
            rw [eqv_prP, decide_eq_true rfl]
            exact hq _ rfl
          rintro _ rfl
          refine ⟨by rw [stM_len]; omega, two, by rw [dnM_len hk]; omega, Nat.zero_le _, hN2 _ _ ⟨L.take k ++ [o], k + 1, m', _, some (.im (.int (0 + (j : Nat)))), some (.im (.int w)), x13, some (.im (.str o.nm)), some (.im (.int o.no)), some (.im (prP (o.go d (hds d n) (ptA d n h0 L k)))), ⟨rfl, by omega, Nat.le_of_eq (svA_len hk o).symm, by rw [svA_len hk]; omega, ok_act hL ho, putS_at _ _ _, ?_⟩, ?_⟩⟩
          · rw [putS_ne (Ne.symm ab)]
            exact zb
          · rw [stM_act hk, dnM_act hk, unM_act hk]
            rfl
      · rintro S q ⟨L, k, m, Z, x10, x11, x13, x14, x15, x16, ⟨rfl, hm, hk, lj, hL, za, zb⟩, rfl⟩
        have nxt : N [some (.sc (ss.map PyData.int)), some .tw, some (.im (.int d)), some (.im (.int n)), some (.im (.tuple ((hds d n).map prP))), some (.ses a), some (.ses b), some (.own (stM d n h0 L k)), some (.own (dnM L k)), some (.own (unM d n h0 L k)), x10, x11, none, x13, x14, x15, x16] (ss.length, m, Z) :=
          hN _ _ ⟨L, k, m, Z, x10, x11, x13, x14, x15, x16, ⟨rfl, hm, hk, lj, hL, za, zb⟩, rfl⟩
        obtain ⟨hp, b1, b2⟩ := ptA_ok hd hn hh0 hL k
        have ld : (dnM L k).length = k := dnM_len hk
        have l200 : (dnM L k).length ≤ 200 := by omega
        have lsv : (svA d n h0 L k).don.length ≤ 200 := l200
        obtain ⟨a1, c1, a2, a3, c2, a4, a5, c3, a6, a7⟩ := stx_ok (l := (dnM L k).length) hdl hn2 l200
        have sx := (asc_stx (l := (dnM L k).length) hdl hn2 l200).shp
        have z0 : (0 : Int) ≤ (((dnM L k).length : Nat) : Int) := by omega
        have z63 : (((dnM L k).length : Nat) : Int) < 2 ^ 63 := by omega
        refine skipN (fun q hq => ?_) ?_
        · refine ⟨⟨_, za, rfl, rfl⟩, _, za, ?_⟩
          show dOp rIx (dVar 7) (dUn rNeg (dC (.int 1))) _ _ _
          refine ixLast (.inl rfl) stM_last ⟨shp_pr _ _, shp_pr _ _, ifF ?_ ?_⟩
          · show (!PyData.eqv (prP _) (prP _)) = false
            rw [eqv_prP, decide_eq_true rfl]
            rfl
          · refine ⟨⟨_, za, rfl⟩, ⟨_, za, _, rfl, z0, z63, shp_int _, shp_int _, ?_⟩⟩
            show q (!PyData.eqv (.int (((dnM L k).length : Nat) : Int)) (.int (((dnM L k).length : Nat) : Int))) _
            rw [eqv_int, decide_eq_true rfl]
            exact hq
        refine skipN (fun q hq => ?_) ?_
        · refine ⟨⟨_, za, rfl⟩, _, d, n, za, rfl, hdl, hn2, lsv, _, rfl, ?_⟩
          refine ⟨a1, c1, a2, a3, c2, a4, a5, c3, a6, Nat.le_trans a7 (by decide), sx, sx, ?_⟩
          show q (!PyData.eqv (.str (stx d n (dnM L k).length)) (.str (stx d n (dnM L k).length))) _
          rw [eqv_str, beq_self_eq_true]
          exact hq
        show dTest (dOp rLe (dCB rMax2 (dCons (dCB rAbs (dCons (dOp rIx (dOp rIx (dVar 7) (dUn rNeg (dC (.int 1)))) (dC (.int 0))) dNil)) (dCons (dCB rAbs (dCons (dOp rIx (dOp rIx (dVar 7) (dUn rNeg (dC (.int 1)))) (dC (.int 1))) dNil)) dNil))) (dOp rPow (dC (.int 10)) (dC (.int 60)))) _ _ _
        obtain ⟨P, hP⟩ : ∃ P, ptA d n h0 L k = P := ⟨_, rfl⟩
        have hlast : atI (stM d n h0 L k) (-1) = some (.tuple [.int P.1, .int P.2]) := by rw [stM_last, hP]
        rw [hP] at hp b1 b2
        have ba : ∀ x : Int, (if x < 0 then -x else x) = (x.natAbs : Int) := fun x => by split <;> omega
        refine maxT (.inl rfl) hlast ?_
        show if decide ((if (if P.2 < 0 then -P.2 else P.2) > (if P.1 < 0 then -P.1 else P.1) then (if P.2 < 0 then -P.2 else P.2) else (if P.1 < 0 then -P.1 else P.1)) ≤ 10 ^ (60 : Int).toNat) = true then _ else _
        rw [ba, ba]
        by_cases y : (if (P.2.natAbs : Int) > P.1.natAbs then (P.2.natAbs : Int) else P.1.natAbs) ≤ 10 ^ (60 : Int).toNat
        · refine ifT (decide_eq_true y) ?_
          have yg : (if (P.2.natAbs : Int) > P.1.natAbs then (P.2.natAbs : Int) else P.1.natAbs) ≤ great := y
          have g1 : inG P.1 = true := by
            unfold inG
            rw [decide_eq_true (by split at yg <;> omega), decide_eq_true (by split at yg <;> omega)]
            rfl
          have g2 : inG P.2 = true := by
            unfold inG
            rw [decide_eq_true (by split at yg <;> omega), decide_eq_true (by split at yg <;> omega)]
            rfl
          refine skipIf (fun q hq => ?_) nxt
          have nz : nrm d P ≠ 0 := by rw [hp]; exact h3.2.2
          refine ⟨⟨_, za, rfl, rfl⟩, _, d, n, P, za, rfl, (by show prP _ = prP P; rw [hP]), hd, nz, b1.mono (by omega), b2.mono (by omega), fun h s m1 hh hs e => ?_⟩
          show dOp rIx (dCall F_place_of (dCons (dVar 2) (dCons (dOp rIx (dVar 7) (dUn rNeg (dC (.int 1)))) dNil))) (dC (.int 2)) _ _ _
          unfold dOp dCall
          refine placeArgs (.inl rfl) rfl hlast ?_
          refine ⟨hd, g1, g2, by show norOk (nrm d P) = true; rw [hp]; exact hn, fun h' s' m' hh' hs' e' => ?_⟩
          have e' : P = mem d h' s' m' := e'
          have nzh : nrm d h ≠ 0 := by rw [← nrm_mem hd h hs m1, ← e]; exact nz
          obtain ⟨_, _, rfl⟩ := num_at hd hh nzh hs hh' hs' (e.symm.trans e')
          refine ⟨shp_int _, shp_int _, ?_⟩
          show q (!PyData.eqv (.int m') (.int m')) _
          rw [eqv_int, decide_eq_true rfl]
          exact hq
        · exact ifF (decide_eq_false y) nxt
    · rintro S q ⟨L, k, m, Z, x10, x11, x13, x14, x15, x16, ⟨rfl, hm, hk, lj, hL, za, zb⟩, rfl⟩
      have ll : L.length ≤ 20 := by
        rw [len_rng] at lj
        omega
      have ll : (L.take k).length = k := by rw [List.length_take]; omega
      show dSeq (dFor (iV 8) _ _) _ lawEnds [some (.sc (ss.map PyData.int)), some .tw, some (.im (.int d)), some (.im (.int n)), some (.im (.tuple ((hds d n).map prP))), some (.ses a), some (.ses b), some (.own (stM d n h0 L k)), some (.own (dnM L k)), some (.own (unM d n h0 L k)), x10, x11, none, x13, x14, x15, x16] (ss.length, m, Z)
      refine forV (i := 8) rfl (fun j S q => ∃ Z x14 x15, q = (ss.length, m, Z) ∧ Z a = some (mkS T.c_Session (svA d n h0 L k)) ∧ Z b = some (mkS T.c_Session (svA d n h0 (L.take j) j)) ∧ S = [some (.sc (ss.map PyData.int)), some .tw, some (.im (.int d)), some (.im (.int n)), some (.im (.tuple ((hds d n).map prP))), some (.ses a), some (.ses b), some (.own (stM d n h0 L k)), some (.ro (dnM L k)), some (.own (unM d n h0 L k)), x10, x11, none, x13, x14, x15, x16]) ⟨Z, x14, x15, rfl, za, zb, rfl⟩ ?_ ?_
      · rintro j x S q N hx ⟨Z, x14, x15, rfl, za, zb, rfl⟩ hN
        have hx : ((L.take k).map Op.dat)[j]? = some x := hx
        rw [List.getElem?_map] at hx
        obtain ⟨o, ho, rfl⟩ := Option.map_eq_some_iff.mp hx
        have hj : j < k := by have := (List.getElem?_eq_some_iff.mp ho).1; omega
        have ho2 : L[j]? = some o := by rw [List.getElem?_take_of_lt hj] at ho; exact ho
        have lj : (L.take j).length = j := by rw [List.length_take]; omega
        have ok := hL o (List.mem_of_getElem? ho2)
        have okj : ∀ o ∈ L.take j, o.ok (hds d n) := fun o ho => hL o (List.mem_of_mem_take ho)
        dsimp only [gT, gsCons, gsNil, gN, Op.dat]
        show dSeq (dIfS _ _ dNext) _ _ [some (.sc (ss.map PyData.int)), some .tw, some (.im (.int d)), some (.im (.int n)), some (.im (.tuple ((hds d n).map prP))), some (.ses a), some (.ses b), some (.own (stM d n h0 L k)), some (.ro (dnM L k)), some (.own (unM d n h0 L k)), x10, x11, none, x13, some (.im (.str o.nm)), some (.im (.int o.no)), x16] (ss.length, m, Z)
        refine skipN (fun q hq => ?_) ?_
        · refine ⟨⟨_, za, rfl⟩, ⟨_, zb, rfl⟩, _, _, za, zb, shp_pr _ _, shp_pr _ _, shp_ops _, shp_ops _, false, ?_, hq⟩
          show En.im (.bool (PyData.eqv (pr d n) (pr d n) && PyData.eqv (.list ((L.take k).map Op.dat)) (.list (((L.take j).take j).map Op.dat)))) = _
          rw [eqv_lenF (by rw [List.length_map, List.length_map, List.length_take, List.length_take, List.length_take]; omega), Bool.and_false]
        refine dropCall (es := [.ses b, .im (.str o.nm), .im (.int o.no)]) (fun q h => h) (do_ok hd hn hh0 okj (by omega) (by omega) o ok zb ?_)
        refine hN _ _ ⟨_, _, _, rfl, ?_, ?_, rfl⟩
        · rw [putS_ne ab]
          exact za
        · rw [putS_at, List.take_take, Nat.min_self, takeS ho2]
      · rintro S q ⟨Z, x14, x15, rfl, za, zb, rfl⟩
        rw [dnM_len hk] at zb
        have t1 : PyData.eqv (pr d n) (pr d n) = true := by rw [eqv_pr, decide_eq_true rfl, decide_eq_true rfl]; rfl
        have t2 : PyData.eqv (.list ((L.take k).map Op.dat)) (.list (((L.take k).take k).map Op.dat)) = true := by rw [List.take_take, Nat.min_self]; exact eqv_ops _
        have fe : ∀ {K : En → Cn → Prop} {c : Cn}, c.2.2 = Z → K (.im (.bool true)) c → F_S_eq T.c_Session [.ses a, .ses b] c K := fun {K c} e h => by
          refine ⟨_, _, by rw [e]; exact za, by rw [e]; exact zb, shp_pr _ _, shp_pr _ _, shp_ops _, shp_ops _, ?_⟩
          show K (.im (.bool (PyData.eqv (pr d n) (pr d n) && PyData.eqv (.list ((L.take k).map Op.dat)) (.list (((L.take k).take k).map Op.dat))))) c
          rw [t1, t2]
          exact h
        refine ⟨⟨_, za, rfl⟩, ⟨_, zb, rfl⟩, fe rfl ⟨true, rfl, ?_⟩⟩
        refine ifT rfl (andV (fun q hq => ?_) ?_)
        · unfold dCmpO
          refine varSes (a := a) rfl _ (ixLast (.inl rfl) stM_last ⟨⟨_, za, rfl⟩, trivial, false, rfl, hq⟩)
        refine ⟨⟨_, za, rfl⟩, trivial, false, rfl, ?_⟩
        refine ifT rfl ⟨⟨_, za, rfl⟩, ⟨_, zb, rfl⟩, fe rfl ⟨true, rfl, ?_⟩⟩
        rfl
end
theorem all_mk {l : PySem.W.OpenLaw} {w : World} {K : PySem.W.Frag} {h : Heap} {mg : Str → Option Value} {fa cS : Addr} (X : K.In h) (G : h.Ns mainGlobals mg) (hfa : mg "law" = some (.ref fa))
    {f0 : Addr} {od0 an0 : Option Addr} {sl0 : Array (Option Value)} {oc0 kV0 dc0 pm0 cd0 ct0 : Value}
    (a0 : PySem.W.nsIn K mainGlobals "is_integer" = some (some (.ref f0))) (l0 : K.lookup f0 = some ⟨oc0, od0, .func (PySem.W.fnOf "is_integer" "is_integer" (defArgs s_is_integer) (defBody s_is_integer) (defScope s_is_integer) .none kV0 dc0 pm0 an0 cd0 ct0), sl0⟩) (c0 : PySem.W.codeIn K cd0 "is_integer" = true) (k0 : PySem.W.keepIn K (.ref f0) = true)
    {f1 : Addr} {od1 an1 : Option Addr} {sl1 : Array (Option Value)} {oc1 kV1 dc1 pm1 cd1 ct1 : Value}
    (a1 : PySem.W.nsIn K mainGlobals "is_between" = some (some (.ref f1))) (l1 : K.lookup f1 = some ⟨oc1, od1, .func (PySem.W.fnOf "is_between" "is_between" (defArgs s_is_between) (defBody s_is_between) (defScope s_is_between) .none kV1 dc1 pm1 an1 cd1 ct1), sl1⟩) (c1 : PySem.W.codeIn K cd1 "is_between" = true) (k1 : PySem.W.keepIn K (.ref f1) = true)
    {f2 : Addr} {od2 an2 : Option Addr} {sl2 : Array (Option Value)} {oc2 kV2 dc2 pm2 cd2 ct2 : Value}
    (a2 : PySem.W.nsIn K mainGlobals "root_of" = some (some (.ref f2))) (l2 : K.lookup f2 = some ⟨oc2, od2, .func (PySem.W.fnOf "root_of" "root_of" (defArgs s_root_of) (defBody s_root_of) (defScope s_root_of) .none kV2 dc2 pm2 an2 cd2 ct2), sl2⟩) (c2 : PySem.W.codeIn K cd2 "root_of" = true) (k2 : PySem.W.keepIn K (.ref f2) = true)
    {f3 : Addr} {od3 an3 : Option Addr} {sl3 : Array (Option Value)} {oc3 kV3 dc3 pm3 cd3 ct3 : Value}
    (a3 : PySem.W.nsIn K mainGlobals "is_root" = some (some (.ref f3))) (l3 : K.lookup f3 = some ⟨oc3, od3, .func (PySem.W.fnOf "is_root" "is_root" (defArgs s_is_root) (defBody s_is_root) (defScope s_is_root) .none kV3 dc3 pm3 an3 cd3 ct3), sl3⟩) (c3 : PySem.W.codeIn K cd3 "is_root" = true) (k3 : PySem.W.keepIn K (.ref f3) = true)
    {f4 : Addr} {od4 an4 : Option Addr} {sl4 : Array (Option Value)} {oc4 kV4 dc4 pm4 cd4 ct4 : Value}
    (a4 : PySem.W.nsIn K mainGlobals "check_root" = some (some (.ref f4))) (l4 : K.lookup f4 = some ⟨oc4, od4, .func (PySem.W.fnOf "check_root" "check_root" (defArgs s_check_root) (defBody s_check_root) (defScope s_check_root) .none kV4 dc4 pm4 an4 cd4 ct4), sl4⟩) (c4 : PySem.W.codeIn K cd4 "check_root" = true) (k4 : PySem.W.keepIn K (.ref f4) = true)
    {f5 : Addr} {od5 an5 : Option Addr} {sl5 : Array (Option Value)} {oc5 kV5 dc5 pm5 cd5 ct5 : Value}
    (a5 : PySem.W.nsIn K mainGlobals "is_pair" = some (some (.ref f5))) (l5 : K.lookup f5 = some ⟨oc5, od5, .func (PySem.W.fnOf "is_pair" "is_pair" (defArgs s_is_pair) (defBody s_is_pair) (defScope s_is_pair) .none kV5 dc5 pm5 an5 cd5 ct5), sl5⟩) (c5 : PySem.W.codeIn K cd5 "is_pair" = true) (k5 : PySem.W.keepIn K (.ref f5) = true)
    {f6 : Addr} {od6 an6 : Option Addr} {sl6 : Array (Option Value)} {oc6 kV6 dc6 pm6 cd6 ct6 : Value}
    (a6 : PySem.W.nsIn K mainGlobals "check_pair" = some (some (.ref f6))) (l6 : K.lookup f6 = some ⟨oc6, od6, .func (PySem.W.fnOf "check_pair" "check_pair" (defArgs s_check_pair) (defBody s_check_pair) (defScope s_check_pair) .none kV6 dc6 pm6 an6 cd6 ct6), sl6⟩) (c6 : PySem.W.codeIn K cd6 "check_pair" = true) (k6 : PySem.W.keepIn K (.ref f6) = true)
    {f7 : Addr} {od7 an7 : Option Addr} {sl7 : Array (Option Value)} {oc7 kV7 dc7 pm7 cd7 ct7 : Value}
    (a7 : PySem.W.nsIn K mainGlobals "check_number" = some (some (.ref f7))) (l7 : K.lookup f7 = some ⟨oc7, od7, .func (PySem.W.fnOf "check_number" "check_number" (defArgs s_check_number) (defBody s_check_number) (defScope s_check_number) .none kV7 dc7 pm7 an7 cd7 ct7), sl7⟩) (c7 : PySem.W.codeIn K cd7 "check_number" = true) (k7 : PySem.W.keepIn K (.ref f7) = true)
    {f8 : Addr} {od8 an8 : Option Addr} {sl8 : Array (Option Value)} {oc8 kV8 dc8 pm8 cd8 ct8 : Value}
    (a8 : PySem.W.nsIn K mainGlobals "norm_of" = some (some (.ref f8))) (l8 : K.lookup f8 = some ⟨oc8, od8, .func (PySem.W.fnOf "norm_of" "norm_of" (defArgs s_norm_of) (defBody s_norm_of) (defScope s_norm_of) .none kV8 dc8 pm8 an8 cd8 ct8), sl8⟩) (c8 : PySem.W.codeIn K cd8 "norm_of" = true) (k8 : PySem.W.keepIn K (.ref f8) = true)
    {f9 : Addr} {od9 an9 : Option Addr} {sl9 : Array (Option Value)} {oc9 kV9 dc9 pm9 cd9 ct9 : Value}
    (a9 : PySem.W.nsIn K mainGlobals "times" = some (some (.ref f9))) (l9 : K.lookup f9 = some ⟨oc9, od9, .func (PySem.W.fnOf "times" "times" (defArgs s_times) (defBody s_times) (defScope s_times) .none kV9 dc9 pm9 an9 cd9 ct9), sl9⟩) (c9 : PySem.W.codeIn K cd9 "times" = true) (k9 : PySem.W.keepIn K (.ref f9) = true)
    {f10 : Addr} {od10 an10 : Option Addr} {sl10 : Array (Option Value)} {oc10 kV10 dc10 pm10 cd10 ct10 : Value}
    (a10 : PySem.W.nsIn K mainGlobals "opposite" = some (some (.ref f10))) (l10 : K.lookup f10 = some ⟨oc10, od10, .func (PySem.W.fnOf "opposite" "opposite" (defArgs s_opposite) (defBody s_opposite) (defScope s_opposite) .none kV10 dc10 pm10 an10 cd10 ct10), sl10⟩) (c10 : PySem.W.codeIn K cd10 "opposite" = true) (k10 : PySem.W.keepIn K (.ref f10) = true)
    {f11 : Addr} {od11 an11 : Option Addr} {sl11 : Array (Option Value)} {oc11 kV11 dc11 pm11 cd11 ct11 : Value}
    (a11 : PySem.W.nsIn K mainGlobals "fractions_of" = some (some (.ref f11))) (l11 : K.lookup f11 = some ⟨oc11, od11, .func (PySem.W.fnOf "fractions_of" "fractions_of" (defArgs s_fractions_of) (defBody s_fractions_of) (defScope s_fractions_of) .none kV11 dc11 pm11 an11 cd11 ct11), sl11⟩) (c11 : PySem.W.codeIn K cd11 "fractions_of" = true) (k11 : PySem.W.keepIn K (.ref f11) = true)
    {f12 : Addr} {od12 an12 : Option Addr} {sl12 : Array (Option Value)} {oc12 kV12 dc12 pm12 cd12 ct12 : Value}
    (a12 : PySem.W.nsIn K mainGlobals "convergent_of" = some (some (.ref f12))) (l12 : K.lookup f12 = some ⟨oc12, od12, .func (PySem.W.fnOf "convergent_of" "convergent_of" (defArgs s_convergent_of) (defBody s_convergent_of) (defScope s_convergent_of) .none kV12 dc12 pm12 an12 cd12 ct12), sl12⟩) (c12 : PySem.W.codeIn K cd12 "convergent_of" = true) (k12 : PySem.W.keepIn K (.ref f12) = true)
    {f13 : Addr} {od13 an13 : Option Addr} {sl13 : Array (Option Value)} {oc13 kV13 dc13 pm13 cd13 ct13 : Value}
    (a13 : PySem.W.nsIn K mainGlobals "found_unit" = some (some (.ref f13))) (l13 : K.lookup f13 = some ⟨oc13, od13, .func (PySem.W.fnOf "found_unit" "found_unit" (defArgs s_found_unit) (defBody s_found_unit) (defScope s_found_unit) .none kV13 dc13 pm13 an13 cd13 ct13), sl13⟩) (c13 : PySem.W.codeIn K cd13 "found_unit" = true) (k13 : PySem.W.keepIn K (.ref f13) = true)
    {f14 : Addr} {od14 an14 : Option Addr} {sl14 : Array (Option Value)} {oc14 kV14 dc14 pm14 cd14 ct14 : Value}
    (a14 : PySem.W.nsIn K mainGlobals "least_unit" = some (some (.ref f14))) (l14 : K.lookup f14 = some ⟨oc14, od14, .func (PySem.W.fnOf "least_unit" "least_unit" (defArgs s_least_unit) (defBody s_least_unit) (defScope s_least_unit) .none kV14 dc14 pm14 an14 cd14 ct14), sl14⟩) (c14 : PySem.W.codeIn K cd14 "least_unit" = true) (k14 : PySem.W.keepIn K (.ref f14) = true)
    {f15 : Addr} {od15 an15 : Option Addr} {sl15 : Array (Option Value)} {oc15 kV15 dc15 pm15 cd15 ct15 : Value}
    (a15 : PySem.W.nsIn K mainGlobals "is_norm" = some (some (.ref f15))) (l15 : K.lookup f15 = some ⟨oc15, od15, .func (PySem.W.fnOf "is_norm" "is_norm" (defArgs s_is_norm) (defBody s_is_norm) (defScope s_is_norm) .none kV15 dc15 pm15 an15 cd15 ct15), sl15⟩) (c15 : PySem.W.codeIn K cd15 "is_norm" = true) (k15 : PySem.W.keepIn K (.ref f15) = true)
    {f16 : Addr} {od16 an16 : Option Addr} {sl16 : Array (Option Value)} {oc16 kV16 dc16 pm16 cd16 ct16 : Value}
    (a16 : PySem.W.nsIn K mainGlobals "check_norm" = some (some (.ref f16))) (l16 : K.lookup f16 = some ⟨oc16, od16, .func (PySem.W.fnOf "check_norm" "check_norm" (defArgs s_check_norm) (defBody s_check_norm) (defScope s_check_norm) .none kV16 dc16 pm16 an16 cd16 ct16), sl16⟩) (c16 : PySem.W.codeIn K cd16 "check_norm" = true) (k16 : PySem.W.keepIn K (.ref f16) = true)
    {f17 : Addr} {od17 an17 : Option Addr} {sl17 : Array (Option Value)} {oc17 kV17 dc17 pm17 cd17 ct17 : Value}
    (a17 : PySem.W.nsIn K mainGlobals "check_both" = some (some (.ref f17))) (l17 : K.lookup f17 = some ⟨oc17, od17, .func (PySem.W.fnOf "check_both" "check_both" (defArgs s_check_both) (defBody s_check_both) (defScope s_check_both) .none kV17 dc17 pm17 an17 cd17 ct17), sl17⟩) (c17 : PySem.W.codeIn K cd17 "check_both" = true) (k17 : PySem.W.keepIn K (.ref f17) = true)
    {f18 : Addr} {od18 an18 : Option Addr} {sl18 : Array (Option Value)} {oc18 kV18 dc18 pm18 cd18 ct18 : Value}
    (a18 : PySem.W.nsIn K mainGlobals "bound_for" = some (some (.ref f18))) (l18 : K.lookup f18 = some ⟨oc18, od18, .func (PySem.W.fnOf "bound_for" "bound_for" (defArgs s_bound_for) (defBody s_bound_for) (defScope s_bound_for) .none kV18 dc18 pm18 an18 cd18 ct18), sl18⟩) (c18 : PySem.W.codeIn K cd18 "bound_for" = true) (k18 : PySem.W.keepIn K (.ref f18) = true)
    {f19 : Addr} {od19 an19 : Option Addr} {sl19 : Array (Option Value)} {oc19 kV19 dc19 pm19 cd19 ct19 : Value}
    (a19 : PySem.W.nsIn K mainGlobals "is_better" = some (some (.ref f19))) (l19 : K.lookup f19 = some ⟨oc19, od19, .func (PySem.W.fnOf "is_better" "is_better" (defArgs s_is_better) (defBody s_is_better) (defScope s_is_better) .none kV19 dc19 pm19 an19 cd19 ct19), sl19⟩) (c19 : PySem.W.codeIn K cd19 "is_better" = true) (k19 : PySem.W.keepIn K (.ref f19) = true)
    {f20 : Addr} {od20 an20 : Option Addr} {sl20 : Array (Option Value)} {oc20 kV20 dc20 pm20 cd20 ct20 : Value}
    (a20 : PySem.W.nsIn K mainGlobals "head_of" = some (some (.ref f20))) (l20 : K.lookup f20 = some ⟨oc20, od20, .func (PySem.W.fnOf "head_of" "head_of" (defArgs s_head_of) (defBody s_head_of) (defScope s_head_of) .none kV20 dc20 pm20 an20 cd20 ct20), sl20⟩) (c20 : PySem.W.codeIn K cd20 "head_of" = true) (k20 : PySem.W.keepIn K (.ref f20) = true)
    {f21 : Addr} {od21 an21 : Option Addr} {sl21 : Array (Option Value)} {oc21 kV21 dc21 pm21 cd21 ct21 : Value}
    (a21 : PySem.W.nsIn K mainGlobals "found_heads" = some (some (.ref f21))) (l21 : K.lookup f21 = some ⟨oc21, od21, .func (PySem.W.fnOf "found_heads" "found_heads" (defArgs s_found_heads) (defBody s_found_heads) (defScope s_found_heads) .none kV21 dc21 pm21 an21 cd21 ct21), sl21⟩) (c21 : PySem.W.codeIn K cd21 "found_heads" = true) (k21 : PySem.W.keepIn K (.ref f21) = true)
    {f22 : Addr} {od22 an22 : Option Addr} {sl22 : Array (Option Value)} {oc22 kV22 dc22 pm22 cd22 ct22 : Value}
    (a22 : PySem.W.nsIn K mainGlobals "heads" = some (some (.ref f22))) (l22 : K.lookup f22 = some ⟨oc22, od22, .func (PySem.W.fnOf "heads" "heads" (defArgs s_heads) (defBody s_heads) (defScope s_heads) .none kV22 dc22 pm22 an22 cd22 ct22), sl22⟩) (c22 : PySem.W.codeIn K cd22 "heads" = true) (k22 : PySem.W.keepIn K (.ref f22) = true)
    {f23 : Addr} {od23 an23 : Option Addr} {sl23 : Array (Option Value)} {oc23 kV23 dc23 pm23 cd23 ct23 : Value}
    (a23 : PySem.W.nsIn K mainGlobals "place_of" = some (some (.ref f23))) (l23 : K.lookup f23 = some ⟨oc23, od23, .func (PySem.W.fnOf "place_of" "place_of" (defArgs s_place_of) (defBody s_place_of) (defScope s_place_of) .none kV23 dc23 pm23 an23 cd23 ct23), sl23⟩) (c23 : PySem.W.codeIn K cd23 "place_of" = true) (k23 : PySem.W.keepIn K (.ref f23) = true)
    {f24 : Addr} {od24 an24 : Option Addr} {sl24 : Array (Option Value)} {oc24 kV24 dc24 pm24 cd24 ct24 : Value}
    (a24 : PySem.W.findIn K (.ref cS) "__init__" = some (some (.ref f24))) (i24 : PySem.W.isFn K (.ref f24) = true) (l24 : K.lookup f24 = some ⟨oc24, od24, .func (PySem.W.fnOf "__init__" "Session.__init__" (defArgs s_S_init) (defBody s_S_init) (defScope s_S_init) .none kV24 dc24 pm24 an24 cd24 ct24), sl24⟩) (c24 : PySem.W.codeIn K cd24 "Session.__init__" = true) (k24 : PySem.W.keepIn K (.ref f24) = true)
    {f25 : Addr} {od25 an25 : Option Addr} {sl25 : Array (Option Value)} {oc25 kV25 dc25 pm25 cd25 ct25 : Value}
    (a25 : PySem.W.findIn K (.ref cS) "__len__" = some (some (.ref f25))) (i25 : PySem.W.isFn K (.ref f25) = true) (l25 : K.lookup f25 = some ⟨oc25, od25, .func (PySem.W.fnOf "__len__" "Session.__len__" (defArgs s_S_len) (defBody s_S_len) (defScope s_S_len) .none kV25 dc25 pm25 an25 cd25 ct25), sl25⟩) (c25 : PySem.W.codeIn K cd25 "Session.__len__" = true) (k25 : PySem.W.keepIn K (.ref f25) = true)
    {f26 : Addr} {od26 an26 : Option Addr} {sl26 : Array (Option Value)} {oc26 kV26 dc26 pm26 cd26 ct26 : Value}
    (a26 : PySem.W.findIn K (.ref cS) "__eq__" = some (some (.ref f26))) (i26 : PySem.W.isFn K (.ref f26) = true) (l26 : K.lookup f26 = some ⟨oc26, od26, .func (PySem.W.fnOf "__eq__" "Session.__eq__" (defArgs s_S_eq) (defBody s_S_eq) (defScope s_S_eq) .none kV26 dc26 pm26 an26 cd26 ct26), sl26⟩) (c26 : PySem.W.codeIn K cd26 "Session.__eq__" = true) (k26 : PySem.W.keepIn K (.ref f26) = true)
    {f27 : Addr} {od27 an27 : Option Addr} {sl27 : Array (Option Value)} {oc27 kV27 dc27 pm27 cd27 ct27 : Value}
    (a27 : PySem.W.findIn K (.ref cS) "__str__" = some (some (.ref f27))) (i27 : PySem.W.isFn K (.ref f27) = true) (l27 : K.lookup f27 = some ⟨oc27, od27, .func (PySem.W.fnOf "__str__" "Session.__str__" (defArgs s_S_str) (defBody s_S_str) (defScope s_S_str) .none kV27 dc27 pm27 an27 cd27 ct27), sl27⟩) (c27 : PySem.W.codeIn K cd27 "Session.__str__" = true) (k27 : PySem.W.keepIn K (.ref f27) = true)
    {f28 : Addr} {od28 an28 : Option Addr} {sl28 : Array (Option Value)} {oc28 kV28 dc28 pm28 cd28 ct28 : Value}
    (a28 : PySem.W.findIn K (.ref cS) "perform" = some (some (.ref f28))) (i28 : PySem.W.isFn K (.ref f28) = true) (l28 : K.lookup f28 = some ⟨oc28, od28, .func (PySem.W.fnOf "perform" "Session.perform" (defArgs s_S_perform) (defBody s_S_perform) (defScope s_S_perform) .none kV28 dc28 pm28 an28 cd28 ct28), sl28⟩) (c28 : PySem.W.codeIn K cd28 "Session.perform" = true) (k28 : PySem.W.keepIn K (.ref f28) = true)
    {f29 : Addr} {od29 an29 : Option Addr} {sl29 : Array (Option Value)} {oc29 kV29 dc29 pm29 cd29 ct29 : Value}
    (a29 : PySem.W.findIn K (.ref cS) "up" = some (some (.ref f29))) (i29 : PySem.W.isFn K (.ref f29) = true) (l29 : K.lookup f29 = some ⟨oc29, od29, .func (PySem.W.fnOf "up" "Session.up" (defArgs s_S_up) (defBody s_S_up) (defScope s_S_up) .none kV29 dc29 pm29 an29 cd29 ct29), sl29⟩) (c29 : PySem.W.codeIn K cd29 "Session.up" = true) (k29 : PySem.W.keepIn K (.ref f29) = true)
    {f30 : Addr} {od30 an30 : Option Addr} {sl30 : Array (Option Value)} {oc30 kV30 dc30 pm30 cd30 ct30 : Value}
    (a30 : PySem.W.findIn K (.ref cS) "down" = some (some (.ref f30))) (i30 : PySem.W.isFn K (.ref f30) = true) (l30 : K.lookup f30 = some ⟨oc30, od30, .func (PySem.W.fnOf "down" "Session.down" (defArgs s_S_down) (defBody s_S_down) (defScope s_S_down) .none kV30 dc30 pm30 an30 cd30 ct30), sl30⟩) (c30 : PySem.W.codeIn K cd30 "Session.down" = true) (k30 : PySem.W.keepIn K (.ref f30) = true)
    {f31 : Addr} {od31 an31 : Option Addr} {sl31 : Array (Option Value)} {oc31 kV31 dc31 pm31 cd31 ct31 : Value}
    (a31 : PySem.W.findIn K (.ref cS) "choose" = some (some (.ref f31))) (i31 : PySem.W.isFn K (.ref f31) = true) (l31 : K.lookup f31 = some ⟨oc31, od31, .func (PySem.W.fnOf "choose" "Session.choose" (defArgs s_S_choose) (defBody s_S_choose) (defScope s_S_choose) .none kV31 dc31 pm31 an31 cd31 ct31), sl31⟩) (c31 : PySem.W.codeIn K cd31 "Session.choose" = true) (k31 : PySem.W.keepIn K (.ref f31) = true)
    {f32 : Addr} {od32 an32 : Option Addr} {sl32 : Array (Option Value)} {oc32 kV32 dc32 pm32 cd32 ct32 : Value}
    (a32 : PySem.W.findIn K (.ref cS) "solution" = some (some (.ref f32))) (i32 : PySem.W.isFn K (.ref f32) = true) (l32 : K.lookup f32 = some ⟨oc32, od32, .func (PySem.W.fnOf "solution" "Session.solution" (defArgs s_S_solution) (defBody s_S_solution) (defScope s_S_solution) .none kV32 dc32 pm32 an32 cd32 ct32), sl32⟩) (c32 : PySem.W.codeIn K cd32 "Session.solution" = true) (k32 : PySem.W.keepIn K (.ref f32) = true)
    {f33 : Addr} {od33 an33 : Option Addr} {sl33 : Array (Option Value)} {oc33 kV33 dc33 pm33 cd33 ct33 : Value}
    (a33 : PySem.W.findIn K (.ref cS) "number" = some (some (.ref f33))) (i33 : PySem.W.isFn K (.ref f33) = true) (l33 : K.lookup f33 = some ⟨oc33, od33, .func (PySem.W.fnOf "number" "Session.number" (defArgs s_S_number) (defBody s_S_number) (defScope s_S_number) .none kV33 dc33 pm33 an33 cd33 ct33), sl33⟩) (c33 : PySem.W.codeIn K cd33 "Session.number" = true) (k33 : PySem.W.keepIn K (.ref f33) = true)
    {f34 : Addr} {od34 an34 : Option Addr} {sl34 : Array (Option Value)} {oc34 kV34 dc34 pm34 cd34 ct34 : Value}
    (a34 : PySem.W.findIn K (.ref cS) "undo" = some (some (.ref f34))) (i34 : PySem.W.isFn K (.ref f34) = true) (l34 : K.lookup f34 = some ⟨oc34, od34, .func (PySem.W.fnOf "undo" "Session.undo" (defArgs s_S_undo) (defBody s_S_undo) (defScope s_S_undo) .none kV34 dc34 pm34 an34 cd34 ct34), sl34⟩) (c34 : PySem.W.codeIn K cd34 "Session.undo" = true) (k34 : PySem.W.keepIn K (.ref f34) = true)
    {f35 : Addr} {od35 an35 : Option Addr} {sl35 : Array (Option Value)} {oc35 kV35 dc35 pm35 cd35 ct35 : Value}
    (a35 : PySem.W.findIn K (.ref cS) "redo" = some (some (.ref f35))) (i35 : PySem.W.isFn K (.ref f35) = true) (l35 : K.lookup f35 = some ⟨oc35, od35, .func (PySem.W.fnOf "redo" "Session.redo" (defArgs s_S_redo) (defBody s_S_redo) (defScope s_S_redo) .none kV35 dc35 pm35 an35 cd35 ct35), sl35⟩) (c35 : PySem.W.codeIn K cd35 "Session.redo" = true) (k35 : PySem.W.keepIn K (.ref f35) = true)
    {f36 : Addr} {od36 an36 : Option Addr} {sl36 : Array (Option Value)} {oc36 kV36 dc36 pm36 cd36 ct36 : Value}
    (a36 : PySem.W.nsIn K mainGlobals "has_solution" = some (some (.ref f36))) (l36 : K.lookup f36 = some ⟨oc36, od36, .func (PySem.W.fnOf "has_solution" "has_solution" (defArgs s_has_solution) (defBody s_has_solution) (defScope s_has_solution) .none kV36 dc36 pm36 an36 cd36 ct36), sl36⟩) (c36 : PySem.W.codeIn K cd36 "has_solution" = true) (k36 : PySem.W.keepIn K (.ref f36) = true)
    {f37 : Addr} {od37 an37 : Option Addr} {sl37 : Array (Option Value)} {oc37 kV37 dc37 pm37 cd37 ct37 : Value}
    (a37 : PySem.W.nsIn K mainGlobals "_law_town" = some (some (.ref f37))) (l37 : K.lookup f37 = some ⟨oc37, od37, .func (PySem.W.fnOf "_law_town" "_law_town" (defArgs s_law_town) (defBody s_law_town) (defScope s_law_town) .none kV37 dc37 pm37 an37 cd37 ct37), sl37⟩) (c37 : PySem.W.codeIn K cd37 "_law_town" = true) (k37 : PySem.W.keepIn K (.ref f37) = true)
    {f38 : Addr} {od38 an38 : Option Addr} {sl38 : Array (Option Value)} {oc38 kV38 dc38 pm38 cd38 ct38 : Value}
    (a38 : PySem.W.nsIn K mainGlobals "_law_draw" = some (some (.ref f38))) (l38 : K.lookup f38 = some ⟨oc38, od38, .func (PySem.W.fnOf "_law_draw" "_law_draw" (defArgs s_law_draw) (defBody s_law_draw) (defScope s_law_draw) .none kV38 dc38 pm38 an38 cd38 ct38), sl38⟩) (c38 : PySem.W.codeIn K cd38 "_law_draw" = true) (k38 : PySem.W.keepIn K (.ref f38) = true)
    {f39 : Addr} {od39 an39 : Option Addr} {sl39 : Array (Option Value)} {oc39 kV39 dc39 pm39 cd39 ct39 : Value}
    (a39 : PySem.W.nsIn K mainGlobals "_law_pick" = some (some (.ref f39))) (l39 : K.lookup f39 = some ⟨oc39, od39, .func (PySem.W.fnOf "_law_pick" "_law_pick" (defArgs s_law_pick) (defBody s_law_pick) (defScope s_law_pick) .none kV39 dc39 pm39 an39 cd39 ct39), sl39⟩) (c39 : PySem.W.codeIn K cd39 "_law_pick" = true) (k39 : PySem.W.keepIn K (.ref f39) = true)
    {f40 : Addr} {od40 an40 : Option Addr} {sl40 : Array (Option Value)} {oc40 kV40 dc40 pm40 cd40 ct40 : Value}
    (a40 : PySem.W.nsIn K mainGlobals "_law_name" = some (some (.ref f40))) (l40 : K.lookup f40 = some ⟨oc40, od40, .func (PySem.W.fnOf "_law_name" "_law_name" (defArgs s_law_name) (defBody s_law_name) (defScope s_law_name) .none kV40 dc40 pm40 an40 cd40 ct40), sl40⟩) (c40 : PySem.W.codeIn K cd40 "_law_name" = true) (k40 : PySem.W.keepIn K (.ref f40) = true)
    {f41 : Addr} {od41 an41 : Option Addr} {sl41 : Array (Option Value)} {oc41 kV41 dc41 pm41 cd41 ct41 : Value}
    (a41 : PySem.W.nsIn K mainGlobals "_law_raises" = some (some (.ref f41))) (l41 : K.lookup f41 = some ⟨oc41, od41, .func (PySem.W.fnOf "_law_raises" "_law_raises" (defArgs s_law_raises) (defBody s_law_raises) (defScope s_law_raises) .none kV41 dc41 pm41 an41 cd41 ct41), sl41⟩) (c41 : PySem.W.codeIn K cd41 "_law_raises" = true) (k41 : PySem.W.keepIn K (.ref f41) = true)
    {f42 : Addr} {od42 an42 : Option Addr} {sl42 : Array (Option Value)} {oc42 kV42 dc42 pm42 cd42 ct42 : Value}
    (a42 : PySem.W.nsIn K mainGlobals "_law_d" = some (some (.ref f42))) (l42 : K.lookup f42 = some ⟨oc42, od42, .func (PySem.W.fnOf "_law_d" "_law_d" (defArgs s_law_d) (defBody s_law_d) (defScope s_law_d) .none kV42 dc42 pm42 an42 cd42 ct42), sl42⟩) (c42 : PySem.W.codeIn K cd42 "_law_d" = true) (k42 : PySem.W.keepIn K (.ref f42) = true)
    {f43 : Addr} {od43 an43 : Option Addr} {sl43 : Array (Option Value)} {oc43 kV43 dc43 pm43 cd43 ct43 : Value}
    (a43 : PySem.W.nsIn K mainGlobals "_law_n" = some (some (.ref f43))) (l43 : K.lookup f43 = some ⟨oc43, od43, .func (PySem.W.fnOf "_law_n" "_law_n" (defArgs s_law_n) (defBody s_law_n) (defScope s_law_n) .none kV43 dc43 pm43 an43 cd43 ct43), sl43⟩) (c43 : PySem.W.codeIn K cd43 "_law_n" = true) (k43 : PySem.W.keepIn K (.ref f43) = true)
    {f44 : Addr} {od44 an44 : Option Addr} {sl44 : Array (Option Value)} {oc44 kV44 dc44 pm44 cd44 ct44 : Value}
    (a44 : PySem.W.nsIn K mainGlobals "_law_times" = some (some (.ref f44))) (l44 : K.lookup f44 = some ⟨oc44, od44, .func (PySem.W.fnOf "_law_times" "_law_times" (defArgs s_law_times) (defBody s_law_times) (defScope s_law_times) .none kV44 dc44 pm44 an44 cd44 ct44), sl44⟩) (c44 : PySem.W.codeIn K cd44 "_law_times" = true) (k44 : PySem.W.keepIn K (.ref f44) = true)
    {f45 : Addr} {od45 an45 : Option Addr} {sl45 : Array (Option Value)} {oc45 kV45 dc45 pm45 cd45 ct45 : Value}
    (a45 : PySem.W.nsIn K mainGlobals "_law_edit" = some (some (.ref f45))) (l45 : K.lookup f45 = some ⟨oc45, od45, .func (PySem.W.fnOf "_law_edit" "_law_edit" (defArgs s_law_edit) (defBody s_law_edit) (defScope s_law_edit) .none kV45 dc45 pm45 an45 cd45 ct45), sl45⟩) (c45 : PySem.W.codeIn K cd45 "_law_edit" = true) (k45 : PySem.W.keepIn K (.ref f45) = true)
    {f46 : Addr} {od46 an46 : Option Addr} {sl46 : Array (Option Value)} {oc46 kV46 dc46 pm46 cd46 ct46 : Value}
    (a46 : PySem.W.nsIn K mainGlobals "_law_do" = some (some (.ref f46))) (l46 : K.lookup f46 = some ⟨oc46, od46, .func (PySem.W.fnOf "_law_do" "_law_do" (defArgs s_law_do) (defBody s_law_do) (defScope s_law_do) .none kV46 dc46 pm46 an46 cd46 ct46), sl46⟩) (c46 : PySem.W.codeIn K cd46 "_law_do" = true) (k46 : PySem.W.keepIn K (.ref f46) = true)
    {f47 : Addr} {od47 an47 : Option Addr} {sl47 : Array (Option Value)} {oc47 kV47 dc47 pm47 cd47 ct47 : Value}
    (a47 : PySem.W.nsIn K mainGlobals "_law_back" = some (some (.ref f47))) (l47 : K.lookup f47 = some ⟨oc47, od47, .func (PySem.W.fnOf "_law_back" "_law_back" (defArgs s_law_back) (defBody s_law_back) (defScope s_law_back) .none kV47 dc47 pm47 an47 cd47 ct47), sl47⟩) (c47 : PySem.W.codeIn K cd47 "_law_back" = true) (k47 : PySem.W.keepIn K (.ref f47) = true)
    {f48 : Addr} {od48 an48 : Option Addr} {sl48 : Array (Option Value)} {oc48 kV48 dc48 pm48 cd48 ct48 : Value}
    (a48 : PySem.W.nsIn K mainGlobals "_law_equation" = some (some (.ref f48))) (l48 : K.lookup f48 = some ⟨oc48, od48, .func (PySem.W.fnOf "_law_equation" "_law_equation" (defArgs s_law_equation) (defBody s_law_equation) (defScope s_law_equation) .none kV48 dc48 pm48 an48 cd48 ct48), sl48⟩) (c48 : PySem.W.codeIn K cd48 "_law_equation" = true) (k48 : PySem.W.keepIn K (.ref f48) = true)
    {f49 : Addr} {od49 an49 : Option Addr} {sl49 : Array (Option Value)} {oc49 kV49 dc49 pm49 cd49 ct49 : Value}
    (a49 : PySem.W.nsIn K mainGlobals "_law_call" = some (some (.ref f49))) (l49 : K.lookup f49 = some ⟨oc49, od49, .func (PySem.W.fnOf "_law_call" "_law_call" (defArgs s_law_call) (defBody s_law_call) (defScope s_law_call) .none kV49 dc49 pm49 an49 cd49 ct49), sl49⟩) (c49 : PySem.W.codeIn K cd49 "_law_call" = true) (k49 : PySem.W.keepIn K (.ref f49) = true)
    {f50 : Addr} {od50 an50 : Option Addr} {sl50 : Array (Option Value)} {oc50 kV50 dc50 pm50 cd50 ct50 : Value}
    (a50 : PySem.W.nsIn K mainGlobals "_law_outcome" = some (some (.ref f50))) (l50 : K.lookup f50 = some ⟨oc50, od50, .func (PySem.W.fnOf "_law_outcome" "_law_outcome" (defArgs s_law_outcome) (defBody s_law_outcome) (defScope s_law_outcome) .none kV50 dc50 pm50 an50 cd50 ct50), sl50⟩) (c50 : PySem.W.codeIn K cd50 "_law_outcome" = true) (k50 : PySem.W.keepIn K (.ref f50) = true)
    {f51 : Addr} {od51 an51 : Option Addr} {sl51 : Array (Option Value)} {oc51 kV51 dc51 pm51 cd51 ct51 : Value}
    (a51 : PySem.W.nsIn K mainGlobals "law" = some (some (.ref f51))) (l51 : K.lookup f51 = some ⟨oc51, od51, .func (PySem.W.fnOf "law" "law" (defArgs s_law) (defBody s_law) (defScope s_law) .none kV51 dc51 pm51 an51 cd51 ct51), sl51⟩) (c51 : PySem.W.codeIn K cd51 "law" = true) (k51 : PySem.W.keepIn K (.ref f51) = true)
    (zS : PySem.W.nsIn K mainGlobals "Session" = some (some (.ref cS))) (zpg : PySem.W.plainGet K cS Str.empty = true) (zhd : PySem.W.hasDictIn K cS = true) (zpo : PySem.W.plainOver K cS = true) (zsa : PySem.W.findIn K (.ref cS) "__setattr__" = some (some (.builtin "object.__setattr__"))) (zmk : PySem.W.makesIn K cS = true) (zkc : PySem.W.keepIn K (.ref cS) = true)
    (zn_equation : PySem.W.findIn K (.ref cS) "equation" = some none) (zn_starts : PySem.W.findIn K (.ref cS) "starts" = some none) (zn_current : PySem.W.findIn K (.ref cS) "current" = some none) (zn_earlier : PySem.W.findIn K (.ref cS) "earlier" = some none) (zn_done : PySem.W.findIn K (.ref cS) "done" = some none) (zn_undone : PySem.W.findIn K (.ref cS) "undone" = some none)
    (zne : PySem.W.findIn K (.ref cS) "__ne__" = some (some (.builtin "object.__ne__"))) (zmo : PySem.W.mroIn K cS (.type "object") = some true) (zca : PySem.W.findIn K (.ref cS) "__class__" = some (some (.builtin "object.__class__"))) (zcg : PySem.W.specialIn K (.builtin "object.__class__") "__get__" = some (some (.builtin "getset_descriptor.__get__"))) (zct : PySem.W.takesIn K (.builtin "object.__class__") = some true) (zty : PySem.W.typeIn K (.ref cS) = some (.type "type")) (zsb : PySem.W.subIn K (.ref cS) (.ref cS) = some true)
    (z_ValueError : PySem.W.nsIn K mainGlobals "ValueError" = some none)
    (z_abs : PySem.W.nsIn K mainGlobals "abs" = some none)
    (z_all : PySem.W.nsIn K mainGlobals "all" = some none)
    (z_bool : PySem.W.nsIn K mainGlobals "bool" = some none)
    (z_int : PySem.W.nsIn K mainGlobals "int" = some none)
    (z_isinstance : PySem.W.nsIn K mainGlobals "isinstance" = some none)
    (z_len : PySem.W.nsIn K mainGlobals "len" = some none)
    (z_list : PySem.W.nsIn K mainGlobals "list" = some none)
    (z_max : PySem.W.nsIn K mainGlobals "max" = some none)
    (z_range : PySem.W.nsIn K mainGlobals "range" = some none)
    (z_sorted : PySem.W.nsIn K mainGlobals "sorted" = some none)
    (z_str : PySem.W.nsIn K mainGlobals "str" = some none)
    (z_tuple : PySem.W.nsIn K mainGlobals "tuple" = some none)
    {t_GREAT : Tok} (z_GREAT : PySem.W.nsIn K mainGlobals "GREAT" = some (some (.int (1000000000000000000000000000000000000000000000000000000000000) t_GREAT)))
    {c_NormError : Addr} (zg_NormError : PySem.W.nsIn K mainGlobals "NormError" = some (some (.ref c_NormError))) (zb_NormError : PySem.W.subIn K (.ref c_NormError) (.type "BaseException") = some true) (ze3_NormError : PySem.W.hasDictIn K c_NormError = true) (zt_NormError : PySem.W.typeIn K (.ref c_NormError) = some (.type "type"))
    {c_InvalidRoot : Addr} (zg_InvalidRoot : PySem.W.nsIn K mainGlobals "InvalidRoot" = some (some (.ref c_InvalidRoot))) (zx_InvalidRoot : PySem.W.excIn K c_InvalidRoot [.type "ValueError", .type "Exception", .type "BaseException", .type "object"] "ValueError.__new__" = true) (zk_InvalidRoot : PySem.W.keepIn K (.ref c_InvalidRoot) = true) (zb_InvalidRoot : PySem.W.subIn K (.ref c_InvalidRoot) (.type "BaseException") = some true) (zt_InvalidRoot : PySem.W.typeIn K (.ref c_InvalidRoot) = some (.type "type")) (ze1_InvalidRoot : PySem.W.findIn K (.ref c_InvalidRoot) "__getattribute__" = some (some (.builtin "BaseException.__getattribute__"))) (ze2_InvalidRoot : PySem.W.findIn K (.ref c_InvalidRoot) "__getattr__" = some none) (ze3_InvalidRoot : PySem.W.hasDictIn K c_InvalidRoot = true) (ze4_InvalidRoot : PySem.W.findIn K (.ref c_InvalidRoot) "__class__" = some (some (.builtin "object.__class__"))) (ze5_InvalidRoot : PySem.W.mroIn K c_InvalidRoot (.type "object") = some true) (zv_InvalidRoot : PySem.W.subIn K (.ref c_InvalidRoot) (.type "ValueError") = some true) (zn_InvalidRoot : PySem.W.subIn K (.ref c_InvalidRoot) (.ref c_NormError) = some true)
    {c_InvalidNorm : Addr} (zg_InvalidNorm : PySem.W.nsIn K mainGlobals "InvalidNorm" = some (some (.ref c_InvalidNorm))) (zx_InvalidNorm : PySem.W.excIn K c_InvalidNorm [.type "ValueError", .type "Exception", .type "BaseException", .type "object"] "ValueError.__new__" = true) (zk_InvalidNorm : PySem.W.keepIn K (.ref c_InvalidNorm) = true) (zb_InvalidNorm : PySem.W.subIn K (.ref c_InvalidNorm) (.type "BaseException") = some true) (zt_InvalidNorm : PySem.W.typeIn K (.ref c_InvalidNorm) = some (.type "type")) (ze1_InvalidNorm : PySem.W.findIn K (.ref c_InvalidNorm) "__getattribute__" = some (some (.builtin "BaseException.__getattribute__"))) (ze2_InvalidNorm : PySem.W.findIn K (.ref c_InvalidNorm) "__getattr__" = some none) (ze3_InvalidNorm : PySem.W.hasDictIn K c_InvalidNorm = true) (ze4_InvalidNorm : PySem.W.findIn K (.ref c_InvalidNorm) "__class__" = some (some (.builtin "object.__class__"))) (ze5_InvalidNorm : PySem.W.mroIn K c_InvalidNorm (.type "object") = some true) (zv_InvalidNorm : PySem.W.subIn K (.ref c_InvalidNorm) (.type "ValueError") = some true) (zn_InvalidNorm : PySem.W.subIn K (.ref c_InvalidNorm) (.ref c_NormError) = some true)
    {c_InvalidPair : Addr} (zg_InvalidPair : PySem.W.nsIn K mainGlobals "InvalidPair" = some (some (.ref c_InvalidPair))) (zx_InvalidPair : PySem.W.excIn K c_InvalidPair [.type "ValueError", .type "Exception", .type "BaseException", .type "object"] "ValueError.__new__" = true) (zk_InvalidPair : PySem.W.keepIn K (.ref c_InvalidPair) = true) (zb_InvalidPair : PySem.W.subIn K (.ref c_InvalidPair) (.type "BaseException") = some true) (zt_InvalidPair : PySem.W.typeIn K (.ref c_InvalidPair) = some (.type "type")) (ze1_InvalidPair : PySem.W.findIn K (.ref c_InvalidPair) "__getattribute__" = some (some (.builtin "BaseException.__getattribute__"))) (ze2_InvalidPair : PySem.W.findIn K (.ref c_InvalidPair) "__getattr__" = some none) (ze3_InvalidPair : PySem.W.hasDictIn K c_InvalidPair = true) (ze4_InvalidPair : PySem.W.findIn K (.ref c_InvalidPair) "__class__" = some (some (.builtin "object.__class__"))) (ze5_InvalidPair : PySem.W.mroIn K c_InvalidPair (.type "object") = some true) (zv_InvalidPair : PySem.W.subIn K (.ref c_InvalidPair) (.type "ValueError") = some true) (zn_InvalidPair : PySem.W.subIn K (.ref c_InvalidPair) (.ref c_NormError) = some true)
    {c_InvalidNumber : Addr} (zg_InvalidNumber : PySem.W.nsIn K mainGlobals "InvalidNumber" = some (some (.ref c_InvalidNumber))) (zx_InvalidNumber : PySem.W.excIn K c_InvalidNumber [.type "ValueError", .type "Exception", .type "BaseException", .type "object"] "ValueError.__new__" = true) (zk_InvalidNumber : PySem.W.keepIn K (.ref c_InvalidNumber) = true) (zb_InvalidNumber : PySem.W.subIn K (.ref c_InvalidNumber) (.type "BaseException") = some true) (zt_InvalidNumber : PySem.W.typeIn K (.ref c_InvalidNumber) = some (.type "type")) (ze1_InvalidNumber : PySem.W.findIn K (.ref c_InvalidNumber) "__getattribute__" = some (some (.builtin "BaseException.__getattribute__"))) (ze2_InvalidNumber : PySem.W.findIn K (.ref c_InvalidNumber) "__getattr__" = some none) (ze3_InvalidNumber : PySem.W.hasDictIn K c_InvalidNumber = true) (ze4_InvalidNumber : PySem.W.findIn K (.ref c_InvalidNumber) "__class__" = some (some (.builtin "object.__class__"))) (ze5_InvalidNumber : PySem.W.mroIn K c_InvalidNumber (.type "object") = some true) (zv_InvalidNumber : PySem.W.subIn K (.ref c_InvalidNumber) (.type "ValueError") = some true) (zn_InvalidNumber : PySem.W.subIn K (.ref c_InvalidNumber) (.ref c_NormError) = some true)
    {c_InvalidModulus : Addr} (zg_InvalidModulus : PySem.W.nsIn K mainGlobals "InvalidModulus" = some (some (.ref c_InvalidModulus))) (zx_InvalidModulus : PySem.W.excIn K c_InvalidModulus [.type "ValueError", .type "Exception", .type "BaseException", .type "object"] "ValueError.__new__" = true) (zk_InvalidModulus : PySem.W.keepIn K (.ref c_InvalidModulus) = true) (zb_InvalidModulus : PySem.W.subIn K (.ref c_InvalidModulus) (.type "BaseException") = some true) (zt_InvalidModulus : PySem.W.typeIn K (.ref c_InvalidModulus) = some (.type "type")) (ze1_InvalidModulus : PySem.W.findIn K (.ref c_InvalidModulus) "__getattribute__" = some (some (.builtin "BaseException.__getattribute__"))) (ze2_InvalidModulus : PySem.W.findIn K (.ref c_InvalidModulus) "__getattr__" = some none) (ze3_InvalidModulus : PySem.W.hasDictIn K c_InvalidModulus = true) (ze4_InvalidModulus : PySem.W.findIn K (.ref c_InvalidModulus) "__class__" = some (some (.builtin "object.__class__"))) (ze5_InvalidModulus : PySem.W.mroIn K c_InvalidModulus (.type "object") = some true) (zv_InvalidModulus : PySem.W.subIn K (.ref c_InvalidModulus) (.type "ValueError") = some true) (zn_InvalidModulus : PySem.W.subIn K (.ref c_InvalidModulus) (.ref c_NormError) = some true)
    {c_InvalidRests : Addr} (zg_InvalidRests : PySem.W.nsIn K mainGlobals "InvalidRests" = some (some (.ref c_InvalidRests))) (zx_InvalidRests : PySem.W.excIn K c_InvalidRests [.type "ValueError", .type "Exception", .type "BaseException", .type "object"] "ValueError.__new__" = true) (zk_InvalidRests : PySem.W.keepIn K (.ref c_InvalidRests) = true) (zb_InvalidRests : PySem.W.subIn K (.ref c_InvalidRests) (.type "BaseException") = some true) (zt_InvalidRests : PySem.W.typeIn K (.ref c_InvalidRests) = some (.type "type")) (ze1_InvalidRests : PySem.W.findIn K (.ref c_InvalidRests) "__getattribute__" = some (some (.builtin "BaseException.__getattribute__"))) (ze2_InvalidRests : PySem.W.findIn K (.ref c_InvalidRests) "__getattr__" = some none) (ze3_InvalidRests : PySem.W.hasDictIn K c_InvalidRests = true) (ze4_InvalidRests : PySem.W.findIn K (.ref c_InvalidRests) "__class__" = some (some (.builtin "object.__class__"))) (ze5_InvalidRests : PySem.W.mroIn K c_InvalidRests (.type "object") = some true) (zv_InvalidRests : PySem.W.subIn K (.ref c_InvalidRests) (.type "ValueError") = some true) (zn_InvalidRests : PySem.W.subIn K (.ref c_InvalidRests) (.ref c_NormError) = some true)
    {c_InvalidText : Addr} (zg_InvalidText : PySem.W.nsIn K mainGlobals "InvalidText" = some (some (.ref c_InvalidText))) (zx_InvalidText : PySem.W.excIn K c_InvalidText [.type "ValueError", .type "Exception", .type "BaseException", .type "object"] "ValueError.__new__" = true) (zk_InvalidText : PySem.W.keepIn K (.ref c_InvalidText) = true) (zb_InvalidText : PySem.W.subIn K (.ref c_InvalidText) (.type "BaseException") = some true) (zt_InvalidText : PySem.W.typeIn K (.ref c_InvalidText) = some (.type "type")) (ze1_InvalidText : PySem.W.findIn K (.ref c_InvalidText) "__getattribute__" = some (some (.builtin "BaseException.__getattribute__"))) (ze2_InvalidText : PySem.W.findIn K (.ref c_InvalidText) "__getattr__" = some none) (ze3_InvalidText : PySem.W.hasDictIn K c_InvalidText = true) (ze4_InvalidText : PySem.W.findIn K (.ref c_InvalidText) "__class__" = some (some (.builtin "object.__class__"))) (ze5_InvalidText : PySem.W.mroIn K c_InvalidText (.type "object") = some true) (zv_InvalidText : PySem.W.subIn K (.ref c_InvalidText) (.type "ValueError") = some true) (zn_InvalidText : PySem.W.subIn K (.ref c_InvalidText) (.ref c_NormError) = some true)
    {c_NoSolution : Addr} (zg_NoSolution : PySem.W.nsIn K mainGlobals "NoSolution" = some (some (.ref c_NoSolution))) (zx_NoSolution : PySem.W.excIn K c_NoSolution [.type "ValueError", .type "Exception", .type "BaseException", .type "object"] "ValueError.__new__" = true) (zk_NoSolution : PySem.W.keepIn K (.ref c_NoSolution) = true) (zb_NoSolution : PySem.W.subIn K (.ref c_NoSolution) (.type "BaseException") = some true) (zt_NoSolution : PySem.W.typeIn K (.ref c_NoSolution) = some (.type "type")) (ze1_NoSolution : PySem.W.findIn K (.ref c_NoSolution) "__getattribute__" = some (some (.builtin "BaseException.__getattribute__"))) (ze2_NoSolution : PySem.W.findIn K (.ref c_NoSolution) "__getattr__" = some none) (ze3_NoSolution : PySem.W.hasDictIn K c_NoSolution = true) (ze4_NoSolution : PySem.W.findIn K (.ref c_NoSolution) "__class__" = some (some (.builtin "object.__class__"))) (ze5_NoSolution : PySem.W.mroIn K c_NoSolution (.type "object") = some true) (zv_NoSolution : PySem.W.subIn K (.ref c_NoSolution) (.type "ValueError") = some true) (zn_NoSolution : PySem.W.subIn K (.ref c_NoSolution) (.ref c_NormError) = some true)
    {c_NothingToUndo : Addr} (zg_NothingToUndo : PySem.W.nsIn K mainGlobals "NothingToUndo" = some (some (.ref c_NothingToUndo))) (zx_NothingToUndo : PySem.W.excIn K c_NothingToUndo [.type "ValueError", .type "Exception", .type "BaseException", .type "object"] "ValueError.__new__" = true) (zk_NothingToUndo : PySem.W.keepIn K (.ref c_NothingToUndo) = true) (zb_NothingToUndo : PySem.W.subIn K (.ref c_NothingToUndo) (.type "BaseException") = some true) (zt_NothingToUndo : PySem.W.typeIn K (.ref c_NothingToUndo) = some (.type "type")) (ze1_NothingToUndo : PySem.W.findIn K (.ref c_NothingToUndo) "__getattribute__" = some (some (.builtin "BaseException.__getattribute__"))) (ze2_NothingToUndo : PySem.W.findIn K (.ref c_NothingToUndo) "__getattr__" = some none) (ze3_NothingToUndo : PySem.W.hasDictIn K c_NothingToUndo = true) (ze4_NothingToUndo : PySem.W.findIn K (.ref c_NothingToUndo) "__class__" = some (some (.builtin "object.__class__"))) (ze5_NothingToUndo : PySem.W.mroIn K c_NothingToUndo (.type "object") = some true) (zv_NothingToUndo : PySem.W.subIn K (.ref c_NothingToUndo) (.type "ValueError") = some true) (zn_NothingToUndo : PySem.W.subIn K (.ref c_NothingToUndo) (.ref c_NormError) = some true)
    (zh1 : PySem.W.specialIn K (.builtin "object.__class__") "__get__" = some (some (.builtin "getset_descriptor.__get__"))) (zh2 : PySem.W.takesIn K (.builtin "object.__class__") = some true)
    (zi_InvalidRoot_InvalidRoot : PySem.W.subIn K (.ref c_InvalidRoot) (.ref c_InvalidRoot) = some true)
    (zi_InvalidRoot_InvalidNorm : PySem.W.subIn K (.ref c_InvalidRoot) (.ref c_InvalidNorm) = some false)
    (zi_InvalidRoot_InvalidPair : PySem.W.subIn K (.ref c_InvalidRoot) (.ref c_InvalidPair) = some false)
    (zi_InvalidRoot_InvalidNumber : PySem.W.subIn K (.ref c_InvalidRoot) (.ref c_InvalidNumber) = some false)
    (zi_InvalidRoot_InvalidModulus : PySem.W.subIn K (.ref c_InvalidRoot) (.ref c_InvalidModulus) = some false)
    (zi_InvalidRoot_InvalidRests : PySem.W.subIn K (.ref c_InvalidRoot) (.ref c_InvalidRests) = some false)
    (zi_InvalidRoot_InvalidText : PySem.W.subIn K (.ref c_InvalidRoot) (.ref c_InvalidText) = some false)
    (zi_InvalidRoot_NoSolution : PySem.W.subIn K (.ref c_InvalidRoot) (.ref c_NoSolution) = some false)
    (zi_InvalidRoot_NothingToUndo : PySem.W.subIn K (.ref c_InvalidRoot) (.ref c_NothingToUndo) = some false)
    (zi_InvalidNorm_InvalidRoot : PySem.W.subIn K (.ref c_InvalidNorm) (.ref c_InvalidRoot) = some false)
    (zi_InvalidNorm_InvalidNorm : PySem.W.subIn K (.ref c_InvalidNorm) (.ref c_InvalidNorm) = some true)
    (zi_InvalidNorm_InvalidPair : PySem.W.subIn K (.ref c_InvalidNorm) (.ref c_InvalidPair) = some false)
    (zi_InvalidNorm_InvalidNumber : PySem.W.subIn K (.ref c_InvalidNorm) (.ref c_InvalidNumber) = some false)
    (zi_InvalidNorm_InvalidModulus : PySem.W.subIn K (.ref c_InvalidNorm) (.ref c_InvalidModulus) = some false)
    (zi_InvalidNorm_InvalidRests : PySem.W.subIn K (.ref c_InvalidNorm) (.ref c_InvalidRests) = some false)
    (zi_InvalidNorm_InvalidText : PySem.W.subIn K (.ref c_InvalidNorm) (.ref c_InvalidText) = some false)
    (zi_InvalidNorm_NoSolution : PySem.W.subIn K (.ref c_InvalidNorm) (.ref c_NoSolution) = some false)
    (zi_InvalidNorm_NothingToUndo : PySem.W.subIn K (.ref c_InvalidNorm) (.ref c_NothingToUndo) = some false)
    (zi_InvalidPair_InvalidRoot : PySem.W.subIn K (.ref c_InvalidPair) (.ref c_InvalidRoot) = some false)
    (zi_InvalidPair_InvalidNorm : PySem.W.subIn K (.ref c_InvalidPair) (.ref c_InvalidNorm) = some false)
    (zi_InvalidPair_InvalidPair : PySem.W.subIn K (.ref c_InvalidPair) (.ref c_InvalidPair) = some true)
    (zi_InvalidPair_InvalidNumber : PySem.W.subIn K (.ref c_InvalidPair) (.ref c_InvalidNumber) = some false)
    (zi_InvalidPair_InvalidModulus : PySem.W.subIn K (.ref c_InvalidPair) (.ref c_InvalidModulus) = some false)
    (zi_InvalidPair_InvalidRests : PySem.W.subIn K (.ref c_InvalidPair) (.ref c_InvalidRests) = some false)
    (zi_InvalidPair_InvalidText : PySem.W.subIn K (.ref c_InvalidPair) (.ref c_InvalidText) = some false)
    (zi_InvalidPair_NoSolution : PySem.W.subIn K (.ref c_InvalidPair) (.ref c_NoSolution) = some false)
    (zi_InvalidPair_NothingToUndo : PySem.W.subIn K (.ref c_InvalidPair) (.ref c_NothingToUndo) = some false)
    (zi_InvalidNumber_InvalidRoot : PySem.W.subIn K (.ref c_InvalidNumber) (.ref c_InvalidRoot) = some false)
    (zi_InvalidNumber_InvalidNorm : PySem.W.subIn K (.ref c_InvalidNumber) (.ref c_InvalidNorm) = some false)
    (zi_InvalidNumber_InvalidPair : PySem.W.subIn K (.ref c_InvalidNumber) (.ref c_InvalidPair) = some false)
    (zi_InvalidNumber_InvalidNumber : PySem.W.subIn K (.ref c_InvalidNumber) (.ref c_InvalidNumber) = some true)
    (zi_InvalidNumber_InvalidModulus : PySem.W.subIn K (.ref c_InvalidNumber) (.ref c_InvalidModulus) = some false)
    (zi_InvalidNumber_InvalidRests : PySem.W.subIn K (.ref c_InvalidNumber) (.ref c_InvalidRests) = some false)
    (zi_InvalidNumber_InvalidText : PySem.W.subIn K (.ref c_InvalidNumber) (.ref c_InvalidText) = some false)
    (zi_InvalidNumber_NoSolution : PySem.W.subIn K (.ref c_InvalidNumber) (.ref c_NoSolution) = some false)
    (zi_InvalidNumber_NothingToUndo : PySem.W.subIn K (.ref c_InvalidNumber) (.ref c_NothingToUndo) = some false)
    (zi_InvalidModulus_InvalidRoot : PySem.W.subIn K (.ref c_InvalidModulus) (.ref c_InvalidRoot) = some false)
    (zi_InvalidModulus_InvalidNorm : PySem.W.subIn K (.ref c_InvalidModulus) (.ref c_InvalidNorm) = some false)
    (zi_InvalidModulus_InvalidPair : PySem.W.subIn K (.ref c_InvalidModulus) (.ref c_InvalidPair) = some false)
    (zi_InvalidModulus_InvalidNumber : PySem.W.subIn K (.ref c_InvalidModulus) (.ref c_InvalidNumber) = some false)
    (zi_InvalidModulus_InvalidModulus : PySem.W.subIn K (.ref c_InvalidModulus) (.ref c_InvalidModulus) = some true)
    (zi_InvalidModulus_InvalidRests : PySem.W.subIn K (.ref c_InvalidModulus) (.ref c_InvalidRests) = some false)
    (zi_InvalidModulus_InvalidText : PySem.W.subIn K (.ref c_InvalidModulus) (.ref c_InvalidText) = some false)
    (zi_InvalidModulus_NoSolution : PySem.W.subIn K (.ref c_InvalidModulus) (.ref c_NoSolution) = some false)
    (zi_InvalidModulus_NothingToUndo : PySem.W.subIn K (.ref c_InvalidModulus) (.ref c_NothingToUndo) = some false)
    (zi_InvalidRests_InvalidRoot : PySem.W.subIn K (.ref c_InvalidRests) (.ref c_InvalidRoot) = some false)
    (zi_InvalidRests_InvalidNorm : PySem.W.subIn K (.ref c_InvalidRests) (.ref c_InvalidNorm) = some false)
    (zi_InvalidRests_InvalidPair : PySem.W.subIn K (.ref c_InvalidRests) (.ref c_InvalidPair) = some false)
    (zi_InvalidRests_InvalidNumber : PySem.W.subIn K (.ref c_InvalidRests) (.ref c_InvalidNumber) = some false)
    (zi_InvalidRests_InvalidModulus : PySem.W.subIn K (.ref c_InvalidRests) (.ref c_InvalidModulus) = some false)
    (zi_InvalidRests_InvalidRests : PySem.W.subIn K (.ref c_InvalidRests) (.ref c_InvalidRests) = some true)
    (zi_InvalidRests_InvalidText : PySem.W.subIn K (.ref c_InvalidRests) (.ref c_InvalidText) = some false)
    (zi_InvalidRests_NoSolution : PySem.W.subIn K (.ref c_InvalidRests) (.ref c_NoSolution) = some false)
    (zi_InvalidRests_NothingToUndo : PySem.W.subIn K (.ref c_InvalidRests) (.ref c_NothingToUndo) = some false)
    (zi_InvalidText_InvalidRoot : PySem.W.subIn K (.ref c_InvalidText) (.ref c_InvalidRoot) = some false)
    (zi_InvalidText_InvalidNorm : PySem.W.subIn K (.ref c_InvalidText) (.ref c_InvalidNorm) = some false)
    (zi_InvalidText_InvalidPair : PySem.W.subIn K (.ref c_InvalidText) (.ref c_InvalidPair) = some false)
    (zi_InvalidText_InvalidNumber : PySem.W.subIn K (.ref c_InvalidText) (.ref c_InvalidNumber) = some false)
    (zi_InvalidText_InvalidModulus : PySem.W.subIn K (.ref c_InvalidText) (.ref c_InvalidModulus) = some false)
    (zi_InvalidText_InvalidRests : PySem.W.subIn K (.ref c_InvalidText) (.ref c_InvalidRests) = some false)
    (zi_InvalidText_InvalidText : PySem.W.subIn K (.ref c_InvalidText) (.ref c_InvalidText) = some true)
    (zi_InvalidText_NoSolution : PySem.W.subIn K (.ref c_InvalidText) (.ref c_NoSolution) = some false)
    (zi_InvalidText_NothingToUndo : PySem.W.subIn K (.ref c_InvalidText) (.ref c_NothingToUndo) = some false)
    (zi_NoSolution_InvalidRoot : PySem.W.subIn K (.ref c_NoSolution) (.ref c_InvalidRoot) = some false)
    (zi_NoSolution_InvalidNorm : PySem.W.subIn K (.ref c_NoSolution) (.ref c_InvalidNorm) = some false)
    (zi_NoSolution_InvalidPair : PySem.W.subIn K (.ref c_NoSolution) (.ref c_InvalidPair) = some false)
    (zi_NoSolution_InvalidNumber : PySem.W.subIn K (.ref c_NoSolution) (.ref c_InvalidNumber) = some false)
    (zi_NoSolution_InvalidModulus : PySem.W.subIn K (.ref c_NoSolution) (.ref c_InvalidModulus) = some false)
    (zi_NoSolution_InvalidRests : PySem.W.subIn K (.ref c_NoSolution) (.ref c_InvalidRests) = some false)
    (zi_NoSolution_InvalidText : PySem.W.subIn K (.ref c_NoSolution) (.ref c_InvalidText) = some false)
    (zi_NoSolution_NoSolution : PySem.W.subIn K (.ref c_NoSolution) (.ref c_NoSolution) = some true)
    (zi_NoSolution_NothingToUndo : PySem.W.subIn K (.ref c_NoSolution) (.ref c_NothingToUndo) = some false)
    (zi_NothingToUndo_InvalidRoot : PySem.W.subIn K (.ref c_NothingToUndo) (.ref c_InvalidRoot) = some false)
    (zi_NothingToUndo_InvalidNorm : PySem.W.subIn K (.ref c_NothingToUndo) (.ref c_InvalidNorm) = some false)
    (zi_NothingToUndo_InvalidPair : PySem.W.subIn K (.ref c_NothingToUndo) (.ref c_InvalidPair) = some false)
    (zi_NothingToUndo_InvalidNumber : PySem.W.subIn K (.ref c_NothingToUndo) (.ref c_InvalidNumber) = some false)
    (zi_NothingToUndo_InvalidModulus : PySem.W.subIn K (.ref c_NothingToUndo) (.ref c_InvalidModulus) = some false)
    (zi_NothingToUndo_InvalidRests : PySem.W.subIn K (.ref c_NothingToUndo) (.ref c_InvalidRests) = some false)
    (zi_NothingToUndo_InvalidText : PySem.W.subIn K (.ref c_NothingToUndo) (.ref c_InvalidText) = some false)
    (zi_NothingToUndo_NoSolution : PySem.W.subIn K (.ref c_NothingToUndo) (.ref c_NoSolution) = some false)
    (zi_NothingToUndo_NothingToUndo : PySem.W.subIn K (.ref c_NothingToUndo) (.ref c_NothingToUndo) = some true)
    : ∃ fd : FuncData, (∀ (s : Shared) (v : Value), BindsTo s fd ⟨[v], []⟩ [("script", v)]) ∧ ∀ base : Heap, K.In base → base.Ns mainGlobals mg → FnOk l.prog w K mg base CX0 13 fa fd ["script"] (spLaw K) := by
  have e := hfa.symm.trans (PySem.W.mg_of X G a51)
  cases e
  have T : Txt K mg := {
    c_Session := cS, g_Session := PySem.W.mg_of X G zS, cl_Session := ⟨zpg, zhd, zpo, zsa⟩, n_equation := zn_equation, n_starts := zn_starts, n_current := zn_current, n_earlier := zn_earlier, n_done := zn_done, n_undone := zn_undone,
    a_is_integer := f0, d_is_integer := _, F_is_integer := fun_mk (st := s_is_integer) l0 c0 k0, g_is_integer := PySem.W.mg_of X G a0,
    a_is_between := f1, d_is_between := _, F_is_between := fun_mk (st := s_is_between) l1 c1 k1, g_is_between := PySem.W.mg_of X G a1,
    a_root_of := f2, d_root_of := _, F_root_of := fun_mk (st := s_root_of) l2 c2 k2, g_root_of := PySem.W.mg_of X G a2,
    a_is_root := f3, d_is_root := _, F_is_root := fun_mk (st := s_is_root) l3 c3 k3, g_is_root := PySem.W.mg_of X G a3,
    a_check_root := f4, d_check_root := _, F_check_root := fun_mk (st := s_check_root) l4 c4 k4, g_check_root := PySem.W.mg_of X G a4,
    a_is_pair := f5, d_is_pair := _, F_is_pair := fun_mk (st := s_is_pair) l5 c5 k5, g_is_pair := PySem.W.mg_of X G a5,
    a_check_pair := f6, d_check_pair := _, F_check_pair := fun_mk (st := s_check_pair) l6 c6 k6, g_check_pair := PySem.W.mg_of X G a6,
    a_check_number := f7, d_check_number := _, F_check_number := fun_mk (st := s_check_number) l7 c7 k7, g_check_number := PySem.W.mg_of X G a7,
    a_norm_of := f8, d_norm_of := _, F_norm_of := fun_mk (st := s_norm_of) l8 c8 k8, g_norm_of := PySem.W.mg_of X G a8,
    a_times := f9, d_times := _, F_times := fun_mk (st := s_times) l9 c9 k9, g_times := PySem.W.mg_of X G a9,
    a_opposite := f10, d_opposite := _, F_opposite := fun_mk (st := s_opposite) l10 c10 k10, g_opposite := PySem.W.mg_of X G a10,
    a_fractions_of := f11, d_fractions_of := _, F_fractions_of := fun_mk (st := s_fractions_of) l11 c11 k11, g_fractions_of := PySem.W.mg_of X G a11,
    a_convergent_of := f12, d_convergent_of := _, F_convergent_of := fun_mk (st := s_convergent_of) l12 c12 k12, g_convergent_of := PySem.W.mg_of X G a12,
    a_found_unit := f13, d_found_unit := _, F_found_unit := fun_mk (st := s_found_unit) l13 c13 k13, g_found_unit := PySem.W.mg_of X G a13,
    a_least_unit := f14, d_least_unit := _, F_least_unit := fun_mk (st := s_least_unit) l14 c14 k14, g_least_unit := PySem.W.mg_of X G a14,
    a_is_norm := f15, d_is_norm := _, F_is_norm := fun_mk (st := s_is_norm) l15 c15 k15, g_is_norm := PySem.W.mg_of X G a15,
    a_check_norm := f16, d_check_norm := _, F_check_norm := fun_mk (st := s_check_norm) l16 c16 k16, g_check_norm := PySem.W.mg_of X G a16,
    a_check_both := f17, d_check_both := _, F_check_both := fun_mk (st := s_check_both) l17 c17 k17, g_check_both := PySem.W.mg_of X G a17,
    a_bound_for := f18, d_bound_for := _, F_bound_for := fun_mk (st := s_bound_for) l18 c18 k18, g_bound_for := PySem.W.mg_of X G a18,
    a_is_better := f19, d_is_better := _, F_is_better := fun_mk (st := s_is_better) l19 c19 k19, g_is_better := PySem.W.mg_of X G a19,
    a_head_of := f20, d_head_of := _, F_head_of := fun_mk (st := s_head_of) l20 c20 k20, g_head_of := PySem.W.mg_of X G a20,
    a_found_heads := f21, d_found_heads := _, F_found_heads := fun_mk (st := s_found_heads) l21 c21 k21, g_found_heads := PySem.W.mg_of X G a21,
    a_heads := f22, d_heads := _, F_heads := fun_mk (st := s_heads) l22 c22 k22, g_heads := PySem.W.mg_of X G a22,
    a_place_of := f23, d_place_of := _, F_place_of := fun_mk (st := s_place_of) l23 c23 k23, g_place_of := PySem.W.mg_of X G a23,
    a_S_init := f24, d_S_init := _, F_S_init := fun_mk (st := s_S_init) l24 c24 k24, m_S_init := ⟨a24, i24, k24⟩,
    mk_Session := ⟨zmk, a24, i24, zkc⟩,
    a_S_len := f25, d_S_len := _, F_S_len := fun_mk (st := s_S_len) l25 c25 k25, m_S_len := ⟨a25, i25, k25⟩,
    a_S_eq := f26, d_S_eq := _, F_S_eq := fun_mk (st := s_S_eq) l26 c26 k26, m_S_eq := ⟨a26, i26, k26⟩,
    e_Session := ⟨a26, i26, zne, zmo⟩, is_Session := ⟨⟨zpg, zhd, zpo, zsa⟩, zca, zcg, zct, zmo, zty, zsb⟩,
    a_S_str := f27, d_S_str := _, F_S_str := fun_mk (st := s_S_str) l27 c27 k27, m_S_str := ⟨a27, i27, k27⟩,
    a_S_perform := f28, d_S_perform := _, F_S_perform := fun_mk (st := s_S_perform) l28 c28 k28, m_S_perform := ⟨a28, i28, k28⟩,
    a_S_up := f29, d_S_up := _, F_S_up := fun_mk (st := s_S_up) l29 c29 k29, m_S_up := ⟨a29, i29, k29⟩,
    a_S_down := f30, d_S_down := _, F_S_down := fun_mk (st := s_S_down) l30 c30 k30, m_S_down := ⟨a30, i30, k30⟩,
    a_S_choose := f31, d_S_choose := _, F_S_choose := fun_mk (st := s_S_choose) l31 c31 k31, m_S_choose := ⟨a31, i31, k31⟩,
    a_S_solution := f32, d_S_solution := _, F_S_solution := fun_mk (st := s_S_solution) l32 c32 k32, m_S_solution := ⟨a32, i32, k32⟩,
    a_S_number := f33, d_S_number := _, F_S_number := fun_mk (st := s_S_number) l33 c33 k33, m_S_number := ⟨a33, i33, k33⟩,
    a_S_undo := f34, d_S_undo := _, F_S_undo := fun_mk (st := s_S_undo) l34 c34 k34, m_S_undo := ⟨a34, i34, k34⟩,
    a_S_redo := f35, d_S_redo := _, F_S_redo := fun_mk (st := s_S_redo) l35 c35 k35, m_S_redo := ⟨a35, i35, k35⟩,
    a_has_solution := f36, d_has_solution := _, F_has_solution := fun_mk (st := s_has_solution) l36 c36 k36, g_has_solution := PySem.W.mg_of X G a36,
    a_law_town := f37, d_law_town := _, F_law_town := fun_mk (st := s_law_town) l37 c37 k37, g_law_town := PySem.W.mg_of X G a37,
    a_law_draw := f38, d_law_draw := _, F_law_draw := fun_mk (st := s_law_draw) l38 c38 k38, g_law_draw := PySem.W.mg_of X G a38,
    a_law_pick := f39, d_law_pick := _, F_law_pick := fun_mk (st := s_law_pick) l39 c39 k39, g_law_pick := PySem.W.mg_of X G a39,
    a_law_name := f40, d_law_name := _, F_law_name := fun_mk (st := s_law_name) l40 c40 k40, g_law_name := PySem.W.mg_of X G a40,
    a_law_raises := f41, d_law_raises := _, F_law_raises := fun_mk (st := s_law_raises) l41 c41 k41, g_law_raises := PySem.W.mg_of X G a41,
    a_law_d := f42, d_law_d := _, F_law_d := fun_mk (st := s_law_d) l42 c42 k42, g_law_d := PySem.W.mg_of X G a42,
    a_law_n := f43, d_law_n := _, F_law_n := fun_mk (st := s_law_n) l43 c43 k43, g_law_n := PySem.W.mg_of X G a43,
    a_law_times := f44, d_law_times := _, F_law_times := fun_mk (st := s_law_times) l44 c44 k44, g_law_times := PySem.W.mg_of X G a44,
    a_law_edit := f45, d_law_edit := _, F_law_edit := fun_mk (st := s_law_edit) l45 c45 k45, g_law_edit := PySem.W.mg_of X G a45,
    a_law_do := f46, d_law_do := _, F_law_do := fun_mk (st := s_law_do) l46 c46 k46, g_law_do := PySem.W.mg_of X G a46,
    a_law_back := f47, d_law_back := _, F_law_back := fun_mk (st := s_law_back) l47 c47 k47, g_law_back := PySem.W.mg_of X G a47,
    a_law_equation := f48, d_law_equation := _, F_law_equation := fun_mk (st := s_law_equation) l48 c48 k48, g_law_equation := PySem.W.mg_of X G a48,
    a_law_call := f49, d_law_call := _, F_law_call := fun_mk (st := s_law_call) l49 c49 k49, g_law_call := PySem.W.mg_of X G a49,
    a_law_outcome := f50, d_law_outcome := _, F_law_outcome := fun_mk (st := s_law_outcome) l50 c50 k50, g_law_outcome := PySem.W.mg_of X G a50,
    m_ValueError := PySem.W.mg_none_of X G z_ValueError,
    m_abs := PySem.W.mg_none_of X G z_abs,
    m_all := PySem.W.mg_none_of X G z_all,
    m_bool := PySem.W.mg_none_of X G z_bool,
    m_int := PySem.W.mg_none_of X G z_int,
    m_isinstance := PySem.W.mg_none_of X G z_isinstance,
    m_len := PySem.W.mg_none_of X G z_len,
    m_list := PySem.W.mg_none_of X G z_list,
    m_max := PySem.W.mg_none_of X G z_max,
    m_range := PySem.W.mg_none_of X G z_range,
    m_sorted := PySem.W.mg_none_of X G z_sorted,
    m_str := PySem.W.mg_none_of X G z_str,
    m_tuple := PySem.W.mg_none_of X G z_tuple,
    t_GREAT := t_GREAT, g_GREAT := PySem.W.mg_of X G z_GREAT,
    c_NormError := c_NormError, g_NormError := PySem.W.mg_of X G zg_NormError,
    c_InvalidRoot := c_InvalidRoot, g_InvalidRoot := PySem.W.mg_of X G zg_InvalidRoot, x_InvalidRoot := zx_InvalidRoot, k_InvalidRoot := zk_InvalidRoot, b_InvalidRoot := zb_InvalidRoot, t_InvalidRoot := zt_InvalidRoot, e_InvalidRoot := ⟨ze1_InvalidRoot, ze2_InvalidRoot, zb_InvalidRoot, ze3_InvalidRoot, ze4_InvalidRoot, zh1, zh2, ze5_InvalidRoot⟩, v_InvalidRoot := kit_val zv_InvalidRoot, n_InvalidRoot := PySem.W.exm_ref zb_NormError ze3_NormError zt_NormError zn_InvalidRoot,
    c_InvalidNorm := c_InvalidNorm, g_InvalidNorm := PySem.W.mg_of X G zg_InvalidNorm, x_InvalidNorm := zx_InvalidNorm, k_InvalidNorm := zk_InvalidNorm, b_InvalidNorm := zb_InvalidNorm, t_InvalidNorm := zt_InvalidNorm, e_InvalidNorm := ⟨ze1_InvalidNorm, ze2_InvalidNorm, zb_InvalidNorm, ze3_InvalidNorm, ze4_InvalidNorm, zh1, zh2, ze5_InvalidNorm⟩, v_InvalidNorm := kit_val zv_InvalidNorm, n_InvalidNorm := PySem.W.exm_ref zb_NormError ze3_NormError zt_NormError zn_InvalidNorm,
    c_InvalidPair := c_InvalidPair, g_InvalidPair := PySem.W.mg_of X G zg_InvalidPair, x_InvalidPair := zx_InvalidPair, k_InvalidPair := zk_InvalidPair, b_InvalidPair := zb_InvalidPair, t_InvalidPair := zt_InvalidPair, e_InvalidPair := ⟨ze1_InvalidPair, ze2_InvalidPair, zb_InvalidPair, ze3_InvalidPair, ze4_InvalidPair, zh1, zh2, ze5_InvalidPair⟩, v_InvalidPair := kit_val zv_InvalidPair, n_InvalidPair := PySem.W.exm_ref zb_NormError ze3_NormError zt_NormError zn_InvalidPair,
    c_InvalidNumber := c_InvalidNumber, g_InvalidNumber := PySem.W.mg_of X G zg_InvalidNumber, x_InvalidNumber := zx_InvalidNumber, k_InvalidNumber := zk_InvalidNumber, b_InvalidNumber := zb_InvalidNumber, t_InvalidNumber := zt_InvalidNumber, e_InvalidNumber := ⟨ze1_InvalidNumber, ze2_InvalidNumber, zb_InvalidNumber, ze3_InvalidNumber, ze4_InvalidNumber, zh1, zh2, ze5_InvalidNumber⟩, v_InvalidNumber := kit_val zv_InvalidNumber, n_InvalidNumber := PySem.W.exm_ref zb_NormError ze3_NormError zt_NormError zn_InvalidNumber,
    c_InvalidModulus := c_InvalidModulus, g_InvalidModulus := PySem.W.mg_of X G zg_InvalidModulus, x_InvalidModulus := zx_InvalidModulus, k_InvalidModulus := zk_InvalidModulus, b_InvalidModulus := zb_InvalidModulus, t_InvalidModulus := zt_InvalidModulus, e_InvalidModulus := ⟨ze1_InvalidModulus, ze2_InvalidModulus, zb_InvalidModulus, ze3_InvalidModulus, ze4_InvalidModulus, zh1, zh2, ze5_InvalidModulus⟩, v_InvalidModulus := kit_val zv_InvalidModulus, n_InvalidModulus := PySem.W.exm_ref zb_NormError ze3_NormError zt_NormError zn_InvalidModulus,
    c_InvalidRests := c_InvalidRests, g_InvalidRests := PySem.W.mg_of X G zg_InvalidRests, x_InvalidRests := zx_InvalidRests, k_InvalidRests := zk_InvalidRests, b_InvalidRests := zb_InvalidRests, t_InvalidRests := zt_InvalidRests, e_InvalidRests := ⟨ze1_InvalidRests, ze2_InvalidRests, zb_InvalidRests, ze3_InvalidRests, ze4_InvalidRests, zh1, zh2, ze5_InvalidRests⟩, v_InvalidRests := kit_val zv_InvalidRests, n_InvalidRests := PySem.W.exm_ref zb_NormError ze3_NormError zt_NormError zn_InvalidRests,
    c_InvalidText := c_InvalidText, g_InvalidText := PySem.W.mg_of X G zg_InvalidText, x_InvalidText := zx_InvalidText, k_InvalidText := zk_InvalidText, b_InvalidText := zb_InvalidText, t_InvalidText := zt_InvalidText, e_InvalidText := ⟨ze1_InvalidText, ze2_InvalidText, zb_InvalidText, ze3_InvalidText, ze4_InvalidText, zh1, zh2, ze5_InvalidText⟩, v_InvalidText := kit_val zv_InvalidText, n_InvalidText := PySem.W.exm_ref zb_NormError ze3_NormError zt_NormError zn_InvalidText,
    c_NoSolution := c_NoSolution, g_NoSolution := PySem.W.mg_of X G zg_NoSolution, x_NoSolution := zx_NoSolution, k_NoSolution := zk_NoSolution, b_NoSolution := zb_NoSolution, t_NoSolution := zt_NoSolution, e_NoSolution := ⟨ze1_NoSolution, ze2_NoSolution, zb_NoSolution, ze3_NoSolution, ze4_NoSolution, zh1, zh2, ze5_NoSolution⟩, v_NoSolution := kit_val zv_NoSolution, n_NoSolution := PySem.W.exm_ref zb_NormError ze3_NormError zt_NormError zn_NoSolution,
    c_NothingToUndo := c_NothingToUndo, g_NothingToUndo := PySem.W.mg_of X G zg_NothingToUndo, x_NothingToUndo := zx_NothingToUndo, k_NothingToUndo := zk_NothingToUndo, b_NothingToUndo := zb_NothingToUndo, t_NothingToUndo := zt_NothingToUndo, e_NothingToUndo := ⟨ze1_NothingToUndo, ze2_NothingToUndo, zb_NothingToUndo, ze3_NothingToUndo, ze4_NothingToUndo, zh1, zh2, ze5_NothingToUndo⟩, v_NothingToUndo := kit_val zv_NothingToUndo, n_NothingToUndo := PySem.W.exm_ref zb_NormError ze3_NormError zt_NormError zn_NothingToUndo,
    i_InvalidRoot_InvalidRoot := kit_own ze3_InvalidRoot zt_InvalidRoot zi_InvalidRoot_InvalidRoot zi_InvalidRoot_InvalidRoot,
    i_InvalidRoot_InvalidNorm := kit_own ze3_InvalidNorm zt_InvalidNorm zi_InvalidRoot_InvalidRoot zi_InvalidRoot_InvalidNorm,
    i_InvalidRoot_InvalidPair := kit_own ze3_InvalidPair zt_InvalidPair zi_InvalidRoot_InvalidRoot zi_InvalidRoot_InvalidPair,
    i_InvalidRoot_InvalidNumber := kit_own ze3_InvalidNumber zt_InvalidNumber zi_InvalidRoot_InvalidRoot zi_InvalidRoot_InvalidNumber,
    i_InvalidRoot_InvalidModulus := kit_own ze3_InvalidModulus zt_InvalidModulus zi_InvalidRoot_InvalidRoot zi_InvalidRoot_InvalidModulus,
    i_InvalidRoot_InvalidRests := kit_own ze3_InvalidRests zt_InvalidRests zi_InvalidRoot_InvalidRoot zi_InvalidRoot_InvalidRests,
    i_InvalidRoot_InvalidText := kit_own ze3_InvalidText zt_InvalidText zi_InvalidRoot_InvalidRoot zi_InvalidRoot_InvalidText,
    i_InvalidRoot_NoSolution := kit_own ze3_NoSolution zt_NoSolution zi_InvalidRoot_InvalidRoot zi_InvalidRoot_NoSolution,
    i_InvalidRoot_NothingToUndo := kit_own ze3_NothingToUndo zt_NothingToUndo zi_InvalidRoot_InvalidRoot zi_InvalidRoot_NothingToUndo,
    i_InvalidNorm_InvalidRoot := kit_own ze3_InvalidRoot zt_InvalidRoot zi_InvalidNorm_InvalidNorm zi_InvalidNorm_InvalidRoot,
    i_InvalidNorm_InvalidNorm := kit_own ze3_InvalidNorm zt_InvalidNorm zi_InvalidNorm_InvalidNorm zi_InvalidNorm_InvalidNorm,
    i_InvalidNorm_InvalidPair := kit_own ze3_InvalidPair zt_InvalidPair zi_InvalidNorm_InvalidNorm zi_InvalidNorm_InvalidPair,
    i_InvalidNorm_InvalidNumber := kit_own ze3_InvalidNumber zt_InvalidNumber zi_InvalidNorm_InvalidNorm zi_InvalidNorm_InvalidNumber,
    i_InvalidNorm_InvalidModulus := kit_own ze3_InvalidModulus zt_InvalidModulus zi_InvalidNorm_InvalidNorm zi_InvalidNorm_InvalidModulus,
    i_InvalidNorm_InvalidRests := kit_own ze3_InvalidRests zt_InvalidRests zi_InvalidNorm_InvalidNorm zi_InvalidNorm_InvalidRests,
    i_InvalidNorm_InvalidText := kit_own ze3_InvalidText zt_InvalidText zi_InvalidNorm_InvalidNorm zi_InvalidNorm_InvalidText,
    i_InvalidNorm_NoSolution := kit_own ze3_NoSolution zt_NoSolution zi_InvalidNorm_InvalidNorm zi_InvalidNorm_NoSolution,
    i_InvalidNorm_NothingToUndo := kit_own ze3_NothingToUndo zt_NothingToUndo zi_InvalidNorm_InvalidNorm zi_InvalidNorm_NothingToUndo,
    i_InvalidPair_InvalidRoot := kit_own ze3_InvalidRoot zt_InvalidRoot zi_InvalidPair_InvalidPair zi_InvalidPair_InvalidRoot,
    i_InvalidPair_InvalidNorm := kit_own ze3_InvalidNorm zt_InvalidNorm zi_InvalidPair_InvalidPair zi_InvalidPair_InvalidNorm,
    i_InvalidPair_InvalidPair := kit_own ze3_InvalidPair zt_InvalidPair zi_InvalidPair_InvalidPair zi_InvalidPair_InvalidPair,
    i_InvalidPair_InvalidNumber := kit_own ze3_InvalidNumber zt_InvalidNumber zi_InvalidPair_InvalidPair zi_InvalidPair_InvalidNumber,
    i_InvalidPair_InvalidModulus := kit_own ze3_InvalidModulus zt_InvalidModulus zi_InvalidPair_InvalidPair zi_InvalidPair_InvalidModulus,
    i_InvalidPair_InvalidRests := kit_own ze3_InvalidRests zt_InvalidRests zi_InvalidPair_InvalidPair zi_InvalidPair_InvalidRests,
    i_InvalidPair_InvalidText := kit_own ze3_InvalidText zt_InvalidText zi_InvalidPair_InvalidPair zi_InvalidPair_InvalidText,
    i_InvalidPair_NoSolution := kit_own ze3_NoSolution zt_NoSolution zi_InvalidPair_InvalidPair zi_InvalidPair_NoSolution,
    i_InvalidPair_NothingToUndo := kit_own ze3_NothingToUndo zt_NothingToUndo zi_InvalidPair_InvalidPair zi_InvalidPair_NothingToUndo,
    i_InvalidNumber_InvalidRoot := kit_own ze3_InvalidRoot zt_InvalidRoot zi_InvalidNumber_InvalidNumber zi_InvalidNumber_InvalidRoot,
    i_InvalidNumber_InvalidNorm := kit_own ze3_InvalidNorm zt_InvalidNorm zi_InvalidNumber_InvalidNumber zi_InvalidNumber_InvalidNorm,
    i_InvalidNumber_InvalidPair := kit_own ze3_InvalidPair zt_InvalidPair zi_InvalidNumber_InvalidNumber zi_InvalidNumber_InvalidPair,
    i_InvalidNumber_InvalidNumber := kit_own ze3_InvalidNumber zt_InvalidNumber zi_InvalidNumber_InvalidNumber zi_InvalidNumber_InvalidNumber,
    i_InvalidNumber_InvalidModulus := kit_own ze3_InvalidModulus zt_InvalidModulus zi_InvalidNumber_InvalidNumber zi_InvalidNumber_InvalidModulus,
    i_InvalidNumber_InvalidRests := kit_own ze3_InvalidRests zt_InvalidRests zi_InvalidNumber_InvalidNumber zi_InvalidNumber_InvalidRests,
    i_InvalidNumber_InvalidText := kit_own ze3_InvalidText zt_InvalidText zi_InvalidNumber_InvalidNumber zi_InvalidNumber_InvalidText,
    i_InvalidNumber_NoSolution := kit_own ze3_NoSolution zt_NoSolution zi_InvalidNumber_InvalidNumber zi_InvalidNumber_NoSolution,
    i_InvalidNumber_NothingToUndo := kit_own ze3_NothingToUndo zt_NothingToUndo zi_InvalidNumber_InvalidNumber zi_InvalidNumber_NothingToUndo,
    i_InvalidModulus_InvalidRoot := kit_own ze3_InvalidRoot zt_InvalidRoot zi_InvalidModulus_InvalidModulus zi_InvalidModulus_InvalidRoot,
    i_InvalidModulus_InvalidNorm := kit_own ze3_InvalidNorm zt_InvalidNorm zi_InvalidModulus_InvalidModulus zi_InvalidModulus_InvalidNorm,
    i_InvalidModulus_InvalidPair := kit_own ze3_InvalidPair zt_InvalidPair zi_InvalidModulus_InvalidModulus zi_InvalidModulus_InvalidPair,
    i_InvalidModulus_InvalidNumber := kit_own ze3_InvalidNumber zt_InvalidNumber zi_InvalidModulus_InvalidModulus zi_InvalidModulus_InvalidNumber,
    i_InvalidModulus_InvalidModulus := kit_own ze3_InvalidModulus zt_InvalidModulus zi_InvalidModulus_InvalidModulus zi_InvalidModulus_InvalidModulus,
    i_InvalidModulus_InvalidRests := kit_own ze3_InvalidRests zt_InvalidRests zi_InvalidModulus_InvalidModulus zi_InvalidModulus_InvalidRests,
    i_InvalidModulus_InvalidText := kit_own ze3_InvalidText zt_InvalidText zi_InvalidModulus_InvalidModulus zi_InvalidModulus_InvalidText,
    i_InvalidModulus_NoSolution := kit_own ze3_NoSolution zt_NoSolution zi_InvalidModulus_InvalidModulus zi_InvalidModulus_NoSolution,
    i_InvalidModulus_NothingToUndo := kit_own ze3_NothingToUndo zt_NothingToUndo zi_InvalidModulus_InvalidModulus zi_InvalidModulus_NothingToUndo,
    i_InvalidRests_InvalidRoot := kit_own ze3_InvalidRoot zt_InvalidRoot zi_InvalidRests_InvalidRests zi_InvalidRests_InvalidRoot,
    i_InvalidRests_InvalidNorm := kit_own ze3_InvalidNorm zt_InvalidNorm zi_InvalidRests_InvalidRests zi_InvalidRests_InvalidNorm,
    i_InvalidRests_InvalidPair := kit_own ze3_InvalidPair zt_InvalidPair zi_InvalidRests_InvalidRests zi_InvalidRests_InvalidPair,
    i_InvalidRests_InvalidNumber := kit_own ze3_InvalidNumber zt_InvalidNumber zi_InvalidRests_InvalidRests zi_InvalidRests_InvalidNumber,
    i_InvalidRests_InvalidModulus := kit_own ze3_InvalidModulus zt_InvalidModulus zi_InvalidRests_InvalidRests zi_InvalidRests_InvalidModulus,
    i_InvalidRests_InvalidRests := kit_own ze3_InvalidRests zt_InvalidRests zi_InvalidRests_InvalidRests zi_InvalidRests_InvalidRests,
    i_InvalidRests_InvalidText := kit_own ze3_InvalidText zt_InvalidText zi_InvalidRests_InvalidRests zi_InvalidRests_InvalidText,
    i_InvalidRests_NoSolution := kit_own ze3_NoSolution zt_NoSolution zi_InvalidRests_InvalidRests zi_InvalidRests_NoSolution,
    i_InvalidRests_NothingToUndo := kit_own ze3_NothingToUndo zt_NothingToUndo zi_InvalidRests_InvalidRests zi_InvalidRests_NothingToUndo,
    i_InvalidText_InvalidRoot := kit_own ze3_InvalidRoot zt_InvalidRoot zi_InvalidText_InvalidText zi_InvalidText_InvalidRoot,
    i_InvalidText_InvalidNorm := kit_own ze3_InvalidNorm zt_InvalidNorm zi_InvalidText_InvalidText zi_InvalidText_InvalidNorm,
    i_InvalidText_InvalidPair := kit_own ze3_InvalidPair zt_InvalidPair zi_InvalidText_InvalidText zi_InvalidText_InvalidPair,
    i_InvalidText_InvalidNumber := kit_own ze3_InvalidNumber zt_InvalidNumber zi_InvalidText_InvalidText zi_InvalidText_InvalidNumber,
    i_InvalidText_InvalidModulus := kit_own ze3_InvalidModulus zt_InvalidModulus zi_InvalidText_InvalidText zi_InvalidText_InvalidModulus,
    i_InvalidText_InvalidRests := kit_own ze3_InvalidRests zt_InvalidRests zi_InvalidText_InvalidText zi_InvalidText_InvalidRests,
    i_InvalidText_InvalidText := kit_own ze3_InvalidText zt_InvalidText zi_InvalidText_InvalidText zi_InvalidText_InvalidText,
    i_InvalidText_NoSolution := kit_own ze3_NoSolution zt_NoSolution zi_InvalidText_InvalidText zi_InvalidText_NoSolution,
    i_InvalidText_NothingToUndo := kit_own ze3_NothingToUndo zt_NothingToUndo zi_InvalidText_InvalidText zi_InvalidText_NothingToUndo,
    i_NoSolution_InvalidRoot := kit_own ze3_InvalidRoot zt_InvalidRoot zi_NoSolution_NoSolution zi_NoSolution_InvalidRoot,
    i_NoSolution_InvalidNorm := kit_own ze3_InvalidNorm zt_InvalidNorm zi_NoSolution_NoSolution zi_NoSolution_InvalidNorm,
    i_NoSolution_InvalidPair := kit_own ze3_InvalidPair zt_InvalidPair zi_NoSolution_NoSolution zi_NoSolution_InvalidPair,
    i_NoSolution_InvalidNumber := kit_own ze3_InvalidNumber zt_InvalidNumber zi_NoSolution_NoSolution zi_NoSolution_InvalidNumber,
    i_NoSolution_InvalidModulus := kit_own ze3_InvalidModulus zt_InvalidModulus zi_NoSolution_NoSolution zi_NoSolution_InvalidModulus,
    i_NoSolution_InvalidRests := kit_own ze3_InvalidRests zt_InvalidRests zi_NoSolution_NoSolution zi_NoSolution_InvalidRests,
    i_NoSolution_InvalidText := kit_own ze3_InvalidText zt_InvalidText zi_NoSolution_NoSolution zi_NoSolution_InvalidText,
    i_NoSolution_NoSolution := kit_own ze3_NoSolution zt_NoSolution zi_NoSolution_NoSolution zi_NoSolution_NoSolution,
    i_NoSolution_NothingToUndo := kit_own ze3_NothingToUndo zt_NothingToUndo zi_NoSolution_NoSolution zi_NoSolution_NothingToUndo,
    i_NothingToUndo_InvalidRoot := kit_own ze3_InvalidRoot zt_InvalidRoot zi_NothingToUndo_NothingToUndo zi_NothingToUndo_InvalidRoot,
    i_NothingToUndo_InvalidNorm := kit_own ze3_InvalidNorm zt_InvalidNorm zi_NothingToUndo_NothingToUndo zi_NothingToUndo_InvalidNorm,
    i_NothingToUndo_InvalidPair := kit_own ze3_InvalidPair zt_InvalidPair zi_NothingToUndo_NothingToUndo zi_NothingToUndo_InvalidPair,
    i_NothingToUndo_InvalidNumber := kit_own ze3_InvalidNumber zt_InvalidNumber zi_NothingToUndo_NothingToUndo zi_NothingToUndo_InvalidNumber,
    i_NothingToUndo_InvalidModulus := kit_own ze3_InvalidModulus zt_InvalidModulus zi_NothingToUndo_NothingToUndo zi_NothingToUndo_InvalidModulus,
    i_NothingToUndo_InvalidRests := kit_own ze3_InvalidRests zt_InvalidRests zi_NothingToUndo_NothingToUndo zi_NothingToUndo_InvalidRests,
    i_NothingToUndo_InvalidText := kit_own ze3_InvalidText zt_InvalidText zi_NothingToUndo_NothingToUndo zi_NothingToUndo_InvalidText,
    i_NothingToUndo_NoSolution := kit_own ze3_NoSolution zt_NoSolution zi_NothingToUndo_NothingToUndo zi_NothingToUndo_NoSolution,
    i_NothingToUndo_NothingToUndo := kit_own ze3_NothingToUndo zt_NothingToUndo zi_NothingToUndo_NothingToUndo zi_NothingToUndo_NothingToUndo }
  exact ⟨PySem.W.fnOf "law" "law" (defArgs s_law) (defBody s_law) (defScope s_law) .none kV51 dc51 pm51 an51 cd51 ct51, fun s v => .of_eq rfl, fun base _ _ => ok_law (fun_mk (st := s_law) l51 c51 k51) T⟩
end ND
open PySem PySem.W PyProof.Rows
set_option maxHeartbeats 0 in
theorem PySem.Challenge.cw_normpairs_k70_whole_sessions_holds : PySem.Challenge.rw_normpairs_k70_whole_sessions.Holds := by
  w_on; o_law; k_head; (case hw => w_witness2)
  k_fill
  refine L2.walk_ofK (l := PySem.Challenge.rw_normpairs_k70_whole_sessions) (n := 63) (k := 13) (x := "script") (CX := L2.CX0) (sp := ND.spLaw) rfl (by decide) rfl ⟨rfl, by decide, by decide⟩ (fun w h Y => PySem.W.kIn_of Y) ?F (fun _ _ a ns hl hO hS => ND.spLaw_of hl hO hS) (fun _ _ _ _ h => h)
  case F =>
    intro w mg fa h KX G hmg
    refine' ND.all_mk KX G hmg ?a0 ?l0 ?c0 ?k0 ?a1 ?l1 ?c1 ?k1 ?a2 ?l2 ?c2 ?k2 ?a3 ?l3 ?c3 ?k3 ?a4 ?l4 ?c4 ?k4 ?a5 ?l5 ?c5 ?k5 ?a6 ?l6 ?c6 ?k6 ?a7 ?l7 ?c7 ?k7 ?a8 ?l8 ?c8 ?k8 ?a9 ?l9 ?c9 ?k9 ?a10 ?l10 ?c10 ?k10 ?a11 ?l11 ?c11 ?k11 ?a12 ?l12 ?c12 ?k12 ?a13 ?l13 ?c13 ?k13 ?a14 ?l14 ?c14 ?k14 ?a15 ?l15 ?c15 ?k15 ?a16 ?l16 ?c16 ?k16 ?a17 ?l17 ?c17 ?k17 ?a18 ?l18 ?c18 ?k18 ?a19 ?l19 ?c19 ?k19 ?a20 ?l20 ?c20 ?k20 ?a21 ?l21 ?c21 ?k21 ?a22 ?l22 ?c22 ?k22 ?a23 ?l23 ?c23 ?k23 ?a24 ?i24 ?l24 ?c24 ?k24 ?a25 ?i25 ?l25 ?c25 ?k25 ?a26 ?i26 ?l26 ?c26 ?k26 ?a27 ?i27 ?l27 ?c27 ?k27 ?a28 ?i28 ?l28 ?c28 ?k28 ?a29 ?i29 ?l29 ?c29 ?k29 ?a30 ?i30 ?l30 ?c30 ?k30 ?a31 ?i31 ?l31 ?c31 ?k31 ?a32 ?i32 ?l32 ?c32 ?k32 ?a33 ?i33 ?l33 ?c33 ?k33 ?a34 ?i34 ?l34 ?c34 ?k34 ?a35 ?i35 ?l35 ?c35 ?k35 ?a36 ?l36 ?c36 ?k36 ?a37 ?l37 ?c37 ?k37 ?a38 ?l38 ?c38 ?k38 ?a39 ?l39 ?c39 ?k39 ?a40 ?l40 ?c40 ?k40 ?a41 ?l41 ?c41 ?k41 ?a42 ?l42 ?c42 ?k42 ?a43 ?l43 ?c43 ?k43 ?a44 ?l44 ?c44 ?k44 ?a45 ?l45 ?c45 ?k45 ?a46 ?l46 ?c46 ?k46 ?a47 ?l47 ?c47 ?k47 ?a48 ?l48 ?c48 ?k48 ?a49 ?l49 ?c49 ?k49 ?a50 ?l50 ?c50 ?k50 ?a51 ?l51 ?c51 ?k51 ?zS ?zpg ?zhd ?zpo ?zsa ?zmk ?zkc ?zn_equation ?zn_starts ?zn_current ?zn_earlier ?zn_done ?zn_undone ?zne ?zmo ?zca ?zcg ?zct ?zty ?zsb ?z_ValueError ?z_abs ?z_all ?z_bool ?z_int ?z_isinstance ?z_len ?z_list ?z_max ?z_range ?z_sorted ?z_str ?z_tuple ?z_GREAT ?zg_NormError ?zb_NormError ?ze3_NormError ?zt_NormError ?zg_InvalidRoot ?zx_InvalidRoot ?zk_InvalidRoot ?zb_InvalidRoot ?zt_InvalidRoot ?ze1_InvalidRoot ?ze2_InvalidRoot ?ze3_InvalidRoot ?ze4_InvalidRoot ?ze5_InvalidRoot ?zv_InvalidRoot ?zn_InvalidRoot ?zg_InvalidNorm ?zx_InvalidNorm ?zk_InvalidNorm ?zb_InvalidNorm ?zt_InvalidNorm ?ze1_InvalidNorm ?ze2_InvalidNorm ?ze3_InvalidNorm ?ze4_InvalidNorm ?ze5_InvalidNorm ?zv_InvalidNorm ?zn_InvalidNorm ?zg_InvalidPair ?zx_InvalidPair ?zk_InvalidPair ?zb_InvalidPair ?zt_InvalidPair ?ze1_InvalidPair ?ze2_InvalidPair ?ze3_InvalidPair ?ze4_InvalidPair ?ze5_InvalidPair ?zv_InvalidPair ?zn_InvalidPair ?zg_InvalidNumber ?zx_InvalidNumber ?zk_InvalidNumber ?zb_InvalidNumber ?zt_InvalidNumber ?ze1_InvalidNumber ?ze2_InvalidNumber ?ze3_InvalidNumber ?ze4_InvalidNumber ?ze5_InvalidNumber ?zv_InvalidNumber ?zn_InvalidNumber ?zg_InvalidModulus ?zx_InvalidModulus ?zk_InvalidModulus ?zb_InvalidModulus ?zt_InvalidModulus ?ze1_InvalidModulus ?ze2_InvalidModulus ?ze3_InvalidModulus ?ze4_InvalidModulus ?ze5_InvalidModulus ?zv_InvalidModulus ?zn_InvalidModulus ?zg_InvalidRests ?zx_InvalidRests ?zk_InvalidRests ?zb_InvalidRests ?zt_InvalidRests ?ze1_InvalidRests ?ze2_InvalidRests ?ze3_InvalidRests ?ze4_InvalidRests ?ze5_InvalidRests ?zv_InvalidRests ?zn_InvalidRests ?zg_InvalidText ?zx_InvalidText ?zk_InvalidText ?zb_InvalidText ?zt_InvalidText ?ze1_InvalidText ?ze2_InvalidText ?ze3_InvalidText ?ze4_InvalidText ?ze5_InvalidText ?zv_InvalidText ?zn_InvalidText ?zg_NoSolution ?zx_NoSolution ?zk_NoSolution ?zb_NoSolution ?zt_NoSolution ?ze1_NoSolution ?ze2_NoSolution ?ze3_NoSolution ?ze4_NoSolution ?ze5_NoSolution ?zv_NoSolution ?zn_NoSolution ?zg_NothingToUndo ?zx_NothingToUndo ?zk_NothingToUndo ?zb_NothingToUndo ?zt_NothingToUndo ?ze1_NothingToUndo ?ze2_NothingToUndo ?ze3_NothingToUndo ?ze4_NothingToUndo ?ze5_NothingToUndo ?zv_NothingToUndo ?zn_NothingToUndo ?zh1 ?zh2 ?zi_InvalidRoot_InvalidRoot ?zi_InvalidRoot_InvalidNorm ?zi_InvalidRoot_InvalidPair ?zi_InvalidRoot_InvalidNumber ?zi_InvalidRoot_InvalidModulus ?zi_InvalidRoot_InvalidRests ?zi_InvalidRoot_InvalidText ?zi_InvalidRoot_NoSolution ?zi_InvalidRoot_NothingToUndo ?zi_InvalidNorm_InvalidRoot ?zi_InvalidNorm_InvalidNorm ?zi_InvalidNorm_InvalidPair ?zi_InvalidNorm_InvalidNumber ?zi_InvalidNorm_InvalidModulus ?zi_InvalidNorm_InvalidRests ?zi_InvalidNorm_InvalidText ?zi_InvalidNorm_NoSolution ?zi_InvalidNorm_NothingToUndo ?zi_InvalidPair_InvalidRoot ?zi_InvalidPair_InvalidNorm ?zi_InvalidPair_InvalidPair ?zi_InvalidPair_InvalidNumber ?zi_InvalidPair_InvalidModulus ?zi_InvalidPair_InvalidRests ?zi_InvalidPair_InvalidText ?zi_InvalidPair_NoSolution ?zi_InvalidPair_NothingToUndo ?zi_InvalidNumber_InvalidRoot ?zi_InvalidNumber_InvalidNorm ?zi_InvalidNumber_InvalidPair ?zi_InvalidNumber_InvalidNumber ?zi_InvalidNumber_InvalidModulus ?zi_InvalidNumber_InvalidRests ?zi_InvalidNumber_InvalidText ?zi_InvalidNumber_NoSolution ?zi_InvalidNumber_NothingToUndo ?zi_InvalidModulus_InvalidRoot ?zi_InvalidModulus_InvalidNorm ?zi_InvalidModulus_InvalidPair ?zi_InvalidModulus_InvalidNumber ?zi_InvalidModulus_InvalidModulus ?zi_InvalidModulus_InvalidRests ?zi_InvalidModulus_InvalidText ?zi_InvalidModulus_NoSolution ?zi_InvalidModulus_NothingToUndo ?zi_InvalidRests_InvalidRoot ?zi_InvalidRests_InvalidNorm ?zi_InvalidRests_InvalidPair ?zi_InvalidRests_InvalidNumber ?zi_InvalidRests_InvalidModulus ?zi_InvalidRests_InvalidRests ?zi_InvalidRests_InvalidText ?zi_InvalidRests_NoSolution ?zi_InvalidRests_NothingToUndo ?zi_InvalidText_InvalidRoot ?zi_InvalidText_InvalidNorm ?zi_InvalidText_InvalidPair ?zi_InvalidText_InvalidNumber ?zi_InvalidText_InvalidModulus ?zi_InvalidText_InvalidRests ?zi_InvalidText_InvalidText ?zi_InvalidText_NoSolution ?zi_InvalidText_NothingToUndo ?zi_NoSolution_InvalidRoot ?zi_NoSolution_InvalidNorm ?zi_NoSolution_InvalidPair ?zi_NoSolution_InvalidNumber ?zi_NoSolution_InvalidModulus ?zi_NoSolution_InvalidRests ?zi_NoSolution_InvalidText ?zi_NoSolution_NoSolution ?zi_NoSolution_NothingToUndo ?zi_NothingToUndo_InvalidRoot ?zi_NothingToUndo_InvalidNorm ?zi_NothingToUndo_InvalidPair ?zi_NothingToUndo_InvalidNumber ?zi_NothingToUndo_InvalidModulus ?zi_NothingToUndo_InvalidRests ?zi_NothingToUndo_InvalidText ?zi_NothingToUndo_NoSolution ?zi_NothingToUndo_NothingToUndo
    (case zS => k_is)
    (case a0 => k_is)
    (case l0 => k_is)
    (case c0 => k_is)
    (case k0 => k_is)
    (case a1 => k_is)
    (case l1 => k_is)
    (case c1 => k_is)
    (case k1 => k_is)
    (case a2 => k_is)
    (case l2 => k_is)
    (case c2 => k_is)
    (case k2 => k_is)
    (case a3 => k_is)
    (case l3 => k_is)
    (case c3 => k_is)
    (case k3 => k_is)
    (case a4 => k_is)
    (case l4 => k_is)
    (case c4 => k_is)
    (case k4 => k_is)
    (case a5 => k_is)
    (case l5 => k_is)
    (case c5 => k_is)
    (case k5 => k_is)
    (case a6 => k_is)
    (case l6 => k_is)
    (case c6 => k_is)
    (case k6 => k_is)
    (case a7 => k_is)
    (case l7 => k_is)
    (case c7 => k_is)
    (case k7 => k_is)
    (case a8 => k_is)
    (case l8 => k_is)
    (case c8 => k_is)
    (case k8 => k_is)
    (case a9 => k_is)
    (case l9 => k_is)
    (case c9 => k_is)
    (case k9 => k_is)
    (case a10 => k_is)
    (case l10 => k_is)
    (case c10 => k_is)
    (case k10 => k_is)
    (case a11 => k_is)
    (case l11 => k_is)
    (case c11 => k_is)
    (case k11 => k_is)
    (case a12 => k_is)
    (case l12 => k_is)
    (case c12 => k_is)
    (case k12 => k_is)
    (case a13 => k_is)
    (case l13 => k_is)
    (case c13 => k_is)
    (case k13 => k_is)
    (case a14 => k_is)
    (case l14 => k_is)
    (case c14 => k_is)
    (case k14 => k_is)
    (case a15 => k_is)
    (case l15 => k_is)
    (case c15 => k_is)
    (case k15 => k_is)
    (case a16 => k_is)
    (case l16 => k_is)
    (case c16 => k_is)
    (case k16 => k_is)
    (case a17 => k_is)
    (case l17 => k_is)
    (case c17 => k_is)
    (case k17 => k_is)
    (case a18 => k_is)
    (case l18 => k_is)
    (case c18 => k_is)
    (case k18 => k_is)
    (case a19 => k_is)
    (case l19 => k_is)
    (case c19 => k_is)
    (case k19 => k_is)
    (case a20 => k_is)
    (case l20 => k_is)
    (case c20 => k_is)
    (case k20 => k_is)
    (case a21 => k_is)
    (case l21 => k_is)
    (case c21 => k_is)
    (case k21 => k_is)
    (case a22 => k_is)
    (case l22 => k_is)
    (case c22 => k_is)
    (case k22 => k_is)
    (case a23 => k_is)
    (case l23 => k_is)
    (case c23 => k_is)
    (case k23 => k_is)
    (case a24 => k_is)
    (case i24 => k_is)
    (case l24 => k_is)
    (case c24 => k_is)
    (case k24 => k_is)
    (case a25 => k_is)
    (case i25 => k_is)
    (case l25 => k_is)
    (case c25 => k_is)
    (case k25 => k_is)
    (case a26 => k_is)
    (case i26 => k_is)
    (case l26 => k_is)
    (case c26 => k_is)
    (case k26 => k_is)
    (case a27 => k_is)
    (case i27 => k_is)
    (case l27 => k_is)
    (case c27 => k_is)
    (case k27 => k_is)
    (case a28 => k_is)
    (case i28 => k_is)
    (case l28 => k_is)
    (case c28 => k_is)
    (case k28 => k_is)
    (case a29 => k_is)
    (case i29 => k_is)
    (case l29 => k_is)
    (case c29 => k_is)
    (case k29 => k_is)
    (case a30 => k_is)
    (case i30 => k_is)
    (case l30 => k_is)
    (case c30 => k_is)
    (case k30 => k_is)
    (case a31 => k_is)
    (case i31 => k_is)
    (case l31 => k_is)
    (case c31 => k_is)
    (case k31 => k_is)
    (case a32 => k_is)
    (case i32 => k_is)
    (case l32 => k_is)
    (case c32 => k_is)
    (case k32 => k_is)
    (case a33 => k_is)
    (case i33 => k_is)
    (case l33 => k_is)
    (case c33 => k_is)
    (case k33 => k_is)
    (case a34 => k_is)
    (case i34 => k_is)
    (case l34 => k_is)
    (case c34 => k_is)
    (case k34 => k_is)
    (case a35 => k_is)
    (case i35 => k_is)
    (case l35 => k_is)
    (case c35 => k_is)
    (case k35 => k_is)
    (case a36 => k_is)
    (case l36 => k_is)
    (case c36 => k_is)
    (case k36 => k_is)
    (case a37 => k_is)
    (case l37 => k_is)
    (case c37 => k_is)
    (case k37 => k_is)
    (case a38 => k_is)
    (case l38 => k_is)
    (case c38 => k_is)
    (case k38 => k_is)
    (case a39 => k_is)
    (case l39 => k_is)
    (case c39 => k_is)
    (case k39 => k_is)
    (case a40 => k_is)
    (case l40 => k_is)
    (case c40 => k_is)
    (case k40 => k_is)
    (case a41 => k_is)
    (case l41 => k_is)
    (case c41 => k_is)
    (case k41 => k_is)
    (case a42 => k_is)
    (case l42 => k_is)
    (case c42 => k_is)
    (case k42 => k_is)
    (case a43 => k_is)
    (case l43 => k_is)
    (case c43 => k_is)
    (case k43 => k_is)
    (case a44 => k_is)
    (case l44 => k_is)
    (case c44 => k_is)
    (case k44 => k_is)
    (case a45 => k_is)
    (case l45 => k_is)
    (case c45 => k_is)
    (case k45 => k_is)
    (case a46 => k_is)
    (case l46 => k_is)
    (case c46 => k_is)
    (case k46 => k_is)
    (case a47 => k_is)
    (case l47 => k_is)
    (case c47 => k_is)
    (case k47 => k_is)
    (case a48 => k_is)
    (case l48 => k_is)
    (case c48 => k_is)
    (case k48 => k_is)
    (case a49 => k_is)
    (case l49 => k_is)
    (case c49 => k_is)
    (case k49 => k_is)
    (case a50 => k_is)
    (case l50 => k_is)
    (case c50 => k_is)
    (case k50 => k_is)
    (case a51 => k_is)
    (case l51 => k_is)
    (case c51 => k_is)
    (case k51 => k_is)
    (case zpg => k_is)
    (case zhd => k_is)
    (case zpo => k_is)
    (case zsa => k_is)
    (case zmk => k_is)
    (case zkc => k_is)
    (case zn_equation => k_is)
    (case zn_starts => k_is)
    (case zn_current => k_is)
    (case zn_earlier => k_is)
    (case zn_done => k_is)
    (case zn_undone => k_is)
    (case zne => k_is)
    (case zmo => k_is)
    (case zca => k_is)
    (case zcg => k_is)
    (case zct => k_is)
    (case zty => k_is)
    (case zsb => k_is)
    (case z_ValueError => k_is)
    (case z_abs => k_is)
    (case z_all => k_is)
    (case z_bool => k_is)
    (case z_int => k_is)
    (case z_isinstance => k_is)
    (case z_len => k_is)
    (case z_list => k_is)
    (case z_max => k_is)
    (case z_range => k_is)
    (case z_sorted => k_is)
    (case z_str => k_is)
    (case z_tuple => k_is)
    (case z_GREAT => k_is)
    (case zg_NormError => k_is)
    (case zb_NormError => k_is)
    (case ze3_NormError => k_is)
    (case zt_NormError => k_is)
    (case zg_InvalidRoot => k_is)
    (case zx_InvalidRoot => k_exc)
    (case zk_InvalidRoot => k_is)
    (case zb_InvalidRoot => k_is)
    (case zt_InvalidRoot => k_is)
    (case ze1_InvalidRoot => k_is)
    (case ze2_InvalidRoot => k_is)
    (case ze3_InvalidRoot => k_is)
    (case ze4_InvalidRoot => k_is)
    (case ze5_InvalidRoot => k_is)
    (case zv_InvalidRoot => k_is)
    (case zn_InvalidRoot => k_is)
    (case zg_InvalidNorm => k_is)
    (case zx_InvalidNorm => k_exc)
    (case zk_InvalidNorm => k_is)
    (case zb_InvalidNorm => k_is)
    (case zt_InvalidNorm => k_is)
    (case ze1_InvalidNorm => k_is)
    (case ze2_InvalidNorm => k_is)
    (case ze3_InvalidNorm => k_is)
    (case ze4_InvalidNorm => k_is)
    (case ze5_InvalidNorm => k_is)
    (case zv_InvalidNorm => k_is)
    (case zn_InvalidNorm => k_is)
    (case zg_InvalidPair => k_is)
    (case zx_InvalidPair => k_exc)
    (case zk_InvalidPair => k_is)
    (case zb_InvalidPair => k_is)
    (case zt_InvalidPair => k_is)
    (case ze1_InvalidPair => k_is)
    (case ze2_InvalidPair => k_is)
    (case ze3_InvalidPair => k_is)
    (case ze4_InvalidPair => k_is)
    (case ze5_InvalidPair => k_is)
    (case zv_InvalidPair => k_is)
    (case zn_InvalidPair => k_is)
    (case zg_InvalidNumber => k_is)
    (case zx_InvalidNumber => k_exc)
    (case zk_InvalidNumber => k_is)
    (case zb_InvalidNumber => k_is)
    (case zt_InvalidNumber => k_is)
    (case ze1_InvalidNumber => k_is)
    (case ze2_InvalidNumber => k_is)
    (case ze3_InvalidNumber => k_is)
    (case ze4_InvalidNumber => k_is)
    (case ze5_InvalidNumber => k_is)
    (case zv_InvalidNumber => k_is)
    (case zn_InvalidNumber => k_is)
    (case zg_InvalidModulus => k_is)
    (case zx_InvalidModulus => k_exc)
    (case zk_InvalidModulus => k_is)
    (case zb_InvalidModulus => k_is)
    (case zt_InvalidModulus => k_is)
    (case ze1_InvalidModulus => k_is)
    (case ze2_InvalidModulus => k_is)
    (case ze3_InvalidModulus => k_is)
    (case ze4_InvalidModulus => k_is)
    (case ze5_InvalidModulus => k_is)
    (case zv_InvalidModulus => k_is)
    (case zn_InvalidModulus => k_is)
    (case zg_InvalidRests => k_is)
    (case zx_InvalidRests => k_exc)
    (case zk_InvalidRests => k_is)
    (case zb_InvalidRests => k_is)
    (case zt_InvalidRests => k_is)
    (case ze1_InvalidRests => k_is)
    (case ze2_InvalidRests => k_is)
    (case ze3_InvalidRests => k_is)
    (case ze4_InvalidRests => k_is)
    (case ze5_InvalidRests => k_is)
    (case zv_InvalidRests => k_is)
    (case zn_InvalidRests => k_is)
    (case zg_InvalidText => k_is)
    (case zx_InvalidText => k_exc)
    (case zk_InvalidText => k_is)
    (case zb_InvalidText => k_is)
    (case zt_InvalidText => k_is)
    (case ze1_InvalidText => k_is)
    (case ze2_InvalidText => k_is)
    (case ze3_InvalidText => k_is)
    (case ze4_InvalidText => k_is)
    (case ze5_InvalidText => k_is)
    (case zv_InvalidText => k_is)
    (case zn_InvalidText => k_is)
    (case zg_NoSolution => k_is)
    (case zx_NoSolution => k_exc)
    (case zk_NoSolution => k_is)
    (case zb_NoSolution => k_is)
    (case zt_NoSolution => k_is)
    (case ze1_NoSolution => k_is)
    (case ze2_NoSolution => k_is)
    (case ze3_NoSolution => k_is)
    (case ze4_NoSolution => k_is)
    (case ze5_NoSolution => k_is)
    (case zv_NoSolution => k_is)
    (case zn_NoSolution => k_is)
    (case zg_NothingToUndo => k_is)
    (case zx_NothingToUndo => k_exc)
    (case zk_NothingToUndo => k_is)
    (case zb_NothingToUndo => k_is)
    (case zt_NothingToUndo => k_is)
    (case ze1_NothingToUndo => k_is)
    (case ze2_NothingToUndo => k_is)
    (case ze3_NothingToUndo => k_is)
    (case ze4_NothingToUndo => k_is)
    (case ze5_NothingToUndo => k_is)
    (case zv_NothingToUndo => k_is)
    (case zn_NothingToUndo => k_is)
    (case zh1 => k_is)
    (case zh2 => k_is)
    (case zi_InvalidRoot_InvalidRoot => k_is)
    (case zi_InvalidRoot_InvalidNorm => k_is)
    (case zi_InvalidRoot_InvalidPair => k_is)
    (case zi_InvalidRoot_InvalidNumber => k_is)
    (case zi_InvalidRoot_InvalidModulus => k_is)
    (case zi_InvalidRoot_InvalidRests => k_is)
    (case zi_InvalidRoot_InvalidText => k_is)
    (case zi_InvalidRoot_NoSolution => k_is)
    (case zi_InvalidRoot_NothingToUndo => k_is)
    (case zi_InvalidNorm_InvalidRoot => k_is)
    (case zi_InvalidNorm_InvalidNorm => k_is)
    (case zi_InvalidNorm_InvalidPair => k_is)
    (case zi_InvalidNorm_InvalidNumber => k_is)
    (case zi_InvalidNorm_InvalidModulus => k_is)
    (case zi_InvalidNorm_InvalidRests => k_is)
    (case zi_InvalidNorm_InvalidText => k_is)
    (case zi_InvalidNorm_NoSolution => k_is)
    (case zi_InvalidNorm_NothingToUndo => k_is)
    (case zi_InvalidPair_InvalidRoot => k_is)
    (case zi_InvalidPair_InvalidNorm => k_is)
    (case zi_InvalidPair_InvalidPair => k_is)
    (case zi_InvalidPair_InvalidNumber => k_is)
    (case zi_InvalidPair_InvalidModulus => k_is)
    (case zi_InvalidPair_InvalidRests => k_is)
    (case zi_InvalidPair_InvalidText => k_is)
    (case zi_InvalidPair_NoSolution => k_is)
    (case zi_InvalidPair_NothingToUndo => k_is)
    (case zi_InvalidNumber_InvalidRoot => k_is)
    (case zi_InvalidNumber_InvalidNorm => k_is)
    (case zi_InvalidNumber_InvalidPair => k_is)
    (case zi_InvalidNumber_InvalidNumber => k_is)
    (case zi_InvalidNumber_InvalidModulus => k_is)
    (case zi_InvalidNumber_InvalidRests => k_is)
    (case zi_InvalidNumber_InvalidText => k_is)
    (case zi_InvalidNumber_NoSolution => k_is)
    (case zi_InvalidNumber_NothingToUndo => k_is)
    (case zi_InvalidModulus_InvalidRoot => k_is)
    (case zi_InvalidModulus_InvalidNorm => k_is)
    (case zi_InvalidModulus_InvalidPair => k_is)
    (case zi_InvalidModulus_InvalidNumber => k_is)
    (case zi_InvalidModulus_InvalidModulus => k_is)
    (case zi_InvalidModulus_InvalidRests => k_is)
    (case zi_InvalidModulus_InvalidText => k_is)
    (case zi_InvalidModulus_NoSolution => k_is)
    (case zi_InvalidModulus_NothingToUndo => k_is)
    (case zi_InvalidRests_InvalidRoot => k_is)
    (case zi_InvalidRests_InvalidNorm => k_is)
    (case zi_InvalidRests_InvalidPair => k_is)
    (case zi_InvalidRests_InvalidNumber => k_is)
    (case zi_InvalidRests_InvalidModulus => k_is)
    (case zi_InvalidRests_InvalidRests => k_is)
    (case zi_InvalidRests_InvalidText => k_is)
    (case zi_InvalidRests_NoSolution => k_is)
    (case zi_InvalidRests_NothingToUndo => k_is)
    (case zi_InvalidText_InvalidRoot => k_is)
    (case zi_InvalidText_InvalidNorm => k_is)
    (case zi_InvalidText_InvalidPair => k_is)
    (case zi_InvalidText_InvalidNumber => k_is)
    (case zi_InvalidText_InvalidModulus => k_is)
    (case zi_InvalidText_InvalidRests => k_is)
    (case zi_InvalidText_InvalidText => k_is)
    (case zi_InvalidText_NoSolution => k_is)
    (case zi_InvalidText_NothingToUndo => k_is)
    (case zi_NoSolution_InvalidRoot => k_is)
    (case zi_NoSolution_InvalidNorm => k_is)
    (case zi_NoSolution_InvalidPair => k_is)
    (case zi_NoSolution_InvalidNumber => k_is)
    (case zi_NoSolution_InvalidModulus => k_is)
    (case zi_NoSolution_InvalidRests => k_is)
    (case zi_NoSolution_InvalidText => k_is)
    (case zi_NoSolution_NoSolution => k_is)
    (case zi_NoSolution_NothingToUndo => k_is)
    (case zi_NothingToUndo_InvalidRoot => k_is)
    (case zi_NothingToUndo_InvalidNorm => k_is)
    (case zi_NothingToUndo_InvalidPair => k_is)
    (case zi_NothingToUndo_InvalidNumber => k_is)
    (case zi_NothingToUndo_InvalidModulus => k_is)
    (case zi_NothingToUndo_InvalidRests => k_is)
    (case zi_NothingToUndo_InvalidText => k_is)
    (case zi_NothingToUndo_NoSolution => k_is)
    (case zi_NothingToUndo_NothingToUndo => k_is)
