import PyProof.Rows.All
import HandS.ForMost
import HandS.ForExc
import HandS.TupAny
import HandS.TupMul
import HandS.Wide
import HandS.Deep
import HandS.Conv
import HandS.SortInts
import HandS.Lambda
import KE.GoesMore
import HandS.Iter
import KE.DataMinMax
import HandS.SortKw
import HandS.Style
import HandS.IsInst
import HandS.ListItems
import HandS.Zip
import KE.KDictZip
import HandS.ExcIs
import HandS.SetFor
import HandS.EndOwn
import HandS.More
import KE.KDictPairs
import KE.KDictCopyH
import KE.DataFind
import HandS.ForDict
import HandS.ExcInit
import HandS.ClsMeth
import HandS.ExcField
import PyProof.StrOps2
import PySem.Challenge.RW_beatgrid_k17_wrong_schedules_refused
set_option Elab.async false
set_option linter.all false
set_option maxRecDepth 100000
set_option maxHeartbeats 4000000
/-! DL1: data over heaps. -/
namespace DL
open PySem PySem.Spec L2

/-- where drawing stands: the list of four, the script -/
structure Dc where
  st : Addr
  scr : Addr
  ns : List Int
  hall : Addr
  tb : List (Addr × Str)
  sl : Bool

/-- the script: an object that nobody changes -/
def SqF (K : PySem.W.Frag) (H : Hp) (a : Addr) (xs : List V) : Prop :=
  (∃ o, H a = some (.frz o (.lst xs))) ∨ ∃ (o : Obj) (its : Array Value) (n : Nat), K.lookup a = some o ∧ o.cls = .type "list" ∧ o.dict = none ∧ o.data = .seq its n ∧ its.size ≤ sizeLine ∧ Vals xs its.toList
theorem SqF.seq {K : PySem.W.Frag} {H : Hp} {a : Addr} {xs : List V} (h : SqF K H a xs) : SqL K H a xs := h.elim (fun q => .inl (.inr q)) .inr
theorem SqF.mono {K : PySem.W.Frag} {H H' : Hp} {a : Addr} {xs : List V} (m : ∀ o u, H a = some (.frz o u) → H' a = some (.frz o u)) (h : SqF K H a xs) : SqF K H' a xs := h.elim (fun ⟨o, q⟩ => .inl ⟨o, m _ _ q⟩) .inr
/-- the script of the drawing state -/
def SqS (K : PySem.W.Frag) (c : Dc) (H : Hp) : Prop := (c.sl = true ∧ H c.scr = some (.lst (c.ns.map V.int))) ∨ (c.sl = false ∧ SqF K H c.scr (c.ns.map V.int))
theorem SqS.seq {K : PySem.W.Frag} {c : Dc} {H : Hp} (h : SqS K c H) : SqL K H c.scr (c.ns.map V.int) := h.elim (fun q => .inl (.inl q.2)) fun q => q.2.seq
theorem SqS.mono {K : PySem.W.Frag} {c : Dc} {H H' : Hp} (m : ∀ o u, H c.scr = some (.frz o u) → H' c.scr = some (.frz o u)) (m' : ∀ xs, c.sl = true → H c.scr = some (.lst xs) → H' c.scr = some (.lst xs)) (h : SqS K c H) : SqS K c H' :=
  h.elim (fun q => .inl ⟨q.1, m' _ q.1 q.2⟩) fun q => .inr ⟨q.1, q.2.mono m⟩
def Wd (K : PySem.W.Frag) (c : Dc) (H : Hp) : Prop :=
  ∃ k m r : Int, H c.st = some (.lst [.ref c.scr, .int k, .int m, .int r]) ∧ 0 ≤ k ∧ 0 ≤ m ∧ 0 ≤ r ∧ SqS K c H ∧ LamX.Tabs c.tb H

/-- a tuple at a: one made at run time, or a written one of texts -/
def SqX (K : PySem.W.Frag) (B : Hp) (a : Addr) (xs : List V) (ds : List PyData) : Prop := SqT K B a xs ∧ (B a = some (.tup xs) ∨ ∃ s r, ds = .str s :: r)
/-- a dict whose keys are tuples of ints, as data -/
def keyD (k : List Int) : PyData := .tuple (k.map .int)
def kvD (kv : List Int × PyData) : PyData := .tuple [keyD kv.1, kv.2]
abbrev dicD (kvs : List (List Int × PyData)) : PyData := .dict [(.none, .list (kvs.map kvD))]
/-- a hall, as data -/
abbrev hallD (net feed : PyData) (kvs : List (List Int × PyData)) : PyData := .dict [(.bool true, .tuple [net, feed, .list (kvs.map kvD)])]
mutual
inductive Rp (K : PySem.W.Frag) (c : Dc) (B : Hp) : V → PyData → Prop
  | non : Rp K c B .non .none
  | bl (b : Bool) : Rp K c B (.bl b) (.bool b)
  | int (i : Int) : Rp K c B (.int i) (.int i)
  | str (x : Str) : Rp K c B (.str x) (.str x)
  | lst {a : Addr} {xs : List V} {ds : List PyData} : B a = some (.lst xs) → Rps K c B xs ds → Rp K c B (.ref a) (.list ds)
  | tup {a : Addr} {xs : List V} {ds : List PyData} : SqX K B a xs ds → Rps K c B xs ds → Rp K c B (.ref a) (.tuple ds)
  | tok : Rp K c B (.ref c.st) (.dict [])
  | dic {a : Addr} {kv : List (List Key × V)} {kvs : List (List Int × PyData)} : B a = some (.dT kv) → Rpk K c B kv kvs → Rp K c B (.ref a) (.dict [(.none, .list (kvs.map kvD))])
  | hall {a dx dd : Addr} {v1 v2 : V} {kv : List (List Key × V)} {net feed : PyData} {kvs : List (List Int × PyData)} : B a = some (.ins c.hall dx [("net", v1), ("feed", v2), ("cells", .ref dd)]) → B dx = some (.own a) → B dd = some (.dT kv) → Rp K c B v1 net → Rp K c B v2 feed → Rpk K c B kv kvs →
      Rp K c B (.ref a) (.dict [(.bool true, .tuple [net, feed, .list (kvs.map kvD)])])
inductive Rps (K : PySem.W.Frag) (c : Dc) (B : Hp) : List V → List PyData → Prop
  | nil : Rps K c B [] []
  | cons {v : V} {vs : List V} {d : PyData} {ds : List PyData} : Rp K c B v d → Rps K c B vs ds → Rps K c B (v :: vs) (d :: ds)
inductive Rpk (K : PySem.W.Frag) (c : Dc) (B : Hp) : List (List Key × V) → List (List Int × PyData) → Prop
  | nil : Rpk K c B [] []
  | cons {k : List Int} {v : V} {vs : List (List Key × V)} {d : PyData} {ds : List (List Int × PyData)} : Rp K c B v d → Rpk K c B vs ds → Rpk K c B ((k.map Sum.inl, v) :: vs) ((k, d) :: ds)
end

theorem same_seqT {K : PySem.W.Frag} {H H' : Hp} {a : Addr} {xs : List V} (e : Same H H') (h : SqT K H a xs) : SqT K H' a xs := by
  rcases h with (h | ⟨o, h⟩) | h
  · exact .inl (.inl (e _ _ h))
  · exact .inl (.inr ⟨o, e _ _ h⟩)
  · exact .inr h
theorem same_seqX {K : PySem.W.Frag} {H H' : Hp} {a : Addr} {xs : List V} {ds : List PyData} (e : Same H H') (h : SqX K H a xs ds) : SqT K H' a xs := same_seqT e h.1
theorem SqX.same {K : PySem.W.Frag} {H H' : Hp} {a : Addr} {xs : List V} {ds : List PyData} (e : Same H H') (h : SqX K H a xs ds) : SqX K H' a xs ds := ⟨same_seqT e h.1, h.2.imp (fun q => e _ _ q) id⟩
theorem SqX.of {K : PySem.W.Frag} {H : Hp} {a : Addr} {xs : List V} {ds : List PyData} (h : H a = some (.tup xs)) : SqX K H a xs ds := ⟨SqT.of h, .inl h⟩

section
variable {K : PySem.W.Frag} {c : Dc} {B B' : Hp}
mutual
theorem Rp.mono (e : Same B B') : ∀ {v : V} {d : PyData}, Rp K c B v d → Rp K c B' v d
  | _, _, .non => .non
  | _, _, .bl b => .bl b
  | _, _, .int i => .int i
  | _, _, .str x => .str x
  | _, _, .lst h r => .lst (e _ _ h) (Rps.mono e r)
  | _, _, .tup h r => .tup (h.same e) (Rps.mono e r)
  | _, _, .tok => .tok
  | _, _, .dic h r => .dic (e _ _ h) (Rpk.mono e r)
  | _, _, .hall h1 h2 h3 r1 r2 r => .hall (e _ _ h1) (e _ _ h2) (e _ _ h3) (Rp.mono e r1) (Rp.mono e r2) (Rpk.mono e r)
theorem Rps.mono (e : Same B B') : ∀ {vs : List V} {ds : List PyData}, Rps K c B vs ds → Rps K c B' vs ds
  | _, _, .nil => .nil
  | _, _, .cons a r => .cons (Rp.mono e a) (Rps.mono e r)
theorem Rpk.mono (e : Same B B') : ∀ {vs : List (List Key × V)} {ds : List (List Int × PyData)}, Rpk K c B vs ds → Rpk K c B' vs ds
  | _, _, .nil => .nil
  | _, _, .cons a r => .cons (Rp.mono e a) (Rpk.mono e r)
end
mutual
theorem Rp.dp : ∀ {v : V} {d : PyData}, d.canLay0 = true → Rp K c B v d → Dp K B v d
  | _, _, _, .non => .non
  | _, _, _, .bl b => .bl b
  | _, _, _, .int i => .int i
  | _, _, _, .str x => .str x
  | _, _, q, .lst h r => .lst (SqL.of h) (Rps.dp q r)
  | _, _, q, .tup h r => .tup h.1 (Rps.dp q r)
  | _, _, q, .tok => nomatch q
  | _, _, q, .dic _ _ => nomatch q
  | _, _, q, .hall _ _ _ _ _ _ => nomatch q
theorem Rps.dp : ∀ {vs : List V} {ds : List PyData}, PyData.canLayAll0 ds = true → Rps K c B vs ds → DpAll K B vs ds
  | _, _, _, .nil => .nil
  | _, _, q, .cons a r => .cons (Rp.dp (Bool.and_eq_true_iff.mp q).1 a) (Rps.dp (Bool.and_eq_true_iff.mp q).2 r)
end
mutual
theorem Dp.mono' {H H' : Hp} (e : Same H H') : ∀ {v : V} {d : PyData}, Dp K H v d → Dp K H' v d
  | _, _, .non => .non
  | _, _, .bl b => .bl b
  | _, _, .int i => .int i
  | _, _, .str x => .str x
  | _, _, .lst h r => .lst (Same.seq e h) (DpAll.mono' e r)
  | _, _, .tup h r => .tup (same_seqT e h) (DpAll.mono' e r)
theorem DpAll.mono' {H H' : Hp} (e : Same H H') : ∀ {vs : List V} {ds : List PyData}, DpAll K H vs ds → DpAll K H' vs ds
  | _, _, .nil => .nil
  | _, _, .cons a r => .cons (Dp.mono' e a) (DpAll.mono' e r)
end

theorem Rps.length : ∀ {vs : List V} {ds : List PyData}, Rps K c B vs ds → vs.length = ds.length
  | _, _, .nil => rfl
  | _, _, .cons _ r => congrArg (· + 1) (Rps.length r)
theorem Rps.get : ∀ {vs : List V} {ds : List PyData} {i : Nat} {d : PyData}, Rps K c B vs ds → ds[i]? = some d → ∃ v, vs[i]? = some v ∧ Rp K c B v d
  | _, _, _, _, .nil, h => by simp at h
  | _, _, 0, _, .cons a _, h => by simp at h; subst h; exact ⟨_, rfl, a⟩
  | _, _, i + 1, d, .cons _ r, h => by
    obtain ⟨v, e, q⟩ := Rps.get (i := i) (d := d) r (by simpa using h)
    exact ⟨v, by simpa using e, q⟩
theorem Rps.getV : ∀ {vs : List V} {ds : List PyData} {i : Nat} {v : V}, Rps K c B vs ds → vs[i]? = some v → ∃ d, ds[i]? = some d ∧ Rp K c B v d
  | _, _, _, _, .nil, h => by simp at h
  | _, _, 0, _, .cons a _, h => by simp at h; subst h; exact ⟨_, rfl, a⟩
  | _, _, i + 1, d, .cons _ r, h => by
    obtain ⟨v, e, q⟩ := Rps.getV (i := i) (v := d) r (by simpa using h)
    exact ⟨v, by simpa using e, q⟩
theorem Rps.append : ∀ {vs ws : List V} {ds es : List PyData}, Rps K c B vs ds → Rps K c B ws es → Rps K c B (vs ++ ws) (ds ++ es)
  | _, _, _, _, .nil, s => s
  | _, _, _, _, .cons a r, s => .cons a (Rps.append r s)
theorem Rps.take : ∀ {vs : List V} {ds : List PyData} (n : Nat), Rps K c B vs ds → Rps K c B (vs.take n) (ds.take n)
  | _, _, 0, _ => by rw [List.take_zero, List.take_zero]; exact .nil
  | _, _, _ + 1, .nil => .nil
  | _, _, n + 1, .cons a r => .cons a (Rps.take n r)
theorem Rps.drop : ∀ {vs : List V} {ds : List PyData} (n : Nat), Rps K c B vs ds → Rps K c B (vs.drop n) (ds.drop n)
  | _, _, 0, r => r
  | _, _, _ + 1, .nil => .nil
  | _, _, n + 1, .cons _ r => Rps.drop n r
theorem Rps.set {v : V} {d : PyData} (q : Rp K c B v d) : ∀ {vs : List V} {ds : List PyData} (i : Nat), Rps K c B vs ds → Rps K c B (vs.set i v) (ds.set i d)
  | _, _, _, .nil => .nil
  | _, _, 0, .cons _ r => .cons q r
  | _, _, i + 1, .cons a r => .cons a (Rps.set q i r)
theorem Rps.eraseIdx : ∀ {vs : List V} {ds : List PyData} (i : Nat), Rps K c B vs ds → Rps K c B (vs.eraseIdx i) (ds.eraseIdx i)
  | _, _, _, .nil => .nil
  | _, _, 0, .cons _ r => r
  | _, _, i + 1, .cons a r => .cons a (Rps.eraseIdx i r)
theorem Rps.flatRep {vs : List V} {ds : List PyData} (r : Rps K c B vs ds) : ∀ n : Nat, Rps K c B (List.replicate n vs).flatten (List.replicate n ds).flatten
  | 0 => .nil
  | n + 1 => by
    rw [List.replicate_succ, List.replicate_succ, List.flatten_cons, List.flatten_cons]
    exact r.append (Rps.flatRep r n)
theorem Rps.ints : ∀ {vs : List V} {ns : List Int}, Rps K c B vs (ns.map PyData.int) → vs = ns.map V.int
  | _, [], .nil => rfl
  | _, _ :: _, .cons (.int _) r => by rw [Rps.ints r]; rfl
theorem Rps.ofInts : ∀ (ns : List Int), Rps K c B (ns.map V.int) (ns.map PyData.int)
  | [] => .nil
  | n :: ns => .cons (.int n) (Rps.ofInts ns)
theorem Rps.strs : ∀ {vs : List V} {ns : List Str}, Rps K c B vs (ns.map PyData.str) → vs = ns.map V.str
  | _, [], .nil => rfl
  | _, _ :: _, .cons (.str _) r => by rw [Rps.strs r]; rfl
theorem Rps.ofStrs : ∀ (ns : List Str), Rps K c B (ns.map V.str) (ns.map PyData.str)
  | [] => .nil
  | n :: ns => .cons (.str n) (Rps.ofStrs ns)
end

/-- nothing is tracked at a, or a table of code objects alone -/
def Fre (H : Hp) (a : Addr) : Prop := ∀ o, H a = some o → ∃ ps, o = .tbl ps
theorem Fre.of {H : Hp} {a : Addr} (h : H a = none) : Fre H a := fun o e => by rw [h] at e; cases e
theorem Fre.no {H : Hp} {a : Addr} {o : HO} {p : Prop} (h : Fre H a) (e : H a = some o) (t : ∀ ps, o ≠ .tbl ps) : p := by
  obtain ⟨ps, q⟩ := h o e
  exact absurd q (t ps)
/-- how the state may go on: B what stays, H what is tracked -/
structure Ex (K : PySem.W.Frag) (c : Dc) (B H B' H' : Hp) : Prop where
  sb : Same B B'
  sh : Same B' H'
  fr : ∀ a o, a ≠ c.st → H a = some o → (∀ ps, o ≠ .tbl ps) → H' a = some o
  nw : ∀ a, ¬ Fre H a → B' a = B a
  st : B' c.st = none
  wd : Wd K c H'
  sl : c.sl = true → ¬ Fre H c.scr
  nt : ∀ a ps, B' a ≠ some (.tbl ps)
structure Ok (K : PySem.W.Frag) (c : Dc) (B H : Hp) : Prop where
  sh : Same B H
  st : B c.st = none
  wd : Wd K c H
  nt : ∀ a ps, B a ≠ some (.tbl ps)
section
variable {K : PySem.W.Frag} {c : Dc} {B H B' H' B1 H1 B2 H2 : Hp}
theorem Wd.sl (w : Wd K c H) (h : c.sl = true) : ¬ Fre H c.scr := fun f => by
  obtain ⟨_, _, _, _, _, _, _, h4, _⟩ := w
  rcases h4 with ⟨_, q⟩ | ⟨q, _⟩
  · exact f.no q nofun
  · rw [h] at q; cases q
theorem Ex.ok (e : Ex K c B H B' H') : Ok K c B' H' := ⟨e.sh, e.st, e.wd, e.nt⟩
theorem Ok.refl (o : Ok K c B H) : Ex K c B H B H := ⟨Same.refl B, o.sh, fun _ _ _ h _ => h, fun _ _ => rfl, o.st, o.wd, o.wd.sl, o.nt⟩
theorem Ex.keep (e : Ex K c B H B' H') {a : Addr} (ha : a ≠ c.st) (h : ¬ Fre H a) : ¬ Fre H' a := fun f => h fun o ho => by
  by_cases t : ∃ ps, o = .tbl ps
  · exact t
  · exact f.no (e.fr a o ha ho fun ps z => t ⟨ps, z⟩) fun ps z => t ⟨ps, z⟩
theorem Ex.trans (a : Ex K c B H B1 H1) (b : Ex K c B1 H1 B2 H2) : Ex K c B H B2 H2 where
  sb := a.sb.trans b.sb
  sh := b.sh
  fr := fun x o n h t => b.fr x o n (a.fr x o n h t) t
  nw := fun x h => by
    by_cases hx : x = c.st
    · have h1 := a.nw x h
      subst hx
      rw [b.st, ← h1, a.st]
    · rw [b.nw x (a.keep hx h), a.nw x h]
  st := b.st
  wd := b.wd
  sl := a.sl
  nt := b.nt
theorem Wd.ne (w : Wd K c H) : H c.st ≠ none := by
  obtain ⟨k, m, r, e, _⟩ := w
  rw [e]; simp
theorem Wd.fr (w : Wd K c H) (h : ∀ a o, H a = some o → H' a = some o) : Wd K c H' := by
  obtain ⟨k, m, r, e, h1, h2, h3, h4, h5⟩ := w
  exact ⟨k, m, r, h _ _ e, h1, h2, h3, h4.mono (fun o u q => h _ _ q) (fun xs _ q => h _ _ q), h5.ext h⟩
theorem tabs_upd {T : List (Addr × Str)} (t : LamX.Tabs T H) {D : Addr} {xs : List V} {x : HO} (hD : H D = some (.lst xs)) : LamX.Tabs T (L2.upd H D x) := fun p hp => by
  obtain ⟨ps, h1, h2, h3⟩ := t p hp
  refine ⟨ps, by rw [upd_ne (fun z => by rw [z, hD] at h1; cases h1)]; exact h1, h2, fun pos cv hc => ?_⟩
  obtain ⟨c, e1, e2⟩ := h3 pos cv hc
  exact ⟨c, e1, by rw [upd_ne (fun z => by rw [z, hD] at e2; unfold LamX.CodeO at e2; cases e2)]; exact e2⟩
/-- a list that isn't the drawing one is changed -/
theorem Wd.upd (w : Wd K c H) {D : Addr} {xs ys : List V} (hD : H D = some (.lst xs)) (n : D ≠ c.st) (n2 : c.sl = true → D ≠ c.scr) : Wd K c (upd H D (.lst ys)) := by
  obtain ⟨k, m, r, e, h1, h2, h3, h4, h5⟩ := w
  exact ⟨k, m, r, by rw [upd_ne n.symm]; exact e, h1, h2, h3, h4.mono (fun o u q => by rw [upd_ne (fun z => by rw [z, hD] at q; cases q)]; exact q) (fun xs e q => by rw [upd_ne (n2 e).symm]; exact q), tabs_upd h5 hD⟩
theorem Wd.nfre (w : Wd K c H) : ¬ Fre H c.st := fun f => by
  obtain ⟨k, m, r, e, _⟩ := w
  exact f.no e nofun
theorem Ex.free (e : Ex K c B H B' H') {p : Addr} (hn : Fre H' p) : Fre H p := by
  by_cases hp : p = c.st
  · subst hp; exact absurd hn e.wd.nfre
  · exact Classical.byContradiction fun h => e.keep hp h hn
theorem Ok.noB (o : Ok K c B H) {p : Addr} (hp : H p = none) : B p = none := by
  cases z : B p with
  | none => rfl
  | some u => rw [o.sh _ _ z] at hp; cases hp
/-- a new object that stays -/
theorem Ok.new (o : Ok K c B H) {p : Addr} {x : HO} (hp : H p = none) (hx : ∀ ps, x ≠ .tbl ps := by nofun) : Ex K c B H (upd B p x) (upd H p x) where
  sb := fun a u h => by rw [upd_ne (ne_of_none (o.sh a u h) hp)]; exact h
  sh := fun a u h => by
    by_cases e : a = p
    · subst e; rw [upd_same] at h ⊢; exact h
    · rw [upd_ne e] at h ⊢; exact o.sh a u h
  fr := fun a u _ h _ => by rw [upd_ne (ne_of_none h hp)]; exact h
  nt := fun a ps h => by
    by_cases e : a = p
    · subst e; rw [upd_same] at h; exact hx ps (Option.some.inj h)
    · rw [upd_ne e] at h; exact o.nt a ps h
  nw := fun a h => by
    rw [upd_ne]
    intro e; subst e; exact h (.of hp)
  st := by
    rw [upd_ne]
    · exact o.st
    · intro e; rw [← e] at hp; exact o.wd.ne hp
  wd := o.wd.fr fun a u h => by rw [upd_ne (ne_of_none h hp)]; exact h
  sl := o.wd.sl
/-- a new object that may be changed later -/
theorem Ok.newOwn (o : Ok K c B H) {p : Addr} {x : HO} (hp : H p = none) : Ex K c B H B (upd H p x) where
  sb := Same.refl B
  sh := fun a u h => by rw [upd_ne (ne_of_none (o.sh a u h) hp)]; exact o.sh a u h
  fr := fun a u _ h _ => by rw [upd_ne (ne_of_none h hp)]; exact h
  nt := o.nt
  nw := fun _ _ => rfl
  st := o.st
  wd := o.wd.fr fun a u h => by rw [upd_ne (ne_of_none h hp)]; exact h
  sl := o.wd.sl
/-- a new list that is not of the stay is changed -/
theorem Ex.setL (x : Ex K c B H B1 H1) {D : Addr} {vs ws : List V} (h1 : H1 D = some (.lst vs)) (b1 : B1 D = none) (n : D ≠ c.st) (h0 : Fre H D) : Ex K c B H B1 (L2.upd H1 D (.lst ws)) :=
  ⟨x.sb, fun a u z => by rw [upd_ne (fun w => by rw [w, b1] at z; cases z)]; exact x.sh a u z, fun a u n z t => by rw [upd_ne (fun w => by rw [w] at z; exact h0.no z t)]; exact x.fr a u n z t, x.nw, x.st, x.wd.upd h1 n (fun e z => x.sl e (by rw [← z]; exact h0)), x.sl, x.nt⟩
theorem Ok.tup (o : Ok K c B H) {p : Addr} {xs : List V} {ds : List PyData} (hp : H p = none) (r : Rps K c B xs ds) : Rp K c (upd B p (.tup xs)) (.ref p) (.tuple ds) :=
  .tup (SqX.of upd_same) (r.mono (o.new hp (x := .tup xs)).sb)
theorem Ok.lst (o : Ok K c B H) {p : Addr} {xs : List V} {ds : List PyData} (hp : H p = none) (r : Rps K c B xs ds) : Rp K c (upd B p (.lst xs)) (.ref p) (.list ds) :=
  .lst upd_same (r.mono (o.new hp (x := .lst xs)).sb)
end

/-! ### environments -/
inductive EV where
  | un
  | d (x : PyData)
  /-- an own list of data -/
  | own (ds : List PyData)
  /-- an own list of own lists, n + 2 deep -/
  | deep (n : Nat) (ds : List PyData)
  /-- an own dict -/
  | dic (kvs : List (List Int × PyData))
  /-- an own hall -/
  | hall (net feed : PyData) (kvs : List (List Int × PyData))

/-- n levels of own lists, all within F -/
def Ow (K : PySem.W.Frag) (c : Dc) (B H : Hp) : Nat → V → PyData → (Addr → Prop) → Prop
  | 0, v, d, _ => Rp K c B v d
  | n + 1, v, d, F => ∃ o vs ds, v = .ref o ∧ d = .list ds ∧ H o = some (.lst vs) ∧ F o ∧ vs.length = ds.length ∧ ∃ g : Nat → Addr → Prop, (∀ i v d, vs[i]? = some v → ds[i]? = some d → Ow K c B H n v d (g i)) ∧ (∀ i a, g i a → F a ∧ a ≠ o) ∧ ∀ i j a, g i a → g j a → i = j
theorem Ow.mono {K : PySem.W.Frag} {c : Dc} {B H B' H' : Hp} (sb : Same B B') : ∀ {n : Nat} {v : V} {d : PyData} {F F' : Addr → Prop}, (∀ a, F a → F' a) → (∀ a vs, F a → H a = some (.lst vs) → H' a = some (.lst vs)) → Ow K c B H n v d F → Ow K c B' H' n v d F'
  | 0, _, _, _, _, _, _, h => Rp.mono sb h
  | n + 1, _, _, F, F', hF, k, ⟨o, vs, ds, e1, e2, h1, h2, hl, g, h3, h4, h5⟩ =>
    ⟨o, vs, ds, e1, e2, k _ _ h2 h1, hF _ h2, hl, g, fun i v d a b => Ow.mono sb (fun _ z => z) (fun a vs z => k a vs (h4 i a z).1) (h3 i v d a b), fun i a z => ⟨hF _ (h4 i a z).1, (h4 i a z).2⟩, h5⟩

/-- what a slot holds; fp: what is its own -/
def SlOk (K : PySem.W.Frag) (c : Dc) (H0 B H : Hp) (s : Option V) (e : EV) (fp : Addr → Prop) : Prop := match e with
  | .un => True
  | .d x => ∃ v, s = some v ∧ Rp K c B v x
  | .own ds => ∃ o vs, s = some (.ref o) ∧ H o = some (.lst vs) ∧ fp o ∧ Rps K c B vs ds
  | .deep n ds => ∃ v, s = some v ∧ Ow K c B H (n + 2) v (.list ds) fp
  | .dic kvs => ∃ o kv, s = some (.ref o) ∧ H o = some (.dT kv) ∧ fp o ∧ Rpk K c B kv kvs
  | .hall net feed kvs => ∃ o dx dd v1 v2 kv, s = some (.ref o) ∧ H o = some (.ins c.hall dx [("net", v1), ("feed", v2), ("cells", .ref dd)]) ∧ H dx = some (.own o) ∧ H dd = some (.dT kv) ∧ fp o ∧ fp dx ∧ fp dd ∧ Rp K c B v1 net ∧ Rp K c B v2 feed ∧ Rpk K c B kv kvs

/-- nobody else's -/
structure Fr (c : Dc) (H0 B H : Hp) (a : Addr) : Prop where
  nb : B a = none
  nst : a ≠ c.st
  n0 : Fre H0 a
  th : ∃ o, H a = some o ∧ ∀ ps, o ≠ .tbl ps

structure EnvOk (K : PySem.W.Frag) (c : Dc) (H0 B H : Hp) (σ : St) (ρ : List EV) : Prop where
  len : σ.length = ρ.length
  ex : ∃ fp : Nat → Addr → Prop, (∀ (i : Nat) (s : Option V) (e : EV), σ[i]? = some s → ρ[i]? = some e → SlOk K c H0 B H s e (fp i)) ∧ (∀ i a, fp i a → Fr c H0 B H a) ∧ ∀ i j a, fp i a → fp j a → i = j

section
variable {K : PySem.W.Frag} {c : Dc} {H0 B H B' H' : Hp} {σ : St} {ρ : List EV}
theorem Fr.ntb {a : Addr} (h : Fr c H0 B H a) {o : HO} (e : H a = some o) : ∀ ps, o ≠ .tbl ps := by
  obtain ⟨o', h1, h2⟩ := h.th
  rw [h1] at e; cases e
  exact h2
theorem Fr.nf {a : Addr} (h : Fr c H0 B H a) : ¬ Fre H a := fun f => by
  obtain ⟨o, h1, h2⟩ := h.th
  exact f.no h1 h2
theorem Fr.step {a : Addr} (x : Ex K c B H B' H') (h : Fr c H0 B H a) : Fr c H0 B' H' a := by
  have hnf := h.nf
  obtain ⟨o, ho, ht⟩ := h.th
  exact ⟨by rw [x.nw a hnf, h.nb], h.nst, h.n0, o, x.fr a o h.nst ho ht, ht⟩
theorem SlOk.step' {s : Option V} {e : EV} {fp : Addr → Prop} (sb : Same B B') (fr : ∀ a o, fp a → H a = some o → H' a = some o) (h : SlOk K c H0 B H s e fp) : SlOk K c H0 B' H' s e fp := by
  cases e with
  | un => trivial
  | d y => obtain ⟨v, e, r⟩ := h; exact ⟨v, e, r.mono sb⟩
  | own ds =>
    obtain ⟨o, vs, e, h1, h2, r⟩ := h
    exact ⟨o, vs, e, fr o _ h2 h1, h2, r.mono sb⟩
  | deep n ds =>
    obtain ⟨v, e, h⟩ := h
    exact ⟨v, e, Ow.mono sb (fun _ z => z) (fun a vs z q => fr a _ z q) h⟩
  | dic kvs =>
    obtain ⟨o, kv, e, h1, h2, r⟩ := h
    exact ⟨o, kv, e, fr o _ h2 h1, h2, r.mono sb⟩
  | hall net feed kvs =>
    obtain ⟨o, dx, dd, v1, v2, kv, e, h1, h2, h3, f1, f2, f3, r1, r2, r3⟩ := h
    exact ⟨o, dx, dd, v1, v2, kv, e, fr o _ f1 h1, fr dx _ f2 h2, fr dd _ f3 h3, f1, f2, f3, r1.mono sb, r2.mono sb, r3.mono sb⟩
theorem EnvOk.step (x : Ex K c B H B' H') (h : EnvOk K c H0 B H σ ρ) : EnvOk K c H0 B' H' σ ρ := by
  obtain ⟨fp, h1, h2, h3⟩ := h.ex
  exact ⟨h.len, fp, fun i s e a b => (h1 i s e a b).step' x.sb fun a o z q => x.fr a o (h2 i a z).nst q ((h2 i a z).ntb q), fun i a z => (h2 i a z).step x, h3⟩
theorem EnvOk.at (h : EnvOk K c H0 B H σ ρ) {i : Nat} {e : EV} (q : ρ[i]? = some e) : ∃ s fp, σ[i]? = some s ∧ SlOk K c H0 B H s e fp ∧ ∀ a, fp a → Fr c H0 B H a := by
  have hi : i < σ.length := by rw [h.len]; exact (List.getElem?_eq_some_iff.mp q).1
  obtain ⟨fp, h1, h2, _⟩ := h.ex
  exact ⟨σ[i], fp i, List.getElem?_eq_getElem hi, h1 i _ e (List.getElem?_eq_getElem hi) q, h2 i⟩
theorem EnvOk.data (h : EnvOk K c H0 B H σ ρ) {i : Nat} {x : PyData} (q : ρ[i]? = some (.d x)) : ∃ v, σ[i]? = some (some v) ∧ Rp K c B v x := by
  obtain ⟨s, fp, e, ⟨v, e2, r⟩, _⟩ := h.at q
  exact ⟨v, by rw [e, e2], r⟩
theorem EnvOk.owned (h : EnvOk K c H0 B H σ ρ) {i : Nat} {ds : List PyData} (q : ρ[i]? = some (.own ds)) : ∃ o vs, σ[i]? = some (some (.ref o)) ∧ H o = some (.lst vs) ∧ B o = none ∧ o ≠ c.st ∧ Fre H0 o ∧ Rps K c B vs ds := by
  obtain ⟨s, fp, e, ⟨o, vs, e2, h1, h2, r⟩, h3⟩ := h.at q
  exact ⟨o, vs, by rw [e, e2], h1, (h3 o h2).nb, (h3 o h2).nst, (h3 o h2).n0, r⟩
/-- a slot is stored; the new thing's own is nobody's yet -/
theorem EnvOk.put (h : EnvOk K c H0 B H σ ρ) (i : Nat) {s : Option V} {e : EV} (F : Addr → Prop) (ok : SlOk K c H0 B H s e F) (fr : ∀ a, F a → Fr c H0 B H a) (new : ∀ fp : Nat → Addr → Prop, (∀ i a, fp i a → Fr c H0 B H a) → (∀ (i : Nat) (s : Option V) (e : EV), σ[i]? = some s → ρ[i]? = some e → SlOk K c H0 B H s e (fp i)) → (∀ i j a, fp i a → fp j a → i = j) → ∃ fp' : Nat → Addr → Prop, (∀ j a, fp' j a → fp j a) ∧ (∀ j a, j ≠ i → fp' j a → ¬ F a) ∧ ∀ (j : Nat) (s : Option V) (e : EV), j ≠ i → σ[j]? = some s → ρ[j]? = some e → SlOk K c H0 B H s e (fp' j)) : EnvOk K c H0 B H (σ.set i s) (ρ.set i e) := by
  obtain ⟨fp, h1, h2, h3⟩ := h.ex
  obtain ⟨fp', g1, g2, g3⟩ := new fp h2 h1 h3
  refine ⟨by rw [List.length_set, List.length_set, h.len], fun j => if j = i then F else fp' j, fun j s' e' a b => ?_, fun j a z => ?_, fun j k a p q => ?_⟩
  · by_cases z : j = i
    · subst z
      have hi : j < σ.length := by
        have := (List.getElem?_eq_some_iff.mp a).1
        rwa [List.length_set] at this
      rw [List.getElem?_set_self hi] at a
      rw [List.getElem?_set_self (by rw [← h.len]; exact hi)] at b
      cases a; cases b
      simpa using ok
    · rw [List.getElem?_set_ne (Ne.symm z)] at a b
      simpa [z] using g3 j s' e' z a b
  · by_cases w : j = i
    · simp only [w, if_true] at z; exact fr a z
    · simp only [w, if_false] at z; exact h2 j a (g1 j a z)
  · by_cases w : j = i
    · by_cases w' : k = i
      · rw [w, w']
      · simp only [w, if_true] at p
        simp only [w', if_false] at q
        exact absurd p (g2 k a w' q)
    · by_cases w' : k = i
      · simp only [w, if_false] at p
        simp only [w', if_true] at q
        exact absurd q (g2 j a w p)
      · simp only [w, if_false] at p
        simp only [w', if_false] at q
        exact h3 j k a (g1 _ _ p) (g1 _ _ q)
theorem EnvOk.put0 (h : EnvOk K c H0 B H σ ρ) (i : Nat) {s : Option V} {e : EV} (ok : SlOk K c H0 B H s e fun _ => False) : EnvOk K c H0 B H (σ.set i s) (ρ.set i e) :=
  h.put i _ ok (fun _ z => z.elim) fun fp _ h1 _ => ⟨fp, fun _ _ z => z, fun _ _ _ _ z => z, fun j s e _ a b => h1 j s e a b⟩
theorem EnvOk.setD (h : EnvOk K c H0 B H σ ρ) (i : Nat) {v : V} {x : PyData} (r : Rp K c B v x) : EnvOk K c H0 B H (σ.set i (some v)) (ρ.set i (.d x)) := h.put0 i ⟨v, rfl, r⟩
theorem EnvOk.setUn (h : EnvOk K c H0 B H σ ρ) (i : Nat) (s : Option V) : EnvOk K c H0 B H (σ.set i s) (ρ.set i .un) := h.put0 i trivial
/-- a new own thing, all of it new since B1, H1 (where the environment stood already) -/
theorem EnvOk.putNew {B1 H1 : Hp} (h1 : EnvOk K c H0 B1 H1 σ ρ) (x : Ex K c B1 H1 B H) (i : Nat) {s : Option V} {e : EV} (F : Addr → Prop) (ok : SlOk K c H0 B H s e F) (fr : ∀ a, F a → Fr c H0 B H a) (new : ∀ a, F a → Fre H1 a) : EnvOk K c H0 B H (σ.set i s) (ρ.set i e) := by
  obtain ⟨fp1, a1, a2, a3⟩ := h1.ex
  have en : EnvOk K c H0 B H σ ρ := h1.step x
  refine ⟨by rw [List.length_set, List.length_set, h1.len], fun j => if j = i then F else fp1 j, fun j s' e' a b => ?_, fun j a z => ?_, fun j k a p q => ?_⟩
  · by_cases z : j = i
    · subst z
      have hi : j < σ.length := by
        have := (List.getElem?_eq_some_iff.mp a).1
        rwa [List.length_set] at this
      rw [List.getElem?_set_self hi] at a
      rw [List.getElem?_set_self (by rw [← h1.len]; exact hi)] at b
      cases a; cases b
      simpa using ok
    · rw [List.getElem?_set_ne (Ne.symm z)] at a b
      simpa [z] using (a1 j s' e' a b).step' x.sb fun a o z q => x.fr a o (a2 j a z).nst q ((a2 j a z).ntb q)
  · by_cases w : j = i
    · simp only [w, if_true] at z; exact fr a z
    · simp only [w, if_false] at z; exact (a2 j a z).step x
  · have no : ∀ j a, fp1 j a → F a → False := fun j a p q => by
      exact (a2 j a p).nf (new a q)
    by_cases w : j = i
    · by_cases w' : k = i
      · rw [w, w']
      · simp only [w, if_true] at p
        simp only [w', if_false] at q
        exact (no _ _ q p).elim
    · by_cases w' : k = i
      · simp only [w, if_false] at p
        simp only [w', if_true] at q
        exact (no _ _ p q).elim
      · simp only [w, if_false] at p
        simp only [w', if_false] at q
        exact a3 j k a p q
/-- the own thing at i is changed: objects of its own, or new ones -/
theorem EnvOk.change (h : EnvOk K c H0 B H σ ρ) {i : Nat} {e e' : EV} {s s' : Option V} (hi : ρ[i]? = some e) (hs : σ[i]? = some s)
    (w : ∀ fp : Addr → Prop, SlOk K c H0 B H s e fp → (∀ a, fp a → Fr c H0 B H a) → ∃ fp' : Addr → Prop, (∀ a, fp' a → fp a ∨ H a = none) ∧ SlOk K c H0 B H' s' e' fp' ∧ (∀ a, fp' a → Fr c H0 B H' a) ∧ ∀ a o, ¬ fp a → H a = some o → H' a = some o) : EnvOk K c H0 B H' (σ.set i s') (ρ.set i e') := by
  obtain ⟨fp, h1, h2, h3⟩ := h.ex
  obtain ⟨fp', w1, w2, w3, w4⟩ := w (fp i) (h1 i s e hs hi) (h2 i)
  have out : ∀ j a, j ≠ i → fp j a → ¬ fp i a := fun j a n p q => n (h3 j i a p q)
  refine ⟨by rw [List.length_set, List.length_set, h.len], fun j => if j = i then fp' else fp j, fun j s2 e2 a b => ?_, fun j a z => ?_, fun j k a p q => ?_⟩
  · by_cases z : j = i
    · subst z
      rw [List.getElem?_set_self (List.getElem?_eq_some_iff.mp hs).1] at a
      rw [List.getElem?_set_self (List.getElem?_eq_some_iff.mp hi).1] at b
      cases a; cases b
      simpa using w2
    · rw [List.getElem?_set_ne (Ne.symm z)] at a b
      simpa [z] using (h1 j s2 e2 a b).step' (Same.refl B) fun a o p q => w4 a o (out j a z p) q
  · by_cases w : j = i
    · simp only [w, if_true] at z; exact w3 a z
    · simp only [w, if_false] at z
      have f := h2 j a z
      obtain ⟨o, ho, ht⟩ := f.th
      exact ⟨f.nb, f.nst, f.n0, o, w4 a o (out j a w z) ho, ht⟩
  · have no : ∀ j a, j ≠ i → fp j a → fp' a → False := fun j a n p q => by
      rcases w1 a q with z | z
      · exact out j a n p z
      · obtain ⟨o, ho, _⟩ := (h2 j a p).th
        rw [z] at ho; cases ho
    by_cases w : j = i
    · by_cases w' : k = i
      · rw [w, w']
      · simp only [w, if_true] at p
        simp only [w', if_false] at q
        exact (no _ _ w' q p).elim
    · by_cases w' : k = i
      · simp only [w, if_false] at p
        simp only [w', if_true] at q
        exact (no _ _ w p q).elim
      · simp only [w, if_false] at p
        simp only [w', if_false] at q
        exact h3 j k a p q
theorem set_same {α : Type} {xs : List α} {i : Nat} {x : α} (h : xs[i]? = some x) : xs.set i x = xs := by
  apply List.ext_getElem?
  intro j
  by_cases z : i = j
  · subst z
    rw [List.getElem?_set_self (List.getElem?_eq_some_iff.mp h).1, h]
  · rw [List.getElem?_set_ne z]
/-- an own list is changed -/
theorem EnvOk.changeL (h : EnvOk K c H0 B H σ ρ) {i : Nat} {o : Addr} {ds es : List PyData} {ws : List V} (hi : ρ[i]? = some (.own ds)) (hs : σ[i]? = some (some (.ref o))) (r : Rps K c B ws es) :
    EnvOk K c H0 B (upd H o (.lst ws)) σ (ρ.set i (.own es)) := by
  have key := h.change (H' := upd H o (.lst ws)) (e' := .own es) (s' := some (.ref o)) hi hs fun fp ok fr => by
    obtain ⟨o', vs, e2, h1, h2, r1⟩ := ok
    cases e2
    refine ⟨fun a => a = o, fun a z => .inl (by rw [z]; exact h2), ⟨o, ws, rfl, upd_same, rfl, r⟩, fun a z => ?_, fun a u z q => by rw [upd_ne (fun w => z (by rw [w]; exact h2))]; exact q⟩
    rw [z]
    have f := fr o h2
    exact ⟨f.nb, f.nst, f.n0, _, upd_same, nofun⟩
  rwa [set_same hs] at key
end
end DL

/-! DL2: expressions over data. -/
namespace DL
open PySem PySem.Spec L2

/-! ### the weakest readings -/
section
variable (X : Cx)
def wE (e : Expr) : TE := fun σ H Q => ∀ pins s, Inv X pins σ H s → wpAny (model X.prog X.w) X.A (eval e X.env) (EP X pins σ Q) X.xe s
def wT (e : Expr) : TT := fun σ H Q => ∀ pins s, Inv X pins σ H s → wpAny (model X.prog X.w) X.A (isTrue e X.env (eval e X.env)) (TP X pins σ Q) X.xe s
def wW (e : Expr) : TT := fun σ H Q => ∀ wh pins s, Inv X pins σ H s → wpAny (model X.prog X.w) X.A (isTrue e X.env wh) (TP X pins σ Q) X.xe s
def wA (es : List Expr) : TA := fun σ H Q => ∀ pos pins s, Inv X pins σ H s → wpAny (model X.prog X.w) X.A (spliced (backTo pos (starEach es X.env))) (AP X pins σ Q) X.xe s
def wS (st : Stmt) : TS := fun D σ H => ∀ pins s, Inv X pins σ H s → wpAny (model X.prog X.w) X.A (exec st X.env) (SP X pins D) X.xe s
def wSs (st : List Stmt) : TS := fun D σ H => ∀ pins s, Inv X pins σ H s → wpAny (model X.prog X.w) X.A (execs st X.env) (SP X pins D) X.xe s
def wR (f : Value → Value → Sem Value) : R2 := fun x y H Q => ∀ pins s σ v u, Inv X pins σ H s → RelV x v → RelV y u → wpAny (model X.prog X.w) X.A (f v u) (EP X pins σ Q) X.xe s
def wC (f : Value) : List V → Hp → VK → Prop := fun xs H Q => ∀ pins s σ us, Inv X pins σ H s → Vals xs us → wpAny (model X.prog X.w) X.A (call f us) (EP X pins σ Q) X.xe s
end
section
variable {X : Cx}
theorem peW (e : Expr) : PE X e (wE X e) := ⟨fun pins s σ H Q I h => h pins s I⟩
theorem ptW (e : Expr) : PT X e (wT X e) := ⟨fun pins s σ H Q I h => h pins s I⟩
theorem pwW (e : Expr) : PW X e (wW X e) := ⟨fun wh pins s σ H Q I h => h wh pins s I⟩
theorem paW (es : List Expr) : PA X es (wA X es) := ⟨fun pos pins s σ H Q I h => h pos pins s I⟩
theorem psW (e : Stmt) : PS X e (wS X e) := ⟨fun pins s σ H Q I h => h pins s I⟩
theorem pssW (e : List Stmt) : PSs X e (wSs X e) := ⟨fun pins s σ H Q I h => h pins s I⟩
theorem opW (f : Value → Value → Sem Value) : OpR X f (wR X f) := fun pins s σ H x y v u Q I rx ry h => h pins s σ v u I rx ry
theorem clW (f : Value) : CallR X f (wC X f) := fun pins s σ H xs us Q I r h => h pins s σ us I r
theorem PEw {e : Expr} {t : TE} (h : PE X e t) {σ H Q} (q : t σ H Q) : wE X e σ H Q := fun pins s I => h.run pins s σ H Q I q
theorem PTw {e : Expr} {t : TT} (h : PT X e t) {σ H Q} (q : t σ H Q) : wT X e σ H Q := fun pins s I => h.run pins s σ H Q I q
theorem PWw {e : Expr} {t : TT} (h : PW X e t) {σ H Q} (q : t σ H Q) : wW X e σ H Q := fun wh pins s I => h.run wh pins s σ H Q I q
theorem PAw {e : List Expr} {t : TA} (h : PA X e t) {σ H Q} (q : t σ H Q) : wA X e σ H Q := fun pos pins s I => h.run pos pins s σ H Q I q
theorem PSw {e : Stmt} {t : TS} (h : PS X e t) {σ H D} (q : t D σ H) : wS X e D σ H := fun pins s I => h.run pins s σ H D I q
theorem PSsw {e : List Stmt} {t : TS} (h : PSs X e t) {σ H D} (q : t D σ H) : wSs X e D σ H := fun pins s I => h.run pins s σ H D I q
theorem OpRw {f : Value → Value → Sem Value} {r : R2} (h : OpR X f r) {x y H Q} (q : r x y H Q) : wR X f x y H Q := fun pins s σ v u I rx ry => h pins s σ H x y v u Q I rx ry q
theorem CRw {f : Value} {r : List V → Hp → VK → Prop} (h : CallR X f r) {xs H Q} (q : r xs H Q) : wC X f xs H Q := fun pins s σ us I rx => h pins s σ H xs us Q I rx q
theorem wE.mono {e : Expr} {σ H} {Q Q' : VK} (h : wE X e σ H Q) (m : ∀ v H', Q v H' → Q' v H') : wE X e σ H Q' := fun pins s I => thn (h pins s I) fun u s' ⟨v, H', I', r, q⟩ => ⟨v, H', I', r, m _ _ q⟩
theorem wT.mono {e : Expr} {σ H} {Q Q' : Bool → Hp → Prop} (h : wT X e σ H Q) (m : ∀ v H', Q v H' → Q' v H') : wT X e σ H Q' := fun pins s I => thn (h pins s I) fun u s' ⟨H', I', q⟩ => ⟨H', I', m _ _ q⟩
theorem wW.mono {e : Expr} {σ H} {Q Q' : Bool → Hp → Prop} (h : wW X e σ H Q) (m : ∀ v H', Q v H' → Q' v H') : wW X e σ H Q' := fun wh pins s I => thn (h wh pins s I) fun u s' ⟨H', I', q⟩ => ⟨H', I', m _ _ q⟩
theorem wA.mono {e : List Expr} {σ H} {Q Q' : List V → Hp → Prop} (h : wA X e σ H Q) (m : ∀ v H', Q v H' → Q' v H') : wA X e σ H Q' := fun pos pins s I => thn (h pos pins s I) fun u s' ⟨v, H', I', r, q⟩ => ⟨v, H', I', r, m _ _ q⟩
theorem wR.mono {f : Value → Value → Sem Value} {x y H} {Q Q' : VK} (h : wR X f x y H Q) (m : ∀ v H', Q v H' → Q' v H') : wR X f x y H Q' := fun pins s σ v u I rx ry => thn (h pins s σ v u I rx ry) fun u s' ⟨v, H', I', r, q⟩ => ⟨v, H', I', r, m _ _ q⟩
theorem wC.mono {f : Value} {xs H} {Q Q' : VK} (h : wC X f xs H Q) (m : ∀ v H', Q v H' → Q' v H') : wC X f xs H Q' := fun pins s σ us I rx => thn (h pins s σ us I rx) fun u s' ⟨v, H', I', r, q⟩ => ⟨v, H', I', r, m _ _ q⟩
end

/-! ### the run of a def, over data -/
structure Act where
  c : Dc
  B0 : Hp
  H0 : Hp
  E : XK
abbrev XQ := Str → Option PyData → Prop
/-- an exception named n is wanted, anywhere from here on -/
def XEnd (K : PySem.W.Frag) (c : Dc) (mg : Str → Option Value) (E : XK) (B H : Hp) (n : Str) (r : Option PyData) : Prop :=
  ∀ C, mg n = some (.ref C) → match r with
    | none => ∀ B' H', Ex K c B H B' H' → E (.ref C) none H'
    | some d => ∀ B' H' dx v, Ex K c B H B' H' → Fre H dx → H' dx = some (.xd [("reason", v)]) → Rp K c B' v d → E (.ref C) (some dx) H'
theorem XEnd.step {K : PySem.W.Frag} {c : Dc} {mg : Str → Option Value} {E : XK} {B H B1 H1 : Hp} {n : Str} {r : Option PyData} (e : Ex K c B H B1 H1) (h : XEnd K c mg E B H n r) : XEnd K c mg E B1 H1 n r := fun C hC => by
  have q := h C hC
  cases r with
  | none => exact fun B' H' x => q B' H' (e.trans x)
  | some d => exact fun B' H' dx v x hn => q B' H' dx v (e.trans x) (e.free hn)
structure HX (X : Cx) (A : Act) (xq : XQ) : Prop where
  ex : ∀ n r, xq n r → XEnd X.K A.c X.mg A.E A.B0 A.H0 n r
  hall : ∀ C, X.mg "Hall" = some (.ref C) → C = A.c.hall
structure Cfg (X : Cx) (A : Act) (xq : XQ) (σ : St) (B H : Hp) (ρ : List EV) : Prop where
  hx : HX X A xq
  ex : Ex X.K A.c A.B0 A.H0 B H
  en : EnvOk X.K A.c A.H0 B H σ ρ
theorem Cfg.ok {X : Cx} {A : Act} {xq : XQ} {σ : St} {B H : Hp} {ρ : List EV} (g : Cfg X A xq σ B H ρ) : Ok X.K A.c B H := g.ex.ok
theorem Cfg.step {X : Cx} {A : Act} {xq : XQ} {σ : St} {B H B' H' : Hp} {ρ : List EV} (g : Cfg X A xq σ B H ρ) (e : Ex X.K A.c B H B' H') : Cfg X A xq σ B' H' ρ := ⟨g.hx, g.ex.trans e, g.en.step e⟩

abbrev ET := XQ → List EV → (PyData → Prop) → Prop
abbrev TTd := XQ → List EV → (Bool → Prop) → Prop
abbrev AT := XQ → List EV → (List PyData → Prop) → Prop
/-- the end of an expression -/
def EPost (X : Cx) (A : Act) (B H : Hp) (P : PyData → Prop) : VK := fun v H' => ∃ d B', P d ∧ Ex X.K A.c B H B' H' ∧ Rp X.K A.c B' v d
def TPost (X : Cx) (A : Act) (B H : Hp) (P : Bool → Prop) : Bool → Hp → Prop := fun b H' => ∃ B', P b ∧ Ex X.K A.c B H B' H'
def APost (X : Cx) (A : Act) (B H : Hp) (n : Nat) (P : List PyData → Prop) : List V → Hp → Prop := fun vs H' => ∃ ds B', P ds ∧ Ex X.K A.c B H B' H' ∧ Rps X.K A.c B' vs ds ∧ vs.length = n
structure DE (X : Cx) (A : Act) (e : Expr) (F : ET) : Prop where
  run : ∀ {xq σ B H ρ P}, Cfg X A xq σ B H ρ → F xq ρ P → wE X e σ H (EPost X A B H P)
structure DT (X : Cx) (A : Act) (e : Expr) (F : TTd) : Prop where
  run : ∀ {xq σ B H ρ P}, Cfg X A xq σ B H ρ → F xq ρ P → wT X e σ H (TPost X A B H P)
structure DW (X : Cx) (A : Act) (e : Expr) (F : TTd) : Prop where
  run : ∀ {xq σ B H ρ P}, Cfg X A xq σ B H ρ → F xq ρ P → wW X e σ H (TPost X A B H P)
structure DA (X : Cx) (A : Act) (es : List Expr) (F : AT) : Prop where
  run : ∀ {xq σ B H ρ P}, Cfg X A xq σ B H ρ → F xq ρ P → wA X es σ H (APost X A B H es.length P)

theorem EPost.step {X : Cx} {A : Act} {B H B1 H1 : Hp} {P : PyData → Prop} (e : Ex X.K A.c B H B1 H1) {v : V} {H' : Hp} (h : EPost X A B1 H1 P v H') : EPost X A B H P v H' :=
  let ⟨d, B', p, x, r⟩ := h; ⟨d, B', p, e.trans x, r⟩
theorem TPost.step {X : Cx} {A : Act} {B H B1 H1 : Hp} {P : Bool → Prop} (e : Ex X.K A.c B H B1 H1) {v : Bool} {H' : Hp} (h : TPost X A B1 H1 P v H') : TPost X A B H P v H' :=
  let ⟨B', p, x⟩ := h; ⟨B', p, e.trans x⟩

/-! ### names, constants -/
section
variable {X : Cx} {A : Act}
def dVar (i : Nat) : ET := fun _ ρ P => match ρ[i]? with
  | some (.d x) => P x
  | _ => False
theorem de_var (i : Nat) {x : Str} {pos : Pos} (hN : X.N[i]? = some x := by rfl) (hv : Vis X.env.scope x := by first | exact Or.inl rfl | exact Or.inr (Or.inl rfl) | exact Or.inr (Or.inr rfl)) (hd : (x == ("__debug__" : Str)) = false := by decide)
    (hcd : (x == ("__classdict__" : Str)) = false := by decide) : DE X A (.Name x pos) (dVar i) := ⟨fun {xq σ B H ρ P} g h => by
  unfold dVar at h
  split at h
  · rename_i y e
    obtain ⟨v, e1, r⟩ := g.en.data e
    exact PEw (pe_var hN hv hd hcd) ⟨v, e1, y, B, h, g.ok.refl, r⟩
  · exact h.elim⟩
def dC (d : PyData) : ET := fun _ _ P => P d
theorem de_of {e : Expr} {v : V} {d : PyData} (h : PE X e (tC v)) (r : ∀ B, Rp X.K A.c B v d) : DE X A e (dC d) := ⟨fun {xq σ B H ρ P} g p => PEw h ⟨d, B, p, g.ok.refl, r B⟩⟩
theorem de_int {i j pos} : DE X A (.Constant (.int i) j pos) (dC (.int i)) := de_of pe_int fun _ => .int i
theorem de_bl {i j pos} : DE X A (.Constant (.bool i) j pos) (dC (.bool i)) := de_of pe_bl fun _ => .bl i
theorem de_non {j pos} : DE X A (.Constant .none j pos) (dC .none) := de_of pe_non fun _ => .non
theorem de_str {i j pos} : DE X A (.Constant (.str i) j pos) (dC (.str i)) := de_of pe_str fun _ => .str i
theorem de_glob {x : Str} {v : V} {u : Value} {d : PyData} {pos : Pos} (hg : Gl X x) (hm : X.mg x = some u) (r : RelV v u) (rd : ∀ B, Rp X.K A.c B v d) (hd : (x == ("__debug__" : Str)) = false := by decide) : DE X A (.Name x pos) (dC d) := de_of (pe_glob hg hm r hd) rd

/-! ### argument lists, displays -/
def dNil : AT := fun _ _ P => P []
def dCons (a : ET) (r : AT) : AT := fun xq ρ P => a xq ρ fun d => r xq ρ fun ds => P (d :: ds)
theorem da_nil : DA X A [] dNil := ⟨fun {xq σ B H ρ P} g h => PAw pa_nil ⟨[], B, h, g.ok.refl, .nil, rfl⟩⟩
theorem da_cons {e : Expr} {es : List Expr} {a : ET} {r : AT} (ha : DE X A e a) (hr : DA X A es r) (hs : starEach (e :: es) X.env = (false, eval e X.env) :: starEach es X.env := by rfl) : DA X A (e :: es) (dCons a r) := ⟨fun {xq σ B H ρ P} g h => by
  refine PAw (pa_cons (peW e) (paW es) hs) ?_
  refine (ha.run g h).mono fun v H1 ⟨d, B1, q, x1, r1⟩ => ?_
  refine (hr.run (g.step x1) q).mono fun vs H2 ⟨ds, B2, q2, x2, r2, l2⟩ => ?_
  exact ⟨d :: ds, B2, q2, x1.trans x2, .cons (r1.mono x2.sb) r2, by rw [List.length_cons, List.length_cons, l2]⟩⟩
def dTup (a : AT) : ET := fun xq ρ P => a xq ρ fun ds => P (.tuple ds)
def dLst (a : AT) : ET := fun xq ρ P => a xq ρ fun ds => P (.list ds)
theorem small_line {n : Nat} (h : n ≤ 100000) : n < sizeLine := Nat.lt_of_le_of_lt h (by decide)
theorem de_tup {es : List Expr} {a : AT} {x1 pos} (ha : DA X A es a) (hl : es.length ≤ 100000 := by decide) : DE X A (.Tuple es x1 pos) (dTup a) := ⟨fun {xq σ B H ρ P} g h => by
  refine PEw (pe_tup (paW es)) ((ha.run g h).mono fun vs H1 ⟨ds, B1, q, x1, r, l⟩ => ?_)
  exact ⟨by rw [l]; exact Nat.le_of_lt (small_line hl), fun p hp => ⟨.tuple ds, _, q, x1.trans (x1.ok.new hp), x1.ok.tup hp r⟩⟩⟩
theorem de_lst {es : List Expr} {a : AT} {pos} (ha : DA X A es a) (hl : es.length ≤ 100000 := by decide) : DE X A (.List es pos) (dLst a) := ⟨fun {xq σ B H ρ P} g h => by
  refine PEw (pe_lst (paW es)) ((ha.run g h).mono fun vs H1 ⟨ds, B1, q, x1, r, l⟩ => ?_)
  exact ⟨by rw [l]; exact Nat.le_of_lt (small_line hl), fun p hp => ⟨.list ds, _, q, x1.trans (x1.ok.new hp), x1.ok.lst hp r⟩⟩⟩

/-! ### operators -/
abbrev OT := PyData → PyData → (PyData → Prop) → Prop
structure OD (X : Cx) (A : Act) (f : Value → Value → Sem Value) (op : OT) : Prop where
  run : ∀ {B H x y dx dy P}, Ok X.K A.c B H → Rp X.K A.c B x dx → Rp X.K A.c B y dy → op dx dy P → wR X f x y H (EPost X A B H P)
def dOp (op : OT) (a b : ET) : ET := fun xq ρ P => a xq ρ fun x => b xq ρ fun y => op x y P
variable {a b c : Expr} {ta tb tc : ET} {pos : Pos} {op op' : OT}
theorem de_op {o : Operator} (ho : OD X A (binaryOp o) op) (ha : DE X A a ta) (hb : DE X A b tb) : DE X A (.BinOp a o b pos) (dOp op ta tb) := ⟨fun {xq σ B H ρ P} g h => by
  refine PEw (pe_op (opW (binaryOp o)) (peW a) (peW b)) ((ha.run g h).mono fun v H1 ⟨d, B1, q, x1, r1⟩ => ?_)
  refine (hb.run (g.step x1) q).mono fun u H2 ⟨d2, B2, q2, x2, r2⟩ => ?_
  exact (ho.run (x1.trans x2).ok (r1.mono x2.sb) r2 q2).mono fun w H3 z => z.step (x1.trans x2)⟩
theorem de_cmp {o : CmpOp} (ho : OD X A (compareOp o) op) (ha : DE X A a ta) (hb : DE X A b tb) (hm : behindInMarks o b = false := by first | exact nomark _ | rfl) : DE X A (.Compare a [o] [b] pos) (dOp op ta tb) := ⟨fun {xq σ B H ρ P} g h => by
  refine PEw (pe_cmpR (opW (compareOp o)) (peW a) (peW b) hm) ((ha.run g h).mono fun v H1 ⟨d, B1, q, x1, r1⟩ => ?_)
  refine (hb.run (g.step x1) q).mono fun u H2 ⟨d2, B2, q2, x2, r2⟩ => ?_
  exact (ho.run (x1.trans x2).ok (r1.mono x2.sb) r2 q2).mono fun w H3 z => z.step (x1.trans x2)⟩
/-- a bool as a test -/
def asB (t : ET) : TTd := fun xq ρ P => t xq ρ fun d => match d with
  | .bool b => P b
  | _ => False
theorem asB_run {e : Expr} {t : ET} {xq : XQ} {σ : St} {B H : Hp} {ρ : List EV} {P : Bool → Prop} (h : DE X A e t) (g : Cfg X A xq σ B H ρ) (q : asB t xq ρ P) : wE X e σ H fun v H' => ∃ k, v = .bl k ∧ TPost X A B H P k H' :=
  (h.run g q).mono fun v H1 ⟨d, B1, q, x1, r1⟩ => by
    cases r1 with
    | bl k => exact ⟨k, rfl, B1, q, x1⟩
    | _ => exact q.elim
theorem dt_val {e : Expr} {t : ET} (h : DE X A e t) (he : ∀ whole, isTrue e X.env whole = (do let v ← whole; standAt e.pos; holding [v] (truthy v)) := by intro _; rfl) : DT X A e (asB t) := ⟨fun {xq σ B H ρ P} g q =>
  PTw (pt_val (peW e) he) (asB_run h g q)⟩
theorem dt_cmp {o : CmpOp} (ho : OD X A (compareOp o) op) (ha : DE X A a ta) (hb : DE X A b tb) (hm : behindInMarks o b = false := by first | exact nomark _ | rfl) : DT X A (.Compare a [o] [b] pos) (asB (dOp op ta tb)) := ⟨fun {xq σ B H ρ P} g h => by
  refine PTw (pt_cmpR (opW (compareOp o)) (peW a) (peW b) hm) ((ha.run g h).mono fun v H1 ⟨d, B1, q, x1, r1⟩ => ?_)
  refine (hb.run (g.step x1) q).mono fun u H2 ⟨d2, B2, q2, x2, r2⟩ => ?_
  refine (ho.run (x1.trans x2).ok (r1.mono x2.sb) r2 q2).mono fun w H3 ⟨d, B3, q3, x3, r3⟩ => ?_
  cases r3 with
  | bl k => exact ⟨k, rfl, B3, q3, (x1.trans x2).trans x3⟩
  | _ => exact q3.elim⟩
def dChain (op op' : OT) (ta tb tc : ET) : ET := fun xq ρ P => ta xq ρ fun x => tb xq ρ fun y => op x y fun z => match z with
  | .bool k => if k = true then tc xq ρ fun w => op' y w P else P (.bool false)
  | _ => False
theorem chain_run {o o' : CmpOp} (ho : OD X A (compareOp o) op) (ho' : OD X A (compareOp o') op') (ha : DE X A a ta) (hb : DE X A b tb) (hc : DE X A c tc) {xq : XQ} {σ : St} {B H : Hp} {ρ : List EV} {P : PyData → Prop} (g : Cfg X A xq σ B H ρ) (h : dChain op op' ta tb tc xq ρ P) :
    tChain (wR X (compareOp o)) (wR X (compareOp o')) (wE X a) (wE X b) (wE X c) σ H (EPost X A B H P) := by
  refine (ha.run g h).mono fun v H1 ⟨d, B1, q, x1, r1⟩ => ?_
  refine (hb.run (g.step x1) q).mono fun u H2 ⟨d2, B2, q2, x2, r2⟩ => ?_
  refine (ho.run (x1.trans x2).ok (r1.mono x2.sb) r2 q2).mono fun w H3 ⟨d3, B3, q3, x3, r3⟩ => ?_
  cases r3 with
  | bl k =>
    refine ⟨k, rfl, ?_⟩
    have x13 := (x1.trans x2).trans x3
    have q3' : if k = true then tc xq ρ fun w => op' d2 w P else P (.bool false) := q3
    by_cases hk : k = true
    · rw [if_pos hk] at q3' ⊢
      refine (hc.run (g.step x13) q3').mono fun w H4 ⟨d4, B4, q4, x4, r4⟩ => ?_
      exact (ho'.run (x13.trans x4).ok ((r2.mono x3.sb).mono x4.sb) r4 q4).mono fun _ _ z => z.step (x13.trans x4)
    · rw [if_neg hk] at q3' ⊢
      exact ⟨_, B3, q3', x13, .bl false⟩
  | _ => exact q3.elim
theorem de_chain {o o' : CmpOp} (ho : OD X A (compareOp o) op) (ho' : OD X A (compareOp o') op') (ha : DE X A a ta) (hb : DE X A b tb) (hc : DE X A c tc) (hm : lastMarks [o, o'] [b, c] = false := by with_unfolding_all rfl) :
    DE X A (.Compare a [o, o'] [b, c] pos) (dChain op op' ta tb tc) := ⟨fun g h => PEw (pe_chain (opW _) (opW _) (peW a) (peW b) (peW c) hm) (chain_run ho ho' ha hb hc g h)⟩
theorem dt_chain {o o' : CmpOp} (ho : OD X A (compareOp o) op) (ho' : OD X A (compareOp o') op') (ha : DE X A a ta) (hb : DE X A b tb) (hc : DE X A c tc) (hm : lastMarks [o, o'] [b, c] = false := by with_unfolding_all rfl) :
    DT X A (.Compare a [o, o'] [b, c] pos) (asB (dChain op op' ta tb tc)) := ⟨fun {xq σ B H ρ P} g h => by
  refine PTw (pt_chain (opW _) (opW _) (peW a) (peW b) (peW c) hm) ?_
  refine (ha.run g h).mono fun v H1 ⟨d, B1, q, x1, r1⟩ => ?_
  refine (hb.run (g.step x1) q).mono fun u H2 ⟨d2, B2, q2, x2, r2⟩ => ?_
  refine (ho.run (x1.trans x2).ok (r1.mono x2.sb) r2 q2).mono fun w H3 ⟨d3, B3, q3, x3, r3⟩ => ?_
  cases r3 with
  | bl k =>
    refine ⟨k, rfl, ?_⟩
    have x13 := (x1.trans x2).trans x3
    by_cases hk : k = true
    · subst hk
      rw [if_pos rfl]
      have q3' : tc xq ρ fun w => op' d2 w fun d => match d with | .bool b => P b | _ => False := q3
      refine (hc.run (g.step x13) q3').mono fun w H4 ⟨d4, B4, q4, x4, r4⟩ => ?_
      refine (ho'.run (x13.trans x4).ok ((r2.mono x3.sb).mono x4.sb) r4 q4).mono fun u H5 ⟨d5, B5, q5, x5, r5⟩ => ?_
      cases r5 with
      | bl k => exact ⟨k, rfl, B5, q5, (x13.trans x4).trans x5⟩
      | _ => exact q5.elim
    · cases k with
      | true => exact absurd rfl hk
      | false =>
        rw [if_neg (by decide)]
        exact ⟨false, rfl, B3, q3, x13⟩
  | _ => exact q3.elim⟩

/-! ### and, or, not, if -/
def dAnd (t u : TTd) : TTd := fun xq ρ P => t xq ρ fun c => if c = true then u xq ρ P else P false
def dOr (t u : TTd) : TTd := fun xq ρ P => t xq ρ fun c => if c = true then P true else u xq ρ P
def dNot (t : TTd) : TTd := fun xq ρ P => t xq ρ fun c => P (!c)
variable {e : Expr} {rest : List Expr} {t u : TTd}
theorem dt_w (h : DW X A e t) : DT X A e t := ⟨fun g q => fun pins s I => (h.run g q) _ pins s I⟩
theorem dw_and1 (ha : DT X A e t) : DW X A (.BoolOp .And [e] pos) t := ⟨fun g h => PWw (pw_and1 (ptW e)) (ha.run g h)⟩
theorem dw_or1 (ha : DT X A e t) : DW X A (.BoolOp .Or [e] pos) t := ⟨fun g h => PWw (pw_or1 (ptW e)) (ha.run g h)⟩
theorem dw_and (ha : DT X A a t) (hb : DW X A (.BoolOp .And (b :: rest) pos) u) : DW X A (.BoolOp .And (a :: b :: rest) pos) (dAnd t u) := ⟨fun {xq σ B H ρ P} g h => by
  refine PWw (pw_and (ptW a) (pwW _)) ((ha.run g h).mono fun k H1 ⟨B1, q, x1⟩ => ?_)
  cases k with
  | true => exact iteT ((hb.run (g.step x1) (by simpa using q)).mono fun _ _ z => z.step x1)
  | false => exact iteF ⟨B1, by simpa using q, x1⟩⟩
theorem dw_or (ha : DT X A a t) (hb : DW X A (.BoolOp .Or (b :: rest) pos) u) : DW X A (.BoolOp .Or (a :: b :: rest) pos) (dOr t u) := ⟨fun {xq σ B H ρ P} g h => by
  refine PWw (pw_or (ptW a) (pwW _)) ((ha.run g h).mono fun k H1 ⟨B1, q, x1⟩ => ?_)
  cases k with
  | true => exact iteT ⟨B1, by simpa using q, x1⟩
  | false => exact iteF ((hb.run (g.step x1) (by simpa using q)).mono fun _ _ z => z.step x1)⟩
theorem dt_not (ha : DT X A a t) : DT X A (.UnaryOp .Not a pos) (dNot t) := ⟨fun {xq σ B H ρ P} g h => PTw (pt_not (ptW a)) ((ha.run g h).mono fun k H1 ⟨B1, q, x1⟩ => ⟨B1, q, x1⟩)⟩
def dAndV (a b : ET) : ET := fun xq ρ P => a xq ρ fun d => match d with
  | .bool c => if c = true then b xq ρ P else P (.bool false)
  | _ => False
def dOrV (a b : ET) : ET := fun xq ρ P => a xq ρ fun d => match d with
  | .bool c => if c = true then P (.bool true) else b xq ρ P
  | _ => False
def dNotV (a : ET) : ET := fun xq ρ P => a xq ρ fun d => match d with
  | .bool c => P (.bool (!c))
  | _ => False
theorem de_one {o} (h : DE X A a ta) : DE X A (.BoolOp o [a] pos) ta := ⟨fun g q => PEw (pe_one (peW a)) (h.run g q)⟩
theorem de_and (ha : DE X A a ta) (hb : DE X A (.BoolOp .And (b :: rest) pos) tb) : DE X A (.BoolOp .And (a :: b :: rest) pos) (dAndV ta tb) := ⟨fun {xq σ B H ρ P} g h => by
  refine PEw (pe_and (peW a) (peW _)) ((ha.run g h).mono fun v H1 ⟨d, B1, q, x1, r1⟩ => ?_)
  cases r1 with
  | bl k =>
    refine ⟨k, rfl, ?_⟩
    cases k with
    | true => exact iteT ((hb.run (g.step x1) (by simpa using q)).mono fun _ _ z => z.step x1)
    | false => exact iteF ⟨_, B1, by simpa using q, x1, .bl false⟩
  | _ => exact q.elim⟩
theorem de_or (ha : DE X A a ta) (hb : DE X A (.BoolOp .Or (b :: rest) pos) tb) : DE X A (.BoolOp .Or (a :: b :: rest) pos) (dOrV ta tb) := ⟨fun {xq σ B H ρ P} g h => by
  refine PEw (pe_or (peW a) (peW _)) ((ha.run g h).mono fun v H1 ⟨d, B1, q, x1, r1⟩ => ?_)
  cases r1 with
  | bl k =>
    refine ⟨k, rfl, ?_⟩
    cases k with
    | true => exact iteT ⟨_, B1, by simpa using q, x1, .bl true⟩
    | false => exact iteF ((hb.run (g.step x1) (by simpa using q)).mono fun _ _ z => z.step x1)
  | _ => exact q.elim⟩
theorem de_not (ha : DE X A a ta) : DE X A (.UnaryOp .Not a pos) (dNotV ta) := ⟨fun {xq σ B H ρ P} g h => by
  refine PEw (pe_not (peW a)) ((ha.run g h).mono fun v H1 ⟨d, B1, q, x1, r1⟩ => ?_)
  cases r1 with
  | bl k => exact ⟨k, rfl, _, B1, q, x1, .bl _⟩
  | _ => exact q.elim⟩
def dIf (t : TTd) (a b : ET) : ET := fun xq ρ P => t xq ρ fun c => if c = true then a xq ρ P else b xq ρ P
theorem de_if (hc : DT X A c t) (ha : DE X A a ta) (hb : DE X A b tb) : DE X A (.IfExp c a b pos) (dIf t ta tb) := ⟨fun {xq σ B H ρ P} g h => by
  refine PEw (pe_ifExp (ptW c) (peW a) (peW b)) ((hc.run g h).mono fun k H1 ⟨B1, q, x1⟩ => ?_)
  cases k with
  | true => exact iteT ((ha.run (g.step x1) (by simpa using q)).mono fun _ _ z => z.step x1)
  | false => exact iteF ((hb.run (g.step x1) (by simpa using q)).mono fun _ _ z => z.step x1)⟩
end
end DL

/-! DL2b: tuple * int of any small count. -/
namespace DL
open PySem PySem.Spec L2 PyProof.Rows
theorem tmul_same (l : Addr) (items : Array Value) (n : Nat) (dd : Option Addr) (sl : Array (Option Value)) (x : Int) (u : Tok) (c0 : (decide (x < -(2 ^ 63)) || decide (x ≥ 2 ^ 63)) = false) (c1 : (items.isEmpty || x == 1) = true) :
    Meets (Builtin.«tuple.__mul__» ⟨[.ref l, .int x u], []⟩) (fun _ R s => s.heap.get? l = some ⟨.type "tuple", dd, .seq items n, sl⟩ ∧ R (.ok (.ret (Value.ref l))) s) :=
  .of_wp fun prog w A R s h => by
    obtain ⟨hp, g, d, tk, os⟩ := s
    obtain ⟨hl, h⟩ := h
    have f1 := AutoSeq1.idx_int
    wp_walk using wpAny_loadPart' hl
    repeat (first
      | (refine wpAny_ite_false (decide_eq_false (by rw [c0]; exact Bool.false_ne_true)) ?_; wp_walk using wpAny_loadPart' hl)
      | (refine wpAny_ite_true (decide_eq_true (by rw [c1])) ?_; wp_walk using wpAny_loadPart' hl))
    exact ⟨_, rfl, h⟩
theorem tmul_none (l : Addr) (items : Array Value) (n : Nat) (dd : Option Addr) (sl : Array (Option Value)) (x : Int) (u : Tok) (c0 : (decide (x < -(2 ^ 63)) || decide (x ≥ 2 ^ 63)) = false) (c1 : (items.isEmpty || x == 1) = false) (c2 : (decide (x ≤ 0) || items.isEmpty) = true) :
    Meets (Builtin.«tuple.__mul__» ⟨[.ref l, .int x u], []⟩) (fun _ R s => s.heap.get? l = some ⟨.type "tuple", dd, .seq items n, sl⟩ ∧
      R (.ok (.ret (Value.ref s.heap.objs.size))) { s with heap := s.heap.push { cls := Value.type "tuple", data := Data.seq #[] }, toks := s.toks }) :=
  .of_wp fun prog w A R s h => by
    obtain ⟨hp, g, d, tk, os⟩ := s
    obtain ⟨hl, h⟩ := h
    have f1 := AutoSeq1.idx_int
    have hz : (#[] : Array Value).size ≤ sizeLine := Nat.zero_le _
    wp_walk using wpAny_loadPart' hl
    repeat (first
      | (refine wpAny_ite_false (decide_eq_false (by rw [c0]; exact Bool.false_ne_true)) ?_; wp_walk using wpAny_loadPart' hl)
      | (refine wpAny_ite_false (decide_eq_false (by rw [c1]; exact Bool.false_ne_true)) ?_; wp_walk using wpAny_loadPart' hl)
      | (refine wpAny_ite_true (decide_eq_true (by rw [c2])) ?_; wp_walk using wpAny_loadPart' hl)
      | (refine wpAny_ite_false (decide_eq_false (Nat.not_lt.mpr hz)) ?_; wp_walk using wpAny_loadPart' hl))
    exact ⟨_, rfl, h⟩
def rRepAny (K : PySem.W.Frag) : R2 := fun x y H Q => ∃ l k xs, x = .ref l ∧ y = .int k ∧ SqT K H l xs ∧ -1000 ≤ k ∧ k ≤ 1000 ∧ xs.length ≤ 1000 ∧ (xs = [] ∨ k = 1 → Q (.ref l) H) ∧
  (¬ (xs = [] ∨ k = 1) → ∀ p, H p = none → Q (.ref p) (upd H p (.tup (List.replicate k.toNat xs).flatten)))
variable {X : Cx} {A : Act}
theorem op_repAny : OpR X (binaryOp .Mult) (rRepAny X.K) := by
  intro pins s σ H x y v u Q I rx ry h
  obtain ⟨l, k, xs, rfl, rfl, hT, h0, h1, hz, q1, q2⟩ := h
  by_cases hs : xs = [] ∨ k = 1
  · cases rx
    obtain ⟨t, rfl⟩ := ry
    obtain ⟨its, r, ⟨⟨cls, dd, data, sl⟩, ho, hc, n, hd⟩, hs'⟩ := I.tuple hT
    simp only at hc hd
    subst hc hd
    have c1 : (its.toArray.isEmpty || k == 1) = true := by
      rcases hs with e | e
      · subst e
        cases r
        rfl
      · subst e
        exact Bool.or_true _
    refine wpAny_binaryOp_repeat_ref (T := "tuple") (U := "int") (by decide) ⟨_, ho, rfl⟩ (fun s' => typeIs_int s' k t) noFill_tuple_mul F.fills_int_mul F.slot_int_rmul repeat_tuple F.slot_int_index.lookup
      (call_meets F.slot_int_rmul (typeIs_int s k t) F.entry_int_rmul (F.args_int_rmul_2 _ _) (int_rmul_tuple k t l its.toArray n dd sl)
        ⟨ho, rfl, ⟨_, ho, rfl⟩, call_meets F.slot_tuple_mul ⟨_, ho, rfl⟩ F.entry_tuple_mul (F.args_tuple_mul_2 _ _) (tmul_same l its.toArray n dd sl k t (by rw [decide_eq_false (by omega), decide_eq_false (by omega)]; rfl) c1) ⟨ho, ?_⟩⟩)
    exact ⟨.ref l, H, I, rfl, q1 hs⟩
  · by_cases hk : 2 ≤ k
    · exact op_repT pins s σ H _ _ v u Q I rx ry ⟨l, k, xs, rfl, rfl, hT, fun e => hs (.inl e), hk, h1, hz, q2 hs⟩
    · cases rx
      obtain ⟨t, rfl⟩ := ry
      obtain ⟨its, r, ⟨⟨cls, dd, data, sl⟩, ho, hc, n, hd⟩, hs'⟩ := I.tuple hT
      simp only at hc hd
      subst hc hd
      have hk0 : k ≤ 0 := by
        have : k ≠ 1 := fun e => hs (.inr e)
        omega
      have c1 : (its.toArray.isEmpty || k == 1) = false := by
        cases its with
        | nil => cases r; exact absurd (Or.inl rfl) hs
        | cons a b =>
          show (k == 1) = false
          exact beq_eq_false_iff_ne.mpr (by omega)
      have e0 : (List.replicate k.toNat xs).flatten = [] := by
        have : k.toNat = 0 := by omega
        rw [this]
        rfl
      have q3 := q2 hs
      rw [e0] at q3
      refine wpAny_binaryOp_repeat_ref (T := "tuple") (U := "int") (by decide) ⟨_, ho, rfl⟩ (fun s' => typeIs_int s' k t) noFill_tuple_mul F.fills_int_mul F.slot_int_rmul repeat_tuple F.slot_int_index.lookup
        (call_meets F.slot_int_rmul (typeIs_int s k t) F.entry_int_rmul (F.args_int_rmul_2 _ _) (int_rmul_tuple k t l its.toArray n dd sl)
          ⟨ho, rfl, ⟨_, ho, rfl⟩, call_meets F.slot_tuple_mul ⟨_, ho, rfl⟩ F.entry_tuple_mul (F.args_tuple_mul_2 _ _) (tmul_none l its.toArray n dd sl k t (by rw [decide_eq_false (by omega), decide_eq_false (by omega)]; rfl) c1 (by rw [decide_eq_true hk0]; rfl)) ⟨ho, ?_⟩⟩)
      exact ⟨.ref s.heap.objs.size, _, I.laid (t' := s.toks) (o := .tup []) (fun b ob q => Heap.get?_push_of_some _ q) (Nat.le_refl _) ⟨Nat.zero_le _, [], .nil, IsTup.new _ _⟩, rfl, q3 _ (I.hok.fresh (Nat.le_refl _))⟩
end DL

/-! DL2c: enumerate over a tuple. -/
namespace DL
open PySem PySem.Spec L2 PyProof.Rows
open AutoSeq1 (wpAny_loadPart')
theorem enum_newT (l : Addr) (xs : Array Value) (n : Nat) (dd : Option Addr) (sl : Array (Option Value)) :
    Meets (Builtin.«enumerate.__new__» ⟨[.type "enumerate", .ref l], []⟩) (fun _ R s => s.heap.get? l = some ⟨.type "tuple", dd, .seq xs n, sl⟩ ∧
      R (.ok (.ret (.ref (s.heap.push { cls := .type "tuple_iterator", data := .fields #[.ref l, .int 0 0] }).objs.size)))
        { s with heap := (s.heap.push { cls := .type "tuple_iterator", data := .fields #[.ref l, .int 0 0] }).push { cls := .type "enumerate", data := .fields #[.none, .bool false, .ref s.heap.objs.size, rawInt 0, .none, .none] } }) :=
  .of_wp fun prog w A R s h => by
    obtain ⟨hp, g, d, tk, os⟩ := s
    obtain ⟨hl, h⟩ := h
    have hs := sub_enumerate
    have hT : Heap.IsTuple (Shared.heap ⟨hp, g, d, tk, os⟩) l xs := ⟨_, hl, rfl, n, rfl⟩
    wp_walk using wpAny_loadPart' hl
    refine wpAny_stack_any fun st => wpAny_pure ?_
    split
    · rename_i c _ _ _ _ _
      by_cases hc : (c == Value.type "enumerate") = true
      · simp only [hc]
        wp_walk using wpAny_loadPart' hl, wpAny_pyIter_tuple hT
        exact ⟨_, rfl, h⟩
      · simp only [hc]
        wp_walk using wpAny_loadPart' hl, wpAny_pyIter_tuple hT
        exact ⟨_, rfl, h⟩
    · wp_walk using wpAny_loadPart' hl, wpAny_pyIter_tuple hT
      exact ⟨_, rfl, h⟩
section
variable {prog : Program} {w : World} {A : Around} {E : Value → Shared → Prop} {s : Shared}
theorem enum_callT {l : Addr} {xs : Array Value} {Q : Value → Shared → Prop} (hL : s.heap.IsTuple l xs)
    (h : ∀ h', IsEnum h' (s.heap.objs.size + 1) s.heap.objs.size 0 .none → h'.IsTupleIter s.heap.objs.size l 0 →
      (∀ b o, s.heap.get? b = some o → h'.get? b = some o) → Q (.ref (s.heap.objs.size + 1)) { s with heap := h' }) :
    wpAny (model prog w) A (call (.type "enumerate") [.ref l]) Q E s := by
  obtain ⟨⟨c, dd, dt, sl⟩, hl, hc, n, hd⟩ := hL
  simp only at hc hd
  subst hc hd
  refine callType_new F.called_enumerate (by decide) (F.typeCall_enumerate_1 _) (F.newCall_enumerate_1 _) (fun obj => F.args_object_init_2 obj _) F.entry_enumerate_new (enum_newT l xs n dd sl) ⟨hl, ?_⟩
  have hz : (s.heap.push { cls := .type "tuple_iterator", data := .fields #[.ref l, .int 0 0] }).objs.size = s.heap.objs.size + 1 := Heap.size_push ..
  show _ ∧ _
  rw [hz]
  have he := Heap.get?_push_size (s.heap.push { cls := .type "tuple_iterator", data := .fields #[.ref l, .int 0 0] })
      (o := { cls := .type "enumerate", data := .fields #[.none, .bool false, .ref s.heap.objs.size, rawInt 0, .none, .none] }) rfl
  rw [hz] at he
  exact ⟨⟨_, he, rfl⟩, h _ he ⟨_, Heap.get?_push_of_some _ (Heap.get?_push_size _ rfl), rfl, rfl⟩ fun b o x => Heap.get?_push_of_some _ (Heap.get?_push_of_some _ x)⟩
end
/-- the tuple at a, each item in a new pair -/
def ItT (K : PySem.W.Frag) (a : Addr) : It :=
  ⟨fun i H => ∃ (xs : List V) (x : V), SqT K H a xs ∧ xs[i]? = some x, fun i H v H' => ∃ T x, v = .ref T ∧ H T = none ∧ H' = upd H T (.tup [.int (i : Nat), x]) ∧ ∀ xs, SqT K H a xs → xs[i]? = some x, fun i H => ∃ xs : List V, SqT K H a xs ∧ xs.length ≤ i⟩
theorem turn_enumT {P : Program} {w : World} {K : PySem.W.Frag} {elts : List Expr} {kk : Nat} {tpos : Pos} (a e it : Addr) (hei : e ≠ it) (hea : e ≠ a) (hai : a ≠ it) :
    Turn P w K (.Tuple elts kk tpos) (ItT K a) [e, it] e (fun i h => (∃ old, IsEnum h e it ((i : Nat) : Int) old) ∧ h.IsTupleIter it a i) where
  mem := by simp
  obj := fun i h st b hb => by
    obtain ⟨⟨old, he⟩, ⟨o, ho, hc, hd⟩⟩ := st
    rcases List.mem_cons.mp hb with z | hb
    · rw [z]; exact ⟨_, he, fun v q => nomatch q⟩
    · rw [List.mem_singleton.mp hb]; exact ⟨o, ho, fun v q => by rw [hd] at q; cases q⟩
  keep := fun i h h' st k => ⟨let ⟨old, he⟩ := st.1; ⟨old, k e (by simp) _ he⟩, let ⟨o, ho, r⟩ := st.2; ⟨o, k it (by simp) _ ho, r⟩⟩
  item := by
    intro X hP hw hK hc i pins s σ H E I hf st hg
    subst hP hw hK
    obtain ⟨⟨old, he⟩, hit⟩ := st
    obtain ⟨xs, x, hq, hx⟩ := hg
    obtain ⟨its, rv, p, hz⟩ := I.tuple hq
    obtain ⟨u, hu, ru⟩ := rv.get hx
    have hel : e < s.heap.objs.size := Heap.lt_size he
    have hil : it < s.heap.objs.size := by obtain ⟨_, q, _⟩ := hit; exact Heap.lt_size q
    have hlt : i < its.toArray.size := by
      rw [List.size_toArray]
      exact (List.getElem?_eq_some_iff.mp hu).1
    have DD := Draws.tuple (prog := X.prog) (w := X.w) (A := X.A.in1) (I.ok.hd hc) it a hai its.toArray
    refine wpAny_pyNext_enum_itemD DD he ⟨hit, (show s.heap.IsTuple a its.toArray from p)⟩ hlt hei (by simp [hei, hea]) fun y h' tk hy ho hst hT hsz hk => ?_
    have ey : u = y := by
      have : its[i]? = some y := by simpa using hy
      rw [hu] at this
      exact Option.some.inj this
    subst ey
    refine ⟨_, rfl, wpAny_letOwnedTupleGo_enum (s := { s with heap := h', toks := tk + 1 }) ho fun h'' he' sb => ?_⟩
    have hT2 : h''.get? s.heap.objs.size = some { cls := .type "tuple", data := .seq #[.int i tk, u] } := (sb.2 _ (Nat.ne_of_gt hel)).trans hT
    have new : ObjOk X.prog X.w (upd H s.heap.objs.size (.tup [.int (i : Nat), x])) h'' s.heap.objs.size (.tup [.int (i : Nat), x]) :=
      ⟨by show 2 ≤ sizeLine; decide, [.int i tk, u], .cons ⟨_, rfl⟩ (.cons ru .nil), ⟨_, hT2, rfl, _, rfl⟩⟩
    have I1 : Inv X pins σ (upd H s.heap.objs.size (.tup [.int (i : Nat), x])) { s with heap := h'', toks := tk + 1 } :=
      I.turnedNew (ch := [e, it]) (fun b ob hb q => (sb.2 b (fun z => hb (by simp [z]))).trans (hk b ob (fun z => hb (by simp [z])) (fun z => hb (by simp [z])) q)) hf (Nat.le_refl _) new
    refine ⟨.ref s.heap.objs.size, _, I1, rfl, ⟨_, x, rfl, I.hok.fresh (Nat.le_refl _), rfl, fun ys hy => ?_⟩, ⟨⟨u, ?_⟩, ?_⟩, fun b hb => ?_⟩
    · obtain ⟨its2, rv2, p2, _⟩ := I.tuple hy
      rw [I.tuple_inj hy hq]
      exact hx
    · have e1 : ((i + 1 : Nat) : Int) = (i : Int) + 1 := by omega
      rw [e1]; exact he'
    · obtain ⟨o, ho2, r⟩ := hst.1
      exact ⟨o, (sb.2 it (Ne.symm hei)).trans ho2, r⟩
    · have hb' : b < s.heap.objs.size := by
        rcases List.mem_cons.mp hb with z | hb
        · rw [z]; exact hel
        · rw [List.mem_singleton.mp hb]; exact hil
      rw [upd_ne (Nat.ne_of_lt hb')]
      exact (hf b hb).1
  done := by
    intro X hP hw hK hc i pins s σ H E I hf st hg
    subst hP hw hK
    obtain ⟨⟨old, he⟩, hit⟩ := st
    obtain ⟨xs, hq, hx⟩ := hg
    obtain ⟨its, rv, p, hz⟩ := I.tuple hq
    obtain ⟨f0, f1, f2, f3, f4, f5⟩ := hf it (by simp)
    have hl := rv.length
    have D' : Draws X.prog X.w X.A.in1 it [it, a] i (fun _ _ => True) (fun j h => j = i ∧ h.IsTupleIter it a i ∧ h.IsTuple a its.toArray) :=
      { live := fun _ _ z => let ⟨o, ho, _⟩ := z.2.1; ⟨o, ho⟩
        frame := fun _ _ _ z hk => ⟨z.1, z.2.1.at fun o e => hk it (by simp) o e, let ⟨o, ho, r⟩ := z.2.2; ⟨o, hk a (by simp) o ho, r⟩⟩
        item := fun j s Q E hi z hQ => absurd z.1 (Nat.ne_of_lt hi)
        done := fun s Q E z hE => wpAny_nextOf_tuple_end (A := X.A.in1) (I.ok.hd hc) z.2.1 z.2.2 (by simp; omega) hE }
    exact wpAny_pyNext_enum_endD D' he ⟨rfl, hit, (show s.heap.IsTuple a its.toArray from p)⟩ fun h' eb => ⟨rfl, I.turned (t' := s.toks) (fun b o hb q => eb b o hb q) f0 f1 f3 f4 f5⟩
  self := fun A i s Q E st h => let ⟨⟨_, he⟩, _⟩ := st; wpAny_pyIter_enum he h
def iEnumA (K : PySem.W.Frag) (ta : TA) : TI := fun σ H R => ta σ H fun vs H1 => ∃ a xs, vs = [.ref a] ∧ ((SqL K H1 a xs ∧ R (Ite K a) H1) ∨ (SqT K H1 a xs ∧ R (ItT K a) H1))
theorem pi_enumA {X : Cx} {e : Expr} {ta : TA} {p pos tpos : Pos} {elts : List Expr} {kk : Nat} (hg : Gl X "enumerate") (hm : X.mg "enumerate" = none) (ha : PA X [e] ta) (hs : starEach [e] X.env = [(false, eval e X.env)] := by rfl) :
    PI X (.Tuple elts kk tpos) (.Call (.Name "enumerate" p) [e] [] pos) (iEnumA X.K ta) := by
  refine ⟨fun pins s σ H R I h => ?_⟩
  refine Call_ (ld_blt I hg hm boot_enumerate (PyProof.Rows.callWith_type1 (thn (ha.run pos pins s σ H _ I h) fun us s1 ⟨vs, H1, I1, r1, q1⟩ => ?_) hs rfl))
  obtain ⟨a, xs, ex, q⟩ := q1
  subst ex
  cases r1 with
  | cons r rr =>
    cases rr
    cases r
    have fresh2 : ∀ b ∈ [s1.heap.objs.size + 1, s1.heap.objs.size], ∀ h' : Heap, Inv X pins σ H1 { s1 with heap := h' } → FpOk X pins H1 b := fun b hb h' _ => by
      have hle : s1.heap.objs.size ≤ b := by
        rcases List.mem_cons.mp hb with z | hb
        · omega
        · rw [List.mem_singleton.mp hb]; exact Nat.le_refl _
      exact I1.fpOk hle (I1.hok.fresh hle)
    rcases q with ⟨hq, q⟩ | ⟨hq, q⟩
    · obtain ⟨its, rv, p', hz⟩ := I1.list hq
      refine call_enumerate_list p'.isList fun h' he hit hsz hk => wpAny_pyIter_enum he ?_
      have I2 : Inv X pins σ H1 { s1 with heap := h' } := I1.kept (t' := s1.toks) hk
      exact ⟨s1.heap.objs.size + 1, [s1.heap.objs.size + 1, s1.heap.objs.size], _, _, H1, rfl, I2, turn_enum a (s1.heap.objs.size + 1) s1.heap.objs.size, ⟨⟨.none, he⟩, hit, Nat.succ_ne_self _⟩, fun b hb => fresh2 b hb h' I2, q⟩
    · obtain ⟨its, rv, p', hz⟩ := I1.tuple hq
      have pT : s1.heap.IsTuple a its.toArray := p'
      have hal : a < s1.heap.objs.size := by obtain ⟨o, ho, _⟩ := pT; exact Heap.lt_size ho
      refine enum_callT pT fun h' he hit hk => wpAny_pyIter_enum he ?_
      have I2 : Inv X pins σ H1 { s1 with heap := h' } := I1.kept (t' := s1.toks) hk
      exact ⟨s1.heap.objs.size + 1, [s1.heap.objs.size + 1, s1.heap.objs.size], _, _, H1, rfl, I2, turn_enumT a (s1.heap.objs.size + 1) s1.heap.objs.size (Nat.succ_ne_self _) (Nat.ne_of_gt (Nat.lt_succ_of_lt hal)) (Nat.ne_of_lt hal), ⟨⟨.none, he⟩, hit⟩, fun b hb => fresh2 b hb h' I2, q⟩
end DL

/-! DL3: what operators and built-ins do with data. -/
namespace DL
open PySem PySem.Spec L2

/-! ### operators -/
def addD : OT := fun x y P => match x, y with
  | .int i, .int j => P (.int (i + j))
  | .str a, .str b => a.length + b.length ≤ 1000000 ∧ P (.str (a ++ b))
  | .tuple xs, .tuple ys => xs.length + ys.length ≤ 100000 ∧ P (.tuple (xs ++ ys))
  | .list xs, .list ys => xs.length + ys.length ≤ 100000 ∧ P (.list (xs ++ ys))
  | _, _ => False
def subD : OT := fun x y P => match x, y with
  | .int i, .int j => P (.int (i - j))
  | _, _ => False
def mulD : OT := fun x y P => match x, y with
  | .int i, .int j => i.natAbs.log2 + j.natAbs.log2 < 1000000 ∧ P (.int (i * j))
  | .list xs, .int k => k ≤ 1000 ∧ -1000 ≤ k ∧ xs.length ≤ 100 ∧ P (.list (List.replicate k.toNat xs).flatten)
  | .tuple xs, .int k => k ≤ 1000 ∧ -1000 ≤ k ∧ xs.length ≤ 100 ∧ P (.tuple (List.replicate k.toNat xs).flatten)
  | _, _ => False
def fdivD : OT := fun x y P => match x, y with
  | .int i, .int j => 0 < j ∧ j.natAbs.log2 < 9000 ∧ P (.int (i / j))
  | _, _ => False
def modD : OT := fun x y P => match x, y with
  | .int i, .int j => 0 < j ∧ P (.int (i % j))
  | _, _ => False
def powD : OT := fun x y P => match x, y with
  | .int i, .int j => (0 ≤ j ∧ j ≤ 1000000 ∧ i.natAbs < 2 ^ 64) ∧ P (.int (i ^ j.toNat))
  | _, _ => False
def cmpD (f : Int → Int → Bool) : OT := fun x y P => match x, y with
  | .int i, .int j => P (.bool (f i j))
  | _, _ => False
abbrev ltD : OT := cmpD fun i j => decide (i < j)
abbrev leD : OT := cmpD fun i j => decide (i ≤ j)
abbrev gtD : OT := cmpD fun i j => decide (j < i)
abbrev geD : OT := cmpD fun i j => decide (j ≤ i)
def isN : PyData → Bool
  | .none => true
  | _ => false
def isD : OT := fun x y P => match y with
  | .none => P (.bool (isN x))
  | _ => False
def notD : OT := fun x y P => match y with
  | .none => P (.bool (!isN x))
  | _ => False
def eqD : OT := fun x y P => SeqAt.shaped x = true ∧ SeqAt.shaped y = true ∧ P (.bool (PyData.eqv x y))
def neD : OT := fun x y P => SeqAt.shaped x = true ∧ SeqAt.shaped y = true ∧ P (.bool (!PyData.eqv x y))
def inD : OT := fun x y P => match y with
  | .list ds => SeqAt.shaped x = true ∧ SeqAt.shaped (.list ds) = true ∧ P (.bool (ds.any fun z => PyData.eqv z x))
  | .tuple ds => SeqAt.shaped x = true ∧ SeqAt.shaped (.tuple ds) = true ∧ P (.bool (ds.any fun z => PyData.eqv z x))
  | .str z => match x with
    | .str s => ∃ c, s = ⟨#[c]⟩ ∧ P (.bool (decide (c ∈ z.cps.toList)))
    | _ => False
  | _ => False
def ninD : OT := fun x y P => match y with
  | .list ds => SeqAt.shaped x = true ∧ SeqAt.shaped (.list ds) = true ∧ P (.bool (!ds.any fun z => PyData.eqv z x))
  | .tuple ds => SeqAt.shaped x = true ∧ SeqAt.shaped (.tuple ds) = true ∧ P (.bool (!ds.any fun z => PyData.eqv z x))
  | .str z => match x with
    | .str s => ∃ c, s = ⟨#[c]⟩ ∧ P (.bool (!decide (c ∈ z.cps.toList)))
    | _ => False
  | _ => False

section
variable {X : Cx} {A : Act}
theorem EPost.at {B H : Hp} {P : PyData → Prop} {v : V} {d : PyData} (o : Ok X.K A.c B H) (r : Rp X.K A.c B v d) (p : P d) : EPost X A B H P v H := ⟨d, B, p, o.refl, r⟩
theorem EPost.tup {B H : Hp} {P : PyData → Prop} {xs : List V} {ds : List PyData} {p : Addr} (o : Ok X.K A.c B H) (hp : H p = none) (r : Rps X.K A.c B xs ds) (q : P (.tuple ds)) : EPost X A B H P (.ref p) (upd H p (.tup xs)) :=
  ⟨.tuple ds, _, q, o.new hp, o.tup hp r⟩
theorem EPost.lst {B H : Hp} {P : PyData → Prop} {xs : List V} {ds : List PyData} {p : Addr} (o : Ok X.K A.c B H) (hp : H p = none) (r : Rps X.K A.c B xs ds) (q : P (.list ds)) : EPost X A B H P (.ref p) (upd H p (.lst xs)) :=
  ⟨.list ds, _, q, o.new hp, o.lst hp r⟩
theorem od_int {f : Value → Value → Sem Value} {C : Int → Int → Prop} {g : Int → Int → V} {gd : Int → Int → PyData} {op : OT} (hr : OpR X f (rI C g)) (hg : ∀ B i j, Rp X.K A.c B (g i j) (gd i j))
    (hop : ∀ x y P, op x y P → ∃ i j, x = .int i ∧ y = .int j ∧ C i j ∧ P (gd i j)) : OD X A f op := ⟨fun {B H x y dx dy P} o r1 r2 h => by
  obtain ⟨i, j, rfl, rfl, hc, p⟩ := hop dx dy P h
  cases r1; cases r2
  exact OpRw hr ⟨i, j, rfl, rfl, hc, EPost.at o (hg B i j) p⟩⟩
theorem rI_of {f : Value → Value → Sem Value} {g : Int → Int → V} (h : OpR X f (rI0 g)) : OpR X f (rI (fun _ _ => True) g) := fun pins s σ H x y v u Q I rx ry ⟨i, j, e1, e2, _, q⟩ => h pins s σ H x y v u Q I rx ry ⟨i, j, e1, e2, q⟩
theorem od_add : OD X A (binaryOp .Add) addD := ⟨fun {B H x y dx dy P} o r1 r2 h => by
  cases r1 <;> cases r2 <;> first
    | exact False.elim h
    | exact OpRw op_add ⟨_, _, rfl, rfl, EPost.at o (.int _) h⟩
    | exact OpRw op_add_str ⟨_, _, rfl, rfl, Nat.le_trans h.1 (by decide), EPost.at o (.str _) h.2⟩
    | skip
  · rename_i a xs ds ha ra b ys es hb rb
    exact OpRw op_cat ⟨a, b, xs, ys, rfl, rfl, o.sh _ _ ha, o.sh _ _ hb, by rw [ra.length, rb.length]; exact Nat.le_of_lt (small_line h.1), fun p hp => EPost.lst o hp (ra.append rb) h.2⟩
  · rename_i a xs ds ha ra b ys es hb rb
    refine OpRw op_catA ⟨a, b, xs, ys, rfl, rfl, same_seqX o.sh ha, same_seqX o.sh hb, by rw [ra.length, rb.length]; exact Nat.le_of_lt (small_line h.1), fun e => ?_, fun _ e => ?_, fun _ _ p hp => EPost.tup o hp (ra.append rb) h.2⟩
    · subst e
      cases ra
      exact EPost.at o (.tup hb rb) h.2
    · subst e
      cases rb
      refine EPost.at o (.tup ha ra) ?_
      have := h.2
      rwa [List.append_nil] at this⟩
theorem od_sub : OD X A (binaryOp .Sub) subD := od_int (gd := fun i j => .int (i - j)) (rI_of op_sub) (fun _ _ _ => .int _) fun x y P h => by
  cases x <;> cases y <;> first | exact False.elim h | exact ⟨_, _, rfl, rfl, trivial, h⟩
theorem od_fdiv : OD X A (binaryOp .FloorDiv) fdivD := od_int (gd := fun i j => .int (i / j)) op_fdivW (fun _ _ _ => .int _) fun x y P h => by
  cases x <;> cases y <;> first | exact False.elim h | exact ⟨_, _, rfl, rfl, ⟨h.1, h.2.1⟩, h.2.2⟩
theorem od_mod : OD X A (binaryOp .Mod) modD := od_int (gd := fun i j => .int (i % j)) op_mod (fun _ _ _ => .int _) fun x y P h => by
  cases x <;> cases y <;> first | exact False.elim h | exact ⟨_, _, rfl, rfl, h.1, h.2⟩
theorem od_pow : OD X A (binaryOp .Pow) powD := od_int (gd := fun i j => .int (i ^ j.toNat)) op_pow (fun _ _ _ => .int _) fun x y P h => by
  cases x <;> cases y <;> first | exact False.elim h | exact ⟨_, _, rfl, rfl, h.1, h.2⟩
theorem od_mul : OD X A (binaryOp .Mult) mulD := ⟨fun {B H x y dx dy P} o r1 r2 h => by
  cases r1 <;> cases r2 <;> first
    | exact False.elim h
    | exact OpRw op_mulW ⟨_, _, rfl, rfl, h.1, EPost.at o (.int _) h.2⟩
    | skip
  · rename_i a xs ds ha ra k
    obtain ⟨h1, h2, h3, p⟩ := h
    have hl : xs.length * k.toNat ≤ 100 * 1000 := Nat.mul_le_mul (by rw [ra.length]; exact h3) (by omega)
    exact OpRw op_rep ⟨a, k, xs, rfl, rfl, o.sh _ _ ha, by omega, by omega, Nat.le_trans hl (by decide), fun q hq => EPost.lst o hq (ra.flatRep _) p⟩
  · rename_i a xs ds ha ra k
    obtain ⟨h1, h2, h3, p⟩ := h
    refine OpRw op_repAny ⟨a, k, xs, rfl, rfl, same_seqX o.sh ha, h2, h1, by rw [ra.length]; omega, fun e => ?_, fun _ q hq => EPost.tup o hq (ra.flatRep _) p⟩
    rcases e with e | e
    · subst e
      cases ra
      refine EPost.at o (.tup ha .nil) ?_
      have e2 : (List.replicate k.toNat ([] : List PyData)).flatten = [] := by induction k.toNat with
        | zero => rfl
        | succ n ih => rw [List.replicate_succ, List.flatten_cons, ih]; rfl
      rwa [e2] at p
    · subst e
      refine EPost.at o (.tup ha ra) ?_
      have e2 : (List.replicate (1 : Int).toNat ds).flatten = ds := by
        show (List.replicate 1 ds).flatten = ds
        simp
      rwa [e2] at p⟩
theorem od_lt : OD X A (compareOp .Lt) ltD := od_int (gd := fun i j => .bool (decide (i < j))) (rI_of op_lt) (fun _ _ _ => .bl _) fun x y P h => by
  cases x <;> cases y <;> first | exact False.elim h | exact ⟨_, _, rfl, rfl, trivial, h⟩
theorem od_le : OD X A (compareOp .LtE) leD := od_int (gd := fun i j => .bool (decide (i ≤ j))) (rI_of op_le) (fun _ _ _ => .bl _) fun x y P h => by
  cases x <;> cases y <;> first | exact False.elim h | exact ⟨_, _, rfl, rfl, trivial, h⟩
theorem od_gt : OD X A (compareOp .Gt) gtD := od_int (gd := fun i j => .bool (decide (j < i))) (rI_of op_gt) (fun _ _ _ => .bl _) fun x y P h => by
  cases x <;> cases y <;> first | exact False.elim h | exact ⟨_, _, rfl, rfl, trivial, h⟩
theorem od_ge : OD X A (compareOp .GtE) geD := od_int (gd := fun i j => .bool (decide (j ≤ i))) (rI_of op_ge) (fun _ _ _ => .bl _) fun x y P h => by
  cases x <;> cases y <;> first | exact False.elim h | exact ⟨_, _, rfl, rfl, trivial, h⟩
theorem isN_rp {B : Hp} {v : V} {d : PyData} (r : Rp X.K A.c B v d) : decide (v = V.non) = isN d := by
  cases r <;> rfl
theorem od_is : OD X A (compareOp .Is) isD := ⟨fun {B H x y dx dy P} o r1 r2 h => by
  cases r2 <;> first
    | exact False.elim h
    | exact OpRw op_isN ⟨rfl, EPost.at o (.bl _) (by rw [isN_rp r1]; exact h)⟩⟩
theorem od_not : OD X A (compareOp .IsNot) notD := ⟨fun {B H x y dx dy P} o r1 r2 h => by
  cases r2 <;> first
    | exact False.elim h
    | exact OpRw op_notN ⟨rfl, EPost.at o (.bl _) (by rw [isN_rp r1]; exact h)⟩⟩
theorem od_eq {k : Nat} (hr : Room k X.A) : OD X A (compareOp .Eq) eqD := ⟨fun {B H x y dx dy P} o r1 r2 ⟨s1, s2, p⟩ =>
  OpRw (op_eqD hr.units) ⟨dx, dy, Dp.mono' o.sh (r1.dp (SeqAt.canLay_of_shaped s1)), Dp.mono' o.sh (r2.dp (SeqAt.canLay_of_shaped s2)), s1, s2, EPost.at o (.bl _) p⟩⟩
theorem od_ne {k : Nat} (hr : Room k X.A) : OD X A (compareOp .NotEq) neD := ⟨fun {B H x y dx dy P} o r1 r2 ⟨s1, s2, p⟩ =>
  OpRw (op_neD hr.units) ⟨dx, dy, Dp.mono' o.sh (r1.dp (SeqAt.canLay_of_shaped s1)), Dp.mono' o.sh (r2.dp (SeqAt.canLay_of_shaped s2)), s1, s2, EPost.at o (.bl _) p⟩⟩
theorem room65 {k : Nat} {A : Around} (hr : Room k A) : A.units + 65 < cLine := by have := hr.un; omega
def rInT (K : PySem.W.Frag) : R2 := fun x y H Q => ∃ d ds, Dp K H x d ∧ Dp K H y (.tuple ds) ∧ SeqAt.shaped d = true ∧ SeqAt.shaped (.tuple ds) = true ∧ Q (.bl (ds.any fun z => PyData.eqv z d)) H
def rNotInT (K : PySem.W.Frag) : R2 := fun x y H Q => ∃ d ds, Dp K H x d ∧ Dp K H y (.tuple ds) ∧ SeqAt.shaped d = true ∧ SeqAt.shaped (.tuple ds) = true ∧ Q (.bl (!ds.any fun z => PyData.eqv z d)) H
theorem op_inT (hu : X.A.units + 65 < cLine) : OpR X (compareOp .In) (rInT X.K) := by
  intro pins s σ H x y v u Q I rx ry h
  obtain ⟨d, ds, hd, he, sd, se, q⟩ := h
  obtain ⟨as, r1⟩ := Dp.reads I d x v hd rx
  obtain ⟨bs, r2⟩ := Dp.reads I (.tuple ds) y u he ry
  exact SeqAt.in_tuple_reads r2 r1 (SeqAt.canLay_of_shaped se) (SeqAt.canLay_of_shaped sd) (PyProof.Rows.room_in_shaped sd hu) ⟨.bl _, H, I, rfl, q⟩
theorem op_notInT (hu : X.A.units + 65 < cLine) : OpR X (compareOp .NotIn) (rNotInT X.K) := by
  intro pins s σ H x y v u Q I rx ry h
  obtain ⟨d, ds, hd, he, sd, se, q⟩ := h
  obtain ⟨as, r1⟩ := Dp.reads I d x v hd rx
  obtain ⟨bs, r2⟩ := Dp.reads I (.tuple ds) y u he ry
  exact SeqAt.notIn_tuple_reads r2 r1 (SeqAt.canLay_of_shaped se) (SeqAt.canLay_of_shaped sd) (PyProof.Rows.room_in_shaped sd hu) ⟨.bl _, H, I, rfl, q⟩
theorem od_in {k : Nat} (hr : Room k X.A) : OD X A (compareOp .In) inD := ⟨fun {B H x y dx dy P} o r1 r2 h => by
  cases r2 <;> first
    | exact False.elim h
    | skip
  · rename_i z
    cases r1 <;> first
      | exact False.elim h
      | (obtain ⟨c, rfl, p⟩ := h; exact OpRw op_in_sign ⟨c, z, rfl, rfl, EPost.at o (.bl _) p⟩)
  · rename_i a xs ds ha ra
    obtain ⟨s1, s2, p⟩ := h
    exact OpRw (op_inD (room65 hr)) ⟨dx, ds, Dp.mono' o.sh (r1.dp (SeqAt.canLay_of_shaped s1)), Dp.mono' o.sh ((Rp.lst ha ra).dp (SeqAt.canLay_of_shaped s2)), s1, s2, EPost.at o (.bl _) p⟩
  · rename_i a xs ds ha ra
    obtain ⟨s1, s2, p⟩ := h
    exact OpRw (op_inT (room65 hr)) ⟨dx, ds, Dp.mono' o.sh (r1.dp (SeqAt.canLay_of_shaped s1)), Dp.mono' o.sh ((Rp.tup ha ra).dp (SeqAt.canLay_of_shaped s2)), s1, s2, EPost.at o (.bl _) p⟩⟩
theorem od_nin {k : Nat} (hr : Room k X.A) : OD X A (compareOp .NotIn) ninD := ⟨fun {B H x y dx dy P} o r1 r2 h => by
  cases r2 <;> first
    | exact False.elim h
    | skip
  · rename_i z
    cases r1 <;> first
      | exact False.elim h
      | (obtain ⟨c, rfl, p⟩ := h; exact OpRw op_notIn_sign ⟨c, z, rfl, rfl, EPost.at o (.bl _) p⟩)
  · rename_i a xs ds ha ra
    obtain ⟨s1, s2, p⟩ := h
    exact OpRw (op_notInD (room65 hr)) ⟨dx, ds, Dp.mono' o.sh (r1.dp (SeqAt.canLay_of_shaped s1)), Dp.mono' o.sh ((Rp.lst ha ra).dp (SeqAt.canLay_of_shaped s2)), s1, s2, EPost.at o (.bl _) p⟩
  · rename_i a xs ds ha ra
    obtain ⟨s1, s2, p⟩ := h
    exact OpRw (op_notInT (room65 hr)) ⟨dx, ds, Dp.mono' o.sh (r1.dp (SeqAt.canLay_of_shaped s1)), Dp.mono' o.sh ((Rp.tup ha ra).dp (SeqAt.canLay_of_shaped s2)), s1, s2, EPost.at o (.bl _) p⟩⟩
/-- -i -/
def dNeg (a : ET) : ET := fun xq ρ P => a xq ρ fun d => match d with
  | .int i => P (.int (-i))
  | _ => False
theorem de_neg {e : Expr} {t : ET} {pos : Pos} (h : DE X A e t) : DE X A (.UnaryOp .USub e pos) (dNeg t) := ⟨fun {xq σ B H ρ P} g q => by
  refine PEw (pe_un un_neg (peW e)) ((h.run g q).mono fun v H1 ⟨d, B1, q, x1, r1⟩ => ?_)
  cases r1 with
  | int i => exact ⟨i, rfl, _, B1, q, x1, .int _⟩
  | _ => exact q.elim⟩

/-! ### subscripts -/
theorem Rps.atI {K : PySem.W.Frag} {c : Dc} {B : Hp} {vs : List V} {ds : List PyData} {i : Int} {d : PyData} (r : Rps K c B vs ds) (h : L2.atI ds i = some d) : ∃ v, L2.atI vs i = some v ∧ Rp K c B v d := by
  unfold L2.atI at h ⊢
  rw [r.length]
  obtain ⟨j, e, q⟩ := Option.bind_eq_some_iff.mp h
  obtain ⟨v, e2, r2⟩ := r.get q
  exact ⟨v, by rw [e]; exact e2, r2⟩
def ixD : OT := fun x y P => match y with
  | .int i => match x with
    | .list ds => match atI ds i with
      | some d => P d
      | none => False
    | .tuple ds => match atI ds i with
      | some d => P d
      | none => False
    | .str z => match atI z.cps.toList i with
      | some c => z.length ≤ sizeLine ∧ P (.str ⟨#[c]⟩)
      | none => False
    | _ => False
  | _ => False
theorem ix_run {B H : Hp} {x y : V} {dx dy : PyData} {P : PyData → Prop} (o : Ok X.K A.c B H) (r1 : Rp X.K A.c B x dx) (r2 : Rp X.K A.c B y dy) (h : ixD dx dy P) : rIx X.K x y H (EPost X A B H P) := by
  unfold ixD at h
  cases r2 <;> first | exact False.elim h | skip
  rename_i i
  cases r1 <;> first | exact False.elim h | skip
  · rename_i z
    simp only at h
    split at h
    · rename_i c e
      exact .inr (.inr ⟨z, i, c, rfl, rfl, h.1, e, EPost.at o (.str _) h.2⟩)
    · exact h.elim
  · rename_i p xs ds hp rp
    simp only at h
    split at h
    · rename_i d e
      obtain ⟨w, e2, rw'⟩ := rp.atI e
      exact .inl ⟨p, xs, i, w, rfl, rfl, SqL.of (o.sh _ _ hp), e2, EPost.at o rw' h⟩
    · exact h.elim
  · rename_i p xs ds hp rp
    simp only at h
    split at h
    · rename_i d e
      obtain ⟨w, e2, rw'⟩ := rp.atI e
      exact .inr (.inl ⟨p, xs, i, w, rfl, rfl, same_seqX o.sh hp, e2, EPost.at o rw' h⟩)
    · exact h.elim
theorem rIx_mono {K : PySem.W.Frag} {x y : V} {H : Hp} {Q Q' : VK} (m : ∀ v, Q v H → Q' v H) (h : rIx K x y H Q) : rIx K x y H Q' := by
  rcases h with ⟨p, xs, i, v, a, b, c, d, q⟩ | ⟨p, xs, i, v, a, b, c, d, q⟩ | ⟨p, xs, i, a, b, c, d, q⟩
  · exact .inl ⟨p, xs, i, v, a, b, c, d, m _ q⟩
  · exact .inr (.inl ⟨p, xs, i, v, a, b, c, d, m _ q⟩)
  · exact .inr (.inr ⟨p, xs, i, a, b, c, d, m _ q⟩)
variable {a b : Expr} {ta tb : ET} {pos : Pos}
theorem de_ix (ha : DE X A a ta) (hb : DE X A b tb) (hs : PlainIx b := by exact fun _ _ => rfl) : DE X A (.Subscript a b pos) (dOp ixD ta tb) := ⟨fun {xq σ B H ρ P} g h => by
  refine PEw (pe_ix ix_seq (peW a) (peW b) hs) ((ha.run g h).mono fun v H1 ⟨d, B1, q, x1, r1⟩ => ?_)
  refine (hb.run (g.step x1) q).mono fun u H2 ⟨d2, B2, q2, x2, r2⟩ => ?_
  exact rIx_mono (fun _ z => z.step (x1.trans x2)) (ix_run (x1.trans x2).ok (r1.mono x2.sb) r2 q2)⟩
abbrev DOt := XQ → List EV → (Option Int → Prop) → Prop
def wO (X : Cx) (e : Option Expr) : TO := fun σ H Q => ∀ pins s, Inv X pins σ H s → wpAny (model X.prog X.w) X.A (evalPart e X.env) (fun u s' => ∃ o H', Inv X pins σ H' s' ∧ IsPart u o ∧ Q o H') X.xe s
theorem poW (e : Option Expr) : PO X e (wO X e) := ⟨fun pins s σ H Q I h => h pins s I⟩
theorem wO.mono {e : Option Expr} {σ H} {Q Q' : Option Int → Hp → Prop} (h : wO X e σ H Q) (m : ∀ v H', Q v H' → Q' v H') : wO X e σ H Q' := fun pins s I => thn (h pins s I) fun u s' ⟨v, H', I', r, q⟩ => ⟨v, H', I', r, m _ _ q⟩
structure DO (X : Cx) (A : Act) (e : Option Expr) (F : DOt) : Prop where
  run : ∀ {xq σ B H ρ P}, Cfg X A xq σ B H ρ → F xq ρ P → wO X e σ H fun o H' => ∃ B', P o ∧ Ex X.K A.c B H B' H'
def dNoPart : DOt := fun _ _ P => P none
def dPart (t : ET) : DOt := fun xq ρ P => t xq ρ fun d => match d with
  | .int i => P (some i)
  | _ => False
theorem do_none : DO X A none dNoPart := ⟨fun {xq σ B H ρ P} g q => fun pins s I => po_none.run pins s σ H _ I ⟨B, q, g.ok.refl⟩⟩
theorem do_some (h : DE X A a ta) : DO X A (some a) (dPart ta) := ⟨fun {xq σ B H ρ P} g q => fun pins s I => (po_some (peW a)).run pins s σ H _ I ((h.run g q).mono fun v H1 ⟨d, B1, q, x1, r1⟩ => by
  cases r1 with
  | int i => exact ⟨i, rfl, B1, q, x1⟩
  | _ => exact q.elim)⟩
def cutD {α : Type} (xs : List α) (lo hi : Option Int) : List α := (xs.drop (HT.sIx xs.length 0 lo)).take (HT.sIx xs.length xs.length hi - HT.sIx xs.length 0 lo)
theorem Rps.cut {K : PySem.W.Frag} {c : Dc} {B : Hp} {vs : List V} {ds : List PyData} (r : Rps K c B vs ds) (lo hi : Option Int) : Rps K c B (cutV vs lo hi) (cutD ds lo hi) := by
  unfold cutV cutD
  rw [r.length]
  exact (r.drop _).take _
def slD (x : PyData) (lo hi : Option Int) (P : PyData → Prop) : Prop := match x with
  | .list ds => P (.list (cutD ds lo hi))
  | .tuple ds => P (.tuple (cutD ds lo hi))
  | .str z => z.length ≤ sizeLine ∧ P (.str (cutS z lo hi))
  | _ => False
def dSl (a : ET) (lo hi : DOt) : ET := fun xq ρ P => a xq ρ fun x => lo xq ρ fun l => hi xq ρ fun h => slD x l h P
abbrev rSl3 (K : PySem.W.Frag) : V → Option Int → Option Int → Hp → VK → Prop := fun x lo hi H Q => rSlL K x lo hi H Q ∨ (rSlA K x lo hi H Q ∨ rSlS x lo hi H Q)
theorem sl_run {B H : Hp} {x : V} {dx : PyData} {l u : Option Int} {P : PyData → Prop} (o : Ok X.K A.c B H) (r1 : Rp X.K A.c B x dx) (h : slD dx l u P) : rSl3 X.K x l u H (EPost X A B H P) := by
  cases r1 <;> first | exact False.elim h | skip
  · rename_i z
    exact .inr (.inr ⟨z, rfl, h.1, EPost.at o (.str _) h.2⟩)
  · rename_i p xs ds hp rp
    exact .inl ⟨p, xs, rfl, SqL.of (o.sh _ _ hp), fun q hq => EPost.lst o hq (rp.cut _ _) h⟩
  · rename_i p xs ds hp rp
    refine .inr (.inl ⟨p, xs, rfl, same_seqX o.sh hp, fun e => ?_, fun _ q hq => EPost.tup o hq (rp.cut _ _) h⟩)
    refine EPost.at o (.tup hp rp) ?_
    have e2 : cutD ds l u = ds := by
      unfold cutD
      rw [← rp.length, e.1, e.2, List.drop_zero, Nat.sub_zero, rp.length, List.take_length]
    have q4 : P (.tuple (cutD ds l u)) := h
    rwa [e2] at q4
theorem rSl3_mono {K : PySem.W.Frag} {x : V} {l u : Option Int} {H : Hp} {Q Q' : VK} (m : ∀ v H', Q v H' → Q' v H') (h : rSl3 K x l u H Q) : rSl3 K x l u H Q' := by
  rcases h with ⟨a, xs, e, s, q⟩ | ⟨a, xs, e, s, q1, q2⟩ | ⟨z, e, s, q⟩
  · exact .inl ⟨a, xs, e, s, fun p hp => m _ _ (q p hp)⟩
  · exact .inr (.inl ⟨a, xs, e, s, fun w => m _ _ (q1 w), fun w p hp => m _ _ (q2 w p hp)⟩)
  · exact .inr (.inr ⟨z, e, s, m _ _ q⟩)
theorem de_sl {lo hi : Option Expr} {tl th : DOt} {p2 : Pos} (ha : DE X A a ta) (hl : DO X A lo tl) (hh : DO X A hi th) : DE X A (.Subscript a (.Slice lo hi none p2) pos) (dSl ta tl th) := ⟨fun {xq σ B H ρ P} g h => by
  refine PEw (pe_slice ((sl_list (X := X)).or ((sl_tupA (X := X)).or sl_str)) (peW a) (poW lo) (poW hi)) ((ha.run g h).mono fun v H1 ⟨d, B1, q, x1, r1⟩ => ?_)
  refine (hl.run (g.step x1) q).mono fun l H2 ⟨B2, q2, x2⟩ => ?_
  refine (hh.run ((g.step x1).step x2) q2).mono fun u H3 ⟨B3, q3, x3⟩ => ?_
  have x13 := (x1.trans x2).trans x3
  exact rSl3_mono (fun _ _ z => z.step x13) (sl_run x13.ok ((r1.mono x2.sb).mono x3.sb) q3)⟩

/-! ### built-ins -/
abbrev CTd := List PyData → (PyData → Prop) → Prop
structure CD (X : Cx) (A : Act) (f : Value) (r : CTd) : Prop where
  run : ∀ {B H vs ds P}, Ok X.K A.c B H → Rps X.K A.c B vs ds → r ds P → wC X f vs H (EPost X A B H P)
def dCB (r : CTd) (t : AT) : ET := fun xq ρ P => t xq ρ fun ds => r ds P
variable {x : Str} {p : Pos} {e : Expr} {es : List Expr} {t : AT} {id T : String} {r : CTd}
theorem de_callB (hc : CD X A (.builtin id) r) (hg : Gl X x) (hm : X.mg x = none) (hv : bootBuiltins x = some (.builtin id)) (ha : DA X A (e :: es) t) (hn : x ≠ "__name__" := by decide) (hdb : (x == ("__debug__" : Str)) = false := by decide)
    (he : starEach (e :: es) X.env = (false, eval e X.env) :: starEach es X.env := by rfl) (hpl : (backTo pos (starEach es X.env)).any (·.1) = false := by rfl) : DE X A (.Call (.Name x p) (e :: es) [] pos) (dCB r t) := ⟨fun {xq σ B H ρ P} g h =>
  PEw (pe_callB (clW (.builtin id)) hg hm hv (paW _) hn hdb he hpl) ((ha.run g h).mono fun vs H1 ⟨ds, B1, q, x1, r1, _⟩ => (hc.run x1.ok r1 q).mono fun _ _ z => z.step x1)⟩
theorem de_callTy (hc : CD X A (.type T) r) (hg : Gl X x) (hm : X.mg x = none) (hv : bootBuiltins x = some (.type T)) (ha : DA X A (e :: es) t) (hn : x ≠ "__name__" := by decide) (hdb : (x == ("__debug__" : Str)) = false := by decide)
    (he : starEach (e :: es) X.env = (false, eval e X.env) :: starEach es X.env := by rfl) (hpl : (backTo pos (starEach es X.env)).any (·.1) = false := by rfl) : DE X A (.Call (.Name x p) (e :: es) [] pos) (dCB r t) := ⟨fun {xq σ B H ρ P} g h =>
  PEw (pe_callTy (clW (.type T)) hg hm hv (paW _) hn hdb he hpl) ((ha.run g h).mono fun vs H1 ⟨ds, B1, q, x1, r1, _⟩ => (hc.run x1.ok r1 q).mono fun _ _ z => z.step x1)⟩
def lenD : CTd := fun ds P => match ds with
  | [.list xs] => P (.int xs.length)
  | [.tuple xs] => P (.int xs.length)
  | [.str z] => z.length ≤ sizeLine ∧ P (.int z.length)
  | _ => False
theorem cd_len : CD X A (.builtin "len") lenD := ⟨fun {B H vs ds P} o r h => by
  cases r with
  | nil => exact False.elim h
  | cons r1 r2 =>
    cases r2 with
    | cons _ _ => cases r1 <;> exact False.elim h
    | nil =>
      cases r1 <;> first | exact False.elim h | skip
      · rename_i z
        exact CRw call_len_str ⟨z, rfl, h.1, EPost.at o (.int _) h.2⟩
      · rename_i a xs ds ha ra
        exact CRw call_len_seq ⟨a, xs, rfl, .inl (SqL.of (o.sh _ _ ha)), by rw [ra.length]; exact EPost.at o (.int _) h⟩
      · rename_i a xs ds ha ra
        exact CRw call_len_seq ⟨a, xs, rfl, .inr (same_seqX o.sh ha), by rw [ra.length]; exact EPost.at o (.int _) h⟩⟩
def tupleD : CTd := fun ds P => match ds with
  | [.list xs] => P (.tuple xs)
  | [.tuple xs] => P (.tuple xs)
  | _ => False
theorem cd_tuple : CD X A (.type "tuple") tupleD := ⟨fun {B H vs ds P} o r h => by
  cases r with
  | nil => exact False.elim h
  | cons r1 r2 =>
    cases r2 with
    | cons _ _ => cases r1 <;> exact False.elim h
    | nil =>
      cases r1 <;> first | exact False.elim h | skip
      · rename_i a xs ds ha ra
        exact CRw call_tuple_of ⟨a, xs, rfl, .inl ⟨SqL.of (o.sh _ _ ha), fun l hl => EPost.tup o hl ra h⟩⟩
      · rename_i a xs ds ha ra
        exact CRw call_tuple_of ⟨a, xs, rfl, .inr ⟨same_seqX o.sh ha, EPost.at o (.tup ha ra) h⟩⟩⟩
def listD : CTd := fun ds P => match ds with
  | [.list xs] => P (.list xs)
  | [.tuple xs] => P (.list xs)
  | _ => False
theorem cd_list : CD X A (.type "list") listD := ⟨fun {B H vs ds P} o r h => by
  cases r with
  | nil => exact False.elim h
  | cons r1 r2 =>
    cases r2 with
    | cons _ _ => cases r1 <;> exact False.elim h
    | nil =>
      cases r1 <;> first | exact False.elim h | skip
      · rename_i a xs ds ha ra
        exact CRw call_list_of ⟨a, xs, rfl, .inl (SqL.of (o.sh _ _ ha)), fun l hl => EPost.lst o hl ra h⟩
      · rename_i a xs ds ha ra
        exact CRw call_list_of ⟨a, xs, rfl, .inr (same_seqX o.sh ha), fun l hl => EPost.lst o hl ra h⟩⟩
def asInts : List PyData → Option (List Int)
  | [] => some []
  | .int i :: r => (asInts r).map (i :: ·)
  | _ :: _ => none
theorem asInts_eq : ∀ {ds : List PyData} {ns : List Int}, asInts ds = some ns → ds = ns.map PyData.int
  | [], ns, h => by cases h; rfl
  | .int i :: r, ns, h => by
    unfold asInts at h
    obtain ⟨m, e, q⟩ := Option.map_eq_some_iff.mp h
    subst q
    rw [asInts_eq e]; rfl
theorem asInts_map : ∀ ns : List Int, asInts (ns.map PyData.int) = some ns
  | [] => rfl
  | n :: ns => by
    show (asInts (ns.map PyData.int)).map (n :: ·) = _
    rw [asInts_map ns]; rfl
def sortI (ns : List Int) : List Int := ns.mergeSort fun a b => decide (a ≤ b)
theorem sortI_perm (ns : List Int) : (sortI ns).Perm ns := List.mergeSort_perm ns _
theorem sortI_sorted (ns : List Int) : (sortI ns).Pairwise (· ≤ ·) := by
  have h := List.pairwise_mergeSort (le := fun a b : Int => decide (a ≤ b)) (fun a b c h1 h2 => by
    simp only [decide_eq_true_eq] at h1 h2 ⊢; omega) (fun a b => by
    simp only [Bool.or_eq_true, decide_eq_true_eq]; omega) ns
  exact h.imp fun h => by simpa using h
theorem sortI_unique {ns ms : List Int} (hp : ms.Perm ns) (hs : ms.Pairwise (· ≤ ·)) : ms = sortI ns :=
  (hp.trans (sortI_perm ns).symm).eq_of_pairwise (fun a b _ _ h1 h2 => Int.le_antisymm h1 h2) hs (sortI_sorted ns)
def sortedD : CTd := fun ds P => match ds with
  | [.list xs] => match asInts xs with
    | some ns => P (.list ((sortI ns).map PyData.int))
    | none => False
  | _ => False
theorem cd_sorted : CD X A (.builtin "sorted") sortedD := ⟨fun {B H vs ds P} o r h => by
  cases r with
  | nil => exact False.elim h
  | cons r1 r2 =>
    cases r2 with
    | cons _ _ => cases r1 <;> exact False.elim h
    | nil =>
      cases r1 <;> first | exact False.elim h | skip
      rename_i a xs ds ha ra
      simp only [sortedD] at h
      split at h
      · rename_i ns e
        rw [asInts_eq e] at ra
        refine CRw cr_sortedI ⟨a, ns, rfl, SqL.of (by rw [← ra.ints]; exact o.sh _ _ ha), fun ns' p hp hs hn => ?_⟩
        rw [sortI_unique hp hs]
        exact EPost.lst o hn (Rps.ofInts _) h
      · exact h.elim⟩
def min2D : CTd := fun ds P => match ds with
  | [.int i, .int j] => P (.int (if j < i then j else i))
  | _ => False
def max2D : CTd := fun ds P => match ds with
  | [.int i, .int j] => P (.int (if j > i then j else i))
  | _ => False
theorem cd_min2 (hc : X.calm = true) : CD X A (.builtin "min") min2D := ⟨fun {B H vs ds P} o r h => by
  cases r with
  | nil => exact False.elim h
  | cons r1 r2 =>
    cases r2 with
    | nil => cases r1 <;> exact False.elim h
    | cons r2 r3 =>
      cases r3 with
      | cons _ _ => cases r1 <;> cases r2 <;> exact False.elim h
      | nil =>
        cases r1 <;> cases r2 <;> first | exact False.elim h | skip
        exact CRw (call_min2 hc) ⟨_, _, rfl, EPost.at o (.int _) h⟩⟩
theorem cd_max2 (hc : X.calm = true) : CD X A (.builtin "max") max2D := ⟨fun {B H vs ds P} o r h => by
  cases r with
  | nil => exact False.elim h
  | cons r1 r2 =>
    cases r2 with
    | nil => cases r1 <;> exact False.elim h
    | cons r2 r3 =>
      cases r3 with
      | cons _ _ => cases r1 <;> cases r2 <;> exact False.elim h
      | nil =>
        cases r1 <;> cases r2 <;> first | exact False.elim h | skip
        exact CRw (call_max2 hc) ⟨_, _, rfl, EPost.at o (.int _) h⟩⟩
/-- the least of some ints -/
def minI : List Int → Option Int
  | [] => none
  | i :: r => match minI r with
    | some m => some (if m < i then m else i)
    | none => some i
theorem minI_spec : ∀ {ns : List Int} {m : Int}, m ∈ ns → (∀ y ∈ ns, m ≤ y) → minI ns = some m
  | i :: r, m, hm, hl => by
    unfold minI
    cases e : minI r with
    | none =>
      cases r with
      | nil =>
        simp at hm
        rw [hm]
      | cons j q =>
        unfold minI at e
        split at e <;> cases e
    | some k =>
      have hk : k ∈ r ∧ ∀ y ∈ r, k ≤ y := by
        clear hm hl m
        revert k
        induction r with
        | nil => intro k e; cases e
        | cons j q ih =>
          intro k e
          unfold minI at e
          cases e2 : minI q with
          | none =>
            rw [e2] at e
            cases e
            cases q with
            | nil => simp
            | cons j2 q2 =>
              unfold minI at e2
              split at e2 <;> cases e2
          | some k2 =>
            rw [e2] at e
            obtain ⟨h1, h2⟩ := ih _ e2
            have e' : (if k2 < j then k2 else j) = k := by simpa using e
            by_cases hlt : k2 < j
            · rw [if_pos hlt] at e'
              subst e'
              exact ⟨List.mem_cons_of_mem _ h1, fun y hy => by
                rcases List.mem_cons.mp hy with rfl | hy
                · omega
                · exact h2 y hy⟩
            · rw [if_neg hlt] at e'
              subst e'
              exact ⟨List.mem_cons_self, fun y hy => by
                rcases List.mem_cons.mp hy with rfl | hy
                · omega
                · have := h2 y hy; omega⟩
      have h1 : m ≤ k := hl k (List.mem_cons_of_mem _ hk.1)
      have h2 : m ≤ i := hl i List.mem_cons_self
      simp only [Option.some.injEq]
      rcases List.mem_cons.mp hm with rfl | hm
      · by_cases hlt : k < m
        · omega
        · rw [if_neg hlt]
      · have := hk.2 m hm
        have e3 : k = m := by omega
        subst e3
        by_cases hlt : k < i
        · rw [if_pos hlt]
        · rw [if_neg hlt]; omega
open PyProof.Rows in
theorem min_tupInts {prog : Program} {w : World} {A : Around} {E : Value → Shared → Prop} {s : Shared} {Q : Value → Shared → Prop} {l : Addr} {its : List Value} {ns : List Int} (hh : A.handled = none) (hl : s.heap.IsTuple l its.toArray) (hi : IntsAre its ns) (hne : 0 < ns.length)
    (h : ∀ h' tk M t', (∀ b o, s.heap.get? b = some o → h'.get? b = some o) → M ∈ ns → (∀ a, a ∈ ns → M ≤ a) → Q (.int M t') { s with heap := h', toks := tk }) : wpAny (model prog w) A (call (.builtin "min") [.ref l]) Q E s := by
  obtain ⟨xs, e⟩ := hi.allInts.items
  have hn : numsOf (intItems xs).toList = ns := by rw [← e]; exact hi.numsOf
  rw [nums_intItems] at hn
  subst hn
  rw [e] at hl
  have hsz : 0 < xs.size := by simpa using hne
  have hlt : l < s.heap.objs.size := let ⟨_, ho, _⟩ := hl; Heap.lt_size ho
  refine call_min_walk (wpAny_pyIter_tuple hl ?_)
  refine ⟨_, [_, l], [_], _, _, _, _, rfl, Walks.tuple (A := A.in1) hh _ l (Nat.ne_of_lt hlt) (intItems xs), ⟨⟨_, Heap.get?_push_size _ rfl, rfl, rfl⟩, PySem.Heap.IsTuple.push hl _⟩, fun c hc => ?_, by simpa [intItems] using hsz, CmpOf.ints_lt (numAt xs) (fun _ _ => intItems_at), fun v h' tk hP hk => ?_⟩
  · show c < (s.heap.push _).objs.size
    rw [Heap.size_push]
    rcases List.mem_cons.mp hc with rfl | hc
    · exact Nat.lt_succ_self _
    · rcases List.mem_cons.mp hc with rfl | hc
      · exact Nat.lt_succ_of_lt hlt
      · cases hc
  · have hv : (intItems xs)[argBest (fun i j => decide (numAt xs i < numAt xs j)) (xs.size - 1)]? = some v := by simpa [intItems] using hP
    obtain ⟨t, rfl⟩ := intItems_at hv
    obtain ⟨h1, h2⟩ := argBest_lt (numAt xs) (xs.size - 1)
    refine h h' tk _ t (fun b o e => hk b o (fun hm => ?_) (Heap.get?_push_of_some _ e)) ?_ fun a ha => ?_
    · rw [List.mem_singleton] at hm
      rw [hm] at e
      exact Nat.lt_irrefl _ (Heap.lt_size e)
    · rw [numAt_eq]; exact PySem.getD_mem (by rw [List.length_map, Array.length_toList]; omega)
    · obtain ⟨j, hj, rfl⟩ := mem_getD ha
      rw [List.length_map, Array.length_toList] at hj
      rw [← numAt_eq]; exact h2 j (by omega)
def rMinT (K : PySem.W.Frag) : List V → Hp → VK → Prop := fun vs H Q => ∃ (a : Addr) (ns : List Int), vs = [V.ref a] ∧ SqT K H a (ns.map V.int) ∧ 0 < ns.length ∧ ∀ m, m ∈ ns → (∀ y, y ∈ ns → m ≤ y) → Q (.int m) H
theorem cr_minT (hc : X.calm = true) : CallR X (.builtin "min") (rMinT X.K) := by
  intro pins s σ H vs us Q I r h
  obtain ⟨a, ns, rfl, hs, hne, q⟩ := h
  obtain ⟨its, rv, hl, _⟩ := I.tuple hs
  rw [Vals.ref1 r]
  exact min_tupInts (I.ok.hd hc) hl rv.ints hne fun h' tk m t' hk h1 h2 => ⟨.int _, H, I.kept hk, ⟨_, rfl⟩, q m h1 h2⟩
def minOf (xs : List PyData) (P : PyData → Prop) : Prop := match asInts xs with
  | some ns => match minI ns with
    | some m => P (.int m)
    | none => False
  | none => False
def minD : CTd := fun ds P => match ds with
  | [.list xs] => minOf xs P
  | [.tuple xs] => minOf xs P
  | _ => False
theorem cd_min (hc : X.calm = true) : CD X A (.builtin "min") minD := ⟨fun {B H vs ds P} o r h => by
  cases r with
  | nil => exact False.elim h
  | cons r1 r2 =>
    cases r2 with
    | cons _ _ => cases r1 <;> exact False.elim h
    | nil =>
      cases r1 <;> first | exact False.elim h | skip
      · rename_i a xs ds ha ra
        simp only [minD, minOf] at h
        split at h
        · rename_i ns e
          rw [asInts_eq e] at ra
          split at h
          · rename_i m em
            refine CRw (cr_min hc) ⟨a, ns, rfl, SqL.of (by rw [← ra.ints]; exact o.sh _ _ ha), ?_, fun k hk hle => ?_⟩
            · cases ns with
              | nil => cases em
              | cons _ _ => exact Nat.succ_pos _
            · rw [minI_spec hk hle] at em
              cases em
              exact EPost.at o (.int _) h
          · exact h.elim
        · exact h.elim
      · rename_i a xs ds ha ra
        simp only [minD, minOf] at h
        split at h
        · rename_i ns e
          rw [asInts_eq e] at ra
          have hs := same_seqX o.sh ha
          rw [ra.ints] at hs
          split at h
          · rename_i m em
            refine CRw (cr_minT hc) ⟨a, ns, rfl, hs, ?_, fun k hk hle => ?_⟩
            · cases ns with
              | nil => cases em
              | cons _ _ => exact Nat.succ_pos _
            · rw [minI_spec hk hle] at em
              cases em
              exact EPost.at o (.int _) h
          · exact h.elim
        · exact h.elim⟩
def sumD : CTd := fun ds P => match ds with
  | [.list xs] => match asInts xs with
    | some ns => P (.int ns.sum)
    | none => False
  | _ => False
theorem cd_sum (hc : X.calm = true) : CD X A (.builtin "sum") sumD := ⟨fun {B H vs ds P} o r h => by
  cases r with
  | nil => exact False.elim h
  | cons r1 r2 =>
    cases r2 with
    | cons _ _ => cases r1 <;> exact False.elim h
    | nil =>
      cases r1 <;> first | exact False.elim h | skip
      rename_i a xs ds ha ra
      simp only [sumD] at h
      split at h
      · rename_i ns e
        rw [asInts_eq e] at ra
        exact CRw (cr_sum hc) ⟨a, ns, rfl, SqL.of (by rw [← ra.ints]; exact o.sh _ _ ha), EPost.at o (.int _) h⟩
      · exact h.elim⟩
def absD : CTd := fun ds P => match ds with
  | [.int i] => P (.int (if i < 0 then -i else i))
  | _ => False
theorem cd_abs : CD X A (.builtin "abs") absD := ⟨fun {B H vs ds P} o r h => by
  cases r with
  | nil => exact False.elim h
  | cons r1 r2 =>
    cases r2 with
    | cons _ _ => cases r1 <;> exact False.elim h
    | nil =>
      cases r1 <;> first | exact False.elim h | skip
      exact CRw call_abs ⟨_, rfl, EPost.at o (.int _) h⟩⟩
def intD : CTd := fun ds P => match ds with
  | [.int i] => P (.int i)
  | [.bool b] => P (.int (if b then 1 else 0))
  | [.str a] => match PySem.intText? a with
    | some n => a.length ≤ 640 ∧ P (.int n)
    | none => False
  | _ => False
theorem cd_int : CD X A (.type "int") intD := ⟨fun {B H vs ds P} o r h => by
  cases r with
  | nil => exact False.elim h
  | cons r1 r2 =>
    cases r2 with
    | cons _ _ => cases r1 <;> exact False.elim h
    | nil =>
      cases r1 <;> first | exact False.elim h | skip
      · exact CRw call_int1 (.inr ⟨_, rfl, EPost.at o (.int _) h⟩)
      · exact CRw call_int1 (.inl ⟨_, rfl, EPost.at o (.int _) h⟩)
      · simp only [intD] at h
        split at h
        · rename_i n e
          exact CRw call_int_str ⟨_, n, rfl, e, h.1, EPost.at o (.int _) h.2⟩
        · exact h.elim⟩
def strD : CTd := fun ds P => match ds with
  | [.int i] => i.natAbs.log2 < 1920 ∧ P (.str (Str.ofString (toString i)))
  | [.none] => P (.str (Str.ofString "None"))
  | _ => False
theorem call_strN : CallR X (.type "str") (fun xs H Q => xs = [.non] ∧ Q (.str (Str.ofString "None")) H) := by
  intro pins s σ H xs us Q I r h
  obtain ⟨rfl, q⟩ := h
  obtain ⟨u, rfl, r1⟩ := vals1 r
  cases r1
  exact PySem.P.str_of_none ⟨.str _, H, I.tok _, ⟨_, rfl⟩, q⟩
theorem cd_str : CD X A (.type "str") strD := ⟨fun {B H vs ds P} o r h => by
  cases r with
  | nil => exact False.elim h
  | cons r1 r2 =>
    cases r2 with
    | cons _ _ => cases r1 <;> exact False.elim h
    | nil =>
      cases r1 <;> first | exact False.elim h | skip
      · exact CRw call_strN ⟨rfl, EPost.at o (.str _) h⟩
      · exact CRw call_str_int ⟨_, rfl, h.1, EPost.at o (.str _) h.2⟩⟩
end
end DL

/-! DL3c: min with default=, min of a tuple. -/
namespace DL
open PySem PySem.Spec L2 PyProof.Rows
variable {X : Cx} {A : Act}
theorem ints_reads {h : Heap} : ∀ {vs : List Value} {ns : List Int}, IntsAre vs ns → ReadsAll h vs (ns.map PyData.int) []
  | _, _, .nil => .nil
  | _, _, .cons n t r => .cons (.int n t) (ints_reads r)
theorem ints_alike (ns : List Int) : PySem.W.AlikeAll (ns.map PyData.int) := ⟨fun x hx y hy => by
  obtain ⟨i, _, rfl⟩ := List.mem_map.mp hx
  obtain ⟨j, _, rfl⟩ := List.mem_map.mp hy
  rfl, fun x hx => by
  obtain ⟨i, _, rfl⟩ := List.mem_map.mp hx
  exact nofun⟩
theorem ints_depth : ∀ ns : List Int, PyData.depthAll (ns.map PyData.int) ≤ 1
  | [] => by simp [PyData.depthAll]
  | n :: ns => by
    have := ints_depth ns
    simp only [List.map_cons, PyData.depthAll, PyData.depth]
    omega
theorem minI_fold : ∀ (n : Int) (ns : List Int), minI (n :: ns) = some (ns.foldl min n)
  | n, [] => rfl
  | n, m :: ns => by
    have e1 := minI_fold m ns
    have e2 := minI_fold (min n m) ns
    rw [List.foldl_cons, ← e2]
    cases e : minI ns with
    | none =>
      simp only [minI, e]
      congr 1
      split <;> omega
    | some k =>
      simp only [minI, e]
      congr 1
      repeat' split
      all_goals omega
def rMinDf (K : PySem.W.Frag) : List V → List V → Hp → VK → Prop := fun xs zs H Q => ∃ (a : Addr) (ns : List Int) (z : V), xs = [V.ref a] ∧ zs = [z] ∧ SqL K H a (ns.map V.int) ∧ (minI ns = none → Q z H) ∧ ∀ m, minI ns = some m → Q (.int m) H
theorem cr_minDf (hc : X.calm = true) (hu : X.A.units + 65 < cLine) : CallRK X (.builtin "min") [Str.ofString "default"] (rMinDf X.K) := by
  intro pins s σ H xs zs us ws Q I rx rz h
  obtain ⟨a, ns, z, rfl, rfl, hs, q0, q1⟩ := h
  obtain ⟨its, rv, hl, _⟩ := I.list hs
  rw [Vals.ref1 rx]
  obtain ⟨u, rfl, ru⟩ := rz.one
  have hi := rv.ints
  have hd := ints_depth ns
  refine PySem.W.min_list_default (I.ok.hd hc) hl.isList (ints_reads hi) (ints_alike ns) (by omega) (fun e h' tk hk => ?_) fun y ys i v h' tk bs e hv hr hk => ?_
  · have : ns = [] := by simpa using e
    subst this
    exact ⟨z, H, I.kept hk, ru, q0 rfl⟩
  · cases ns with
    | nil => cases e
    | cons n ns =>
      rw [List.map_cons] at e
      cases e
      rw [PySem.W.minD_ints] at hr
      cases hr
      exact ⟨.int _, H, I.kept hk, ⟨_, rfl⟩, q1 _ (minI_fold n ns)⟩
def minDfD (x z : PyData) (P : PyData → Prop) : Prop := match x with
  | .list xs => match asInts xs with
    | some ns => match minI ns with
      | some m => P (.int m)
      | none => P z
    | none => False
  | _ => False
def dMinDf (t td : ET) : ET := fun xq ρ P => t xq ρ fun x => td xq ρ fun z => minDfD x z P
theorem de_minDf {k : Nat} {e e2 : Expr} {t td : ET} {p pos kpos : Pos} (hr : Room k X.A) (hc : X.calm = true) (hg : Gl X "min") (hm : X.mg "min" = none) (hv : bootBuiltins "min" = some (.builtin "min")) (ha : DE X A e t) (hb : DE X A e2 td)
    (hs : starEach [e] X.env = (false, eval e X.env) :: starEach [] X.env := by rfl) (he : backTo pos (starEach [e] X.env) = (false, eval e X.env) :: backTo pos (starEach [] X.env) := by rfl) (hpl : (backTo pos (starEach [e] X.env)).any (·.1) = false := by rfl) :
    DE X A (.Call (.Name "min" p) [e] [⟨some (Str.ofString "default"), e2, kpos⟩] pos) (dMinDf t td) := ⟨fun {xq σ B H ρ P} g h => by
  refine PEw (pe_callBK (cr_minDf hc (room65 hr)) hg hm hv (pa_cons (peW e) pa_nil (hs := hs)) (pk_cons (peW e2) pk_nil) (he := he) (hpl := hpl)) ?_
  refine (ha.run g h).mono fun v H1 ⟨d, B1, q, x1, r1⟩ => ?_
  refine (hb.run (g.step x1) q).mono fun u H2 ⟨d2, B2, q2, x2, r2⟩ => ?_
  have r1' := r1.mono x2.sb
  have x12 := x1.trans x2
  cases r1' with
  | @lst a xs ds hp rp =>
    simp only [minDfD] at q2
    split at q2
    · rename_i ns en
      rw [asInts_eq en] at rp
      refine ⟨a, ns, u, rfl, rfl, SqL.of (by rw [← rp.ints]; exact x2.ok.sh _ _ hp), fun e => ?_, fun m e => ?_⟩
      · rw [e] at q2
        exact ⟨_, B2, q2, x12, r2⟩
      · rw [e] at q2
        exact ⟨_, B2, q2, x12, .int _⟩
    · exact q2.elim
  | _ => exact False.elim q2⟩
end DL

/-! DL4: what is walked; targets; comprehensions. -/
namespace DL
open PySem PySem.Spec L2

/-! ### what is walked -/
def wI (X : Cx) (tg iter : Expr) : TI := fun σ H R => ∀ pins s, Inv X pins σ H s →
  wpAny (model X.prog X.w) X.A (eval iter X.env) (fun v s1 => wpAny (model X.prog X.w) X.A (pyIter v) (PIE X pins σ tg R) X.xe s1) X.xe s
section
variable {X : Cx} {A : Act} {tg : Expr}
theorem piW (iter : Expr) : PI X tg iter (wI X tg iter) := ⟨fun pins s σ H R I h => h pins s I⟩
theorem PIw {iter : Expr} {t : TI} (h : PI X tg iter t) {σ H R} (q : t σ H R) : wI X tg iter σ H R := fun pins s I => h.run pins s σ H R I q
theorem wI.mono {iter : Expr} {σ H} {R R' : It → Hp → Prop} (h : wI X tg iter σ H R) (m : ∀ J H', R J H' → R' J H') : wI X tg iter σ H R' := fun pins s I => thn (h pins s I) fun v s1 q => thn q fun itv s2 ⟨it, fp, tn, J, H', e, I2, T, t0, f, r⟩ => ⟨it, fp, tn, J, H', e, I2, T, t0, f, m _ _ r⟩
theorem iter_list {pins : List (Addr × Obj)} {σ : St} {H : Hp} {s1 : Shared} {R : It → Hp → Prop} {a : Addr} {xs : List V} {E : Value → Shared → Prop} (I1 : Inv X pins σ H s1) (hq : SqL X.K H a xs) (q : R (Itl X.K a) H) : wpAny (model X.prog X.w) X.A (pyIter (.ref a)) (PIE X pins σ tg R) E s1 := by
  obtain ⟨its, rv, p, hz⟩ := I1.list hq
  refine wpAny_pyIter_list p.isList ?_
  refine ⟨s1.heap.objs.size, [s1.heap.objs.size], _, _, H, rfl, I1.kept (t' := s1.toks) fun b o e => Heap.get?_push_of_some _ e, turn_list a _, ⟨_, Heap.get?_push_size _ rfl, rfl, rfl⟩, fun b hb => ?_, q⟩
  have e : b = s1.heap.objs.size := by simpa using hb
  subst e
  exact I1.fpOk (Nat.le_refl _) (I1.hok.fresh (Nat.le_refl _))
theorem iter_tup {pins : List (Addr × Obj)} {σ : St} {H : Hp} {s1 : Shared} {R : It → Hp → Prop} {a : Addr} {xs : List V} {E : Value → Shared → Prop} (I1 : Inv X pins σ H s1) (hq : SqT X.K H a xs) (q : R (Itt X.K a) H) : wpAny (model X.prog X.w) X.A (pyIter (.ref a)) (PIE X pins σ tg R) E s1 := by
  obtain ⟨its, rv, p, hz⟩ := I1.tuple hq
  refine wpAny_pyIter_tuple (show s1.heap.IsTuple a its.toArray from p) ?_
  refine ⟨s1.heap.objs.size, [s1.heap.objs.size], _, _, H, rfl, I1.kept (t' := s1.toks) fun b o e => Heap.get?_push_of_some _ e, turn_tuple a _, ⟨_, Heap.get?_push_size _ rfl, rfl, rfl⟩, fun b hb => ?_, q⟩
  have e : b = s1.heap.objs.size := by simpa using hb
  subst e
  exact I1.fpOk (Nat.le_refl _) (I1.hok.fresh (Nat.le_refl _))
theorem iter_str {pins : List (Addr × Obj)} {σ : St} {H : Hp} {s1 : Shared} {R : It → Hp → Prop} {x : Str} {t : Tok} {E : Value → Shared → Prop} (I1 : Inv X pins σ H s1) (q : R (Its x) H) : wpAny (model X.prog X.w) X.A (pyIter (.str x t)) (PIE X pins σ tg R) E s1 := by
  cases ha : x.cps.all (· < 128)
  · exact wpAny_pyIter_wide ha (pi_one (tk := s1.toks) I1 _ (turn_str _ x t "str_iterator" (.inr rfl)) ⟨_, Heap.get?_push_size _ rfl, rfl, rfl⟩ q)
  · exact wpAny_pyIter_ascii ha (pi_one (tk := s1.toks) I1 _ (turn_str _ x t "str_ascii_iterator" (.inl rfl)) ⟨_, Heap.get?_push_size _ rfl, rfl, rfl⟩ q)

/-- at turn i the iterator yields the i-th of ds -/
structure Walk (X : Cx) (A : Act) (J : It) (ds : List PyData) (B1 : Hp) : Prop where
  go : ∀ i B H, Same B1 B → Ok X.K A.c B H → i < ds.length → J.go i H
  yld : ∀ i B H x H', Same B1 B → Ok X.K A.c B H → i < ds.length → J.yld i H x H' → ∃ B' d, Ex X.K A.c B H B' H' ∧ ds[i]? = some d ∧ Rp X.K A.c B' x d
  stop : ∀ i B H, Same B1 B → Ok X.K A.c B H → ds.length ≤ i → J.stop i H
theorem walk_list {B1 : Hp} {a : Addr} {xs : List V} {ds : List PyData} (ha : B1 a = some (.lst xs)) (r : Rps X.K A.c B1 xs ds) : Walk X A (Itl X.K a) ds B1 where
  go := fun i B H sb o hi => by
    obtain ⟨v, e, _⟩ := r.get (List.getElem?_eq_getElem hi)
    exact ⟨xs, v, SqL.of (o.sh _ _ (sb _ _ ha)), e⟩
  yld := fun i B H x H' sb o hi y => by
    obtain ⟨rfl, y⟩ := y
    obtain ⟨v, e, q⟩ := r.get (List.getElem?_eq_getElem hi)
    have := (y xs (SqL.of (o.sh _ _ (sb _ _ ha)))).symm.trans e
    cases this
    exact ⟨B, _, o.refl, List.getElem?_eq_getElem hi, q.mono sb⟩
  stop := fun i B H sb o hi => ⟨xs, SqL.of (o.sh _ _ (sb _ _ ha)), by rw [r.length]; exact hi⟩
theorem walk_tup {B1 : Hp} {a : Addr} {xs : List V} {ds : List PyData} (ha : SqT X.K B1 a xs) (r : Rps X.K A.c B1 xs ds) : Walk X A (Itt X.K a) ds B1 where
  go := fun i B H sb o hi => by
    obtain ⟨v, e, _⟩ := r.get (List.getElem?_eq_getElem hi)
    exact ⟨xs, v, same_seqT o.sh (same_seqT sb ha), e⟩
  yld := fun i B H x H' sb o hi y => by
    obtain ⟨rfl, y⟩ := y
    obtain ⟨v, e, q⟩ := r.get (List.getElem?_eq_getElem hi)
    have := (y xs (same_seqT o.sh (same_seqT sb ha))).symm.trans e
    cases this
    exact ⟨B, _, o.refl, List.getElem?_eq_getElem hi, q.mono sb⟩
  stop := fun i B H sb o hi => ⟨xs, same_seqT o.sh (same_seqT sb ha), by rw [r.length]; exact hi⟩
def signs (z : Str) : List PyData := z.cps.toList.map fun c => .str ⟨#[c]⟩
theorem walk_str {B1 : Hp} (z : Str) : Walk X A (Its z) (signs z) B1 where
  go := fun i B H sb o hi => by
    have : i < z.cps.size := by simpa [signs] using hi
    exact this
  yld := fun i B H x H' sb o hi y => by
    obtain ⟨rfl, c, e, rfl⟩ := y
    refine ⟨B, _, o.refl, ?_, .str _⟩
    unfold signs
    rw [List.getElem?_map, Array.getElem?_toList, e]; rfl
  stop := fun i B H sb o hi => by
    have : z.cps.size ≤ i := by simpa [signs] using hi
    exact this
/-- lo, lo + c, .. : n of them -/
def rngC (lo c : Int) (n : Nat) : List PyData := (List.range n).map fun i => .int (lo + (i : Nat) * c)
def rngD (lo : Int) (n : Nat) : List PyData := (List.range n).map fun i => .int (lo + (i : Nat))
theorem walk_rng {B1 : Hp} (lo : Int) (n : Nat) : Walk X A (Itr lo n) (rngD lo n) B1 where
  go := fun i B H sb o hi => by
    have : i < n := by simpa [rngD] using hi
    exact this
  yld := fun i B H x H' sb o hi y => by
    obtain ⟨rfl, rfl⟩ := y
    have hi' : i < n := by simpa [rngD] using hi
    refine ⟨B, _, o.refl, ?_, .int _⟩
    unfold rngD
    rw [List.getElem?_map, List.getElem?_range hi']; rfl
  stop := fun i B H sb o hi => by
    have : n ≤ i := by simpa [rngD] using hi
    exact this
theorem walk_rngC {B1 : Hp} (lo c : Int) (n : Nat) : Walk X A (Itc lo c n) (rngC lo c n) B1 where
  go := fun i B H sb o hi => by
    have : i < n := by simpa [rngC] using hi
    exact this
  yld := fun i B H x H' sb o hi y => by
    obtain ⟨rfl, rfl⟩ := y
    have hi' : i < n := by simpa [rngC] using hi
    refine ⟨B, _, o.refl, ?_, .int _⟩
    unfold rngC
    rw [List.getElem?_map, List.getElem?_range hi']; rfl
  stop := fun i B H sb o hi => by
    have : n ≤ i := by simpa [rngC] using hi
    exact this

structure DI (X : Cx) (A : Act) (tg iter : Expr) (F : AT) : Prop where
  run : ∀ {xq σ B H ρ P}, Cfg X A xq σ B H ρ → F xq ρ P → wI X tg iter σ H fun J H1 => ∃ ds B1, P ds ∧ Ex X.K A.c B H B1 H1 ∧ Walk X A J ds B1
/-- the items of a list, a tuple, a text -/
def seqD (x : PyData) (P : List PyData → Prop) : Prop := match x with
  | .list ds => P ds
  | .tuple ds => P ds
  | .str z => P (signs z)
  | _ => False
def dItems (t : ET) : AT := fun xq ρ P => t xq ρ fun d => seqD d P
theorem di_seq {e : Expr} {t : ET} (h : DE X A e t) : DI X A tg e (dItems t) := ⟨fun {xq σ B H ρ P} g q => fun pins s I => by
  refine thn (h.run g q pins s I) fun v s1 ⟨x, H1, I1, r1, d, B1, q1, x1, rp⟩ => ?_
  have o := x1.ok
  cases rp <;> first | exact False.elim q1 | skip
  · rename_i z
    obtain ⟨t, rfl⟩ := r1
    exact iter_str I1 ⟨_, B1, q1, x1, walk_str z⟩
  · rename_i a xs ds ha ra
    cases r1
    exact iter_list I1 (SqL.of (o.sh _ _ ha)) ⟨ds, B1, q1, x1, walk_list ha ra⟩
  · rename_i a xs ds ha ra
    cases r1
    exact iter_tup I1 (same_seqX o.sh ha) ⟨ds, B1, q1, x1, walk_tup ha.1 ra⟩⟩
def dRng1 (a : AT) : AT := fun xq ρ P => a xq ρ fun ds => match ds with
  | [.int j] => (-(2 ^ 62) ≤ j ∧ j < 2 ^ 62) ∧ P (rngD 0 j.toNat)
  | _ => False
def dRng2 (a : AT) : AT := fun xq ρ P => a xq ρ fun ds => match ds with
  | [.int i, .int j] => (-(2 ^ 62) ≤ i ∧ i < 2 ^ 62 ∧ -(2 ^ 62) ≤ j ∧ j < 2 ^ 62) ∧ P (rngD i (j - i).toNat)
  | _ => False
def dRng3 (a : AT) : AT := fun xq ρ P => a xq ρ fun ds => match ds with
  | [.int i, .int j, .int c] => ∃ n, RgC i j c n ∧ P (rngC i c n)
  | _ => False
theorem di_rng1 {a : Expr} {ta : AT} {p pos : Pos} (hg : Gl X "range") (hm : X.mg "range" = none) (ha : DA X A [a] ta) (hs : starEach [a] X.env = [(false, eval a X.env)] := by rfl) : DI X A tg (.Call (.Name "range" p) [a] [] pos) (dRng1 ta) := ⟨fun {xq σ B H ρ P} g q => by
  refine PIw (pi_range1 hg hm (paW _) hs) ((ha.run g q).mono fun vs H1 ⟨ds, B1, q1, x1, r, _⟩ => ?_)
  cases r with
  | nil => exact False.elim q1
  | cons r1 r2 =>
    cases r2 with
    | cons _ _ => cases r1 <;> exact False.elim q1
    | nil =>
      cases r1 <;> first | exact False.elim q1 | skip
      obtain ⟨⟨h1, h2⟩, q1⟩ := q1
      exact ⟨_, rfl, h1, h2, _, B1, q1, x1, walk_rng 0 _⟩⟩
theorem di_rng2 {a b : Expr} {ta : AT} {p pos : Pos} (hg : Gl X "range") (hm : X.mg "range" = none) (ha : DA X A [a, b] ta) (hs : starEach [a, b] X.env = [(false, eval a X.env), (false, eval b X.env)] := by rfl) (hs2 : starEach [b] X.env = [(false, eval b X.env)] := by rfl) :
    DI X A tg (.Call (.Name "range" p) [a, b] [] pos) (dRng2 ta) := ⟨fun {xq σ B H ρ P} g q => by
  refine PIw (pi_range2 hg hm (paW _) hs hs2) ((ha.run g q).mono fun vs H1 ⟨ds, B1, q1, x1, r, _⟩ => ?_)
  cases r with
  | nil => exact False.elim q1
  | cons r1 r2 =>
    cases r2 with
    | nil => cases r1 <;> exact False.elim q1
    | cons r2 r3 =>
      cases r3 with
      | cons _ _ => cases r1 <;> cases r2 <;> exact False.elim q1
      | nil =>
        cases r1 <;> cases r2 <;> first | exact False.elim q1 | skip
        obtain ⟨h1, q1⟩ := q1
        exact ⟨_, _, rfl, h1, _, B1, q1, x1, walk_rng _ _⟩⟩

/-! ### targets -/
inductive Tg where
  | nm (i : Nat)
  | tp (is : List Nat)
def gNames : List Nat → TGs
  | [] => gNil
  | i :: is => gCons (gName i) (gNames is)
def Tg.g (K : PySem.W.Frag) : Tg → TG
  | .nm i => gName i
  | .tp is => gTup K is.length (gNames is)
def Tg.slots : Tg → List Nat
  | .nm i => [i]
  | .tp is => is
def setAll : List Nat → List PyData → List EV → List EV
  | i :: is, d :: ds, ρ => setAll is ds (ρ.set i (.d d))
  | _, _, ρ => ρ
def Tg.d : Tg → PyData → List EV → (List EV → Prop) → Prop
  | .nm i, x, ρ, P => P (ρ.set i (.d x))
  | .tp is, .tuple ds, ρ, P => ds.length = is.length ∧ P (setAll is ds ρ)
  | .tp _, _, _, _ => False
theorem wipe_len (σ : St) (vs : List Nat) : (wipe σ vs).length = σ.length := wipe_length σ vs
theorem wipe_get {σ : St} {i : Nat} : ∀ {vs : List Nat}, i ∈ vs → i < σ.length → (wipe σ vs)[i]? = some none
  | v :: vs, h, hl => by
    unfold wipe
    by_cases e : v = i
    · subst e
      rw [List.getElem?_set_self (by rw [wipe_length]; exact hl)]
    · rw [List.getElem?_set_ne e]
      exact wipe_get ((List.mem_cons.mp h).resolve_left fun z => e z.symm) hl
theorem wipe_set {σ : St} {i : Nat} {v : Option V} {vs : List Nat} (h : i ∈ vs) : wipe (σ.set i v) vs = wipe σ vs := by
  apply List.ext_getElem?
  intro j
  by_cases hj : j < σ.length
  · by_cases hm : j ∈ vs
    · rw [wipe_get hm (by rw [List.length_set]; exact hj), wipe_get hm hj]
    · rw [wipe_out hm, wipe_out hm, List.getElem?_set_ne (fun e => hm (by rw [← e]; exact h))]
  · rw [List.getElem?_eq_none (by rw [wipe_length, List.length_set]; omega), List.getElem?_eq_none (by rw [wipe_length]; omega)]
theorem gNames_run {H0 B H : Hp} {vs : List Nat} {Q : List EV → Prop} : ∀ {is : List Nat} {σ : St} {ρ : List EV} {xs : List V} {ds : List PyData}, EnvOk X.K A.c H0 B H σ ρ → Rps X.K A.c B xs ds → ds.length = is.length → (∀ i ∈ is, i ∈ vs) → Q (setAll is ds ρ) →
    gNames is xs σ H fun σ2 H2 => H2 = H ∧ ∃ ρ2, Q ρ2 ∧ EnvOk X.K A.c H0 B H σ2 ρ2 ∧ wipe σ2 vs = wipe σ vs
  | [], σ, ρ, _, [], en, .nil, _, _, q => ⟨rfl, rfl, ρ, q, en, rfl⟩
  | i :: is, σ, ρ, _, d :: ds, en, .cons (v := v) (vs := ws) a r, hl, hv, q => by
    refine ⟨v, ws, rfl, ?_⟩
    have h := gNames_run (vs := vs) (is := is) (σ := σ.set i (some v)) (ρ := ρ.set i (.d d)) (en.setD i a) r (by simpa using hl) (fun j hj => hv j (List.mem_cons_of_mem _ hj)) q
    have e := wipe_set (σ := σ) (v := some v) (hv i List.mem_cons_self)
    rw [e] at h
    exact h
theorem Tg.run (t : Tg) {H0 B H : Hp} {σ : St} {ρ : List EV} {v : V} {d : PyData} {vs : List Nat} {Q : List EV → Prop} (en : EnvOk X.K A.c H0 B H σ ρ) (sh : Same B H) (r : Rp X.K A.c B v d) (hv : ∀ i ∈ t.slots, i ∈ vs) (q : t.d d ρ Q) :
    t.g X.K v σ H fun σ2 H2 => H2 = H ∧ ∃ ρ2, Q ρ2 ∧ EnvOk X.K A.c H0 B H σ2 ρ2 ∧ wipe σ2 vs = wipe σ vs := by
  cases t with
  | nm i => exact ⟨rfl, _, q, en.setD i r, wipe_set (hv i (by simp [Tg.slots]))⟩
  | tp is =>
    cases r <;> first | exact False.elim q | skip
    rename_i a xs ds ha ra
    exact ⟨a, xs, rfl, same_seqX sh ha, by rw [ra.length]; exact q.1, gNames_run en ra q.1 hv q.2⟩
theorem gNames_mono {R R' : L2.St → Hp → Prop} (m : ∀ a b, R a b → R' a b) : ∀ (is : List Nat) (xs : List V) (σ : L2.St) (H : Hp), gNames is xs σ H R → gNames is xs σ H R'
  | [], _, _, _, h => ⟨h.1, m _ _ h.2⟩
  | _ :: js, _, _, _, ⟨v, r, e, h⟩ => ⟨v, r, e, gNames_mono m js _ _ _ h⟩
theorem Tg.mono (t : Tg) {R R' : L2.St → Hp → Prop} {K : PySem.W.Frag} {v : V} {σ : L2.St} {H : Hp} (h : t.g K v σ H R) (m : ∀ a b, R a b → R' a b) : t.g K v σ H R' := by
  cases t with
  | nm i => exact m _ _ h
  | tp is =>
    obtain ⟨a, xs, e1, e2, e3, h⟩ := h
    exact ⟨a, xs, e1, e2, e3, gNames_mono m _ _ _ _ h⟩
theorem dg_name {x : Str} {pos : Pos} (i : Nat) (hN : X.N.Nodup) (hi : X.N[i]? = some x := by rfl) (hx : Loc X.env.scope x := by first | exact Or.inl rfl | exact Or.inr rfl) (hf : X.fn x = true ∨ X.env.scope.names.lookup x = some .local := by first | exact .inl rfl | exact .inr rfl) :
    PG X (.Name x pos) ((Tg.nm i).g X.K) := pg_name hN hi hx hf
theorem dg_tup {es : List Expr} {k : Nat} {pos : Pos} (is : List Nat) (hc : X.calm = true) (h : PGs X es (gNames is)) (hn : (assignEach es X.env).length = is.length := by rfl) (hst : (assignEach es X.env).findIdx? (·.1) = none := by rfl) : PG X (.Tuple es k pos) ((Tg.tp is).g X.K) := pg_tup hc h hn hst
theorem dgs_nil : PGs X [] (gNames []) := pgs_nil
theorem dgs_cons {e : Expr} {es : List Expr} {i : Nat} {is : List Nat} (h1 : PG X e (gName i)) (h2 : PGs X es (gNames is)) (hs : (assignEach (e :: es) X.env).map (·.2) = assign e X.env :: (assignEach es X.env).map (·.2) := by rfl) : PGs X (e :: es) (gNames (i :: is)) := pgs_cons h1 h2 hs

/-! ### comprehensions -/
def Act.blk (A : Act) : Act := { A with E := E0 }
def nxq : XQ := fun _ _ => False
/-- the list of a comprehension -/
def lcD (g : PyData → (List EV → Prop) → Prop) (t : List EV → (Bool → Prop) → Prop) (f : List EV → (PyData → Prop) → Prop) : List PyData → (List PyData → Prop) → Prop
  | [], P => P []
  | x :: xs, P => g x fun ρ => t ρ fun b => if b = true then f ρ fun y => lcD g t f xs fun ys => P (y :: ys) else lcD g t f xs P
def wipeD (ρ : List EV) : List Nat → List EV
  | [] => ρ
  | v :: vs => (wipeD ρ vs).set v .un
theorem wipeD_ok {K : PySem.W.Frag} {c : Dc} {H0 B H : Hp} {σ : St} {ρ : List EV} (en : EnvOk K c H0 B H σ ρ) : ∀ vs : List Nat, EnvOk K c H0 B H (wipe σ vs) (wipeD ρ vs)
  | [] => en
  | v :: vs => (wipeD_ok en vs).setUn v none
/-- own lists are not read within -/
def dLc (i : AT) (g : Tg) (t : TTd) (f : ET) (vs : List Nat) : ET := fun xq ρ P => i xq ρ fun ds => ds.length ≤ 100000 ∧ lcD (fun x => g.d x (wipeD ρ vs)) (t nxq) (f nxq) ds fun ys => P (.list ys)
def dYes : TTd := fun _ _ P => P true
structure DTs (X : Cx) (A : Act) (ifs : List Expr) (t : TTd) : Prop where
  run : ∀ {xq σ B H ρ P}, Cfg X A xq σ B H ρ → t xq ρ P → ∃ tt : TT, PTs X ifs tt ∧ tt σ H (TPost X A B H P)
def wTs (X : Cx) (ifs : List Expr) : TT := fun σ H Q => ∃ tt : TT, PTs X ifs tt ∧ tt σ H Q
theorem ptsW (ifs : List Expr) : PTs X ifs (wTs X ifs) := ⟨fun pins s σ H Q I ⟨tt, h, q⟩ => h.run pins s σ H Q I q⟩
theorem dts_nil : DTs X A [] dYes := ⟨fun {xq σ B H ρ P} g q => ⟨_, pts_nil, B, q, g.ok.refl⟩⟩
theorem dts_one {c : Expr} {t : TTd} (h : DT X A c t) : DTs X A [c] t := ⟨fun g q => ⟨_, pts_one (ptW c), h.run g q⟩⟩
theorem dts_w {ifs : List Expr} {t : TTd} (h : DTs X A ifs t) {xq σ B H ρ P} (g : Cfg X A xq σ B H ρ) (q : t xq ρ P) : wTs X ifs σ H (TPost X A B H P) := h.run g q

abbrev Blk (X : Cx) (s : Shared) (H : Hp) (scope : Scope) (cl : List (Str × Addr)) (C : Addr) (fp : List Addr) : Cx := X.blk s H scope (compEnvC scope cl C X.env) fp
/-- the readings over all blocks -/
def bE (X : Cx) (scope : Scope) (e : Expr) : TE := fun σ H Q => ∀ s H' C cl fp, wE (Blk X s H' scope cl C fp) e σ H Q
def bT (X : Cx) (scope : Scope) (e : List Expr) : TT := fun σ H Q => ∀ s H' C cl fp, wTs (Blk X s H' scope cl C fp) e σ H Q
theorem EnvOk.ofWipe {K : PySem.W.Frag} {c : Dc} {H0 B H : Hp} {σ σ2 : St} {ρ : List EV} (en : EnvOk K c H0 B H σ ρ) (e : σ2 = σ) : EnvOk K c H0 B H σ2 ρ := e ▸ en

/-- a new list that is nobody's yet -/
def LPost (X : Cx) (A : Act) (B H : Hp) (P : List PyData → Prop) : VK := fun v H' => ∃ ys B' p vs, P ys ∧ v = .ref p ∧ Ex X.K A.c B H B' H' ∧ Fre H p ∧ B' p = none ∧ H' p = some (.lst vs) ∧ Rps X.K A.c B' vs ys
theorem LPost.e {B H : Hp} (o : Ok X.K A.c B H) {P : List PyData → Prop} {Q : PyData → Prop} {v : V} {H' : Hp} (m : ∀ ys, P ys → Q (.list ys)) (h : LPost X A B H P v H') : EPost X A B H Q v H' := by
  obtain ⟨ys, B', p, vs, q, rfl, x, hp, bp, h2, r⟩ := h
  have pst : p ≠ A.c.st := fun z => by rw [z] at hp; exact o.wd.nfre hp
  refine ⟨.list ys, upd B' p (.lst vs), m _ q, ⟨fun a o q => ?_, fun a o q => ?_, x.fr, fun a n => ?_, ?_, x.wd, x.sl, fun a ps q => ?_⟩, .lst upd_same (r.mono fun a o q => by rw [upd_ne (fun z => by rw [z, bp] at q; cases q)]; exact q)⟩
  · have q2' := x.sb a o q
    rw [upd_ne (fun z => by rw [z, bp] at q2'; cases q2')]; exact q2'
  · by_cases z : a = p
    · rw [z, upd_same] at q; cases q; rw [z]; exact h2
    · rw [upd_ne z] at q; exact x.sh a o q
  · rw [upd_ne (fun z => by rw [z] at n; exact n hp)]; exact x.nw a n
  · rw [upd_ne pst.symm]; exact x.st
  · by_cases z : a = p
    · rw [z, upd_same] at q; cases q
    · rw [upd_ne z] at q; exact x.nt a ps q
theorem lc_read {elt tg' iter : Expr} {ifs : List Expr} {scope : Scope} {own : List (Str × Nat)} {i : AT} {t : TTd} {f : ET} (tg : Tg) (hc : X.calm = true) (hN : X.N.Nodup) (hi : DI X A tg' iter i) (ok : BlkOk X.N X.env.scope scope own)
    (hg : ∀ (s : Shared) (H : Hp) (C : Addr) (cl : List (Str × Addr)) (fp : List Addr), PG (Blk X s H scope cl C fp) tg' (tg.g X.K))
    (ht : ∀ (s : Shared) (H : Hp) (C : Addr) (cl : List (Str × Addr)) (fp : List Addr), DTs (Blk X s H scope cl C fp) A.blk ifs t)
    (he : ∀ (s : Shared) (H : Hp) (C : Addr) (cl : List (Str × Addr)) (fp : List Addr), DE (Blk X s H scope cl C fp) A.blk elt f)
    (hv : ∀ j ∈ tg.slots, j ∈ own.map (·.2) := by decide) (hs : ∀ x, foldedSetIterable iter X.env x = pure x := by intro _; rfl)
    {xq : XQ} {σ : St} {B H : Hp} {ρ : List EV} {P : List PyData → Prop} (gf : Cfg X A xq σ B H ρ) (h : i xq ρ fun ds => ds.length ≤ 100000 ∧ lcD (fun x => tg.d x (wipeD ρ (own.map (·.2)))) (t nxq) (f nxq) ds P) {Q : VK} (hQ : ∀ v H', LPost X A B H P v H' → Q v H') :
    tLc (wI X tg' iter) (tg.g X.K) (bT X scope ifs) (bE X scope elt) (own.map (·.2)) σ H Q := by
  refine (hi.run gf h).mono fun J H1 ⟨ds, B1, ⟨hz, hl⟩, x1, wk⟩ => ?_
  intro D hD
  have o1 := x1.ok
  refine ⟨fun i m H' => m = ds.length - i ∧ i ≤ ds.length ∧ ∃ B' acc as, Ex X.K A.c B1 H1 B' H' ∧ H' D = some (.lst acc) ∧ B' D = none ∧ Rps X.K A.c B' acc as ∧ as.length ≤ i ∧
      lcD (fun x => tg.d x (wipeD ρ (own.map (·.2)))) (t nxq) (f nxq) (ds.drop i) fun ys => P (as ++ ys),
    ⟨ds.length, by omega, Nat.zero_le _, B1, [], [], o1.newOwn hD, upd_same, ?_, .nil, Nat.le_refl _, by simpa using hl⟩, ?_⟩
  · cases q : B1 D with
    | none => rfl
    | some u => rw [o1.sh _ _ q] at hD; cases hD
  rintro i m H2 ⟨rfl, hi2, B2, acc, as, x2, hD2, bD2, r2, la, q2⟩
  have dst : D ≠ A.c.st := fun z => by rw [z] at hD; exact o1.wd.ne hD
  by_cases hlt : i < ds.length
  · refine .inr ⟨wk.go i B2 H2 x2.sb x2.ok hlt, fun H' => i + 1 ≤ ds.length ∧ ∃ B' acc as, Ex X.K A.c B1 H1 B' H' ∧ H' D = some (.lst acc) ∧ B' D = none ∧ Rps X.K A.c B' acc as ∧ as.length ≤ i + 1 ∧
      lcD (fun x => tg.d x (wipeD ρ (own.map (·.2)))) (t nxq) (f nxq) (ds.drop (i + 1)) fun ys => P (as ++ ys), fun H' hN' => ⟨ds.length - (i + 1), by omega, rfl, hN'⟩, fun x H3 y => ?_⟩
    obtain ⟨B3, d, x3, ed, rd⟩ := wk.yld i B2 H2 x H3 x2.sb x2.ok hlt y
    rw [List.drop_eq_getElem_cons hlt] at q2
    have ed' : ds[i] = d := by rw [List.getElem?_eq_getElem hlt] at ed; exact Option.some.inj ed
    rw [ed'] at q2
    have x03 := (x1.trans x2).trans x3
    have en3 : EnvOk X.K A.c A.H0 B3 H3 (wipe σ (own.map (·.2))) (wipeD ρ (own.map (·.2))) := wipeD_ok (gf.en.step x03) _
    have tr := tg.run (A := A) (vs := own.map (·.2)) en3 x3.sh rd hv q2
    refine tg.mono tr fun σ4 H4 ⟨eH, ρ4, q4, en4, ew⟩ => ?_
    subst eH
    have ew' : wipe σ4 (own.map (·.2)) = wipe σ (own.map (·.2)) := by
      rw [ew]
      apply List.ext_getElem?
      intro j
      by_cases hj : j ∈ own.map (·.2)
      · by_cases hl : j < σ.length
        · rw [wipe_get hj (by rw [wipe_length]; exact hl), wipe_get hj hl]
        · rw [List.getElem?_eq_none (by rw [wipe_length, wipe_length]; omega), List.getElem?_eq_none (by rw [wipe_length]; omega)]
      · rw [wipe_out hj]
    refine ⟨ew', fun s Hb C cl fp => ?_⟩
    have ex4 : Ex X.K A.c A.B0 A.H0 B3 H4 := gf.ex.trans x03
    have cfg4 : Cfg (Blk X s Hb scope cl C fp) A.blk nxq σ4 B3 H4 ρ4 := ⟨⟨fun _ _ z => z.elim, gf.hx.hall⟩, ex4, en4⟩
    obtain ⟨tt, ptt, qt⟩ := dts_w (ht s Hb C cl fp) cfg4 q4
    refine ⟨fun σ H Q => ∃ R, tt σ H R ∧ ∀ b H', R b H' → Q b H', ⟨fun pins s' σ H Q I ⟨R, a, b⟩ => thn (ptt.run pins s' σ H R I a) fun u s2 ⟨H', I', q⟩ => ⟨H', I', b _ _ q⟩⟩, _, qt, fun b H5 ⟨B5, q5, x5⟩ => ?_⟩
    have x25 := x2.trans (x3.trans x5)
    have hD5 : H5 D = some (.lst acc) := (x3.trans x5).fr D _ dst hD2 nofun
    have bD5 : B5 D = none := by rw [(x3.trans x5).nw D (fun f => f.no hD2 nofun), bD2]
    cases b with
    | false =>
      simp only [Bool.false_eq_true, if_false] at q5
      refine iteF ?_
      exact ⟨by omega, B5, acc, as, x25, hD5, bD5, r2.mono (x3.trans x5).sb, by omega, q5⟩
    | true =>
      simp only [if_true] at q5
      refine iteT ?_
      intro s' Hb' C' cl' fp'
      have cfg5 : Cfg (Blk X s' Hb' scope cl' C' fp') A.blk nxq σ4 B5 H5 ρ4 := ⟨⟨fun _ _ z => z.elim, gf.hx.hall⟩, ex4.trans x5, en4.step x5⟩
      refine ((he s' Hb' C' cl' fp').run cfg5 q5).mono fun w H6 ⟨d6, B6, q6, x6, r6⟩ => ?_
      have hD6 : H6 D = some (.lst acc) := x6.fr D _ dst hD5 nofun
      have bD6 : B6 D = none := by rw [x6.nw D (fun f => f.no hD5 nofun), bD5]
      refine ⟨acc, hD6, small_line (by rw [r2.length]; omega), by omega, B6, acc ++ [w], as ++ [d6], ?_, upd_same, bD6, (r2.mono ((x3.trans x5).trans x6).sb).append (.cons r6 .nil), ?_, ?_⟩
      · exact (x25.trans x6).setL hD6 bD6 dst (.of hD)
      · rw [List.length_append, List.length_singleton]; omega
      · simpa [List.append_assoc] using q6
  · have e : i = ds.length := by omega
    subst e
    rw [List.drop_length] at q2
    refine .inl ⟨wk.stop _ B2 H2 x2.sb x2.ok (Nat.le_refl _), hQ _ _ ⟨as, B2, D, acc, by simpa [lcD] using q2, rfl, x1.trans x2, x1.free (.of hD), bD2, hD2, r2⟩⟩
theorem bE_pe {scope : Scope} {elt : Expr} (s : Shared) (H : Hp) (C : Addr) (cl : List (Str × Addr)) (fp : List Addr) : PE (Blk X s H scope cl C fp) elt (bE X scope elt) := ⟨fun pins s' σ H' Q I q => q s H C cl fp pins s' I⟩
theorem bT_pt {scope : Scope} {ifs : List Expr} (s : Shared) (H : Hp) (C : Addr) (cl : List (Str × Addr)) (fp : List Addr) : PTs (Blk X s H scope cl C fp) ifs (bT X scope ifs) := ⟨fun pins s' σ H' Q I q => (ptsW ifs).run pins s' σ H' Q I (q s H C cl fp)⟩
theorem de_lc {elt tg' iter : Expr} {ifs : List Expr} {scope : Scope} {own : List (Str × Nat)} {pos : Pos} {i : AT} {t : TTd} {f : ET} (tg : Tg) (hc : X.calm = true) (hN : X.N.Nodup) (hi : DI X A tg' iter i) (ok : BlkOk X.N X.env.scope scope own)
    (hg : ∀ (s : Shared) (H : Hp) (C : Addr) (cl : List (Str × Addr)) (fp : List Addr), PG (Blk X s H scope cl C fp) tg' (tg.g X.K))
    (ht : ∀ (s : Shared) (H : Hp) (C : Addr) (cl : List (Str × Addr)) (fp : List Addr), DTs (Blk X s H scope cl C fp) A.blk ifs t)
    (he : ∀ (s : Shared) (H : Hp) (C : Addr) (cl : List (Str × Addr)) (fp : List Addr), DE (Blk X s H scope cl C fp) A.blk elt f)
    (hv : ∀ j ∈ tg.slots, j ∈ own.map (·.2) := by decide) (hs : ∀ x, foldedSetIterable iter X.env x = pure x := by intro _; rfl) :
    DE X A (.ListComp elt [⟨tg', iter, ifs, 0⟩] scope pos) (dLc i tg t f (own.map (·.2))) := ⟨fun {xq σ B H ρ P} gf h =>
  PEw (pe_lc (wi := wI X tg' iter) (tt := bT X scope ifs) (te := bE X scope elt) hc hN (piW iter) ok hg bT_pt bE_pe hs) (lc_read tg hc hN hi ok hg ht he hv hs gf h fun v H' q => q.e gf.ok fun _ z => z)⟩
end
end DL

/-! DL4b: enumerate. -/
namespace DL
open PySem PySem.Spec L2
variable {X : Cx} {A : Act}
def enumL : Nat → List PyData → List PyData
  | _, [] => []
  | i, d :: ds => .tuple [.int (i : Nat), d] :: enumL (i + 1) ds
theorem enumL_len : ∀ (i : Nat) (ds : List PyData), (enumL i ds).length = ds.length
  | _, [] => rfl
  | i, d :: ds => congrArg (· + 1) (enumL_len (i + 1) ds)
theorem enumL_get : ∀ (k : Nat) (ds : List PyData) (i : Nat), (enumL k ds)[i]? = ds[i]?.map fun d => .tuple [.int ((k + i : Nat) : Int), d]
  | _, [], _ => rfl
  | k, d :: ds, 0 => rfl
  | k, d :: ds, i + 1 => by
    show (enumL (k + 1) ds)[i]? = ds[i]?.map _
    rw [enumL_get (k + 1) ds i]
    have : k + 1 + i = k + (i + 1) := by omega
    rw [this]
theorem walk_enum {B1 : Hp} {a : Addr} {xs : List V} {ds : List PyData} (ha : B1 a = some (.lst xs)) (r : Rps X.K A.c B1 xs ds) : Walk X A (Ite X.K a) (enumL 0 ds) B1 where
  go := fun i B H sb o hi => by
    rw [enumL_len] at hi
    obtain ⟨v, e, _⟩ := r.get (List.getElem?_eq_getElem hi)
    exact ⟨xs, v, SqL.of (o.sh _ _ (sb _ _ ha)), e⟩
  yld := fun i B H x H' sb o hi y => by
    rw [enumL_len] at hi
    obtain ⟨T, v, rfl, hT, rfl, y⟩ := y
    obtain ⟨w, e, q⟩ := r.get (List.getElem?_eq_getElem hi)
    have := (y xs (SqL.of (o.sh _ _ (sb _ _ ha)))).symm.trans e
    cases this
    refine ⟨_, _, o.new hT, ?_, o.tup hT (.cons (.int _) (.cons (q.mono sb) .nil))⟩
    rw [enumL_get, List.getElem?_eq_getElem hi]
    simp
  stop := fun i B H sb o hi => ⟨xs, SqL.of (o.sh _ _ (sb _ _ ha)), by rw [r.length]; rw [enumL_len] at hi; exact hi⟩
theorem walk_enumT {B1 : Hp} {a : Addr} {xs : List V} {ds : List PyData} (ha : SqT X.K B1 a xs) (r : Rps X.K A.c B1 xs ds) : Walk X A (ItT X.K a) (enumL 0 ds) B1 where
  go := fun i B H sb o hi => by
    rw [enumL_len] at hi
    obtain ⟨v, e, _⟩ := r.get (List.getElem?_eq_getElem hi)
    exact ⟨xs, v, same_seqT o.sh (same_seqT sb ha), e⟩
  yld := fun i B H x H' sb o hi y => by
    rw [enumL_len] at hi
    obtain ⟨T, v, rfl, hT, rfl, y⟩ := y
    obtain ⟨w, e, q⟩ := r.get (List.getElem?_eq_getElem hi)
    have := (y xs (same_seqT o.sh (same_seqT sb ha))).symm.trans e
    cases this
    refine ⟨_, _, o.new hT, ?_, o.tup hT (.cons (.int _) (.cons (q.mono sb) .nil))⟩
    rw [enumL_get, List.getElem?_eq_getElem hi]
    simp
  stop := fun i B H sb o hi => ⟨xs, same_seqT o.sh (same_seqT sb ha), by rw [r.length]; rw [enumL_len] at hi; exact hi⟩
def dEnum (t : ET) : AT := fun xq ρ P => t xq ρ fun d => match d with
  | .list ds => P (enumL 0 ds)
  | .tuple ds => P (enumL 0 ds)
  | _ => False
theorem di_enum {e : Expr} {t : ET} {p pos tpos : Pos} {elts : List Expr} {kk : Nat} (hg : Gl X "enumerate") (hm : X.mg "enumerate" = none) (h : DE X A e t) (hs : starEach [e] X.env = [(false, eval e X.env)] := by rfl) : DI X A (.Tuple elts kk tpos) (.Call (.Name "enumerate" p) [e] [] pos) (dEnum t) := ⟨fun {xq σ B H ρ P} g q => by
  refine PIw (pi_enumA hg hm (pa_cons (peW e) pa_nil hs) hs) ((h.run g q).mono fun v H1 ⟨d, B1, q1, x1, r⟩ => ?_)
  cases r with
  | lst ha ra => exact ⟨_, _, rfl, .inl ⟨SqL.of (x1.sh _ _ ha), _, B1, q1, x1, walk_enum ha ra⟩⟩
  | tup ha ra => exact ⟨_, _, rfl, .inr ⟨same_seqX x1.sh ha, _, B1, q1, x1, walk_enumT ha.1 ra⟩⟩
  | _ => exact False.elim q1⟩
end DL

/-! DL5: statements, calls, defs. -/
namespace DL
open PySem PySem.Spec L2

/-! ### own lists seen as data -/
mutual
def flat : PyData → Bool
  | .list _ => false
  | .dict (_ :: _) => false
  | .tuple ds => flatAll ds
  | _ => true
def flatAll : List PyData → Bool
  | [] => true
  | d :: ds => flat d && flatAll ds
end
def frz (ρ : List EV) : List EV := ρ.map fun e => match e with
  | .own ds => .d (.list ds)
  | .deep _ ds => .d (.list ds)
  | .dic kvs => .d (dicD kvs)
  | .hall net feed kvs => .d (hallD net feed kvs)
  | e => e
/-- what may be one's own -/
def Sft : HO → Prop
  | .lst _ => True
  | .dT _ => True
  | .ins _ _ _ => True
  | .own _ => True
  | _ => False
/-- what B⁺ holds beyond B: own lists, own dicts, own halls -/
structure Over (B Bp H : Hp) : Prop where
  sb : Same B Bp
  more : ∀ a, Bp a = B a ∨ (B a = none ∧ ∃ u, Bp a = some u ∧ H a = some u ∧ Sft u)
theorem Ow.rp {K : PySem.W.Frag} {c : Dc} {B H Bp : Hp} (sb : Same B Bp) : ∀ {n : Nat} {v : V} {d : PyData} {F : Addr → Prop}, (∀ a vs, F a → H a = some (.lst vs) → Bp a = some (.lst vs)) → Ow K c B H n v d F → Rp K c Bp v d
  | 0, _, _, _, _, h => Rp.mono sb h
  | n + 1, _, _, F, k, ⟨o, vs, ds, e1, e2, h1, h2, hl, g, h3, h4, h5⟩ => by
    subst e1 e2
    refine .lst (k o vs h2 h1) ?_
    have all : ∀ (m : Nat) (vs : List V) (ds : List PyData), vs.length = ds.length → (∀ (i : Nat) (v : V) (d : PyData), vs[i]? = some v → ds[i]? = some d → Rp K c Bp v d) → Rps K c Bp vs ds := by
      intro _ vs
      induction vs with
      | nil =>
        intro ds hl _
        cases ds with
        | nil => exact .nil
        | cons _ _ => cases hl
      | cons v vs ih =>
        intro ds hl h
        cases ds with
        | nil => cases hl
        | cons d ds => exact .cons (h 0 v d rfl rfl) (ih ds (by simpa using hl) fun i v d a b => h (i + 1) v d (by simpa using a) (by simpa using b))
    exact all 0 vs ds hl fun i v d a b => (h3 i v d a b).rp sb fun a vs z q => k a vs (h4 i a z).1 q
section
variable {X : Cx} {A : Act} {xq : XQ} {σ : L2.St} {B Bp H Bp' H' : Hp} {ρ : List EV}
/-- what becomes data -/
def Soft : EV → Prop
  | .own _ => True
  | .deep _ _ => True
  | .dic _ => True
  | .hall _ _ _ => True
  | _ => False
theorem frz_cfg (g : Cfg X A xq σ B H ρ) : ∃ Bp, Cfg X A xq σ Bp H (frz ρ) ∧ Over B Bp H := by
  classical
  obtain ⟨fp, f1, f2, f3⟩ := g.en.ex
  let isOwn : Addr → Prop := fun a => (∃ (i : Nat) (e : EV), ρ[i]? = some e ∧ Soft e ∧ fp i a) ∧ ∃ u, H a = some u ∧ Sft u
  have own_of : ∀ a, isOwn a → Fr A.c A.H0 B H a := fun a ⟨⟨i, e, h1, h2, h3⟩, _⟩ => f2 i a h3
  let Bp : Hp := fun a => if isOwn a then H a else B a
  have bo : ∀ a, isOwn a → Bp a = H a := fun a h => if_pos h
  have bn : ∀ a, ¬ isOwn a → Bp a = B a := fun a h => if_neg h
  have sb : Same B Bp := fun a o q => by
    by_cases h : isOwn a
    · rw [(own_of a h).nb] at q; cases q
    · rw [bn a h]; exact q
  have at_ : ∀ i e, ρ[i]? = some e → Soft e → ∀ a u, fp i a → H a = some u → Sft u → Bp a = some u := fun i e he hs a u z q f => by rw [bo a ⟨⟨i, e, he, hs, z⟩, u, q, f⟩]; exact q
  refine ⟨Bp, ⟨g.hx, ⟨g.ex.sb.trans sb, fun a o q => ?_, g.ex.fr, fun a n => ?_, ?_, g.ex.wd, g.ex.sl, fun a ps q => ?_⟩, ⟨by rw [g.en.len, frz, List.length_map], fun i a => fp i a ∧ (∀ e, ρ[i]? = some e → ¬ Soft e), fun i s e hs he => ?_, fun i a z => ?_, fun i j a p q => f3 i j a p.1 q.1⟩⟩, sb, fun a => ?_⟩
  · by_cases h : isOwn a
    · rw [bo a h] at q; exact q
    · rw [bn a h] at q; exact g.ex.sh a o q
  · by_cases h : isOwn a
    · exact absurd (own_of a h).n0 n
    · rw [bn a h]; exact g.ex.nw a n
  · by_cases h : isOwn A.c.st
    · exact absurd rfl (own_of _ h).nst
    · rw [bn _ h]; exact g.ex.st
  · by_cases h : isOwn a
    · rw [bo a h] at q
      obtain ⟨_, u, z, f⟩ := h
      rw [z] at q; cases q
      exact f
    · rw [bn a h] at q; exact g.ex.nt a ps q
  · unfold frz at he
    rw [List.getElem?_map] at he
    obtain ⟨e', h1, h2⟩ := Option.map_eq_some_iff.mp he
    have z := f1 i s e' hs h1
    cases e' with
    | un => cases h2; trivial
    | d x => cases h2; obtain ⟨v, ev, r⟩ := z; exact ⟨v, ev, r.mono sb⟩
    | own ds =>
      cases h2
      obtain ⟨o, vs, e2, q1, q2, q5⟩ := z
      exact ⟨.ref o, e2, .lst (at_ i _ h1 trivial o _ q2 q1 trivial) (q5.mono sb)⟩
    | deep n ds =>
      cases h2
      obtain ⟨v, e2, h⟩ := z
      exact ⟨v, e2, h.rp sb fun a vs z q => at_ i _ h1 trivial a _ z q trivial⟩
    | dic kvs =>
      cases h2
      obtain ⟨o, kv, e2, q1, q2, q5⟩ := z
      exact ⟨.ref o, e2, .dic (at_ i _ h1 trivial o _ q2 q1 trivial) (q5.mono sb)⟩
    | hall net feed kvs =>
      cases h2
      obtain ⟨o, dx, dd, v1, v2, kv, e2, q1, q2, q3, g1, g2, g3, r1, r2, r3⟩ := z
      exact ⟨.ref o, e2, .hall (at_ i _ h1 trivial o _ g1 q1 trivial) (at_ i _ h1 trivial dx _ g2 q2 trivial) (at_ i _ h1 trivial dd _ g3 q3 trivial) (r1.mono sb) (r2.mono sb) (r3.mono sb)⟩
  · have f := f2 i a z.1
    refine ⟨?_, f.nst, f.n0, f.th⟩
    rw [bn a]
    · exact f.nb
    · rintro ⟨⟨j, e, hj, hs, q⟩, _⟩
      have : j = i := f3 j i a q z.1
      subst this
      exact z.2 e hj hs
  · by_cases h : isOwn a
    · refine .inr ⟨(own_of a h).nb, ?_⟩
      obtain ⟨u, z, f⟩ := h.2
      exact ⟨u, by rw [bo a h]; exact z, z, f⟩
    · exact .inl (bn a h)
theorem SqX.keep {K : PySem.W.Frag} {B1 B2 : Hp} {a : Addr} {xs : List V} {ds : List PyData} (m : ∀ a o, B1 a = some o → ¬ Sft o → B2 a = some o) (h : SqX K B1 a xs ds) : SqX K B2 a xs ds := by
  refine ⟨?_, h.2.imp (fun h => m _ _ h (fun z => z)) id⟩
  rcases h.1 with (h | ⟨o, h⟩) | h
  · exact .inl (.inl (m _ _ h fun z => z))
  · exact .inl (.inr ⟨o, m _ _ h fun z => z⟩)
  · exact .inr h
mutual
theorem flat_mono {K : PySem.W.Frag} {c : Dc} {B1 B2 : Hp} (m : ∀ a o, B1 a = some o → ¬ Sft o → B2 a = some o) : ∀ {v : V} {d : PyData}, flat d = true → Rp K c B1 v d → Rp K c B2 v d
  | _, _, _, .non => .non
  | _, _, _, .bl b => .bl b
  | _, _, _, .int i => .int i
  | _, _, _, .str x => .str x
  | _, _, q, .lst h r => nomatch q
  | _, _, q, .tup h r => .tup (h.keep m) (flatAll_mono m q r)
  | _, _, _, .tok => .tok
  | _, _, q, .dic _ _ => nomatch q
  | _, _, q, .hall _ _ _ _ _ _ => nomatch q
theorem flatAll_mono {K : PySem.W.Frag} {c : Dc} {B1 B2 : Hp} (m : ∀ a o, B1 a = some o → ¬ Sft o → B2 a = some o) : ∀ {v : List V} {d : List PyData}, flatAll d = true → Rps K c B1 v d → Rps K c B2 v d
  | _, _, _, .nil => .nil
  | _, _, q, .cons a r => .cons (flat_mono m (Bool.and_eq_true_iff.mp q).1 a) (flatAll_mono m (Bool.and_eq_true_iff.mp q).2 r)
end
/-- back from B⁺ -/
theorem Over.back (o : Over B Bp H) (e : Ex X.K A.c Bp H Bp' H') : ∃ B', Ex X.K A.c B H B' H' ∧ Same B' Bp' ∧ (∀ a, Fre H a → B' a = Bp' a) ∧ (∀ {v d}, flat d = true → Rp X.K A.c Bp' v d → Rp X.K A.c B' v d) ∧ ∀ {v d}, flatAll d = true → Rps X.K A.c Bp' v d → Rps X.K A.c B' v d := by
  classical
  let B' : Hp := fun a => if Bp a = B a then Bp' a else none
  have b1 : ∀ a, Bp a = B a → B' a = Bp' a := fun a h => if_pos h
  have b2 : ∀ a, Bp a ≠ B a → B' a = none := fun a h => if_neg h
  have keep : ∀ a u, Bp' a = some u → ¬ Sft u → B' a = some u := fun a u q n => by
    by_cases h : Bp a = B a
    · rw [b1 a h]; exact q
    · rcases o.more a with z | ⟨_, u', z, _, f⟩
      · exact absurd z h
      · have := e.sb a _ z
        rw [q] at this; cases this
        exact absurd f n
  refine ⟨B', ⟨fun a u q => ?_, fun a u q => ?_, e.fr, fun a n => ?_, ?_, e.wd, e.sl, fun a ps q => ?_⟩, fun a u q => ?_, fun a n => ?_, fun f r => flat_mono keep f r, fun f r => flatAll_mono keep f r⟩
  · have h := o.sb a u q
    rw [b1 a (by rw [h, q])]
    exact e.sb a u h
  · by_cases h : Bp a = B a
    · rw [b1 a h] at q; exact e.sh a u q
    · rw [b2 a h] at q; cases q
  · by_cases h : Bp a = B a
    · rw [b1 a h, e.nw a n, h]
    · rw [b2 a h]
      rcases o.more a with z | ⟨z, _⟩
      · exact absurd z h
      · exact z.symm
  · by_cases h : Bp A.c.st = B A.c.st
    · rw [b1 _ h]; exact e.st
    · exact b2 _ h
  · by_cases h : Bp a = B a
    · rw [b1 a h] at q; exact e.nt a ps q
    · rw [b2 a h] at q; cases q
  · by_cases h : Bp a = B a
    · rw [b1 a h] at q; exact q
    · rw [b2 a h] at q; cases q
  · have h : Bp a = B a := by
      rcases o.more a with z | ⟨_, u, _, z, f⟩
      · exact z
      · exact n.no z fun ps w => by rw [w] at f; exact f
    exact b1 a h
end

/-! ### a reading over data -/
structure RE (X : Cx) (A : Act) (t : TE) (F : ET) : Prop where
  run : ∀ {xq σ B H ρ P}, Cfg X A xq σ B H ρ → F xq ρ P → ∀ {Q : VK}, (∀ v H', EPost X A B H P v H' → Q v H') → t σ H Q
structure RL (X : Cx) (A : Act) (t : TE) (F : AT) : Prop where
  run : ∀ {xq σ B H ρ P}, Cfg X A xq σ B H ρ → F xq ρ P → ∀ {Q : VK}, (∀ v H', LPost X A B H P v H' → Q v H') → t σ H Q
section
variable {X : Cx} {A : Act}
theorem DE.re {e : Expr} {F : ET} (h : DE X A e F) : RE X A (wE X e) F := ⟨fun g q _ m => (h.run g q).mono m⟩
/-- seen with own lists as data; the value flat -/
theorem RE.flat {t : TE} {F : ET} (h : RE X A t F) {xq : XQ} {σ : L2.St} {B H : Hp} {ρ : List EV} {P : PyData → Prop} (g : Cfg X A xq σ B H ρ) (q : F xq (frz ρ) fun d => flat d = true ∧ P d) {Q : VK} (m : ∀ v H', EPost X A B H P v H' → Q v H') : t σ H Q := by
  obtain ⟨Bp, gp, ov⟩ := frz_cfg g
  refine h.run gp q fun v H' ⟨d, Bp', ⟨f, p⟩, x, r⟩ => ?_
  obtain ⟨B', x', _, _, k, _⟩ := ov.back x
  exact m _ _ ⟨d, B', p, x', k f r⟩
/-- seen with own lists as data, from then on -/
theorem RE.frz {t : TE} {F : ET} (h : RE X A t F) {xq : XQ} {σ : L2.St} {B H : Hp} {ρ : List EV} {P : PyData → Prop} (g : Cfg X A xq σ B H ρ) (q : F xq (frz ρ) P) : ∃ Bp, Cfg X A xq σ Bp H (DL.frz ρ) ∧ Same B Bp ∧ ∀ {Q : VK}, (∀ v H', EPost X A Bp H P v H' → Q v H') → t σ H Q := by
  obtain ⟨Bp, gp, ov⟩ := frz_cfg g
  exact ⟨Bp, gp, ov.sb, fun m => h.run gp q m⟩
theorem DT.frz {e : Expr} {F : TTd} (h : DT X A e F) {xq : XQ} {σ : L2.St} {B H : Hp} {ρ : List EV} {P : Bool → Prop} (g : Cfg X A xq σ B H ρ) (q : F xq (frz ρ) P) : wT X e σ H (TPost X A B H P) := by
  obtain ⟨Bp, gp, ov⟩ := frz_cfg g
  refine (h.run gp q).mono fun b H' ⟨Bp', p, x⟩ => ?_
  obtain ⟨B', x', _⟩ := ov.back x
  exact ⟨B', p, x'⟩
end

/-! ### the ends of statements -/
inductive O where
  | ret (d : PyData)
  | retL (ds : List PyData)
  | exc (n : Str) (r : Option PyData)
structure DEnds where
  nx : List EV → Prop
  rt : O → Prop
  bk : List EV → Prop := fun _ => False
  ct : List EV → Prop := fun _ => False
abbrev STd := XQ → List EV → DEnds → Prop
def ORet (X : Cx) (A : Act) (B' H' : Hp) : O → V → Prop
  | .ret d, v => Rp X.K A.c B' v d
  | .retL ds, v => ∃ p vs, v = .ref p ∧ Fre A.H0 p ∧ B' p = none ∧ p ≠ A.c.st ∧ H' p = some (.lst vs) ∧ Rps X.K A.c B' vs ds
  | .exc _ _, _ => False
structure Lnk (X : Cx) (A : Act) (B : Hp) (Dd : DEnds) (D : Ends) : Prop where
  nx : ∀ ρ' σ' B' H', Dd.nx ρ' → Ex X.K A.c A.B0 A.H0 B' H' → Same B B' → EnvOk X.K A.c A.H0 B' H' σ' ρ' → D.nx σ' H'
  rt : ∀ o B' H' v, Dd.rt o → Ex X.K A.c A.B0 A.H0 B' H' → ORet X A B' H' o v → D.rt v H'
  bk : ∀ ρ' σ' B' H', Dd.bk ρ' → Ex X.K A.c A.B0 A.H0 B' H' → Same B B' → EnvOk X.K A.c A.H0 B' H' σ' ρ' → D.bk σ' H'
  ct : ∀ ρ' σ' B' H', Dd.ct ρ' → Ex X.K A.c A.B0 A.H0 B' H' → Same B B' → EnvOk X.K A.c A.H0 B' H' σ' ρ' → D.ct σ' H'
theorem Lnk.up {X : Cx} {A : Act} {B B1 : Hp} {Dd : DEnds} {D : Ends} (l : Lnk X A B Dd D) (s : Same B B1) : Lnk X A B1 Dd D :=
  ⟨fun a b c d e f g h => l.nx a b c d e f (s.trans g) h, l.rt, fun a b c d e f g h => l.bk a b c d e f (s.trans g) h, fun a b c d e f g h => l.ct a b c d e f (s.trans g) h⟩
structure DS (X : Cx) (A : Act) (st : Stmt) (F : STd) : Prop where
  run : ∀ {xq σ B H ρ Dd D}, Cfg X A xq σ B H ρ → F xq ρ Dd → Lnk X A B Dd D → wS X st D σ H
structure DSs (X : Cx) (A : Act) (st : List Stmt) (F : STd) : Prop where
  run : ∀ {xq σ B H ρ Dd D}, Cfg X A xq σ B H ρ → F xq ρ Dd → Lnk X A B Dd D → wSs X st D σ H

section
variable {X : Cx} {A : Act} {st : Stmt} {sts : List Stmt} {F G : STd} {e : Expr} {te : ET} {pos : Pos}
def dSkip : STd := fun _ ρ D => D.nx ρ
def dSeq (a b : STd) : STd := fun xq ρ D => a xq ρ { D with nx := fun ρ' => b xq ρ' D }
theorem dss_nil : DSs X A [] dSkip := ⟨fun {xq σ B H ρ Dd D} g q l => PSsw pss_nil (l.nx ρ σ B H q g.ex (Same.refl B) g.en)⟩
theorem dss_cons (h1 : DS X A st F) (h2 : DSs X A sts G) : DSs X A (st :: sts) (dSeq F G) := ⟨fun {xq σ B H ρ Dd D} g q l =>
  PSsw (pss_cons (psW st) (pssW sts)) (h1.run g q ⟨fun ρ' σ' B' H' qn x sb en => h2.run ⟨g.hx, x, en⟩ qn (l.up sb), l.rt, l.bk, l.ct⟩)⟩
theorem dss_one (h1 : DS X A st F) : DSs X A [st] F := ⟨fun {xq σ B H ρ Dd D} g q l => PSsw (pss_one (psW st)) (h1.run g q l)⟩
theorem ds_pass : DS X A (.Pass pos) dSkip := ⟨fun {xq σ B H ρ Dd D} g q l => PSw ps_pass (l.nx ρ σ B H q g.ex (Same.refl B) g.en)⟩
def dNever : STd := fun _ _ _ => False
theorem ds_never : DS X A st dNever := ⟨fun _ q _ => q.elim⟩
/-- an expression whose value is dropped -/
def dDrop (t : ET) : STd := fun xq ρ D => t xq (frz ρ) fun _ => D.nx ρ
theorem ds_expr (h : DE X A e te) (hs : swapsWith e none pos.line X.env = pure false := by rfl) : DS X A (.Expr e pos) (dDrop te) := ⟨fun {xq σ B H ρ Dd D} g q l => by
  obtain ⟨Bp, gp, ov⟩ := frz_cfg g
  refine PSw (ps_expr (peW e) hs) ((h.run gp q).mono fun v H' ⟨d, Bp', p, x, r⟩ => ?_)
  obtain ⟨B', x', _⟩ := ov.back x
  exact l.nx ρ σ B' H' p (g.ex.trans x') x'.sb (g.en.step x')⟩
/-- x = e, a, b = e: own lists unseen in e -/
def dAsg (t : ET) (tg : Tg) : STd := fun xq ρ D => t xq ρ fun d => tg.d d ρ D.nx
/-- .. seen, the value flat -/
def dAsgA (t : ET) (tg : Tg) : STd := fun xq ρ D => t xq (frz ρ) fun d => flat d = true ∧ tg.d d ρ D.nx
/-- .. seen, and data from then on -/
def dAsgF (t : ET) (tg : Tg) : STd := fun xq ρ D => t xq (frz ρ) fun d => tg.d d (frz ρ) D.nx
theorem tg_nx {tg : Tg} {xq : XQ} {σ : L2.St} {B B' H' H : Hp} {ρ : List EV} {Dd : DEnds} {D : Ends} {v : V} {d : PyData} (g : Cfg X A xq σ B H ρ) (x : Ex X.K A.c B H B' H') (r : Rp X.K A.c B' v d) (q : tg.d d ρ Dd.nx) (l : Lnk X A B Dd D) : tg.g X.K v σ H' D.nx := by
  refine tg.mono (tg.run (A := A) (vs := tg.slots) (g.en.step x) x.sh r (fun _ h => h) q) fun σ2 H2 ⟨e, ρ2, q2, en2, _⟩ => ?_
  subst e
  exact l.nx ρ2 σ2 B' _ q2 (g.ex.trans x) x.sb en2
theorem ds_asgR {t : TE} (tg : Tg) (hp : PS X st (tAsg t (tg.g X.K))) (ht : RE X A t te) : DS X A st (dAsg te tg) := ⟨fun {xq σ B H ρ Dd D} g q l =>
  PSw hp (ht.run g q fun v H' ⟨d, B', p, x, r⟩ => tg_nx g x r p l)⟩
theorem ds_asgAR {t : TE} (tg : Tg) (hp : PS X st (tAsg t (tg.g X.K))) (ht : RE X A t te) : DS X A st (dAsgA te tg) := ⟨fun {xq σ B H ρ Dd D} g q l =>
  PSw hp (ht.flat g q fun v H' ⟨d, B', p, x, r⟩ => tg_nx g x r p l)⟩
theorem ds_asgFR {t : TE} (tg : Tg) (hp : PS X st (tAsg t (tg.g X.K))) (ht : RE X A t te) : DS X A st (dAsgF te tg) := ⟨fun {xq σ B H ρ Dd D} g q l => by
  obtain ⟨Bp, gp, sb, run⟩ := ht.frz g q
  exact PSw hp (run fun v H' ⟨d, B', p, x, r⟩ => tg_nx gp x r p (l.up sb))⟩
section
variable {tg' : Expr}
theorem ps_asgW (tg : Tg) (hg : PG X tg' (tg.g X.K)) (hs : swapsWithSole [tg'] e pos.line X.env = pure false := by rfl) (hw : swappedStores [tg'] e X.env = pure none := by rfl) (h1 : (assignEach [tg'] X.env).map (·.2) = [assign tg' X.env] := by rfl) :
    PS X (.Assign [tg'] e pos) (tAsg (wE X e) (tg.g X.K)) := ps_asg (peW e) hg hs hw h1
theorem ds_asg (tg : Tg) (h : DE X A e te) (hg : PG X tg' (tg.g X.K)) (hs : swapsWithSole [tg'] e pos.line X.env = pure false := by rfl) (hw : swappedStores [tg'] e X.env = pure none := by rfl) (h1 : (assignEach [tg'] X.env).map (·.2) = [assign tg' X.env] := by rfl) :
    DS X A (.Assign [tg'] e pos) (dAsg te tg) := ds_asgR tg (ps_asgW tg hg hs hw h1) h.re
theorem ds_asgA (tg : Tg) (h : DE X A e te) (hg : PG X tg' (tg.g X.K)) (hs : swapsWithSole [tg'] e pos.line X.env = pure false := by rfl) (hw : swappedStores [tg'] e X.env = pure none := by rfl) (h1 : (assignEach [tg'] X.env).map (·.2) = [assign tg' X.env] := by rfl) :
    DS X A (.Assign [tg'] e pos) (dAsgA te tg) := ds_asgAR tg (ps_asgW tg hg hs hw h1) h.re
theorem ds_asgF (tg : Tg) (h : DE X A e te) (hg : PG X tg' (tg.g X.K)) (hs : swapsWithSole [tg'] e pos.line X.env = pure false := by rfl) (hw : swappedStores [tg'] e X.env = pure none := by rfl) (h1 : (assignEach [tg'] X.env).map (·.2) = [assign tg' X.env] := by rfl) :
    DS X A (.Assign [tg'] e pos) (dAsgF te tg) := ds_asgFR tg (ps_asgW tg hg hs hw h1) h.re
end
/-- x = a new list, own from then on -/
def dAsgL (t : AT) (i : Nat) : STd := fun xq ρ D => t xq ρ fun ds => D.nx (ρ.set i (.own ds))
def dAsgLA (t : AT) (i : Nat) : STd := fun xq ρ D => t xq (frz ρ) fun ds => flatAll ds = true ∧ D.nx (ρ.set i (.own ds))
theorem own_nx {xq : XQ} {σ : L2.St} {B H H' : Hp} {ρ : List EV} {Dd : DEnds} {D : Ends} {v : V} {i : Nat} (g : Cfg X A xq σ B H ρ) (h : LPost X A B H (fun ds => Dd.nx (ρ.set i (.own ds))) v H') (l : Lnk X A B Dd D) : D.nx (σ.set i (some v)) H' := by
  obtain ⟨ys, B', p, vs, q, rfl, x, hp, bp, h2, r⟩ := h
  have pst : p ≠ A.c.st := fun z => by rw [z] at hp; exact g.ok.wd.nfre hp
  have h0 : Fre A.H0 p := g.ex.free hp
  refine l.nx _ _ B' H' q (g.ex.trans x) x.sb (g.en.putNew x i (fun a => a = p) ⟨p, vs, rfl, h2, rfl, r⟩ (fun a z => ?_) fun a z => by rw [z]; exact hp)
  rw [z]
  exact ⟨bp, pst, h0, _, h2, nofun⟩
theorem ds_asgLR {t : TE} {ta : AT} (i : Nat) (hp : PS X st (tAsg t (gName i))) (ht : RL X A t ta) : DS X A st (dAsgL ta i) := ⟨fun {xq σ B H ρ Dd D} g q l =>
  PSw hp (ht.run g q fun v H' h => own_nx g h l)⟩
theorem ds_asgLAR {t : TE} {ta : AT} (i : Nat) (hp : PS X st (tAsg t (gName i))) (ht : RL X A t ta) : DS X A st (dAsgLA ta i) := ⟨fun {xq σ B H ρ Dd D} g q l => by
  obtain ⟨Bp, gp, ov⟩ := frz_cfg g
  refine PSw hp (ht.run gp q fun v H' ⟨ys, Bp', p, vs, ⟨f, q⟩, e, x, hp, bp, h2, r⟩ => ?_)
  obtain ⟨B', x', sb', kn, _, k⟩ := ov.back x
  refine own_nx g ⟨ys, B', p, vs, q, e, x', hp, ?_, h2, k f r⟩ l
  rw [kn p hp]; exact bp⟩
theorem rl_lst {es : List Expr} {a : AT} (ha : DA X A es a) (hl : es.length ≤ 100000 := by decide) : RL X A (wE X (.List es pos)) a := ⟨fun {xq σ B H ρ P} g h Q m => by
  refine PEw (pe_lst (paW es)) ((ha.run g h).mono fun vs H1 ⟨ds, B1, q, x1, r, l⟩ => ?_)
  exact ⟨by rw [l]; exact Nat.le_of_lt (small_line hl), fun p hp => m _ _ ⟨ds, B1, p, vs, q, rfl, x1.trans (x1.ok.newOwn hp), x1.free (.of hp), x1.ok.noB hp, upd_same, r⟩⟩⟩
def dLcL (i : AT) (g : Tg) (t : TTd) (f : ET) (vs : List Nat) : AT := fun xq ρ P => i xq ρ fun ds => ds.length ≤ 100000 ∧ lcD (fun x => g.d x (wipeD ρ vs)) (t nxq) (f nxq) ds P
/-- list(e) -/
def dListL (t : ET) : AT := fun xq ρ P => t xq ρ fun d => match d with
  | .list ds => P ds
  | .tuple ds => P ds
  | _ => False
theorem rl_list {p : Pos} (h : DE X A e te) (hg : Gl X "list") (hm : X.mg "list" = none) (hv : bootBuiltins "list" = some (.type "list") := by decide +kernel)
    (he : starEach [e] X.env = (false, eval e X.env) :: starEach [] X.env := by rfl) (hpl : (backTo pos (starEach [] X.env)).any (·.1) = false := by rfl) : RL X A (wE X (.Call (.Name "list" p) [e] [] pos)) (dListL te) := ⟨fun {xq σ B H ρ P} g q Q m => by
  refine PEw (pe_callTy call_list_of hg hm hv (pa_cons (peW e) pa_nil he) (by decide) (by decide) he hpl) ((h.run g q).mono fun v H1 ⟨d, B1, q1, x1, r⟩ => ?_)
  have fin : ∀ (vs : List V) (ds : List PyData), Rps X.K A.c B1 vs ds → P ds → ∀ l, H1 l = none → Q (.ref l) (upd H1 l (.lst vs)) := fun vs ds r p l hl =>
    m _ _ ⟨ds, B1, l, vs, p, rfl, x1.trans (x1.ok.newOwn hl), x1.free (.of hl), x1.ok.noB hl, upd_same, r⟩
  cases r with
  | lst ha ra => exact ⟨_, _, rfl, .inl (SqL.of (x1.sh _ _ ha)), fin _ _ ra q1⟩
  | tup ha ra => exact ⟨_, _, rfl, .inr (same_seqX x1.sh ha), fin _ _ ra q1⟩
  | _ => exact False.elim q1⟩

/-! ### comprehensions stored -/
section
variable {elt tg' iter : Expr} {ifs : List Expr} {scope : Scope} {own : List (Str × Nat)} {i : AT} {t : TTd} {f : ET}
theorem re_lc (tg : Tg) (hc : X.calm = true) (hN : X.N.Nodup) (hi : DI X A tg' iter i) (ok : BlkOk X.N X.env.scope scope own)
    (hg : ∀ (s : Shared) (H : Hp) (C : Addr) (cl : List (Str × Addr)) (fp : List Addr), PG (Blk X s H scope cl C fp) tg' (tg.g X.K))
    (ht : ∀ (s : Shared) (H : Hp) (C : Addr) (cl : List (Str × Addr)) (fp : List Addr), DTs (Blk X s H scope cl C fp) A.blk ifs t)
    (he : ∀ (s : Shared) (H : Hp) (C : Addr) (cl : List (Str × Addr)) (fp : List Addr), DE (Blk X s H scope cl C fp) A.blk elt f)
    (hv : ∀ j ∈ tg.slots, j ∈ own.map (·.2) := by decide) (hs : ∀ x, foldedSetIterable iter X.env x = pure x := by intro _; rfl) :
    RE X A (tLc (wI X tg' iter) (tg.g X.K) (bT X scope ifs) (bE X scope elt) (own.map (·.2))) (dLc i tg t f (own.map (·.2))) := ⟨fun {xq σ B H ρ P} gf h Q m =>
  lc_read tg hc hN hi ok hg ht he hv hs gf h fun v H' q => m _ _ (q.e gf.ok fun _ z => z)⟩
theorem rl_lc (tg : Tg) (hc : X.calm = true) (hN : X.N.Nodup) (hi : DI X A tg' iter i) (ok : BlkOk X.N X.env.scope scope own)
    (hg : ∀ (s : Shared) (H : Hp) (C : Addr) (cl : List (Str × Addr)) (fp : List Addr), PG (Blk X s H scope cl C fp) tg' (tg.g X.K))
    (ht : ∀ (s : Shared) (H : Hp) (C : Addr) (cl : List (Str × Addr)) (fp : List Addr), DTs (Blk X s H scope cl C fp) A.blk ifs t)
    (he : ∀ (s : Shared) (H : Hp) (C : Addr) (cl : List (Str × Addr)) (fp : List Addr), DE (Blk X s H scope cl C fp) A.blk elt f)
    (hv : ∀ j ∈ tg.slots, j ∈ own.map (·.2) := by decide) (hs : ∀ x, foldedSetIterable iter X.env x = pure x := by intro _; rfl) :
    RL X A (tLc (wI X tg' iter) (tg.g X.K) (bT X scope ifs) (bE X scope elt) (own.map (·.2))) (dLcL i tg t f (own.map (·.2))) := ⟨fun {xq σ B H ρ P} gf h Q m =>
  lc_read tg hc hN hi ok hg ht he hv hs gf h m⟩
theorem ps_lc {y : Str} {py spos : Pos} (j : Nat) (tg : Tg) (hc : X.calm = true) (hN : X.N.Nodup) (ok : BlkOk X.N X.env.scope scope own)
    (hg : ∀ (s : Shared) (H : Hp) (C : Addr) (cl : List (Str × Addr)) (fp : List Addr), PG (Blk X s H scope cl C fp) tg' (tg.g X.K)) (hyl : X.env.scope.names.lookup y = some .local) (hsw : swapsWith (.ListComp elt [⟨tg', iter, ifs, 0⟩] scope pos) (some (.Name y py)) spos.line X.env = pure true)
    (hy : X.N[j]? = some y := by rfl) (hs : ∀ x, foldedSetIterable iter X.env x = pure x := by intro _; rfl) :
    PS X (.Assign [.Name y py] (.ListComp elt [⟨tg', iter, ifs, 0⟩] scope pos) spos) (tAsg (tLc (wI X tg' iter) (tg.g X.K) (bT X scope ifs) (bE X scope elt) (own.map (·.2))) (gName j)) :=
  ps_setLc hc hN hy hyl hsw (piW iter) ok hg bT_pt bE_pe hs
end

/-! ### return, if -/
def dRet (t : ET) : STd := fun xq ρ D => t xq (frz ρ) fun d => D.rt (.ret d)
theorem ds_ret (h : DE X A e te) : DS X A (.Return (some e) pos) (dRet te) := ⟨fun {xq σ B H ρ Dd D} g q l => by
  obtain ⟨Bp, gp, sb, run⟩ := h.re.frz g q
  exact PSw (ps_ret (peW e)) (run fun v H' ⟨d, B', p, x, r⟩ => l.rt _ B' H' v p (gp.ex.trans x) r)⟩
def dRetN : STd := fun _ _ D => D.rt (.ret .none)
theorem ds_retN : DS X A (.Return none pos) dRetN := ⟨fun {xq σ B H ρ Dd D} g q l => PSw ps_retN (l.rt _ B H .non q g.ex .non)⟩
/-- return x, x an own list -/
def dRetL (i : Nat) : STd := fun _ ρ D => match ρ[i]? with
  | some (.own ds) => D.rt (.retL ds)
  | _ => False
theorem ds_retL (i : Nat) {x : Str} {p : Pos} (hN : X.N[i]? = some x := by rfl) (hv : Vis X.env.scope x := by first | exact Or.inl rfl | exact Or.inr (Or.inl rfl)) (hd : (x == ("__debug__" : Str)) = false := by decide) (hcd : (x == ("__classdict__" : Str)) = false := by decide) :
    DS X A (.Return (some (.Name x p)) pos) (dRetL i) := ⟨fun {xq σ B H ρ Dd D} g q l => by
  unfold dRetL at q
  split at q
  · rename_i ds e
    obtain ⟨o, vs, e1, q1, q2, q3, q4, q5⟩ := g.en.owned e
    exact PSw (ps_ret (pe_var hN hv hd hcd)) ⟨_, e1, l.rt _ B H _ q g.ex ⟨o, vs, rfl, q4, q2, q3, q1, q5⟩⟩
  · exact q.elim⟩
/-- return of an expression that makes a new list -/
def dRetF (t : AT) : STd := fun xq ρ D => t xq (frz ρ) fun ds => D.rt (.retL ds)
theorem ds_retF {ta : AT} (ht : RL X A (wE X e) ta) : DS X A (.Return (some e) pos) (dRetF ta) := ⟨fun {xq σ B H ρ Dd D} g q l => by
  obtain ⟨Bp, gp, ov⟩ := frz_cfg g
  refine PSw (ps_ret (peW e)) (ht.run gp q fun v H' ⟨ys, B', p, vs, q, ev, x, hp, bp, h2, r⟩ => ?_)
  subst ev
  have pst : p ≠ A.c.st := fun z => by rw [z] at hp; exact gp.ok.wd.nfre hp
  exact l.rt _ B' H' _ q (gp.ex.trans x) ⟨p, vs, rfl, gp.ex.free hp, bp, pst, h2, r⟩⟩
/-- a, b, c = x, y, z -/
def dPar (is : List Nat) (t : AT) : STd := fun xq ρ D => t xq ρ fun ds => ds.length = is.length ∧ D.nx (setAll is ds ρ)
theorem ds_par3 (i j k : Nat) {x y z : Str} {a b c : Expr} {ta : AT} {px py pz pt : Pos} {kt k2 pt2} (hc : X.calm = true) (hN : X.N.Nodup) (ha : DA X A [a, b, c] ta) (hi : X.N[i]? = some x := by rfl) (hj : X.N[j]? = some y := by rfl) (hk : X.N[k]? = some z := by rfl) (hij : i ≠ j := by decide) (hik : i ≠ k := by decide) (hjk : j ≠ k := by decide)
    (hx : X.env.scope.names.lookup x = some .local := by rfl) (hy : X.env.scope.names.lookup y = some .local := by rfl) (hz : X.env.scope.names.lookup z = some .local := by rfl)
    (hw : swappedStores [.Tuple [.Name x px, .Name y py, .Name z pz] kt pt] (.Tuple [a, b, c] k2 pt2) X.env = pure (some [x, y, z]) := by rfl)
    (hs : swapsWithSole [.Tuple [.Name x px, .Name y py, .Name z pz] kt pt] (.Tuple [a, b, c] k2 pt2) pos.line X.env = pure false := by rfl) :
    DS X A (.Assign [.Tuple [.Name x px, .Name y py, .Name z pz] kt pt] (.Tuple [a, b, c] k2 pt2) pos) (dPar [i, j, k] ta) := ⟨fun {xq σ B H ρ Dd D} g q l => by
  refine PSw (ps_par3 hc hN hi hj hk hij hik hjk hx hy hz (paW _) hw hs) ((ha.run g q).mono fun vs H1 ⟨ds, B1, ⟨hl, q1⟩, x1, r, _⟩ => ?_)
  obtain ⟨d1, ds, rfl⟩ := List.exists_cons_of_length_eq_add_one hl
  cases r with
  | cons r1 r =>
    obtain ⟨d2, ds, rfl⟩ := List.exists_cons_of_length_eq_add_one (Nat.succ.inj hl)
    cases r with
    | cons r2 r =>
      obtain ⟨d3, ds, rfl⟩ := List.exists_cons_of_length_eq_add_one (Nat.succ.inj (Nat.succ.inj hl))
      have e0 : ds = [] := List.eq_nil_of_length_eq_zero (Nat.succ.inj (Nat.succ.inj (Nat.succ.inj hl)))
      subst e0
      cases r with
      | cons r3 r =>
        cases r
        exact ⟨_, _, _, rfl, l.nx _ _ B1 H1 q1 (g.ex.trans x1) x1.sb ((((g.en.step x1).setD i r1).setD j r2).setD k r3)⟩⟩
def dIfS (t : TTd) (a b : STd) : STd := fun xq ρ D => t xq (frz ρ) fun c => if c = true then a xq ρ D else b xq ρ D
theorem ds_if {c : Expr} {a b : List Stmt} {t : TTd} (hc : DT X A c t) (ha : DSs X A a F) (hb : DSs X A b G) : DS X A (.If c a b pos) (dIfS t F G) := ⟨fun {xq σ B H ρ Dd D} g q l => by
  refine PSw (ps_if (ptW c) (pssW a) (pssW b)) ((hc.frz g q).mono fun k H1 ⟨B1, q1, x1⟩ => ?_)
  cases k with
  | true => exact iteT (ha.run (g.step x1) (by simpa using q1) (l.up x1.sb))
  | false => exact iteF (hb.run (g.step x1) (by simpa using q1) (l.up x1.sb))⟩

/-! ### x.append(e) -/
def dApp (i : Nat) (t : ET) : STd := fun xq ρ D => match ρ[i]? with
  | some (.own ds) => ds.length ≤ 100000 ∧ t xq ρ fun d => D.nx (ρ.set i (.own (ds ++ [d])))
  | _ => False
def dAppA (i : Nat) (t : ET) : STd := fun xq ρ D => match ρ[i]? with
  | some (.own ds) => ds.length ≤ 100000 ∧ t xq (frz ρ) fun d => flat d = true ∧ D.nx (ρ.set i (.own (ds ++ [d])))
  | _ => False
theorem app_nx {xq : XQ} {σ : L2.St} {B H B1 H1 : Hp} {ρ : List EV} {Dd : DEnds} {D : Ends} {v : V} {i : Nat} {o : Addr} {vs : List V} {ds : List PyData} {d : PyData} (g : Cfg X A xq σ B H ρ) (x : Ex X.K A.c B H B1 H1) (hi : ρ[i]? = some (.own ds)) (hs : σ[i]? = some (some (.ref o))) (h1 : H1 o = some (.lst vs)) (r : Rps X.K A.c B1 vs ds) (rd : Rp X.K A.c B1 v d)
    (q : Dd.nx (ρ.set i (.own (ds ++ [d])))) (l : Lnk X A B Dd D) : D.nx σ (upd H1 o (.lst (vs ++ [v]))) := by
  have en1 := g.en.step x
  obtain ⟨o', vs', e1, q1, q2, q3, q4, q5⟩ := en1.owned hi
  rw [hs] at e1; cases e1
  have x01 := g.ex.trans x
  exact l.nx _ σ B1 _ q (x01.setL h1 q2 q3 q4) x.sb (en1.changeL hi hs (r.append (.cons rd .nil)))
section
variable {x : Str} {p ap cp : Pos}
theorem ds_app (i : Nat) (h : DE X A e te) (hpe : PE X (.Call (.Attribute (.Name x p) "append" ap) [e] [] cp) (tBM X.K "list" rAppend (tVar i) (tCons (wE X e) tNil))) (hs : swapsWith (.Call (.Attribute (.Name x p) "append" ap) [e] [] cp) none pos.line X.env = pure false := by rfl) :
    DS X A (.Expr (.Call (.Attribute (.Name x p) "append" ap) [e] [] cp) pos) (dApp i te) := ⟨fun {xq σ B H ρ Dd D} g q l => by
  unfold dApp at q
  split at q
  · rename_i ds hi
    obtain ⟨o, vs, e1, q1, q2, q3, q4, q5⟩ := g.en.owned hi
    refine PSw (ps_expr hpe hs) ⟨.ref o, e1, .inl ⟨rfl, _, SqL.of q1⟩, (h.run g q.2).mono fun v H1 ⟨d, B1, qn, x1, r1⟩ => ?_⟩
    have h1 := x1.fr o _ q3 q1 nofun
    exact ⟨o, vs, v, rfl, rfl, h1, small_line (by rw [q5.length]; exact q.1), app_nx g x1 hi e1 h1 (q5.mono x1.sb) r1 qn l⟩
  · exact q.elim⟩
theorem ds_appA (i : Nat) (h : DE X A e te) (hpe : PE X (.Call (.Attribute (.Name x p) "append" ap) [e] [] cp) (tBM X.K "list" rAppend (tVar i) (tCons (wE X e) tNil))) (hs : swapsWith (.Call (.Attribute (.Name x p) "append" ap) [e] [] cp) none pos.line X.env = pure false := by rfl) :
    DS X A (.Expr (.Call (.Attribute (.Name x p) "append" ap) [e] [] cp) pos) (dAppA i te) := ⟨fun {xq σ B H ρ Dd D} g q l => by
  unfold dAppA at q
  split at q
  · rename_i ds hi
    obtain ⟨o, vs, e1, q1, q2, q3, q4, q5⟩ := g.en.owned hi
    refine PSw (ps_expr hpe hs) ⟨.ref o, e1, .inl ⟨rfl, _, SqL.of q1⟩, h.re.flat g q.2 fun v H1 ⟨d, B1, qn, x1, r1⟩ => ?_⟩
    have h1 := x1.fr o _ q3 q1 nofun
    exact ⟨o, vs, v, rfl, rfl, h1, small_line (by rw [q5.length]; exact q.1), app_nx g x1 hi e1 h1 (q5.mono x1.sb) r1 qn l⟩
  · exact q.elim⟩
end
end
end DL

/-! DL6: loops, calls, defs. -/
namespace DL
open PySem PySem.Spec L2

/-! ### for -/
def forD (g : PyData → List EV → (List EV → Prop) → Prop) (tb : List EV → DEnds → Prop) : List PyData → List EV → DEnds → Prop
  | [], ρ, D => D.nx ρ
  | x :: xs, ρ, D => g x ρ fun ρ2 => tb ρ2 { D with nx := fun ρ' => forD g tb xs ρ' D, ct := fun ρ' => forD g tb xs ρ' D, bk := D.nx }
section
variable {X : Cx} {A : Act} {tg' iter : Expr} {body : List Stmt} {F : STd} {pos : Pos} {i : AT}
structure DIr (X : Cx) (A : Act) (tg iter : Expr) (F : AT) : Prop where
  run : ∀ {xq σ B H ρ P}, Cfg X A xq σ B H ρ → F xq ρ P → wI X tg iter σ H fun J H1 => ∃ ds B1, P ds ∧ Ex X.K A.c B H B1 H1 ∧ ∀ B2, Walk X A J ds B2
theorem DIr.di (h : DIr X A tg' iter i) : DI X A tg' iter i := ⟨fun g q => (h.run g q).mono fun J H1 ⟨ds, B1, p, x, w⟩ => ⟨ds, B1, p, x, w _⟩⟩
theorem dir_rng1 {a : Expr} {ta : AT} {p pos : Pos} (hg : Gl X "range") (hm : X.mg "range" = none) (ha : DA X A [a] ta) (hs : starEach [a] X.env = [(false, eval a X.env)] := by rfl) : DIr X A tg' (.Call (.Name "range" p) [a] [] pos) (dRng1 ta) := ⟨fun {xq σ B H ρ P} g q => by
  refine PIw (pi_range1 hg hm (paW _) hs) ((ha.run g q).mono fun vs H1 ⟨ds, B1, q1, x1, r, _⟩ => ?_)
  cases r with
  | nil => exact False.elim q1
  | cons r1 r2 =>
    cases r2 with
    | cons _ _ => cases r1 <;> exact False.elim q1
    | nil =>
      cases r1 <;> first | exact False.elim q1 | skip
      obtain ⟨⟨h1, h2⟩, q1⟩ := q1
      exact ⟨_, rfl, h1, h2, _, B1, q1, x1, fun B2 => walk_rng 0 _⟩⟩
theorem dir_rng2 {a b : Expr} {ta : AT} {p pos : Pos} (hg : Gl X "range") (hm : X.mg "range" = none) (ha : DA X A [a, b] ta) (hs : starEach [a, b] X.env = [(false, eval a X.env), (false, eval b X.env)] := by rfl) (hs2 : starEach [b] X.env = [(false, eval b X.env)] := by rfl) :
    DIr X A tg' (.Call (.Name "range" p) [a, b] [] pos) (dRng2 ta) := ⟨fun {xq σ B H ρ P} g q => by
  refine PIw (pi_range2 hg hm (paW _) hs hs2) ((ha.run g q).mono fun vs H1 ⟨ds, B1, q1, x1, r, _⟩ => ?_)
  cases r with
  | nil => exact False.elim q1
  | cons r1 r2 =>
    cases r2 with
    | nil => cases r1 <;> exact False.elim q1
    | cons r2 r3 =>
      cases r3 with
      | cons _ _ => cases r1 <;> cases r2 <;> exact False.elim q1
      | nil =>
        cases r1 <;> cases r2 <;> first | exact False.elim q1 | skip
        obtain ⟨h1, q1⟩ := q1
        exact ⟨_, _, rfl, h1, _, B1, q1, x1, fun B2 => walk_rng _ _⟩⟩
theorem dir_rng3 {a b c : Expr} {ta : AT} {p pos : Pos} (hg : Gl X "range") (hm : X.mg "range" = none) (ha : DA X A [a, b, c] ta) (hpi : ∀ {t : TA}, PA X [a, b, c] t → PI X tg' (.Call (.Name "range" p) [a, b, c] [] pos) (iRng3 t)) :
    DIr X A tg' (.Call (.Name "range" p) [a, b, c] [] pos) (dRng3 ta) := ⟨fun {xq σ B H ρ P} g q => by
  refine PIw (hpi (paW _)) ((ha.run g q).mono fun vs H1 ⟨ds, B1, q1, x1, r, _⟩ => ?_)
  cases r with
  | nil => exact False.elim q1
  | cons r1 r2 =>
    cases r2 with
    | nil => cases r1 <;> exact False.elim q1
    | cons r2 r3 =>
      cases r3 with
      | nil => cases r1 <;> cases r2 <;> exact False.elim q1
      | cons r3 r4 =>
        cases r4 with
        | cons _ _ => cases r1 <;> cases r2 <;> cases r3 <;> exact False.elim q1
        | nil =>
          cases r1 <;> cases r2 <;> cases r3 <;> first | exact False.elim q1 | skip
          obtain ⟨n, h1, q1⟩ := q1
          exact ⟨_, _, _, n, rfl, h1, _, B1, q1, x1, fun B2 => walk_rngC _ _ _⟩⟩
theorem for_core (tg : Tg) (hb : DSs X A body F) {xq : XQ} {σ : L2.St} {B H B1 H1 : Hp} {ρ : List EV} {J : It} {ds : List PyData} {Dd : DEnds} {D : Ends} (g1 : Cfg X A xq σ B1 H1 ρ) (wk : Walk X A J ds B1) (q : forD tg.d (F xq) ds ρ Dd) (l : Lnk X A B1 Dd D) :
    ∃ W : Nat → Nat → L2.St → Hp → Prop, (∃ m, W 0 m σ H1) ∧ ∀ i m σ H, W i m σ H →
      (J.stop i H ∧ D.nx σ H) ∨ (J.go i H ∧ ∃ N : L2.St → Hp → Prop, (∀ σ' H', N σ' H' → ∃ m', m' < m ∧ W (i + 1) m' σ' H') ∧ ∀ x H', J.yld i H x H' → tg.g X.K x σ H' fun σ2 H2 => wSs X body { D with nx := N, ct := N, bk := D.nx } σ2 H2) := by
  refine ⟨fun i m σ H => m = ds.length - i ∧ i ≤ ds.length ∧ ∃ B ρ, Cfg X A xq σ B H ρ ∧ Same B1 B ∧ forD tg.d (F xq) (ds.drop i) ρ Dd, ⟨ds.length, by omega, Nat.zero_le _, B1, ρ, g1, Same.refl _, by simpa using q⟩, ?_⟩
  rintro i m σ2 H2 ⟨rfl, hi2, B2, ρ2, g2, sb2, q2⟩
  by_cases hlt : i < ds.length
  · refine .inr ⟨wk.go i B2 H2 sb2 g2.ok hlt, fun σ' H' => i + 1 ≤ ds.length ∧ ∃ B' ρ', Cfg X A xq σ' B' H' ρ' ∧ Same B1 B' ∧ forD tg.d (F xq) (ds.drop (i + 1)) ρ' Dd, fun σ' H' hN' => ⟨ds.length - (i + 1), by omega, rfl, hN'⟩, fun x H3 y => ?_⟩
    obtain ⟨B3, d, x3, ed, rd⟩ := wk.yld i B2 H2 x H3 sb2 g2.ok hlt y
    rw [List.drop_eq_getElem_cons hlt] at q2
    have ed' : ds[i] = d := by rw [List.getElem?_eq_getElem hlt] at ed; exact Option.some.inj ed
    rw [ed'] at q2
    have g3 := g2.step x3
    refine tg.mono (tg.run (A := A) (vs := tg.slots) g3.en x3.sh rd (fun _ h => h) q2) fun σ4 H4 ⟨eH, ρ4, q4, en4, _⟩ => ?_
    subst eH
    have sb3 : Same B1 B3 := sb2.trans x3.sb
    refine hb.run ⟨g3.hx, g3.ex, en4⟩ q4 ⟨fun ρ' σ' B' H' qn ex sb en => ⟨by omega, B', ρ', ⟨g3.hx, ex, en⟩, sb3.trans sb, qn⟩, l.rt, fun ρ' σ' B' H' qn ex sb en => l.nx ρ' σ' B' H' qn ex (sb3.trans sb) en, fun ρ' σ' B' H' qn ex sb en => ⟨by omega, B', ρ', ⟨g3.hx, ex, en⟩, sb3.trans sb, qn⟩⟩
  · have e : i = ds.length := by omega
    subst e
    rw [List.drop_length] at q2
    exact .inl ⟨wk.stop _ B2 H2 sb2 g2.ok (Nat.le_refl _), l.nx ρ2 σ2 B2 H2 q2 g2.ex sb2 g2.en⟩
def dFor (i : AT) (tg : Tg) (b : STd) : STd := fun xq ρ D => i xq ρ fun ds => forD tg.d (b xq) ds ρ D
def dForA (i : AT) (tg : Tg) (b : STd) : STd := fun xq ρ D => i xq (frz ρ) fun ds => forD tg.d (b xq) ds ρ D
def dForF (i : AT) (tg : Tg) (b : STd) : STd := fun xq ρ D => i xq (frz ρ) fun ds => forD tg.d (b xq) ds (frz ρ) D
theorem ds_for (tg : Tg) (hp : PassesOwn (model X.prog X.w) X.A X.env X.xe) (hc : X.calm = true) (hi : DI X A tg' iter i) (hg : PG X tg' (tg.g X.K)) (hb : DSs X A body F) (hs : ∀ x, foldedSetIterable iter X.env x = pure x := by intro _; rfl) :
    DS X A (.For tg' iter body [] pos) (dFor i tg F) := ⟨fun {xq σ B H ρ Dd D} g q l =>
  PSw (ps_for hp hc (piW iter) hg (pssW body) hs) ((hi.run g q).mono fun J H1 ⟨ds, B1, q1, x1, wk⟩ => for_core tg hb (B := B) (H := H) (g.step x1) wk q1 (l.up x1.sb))⟩
theorem ds_forF (tg : Tg) (hp : PassesOwn (model X.prog X.w) X.A X.env X.xe) (hc : X.calm = true) (hi : DI X A tg' iter i) (hg : PG X tg' (tg.g X.K)) (hb : DSs X A body F) (hs : ∀ x, foldedSetIterable iter X.env x = pure x := by intro _; rfl) :
    DS X A (.For tg' iter body [] pos) (dForF i tg F) := ⟨fun {xq σ B H ρ Dd D} g q l => by
  obtain ⟨Bp, gp, ov⟩ := frz_cfg g
  exact PSw (ps_for hp hc (piW iter) hg (pssW body) hs) ((hi.run gp q).mono fun J H1 ⟨ds, B1, q1, x1, wk⟩ => for_core tg hb (B := B) (H := H) (gp.step x1) wk q1 (l.up (ov.sb.trans x1.sb)))⟩
theorem ds_forA (tg : Tg) (hp : PassesOwn (model X.prog X.w) X.A X.env X.xe) (hc : X.calm = true) (hi : DIr X A tg' iter i) (hg : PG X tg' (tg.g X.K)) (hb : DSs X A body F) (hs : ∀ x, foldedSetIterable iter X.env x = pure x := by intro _; rfl) :
    DS X A (.For tg' iter body [] pos) (dForA i tg F) := ⟨fun {xq σ B H ρ Dd D} g q l => by
  obtain ⟨Bp, gp, ov⟩ := frz_cfg g
  refine PSw (ps_for hp hc (piW iter) hg (pssW body) hs) ((hi.run gp q).mono fun J H1 ⟨ds, B1, q1, x1, wk⟩ => ?_)
  obtain ⟨B', x', _⟩ := ov.back x1
  exact for_core tg hb (B := B) (H := H) (g.step x') (wk _) q1 (l.up x'.sb)⟩
/-- while, by a word over the environments and a measure -/
def dWhile (t : TTd) (b : STd) : STd := fun xq ρ D => ∃ W : Nat → List EV → Prop, (∃ m, W m ρ) ∧ ∀ m ρ, W m ρ → t xq (frz ρ) fun c => if c = true then b xq ρ { D with nx := fun ρ' => ∃ m', m' < m ∧ W m' ρ', ct := fun ρ' => ∃ m', m' < m ∧ W m' ρ', bk := D.nx } else D.nx ρ
theorem ds_while {c : Expr} {t : TTd} (hp : PassesOwn (model X.prog X.w) X.A X.env X.xe) (hc : DT X A c t) (hb : DSs X A body F) : DS X A (.While c body [] pos) (dWhile t F) := ⟨fun {xq σ B H ρ Dd D} g q l => by
  obtain ⟨W, ⟨m0, w0⟩, step⟩ := q
  refine PSw (ps_while hp (ptW c) (pssW body)) ⟨fun m σ' H' => ∃ B' ρ', Cfg X A xq σ' B' H' ρ' ∧ Same B B' ∧ W m ρ', ⟨m0, B, ρ, g, Same.refl B, w0⟩, ?_⟩
  rintro m σ2 H2 ⟨B2, ρ2, g2, sb2, w2⟩
  refine (hc.frz g2 (step m ρ2 w2)).mono fun k H3 ⟨B3, q3, x3⟩ => ?_
  cases k with
  | false =>
    refine iteF ?_
    have q3' : Dd.nx ρ2 := by simpa using q3
    exact l.nx ρ2 σ2 B3 H3 q3' (g2.ex.trans x3) (sb2.trans x3.sb) (g2.en.step x3)
  | true =>
    refine iteT ⟨fun σ' H' => ∃ m', m' < m ∧ ∃ B' ρ', Cfg X A xq σ' B' H' ρ' ∧ Same B B' ∧ W m' ρ', fun σ' H' h => h, ?_⟩
    have q3' := q3
    simp only [if_true] at q3'
    have sb3 := sb2.trans x3.sb
    exact hb.run (g2.step x3) q3' ⟨fun ρ' σ' B' H' ⟨m', hm, w⟩ ex sb en => ⟨m', hm, B', ρ', ⟨g2.hx, ex, en⟩, sb3.trans sb, w⟩, l.rt, fun ρ' σ' B' H' qn ex sb en => l.nx ρ' σ' B' H' qn ex (sb3.trans sb) en, fun ρ' σ' B' H' ⟨m', hm, w⟩ ex sb en => ⟨m', hm, B', ρ', ⟨g2.hx, ex, en⟩, sb3.trans sb, w⟩⟩⟩
end

/-! ### calls -/
abbrev DSpec := List PyData → (O → Prop) → Prop
def spD (K : PySem.W.Frag) (mg : Str → Option Value) (S : DSpec) : Sp := fun vs H Q E => ∃ (c : Dc) (B : Hp) (ds : List PyData) (P : O → Prop), (∀ C, mg "Hall" = some (.ref C) → C = c.hall) ∧ Ok K c B H ∧ Rps K c B vs ds ∧ S ds P ∧
  (∀ d, P (.ret d) → ∀ v B' H', Ex K c B H B' H' → Rp K c B' v d → Q v H') ∧
  (∀ es, P (.retL es) → ∀ p vs' B' H', Ex K c B H B' H' → Fre H p → B' p = none → H' p = some (.lst vs') → Rps K c B' vs' es → Q (.ref p) H') ∧
  ∀ n r, P (.exc n r) → XEnd K c mg E B H n r
structure Cal (P : Program) (w : World) (K : PySem.W.Frag) (mg : Str → Option Value) (base : Heap) (k : Nat) (x : Str) (S : DSpec) : Prop where
  ex : ∃ f fd ps j, FnOk P w K mg base (L2.CX P w) j f fd ps (spD K mg S) ∧ j ≤ k ∧ mg x = some (.ref f) ∧ PySem.W.keepIn K (.ref f) = true ∧ Binds K fd ps []
theorem Cal.up {P : Program} {w : World} {K : PySem.W.Frag} {mg : Str → Option Value} {base : Heap} {j k : Nat} {x : Str} {S : DSpec} (c : Cal P w K mg base j x S) (h : j ≤ k := by decide) : Cal P w K mg base k x S :=
  let ⟨f, fd, ps, i, a, b, r⟩ := c.ex; ⟨f, fd, ps, i, a, Nat.le_trans b h, r⟩
section
variable {X : Cx} {A : Act} {k : Nat} {x : Str} {p pos : Pos} {e : Expr} {es : List Expr} {t : AT} {S : DSpec}
def oE (xq : XQ) (P : PyData → Prop) : O → Prop
  | .ret d => P d
  | .retL es => P (.list es)
  | .exc n r => xq n r
def oL (xq : XQ) (P : List PyData → Prop) : O → Prop
  | .ret _ => False
  | .retL es => P es
  | .exc n r => xq n r
theorem oE_ret {xq : XQ} {P : PyData → Prop} {d : PyData} : oE xq P (.ret d) = P d := rfl
theorem oE_retL {xq : XQ} {P : PyData → Prop} {d : List PyData} : oE xq P (.retL d) = P (.list d) := rfl
theorem oE_exc {xq : XQ} {P : PyData → Prop} {n : Str} {r : Option PyData} : oE xq P (.exc n r) = xq n r := rfl
theorem oL_retL {xq : XQ} {P : List PyData → Prop} {d : List PyData} : oL xq P (.retL d) = P d := rfl
theorem oL_exc {xq : XQ} {P : List PyData → Prop} {n : Str} {r : Option PyData} : oL xq P (.exc n r) = xq n r := rfl
def dCall (S : DSpec) (t : AT) : ET := fun xq ρ P => t xq ρ fun ds => S ds (oE xq P)
def dCallL (S : DSpec) (t : AT) : AT := fun xq ρ P => t xq ρ fun ds => S ds (oL xq P)
theorem call_run {P' : O → Prop} {xq : XQ} {σ : L2.St} {B H B1 H1 : Hp} {ρ : List EV} {vs : List V} {ds : List PyData} {Q : VK} (g : Cfg X A xq σ B H ρ) (x1 : Ex X.K A.c B H B1 H1) (r : Rps X.K A.c B1 vs ds) (q : S ds P')
    (h1 : ∀ d, P' (.ret d) → ∀ v B' H', Ex X.K A.c B H B' H' → Rp X.K A.c B' v d → Q v H')
    (h2 : ∀ es, P' (.retL es) → ∀ v H', LPost X A B H (fun ys => ys = es) v H' → Q v H') (h3 : ∀ n r, P' (.exc n r) → xq n r) : spD X.K X.mg S (vs ++ []) H1 Q A.E := by
  rw [List.append_nil]
  refine ⟨A.c, B1, ds, P', g.hx.hall, x1.ok, r, q, fun d p v B' H' x rr => h1 d p v B' H' (x1.trans x) rr, fun es p a vs' B' H' x hp hb ha rr => h2 es p _ _ ⟨es, B', a, vs', rfl, rfl, x1.trans x, x1.free hp, hb, ha, rr⟩, fun n r p => ?_⟩
  exact (g.hx.ex n r (h3 n r p)).step (g.ex.trans x1)
theorem de_call (G : Cal X.prog X.w X.K X.mg X.base k x S) (hr : Room k X.A) (hx : Passes (L2.CX X.prog X.w) X A.E) (hg : Gl X x) (ha : DA X A (e :: es) t) (hdb : (x == ("__debug__" : Str)) = false := by decide)
    (he : starEach (e :: es) X.env = (false, eval e X.env) :: starEach es X.env := by rfl) (hpl : (backTo pos (starEach es X.env)).any (·.1) = false := by rfl) : DE X A (.Call (.Name x p) (e :: es) [] pos) (dCall S t) := ⟨fun {xq σ B H ρ P} g q => by
  obtain ⟨f, fd, ps, j, F, hj, hm, hk, hb⟩ := G.ex
  refine PEw (pe_call F (hr.mono hj) hg hm hk hb .nil hx (paW _) hdb he hpl) ((ha.run g q).mono fun vs H1 ⟨ds, B1, q1, x1, r, _⟩ => ?_)
  exact call_run g x1 r q1 (fun d p v B' H' x rr => ⟨d, B', p, x, rr⟩) (fun es p v H' l => l.e g.ok fun ys e => by rw [e]; exact p) fun n r p => p⟩
theorem rl_call (G : Cal X.prog X.w X.K X.mg X.base k x S) (hr : Room k X.A) (hx : Passes (L2.CX X.prog X.w) X A.E) (hg : Gl X x) (ha : DA X A (e :: es) t) (hdb : (x == ("__debug__" : Str)) = false := by decide)
    (he : starEach (e :: es) X.env = (false, eval e X.env) :: starEach es X.env := by rfl) (hpl : (backTo pos (starEach es X.env)).any (·.1) = false := by rfl) : RL X A (wE X (.Call (.Name x p) (e :: es) [] pos)) (dCallL S t) := ⟨fun {xq σ B H ρ P} g q Q m => by
  obtain ⟨f, fd, ps, j, F, hj, hm, hk, hb⟩ := G.ex
  refine PEw (pe_call F (hr.mono hj) hg hm hk hb .nil hx (paW _) hdb he hpl) ((ha.run g q).mono fun vs H1 ⟨ds, B1, q1, x1, r, _⟩ => ?_)
  exact call_run g x1 r q1 (fun d p v B' H' x rr => p.elim) (fun es p v H' ⟨ys, B', a, vs', e, r⟩ => m _ _ ⟨ys, B', a, vs', by rw [e]; exact p, r⟩) fun n r p => p⟩
end

/-! ### defs -/
def envOf (m : Nat) (ds : List PyData) : List EV := ds.map EV.d ++ List.replicate (m - ds.length) EV.un
/-- a def's promise: n parameters, m names -/
def defS (n m : Nat) (F : STd) : DSpec := fun ds P => ds.length = n ∧ F (fun n r => P (.exc n r)) (envOf m ds) { nx := fun _ => P (.ret .none), rt := P }
theorem start_ok {K : PySem.W.Frag} {c : Dc} {H0 B H : Hp} {N : List Str} {vs : List V} {ds : List PyData} (r : Rps K c B vs ds) : EnvOk K c H0 B H (L2.start N vs) (envOf N.length ds) := by
  have hl := r.length
  refine ⟨?_, fun _ _ => False, fun i s e hs he => ?_, fun _ _ z => z.elim, fun _ _ _ z => z.elim⟩
  · unfold L2.start envOf
    rw [List.length_append, List.length_append, List.length_map, List.length_map, List.length_replicate, List.length_replicate, hl]
  · unfold L2.start at hs
    unfold envOf at he
    by_cases h : i < ds.length
    · rw [List.getElem?_append_left (by rw [List.length_map]; omega), List.getElem?_map] at hs
      rw [List.getElem?_append_left (by rw [List.length_map]; omega), List.getElem?_map] at he
      obtain ⟨v, e1, r1⟩ := r.get (List.getElem?_eq_getElem h)
      rw [e1] at hs
      rw [List.getElem?_eq_getElem h] at he
      cases hs; cases he
      exact ⟨v, rfl, r1⟩
    · rw [List.getElem?_append_right (by rw [List.length_map]; omega)] at he
      obtain ⟨_, e2⟩ := List.mem_replicate.mp (List.mem_of_getElem? he)
      subst e2
      trivial
section
variable {P : Program} {w : World} {K : PySem.W.Frag} {mg : Str → Option Value} {base : Heap} {x qual : Str} {st : Stmt} {f : Addr} {fd : FuncData} {N ps : List Str} {k : Nat} {Fb : STd}
theorem def_ok (F : Fun K x qual st f fd) (S : FnScope N ps (defScope st)) {n m : Nat} (hn : ps.length = n := by rfl) (hm : N.length = m := by rfl)
    (body : ∀ (cdv : Value) (A : Around) (outer : List Env) (s : Shared) (H : Hp) (c : Dc) (B : Hp) (E : XK), Room k (A.deeper (PyProof.Rows.envOfC qual (defScope st) s.heap.objs.size f cdv)) →
      DSs (cxOf (L2.CX P w) P w K mg base N qual (defScope st) f cdv A outer s H E) ⟨c, B, H, E⟩ (defBody st) Fb) : FnOk P w K mg base (L2.CX P w) (k + 1) f fd ps (spD K mg (defS n m Fb)) := by
  subst hn hm
  refine F.okX S (fun vs H Q E h => ?_) fun cdv A outer s H vs Q E hr h => ?_
  · obtain ⟨c, B, ds, P', _, ok, r, ⟨hl, _⟩, _⟩ := h
    rw [r.length, hl]
  · obtain ⟨c, B, ds, P', hh, ok, r, ⟨hl, q⟩, q1, q2, q3⟩ := h
    refine ⟨_, pssW _, (body cdv A outer s H c B E hr).run (ρ := envOf N.length ds) ⟨⟨fun n r p => q3 n r p, hh⟩, ok.refl, start_ok r⟩ q ⟨fun ρ' σ' B' H' p x _ _ => q1 _ p _ B' H' x .non, fun o B' H' v p x rr => ?_, fun _ _ _ _ p => p.elim, fun _ _ _ _ p => p.elim⟩⟩
    cases o with
    | ret d => exact q1 d p v B' H' x rr
    | retL es =>
      obtain ⟨a, vs', rfl, h0, hb, _, ha, rr⟩ := rr
      exact q2 es p a vs' B' H' x h0 hb ha rr
    | exc _ _ => exact False.elim rr
theorem pas_of {cdv : Value} {A : Around} {outer : List Env} {s : Shared} {H : Hp} {E : XK} {sc : Scope} : Passes (L2.CX P w) (cxOf (L2.CX P w) P w K mg base N qual sc f cdv A outer s H E) E := passes_call (takes_of rfl rfl rfl rfl) fun _ _ _ _ h => h
theorem own_of {cdv : Value} {A : Around} {outer : List Env} {s : Shared} {H : Hp} {E : XK} {sc : Scope} : PassesOwn (model P w) (cxOf (L2.CX P w) P w K mg base N qual sc f cdv A outer s H E).A (cxOf (L2.CX P w) P w K mg base N qual sc f cdv A outer s H E).env (cxOf (L2.CX P w) P w K mg base N qual sc f cdv A outer s H E).xe := passes_of rfl
theorem cal_of {S : DSpec} (h : FnOk P w K mg base (L2.CX P w) k f fd ps (spD K mg S)) (hm : mg x = some (.ref f)) (hk : PySem.W.keepIn K (.ref f) = true) (hb : Binds K fd ps []) : Cal P w K mg base k x S := ⟨f, fd, ps, k, h, Nat.le_refl _, hm, hk, hb⟩
end
end DL

/-! DL7: isinstance; drawing. -/
namespace DL
open PySem PySem.Spec L2

def tyD : PyData → String
  | .none => "NoneType"
  | .bool _ => "bool"
  | .int _ => "int"
  | .str _ => "str"
  | .list _ => "list"
  | .tuple _ => "tuple"
  | .dict _ => "dict"
def isTok : PyData → Bool
  | .dict _ => true
  | _ => false
theorem tyX_of {K : PySem.W.Frag} {c : Dc} {B H : Hp} {v : V} {d : PyData} (sh : Same B H) (r : Rp K c B v d) (hk : isTok d = false) : TyX K H v (.type (tyD d)) := by
  cases r with
  | non => exact .base .non
  | bl b => exact .base (.bl b)
  | int i => exact .base (.int i)
  | str x => exact .base (.str x)
  | lst h r => exact .base (.lst (sh _ _ h))
  | tup h r =>
    rcases h.1 with (h | ⟨o, h⟩) | ⟨o, its, n, h1, h2, _⟩
    · exact .base (.tup (sh _ _ h))
    · exact .fTuple (sh _ _ h)
    · exact .kTuple h1 h2
  | tok => cases hk
  | dic _ _ => cases hk
  | hall _ _ _ _ _ _ => cases hk
def subB (t T : String) : Bool := decide (t = T) || (decide (t = "bool") && decide (T = "int"))
def isiB (T : String) (d : PyData) : Bool := subB (tyD d) T
def names6 : List String := ["NoneType", "bool", "int", "str", "list", "tuple"]
theorem tyD_mem {d : PyData} (h : isTok d = false) : tyD d ∈ names6 := by
  cases d <;> first | (simp [tyD, names6]; done) | cases h
/-- what is asked of the class T -/
structure KitT (K : PySem.W.Frag) (T : String) : Prop where
  one : ∀ t ∈ names6, PySem.W.kitOne K (.type t) (.type T) = some (subB t T)
def dIsi (T : String) (a : ET) : ET := fun xq ρ P => a xq ρ fun d => isTok d = false ∧ P (.bool (isiB T d))
def dIsi2 (T U : String) (a : ET) : ET := fun xq ρ P => a xq ρ fun d => isTok d = false ∧ P (.bool (isiB T d || isiB U d))
section
variable {X : Cx} {A : Act} {p q r s pos : Pos} {e : Expr} {t : ET}
theorem kit_any2 {K : PySem.W.Frag} {t T U : String} (h1 : PySem.W.kitOne K (.type t) (.type T) = some (subB t T)) (h2 : PySem.W.kitOne K (.type t) (.type U) = some (subB t U)) : PySem.W.kitAny K (.type t) [.type T, .type U] = some (subB t T || subB t U) := by
  unfold PySem.W.kitAny PySem.W.kitAny PySem.W.kitAny
  rw [h1, h2]
  cases subB t T <;> cases subB t U <;> rfl
theorem de_isi {T : Str} {Ts : String} (h : DE X A e t) (kt : KitT X.K Ts) (hg : Gl X "isinstance") (hm : X.mg "isinstance" = none) (hgT : Gl X T) (hmT : X.mg T = none) (hvT : bootBuiltins T = some (.type Ts)) (hnT : T ≠ "__name__" := by decide) (hdT : (T == ("__debug__" : Str)) = false := by decide)
    (hv : bootBuiltins "isinstance" = some (.builtin "isinstance") := by decide +kernel)
    (he : starEach [e, .Name T q] X.env = (false, eval e X.env) :: starEach [.Name T q] X.env := by rfl) (he2 : starEach [.Name T q] X.env = (false, eval (.Name T q) X.env) :: starEach [] X.env := by rfl) (hpl : (backTo pos (starEach [.Name T q] X.env)).any (·.1) = false := by rfl) :
    DE X A (.Call (.Name "isinstance" p) [e, .Name T q] [] pos) (dIsi Ts t) := ⟨fun {xq σ B H ρ P} g w => by
  refine PEw (pe_callB call_isi hg hm hv (pa_cons (peW e) (pa_cons (pe_bltn (v := .ty Ts) hgT hmT hvT rfl hnT hdT) pa_nil he2) he) (by decide) (by decide) he hpl) ?_
  refine (h.run g w).mono fun v H1 ⟨d, B1, ⟨tk, w⟩, x1, r1⟩ => ?_
  exact ⟨v, .ty Ts, .type (tyD d), .type Ts, _, rfl, .ty _, tyX_of x1.sh r1 tk, kt.one _ (tyD_mem tk), _, B1, w, x1, .bl _⟩⟩
theorem de_isi2 {T U : Str} {Ts Us : String} {k : Nat} {tp : Pos} (h : DE X A e t) (kt : KitT X.K Ts) (ku : KitT X.K Us) (hg : Gl X "isinstance") (hm : X.mg "isinstance" = none) (hgT : Gl X T) (hmT : X.mg T = none) (hvT : bootBuiltins T = some (.type Ts)) (hgU : Gl X U) (hmU : X.mg U = none) (hvU : bootBuiltins U = some (.type Us))
    (hnT : T ≠ "__name__" := by decide) (hdT : (T == ("__debug__" : Str)) = false := by decide) (hnU : U ≠ "__name__" := by decide) (hdU : (U == ("__debug__" : Str)) = false := by decide)
    (hv : bootBuiltins "isinstance" = some (.builtin "isinstance") := by decide +kernel)
    (he : starEach [e, .Tuple [.Name T q, .Name U r] k tp] X.env = (false, eval e X.env) :: starEach [.Tuple [.Name T q, .Name U r] k tp] X.env := by rfl) (he2 : starEach [.Tuple [.Name T q, .Name U r] k tp] X.env = (false, eval (.Tuple [.Name T q, .Name U r] k tp) X.env) :: starEach [] X.env := by rfl)
    (hpl : (backTo pos (starEach [.Tuple [.Name T q, .Name U r] k tp] X.env)).any (·.1) = false := by rfl)
    (hs1 : starEach [.Name T q, .Name U r] X.env = (false, eval (.Name T q) X.env) :: starEach [.Name U r] X.env := by rfl) (hs2 : starEach [.Name U r] X.env = (false, eval (.Name U r) X.env) :: starEach [] X.env := by rfl) :
    DE X A (.Call (.Name "isinstance" p) [e, .Tuple [.Name T q, .Name U r] k tp] [] pos) (dIsi2 Ts Us t) := ⟨fun {xq σ B H ρ P} g w => by
  refine PEw (pe_callB call_isiT hg hm hv (pa_cons (peW e) (pa_cons (pe_tup (pa_cons (pe_bltn (v := .ty Ts) hgT hmT hvT rfl hnT hdT) (pa_cons (pe_bltn (v := .ty Us) hgU hmU hvU rfl hnU hdU) pa_nil hs2) hs1)) pa_nil he2) he) (by decide) (by decide) he hpl) ?_
  refine (h.run g w).mono fun v H1 ⟨d, B1, ⟨tk, w⟩, x1, r1⟩ => ?_
  refine ⟨by show 2 ≤ sizeLine; decide, fun a ha => ?_⟩
  have x2 := x1.ok.new ha (x := .tup [.ty Ts, .ty Us])
  exact ⟨v, a, [.ty Ts, .ty Us], .type (tyD d), [.type Ts, .type Us], _, rfl, upd_same, .cons (.ty _) (.cons (.ty _) .nil), tyX_of x2.sh (r1.mono x2.sb) tk, kit_any2 (kt.one _ (tyD_mem tk)) (ku.one _ (tyD_mem tk)), _, _, w, x1.trans x2, .bl _⟩⟩
end
/-! ### constants of the module -/
structure TupC (K : PySem.W.Frag) (mg : Str → Option Value) (x : Str) (d : PyData) : Prop where
  ex : ∃ a, mg x = some (.ref a) ∧ ∀ c B, Rp K c B (.ref a) d
section
variable {X : Cx} {A : Act} {x : Str} {pos : Pos}
theorem de_globI {i : Int} {t : Tok} (hg : Gl X x) (hm : X.mg x = some (.int i t)) (hd : (x == ("__debug__" : Str)) = false := by decide) : DE X A (.Name x pos) (dC (.int i)) := de_glob (v := .int i) hg hm ⟨_, rfl⟩ (fun _ => .int _) hd
theorem de_globS {i : Str} {t : Tok} (hg : Gl X x) (hm : X.mg x = some (.str i t)) (hd : (x == ("__debug__" : Str)) = false := by decide) : DE X A (.Name x pos) (dC (.str i)) := de_glob (v := .str i) hg hm ⟨_, rfl⟩ (fun _ => .str _) hd
theorem de_globT {d : PyData} (hg : Gl X x) (h : TupC X.K X.mg x d) (hd : (x == ("__debug__" : Str)) = false := by decide) : DE X A (.Name x pos) (dC d) := let ⟨a, hm, r⟩ := h.ex; de_glob (v := .ref a) hg hm rfl (fun B => r _ B) hd
end
theorem kitT_tuple {K : PySem.W.Frag} : KitT K "tuple" := ⟨fun t h => by
  unfold names6 at h
  simp only [List.mem_cons, List.not_mem_nil, or_false] at h
  rcases h with rfl | rfl | rfl | rfl | rfl | rfl <;> exact kit_ty (by decide +kernel)⟩
theorem kitT_list {K : PySem.W.Frag} : KitT K "list" := ⟨fun t h => by
  unfold names6 at h
  simp only [List.mem_cons, List.not_mem_nil, or_false] at h
  rcases h with rfl | rfl | rfl | rfl | rfl | rfl <;> exact kit_ty (by decide +kernel)⟩
theorem kitT_str {K : PySem.W.Frag} : KitT K "str" := ⟨fun t h => by
  unfold names6 at h
  simp only [List.mem_cons, List.not_mem_nil, or_false] at h
  rcases h with rfl | rfl | rfl | rfl | rfl | rfl <;> exact kit_ty (by decide +kernel)⟩
theorem kitT_bool {K : PySem.W.Frag} : KitT K "bool" := ⟨fun t h => by
  unfold names6 at h
  simp only [List.mem_cons, List.not_mem_nil, or_false] at h
  rcases h with rfl | rfl | rfl | rfl | rfl | rfl <;> exact kit_ty (by decide +kernel)⟩
theorem kitT_int {K : PySem.W.Frag} : KitT K "int" := ⟨fun t h => by
  unfold names6 at h
  simp only [List.mem_cons, List.not_mem_nil, or_false] at h
  rcases h with rfl | rfl | rfl | rfl | rfl | rfl <;> exact kit_ty (by decide +kernel)⟩
end DL

/-! DL8: drawing, the law's own frame. -/
namespace DL
open PySem PySem.Spec L2

/-- any number from nought, below many -/
def S__law_drawn : DSpec := fun ds P => ∃ n : Int, ds = [.dict [], .int n] ∧ 0 < n ∧ n.natAbs.log2 < 9000 ∧ ∀ x : Int, 0 ≤ x → x < n → P (.ret (.int x))
theorem tok_inv {K : PySem.W.Frag} {c : Dc} {B : Hp} {v : V} (r : Rp K c B v (.dict [])) : v = .ref c.st := by cases r; rfl
theorem int_inv {K : PySem.W.Frag} {c : Dc} {B : Hp} {v : V} {n : Int} (r : Rp K c B v (.int n)) : v = .int n := by cases r; rfl
/-- the drawing list is written -/
theorem draw_step {K : PySem.W.Frag} {c : Dc} {B H : Hp} {k m r : Int} (o : Ok K c B H) (h1 : 0 ≤ k) (h2 : 0 ≤ m) (h3 : 0 ≤ r) : Ex K c B H B (upd H c.st (.lst [.ref c.scr, .int k, .int m, .int r])) := by
  obtain ⟨k0, m0, r0, e, _, _, _, h4, h5⟩ := o.wd
  refine ⟨Same.refl B, fun a u q => ?_, fun a u n q _ => ?_, fun _ _ => rfl, o.st, ⟨k, m, r, upd_same, h1, h2, h3, h4.mono (fun oo u q => ?_) (fun xs hs q => ?_), tabs_upd h5 e⟩, o.wd.sl, o.nt⟩
  · rw [upd_ne (fun z => by rw [z, o.st] at q; cases q)]; exact o.sh a u q
  · rw [upd_ne n]; exact q
  · rw [upd_ne (fun z => by rw [z, e] at q; cases q)]; exact q
  · rcases h4 with ⟨_, q2⟩ | ⟨q2, _⟩
    · rw [upd_ne (fun z => by
        rw [z, e] at q2
        injection q2 with q2
        injection q2 with q2
        cases hn : c.ns with
        | nil => rw [hn] at q2; cases q2
        | cons n r => rw [hn] at q2; injection q2 with qa qb; cases qa)]
      exact q
    · rw [hs] at q2; cases q2
def dPos (n : Int) : Prop := 0 < n ∧ n.natAbs.log2 < 9000
theorem atI4 {a b c d : V} : atI [a, b, c, d] (0 : Int) = some a ∧ atI [a, b, c, d] (1 : Int) = some b ∧ atI [a, b, c, d] (2 : Int) = some c ∧ atI [a, b, c, d] (3 : Int) = some d := ⟨rfl, rfl, rfl, rfl⟩
/-- the reading of the drawing def's body -/
theorem big18 : (10 : Int) ^ (18 : Int).toNat = 1000000000000000000 := by decide

/-! ### raise X('..') -/
structure ExcK (K : PySem.W.Frag) (mg : Str → Option Value) (n : Str) : Prop where
  ex : ∃ C, mg n = some (.ref C) ∧ PySem.W.excIn K C [.type "ValueError", .type "Exception", .type "BaseException", .type "object"] "ValueError.__new__" = true ∧ PySem.W.keepIn K (.ref C) = true ∧ PySem.W.subIn K (.ref C) (.type "BaseException") = some true ∧ PySem.W.typeIn K (.ref C) = some (.type "type")
def dRaise (n : Str) : STd := fun xq _ _ => xq n none
theorem ds_raise {X : Cx} {A : Act} {n m : Str} {j : Nat} {p p2 pos pos' : Pos} (x : ExcK X.K X.mg n) (tk : Takes X (fun cls d _ H => A.E cls d H)) (hc : X.calm = true) (hg : Gl X n) (hdb : (n == ("__debug__" : Str)) = false := by decide) :
    DS X A (.Raise (some (.Call (.Name n p) [.Constant (.str m) j p2] [] pos)) none pos') (dRaise n) := ⟨fun {xq σ B H ρ Dd D} g q l => by
  obtain ⟨C, gC, xC, kC, bC, tC⟩ := x.ex
  refine PSw (ps_raise hc tk (pmk_own PySem.F.excBase_ValueError xC gC kC (raises_own bC tC) hg hdb)) ?_
  exact g.hx.ex n none q C gC B H g.ex⟩
theorem tk_of {P : Program} {w : World} {K : PySem.W.Frag} {mg : Str → Option Value} {base : Heap} {qual : Str} {f : Addr} {N : List Str} {cdv : Value} {A : Around} {outer : List Env} {s : Shared} {H : Hp} {E : XK} {sc : Scope} :
    Takes (cxOf (L2.CX P w) P w K mg base N qual sc f cdv A outer s H E) (fun cls d _ H => E cls d H) := takes_of rfl rfl rfl rfl

/-! ### the start, the law's own frame -/
def spStart (K : PySem.W.Frag) : Sp := fun vs H Q _ => ∃ (a : Addr) (ns : List Int), vs = [.ref a] ∧ SqL K H a (ns.map V.int) ∧ ∀ p m, H p = none → 0 ≤ m → Q (.ref p) (upd H p (.lst [.ref a, .int 0, .int m, .int 0]))
def spLaw (K : PySem.W.Frag) : Sp := fun vs H Q _ => ∃ (a : Addr) (ns : List Int), vs = [.ref a] ∧ SqF K H a (ns.map V.int) ∧ ∀ H', Q (.bl true) H'
/-- the law's, with the table of its code objects -/
def spLawT (K : PySem.W.Frag) (P0 : Addr) : Sp := fun vs H Q _ => ∃ (a : Addr) (ns : List Int), vs = [.ref a] ∧ SqL K H a (ns.map V.int) ∧ H P0 = some (.tbl #[]) ∧ ∀ H', Q (.bl true) H'
theorem sqF_of {K : PySem.W.Frag} {H : Hp} {a : Addr} {xs : List V} (o : Only H) (h : SqL K H a xs) : SqF K H a xs := by
  rcases h with (h | h) | h
  · rcases o a with z | ⟨_, _, z⟩
    · rw [h] at z; cases z
    · rw [h] at z; cases z
  · exact .inl h
  · exact .inr h
theorem cx_false {P : Program} {w : World} {l : List Env} {H : Hp} {s : Shared} {e : Value} {s' : Shared} (h : L2.CX P w l H s (fun _ _ _ => False) e s') : False := by
  obtain ⟨_, _, _, _, _, _, _, _, _, _, _, _, z⟩ := h
  exact z
def lawEnds : DEnds := { nx := fun _ => False, rt := fun o => o = .ret (.bool true) }
def lawEnv (m : Nat) : List EV := EV.un :: EV.d (.dict []) :: List.replicate m EV.un
theorem law_runT {X : Cx} {tb : List (Addr × Str)} {a p : Addr} {ns : List Int} {m : Int} {H : Hp} {E : XK} {sts : List Stmt} {F : STd} {Q : VK} {n : Nat} (key : ∀ (ha : Addr) (sl : Bool), DSs X ⟨⟨p, a, ns, ha, tb, sl⟩, fun _ => none, upd H p (.lst [.ref a, .int 0, .int m, .int 0]), E⟩ sts F) (hF : SqL X.K H a (ns.map V.int)) (hp : H p = none) (hm : 0 ≤ m) (hT : LamX.Tabs tb H)
    (main : F nxq (lawEnv n) lawEnds) (q : ∀ H', Q (.bl true) H') {nx : L2.St → Hp → Prop} {σ : L2.St} (hσ : σ = some (.ref a) :: some (.ref p) :: List.replicate n none) : wSs X sts { nx := nx, rt := Q } σ (upd H p (.lst [.ref a, .int 0, .int m, .int 0])) := by
  subst hσ
  obtain ⟨ha, hh⟩ : ∃ ha : Addr, ∀ C, X.mg "Hall" = some (.ref C) → C = ha := by
    cases e : X.mg "Hall" with
    | none => exact ⟨0, fun C h => nomatch h⟩
    | some v =>
      cases v with
      | ref C => exact ⟨C, fun C' h => by cases h; rfl⟩
      | _ => exact ⟨0, fun C h => nomatch h⟩
  obtain ⟨sl, hS⟩ : ∃ sl : Bool, (sl = true ∧ H a = some (.lst (ns.map V.int))) ∨ (sl = false ∧ SqF X.K H a (ns.map V.int)) := by
    rcases hF with (h | h) | h
    · exact ⟨true, .inl ⟨rfl, h⟩⟩
    · exact ⟨false, .inr ⟨rfl, .inl h⟩⟩
    · exact ⟨false, .inr ⟨rfl, .inr h⟩⟩
  have wd : Wd X.K ⟨p, a, ns, ha, tb, sl⟩ (upd H p (.lst [.ref a, .int 0, .int m, .int 0])) := ⟨0, m, 0, upd_same, by decide, hm, by decide, hS.elim (fun q => .inl ⟨q.1, by show upd H p _ a = _; rw [upd_ne (fun e => by rw [← e, q.2] at hp; cases hp)]; exact q.2⟩) (fun q => .inr ⟨q.1, q.2.mono fun o u z => by rw [upd_ne (fun e => by rw [e, hp] at z; cases z)]; exact z⟩), hT.ext fun b o z => by rw [upd_ne (fun e => by rw [e, hp] at z; cases z)]; exact z⟩
  have ok : Ok X.K ⟨p, a, ns, ha, tb, sl⟩ (fun _ => none) (upd H p (.lst [.ref a, .int 0, .int m, .int 0])) := ⟨(fun b o z => nomatch z), rfl, wd, fun _ _ z => nomatch z⟩
  refine (key ha sl).run ⟨⟨fun n r z => z.elim, hh⟩, ok.refl, ⟨by simp [lawEnv], fun _ _ => False, fun i s e hs he => ?_, fun _ _ z => z.elim, fun _ _ _ z => z.elim⟩⟩ main ⟨fun _ _ _ _ z => z.elim, fun o B' H' v e x r => ?_, fun _ _ _ _ z => z.elim, fun _ _ _ _ z => z.elim⟩
  · match i with
    | 0 => cases he; trivial
    | 1 => cases he; cases hs; exact ⟨_, rfl, .tok⟩
    | i + 2 =>
      have he' : (List.replicate n EV.un)[i]? = some e := he
      obtain ⟨_, e2⟩ := List.mem_replicate.mp (List.mem_of_getElem? he')
      subst e2
      trivial
  · have e' : o = .ret (.bool true) := e
    subst e'
    cases (show Rp _ _ _ v (.bool true) from r)
    exact q H'
theorem law_run {X : Cx} {a p : Addr} {ns : List Int} {m : Int} {H : Hp} {E : XK} {sts : List Stmt} {F : STd} {Q : VK} {n : Nat} (key : ∀ (ha : Addr) (sl : Bool), DSs X ⟨⟨p, a, ns, ha, [], sl⟩, fun _ => none, upd H p (.lst [.ref a, .int 0, .int m, .int 0]), E⟩ sts F) (hF : SqF X.K H a (ns.map V.int)) (hp : H p = none) (hm : 0 ≤ m)
    (main : F nxq (lawEnv n) lawEnds) (q : ∀ H', Q (.bl true) H') {nx : L2.St → Hp → Prop} {σ : L2.St} (hσ : σ = some (.ref a) :: some (.ref p) :: List.replicate n none) : wSs X sts { nx := nx, rt := Q } σ (upd H p (.lst [.ref a, .int 0, .int m, .int 0])) :=
  law_runT key hF.seq hp hm (fun _ h => nomatch h) main q hσ
end DL

/-! DL9: own lists of own lists. -/
namespace DL
open PySem PySem.Spec L2

/-! ### made -/
/-- a new list, n + 1 deep, that is nobody's yet -/
def FPost (X : Cx) (A : Act) (B H : Hp) (n : Nat) (P : List PyData → Prop) : VK := fun v H' => ∃ ys B' F, P ys ∧ Ex X.K A.c B H B' H' ∧ Ow X.K A.c B' H' (n + 1) v (.list ys) F ∧ ∀ a, F a → Fre H a ∧ B' a = none ∧ ∃ o, H' a = some o ∧ ∀ ps, o ≠ .tbl ps
structure RD (X : Cx) (A : Act) (n : Nat) (t : TE) (F : AT) : Prop where
  run : ∀ {xq σ B H ρ P}, Cfg X A xq σ B H ρ → F xq ρ P → ∀ {Q : VK}, (∀ v H', FPost X A B H n P v H' → Q v H') → t σ H Q
structure DF (X : Cx) (A : Act) (n : Nat) (e : Expr) (F : AT) : Prop where
  run : ∀ {xq σ B H ρ P}, Cfg X A xq σ B H ρ → F xq ρ P → wE X e σ H (FPost X A B H n P)
section
variable {X : Cx} {A : Act}
theorem rps_at {K : PySem.W.Frag} {c : Dc} {B : Hp} {vs : List V} {ds : List PyData} (r : Rps K c B vs ds) {i : Nat} {v : V} {d : PyData} (a : vs[i]? = some v) (b : ds[i]? = some d) : Rp K c B v d := by
  obtain ⟨w, e, q⟩ := r.get b
  rw [e] at a; cases a
  exact q
theorem LPost.f {B H : Hp} {P : List PyData → Prop} {v : V} {H' : Hp} (h : LPost X A B H P v H') : FPost X A B H 0 P v H' := by
  obtain ⟨ys, B', p, vs, q, rfl, x, hp, bp, h2, r⟩ := h
  refine ⟨ys, B', fun a => a = p, q, x, ⟨p, vs, ys, rfl, rfl, h2, rfl, r.length, fun _ _ => False, fun i v d a b => rps_at r a b, fun _ _ z => z.elim, fun _ _ _ z => z.elim⟩, fun a z => ?_⟩
  subst z
  exact ⟨hp, bp, _, h2, nofun⟩
theorem RL.rd {t : TE} {F : AT} (h : RL X A t F) : RD X A 0 t F := ⟨fun g q _ m => h.run g q fun v H' l => m v H' l.f⟩
theorem RD.df {n : Nat} {e : Expr} {F : AT} (h : RD X A n (wE X e) F) : DF X A n e F := ⟨fun g q => h.run g q fun _ _ z => z⟩
theorem RL.df {e : Expr} {F : AT} (h : RL X A (wE X e) F) : DF X A 0 e F := h.rd.df
/-- the elements fresh -/
def dLcD (i : AT) (g : Tg) (t : TTd) (f : AT) (vs : List Nat) : AT := fun xq ρ P => i xq ρ fun ds => ds.length ≤ 100000 ∧ lcD (fun x => g.d x (wipeD ρ vs)) (t nxq) (fun ρ Q => f nxq ρ fun ys => Q (.list ys)) ds P
theorem lc_readD {elt tg' iter : Expr} {ifs : List Expr} {scope : Scope} {own : List (Str × Nat)} {i : AT} {t : TTd} {f : AT} {n : Nat} (tg : Tg) (hc : X.calm = true) (hN : X.N.Nodup) (hi : DI X A tg' iter i) (ok : BlkOk X.N X.env.scope scope own)
    (hg : ∀ (s : Shared) (H : Hp) (C : Addr) (cl : List (Str × Addr)) (fp : List Addr), PG (Blk X s H scope cl C fp) tg' (tg.g X.K))
    (ht : ∀ (s : Shared) (H : Hp) (C : Addr) (cl : List (Str × Addr)) (fp : List Addr), DTs (Blk X s H scope cl C fp) A.blk ifs t)
    (he : ∀ (s : Shared) (H : Hp) (C : Addr) (cl : List (Str × Addr)) (fp : List Addr), DF (Blk X s H scope cl C fp) A.blk n elt f)
    (hv : ∀ j ∈ tg.slots, j ∈ own.map (·.2) := by decide) (hs : ∀ x, foldedSetIterable iter X.env x = pure x := by intro _; rfl)
    {xq : XQ} {σ : L2.St} {B H : Hp} {ρ : List EV} {P : List PyData → Prop} (gf : Cfg X A xq σ B H ρ) (h : i xq ρ fun ds => ds.length ≤ 100000 ∧ lcD (fun x => tg.d x (wipeD ρ (own.map (·.2)))) (t nxq) (fun ρ Q => f nxq ρ fun ys => Q (.list ys)) ds P) {Q : VK} (hQ : ∀ v H', FPost X A B H (n + 1) P v H' → Q v H') :
    tLc (wI X tg' iter) (tg.g X.K) (bT X scope ifs) (bE X scope elt) (own.map (·.2)) σ H Q := by
  refine (hi.run gf h).mono fun J H1 ⟨ds, B1, ⟨hz, hl⟩, x1, wk⟩ => ?_
  intro D hD
  have o1 := x1.ok
  have dst : D ≠ A.c.st := fun z => by rw [z] at hD; exact o1.wd.ne hD
  let Inv' : (Nat → Addr → Prop) → Hp → Hp → List V → List PyData → Prop := fun g B' H' acc as => acc.length = as.length ∧ (∀ i v d, acc[i]? = some v → as[i]? = some d → Ow X.K A.c B' H' (n + 1) v d (g i)) ∧ (∀ i a, g i a → Fre H1 a ∧ B' a = none ∧ a ≠ D ∧ ∃ o, H' a = some o ∧ ∀ ps, o ≠ .tbl ps) ∧ ∀ i j a, g i a → g j a → i = j
  have stepI : ∀ {g B' H' B'' H'' acc as}, Ex X.K A.c B' H' B'' H'' → Inv' g B' H' acc as → Inv' g B'' H'' acc as := by
    rintro g B' H' B'' H'' acc as x ⟨e, h1, h2, h3⟩
    have nst : ∀ i a, g i a → a ≠ A.c.st := fun i a z w => by
      have := (h2 i a z).1
      rw [w] at this
      exact o1.wd.nfre this
    refine ⟨e, fun i v d a b => Ow.mono x.sb (fun _ z => z) (fun a vs z q => x.fr a _ (nst i a z) q nofun) (h1 i v d a b), fun i a z => ?_, h3⟩
    obtain ⟨q1, q2, q3, o, q4, q5⟩ := h2 i a z
    exact ⟨q1, by rw [x.nw a (fun f => f.no q4 q5), q2], q3, o, x.fr a o (nst i a z) q4 q5, q5⟩
  refine ⟨fun i m H' => m = ds.length - i ∧ i ≤ ds.length ∧ ∃ B' acc as g, Ex X.K A.c B1 H1 B' H' ∧ H' D = some (.lst acc) ∧ B' D = none ∧ Inv' g B' H' acc as ∧ as.length ≤ i ∧
      lcD (fun x => tg.d x (wipeD ρ (own.map (·.2)))) (t nxq) (fun ρ Q => f nxq ρ fun ys => Q (.list ys)) (ds.drop i) fun ys => P (as ++ ys),
    ⟨ds.length, by omega, Nat.zero_le _, B1, [], [], fun _ _ => False, o1.newOwn hD, upd_same, ?_, ⟨rfl, (fun i v d a => by simp at a), fun _ _ z => z.elim, fun _ _ _ z => z.elim⟩, Nat.le_refl _, by simpa using hl⟩, ?_⟩
  · cases q : B1 D with
    | none => rfl
    | some u => rw [o1.sh _ _ q] at hD; cases hD
  rintro i m H2 ⟨rfl, hi2, B2, acc, as, g, x2, hD2, bD2, r2, la, q2⟩
  by_cases hlt : i < ds.length
  · refine .inr ⟨wk.go i B2 H2 x2.sb x2.ok hlt, fun H' => i + 1 ≤ ds.length ∧ ∃ B' acc as g, Ex X.K A.c B1 H1 B' H' ∧ H' D = some (.lst acc) ∧ B' D = none ∧ Inv' g B' H' acc as ∧ as.length ≤ i + 1 ∧
      lcD (fun x => tg.d x (wipeD ρ (own.map (·.2)))) (t nxq) (fun ρ Q => f nxq ρ fun ys => Q (.list ys)) (ds.drop (i + 1)) fun ys => P (as ++ ys), fun H' hN' => ⟨ds.length - (i + 1), by omega, rfl, hN'⟩, fun x H3 y => ?_⟩
    obtain ⟨B3, d, x3, ed, rd⟩ := wk.yld i B2 H2 x H3 x2.sb x2.ok hlt y
    rw [List.drop_eq_getElem_cons hlt] at q2
    have ed' : ds[i] = d := by rw [List.getElem?_eq_getElem hlt] at ed; exact Option.some.inj ed
    rw [ed'] at q2
    have x03 := (x1.trans x2).trans x3
    have en3 : EnvOk X.K A.c A.H0 B3 H3 (wipe σ (own.map (·.2))) (wipeD ρ (own.map (·.2))) := wipeD_ok (gf.en.step x03) _
    have tr := tg.run (A := A) (vs := own.map (·.2)) en3 x3.sh rd hv q2
    refine tg.mono tr fun σ4 H4 ⟨eH, ρ4, q4, en4, ew⟩ => ?_
    subst eH
    have ew' : wipe σ4 (own.map (·.2)) = wipe σ (own.map (·.2)) := by
      rw [ew]
      apply List.ext_getElem?
      intro j
      by_cases hj : j ∈ own.map (·.2)
      · by_cases hl : j < σ.length
        · rw [wipe_get hj (by rw [wipe_length]; exact hl), wipe_get hj hl]
        · rw [List.getElem?_eq_none (by rw [wipe_length, wipe_length]; omega), List.getElem?_eq_none (by rw [wipe_length]; omega)]
      · rw [wipe_out hj]
    refine ⟨ew', fun s Hb C cl fp => ?_⟩
    have ex4 : Ex X.K A.c A.B0 A.H0 B3 H4 := gf.ex.trans x03
    have cfg4 : Cfg (Blk X s Hb scope cl C fp) A.blk nxq σ4 B3 H4 ρ4 := ⟨⟨fun _ _ z => z.elim, gf.hx.hall⟩, ex4, en4⟩
    obtain ⟨tt, ptt, qt⟩ := dts_w (ht s Hb C cl fp) cfg4 q4
    refine ⟨fun σ H Q => ∃ R, tt σ H R ∧ ∀ b H', R b H' → Q b H', ⟨fun pins s' σ H Q I ⟨R, a, b⟩ => thn (ptt.run pins s' σ H R I a) fun u s2 ⟨H', I', q⟩ => ⟨H', I', b _ _ q⟩⟩, _, qt, fun b H5 ⟨B5, q5, x5⟩ => ?_⟩
    have x25 := x2.trans (x3.trans x5)
    have hD5 : H5 D = some (.lst acc) := (x3.trans x5).fr D _ dst hD2 nofun
    have bD5 : B5 D = none := by rw [(x3.trans x5).nw D (fun f => f.no hD2 nofun), bD2]
    cases b with
    | false =>
      simp only [Bool.false_eq_true, if_false] at q5
      refine iteF ?_
      exact ⟨by omega, B5, acc, as, g, x25, hD5, bD5, stepI (x3.trans x5) r2, by omega, q5⟩
    | true =>
      simp only [if_true] at q5
      refine iteT ?_
      intro s' Hb' C' cl' fp'
      have cfg5 : Cfg (Blk X s' Hb' scope cl' C' fp') A.blk nxq σ4 B5 H5 ρ4 := ⟨⟨fun _ _ z => z.elim, gf.hx.hall⟩, ex4.trans x5, en4.step x5⟩
      refine ((he s' Hb' C' cl' fp').run cfg5 q5).mono fun w H6 ⟨d6, B6, F6, q6, x6, r6, f6⟩ => ?_
      have hD6 : H6 D = some (.lst acc) := x6.fr D _ dst hD5 nofun
      have bD6 : B6 D = none := by rw [x6.nw D (fun f => f.no hD5 nofun), bD5]
      have r5 := stepI (x3.trans x5) r2
      obtain ⟨el, g1, g2, g3⟩ := stepI x6 r5
      have nF : ∀ a, F6 a → a ≠ D := fun a z w => by
        have := (f6 a z).1
        rw [w] at this
        exact this.no hD5 nofun
      have F1 : ∀ a, F6 a → Fre H1 a := fun a z => x25.free (f6 a z).1
      refine ⟨acc, hD6, small_line (by rw [el]; omega), by omega, B6, acc ++ [w], as ++ [.list d6], fun i a => (i < acc.length ∧ g i a) ∨ (i = acc.length ∧ F6 a), ?_, upd_same, bD6, ⟨by simp [el], fun i v d a b => ?_, fun i a z => ?_, fun i j a p q => ?_⟩, ?_, ?_⟩
      · exact (x25.trans x6).setL hD6 bD6 dst (.of hD)
      · by_cases hia : i < acc.length
        · rw [List.getElem?_append_left hia] at a
          rw [List.getElem?_append_left (by omega)] at b
          exact Ow.mono (Same.refl _) (fun _ z => .inl ⟨hia, z⟩) (fun a vs z q => by rw [upd_ne (g2 i a z).2.2.1]; exact q) (g1 i v d a b)
        · have e : i = acc.length := by
            have := (List.getElem?_eq_some_iff.mp a).1
            simp at this
            omega
          subst e
          rw [List.getElem?_append_right (Nat.le_refl _), Nat.sub_self] at a
          rw [List.getElem?_append_right (by omega), el, Nat.sub_self] at b
          cases a; cases b
          exact Ow.mono (Same.refl _) (fun _ z => .inr ⟨rfl, z⟩) (fun a vs z q => by rw [upd_ne (nF a z)]; exact q) r6
      · rcases z with ⟨hia, z⟩ | ⟨_, z⟩
        · obtain ⟨q1, q2, q3, o, q4, q5⟩ := g2 i a z
          exact ⟨q1, q2, q3, o, by rw [upd_ne q3]; exact q4, q5⟩
        · obtain ⟨q1, q2, o, q3, q5⟩ := f6 a z
          exact ⟨F1 a z, q2, nF a z, o, by rw [upd_ne (nF a z)]; exact q3, q5⟩
      · have old : ∀ i a, g i a → F6 a → False := fun i a p q => by
          obtain ⟨_, _, _, o, q4, q5⟩ := r5.2.2.1 i a p
          exact (f6 a q).1.no q4 q5
        rcases p with ⟨_, p⟩ | ⟨p0, p⟩
        · rcases q with ⟨_, q⟩ | ⟨_, q⟩
          · exact g3 i j a p q
          · exact (old i a p q).elim
        · rcases q with ⟨_, q⟩ | ⟨q0, q⟩
          · exact (old j a q p).elim
          · rw [p0, q0]
      · rw [List.length_append, List.length_singleton]; omega
      · simpa [List.append_assoc] using q6
  · have e : i = ds.length := by omega
    subst e
    rw [List.drop_length] at q2
    obtain ⟨el, g1, g2, g3⟩ := r2
    refine .inl ⟨wk.stop _ B2 H2 x2.sb x2.ok (Nat.le_refl _), hQ _ _ ⟨as, B2, fun a => a = D ∨ ∃ i, g i a, by simpa [lcD] using q2, x1.trans x2, ⟨D, acc, as, rfl, rfl, hD2, .inl rfl, el, g, g1, fun i a z => ⟨.inr ⟨i, z⟩, (g2 i a z).2.2.1⟩, g3⟩, fun a z => ?_⟩⟩
    rcases z with z | ⟨i, z⟩
    · rw [z]
      exact ⟨x1.free (.of hD), bD2, _, hD2, nofun⟩
    · obtain ⟨q1, q2, q3, o, q4⟩ := g2 i a z
      exact ⟨x1.free q1, q2, o, q4⟩

theorem rd_lc {elt tg' iter : Expr} {ifs : List Expr} {scope : Scope} {own : List (Str × Nat)} {i : AT} {t : TTd} {f : AT} {n : Nat} (tg : Tg) (hc : X.calm = true) (hN : X.N.Nodup) (hi : DI X A tg' iter i) (ok : BlkOk X.N X.env.scope scope own)
    (hg : ∀ (s : Shared) (H : Hp) (C : Addr) (cl : List (Str × Addr)) (fp : List Addr), PG (Blk X s H scope cl C fp) tg' (tg.g X.K))
    (ht : ∀ (s : Shared) (H : Hp) (C : Addr) (cl : List (Str × Addr)) (fp : List Addr), DTs (Blk X s H scope cl C fp) A.blk ifs t)
    (he : ∀ (s : Shared) (H : Hp) (C : Addr) (cl : List (Str × Addr)) (fp : List Addr), DF (Blk X s H scope cl C fp) A.blk n elt f)
    (hv : ∀ j ∈ tg.slots, j ∈ own.map (·.2) := by decide) (hs : ∀ x, foldedSetIterable iter X.env x = pure x := by intro _; rfl) :
    RD X A (n + 1) (tLc (wI X tg' iter) (tg.g X.K) (bT X scope ifs) (bE X scope elt) (own.map (·.2))) (dLcD i tg t f (own.map (·.2))) := ⟨fun {xq σ B H ρ P} gf h Q m =>
  lc_readD tg hc hN hi ok hg ht he hv hs gf h m⟩
theorem df_lc {elt tg' iter : Expr} {ifs : List Expr} {scope : Scope} {own : List (Str × Nat)} {pos : Pos} {i : AT} {t : TTd} {f : AT} {n : Nat} (tg : Tg) (hc : X.calm = true) (hN : X.N.Nodup) (hi : DI X A tg' iter i) (ok : BlkOk X.N X.env.scope scope own)
    (hg : ∀ (s : Shared) (H : Hp) (C : Addr) (cl : List (Str × Addr)) (fp : List Addr), PG (Blk X s H scope cl C fp) tg' (tg.g X.K))
    (ht : ∀ (s : Shared) (H : Hp) (C : Addr) (cl : List (Str × Addr)) (fp : List Addr), DTs (Blk X s H scope cl C fp) A.blk ifs t)
    (he : ∀ (s : Shared) (H : Hp) (C : Addr) (cl : List (Str × Addr)) (fp : List Addr), DF (Blk X s H scope cl C fp) A.blk n elt f)
    (hv : ∀ j ∈ tg.slots, j ∈ own.map (·.2) := by decide) (hs : ∀ x, foldedSetIterable iter X.env x = pure x := by intro _; rfl) :
    DF X A (n + 1) (.ListComp elt [⟨tg', iter, ifs, 0⟩] scope pos) (dLcD i tg t f (own.map (·.2))) := ⟨fun {xq σ B H ρ P} gf h =>
  PEw (pe_lc (wi := wI X tg' iter) (tt := bT X scope ifs) (te := bE X scope elt) hc hN (piW iter) ok hg bT_pt bE_pe hs) (lc_readD tg hc hN hi ok hg ht he hv hs gf h fun _ _ q => q)⟩
theorem df_lc0 {elt tg' iter : Expr} {ifs : List Expr} {scope : Scope} {own : List (Str × Nat)} {pos : Pos} {i : AT} {t : TTd} {f : ET} (tg : Tg) (hc : X.calm = true) (hN : X.N.Nodup) (hi : DI X A tg' iter i) (ok : BlkOk X.N X.env.scope scope own)
    (hg : ∀ (s : Shared) (H : Hp) (C : Addr) (cl : List (Str × Addr)) (fp : List Addr), PG (Blk X s H scope cl C fp) tg' (tg.g X.K))
    (ht : ∀ (s : Shared) (H : Hp) (C : Addr) (cl : List (Str × Addr)) (fp : List Addr), DTs (Blk X s H scope cl C fp) A.blk ifs t)
    (he : ∀ (s : Shared) (H : Hp) (C : Addr) (cl : List (Str × Addr)) (fp : List Addr), DE (Blk X s H scope cl C fp) A.blk elt f)
    (hv : ∀ j ∈ tg.slots, j ∈ own.map (·.2) := by decide) (hs : ∀ x, foldedSetIterable iter X.env x = pure x := by intro _; rfl) :
    DF X A 0 (.ListComp elt [⟨tg', iter, ifs, 0⟩] scope pos) (dLcL i tg t f (own.map (·.2))) := ⟨fun {xq σ B H ρ P} gf h =>
  PEw (pe_lc (wi := wI X tg' iter) (tt := bT X scope ifs) (te := bE X scope elt) hc hN (piW iter) ok hg bT_pt bE_pe hs) (lc_read tg hc hN hi ok hg ht he hv hs gf h fun _ _ q => q.f)⟩
/-- x = a new list of new lists -/
def dAsgD (n : Nat) (t : AT) (i : Nat) : STd := fun xq ρ D => t xq ρ fun ds => D.nx (ρ.set i (.deep n ds))
theorem ds_asgDR {st : Stmt} {t : TE} {ta : AT} (n i : Nat) (hp : PS X st (tAsg t (gName i))) (ht : RD X A (n + 1) t ta) : DS X A st (dAsgD n ta i) := ⟨fun {xq σ B H ρ Dd D} g q l => by
  refine PSw hp (ht.run g q fun v H' ⟨ys, B', F, q, x, ow, fr⟩ => ?_)
  refine l.nx _ _ B' H' q (g.ex.trans x) x.sb (g.en.putNew x i F ⟨v, rfl, ow⟩ (fun a z => ?_) fun a z => (fr a z).1)
  obtain ⟨f1, f2, f3⟩ := fr a z
  refine ⟨f2, fun w => ?_, g.ex.free f1, f3⟩
  rw [w] at f1
  exact g.ok.wd.nfre f1⟩

/-! ### paths -/
def AtP (c : Dc) (H : Hp) : V → List Nat → V → Prop
  | v, [], w => v = w
  | v, j :: js, w => ∃ o vs u, v = .ref o ∧ o ≠ c.st ∧ H o = some (.lst vs) ∧ vs[j]? = some u ∧ AtP c H u js w
theorem AtP.mono {c : Dc} {H H' : Hp} (m : ∀ a o, a ≠ c.st → H a = some o → (∀ ps, o ≠ .tbl ps) → H' a = some o) : ∀ {js : List Nat} {v w : V}, AtP c H v js w → AtP c H' v js w
  | [], _, _, h => h
  | j :: js, _, _, ⟨o, vs, u, e, n, h, a, r⟩ => ⟨o, vs, u, e, n, m _ _ n h nofun, a, AtP.mono m r⟩
theorem AtP.snoc {c : Dc} {H : Hp} : ∀ {js : List Nat} {v : V} {o : Addr} {vs : List V} {j : Nat} {u : V}, AtP c H v js (.ref o) → o ≠ c.st → H o = some (.lst vs) → vs[j]? = some u → AtP c H v (js ++ [j]) u
  | [], _, o, vs, j, u, e, n, h, a => ⟨o, vs, u, e, n, h, a, rfl⟩
  | k :: js, _, o, vs, j, u, ⟨o1, vs1, u1, e1, n1, h1, a1, r1⟩, n, h, a => ⟨o1, vs1, u1, e1, n1, h1, a1, AtP.snoc r1 n h a⟩
/-- the length of the own list at a path -/
def lenP : Nat → List PyData → List Nat → Option Nat
  | _, ds, [] => some ds.length
  | 0, _, _ :: _ => none
  | n + 1, ds, j :: js => match ds[j]? with
    | some (.list es) => lenP n es js
    | _ => none
/-- the data put at a path -/
def putP : Nat → List PyData → List Nat → PyData → Option (List PyData)
  | 0, ds, [j], d => if j < ds.length then some (ds.set j d) else none
  | n + 1, ds, j :: js, d => match ds[j]? with
    | some (.list es) => (putP n es js d).map fun es' => ds.set j (.list es')
    | _ => none
  | _, _, _, _ => none
def lenE : Option EV → List Nat → Option Nat
  | some (.own ds), js => lenP 0 ds js
  | some (.deep n ds), js => lenP (n + 1) ds js
  | _, _ => none
def putE : Option EV → List Nat → PyData → Option EV
  | some (.own ds), js, d => (putP 0 ds js d).map .own
  | some (.deep n ds), js, d => (putP (n + 1) ds js d).map (.deep n)
  | _, _, _ => none
section
variable {K : PySem.W.Frag} {c : Dc} {B H : Hp}
theorem Ow.len : ∀ {n : Nat} {js : List Nat} {v w : V} {ds : List PyData} {F : Addr → Prop} {m : Nat}, Ow K c B H (n + 1) v (.list ds) F → lenP n ds js = some m → AtP c H v js w → ∃ o vs, w = .ref o ∧ H o = some (.lst vs) ∧ vs.length = m ∧ F o
  | n, [], v, w, ds, F, m, ⟨o, vs, ds', e1, e2, h1, h2, hl, _⟩, hm, hp => by
    cases e2
    cases n <;> (simp only [lenP, Option.some.injEq] at hm; exact ⟨o, vs, (hp : v = w) ▸ e1, h1, by omega, h2⟩)
  | 0, _ :: _, _, _, _, _, _, _, hm, _ => by simp [lenP] at hm
  | n + 1, j :: js, v, w, ds, F, m, ⟨o, vs, ds', e1, e2, h1, h2, hl, g, g1, g2, g3⟩, hm, ⟨o', vs', u, e3, _, h3, a, r⟩ => by
    cases e2
    rw [e1] at e3; cases e3
    rw [h1] at h3; cases h3
    unfold lenP at hm
    split at hm
    · rename_i es he
      obtain ⟨o2, vs2, q1, q2, q3, q4⟩ := Ow.len (g1 j u (.list es) a he) hm r
      exact ⟨o2, vs2, q1, q2, q3, (g2 j _ q4).1⟩
    · cases hm
theorem Ow.putP : ∀ {n : Nat} {js : List Nat} {v u : V} {ds ds' : List PyData} {F : Addr → Prop} {o : Addr} {vs : List V} {j : Nat} {d : PyData}, Ow K c B H (n + 1) v (.list ds) F → AtP c H v js (.ref o) → H o = some (.lst vs) → Rp K c B u d → DL.putP n ds (js ++ [j]) d = some ds' →
    F o ∧ Ow K c B (upd H o (.lst (vs.set j u))) (n + 1) v (.list ds') F
  | 0, [], v, u, ds, ds', F, o, vs, j, d, ⟨o', vs', dz, e1, e2, h1, h2, hl, g, g1, g2, g3⟩, hp, ho, r, hd => by
    cases e2
    have e3 : v = .ref o := hp
    rw [e1] at e3; cases e3
    rw [h1] at ho; cases ho
    simp only [List.nil_append, DL.putP] at hd
    split at hd
    · cases hd
      refine ⟨h2, o, vs.set j u, ds.set j d, e1, rfl, upd_same, h2, by rw [List.length_set, List.length_set, hl], g, fun i v d' a b => ?_, g2, g3⟩
      by_cases e : j = i
      · subst e
        rw [List.getElem?_set_self (by rw [hl]; assumption)] at a
        rw [List.getElem?_set_self (by assumption)] at b
        cases a; cases b
        exact r
      · rw [List.getElem?_set_ne e] at a b
        exact Ow.mono (n := 0) (Same.refl _) (fun _ z => z) (fun a vs z q => by rw [upd_ne (g2 i a z).2]; exact q) (g1 i v d' a b)
    · cases hd
  | 0, k :: js, v, u, ds, ds', F, o, vs, j, d, _, _, _, _, hd => by
    cases js <;> simp [DL.putP] at hd
  | n + 1, [], v, u, ds, ds', F, o, vs, j, d, _, _, _, _, hd => by
    simp only [List.nil_append, DL.putP] at hd
    split at hd
    · cases n <;> simp [DL.putP] at hd
    · cases hd
  | n + 1, k :: js, v, u, ds, ds', F, o, vs, j, d, ⟨o1, vs1, dz, e1, e2, h1, h2, hl, g, g1, g2, g3⟩, ⟨o', vs', w, e3, nst, h3, a, r⟩, ho, rd, hd => by
    cases e2
    rw [e1] at e3; cases e3
    rw [h1] at h3; cases h3
    simp only [List.cons_append, DL.putP] at hd
    split at hd
    · rename_i es he
      obtain ⟨es', h4, h5⟩ := Option.map_eq_some_iff.mp hd
      subst h5
      obtain ⟨f1, q⟩ := Ow.putP (g1 k w (.list es) a he) r ho rd h4
      have hoF := g2 k o f1
      refine ⟨hoF.1, o1, vs1, ds.set k (.list es'), e1, rfl, by rw [upd_ne hoF.2.symm]; exact h1, h2, by rw [List.length_set, hl], g, fun i v d' b b' => ?_, g2, g3⟩
      by_cases e : k = i
      · subst e
        rw [List.getElem?_set_self (List.getElem?_eq_some_iff.mp he).1] at b'
        cases b'
        rw [a] at b; cases b
        exact q
      · rw [List.getElem?_set_ne e] at b'
        exact Ow.mono (Same.refl _) (fun _ z => z) (fun a vs z q => by rw [upd_ne (fun w => e (g3 k i o f1 (by rw [← w]; exact z)))]; exact q) (g1 i v d' b b')
    · cases hd
end
abbrev PT := XQ → List EV → (List Nat → Prop) → Prop
def PaPost (X : Cx) (A : Act) (B H : Hp) (σ : L2.St) (i : Nat) (P : List Nat → Prop) : VK := fun v H' => ∃ js B', P js ∧ Ex X.K A.c B H B' H' ∧ ∃ v0, σ[i]? = some (some v0) ∧ AtP A.c H' v0 js v
structure DP (X : Cx) (A : Act) (i : Nat) (e : Expr) (p : PT) : Prop where
  run : ∀ {xq σ B H ρ P}, Cfg X A xq σ B H ρ → p xq ρ P → wE X e σ H (PaPost X A B H σ i P)
def dPv (i : Nat) : PT := fun _ ρ P => match ρ[i]? with
  | some (.own _) => P []
  | some (.deep _ _) => P []
  | _ => False
def dPx (i : Nat) (p : PT) (t : ET) : PT := fun xq ρ P => p xq ρ fun js => t xq (frz ρ) fun d => match d with
  | .int k => ∃ m j, lenE ρ[i]? js = some m ∧ ixN m k = some j ∧ P (js ++ [j])
  | _ => False
theorem DE.frzF {e : Expr} {F : ET} (h : DE X A e F) {xq : XQ} {σ : L2.St} {B H : Hp} {ρ : List EV} {P : PyData → Prop} (g : Cfg X A xq σ B H ρ) (q : F xq (frz ρ) fun d => flat d = true ∧ P d) : wE X e σ H (EPost X A B H P) := h.re.flat g q fun _ _ z => z
theorem dp_var (i : Nat) {x : Str} {pos : Pos} (hN : X.N[i]? = some x := by rfl) (hv : Vis X.env.scope x := by first | exact Or.inl rfl | exact Or.inr (Or.inl rfl) | exact Or.inr (Or.inr rfl)) (hd : (x == ("__debug__" : Str)) = false := by decide)
    (hcd : (x == ("__classdict__" : Str)) = false := by decide) : DP X A i (.Name x pos) (dPv i) := ⟨fun {xq σ B H ρ P} g h => by
  unfold dPv at h
  split at h
  · rename_i ds e
    obtain ⟨o, vs, e1, _⟩ := g.en.owned e
    exact PEw (pe_var hN hv hd hcd) ⟨_, e1, [], B, h, g.ok.refl, _, e1, rfl⟩
  · rename_i n ds e
    obtain ⟨s, fp, e1, ⟨v, e2, _⟩, _⟩ := g.en.at e
    subst e2
    exact PEw (pe_var hN hv hd hcd) ⟨_, e1, [], B, h, g.ok.refl, _, e1, rfl⟩
  · exact h.elim⟩
/-- the list at a path of an own thing -/
theorem own_list {xq : XQ} {σ : L2.St} {B H : Hp} {ρ : List EV} {i m : Nat} {js : List Nat} {v0 v : V} (g : Cfg X A xq σ B H ρ) (hm : lenE ρ[i]? js = some m) (hs : σ[i]? = some (some v0)) (hp : AtP A.c H v0 js v) : ∃ o vs, v = .ref o ∧ o ≠ A.c.st ∧ B o = none ∧ Fre A.H0 o ∧ H o = some (.lst vs) ∧ vs.length = m := by
  unfold lenE at hm
  split at hm
  · rename_i e
    obtain ⟨s, fp, e1, ok, fr⟩ := g.en.at e
    rw [hs] at e1; cases e1
    obtain ⟨o, vs, e2, h1, h2, r⟩ := ok
    cases e2
    obtain ⟨o2, vs2, q1, q2, q3, q4⟩ := Ow.len (K := X.K) (c := A.c) (B := B) (n := 0) (F := fp) ⟨o, vs, _, rfl, rfl, h1, h2, r.length, fun _ _ => False, fun i v d a b => rps_at r a b, fun _ _ z => z.elim, fun _ _ _ z => z.elim⟩ hm hp
    exact ⟨o2, vs2, q1, (fr o2 q4).nst, (fr o2 q4).nb, (fr o2 q4).n0, q2, q3⟩
  · rename_i e
    obtain ⟨s, fp, e1, ⟨v, e2, ow⟩, fr⟩ := g.en.at e
    rw [hs] at e1; cases e1
    cases e2
    obtain ⟨o2, vs2, q1, q2, q3, q4⟩ := ow.len hm hp
    exact ⟨o2, vs2, q1, (fr o2 q4).nst, (fr o2 q4).nb, (fr o2 q4).n0, q2, q3⟩
  · cases hm
theorem dp_ix {a b : Expr} {i : Nat} {p : PT} {t : ET} {pos : Pos} (ha : DP X A i a p) (hb : DE X A b t) (hs : PlainIx b := by intro _ _; rfl) : DP X A i (.Subscript a b pos) (dPx i p t) := ⟨fun {xq σ B H ρ P} g h => by
  refine PEw (pe_ix ix_list (peW a) (peW b) hs) ((ha.run g h).mono fun v H1 ⟨js, B1, q, x1, v0, s0, at0⟩ => ?_)
  have g1 := g.step x1
  obtain ⟨Bp, gp, ov⟩ := frz_cfg g1
  refine (hb.run gp q).mono fun k H2 ⟨d, Bp2, q2, xp, rk⟩ => ?_
  obtain ⟨B2, x2, _⟩ := ov.back xp
  obtain ⟨kk, rfl⟩ : ∃ kk : Int, d = .int kk := by
    cases d <;> first | exact False.elim q2 | exact ⟨_, rfl⟩
  cases int_inv rk
  obtain ⟨m, j, hm, hj, q3⟩ := q2
  have g2 := g1.step x2
  have at2 := at0.mono x2.fr
  obtain ⟨o, vs, ev, nst, nb, n0, ho, hl⟩ := own_list g2 hm s0 at2
  subst ev
  have hjl : j < vs.length := by rw [hl]; exact (ixN_seq hj).2.1
  exact ⟨o, vs, kk, vs[j], rfl, rfl, SqL.of ho, by unfold atI; rw [hl, hj]; exact List.getElem?_eq_getElem hjl, js ++ [j], B2, q3, x1.trans x2, v0, s0, at2.snoc nst ho (List.getElem?_eq_getElem hjl)⟩⟩
/-- path[t] = tv -/
def dPut (i : Nat) (p : PT) (t : ET) (tv : ET) : STd := fun xq ρ D => tv xq (frz ρ) fun d => flat d = true ∧ p xq ρ fun js => t xq (frz ρ) fun k => match k with
  | .int k => ∃ m j e, lenE ρ[i]? js = some m ∧ ixN m k = some j ∧ putE ρ[i]? (js ++ [j]) d = some e ∧ D.nx (ρ.set i e)
  | _ => False
theorem put_nx {xq : XQ} {σ : L2.St} {B H : Hp} {ρ : List EV} {Dd : DEnds} {D : Ends} {i j : Nat} {js : List Nat} {v0 u : V} {o : Addr} {vs : List V} {d : PyData} {e : EV} (g : Cfg X A xq σ B H ρ) (hs : σ[i]? = some (some v0)) (hp : AtP A.c H v0 js (.ref o)) (ho : H o = some (.lst vs)) (r : Rp X.K A.c B u d)
    (hd : putE ρ[i]? (js ++ [j]) d = some e) (q : Dd.nx (ρ.set i e)) (l : Lnk X A B Dd D) : D.nx σ (upd H o (.lst (vs.set j u))) := by
  have key : EnvOk X.K A.c A.H0 B (upd H o (.lst (vs.set j u))) σ (ρ.set i e) ∧ Fr A.c A.H0 B H o := by
    unfold putE at hd
    split at hd
    · rename_i ds he
      obtain ⟨ds', h1, h2⟩ := Option.map_eq_some_iff.mp hd
      subst h2
      obtain ⟨s, fp, e1, ok, fr⟩ := g.en.at he
      rw [hs] at e1; cases e1
      obtain ⟨o1, vs1, e2, h3, h4, r1⟩ := ok
      cases e2
      cases js with
      | cons k js => cases js <;> simp [putP] at h1
      | nil =>
        have e3 : V.ref o1 = V.ref o := hp
        cases e3
        rw [ho] at h3; cases h3
        simp only [List.nil_append, putP] at h1
        split at h1
        · cases h1
          exact ⟨g.en.changeL he hs (r1.set r j), fr o h4⟩
        · cases h1
    · rename_i n ds he
      obtain ⟨ds', h1, h2⟩ := Option.map_eq_some_iff.mp hd
      subst h2
      have fo : Fr A.c A.H0 B H o := by
        obtain ⟨s, fp, e1, ⟨v, e2, ow⟩, fr⟩ := g.en.at he
        rw [hs] at e1; cases e1
        cases e2
        exact fr o (ow.putP hp ho r h1).1
      refine ⟨?_, fo⟩
      have := g.en.change (H' := upd H o (.lst (vs.set j u))) (e' := .deep n ds') (s' := some v0) he hs fun fp ok fr => by
        obtain ⟨v, e2, ow⟩ := ok
        cases e2
        obtain ⟨f1, ow'⟩ := ow.putP hp ho r h1
        refine ⟨fp, fun a z => .inl z, ⟨_, rfl, ow'⟩, fun a z => ?_, fun a w z q => by rw [upd_ne (fun w => z (by rw [w]; exact f1))]; exact q⟩
        have f := fr a z
        obtain ⟨ob, hob, hot⟩ := f.th
        by_cases ea : a = o
        · exact ⟨f.nb, f.nst, f.n0, .lst (vs.set j u), by rw [ea]; exact upd_same, nofun⟩
        · exact ⟨f.nb, f.nst, f.n0, ob, by rw [upd_ne ea]; exact hob, hot⟩
      rwa [set_same hs] at this
    · cases hd
  obtain ⟨en, f⟩ := key
  have x := g.ex
  exact l.nx _ σ B _ q (x.setL ho f.nb f.nst f.n0) (Same.refl B) en
theorem ds_put {a b e : Expr} {i : Nat} {p : PT} {t tv : ET} {pos spos : Pos} (ha : DP X A i a p) (hb : DE X A b t) (hv : DE X A e tv)
    (hsub : ∀ v, assign (.Subscript a b pos) X.env v = (do
      let ov ← holding [v] (eval a X.env)
      let iv ← holding [v, ov] (eval b X.env)
      standAt pos
      holding [v, ov, iv] (setItem ov iv v)
      release [v, ov, iv] []) := by intro _; rfl)
    (hs : swapsWithSole [.Subscript a b pos] e spos.line X.env = pure false := by rfl) (hw : swappedStores [.Subscript a b pos] e X.env = pure none := by rfl) (h1 : (assignEach [.Subscript a b pos] X.env).map (·.2) = [assign (.Subscript a b pos) X.env] := by rfl) :
    DS X A (.Assign [.Subscript a b pos] e spos) (dPut i p t tv) := ⟨fun {xq σ B H ρ Dd D} g q l => by
  refine PSw (ps_asg (peW e) (pg_sub (peW a) (peW b) set_list hsub) hs hw h1) ((hv.frzF g q).mono fun u H1 ⟨d, B1, q1, x1, ru⟩ => ?_)
  have g1 := g.step x1
  refine (ha.run g1 q1).mono fun w H2 ⟨js, B2, q2, x2, v0, s0, at0⟩ => ?_
  have g2 := g1.step x2
  obtain ⟨Bp, gp, ov⟩ := frz_cfg g2
  refine (hb.run gp q2).mono fun k H3 ⟨dk, Bp3, q3, xp, rk⟩ => ?_
  obtain ⟨B3, x3, _⟩ := ov.back xp
  obtain ⟨kk, rfl⟩ : ∃ kk : Int, dk = .int kk := by
    cases dk <;> first | exact False.elim q3 | exact ⟨_, rfl⟩
  cases int_inv rk
  obtain ⟨m, j, e', hm, hj, he, q4⟩ := q3
  have g3 := g2.step x3
  have at3 := at0.mono x3.fr
  obtain ⟨o, vs, ev, nst, nb, n0, ho, hl⟩ := own_list g3 hm s0 at3
  subst ev
  exact ⟨o, vs, kk, j, rfl, rfl, ho, by rw [hl]; exact hj, put_nx g3 s0 at3 ho ((ru.mono x2.sb).mono x3.sb) he q4 (l.up ((x1.sb.trans x2.sb).trans x3.sb))⟩⟩
end
end DL

/-! DL10: list(range(..)). -/
namespace DL
open PySem PySem.Spec L2
section
variable {X : Cx} {A : Act}
def dListRng (t : ET) : ET := fun xq ρ P => t xq ρ fun d => match d with
  | .int n => (-(2 ^ 62) ≤ n ∧ n ≤ 100000) ∧ P (.list (rngD 0 n.toNat))
  | _ => False
theorem rps_rng {K : PySem.W.Frag} {c : Dc} {B : Hp} (lo : Int) : ∀ is : List Nat, Rps K c B (is.map fun i => V.int (lo + (i : Nat))) (is.map fun i => PyData.int (lo + (i : Nat)))
  | [] => .nil
  | i :: is => .cons (.int _) (rps_rng lo is)
theorem de_listRng {a : Expr} {t : ET} {p q qpos pos : Pos} (hc : X.calm = true) (hg : Gl X "list") (hm : X.mg "list" = none) (hg2 : Gl X "range") (hm2 : X.mg "range" = none) (h : DE X A a t)
    (na : starEach [.Call (.Name "range" q) [a] [] qpos] X.env = (false, eval (.Call (.Name "range" q) [a] [] qpos) X.env) :: starEach [] X.env := by rfl) (na2 : starEach [a] X.env = (false, eval a X.env) :: starEach [] X.env := by rfl) :
    DE X A (.Call (.Name "list" p) [.Call (.Name "range" q) [a] [] qpos] [] pos) (dListRng t) := ⟨fun {xq σ B H ρ P} g w => by
  refine PEw (pe_listRg hc hg hm (prg_1 hg2 hm2 (peW a) na2) na) ((h.run g w).mono fun v H1 ⟨d, B1, q1, x1, r⟩ => ?_)
  obtain ⟨n, rfl⟩ : ∃ n : Int, d = .int n := by
    cases d <;> first | exact False.elim q1 | exact ⟨_, rfl⟩
  cases int_inv r
  obtain ⟨⟨h1, h2⟩, q1⟩ := q1
  refine ⟨n, rfl, ⟨by decide, by decide, h1, by omega, by omega⟩, fun l hl => ?_⟩
  unfold rgV
  rw [Int.sub_zero]
  exact ⟨_, _, q1, x1.trans (x1.ok.new hl), x1.ok.lst hl (rps_rng 0 _)⟩⟩
end
end DL

/-! DL11: texts: split, join. -/
namespace DL
open PySem PySem.Spec L2
def asStrs : List PyData → Option (List Str)
  | [] => some []
  | .str i :: r => (asStrs r).map (i :: ·)
  | _ :: _ => none
theorem asStrs_eq : ∀ {ds : List PyData} {ns : List Str}, asStrs ds = some ns → ds = ns.map PyData.str
  | [], ns, h => by cases h; rfl
  | .str i :: r, ns, h => by
    unfold asStrs at h
    obtain ⟨m, e, q⟩ := Option.map_eq_some_iff.mp h
    subst q
    rw [asStrs_eq e]; rfl
theorem asStrs_map : ∀ ns : List Str, asStrs (ns.map PyData.str) = some ns
  | [] => rfl
  | n :: ns => by
    show (asStrs (ns.map PyData.str)).map (n :: ·) = _
    rw [asStrs_map ns]; rfl
def splitD (a : Str) (y : PyData) (P : PyData → Prop) : Prop := match y with
  | .str b => (b.length == 0) = false ∧ a.length ≤ 1000000 ∧ P (.list ((Txt.split a b).map PyData.str))
  | _ => False
def joinD (a : Str) (y : PyData) (P : PyData → Prop) : Prop := match y with
  | .list ds => match asStrs ds with
    | some ys => (ys.map (·.length)).sum + ys.length * a.length ≤ 16777216 ∧ P (.str (Txt.join a ys))
    | none => False
  | _ => False
/-- a text, then the argument -/
def dStrM (f : Str → PyData → (PyData → Prop) → Prop) (t u : ET) : ET := fun xq ρ P => t xq ρ fun x => match x with
  | .str a => u xq ρ fun y => f a y P
  | _ => False
section
variable {X : Cx} {A : Act} {o e : Expr} {to te : ET} {apos pos : Pos}
theorem str_inv {K : PySem.W.Frag} {c : Dc} {B : Hp} {v : V} {a : Str} (r : Rp K c B v (.str a)) : v = .str a := by cases r; rfl
theorem Rps.strsE {K : PySem.W.Frag} {c : Dc} {B : Hp} {vs : List V} {ys : List Str} (r : Rps K c B vs (ys.map PyData.str)) : vs = ys.map V.str := r.strs
theorem strM_run {n : Str} {r : V → List V → Hp → VK → Prop} {f : Str → PyData → (PyData → Prop) → Prop} (hp : PE X (.Call (.Attribute o n apos) [e] [] pos) (tM1 r (wE X o) (wE X e))) (ho : DE X A o to) (he : DE X A e te)
    (hr : ∀ {a y v B H P}, Ok X.K A.c B H → Rp X.K A.c B v y → f a y P → r (.str a) [v] H (EPost X A B H P)) (mono : ∀ {x vs H} {Q Q' : VK}, (∀ v H', Q v H' → Q' v H') → r x vs H Q → r x vs H Q') : DE X A (.Call (.Attribute o n apos) [e] [] pos) (dStrM f to te) := ⟨fun {xq σ B H ρ P} g q => by
  refine PEw hp ((ho.run g q).mono fun v H1 ⟨d, B1, q1, x1, r1⟩ => ?_)
  obtain ⟨a, rfl⟩ : ∃ a, d = .str a := by
    cases d <;> first | exact ⟨_, rfl⟩ | exact False.elim q1
  cases str_inv r1
  refine ⟨⟨a, rfl⟩, (he.run (g.step x1) q1).mono fun u H2 ⟨y, B2, q2, x2, r2⟩ => ?_⟩
  exact mono (fun v H' z => z.step (x1.trans x2)) (hr (x1.trans x2).ok r2 q2)⟩
theorem rps_strs {K : PySem.W.Frag} {c : Dc} {B : Hp} : ∀ ys : List Str, Rps K c B (ys.map V.str) (ys.map PyData.str) := Rps.ofStrs
theorem de_split (ho : DE X A o to) (he : DE X A e te) (hs : starEach [e] X.env = [(false, eval e X.env)] := by rfl) (hbase : attributeBase o "split" X.env (eval o X.env) = eval o X.env := by rfl) (hline : (apos.endLine == pos.line) = true := by rfl) :
    DE X A (.Call (.Attribute o "split" apos) [e] [] pos) (dStrM splitD to te) :=
  strM_run (pe_split (peW o) (peW e) hs hbase hline) ho he (fun {a y v B H P} ok r q => by
    cases r <;> first | exact False.elim q | skip
    rename_i b
    exact ⟨a, b, rfl, rfl, q.1, Nat.le_trans (Nat.add_le_add_right q.2.1 2) (by decide), fun p hp => EPost.lst ok hp (rps_strs _) q.2.2⟩) fun m ⟨a, b, h1, h2, h3, h4, h5⟩ => ⟨a, b, h1, h2, h3, h4, fun p hp => m _ _ (h5 p hp)⟩
theorem de_join (ho : DE X A o to) (he : DE X A e te) (hs : starEach [e] X.env = [(false, eval e X.env)] := by rfl) (hbase : attributeBase o "join" X.env (eval o X.env) = eval o X.env := by rfl) (hline : (apos.endLine == pos.line) = true := by rfl) :
    DE X A (.Call (.Attribute o "join" apos) [e] [] pos) (dStrM joinD to te) :=
  strM_run (pe_join (peW o) (peW e) hs hbase hline) ho he (fun {a y v B H P} ok r q => by
    cases r <;> first | exact False.elim q | skip
    rename_i b xs ds hb rb
    unfold joinD at q
    simp only at q
    split at q
    · rename_i ys e
      rw [asStrs_eq e] at rb
      exact ⟨a, b, ys, rfl, rfl, .inl (SqL.of (by rw [← rb.strs]; exact ok.sh _ _ hb)), q.1, EPost.at ok (.str _) q.2⟩
    · exact q.elim) fun m ⟨a, p, ys, h1, h2, h3, h4, h5⟩ => ⟨a, p, ys, h1, h2, h3, h4, m _ _ h5⟩
end
end DL

/-! DL12: list(zip(a, b)) of two tuples of one length. -/
namespace ZL
open PySem PySem.Spec PyProof.Rows L2
section
variable {prog : Program} {w : World} {A : Around} {E : Value → Shared → Prop} {s : Shared}
theorem next_item_held {z TI TO T i1 i2 l1 l2 : Addr} {f : Bool} {oT : Obj} {k1 k2 : Nat} {xs ys : Array Value} {x y : Value} {Q : Value → Shared → Prop} (D : ZipApart z TI TO i1 i2 l1 l2)
    (hz : IsZipHeld s.heap z TI TO T f) (hT : s.heap.get? T = some oT) (hTI : IsPair s.heap TI (.ref i1) (.ref i2))
    (h1 : s.heap.IsTupleIter i1 l1 k1) (h2 : s.heap.IsTupleIter i2 l2 k2) (hl1 : s.heap.IsTuple l1 xs) (hl2 : s.heap.IsTuple l2 ys) (hx : xs[k1]? = some x) (hy : ys[k2]? = some y)
    (hQ : ∀ h', IsZipHeld h' z TI TO T true → h'.IsTupleIter i1 l1 (k1 + 1) → h'.IsTupleIter i2 l2 (k2 + 1) → IsPair h' s.heap.objs.size x y → h'.objs.size = s.heap.objs.size + 1 →
      (∀ c o, c ≠ z → c ≠ i1 → c ≠ i2 → s.heap.get? c = some o → h'.get? c = some o) → Q (.ref s.heap.objs.size) { s with heap := h' }) :
    wpAny (model prog w) A (Builtin.«zip.__next__» ⟨[.ref z], []⟩) (fun fin s' => ∃ v, fin = .done (.ret v) ∧ Q v s') E s := by
  show wpAny _ _ (field (.ref z) 2 >>= _) _ _ _
  refine wpAny_bind (wpAny_field hz rfl (x := .bool false) rfl ?_)
  show wpAny _ _ (field (.ref z) 3 >>= _) _ _ _
  refine wpAny_bind (wpAny_field hz rfl (x := .ref TI) rfl ?_)
  refine wpAny_bind (wpAny_seqItems hTI rfl ?_)
  show wpAny _ _ (Builtin.SmallTypes.ownedTupleIsFree (.ref z) >>= _) _ _ _
  refine wpAny_bind (wpAny_tupleHeld_zip hz hT fun h₁ hz₁ hs₁ => ?_)
  simp only [Bool.false_eq_true, if_false]
  refine wpAny_bind ?_
  rw [← Array.forIn_toList]
  simp only [List.forIn_cons, List.forIn_nil]
  refine wpAny_bind (wpAny_bind (wpAny_holding ?_))
  show wpAny _ _ (Builtin.SmallTypes.nextOf (.ref i1) >>= _) _ _ _
  refine wpAny_bind (RZ.nextOf_tuple_item (s := { s with heap := h₁ }) (h1.extBut hs₁.extBut D.i1z) (hl1.extBut hs₁.extBut D.l1z) hx fun h₂ h1₂ hs₂ => wpAny_pure ?_)
  refine wpAny_pure ?_
  refine wpAny_bind (wpAny_bind (wpAny_holding ?_))
  show wpAny _ _ (Builtin.SmallTypes.nextOf (.ref i2) >>= _) _ _ _
  refine wpAny_bind (RZ.nextOf_tuple_item (s := { s with heap := h₂ }) ((h2.extBut hs₁.extBut D.i2z).extBut hs₂.extBut D.i12.symm) ((hl2.extBut hs₁.extBut D.l2z).extBut hs₂.extBut D.l2i1) hy fun h₃ h2₃ hs₃ => wpAny_pure ?_)
  refine wpAny_pure (wpAny_pure ?_)
  show wpAny _ _ (newTuple [x, y] >>= _) _ _ _
  refine wpAny_bind (wpAny_newTuple ?_)
  have hsz : h₃.objs.size = s.heap.objs.size := by rw [hs₃.1, hs₂.1, hs₁.1]
  have hz₃ : IsZipHeld h₃ z TI TO T true := hs₃.extBut _ _ D.i2z.symm (hs₂.extBut _ _ D.i1z.symm hz₁)
  have hk : ∀ c o, c ≠ z → c ≠ i1 → c ≠ i2 → s.heap.get? c = some o → h₃.get? c = some o := fun c o c1 c2 c3 e => hs₃.extBut _ _ c3 (hs₂.extBut _ _ c2 (hs₁.extBut _ _ c1 e))
  have h1₃ : h₃.IsTupleIter i1 l1 (k1 + 1) := h1₂.extBut hs₃.extBut D.i12
  refine wpAny_pure ⟨_, rfl, ?_⟩
  show Q (.ref h₃.objs.size) _
  have hp : IsPair (h₃.push { cls := .type "tuple", data := .seq #[x, y] }) h₃.objs.size x y := Heap.get?_push_size _ rfl
  have hz4 : (h₃.push { cls := .type "tuple", data := .seq #[x, y] }).objs.size = h₃.objs.size + 1 := Heap.size_push ..
  rw [hsz] at hp hz4 ⊢
  exact hQ _ (Heap.get?_push_of_some _ hz₃) (h1₃.at fun o e => Heap.get?_push_of_some _ e) (h2₃.at fun o e => Heap.get?_push_of_some _ e) hp hz4 fun c o c1 c2 c3 e => Heap.get?_push_of_some _ (hk c o c1 c2 c3 e)

theorem next_end_held {z TI TO T i1 i2 l1 l2 : Addr} {f : Bool} {oT : Obj} {k1 : Nat} {xs : Array Value} {Q : Fin → Shared → Prop} (hh : A.handled = none) (D : ZipApart z TI TO i1 i2 l1 l2)
    (hz : IsZipHeld s.heap z TI TO T f) (hT : s.heap.get? T = some oT) (hTI : IsPair s.heap TI (.ref i1) (.ref i2))
    (h1 : s.heap.IsTupleIter i1 l1 k1) (hl1 : s.heap.IsTuple l1 xs) (hx : xs[k1]? = none)
    (hE : ∀ h' e, (∀ c o, c ≠ z → c ≠ i1 → c ≠ i2 → s.heap.get? c = some o → h'.get? c = some o) → (∃ o, h'.get? e = some o ∧ o.cls = .type "StopIteration") → E (.ref e) { s with heap := h' }) :
    wpAny (model prog w) A (Builtin.«zip.__next__» ⟨[.ref z], []⟩) Q E s := by
  show wpAny _ _ (field (.ref z) 2 >>= _) _ _ _
  refine wpAny_bind (wpAny_field hz rfl (x := .bool false) rfl ?_)
  show wpAny _ _ (field (.ref z) 3 >>= _) _ _ _
  refine wpAny_bind (wpAny_field hz rfl (x := .ref TI) rfl ?_)
  refine wpAny_bind (wpAny_seqItems hTI rfl ?_)
  show wpAny _ _ (Builtin.SmallTypes.ownedTupleIsFree (.ref z) >>= _) _ _ _
  refine wpAny_bind (wpAny_tupleHeld_zip hz hT fun h₁ hz₁ hs₁ => ?_)
  simp only [Bool.false_eq_true, if_false]
  refine wpAny_bind ?_
  rw [← Array.forIn_toList]
  simp only [List.forIn_cons, List.forIn_nil]
  refine wpAny_bind (wpAny_bind (wpAny_holding ?_))
  show wpAny _ _ (Builtin.SmallTypes.nextOf (.ref i1) >>= _) _ _ _
  refine wpAny_bind (RZ.nextOf_tuple_end (s := { s with heap := h₁ }) hh (h1.extBut hs₁.extBut D.i1z) (hl1.extBut hs₁.extBut D.l1z) hx fun h₂ e hs₂ he => ?_)
  exact hE h₂ e (fun c o c1 c2 _ x => hs₂ _ _ c2 (hs₁.extBut _ _ c1 x)) he

theorem pyNext_item_held {z TI TO T i1 i2 l1 l2 : Addr} {f : Bool} {oT : Obj} {k1 k2 : Nat} {xs ys : Array Value} {x y : Value} {Q : Option Value → Shared → Prop} (D : ZipApart z TI TO i1 i2 l1 l2)
    (hz : IsZipHeld s.heap z TI TO T f) (hT : s.heap.get? T = some oT) (hTI : IsPair s.heap TI (.ref i1) (.ref i2))
    (h1 : s.heap.IsTupleIter i1 l1 k1) (h2 : s.heap.IsTupleIter i2 l2 k2) (hl1 : s.heap.IsTuple l1 xs) (hl2 : s.heap.IsTuple l2 ys) (hx : xs[k1]? = some x) (hy : ys[k2]? = some y)
    (hQ : ∀ h', IsZipHeld h' z TI TO T true → h'.IsTupleIter i1 l1 (k1 + 1) → h'.IsTupleIter i2 l2 (k2 + 1) → IsPair h' s.heap.objs.size x y → h'.objs.size = s.heap.objs.size + 1 →
      (∀ c o, c ≠ z → c ≠ i1 → c ≠ i2 → s.heap.get? c = some o → h'.get? c = some o) → Q (some (.ref s.heap.objs.size)) { s with heap := h' }) :
    wpAny (model prog w) A (pyNext (.ref z)) Q E s := by
  have hTy : s.TypeIs (.ref z) "zip" := ⟨_, hz, rfl⟩
  unfold pyNext
  exact wpAny_bind (wpAny_attempt (wpAny_callSpecial?_slot (name := Str.ofString "__next__") hTy F.slot_zip_next
    (wpAny_call_entry F.slot_zip_next hTy F.entry_zip_next
      (next_item_held D hz hT hTI h1 h2 hl1 hl2 hx hy fun h' a1 a3 a4 a5 a6 a7 => wpAny_pure (hQ h' a1 a3 a4 a5 a6 a7)) (F.args_zip_next_1 _))))
theorem pyNext_end_held {z TI TO T i1 i2 l1 l2 : Addr} {f : Bool} {oT : Obj} {k1 : Nat} {xs : Array Value} {Q : Option Value → Shared → Prop} (hh : A.handled = none) (D : ZipApart z TI TO i1 i2 l1 l2)
    (hz : IsZipHeld s.heap z TI TO T f) (hT : s.heap.get? T = some oT) (hTI : IsPair s.heap TI (.ref i1) (.ref i2))
    (h1 : s.heap.IsTupleIter i1 l1 k1) (hl1 : s.heap.IsTuple l1 xs) (hx : xs[k1]? = none)
    (hQ : ∀ h', (∀ c o, c ≠ z → c ≠ i1 → c ≠ i2 → s.heap.get? c = some o → h'.get? c = some o) → Q none { s with heap := h' }) : wpAny (model prog w) A (pyNext (.ref z)) Q E s := by
  have hTy : s.TypeIs (.ref z) "zip" := ⟨_, hz, rfl⟩
  unfold pyNext
  refine wpAny_bind (wpAny_attempt (wpAny_callSpecial?_slot (name := Str.ofString "__next__") hTy F.slot_zip_next
    (wpAny_call_entry F.slot_zip_next hTy F.entry_zip_next (next_end_held hh D hz hT hTI h1 hl1 hx fun h' e hk he => ?_) (F.args_zip_next_1 _))))
  obtain ⟨o, ho, hc⟩ := he
  refine wpAny_bind (wpAny_isInstance (T := "StopIteration") (b := true) ⟨o, ho, hc⟩ isSubtype_stop ?_)
  exact wpAny_pure (hQ _ hk)

/-- the zip amid the loop that fills the list S -/
def Zst (h : Heap) (z TI TO i1 i2 S : Addr) (i : Nat) : Prop :=
  (i = 0 ∧ IsZip h z TI TO .none ∧ ∃ x y, IsPair h TO x y) ∨ ∃ T f oT, IsZipHeld h z TI TO T f ∧ h.get? T = some oT ∧ T ≠ z ∧ T ≠ i1 ∧ T ≠ i2 ∧ T ≠ S
theorem zst_item {z TI TO i1 i2 l1 l2 S : Addr} {k : Nat} {xs ys : Array Value} {x y : Value} {Q : Option Value → Shared → Prop} (D : ZipApart z TI TO i1 i2 l1 l2) (hS : S < s.heap.objs.size)
    (hst : Zst s.heap z TI TO i1 i2 S k) (hTI : IsPair s.heap TI (.ref i1) (.ref i2))
    (h1 : s.heap.IsTupleIter i1 l1 k) (h2 : s.heap.IsTupleIter i2 l2 k) (hl1 : s.heap.IsTuple l1 xs) (hl2 : s.heap.IsTuple l2 ys) (hx : xs[k]? = some x) (hy : ys[k]? = some y)
    (hQ : ∀ h', Zst h' z TI TO i1 i2 S (k + 1) → h'.IsTupleIter i1 l1 (k + 1) → h'.IsTupleIter i2 l2 (k + 1) → IsPair h' s.heap.objs.size x y → h'.objs.size = s.heap.objs.size + 1 →
      (∀ c o, c ≠ z → c ≠ TO → c ≠ i1 → c ≠ i2 → s.heap.get? c = some o → h'.get? c = some o) → Q (some (.ref s.heap.objs.size)) { s with heap := h' }) :
    wpAny (model prog w) A (pyNext (.ref z)) Q E s := by
  obtain ⟨_, e1, _⟩ := id h1
  obtain ⟨_, e2, _⟩ := id h2
  rcases hst with ⟨rfl, hz, x0, y0, hTO⟩ | ⟨T, f, oT, hz, hT, t1, t2, t3, t4⟩
  · exact RZ.pyNext_zipT_item D hz hTI hTO h1 h2 hl1 hl2 hx hy fun h' a1 a2 a3 a4 a5 a6 a7 => hQ h' (.inr ⟨s.heap.objs.size, false, _, a1, a5, Nat.ne_of_gt (Heap.lt_size hz), Nat.ne_of_gt (Heap.lt_size e1), Nat.ne_of_gt (Heap.lt_size e2), Nat.ne_of_gt hS⟩) a3 a4 a5 a6 a7
  · exact pyNext_item_held D hz hT hTI h1 h2 hl1 hl2 hx hy fun h' a1 a3 a4 a5 a6 a7 => hQ h' (.inr ⟨T, true, oT, a1, a7 _ _ t1 t2 t3 hT, t1, t2, t3, t4⟩) a3 a4 a5 a6 fun c o c1 _ c3 c4 => a7 c o c1 c3 c4
theorem zst_end {z TI TO i1 i2 l1 l2 S : Addr} {k : Nat} {xs ys : Array Value} {Q : Option Value → Shared → Prop} (hh : A.handled = none) (D : ZipApart z TI TO i1 i2 l1 l2)
    (hst : Zst s.heap z TI TO i1 i2 S k) (hTI : IsPair s.heap TI (.ref i1) (.ref i2))
    (h1 : s.heap.IsTupleIter i1 l1 k) (h2 : s.heap.IsTupleIter i2 l2 k) (hl1 : s.heap.IsTuple l1 xs) (hl2 : s.heap.IsTuple l2 ys) (hx : xs[k]? = none)
    (hQ : ∀ h', (∀ c o, c ≠ z → c ≠ TO → c ≠ i1 → c ≠ i2 → s.heap.get? c = some o → h'.get? c = some o) → Q none { s with heap := h' }) :
    wpAny (model prog w) A (pyNext (.ref z)) Q E s := by
  rcases hst with ⟨rfl, hz, x0, y0, hTO⟩ | ⟨T, f, oT, hz, hT, t1, t2, t3, t4⟩
  · exact RZ.pyNext_zipT_end hh D hz hTI hTO h1 h2 hl1 hl2 (.inl hx) hQ
  · exact pyNext_end_held hh D hz hT hTI h1 hl1 hx fun h' a => hQ h' fun c o c1 _ c3 c4 => a c o c1 c3 c4
/-- the pairs that the list holds -/
structure Zg (xs ys : Array Value) (lo : Addr) (h : Heap) (as : List Addr) : Prop where
  rise : as.Pairwise (· < ·)
  above : ∀ a ∈ as, lo < a
  pairs : ∀ (j : Nat) (a : Addr), as[j]? = some a → ∃ x y, xs[j]? = some x ∧ ys[j]? = some y ∧ IsPair h a x y
theorem Zg.there {xs ys : Array Value} {lo : Addr} {h : Heap} {as : List Addr} (g : Zg xs ys lo h as) {a : Addr} (ha : a ∈ as) : a < h.objs.size := by
  obtain ⟨j, hj⟩ := List.mem_iff_getElem?.mp ha
  obtain ⟨_, _, _, _, e⟩ := g.pairs j a hj
  exact Heap.lt_size e
end
section
variable {prog : Program} {w : World} {A : Around} {s : Shared} {R : Result → Shared → Prop} {xs ys : Array Value} {n : Nat}
theorem loop {S z TI TO i1 i2 l1 l2 : Addr} (hh : A.handled = none) (D : ZipApart z TI TO i1 i2 l1 l2) (sz : z < S) (sTI : TI < S) (sTO : TO < S) (s1 : i1 < S) (s2 : i2 < S) (l1n : l1 ≠ S) (l2n : l2 ≠ S)
    (hxs : xs.size = n) (hys : ys.size = n) (hn : n ≤ sizeLine) (res : Value) {h₁ : Heap}
    (hR : ∀ h' tk acc c as, (∀ b o, b ≠ S → b ≠ z → b ≠ TO → b ≠ i1 → b ≠ i2 → h₁.get? b = some o → h'.get? b = some o) → h'.get? S = some { cls := .type "list", dict := none, data := .seq acc c, slots := #[] } → as.length = n → Zg xs ys S h' as →
      acc.toList = as.map Value.ref → R (.ok (.ret res)) { s with heap := h', toks := tk }) :
    ∀ (k i : Nat) (h : Heap) (tk c : Nat) (acc : Array Value) (as : List Addr), n - i = k → i ≤ n → Zst h z TI TO i1 i2 S i → IsPair h TI (.ref i1) (.ref i2) → h.IsTupleIter i1 l1 i → h.IsTupleIter i2 l2 i → h.IsTuple l1 xs → h.IsTuple l2 ys →
      (∀ b o, b ≠ S → b ≠ z → b ≠ TO → b ≠ i1 → b ≠ i2 → h₁.get? b = some o → h.get? b = some o) →
      h.get? S = some { cls := .type "list", dict := none, data := .seq acc c, slots := #[] } → acc.toList = as.map Value.ref → as.length = i → Zg xs ys S h as →
      codeAny (model prog w) A (.builtin "list.extend.loop" ⟨[.ref S, .ref z, res], []⟩) R { s with heap := h, toks := tk } := by
  have Sz : S ≠ z := Nat.ne_of_gt sz
  have STO : S ≠ TO := Nat.ne_of_gt sTO
  have S1 : S ≠ i1 := Nat.ne_of_gt s1
  have S2 : S ≠ i2 := Nat.ne_of_gt s2
  intro k
  induction k with
  | zero =>
    intro i h tk c acc as hk hi hst hTI h1 h2 hl1 hl2 hkeep hS hacc hal hG
    have hin : i = n := by omega
    refine codeAny_builtin PySem.F.entry_extend_loop ?_
    rw [Around.under_plainId PySem.F.plain_extend_loop _]
    show wpAny _ A.in1 (pyNext (.ref z) >>= _) _ _ _
    refine wpAny_bind (zst_end (s := { s with heap := h, toks := tk }) (A := A.in1) hh D hst hTI h1 h2 hl1 hl2 (Array.getElem?_eq_none (by omega)) fun h' he => ?_)
    refine wpAny_pure (hR h' tk acc c as (fun b o b1 b2 b3 b4 b5 e => he b o b2 b3 b4 b5 (hkeep b o b1 b2 b3 b4 b5 e)) (he S _ Sz STO S1 S2 hS) (by omega) ⟨hG.rise, hG.above, fun j a hj => ?_⟩ hacc)
    obtain ⟨x, y, e1, e2, e3⟩ := hG.pairs j a hj
    have ha := hG.above a (List.mem_of_getElem? hj)
    exact ⟨x, y, e1, e2, he a _ (Nat.ne_of_gt (Nat.lt_trans sz ha)) (Nat.ne_of_gt (Nat.lt_trans sTO ha)) (Nat.ne_of_gt (Nat.lt_trans s1 ha)) (Nat.ne_of_gt (Nat.lt_trans s2 ha)) e3⟩
  | succ k ih =>
    intro i h tk c acc as hk hi hst hTI h1 h2 hl1 hl2 hkeep hS hacc hal hG
    have hlt : i < n := by omega
    have hx : xs[i]? = some (xs[i]'(by omega)) := Array.getElem?_eq_getElem (by omega)
    have hy : ys[i]? = some (ys[i]'(by omega)) := Array.getElem?_eq_getElem (by omega)
    have hsz : acc.size = i := by rw [← Array.length_toList, hacc, List.length_map, hal]
    have hSl : S < h.objs.size := Heap.lt_size hS
    refine codeAny_builtin PySem.F.entry_extend_loop ?_
    rw [Around.under_plainId PySem.F.plain_extend_loop _]
    show wpAny _ A.in1 (pyNext (.ref z) >>= _) _ _ _
    refine wpAny_bind (zst_item (s := { s with heap := h, toks := tk }) D hSl hst hTI h1 h2 hl1 hl2 hx hy fun h' hst' h1' h2' ht hz' hkp => ?_)
    dsimp only at ht hz' hkp ⊢
    have hS' := hkp S _ Sz STO S1 S2 hS
    have up : ∀ b o, b ≠ S → h'.get? b = some o → (h'.update S (Obj.mapSeq (·.push (Value.ref h.objs.size)))).get? b = some o := fun b o hb e => (Heap.get?_update_other _ _ (Ne.symm hb)).trans e
    have hst2 : Zst (h'.update S (Obj.mapSeq (·.push (Value.ref h.objs.size)))) z TI TO i1 i2 S (i + 1) := by
      rcases hst' with ⟨e, _⟩ | ⟨T, f, oT, q1, q2, t1, t2, t3, t4⟩
      · omega
      · exact .inr ⟨T, f, oT, up _ _ (Ne.symm Sz) q1, up _ _ t4 q2, t1, t2, t3, t4⟩
    show wpAny _ A.in1 (updateSeq S (·.push (Value.ref h.objs.size)) >>= _) _ _ _
    refine wpAny_bind ?_
    refine wpAny_updateSeq hS' rfl (wpAny_pure ⟨plainId_quiet PySem.F.plain_extend_loop _, ih (i + 1) _ tk _ (acc.push (Value.ref h.objs.size)) (as ++ [h.objs.size]) (by omega) hlt hst2 (up _ _ (Nat.ne_of_lt sTI) (hkp _ _ D.TIz D.TITO D.TIi1 D.TIi2 hTI))
      (h1'.at fun o e => up _ _ (Ne.symm S1) e) (h2'.at fun o e => up _ _ (Ne.symm S2) e)
      (let ⟨o, ho, q⟩ := hl1; ⟨o, up _ _ l1n (hkp _ _ D.l1z D.l1TO D.l1i1 D.l1i2 ho), q⟩) (let ⟨o, ho, q⟩ := hl2; ⟨o, up _ _ l2n (hkp _ _ D.l2z D.l2TO D.l2i1 D.l2i2 ho), q⟩)
      (fun b o b1 b2 b3 b4 b5 e => up b o b1 (hkp b o b2 b3 b4 b5 (hkeep b o b1 b2 b3 b4 b5 e))) (Heap.get?_update_self _ hS' rfl) (by rw [Array.toList_push, hacc, List.map_append]; rfl) (by rw [List.length_append, hal]; rfl) ⟨?_, ?_, ?_⟩⟩) (by rw [hsz]; omega) (by show (acc.push (Value.ref h.objs.size)).size ≤ sizeLine + 1; rw [Array.size_push, hsz]; omega)
    · refine List.pairwise_append.mpr ⟨hG.rise, List.pairwise_singleton _ _, fun a ha b hb => ?_⟩
      rw [List.mem_singleton.mp hb]
      exact hG.there ha
    · intro a ha
      rcases List.mem_append.mp ha with ha | ha
      · exact hG.above a ha
      · rw [List.mem_singleton.mp ha]; exact hSl
    · intro j b hj
      rcases Nat.lt_trichotomy j as.length with q | q | q
      · rw [List.getElem?_append_left q] at hj
        obtain ⟨x', y', e1, e2, e3⟩ := hG.pairs j b hj
        have hb := hG.above b (List.mem_of_getElem? hj)
        exact ⟨x', y', e1, e2, up b _ (Nat.ne_of_gt hb) (hkp b _ (Nat.ne_of_gt (Nat.lt_trans sz hb)) (Nat.ne_of_gt (Nat.lt_trans sTO hb)) (Nat.ne_of_gt (Nat.lt_trans s1 hb)) (Nat.ne_of_gt (Nat.lt_trans s2 hb)) e3)⟩
      · subst q
        have hb : h.objs.size = b := by simpa using hj
        subst hb
        exact ⟨_, _, by rw [hal]; exact hx, by rw [hal]; exact hy, up _ _ (Nat.ne_of_gt hSl) ht⟩
      · have hnone : (as ++ [h.objs.size])[j]? = none := List.getElem?_eq_none (by rw [List.length_append, List.length_singleton]; omega)
        rw [hnone] at hj; cases hj
end
theorem zip_no_len : typeLookup (.type "zip") "__len__" = pure none := by rw [typeLookup_type, builtinLookup_eq_fast]; kernel_rfl
theorem zip_no_hint : typeLookup (.type "zip") "__length_hint__" = pure none := by rw [typeLookup_type, builtinLookup_eq_fast]; kernel_rfl
section
variable {prog : Program} {w : World} {A : Around} {E : Value → Shared → Prop} {s : Shared} {xs ys : Array Value} {n : Nat}
theorem call_listZip {z TI TO i1 i2 l1 l2 : Addr} {Q : Value → Shared → Prop} (hh : A.handled = none) (D : ZipApart z TI TO i1 i2 l1 l2) (hz : IsZip s.heap z TI TO .none) (hTI : IsPair s.heap TI (.ref i1) (.ref i2)) (hTO : ∃ x y, IsPair s.heap TO x y)
    (h1 : s.heap.IsTupleIter i1 l1 0) (h2 : s.heap.IsTupleIter i2 l2 0) (hl1 : s.heap.IsTuple l1 xs) (hl2 : s.heap.IsTuple l2 ys) (hxs : xs.size = n) (hys : ys.size = n) (hn : n ≤ sizeLine)
    (hQ : ∀ h' tk acc c as, (∀ b o, b ≠ z → b ≠ TO → b ≠ i1 → b ≠ i2 → s.heap.get? b = some o → h'.get? b = some o) → h'.get? s.heap.objs.size = some { cls := .type "list", dict := none, data := .seq acc c, slots := #[] } → as.length = n → Zg xs ys s.heap.objs.size h' as →
      acc.toList = as.map Value.ref → Q (.ref s.heap.objs.size) { s with heap := h', toks := tk }) :
    wpAny (model prog w) A (call (.type "list") [.ref z]) Q E s := by
  obtain ⟨x0, y0, hTO⟩ := hTO
  obtain ⟨o1, ho1, _⟩ := id h1
  obtain ⟨o2, ho2, _⟩ := id h2
  obtain ⟨p1, hp1, _⟩ := id hl1
  obtain ⟨p2, hp2, _⟩ := id hl2
  have Sz : s.heap.objs.size ≠ z := Nat.ne_of_gt (Heap.lt_size hz)
  refine callType_codes (Q₁ := fun obj s₁ => obj = .ref s.heap.objs.size ∧ s₁ = { s with heap := s.heap.push { cls := .type "list", data := .seq #[] } }) PySem.F.called_list (PySem.F.typeCall_list_1 _) PySem.F.entry_list_init
    (code_list_new _ ⟨rfl, rfl⟩) fun obj s₁ h₁ => ?_
  obtain ⟨rfl, rfl⟩ := h₁
  have hS : (s.heap.push { cls := .type "list", data := .seq #[] }).get? s.heap.objs.size = some { cls := .type "list", data := .seq #[] } := Heap.get?_push_size _ rfl
  refine ⟨⟨_, hS, rfl⟩, PySem.F.args_list_init_2 _ _, ?_⟩
  show wpAny _ A.in1.in1 (do let old ← Builtin.List.listItems (.ref s.heap.objs.size); Builtin.List.listUpdate (.ref s.heap.objs.size) (fun _ => #[]); letGo old.toList.reverse; Builtin.List.listExtendWith (.ref s.heap.objs.size) (.ref z) .none) _ _ _
  refine wpAny_bind ?_
  unfold Builtin.List.listItems
  refine wpAny_bind (wpAny_seqItems hS rfl (wpAny_pure ?_))
  show wpAny _ A.in1.in1 (updateSeq s.heap.objs.size (fun _ => #[]) >>= fun _ => letGo (#[] : Array Value).toList.reverse >>= fun _ => Builtin.List.listExtendWith (.ref s.heap.objs.size) (.ref z) .none) _ _ _
  refine wpAny_bind (wpAny_updateSeq hS rfl ?_)
  have hS2 := Heap.get?_update_self (Obj.mapSeq (fun _ => (#[] : Array Value))) hS rfl
  refine wpAny_bind (wpAny_letGo ?_)
  unfold Builtin.List.listExtendWith
  have up : ∀ (h : Heap) (f : Obj → Obj), (∀ b o, s.heap.get? b = some o → h.get? b = some o) → ∀ b o, s.heap.get? b = some o → (h.update s.heap.objs.size f).get? b = some o := fun h f q b o e =>
    (Heap.get?_update_other _ _ (Ne.symm (Nat.ne_of_lt (Heap.lt_size e)))).trans (q b o e)
  have k1 : ∀ b o, s.heap.get? b = some o → (s.heap.push { cls := .type "list", data := .seq #[] }).get? b = some o := fun b o e => Heap.get?_push_of_some _ e
  have k2 := up _ (Obj.mapSeq (fun _ => (#[] : Array Value))) k1
  have hT : ∀ {h : Heap}, (∀ b o, s.heap.get? b = some o → h.get? b = some o) → Shared.TypeIs { s with heap := h } (.ref z) "zip" := fun {h} q => ⟨_, q _ _ hz, rfl⟩
  refine wpAny_bind (wpAny_typeOf (hT k2) ?_)
  have h1' : Builtin.List.listSameRef (.ref s.heap.objs.size) (.ref z) = false := by simp [Builtin.List.listSameRef, Sz]
  have h2' : (Value.type "zip" == Value.type "list") = false := by decide
  have h3' : (Value.type "zip" == Value.type "tuple") = false := by decide
  simp only [h1', h2', h3', Bool.or_false, Bool.false_eq_true, if_false]
  refine wpAny_bind (wpAny_pyIter_zip (k2 _ _ hz) ?_)
  refine wpAny_bind (wpAny_holding ?_)
  unfold Builtin.List.listLengthHint
  refine wpAny_bind (wpAny_specialOf (hT k2) zip_no_len ?_)
  show wpAny _ A.in1.in1 (specialOf (Value.ref z) (Str.ofString "__length_hint__") >>= _) _ _ _
  refine wpAny_bind (wpAny_specialOf (hT k2) zip_no_hint ?_)
  refine wpAny_pure ?_
  show wpAny _ A.in1.in1 (rule "list.extend.makes-room" >>= fun _ => Builtin.List.listTouch (.ref s.heap.objs.size) >>= fun _ =>
    again (.builtin "list.extend.loop" ⟨[.ref s.heap.objs.size, .ref z, .none], []⟩)) _ _ _
  refine wpAny_bind (wpAny_rule ?_)
  refine wpAny_bind ?_
  show wpAny _ A.in1.in1 (updateSeq s.heap.objs.size (·.push .none) >>= fun _ => updateSeq s.heap.objs.size (·.pop)) _ _ _
  refine wpAny_bind (wpAny_updateSeq hS2 rfl ?_)
  have hS3 := Heap.get?_update_self (Obj.mapSeq (·.push Value.none)) hS2 rfl
  refine wpAny_updateSeq (hz := by seq_fits) hS3 rfl ?_
  have hS4 := Heap.get?_update_self (Obj.mapSeq (·.pop)) hS3 rfl
  have k4 := up _ (Obj.mapSeq (·.pop)) (up _ (Obj.mapSeq (·.push Value.none)) k2)
  refine wpAny_pure ⟨plainId_quiet F.plain_extend_loop _, ?_⟩
  refine loop (s := s) (A := A.in1) (R := wants (fun r s₂ => r = Value.none ∧ Q (Value.ref s.heap.objs.size) s₂) E) (xs := xs) (ys := ys) (n := n) (h₁ := s.heap) hh D (Heap.lt_size hz) (Heap.lt_size hTI) (Heap.lt_size hTO) (Heap.lt_size ho1) (Heap.lt_size ho2) (Nat.ne_of_lt (Heap.lt_size hp1)) (Nat.ne_of_lt (Heap.lt_size hp2)) hxs hys hn _
    (fun h' tk acc c as hk hS' hl hG hacc => ⟨rfl, hQ h' tk acc c as (fun b o b2 b3 b4 b5 e => hk b o (Nat.ne_of_lt (Heap.lt_size e)) b2 b3 b4 b5 e) hS' hl hG hacc⟩)
    n 0 _ s.toks _ #[] [] (Nat.sub_zero _) (Nat.zero_le _) (.inl ⟨rfl, k4 _ _ hz, _, _, k4 _ _ hTO⟩) (k4 _ _ hTI) (h1.at fun o e => k4 _ _ e) (h2.at fun o e => k4 _ _ e) (let ⟨o, ho, q⟩ := hl1; ⟨o, k4 _ _ ho, q⟩) (let ⟨o, ho, q⟩ := hl2; ⟨o, k4 _ _ ho, q⟩)
    (fun b o _ _ _ _ _ e => k4 b o e) hS4 rfl rfl ⟨List.Pairwise.nil, (fun _ ha => nomatch ha), fun j a hj => by simp at hj⟩
end

/-- the pairs tracked at their addresses -/
def putZ : Hp → List Addr → List (V × V) → Hp
  | H, a :: as, p :: ps => putZ (upd H a (.tup [p.1, p.2])) as ps
  | H, _, _ => H
theorem putZ_off {b : Addr} : ∀ (as : List Addr) (ps : List (V × V)) (H : Hp), b ∉ as → putZ H as ps b = H b
  | [], _, _, _ => rfl
  | _ :: _, [], _, _ => rfl
  | a :: as, p :: ps, H, h => by
    show putZ (upd H a (.tup [p.1, p.2])) as ps b = H b
    rw [putZ_off as ps _ (fun z => h (List.mem_cons_of_mem _ z)), upd_ne (fun z => h (by rw [z]; exact List.mem_cons_self))]
theorem putZ_at : ∀ (as : List Addr) (ps : List (V × V)) (H : Hp), as.length = ps.length → as.Nodup → Paired (fun (t : Addr) (p : V × V) => putZ H as ps t = some (.tup [p.1, p.2])) as ps
  | [], [], _, _, _ => .nil
  | [], _ :: _, _, h, _ => by cases h
  | _ :: _, [], _, h, _ => by cases h
  | a :: as, p :: ps, H, h, hn => by
    have hn' := List.nodup_cons.mp hn
    have ih := putZ_at as ps (upd H a (.tup [p.1, p.2])) (Nat.succ.inj h) hn'.2
    refine .cons ?_ ih
    show putZ (upd H a (.tup [p.1, p.2])) as ps a = some (.tup [p.1, p.2])
    rw [putZ_off as ps _ hn'.1, upd_same]
def tListZip (K : PySem.W.Frag) (ta : TA) : TE := fun σ H Q => ta σ H fun vs H1 => ∃ (a b : Addr) (xs ys : List V), vs = [.ref a, .ref b] ∧ SqT K H1 a xs ∧ SqT K H1 b ys ∧ xs.length = ys.length ∧ xs.length ≤ sizeLine ∧
  ∀ (p : Addr) (ts : List Addr), H1 p = none → (∀ t ∈ ts, H1 t = none) → p ∉ ts → ts.Nodup → ts.length = xs.length → Q (.ref p) (putZ (upd H1 p (.lst (ts.map V.ref))) ts (xs.zip ys))
section
variable {X : Cx} {e e2 : Expr} {ta : TA} {p p2 pos2 pos : Pos}
theorem laid {pins : List (Addr × Obj)} {σ : L2.St} {H : Hp} {s : Shared} {h' : Heap} {tk : Nat} {S : Addr} {xs ys : List V} {us vs : List Value} {acc : Array Value} {c : Nat} {as ch : List Addr} (I : Inv X pins σ H s) (hz : xs.length ≤ sizeLine) (exy : xs.length = ys.length) (rx : Vals xs us) (ry : Vals ys vs)
    (hSl : s.heap.objs.size ≤ S) (hch : ∀ c ∈ ch, s.heap.objs.size ≤ c) (hk : ∀ b o, s.heap.get? b = some o → h'.get? b = some o) (hS : h'.get? S = some { cls := .type "list", dict := none, data := .seq acc c, slots := #[] }) (hl : as.length = us.length) (hG : Zg us.toArray vs.toArray S h' as) (hacc : acc.toList = as.map Value.ref) :
    H S = none ∧ (∀ t ∈ as, H t = none) ∧ S ∉ as ∧ as.Nodup ∧ Inv X pins σ (putZ (upd H S (.lst (as.map V.ref))) as (xs.zip ys)) { s with heap := h', toks := tk } := by
  have lx : xs.length = us.length := rx.length
  have ly : ys.length = vs.length := ry.length
  have lz : (xs.zip ys).length = us.length := by rw [List.length_zip]; omega
  have hSn : S ∉ as := fun z => Nat.lt_irrefl _ (hG.above _ z)
  have nd : as.Nodup := List.Pairwise.imp (fun {a b} (h : a < b) => Nat.ne_of_lt h) hG.rise
  have new : ∀ t ∈ as, H t = none := fun t ht => I.hok.fresh (Nat.le_of_lt (Nat.lt_of_le_of_lt hSl (hG.above t ht)))
  have newS : H S = none := I.hok.fresh hSl
  have atP := putZ_at as (xs.zip ys) (upd H S (.lst (as.map V.ref))) (by omega) nd
  have off : ∀ b, b ∉ as → b ≠ S → putZ (upd H S (.lst (as.map V.ref))) as (xs.zip ys) b = H b := fun b h1 h2 => by rw [putZ_off as _ _ h1, upd_ne h2]
  have low : ∀ b o, s.heap.get? b = some o → b ∉ as ∧ b ≠ S := fun b o e => ⟨fun z => absurd (Heap.lt_size e) (Nat.not_lt.mpr (Nat.le_of_lt (Nat.lt_of_le_of_lt hSl (hG.above b z)))), Nat.ne_of_lt (Nat.lt_of_lt_of_le (Heap.lt_size e) hSl)⟩
  have kp : ∀ b u, H b = some u → (putZ (upd H S (.lst (as.map V.ref))) as (xs.zip ys)) b = some u := fun b u e => by
    rw [off b (fun z => by rw [new b z] at e; cases e) (fun z => by rw [z, newS] at e; cases e)]
    exact e
  have eS : putZ (upd H S (.lst (as.map V.ref))) as (xs.zip ys) S = some (.lst (as.map V.ref)) := by rw [putZ_off as _ _ hSn, upd_same]
  refine ⟨newS, new, hSn, nd, ?_⟩
  refine I.call' (ch := []) rfl ⟨fun b o q _ _ _ => hk b o q, fun b o q _ _ _ => ⟨o.slots, hk b o q⟩, fun b o q n _ => ?_, fun b o q _ => ⟨o, hk b o q⟩, fun b xs q => kp b _ q, fun b o u q => kp b _ q, fun b ps q => ⟨#[], by rw [kp b _ q]; simp⟩⟩ (fun b u q => ?_) I.bare fun b z => by simp at z
  · obtain ⟨z1, z2⟩ := low b o q
    rw [off b z1 z2]
    exact n
  · by_cases hb : b ∈ as
    · obtain ⟨j, pk, e1, e2, e3⟩ := LiI.paired_ix atP hb
      rw [e3] at q
      cases q
      obtain ⟨x, y, f1, f2, f3⟩ := hG.pairs j b e1
      obtain ⟨g1, g2⟩ := List.getElem?_zip_eq_some.mp e2
      obtain ⟨u, hu, ru⟩ := rx.get g1
      obtain ⟨v, hv, rv⟩ := ry.get g2
      have eu : x = u := by
        have : us[j]? = some x := by simpa using f1
        rw [hu] at this; exact (Option.some.inj this).symm
      have ev : y = v := by
        have : vs[j]? = some y := by simpa using f2
        rw [hv] at this; exact (Option.some.inj this).symm
      subst eu ev
      exact ⟨by show 2 ≤ sizeLine; decide, [x, y], .cons ru (.cons rv .nil), ⟨_, f3, rfl, _, rfl⟩⟩
    · by_cases hb2 : b = S
      · rw [hb2] at q ⊢
        rw [eS] at q
        cases q
        refine ⟨by rw [List.length_map]; omega, acc.toList, c, by rw [hacc]; exact LiI.vals_refs as, ?_⟩
        rw [Array.toArray_toList]
        exact hS
      · rw [off b hb hb2] at q
        exact (I.hok b u q).stay (fun d v _ y => hk d v y) (fun d y => kp d _ y) fun d xs y => kp d _ y
/-- list(zip(e, e2)) of tuples -/
theorem pe_listZip (hc : X.calm = true) (ha : PA X [e, e2] ta) (hg : Gl X "list") (hm : X.mg "list" = none) (hg2 : Gl X "zip") (hm2 : X.mg "zip" = none) (hv : bootBuiltins "list" = some (.type "list"))
    (hs : starEach [.Call (.Name "zip" p2) [e, e2] [] pos2] X.env = (false, eval (.Call (.Name "zip" p2) [e, e2] [] pos2) X.env) :: starEach [] X.env := by rfl)
    (hs2 : starEach [e, e2] X.env = (false, eval e X.env) :: starEach [e2] X.env := by rfl) (hpl : (backTo pos2 (starEach [e2] X.env)).any (·.1) = false := by rfl) :
    PE X (.Call (.Name "list" p) [.Call (.Name "zip" p2) [e, e2] [] pos2] [] pos) (tListZip X.K ta) := by
  refine ⟨fun pins s σ H Q I hq => ?_⟩
  refine wpAny_Call_Name_kw (ld_blt I hg hm hv ?_)
  refine PyProof.Rows.callWith_type1 ?_ hs rfl
  rw [hs]
  show wpAny _ _ (spliced ((false, eval (.Call (.Name "zip" p2) [e, e2] [] pos2) X.env) :: backTo pos (starEach [] X.env))) _ _ s
  refine Calls.spliced_cons ?_
  refine Call_ (ld_blt I hg2 hm2 PyProof.Rows.boot_zip (PyProof.Rows.callWith_type1 (thn (ha.run pos2 pins s σ H _ I hq) fun us s1 ⟨vs, H1, I1, r1, q1⟩ => ?_) hs2 hpl))
  obtain ⟨a, b, xs, ys, ex, hqx, hqy, exy, hn, q⟩ := q1
  subst ex
  cases r1 with
  | cons r rr =>
    cases rr with
    | cons r' rr =>
      cases rr
      cases r
      cases r'
      obtain ⟨its, rv, p1, _⟩ := I1.tuple hqx
      obtain ⟨its2, rv2, p2', _⟩ := I1.tuple hqy
      obtain ⟨o1, ho1, _⟩ := id p1
      obtain ⟨o2, ho2, _⟩ := id p2'
      have lx := rv.length
      have ly := rv2.length
      refine RZ.call_zipT (show s1.heap.IsTuple a its.toArray from p1) (show s1.heap.IsTuple b its2.toArray from p2') fun h' hz hTI hTO h1 h2 hsz hk => ?_
      have D := PySem.W.ktu_apart s1.heap.objs.size a b (Heap.lt_size ho1) (Heap.lt_size ho2)
      refine Calls.spliced_nil ?_
      refine call_listZip (n := xs.length) (s := { s1 with heap := h' }) (I1.ok.hd hc) D hz hTI ⟨_, _, hTO⟩ h1 h2 (let ⟨o, ho, q⟩ := p1; ⟨o, hk _ _ ho, q⟩) (let ⟨o, ho, q⟩ := p2'; ⟨o, hk _ _ ho, q⟩) (by simp [lx]) (by simp; omega) hn fun h2' tk acc c as hk2 hS hl hG hacc => ?_
      have lt5 : ∀ {b o k}, s1.heap.get? b = some o → b ≠ s1.heap.objs.size + k := fun {b o k} e => Nat.ne_of_lt (Nat.lt_of_lt_of_le (Heap.lt_size e) (Nat.le_add_right _ _))
      obtain ⟨k1, k2, k3, k4, J⟩ := laid (tk := tk) (S := h'.objs.size) (ch := []) I1 hn exy rv rv2 (by rw [hsz]; omega) (fun _ z => nomatch z) (fun b o e => hk2 b o (lt5 e) (lt5 e) (lt5 (k := 0) e) (lt5 e) (hk b o e)) hS (by omega) hG hacc
      exact ⟨.ref _, _, J, rfl, q _ as k1 k2 k3 k4 (by omega)⟩
end
end ZL
namespace DL
open PySem PySem.Spec L2 ZL
section
variable {X : Cx} {A : Act} {e e2 : Expr} {a : AT} {p p2 pos2 pos : Pos}
def listZipD (ds : List PyData) (P : PyData → Prop) : Prop := match ds with
  | [.tuple xs, .tuple ys] => xs.length = ys.length ∧ xs.length ≤ 100000 ∧ P (.list ((xs.zip ys).map fun p => .tuple [p.1, p.2]))
  | _ => False
def dListZip (a : AT) : ET := fun xq ρ P => a xq ρ fun ds => listZipD ds P
theorem exZ {K : PySem.W.Frag} {c : Dc} : ∀ (ts : List Addr) (ps : List (V × V)) {B H : Hp}, Ok K c B H → (∀ t ∈ ts, H t = none) → ts.Nodup → Ex K c B H (putZ B ts ps) (putZ H ts ps)
  | [], _, _, _, o, _, _ => o.refl
  | _ :: _, [], _, _, o, _, _ => o.refl
  | t :: ts, p :: ps, B, H, o, h, n => by
    have n' := List.nodup_cons.mp n
    have x1 := o.new (h t List.mem_cons_self) (x := .tup [p.1, p.2])
    exact x1.trans (exZ ts ps x1.ok (fun u hu => by
      rw [upd_ne (fun e => n'.1 (by rw [← e]; exact hu))]
      exact h u (List.mem_cons_of_mem _ hu)) n'.2)
theorem rpsZ {K : PySem.W.Frag} {c : Dc} {B B' : Hp} (sb : Same B B') : ∀ {ts : List Addr} {xs ys : List V} {dx dy : List PyData}, Rps K c B xs dx → Rps K c B ys dy → ts.length = (xs.zip ys).length → Paired (fun (t : Addr) (p : V × V) => B' t = some (.tup [p.1, p.2])) ts (xs.zip ys) → Rps K c B' (ts.map V.ref) ((dx.zip dy).map fun p => .tuple [p.1, p.2])
  | _, _, _, _, _, .nil, _, _, .nil => .nil
  | _, _, _, _, _, .cons _ _, .nil, _, .nil => .nil
  | _, _, _, _, _, .cons a r, .cons b q, l, .cons h t => .cons (.tup (SqX.of h) (.cons (a.mono sb) (.cons (b.mono sb) .nil))) (rpsZ sb r q (Nat.succ.inj l) t)
theorem de_listZip (hc : X.calm = true) (hg : Gl X "list") (hm : X.mg "list" = none) (hg2 : Gl X "zip") (hm2 : X.mg "zip" = none) (hv : bootBuiltins "list" = some (.type "list")) (ha : DA X A [e, e2] a)
    (hs : starEach [.Call (.Name "zip" p2) [e, e2] [] pos2] X.env = (false, eval (.Call (.Name "zip" p2) [e, e2] [] pos2) X.env) :: starEach [] X.env := by rfl)
    (hs2 : starEach [e, e2] X.env = (false, eval e X.env) :: starEach [e2] X.env := by rfl) (hpl : (backTo pos2 (starEach [e2] X.env)).any (·.1) = false := by rfl) :
    DE X A (.Call (.Name "list" p) [.Call (.Name "zip" p2) [e, e2] [] pos2] [] pos) (dListZip a) := ⟨fun {xq σ B H ρ P} g h => by
  refine PEw (pe_listZip hc (paW _) hg hm hg2 hm2 hv hs hs2 hpl) ((ha.run g h).mono fun vs H1 ⟨ds, B1, q, x1, r, l⟩ => ?_)
  unfold listZipD at q
  simp only at q
  split at q
  · rename_i xs ys
    obtain ⟨q1, q2, q3⟩ := q
    cases r with
    | cons r1 r =>
      cases r with
      | cons r2 r =>
        cases r
        cases r1 with
        | @tup ax vx _ sx rx =>
          cases r2 with
          | @tup ay vy _ sy ry =>
            have lx := rx.length
            have ly := ry.length
            refine ⟨_, _, _, _, rfl, (same_seqT x1.sh sx.1), (same_seqT x1.sh sy.1), by omega, Nat.le_trans (by omega : _ ≤ 100000) (Nat.le_of_lt (small_line (by decide))), fun p ts h1 h2 h3 h4 h5 => ?_⟩
            have o2 := x1.ok.new h1 (x := .lst (ts.map V.ref))
            have x2 := exZ ts (vx.zip vy) o2.ok (fun t ht => by
              rw [upd_ne (fun e => h3 (by rw [← e]; exact ht))]
              exact h2 t ht) h4
            have lz : ts.length = (vx.zip vy).length := by rw [List.length_zip]; omega
            have pr := putZ_at ts (vx.zip vy) (upd B1 p (.lst (ts.map V.ref))) lz h4
            refine ⟨_, _, q3, x1.trans (o2.trans x2), .lst (by rw [putZ_off _ _ _ h3, upd_same]) (rpsZ (o2.sb.trans x2.sb) rx ry lz pr)⟩
  · exact q.elim⟩
end
end DL

/-! DL13: `_law_kind(lambda: ..)`: try: work() / except GridError as e: which of seven names. -/
namespace DL
open PySem PySem.Spec L2 PyProof.Rows
section
variable {X : Cx}
def rCntV (K : PySem.W.Frag) : V → List V → Hp → VK → Prop := fun x xs H Q => ∃ (p : Addr) (ys : List V) (y : V), x = .ref p ∧ xs = [y] ∧ SqL K H p ys ∧ flatV y = true ∧ ys.all flatV = true ∧ Q (.int ((ys.countP fun z => eqV z y : Nat) : Int)) H
theorem countP_eqU {y : V} : ∀ {ys : List V} {us : List Value}, Vals ys us → ys.all flatV = true → us.countP (eqU y) = ys.countP fun z => eqV z y
  | _, _, .nil, _ => rfl
  | z :: ys, u :: us, .cons r t, f => by
    rw [List.all_cons, Bool.and_eq_true] at f
    rw [List.countP_cons, List.countP_cons, countP_eqU t f.2, eqU_of r f.1]
theorem mt_countV : MtR X "list.count" (rCntV X.K) := by
  intro pins s σ H x xs v us Q I rx rxs h
  obtain ⟨p, ys, y, rfl, rfl, hs, fy, fys, q⟩ := h
  cases rx
  cases rxs with
  | cons ry rt =>
    rename_i uy ut
    cases rt
    obtain ⟨its, rv, ⟨⟨cls, dd, data, sl⟩, n, ho, hc, hdn, hd⟩, hlen⟩ := I.list hs
    simp only at hc hd
    subst hc hd
    refine call_meets PySem.F.slot_list_count ⟨_, ho, rfl⟩ PySem.F.entry_list_count (PySem.F.args_list_count_2 _ _)
      (SeqAt.list_countAt p its.toArray n dd sl uy (eqU y)) ⟨ho, fun u hu => mem_eqAt ry fy rv fys u (by simpa using hu), ?_⟩
    have ec : its.toArray.toList.countP (eqU y) = ys.countP fun z => eqV z y := countP_eqU rv fys
    refine ⟨.int ((ys.countP fun z => eqV z y : Nat) : Int), H, I.tok _, ⟨s.toks, ?_⟩, q⟩
    show Value.int ((its.toArray.toList.countP (eqU y) : Nat) : Int) s.toks = Value.int ((ys.countP fun z => eqV z y : Nat) : Int) s.toks
    rw [ec]
end
def words7 : List Str := [Str.ofString "NoNet", Str.ofString "NoFeed", Str.ofString "NoCount", Str.ofString "NoTable", Str.ofString "NoFault", Str.ofString "NoSchedule", Str.ofString "NoText"]
/-- what a class of errors must say, so that `_law_kind` tells its name -/
structure KindC (K : PySem.W.Frag) (mg : Str → Option Value) (C : Addr) (j : Nat) : Prop where
  c : ExcC K C
  cs : ∀ i m, words7[i]? = some m → ∃ Cm, mg m = some (.ref Cm) ∧ PySem.W.kitOne K (.ref C) (.ref Cm) = some (decide (i = j))
  v : PySem.W.kitOne K (.ref C) (.type "ValueError") = some true
  lt : j < 7
section
variable {X : Cx} {a : Addr} {oe : Obj} {pn : List (Addr × Obj)} {Q : VK}
/-- the seven tests' outcomes -/
def bs7 (j : Nat) : List V := (List.range 7).map fun i => V.bl (decide (i = j))
theorem bs7_flat (j : Nat) : (bs7 j).all flatV = true := by simp [bs7, flatV]
theorem bs7_count {j : Nat} (h : j < 7) : ((bs7 j).countP fun z => eqV z (.bl true)) = 1 := by
  have : j = 0 ∨ j = 1 ∨ j = 2 ∨ j = 3 ∨ j = 4 ∨ j = 5 ∨ j = 6 := by omega
  rcases this with rfl | rfl | rfl | rfl | rfl | rfl | rfl <;> decide
theorem bs7_at {j i : Nat} (h : i < 7) : (bs7 j)[i]? = some (V.bl (decide (i = j))) := by simp [bs7, h]
/-- one test -/
def tIs (K : PySem.W.Frag) (D a : Addr) (i : Nat) (c : V) : TE := tCB (rIsE K D a) (tCons (tVar i) (tCons (tC c) tNil))
theorem isE_at {σ : L2.St} {H : Hp} {D Cm : Addr} {b : Bool} {Q : VK} {K : PySem.W.Frag} (hs : σ[1]? = some (some (.ref a))) (h : PySem.W.kitOne K (.ref D) (.ref Cm) = some b) (q : Q (.bl b) H) : tIs K D a 1 (.ref Cm) σ H Q :=
  ⟨.ref a, hs, .ref Cm, .ref Cm, b, rfl, fun u r => r, h, q⟩
theorem isV_at {σ : L2.St} {H : Hp} {D : Addr} {b : Bool} {Q : VK} {K : PySem.W.Frag} (hs : σ[1]? = some (some (.ref a))) (h : PySem.W.kitOne K (.ref D) (.type "ValueError") = some b) (q : Q (.bl b) H) : tIs K D a 1 (.ty "ValueError") σ H Q :=
  ⟨.ref a, hs, .ty "ValueError", .type "ValueError", b, rfl, fun u r => r, h, q⟩
end
end DL

namespace DL
open PySem PySem.Spec L2 PyProof.Rows
def names4 : List Str := [Str.ofString "_law_work", Str.ofString "e", Str.ofString "_law_words", Str.ofString "_law_kinds"]
/-- new lists alone -/
inductive NewL : Hp → Hp → Prop
  | refl (H : Hp) : NewL H H
  | step {H H1 : Hp} {p : Addr} {xs : List V} : NewL H H1 → H1 p = none → NewL H (upd H1 p (.lst xs))
theorem NewL.ex {K : PySem.W.Frag} {c : Dc} {B H H' : Hp} (n : NewL H H') (o : Ok K c B H) : Ex K c B H B H' := by
  induction n with
  | refl => exact o.refl
  | step n hp ih => exact ih.trans (ih.ok.newOwn hp)
/-- which of the seven -/
def TKind (K : PySem.W.Frag) (mg : Str → Option Value) : (XK → Hp → VK → Prop) → Hp → VK → Prop := fun tl H Q =>
  tl (fun cls d H' => ∃ C j n, cls = .ref C ∧ d = none ∧ KindC K mg C j ∧ words7[j]? = some n ∧ (∀ CG, mg "GridError" = some (.ref CG) → PySem.W.exmOne K (.ref C) (.ref CG) = some true) ∧ ∀ H'', NewL H' H'' → Q (.str n) H'') H fun _ H' => Q (.str (Str.ofString "")) H'
theorem isN_at {K : PySem.W.Frag} {mg : Str → Option Value} {C a : Addr} {j i : Nat} {m : Str} {Cm : Addr} (kc : KindC K mg C j) (hm : words7[i]? = some m) (g : mg m = some (.ref Cm)) {σ : L2.St} {H : Hp} {Q : VK} (hs : σ[1]? = some (some (.ref a))) (q : Q (.bl (decide (i = j))) H) : tIs K C a 1 (.ref Cm) σ H Q := by
  obtain ⟨C', g', k⟩ := kc.cs i m hm
  rw [g] at g'; cases g'
  exact isE_at hs k q
end DL

namespace DL
open PySem PySem.Spec L2 PyProof.Rows
/-- nothing but data is seen -/
def onlyD (ρ : List EV) : List EV := ρ.map fun e => match e with
  | .d x => .d x
  | _ => .un
/-- a name that `_law_kind` may tell -/
structure KindN (K : PySem.W.Frag) (mg : Str → Option Value) (n : Str) : Prop where
  ex : ∃ C j, mg n = some (.ref C) ∧ words7[j]? = some n ∧ KindC K mg C j ∧ ∀ CG, mg "GridError" = some (.ref CG) → PySem.W.exmOne K (.ref C) (.ref CG) = some true
def dKind (ns : List Str) (F : ET) : ET := fun _ ρ P => F (fun n r => r = none ∧ n ∈ ns ∧ P (.str n)) (onlyD ρ) fun _ => P (.str (Str.ofString ""))
theorem ex_tab {K : PySem.W.Frag} {c : Dc} {B H H1 : Hp} (o : Ok K c B H) (e : LamX.ExtN H H1) (t : LamX.Tabs c.tb H1) : Ex K c B H B H1 := by
  obtain ⟨k, m, r, e1, h1, h2, h3, h4, h5⟩ := o.wd
  exact ⟨Same.refl B, fun a u q => e a u (o.sh a u q) fun ps z => o.nt a ps (by rw [q, z]), fun a u _ q n => e a u q n, fun _ _ => rfl, o.st, ⟨k, m, r, e _ _ e1 nofun, h1, h2, h3, h4.mono (fun oo u q => e _ _ q nofun) (fun xs _ q => e _ _ q nofun), t⟩, o.wd.sl, o.nt⟩
theorem env_only {K : PySem.W.Frag} {c : Dc} {H0 H0' B H : Hp} {σ : L2.St} {ρ : List EV} (en : EnvOk K c H0 B H σ ρ) : EnvOk K c H0' B H σ (onlyD ρ) := by
  refine ⟨by rw [en.len, onlyD, List.length_map], fun _ _ => False, fun i s e hs he => ?_, fun _ _ z => z.elim, fun _ _ _ z => z.elim⟩
  unfold onlyD at he
  rw [List.getElem?_map] at he
  obtain ⟨e', h1, h2⟩ := Option.map_eq_some_iff.mp he
  subst h2
  cases e' with
  | d x =>
    obtain ⟨v, q, r⟩ := en.data h1
    rw [hs] at q
    cases q
    exact ⟨v, rfl, r⟩
  | un => trivial
  | own _ => trivial
  | deep _ _ => trivial
  | dic _ => trivial
  | hall _ _ _ => trivial
section
variable {X : Cx} {A : Act}
/-- the lambda's body, whatever its frame is -/
def tLamB (X : Cx) (k : Nat) (scope : Scope) (body : Expr) (E : XK) : TE := fun σ H Q => ∀ (A' : Around) (outer : List Env) (s : Shared) (H' : Hp) (f c' : Addr), Room k (A'.deeper (LamX.lamEnv X scope s.heap.objs.size f c')) → wE (LamX.lamCx X A' outer s H' E scope f c') body σ H Q
theorem pas_lam {A' : Around} {outer : List Env} {s : Shared} {H' : Hp} {E : XK} {scope : Scope} {f c' : Addr} : Passes (L2.CX (LamX.lamCx X A' outer s H' E scope f c').prog (LamX.lamCx X A' outer s H' E scope f c').w) (LamX.lamCx X A' outer s H' E scope f c') E := passes_call (takes_of rfl rfl rfl rfl) fun _ _ _ _ h => h
/-- the law's own table -/
structure LawT (X : Cx) (T : List (Addr × Str)) : Prop where
  ex : ∃ c P, LamX.TabB X.base X.mg c P ∧ X.env.code = .ref c ∧ T = [(P, X.env.qual ++ "<lambda>")]
theorem lawT_mk {c0 P0 : Addr} {n : Str} (TB : LamX.TabB X.base X.mg c0 P0) (h : X.env.code = .ref c0) (q : X.env.qual = n) : LawT X [(P0, n ++ "<lambda>")] := ⟨c0, P0, TB, h, by rw [q]⟩
end
end DL

/-! DL16: dicts whose keys are tuples of ints: {}, in, not in, d[k], d[k] = v. -/
namespace DL
open PySem PySem.Spec L2
section
variable {X : Cx} {A : Act}
def rInT2 : R2 := fun x y H Q => ∃ a o, y = .ref a ∧ DGet H a x o ∧ Q (.bl o.isSome) H
def rNotInT2 : R2 := fun x y H Q => ∃ a o, y = .ref a ∧ DGet H a x o ∧ Q (.bl (!o.isSome)) H
theorem op_inT2 (hu : X.A.units + 1 < cLine) : OpR X (compareOp .In) rInT2 := by
  intro pins s σ H x y v u Q I rx ry h
  obtain ⟨a, o, rfl, g, q⟩ := h
  obtain rfl : u = Value.ref a := ry
  exact d_in hu I g rx fun s3 I3 => ⟨.bl o.isSome, H, I3, rfl, q⟩
theorem op_notInT2 (hu : X.A.units + 1 < cLine) : OpR X (compareOp .NotIn) rNotInT2 := by
  intro pins s σ H x y v u Q I rx ry h
  obtain ⟨a, o, rfl, g, q⟩ := h
  obtain rfl : u = Value.ref a := ry
  exact d_notIn hu I g rx fun s3 I3 => ⟨.bl (!o.isSome), H, I3, rfl, q⟩
/-- what is kept under a key -/
def getT (kvs : List (List Int × PyData)) (k : List Int) : Option PyData := (kvs.find? fun e => decide (e.1 = k)).map (·.2)
def putT (kvs : List (List Int × PyData)) (k : List Int) (v : PyData) : List (List Int × PyData) :=
  if (kvs.any fun e => decide (e.1 = k)) = true then kvs.map (fun e => if e.1 = k then (e.1, v) else e) else kvs ++ [(k, v)]
theorem inl_inj {a b : List Int} : (a.map Sum.inl : List Key) = b.map Sum.inl ↔ a = b := by
  constructor
  · intro h
    exact List.map_inj_right (fun x y e => by cases e; rfl) |>.mp h
  · intro h
    rw [h]
theorem key_vals (k : List Int) : (k.map Sum.inl : List Key).map kV = k.map V.int := by
  rw [List.map_map]
  rfl
theorem rp_key {K : PySem.W.Frag} {c : Dc} {B H : Hp} {v : V} {k : List Int} (sh : Same B H) (r : Rp K c B v (keyD k)) : ∃ b, v = .ref b ∧ H b = some (.tup ((k.map Sum.inl : List Key).map kV)) := by
  unfold keyD at r
  generalize e : k.map PyData.int = ds at r
  cases r with
  | tup h rr =>
    subst e
    have ev := Rps.ints rr
    subst ev
    rcases h.2 with q | ⟨s, r, q⟩
    · exact ⟨_, rfl, by rw [key_vals]; exact sh _ _ q⟩
    · cases k <;> cases q
theorem rpk_get {K : PySem.W.Frag} {c : Dc} {B : Hp} {k : List Int} : ∀ {kv : List (List Key × V)} {kvs : List (List Int × PyData)}, Rpk K c B kv kvs → (∀ d, getT kvs k = some d → ∃ v, valV kv (k.map Sum.inl) = some v ∧ Rp K c B v d) ∧ (getT kvs k = none → valV kv (k.map Sum.inl) = none)
  | _, _, .nil => ⟨fun d h => (nomatch (show (none : Option PyData) = some d from h)), fun _ => rfl⟩
  | _, _, .cons (k := k') (v := v) (vs := vs) (d := d) (ds := ds) a r => by
    have ih := rpk_get (k := k) r
    by_cases e : k' = k
    · subst e
      have e1 : getT ((k', d) :: ds) k' = some d := by simp [getT]
      refine ⟨fun d' h => ?_, fun h => ?_⟩
      · rw [e1] at h
        cases h
        exact ⟨v, valV_pos rfl, a⟩
      · rw [e1] at h; cases h
    · have e1 : getT ((k', d) :: ds) k = getT ds k := by simp [getT, e]
      have e2 : valV ((k'.map Sum.inl, v) :: vs) (k.map Sum.inl) = valV vs (k.map Sum.inl) := valV_neg (fun h => e (inl_inj.mp h))
      rw [e1, e2]
      exact ih
theorem rpk_any {K : PySem.W.Frag} {c : Dc} {B : Hp} {k : List Int} : ∀ {kv : List (List Key × V)} {kvs : List (List Int × PyData)}, Rpk K c B kv kvs → (kv.any fun e => decide (e.1 = k.map Sum.inl)) = kvs.any fun e => decide (e.1 = k)
  | _, _, .nil => rfl
  | _, _, .cons (k := k') a r => by
    rw [List.any_cons, List.any_cons, rpk_any r]
    congr 1
    by_cases e : k' = k
    · subst e; simp
    · rw [decide_eq_false e, decide_eq_false (fun h => e (inl_inj.mp h))]
theorem rpk_length {K : PySem.W.Frag} {c : Dc} {B : Hp} : ∀ {kv : List (List Key × V)} {kvs : List (List Int × PyData)}, Rpk K c B kv kvs → kv.length = kvs.length
  | _, _, .nil => rfl
  | _, _, .cons _ r => congrArg (· + 1) (rpk_length r)
theorem rpk_map {K : PySem.W.Frag} {c : Dc} {B : Hp} {k : List Int} {v : V} {d : PyData} (q : Rp K c B v d) : ∀ {kv : List (List Key × V)} {kvs : List (List Int × PyData)}, Rpk K c B kv kvs → Rpk K c B (kv.map fun e => if e.1 = k.map Sum.inl then (e.1, v) else e) (kvs.map fun e => if e.1 = k then (e.1, d) else e)
  | _, _, .nil => .nil
  | _, _, .cons (k := k') (v := v') (d := d') a r => by
    rw [List.map_cons, List.map_cons]
    by_cases e : k' = k
    · subst e
      simp only [if_true]
      exact .cons q (rpk_map q r)
    · rw [if_neg (fun h => e (inl_inj.mp h)), if_neg e]
      exact .cons a (rpk_map q r)
theorem rpk_snoc {K : PySem.W.Frag} {c : Dc} {B : Hp} {k : List Int} {v : V} {d : PyData} (q : Rp K c B v d) : ∀ {kv : List (List Key × V)} {kvs : List (List Int × PyData)}, Rpk K c B kv kvs → Rpk K c B (kv ++ [(k.map Sum.inl, v)]) (kvs ++ [(k, d)])
  | _, _, .nil => .cons q .nil
  | _, _, .cons a r => .cons a (rpk_snoc q r)
theorem rpk_put {K : PySem.W.Frag} {c : Dc} {B : Hp} {k : List Int} {v : V} {d : PyData} (q : Rp K c B v d) {kv : List (List Key × V)} {kvs : List (List Int × PyData)} (r : Rpk K c B kv kvs) : Rpk K c B (putK kv (k.map Sum.inl) v) (putT kvs k d) := by
  unfold putK putT
  rw [rpk_any r]
  split
  · exact rpk_map q r
  · exact rpk_snoc q r
/-- in, for a dict that is seen as data -/
def inDicD : OT := fun x y P => ∃ k kvs, x = keyD k ∧ y = dicD kvs ∧ P (.bool (getT kvs k).isSome)
def ninDicD : OT := fun x y P => ∃ k kvs, x = keyD k ∧ y = dicD kvs ∧ P (.bool (!(getT kvs k).isSome))
theorem rp_dic {K : PySem.W.Frag} {c : Dc} {B H : Hp} {v : V} {kvs : List (List Int × PyData)} (sh : Same B H) (r : Rp K c B v (dicD kvs)) : ∃ a kv, v = .ref a ∧ B a = some (.dT kv) ∧ H a = some (.dT kv) ∧ Rpk K c B kv kvs := by
  unfold dicD at r
  generalize e : kvs.map kvD = ds at r
  cases r with
  | @dic a kv kvs' h rr =>
    have hinj : kvs' = kvs := by
      have := e
      exact (List.map_inj_right (fun x y q => by
        unfold kvD keyD at q
        injection q with q
        injection q with q1 q2
        injection q2 with q2 _
        injection q1 with q1
        have : x.1 = y.1 := List.map_inj_right (fun a b z => by cases z; rfl) |>.mp q1
        exact Prod.ext this q2)).mp this.symm
    subst hinj
    exact ⟨_, _, rfl, h, sh _ _ h, rr⟩
theorem dget_dic {K : PySem.W.Frag} {c : Dc} {B H : Hp} {x y : V} {k : List Int} {kvs : List (List Int × PyData)} (sh : Same B H) (rx : Rp K c B x (keyD k)) (ry : Rp K c B y (dicD kvs)) : ∃ a o, y = .ref a ∧ DGet H a x o ∧ (∀ d, getT kvs k = some d → ∃ v, o = some v ∧ Rp K c B v d) ∧ (getT kvs k = none → o = none) := by
  obtain ⟨b, rfl, hb⟩ := rp_key sh rx
  obtain ⟨a, kv, rfl, _, ha, rr⟩ := rp_dic sh ry
  obtain ⟨g1, g2⟩ := rpk_get (k := k) rr
  exact ⟨a, _, rfl, DGet.t ha hb, g1, g2⟩
theorem od_inDic (hu : X.A.units + 1 < cLine) : OD X A (compareOp .In) inDicD := ⟨fun {B H x y dx dy P} o r1 r2 ⟨k, kvs, e1, e2, q⟩ => by
  subst e1 e2
  obtain ⟨a, ov, ey, g, g1, g2⟩ := dget_dic o.sh r1 r2
  refine OpRw (op_inT2 hu) ⟨a, ov, ey, g, EPost.at o (.bl _) ?_⟩
  cases e : getT kvs k with
  | none => rw [g2 e]; rw [e] at q; exact q
  | some d =>
    obtain ⟨v, ev, _⟩ := g1 d e
    rw [ev]; rw [e] at q; exact q⟩
theorem od_ninDic (hu : X.A.units + 1 < cLine) : OD X A (compareOp .NotIn) ninDicD := ⟨fun {B H x y dx dy P} o r1 r2 ⟨k, kvs, e1, e2, q⟩ => by
  subst e1 e2
  obtain ⟨a, ov, ey, g, g1, g2⟩ := dget_dic o.sh r1 r2
  refine OpRw (op_notInT2 hu) ⟨a, ov, ey, g, EPost.at o (.bl _) ?_⟩
  cases e : getT kvs k with
  | none => rw [g2 e]; rw [e] at q; exact q
  | some d =>
    obtain ⟨v, ev, _⟩ := g1 d e
    rw [ev]; rw [e] at q; exact q⟩
/-- x = {} -/
def dNewT (i : Nat) : STd := fun _ ρ D => D.nx (ρ.set i (.dic []))
theorem ds_newT {st : Stmt} (i : Nat) (hp : PS X st (tAsg tDNewT (gName i))) : DS X A st (dNewT i) := ⟨fun {xq σ B H ρ Dd D} g q l => PSw hp fun p hn => by
  have x := g.ok.newOwn (x := .dT []) hn
  refine l.nx _ _ B _ q (g.ex.trans x) (Same.refl B) (g.en.putNew x i (fun a => a = p) ⟨p, [], rfl, upd_same, rfl, .nil⟩ (fun a z => ?_) fun a z => by rw [z]; exact .of hn)
  rw [z]
  exact ⟨g.ok.noB hn, fun e => g.ok.wd.ne (by rw [← e]; exact hn), g.ex.free (.of hn), _, upd_same, nofun⟩⟩
/-- an own dict is changed -/
theorem Ex.setT {K : PySem.W.Frag} {c : Dc} {B H B1 H1 : Hp} (x : Ex K c B H B1 H1) {D : Addr} {kv ws : List (List Key × V)} (h1 : H1 D = some (.dT kv)) (b1 : B1 D = none) (h0 : Fre H D) : Ex K c B H B1 (L2.upd H1 D (.dT ws)) := by
  have ne : ∀ {a o}, H1 a = some o → (∀ ws, o ≠ .dT ws) → a ≠ D := fun {a o} e t z => by
    rw [z, h1] at e
    exact t kv (Option.some.inj e).symm
  obtain ⟨k, m, r, e, g1, g2, g3, g4, g5⟩ := x.wd
  refine ⟨x.sb, fun a u z => by rw [upd_ne (fun w => by rw [w, b1] at z; cases z)]; exact x.sh a u z, fun a u n z t => by rw [upd_ne (fun w => by rw [w] at z; exact h0.no z t)]; exact x.fr a u n z t, x.nw, x.st, ⟨k, m, r, ?_, g1, g2, g3, g4.mono (fun o u q => ?_) (fun xs _ q => ?_), fun p hp => ?_⟩, x.sl, x.nt⟩
  · rw [upd_ne (ne e nofun)]; exact e
  · rw [upd_ne (ne q nofun)]; exact q
  · rw [upd_ne (ne q nofun)]; exact q
  · obtain ⟨ps, t1, t2, t3⟩ := g5 p hp
    refine ⟨ps, by rw [upd_ne (ne t1 nofun)]; exact t1, t2, fun pos cv hc => ?_⟩
    obtain ⟨cc, e1, e2⟩ := t3 pos cv hc
    exact ⟨cc, e1, by rw [upd_ne (ne e2 (fun ws z => by unfold LamX.CodeO at z; cases z))]; exact e2⟩
/-- x[k] = v, x an own dict -/
def dPutT (i : Nat) (tk tv : ET) : STd := fun xq ρ D => match ρ[i]? with
  | some (.dic kvs) => tv xq (frz ρ) fun d => flat d = true ∧ tk xq (frz ρ) fun kk => flat kk = true ∧ ∃ k, kk = keyD k ∧ kvs.length < 100000 ∧ D.nx (ρ.set i (.dic (putT kvs k d)))
  | _ => False
theorem ds_putT {b e : Expr} {tk tv : ET} {n : Nat} {x : Str} {p pos spos : Pos} (i : Nat) (hr : Room n X.A) (hv : DE X A e tv) (hk : DE X A b tk) (hs : swapsWith e (some (.Subscript (.Name x p) b pos)) spos.line X.env = pure false)
    (hN : X.N[i]? = some x := by rfl) (hvis : Vis X.env.scope x := by first | exact Or.inl rfl | exact Or.inr (Or.inl rfl) | exact Or.inr (Or.inr rfl)) (hd : (x == ("__debug__" : Str)) = false := by decide) (hcd : (x == ("__classdict__" : Str)) = false := by decide) :
    DS X A (.Assign [.Subscript (.Name x p) b pos] e spos) (dPutT i tk tv) := ⟨fun {xq σ B H ρ Dd D} g q l => by
  unfold dPutT at q
  split at q
  · rename_i kvs hi
    refine PSw (ps_dput (hu_of hr) (pe_var hN hvis hd hcd) (peW b) (peW e) hs) ((hv.frzF g q).mono fun v H1 ⟨d, B1, q1, x1, rv⟩ => ?_)
    have g1 := g.step x1
    obtain ⟨s, fp, e1, ⟨o, kv, e2, ho, hf, rr⟩, fr⟩ := g1.en.at hi
    subst e2
    refine ⟨.ref o, e1, (hk.frzF g1 q1).mono fun y H3 ⟨kk, B3, q3, x3, rk⟩ => ?_⟩
    obtain ⟨k, rfl, hl, q4⟩ := q3
    have g3 := g1.step x3
    obtain ⟨b', rfl, hb⟩ := rp_key g3.ok.sh rk
    have f1 := fr o hf
    have h3 := x3.fr o _ f1.nst ho nofun
    have f3 : Fr A.c A.H0 B3 H3 o := f1.step x3
    refine ⟨o, _, rfl, DPut.t h3 hb (by rw [rpk_length rr]; exact Nat.lt_of_lt_of_le hl (Nat.le_of_lt (small_line (by decide)))), ?_⟩
    have rr3 : Rpk X.K A.c B3 (putK kv (k.map Sum.inl) v) (putT kvs k d) := rpk_put (rv.mono x3.sb) (rr.mono x3.sb)
    refine l.nx _ σ B3 _ q4 (g3.ex.setT h3 f3.nb f3.n0) (x1.sb.trans x3.sb) ?_
    have en := g3.en.change (H' := upd H3 o (.dT (putK kv (k.map Sum.inl) v))) (e' := .dic (putT kvs k d)) (s' := some (.ref o)) hi e1 fun fp ok fr => by
      obtain ⟨o', kv', e2, h1, h2, r1⟩ := ok
      cases e2
      refine ⟨fun a => a = o, fun a z => .inl (by rw [z]; exact h2), ⟨o, _, rfl, upd_same, rfl, rr3⟩, fun a z => ?_, fun a u z q => by rw [upd_ne (fun w => z (by rw [w]; exact h2))]; exact q⟩
      rw [z]
      have f := fr o h2
      exact ⟨f.nb, f.nst, f.n0, _, upd_same, nofun⟩
    rwa [set_same e1] at en
  · exact q.elim⟩
end
end DL

/-! DL17: x.extend(e), x.insert(i, e), x.pop(i) of an own list. -/
namespace DL
open PySem PySem.Spec L2
section
variable {X : Cx} {A : Act} {e e2 : Expr} {te te2 : ET} {pos : Pos}
theorem own_nx2 {xq : XQ} {σ : L2.St} {B H B1 H1 : Hp} {ρ : List EV} {Dd : DEnds} {D : Ends} {i : Nat} {o : Addr} {vs ws : List V} {ds es : List PyData} (g : Cfg X A xq σ B H ρ) (x : Ex X.K A.c B H B1 H1) (hi : ρ[i]? = some (.own ds)) (hs : σ[i]? = some (some (.ref o))) (h1 : H1 o = some (.lst vs)) (r : Rps X.K A.c B1 ws es)
    (q : Dd.nx (ρ.set i (.own es))) (l : Lnk X A B Dd D) : D.nx σ (upd H1 o (.lst ws)) := by
  have en1 := g.en.step x
  obtain ⟨o', vs', e1, q1, q2, q3, q4, q5⟩ := en1.owned hi
  rw [hs] at e1; cases e1
  have x01 := g.ex.trans x
  exact l.nx _ σ B1 _ q (x01.setL h1 q2 q3 q4) x.sb (en1.changeL hi hs r)
def dExt (i : Nat) (t : ET) : STd := fun xq ρ D => match ρ[i]? with
  | some (.own ds) => t xq ρ fun d => ∃ es, d = .list es ∧ ds.length + es.length ≤ 100000 ∧ D.nx (ρ.set i (.own (ds ++ es)))
  | _ => False
def dIns (i : Nat) (t u : ET) : STd := fun xq ρ D => match ρ[i]? with
  | some (.own ds) => t xq ρ fun k => u xq ρ fun d => ∃ n : Nat, k = .int (n : Nat) ∧ n ≤ 100000 ∧ ds.length < 100000 ∧ D.nx (ρ.set i (.own (ds.take n ++ [d] ++ ds.drop n)))
  | _ => False
def dPopS (i : Nat) (t : ET) : STd := fun xq ρ D => match ρ[i]? with
  | some (.own ds) => t xq ρ fun k => ∃ n : Nat, k = .int (n : Nat) ∧ n < ds.length ∧ n ≤ 100000 ∧ D.nx (ρ.set i (.own (ds.eraseIdx n)))
  | _ => False
section
variable {x : Str} {p ap cp : Pos}
theorem ds_ext (i : Nat) (h : DE X A e te) (hpe : PE X (.Call (.Attribute (.Name x p) "extend" ap) [e] [] cp) (tBM X.K "list" rExtend (tVar i) (tCons (wE X e) tNil))) (hs : swapsWith (.Call (.Attribute (.Name x p) "extend" ap) [e] [] cp) none pos.line X.env = pure false := by rfl) :
    DS X A (.Expr (.Call (.Attribute (.Name x p) "extend" ap) [e] [] cp) pos) (dExt i te) := ⟨fun {xq σ B H ρ Dd D} g q l => by
  unfold dExt at q
  split at q
  · rename_i ds hi
    obtain ⟨o, vs, e1, q1, q2, q3, q4, q5⟩ := g.en.owned hi
    refine PSw (ps_expr hpe hs) ⟨.ref o, e1, .inl ⟨rfl, _, SqL.of q1⟩, (h.run g q).mono fun v H1 ⟨d, B1, ⟨es, ed, hl, qn⟩, x1, r1⟩ => ?_⟩
    subst ed
    have h1 := x1.fr o _ q3 q1 nofun
    cases r1 with
    | @lst b zs _ hb rb =>
      refine ⟨o, b, vs, zs, rfl, rfl, h1, x1.sh _ _ hb, ?_, own_nx2 g x1 hi e1 h1 ((q5.mono x1.sb).append rb) qn l⟩
      rw [q5.length, rb.length]
      exact Nat.le_of_lt (small_line hl)
  · exact q.elim⟩
theorem ds_popS (i : Nat) (h : DE X A e te) (hpe : PE X (.Call (.Attribute (.Name x p) "pop" ap) [e] [] cp) (tBM X.K "list" rPopAt (tVar i) (tCons (wE X e) tNil))) (hs : swapsWith (.Call (.Attribute (.Name x p) "pop" ap) [e] [] cp) none pos.line X.env = pure false := by rfl) :
    DS X A (.Expr (.Call (.Attribute (.Name x p) "pop" ap) [e] [] cp) pos) (dPopS i te) := ⟨fun {xq σ B H ρ Dd D} g q l => by
  unfold dPopS at q
  split at q
  · rename_i ds hi
    obtain ⟨o, vs, e1, q1, q2, q3, q4, q5⟩ := g.en.owned hi
    refine PSw (ps_expr hpe hs) ⟨.ref o, e1, .inl ⟨rfl, _, SqL.of q1⟩, (h.run g q).mono fun v H1 ⟨d, B1, ⟨n, ed, hn, hl, qn⟩, x1, r1⟩ => ?_⟩
    subst ed
    cases int_inv r1
    have h1 := x1.fr o _ q3 q1 nofun
    have hn' : n < vs.length := by rw [q5.length]; exact hn
    refine ⟨o, vs, (n : Nat), n, vs[n], rfl, rfl, h1, by omega, by omega, ?_, List.getElem?_eq_getElem hn', own_nx2 g x1 hi e1 h1 ((q5.mono x1.sb).eraseIdx n) qn l⟩
    unfold seqIndex?
    simp
    omega
  · exact q.elim⟩
def rIns : V → List V → Hp → VK → Prop := fun x vs H Q => ∃ (l : Addr) (xs : List V) (i : Int) (y : V), x = .ref l ∧ vs = [.int i, y] ∧ H l = some (.lst xs) ∧ xs.length < sizeLine ∧ 0 ≤ i ∧ i < 2 ^ 63 ∧ Q .non (upd H l (.lst (xs.take i.toNat ++ [y] ++ xs.drop i.toNat)))
theorem mt_ins : MtR X "list.insert" rIns := mt_insert
theorem ds_ins (i : Nat) (h : DE X A e te) (h2 : DE X A e2 te2) (hpe : PE X (.Call (.Attribute (.Name x p) "insert" ap) [e, e2] [] cp) (tBM X.K "list" rIns (tVar i) (tCons (wE X e) (tCons (wE X e2) tNil)))) (hs : swapsWith (.Call (.Attribute (.Name x p) "insert" ap) [e, e2] [] cp) none pos.line X.env = pure false := by rfl) :
    DS X A (.Expr (.Call (.Attribute (.Name x p) "insert" ap) [e, e2] [] cp) pos) (dIns i te te2) := ⟨fun {xq σ B H ρ Dd D} g q l => by
  unfold dIns at q
  split at q
  · rename_i ds hi
    obtain ⟨o, vs, e1, q1, q2, q3, q4, q5⟩ := g.en.owned hi
    refine PSw (ps_expr hpe hs) ⟨.ref o, e1, .inl ⟨rfl, _, SqL.of q1⟩, (h.run g q).mono fun v H1 ⟨k, B1, qk, x1, r1⟩ => ?_⟩
    refine (h2.run (g.step x1) qk).mono fun u H2 ⟨d, B2, ⟨n, ed, hn, hl, qn⟩, x2, r2⟩ => ?_
    subst ed
    cases int_inv r1
    have x12 := x1.trans x2
    have h1 := x12.fr o _ q3 q1 nofun
    refine ⟨o, vs, (n : Nat), u, rfl, rfl, h1, by rw [q5.length]; exact Nat.lt_of_lt_of_le hl (Nat.le_of_lt (small_line (by decide))), by omega, by omega, ?_⟩
    have rr := q5.mono x12.sb
    exact own_nx2 g x12 hi e1 h1 (((rr.take n).append (.cons r2 .nil)).append (rr.drop n)) qn l
  · exact q.elim⟩
end
end
end DL

/-! DL18: dict([(k, v) ..]), d.update(e), dicts whose keys are tuples of ints. -/
namespace DL
open PySem PySem.Spec L2
/-- all put, one behind another -/
def putsK (kvs more : List (List Key × V)) : List (List Key × V) := more.foldl (fun acc e => putK acc e.1 e.2) kvs
def putsT (kvs more : List (List Int × PyData)) : List (List Int × PyData) := more.foldl (fun acc e => putT acc e.1 e.2) kvs
theorem kt_puts {H : Hp} : ∀ {kvs more : List (List Key × V)} {xs ys : List (List Key × Addr × Value)}, KT H kvs xs → KT H more ys → KT H (putsK kvs more) (storedAllH xs ys)
  | _, _, _, _, r, .nil => r
  | _, _, _, _, r, .cons h t => by
    obtain ⟨h1, h2, h3⟩ := h
    have r' := r.put _ h2 h3
    rw [h1] at r'
    have := kt_puts r' t
    unfold putsK storedAllH
    rw [List.foldl_cons, List.foldl_cons, h1]
    exact this
theorem length_puts : ∀ (more kvs : List (List Key × V)), (putsK kvs more).length ≤ kvs.length + more.length
  | [], kvs => Nat.le_refl _
  | e :: more, kvs => by
    have h1 := length_puts more (putK kvs e.1 e.2)
    have h2 := length_putK kvs e.1 e.2
    unfold putsK at h1 ⊢
    rw [List.foldl_cons, List.length_cons]
    omega
theorem kt_types {P : Program} {w : World} {H : Hp} {s : Shared} (ok : HOk P w H s.heap) : ∀ {kvs : List (List Key × V)} {xs : List (List Key × Addr × Value)}, KT H kvs xs → ∀ x ∈ xs, s.TypeIs (.ref x.2.1) "tuple"
  | _, _, .nil, x, hx => by cases hx
  | _, _, .cons h t, x, hx => by
    rcases List.mem_cons.mp hx with e | hx
    · subst e
      obtain ⟨_, its, _, o, e1, e2, _⟩ := (show ObjOk P w H s.heap x.2.1 (.tup _) from ok _ _ h.2.1)
      exact ⟨o, e1, e2⟩
    · exact kt_types ok t x hx
theorem kt_hash {P : Program} {w : World} {H : Hp} : ∀ {kvs : List (List Key × V)} {xs : List (List Key × Addr × Value)}, KT H kvs xs → xs.map (fun x => (tupleKind (mixKind P w)).hash x.1) = kvs.map fun e => (tupleKind (mixKind P w)).hash e.1
  | _, _, .nil => rfl
  | _, _, .cons h t => by rw [List.map_cons, List.map_cons, kt_hash t, h.1]
section
variable {X : Cx} {A : Act}
def rUpdT (X : Cx) : V → List V → Hp → VK → Prop := fun x vs H Q => ∃ (a b : Addr) (kvs more : List (List Key × V)), x = .ref a ∧ vs = [.ref b] ∧ a ≠ b ∧ H a = some (.dT kvs) ∧ H b = some (.dT more) ∧ kvs.length + more.length ≤ sizeLine ∧
  (kvs ≠ [] ∨ (more.map fun e => (tupleKind (mixKind X.prog X.w)).hash e.1).Nodup) ∧ Q .non (upd H a (.dT (putsK kvs more)))
theorem mt_updT (hu : X.A.units + 1 < cLine) : MtR X "dict.update" (rUpdT X) := by
  intro pins s σ H x xs v us Q I rx rxs h
  obtain ⟨a, b, kvs, more, rfl, rfl, hab, ha, hb, hl, hap, q⟩ := h
  cases rx
  obtain ⟨u, rfl, ru⟩ := rxs.one
  cases ru
  obtain ⟨z, hd, ks, rel, dd⟩ := dt_of I.hok ha
  obtain ⟨z2, hd2, ks2, rel2, dd2⟩ := dt_of I.hok hb
  have l1 := Paired.length rel
  have l2 := Paired.length rel2
  refine call_update_dictH (kvs := ks) (more := ks2) (tupleKind_room_in1 hu) hab hd2 dd dd2 ?_ (by omega) fun h' d1 d2 hs => ?_
  · rcases hap with e | e
    · refine .inl fun z => e ?_
      subst z
      exact List.length_eq_zero_iff.mp (by rw [l1]; rfl)
    · exact .inr ⟨kt_types I.hok rel2, by rw [kt_hash rel2]; exact e⟩
  · obtain ⟨o, es, ep, hq, h2, h3, h4, _, h5⟩ := d1
    have I2 : Inv X pins σ (upd H a (.dT (putsK kvs more))) { s with heap := h' } := by
      refine d_write (t' := s.toks) I (by rw [ha]; exact True.intro) hs ⟨o, hq⟩ ⟨Nat.le_trans (length_puts more kvs) hl, hd, _, (kt_puts rel rel2).keeps (fun c ys ec => ?_), o, es, ep, hq, h2, h3, h4, h5⟩
      rw [upd_ne (ne_of ec ha (fun z => nomatch z))]
      exact ec
    exact ⟨.non, _, I2, rfl, q⟩
/-- the pairs of a list, by their tuples -/
def PairsAt (H : Hp) : List V → List (List Key × V) → Prop := Paired fun t e => ∃ a b, t = .ref a ∧ H a = some (.tup [.ref b, e.2]) ∧ H b = some (.tup (e.1.map kV))
def rDictP : List V → Hp → VK → Prop := fun vs H Q => ∃ (p : Addr) (ts : List V) (kvs : List (List Key × V)), vs = [.ref p] ∧ H p = some (.lst ts) ∧ PairsAt H ts kvs ∧ ∀ q, H q = none → Q (.ref q) (upd H q (.dT (putsK [] kvs)))
theorem pairs_of {P : Program} {w : World} {H : Hp} {h : Heap} (ok : HOk P w H h) : ∀ {ts : List V} {kvs : List (List Key × V)} {its : List Value}, PairsAt H ts kvs → Vals ts its → ∃ (as : List Addr) (xs : List (List Key × Addr × Value)), KT H kvs xs ∧ its = as.map Value.ref ∧ Paired (fun (a : Addr) (x : List Key × Addr × Value) => PairAt h a (.ref x.2.1) x.2.2) as xs
  | _, _, _, .nil, .nil => ⟨[], [], .nil, rfl, .nil⟩
  | _, _, _, .cons ⟨a, b, e1, e2, e3⟩ t, .cons r rs => by
    obtain ⟨as, xs, h1, h2, h3⟩ := pairs_of ok t rs
    subst e1
    cases r
    obtain ⟨_, jts, rj, o, g1, g2, n, g3⟩ := (show ObjOk P w H h a (.tup _) from ok _ _ e2)
    obtain ⟨u1, u2, rfl, r1, r2⟩ := vals2 rj
    cases r1
    exact ⟨a :: as, (_, b, u2) :: xs, .cons ⟨rfl, e3, r2⟩ h1, by rw [h2]; rfl, .cons (.inl ⟨o, g1, g2, n, g3⟩) h3⟩
theorem paired_at {α β : Type} {R : α → β → Prop} : ∀ {l : List α} {m : List β}, Paired R l m → ∀ {i : Nat} {x : α} {y : β}, l[i]? = some x → m[i]? = some y → R x y
  | _, _, .nil, i, _, _, h, _ => by simp at h
  | _, _, .cons r _, 0, _, _, h, g => by simp at h g; subst h g; exact r
  | _, _, .cons _ t, i + 1, _, _, h, g => paired_at t (i := i) (by simpa using h) (by simpa using g)
theorem cr_dictP (hc : X.calm = true) (hu : X.A.units + 2 < cLine) : CallR X (.type "dict") rDictP := by
  intro pins s σ H vs us Q I r h
  obtain ⟨p, ts, kvs, rfl, hp, pr, q⟩ := h
  obtain ⟨u, rfl, rx⟩ := r.one
  cases rx
  obtain ⟨z, its, n, rv, ho⟩ := (show ObjOk X.prog X.w H s.heap p (.lst ts) from I.hok _ _ hp)
  obtain ⟨as, xs, rel, hits, pa⟩ := pairs_of I.hok pr rv
  have la := Paired.length pa
  have lx := Paired.length rel
  have lt : ts.length = as.length := by rw [rv.length, hits, List.length_map]
  have hpi : PairItems s.heap its.toArray (fun j => as.getD j 0) (xs.map fun x => (Value.ref x.2.1, x.2.2)) := by
    refine ⟨by simp [hits, la], fun j k v hj => ?_⟩
    rw [List.getElem?_map] at hj
    obtain ⟨x, hx, e⟩ := Option.map_eq_some_iff.mp hj
    cases e
    have hja : j < as.length := by rw [la]; exact (List.getElem?_eq_some_iff.mp hx).1
    have ea : as[j]? = some as[j] := List.getElem?_eq_getElem hja
    have eD : as.getD j 0 = as[j] := by rw [List.getD_eq_getElem?_getD, ea]; rfl
    refine ⟨?_, ?_⟩
    · show its.toArray[j]? = some (.ref (as.getD j 0))
      rw [eD, hits]
      simp [ea]
    · show PairAt s.heap (as.getD j 0) _ _
      rw [eD]
      exact paired_at pa ea hx
  have hkeys : ∀ x ∈ xs, (tupleKind (mixKind X.prog X.w)).is s.heap x.1 x.2.1 := by
    have all : ∀ {l : List (List Key × V)} {m : List (List Key × Addr × Value)}, KT H l m → ∀ x ∈ m, (tupleKind (mixKind X.prog X.w)).is s.heap x.1 x.2.1 := by
      intro l m q
      induction q with
      | nil => intro x hx; exact nomatch hx
      | @cons p q ps qs hq t ih =>
        intro x hx
        rcases List.mem_cons.mp hx with e | hx
        · subst e
          exact key_of I.hok (by rw [← hq.1]; exact hq.2.1)
        · exact ih x hx
    exact all rel
  have hst : KeysStay (tupleKind (mixKind X.prog X.w)) s.heap s.heap.objs.size [] xs := fun h' hk x hx => by
    obtain ⟨o, its', n, h1, h2, h3, h4⟩ := hkeys x hx
    exact ⟨o, its', n, hk _ _ (Nat.ne_of_lt (Heap.lt_size h1)) (by simp) h1, h2, h3, h4⟩
  refine call_dict_pairsH (knd := tupleKind (mixKind X.prog X.w)) (ps := xs) (PairArg.list p its.toArray (fun j => as.getD j 0) (xs.map fun x => (Value.ref x.2.1, x.2.2))) (I.ok.hd hc) (tupleKind_room_in1 (show X.A.in1.units + 1 < cLine from hu)) ⟨⟨_, n, ho, rfl, rfl, rfl⟩, hpi⟩ ⟨by simp, fun i key v hr => ?_⟩ hst (by rw [List.length_map]; omega) fun h' tk dd hk => ?_
  · have hr' : (xs.map fun x => (Value.ref x.2.1, x.2.2))[i]? = some (key, v) := hr
    rw [List.getElem?_map] at hr'
    obtain ⟨x, hx, e⟩ := Option.map_eq_some_iff.mp hr'
    cases e
    exact ⟨x.1, x.2.1, hx, rfl⟩
  · obtain ⟨o, es, ep, hq, h2, h3, h4, _, h5⟩ := dd
    have hn : H s.heap.objs.size = none := I.hok.fresh (Nat.le_refl _)
    refine ⟨.ref s.heap.objs.size, _, I.laid (t' := tk) (o := .dT (putsK [] kvs)) (fun b o e => hk b o (by simp) e) (Nat.le_refl _) ?_, rfl, q _ hn⟩
    refine ⟨Nat.le_trans (length_puts kvs []) (by simp; omega), beq_eq_false_iff_ne.mpr (Ne.symm (Nat.ne_of_lt I.big)), _, (kt_puts .nil rel).keeps fun c ys ec => ?_, o, es, ep, hq, h2, h3, h4, h5⟩
    rw [upd_ne (ne_of_none ec hn)]
    exact ec

theorem rpk_puts {K : PySem.W.Frag} {c : Dc} {B : Hp} : ∀ {more : List (List Key × V)} {mores : List (List Int × PyData)} {kv : List (List Key × V)} {kvs : List (List Int × PyData)}, Rpk K c B kv kvs → Rpk K c B more mores → Rpk K c B (putsK kv more) (putsT kvs mores)
  | _, _, _, _, r, .nil => r
  | _, _, _, _, r, .cons a t => by
    unfold putsK putsT
    rw [List.foldl_cons, List.foldl_cons]
    exact rpk_puts (rpk_put a r) t
theorem rpk_hash {K : PySem.W.Frag} {c : Dc} {B : Hp} (f : List Key → Int) : ∀ {kv : List (List Key × V)} {kvs : List (List Int × PyData)}, Rpk K c B kv kvs → kv.map (fun e => f e.1) = kvs.map fun e => f (e.1.map Sum.inl)
  | _, _, .nil => rfl
  | _, _, .cons _ t => by rw [List.map_cons, List.map_cons, rpk_hash f t]
theorem rp_pairs {K : PySem.W.Frag} {c : Dc} {B H : Hp} (sh : Same B H) : ∀ {kvs : List (List Int × PyData)} {vs : List V}, Rps K c B vs (kvs.map kvD) → ∃ kv, PairsAt H vs kv ∧ Rpk K c B kv kvs
  | [], _, .nil => ⟨[], .nil, .nil⟩
  | e :: kvs, _, r => by
    rw [List.map_cons] at r
    generalize hh : kvD e = d at r
    generalize ht : kvs.map kvD = ds at r
    cases r with
    | cons r1 r2 =>
      subst ht
      obtain ⟨kv, h1, h2⟩ := rp_pairs sh r2
      unfold kvD at hh
      subst hh
      cases r1 with
      | tup h rr =>
        cases rr with
        | cons ra rb =>
          cases rb with
          | cons rb rc =>
            cases rc
            obtain ⟨b, rfl, hb⟩ := rp_key sh ra
            rcases h.2 with q | ⟨s, r, q⟩
            · exact ⟨(e.1.map Sum.inl, _) :: kv, .cons ⟨_, b, rfl, sh _ _ q, hb⟩ h1, .cons (k := e.1) (d := e.2) rb h2⟩
            · unfold keyD at q
              injection q with q1 q2
              cases q1
def dictPD : CTd := fun ds P => ∃ kvs : List (List Int × PyData), ds = [.list (kvs.map kvD)] ∧ P (dicD (putsT [] kvs))
theorem cd_dictP (hc : X.calm = true) (hu : X.A.units + 2 < cLine) : CD X A (.type "dict") dictPD := ⟨fun {B H vs ds P} o r h => by
  obtain ⟨kvs, rfl, q⟩ := h
  cases r with
  | cons r1 r2 =>
    cases r2
    cases r1 with
    | lst ha ra =>
      obtain ⟨kv, h1, h2⟩ := rp_pairs o.sh ra
      refine CRw (cr_dictP hc hu) ⟨_, _, kv, rfl, o.sh _ _ ha, h1, fun l hl => ?_⟩
      have x := o.new (x := .dT (putsK [] kv)) hl
      exact ⟨_, _, q, x, .dic upd_same (rpk_puts .nil (h2.mono x.sb))⟩⟩
/-- the keys' hashes differ -/
def HashNd (kvs : List (List Int × PyData)) : Prop := ∀ (P : Program) (w : World), (kvs.map fun e => (tupleKind (mixKind P w)).hash (e.1.map Sum.inl)).Nodup
def dUpd (i j : Nat) : STd := fun _ ρ D => match ρ[i]?, ρ[j]? with
  | some (.dic kvs), some (.dic more) => i ≠ j ∧ kvs.length + more.length ≤ 100000 ∧ (kvs ≠ [] ∨ HashNd more) ∧ D.nx (ρ.set i (.dic (putsT kvs more)))
  | _, _ => False
theorem EnvOk.two {K : PySem.W.Frag} {c : Dc} {H0 B H : Hp} {σ : L2.St} {ρ : List EV} (h : EnvOk K c H0 B H σ ρ) {i j : Nat} {e e' : EV} (q : ρ[i]? = some e) (q' : ρ[j]? = some e') (n : i ≠ j) :
    ∃ s fp s' fp', σ[i]? = some s ∧ SlOk K c H0 B H s e fp ∧ (∀ a, fp a → Fr c H0 B H a) ∧ σ[j]? = some s' ∧ SlOk K c H0 B H s' e' fp' ∧ (∀ a, fp' a → Fr c H0 B H a) ∧ ∀ a, fp a → ¬ fp' a := by
  have hi : i < σ.length := by rw [h.len]; exact (List.getElem?_eq_some_iff.mp q).1
  have hj : j < σ.length := by rw [h.len]; exact (List.getElem?_eq_some_iff.mp q').1
  obtain ⟨fp, h1, h2, h3⟩ := h.ex
  exact ⟨σ[i], fp i, σ[j], fp j, List.getElem?_eq_getElem hi, h1 i _ e (List.getElem?_eq_getElem hi) q, h2 i, List.getElem?_eq_getElem hj, h1 j _ e' (List.getElem?_eq_getElem hj) q', h2 j, fun a p p' => n (h3 i j a p p')⟩
theorem own_nxT {xq : XQ} {σ : L2.St} {B H B1 H1 : Hp} {ρ : List EV} {Dd : DEnds} {D : Ends} {i : Nat} {o : Addr} {kv ws : List (List Key × V)} {kvs es : List (List Int × PyData)} (g : Cfg X A xq σ B H ρ) (x : Ex X.K A.c B H B1 H1) (hi : ρ[i]? = some (.dic kvs)) (hs : σ[i]? = some (some (.ref o))) (h1 : H1 o = some (.dT kv)) (r : Rpk X.K A.c B1 ws es)
    (q : Dd.nx (ρ.set i (.dic es))) (l : Lnk X A B Dd D) : D.nx σ (upd H1 o (.dT ws)) := by
  have g1 := g.step x
  obtain ⟨s, fp, e1, ⟨o', kv', e2, ho, hf, rr⟩, fr⟩ := g1.en.at hi
  rw [hs] at e1; cases e1; cases e2
  have f := fr o hf
  refine l.nx _ σ B1 _ q (g1.ex.setT h1 f.nb f.n0) x.sb ?_
  have en := g1.en.change (H' := upd H1 o (.dT ws)) (e' := .dic es) (s' := some (.ref o)) hi hs fun fp ok fr => by
    obtain ⟨o', kv', e2, h1, h2, r1⟩ := ok
    cases e2
    refine ⟨fun a => a = o, fun a z => .inl (by rw [z]; exact h2), ⟨o, _, rfl, upd_same, rfl, r⟩, fun a z => ?_, fun a u z q => by rw [upd_ne (fun w => z (by rw [w]; exact h2))]; exact q⟩
    rw [z]
    have f := fr o h2
    exact ⟨f.nb, f.nst, f.n0, _, upd_same, nofun⟩
  rwa [set_same hs] at en
section
variable {x y : Str} {p p2 ap cp pos : Pos}
theorem ds_upd (i j : Nat) {n : Nat} (hr : Room n X.A) (hpe : PE X (.Call (.Attribute (.Name x p) "update" ap) [.Name y p2] [] cp) (tBM X.K "dict" (rUpdT X) (tVar i) (tCons (tVar j) tNil))) (hs : swapsWith (.Call (.Attribute (.Name x p) "update" ap) [.Name y p2] [] cp) none pos.line X.env = pure false := by rfl) :
    DS X A (.Expr (.Call (.Attribute (.Name x p) "update" ap) [.Name y p2] [] cp) pos) (dUpd i j) := ⟨fun {xq σ B H ρ Dd D} g q l => by
  unfold dUpd at q
  split at q
  · rename_i kvs more hi hj
    obtain ⟨hn, hl, hap, q⟩ := q
    obtain ⟨s, fp, s', fp', e1, ⟨o, kv, e2, ho, hf, rr⟩, fr, e1', ⟨o', kv', e2', ho', hf', rr'⟩, fr', ap⟩ := g.en.two hi hj hn
    subst e2 e2'
    refine PSw (ps_expr hpe hs) ⟨.ref o, e1, .inr (.inr (.inl ⟨rfl, .inr ⟨kv, ho⟩⟩)), .ref o', e1', ?_⟩
    refine ⟨o, o', kv, kv', rfl, rfl, fun z => ap o hf (by rw [z]; exact hf'), ho, ho', ?_, ?_, own_nxT g g.ok.refl hi e1 ho (rpk_puts rr rr') q l⟩
    · rw [rpk_length rr, rpk_length rr']
      exact Nat.le_of_lt (small_line hl)
    · rcases hap with e | e
      · refine .inl fun z => e ?_
        have := rpk_length rr
        rw [z] at this
        exact List.length_eq_zero_iff.mp this.symm
      · refine .inr ?_
        rw [rpk_hash (fun k => (tupleKind (mixKind X.prog X.w)).hash k) rr']
        exact e X.prog X.w
  · exact q.elim⟩
end
end
end DL

/-! DL19: y = x.pop(i), x.remove(d), loops over new lists, own lists of own lists: pop, insert, exchange. -/
namespace DL
open PySem PySem.Spec L2
section
variable {X : Cx} {A : Act} {e e2 : Expr} {te te2 : ET} {pos : Pos}
/-! ### y = x.pop(e) -/
def dPopV (i : Nat) (t : ET) (j : Nat) : STd := fun xq ρ D => match ρ[i]? with
  | some (.own ds) => t xq (frz ρ) fun k => ∃ (n : Nat) (d : PyData), k = .int (n : Nat) ∧ n ≤ 100000 ∧ ds[n]? = some d ∧ D.nx ((ρ.set i (.own (ds.eraseIdx n))).set j (.d d))
  | _ => False
theorem DE.frzI {F : ET} (h : DE X A e F) {xq : XQ} {σ : L2.St} {B H : Hp} {ρ : List EV} {P : Nat → Prop} (g : Cfg X A xq σ B H ρ) (q : F xq (frz ρ) fun k => ∃ n : Nat, k = .int (n : Nat) ∧ P n) : wE X e σ H fun v H' => ∃ n : Nat, v = .int (n : Nat) ∧ P n ∧ ∃ B', Ex X.K A.c B H B' H' := by
  obtain ⟨Bp, gp, ov⟩ := frz_cfg g
  refine (h.run gp q).mono fun v H1 ⟨d, B1, ⟨n, ed, hp⟩, x1, r1⟩ => ?_
  subst ed
  cases int_inv r1
  obtain ⟨B', x', _⟩ := ov.back x1
  exact ⟨n, rfl, hp, B', x'⟩
section
variable {x y : Str} {p ap cp yp : Pos}
theorem ds_popV (i j : Nat) (hij : i ≠ j) (h : DE X A e te) (hp : PS X (.Assign [.Name y yp] (.Call (.Attribute (.Name x p) "pop" ap) [e] [] cp) pos) (tAsg (tBM X.K "list" rPopAt (tVar i) (tCons (wE X e) tNil)) (gName j))) :
    DS X A (.Assign [.Name y yp] (.Call (.Attribute (.Name x p) "pop" ap) [e] [] cp) pos) (dPopV i te j) := ⟨fun {xq σ B H ρ Dd D} g q l => by
  unfold dPopV at q
  split at q
  · rename_i ds hi
    obtain ⟨o, vs, e1, q1, q2, q3, q4, q5⟩ := g.en.owned hi
    refine PSw hp ⟨.ref o, e1, .inl ⟨rfl, _, SqL.of q1⟩, (h.frzI (P := fun n => ∃ d, n ≤ 100000 ∧ ds[n]? = some d ∧ Dd.nx ((ρ.set i (.own (ds.eraseIdx n))).set j (.d d))) g (by
      refine cast ?_ q
      congr 1
      funext k
      exact propext ⟨fun ⟨n, d, a, b⟩ => ⟨n, a, d, b⟩, fun ⟨n, a, d, b⟩ => ⟨n, d, a, b⟩⟩)).mono fun v H1 ⟨n, ev, ⟨d, hn, hd, qn⟩, B1, x1⟩ => ?_⟩
    subst ev
    have h1 := x1.fr o _ q3 q1 nofun
    have r1 := q5.mono x1.sb
    obtain ⟨w, hw, rw_⟩ := r1.get hd
    refine ⟨o, vs, (n : Nat), n, w, rfl, rfl, h1, by omega, by omega, ?_, hw, ?_⟩
    · unfold seqIndex?
      have := (List.getElem?_eq_some_iff.mp hw).1
      simp
      omega
    · have en1 := g.en.step x1
      have en2 := en1.changeL hi e1 (r1.eraseIdx n)
      exact l.nx _ _ B1 _ qn ((g.ex.trans x1).setL h1 (by have := (en1.owned hi); obtain ⟨o', vs', a1, a2, a3, _⟩ := this; rw [e1] at a1; cases a1; exact a3) q3 q4) x1.sb (en2.setD j rw_)
  · exact q.elim⟩
/-! ### x.remove(d) -/
def rRemD (K : PySem.W.Frag) : V → List V → Hp → VK → Prop := fun x xs H Q => ∃ (a : Addr) (ys : List V) (y : V) (d : PyData) (ds : List PyData) (j : Nat), x = .ref a ∧ xs = [y] ∧ H a = some (.lst ys) ∧ DpAll K H ys ds ∧ Dp K H y d ∧ SeqAt.shaped d = true ∧ PyData.plainAll ds = true ∧ SeqAt.dataPlace ds d = some j ∧ Q .non (upd H a (.lst (ys.eraseIdx j)))
theorem mt_remD (hu : X.A.units + 65 < cLine) : MtR X "list.remove" (rRemD X.K) := by
  intro pins s σ H x xs v us Q I rx rxs h
  obtain ⟨a, ys, y, d, ds, j, rfl, rfl, ha, hds, hd, hs, hpl, hj, q⟩ := h
  cases rx
  obtain ⟨u, rfl, ru⟩ := rxs.one
  obtain ⟨z, its, n, r, hl, e0⟩ := I.lstM ha
  obtain ⟨as, r1⟩ := Dp.reads I d y u hd ru
  obtain ⟨bs, r2⟩ := Dp.readsAll I ds ys its hds r
  refine SeqAt.remove_list_data (vs := its.toArray) (xs := ds) ⟨_, e0, rfl, n, rfl⟩ (by simpa using r2) r1 hpl (PyData.plain_of_canLay0 _ (SeqAt.canLay_of_shaped hs)) (PyProof.Rows.room_in_shaped hs hu) hj (by rw [List.size_toArray, ← hl]; exact z) ?_
  refine ⟨.non, _, I.lset (its' := its.eraseIdx j) ha e0 ?_ (r.eraseIdx j) ?_, rfl, q⟩
  · show its.toArray.eraseIdxIfInBounds j = (its.eraseIdx j).toArray
    rw [List.eraseIdxIfInBounds_toArray]
  · have := List.length_eraseIdx_le ys j
    omega
def dRem (i : Nat) (t : ET) : STd := fun xq ρ D => match ρ[i]? with
  | some (.own ds) => t xq ρ fun d => SeqAt.shaped d = true ∧ PyData.canLayAll0 ds = true ∧ ∃ j, SeqAt.dataPlace ds d = some j ∧ D.nx (ρ.set i (.own (ds.eraseIdx j)))
  | _ => False
theorem ds_rem (i : Nat) (h : DE X A e te) (hpe : PE X (.Call (.Attribute (.Name x p) "remove" ap) [e] [] cp) (tBM X.K "list" (rRemD X.K) (tVar i) (tCons (wE X e) tNil))) (hs : swapsWith (.Call (.Attribute (.Name x p) "remove" ap) [e] [] cp) none pos.line X.env = pure false := by rfl) :
    DS X A (.Expr (.Call (.Attribute (.Name x p) "remove" ap) [e] [] cp) pos) (dRem i te) := ⟨fun {xq σ B H ρ Dd D} g q l => by
  unfold dRem at q
  split at q
  · rename_i ds hi
    obtain ⟨o, vs, e1, q1, q2, q3, q4, q5⟩ := g.en.owned hi
    refine PSw (ps_expr hpe hs) ⟨.ref o, e1, .inl ⟨rfl, _, SqL.of q1⟩, (h.run g q).mono fun v H1 ⟨d, B1, ⟨hsh, hcl, j, hj, qn⟩, x1, r1⟩ => ?_⟩
    have h1 := x1.fr o _ q3 q1 nofun
    have rr := q5.mono x1.sb
    exact ⟨o, vs, v, d, ds, j, rfl, rfl, h1, DpAll.mono' x1.sh (rr.dp hcl), Dp.mono' x1.sh (r1.dp (SeqAt.canLay_of_shaped hsh)), hsh, PyData.plainAll_of_canLay0 _ hcl, hj, own_nx2 g x1 hi e1 h1 (rr.eraseIdx j) qn l⟩
  · exact q.elim⟩
end
/-! ### for .. in a new list, own lists seen -/
def dForC (i : AT) (tg : Tg) (b : STd) : STd := fun xq ρ D => i xq (frz ρ) fun ds => flatAll ds = true ∧ forD tg.d (b xq) ds ρ D
theorem LPost.ex {B H : Hp} (o : Ok X.K A.c B H) {B' H' : Hp} {p : Addr} {vs : List V} {ys : List PyData} (x : Ex X.K A.c B H B' H') (hp : Fre H p) (bp : B' p = none) (h2 : H' p = some (.lst vs)) (r : Rps X.K A.c B' vs ys) : ∃ B2, Ex X.K A.c B H B2 H' ∧ B2 p = some (.lst vs) ∧ Rps X.K A.c B2 vs ys := by
  have pst : p ≠ A.c.st := fun z => by rw [z] at hp; exact o.wd.nfre hp
  refine ⟨upd B' p (.lst vs), ⟨fun a o q => ?_, fun a o q => ?_, x.fr, fun a n => ?_, ?_, x.wd, x.sl, fun a ps q => ?_⟩, upd_same, r.mono fun a o q => by rw [upd_ne (fun z => by rw [z, bp] at q; cases q)]; exact q⟩
  · have q2' := x.sb a o q
    rw [upd_ne (fun z => by rw [z, bp] at q2'; cases q2')]; exact q2'
  · by_cases z : a = p
    · rw [z, upd_same] at q; cases q; rw [z]; exact h2
    · rw [upd_ne z] at q; exact x.sh a o q
  · rw [upd_ne (fun z => by rw [z] at n; exact n hp)]; exact x.nw a n
  · rw [upd_ne pst.symm]; exact x.st
  · by_cases z : a = p
    · rw [z, upd_same] at q; cases q
    · rw [upd_ne z] at q; exact x.nt a ps q
theorem ds_forC {tg' iter : Expr} {body : List Stmt} {F : STd} {i : AT} (tg : Tg) (hp : PassesOwn (model X.prog X.w) X.A X.env X.xe) (hc : X.calm = true) (hi : RL X A (wE X iter) i) (hg : PG X tg' (tg.g X.K)) (hb : DSs X A body F) (hs : ∀ x, foldedSetIterable iter X.env x = pure x := by intro _; rfl) :
    DS X A (.For tg' iter body [] pos) (dForC i tg F) := ⟨fun {xq σ B H ρ Dd D} g q l => by
  obtain ⟨Bp, gp, ov⟩ := frz_cfg g
  refine PSw (ps_for hp hc (piW iter) hg (pssW body) hs) fun pins s I => ?_
  refine thn ((hi.run gp q (Q := fun v H' => ∃ ys B2 p, v = .ref p ∧ forD tg.d (F xq) ys ρ Dd ∧ Ex X.K A.c B H B2 H' ∧ ∃ vs, B2 p = some (.lst vs) ∧ Rps X.K A.c B2 vs ys) fun v H' ⟨ys, Bp', p, vs, ⟨hf, qf⟩, ev, x, hp, bp, h2, r⟩ => ?_) pins s I) fun v s1 ⟨x, H1, I1, r1, ys, B2, p, ev, qf, x2, vs, hB, r⟩ => ?_
  · obtain ⟨B', x', _, kn, _, k⟩ := ov.back x
    obtain ⟨B2, e2, b2, r2⟩ := LPost.ex g.ok x' hp (by rw [kn p hp]; exact bp) h2 (k hf r)
    exact ⟨ys, B2, p, ev, qf, e2, vs, b2, r2⟩
  · subst ev
    cases r1
    exact iter_list I1 (SqL.of (x2.sh _ _ hB)) (for_core tg hb (B := B) (H := H) (g.step x2) (walk_list hB r) qf (l.up x2.sb))⟩
end
end DL

/-! DL20: own lists of own lists: pop, insert, exchange. -/
namespace DL
open PySem PySem.Spec L2
section
variable {K : PySem.W.Frag} {c : Dc} {B H : Hp}
/-- the outer list's items chosen anew -/
theorem Ow.sel {n : Nat} {o : Addr} {ds ds' : List PyData} {vs vs' : List V} {F : Addr → Prop} (h : Ow K c B H (n + 2) (.ref o) (.list ds) F) (ho : H o = some (.lst vs)) (hl : vs'.length = ds'.length) (π : Nat → Nat) (hπ : ∀ i j, i < vs'.length → j < vs'.length → π i = π j → i = j)
    (hv : ∀ i, i < vs'.length → vs'[i]? = vs[π i]?) (hd : ∀ i, i < vs'.length → ds'[i]? = ds[π i]?) : F o ∧ Ow K c B (upd H o (.lst vs')) (n + 2) (.ref o) (.list ds') F := by
  obtain ⟨o', vs1, dz, e1, e2, h1, h2, h3, g, g1, g2, g3⟩ := h
  cases e1; cases e2
  rw [ho] at h1; cases h1
  refine ⟨h2, o, vs', ds', rfl, rfl, upd_same, h2, hl, fun i a => i < vs'.length ∧ g (π i) a, fun i v d a b => ?_, fun i a z => g2 _ a z.2, fun i j a p q => hπ i j p.1 q.1 (g3 _ _ a p.2 q.2)⟩
  have hi := (List.getElem?_eq_some_iff.mp a).1
  rw [hv i hi] at a
  rw [hd i hi] at b
  exact Ow.mono (Same.refl _) (fun _ z => ⟨hi, z⟩) (fun a vs z q => by rw [upd_ne (g2 _ a z).2]; exact q) (g1 _ v d a b)
/-- a new item, a list that is nobody's yet -/
theorem Ow.ins {n m : Nat} {o p : Addr} {ds es : List PyData} {vs ws : List V} {F : Addr → Prop} (h : Ow K c B H (n + 2) (.ref o) (.list ds) F) (ho : H o = some (.lst vs)) (hm : m ≤ vs.length) (hn : n = 0) (hp : H p = some (.lst ws)) (r : Rps K c B ws es) (nF : ¬ F p) :
    F o ∧ Ow K c B (upd H o (.lst (vs.take m ++ [.ref p] ++ vs.drop m))) (n + 2) (.ref o) (.list (ds.take m ++ [.list es] ++ ds.drop m)) (fun a => F a ∨ a = p) := by
  subst hn
  obtain ⟨o', vs1, dz, e1, e2, h1, h2, h3, g, g1, g2, g3⟩ := h
  cases e1; cases e2
  rw [ho] at h1; cases h1
  have po : p ≠ o := fun z => nF (by rw [z]; exact h2)
  have hm' : m ≤ ds.length := by omega
  have gp : ∀ i, ¬ g i p := fun i z => nF (g2 i p z).1
  refine ⟨h2, o, _, _, rfl, rfl, upd_same, .inl h2, by simp; omega, fun i a => (i < m ∧ g i a) ∨ (i = m ∧ a = p) ∨ (m < i ∧ g (i - 1) a), fun i v d a b => ?_, fun i a z => ?_, fun i j a z z' => ?_⟩
  · rw [List.append_assoc] at a b
    by_cases him : i < m
    · rw [List.getElem?_append_left (by rw [List.length_take]; omega), List.getElem?_take_of_lt him] at a b
      exact Ow.mono (Same.refl _) (fun _ z => .inl ⟨him, z⟩) (fun a vs z q => by rw [upd_ne (g2 _ a z).2]; exact q) (g1 _ v d a b)
    · rw [List.getElem?_append_right (by rw [List.length_take]; omega)] at a b
      rw [List.length_take, Nat.min_eq_left hm] at a
      rw [List.length_take, Nat.min_eq_left hm'] at b
      by_cases him2 : i = m
      · subst him2
        rw [Nat.sub_self] at a b
        cases a; cases b
        exact ⟨p, ws, es, rfl, rfl, by rw [upd_ne po]; exact hp, .inr (.inl ⟨rfl, rfl⟩), r.length, fun _ _ => False, fun i v d a b => rps_at r a b, fun _ _ z => z.elim, fun _ _ _ z => z.elim⟩
      · obtain ⟨k, rfl⟩ : ∃ k, i = m + 1 + k := ⟨i - (m + 1), by omega⟩
        have e : m + 1 + k - m = k + 1 := by omega
        rw [e] at a b
        rw [List.singleton_append, List.getElem?_cons_succ, List.getElem?_drop] at a b
        exact Ow.mono (Same.refl _) (fun _ z => .inr (.inr ⟨by omega, by rw [show m + 1 + k - 1 = m + k by omega]; exact z⟩)) (fun a vs z q => by rw [upd_ne (g2 _ a z).2]; exact q) (g1 _ v d a b)
  · rcases z with ⟨_, z⟩ | ⟨_, z⟩ | ⟨_, z⟩
    · exact ⟨.inl (g2 _ a z).1, (g2 _ a z).2⟩
    · exact ⟨.inr z, by rw [z]; exact po⟩
    · exact ⟨.inl (g2 _ a z).1, (g2 _ a z).2⟩
  · rcases z with ⟨q1, z⟩ | ⟨q1, z⟩ | ⟨q1, z⟩ <;> rcases z' with ⟨q2, z'⟩ | ⟨q2, z'⟩ | ⟨q2, z'⟩
    · exact g3 _ _ a z z'
    · rw [z'] at z; exact (gp _ z).elim
    · have := g3 _ _ a z z'; omega
    · rw [z] at z'; exact (gp _ z').elim
    · omega
    · rw [z] at z'; exact (gp _ z').elim
    · have := g3 _ _ a z z'; omega
    · rw [z'] at z; exact (gp _ z).elim
    · have := g3 _ _ a z z'; omega
end
/-- a slot's thing is changed and takes in a new object -/
theorem EnvOk.changeN {K : PySem.W.Frag} {c : Dc} {H0 B H B1 H1 H' : Hp} {σ : L2.St} {ρ : List EV} (h0 : EnvOk K c H0 B1 H1 σ ρ) (x : Ex K c B1 H1 B H) {i : Nat} {e e' : EV} {s s' : Option V} {p : Addr} (hi : ρ[i]? = some e) (hs : σ[i]? = some s) (hp : Fre H1 p)
    (w : ∀ fp : Addr → Prop, SlOk K c H0 B H s e fp → (∀ a, fp a → Fr c H0 B H a) → ¬ fp p → ∃ fp' : Addr → Prop, (∀ a, fp' a → fp a ∨ a = p) ∧ SlOk K c H0 B H' s' e' fp' ∧ (∀ a, fp' a → Fr c H0 B H' a) ∧ ∀ a o, ¬ fp a → H a = some o → H' a = some o) : EnvOk K c H0 B H' (σ.set i s') (ρ.set i e') := by
  obtain ⟨fp, a1, h2', h3⟩ := h0.ex
  have nop : ∀ j, ¬ fp j p := fun j z => by
    obtain ⟨o, ho, ht⟩ := (h2' j p z).th
    exact hp.no ho ht
  have h1 : ∀ (i : Nat) (s : Option V) (e : EV), σ[i]? = some s → ρ[i]? = some e → SlOk K c H0 B H s e (fp i) := fun i s e a b => (a1 i s e a b).step' x.sb fun a o z q => x.fr a o (h2' i a z).nst q ((h2' i a z).ntb q)
  have h2 : ∀ i a, fp i a → Fr c H0 B H a := fun i a z => (h2' i a z).step x
  obtain ⟨fp', w1, w2, w3, w4⟩ := w (fp i) (h1 i s e hs hi) (h2 i) (nop i)
  have out : ∀ j a, j ≠ i → fp j a → ¬ fp i a := fun j a n p q => n (h3 j i a p q)
  refine ⟨by rw [List.length_set, List.length_set, h0.len], fun j => if j = i then fp' else fp j, fun j s2 e2 a b => ?_, fun j a z => ?_, fun j k a p q => ?_⟩
  · by_cases z : j = i
    · subst z
      rw [List.getElem?_set_self (List.getElem?_eq_some_iff.mp hs).1] at a
      rw [List.getElem?_set_self (List.getElem?_eq_some_iff.mp hi).1] at b
      cases a; cases b
      simpa using w2
    · rw [List.getElem?_set_ne (Ne.symm z)] at a b
      simpa [z] using (h1 j s2 e2 a b).step' (Same.refl B) fun a o p q => w4 a o (out j a z p) q
  · by_cases w : j = i
    · simp only [w, if_true] at z; exact w3 a z
    · simp only [w, if_false] at z
      have f := h2 j a z
      obtain ⟨o, ho, ht⟩ := f.th
      exact ⟨f.nb, f.nst, f.n0, o, w4 a o (out j a w z) ho, ht⟩
  · have no : ∀ j a, j ≠ i → fp j a → fp' a → False := fun j a n p q => by
      rcases w1 a q with z | z
      · exact out j a n p z
      · exact nop j (by rw [← z]; exact p)
    by_cases w : j = i
    · by_cases w' : k = i
      · rw [w, w']
      · simp only [w, if_true] at p
        simp only [w', if_false] at q
        exact (no _ _ w' q p).elim
    · by_cases w' : k = i
      · simp only [w, if_false] at p
        simp only [w', if_true] at q
        exact (no _ _ w p q).elim
      · simp only [w, if_false] at p
        simp only [w', if_false] at q
        exact h3 j k a p q
section
variable {X : Cx} {A : Act} {e e2 : Expr} {te te2 : ET} {pos : Pos}
theorem deep_at {xq : XQ} {σ : L2.St} {B H : Hp} {ρ : List EV} {i n : Nat} {ds : List PyData} (g : Cfg X A xq σ B H ρ) (hi : ρ[i]? = some (.deep n ds)) : ∃ o vs, σ[i]? = some (some (.ref o)) ∧ H o = some (.lst vs) ∧ vs.length = ds.length ∧ o ≠ A.c.st ∧ Fre A.H0 o ∧ B o = none := by
  obtain ⟨s, fp, e1, ⟨v, e2, ow⟩, fr⟩ := g.en.at hi
  subst e2
  obtain ⟨o, vs, dz, h1, h2, h3, h4, h5, _⟩ := ow
  cases h1; cases h2
  exact ⟨o, vs, e1, h3, h5, (fr o h4).nst, (fr o h4).n0, (fr o h4).nb⟩
/-- the outer list's items are chosen anew -/
theorem sel_nx {xq : XQ} {σ : L2.St} {B H B1 H1 : Hp} {ρ : List EV} {i n : Nat} {o : Addr} {vs vs' : List V} {ds ds' : List PyData} (g : Cfg X A xq σ B H ρ) (x : Ex X.K A.c B H B1 H1) (hi : ρ[i]? = some (.deep n ds)) (hs : σ[i]? = some (some (.ref o))) (h1 : H1 o = some (.lst vs))
    (hl : vs'.length = ds'.length) (π : Nat → Nat) (hπ : ∀ i j, i < vs'.length → j < vs'.length → π i = π j → i = j)
    (hv : ∀ i, i < vs'.length → vs'[i]? = vs[π i]?) (hd : ∀ i, i < vs'.length → ds'[i]? = ds[π i]?) :
    Cfg X A xq σ B1 (upd H1 o (.lst vs')) (ρ.set i (.deep n ds')) := by
  have g1 := g.step x
  obtain ⟨o', vs2, e1, e2, e3, e4, e5, e6⟩ := deep_at g1 hi
  rw [hs] at e1; cases e1
  have en := g1.en.change (H' := upd H1 o (.lst vs')) (e' := .deep n ds') (s' := some (.ref o)) hi hs fun fp ok fr => by
    obtain ⟨v, e2, ow⟩ := ok
    cases e2
    obtain ⟨f1, ow'⟩ := ow.sel h1 hl π hπ hv hd
    refine ⟨fp, fun a z => .inl z, ⟨_, rfl, ow'⟩, fun a z => ?_, fun a w z q => by rw [upd_ne (fun w => z (by rw [w]; exact f1))]; exact q⟩
    have f := fr a z
    obtain ⟨ob, hob, hot⟩ := f.th
    by_cases ea : a = o
    · exact ⟨f.nb, f.nst, f.n0, .lst vs', by rw [ea]; exact upd_same, nofun⟩
    · exact ⟨f.nb, f.nst, f.n0, ob, by rw [upd_ne ea]; exact hob, hot⟩
  rw [set_same hs] at en
  exact ⟨g1.hx, g1.ex.setL h1 e6 e4 e5, en⟩
/-! ### x.pop(e) -/
def dPopD (i : Nat) (t : ET) : STd := fun xq ρ D => match ρ[i]? with
  | some (.deep n ds) => t xq (frz ρ) fun k => ∃ m : Nat, k = .int (m : Nat) ∧ m < ds.length ∧ m ≤ 100000 ∧ D.nx (ρ.set i (.deep n (ds.eraseIdx m)))
  | _ => False
def skp (m i : Nat) : Nat := if i < m then i else i + 1
theorem skp_get {α : Type} (l : List α) (m i : Nat) : (l.eraseIdx m)[i]? = l[skp m i]? := by
  unfold skp
  rw [List.getElem?_eraseIdx]
  split <;> rfl
theorem skp_inj {m i j : Nat} (h : skp m i = skp m j) : i = j := by
  unfold skp at h
  split at h <;> split at h <;> omega
section
variable {x y : Str} {p ap cp p2 : Pos}
theorem ds_popD (i : Nat) (h : DE X A e te) (hpe : PE X (.Call (.Attribute (.Name x p) "pop" ap) [e] [] cp) (tBM X.K "list" rPopAt (tVar i) (tCons (wE X e) tNil))) (hs : swapsWith (.Call (.Attribute (.Name x p) "pop" ap) [e] [] cp) none pos.line X.env = pure false := by rfl) :
    DS X A (.Expr (.Call (.Attribute (.Name x p) "pop" ap) [e] [] cp) pos) (dPopD i te) := ⟨fun {xq σ B H ρ Dd D} g q l => by
  unfold dPopD at q
  split at q
  · rename_i n ds hi
    obtain ⟨o, vs, e1, q1, hl, q3, q4, q5⟩ := deep_at g hi
    refine PSw (ps_expr hpe hs) ⟨.ref o, e1, .inl ⟨rfl, _, SqL.of q1⟩, (h.frzI g q).mono fun v H1 ⟨m, ev, ⟨hm, hm2, qn⟩, B1, x1⟩ => ?_⟩
    subst ev
    have h1 := x1.fr o _ q3 q1 nofun
    have hm' : m < vs.length := by rw [hl]; exact hm
    refine ⟨o, vs, (m : Nat), m, vs[m], rfl, rfl, h1, by omega, by omega, ?_, List.getElem?_eq_getElem hm', ?_⟩
    · unfold seqIndex?
      simp
      omega
    · have g2 := sel_nx g x1 hi e1 h1 (vs' := vs.eraseIdx m) (ds' := ds.eraseIdx m) (by rw [List.length_eraseIdx, List.length_eraseIdx, hl]) (skp m) (fun _ _ _ _ z => skp_inj z) (fun i _ => skp_get vs m i) fun i _ => skp_get ds m i
      exact l.nx _ σ B1 _ qn g2.ex x1.sb g2.en
  · exact q.elim⟩
/-! ### x.insert(e, list(..)) -/
def dInsD (i : Nat) (t : ET) (u : AT) : STd := fun xq ρ D => match ρ[i]? with
  | some (.deep n ds) => t xq (frz ρ) fun k => ∃ m : Nat, k = .int (m : Nat) ∧ m ≤ ds.length ∧ n = 0 ∧ ds.length < 100000 ∧ u xq (frz ρ) fun es => flatAll es = true ∧ D.nx (ρ.set i (.deep n (ds.take m ++ [.list es] ++ ds.drop m)))
  | _ => False
theorem ds_insD (i : Nat) {u : AT} (h : DE X A e te) (h2 : RL X A (wE X e2) u) (hpe : PE X (.Call (.Attribute (.Name x p) "insert" ap) [e, e2] [] cp) (tBM X.K "list" rIns (tVar i) (tCons (wE X e) (tCons (wE X e2) tNil)))) (hs : swapsWith (.Call (.Attribute (.Name x p) "insert" ap) [e, e2] [] cp) none pos.line X.env = pure false := by rfl) :
    DS X A (.Expr (.Call (.Attribute (.Name x p) "insert" ap) [e, e2] [] cp) pos) (dInsD i te u) := ⟨fun {xq σ B H ρ Dd D} g q l => by
  unfold dInsD at q
  split at q
  · rename_i n ds hi
    obtain ⟨o, vs, e1, q1, hl, q3, q4, q5⟩ := deep_at g hi
    refine PSw (ps_expr hpe hs) ⟨.ref o, e1, .inl ⟨rfl, _, SqL.of q1⟩, (h.frzI g q).mono fun v H1 ⟨m, ev, ⟨hm, hn, hm2, qu⟩, B1, x1⟩ => ?_⟩
    subst ev
    have g1 := g.step x1
    obtain ⟨Bp, gp, ov⟩ := frz_cfg g1
    refine h2.run gp qu fun u' H2 ⟨es, Bp2, pp, ws, ⟨hf, qn⟩, ev2, xp, hp, bp, hp2, rp⟩ => ?_
    subst ev2
    obtain ⟨B2, x2, _, kn, _, k⟩ := ov.back xp
    have r2 := k hf rp
    have g2 := g1.step x2
    have h1 := x2.fr o _ q3 (x1.fr o _ q3 q1 nofun) nofun
    have bpp : B2 pp = none := by rw [kn pp hp]; exact bp
    have h0p : Fre A.H0 pp := g1.ex.free hp
    have pst : pp ≠ A.c.st := fun z => by rw [z] at hp; exact g1.ok.wd.nfre hp
    refine ⟨o, vs, (m : Nat), .ref pp, rfl, rfl, h1, by rw [hl]; exact Nat.lt_of_lt_of_le hm2 (Nat.le_of_lt (small_line (by decide))), by omega, by omega, ?_⟩
    have en := g1.en.changeN (p := pp) x2 (H' := upd H2 o (.lst (vs.take m ++ [.ref pp] ++ vs.drop m))) (e' := .deep n (ds.take m ++ [.list es] ++ ds.drop m)) (s' := some (.ref o)) hi e1 hp fun fp ok fr nF => by
      obtain ⟨v, e2, ow⟩ := ok
      cases e2
      obtain ⟨f1, ow'⟩ := ow.ins h1 (by rw [hl]; exact hm) hn hp2 r2 nF
      refine ⟨_, fun a z => z, ⟨_, rfl, ow'⟩, fun a z => ?_, fun a w z q => by rw [upd_ne (fun w => z (by rw [w]; exact f1))]; exact q⟩
      by_cases ea : a = o
      · have f := fr o f1
        rw [ea]
        exact ⟨f.nb, f.nst, f.n0, _, upd_same, nofun⟩
      · rcases z with z | z
        · have f := fr a z
          obtain ⟨ob, hob, hot⟩ := f.th
          exact ⟨f.nb, f.nst, f.n0, ob, by rw [upd_ne ea]; exact hob, hot⟩
        · rw [z] at ea ⊢
          exact ⟨bpp, pst, h0p, .lst ws, by rw [upd_ne ea]; exact hp2, nofun⟩
    rw [set_same e1] at en
    have h1o := x1.fr o _ q3 q1 nofun
    have b2o : B2 o = none := by rw [x2.nw o (fun f => f.no h1o nofun), x1.nw o (fun f => f.no q1 nofun)]; exact q5
    exact l.nx _ σ B2 _ qn (g2.ex.setL h1 b2o q3 q4) (x1.sb.trans x2.sb) en
  · exact q.elim⟩
/-! ### x.insert(e, x.pop(e2)) -/
def insPop {α : Type} (l : List α) (n m : Nat) : List α := (l.eraseIdx m).take n ++ l[m]?.toList ++ (l.eraseIdx m).drop n
theorem insPop_length {α : Type} {l : List α} {n m : Nat} (hm : m < l.length) : (insPop l n m).length = l.length := by
  unfold insPop
  rw [List.getElem?_eq_getElem hm]
  simp [List.length_eraseIdx, hm]
  omega
def ipx (n m i : Nat) : Nat := if i < n then skp m i else if i = n then m else skp m (i - 1)
theorem ipx_get {α : Type} {l : List α} {n m i : Nat} (hm : m < l.length) (hn : n < l.length) : (insPop l n m)[i]? = l[ipx n m i]? := by
  have he : (l.eraseIdx m).length = l.length - 1 := by rw [List.length_eraseIdx, if_pos hm]
  unfold insPop ipx
  rw [List.getElem?_eq_getElem hm, List.append_assoc]
  by_cases h1 : i < n
  · rw [if_pos h1, List.getElem?_append_left (by rw [List.length_take]; omega), List.getElem?_take_of_lt h1, skp_get]
  · rw [if_neg h1, List.getElem?_append_right (by rw [List.length_take]; omega), List.length_take, Nat.min_eq_left (by omega)]
    by_cases h2 : i = n
    · rw [if_pos h2, h2, Nat.sub_self, List.getElem?_eq_getElem hm]
      rfl
    · obtain ⟨k, rfl⟩ : ∃ k, i = n + 1 + k := ⟨i - (n + 1), by omega⟩
      rw [if_neg h2, show n + 1 + k - n = k + 1 by omega]
      show ([l[m]] ++ (l.eraseIdx m).drop n)[k + 1]? = _
      rw [List.singleton_append, List.getElem?_cons_succ, List.getElem?_drop, skp_get, show n + 1 + k - 1 = n + k by omega]
theorem ipx_inj {n m i j : Nat} (h : ipx n m i = ipx n m j) : i = j := by
  unfold ipx skp at h
  repeat' split at h
  all_goals omega
def dInsP (i : Nat) (t u : ET) : STd := fun xq ρ D => match ρ[i]? with
  | some (.deep n ds) => t xq (frz ρ) fun k => ∃ a : Nat, k = .int (a : Nat) ∧ a < ds.length ∧ ds.length < 100000 ∧ u xq (frz ρ) fun k => ∃ b : Nat, k = .int (b : Nat) ∧ b < ds.length ∧ D.nx (ρ.set i (.deep n (insPop ds a b)))
  | _ => False
theorem ds_insP (i : Nat) (h : DE X A e te) (h2 : DE X A e2 te2) {ap2 cp2 p3 : Pos}
    (hpe : PE X (.Call (.Attribute (.Name x p) "insert" ap) [e, .Call (.Attribute (.Name x p3) "pop" ap2) [e2] [] cp2] [] cp) (tBM X.K "list" rIns (tVar i) (tCons (wE X e) (tCons (tBM X.K "list" rPopAt (tVar i) (tCons (wE X e2) tNil)) tNil))))
    (hs : swapsWith (.Call (.Attribute (.Name x p) "insert" ap) [e, .Call (.Attribute (.Name x p3) "pop" ap2) [e2] [] cp2] [] cp) none pos.line X.env = pure false := by rfl) :
    DS X A (.Expr (.Call (.Attribute (.Name x p) "insert" ap) [e, .Call (.Attribute (.Name x p3) "pop" ap2) [e2] [] cp2] [] cp) pos) (dInsP i te te2) := ⟨fun {xq σ B H ρ Dd D} g q l => by
  unfold dInsP at q
  split at q
  · rename_i n ds hi
    obtain ⟨o, vs, e1, q1, hl, q3, q4, q5⟩ := deep_at g hi
    refine PSw (ps_expr hpe hs) ⟨.ref o, e1, .inl ⟨rfl, _, SqL.of q1⟩, (h.frzI g q).mono fun v H1 ⟨a, ev, ⟨ha, hm2, qu⟩, B1, x1⟩ => ?_⟩
    subst ev
    have h1 := x1.fr o _ q3 q1 nofun
    refine ⟨.ref o, e1, .inl ⟨rfl, _, SqL.of h1⟩, (h2.frzI (g.step x1) qu).mono fun v H2 ⟨b, ev, ⟨hb, qn⟩, B2, x2⟩ => ?_⟩
    subst ev
    have x12 := x1.trans x2
    have h2' := x12.fr o _ q3 q1 nofun
    have hb' : b < vs.length := by rw [hl]; exact hb
    have hlE : (vs.eraseIdx b).length = vs.length - 1 := by rw [List.length_eraseIdx, if_pos hb']
    refine ⟨o, vs, (b : Nat), b, vs[b], rfl, rfl, h2', by omega, by omega, ?_, List.getElem?_eq_getElem hb', o, vs.eraseIdx b, (a : Nat), vs[b], rfl, rfl, upd_same, ?_, by omega, by omega, ?_⟩
    · unfold seqIndex?
      simp
      omega
    · rw [hlE, hl]
      exact Nat.lt_of_le_of_lt (Nat.sub_le _ _) (small_line (Nat.le_of_lt hm2))
    · rw [upd_upd]
      have e' : (vs.eraseIdx b).take ((a : Nat) : Int).toNat ++ [vs[b]] ++ (vs.eraseIdx b).drop ((a : Nat) : Int).toNat = insPop vs a b := by
        unfold insPop
        rw [List.getElem?_eq_getElem hb']
        rfl
      rw [e']
      have g2 := sel_nx g x12 hi e1 h2' (vs' := insPop vs a b) (ds' := insPop ds a b) (by rw [insPop_length hb', insPop_length hb, hl]) (ipx a b) (fun _ _ _ _ z => ipx_inj z) (fun i _ => ipx_get hb' (by omega)) fun i _ => ipx_get hb ha
      exact l.nx _ σ B2 _ qn g2.ex x12.sb g2.en
  · exact q.elim⟩
end
end
end DL

/-! DL21: the class Hall. -/
namespace DL
open PySem PySem.Spec L2
/-- the class as the top has made it -/
structure HallC (K : PySem.W.Frag) (mg : Str → Option Value) (C : Addr) : Prop where
  cl : Cls K C
  nN : NoAttr K C "net"
  nF : NoAttr K C "feed"
  nC : NoAttr K C "cells"
  at_ : mg "Hall" = some (.ref C)
section
variable {X : Cx} {A : Act} {e a b : Expr} {t ta tb : ET} {pos : Pos} {C : Addr}
/-! ### attributes -/
def dNetF (t : ET) : ET := fun xq ρ P => t xq ρ fun d => match d with
  | .dict [(.bool true, .tuple [net, _, _])] => P net
  | _ => False
def dFeedF (t : ET) : ET := fun xq ρ P => t xq ρ fun d => match d with
  | .dict [(.bool true, .tuple [_, feed, _])] => P feed
  | _ => False
def dCellsF (t : ET) : ET := fun xq ρ P => t xq ρ fun d => match d with
  | .dict [(.bool true, .tuple [_, _, ks])] => P (.dict [(.none, ks)])
  | _ => False
theorem lk_net {v1 v2 v3 : V} : ([("net", v1), ("feed", v2), ("cells", v3)] : List (Str × V)).lookup ("net" : Str) = some v1 := rfl
theorem lk_feed {v1 v2 v3 : V} : ([("net", v1), ("feed", v2), ("cells", v3)] : List (Str × V)).lookup ("feed" : Str) = some v2 := by
  have h : (("feed" : Str) == "net") = false := by decide +kernel
  simp [List.lookup, h]
theorem lk_cells {v1 v2 v3 : V} : ([("net", v1), ("feed", v2), ("cells", v3)] : List (Str × V)).lookup ("cells" : Str) = some v3 := by
  have h : (("cells" : Str) == "net") = false := by decide +kernel
  have h2 : (("cells" : Str) == "feed") = false := by decide +kernel
  simp [List.lookup, h, h2]
theorem lk_none {v1 v2 v3 : V} {m : Str} (h1 : (m == "net") = false) (h2 : (m == "feed") = false) (h3 : (m == "cells") = false) : ([("net", v1), ("feed", v2), ("cells", v3)] : List (Str × V)).lookup m = none := by
  simp [List.lookup, h1, h2, h3]
theorem de_net (hC : HallC X.K X.mg C) (h : DE X A e t) (hb : attributeBase e "net" X.env (eval e X.env) = eval e X.env := by rfl) : DE X A (.Attribute e "net" pos) (dNetF t) := ⟨fun {xq σ B H ρ P} g q => by
  refine PEw (pe_fld (peW e) hb) ((h.run g q).mono fun v H1 ⟨d, B1, q1, x1, r1⟩ => ?_)
  have ec := g.hx.hall C hC.at_
  cases r1 with
  | hall h1 h2 h3 r1 r2 r =>
    rw [← ec] at h1
    exact ⟨_, C, _, _, _, rfl, x1.sh _ _ h1, hC.cl, hC.nN, lk_net, _, B1, q1, x1, r1⟩
  | _ => exact False.elim q1⟩
theorem de_feed (hC : HallC X.K X.mg C) (h : DE X A e t) (hb : attributeBase e "feed" X.env (eval e X.env) = eval e X.env := by rfl) : DE X A (.Attribute e "feed" pos) (dFeedF t) := ⟨fun {xq σ B H ρ P} g q => by
  refine PEw (pe_fld (peW e) hb) ((h.run g q).mono fun v H1 ⟨d, B1, q1, x1, r1⟩ => ?_)
  have ec := g.hx.hall C hC.at_
  cases r1 with
  | hall h1 h2 h3 r1 r2 r =>
    rw [← ec] at h1
    exact ⟨_, C, _, _, _, rfl, x1.sh _ _ h1, hC.cl, hC.nF, lk_feed, _, B1, q1, x1, r2⟩
  | _ => exact False.elim q1⟩
theorem de_cells (hC : HallC X.K X.mg C) (h : DE X A e t) (hb : attributeBase e "cells" X.env (eval e X.env) = eval e X.env := by rfl) : DE X A (.Attribute e "cells" pos) (dCellsF t) := ⟨fun {xq σ B H ρ P} g q => by
  refine PEw (pe_fld (peW e) hb) ((h.run g q).mono fun v H1 ⟨d, B1, q1, x1, r1⟩ => ?_)
  have ec := g.hx.hall C hC.at_
  cases r1 with
  | hall h1 h2 h3 r1 r2 r =>
    rw [← ec] at h1
    exact ⟨_, C, _, _, _, rfl, x1.sh _ _ h1, hC.cl, hC.nC, lk_cells, _, B1, q1, x1, .dic h3 r⟩
  | _ => exact False.elim q1⟩
/-- d[k] -/
def getDicD : OT := fun x y P => ∃ kvs k d, x = dicD kvs ∧ y = keyD k ∧ getT kvs k = some d ∧ P d
theorem de_dget {n : Nat} (hr : Room n X.A) (ha : DE X A a ta) (hb : DE X A b tb) (hs : NoSl b := by intro _ _; rfl) : DE X A (.Subscript a b pos) (dOp getDicD ta tb) := ⟨fun {xq σ B H ρ P} g h => by
  refine PEw (pe_dget (hu_of hr) (peW a) (peW b) hs) ((ha.run g h).mono fun v H1 ⟨d, B1, q, x1, r1⟩ => ?_)
  refine (hb.run (g.step x1) q).mono fun u H2 ⟨d2, B2, q2, x2, r2⟩ => ?_
  obtain ⟨kvs, k, dd, e1, e2, e3, qp⟩ := q2
  subst e1 e2
  obtain ⟨a', o, ea, dg, g1, g2⟩ := dget_dic x2.sh r2 (r1.mono x2.sb)
  obtain ⟨v', eo, rv⟩ := g1 _ e3
  subst eo
  exact ⟨a', v', ea, dg, dd, B2, qp, x1.trans x2, rv⟩⟩
/-! ### x.m(..), as data -/
def dSelf (t : ET) : ET := fun xq ρ P => t xq ρ fun d => match d with
  | .dict [(.bool true, .tuple [a, b, c])] => P (.dict [(.bool true, .tuple [a, b, c])])
  | _ => False
theorem de_meth {S : DSpec} {k j : Nat} {m : Str} {f : Addr} {fd : FuncData} {ps : List Str} {o e1 : Expr} {es : List Expr} {to : ET} {tas : AT} {apos : Pos} {pl : Sem Bool} (hC : HallC X.K X.mg C) (hm : Meth X.K C m f) (F : FnOk X.prog X.w X.K X.mg X.base (L2.CX X.prog X.w) j f fd ps (spD X.K X.mg S)) (hj : j ≤ k) (hb : Binds X.K fd ps []) (hr : Room k X.A) (hx : Passes (L2.CX X.prog X.w) X A.E)
    (ho : DE X A o to) (ha : DA X A (e1 :: es) tas) (hn : (m == "net") = false := by decide +kernel) (hf : (m == "feed") = false := by decide +kernel) (hc : (m == "cells") = false := by decide +kernel)
    (hst : starEach (e1 :: es) X.env = (false, eval e1 X.env) :: starEach es X.env := by rfl) (hpl : (backTo pos (starEach es X.env)).any (·.1) = false := by rfl)
    (ht : eval (.Call (.Attribute o m apos) (e1 :: es) [] pos) X.env = (do
      let ov ← eval o X.env
      standAt apos.atName
      let (f, first) ← holding [ov] (getMethod ov m pl)
      callWith pos f first (backTo pos (starEach (e1 :: es) X.env)) (backToKw pos (keywordEach [] X.env))) := by rfl) :
    DE X A (.Call (.Attribute o m apos) (e1 :: es) [] pos) (dCall S (dCons (dSelf to) tas)) := ⟨fun {xq σ B H ρ P} g q => by
  refine PEw (pe_meth (pl := pl) (peW o) hC.cl hm F (hr.mono hj) hb .nil hx (paW _) hst hpl ht) ((ho.run g q).mono fun v H1 ⟨d, B1, q1, x1, r1⟩ => ?_)
  have ec := g.hx.hall C hC.at_
  cases r1 with
  | hall h1 h2 h3 r1 r2 r =>
    rw [← ec] at h1
    refine ⟨_, _, _, rfl, x1.sh _ _ h1, lk_none hn hf hc, (ha.run (g.step x1) q1).mono fun vs H2 ⟨ds, B2, q2, x2, rs, _⟩ => ?_⟩
    rw [ec] at h1
    exact call_run g (x1.trans x2) (.cons ((Rp.hall h1 h2 h3 r1 r2 r).mono x2.sb) rs) q2 (fun d p v B' H' x rr => ⟨d, B', p, x, rr⟩) (fun es p v H' l => l.e g.ok fun ys e => by rw [e]; exact p) fun n r p => p
  | _ => exact False.elim q1⟩

/-! ### self.cells[task] = .. -/
def doD (t1 t2 t3 : ET) (net feed : PyData) (kvs : List (List Int × PyData)) (task : PyData) (P : List (List Int × PyData) → Prop) : Prop :=
  t1 nxq [.d (hallD net feed kvs), .d task, .un, .un, .un] fun ab => ∃ a b, ab = .tuple [a, b] ∧ t2 nxq [.d (hallD net feed kvs), .d task, .d a, .d b, .un] fun m => t3 nxq [.d (hallD net feed kvs), .d task, .d a, .d b, .d m] fun d =>
    flat d = true ∧ ∃ k, task = keyD k ∧ kvs.length < 100000 ∧ P (putT kvs k d)
theorem do_read {n : Nat} (hC : HallC X.K X.mg C) (hr : Room n X.A) {s1 s2 s3 : Stmt} {e1 e2 e3 : Expr} {t1 t2 t3 : ET}
    (p1 : PS X s1 (tAsg (wE X e1) ((Tg.tp [2, 3]).g X.K))) (p2 : PS X s2 (tAsg (wE X e2) ((Tg.nm 4).g X.K))) (p3 : PS X s3 (sDPut (tFld X.K (tVar 0) "cells") (tVar 1) (wE X e3)))
    (h1 : DE X A e1 t1) (h2 : DE X A e2 t2) (h3 : DE X A e3 t3) {o dx dd : Addr} {v v1 v2 : V} {kv : List (List Key × V)} {net feed task : PyData} {kvs : List (List Int × PyData)} {B Bp H : Hp} {P : List (List Int × PyData) → Prop} {D : Ends}
    (g : Cfg X A nxq [some (.ref o), some v, none, none, none] Bp H [.d (hallD net feed kvs), .d task, .un, .un, .un]) (ov : Over B Bp H) (ho : H o = some (.ins C dx [("net", v1), ("feed", v2), ("cells", .ref dd)])) (hd : H dd = some (.dT kv)) (rk : Rpk X.K A.c Bp kv kvs) (bd : Bp dd = some (.dT kv)) (rkB : Rpk X.K A.c B kv kvs)
    (os : o ≠ A.c.st)
    (q : doD t1 t2 t3 net feed kvs task P) (fin : ∀ kvs', P kvs' → ∀ kv' B' H1 σ', Ex X.K A.c B H B' H1 → H1 dd = some (.dT kv) → Rpk X.K A.c B' kv' kvs' → D.nx σ' (upd H1 dd (.dT kv'))) : wSs X [s1, s2, s3] D [some (.ref o), some v, none, none, none] H := by
  have rv0 : Rp X.K A.c Bp v task := by
    obtain ⟨v', e, r⟩ := g.en.data (i := 1) rfl
    cases e
    exact r
  refine PSsw (pss_cons (psW s1) (pssW [s2, s3])) (PSw p1 ((h1.run g q).mono fun w1 H1 ⟨ab, B1, ⟨a, b, eab, q2⟩, x1, r1⟩ => ?_))
  subst eab
  have g1 := g.step x1
  refine Tg.mono (.tp [2, 3]) (Tg.run (X := X) (A := A) (.tp [2, 3]) (vs := [2, 3]) g1.en x1.sh r1 (fun _ h => h) (Q := fun ρ => ρ = [.d (hallD net feed kvs), .d task, .d a, .d b, .un]) ⟨rfl, rfl⟩) fun σ2 H2 ⟨eH, ρ2, eρ, en2, ew⟩ => ?_
  subst eH eρ
  have s0 : σ2[0]? = some (some (.ref o)) := by
    have e1 := wipe_out (σ := σ2) (vs := [2, 3]) (i := 0) (by decide)
    rw [← e1, ew, wipe_out (by decide)]
    rfl
  have s1' : σ2[1]? = some (some v) := by
    have e1 := wipe_out (σ := σ2) (vs := [2, 3]) (i := 1) (by decide)
    rw [← e1, ew, wipe_out (by decide)]
    rfl
  have g2 : Cfg X A nxq σ2 B1 H2 [.d (hallD net feed kvs), .d task, .d a, .d b, .un] := ⟨g1.hx, g1.ex, en2⟩
  refine PSsw (pss_cons (psW s2) (pssW [s3])) (PSw p2 ((h2.run g2 q2).mono fun w2 H3 ⟨m, B3, q3, x3, r3⟩ => ?_))
  have g3 := g2.step x3
  show wSs X [s3] D (σ2.set 4 (some w2)) H3
  have g4 : Cfg X A nxq (σ2.set 4 (some w2)) B3 H3 [.d (hallD net feed kvs), .d task, .d a, .d b, .d m] := ⟨g3.hx, g3.ex, g3.en.setD 4 r3⟩
  refine PSsw (pss_one (psW s3)) (PSw p3 ((h3.run g4 q3).mono fun w3 H4 ⟨d, B4, ⟨fd, k, ek, hl, qp⟩, x4, r4⟩ => ?_))
  have x13 := (x1.trans x3).trans x4
  obtain ⟨B', x', sb', _, kf, _⟩ := ov.back x13
  have ho4 := x13.fr o _ os ho nofun
  have dst : dd ≠ A.c.st := fun z => by rw [z, g.ok.st] at bd; cases bd
  have hd4 := x13.fr dd _ dst hd nofun
  subst ek
  obtain ⟨bk, rfl, hbk⟩ := rp_key x13.sh (rv0.mono x13.sb)
  refine ⟨.ref o, by rw [List.getElem?_set_ne (by decide)]; exact s0, o, C, dx, _, .ref dd, rfl, ho4, hC.cl, hC.nC, lk_cells, .ref bk, by rw [List.getElem?_set_ne (by decide)]; exact s1', dd, _, rfl, DPut.t (k := k.map Sum.inl) hd4 hbk ?_, ?_⟩
  · rw [rpk_length rk]; exact Nat.lt_of_lt_of_le hl (Nat.le_of_lt (small_line (by decide)))
  · exact fin _ qp _ B' _ _ x' hd4 (rpk_put (kf fd r4) (rkB.mono x'.sb))

/-! ### the promise of do -/
abbrev DoSpec := PyData → PyData → List (List Int × PyData) → PyData → (List (List Int × PyData) → Prop) → Prop
def spDo (K : PySem.W.Frag) (mg : Str → Option Value) (S : DoSpec) : Sp := fun vs H Q _ => ∃ (c : Dc) (B : Hp) (o dx dd : Addr) (v1 v2 v : V) (kv : List (List Key × V)) (net feed task : PyData) (kvs : List (List Int × PyData)) (P : List (List Int × PyData) → Prop),
  (∀ C, mg "Hall" = some (.ref C) → C = c.hall) ∧ Ok K c B H ∧ vs = [.ref o, v] ∧ H o = some (.ins c.hall dx [("net", v1), ("feed", v2), ("cells", .ref dd)]) ∧ H dx = some (.own o) ∧ H dd = some (.dT kv) ∧ B o = none ∧ B dx = none ∧ B dd = none ∧ o ≠ c.st ∧
  Rp K c B v1 net ∧ Rp K c B v2 feed ∧ Rpk K c B kv kvs ∧ Rp K c B v task ∧ S net feed kvs task P ∧ ∀ kvs', P kvs' → ∀ kv' B' H1, Ex K c B H B' H1 → H1 dd = some (.dT kv) → Rpk K c B' kv' kvs' → Q .non (upd H1 dd (.dT kv'))
/-- three of one's own seen as data -/
theorem over3 {K : PySem.W.Frag} {c : Dc} {B H : Hp} {o dx dd : Addr} {uo ux ud : HO} (ok : Ok K c B H) (ho : H o = some uo) (hx : H dx = some ux) (hd : H dd = some ud) (so : Sft uo) (sx : Sft ux) (sd : Sft ud) (bo : B o = none) (bx : B dx = none) (bd : B dd = none) (no : o ≠ c.st) (nx : dx ≠ c.st) (nd : dd ≠ c.st) :
    ∃ Bp, Ok K c Bp H ∧ Over B Bp H ∧ Bp o = some uo ∧ Bp dx = some ux ∧ Bp dd = some ud := by
  classical
  refine ⟨fun a => if a = o ∨ a = dx ∨ a = dd then H a else B a, ⟨fun a u q => ?_, ?_, ok.wd, fun a ps q => ?_⟩, ⟨fun a u q => ?_, fun a => ?_⟩, ?_, ?_, ?_⟩
  · by_cases h : a = o ∨ a = dx ∨ a = dd
    · simp only [h, if_true] at q; exact q
    · simp only [h, if_false] at q; exact ok.sh a u q
  · have h : ¬ (c.st = o ∨ c.st = dx ∨ c.st = dd) := by
      rintro (z | z | z)
      · exact no z.symm
      · exact nx z.symm
      · exact nd z.symm
    simp only [h, if_false]
    exact ok.st
  · by_cases h : a = o ∨ a = dx ∨ a = dd
    · simp only [h, if_true] at q
      rcases h with z | z | z <;> subst z
      · rw [ho] at q; cases q; exact so
      · rw [hx] at q; cases q; exact sx
      · rw [hd] at q; cases q; exact sd
    · simp only [h, if_false] at q; exact ok.nt a ps q
  · by_cases h : a = o ∨ a = dx ∨ a = dd
    · rcases h with z | z | z <;> subst z
      · rw [bo] at q; cases q
      · rw [bx] at q; cases q
      · rw [bd] at q; cases q
    · simp only [h, if_false]; exact q
  · by_cases h : a = o ∨ a = dx ∨ a = dd
    · refine .inr ?_
      simp only [h, if_true]
      rcases h with z | z | z <;> subst z
      · exact ⟨bo, uo, ho, ho, so⟩
      · exact ⟨bx, ux, hx, hx, sx⟩
      · exact ⟨bd, ud, hd, hd, sd⟩
    · refine .inl ?_
      simp only [h, if_false]
  · simp only [true_or, if_true]; exact ho
  · simp only [true_or, or_true, if_true]; exact hx
  · simp only [or_true, if_true]; exact hd
section
variable {P : Program} {w : World} {K : PySem.W.Frag} {mg : Str → Option Value} {base : Heap}
theorem do_fn {x qual : Str} {st : Stmt} {f : Addr} {fd : FuncData} {N : List Str} {k : Nat} {t1 t2 t3 : ET} {C : Addr} (hC : HallC K mg C) (F : Fun K x qual st f fd) (S : FnScope N ["self", "task"] (defScope st)) (hN : N.length = 5)
    (body : ∀ (cdv : Value) (A : Around) (outer : List Env) (s : Shared) (H : Hp) (c : Dc) (B : Hp) (E : XK), Room k (A.deeper (PyProof.Rows.envOfC qual (defScope st) s.heap.objs.size f cdv)) →
      ∃ s1 s2 s3 e1 e2 e3, defBody st = [s1, s2, s3] ∧ PS (cxOf (L2.CX P w) P w K mg base N qual (defScope st) f cdv A outer s H E) s1 (tAsg (wE (cxOf (L2.CX P w) P w K mg base N qual (defScope st) f cdv A outer s H E) e1) ((Tg.tp [2, 3]).g K)) ∧
        PS (cxOf (L2.CX P w) P w K mg base N qual (defScope st) f cdv A outer s H E) s2 (tAsg (wE (cxOf (L2.CX P w) P w K mg base N qual (defScope st) f cdv A outer s H E) e2) ((Tg.nm 4).g K)) ∧
        PS (cxOf (L2.CX P w) P w K mg base N qual (defScope st) f cdv A outer s H E) s3 (sDPut (tFld K (tVar 0) "cells") (tVar 1) (wE (cxOf (L2.CX P w) P w K mg base N qual (defScope st) f cdv A outer s H E) e3)) ∧
        DE (cxOf (L2.CX P w) P w K mg base N qual (defScope st) f cdv A outer s H E) ⟨c, B, H, E⟩ e1 t1 ∧ DE (cxOf (L2.CX P w) P w K mg base N qual (defScope st) f cdv A outer s H E) ⟨c, B, H, E⟩ e2 t2 ∧ DE (cxOf (L2.CX P w) P w K mg base N qual (defScope st) f cdv A outer s H E) ⟨c, B, H, E⟩ e3 t3) :
    FnOk P w K mg base (L2.CX P w) (k + 1) f fd ["self", "task"] (spDo K mg (doD t1 t2 t3)) := by
  refine F.okX S (fun vs H Q E h => ?_) fun cdv A outer s H vs Q E hr h => ?_
  · obtain ⟨c, B, o, dx, dd, v1, v2, v, kv, net, feed, task, kvs, P', _, _, rfl, _⟩ := h
    rfl
  · obtain ⟨c, B, o, dx, dd, v1, v2, v, kv, net, feed, task, kvs, P', hh, ok, rfl, ho, hx, hd, bo, bx, bd, os, r1, r2, rk, rv, q, fin⟩ := h
    have ec := hh C hC.at_
    have nx : dx ≠ c.st := fun z => by
      obtain ⟨_, _, _, e, _⟩ := ok.wd
      rw [← z, hx] at e; cases e
    have nd : dd ≠ c.st := fun z => by
      obtain ⟨_, _, _, e, _⟩ := ok.wd
      rw [← z, hd] at e; cases e
    obtain ⟨Bp, okp, ov, po, px, pd⟩ := over3 ok ho hx hd trivial trivial trivial bo bx bd os nx nd
    obtain ⟨s1, s2, s3, e1, e2, e3, eb, p1, p2, p3, h1, h2, h3⟩ := body cdv A outer s H c Bp E hr
    refine ⟨_, pssW _, ?_⟩
    rw [eb]
    have hσ : L2.start N [.ref o, v] = [some (.ref o), some v, none, none, none] := by
      unfold L2.start
      rw [hN]
      rfl
    rw [hσ]
    rw [← ec] at ho
    refine do_read (A := ⟨c, Bp, H, E⟩) (n := k) hC hr p1 p2 p3 h1 h2 h3 (C := C) (B := B) (Bp := Bp) (kv := kv) (dx := dx) ⟨⟨fun _ _ z => z.elim, hh⟩, okp.refl, ?_⟩ ov ho hd (rk.mono ov.sb) pd rk os q fun kvs' p kv' B' H1 σ' x hd1 r => fin kvs' p kv' B' H1 x hd1 r
    rw [ec] at ho
    refine ⟨rfl, fun _ _ => False, fun i s e hs he => ?_, fun _ _ z => z.elim, fun _ _ _ z => z.elim⟩
    match i with
    | 0 => cases hs; cases he; exact ⟨_, rfl, .hall po px pd (r1.mono ov.sb) (r2.mono ov.sb) (rk.mono ov.sb)⟩
    | 1 => cases hs; cases he; exact ⟨_, rfl, rv.mono ov.sb⟩
    | 2 => cases hs; cases he; trivial
    | 3 => cases hs; cases he; trivial
    | 4 => cases hs; cases he; trivial
    | i + 5 => simp at hs
end
/-- x.do(e) -/
def dDo (i : Nat) (S : DoSpec) (t : ET) : STd := fun xq ρ D => match ρ[i]? with
  | some (.hall net feed kvs) => t xq ρ fun task => S net feed kvs task fun kvs' => D.nx (ρ.set i (.hall net feed kvs'))
  | _ => False
theorem ds_do {x : Str} {p ap cp : Pos} {e1 : Expr} {S : DoSpec} {k j : Nat} {f : Addr} {fd : FuncData} {pl : Sem Bool} (i : Nat) (hC : HallC X.K X.mg C) (hm : Meth X.K C "do" f) (F : FnOk X.prog X.w X.K X.mg X.base (L2.CX X.prog X.w) j f fd ["self", "task"] (spDo X.K X.mg S)) (hj : j ≤ k) (hb : Binds X.K fd ["self", "task"] []) (hr : Room k X.A) (hx : Passes (L2.CX X.prog X.w) X A.E)
    (h : DE X A e1 t) (hpv : PE X (.Name x p) (tVar i)) (hs : swapsWith (.Call (.Attribute (.Name x p) "do" ap) [e1] [] cp) none pos.line X.env = pure false := by rfl)
    (hst : starEach [e1] X.env = (false, eval e1 X.env) :: starEach [] X.env := by rfl) (hpl : (backTo cp (starEach [] X.env)).any (·.1) = false := by rfl)
    (ht : eval (.Call (.Attribute (.Name x p) "do" ap) [e1] [] cp) X.env = (do
      let ov ← eval (.Name x p) X.env
      standAt ap.atName
      let (f, first) ← holding [ov] (getMethod ov "do" pl)
      callWith cp f first (backTo cp (starEach [e1] X.env)) (backToKw cp (keywordEach [] X.env))) := by rfl) :
    DS X A (.Expr (.Call (.Attribute (.Name x p) "do" ap) [e1] [] cp) pos) (dDo i S t) := ⟨fun {xq σ B H ρ Dd D} g q l => by
  unfold dDo at q
  split at q
  · rename_i net feed kvs hi
    have ec := g.hx.hall C hC.at_
    obtain ⟨s, fp, e1, ⟨o, dx, dd, v1, v2, kv, e2, ho, hdx, hd, fo, fx, fdd, r1, r2, rk⟩, fr⟩ := g.en.at hi
    subst e2
    refine PSw (ps_expr (pe_meth (pl := pl) hpv hC.cl hm F (hr.mono hj) hb .nil hx (pa_cons (peW _) pa_nil hst) hst hpl ht) hs) ⟨.ref o, e1, o, dx, _, rfl, by rw [ec]; exact ho, lk_none (by decide +kernel) (by decide +kernel) (by decide +kernel), (h.run g q).mono fun v H1 ⟨task, B1, q1, x1, rv⟩ => ?_⟩
    have f1 := fr o fo
    have f2 := fr dx fx
    have f3 := fr dd fdd
    refine ⟨A.c, B1, o, dx, dd, v1, v2, v, kv, net, feed, task, kvs, _, g.hx.hall, x1.ok, rfl, x1.fr o _ f1.nst ho nofun, x1.fr dx _ f2.nst hdx nofun, x1.fr dd _ f3.nst hd nofun, (f1.step x1).nb, (f2.step x1).nb, (f3.step x1).nb, f1.nst, r1.mono x1.sb, r2.mono x1.sb, rk.mono x1.sb, rv, q1, fun kvs' qn kv' B' H2 x2 hd2 r' => ?_⟩
    have x12 := x1.trans x2
    have g2 := g.step x12
    have f3' := f3.step x12
    refine l.nx _ σ B' _ qn (g2.ex.setT hd2 f3'.nb f3'.n0) x12.sb ?_
    have en := g2.en.change (H' := upd H2 dd (.dT kv')) (e' := .hall net feed kvs') (s' := some (.ref o)) hi e1 fun fp ok fr => by
      obtain ⟨o', dx', dd', w1, w2, kw, e2, ho', hdx', hd', fo', fx', fdd', r1', r2', rk'⟩ := ok
      cases e2
      have ho2 := x12.fr o _ f1.nst ho nofun
      rw [ho2] at ho'
      cases ho'
      have nod : o ≠ dd := ne_of ho2 hd2 nofun
      have nxd : dx ≠ dd := ne_of hdx' hd2 nofun
      refine ⟨fp, fun a z => .inl z, ⟨o, dx, dd, v1, v2, kv', rfl, by rw [upd_ne nod]; exact ho2, by rw [upd_ne nxd]; exact hdx', upd_same, fo', fx', fdd', r1', r2', r'⟩, fun a z => ?_, fun a u z q => by rw [upd_ne (fun w => z (by rw [w]; exact fdd'))]; exact q⟩
      have f := fr a z
      obtain ⟨ob, hob, hot⟩ := f.th
      by_cases ea : a = dd
      · exact ⟨f.nb, f.nst, f.n0, .dT kv', by rw [ea]; exact upd_same, nofun⟩
      · exact ⟨f.nb, f.nst, f.n0, ob, by rw [upd_ne ea]; exact hob, hot⟩
    rwa [set_same e1] at en
  · exact q.elim⟩

/-! ### x = Hall(net, feed) -/
def spInitH (K : PySem.W.Frag) (C : Addr) : Sp := fun vs H Q _ => ∃ (o dx : Addr) (v1 v2 : V), vs = [.ref o, v1, v2] ∧ H o = some (.ins C dx []) ∧ ∀ dd H', H dd = none → H' o = some (.ins C dx [("net", v1), ("feed", v2), ("cells", .ref dd)]) → H' dd = some (.dT []) → (∀ b, b ≠ o → b ≠ dd → H' b = H b) → Q .non H'
theorem flds3 {v1 v2 v3 : V} : putF "cells" v3 (putF "feed" v2 (putF "net" v1 [])) = ([("net", v1), ("feed", v2), ("cells", v3)] : List (Str × V)) := by
  have h1 : ¬ (("net" : Str) = "feed") := by decide +kernel
  have h2 : ¬ (("net" : Str) = "cells") := by decide +kernel
  have h3 : ¬ (("feed" : Str) = "cells") := by decide +kernel
  simp [putF, h1, h2, h3]
theorem init_fn {P : Program} {w : World} {K : PySem.W.Frag} {mg : Str → Option Value} {base : Heap} {x qual : Str} {st : Stmt} {f : Addr} {fd : FuncData} {k : Nat} {C : Addr} (hC : HallC K mg C) (F : Fun K x qual st f fd) (S : FnScope ["self", "net", "feed"] ["self", "net", "feed"] (defScope st))
    (body : ∀ (cdv : Value) (A : Around) (outer : List Env) (s : Shared) (H : Hp) (E : XK), PSs (cxOf (L2.CX P w) P w K mg base ["self", "net", "feed"] qual (defScope st) f cdv A outer s H E) (defBody st) (fun D => sFld K (tVar 0) (tVar 1) "net" { D with nx := fun σ H => sFld K (tVar 0) (tVar 2) "feed" { D with nx := fun σ H => sFld K (tVar 0) tDNewT "cells" D σ H } σ H })) :
    FnOk P w K mg base (L2.CX P w) (k + 1) f fd ["self", "net", "feed"] (spInitH K C) := by
  refine F.okX S (fun vs H Q E h => ?_) fun cdv A outer s H vs Q E hr h => ?_
  · obtain ⟨o, dx, v1, v2, rfl, _⟩ := h
    rfl
  · obtain ⟨o, dx, v1, v2, rfl, ho, fin⟩ := h
    refine ⟨_, body cdv A outer s H E, ?_⟩
    refine ⟨v1, rfl, .ref o, rfl, o, C, dx, [], rfl, ho, hC.cl, hC.nN, by decide, v2, rfl, .ref o, rfl, o, C, dx, _, rfl, upd_same, hC.cl, hC.nF, by simp [putF], fun dd hdd => ?_⟩
    have nod : dd ≠ o := fun z => by rw [z, upd_same] at hdd; cases hdd
    refine ⟨.ref o, rfl, o, C, dx, _, rfl, by rw [upd_ne nod.symm]; exact upd_same, hC.cl, hC.nC, by simp only [putF]; split <;> simp, ?_⟩
    refine fin dd _ ?_ (by rw [upd_same, flds3]) (by rw [upd_ne nod]; exact upd_same) fun b h1 h2 => by rw [upd_ne h1, upd_ne h2, upd_ne h1, upd_ne h1]
    rw [upd_ne nod, upd_ne nod] at hdd
    exact hdd
theorem Ok.same {K : PySem.W.Frag} {c : Dc} {B H H' : Hp} (o : Ok K c B H) (s : ∀ a u, H a = some u → H' a = some u) : Ex K c B H B H' :=
  ⟨Same.refl B, fun a u q => s a u (o.sh a u q), fun a u _ q _ => s a u q, fun _ _ => rfl, o.st, o.wd.fr s, o.wd.sl, o.nt⟩
def dNewH (i : Nat) (t : AT) : STd := fun xq ρ D => t xq ρ fun ds => ∃ net feed, ds = [net, feed] ∧ D.nx (ρ.set i (.hall net feed []))
theorem ds_newH {x : Str} {p : Pos} {e1 : Expr} {es : List Expr} {ta : AT} {k j : Nat} {f : Addr} {fd : FuncData} {st : Stmt} (i : Nat) (hC : HallC X.K X.mg C) (M : Mk X.K C f) (F : FnOk X.prog X.w X.K X.mg X.base (L2.CX X.prog X.w) j f fd ["self", "net", "feed"] (spInitH X.K C)) (hj : j + 1 ≤ k) (hb : Binds X.K fd ["self", "net", "feed"] []) (hr : Room k X.A) (hx : Passes (L2.CX X.prog X.w) X A.E)
    (ha : DA X A (e1 :: es) ta) (hp : ∀ t, PE X (.Call (.Name "Hall" p) (e1 :: es) [] pos) t → PS X st (tAsg t (gName i))) (hg : Gl X "Hall" := by rfl)
    (hst : starEach (e1 :: es) X.env = (false, eval e1 X.env) :: starEach es X.env := by rfl) (hpl : (backTo pos (starEach es X.env)).any (·.1) = false := by rfl) :
    DS X A st (dNewH i ta) := ⟨fun {xq σ B H ρ Dd D} g q l => by
  have ec := g.hx.hall C hC.at_
  refine PSw (hp _ (pe_make M F (hr.mono hj) hg hC.at_ hb .nil hx (paW _) (by decide) hst hpl)) ((ha.run g q).mono fun vs H1 ⟨ds, B1, ⟨net, feed, eds, qn⟩, x1, rs, _⟩ => ?_)
  subst eds
  intro o dx no ndx nd
  cases rs with
  | cons r1 rs =>
    cases rs with
    | cons r2 rs =>
      cases rs
      refine ⟨o, dx, _, _, rfl, upd_same, fun dd H' hdd ho hd kp => ⟨rfl, ?_⟩⟩
      have nod : dd ≠ o := fun z => by rw [z, upd_same] at hdd; cases hdd
      rw [upd_ne nod] at hdd
      have nxd : dd ≠ dx := fun z => by rw [z, upd_same] at hdd; cases hdd
      rw [upd_ne nxd] at hdd
      have hdx : H' dx = some (.own o) := by rw [kp dx nd nxd.symm, upd_ne nd, upd_same]
      have sm : ∀ a u, H1 a = some u → H' a = some u := fun a u q => by
        rw [kp a (ne_of_none q no) (ne_of_none q hdd), upd_ne (ne_of_none q no), upd_ne (ne_of_none q ndx)]
        exact q
      have x2 := x1.ok.same sm
      have g1 := g.step x1
      have nF : ∀ a, a = o ∨ a = dx ∨ a = dd → H1 a = none := fun a z => by
        rcases z with z | z | z <;> rw [z]
        · exact no
        · exact ndx
        · exact hdd
      refine l.nx _ _ B1 H' qn (g1.ex.trans x2) x1.sb (g1.en.putNew x2 i (fun a => a = o ∨ a = dx ∨ a = dd) ⟨o, dx, dd, _, _, [], rfl, by rw [← ec]; exact ho, hdx, hd, .inl rfl, .inr (.inl rfl), .inr (.inr rfl), r1, r2, .nil⟩ (fun a z => ?_) fun a z => .of (nF a z))
      have hn := nF a z
      refine ⟨x1.ok.noB hn, fun w => x1.ok.wd.ne (by rw [← w]; exact hn), g1.ex.free (.of hn), ?_⟩
      rcases z with z | z | z <;> rw [z]
      · exact ⟨_, ho, nofun⟩
      · exact ⟨_, hdx, nofun⟩
      · exact ⟨_, hd, nofun⟩⟩

/-! ### packed -/
structure CalM (P : Program) (w : World) (K : PySem.W.Frag) (mg : Str → Option Value) (base : Heap) (k : Nat) (m : Str) (S : DSpec) : Prop where
  ex : ∃ C f fd ps j, HallC K mg C ∧ Meth K C m f ∧ FnOk P w K mg base (L2.CX P w) j f fd ps (spD K mg S) ∧ j ≤ k ∧ Binds K fd ps []
theorem CalM.up {P : Program} {w : World} {K : PySem.W.Frag} {mg : Str → Option Value} {base : Heap} {j k : Nat} {m : Str} {S : DSpec} (c : CalM P w K mg base j m S) (h : j ≤ k := by decide) : CalM P w K mg base k m S :=
  let ⟨C, f, fd, ps, i, a, b, d, e, r⟩ := c.ex; ⟨C, f, fd, ps, i, a, b, d, Nat.le_trans e h, r⟩
structure CalDo (P : Program) (w : World) (K : PySem.W.Frag) (mg : Str → Option Value) (base : Heap) (k : Nat) (S : DoSpec) : Prop where
  ex : ∃ C f fd j, HallC K mg C ∧ Meth K C "do" f ∧ FnOk P w K mg base (L2.CX P w) j f fd ["self", "task"] (spDo K mg S) ∧ j ≤ k ∧ Binds K fd ["self", "task"] []
theorem CalDo.up {P : Program} {w : World} {K : PySem.W.Frag} {mg : Str → Option Value} {base : Heap} {j k : Nat} {S : DoSpec} (c : CalDo P w K mg base j S) (h : j ≤ k := by decide) : CalDo P w K mg base k S :=
  let ⟨C, f, fd, i, a, b, d, e, r⟩ := c.ex; ⟨C, f, fd, i, a, b, d, Nat.le_trans e h, r⟩
structure CalI (P : Program) (w : World) (K : PySem.W.Frag) (mg : Str → Option Value) (base : Heap) (k : Nat) : Prop where
  ex : ∃ C f fd j, HallC K mg C ∧ Mk K C f ∧ FnOk P w K mg base (L2.CX P w) j f fd ["self", "net", "feed"] (spInitH K C) ∧ j + 1 ≤ k ∧ Binds K fd ["self", "net", "feed"] []
theorem CalI.up {P : Program} {w : World} {K : PySem.W.Frag} {mg : Str → Option Value} {base : Heap} {j k : Nat} (c : CalI P w K mg base j) (h : j ≤ k := by decide) : CalI P w K mg base k :=
  let ⟨C, f, fd, i, a, b, d, e, r⟩ := c.ex; ⟨C, f, fd, i, a, b, d, Nat.le_trans e h, r⟩
structure HallK (K : PySem.W.Frag) (mg : Str → Option Value) : Prop where
  ex : ∃ C, HallC K mg C
theorem de_netK (hC : HallK X.K X.mg) (h : DE X A e t) (hb : attributeBase e "net" X.env (eval e X.env) = eval e X.env := by rfl) : DE X A (.Attribute e "net" pos) (dNetF t) := let ⟨_, h1⟩ := hC.ex; de_net h1 h hb
theorem de_feedK (hC : HallK X.K X.mg) (h : DE X A e t) (hb : attributeBase e "feed" X.env (eval e X.env) = eval e X.env := by rfl) : DE X A (.Attribute e "feed" pos) (dFeedF t) := let ⟨_, h1⟩ := hC.ex; de_feed h1 h hb
theorem de_cellsK (hC : HallK X.K X.mg) (h : DE X A e t) (hb : attributeBase e "cells" X.env (eval e X.env) = eval e X.env := by rfl) : DE X A (.Attribute e "cells" pos) (dCellsF t) := let ⟨_, h1⟩ := hC.ex; de_cells h1 h hb
theorem de_methK {S : DSpec} {k : Nat} {m : Str} {o e1 : Expr} {es : List Expr} {to : ET} {tas : AT} {apos : Pos} {pl : Sem Bool} (G : CalM X.prog X.w X.K X.mg X.base k m S) (hr : Room k X.A) (hx : Passes (L2.CX X.prog X.w) X A.E)
    (ho : DE X A o to) (ha : DA X A (e1 :: es) tas) (hn : (m == "net") = false := by decide +kernel) (hf : (m == "feed") = false := by decide +kernel) (hc : (m == "cells") = false := by decide +kernel)
    (hst : starEach (e1 :: es) X.env = (false, eval e1 X.env) :: starEach es X.env := by rfl) (hpl : (backTo pos (starEach es X.env)).any (·.1) = false := by rfl)
    (ht : eval (.Call (.Attribute o m apos) (e1 :: es) [] pos) X.env = (do
      let ov ← eval o X.env
      standAt apos.atName
      let (f, first) ← holding [ov] (getMethod ov m pl)
      callWith pos f first (backTo pos (starEach (e1 :: es) X.env)) (backToKw pos (keywordEach [] X.env))) := by rfl) :
    DE X A (.Call (.Attribute o m apos) (e1 :: es) [] pos) (dCall S (dCons (dSelf to) tas)) :=
  let ⟨_, _, _, _, _, h1, h2, h3, h4, h5⟩ := G.ex; de_meth h1 h2 h3 h4 h5 hr hx ho ha hn hf hc hst hpl ht
theorem ds_doK {x : Str} {p ap cp : Pos} {e1 : Expr} {S : DoSpec} {k : Nat} {pl : Sem Bool} (i : Nat) (G : CalDo X.prog X.w X.K X.mg X.base k S) (hr : Room k X.A) (hx : Passes (L2.CX X.prog X.w) X A.E)
    (h : DE X A e1 t) (hpv : PE X (.Name x p) (tVar i)) (hs : swapsWith (.Call (.Attribute (.Name x p) "do" ap) [e1] [] cp) none pos.line X.env = pure false := by rfl)
    (hst : starEach [e1] X.env = (false, eval e1 X.env) :: starEach [] X.env := by rfl) (hpl : (backTo cp (starEach [] X.env)).any (·.1) = false := by rfl)
    (ht : eval (.Call (.Attribute (.Name x p) "do" ap) [e1] [] cp) X.env = (do
      let ov ← eval (.Name x p) X.env
      standAt ap.atName
      let (f, first) ← holding [ov] (getMethod ov "do" pl)
      callWith cp f first (backTo cp (starEach [e1] X.env)) (backToKw cp (keywordEach [] X.env))) := by rfl) :
    DS X A (.Expr (.Call (.Attribute (.Name x p) "do" ap) [e1] [] cp) pos) (dDo i S t) :=
  let ⟨_, _, _, _, h1, h2, h3, h4, h5⟩ := G.ex; ds_do i h1 h2 h3 h4 h5 hr hx h hpv hs hst hpl ht
theorem ds_newHK {p : Pos} {e1 : Expr} {es : List Expr} {ta : AT} {k : Nat} {st : Stmt} (i : Nat) (G : CalI X.prog X.w X.K X.mg X.base k) (hr : Room k X.A) (hx : Passes (L2.CX X.prog X.w) X A.E)
    (ha : DA X A (e1 :: es) ta) (hp : ∀ t, PE X (.Call (.Name "Hall" p) (e1 :: es) [] pos) t → PS X st (tAsg t (gName i))) (hg : Gl X "Hall" := by rfl)
    (hst : starEach (e1 :: es) X.env = (false, eval e1 X.env) :: starEach es X.env := by rfl) (hpl : (backTo pos (starEach es X.env)).any (·.1) = false := by rfl) :
    DS X A st (dNewH i ta) := let ⟨_, _, _, _, h1, h2, h3, h4, h5⟩ := G.ex; ds_newH (x := "Hall") i h1 h2 h3 h4 h5 hr hx ha hp hg hst hpl
/-! ### comprehensions as new lists -/
theorem rps_of {K : PySem.W.Frag} {c : Dc} {B : Hp} : ∀ (vs : List V) (ds : List PyData), vs.length = ds.length → (∀ (i : Nat) (v : V) (d : PyData), vs[i]? = some v → ds[i]? = some d → Rp K c B v d) → Rps K c B vs ds
  | [], [], _, _ => .nil
  | [], _ :: _, h, _ => nomatch h
  | _ :: _, [], h, _ => nomatch h
  | v :: vs, d :: ds, hl, h => .cons (h 0 v d rfl rfl) (rps_of vs ds (by simpa using hl) fun i v d a b => h (i + 1) v d (by simpa using a) (by simpa using b))
theorem DF.rl {F : AT} (h : DF X A 0 e F) : RL X A (wE X e) F := ⟨fun {xq σ B H ρ P} g q Q m => (h.run g q).mono fun v H' ⟨ys, B', F', p, x, ow, fr⟩ => by
  obtain ⟨o, vs, ds, e1, e2, h1, h2, h3, gg, g1, _⟩ := ow
  cases e2
  subst e1
  obtain ⟨f1, f2, _⟩ := fr o h2
  exact m _ _ ⟨ys, B', o, vs, p, rfl, x, f1, f2, h1, rps_of vs ys h3 fun i v d a b => g1 i v d a b⟩⟩
theorem hu2_of {n : Nat} {A : Around} (r : Room n A) : A.units + 2 < cLine := by have := r.un; omega
end
end DL

/-! DL22: if a and x.setdefault(k, v) != w. -/
namespace DL
open PySem PySem.Spec L2
section
variable {X : Cx} {A : Act}
def rSdT : V → List V → Hp → VK → Prop := fun x vs H Q => ∃ (a b : Addr) (kvs : List (List Key × V)) (k : List Key) (v : V), x = .ref a ∧ vs = [.ref b, v] ∧ H a = some (.dT kvs) ∧ H b = some (.tup (k.map kV)) ∧ kvs.length < sizeLine ∧ (∀ u, valV kvs k = some u → Q u H) ∧ (valV kvs k = none → Q v (upd H a (.dT (putK kvs k v))))
theorem mt_sdT (hu : X.A.units + 1 < cLine) : MtR X "dict.setdefault" rSdT := by
  intro pins s σ H x xs w us Q I rx rxs h
  obtain ⟨a, b, kvs, k, v, rfl, rfl, ha, hb, hl, q1, q2⟩ := h
  cases rx
  obtain ⟨u1, u2, rfl, r1, r2⟩ := vals2 rxs
  cases r1
  obtain ⟨z, hd, xs', rel, dd⟩ := dt_of I.hok ha
  have hz : xs'.length ≤ sizeLine := by rw [← Paired.length rel]; exact z
  have r := rel.val k
  refine call_setdefault_heap (hsz := hz) (tupleKind_room_in1 hu) (key_of I.hok hb) hd dd (fun p hp => ?_) fun hn h' dd' hs => ?_
  · rw [hp] at r
    obtain ⟨v0, ev, rv⟩ : ∃ v0, valV kvs k = some v0 ∧ RelV v0 p.2 := by
      cases ev : valV kvs k with
      | none => rw [ev] at r; exact (show False from r).elim
      | some v0 => rw [ev] at r; exact ⟨v0, rfl, r⟩
    exact ⟨v0, H, I.tok _, rv, q1 v0 ev⟩
  · rw [hn] at r
    have e : valV kvs k = none := by
      cases ev : valV kvs k with
      | none => rfl
      | some v0 => rw [ev] at r; exact (show False from r).elim
    obtain ⟨o, es, ep, hq, h2, h3, h4, _, h5⟩ := dd'
    have hlp : (putK kvs k v).length ≤ sizeLine := by have := length_putK kvs k v; omega
    have I2 : Inv X pins σ (upd H a (.dT (putK kvs k v))) { s with heap := h', toks := s.toks + (tupleKind (mixKind X.prog X.w)).draws k } :=
      d_write I (by rw [ha]; exact True.intro) hs ⟨o, hq⟩ ⟨hlp, hd, _, (rel.put k hb r2).keeps (fun c ys ec => (by rw [upd_ne (ne_of ec ha (fun z => nomatch z))]; exact ec)), o, es, ep, hq, h2, h3, h4, h5⟩
    exact ⟨v, _, I2, r2, q2 e⟩
def dIfSd (i j : Nat) (t1 : TTd) (tk tv : ET) (F : STd) : STd := fun xq ρ D => t1 xq (frz ρ) fun b => if b = true then (match ρ[i]?, ρ[j]? with
  | some (.dic kvs), some (.d (.int m)) => tk xq (frz ρ) fun kk => flat kk = true ∧ ∃ k, kk = keyD k ∧ tv xq (frz ρ) fun vv => flat vv = true ∧ ∃ n : Int, vv = .int n ∧ kvs.length < 100000 ∧
    match getT kvs k with
    | some (.int u) => if u = m then D.nx ρ else F xq ρ D
    | some _ => False
    | none => if n = m then D.nx (ρ.set i (.dic (putT kvs k (.int n)))) else F xq (ρ.set i (.dic (putT kvs k (.int n)))) D
  | _, _ => False) else D.nx ρ
theorem own_cfT {xq : XQ} {σ : L2.St} {B H B1 H1 : Hp} {ρ : List EV} {i : Nat} {o : Addr} {kv ws : List (List Key × V)} {kvs es : List (List Int × PyData)} (g : Cfg X A xq σ B H ρ) (x : Ex X.K A.c B H B1 H1) (hi : ρ[i]? = some (.dic kvs)) (hs : σ[i]? = some (some (.ref o))) (h1 : H1 o = some (.dT kv)) (r : Rpk X.K A.c B1 ws es) :
    Cfg X A xq σ B1 (upd H1 o (.dT ws)) (ρ.set i (.dic es)) := by
  have g1 := g.step x
  obtain ⟨s, fp, e1, ⟨o', kv', e2, ho, hf, rr⟩, fr⟩ := g1.en.at hi
  rw [hs] at e1; cases e1; cases e2
  have f := fr o hf
  refine ⟨g1.hx, g1.ex.setT h1 f.nb f.n0, ?_⟩
  have en := g1.en.change (H' := upd H1 o (.dT ws)) (e' := .dic es) (s' := some (.ref o)) hi hs fun fp ok fr => by
    obtain ⟨o', kv', e2, h1, h2, r1⟩ := ok
    cases e2
    refine ⟨fun a => a = o, fun a z => .inl (by rw [z]; exact h2), ⟨o, _, rfl, upd_same, rfl, r⟩, fun a z => ?_, fun a u z q => by rw [upd_ne (fun w => z (by rw [w]; exact h2))]; exact q⟩
    rw [z]
    have f := fr o h2
    exact ⟨f.nb, f.nst, f.n0, _, upd_same, nofun⟩
  rwa [set_same hs] at en
theorem ds_ifSd {a e1 e2 : Expr} {x y : Str} {p ap cp kp bp pos yp : Pos} {t1 : TTd} {tk tv : ET} {F : STd} {body : List Stmt} {n : Nat} (i j : Nat) (hr : Room n X.A) (h1 : DT X A a t1) (hk : DE X A e1 tk) (hv : DE X A e2 tv) (hb : DSs X A body F)
    (hpe : PE X (.Call (.Attribute (.Name x p) "setdefault" ap) [e1, e2] [] cp) (tBM X.K "dict" rSdT (tVar i) (tCons (wE X e1) (tCons (wE X e2) tNil)))) (hy : PE X (.Name y yp) (tVar j)) :
    DS X A (.If (.BoolOp .And [a, .Compare (.Call (.Attribute (.Name x p) "setdefault" ap) [e1, e2] [] cp) [.NotEq] [.Name y yp] kp] bp) body [] pos) (dIfSd i j t1 tk tv F) := ⟨fun {xq σ B H ρ Dd D} g q l => by
  refine PSw (ps_if (ptW _) (pssW body) pss_nil) fun pins s I => ?_
  refine PWw (pw_and (ptW a) (pw_and1 (pt_cmpR op_ne hpe hy (nomark _)))) (Q := fun b H' => if b = true then wSs X body D σ H' else tNext D σ H') ?_ _ pins s I
  refine (h1.frz g q).mono fun b H1 ⟨B1, q1, x1⟩ => ?_
  have g1 := g.step x1
  cases b with
  | false =>
    refine iteF (iteF ?_)
    simp only [Bool.false_eq_true, if_false] at q1
    exact l.nx _ σ B1 H1 q1 g1.ex x1.sb g1.en
  | true =>
    refine iteT ?_
    simp only [if_true] at q1
    split at q1
    · rename_i kvs m hi hj
      obtain ⟨s', fp, es, ⟨o, kv, eo, ho, hf, rr⟩, fr⟩ := g1.en.at hi
      subst eo
      obtain ⟨vj, ej, rj⟩ := g1.en.data hj
      cases int_inv rj
      refine ⟨.ref o, es, .inr (.inr (.inl ⟨rfl, .inr ⟨kv, ho⟩⟩)), (hk.frzF g1 q1).mono fun v2 H2 ⟨kk, B2, ⟨k, ek, q2⟩, x2, rk⟩ => ?_⟩
      subst ek
      have g2 := g1.step x2
      refine (hv.frzF g2 q2).mono fun v3 H3 ⟨vv, B3, ⟨n, ev, hl, q3⟩, x3, rv⟩ => ?_
      subst ev
      cases int_inv rv
      have x23 := x2.trans x3
      have g3 := g2.step x3
      have f1 := fr o hf
      have h3 := x23.fr o _ f1.nst ho nofun
      have rr3 := rr.mono x23.sb
      obtain ⟨bk, rfl, hbk⟩ := rp_key x3.sh (rk.mono x3.sb)
      obtain ⟨r1, r2⟩ := rpk_get (k := k) rr3
      have sb : Same B B3 := x1.sb.trans x23.sb
      refine ⟨o, bk, kv, k.map Sum.inl, .int n, rfl, rfl, h3, hbk, by rw [rpk_length rr]; exact Nat.lt_of_lt_of_le hl (Nat.le_of_lt (small_line (by decide))), fun u hu => ?_, fun hu => ?_⟩
      · cases hg : getT kvs k with
        | none => rw [r2 hg] at hu; cases hu
        | some d =>
          obtain ⟨v', e1, e2⟩ := r1 d hg
          rw [hu] at e1; cases e1
          simp only [hg] at q3
          cases d with
          | int u' =>
            cases int_inv e2
            have q3 : if u' = m then Dd.nx ρ else F xq ρ Dd := q3
            refine ⟨.int m, ej, rfl, ?_⟩
            refine ⟨!decide (V.int u' = V.int m), rfl, ?_⟩
            by_cases hum : u' = m
            · subst hum
              simp only [decide_true, Bool.not_true]
              rw [if_pos rfl] at q3
              exact iteF (l.nx _ σ B3 H3 q3 g3.ex sb g3.en)
            · have e : decide (V.int u' = V.int m) = false := decide_eq_false fun z => hum (by injection z)
              rw [e]
              rw [if_neg hum] at q3
              exact iteT (hb.run g3 q3 (l.up sb))
          | _ => exact q3.elim
      · cases hg : getT kvs k with
        | some d =>
          obtain ⟨v', e1, _⟩ := r1 d hg
          rw [hu] at e1; cases e1
        | none =>
          simp only [hg] at q3
          have g4 := own_cfT g1 x23 hi es h3 (ws := putK kv (k.map Sum.inl) (.int n)) (es := putT kvs k (.int n)) (rpk_put (.int n) rr3)
          refine ⟨.int m, ej, rfl, ?_⟩
          refine ⟨!decide (V.int n = V.int m), rfl, ?_⟩
          by_cases hnm : n = m
          · subst hnm
            simp only [decide_true, Bool.not_true]
            rw [if_pos rfl] at q3
            exact iteF (l.nx _ σ B3 _ q3 g4.ex sb g4.en)
          · have e : decide (V.int n = V.int m) = false := decide_eq_false fun z => hnm (by injection z)
            rw [e]
            rw [if_neg hnm] at q3
            exact iteT (hb.run g4 q3 (l.up sb))
    · exact q1.elim⟩
end
end DL

/-! DL23: two of a deep list's lists change places. -/
namespace DL
open PySem PySem.Spec L2
/-- the items at a and b change places -/
def swapL {α : Type} (l : List α) (a b : Nat) : List α := match l[a]?, l[b]? with
  | some x, some y => (l.set a y).set b x
  | _, _ => l
def swx (a b i : Nat) : Nat := if i = b then a else if i = a then b else i
theorem swx_inj {a b i j : Nat} (h : swx a b i = swx a b j) : i = j := by
  unfold swx at h
  repeat' split at h
  all_goals omega
theorem swapL_eq {α : Type} {l : List α} {a b : Nat} (ha : a < l.length) (hb : b < l.length) : swapL l a b = (l.set a l[b]).set b l[a] := by
  unfold swapL
  rw [List.getElem?_eq_getElem ha, List.getElem?_eq_getElem hb]
theorem swapL_length {α : Type} {l : List α} {a b : Nat} : (swapL l a b).length = l.length := by
  unfold swapL
  split <;> simp
theorem swapL_get {α : Type} {l : List α} {a b i : Nat} (ha : a < l.length) (hb : b < l.length) : (swapL l a b)[i]? = l[swx a b i]? := by
  rw [swapL_eq ha hb]
  unfold swx
  by_cases h1 : i = b
  · rw [if_pos h1, h1, List.getElem?_set_self (by rw [List.length_set]; exact hb), List.getElem?_eq_getElem ha]
  · rw [if_neg h1, List.getElem?_set_ne (Ne.symm h1)]
    by_cases h2 : i = a
    · rw [if_pos h2, h2, List.getElem?_set_self ha, List.getElem?_eq_getElem hb]
    · rw [if_neg h2, List.getElem?_set_ne (Ne.symm h2)]
/-- st = x[p]; x[p] = x[q]; x[q] = st -/
def dSwap (i p q st : Nat) : STd := fun _ ρ D => ∃ n ds a b, ρ[i]? = some (.deep n ds) ∧ ρ[p]? = some (.d (.int (a : Nat))) ∧ ρ[q]? = some (.d (.int (b : Nat))) ∧ a < ds.length ∧ b < ds.length ∧ st < ρ.length ∧ D.nx ((ρ.set i (.deep n (swapL ds a b))).set st .un)
section
variable {X : Cx} {A : Act} {s1 s2 s3 : Stmt}
theorem ixN_natS {n a : Nat} (h : a < n) : ixN n (a : Int) = some a := by
  unfold ixN
  rw [if_pos (by omega), if_pos (by omega)]
  simp
theorem dss_swap (i p q st : Nat) (h1 : PS X s1 (tAsg (tOp (rIx X.K) (tVar i) (tVar p)) (gName st))) (h2 : PS X s2 (tAsg (tOp (rIx X.K) (tVar i) (tVar q)) (gSub (tVar i) (tVar p) rSetL))) (h3 : PS X s3 (tAsg (tVar st) (gSub (tVar i) (tVar q) rSetL)))
    (n1 : st ≠ i := by decide) (n2 : st ≠ p := by decide) (n3 : st ≠ q := by decide) : DSs X A [s1, s2, s3] (dSwap i p q st) := ⟨fun {xq σ B H ρ Dd D} g w l => by
  obtain ⟨n, ds, a, b, hi, hp, hq, ha, hb, hst, qn⟩ := w
  obtain ⟨o, vs, e1, q1, hl, q3, q4, q5⟩ := deep_at g hi
  obtain ⟨va, ep, rp⟩ := g.en.data hp
  obtain ⟨vb, eq, rq⟩ := g.en.data hq
  cases int_inv rp
  cases int_inv rq
  have ha' : a < vs.length := by rw [hl]; exact ha
  have hb' : b < vs.length := by rw [hl]; exact hb
  have hs : st < σ.length := by rw [g.en.len]; exact hst
  have atA : atI vs (a : Int) = some vs[a] := by
    unfold atI
    rw [ixN_natS ha']
    exact List.getElem?_eq_getElem ha'
  have atB : atI vs (b : Int) = some vs[b] := by
    unfold atI
    rw [ixN_natS hb']
    exact List.getElem?_eq_getElem hb'
  have ov : ∀ {j : Nat} {s : Option V}, st ≠ j → σ[j]? = some s → (σ.set st (some vs[a]))[j]? = some s := fun h e => by rw [List.getElem?_set_ne h]; exact e
  refine PSsw (pss_cons h1 (pss_cons h2 (pss_one h3))) ?_
  refine ⟨.ref o, e1, .int a, ep, .inl ⟨o, vs, a, vs[a], rfl, rfl, SqL.of q1, atA, ?_⟩⟩
  refine ⟨.ref o, ov n1 e1, .int b, ov n3 eq, .inl ⟨o, vs, b, vs[b], rfl, rfl, SqL.of q1, atB, ?_⟩⟩
  refine ⟨.ref o, ov n1 e1, .int a, ov n2 ep, o, vs, a, a, rfl, rfl, q1, ixN_natS ha', ?_⟩
  refine ⟨vs[a], List.getElem?_set_self hs, .ref o, ov n1 e1, .int b, ov n3 eq, o, vs.set a vs[b], b, b, rfl, rfl, upd_same, by rw [List.length_set]; exact ixN_natS hb', ?_⟩
  rw [upd_upd, ← swapL_eq ha' hb']
  have g2 := sel_nx g g.ok.refl hi e1 q1 (vs' := swapL vs a b) (ds' := swapL ds a b) (by rw [swapL_length, swapL_length, hl]) (swx a b) (fun _ _ _ _ z => swx_inj z) (fun i _ => swapL_get ha' hb') fun i _ => swapL_get ha hb
  exact l.nx _ _ B _ qn g2.ex (Same.refl _) (g2.en.setUn st _)⟩
end
end DL

/-! DL24: raise X(e), X with an __init__ of its own that calls the class above's by name. -/
namespace DL
open PySem PySem.Spec L2 PyProof.Rows
section
variable {X : Cx} {e : Expr} {es : List Expr} {ta : TA} {p1 p2 pos : Pos} {CG : Addr} {x : Str}
/-- G.__init__(self, ..), G an own class above that has ValueError's -/
theorem pe_ginit (hg : Gl X x) (hm : X.mg x = some (.ref CG)) (hr : PySem.W.readsIn X.K CG (.type "type") = true) (hs : PySem.W.specialIn X.K (.ref CG) "__getattribute__" = some (some (.builtin "type.__getattribute__"))) (vV : PySem.W.findCls X.K (.ref CG) (.type "type") "__init__" = some (.val (.builtin "ValueError.__init__"))) (ha : PA X (e :: es) ta)
    (hdb : (x == ("__debug__" : Str)) = false := by decide) {pl : Sem Bool}
    (hc : eval (.Call (.Attribute (.Name x p1) "__init__" p2) (e :: es) [] pos) X.env = (do
      let ov ← eval (.Name x p1) X.env
      standAt p2.atName
      let (f, first) ← holding [ov] (getMethod ov "__init__" pl)
      callWith pos f first (backTo pos (starEach (e :: es) X.env)) (backToKw pos (keywordEach [] X.env))) := by rfl)
    (he : starEach (e :: es) X.env = (false, eval e X.env) :: starEach es X.env := by rfl) (hpl : (backTo pos (starEach es X.env)).any (·.1) = false := by rfl) :
    PE X (.Call (.Attribute (.Name x p1) "__init__" p2) (e :: es) [] pos) (tVeI X.K ta) := by
  refine ⟨fun pins s σ H Q I h => ?_⟩
  refine PySem.W.methodCall_KW (ld_glob I hg hm ?_ hdb) hc
  refine PySem.W.method_cls I.kIn hs (PySem.W.cls_value I.kIn hr vV (by decide +kernel) ?_)
  show wpAny _ _ (callWith pos (Value.builtin "ValueError.__init__") [] (backTo pos (starEach (e :: es) X.env)) []) _ _ _
  refine PyProof.Rows.callWith_method1 (thn (ha.run pos pins _ σ H _ (I.tok _) h) fun us s1 ⟨vs, H1, I1, r1, a, C, ws, ev, hl, T, ea, q⟩ => ?_) he hpl
  subst ev
  cases r1 with
  | @cons _ u0 _ ur ra rw' =>
    obtain rfl : u0 = Value.ref a := ra
    have hlen : ur.length ≤ sizeLine := by
      rw [← Paired.length rw', sizeLine_eq]
      omega
    exact oinit_ok T I1 ea hlen fun s' J => ⟨.non, H1, J, rfl, q⟩
end
/-- X's own __init__: the reason is kept -/
def spInitX (K : PySem.W.Frag) (C : Addr) : Sp := fun vs H Q _ => ∃ (a : Addr) (v : V), vs = [.ref a, v] ∧ H a = some (exo a C none) ∧ ∀ dx, H dx = none → dx ≠ a → Q .non (upd (upd H dx (exd dx [("reason", v)])) a (exo a C (some dx)))
theorem initX_fn {P : Program} {w : World} {K : PySem.W.Frag} {mg : Str → Option Value} {base : Heap} {x qual : Str} {st : Stmt} {f : Addr} {fd : FuncData} {k : Nat} {C : Addr} (T : OexC K C) (hno : PySem.W.findIn K (.ref C) "reason" = some none) (F : Fun K x qual st f fd) (S : FnScope ["self", "reason"] ["self", "reason"] (defScope st)) {z : Str}
    (body : ∀ (cdv : Value) (A : Around) (outer : List Env) (s : Shared) (H : Hp) (E : XK), PSs (cxOf (L2.CX P w) P w K mg base ["self", "reason"] qual (defScope st) f cdv A outer s H E) (defBody st) (fun D σ H => tVeI K (tCons (tVar 0) (tCons (tC (.str z)) tNil)) σ H fun _ H => tOst K "reason" (tVar 0) (tVar 1) D σ H)) :
    FnOk P w K mg base (L2.CX P w) (k + 1) f fd ["self", "reason"] (spInitX K C) := by
  refine F.okX S (fun vs H Q E h => ?_) fun cdv A outer s H vs Q E hr h => ?_
  · obtain ⟨a, v, rfl, _⟩ := h
    rfl
  · obtain ⟨a, v, rfl, ho, fin⟩ := h
    refine ⟨_, body cdv A outer s H E, ?_⟩
    refine ⟨.ref a, rfl, a, C, [.str z], rfl, (by show 1 ≤ 1000; decide), T, ho, ?_⟩
    refine ⟨v, rfl, .ref a, rfl, a, C, rfl, T, hno, .inl ⟨ho, fun dx h1 h2 => fin dx h1 h2⟩⟩
/-- what is known of X -/
structure CalX (P : Program) (w : World) (K : PySem.W.Frag) (mg : Str → Option Value) (base : Heap) (k : Nat) (n : Str) : Prop where
  ex : ∃ C f fd j, mg n = some (.ref C) ∧ OexC K C ∧ PySem.W.findIn K (.ref C) "__init__" = some (some (.ref f)) ∧ PySem.W.typeIn K (.ref f) = some (.type "function") ∧ FnOk P w K mg base (L2.CX P w) j f fd ["self", "reason"] (spInitX K C) ∧ j + 1 ≤ k ∧ Binds K fd ["self", "reason"] []
theorem CalX.up {P : Program} {w : World} {K : PySem.W.Frag} {mg : Str → Option Value} {base : Heap} {j k : Nat} {n : Str} (c : CalX P w K mg base j n) (h : j ≤ k := by decide) : CalX P w K mg base k n :=
  let ⟨C, f, fd, i, a, b, d, e, g, r, t⟩ := c.ex; ⟨C, f, fd, i, a, b, d, e, g, Nat.le_trans r h, t⟩
def dRaiseR (n : Str) (t : ET) : STd := fun xq ρ _ => t xq ρ fun d => xq n (some d)
section
variable {X : Cx} {A : Act} {e : Expr} {te : ET} {n : Str} {p pos pos' : Pos} {k : Nat}
theorem pass_no : Passes (L2.CX X.prog X.w) X (fun _ _ _ => False) := fun _ _ _ _ _ _ _ h => (cx_false h).elim
theorem ds_raiseR (G : CalX X.prog X.w X.K X.mg X.base k n) (hr : Room k X.A) (h : DE X A e te) (tk : Takes X (fun cls d _ H => A.E cls d H)) (hc : X.calm = true) (hg : Gl X n) (hdb : (n == ("__debug__" : Str)) = false := by decide)
    (he : starEach [e] X.env = (false, eval e X.env) :: starEach [] X.env := by rfl) (hpl : (backTo pos (starEach [] X.env)).any (·.1) = false := by rfl) :
    DS X A (.Raise (some (.Call (.Name n p) [e] [] pos)) none pos') (dRaiseR n te) := ⟨fun {xq σ B H ρ Dd D} g q l => by
  obtain ⟨C, f, fd, j, gC, T, iC, tI, F, hj, hb⟩ := G.ex
  refine PSw (ps_raise hc tk (pmk_oex T iC tI F (hr.mono hj) hb .nil pass_no hg gC (pa_cons (peW e) pa_nil he) hdb he hpl)) ((h.run g q).mono fun v H1 ⟨d, B1, q1, x1, r1⟩ => ?_)
  refine ⟨(by show 1 ≤ 1000; decide), fun a ha => ⟨a, v, rfl, upd_same, fun dx h1 h2 => ⟨rfl, dx, [("reason", v)], upd_same, by rw [upd_ne h2]; exact upd_same, ?_, ?_⟩⟩⟩
  · rw [upd_ne h2] at h1; exact h1
  · rw [upd_ne h2] at h1
    have hd : ∀ b u, H1 b = some u → (upd (del (upd (upd (upd H1 a (exo a C none)) dx (exd dx [("reason", v)])) a (exo a C (some dx))) a) dx (.xd [("reason", v)])) b = some u := fun b u q => by
      rw [upd_ne (ne_of_none q h1), del_ne (ne_of_none q ha), upd_ne (ne_of_none q ha), upd_ne (ne_of_none q h1), upd_ne (ne_of_none q ha)]
      exact q
    have x2 := x1.ok.same hd
    exact g.hx.ex n (some d) q1 C gC B1 _ dx v ((g.ex.trans x1).trans x2) ((g.ex.trans x1).free (.of h1)) upd_same r1⟩
end
end DL

/-! DL25: isinstance of a caught error that has a dict; `_law_told`. -/
namespace PySem.W
open PySem PySem.Spec PySem.Calls PyProof.Rows
section
variable {prog : Program} {w : World} {A : Around} {E : Value → Shared → Prop} {s : Shared} {K : Frag} {x D : Addr} {ox od : Obj}
theorem dl_classD {Q : Option Value → Shared → Prop} (hga : findIn K (.ref D) "__getattribute__" = some (some (.builtin "BaseException.__getattribute__"))) (hgt : findIn K (.ref D) "__getattr__" = some none) (hsub : subIn K (.ref D) (.type "BaseException") = some true)
    (hdct : hasDictIn K D = true) (ha : findIn K (.ref D) "__class__" = some (some (.builtin "object.__class__")))
    (hn : specialIn K (.builtin "object.__class__") "__get__" = some (some (.builtin "getset_descriptor.__get__"))) (htk : takesIn K (.builtin "object.__class__") = some true) (hm : mroIn K D (.type "object") = some true)
    (X : K.In s.heap) (I : InstAt s.heap x ox D (some od)) (h : Q (some (.ref D)) { s with toks := s.toks + 1 }) : wpAny (model prog w) A (getAttr? (.ref x) "__class__") Q E s := by
  have hf : findObj K D (some od) "__class__" = some (.bind (.builtin "getset_descriptor.__get__") (.builtin "object.__class__")) := findObj_data (by obtain ⟨cd, hc, _⟩ := any_some hdct; rw [hc]; rfl) ha hn htk
  obtain ⟨hp, g, d, t, os⟩ := s
  have L0 := I.type (M := model prog w)
  have L1 := looks_findIn (M := model prog w) X hga
  have L2 := looks_findIn (M := model prog w) X hgt
  have L3 := looks_find (M := model prog w) X I hf
  have sub : Looks (model prog w) hp (isInstance (.ref x) (.type "BaseException")) true := L0.andThen (looks_subIn X hsub)
  have hx0 : (false && onTheHeap (Value.builtin "BaseException.__getattribute__")) = false := rfl
  have hx2 : (Value.builtin "BaseException.__getattribute__" == Value.builtin "object.__getattribute__") = false := by decide +kernel
  have hx1 : (onTheHeap (Value.ref D) && Value.builtin "BaseException.__getattribute__" == Value.builtin "object.__getattribute__") = false := by rw [hx2]; rfl
  unfold getAttr? getAttrBy? getAttrBy
  refine wpAny_bind (wpAny_mkText (wpAny_bind (wpAny_attempt (wpAny_holding (wpAny_bind (L0.at (wpAny_bind (L1.at ?_))))))))
  show wpAny _ _ (if (onTheHeap (Value.ref D) && Value.builtin "BaseException.__getattribute__" == Value.builtin "object.__getattribute__") = true then _ else _) _ _ _
  rw [hx1, if_neg Bool.false_ne_true]
  unfold getAttrByItsOwn hookBefore
  refine wpAny_bind ?_
  rw [if_pos (show onTheHeap (Value.ref D) = true from rfl)]
  refine L2.at ?_
  refine wpAny_bind (wpAny_attempt (wpAny_holding ?_))
  unfold callGetattribute
  rw [hx0, if_neg Bool.false_ne_true]
  unfold boundAndCalled
  rw [PySem.F.excAttr_ValueError.ga.bind (.ref x)]
  refine wpAny_bind (wpAny_pure ?_)
  show wpAny _ _ (call (.builtin "BaseException.__getattribute__") [.ref x, .str "__class__" t]) _ _ _
  refine wpAny_call (codeAny_call_builtin PySem.F.excAttr_ValueError.ga.plain PySem.F.entry_bexc_ga ?_)
  refine @check_slot (model prog w) _ _ ⟨hp, g, d, t + 1, os⟩ "BaseException.__getattribute__" "BaseException" "__getattribute__" (.ref x) [.str "__class__" t] [] _ (by decide +kernel) (by decide +kernel) sub (PySem.F.args_bexc_ga (.ref x) (.str "__class__" t)) ?_
  unfold Builtin.«object.__getattribute__»
  refine wpAny_bind (wpAny_of_eq (a := ((Value.ref x : Value), [Value.str "__class__" t])) (by first | rfl | (simp only [slotArgs]; rfl)) ?_)
  refine wpAny_bind (wpAny_pure (wpAny_bind (L0.at (wpAny_bind (L3.at ?_)))))
  show wpAny _ _ (holding [Value.builtin "object.__class__"] (call (.builtin "getset_descriptor.__get__") [.builtin "object.__class__", .ref x, .ref D]) >>= ret) _ _ _
  refine wpAny_bind (wpAny_holding (wpAny_call (class_get (s := ⟨hp, g, d, t + 1, os⟩) (ox := ox) (od := some od) X I hm ?_)))
  refine wpAny_pure ?_
  show wpAny _ _ (handedOut (.ref D)) _ _ _
  rw [handedOut_of (v := .ref D) rfl]
  first
    | exact wpAny_pure (wpAny_pure h)
    | exact wpAny_pure h
    | exact wpAny_pure (wpAny_bind (wpAny_pure (wpAny_pure h)))
theorem dl_kitx_excD (hga : findIn K (.ref D) "__getattribute__" = some (some (.builtin "BaseException.__getattribute__"))) (hgt : findIn K (.ref D) "__getattr__" = some none) (hsub : subIn K (.ref D) (.type "BaseException") = some true) (hdct : hasDictIn K D = true) (ha : findIn K (.ref D) "__class__" = some (some (.builtin "object.__class__")))
    (hn : specialIn K (.builtin "object.__class__") "__get__" = some (some (.builtin "getset_descriptor.__get__"))) (htk : takesIn K (.builtin "object.__class__") = some true) (hm : mroIn K D (.type "object") = some true) :
    KitX K (.ref x) (.ref D) (fun h => InstAt h x ox D (some od)) where
  ty := fun _ _ _ I => I.type
  it := fun _ _ X _ => by
    obtain ⟨cdD, hcD, _⟩ := any_some hdct
    unfold clsIn at hcD
    split at hcD
    · rename_i c' d' cd' sl' ho
      intro A' Q' E' s' k q
      unfold isType loadHead
      exact wpAny_bind (wpAny_loadPart (k _ _ (X _ _ ho)) (wpAny_pure q))
    · cases hcD
  ne := fun h tp dd its n sl X htp => by
    obtain ⟨cdD, hcD, _⟩ := any_some hdct
    refine Bool.eq_false_iff.mpr fun q => ?_
    have e : D = tp := Value.ref.inj (beq_iff_eq.mp q)
    subst e
    unfold clsIn at hcD
    split at hcD
    · rename_i c' d' cd' sl' ho
      have z := (X _ _ ho).symm.trans htp
      cases z
    · cases hcD
  ca := fun X I k => dl_classD hga hgt hsub hdct ha hn htk hm X I k
end
end PySem.W
namespace DL
open PySem PySem.Spec L2 PyProof.Rows
/-- isinstance(e, c) or isinstance(e, (c1, ..)), e the exception that the suite holds, its dict at dd -/
def rIsD (K : PySem.W.Frag) (D a dd : Addr) : List V → Hp → VK → Prop := fun xs H Q => (∃ fs, H dd = some (.xd fs)) ∧ ∃ (c : V) (b : Bool), xs = [.ref a, c] ∧ ((∃ cv, (∀ u, RelV c u → u = cv) ∧ PySem.W.kitOne K (.ref D) cv = some b) ∨ ∃ tp cs, c = .ref tp ∧ H tp = some (.tup cs) ∧ ∀ its, Vals cs its → PySem.W.kitAny K (.ref D) its = some b) ∧ Q (.bl b) H
theorem call_isD {X : Cx} {a D dd : Addr} {oe : Obj} {pn : List (Addr × Obj)} (C : ExcC X.K D) (hz : Zc (.ref D) (some dd) oe) (hf : ∃ vs, oe.data = .fields vs) : CallR (X.suite a ((a, oe) :: pn)) (.builtin "isinstance") (rIsD X.K D a dd) := by
  intro pins s σ H xs us Q I r h
  obtain ⟨⟨fs, hd⟩, c, b, rfl, e, q⟩ := h
  cases r with
  | cons rx rr =>
    cases rr with
    | cons rt rr =>
      cases rr
      cases rx
      obtain ⟨hget, _⟩ := I.pin (a, oe) (List.mem_append.mpr (.inl List.mem_cons_self))
      obtain ⟨vs, hv⟩ := hf
      have hx : ObjOk X.prog X.w H s.heap dd (.xd fs) := I.hok dd _ hd
      obtain ⟨mA, hns, hr⟩ := hx
      obtain ⟨od, ho, hl⟩ := lookIn_ns hns
      have J : PySem.W.InstAt s.heap a oe D (some od) := ⟨hget, hz.1, by unfold PySem.W.notCls; rw [hv] <;> rfl, by rw [hz.2]; exact ho⟩
      have Z := PySem.W.dl_kitx_excD (x := a) (ox := oe) (od := od) C.hg C.hk C.hs C.hd C.ha C.hn C.ht C.hm
      have fin : ∀ tk, ∃ v H', Inv (X.suite a ((a, oe) :: pn)) pins σ H' { s with toks := tk } ∧ RelV v (.bool b) ∧ Q v H' := fun tk => ⟨.bl b, H, I.kept (t' := tk) fun _ _ z => z, rfl, q⟩
      rcases e with ⟨cv, hcv, e⟩ | ⟨tp, cs, rfl, ht, e⟩
      · have ec := hcv _ rt
        subst ec
        exact PySem.W.kia_one Z I.kIn J e (fun z => nomatch z) fin
      · cases rt
        obtain ⟨its, rv, ⟨⟨cls, d2, data, sl⟩, hto, hc, n, hdt⟩, hlen⟩ := I.tuple (SqT.of ht)
        simp only at hc hdt
        subst hc hdt
        exact PySem.W.kia_tup Z I.kIn J hto (e _ rv) (fun z => nomatch z) fin
/-- the error that `_law_told` tells apart -/
structure NoSchC (K : PySem.W.Frag) (mg : Str → Option Value) (C : Addr) : Prop where
  e : ExcC K C
  xf : XfC K C
  nr : PySem.W.findIn K (.ref C) "reason" = some none
  v : PySem.W.kitOne K (.ref C) (.type "ValueError") = some true
  me : PySem.W.kitOne K (.ref C) (.ref C) = some true
  gr : ∀ CG, mg "GridError" = some (.ref CG) → PySem.W.exmOne K (.ref C) (.ref CG) = some true
structure ToldF (K : PySem.W.Frag) (mg : Str → Option Value) : Prop where
  ex : ∃ (C CG C0 C1 C2 C3 C4 C5 : Addr), mg "NoSchedule" = some (.ref C) ∧ mg "GridError" = some (.ref CG) ∧ mg "isinstance" = none ∧ mg "ValueError" = none ∧ mg "NoNet" = some (.ref C0) ∧ mg "NoFeed" = some (.ref C1) ∧ mg "NoCount" = some (.ref C2) ∧ mg "NoTable" = some (.ref C3) ∧ mg "NoFault" = some (.ref C4) ∧ mg "NoText" = some (.ref C5) ∧
    NoSchC K mg C ∧ PySem.W.kitAny K (.ref C) [.ref C0, .ref C1, .ref C2, .ref C3, .ref C4, .ref C5] = some false
def dTold (F : ET) : STd := fun _ ρ D => F (fun n r => n = "NoSchedule" ∧ ∃ d, r = some d ∧ D.rt (.ret (.tuple [.str "refused", d]))) (onlyD ρ) fun d => D.rt (.ret d)
theorem vals_refs : ∀ {cs : List Addr} {its : List Value}, Vals (cs.map V.ref) its → its = cs.map Value.ref
  | [], _, .nil => rfl
  | _ :: cs, _, .cons r t => by
    have e := vals_refs (cs := cs) t
    cases (show _ = Value.ref _ from r)
    rw [e]
    rfl
section
variable {X : Cx} {A : Act} {F : ET} {eT : Expr}
theorem ds_told {j1 j2 k1 k2 k3 : Nat} {p1 p2 p3 p4 p5 p6 p7 p8 p9 p10 p11 p12 p13 p14 p15 p16 p17 p18 p19 p20 p21 p22 p23 p24 p25 p26 p27 p28 p29 p30 p31 p32 p33 p34 p35 p36 p37 p38 : Pos} (tf : ToldF X.K X.mg) (hs : X.stack = X.env :: X.outer) (hfr : X.env.frame = some X.env.locals) (hN : X.N.Nodup) (hl : X.N.length = 6) (hi : X.N[4]? = some ("e" : Str)) (hi5 : X.N[5]? = some ("_law_other" : Str)) (hln : X.env.kindOf "e" = some .local)
    (hv4 : Vis X.env.scope "e") (hv5 : Loc X.env.scope "_law_other") (hv5' : Vis X.env.scope "_law_other") (hf5 : X.env.scope.names.lookup ("_law_other" : Str) = some NameKind.local) (hg : ∀ n ∈ (["isinstance", "ValueError", "NoNet", "NoFeed", "NoCount", "NoTable", "NoFault", "NoText", "NoSchedule", "GridError"] : List Str), Gl X n)
    (hb : ∀ (pn : List (Addr × Obj)) (xe : Value → Shared → Prop) (E : XK) (B0 H0 : Hp), Passes (L2.CX (X.tr pn xe).prog (X.tr pn xe).w) (X.tr pn xe) E → DE (X.tr pn xe) ⟨A.c, B0, H0, E⟩ eT F) :
    DS X A (.Try [.Return (some eT) p1] [.ExceptHandler (some (.Name "GridError" p2)) (some "e") [
      .Assign [.Name "_law_other" p3] (.BoolOp .Or [.Call (.Name "isinstance" p4) [.Name "e" p5, .Tuple [.Name "NoNet" p6, .Name "NoFeed" p7, .Name "NoCount" p8, .Name "NoTable" p9, .Name "NoFault" p10, .Name "NoText" p11] k1 p12] [] p13,
        .UnaryOp .Not (.Call (.Name "isinstance" p14) [.Name "e" p15, .Name "ValueError" p16] [] p17) p18] p19) p20,
      .Return (some (.IfExp (.BoolOp .And [.Call (.Name "isinstance" p21) [.Name "e" p22, .Name "NoSchedule" p23] [] p24, .UnaryOp .Not (.Name "_law_other" p25) p26] p27)
        (.Tuple [.Constant (.str "refused") j1 p28, .Attribute (.Name "e" p29) "reason" p30] k2 p31) (.Tuple [.Constant (.str "other") j2 p32, .Constant .none 0 p33] k3 p34) p35)) p36] p37] [] [] p38) (dTold F) := ⟨fun {xq σ B H ρ Dd D} g q l => by
  obtain ⟨C, CG, C0, C1, C2, C3, C4, C5, mC, mG, n_isi, n_ve, g0, g1, g2, g3, g4, g5, kc, kany⟩ := tf.ex
  refine PSw (ps_try_as (X := X) (i := 4) (c := .ref CG) (Wout := fun _ _ _ _ => False)
      (tb := fun W D σ H => ∃ Ech : XK, (∀ cls d σ' H', Ech cls d H' → W cls d σ' H') ∧ ∀ pn xe, Takes (X.tr pn xe) W → wE (X.tr pn xe) eT σ H fun v H' => D.rt v H')
      (ts := fun a cls d D σ H => ∃ dx v, cls = .ref C ∧ d = some dx ∧ H dx = some (.xd [("reason", v)]) ∧ (∃ σ0 : L2.St, σ = σ0.set 4 (some (.ref a))) ∧ ∀ q cs p, H q = none → (upd H q (.tup cs)) p = none → D.rt (.ref p) (upd (upd H q (.tup cs)) p (.tup [.str "refused", v])))
      hs hfr hN hi hln ⟨hg "GridError" (by decide +kernel), by decide, .inl mG⟩ LamX.takes0 (fun W pn xe tk _ => ?_) (fun a oe cls d pn hz hf => ?_)) ?_
  · refine ⟨fun pins s' σ H' D I h' => ?_⟩
    obtain ⟨Ech, hW, h1⟩ := h'
    exact (pss_one (ps_ret (peW _))).run pins s' σ H' D I (h1 pn xe tk)
  · refine ⟨fun pins s' σ H' D I h' => ?_⟩
    obtain ⟨dx, v, rfl, rfl, hd, ⟨σ0, rfl⟩, hq⟩ := h'
    have hl6 : (σ0.set 4 (some (V.ref a))).length = 6 := by rw [← hl]; exact I.len
    rw [List.length_set] at hl6
    obtain ⟨u0, u1, u2, u3, u4, u5, rfl⟩ : ∃ u0 u1 u2 u3 u4 u5, σ0 = [u0, u1, u2, u3, u4, u5] := by
      match σ0, hl6 with
      | [u0, u1, u2, u3, u4, u5], _ => exact ⟨_, _, _, _, _, _, rfl⟩
    have hG : ∀ (n : Str), n ∈ (["isinstance", "ValueError", "NoNet", "NoFeed", "NoCount", "NoTable", "NoFault", "NoText", "NoSchedule", "GridError"] : List Str) → Gl (X.suite a ((a, oe) :: pn)) n := hg
    have v4 : ∀ {p : Pos}, PE (X.suite a ((a, oe) :: pn)) (.Name "e" p) (tVar 4) := fun {p} => pe_var (X := X.suite a ((a, oe) :: pn)) hi hv4 (by decide +kernel) (by decide +kernel)
    have v5 : ∀ {p : Pos}, PE (X.suite a ((a, oe) :: pn)) (.Name "_law_other" p) (tVar 5) := fun {p} => pe_var (X := X.suite a ((a, oe) :: pn)) hi5 hv5' (by decide +kernel) (by decide +kernel)
    refine (fun (h : ∃ t, PSs _ _ t ∧ t D _ H') => let ⟨t, h1, h2⟩ := h; h1.run pins s' _ H' D I h2) ?_
    refine ⟨_, pss_cons (ps_set (i := 5) hN hi5 hv5 (pe_or (pe_callB (call_isD kc.e hz hf) (hG _ (by decide +kernel)) n_isi PyProof.Rows.boot_isinstance (pa_cons v4 (pa_cons (pe_tup (pa_cons (pe_glob (v := .ref _) (hG _ (by decide +kernel)) g0 rfl) (pa_cons (pe_glob (v := .ref _) (hG _ (by decide +kernel)) g1 rfl) (pa_cons (pe_glob (v := .ref _) (hG _ (by decide +kernel)) g2 rfl) (pa_cons (pe_glob (v := .ref _) (hG _ (by decide +kernel)) g3 rfl) (pa_cons (pe_glob (v := .ref _) (hG _ (by decide +kernel)) g4 rfl) (pa_cons (pe_glob (v := .ref _) (hG _ (by decide +kernel)) g5 rfl) pa_nil))))))) pa_nil)))
        (pe_one (pe_not (pe_callB (call_isD kc.e hz hf) (hG _ (by decide +kernel)) n_isi PyProof.Rows.boot_isinstance (pa_cons v4 (pa_cons (pe_bltn (v := .ty "ValueError") (u := .type "ValueError") (hG _ (by decide +kernel)) n_ve (by decide +kernel) rfl) pa_nil)))))) (hf := .inr hf5))
      (pss_one (ps_ret (pe_ifExp (PW.pt (pw_and (pt_val (pe_callB (call_isD kc.e hz hf) (hG _ (by decide +kernel)) n_isi PyProof.Rows.boot_isinstance (pa_cons v4 (pa_cons (pe_glob (v := .ref _) (hG _ (by decide +kernel)) mC rfl) pa_nil)))) (pw_and1 (pt_not (pt_val v5)))))
        (pe_tup (pa_cons pe_str (pa_cons (pe_xf kc.xf kc.nr hz hf v4) pa_nil))) (pe_tup (pa_cons pe_str (pa_cons pe_non pa_nil)))))), ?_⟩
    have sz : ∀ n : Nat, n ≤ 7 → n ≤ sizeLine := fun n h => Nat.le_trans h (by decide)
    refine ⟨.ref a, rfl, sz 6 (by decide), fun q1 n1 => ?_⟩
    have hd1 : (upd H' q1 (.tup [V.ref C0, V.ref C1, V.ref C2, V.ref C3, V.ref C4, V.ref C5])) dx = some (.xd [("reason", v)]) := by rw [upd_ne (ne_of_none hd n1)]; exact hd
    refine ⟨⟨_, hd1⟩, .ref q1, false, rfl, .inr ⟨q1, _, rfl, upd_same, fun its r => ?_⟩, ?_⟩
    · have e := vals_refs (cs := [C0, C1, C2, C3, C4, C5]) r
      rw [e]
      exact kany
    refine ⟨false, rfl, ?_⟩
    refine iteF ?_
    refine ⟨.ref a, rfl, ⟨_, hd1⟩, .ty "ValueError", true, rfl, .inl ⟨.type "ValueError", fun u r => r, kc.v⟩, ?_⟩
    refine ⟨true, rfl, ?_⟩
    refine ⟨.ref a, rfl, ⟨_, hd1⟩, .ref C, true, rfl, .inl ⟨.ref C, fun u r => r, kc.me⟩, ?_⟩
    refine ⟨true, rfl, ?_⟩
    refine iteT ?_
    refine ⟨.bl false, rfl, false, rfl, ?_⟩
    refine iteT ?_
    exact ⟨.ref a, rfl, rfl, rfl, dx, _, v, rfl, hd1, by simp [List.lookup], sz 2 (by decide), fun p n2 => hq q1 _ p n1 n2⟩
  · have g1 : ∀ (pn : List (Addr × Obj)) (xe : Value → Shared → Prop) (Ech : XK), (∀ dx v B' H' d, Ex X.K A.c B H B' H' → Fre H dx → H' dx = some (.xd [("reason", v)]) → Rp X.K A.c B' v d → Dd.rt (.ret (.tuple [.str "refused", d])) → Ech (.ref C) (some dx) H') →
        Cfg (X.tr pn xe) ⟨A.c, B, H, Ech⟩ (fun n r => n = "NoSchedule" ∧ ∃ d, r = some d ∧ Dd.rt (.ret (.tuple [.str "refused", d]))) σ B H (onlyD ρ) := fun pn xe Ech hE =>
      ⟨⟨fun n r ⟨en, d, er, hd⟩ => by
        subst en er
        intro C' mC' B' H' dx v x2 hn hx hr
        have : C' = C := by
          have mC'' : X.mg "NoSchedule" = some (.ref C') := mC'
          rw [mC] at mC''
          cases mC''
          rfl
        subst this
        exact hE dx v B' H' d x2 hn hx hr hd, g.hx.hall⟩, g.ok.refl, env_only g.en⟩
    refine ⟨fun cls d H' => ∃ dx v B' dd, cls = .ref C ∧ d = some dx ∧ Ex X.K A.c B H B' H' ∧ Fre H dx ∧ H' dx = some (.xd [("reason", v)]) ∧ Rp X.K A.c B' v dd ∧ Dd.rt (.ret (.tuple [.str "refused", dd])), (show ∀ {P Q : Prop}, P → (P → Q) → P ∧ Q from fun a b => ⟨a, b a⟩) (fun cls d σ' H' h' => ?_) fun hW pn xe tk => ?_⟩
    · obtain ⟨dx, v, B', dd, rfl, rfl, x2, hn, hx, hr, hq⟩ := h'
      refine ⟨true, kc.gr CG mG, fun _ a _ => ⟨dx, v, rfl, rfl, hx, ⟨σ', rfl⟩, fun q1 cs p h1 h2 => ?_⟩, fun z => nomatch z⟩
      have x3 := x2.trans (x2.ok.newOwn (x := .tup cs) h1)
      exact l.rt _ _ _ _ hq (g.ex.trans (x3.trans (x3.ok.new h2))) (x3.ok.tup h2 (.cons (.str _) (.cons hr .nil)))
    · refine ((hb pn xe _ B H (passes_call tk hW)).run (g1 pn xe _ fun dx v B' H' d x hn hx hr hd => ⟨dx, v, B', d, rfl, rfl, x, hn, hx, hr, hd⟩) q).mono fun v H' ⟨d, B', qd, x, r⟩ => ?_
      exact l.rt _ _ _ _ qd (g.ex.trans x) r⟩
end
end DL

/-! DL26: closures as things of one's own: made, kept in a list, called by `_law_kind` within a comprehension. -/
namespace LamX
open PySem PySem.Spec PyProof.Rows L2
/-- the closure at f -/
def CloO (f : Addr) (ob : Obj) : HO := .ext fun h => h.get? f = some ob
theorem cloO_ne {f : Addr} {ob : Obj} (ps : Array Value) : CloO f ob ≠ .tbl ps := fun z => by
  have z' : HO.ext _ = HO.tbl ps := z
  cases z'
theorem cloO_ok {P : Program} {w : World} {H : Hp} {h : Heap} {f : Addr} {ob : Obj} (e : h.get? f = some ob) : ObjOk P w H h f (CloO f ob) :=
  ⟨e, ⟨_, e⟩, fun h1 h2 z k => k _ z⟩
theorem cloO_at {P : Program} {w : World} {H : Hp} {h : Heap} {f : Addr} {ob : Obj} (hok : HOk P w H h) (e : H f = some (CloO f ob)) : h.get? f = some ob := by
  have x : ObjOk P w H h f (.ext fun h => h.get? f = some ob) := hok f _ e
  exact x.1
section
variable {X : Cx} {pins : List (Addr × Obj)} {σ : L2.St} {H : Hp} {s : Shared}
/-- the lambda is made, and known from then on -/
theorem lam_make3 {T : List (Addr × Str)} {c P : Addr} {params : Arguments} {body : Expr} {scope : Scope} {pos : Pos} {E : Value → Shared → Prop} {Q : Value → Shared → Prop} (I : Inv X pins σ H s) (TB : TabB X.base X.mg c P) (hcode : X.env.code = .ref c)
    (hm : (P, X.env.qual ++ "<lambda>") ∈ T) (hu : ∀ p ∈ T, p.1 = P → p.2 = X.env.qual ++ "<lambda>") (hT : Tabs T H) (hdef : defaultsOf params X.env = ([], [])) (hfree : ∀ y ∈ scope.names, y.2 = .free → ∃ c, X.env.cells.lookup y.1 = some c)
    (h : ∀ (f c' : Addr) (pm ctv : Value) (H1 : Hp) (s' : Shared), Inv X pins σ H1 s' → ExtN H H1 → Tabs T H1 → H f = none →
      H1 f = some (CloO f (PySem.W.kla_obj "<lambda>" (X.env.qual ++ "<lambda>") params body scope (cloFrom X.env.cells scope.names []) pm c' ctv)) → H1 c' = some (CodeO c' (X.env.qual ++ "<lambda>")) → Q (.ref f) s') :
    wpAny (model X.prog X.w) X.A (eval (.Lambda params body scope pos) X.env) Q E s := by
  obtain ⟨ps, hP, ht, ha⟩ := hT _ hm
  refine PySem.W.kla_eval hdef ?_
  have bP : s.heap.BuiltinsAt X.mg P := TB.bm.keeps I.bk
  have hP' : s.heap.get? P = some { cls := .none, data := .fields ps } := I.hok P _ hP
  cases hc : codeAmong pos ps.toList with
  | none =>
    refine PySem.W.kla_makeFunction (mg := X.mg) (c := c) (P := P) (ps := ps) (closure_ok hfree) I.ok.glob (I.mod.glob.keeps I.bk) hcode (TB.code.keeps I.bk) hP' ht hc TB.gP bP fun c' ctv h' tk hx hge hlt hrec htb => ?_
    obtain ⟨c2, oc, vs, t, e2, hoc, hd, hv⟩ := hrec
    cases e2
    have hsz : s.heap.objs.size ≤ h'.objs.size := Nat.le_trans hge (Nat.le_of_lt hlt)
    have nC : H c' = none := I.hok.fresh hge
    have I0 := inv_table (t' := tk) (more := #[rawInt pos.line, rawInt pos.col, .ref c']) (h' := h') I hP hx htb hge ⟨oc, vs, t, hoc, hd, hv⟩
    have hnF : (upd (upd H P (.tbl (ps ++ #[rawInt pos.line, rawInt pos.col, .ref c']))) c' (CodeO c' (X.env.qual ++ "<lambda>"))) h'.objs.size = none := I0.hok.fresh (Nat.le_refl _)
    have I1 := I0.laid (t' := tk) (a := h'.objs.size) (o := CloO h'.objs.size (PySem.W.kla_obj "<lambda>" (X.env.qual ++ "<lambda>") params body scope (cloFrom X.env.cells scope.names []) ((X.mg "__name__").getD .none) c' ctv)) (h' := h'.push (PySem.W.kla_obj "<lambda>" (X.env.qual ++ "<lambda>") params body scope (cloFrom X.env.cells scope.names []) ((X.mg "__name__").getD .none) c' ctv)) (fun b o e => Heap.get?_push_of_some _ e) (Nat.le_refl _) (cloO_ok (Heap.get?_push_size _ rfl))
    have hnH : H h'.objs.size = none := I.hok.fresh hsz
    have hE : ExtN H (upd (upd (upd H P (.tbl (ps ++ #[rawInt pos.line, rawInt pos.col, .ref c']))) c' (CodeO c' (X.env.qual ++ "<lambda>"))) h'.objs.size (CloO h'.objs.size (PySem.W.kla_obj "<lambda>" (X.env.qual ++ "<lambda>") params body scope (cloFrom X.env.cells scope.names []) ((X.mg "__name__").getD .none) c' ctv))) := fun b o e n => by
      rw [upd_ne (ne_of_none e hnH), upd_ne (ne_of_none e nC), upd_ne (fun z => n ps (Option.some.inj (e.symm.trans (by rw [z]; exact hP))))]
      exact e
    have nPF : P ≠ h'.objs.size := ne_of_none hP hnH
    have ncF : c' ≠ h'.objs.size := Nat.ne_of_lt hlt
    have eL : (ps ++ #[rawInt pos.line, rawInt pos.col, .ref c']).toList = ps.toList ++ [rawInt pos.line, rawInt pos.col, .ref c'] := by simp
    refine h h'.objs.size c' ((X.mg "__name__").getD .none) ctv _ _ I1 hE (fun p hp => ?_) hnH upd_same (by rw [upd_ne ncF, upd_same])
    · by_cases hb : p.1 = P
      · rw [hu p hp hb, hb]
        refine ⟨_, by rw [upd_ne nPF, upd_ne (ne_of_none hP nC), upd_same], by rw [eL]; exact PySem.TriplesOk_snoc _ _ _ _ ht, fun p' cv hcv => ?_⟩
        rw [eL] at hcv
        rcases among_app _ ht hcv with z | z
        · obtain ⟨c0, e1, e2⟩ := ha p' cv z
          exact ⟨c0, e1, hE _ _ e2 codeO_ne⟩
        · exact ⟨c', z, by rw [upd_ne ncF, upd_same]⟩
      · obtain ⟨ps', a1, a2, a3⟩ := hT p hp
        refine ⟨ps', by rw [upd_ne (ne_of_none a1 hnH), upd_ne (ne_of_none a1 nC), upd_ne hb]; exact a1, a2, fun p' cv hcv => ?_⟩
        obtain ⟨c0, e1, e2⟩ := a3 p' cv hcv
        exact ⟨c0, e1, hE _ _ e2 codeO_ne⟩
  | some cv =>
    obtain ⟨c', e, hco⟩ := ha pos cv hc
    subst e
    refine PySem.W.kla_makeFunctionHit (mg := X.mg) (c := c) (P := P) (ps := ps) (closure_ok hfree) I.ok.glob (I.mod.glob.keeps I.bk) hcode (TB.code.keeps I.bk) hP' ht hc bP fun ctv h' tk hx hsz => ?_
    have I0 : Inv X pins σ H { s with heap := h', toks := tk } := I.kept fun b o e => hx b o e
    have hnH : H h'.objs.size = none := I0.hok.fresh (Nat.le_refl _)
    have I1 := I0.laid (t' := tk) (a := h'.objs.size) (o := CloO h'.objs.size (PySem.W.kla_obj "<lambda>" (X.env.qual ++ "<lambda>") params body scope (cloFrom X.env.cells scope.names []) ((X.mg "__name__").getD .none) c' ctv)) (h' := h'.push (PySem.W.kla_obj "<lambda>" (X.env.qual ++ "<lambda>") params body scope (cloFrom X.env.cells scope.names []) ((X.mg "__name__").getD .none) c' ctv)) (fun b o e => Heap.get?_push_of_some _ e) (Nat.le_refl _) (cloO_ok (Heap.get?_push_size _ rfl))
    have sm : ∀ b o, H b = some o → (upd H h'.objs.size (CloO h'.objs.size (PySem.W.kla_obj "<lambda>" (X.env.qual ++ "<lambda>") params body scope (cloFrom X.env.cells scope.names []) ((X.mg "__name__").getD .none) c' ctv))) b = some o := fun b o e => by rw [upd_ne (ne_of_none e hnH)]; exact e
    exact h h'.objs.size c' ((X.mg "__name__").getD .none) ctv _ _ I1 (ExtN.of sm) (hT.ext sm) hnH upd_same (sm _ _ hco)
end
section
variable {X : Cx} {pins : List (Addr × Obj)} {σ : L2.St} {H HZ : Hp} {s s1 : Shared}
/-- x(), the closure tracked -/
theorem pe_act3 {CXg : CXT} {Eg : XK} {Ng : List Str} {qg : Str} {sg : Scope} {g f c' : Addr} {cdg pm ctv : Value} {params : Arguments} {body : Expr} {scope : Scope} {k i : Nat} {a : Str} {pn : List (Addr × Obj)} {xe : Value → Shared → Prop} {W : WX} {E : XK} {tb : TE} {p1 p2 : Pos}
    (I : Inv X pins σ H s) (L : LamS X.env.scope scope) 
    (hbind : bindArgs (PySem.W.kla_fn "<lambda>" (X.env.qual ++ "<lambda>") params body scope (cloFrom X.env.cells scope.names []) pm (.ref c') ctv) ⟨[], []⟩ = pure [])
    (tk : Takes ((cxOf CXg X.prog X.w X.K X.mg X.base Ng qg sg g cdg X.A X.stack s H Eg).tr pn xe) W) (hW : ∀ cls d σ' H', E cls d H' → W cls d σ' H') (hr : Room (k + 1) (X.A.deeper (envOfC qg sg s.heap.objs.size g cdg)))
    (hbody : ∀ (A : Around) (outer : List Env) (s : Shared) (H : Hp), Room k (A.deeper (lamEnv X scope s.heap.objs.size f c')) → PE (lamCx X A outer s H E scope f c') body tb)
    (hN : Ng[i]? = some a) (hv : Vis sg a) (hd : (a == ("__debug__" : Str)) = false := by decide) (hcd : (a == ("__classdict__" : Str)) = false := by decide) :
    PE ((cxOf CXg X.prog X.w X.K X.mg X.base Ng qg sg g cdg X.A X.stack s H Eg).tr pn xe) (.Call (.Name a p1) [] [] p2)
      (fun σZ HZ Q => σZ[i]? = some (some (.ref f)) ∧ HZ c' = some (CodeO c' (X.env.qual ++ "<lambda>")) ∧ HZ f = some (CloO f (PySem.W.kla_obj "<lambda>" (X.env.qual ++ "<lambda>") params body scope (cloFrom X.env.cells scope.names []) pm c' ctv)) ∧ tb σ HZ Q) := by
  refine ⟨fun pinsZ sZ σZ HZ Q IZ h => ?_⟩
  obtain ⟨hs, hc, hF, ht⟩ := h
  refine wpAny_Call_Name_kw (thn ((pe_var (pos := p1) (i := i) hN hv hd hcd).run pinsZ sZ σZ HZ (fun v H1 => v = .ref f ∧ H1 = HZ) IZ ⟨.ref f, hs, rfl, rfl⟩) fun u s1 ⟨v, H1, I1, r1, q1⟩ => ?_)
  obtain ⟨ev, eH⟩ := q1
  subst ev
  rw [eH] at I1
  obtain rfl : u = Value.ref f := r1
  have of1 : s1.heap.get? f = some (PySem.W.kla_obj "<lambda>" (X.env.qual ++ "<lambda>") params body scope (cloFrom X.env.cells scope.names []) pm c' ctv) := cloO_at I1.hok hF
  refine PySem.W.callWith_F0 ⟨_, _, _, _, of1⟩ ?_
  have un : Un (frs X.stack) [] H HZ s.heap s1.heap := I1.base
  obtain ⟨⟨oc, vs, t, hoc, hdc, hvc⟩, _, _⟩ := I1.hok c' _ hc
  have rc : codeAny (model X.prog X.w) (X.A.deeper (envOfC qg sg s.heap.objs.size g cdg)) (.call (.ref f) ⟨[], []⟩) (CR (L2.CX X.prog X.w) (envOfC qg sg s.heap.objs.size g cdg :: X.stack) X.prog X.w HZ s1 Q E) s1 := by
    refine PySem.W.kla_callFunE hr.depth of1 rfl L.co L.gen rfl ⟨c', oc, vs, t, rfl, hoc, hdc, hvc⟩ ?_
    rw [hbind]
    refine wpAny_pure (wpAny_newFunctionEnv (fun y hy => (L.own y hy).2) (fun y hy => absurd hy (by simp)) (fun h₁ hns hsb => ⟨I1.nolimit.fresh _ hsb, ?_⟩) L.kind)
    show codeAny _ _ (.expr body (lamEnv X scope s1.heap.objs.size f c')) _ _
    have kp : ∀ b o, s1.heap.get? b = some o → h₁.get? b = some o := fun b o e => hsb.extBut b o (Nat.ne_of_lt (Heap.lt_size e)) (Heap.get?_push_of_some _ e)
    have J : Inv (lamCx X (X.A.deeper (envOfC qg sg s.heap.objs.size g cdg)) (envOfC qg sg s.heap.objs.size g cdg :: X.stack) s1 HZ E scope f c') [] σ HZ { s1 with heap := h₁, toks := s1.toks + ([] : List (Str × Value)).length } :=
      lam_start2 I L I1.env0 hr.hd un hns kp
    refine PySem.W.kla_codeExpr (wpAny_mono ((hbody _ _ s1 HZ (hr.deeper _)).run [] _ _ HZ Q J ht) (fun v s' hq => ?_) fun e s' hq => hq)
    obtain ⟨w', H', J', rv, q⟩ := hq
    exact ⟨w', H', J'.os, J'.bare, J'.base, J'.hok, rv, q⟩
  have hx : Passes (L2.CX X.prog X.w) ((cxOf CXg X.prog X.w X.K X.mg X.base Ng qg sg g cdg X.A X.stack s H Eg).tr pn xe) E := passes_call tk hW
  refine wpAny_call (codeAny_mono rc fun r s' hq => ?_)
  cases r with
  | error e => exact hx pinsZ σZ HZ s1 e s' I1 hq
  | ok fl =>
    cases fl with
    | ret u => exact I1.after hq
    | next => exact False.elim hq
    | brk => exact False.elim hq
    | cont => exact False.elim hq
end
end LamX
namespace L2
open PySem PySem.Spec PyProof.Rows
section
variable {X : Cx}
/-- a comprehension, what stands about it told to its parts -/
theorem lc_coreI {pins : List (Addr × Obj)} {s : Shared} {σ : St} {H : Hp} {Q : VK} {elt tg iter : Expr} {ifs : List Expr} {scope : Scope} {own : List (Str × Nat)} {pos pos' : Pos} {wi : TI} {g : TG} {tt : TT} {te : TE} {use : Option (Value → Sem Unit)} {Qf : Value → Shared → Prop}
    (hc : X.calm = true) (hN : X.N.Nodup) (I : Inv X pins σ H s) (hi : PI X tg iter wi) (ok : BlkOk X.N X.env.scope scope own)
    (hg : ∀ (s : Shared) (H : Hp) (C : Addr) (cl : List (Str × Addr)) (fp : List Addr), PG (X.blk s H scope (compEnvC scope cl C X.env) fp) tg g) (ht : ∀ (s : Shared) (H : Hp) (C : Addr) (cl : List (Str × Addr)) (fp : List Addr), Inv X pins σ H s → (∀ b ∈ fp, FpOk X pins H b) → PTs (X.blk s H scope (compEnvC scope cl C X.env) fp) ifs tt)
    (he : ∀ (s : Shared) (H : Hp) (C : Addr) (cl : List (Str × Addr)) (fp : List Addr), PE (X.blk s H scope (compEnvC scope cl C X.env) fp) elt te) (hs : ∀ x, foldedSetIterable iter X.env x = pure x)
    (h : tLc wi g tt te (own.map (·.2)) σ H Q)
    (hRR : ∀ D C s' m H', Inv X pins σ H' s' → Q (.ref D) H' → s'.heap.Ns C m → FpOk X pins H' C → compPost (model X.prog X.w) X.A X.xe use Qf (.ref D) C (.ok .next) s') :
    wpAny (model X.prog X.w) X.A (comprehension (.ListComp elt [⟨tg, iter, ifs, 0⟩] scope pos) scope X.env pos' (newList []) false (eval iter X.env) use) Qf X.xe s := by
  have hfree : ∀ y ∈ scope.names, y.2 = .free → ∃ c, X.env.cells.lookup y.1 = some c := fun y hy e => by
    rcases ok.free y hy e with k | k
    · exact I.ok.has _ (.inl k)
    · exact I.ok.has _ (.inr k)
  refine wpAny_comprehension_free (use := use) rfl hs (closure_ok hfree) ok.kind (fun y hy e => by rw [ok.uniq y hy, e])
    (thn (hi.run pins s σ H _ I h) fun xv s1 hx => thn hx fun itv s2 h2 => ?_)
  obtain ⟨it, fp, tn, J, H2, e, I2, T, st2, f2, q⟩ := h2
  subst e
  refine wpAny_newObj_type (newEnv_comp ?_) (by show 0 ≤ sizeLine; decide)
  generalize hD : s2.heap.objs.size = D
  have hDn : H2 D = none := I2.hok.fresh (Nat.le_of_eq hD)
  obtain ⟨W, ⟨m0, w0⟩, turn⟩ := q D hDn
  -- the new list
  generalize hs3 : ({ s2 with heap := s2.heap.push { cls := .type "list", data := .seq ([] : List Value).toArray } } : Shared) = s3
  have I3 : Inv X pins σ (upd H2 D (.lst [])) s3 := by
    rw [← hs3]
    refine I2.laid (t' := s2.toks) (fun b o e => Heap.get?_push_of_some _ e) (Nat.le_of_eq hD) ⟨Nat.zero_le _, [], 0, .nil, ?_⟩
    rw [← hD]
    exact Heap.get?_push_size _ rfl
  have h3 : s3.heap = s2.heap.push { cls := .type "list", data := .seq ([] : List Value).toArray } := by rw [← hs3]
  have sz : ∀ b ∈ fp, b < s2.heap.objs.size := fun b hb => by
    obtain ⟨o, e, _⟩ := T.obj _ _ st2 b hb
    exact Heap.lt_size e
  have f3 : ∀ b ∈ fp, FpOk X pins (upd H2 D (.lst [])) b ∧ b < s3.heap.objs.size := fun b hb => by
    have hlt := sz b hb
    refine ⟨⟨?_, (f2 b hb).2⟩, by rw [h3, Heap.size_push]; exact Nat.lt_succ_of_lt hlt⟩
    rw [upd_ne (by rw [← hD]; exact Nat.ne_of_lt hlt)]
    exact (f2 b hb).1
  have st3 : tn 0 s3.heap := T.keep _ _ _ st2 fun b _ o e => by rw [h3]; exact Heap.get?_push_of_some _ e
  have I4 := block_start I3 ok hN f3
  have pg := hg s3 (upd H2 D (.lst [])) s3.heap.objs.size (cellsFrom (s3.heap.objs.size + 1) scope.names (cloFrom X.env.cells scope.names [])) fp
  have pt := ht s3 (upd H2 D (.lst [])) s3.heap.objs.size (cellsFrom (s3.heap.objs.size + 1) scope.names (cloFrom X.env.cells scope.names [])) fp I3 fun b hb => (f3 b hb).1
  have pe := he s3 (upd H2 D (.lst [])) s3.heap.objs.size (cellsFrom (s3.heap.objs.size + 1) scope.names (cloFrom X.env.cells scope.names [])) fp
  show codeAny _ _ (.compStart (.ListComp elt [⟨tg, iter, ifs, 0⟩] scope pos) 0 (.ref it) (.ref D) (compEnvC scope (cellsFrom (s3.heap.objs.size + 1) scope.names (cloFrom X.env.cells scope.names [])) s3.heap.objs.size X.env)) (compPost (model X.prog X.w) X.A X.xe use Qf (.ref D) s3.heap.objs.size) { s3 with heap := pushCells (s3.heap.push { cls := .type "dict", data := .dict #[] }) scope.names }
  have nfp : ∀ b ∈ fp, (upd H2 D (.lst [])) b = none := fun b hb => (f3 b hb).1.1
  generalize hce : compEnvC scope (cellsFrom (s3.heap.objs.size + 1) scope.names (cloFrom X.env.cells scope.names [])) s3.heap.objs.size X.env = ce at I4 pg pt pe ⊢
  have cL : ce.locals = s3.heap.objs.size := by subst hce; rfl
  generalize hH3 : upd H2 D (.lst []) = H3 at I3 I4 pg pt pe w0 nfp f3
  generalize hs4 : ({ s3 with heap := pushCells (s3.heap.push { cls := .type "dict", data := .dict #[] }) scope.names } : Shared) = s4 at I4 ⊢
  have st4 : tn 0 s4.heap := T.keep _ _ _ st3 fun b _ o e => by rw [← hs4]; exact pushCells_keeps _ _ _ _ (Heap.get?_push_of_some _ e)
  have stat : ∀ {σ' : St} {H' : Hp} {s' : Shared}, Inv (X.blk s3 H3 scope ce fp) [] σ' H' s' → (∀ b ∈ fp, H' b = none) → ∀ b ∈ fp, FpOk (X.blk s3 H3 scope ce fp) [] H' b := fun {σ' H' s'} I' hn b hb =>
    ⟨hn b hb, (I'.ok.exf b hb).1, I'.ok.exfs b hb, .inl hb, fun x c e => (I'.ok.exf b hb).2 x c e, fun p hp => absurd (show p ∈ ([] : List (Addr × Obj)) ++ [] from hp) (by simp)⟩
  have loop : codeAny (model X.prog X.w) X.A (.compLoop (.ListComp elt [⟨tg, iter, ifs, 0⟩] scope pos) 0 (.ref it) (.ref D) ce) (compPost (model X.prog X.w) X.A X.xe use Qf (.ref D) s3.heap.objs.size) s4 := by
    refine compLoop_any (fun n s' => ∃ i H', Inv (X.blk s3 H3 scope ce fp) [] (wipe σ (own.map (·.2))) H' s' ∧ tn i s'.heap ∧ (∀ b ∈ fp, H' b = none) ∧ W i n H') ?_ m0 ⟨0, H3, I4, st4, nfp, w0⟩
    rintro n s5 ⟨i, H5, I5, st5, n5, w5⟩
    rcases turn i n H5 w5 with ⟨stop, qq⟩ | ⟨go, Nx, hNx, step⟩
    · have td := T.done (X.blk s3 H3 scope ce fp) rfl rfl rfl hc i [] s5 _ H5 (fun _ _ => False) I5 (stat I5 n5) st5 stop
      refine thnF td fun r s6 ⟨hr, I6⟩ => ?_
      subst hr
      -- back in the def's context
      have I7 : Inv X pins σ H5 s6 := I3.call' (ch := fp) I6.os I6.base I6.hok I6.bare fun b hb => ⟨(f3 b hb).1.2.2.2.1, (f3 b hb).1.2.1, (f3 b hb).1.2.2.2.2.1, (f3 b hb).1.2.2.2.2.2⟩
      have nC : H5 s3.heap.objs.size = none := by
        have z : H5 ce.locals = none := I6.free
        rw [cL] at z
        exact z
      obtain ⟨m, hn, _⟩ := I6.loc
      have hn : s6.heap.Ns ce.locals m := hn
      rw [cL] at hn
      exact hRR D s3.heap.objs.size s6 m H5 I7 qq hn (I3.fpOk (Nat.le_refl _) nC)
    · have ti := T.item (X.blk s3 H3 scope ce fp) rfl rfl rfl hc i [] s5 _ H5 (fun _ _ => False) I5 (stat I5 n5) st5 go
      refine thnF ti fun r s6 ⟨u, hr, h6⟩ => ?_
      subst hr
      refine thnF h6 fun _ s7 ⟨x, H7, I7, r7, y7, st7, n7⟩ => ?_
      have I7' := I7.pinned (stat I7 n7) (T.obj _ _ st7)
      refine thnF (pg.run _ s7 _ H7 x u _ I7' r7 (step x H7 y7)) fun _ s8 ⟨σ8, H8, I8, hw8, q8⟩ => ?_
      refine thnF (pt.run _ s8 σ8 H8 _ I8 q8) fun b s9 ⟨H9, I9, q9⟩ => ?_
      -- the turn's end
      have fin : ∀ {s' : Shared} {H' : Hp}, Inv (X.blk s3 H3 scope ce fp) ([] ++ pinsAt fp s7.heap) σ8 H' s' → Nx H' → ∃ m, m < n ∧ ∃ i H', Inv (X.blk s3 H3 scope ce fp) [] (wipe σ (own.map (·.2))) H' s' ∧ tn i s'.heap ∧ (∀ b ∈ fp, H' b = none) ∧ W i m H' := fun {s' H'} I' nx => by
        obtain ⟨m', hm, w'⟩ := hNx H' nx
        have pin' : ∀ b ∈ fp, ∀ o, s7.heap.get? b = some o → s'.heap.get? b = some o ∧ H' b = none := fun b hb o e =>
          let z := I'.pin (b, o) (List.mem_append_right _ (List.mem_append_right _ (mem_pinsAt hb e)))
          ⟨z.1, z.2.1⟩
        have hl : (wipe σ (own.map (·.2))).length = σ8.length := by rw [← hw8, wipe_length]
        refine ⟨m', hm, i + 1, H', (I'.unpinned (pins := [])).weak hl (fun j v e => ?_), T.keep _ _ _ st7 fun b hb o e => (pin' b hb o e).1, fun b hb => ?_, w'⟩
        · rw [← hw8] at e
          exact (wipe_some e).1
        · obtain ⟨o, e, _⟩ := T.obj _ _ st7 b hb
          exact (pin' b hb o e).2
      cases b with
      | false =>
        simp only [Bool.false_eq_true, if_false] at q9 ⊢
        exact fin I9 q9
      | true =>
        simp only [if_true] at q9 ⊢
        refine thnF (pe.run _ s9 σ8 H9 _ I9 q9) fun z s10 ⟨yv, H10, I10, r10, acc, hD10, hz10, nx⟩ => ?_
        exact app_ok (X := X.blk s3 H3 scope ce fp) I10 hD10 hz10 r10 fun s11 I11 => fin I11 nx
  exact codeAny_compStart_list loop (T.self X.A 0 _ _ _ st4 loop)
end
end L2

/-! DL27: lists of closures, each asked for its kind. -/
namespace DL
open PySem PySem.Spec L2 PyProof.Rows
/-- what is known of a lambda's text -/
structure ClP (X : Cx) (A : Act) (k : Nat) (F : ET) (params : Arguments) (body : Expr) (scope : Scope) : Prop where
  L : LamX.LamS X.env.scope scope
  bind : ∀ (q : Str) (cl : List (Str × Addr)) (pm cv ctv : Value), bindArgs (PySem.W.kla_fn "<lambda>" q params body scope cl pm cv ctv) ⟨[], []⟩ = pure []
  hb : ∀ (A' : Around) (outer : List Env) (s : Shared) (H' : Hp) (E : XK) (f c' : Addr) (B0 H0 : Hp), Room k (A'.deeper (LamX.lamEnv X scope s.heap.objs.size f c')) → Passes (L2.CX (LamX.lamCx X A' outer s H' E scope f c').prog (LamX.lamCx X A' outer s H' E scope f c').w) (LamX.lamCx X A' outer s H' E scope f c') E → DE (LamX.lamCx X A' outer s H' E scope f c') ⟨A.c, B0, H0, E⟩ body F
abbrev cloOb (X : Cx) (params : Arguments) (body : Expr) (scope : Scope) (pm : Value) (c' : Addr) (ctv : Value) : Obj := PySem.W.kla_obj "<lambda>" (X.env.qual ++ "<lambda>") params body scope (cloFrom X.env.cells scope.names []) pm c' ctv
/-- v is a closure of the frame X, told by F -/
def ClAt (X : Cx) (A : Act) (k : Nat) (F : ET) (v : V) (H : Hp) : Prop := ∃ (f c' : Addr) (pm ctv : Value) (params : Arguments) (body : Expr) (scope : Scope), v = .ref f ∧ ClP X A k F params body scope ∧ H f = some (LamX.CloO f (cloOb X params body scope pm c' ctv)) ∧ H c' = some (LamX.CodeO c' (X.env.qual ++ "<lambda>"))
theorem ext_st {K : PySem.W.Frag} {c : Dc} {H : Hp} {a : Addr} {φ : Heap → Prop} (w : Wd K c H) (h : H a = some (.ext φ)) : a ≠ c.st := fun z => by
  obtain ⟨k0, m0, r0, e, _⟩ := w
  rw [z, e] at h
  cases h
section
variable {X : Cx} {A : Act} {k : Nat} {F : ET} {v : V} {B H B' H' : Hp}
theorem ClAt.step (x : Ex X.K A.c B H B' H') (o : Ok X.K A.c B H) (h : ClAt X A k F v H) : ClAt X A k F v H' := by
  obtain ⟨f, c', pm, ctv, params, body, scope, e, p, h1, h2⟩ := h
  exact ⟨f, c', pm, ctv, params, body, scope, e, p, x.fr f _ (ext_st o.wd h1) h1 LamX.cloO_ne, x.fr c' _ (ext_st o.wd h2) h2 LamX.codeO_ne⟩
/-- lambda: body, as a value -/
theorem lamV_run {params : Arguments} {body : Expr} {scope : Scope} {pos : Pos} {σ : L2.St} (ok : Ok X.K A.c B H) (lt : LawT X A.c.tb) (cp : ClP X A k F params body scope) (hdef : defaultsOf params X.env = ([], [])) :
    wE X (.Lambda params body scope pos) σ H fun v H' => ClAt X A k F v H' ∧ Ex X.K A.c B H B H' := fun pins s I => by
  obtain ⟨c, P0, TB, hcode, hT⟩ := lt.ex
  obtain ⟨_, _, _, _, _, _, _, _, tabs⟩ := ok.wd
  refine LamX.lam_make3 I TB hcode (T := A.c.tb) (by rw [hT]; exact List.mem_singleton.mpr rfl) (fun p hp _ => by rw [hT] at hp; rw [List.mem_singleton.mp hp]) tabs hdef (cp.L.has I.ok) fun f c' pm ctv H1 s' I1 eN T1 hn hf hc => ?_
  exact ⟨.ref f, H1, I1, rfl, ⟨f, c', pm, ctv, params, body, scope, rfl, cp, hf, hc⟩, ex_tab ok eN T1⟩
/-- what `_law_kind` makes of it -/
theorem kind_core {ns : List Str} {params : Arguments} {body : Expr} {scope : Scope} {xq : XQ} {σ : L2.St} {ρ : List EV} {P : PyData → Prop} (kn : ∀ n ∈ ns, KindN X.K X.mg n) (cp : ClP X A k F params body scope) (g : Cfg X A xq σ B H ρ) (q : dKind ns F xq ρ P) {f0 : Addr} {ob : Obj} (hf : H f0 = some (LamX.CloO f0 ob)) {c0 f1 : Addr} :
    TKind X.K X.mg (fun E H' Q' => H' f0 = some (LamX.CloO f0 ob) ∧ (∀ (A' : Around) (outer : List Env) (s : Shared) (H2 : Hp), Room k (A'.deeper (LamX.lamEnv X scope s.heap.objs.size f1 c0)) → wE (LamX.lamCx X A' outer s H2 E scope f1 c0) body σ H' Q')) H (EPost X A B H P) := by
  refine ⟨hf, fun A' outer s H2 hr' => ?_⟩
  have key : ∀ Ech : XK, (∀ C j n H2, KindC X.K X.mg C j → words7[j]? = some n → (∀ CG, X.mg "GridError" = some (.ref CG) → PySem.W.exmOne X.K (.ref C) (.ref CG) = some true) → (∀ H'', NewL H2 H'' → EPost X A B H P (.str n) H'') → Ech (.ref C) none H2) → wE (LamX.lamCx X A' outer s H2 Ech scope f1 c0) body σ H fun _ H' => EPost X A B H P (.str (Str.ofString "")) H' := fun Ech hE => by
    have cfg : Cfg (LamX.lamCx X A' outer s H2 Ech scope f1 c0) ⟨A.c, B, H, Ech⟩ (fun n r => r = none ∧ n ∈ ns ∧ P (.str n)) σ B H (onlyD ρ) := ⟨⟨fun n r ⟨e, hn, hp⟩ => ?_, g.hx.hall⟩, g.ok.refl, env_only g.en⟩
    · exact ((cp.hb A' outer s H2 Ech f1 c0 B H hr' (pas_lam (X := X) (A' := A') (outer := outer) (s := s) (H' := H2) (E := Ech) (scope := scope) (f := f1) (c' := c0))).run cfg q).mono fun v H2 ⟨d, B2, q2, x2, _⟩ => ⟨_, B2, q2, x2, .str _⟩
    · subst e
      obtain ⟨C, j, mC, hj, kc, hx⟩ := (kn n hn).ex
      intro C' mC' B2 H2 x2
      have : C' = C := by
        have mC'' : X.mg n = some (.ref C') := mC'
        rw [mC] at mC''
        cases mC''
        rfl
      subst this
      exact hE C' j n H2 kc hj hx fun H3 nl => ⟨_, B2, hp, x2.trans (nl.ex x2.ok), .str _⟩
  exact key _ fun C j n H2 a b c d => ⟨C, j, n, rfl, rfl, a, b, c, d⟩
end
end DL

/-! DL28: [y for y in works if _law_kind(y) != n] != [], works closures that all tell n. -/
namespace DL
open PySem PySem.Spec L2 PyProof.Rows
section
variable {X : Cx} {A : Act} {k : Nat} {B H : Hp}
theorem wE_lcI {elt tg iter : Expr} {ifs : List Expr} {scope : Scope} {own : List (Str × Nat)} {pos : Pos} {wi : TI} {g : TG} {tt : TT} {te : TE} {σ : L2.St} {Q : VK} (hc : X.calm = true) (hN : X.N.Nodup) (hi : PI X tg iter wi) (ok : BlkOk X.N X.env.scope scope own)
    (hg : ∀ (s : Shared) (H : Hp) (C : Addr) (cl : List (Str × Addr)) (fp : List Addr), PG (X.blk s H scope (compEnvC scope cl C X.env) fp) tg g)
    (ht : ∀ (pins : List (Addr × Obj)) (s : Shared) (H : Hp) (C : Addr) (cl : List (Str × Addr)) (fp : List Addr), Inv X pins σ H s → (∀ b ∈ fp, FpOk X pins H b) → PTs (X.blk s H scope (compEnvC scope cl C X.env) fp) ifs tt)
    (he : ∀ (s : Shared) (H : Hp) (C : Addr) (cl : List (Str × Addr)) (fp : List Addr), PE (X.blk s H scope (compEnvC scope cl C X.env) fp) elt te) (hs : ∀ x, foldedSetIterable iter X.env x = pure x) (h : tLc wi g tt te (own.map (·.2)) σ H Q) :
    wE X (.ListComp elt [⟨tg, iter, ifs, 0⟩] scope pos) σ H Q := fun pins s I => by
  rw [eval_ListComp]
  refine lc_coreI hc hN I hi ok hg (ht pins) he hs h fun D C s' m H' I' q hn f => ⟨m, hn, fun h'' sb => ?_⟩
  obtain ⟨f0, f1, f2, f3, f4, f5⟩ := f
  exact ⟨.ref D, H', I'.turned (t' := s'.toks) (fun b o hb e => (sb.2 b hb).trans e) f0 f1 f3 f4 f5, rfl, q⟩
theorem wipe1_set {σ : L2.St} {j : Nat} {s : Option V} : wipe ((wipe σ [j]).set j s) [j] = wipe σ [j] := by
  show ((σ.set j none).set j s).set j none = σ.set j none
  rw [List.set_set, List.set_set]
theorem sh_nil : SeqAt.shaped (.list []) = true := by decide +kernel
/-- a list of closures of one's own, made since B, H -/
structure WkL (X : Cx) (A : Act) (k : Nat) (B H : Hp) (Fs : List ET) (o : Addr) (H' : Hp) : Prop where
  x : Ex X.K A.c B H B H'
  fr : Fre H o
  nb : B o = none
  st : o ≠ A.c.st
  at_ : ∃ vs : List V, H' o = some (.lst vs) ∧ vs.length = Fs.length ∧ ∀ (i : Nat) (v : V), vs[i]? = some v → ∃ F, Fs[i]? = some F ∧ ClAt X A k F v H'
theorem wk_one {params : Arguments} {body : Expr} {scope : Scope} {lp : Pos} {σ : L2.St} {w : Nat} {s1 : Stmt} {F : ET} {D : Ends} (ok : Ok X.K A.c B H) (lt : LawT X A.c.tb) (cp : ClP X A k F params body scope) (hdef : defaultsOf params X.env = ([], [])) (hp : PS X s1 (tAsg (tLst (tCons (wE X (.Lambda params body scope lp)) tNil)) (gName w)))
    (fin : ∀ o H', WkL X A k B H [F] o H' → D.nx (σ.set w (some (.ref o))) H') : wS X s1 D σ H := by
  refine PSw hp ((lamV_run ok lt cp hdef).mono fun v H1 ⟨ca, x1⟩ => ⟨Nat.le_of_lt (small_line (by show 1 ≤ 100000; decide)), fun p hp => ?_⟩)
  have x2 := x1.ok.newOwn (x := .lst [v]) hp
  refine fin p _ ⟨x1.trans x2, x1.free (.of hp), ?_, fun z => by rw [z] at hp; exact x1.ok.wd.ne hp, [v], upd_same, rfl, fun i u hi => ?_⟩
  · cases q : B p with
    | none => rfl
    | some u => rw [x1.ok.sh _ _ q] at hp; cases hp
  · cases i with
    | zero =>
      cases hi
      exact ⟨F, rfl, ca.step x2 x1.ok⟩
    | succ i => cases hi
theorem wk_app {params : Arguments} {body : Expr} {scope : Scope} {lp p ap cp' pos : Pos} {y : Str} {σ : L2.St} {w : Nat} {F : ET} {Fs : List ET} {D : Ends} {o : Addr} {H' : Hp} (ok : Ok X.K A.c B H) (W : WkL X A k B H Fs o H') (hl : Fs.length < 100000) (hσ : σ[w]? = some (some (.ref o))) (lt : LawT X A.c.tb) (cp : ClP X A k F params body scope) (hdef : defaultsOf params X.env = ([], []))
    (hpe : PE X (.Call (.Attribute (.Name y p) "append" ap) [.Lambda params body scope lp] [] cp') (tBM X.K "list" rAppend (tVar w) (tCons (wE X (.Lambda params body scope lp)) tNil))) (hs : swapsWith (.Call (.Attribute (.Name y p) "append" ap) [.Lambda params body scope lp] [] cp') none pos.line X.env = pure false)
    (fin : ∀ H', WkL X A k B H (Fs ++ [F]) o H' → D.nx σ H') : wS X (.Expr (.Call (.Attribute (.Name y p) "append" ap) [.Lambda params body scope lp] [] cp') pos) D σ H' := by
  obtain ⟨x0, fr, nb, st, vs, ho, hlen, all⟩ := W
  refine PSw (ps_expr hpe hs) ⟨.ref o, hσ, .inl ⟨rfl, _, SqL.of ho⟩, (lamV_run x0.ok lt cp hdef).mono fun v H1 ⟨ca, x1⟩ => ?_⟩
  have h1 := x1.fr o _ st ho nofun
  refine ⟨o, vs, v, rfl, rfl, h1, small_line (by rw [hlen]; omega), ?_⟩
  have x01 := x0.trans x1
  have x2 := x01.setL (ws := vs ++ [v]) h1 nb st fr
  have keep : ∀ {F : ET} {u : V}, ClAt X A k F u H1 → ClAt X A k F u (upd H1 o (.lst (vs ++ [v]))) := fun {F u} ⟨f, c', pm, ctv, ps, b, sc, e, q, h3, h4⟩ => by
    refine ⟨f, c', pm, ctv, ps, b, sc, e, q, ?_, ?_⟩
    · rw [upd_ne (fun z => by rw [z, h1] at h3; cases h3)]; exact h3
    · rw [upd_ne (fun z => by rw [z, h1] at h4; cases h4)]; exact h4
  refine fin _ ⟨x2, fr, nb, st, vs ++ [v], upd_same, by simp [hlen], fun i u hi => ?_⟩
  by_cases hlt : i < vs.length
  · rw [List.getElem?_append_left hlt] at hi
    obtain ⟨F', e, ca'⟩ := all i u hi
    refine ⟨F', by rw [List.getElem?_append_left (by omega)]; exact e, keep (ca'.step x1 x0.ok)⟩
  · rw [List.getElem?_append_right (by omega)] at hi
    obtain ⟨d, hd⟩ : ∃ d, i = vs.length + d := ⟨i - vs.length, by omega⟩
    subst hd
    rw [Nat.add_sub_cancel_left] at hi
    cases d with
    | zero =>
      cases hi
      exact ⟨F, by rw [List.getElem?_append_right (by omega), hlen]; simp, keep ca⟩
    | succ d => cases hi
end
end DL

/-! DL29: works = [lambda: ..]; works.append(lambda: ..) twice; if [w for w in works if _law_kind(w) != n] != []: .. -/
namespace DL
open PySem PySem.Spec L2 PyProof.Rows
def dWorks (w j : Nat) (ns : List Str) (n : Str) (Fs : List ET) : STd := fun xq ρ D => w < ρ.length ∧ j < ρ.length ∧ (∀ F ∈ Fs, dKind ns F xq (ρ.set w .un) fun d => d = .str n) ∧ D.nx (ρ.set w .un)
section
variable {X : Cx} {A : Act} {k : Nat}
theorem LawT.blk {T : List (Addr × Str)} (lt : LawT X T) {s : Shared} {H : Hp} {scope : Scope} {cl : List (Str × Addr)} {C : Addr} {fp : List Addr} : LawT (Blk X s H scope cl C fp) T := ⟨lt.ex⟩
/-- a, b = x, y -/
theorem ds_par2 (i j : Nat) {x y : Str} {a b : Expr} {ta : AT} {px py pt pos : Pos} {kt k2 pt2} (hc : X.calm = true) (hN : X.N.Nodup) (ha : DA X A [a, b] ta) (hi : X.N[i]? = some x := by rfl) (hj : X.N[j]? = some y := by rfl) (hij : i ≠ j := by decide)
    (hx : X.env.scope.names.lookup x = some .local := by rfl) (hy : X.env.scope.names.lookup y = some .local := by rfl)
    (hw : swappedStores [.Tuple [.Name x px, .Name y py] kt pt] (.Tuple [a, b] k2 pt2) X.env = pure (some [x, y]) := by rfl)
    (hs : swapsWithSole [.Tuple [.Name x px, .Name y py] kt pt] (.Tuple [a, b] k2 pt2) pos.line X.env = pure false := by rfl) :
    DS X A (.Assign [.Tuple [.Name x px, .Name y py] kt pt] (.Tuple [a, b] k2 pt2) pos) (dPar [i, j] ta) := ⟨fun {xq σ B H ρ Dd D} g q l => by
  refine PSw (ps_par hc hN hi hj hij hx hy (paW _) hw hs) ((ha.run g q).mono fun vs H1 ⟨ds, B1, ⟨hl, q1⟩, x1, r, _⟩ => ?_)
  obtain ⟨d1, ds, rfl⟩ := List.exists_cons_of_length_eq_add_one hl
  cases r with
  | cons r1 r =>
    obtain ⟨d2, ds, rfl⟩ := List.exists_cons_of_length_eq_add_one (Nat.succ.inj hl)
    have e0 : ds = [] := List.eq_nil_of_length_eq_zero (Nat.succ.inj (Nat.succ.inj hl))
    subst e0
    cases r with
    | cons r2 r =>
      cases r
      exact ⟨_, _, rfl, l.nx _ _ B1 H1 q1 (g.ex.trans x1) x1.sb (((g.en.step x1).setD i r1).setD j r2)⟩⟩
end
end DL

/-! MB: data of nets. -/
namespace DL
open PySem PySem.Spec L2

/-! ### loops and comprehensions by a word -/
theorem forD_inv {g : PyData → List EV → (List EV → Prop) → Prop} {tb : List EV → DEnds → Prop} {D : DEnds} (I : Nat → List EV → Prop) : ∀ {ds : List PyData} {k : Nat} {ρ : List EV}, I k ρ →
    (∀ i x ρ' (Kt : List EV → Prop), ds[i]? = some x → I (k + i) ρ' → (∀ ρ'', I (k + i + 1) ρ'' → Kt ρ'') → g x ρ' fun ρ2 => tb ρ2 { D with nx := Kt, ct := Kt, bk := D.nx }) → (∀ ρ', I (k + ds.length) ρ' → D.nx ρ') → forD g tb ds ρ D
  | [], k, ρ, h0, _, hd => hd ρ h0
  | x :: xs, k, ρ, h0, hs, hd => hs 0 x ρ _ rfl h0 fun ρ'' h => forD_inv I (ds := xs) (k := k + 1) h (fun i y ρ' Kt hy hi hk => hs (i + 1) y ρ' Kt (by simpa using hy) (by rw [← Nat.add_assoc, Nat.add_right_comm]; exact hi) fun r hr => hk r (by rw [Nat.add_right_comm k 1 i]; exact hr)) fun r hr => hd r (by rw [List.length_cons, ← Nat.add_assoc, Nat.add_right_comm]; exact hr)
/-- over range(n) -/
theorem for_rng {g : PyData → List EV → (List EV → Prop) → Prop} {tb : List EV → DEnds → Prop} {D : DEnds} {ρ : List EV} {n : Nat} (I : Nat → List EV → Prop) (h0 : I 0 ρ)
    (hs : ∀ (i : Nat) ρ' (Kt : List EV → Prop), i < n → I i ρ' → (∀ ρ'', I (i + 1) ρ'' → Kt ρ'') → g (.int (i : Nat)) ρ' fun ρ2 => tb ρ2 { D with nx := Kt, ct := Kt, bk := D.nx }) (hd : ∀ ρ', I n ρ' → D.nx ρ') : forD g tb (rngD 0 n) ρ D := by
  refine forD_inv I h0 (fun i x ρ' Kt hx hi hk => ?_) fun ρ' h => hd ρ' (by simpa [rngD] using h)
  unfold rngD at hx
  rw [List.getElem?_map] at hx
  obtain ⟨j, hj, e⟩ := Option.map_eq_some_iff.mp hx
  obtain ⟨hlt, e2⟩ := List.getElem?_eq_some_iff.mp hj
  have e3 : i = j := by simpa using e2
  subst e3
  have e4 : x = .int (i : Nat) := by rw [← e]; simp
  subst e4
  rw [Nat.zero_add] at hi hk
  exact hs i ρ' Kt (by simpa using hlt) hi hk
theorem lcD_map {g : PyData → (List EV → Prop) → Prop} {f : List EV → (PyData → Prop) → Prop} (h : PyData → PyData) : ∀ {ds : List PyData} {P : List PyData → Prop}, (∀ x ∈ ds, ∀ Q : PyData → Prop, Q (h x) → g x fun ρ => f ρ Q) → P (ds.map h) → lcD g (dYes nxq) f ds P
  | [], P, _, q => q
  | x :: xs, P, hs, q => hs x List.mem_cons_self _ (lcD_map h (P := fun ys => P (h x :: ys)) (fun y hy => hs y (List.mem_cons_of_mem _ hy)) q)
theorem lcD_any {g : PyData → (List EV → Prop) → Prop} {f : List EV → (PyData → Prop) → Prop} (R : PyData → Prop) : ∀ {ds : List PyData} {P : List PyData → Prop}, (∀ x ∈ ds, ∀ Q : PyData → Prop, (∀ y, R y → Q y) → g x fun ρ => f ρ Q) → (∀ ys : List PyData, ys.length = ds.length → (∀ y ∈ ys, R y) → P ys) → lcD g (dYes nxq) f ds P
  | [], P, _, q => q [] rfl (fun _ h => nomatch h)
  | x :: xs, P, hs, q => hs x List.mem_cons_self _ fun y hy => lcD_any R (P := fun ys => P (y :: ys)) (fun z hz => hs z (List.mem_cons_of_mem _ hz)) fun ys hl hr => q (y :: ys) (by simp [hl]) fun z hz => by
    rcases List.mem_cons.mp hz with rfl | hz
    · exact hy
    · exact hr z hz
/-- with a test -/
theorem lcD_filter {g : PyData → (List EV → Prop) → Prop} {t : List EV → (Bool → Prop) → Prop} {f : List EV → (PyData → Prop) → Prop} (p : PyData → Bool) (h : PyData → PyData) : ∀ {ds : List PyData} {P : List PyData → Prop},
    (∀ x ∈ ds, ∀ (Q : PyData → Prop) (R : Prop), (p x = true → Q (h x)) → (p x = false → R) → g x fun ρ => t ρ fun b => if b = true then f ρ Q else R) → P ((ds.filter p).map h) → lcD g t f ds P
  | [], P, _, q => q
  | x :: xs, P, hs, q => hs x List.mem_cons_self _ _ (fun e => lcD_filter p h (P := fun ys => P (h x :: ys)) (fun y hy => hs y (List.mem_cons_of_mem _ hy)) (by simpa [e] using q)) fun e => lcD_filter p h (fun y hy => hs y (List.mem_cons_of_mem _ hy)) (by simpa [e] using q)

/-! ### families -/
theorem atI_rng {α : Type} {n i : Nat} (f : Nat → α) (h : i < n) : atI ((List.range n).map f) ((i : Nat) : Int) = some (f i) := atI_nat (by simp [h])
theorem exists_list {α : Type} {φ : α → PyData} : ∀ {ys : List PyData}, (∀ y ∈ ys, ∃ a, y = φ a) → ∃ l : List α, ys = l.map φ
  | [], _ => ⟨[], rfl⟩
  | y :: ys, h => by
    obtain ⟨a, e⟩ := h y List.mem_cons_self
    obtain ⟨l, e2⟩ := exists_list (ys := ys) fun z hz => h z (List.mem_cons_of_mem _ hz)
    exact ⟨a :: l, by rw [e, e2]; rfl⟩
theorem exists_fam {α : Type} [Inhabited α] {φ : α → PyData} {ys : List PyData} {n : Nat} (hl : ys.length = n) (h : ∀ y ∈ ys, ∃ a, y = φ a) : ∃ f : Nat → α, ys = (List.range n).map fun i => φ (f i) := by
  obtain ⟨l, e⟩ := exists_list h
  subst e
  refine ⟨fun i => l.getD i default, ?_⟩
  rw [List.length_map] at hl
  subst hl
  apply List.ext_getElem
  · simp
  · intro i h1 h2
    simp only [List.length_map] at h1
    simp [List.getD, List.getElem?_eq_getElem h1]

/-! ### nets -/
def optD : Option Int → PyData
  | none => .none
  | some i => .int i
inductive Kd where
  | product | paths | sorting
  deriving DecidableEq, Inhabited
def kdS : Kd → Str
  | .product => Str.ofString "product"
  | .paths => Str.ofString "paths"
  | .sorting => Str.ofString "sorting"
def netD (k : Kd) (r c : Nat) : PyData := .tuple [.str (kdS k), .int r, .int c]
structure Cell where
  kept : Option Int
  right : Option Int
  down : Option Int
  deriving DecidableEq, Inhabited
def cellD (c : Cell) : PyData := .tuple [optD c.kept, optD c.right, optD c.down]
def rowD (n : Nat) (f : Nat → PyData) : PyData := .tuple ((List.range n).map f)
def stD (r c : Nat) (f : Nat → Nat → Cell) : PyData := rowD r fun i => rowD c fun j => cellD (f i j)
def tabD (r c : Nat) (f : Nat → Nat → Option Int) : PyData := rowD r fun i => rowD c fun j => optD (f i j)
def sideD (n : Nat) (g : Nat → Option Int) : PyData := rowD n fun i => optD (g i)
def lineD (l : List (Option Int)) : PyData := .tuple (l.map optD)
def feedD (r c : Nat) (L T : Nat → List (Option Int)) : PyData := .tuple [rowD r fun i => lineD (L i), rowD c fun j => lineD (T j)]
/-- numbers that may be multiplied -/
def Sm (o : Option Int) : Prop := ∀ i, o = some i → i.natAbs < 2 ^ 1000
theorem isN_opt (o : Option Int) : isN (optD o) = o.isNone := by cases o <;> rfl

/-! ### shapes -/
theorem shaped_int (i : Int) : SeqAt.shaped (.int i) = true := by simp [SeqAt.shaped, PyData.canLay0, PyData.depth]
end DL

/-! ME: the operations at known kinds. -/
namespace DL
open PySem PySem.Spec L2
/-! ### the combinators, a step each (no definitional ones: the kernel is to follow, not to search) -/
section
variable {xq : XQ} {ρ : List EV} {D : DEnds} {P : PyData → Prop} {R : List PyData → Prop} {Z : Bool → Prop} {Y : Option Int → Prop} {a b : STd} {t u v : ET} {s r : AT} {c d : TTd} {g : Tg} {i : Nat} {o o' : OT} {S : DSpec} {f : CTd} {w w' : DOt} {vs : List Nat} {x : PyData} {n : Str}
theorem dSeq_e : dSeq a b xq ρ D = a xq ρ { D with nx := fun ρ' => b xq ρ' D } := propext Iff.rfl
theorem dSkip_e : dSkip xq ρ D = D.nx ρ := propext Iff.rfl
theorem dNever_e : dNever xq ρ D = False := propext Iff.rfl
theorem dAsg_e : dAsg t g xq ρ D = t xq ρ fun d => g.d d ρ D.nx := propext Iff.rfl
theorem dAsgA_e : dAsgA t g xq ρ D = t xq (frz ρ) fun d => flat d = true ∧ g.d d ρ D.nx := propext Iff.rfl
theorem dAsgF_e : dAsgF t g xq ρ D = t xq (frz ρ) fun d => g.d d (frz ρ) D.nx := propext Iff.rfl
theorem dAsgL_e : dAsgL s i xq ρ D = s xq ρ fun ds => D.nx (ρ.set i (.own ds)) := propext Iff.rfl
theorem dAsgLA_e : dAsgLA s i xq ρ D = s xq (frz ρ) fun ds => flatAll ds = true ∧ D.nx (ρ.set i (.own ds)) := propext Iff.rfl
theorem dDrop_e : dDrop t xq ρ D = t xq (frz ρ) fun _ => D.nx ρ := propext Iff.rfl
theorem dRet_e : dRet t xq ρ D = t xq (frz ρ) fun d => D.rt (.ret d) := propext Iff.rfl
theorem dRetN_e : dRetN xq ρ D = D.rt (.ret .none) := propext Iff.rfl
theorem dRetL_e : dRetL i xq ρ D = (match ρ[i]? with | some (.own ds) => D.rt (.retL ds) | _ => False) := propext Iff.rfl
theorem dStrM_e {h : Str → PyData → (PyData → Prop) → Prop} : dStrM h t u xq ρ P = t xq ρ fun x => match x with | .str a => u xq ρ fun y => h a y P | _ => False := propext Iff.rfl
theorem splitD_s {x y : Str} : splitD x (.str y) P = ((y.length == 0) = false ∧ x.length ≤ 1000000 ∧ P (.list ((Txt.split x y).map PyData.str))) := propext Iff.rfl
theorem dAsgD_e {m : Nat} : dAsgD m s i xq ρ D = s xq ρ fun ds => D.nx (ρ.set i (.deep m ds)) := propext Iff.rfl
theorem dPut_e {p : PT} : dPut i p t u xq ρ D = u xq (frz ρ) fun d => flat d = true ∧ p xq ρ fun js => t xq (frz ρ) fun k => match k with | .int k => ∃ m j e, lenE ρ[i]? js = some m ∧ ixN m k = some j ∧ putE ρ[i]? (js ++ [j]) d = some e ∧ D.nx (ρ.set i e) | _ => False := propext Iff.rfl
theorem dPv_e {N : List Nat → Prop} : dPv i xq ρ N = match ρ[i]? with | some (.own _) => N [] | some (.deep _ _) => N [] | _ => False := propext Iff.rfl
theorem dPx_e {p : PT} {N : List Nat → Prop} : dPx i p t xq ρ N = p xq ρ fun js => t xq (frz ρ) fun d => match d with | .int k => ∃ m j, lenE ρ[i]? js = some m ∧ ixN m k = some j ∧ N (js ++ [j]) | _ => False := propext Iff.rfl
theorem dLcD_e : dLcD s g c r vs xq ρ R = s xq ρ fun ds => ds.length ≤ 100000 ∧ lcD (fun x => g.d x (wipeD ρ vs)) (c nxq) (fun ρ Q => r nxq ρ fun ys => Q (.list ys)) ds R := propext Iff.rfl
theorem dExt_e : dExt i t xq ρ D = (match ρ[i]? with | some (.own ds) => t xq ρ fun d => ∃ es, d = .list es ∧ ds.length + es.length ≤ 100000 ∧ D.nx (ρ.set i (.own (ds ++ es))) | _ => False) := propext Iff.rfl
theorem dPopS_e : dPopS i t xq ρ D = (match ρ[i]? with | some (.own ds) => t xq ρ fun k => ∃ n : Nat, k = .int (n : Nat) ∧ n < ds.length ∧ n ≤ 100000 ∧ D.nx (ρ.set i (.own (ds.eraseIdx n))) | _ => False) := propext Iff.rfl
theorem dIns_e {u : ET} : dIns i t u xq ρ D = (match ρ[i]? with | some (.own ds) => t xq ρ fun k => u xq ρ fun d => ∃ n : Nat, k = .int (n : Nat) ∧ n ≤ 100000 ∧ ds.length < 100000 ∧ D.nx (ρ.set i (.own (ds.take n ++ [d] ++ ds.drop n))) | _ => False) := propext Iff.rfl
theorem dKind_e {ns : List Str} {F : ET} : dKind ns F xq ρ P = F (fun n r => r = none ∧ n ∈ ns ∧ P (.str n)) (onlyD ρ) (fun _ => P (.str (Str.ofString ""))) := propext Iff.rfl
theorem dListZip_e {t : AT} : dListZip t xq ρ P = t xq ρ fun ds => listZipD ds P := propext Iff.rfl
theorem dListRng_e : dListRng t xq ρ P = t xq ρ fun d => match d with | .int n => (-(2 ^ 62) ≤ n ∧ n ≤ 100000) ∧ P (.list (rngD 0 n.toNat)) | _ => False := propext Iff.rfl
theorem dIfS_e : dIfS c a b xq ρ D = c xq (frz ρ) fun c => if c = true then a xq ρ D else b xq ρ D := propext Iff.rfl
theorem dApp_e : dApp i t xq ρ D = (match ρ[i]? with | some (.own ds) => ds.length ≤ 100000 ∧ t xq ρ fun d => D.nx (ρ.set i (.own (ds ++ [d]))) | _ => False) := propext Iff.rfl
theorem dAppA_e : dAppA i t xq ρ D = (match ρ[i]? with | some (.own ds) => ds.length ≤ 100000 ∧ t xq (frz ρ) fun d => flat d = true ∧ D.nx (ρ.set i (.own (ds ++ [d]))) | _ => False) := propext Iff.rfl
theorem dFor_e : dFor s g a xq ρ D = s xq ρ fun ds => forD g.d (a xq) ds ρ D := propext Iff.rfl
theorem dForA_e : dForA s g a xq ρ D = s xq (frz ρ) fun ds => forD g.d (a xq) ds ρ D := propext Iff.rfl
theorem dForF_e : dForF s g a xq ρ D = s xq (frz ρ) fun ds => forD g.d (a xq) ds (frz ρ) D := propext Iff.rfl
theorem dVar_e : dVar i xq ρ P = (match ρ[i]? with | some (.d x) => P x | _ => False) := propext Iff.rfl
theorem dC_e : dC x xq ρ P = P x := propext Iff.rfl
theorem dNil_e : dNil xq ρ R = R [] := propext Iff.rfl
theorem dCons_e : dCons t s xq ρ R = t xq ρ fun d => s xq ρ fun ds => R (d :: ds) := propext Iff.rfl
theorem dTup_e : dTup s xq ρ P = s xq ρ fun ds => P (.tuple ds) := propext Iff.rfl
theorem dLst_e : dLst s xq ρ P = s xq ρ fun ds => P (.list ds) := propext Iff.rfl
theorem dOp_e : dOp o t u xq ρ P = t xq ρ fun x => u xq ρ fun y => o x y P := propext Iff.rfl
theorem dChain_e : dChain o o' t u v xq ρ P = t xq ρ fun x => u xq ρ fun y => o x y fun z => match z with | .bool k => if k = true then v xq ρ fun w => o' y w P else P (.bool false) | _ => False := propext Iff.rfl
theorem asB_e : asB t xq ρ Z = t xq ρ fun d => match d with | .bool b => Z b | _ => False := propext Iff.rfl
theorem dAnd_e : dAnd c d xq ρ Z = c xq ρ fun k => if k = true then d xq ρ Z else Z false := propext Iff.rfl
theorem dOr_e : dOr c d xq ρ Z = c xq ρ fun k => if k = true then Z true else d xq ρ Z := propext Iff.rfl
theorem dNot_e : dNot c xq ρ Z = c xq ρ fun k => Z (!k) := propext Iff.rfl
theorem dAndV_e : dAndV t u xq ρ P = t xq ρ fun d => match d with | .bool c => if c = true then u xq ρ P else P (.bool false) | _ => False := propext Iff.rfl
theorem dOrV_e : dOrV t u xq ρ P = t xq ρ fun d => match d with | .bool c => if c = true then P (.bool true) else u xq ρ P | _ => False := propext Iff.rfl
theorem dNotV_e : dNotV t xq ρ P = t xq ρ fun d => match d with | .bool c => P (.bool (!c)) | _ => False := propext Iff.rfl
theorem dIf_e : dIf c t u xq ρ P = c xq ρ fun k => if k = true then t xq ρ P else u xq ρ P := propext Iff.rfl
theorem dSl_e : dSl t w w' xq ρ P = t xq ρ fun x => w xq ρ fun l => w' xq ρ fun h => slD x l h P := propext Iff.rfl
theorem dPart_e : dPart t xq ρ Y = t xq ρ fun d => match d with | .int i => Y (some i) | _ => False := propext Iff.rfl
theorem dNoPart_e : dNoPart xq ρ Y = Y none := propext Iff.rfl
theorem dCB_e : dCB f s xq ρ P = s xq ρ fun ds => f ds P := propext Iff.rfl
theorem dMinDf_e : dMinDf t u xq ρ P = t xq ρ fun x => u xq ρ fun z => minDfD x z P := propext Iff.rfl
theorem dRetF_e : dRetF s xq ρ D = s xq (frz ρ) fun ds => D.rt (.retL ds) := propext Iff.rfl
theorem dPar_e : dPar vs s xq ρ D = s xq ρ fun ds => ds.length = vs.length ∧ D.nx (setAll vs ds ρ) := propext Iff.rfl
theorem dEnum_e : dEnum t xq ρ R = t xq ρ fun d => match d with | .list ds => R (enumL 0 ds) | .tuple ds => R (enumL 0 ds) | _ => False := propext Iff.rfl
theorem dCall_e : dCall S s xq ρ P = s xq ρ fun ds => S ds (oE xq P) := propext Iff.rfl
theorem dCallL_e : dCallL S s xq ρ R = s xq ρ fun ds => S ds (oL xq R) := propext Iff.rfl
theorem dLc_e : dLc s g c t vs xq ρ P = s xq ρ fun ds => ds.length ≤ 100000 ∧ lcD (fun x => g.d x (wipeD ρ vs)) (c nxq) (t nxq) ds fun ys => P (.list ys) := propext Iff.rfl
theorem dLcL_e : dLcL s g c t vs xq ρ R = s xq ρ fun ds => ds.length ≤ 100000 ∧ lcD (fun x => g.d x (wipeD ρ vs)) (c nxq) (t nxq) ds R := propext Iff.rfl
theorem dListL_e : dListL t xq ρ R = t xq ρ fun d => match d with | .list ds => R ds | .tuple ds => R ds | _ => False := propext Iff.rfl
theorem dItems_e : dItems t xq ρ R = t xq ρ fun d => seqD d R := propext Iff.rfl
theorem dRng1_e : dRng1 s xq ρ R = s xq ρ fun ds => match ds with | [.int j] => (-(2 ^ 62) ≤ j ∧ j < 2 ^ 62) ∧ R (rngD 0 j.toNat) | _ => False := propext Iff.rfl
theorem dRng2_e : dRng2 s xq ρ R = s xq ρ fun ds => match ds with | [.int i, .int j] => (-(2 ^ 62) ≤ i ∧ i < 2 ^ 62 ∧ -(2 ^ 62) ≤ j ∧ j < 2 ^ 62) ∧ R (rngD i (j - i).toNat) | _ => False := propext Iff.rfl
theorem dRng3_e : dRng3 s xq ρ R = s xq ρ fun ds => match ds with | [.int i, .int j, .int c] => ∃ n, RgC i j c n ∧ R (rngC i c n) | _ => False := propext Iff.rfl
theorem dIsi_e {T : String} : dIsi T t xq ρ P = t xq ρ fun d => isTok d = false ∧ P (.bool (isiB T d)) := propext Iff.rfl
theorem dIsi2_e {T U : String} : dIsi2 T U t xq ρ P = t xq ρ fun d => isTok d = false ∧ P (.bool (isiB T d || isiB U d)) := propext Iff.rfl
theorem dRaise_e : dRaise n xq ρ D = xq n none := propext Iff.rfl
theorem dNeg_e : dNeg t xq ρ P = t xq ρ fun d => match d with | .int i => P (.int (-i)) | _ => False := propext Iff.rfl
theorem tgn_e {W : List EV → Prop} : (Tg.nm i).d x ρ W = W (ρ.set i (.d x)) := propext Iff.rfl
theorem tgt_e {is : List Nat} {ds : List PyData} {W : List EV → Prop} : (Tg.tp is).d (.tuple ds) ρ W = (ds.length = is.length ∧ W (setAll is ds ρ)) := propext Iff.rfl
theorem oEr_e {y : PyData} : oE xq P (.ret y) = P y := propext Iff.rfl
theorem oEl_e {ys : List PyData} : oE xq P (.retL ys) = P (.list ys) := propext Iff.rfl
theorem oEx_e {y : Option PyData} : oE xq P (.exc n y) = xq n y := propext Iff.rfl
theorem oLl_e {ys : List PyData} : oL xq R (.retL ys) = R ys := propext Iff.rfl
theorem oLx_e {y : Option PyData} : oL xq R (.exc n y) = xq n y := propext Iff.rfl
theorem eqD_e {y : PyData} : eqD x y P = (SeqAt.shaped x = true ∧ SeqAt.shaped y = true ∧ P (.bool (PyData.eqv x y))) := propext Iff.rfl
theorem neD_e {y : PyData} : neD x y P = (SeqAt.shaped x = true ∧ SeqAt.shaped y = true ∧ P (.bool (!PyData.eqv x y))) := propext Iff.rfl
theorem inD_t {ds : List PyData} : inD x (.tuple ds) P = (SeqAt.shaped x = true ∧ SeqAt.shaped (.tuple ds) = true ∧ P (.bool (ds.any fun z => PyData.eqv z x))) := propext Iff.rfl
theorem inD_l {ds : List PyData} : inD x (.list ds) P = (SeqAt.shaped x = true ∧ SeqAt.shaped (.list ds) = true ∧ P (.bool (ds.any fun z => PyData.eqv z x))) := propext Iff.rfl
theorem ninD_t {ds : List PyData} : ninD x (.tuple ds) P = (SeqAt.shaped x = true ∧ SeqAt.shaped (.tuple ds) = true ∧ P (.bool (!ds.any fun z => PyData.eqv z x))) := propext Iff.rfl
theorem ninD_l {ds : List PyData} : ninD x (.list ds) P = (SeqAt.shaped x = true ∧ SeqAt.shaped (.list ds) = true ∧ P (.bool (!ds.any fun z => PyData.eqv z x))) := propext Iff.rfl
end
/-- a statement apart: what follows is a letter -/
theorem seq_g {a b : STd} {xq : XQ} {ρ : List EV} {D : DEnds} (h : ∀ K : List EV → Prop, (∀ ρ', b xq ρ' D → K ρ') → a xq ρ { D with nx := K }) : dSeq a b xq ρ D := h _ fun _ q => q
section
variable {P : PyData → Prop} {i j : Int} {xs ys ds : List PyData} {a b : Str} {x y : PyData}
theorem addD_ii : addD (.int i) (.int j) P = P (.int (i + j)) := propext Iff.rfl
theorem addD_ss : addD (.str a) (.str b) P = (a.length + b.length ≤ 1000000 ∧ P (.str (a ++ b))) := propext Iff.rfl
theorem addD_tt : addD (.tuple xs) (.tuple ys) P = (xs.length + ys.length ≤ 100000 ∧ P (.tuple (xs ++ ys))) := propext Iff.rfl
theorem addD_ll : addD (.list xs) (.list ys) P = (xs.length + ys.length ≤ 100000 ∧ P (.list (xs ++ ys))) := propext Iff.rfl
theorem subD_ii : subD (.int i) (.int j) P = P (.int (i - j)) := propext Iff.rfl
theorem mulD_ii : mulD (.int i) (.int j) P = (i.natAbs.log2 + j.natAbs.log2 < 1000000 ∧ P (.int (i * j))) := propext Iff.rfl
theorem mulD_ti : mulD (.tuple xs) (.int j) P = (j ≤ 1000 ∧ -1000 ≤ j ∧ xs.length ≤ 100 ∧ P (.tuple (List.replicate j.toNat xs).flatten)) := propext Iff.rfl
theorem mulD_li : mulD (.list xs) (.int j) P = (j ≤ 1000 ∧ -1000 ≤ j ∧ xs.length ≤ 100 ∧ P (.list (List.replicate j.toNat xs).flatten)) := propext Iff.rfl
theorem fdivD_ii : fdivD (.int i) (.int j) P = (0 < j ∧ j.natAbs.log2 < 9000 ∧ P (.int (i / j))) := propext Iff.rfl
theorem modD_ii : modD (.int i) (.int j) P = (0 < j ∧ P (.int (i % j))) := propext Iff.rfl
theorem powD_ii : powD (.int i) (.int j) P = ((0 ≤ j ∧ j ≤ 1000000 ∧ i.natAbs < 2 ^ 64) ∧ P (.int (i ^ j.toNat))) := propext Iff.rfl
theorem cmpD_ii {f : Int → Int → Bool} : cmpD f (.int i) (.int j) P = P (.bool (f i j)) := propext Iff.rfl
theorem isD_n : isD x .none P = P (.bool (isN x)) := propext Iff.rfl
theorem notD_n : notD x .none P = P (.bool (!isN x)) := propext Iff.rfl
theorem isN_none : isN .none = true := rfl
theorem isN_int : isN (.int i) = false := rfl
theorem isN_str : isN (.str a) = false := rfl
theorem isN_tuple : isN (.tuple xs) = false := rfl
theorem isN_list : isN (.list xs) = false := rfl
theorem ixD_t : ixD (.tuple xs) (.int i) P = (match atI xs i with | some d => P d | none => False) := propext Iff.rfl
theorem ixD_l : ixD (.list xs) (.int i) P = (match atI xs i with | some d => P d | none => False) := propext Iff.rfl
theorem slD_t {l h : Option Int} : slD (.tuple xs) l h P = P (.tuple (cutD xs l h)) := propext Iff.rfl
theorem slD_l {l h : Option Int} : slD (.list xs) l h P = P (.list (cutD xs l h)) := propext Iff.rfl
theorem lenD_t : lenD [.tuple xs] P = P (.int xs.length) := propext Iff.rfl
theorem lenD_l : lenD [.list xs] P = P (.int xs.length) := propext Iff.rfl
theorem tupleD_t : tupleD [.tuple xs] P = P (.tuple xs) := propext Iff.rfl
theorem tupleD_l : tupleD [.list xs] P = P (.tuple xs) := propext Iff.rfl
theorem listD_t : listD [.tuple xs] P = P (.list xs) := propext Iff.rfl
theorem listD_l : listD [.list xs] P = P (.list xs) := propext Iff.rfl
theorem min2D_ii : min2D [.int i, .int j] P = P (.int (if j < i then j else i)) := propext Iff.rfl
theorem max2D_ii : max2D [.int i, .int j] P = P (.int (if j > i then j else i)) := propext Iff.rfl
theorem absD_i : absD [.int i] P = P (.int (if i < 0 then -i else i)) := propext Iff.rfl
theorem intD_i : intD [.int i] P = P (.int i) := propext Iff.rfl
theorem intD_b {k : Bool} : intD [.bool k] P = P (.int (if k then 1 else 0)) := propext Iff.rfl
theorem seqD_t {R : List PyData → Prop} : seqD (.tuple xs) R = R xs := propext Iff.rfl
theorem seqD_l {R : List PyData → Prop} : seqD (.list xs) R = R xs := propext Iff.rfl
theorem dVar_at {k : Nat} {xq : XQ} {ρ : List EV} (h : ρ[k]? = some (.d x)) (p : P x) : dVar k xq ρ P := by unfold dVar; rw [h]; exact p
theorem at0 {x : PyData} {xs : List PyData} : atI (x :: xs) (0 : Int) = some x := atI_nat (j := 0) rfl
theorem at1 {x y : PyData} {xs : List PyData} : atI (x :: y :: xs) (1 : Int) = some y := atI_nat (j := 1) rfl
theorem at2 {x y z : PyData} {xs : List PyData} : atI (x :: y :: z :: xs) (2 : Int) = some z := atI_nat (j := 2) rfl
theorem at3 {x y z u : PyData} {xs : List PyData} : atI (x :: y :: z :: u :: xs) (3 : Int) = some u := atI_nat (j := 3) rfl
/-! families -/
variable {n k r c : Nat} {f : Nat → PyData}
theorem ixD_row (h : k < n) : ixD (rowD n f) (.int (k : Nat)) P = P (f k) := by
  unfold rowD
  rw [ixD_t, atI_rng f h]
theorem ixD_rowL (h : k < n) : ixD (.list ((List.range n).map f)) (.int (k : Nat)) P = P (f k) := by
  rw [ixD_l, atI_rng f h]
theorem ixD_rowT (h : k < n) : ixD (.tuple ((List.range n).map f)) (.int (k : Nat)) P = P (f k) := by
  rw [ixD_t, atI_rng f h]
theorem len_row : lenD [rowD n f] P = P (.int (n : Nat)) := by
  unfold rowD
  rw [lenD_t, List.length_map, List.length_range]
theorem seqD_row {R : List PyData → Prop} : seqD (rowD n f) R = R ((List.range n).map f) := propext Iff.rfl
theorem tupleD_rng : tupleD [.list ((List.range n).map f)] P = P (rowD n f) := propext Iff.rfl
theorem ixD_st {g : Nat → Nat → Cell} (h : k < r) : ixD (stD r c g) (.int (k : Nat)) P = P (rowD c fun j => cellD (g k j)) := ixD_row h
theorem ixD_side {g : Nat → Option Int} (h : k < n) : ixD (sideD n g) (.int (k : Nat)) P = P (optD (g k)) := ixD_row h
theorem ixD_c0 {g : Cell} : ixD (cellD g) (.int 0) P = P (optD g.kept) := propext Iff.rfl
theorem ixD_c1 {g : Cell} : ixD (cellD g) (.int 1) P = P (optD g.right) := propext Iff.rfl
theorem ixD_c2 {g : Cell} : ixD (cellD g) (.int 2) P = P (optD g.down) := propext Iff.rfl
theorem ixD_n0 {q : Kd} : ixD (netD q r c) (.int 0) P = P (.str (kdS q)) := propext Iff.rfl
theorem ixD_n1 {q : Kd} : ixD (netD q r c) (.int 1) P = P (.int (r : Nat)) := propext Iff.rfl
theorem ixD_n2 {q : Kd} : ixD (netD q r c) (.int 2) P = P (.int (c : Nat)) := propext Iff.rfl
theorem ixD_f0 {L T : Nat → List (Option Int)} : ixD (feedD r c L T) (.int 0) P = P (rowD r fun i => lineD (L i)) := propext Iff.rfl
theorem ixD_f1 {L T : Nat → List (Option Int)} : ixD (feedD r c L T) (.int 1) P = P (rowD c fun j => lineD (T j)) := propext Iff.rfl
theorem eqv_ii {i j : Int} : PyData.eqv (.int i) (.int j) = (i == j) := by rw [PyData.eqv]
end
mutual
theorem canLay_optD (o : Option Int) : (optD o).canLay0 = true := by cases o <;> rfl
end
theorem flat_optD (o : Option Int) : flat (optD o) = true := by cases o <;> rfl
theorem flat_cellD (o : Cell) : flat (cellD o) = true := by simp [cellD, flat, flatAll, flat_optD]
theorem flatAll_of {ds : List PyData} : (∀ d ∈ ds, flat d = true) → flatAll ds = true := by
  intro h
  induction ds with
  | nil => rfl
  | cons d ds ih => simp [flatAll, h d List.mem_cons_self, ih fun x hx => h x (List.mem_cons_of_mem _ hx)]
theorem flat_rowD {n : Nat} {f : Nat → PyData} (h : ∀ i, i < n → flat (f i) = true) : flat (rowD n f) = true := by
  show flatAll _ = true
  refine flatAll_of fun d hd => ?_
  obtain ⟨i, hi, rfl⟩ := List.mem_map.mp hd
  exact h i (List.mem_range.mp hi)
theorem flat_stD {r c : Nat} {f : Nat → Nat → Cell} : flat (stD r c f) = true := flat_rowD fun _ _ => flat_rowD fun _ _ => flat_cellD _
theorem flat_tabD {r c : Nat} {f : Nat → Nat → Option Int} : flat (tabD r c f) = true := flat_rowD fun _ _ => flat_rowD fun _ _ => flat_optD _
theorem flat_sideD {n : Nat} {f : Nat → Option Int} : flat (sideD n f) = true := flat_rowD fun _ _ => flat_optD _
theorem flat_rngT {n : Nat} {f : Nat → PyData} (h : ∀ i, i < n → flat (f i) = true) : flatAll ((List.range n).map f) = true := flat_rowD h
end DL

/-! ME2: the operations on dicts, own lists, halls at known kinds. -/
namespace DL
open PySem PySem.Spec L2
section
variable {xq : XQ} {ρ : List EV} {D : DEnds} {P : PyData → Prop} {R : List PyData → Prop} {Z : Bool → Prop} {b : STd} {t u v : ET} {s r : AT} {g : Tg} {i j : Nat} {x : PyData}
theorem dNewT_e : dNewT i xq ρ D = D.nx (ρ.set i (.dic [])) := propext Iff.rfl
theorem dPutT_e : dPutT i t u xq ρ D = (match ρ[i]? with | some (.dic kvs) => u xq (frz ρ) fun d => flat d = true ∧ t xq (frz ρ) fun kk => flat kk = true ∧ ∃ k, kk = keyD k ∧ kvs.length < 100000 ∧ D.nx (ρ.set i (.dic (putT kvs k d))) | _ => False) := propext Iff.rfl
theorem dUpd_e : dUpd i j xq ρ D = (match ρ[i]?, ρ[j]? with | some (.dic kvs), some (.dic more) => i ≠ j ∧ kvs.length + more.length ≤ 100000 ∧ (kvs ≠ [] ∨ HashNd more) ∧ D.nx (ρ.set i (.dic (putsT kvs more))) | _, _ => False) := propext Iff.rfl
theorem dForC_e : dForC s g b xq ρ D = s xq (frz ρ) fun ds => flatAll ds = true ∧ forD g.d (b xq) ds ρ D := propext Iff.rfl
theorem dPopV_e : dPopV i t j xq ρ D = (match ρ[i]? with | some (.own ds) => t xq (frz ρ) fun k => ∃ (n : Nat) (d : PyData), k = .int (n : Nat) ∧ n ≤ 100000 ∧ ds[n]? = some d ∧ D.nx ((ρ.set i (.own (ds.eraseIdx n))).set j (.d d)) | _ => False) := propext Iff.rfl
theorem dRem_e : dRem i t xq ρ D = (match ρ[i]? with | some (.own ds) => t xq ρ fun d => SeqAt.shaped d = true ∧ PyData.canLayAll0 ds = true ∧ ∃ j, SeqAt.dataPlace ds d = some j ∧ D.nx (ρ.set i (.own (ds.eraseIdx j))) | _ => False) := propext Iff.rfl
theorem dWorks_e {w j : Nat} {ns : List Str} {m : Str} {Fs : List ET} : dWorks w j ns m Fs xq ρ D = (w < ρ.length ∧ j < ρ.length ∧ (∀ F ∈ Fs, dKind ns F xq (ρ.set w .un) fun d => d = .str m) ∧ D.nx (ρ.set w .un)) := propext Iff.rfl
theorem dSwap_e {i p q st : Nat} : dSwap i p q st xq ρ D = (∃ n ds a b, ρ[i]? = some (.deep n ds) ∧ ρ[p]? = some (.d (.int ((a : Nat) : Int))) ∧ ρ[q]? = some (.d (.int ((b : Nat) : Int))) ∧ a < ds.length ∧ b < ds.length ∧ st < ρ.length ∧ D.nx ((ρ.set i (.deep n (swapL ds a b))).set st .un)) := propext Iff.rfl
theorem dRaiseR_e {m : Str} : dRaiseR m t xq ρ D = t xq ρ fun d => xq m (some d) := propext Iff.rfl
theorem dTold_e : dTold t xq ρ D = t (fun n r => n = "NoSchedule" ∧ ∃ d, r = some d ∧ D.rt (.ret (.tuple [.str "refused", d]))) (onlyD ρ) fun d => D.rt (.ret d) := propext Iff.rfl
theorem dPopD_e : dPopD i t xq ρ D = (match ρ[i]? with | some (.deep n ds) => t xq (frz ρ) fun k => ∃ m : Nat, k = .int (m : Nat) ∧ m < ds.length ∧ m ≤ 100000 ∧ D.nx (ρ.set i (.deep n (ds.eraseIdx m))) | _ => False) := propext Iff.rfl
theorem dInsD_e : dInsD i t s xq ρ D = (match ρ[i]? with | some (.deep n ds) => t xq (frz ρ) fun k => ∃ m : Nat, k = .int (m : Nat) ∧ m ≤ ds.length ∧ n = 0 ∧ ds.length < 100000 ∧ s xq (frz ρ) fun es => flatAll es = true ∧ D.nx (ρ.set i (.deep n (ds.take m ++ [.list es] ++ ds.drop m))) | _ => False) := propext Iff.rfl
theorem dInsP_e : dInsP i t u xq ρ D = (match ρ[i]? with | some (.deep n ds) => t xq (frz ρ) fun k => ∃ a : Nat, k = .int (a : Nat) ∧ a < ds.length ∧ ds.length < 100000 ∧ u xq (frz ρ) fun k => ∃ b : Nat, k = .int (b : Nat) ∧ b < ds.length ∧ D.nx (ρ.set i (.deep n (insPop ds a b))) | _ => False) := propext Iff.rfl
theorem dNewH_e : dNewH i s xq ρ D = s xq ρ fun ds => ∃ net feed, ds = [net, feed] ∧ D.nx (ρ.set i (.hall net feed [])) := propext Iff.rfl
theorem dDo_e {S : DoSpec} : dDo i S t xq ρ D = (match ρ[i]? with | some (.hall net feed kvs) => t xq ρ fun task => S net feed kvs task fun kvs' => D.nx (ρ.set i (.hall net feed kvs')) | _ => False) := propext Iff.rfl
theorem dNetF_e : dNetF t xq ρ P = t xq ρ fun d => match d with | .dict [(.bool true, .tuple [net, _, _])] => P net | _ => False := propext Iff.rfl
theorem dFeedF_e : dFeedF t xq ρ P = t xq ρ fun d => match d with | .dict [(.bool true, .tuple [_, feed, _])] => P feed | _ => False := propext Iff.rfl
theorem dCellsF_e : dCellsF t xq ρ P = t xq ρ fun d => match d with | .dict [(.bool true, .tuple [_, _, ks])] => P (.dict [(.none, ks)]) | _ => False := propext Iff.rfl
theorem dSelf_e : dSelf t xq ρ P = t xq ρ fun d => match d with | .dict [(.bool true, .tuple [a, b, c])] => P (.dict [(.bool true, .tuple [a, b, c])]) | _ => False := propext Iff.rfl
end
theorem keyD_inj {a b : List Int} : keyD a = keyD b ↔ a = b := by
  unfold keyD
  constructor
  · intro h
    injection h with h
    exact List.map_inj_right (fun x y e => by cases e; rfl) |>.mp h
  · intro h; rw [h]
theorem kvD_inj {kvs kvs' : List (List Int × PyData)} (h : kvs'.map kvD = kvs.map kvD) : kvs' = kvs :=
  (List.map_inj_right (fun x y q => by
    unfold kvD at q
    injection q with q
    injection q with q1 q2
    injection q2 with q2 _
    exact Prod.ext (keyD_inj.mp q1) q2)).mp h
theorem dicD_inj {kvs kvs' : List (List Int × PyData)} (h : dicD kvs' = dicD kvs) : kvs' = kvs := by
  unfold dicD at h
  injection h with h
  injection h with h _
  injection h with _ h
  injection h with h
  exact kvD_inj h
section
variable {P : PyData → Prop} {k : List Int} {kvs : List (List Int × PyData)}
theorem inDicD_k : inDicD (keyD k) (dicD kvs) P = P (.bool (getT kvs k).isSome) := propext ⟨fun ⟨k', kvs', e1, e2, q⟩ => by rw [keyD_inj.mp e1, dicD_inj e2]; exact q, fun q => ⟨k, kvs, rfl, rfl, q⟩⟩
theorem ninDicD_k : ninDicD (keyD k) (dicD kvs) P = P (.bool (!(getT kvs k).isSome)) := propext ⟨fun ⟨k', kvs', e1, e2, q⟩ => by rw [keyD_inj.mp e1, dicD_inj e2]; exact q, fun q => ⟨k, kvs, rfl, rfl, q⟩⟩
theorem dictPD_k : dictPD [.list (kvs.map kvD)] P = P (dicD (putsT [] kvs)) := propext ⟨fun ⟨kvs', e, q⟩ => by
  injection e with e _
  injection e with e
  rw [kvD_inj e]; exact q, fun q => ⟨kvs, rfl, q⟩⟩
theorem getDicD_k {d : PyData} (h : getT kvs k = some d) : getDicD (dicD kvs) (keyD k) P = P d := propext ⟨fun ⟨kvs', k', d', e1, e2, e3, q⟩ => by
  rw [← dicD_inj e1, ← keyD_inj.mp e2, h] at e3
  cases e3
  exact q, fun q => ⟨kvs, k, d, rfl, rfl, h, q⟩⟩
theorem key3 {a b c : Int} : PyData.tuple [.int a, .int b, .int c] = keyD [a, b, c] := rfl
theorem flat_keyD (k : List Int) : flat (keyD k) = true := by
  show flatAll (k.map PyData.int) = true
  refine flatAll_of fun d hd => ?_
  obtain ⟨i, _, rfl⟩ := List.mem_map.mp hd
  rfl
theorem canLay_keyD (k : List Int) : (keyD k).canLay0 = true := by
  show (PyData.tuple (k.map .int)).canLay0 = true
  rw [PyData.canLay0]
  induction k with
  | nil => rfl
  | cons a r ih => simpa [PyData.canLayAll0, PyData.canLay0] using ih
theorem depth_ints (k : List Int) : PyData.depthAll (k.map .int) ≤ 1 := by
  induction k with
  | nil => simp [PyData.depthAll]
  | cons a r ih =>
    simp only [List.map_cons, PyData.depthAll, PyData.depth]
    omega
theorem shaped_keyD (k : List Int) : SeqAt.shaped (keyD k) = true := by
  unfold SeqAt.shaped
  rw [canLay_keyD]
  have := depth_ints k
  simp only [Bool.true_and, decide_eq_true_eq]
  show PyData.depth (.tuple (k.map .int)) ≤ 64
  rw [PyData.depth]
  omega
theorem eqvAll_ints : ∀ a b : List Int, PyData.eqvAll (a.map .int) (b.map .int) = decide (a = b)
  | [], [] => by simp [PyData.eqvAll]
  | [], _ :: _ => by simp [PyData.eqvAll]
  | _ :: _, [] => by simp [PyData.eqvAll]
  | x :: a, y :: b => by
    simp only [List.map_cons, PyData.eqvAll, PyData.eqv, eqvAll_ints a b]
    by_cases h : x = y
    · subst h; simp
    · simp [h]
theorem eqv_keyD (a b : List Int) : PyData.eqv (keyD a) (keyD b) = decide (a = b) := by
  unfold keyD
  rw [PyData.eqv, eqvAll_ints]
end
end DL

/-! TX: transformers of law k19: a plain end, `_law_good`, a comprehension whose element may raise. -/
namespace DL
open PySem PySem.Spec L2
/-- a plain end -/
def oR (P : PyData → Prop) : O → Prop
  | .ret d => P d
  | _ => False
def oT (P : PyData → Prop) (T : Prop) : O → Prop
  | .ret d => P d
  | .retL _ => False
  | .exc n r => n = "NoText" ∧ r = none ∧ T
def dGood (Ssame Sread Slaw : DSpec) (i : Nat) : STd := fun _ ρ D => ∃ z : Str, ρ[i]? = some (.d (.str z)) ∧
  Sread [.str z] (oT (fun a => Slaw [.str z] (oR fun b => Ssame [a, b] (oR fun r => D.rt (.ret r)))) (Slaw [.str z] (oR fun b => D.rt (.ret (.bool (isN b))))))
def dLcX (i : AT) (g : Tg) (f : ET) (vs : List Nat) : ET := fun xq ρ P => i xq ρ fun ds => ds.length ≤ 100000 ∧ lcD (fun x => g.d x (wipeD ρ vs)) (dYes nxq) (f xq) ds fun ys => P (.list ys)
theorem dLcX_e {i : AT} {g : Tg} {f : ET} {vs : List Nat} {xq : XQ} {ρ : List EV} {P : PyData → Prop} : dLcX i g f vs xq ρ P = i xq ρ fun ds => ds.length ≤ 100000 ∧ lcD (fun x => g.d x (wipeD ρ vs)) (dYes nxq) (f xq) ds fun ys => P (.list ys) := propext Iff.rfl
theorem dGood_e {Ssame Sread Slaw : DSpec} {i : Nat} {xq : XQ} {ρ : List EV} {D : DEnds} : dGood Ssame Sread Slaw i xq ρ D = ∃ z : Str, ρ[i]? = some (.d (.str z)) ∧
  Sread [.str z] (oT (fun a => Slaw [.str z] (oR fun b => Ssame [a, b] (oR fun r => D.rt (.ret r)))) (Slaw [.str z] (oR fun b => D.rt (.ret (.bool (isN b)))))) := propext Iff.rfl
theorem oR_e {P : PyData → Prop} {d : PyData} : oR P (.ret d) = P d := propext Iff.rfl
theorem oT_e {P : PyData → Prop} {T : Prop} {d : PyData} : oT P T (.ret d) = P d := propext Iff.rfl
theorem oTx_e {P : PyData → Prop} {T : Prop} {n : Str} {r : Option PyData} : oT P T (.exc n r) = (n = "NoText" ∧ r = none ∧ T) := propext Iff.rfl
end DL

/-! DS1: text * number. -/
namespace DL
open PySem PySem.Spec L2
def repS (a : Str) (k : Int) : Str := ⟨(List.replicate k.toNat a.cps).foldl (· ++ ·) #[]⟩
def mulSD : OT := fun x y P => match x, y with
  | .str a, .int k => (2 ≤ k ∧ k ≤ 1000 ∧ 1 ≤ a.length ∧ a.length ≤ 1000 ∧ (repS a k).length ≤ 1000000) ∧ P (.str (repS a k))
  | _, _ => False
variable {X : Cx} {A : Act}
theorem op_mulS : OpR X (binaryOp .Mult) (fun x y H Q => ∃ a k, x = .str a ∧ y = .int k ∧ (2 ≤ k ∧ k ≤ 1000 ∧ 1 ≤ a.length ∧ a.length ≤ 1000 ∧ (repS a k).length ≤ 1000000) ∧ Q (.str (repS a k)) H) := by
  intro pins s σ H x y v u Q I rx ry h
  obtain ⟨a, k, rfl, rfl, ⟨h1, h2, h3, h4, h5⟩, q⟩ := h
  obtain ⟨t, rfl⟩ := rx
  obtain ⟨t', rfl⟩ := ry
  have c1 : (decide (k < -(2 ^ 63 : Int)) || decide (k ≥ 2 ^ 63)) = false := by rw [decide_eq_false (by omega), decide_eq_false (by omega)]; rfl
  have c2 : ¬ k < 1 := by omega
  have c3 : (k == 1 || a.length == 0) = false := by
    have e1 : (k == 1) = false := by simpa using (by omega : ¬ k = 1)
    have e2 : (a.length == 0) = false := by simpa using (by omega : ¬ a.length = 0)
    rw [e1, e2]; rfl
  refine PySem.P.mul_str c1 (fun _ _ hgt => ?_) (fun _ _ => ?_) ?_
  · have hq : (1000 : Int) ≤ (2 ^ 63 - 1) / k := by
      rw [Int.le_ediv_iff_mul_le (by omega)]
      omega
    omega
  · have : a.length * k.toNat ≤ 1000 * 1000 := Nat.mul_le_mul h4 (by omega)
    show decide (a.length * k.toNat > sizeLine) = false
    exact decide_eq_false (Nat.not_lt.mpr (Nat.le_trans this (by decide)))
  · rw [if_neg c2, if_neg (by rw [c3]; decide)]
    exact ⟨Nat.le_trans h5 (by decide), .str (repS a k), H, I.tok _, ⟨_, rfl⟩, q⟩
theorem od_mulS : OD X A (binaryOp .Mult) mulSD := ⟨fun {B H x y dx dy P} o r1 r2 h => by
  cases r1 <;> first | exact False.elim h | skip
  rename_i a
  cases r2 <;> first | exact False.elim h | skip
  rename_i k
  exact OpRw op_mulS ⟨a, k, rfl, rfl, h.1, EPost.at o (.str _) h.2⟩⟩
theorem mulSD_e {a : Str} {k : Int} {P : PyData → Prop} : mulSD (.str a) (.int k) P = ((2 ≤ k ∧ k ≤ 1000 ∧ 1 ≤ a.length ∧ a.length ≤ 1000 ∧ (repS a k).length ≤ 1000000) ∧ P (.str (repS a k))) := propext Iff.rfl
end DL

namespace DL
open PySem PySem.Spec L2
def F_need_net : STd :=
  (dSeq (dAsg (dVar 0) (.tp [1, 2, 3]))
  (dIfS (dOr (asB (dOp ninD (dVar 1) (dC (.tuple [(.str (Str.ofString "product")), (.str (Str.ofString "paths")), (.str (Str.ofString "sorting"))])))) (dOr (dNot (asB (dChain leD leD (dC (.int 1)) (dVar 2) (dC (.int 6))))) (dNot (asB (dChain leD leD (dC (.int 1)) (dVar 3) (dC (.int 6))))))) (dRaise "NoNet") dSkip))
def S_need_net : DSpec := defS 1 4 F_need_net

def F_need_sides : STd :=
  (dIfS (dOr (asB (dOp neD (dCB lenD (dCons (dVar 1) dNil)) (dOp ixD (dVar 0) (dC (.int 1))))) (asB (dOp neD (dCB lenD (dCons (dVar 2) dNil)) (dOp ixD (dVar 0) (dC (.int 2)))))) (dRaise "NoFeed") dSkip)
def S_need_sides : DSpec := defS 3 3 F_need_sides

def F_need_beats : STd :=
  (dIfS (dNot (asB (dChain leD leD (dC (.int 0)) (dVar 0) (dC (.int 60))))) (dRaise "NoCount") dSkip)
def S_need_beats : DSpec := defS 1 1 F_need_beats

def F_need_run : STd :=
  (dSeq (dDrop (dCall S_need_net (dCons (dVar 0) dNil)))
  (dSeq (dDrop (dCall S_need_sides (dCons (dVar 0) (dCons (dOp ixD (dVar 1) (dC (.int 0))) (dCons (dOp ixD (dVar 1) (dC (.int 1))) dNil)))))
  (dDrop (dCall S_need_beats (dCons (dVar 2) dNil)))))
def S_need_run : DSpec := defS 3 3 F_need_run

def F_first_of : STd :=
  (dSeq (dAsg (dTup (dCons (dIf (asB (dOp eqD (dOp ixD (dVar 0) (dC (.int 0))) (dC (.str (Str.ofString "product"))))) (dC (.int 0)) (dC .none)) (dCons (dC .none) (dCons (dC .none) dNil)))) (.nm 1))
  (dRet (dCB tupleD (dCons (dLc (dRng1 (dCons (dOp ixD (dVar 0) (dC (.int 1))) dNil)) (.nm 2) dYes (dCB tupleD (dCons (dLc (dRng1 (dCons (dOp ixD (dVar 0) (dC (.int 2))) dNil)) (.nm 3) dYes (dVar 1) [3]) dNil)) [2]) dNil))))
def S_first_of : DSpec := defS 1 4 F_first_of

def F_sorted_in : STd :=
  (dSeq (dIfS (asB (dOp isD (dVar 1) (dC .none))) (dRet (dTup (dCons (dVar 0) (dCons (dC .none) (dCons (dVar 2) dNil))))) dSkip)
  (dSeq (dIfS (asB (dOp isD (dVar 0) (dC .none))) (dRet (dTup (dCons (dVar 1) (dCons (dC .none) (dCons (dVar 2) dNil))))) dSkip)
  (dRet (dTup (dCons (dCB min2D (dCons (dVar 0) (dCons (dVar 1) dNil))) (dCons (dCB max2D (dCons (dVar 0) (dCons (dVar 1) dNil))) (dCons (dVar 2) dNil)))))))
def S_sorted_in : DSpec := defS 3 3 F_sorted_in

def F_cell_behind : STd :=
  (dSeq (dIfS (asB (dOp eqD (dVar 0) (dC (.str (Str.ofString "sorting"))))) (dRet (dCall S_sorted_in (dCons (dVar 1) (dCons (dVar 2) (dCons (dVar 3) dNil))))) dSkip)
  (dSeq (dIfS (dOr (asB (dOp isD (dVar 2) (dC .none))) (asB (dOp isD (dVar 3) (dC .none)))) (dRet (dTup (dCons (dVar 1) (dCons (dVar 2) (dCons (dVar 3) dNil))))) dSkip)
  (dSeq (dIfS (asB (dOp eqD (dVar 0) (dC (.str (Str.ofString "product"))))) (dRet (dTup (dCons (dOp addD (dVar 1) (dOp mulD (dVar 2) (dVar 3))) (dCons (dVar 2) (dCons (dVar 3) dNil))))) dSkip)
  (dRet (dTup (dCons (dIf (asB (dOp isD (dVar 1) (dC .none))) (dOp addD (dVar 2) (dVar 3)) (dCB min2D (dCons (dVar 1) (dCons (dOp addD (dVar 2) (dVar 3)) dNil)))) (dCons (dVar 2) (dCons (dVar 3) dNil))))))))
def S_cell_behind : DSpec := defS 4 4 F_cell_behind

def F_state_behind : STd :=
  (dSeq (dAsgL dNil 4)
  (dSeq (dFor (dRng1 (dCons (dOp ixD (dVar 0) (dC (.int 1))) dNil)) (.nm 5) (dSeq (dAsgL dNil 6)
  (dSeq (dFor (dRng1 (dCons (dOp ixD (dVar 0) (dC (.int 2))) dNil)) (.nm 7) (dSeq (dAsg (dIf (asB (dOp eqD (dVar 7) (dC (.int 0)))) (dOp ixD (dVar 2) (dVar 5)) (dOp ixD (dOp ixD (dOp ixD (dVar 1) (dVar 5)) (dOp subD (dVar 7) (dC (.int 1)))) (dC (.int 1)))) (.nm 8))
  (dSeq (dAsg (dIf (asB (dOp eqD (dVar 5) (dC (.int 0)))) (dOp ixD (dVar 3) (dVar 7)) (dOp ixD (dOp ixD (dOp ixD (dVar 1) (dOp subD (dVar 5) (dC (.int 1)))) (dVar 7)) (dC (.int 2)))) (.nm 9))
  (dApp 6 (dCall S_cell_behind (dCons (dOp ixD (dVar 0) (dC (.int 0))) (dCons (dOp ixD (dOp ixD (dOp ixD (dVar 1) (dVar 5)) (dVar 7)) (dC (.int 0))) (dCons (dVar 8) (dCons (dVar 9) dNil)))))))))
  (dAppA 4 (dCB tupleD (dCons (dVar 6) dNil))))))
  (dRet (dCB tupleD (dCons (dVar 4) dNil)))))
def S_state_behind : DSpec := defS 4 10 F_state_behind

def F_fed_now : STd :=
  (dRet (dLc (dItems (dVar 0)) (.nm 2) dYes (dIf (asB (dOp ltD (dVar 1) (dCB lenD (dCons (dVar 2) dNil)))) (dOp ixD (dVar 2) (dVar 1)) (dC .none)) [2]))
def S_fed_now : DSpec := defS 2 3 F_fed_now

def F_run : STd :=
  (dSeq (dDrop (dCall S_need_run (dCons (dVar 0) (dCons (dVar 1) (dCons (dVar 2) dNil)))))
  (dSeq (dAsgL dNil 3)
  (dSeq (dAsg (dCall S_first_of (dCons (dVar 0) dNil)) (.nm 4))
  (dSeq (dFor (dRng1 (dCons (dVar 2) dNil)) (.nm 5) (dSeq (dAsg (dCall S_state_behind (dCons (dVar 0) (dCons (dVar 4) (dCons (dCall S_fed_now (dCons (dOp ixD (dVar 1) (dC (.int 0))) (dCons (dVar 5) dNil))) (dCons (dCall S_fed_now (dCons (dOp ixD (dVar 1) (dC (.int 1))) (dCons (dVar 5) dNil))) dNil))))) (.nm 4))
  (dApp 3 (dVar 4))))
  (dRetL 3)))))
def S_run : DSpec := defS 3 6 F_run

def F_kept_in : STd :=
  (dRet (dCB tupleD (dCons (dLc (dItems (dVar 0)) (.nm 1) dYes (dCB tupleD (dCons (dLc (dItems (dVar 1)) (.nm 2) dYes (dOp ixD (dVar 2) (dC (.int 0))) [2]) dNil)) [1]) dNil)))
def S_kept_in : DSpec := defS 1 3 F_kept_in

def F_fed_at : STd :=
  (dRet (dIf (asB (dChain leD ltD (dC (.int 0)) (dVar 1) (dCB lenD (dCons (dVar 0) dNil)))) (dOp ixD (dVar 0) (dVar 1)) (dC .none)))
def S_fed_at : DSpec := defS 2 2 F_fed_at

def F_tasks_of : STd :=
  (dSeq (dAsgL dNil 2)
  (dSeq (dFor (dRng1 (dCons (dVar 1) dNil)) (.nm 3) (dFor (dRng1 (dCons (dOp ixD (dVar 0) (dC (.int 1))) dNil)) (.nm 4) (dExt 2 (dLc (dRng1 (dCons (dOp ixD (dVar 0) (dC (.int 2))) dNil)) (.nm 5) dYes (dTup (dCons (dVar 3) (dCons (dVar 4) (dCons (dVar 5) dNil)))) [5]))))
  (dRetL 2)))
def S_tasks_of : DSpec := defS 2 6 F_tasks_of

def F_needed : STd :=
  (dSeq (dAsg (dVar 0) (.tp [1, 2, 3]))
  (dSeq (dAsg (dLst (dCons (dTup (dCons (dOp subD (dVar 1) (dC (.int 1))) (dCons (dVar 2) (dCons (dVar 3) dNil)))) (dCons (dTup (dCons (dOp subD (dVar 1) (dC (.int 1))) (dCons (dVar 2) (dCons (dOp subD (dVar 3) (dC (.int 1))) dNil)))) (dCons (dTup (dCons (dOp subD (dVar 1) (dC (.int 1))) (dCons (dOp subD (dVar 2) (dC (.int 1))) (dCons (dVar 3) dNil)))) dNil)))) (.nm 4))
  (dRet (dLc (dItems (dVar 4)) (.nm 5) (asB (dOp geD (dCB minD (dCons (dVar 5) dNil)) (dC (.int 0)))) (dVar 5) [5]))))
def S_needed : DSpec := defS 1 6 F_needed

def F_first_wrong : STd :=
  (dSeq (dAsg (dCB dictPD (dCons (dLc (dItems (dVar 0)) (.nm 8) dYes (dTup (dCons (dVar 8) (dCons (dC (.bool true)) dNil))) [8]) dNil)) (.nm 2))
  (dSeq (dNewT 3)
  (dSeq (dFor (dEnum (dVar 1)) (.tp [4, 5]) (dSeq (dNewT 6)
  (dSeq (dFor (dEnum (dVar 5)) (.tp [7, 8]) (dIfS (asB (dOp notD (dVar 8) (dC .none))) (dSeq (dIfS (asB (dOp ninDicD (dVar 8) (dVar 2))) (dRet (dTup (dCons (dC (.str (Str.ofString "none"))) (dCons (dVar 4) (dCons (dVar 7) dNil))))) dSkip)
  (dSeq (dIfS (dOr (asB (dOp inDicD (dVar 8) (dVar 3))) (asB (dOp inDicD (dVar 8) (dVar 6)))) (dRet (dTup (dCons (dC (.str (Str.ofString "twice"))) (dCons (dVar 4) (dCons (dVar 7) dNil))))) dSkip)
  (dSeq (dIfS (asB (dOp neD (dLc (dItems (dCall S_needed (dCons (dVar 8) dNil))) (.nm 10) (asB (dOp ninDicD (dVar 10) (dVar 3))) (dVar 10) [10]) (dLst dNil))) (dRet (dTup (dCons (dC (.str (Str.ofString "early"))) (dCons (dVar 4) (dCons (dVar 7) dNil))))) dSkip)
  (dPutT 6 (dVar 8) (dC (.bool true)))))) dSkip))
  (dUpd 3 6))))
  (dSeq (dAsgF (dLc (dItems (dVar 0)) (.nm 8) (asB (dOp ninDicD (dVar 8) (dVar 3))) (dVar 8) [8]) (.nm 9))
  (dRet (dIf (asB (dOp neD (dVar 9) (dLst dNil))) (dTup (dCons (dC (.str (Str.ofString "missing"))) (dCons (dOp ixD (dVar 9) (dC (.int 0))) dNil))) (dC .none)))))))
def S_first_wrong : DSpec := defS 2 11 F_first_wrong

def F_wrong : STd :=
  (dSeq (dDrop (dCall S_need_net (dCons (dVar 0) dNil)))
  (dSeq (dDrop (dCall S_need_beats (dCons (dVar 1) dNil)))
  (dRet (dCall S_first_wrong (dCons (dCall S_tasks_of (dCons (dVar 0) (dCons (dVar 1) dNil))) (dCons (dVar 2) dNil))))))
def S_wrong : DSpec := defS 3 3 F_wrong

def F_Hall_part : STd :=
  (dSeq (dIfS (asB (dOp ltD (dOp ixD (dVar 1) (dC (.int 0))) (dC (.int 0)))) (dRet (dIf (dAnd (asB (dOp eqD (dVar 2) (dC (.int 0)))) (asB (dOp eqD (dOp ixD (dNetF (dVar 0)) (dC (.int 0))) (dC (.str (Str.ofString "product")))))) (dC (.int 0)) (dC .none))) dSkip)
  (dRet (dOp ixD (dOp getDicD (dCellsF (dVar 0)) (dVar 1)) (dVar 2))))
def S_Hall_part : DSpec := defS 3 3 F_Hall_part

def F_Hall_took : STd :=
  (dSeq (dAsg (dVar 1) (.tp [2, 3, 4]))
  (dSeq (dAsg (dIf (asB (dOp gtD (dVar 4) (dC (.int 0)))) (dCall S_Hall_part (dCons (dSelf (dVar 0)) (dCons (dTup (dCons (dOp subD (dVar 2) (dC (.int 1))) (dCons (dVar 3) (dCons (dOp subD (dVar 4) (dC (.int 1))) dNil)))) (dCons (dC (.int 1)) dNil)))) (dCall S_fed_at (dCons (dOp ixD (dOp ixD (dFeedF (dVar 0)) (dC (.int 0))) (dVar 3)) (dCons (dVar 2) dNil)))) (.nm 5))
  (dSeq (dAsg (dIf (asB (dOp gtD (dVar 3) (dC (.int 0)))) (dCall S_Hall_part (dCons (dSelf (dVar 0)) (dCons (dTup (dCons (dOp subD (dVar 2) (dC (.int 1))) (dCons (dOp subD (dVar 3) (dC (.int 1))) (dCons (dVar 4) dNil)))) (dCons (dC (.int 2)) dNil)))) (dCall S_fed_at (dCons (dOp ixD (dOp ixD (dFeedF (dVar 0)) (dC (.int 1))) (dVar 4)) (dCons (dVar 2) dNil)))) (.nm 6))
  (dRet (dTup (dCons (dVar 5) (dCons (dVar 6) dNil)))))))
def S_Hall_took : DSpec := defS 2 7 F_Hall_took

def S_Hall_do : DoSpec := doD
  (dCall S_Hall_took (dCons (dSelf (dVar 0)) (dCons (dVar 1) dNil)))
  (dCall S_Hall_part (dCons (dSelf (dVar 0)) (dCons (dOp addD (dTup (dCons (dOp subD (dOp ixD (dVar 1) (dC (.int 0))) (dC (.int 1))) dNil)) (dSl (dVar 1) (dPart (dC (.int 1))) dNoPart)) (dCons (dC (.int 0)) dNil))))
  (dCall S_cell_behind (dCons (dOp ixD (dNetF (dVar 0)) (dC (.int 0))) (dCons (dVar 4) (dCons (dVar 2) (dCons (dVar 3) dNil)))))

def F_folded_run : STd :=
  (dSeq (dDrop (dCall S_need_run (dCons (dVar 0) (dCons (dVar 1) (dCons (dVar 2) dNil)))))
  (dSeq (dAsg (dCall S_first_wrong (dCons (dCall S_tasks_of (dCons (dVar 0) (dCons (dVar 2) dNil))) (dCons (dVar 3) dNil))) (.nm 4))
  (dSeq (dIfS (asB (dOp notD (dVar 4) (dC .none))) (dRaiseR "NoSchedule" (dVar 4)) dSkip)
  (dSeq (dNewH 5 (dCons (dVar 0) (dCons (dVar 1) dNil)))
  (dSeq (dFor (dItems (dVar 3)) (.nm 6) (dFor (dItems (dVar 6)) (.nm 7) (dIfS (asB (dOp notD (dVar 7) (dC .none))) (dDo 5 S_Hall_do (dVar 7)) dSkip)))
  (dSeq (dAsgL dNil 8)
  (dSeq (dFor (dRng1 (dCons (dOp ixD (dVar 0) (dC (.int 1))) dNil)) (.nm 9) (dAppA 8 (dCB tupleD (dCons (dLc (dRng1 (dCons (dOp ixD (dVar 0) (dC (.int 2))) dNil)) (.nm 10) dYes (dCall S_Hall_part (dCons (dSelf (dVar 5)) (dCons (dTup (dCons (dOp subD (dVar 2) (dC (.int 1))) (dCons (dVar 9) (dCons (dVar 10) dNil)))) (dCons (dC (.int 0)) dNil)))) [10]) dNil))))
  (dRet (dCB tupleD (dCons (dVar 8) dNil))))))))))
def S_folded_run : DSpec := defS 4 11 F_folded_run

def F_folded : STd :=
  (dSeq (dDrop (dCall S_need_net (dCons (dVar 0) dNil)))
  (dSeq (dDrop (dCall S_need_beats (dCons (dVar 1) dNil)))
  (dSeq (dAsg (dLc (dItems (dCall S_tasks_of (dCons (dVar 0) (dCons (dC (.int 1)) dNil)))) (.nm 9) dYes (dSl (dVar 9) (dPart (dC (.int 1))) dNoPart) [9]) (.nm 3))
  (dSeq (dIfS (dNot (asB (dChain leD leD (dC (.int 1)) (dVar 2) (dCB lenD (dCons (dVar 3) dNil))))) (dRaise "NoCount") dSkip)
  (dSeq (dAsg (dOp fdivD (dOp subD (dOp addD (dCB lenD (dCons (dVar 3) dNil)) (dVar 2)) (dC (.int 1))) (dVar 2)) (.nm 4))
  (dSeq (dAsgL dNil 5)
  (dSeq (dFor (dRng1 (dCons (dVar 1) dNil)) (.nm 6) (dFor (dRng1 (dCons (dVar 4) dNil)) (.nm 7) (dSeq (dAsg (dLc (dRng1 (dCons (dVar 2) dNil)) (.nm 10) dYes (dOp addD (dOp mulD (dVar 10) (dVar 4)) (dVar 7)) [10]) (.nm 8))
  (dApp 5 (dCB tupleD (dCons (dLc (dItems (dVar 8)) (.nm 11) dYes (dIf (asB (dOp ltD (dVar 11) (dCB lenD (dCons (dVar 3) dNil)))) (dOp addD (dTup (dCons (dVar 6) dNil)) (dOp ixD (dVar 3) (dVar 11))) (dC .none)) [11]) dNil))))))
  (dRetL 5))))))))
def S_folded : DSpec := defS 3 12 F_folded

def F__law_same (S__law_same : DSpec) : STd :=
  (dSeq (dIfS (asB (dIsi2 "tuple" "list" (dVar 1))) (dSeq (dIfS (dOr (dNot (asB (dIsi2 "tuple" "list" (dVar 0)))) (asB (dOp neD (dIsi "list" (dVar 0)) (dIsi "list" (dVar 1))))) (dRet (dC (.bool false))) dSkip)
  (dSeq (dIfS (asB (dOp neD (dCB lenD (dCons (dVar 0) dNil)) (dCB lenD (dCons (dVar 1) dNil)))) (dRet (dC (.bool false))) dSkip)
  (dRet (dOp eqD (dLc (dRng1 (dCons (dCB lenD (dCons (dVar 1) dNil)) dNil)) (.nm 2) (dNot (asB (dCall S__law_same (dCons (dOp ixD (dVar 0) (dVar 2)) (dCons (dOp ixD (dVar 1) (dVar 2)) dNil))))) (dVar 2) [2]) (dLst dNil))))) dSkip)
  (dSeq (dIfS (asB (dOp isD (dVar 1) (dC .none))) (dRet (dOp isD (dVar 0) (dC .none))) dSkip)
  (dSeq (dIfS (asB (dIsi "str" (dVar 1))) (dRet (dAndV (dIsi "str" (dVar 0)) (dOp eqD (dVar 0) (dVar 1)))) dSkip)
  (dSeq (dIfS (dOr (asB (dIsi "bool" (dVar 1))) (asB (dIsi "bool" (dVar 0)))) (dRet (dAndV (dIsi "bool" (dVar 1)) (dAndV (dIsi "bool" (dVar 0)) (dOp eqD (dVar 0) (dVar 1))))) dSkip)
  (dRet (dAndV (dIsi "int" (dVar 0)) (dOp eqD (dVar 0) (dVar 1))))))))
def S__law_same : Nat → DSpec
  | 0 => fun _ _ => False
  | n + 1 => defS 2 3 (F__law_same (S__law_same n))

def F__law_net : STd :=
  (dSeq (dAsg (dOp ixD (dLst (dCons (dC (.str (Str.ofString "product"))) (dCons (dC (.str (Str.ofString "paths"))) (dCons (dC (.str (Str.ofString "sorting"))) dNil)))) (dCall S__law_drawn (dCons (dVar 0) (dCons (dC (.int 3)) dNil)))) (.nm 1))
  (dSeq (dAsg (dOp ixD (dLst (dCons (dC (.int 2)) (dCons (dC (.int 3)) (dCons (dC (.int 6)) dNil)))) (dCall S__law_drawn (dCons (dVar 0) (dCons (dC (.int 3)) dNil)))) (.nm 2))
  (dRet (dTup (dCons (dVar 1) (dCons (dOp addD (dC (.int 1)) (dCall S__law_drawn (dCons (dVar 0) (dCons (dVar 2) dNil)))) (dCons (dOp addD (dC (.int 1)) (dCall S__law_drawn (dCons (dVar 0) (dCons (dVar 2) dNil)))) dNil)))))))
def S__law_net : DSpec := defS 1 3 F__law_net

def F__law_number : STd :=
  (dSeq (dAsg (dLst (dCons (dOp subD (dCall S__law_drawn (dCons (dVar 0) (dCons (dC (.int 4)) dNil))) (dC (.int 1))) (dCons (dOp subD (dCall S__law_drawn (dCons (dVar 0) (dCons (dC (.int 40)) dNil))) (dC (.int 20))) (dCons (dOp subD (dCall S__law_drawn (dCons (dVar 0) (dCons (dOp powD (dC (.int 10)) (dC (.int 30))) dNil))) (dOp powD (dC (.int 10)) (dC (.int 29)))) dNil)))) (.nm 1))
  (dRet (dOp ixD (dVar 1) (dOp ixD (dLst (dCons (dC (.int 0)) (dCons (dC (.int 1)) (dCons (dC (.int 1)) (dCons (dC (.int 1)) (dCons (dC (.int 1)) (dCons (dC (.int 2)) dNil))))))) (dCall S__law_drawn (dCons (dVar 0) (dCons (dC (.int 6)) dNil)))))))
def S__law_number : DSpec := defS 1 2 F__law_number

def F__law_line : STd :=
  (dSeq (dAsgL dNil 2)
  (dSeq (dFor (dRng1 (dCons (dCall S__law_drawn (dCons (dVar 0) (dCons (dOp addD (dVar 1) (dC (.int 1))) dNil))) dNil)) (.nm 3) (dApp 2 (dOp ixD (dLst (dCons (dCall S__law_number (dCons (dVar 0) dNil)) (dCons (dC .none) dNil))) (dCB intD (dCons (dOp eqD (dCall S__law_drawn (dCons (dVar 0) (dCons (dC (.int 5)) dNil))) (dC (.int 4))) dNil)))))
  (dRet (dCB tupleD (dCons (dVar 2) dNil)))))
def S__law_line : DSpec := defS 2 4 F__law_line

def F__law_feed : STd :=
  (dSeq (dAsg (dCB tupleD (dCons (dLc (dRng1 (dCons (dOp ixD (dVar 1) (dC (.int 1))) dNil)) (.nm 4) dYes (dCall S__law_line (dCons (dVar 0) (dCons (dVar 2) dNil))) [4]) dNil)) (.nm 3))
  (dRet (dTup (dCons (dVar 3) (dCons (dCB tupleD (dCons (dLc (dRng1 (dCons (dOp ixD (dVar 1) (dC (.int 2))) dNil)) (.nm 5) dYes (dCall S__law_line (dCons (dVar 0) (dCons (dVar 2) dNil))) [5]) dNil)) dNil)))))
def S__law_feed : DSpec := defS 3 6 F__law_feed

def F__law_turned : STd :=
  (dSeq (dAsgD 0 (dLcD (dItems (dVar 1)) (.nm 7) dYes (dListL (dVar 7)) [7]) 2)
  (dSeq (dAsgA (dCall S__law_drawn (dCons (dVar 0) (dCons (dCB lenD (dCons (dVar 2) dNil)) dNil))) (.nm 3))
  (dSeq (dAsgA (dCall S__law_drawn (dCons (dVar 0) (dCons (dCB lenD (dCons (dVar 2) dNil)) dNil))) (.nm 4))
  (dSeq (dAsgA (dCall S__law_drawn (dCons (dVar 0) (dCons (dCB lenD (dCons (dOp ixD (dVar 2) (dC (.int 0))) dNil)) dNil))) (.nm 5))
  (dSeq (dAsg (dCall S__law_drawn (dCons (dVar 0) (dCons (dC (.int 6)) dNil))) (.nm 6))
  (dSeq (dIfS (asB (dOp eqD (dVar 6) (dC (.int 0)))) (dPopD 2 (dVar 3)) (dIfS (asB (dOp eqD (dVar 6) (dC (.int 1)))) (dInsD 2 (dVar 4) (dListL (dOp ixD (dVar 2) (dVar 3)))) (dIfS (asB (dOp eqD (dVar 6) (dC (.int 2)))) (dSwap 2 3 4 7) (dIfS (asB (dOp eqD (dVar 6) (dC (.int 3)))) (dPut 2 (dPx 2 (dPv 2) (dVar 3)) (dVar 5) (dOp ixD (dOp ixD (dVar 2) (dVar 4)) (dVar 5))) (dPut 2 (dPx 2 (dPv 2) (dVar 3)) (dVar 5) (dOp ixD (dLst (dCons (dC .none) (dCons (dTup (dCons (dC (.int 0)) (dCons (dC (.int 6)) (dCons (dC (.int 0)) dNil)))) (dCons (dTup (dCons (dC (.int 4)) (dCons (dC (.int 0)) (dCons (dC (.int 0)) dNil)))) (dCons (dTup (dCons (dC (.int 0)) (dCons (dC (.int 0)) (dCons (dC (.int 6)) dNil)))) (dCons (dTup (dCons (dOp subD (dC (.int 0)) (dC (.int 1))) (dCons (dC (.int 0)) (dCons (dC (.int 0)) dNil)))) (dCons (dTup (dCons (dC (.int 0)) (dCons (dC (.int 0)) dNil))) dNil))))))) (dCall S__law_drawn (dCons (dVar 0) (dCons (dC (.int 6)) dNil)))))))))
  (dRet (dLc (dItems (dVar 2)) (.nm 7) dYes (dCB tupleD (dCons (dVar 7) dNil)) [7]))))))))
def S__law_turned : DSpec := defS 2 8 F__law_turned

def F__law_told : STd :=
  (dTold (dTup (dCons (dC (.str (Str.ofString "told"))) (dCons (dCall S_folded_run (dCons (dVar 0) (dCons (dVar 1) (dCons (dVar 2) (dCons (dVar 3) dNil))))) dNil))))
def S__law_told : DSpec := defS 4 6 F__law_told

def F_law_k17 : STd :=
  (dSeq (dFor (dRng1 (dCons (dC (.int 3)) dNil)) (.nm 2) (dSeq (dAsg (dCall S__law_net (dCons (dVar 1) dNil)) (.nm 3))
  (dSeq (dAsg (dCall S__law_feed (dCons (dVar 1) (dCons (dVar 3) (dCons (dC (.int 8)) dNil)))) (.nm 4))
  (dSeq (dAsg (dOp addD (dC (.int 1)) (dCall S__law_drawn (dCons (dVar 1) (dCons (dC (.int 4)) dNil)))) (.nm 5))
  (dSeq (dAsg (dCall S__law_turned (dCons (dVar 1) (dCons (dCall S_folded (dCons (dVar 3) (dCons (dVar 5) (dCons (dOp addD (dC (.int 1)) (dCall S__law_drawn (dCons (dVar 1) (dCons (dOp mulD (dOp ixD (dVar 3) (dC (.int 1))) (dOp ixD (dVar 3) (dC (.int 2)))) dNil)))) dNil)))) dNil))) (.nm 6))
  (dSeq (dAsg (dCall S_wrong (dCons (dVar 3) (dCons (dVar 5) (dCons (dVar 6) dNil)))) (.nm 7))
  (dSeq (dAsg (dTup (dCons (dC (.str (Str.ofString "refused"))) (dCons (dVar 7) dNil))) (.nm 8))
  (dSeq (dIfS (asB (dOp isD (dVar 7) (dC .none))) (dAsg (dTup (dCons (dC (.str (Str.ofString "told"))) (dCons (dCall S_kept_in (dCons (dOp ixD (dCall S_run (dCons (dVar 3) (dCons (dVar 4) (dCons (dVar 5) dNil)))) (dNeg (dC (.int 1)))) dNil)) dNil))) (.nm 8)) dSkip)
  (dIfS (dNot (asB (dCall (S__law_same 12) (dCons (dCall S__law_told (dCons (dVar 3) (dCons (dVar 4) (dCons (dVar 5) (dCons (dVar 6) dNil))))) (dCons (dVar 8) dNil))))) (dRet (dC (.bool false))) dSkip)))))))))
  (dRet (dC (.bool true))))

def Law_k17 : Prop := F_law_k17 nxq (lawEnv 7) lawEnds


end DL

namespace DL
open PySem PySem.Spec L2
local macro_rules | `(tactic| walk_at "d") => `(tactic| simp (config := { failIfUnchanged := false }) only [dSeq_e, dSkip_e, dLcX_e, mulSD_e, dStrM_e, splitD_s, dAsgD_e, dPut_e, dPv_e, dPx_e, dLcD_e, dListRng_e, dListZip_e, dKind_e, dExt_e, dPopS_e, dIns_e, onlyD, dNewT_e, dPutT_e, dUpd_e, dForC_e, dPopV_e, dRem_e, dPopD_e, dSwap_e, dWorks_e, dRaiseR_e, dTold_e, dInsD_e, dInsP_e, dNewH_e, dDo_e, dNetF_e, dFeedF_e, dCellsF_e, dSelf_e, inDicD_k, ninDicD_k, dictPD_k, flat_keyD, dNever_e, dAsg_e, dAsgA_e, dAsgF_e, dAsgL_e, dAsgLA_e, dDrop_e, dRet_e, dRetN_e, dRetL_e, dIfS_e, dApp_e, dAppA_e, dFor_e, dForA_e, dForF_e, dVar_e, dC_e, dNil_e, dCons_e, dTup_e, dLst_e, dOp_e, dChain_e, asB_e, dAnd_e, dOr_e, dNot_e, dAndV_e, dOrV_e, dNotV_e, dIf_e, dSl_e, dPart_e, dNoPart_e, dCB_e, dCall_e, dCallL_e, dLc_e, dLcL_e, dListL_e, dItems_e, dRng1_e, dRng2_e, dRng3_e, dIsi_e, dIsi2_e, dRaise_e, dNeg_e, tgn_e, tgt_e, setAll, frz, wipeD, envOf, lawEnv, lawEnds,
  oEr_e, oEl_e, oEx_e, oLl_e, oLx_e, inD_t, inD_l, ninD_t, ninD_l, List.any_cons, List.any_nil, Bool.or_false, addD_ii, addD_ss, addD_tt, addD_ll, subD_ii, mulD_ii, mulD_li, mulD_ti, dMinDf_e, dRetF_e, dPar_e, dEnum_e, fdivD_ii, modD_ii, powD_ii, cmpD_ii, isD_n, notD_n, isN_none, isN_int, isN_str, isN_tuple, isN_list, isN_opt, Option.isNone_none, Option.isNone_some, eqD_e, neD_e, ixD_t, ixD_l, slD_t, slD_l, lenD_t, lenD_l, tupleD_rng, tupleD_t, tupleD_l, listD_t, listD_l, min2D_ii, max2D_ii, absD_i, intD_i, intD_b, seqD_t, seqD_l, seqD_row, at0, at1, at2, at3, len_row, ixD_c0, ixD_c1, ixD_c2, ixD_n0, ixD_n1, ixD_n2, ixD_f0, ixD_f1, eqv_ii, shaped_int,
  List.map_cons, List.map_nil, List.set_cons_zero, List.set_cons_succ, List.set_nil, List.getElem?_cons_zero, List.getElem?_cons_succ, List.getElem?_nil, List.replicate_succ, List.replicate_zero, List.cons_append, List.nil_append, List.length_cons, List.length_nil, Nat.reduceAdd, Nat.reduceSub, Nat.add_zero, Nat.zero_add, Nat.sub_self, Nat.sub_zero, if_true, if_false, Bool.false_eq_true, Bool.not_true, Bool.not_false, reduceIte, flat, flatAll, flat_optD, flat_cellD, Bool.and_true, Bool.true_and, Bool.and_self, true_and, and_true, and_self, decide_true, decide_false, List.drop_zero, Int.toNat_natCast, Nat.reduceLeDiff, reduceCtorEq])
theorem kd_eq (k : Kd) : SeqAt.shaped (.str (kdS k)) = true ∧ PyData.eqv (.str (kdS k)) (.str (Str.ofString "product")) = decide (k = .product) ∧ PyData.eqv (.str (kdS k)) (.str (Str.ofString "paths")) = decide (k = .paths) ∧ PyData.eqv (.str (kdS k)) (.str (Str.ofString "sorting")) = decide (k = .sorting) := by
  cases k <;> decide +kernel
theorem shp (k : Kd) : SeqAt.shaped (.str (kdS k)) = true := (kd_eq k).1
theorem sh_p : SeqAt.shaped (.str (Str.ofString "product")) = true := by decide +kernel
theorem sh_s : SeqAt.shaped (.str (Str.ofString "sorting")) = true := by decide +kernel
def kinds : PyData := .tuple [(.str (Str.ofString "product")), (.str (Str.ofString "paths")), (.str (Str.ofString "sorting"))]
theorem kinds_in (k : Kd) (P : PyData → Prop) (h : P (.bool false)) : ninD (.str (kdS k)) kinds P := by
  refine ⟨shp k, by decide +kernel, ?_⟩
  have e : ([(.str (Str.ofString "product")), (.str (Str.ofString "paths")), (.str (Str.ofString "sorting"))] : List PyData).any (fun z => PyData.eqv z (.str (kdS k))) = true := by cases k <;> decide +kernel
  rw [e]; exact h
theorem need_net_ok {k : Kd} {r c : Nat} {P : O → Prop} (h1 : 1 ≤ r) (h2 : r ≤ 6) (h3 : 1 ≤ c) (h4 : c ≤ 6) (q : P (.ret .none)) : S_need_net [netD k r c] P := by
  refine ⟨rfl, ?_⟩
  unfold F_need_net netD
  refine ⟨rfl, ?_⟩
  have e1 : decide ((1 : Int) ≤ (r : Nat)) = true := by simp; omega
  have e2 : decide (((r : Nat) : Int) ≤ 6) = true := by simp; omega
  have e3 : decide ((1 : Int) ≤ (c : Nat)) = true := by simp; omega
  have e4 : decide (((c : Nat) : Int) ≤ 6) = true := by simp; omega
  walk_at "d"

  refine ⟨shp k, by decide +kernel, ?_⟩
  have e0 : (PyData.eqv (.str (Str.ofString "product")) (.str (kdS k)) || (PyData.eqv (.str (Str.ofString "paths")) (.str (kdS k)) || PyData.eqv (.str (Str.ofString "sorting")) (.str (kdS k)))) = true := by cases k <;> decide +kernel
  rw [e0, e1, e2, e3, e4]
  simpa using q
theorem need_sides_ok {k : Kd} {r c : Nat} {a b : List PyData} {la lb : PyData} {P : O → Prop} (ha : a.length = r) (hb : b.length = c) (hla : la = .tuple a ∨ la = .list a) (hlb : lb = .tuple b ∨ lb = .list b) (q : P (.ret .none)) : S_need_sides [netD k r c, la, lb] P := by
  refine ⟨rfl, ?_⟩
  unfold F_need_sides
  rcases hla with rfl | rfl <;> rcases hlb with rfl | rfl <;> (walk_at "d"; simpa [ha, hb] using q)

/-! ### a cell -/
def sortedIn (mine a b : Option Int) : Cell := match a, mine with
  | none, m => ⟨m, none, b⟩
  | some a, none => ⟨some a, none, b⟩
  | some a, some m => ⟨some (if a < m then a else m), some (if a > m then a else m), b⟩
def cellB (k : Kd) (mine a b : Option Int) : Cell := match k with
  | .sorting => sortedIn mine a b
  | .product => match a, b with
    | some x, some y => ⟨mine.map (· + x * y), a, b⟩
    | _, _ => ⟨mine, a, b⟩
  | .paths => match a, b with
    | some x, some y => ⟨some (match mine with | none => x + y | some m => if x + y < m then x + y else m), a, b⟩
    | _, _ => ⟨mine, a, b⟩
theorem sorted_in_ok {mine a b : Option Int} {P : O → Prop} (q : P (.ret (cellD (sortedIn mine a b)))) : S_sorted_in [optD mine, optD a, optD b] P := by
  refine ⟨rfl, ?_⟩
  unfold F_sorted_in
  cases mine <;> cases a <;> cases b <;> (simp only [optD]; walk_at "d"; simpa [cellD, sortedIn, optD] using q)
theorem sm_log {x y : Int} (hx : x.natAbs < 2 ^ 1000) (hy : y.natAbs < 2 ^ 1000) : x.natAbs.log2 + y.natAbs.log2 < 1000000 := by
  have a := PySem.Flt.log2_lt_of (by decide : 0 < 1000) hx
  have b := PySem.Flt.log2_lt_of (by decide : 0 < 1000) hy
  omega
theorem cell_behind_ok {k : Kd} {mine a b : Option Int} {P : O → Prop} (hk : k = .product → mine ≠ none ∧ Sm a ∧ Sm b) (q : P (.ret (cellD (cellB k mine a b)))) : S_cell_behind [.str (kdS k), optD mine, optD a, optD b] P := by
  refine ⟨rfl, ?_⟩
  unfold F_cell_behind
  have e := kd_eq k
  walk_at "d"
  refine ⟨e.1, sh_s, ?_⟩
  rw [e.2.2.2]
  cases k with
  | sorting =>
    simp only [decide_true, if_true]
    exact sorted_in_ok q
  | product =>
    obtain ⟨hm, ha, hb⟩ := hk rfl
    obtain ⟨m, rfl⟩ := Option.ne_none_iff_exists'.mp hm
    cases a <;> cases b <;> (simp only [optD, reduceCtorEq, decide_false]; walk_at "d")
    case some.some x y =>
      refine ⟨e.1, sh_p, ?_⟩
      rw [e.2.1]
      simp only [decide_true, if_true]
      exact ⟨sm_log (ha _ rfl) (hb _ rfl), q⟩
    all_goals exact q
  | paths =>
    cases mine <;> cases a <;> cases b <;> (simp only [optD, reduceCtorEq, decide_false]; walk_at "d")
    case none.some.some x y =>
      refine ⟨e.1, sh_p, ?_⟩
      rw [e.2.1]
      simp only [reduceCtorEq, decide_false, Bool.false_eq_true, if_false]
      exact q
    case some.some.some m x y =>
      refine ⟨e.1, sh_p, ?_⟩
      rw [e.2.1]
      simp only [reduceCtorEq, decide_false, Bool.false_eq_true, if_false]
      exact q
    all_goals exact q
end DL

namespace DL
open PySem PySem.Spec L2
local macro_rules | `(tactic| walk_at "d") => `(tactic| simp (config := { failIfUnchanged := false }) only [dSeq_e, dSkip_e, dLcX_e, mulSD_e, dStrM_e, splitD_s, dAsgD_e, dPut_e, dPv_e, dPx_e, dLcD_e, dListRng_e, dListZip_e, dKind_e, dExt_e, dPopS_e, dIns_e, onlyD, dNewT_e, dPutT_e, dUpd_e, dForC_e, dPopV_e, dRem_e, dPopD_e, dSwap_e, dWorks_e, dRaiseR_e, dTold_e, dInsD_e, dInsP_e, dNewH_e, dDo_e, dNetF_e, dFeedF_e, dCellsF_e, dSelf_e, inDicD_k, ninDicD_k, dictPD_k, flat_keyD, dNever_e, dAsg_e, dAsgA_e, dAsgF_e, dAsgL_e, dAsgLA_e, dDrop_e, dRet_e, dRetN_e, dRetL_e, dIfS_e, dApp_e, dAppA_e, dFor_e, dForA_e, dForF_e, dVar_e, dC_e, dNil_e, dCons_e, dTup_e, dLst_e, dOp_e, dChain_e, asB_e, dAnd_e, dOr_e, dNot_e, dAndV_e, dOrV_e, dNotV_e, dIf_e, dSl_e, dPart_e, dNoPart_e, dCB_e, dCall_e, dCallL_e, dLc_e, dLcL_e, dListL_e, dItems_e, dRng1_e, dRng2_e, dRng3_e, dIsi_e, dIsi2_e, dRaise_e, dNeg_e, tgn_e, tgt_e, setAll, frz, wipeD, envOf, lawEnv, lawEnds,
  oEr_e, oEl_e, oEx_e, oLl_e, oLx_e, inD_t, inD_l, ninD_t, ninD_l, List.any_cons, List.any_nil, Bool.or_false, addD_ii, addD_ss, addD_tt, addD_ll, subD_ii, mulD_ii, mulD_li, mulD_ti, dMinDf_e, dRetF_e, dPar_e, dEnum_e, fdivD_ii, modD_ii, powD_ii, cmpD_ii, isD_n, notD_n, isN_none, isN_int, isN_str, isN_tuple, isN_list, isN_opt, Option.isNone_none, Option.isNone_some, eqD_e, neD_e, ixD_t, ixD_l, slD_t, slD_l, lenD_t, lenD_l, tupleD_rng, tupleD_t, tupleD_l, listD_t, listD_l, min2D_ii, max2D_ii, absD_i, intD_i, intD_b, seqD_t, seqD_l, seqD_row, at0, at1, at2, at3, len_row, ixD_c0, ixD_c1, ixD_c2, ixD_n0, ixD_n1, ixD_n2, ixD_f0, ixD_f1, eqv_ii, shaped_int,
  List.map_cons, List.map_nil, List.set_cons_zero, List.set_cons_succ, List.set_nil, List.getElem?_cons_zero, List.getElem?_cons_succ, List.getElem?_nil, List.replicate_succ, List.replicate_zero, List.cons_append, List.nil_append, List.length_cons, List.length_nil, Nat.reduceAdd, Nat.reduceSub, Nat.add_zero, Nat.zero_add, Nat.sub_self, Nat.sub_zero, if_true, if_false, Bool.false_eq_true, Bool.not_true, Bool.not_false, reduceIte, flat, flatAll, flat_optD, flat_cellD, Bool.and_true, Bool.true_and, Bool.and_self, true_and, and_true, and_self, decide_true, decide_false, List.drop_zero, Int.toNat_natCast, Nat.reduceLeDiff, reduceCtorEq])
def stepF (k : Kd) (f : Nat → Nat → Cell) (left top : Nat → Option Int) (i j : Nat) : Cell :=
  cellB k (f i j).kept (if j = 0 then left i else (f i (j - 1)).right) (if i = 0 then top j else (f (i - 1) j).down)
structure GoodSt (k : Kd) (r c : Nat) (f : Nat → Nat → Cell) : Prop where
  kept : k = .product → ∀ i j, i < r → j < c → (f i j).kept ≠ none
  sm : k = .product → ∀ i j, i < r → j < c → Sm (f i j).right ∧ Sm (f i j).down
def GoodSide (k : Kd) (n : Nat) (g : Nat → Option Int) : Prop := k = .product → ∀ i, i < n → Sm (g i)
theorem range_succ_map (f : Nat → PyData) (n : Nat) : (List.range (n + 1)).map f = (List.range n).map f ++ [f n] := by rw [List.range_succ, List.map_append]; rfl
/-- a side: a tuple or a list -/
def IsSide (n : Nat) (g : Nat → Option Int) (d : PyData) : Prop := d = .tuple ((List.range n).map fun i => optD (g i)) ∨ d = .list ((List.range n).map fun i => optD (g i))
theorem IsSide.ix {n i : Nat} {g : Nat → Option Int} {d : PyData} {P : PyData → Prop} (h : IsSide n g d) (hi : i < n) : ixD d (.int (i : Nat)) P = P (optD (g i)) := by
  rcases h with rfl | rfl
  · exact ixD_rowT hi
  · exact ixD_rowL hi
theorem state_behind_ok {k : Kd} {r c : Nat} {f : Nat → Nat → Cell} {left top : Nat → Option Int} {la ta : PyData} {P : O → Prop} (hr : r ≤ 6) (hc : c ≤ 6) (hg : GoodSt k r c f) (hl : GoodSide k r left) (ht : GoodSide k c top)
    (hla : IsSide r left la) (hta : IsSide c top ta) (q : P (.ret (stD r c (stepF k f left top)))) : S_state_behind [netD k r c, stD r c f, la, ta] P := by
  refine ⟨rfl, ?_⟩
  unfold F_state_behind
  walk_at "d"
  refine ⟨⟨by omega, by omega⟩, ?_⟩
  refine for_rng (fun i ρ => ∃ e5 e6 e7 e8 e9, ρ = [.d (netD k r c), .d (stD r c f), .d la, .d ta, .own ((List.range i).map fun a => rowD c fun j => cellD (stepF k f left top a j)), e5, e6, e7, e8, e9]) ⟨_, _, _, _, _, rfl⟩ ?_ ?_
  · rintro i ρ Kt hi ⟨e5, e6, e7, e8, e9, rfl⟩ hk
    walk_at "d"
    refine ⟨⟨by omega, by omega⟩, ?_⟩
    refine for_rng (fun j ρ => ∃ e7 e8 e9, ρ = [.d (netD k r c), .d (stD r c f), .d la, .d ta, .own ((List.range i).map fun a => rowD c fun j => cellD (stepF k f left top a j)), .d (.int i), .own ((List.range j).map fun j => cellD (stepF k f left top i j)), e7, e8, e9]) ⟨_, _, _, rfl⟩ ?_ ?_
    · rintro j ρ Kt' hj ⟨e7, e8, e9, rfl⟩ hk'
      have ea : ∀ R : PyData → Prop, R (optD (if j = 0 then left i else (f i (j - 1)).right)) → (if ((j : Nat) : Int) == 0 then ixD la (.int (i : Nat)) R else ixD (stD r c f) (.int (i : Nat)) fun x => ixD x (.int (((j : Nat) : Int) - 1)) fun y => ixD y (.int 1) R) := fun R h => by
        by_cases e : j = 0
        · subst e
          simp only [Int.ofNat_eq_natCast, Int.natCast_zero, beq_self_eq_true, if_true]
          rw [hla.ix hi]
          simpa using h
        · have e1 : (((j : Nat) : Int) == 0) = false := by simp [e]
          have e2 : ((j : Nat) : Int) - 1 = ((j - 1 : Nat) : Int) := by omega
          rw [e1, e2]
          simp only [Bool.false_eq_true, if_false]
          rw [ixD_st hi, ixD_row (by omega), ixD_c1]
          simpa [e] using h
      have eb : ∀ R : PyData → Prop, R (optD (if i = 0 then top j else (f (i - 1) j).down)) → (if ((i : Nat) : Int) == 0 then ixD ta (.int (j : Nat)) R else ixD (stD r c f) (.int (((i : Nat) : Int) - 1)) fun x => ixD x (.int (j : Nat)) fun y => ixD y (.int 2) R) := fun R h => by
        by_cases e : i = 0
        · subst e
          simp only [Int.ofNat_eq_natCast, Int.natCast_zero, beq_self_eq_true, if_true]
          rw [hta.ix hj]
          simpa using h
        · have e1 : (((i : Nat) : Int) == 0) = false := by simp [e]
          have e2 : ((i : Nat) : Int) - 1 = ((i - 1 : Nat) : Int) := by omega
          rw [e1, e2]
          simp only [Bool.false_eq_true, if_false]
          rw [ixD_st (by omega), ixD_row hj, ixD_c2]
          simpa [e] using h
      walk_at "d"
      refine ea _ ?_
      refine eb _ ?_
      refine ⟨by simp; omega, ?_⟩
      rw [ixD_st hi, ixD_row hj, ixD_c0]
      refine cell_behind_ok (fun e => ⟨hg.kept e i j hi hj, ?_, ?_⟩) ?_
      · by_cases z : j = 0
        · simpa [z] using hl e i hi
        · simpa [z] using (hg.sm e i (j - 1) hi (by omega)).1
      · by_cases z : i = 0
        · simpa [z] using ht e j hj
        · simpa [z] using (hg.sm e (i - 1) j (by omega) hj).2
      · refine hk' _ ?_
        rw [range_succ_map]
        exact ⟨_, _, _, rfl⟩
    · rintro ρ ⟨e7, e8, e9, rfl⟩
      walk_at "d"
      refine ⟨by simp; omega, flat_rowD fun _ _ => flat_cellD _, hk _ ?_⟩
      rw [range_succ_map]
      exact ⟨_, _, _, _, _, rfl⟩
  · rintro ρ ⟨e5, e6, e7, e8, e9, rfl⟩
    walk_at "d"
    exact q
def keptF (f : Nat → Nat → Cell) (i j : Nat) : Option Int := (f i j).kept
theorem kept_in_ok {r c : Nat} {f : Nat → Nat → Cell} {P : O → Prop} (hr : r ≤ 6) (hc : c ≤ 6) (q : P (.ret (tabD r c (keptF f)))) : S_kept_in [stD r c f] P := by
  refine ⟨rfl, ?_⟩
  unfold F_kept_in stD
  walk_at "d"
  refine ⟨by simp; omega, ?_⟩
  refine lcD_map (fun x => match x with | .tuple ds => .tuple (ds.map fun y => match y with | .tuple (z :: _) => z | _ => .none) | _ => .none) (fun x hx Q hQ => ?_) ?_
  · obtain ⟨i, hi, rfl⟩ := List.mem_map.mp hx
    unfold rowD at hQ ⊢
    walk_at "d"
    refine ⟨by simp; omega, ?_⟩
    refine lcD_map (fun y => match y with | .tuple (z :: _) => z | _ => .none) (fun y hy R hR => ?_) hQ
    obtain ⟨j, hj, rfl⟩ := List.mem_map.mp hy
    walk_at "d"
    exact hR
  · walk_at "d"
    rw [List.map_map]
    refine (show P (.ret (.tuple _)) from ?_)
    have e : ((List.range r).map ((fun x => match x with | .tuple ds => .tuple (ds.map fun y => match y with | .tuple (z :: _) => z | _ => .none) | _ => .none) ∘ fun i => rowD c fun j => cellD (f i j)) : List PyData) = (List.range r).map fun i => rowD c fun j => optD (keptF f i j) := by
      apply List.map_congr_left
      intro i _
      simp [rowD, cellD, keptF, Function.comp_def]
    rw [e]
    exact q
end DL

namespace DL
open PySem PySem.Spec L2
local macro_rules | `(tactic| walk_at "d") => `(tactic| simp (config := { failIfUnchanged := false }) only [dSeq_e, dSkip_e, dLcX_e, mulSD_e, dStrM_e, splitD_s, dAsgD_e, dPut_e, dPv_e, dPx_e, dLcD_e, dListRng_e, dListZip_e, dKind_e, dExt_e, dPopS_e, dIns_e, onlyD, dNewT_e, dPutT_e, dUpd_e, dForC_e, dPopV_e, dRem_e, dPopD_e, dSwap_e, dWorks_e, dRaiseR_e, dTold_e, dInsD_e, dInsP_e, dNewH_e, dDo_e, dNetF_e, dFeedF_e, dCellsF_e, dSelf_e, inDicD_k, ninDicD_k, dictPD_k, flat_keyD, dNever_e, dAsg_e, dAsgA_e, dAsgF_e, dAsgL_e, dAsgLA_e, dDrop_e, dRet_e, dRetN_e, dRetL_e, dIfS_e, dApp_e, dAppA_e, dFor_e, dForA_e, dForF_e, dVar_e, dC_e, dNil_e, dCons_e, dTup_e, dLst_e, dOp_e, dChain_e, asB_e, dAnd_e, dOr_e, dNot_e, dAndV_e, dOrV_e, dNotV_e, dIf_e, dSl_e, dPart_e, dNoPart_e, dCB_e, dCall_e, dCallL_e, dLc_e, dLcL_e, dListL_e, dItems_e, dRng1_e, dRng2_e, dRng3_e, dIsi_e, dIsi2_e, dRaise_e, dNeg_e, tgn_e, tgt_e, setAll, frz, wipeD, envOf, lawEnv, lawEnds,
  oEr_e, oEl_e, oEx_e, oLl_e, oLx_e, inD_t, inD_l, ninD_t, ninD_l, List.any_cons, List.any_nil, Bool.or_false, addD_ii, addD_ss, addD_tt, addD_ll, subD_ii, mulD_ii, mulD_li, mulD_ti, dMinDf_e, dRetF_e, dPar_e, dEnum_e, fdivD_ii, modD_ii, powD_ii, cmpD_ii, isD_n, notD_n, isN_none, isN_int, isN_str, isN_tuple, isN_list, isN_opt, Option.isNone_none, Option.isNone_some, eqD_e, neD_e, ixD_t, ixD_l, slD_t, slD_l, lenD_t, lenD_l, tupleD_rng, tupleD_t, tupleD_l, listD_t, listD_l, min2D_ii, max2D_ii, absD_i, intD_i, intD_b, seqD_t, seqD_l, seqD_row, at0, at1, at2, at3, len_row, ixD_c0, ixD_c1, ixD_c2, ixD_n0, ixD_n1, ixD_n2, ixD_f0, ixD_f1, eqv_ii, shaped_int,
  List.map_cons, List.map_nil, List.set_cons_zero, List.set_cons_succ, List.set_nil, List.getElem?_cons_zero, List.getElem?_cons_succ, List.getElem?_nil, List.replicate_succ, List.replicate_zero, List.cons_append, List.nil_append, List.length_cons, List.length_nil, Nat.reduceAdd, Nat.reduceSub, Nat.add_zero, Nat.zero_add, Nat.sub_self, Nat.sub_zero, if_true, if_false, Bool.false_eq_true, Bool.not_true, Bool.not_false, reduceIte, flat, flatAll, flat_optD, flat_cellD, Bool.and_true, Bool.true_and, Bool.and_self, true_and, and_true, and_self, decide_true, decide_false, List.drop_zero, Int.toNat_natCast, Nat.reduceLeDiff, reduceCtorEq])
/-! ### drawing -/
abbrev big : Int := 10 ^ 60
theorem log_small {n : Int} (h0 : 0 < n) (h : n ≤ big) : n.natAbs.log2 < 9000 := by
  have h1 : n.natAbs < 2 ^ 200 := by
    have e : big = 1000000000000000000000000000000000000000000000000000000000000 := by decide
    have : (2 : Nat) ^ 200 = 1606938044258990275541962092341162602522202993782792835301376 := by decide
    omega
  have := PySem.Flt.log2_lt_of (by decide : 0 < 200) h1
  omega
theorem drawn_ok {n : Int} {P : O → Prop} (h0 : 0 < n) (hn : n ≤ big) (q : ∀ x : Nat, (x : Int) < n → P (.ret (.int (x : Nat)))) : S__law_drawn [.dict [], .int n] P :=
  ⟨n, rfl, h0, log_small h0 hn, fun x hx hl => by
    have e : x = ((x.toNat : Nat) : Int) := by omega
    rw [e]
    exact q x.toNat (by omega)⟩
theorem drawn_e {n : Int} {xq : XQ} {P : PyData → Prop} (h0 : 0 < n) (hn : n ≤ big) (q : ∀ x : Nat, (x : Int) < n → P (.int (x : Nat))) : S__law_drawn [.dict [], .int n] (oE xq P) := drawn_ok h0 hn q
theorem at_cases3 {a b c : PyData} {x : Nat} (h : (x : Int) < 3) {Q : PyData → Prop} (ha : Q a) (hb : Q b) (hc : Q c) : ixD (.list [a, b, c]) (.int (x : Nat)) Q := by
  have : x = 0 ∨ x = 1 ∨ x = 2 := by omega
  rcases this with rfl | rfl | rfl
  · exact ha
  · exact hb
  · exact hc
theorem small_big {n : Int} (h : n ≤ 1000) : n ≤ big := Int.le_trans h (by decide)
theorem net_ok {P : O → Prop} (q : ∀ k r c, 1 ≤ r → r ≤ 6 → 1 ≤ c → c ≤ 6 → P (.ret (netD k r c))) : S__law_net [.dict []] P := by
  refine ⟨rfl, ?_⟩
  unfold F__law_net
  walk_at "d"
  refine drawn_e (by decide) (by decide) fun x hx => ?_
  have key : ∀ k : Kd, ∀ n : Int, 0 < n → n ≤ 6 → S__law_drawn [.dict [], .int n] (oE (fun n r => P (.exc n r)) fun y => addD (.int 1) y fun a => S__law_drawn [.dict [], .int n] (oE (fun n r => P (.exc n r)) fun y => addD (.int 1) y fun b => P (.ret (.tuple [.str (kdS k), a, b])))) := fun k n h0 h6 => by
    refine drawn_e h0 (small_big (by omega)) fun x hx => ?_
    rw [addD_ii]
    refine drawn_e h0 (small_big (by omega)) fun y hy => ?_
    rw [addD_ii]
    have := q k (1 + x) (1 + y) (by omega) (by omega) (by omega) (by omega)
    unfold netD at this
    have e1 : (1 : Int) + (x : Nat) = ((1 + x : Nat) : Int) := by omega
    have e2 : (1 : Int) + (y : Nat) = ((1 + y : Nat) : Int) := by omega
    rw [e1, e2]
    exact this
  have key2 : ∀ k : Kd, S__law_drawn [.dict [], .int 3] (oE (fun n r => P (.exc n r)) fun y => ixD (.list [.int 2, .int 3, .int 6]) y fun w => S__law_drawn [.dict [], w] (oE (fun n r => P (.exc n r)) fun y => addD (.int 1) y fun a => S__law_drawn [.dict [], w] (oE (fun n r => P (.exc n r)) fun y => addD (.int 1) y fun b => P (.ret (.tuple [.str (kdS k), a, b]))))) := fun k => by
    refine drawn_e (by decide) (by decide) fun x hx => ?_
    exact at_cases3 hx (key k 2 (by decide) (by decide)) (key k 3 (by decide) (by decide)) (key k 6 (by decide) (by decide))
  exact at_cases3 hx (key2 .product) (key2 .paths) (key2 .sorting)
def Num (z : Int) : Prop := z.natAbs < 2 ^ 110
theorem number_ok {P : O → Prop} (q : ∀ z : Int, Num z → P (.ret (.int z))) : S__law_number [.dict []] P := by
  refine ⟨rfl, ?_⟩
  unfold F__law_number
  walk_at "d"
  refine drawn_e (by decide) (by decide) fun x hx => ?_
  walk_at "d"
  refine drawn_e (by decide) (by decide) fun y hy => ?_
  walk_at "d"
  refine ⟨⟨by decide, by decide, by decide⟩, ?_⟩
  have e30 : (10 : Int) ^ (30 : Int).toNat = 1000000000000000000000000000000 := by decide
  have e29 : (10 : Int) ^ (29 : Int).toNat = 100000000000000000000000000000 := by decide
  have e110 : (2 : Nat) ^ 110 = 1298074214633706907132624082305024 := by decide
  rw [e30]
  refine drawn_e (by decide) (by decide) fun z hz => ?_
  walk_at "d"
  refine ⟨⟨by decide, by decide, by decide⟩, ?_⟩
  rw [e29]
  refine drawn_e (by decide) (by decide) fun u hu => ?_
  have h1 := q ((x : Nat) - 4 + 3) (by unfold Num; rw [e110]; omega)
  have e1 : ((x : Nat) : Int) - 4 + 3 = (x : Nat) - 1 := by omega
  rw [e1] at h1
  have h2 := q ((y : Nat) - 20) (by unfold Num; rw [e110]; omega)
  have h3 := q ((z : Nat) - 100000000000000000000000000000) (by unfold Num; rw [e110]; omega)
  have : u = 0 ∨ u = 1 ∨ u = 2 ∨ u = 3 ∨ u = 4 ∨ u = 5 := by omega
  rcases this with rfl | rfl | rfl | rfl | rfl | rfl
  · exact h1
  · exact h2
  · exact h2
  · exact h2
  · exact h2
  · exact h3
theorem at_bool {a b : PyData} {k : Bool} {Q : PyData → Prop} (ha : k = false → Q a) (hb : k = true → Q b) : ixD (.list [a, b]) (.int (if k then 1 else 0)) Q := by
  cases k
  · exact ha rfl
  · exact hb rfl
/-- a number or None -/
def NumO (o : Option Int) : Prop := ∀ z, o = some z → Num z
theorem NumO.none : NumO none := fun _ h => nomatch h
theorem NumO.some {z : Int} (h : Num z) : NumO (some z) := fun _ e => by cases e; exact h
set_option exponentiation.threshold 2000 in
theorem two_le : (2 : Nat) ^ 110 ≤ 2 ^ 1000 := Nat.pow_le_pow_right (by decide) (by decide)
theorem NumO.sm {o : Option Int} (h : NumO o) : Sm o := fun i e => Nat.lt_of_lt_of_le (h i e) two_le
/-! ### the law's own cell and beat -/
theorem sortI_one (m : Int) : sortI [m] = [m] := (sortI_unique (.refl _) (by simp)).symm
theorem sortI_two (m a : Int) : sortI [m, a] = if a < m then [a, m] else [m, a] := by
  by_cases h : a < m
  · rw [if_pos h]
    exact (sortI_unique (.swap _ _ _) (by simp; omega)).symm
  · rw [if_neg h]
    exact (sortI_unique (.refl _) (by simp; omega)).symm
theorem asInts2 (m a : Int) : asInts [.int m, .int a] = some [m, a] := rfl
def prev (n j : Nat) : Nat := if j = 0 then n - 1 else j - 1
theorem ixD_prev {n j : Nat} {f : Nat → PyData} {P : PyData → Prop} (h : j < n) : ixD (rowD n f) (.int (((j : Nat) : Int) - 1)) P = P (f (prev n j)) := by
  by_cases e : j = 0
  · subst e
    unfold rowD prev
    rw [ixD_t]
    have : atI ((List.range n).map f) (((0 : Nat) : Int) - 1) = some (f (n - 1)) := by
      unfold atI ixN
      have h1 : ¬ (0 : Int) ≤ ((0 : Nat) : Int) - 1 := by omega
      have h2 : -(((List.range n).map f).length : Int) ≤ ((0 : Nat) : Int) - 1 := by simp; omega
      rw [if_neg h1, if_pos h2]
      have h3 : (((0 : Nat) : Int) - 1 + (((List.range n).map f).length : Int)).toNat = n - 1 := by simp; omega
      rw [h3]
      have h4 : n - 1 < n := by omega
      simp [h4]
    rw [this]
    rfl
  · have e2 : ((j : Nat) : Int) - 1 = ((j - 1 : Nat) : Int) := by omega
    rw [e2, ixD_row (by omega)]
    unfold prev
    rw [if_neg e]
/-! ### a drawn state -/
theorem fam_list {α : Type} [Inhabited α] (φ : α → PyData) (l : List α) : l.map φ = (List.range l.length).map fun i => φ (l.getD i default) := by
  apply List.ext_getElem
  · simp
  · intro i h1 h2
    simp only [List.length_map] at h1
    simp [List.getD, List.getElem?_eq_getElem h1]
theorem getD_mem {α : Type} [Inhabited α] {l : List α} {i : Nat} (h : i < l.length) : l.getD i default ∈ l := by
  simp [List.getD, List.getElem?_eq_getElem h]
end DL

namespace DL
open PySem PySem.Spec L2
local macro_rules | `(tactic| walk_at "d") => `(tactic| simp (config := { failIfUnchanged := false }) only [dSeq_e, dSkip_e, dLcX_e, mulSD_e, dStrM_e, splitD_s, dAsgD_e, dPut_e, dPv_e, dPx_e, dLcD_e, dListRng_e, dListZip_e, dKind_e, dExt_e, dPopS_e, dIns_e, onlyD, dNewT_e, dPutT_e, dUpd_e, dForC_e, dPopV_e, dRem_e, dPopD_e, dSwap_e, dWorks_e, dRaiseR_e, dTold_e, dInsD_e, dInsP_e, dNewH_e, dDo_e, dNetF_e, dFeedF_e, dCellsF_e, dSelf_e, inDicD_k, ninDicD_k, dictPD_k, flat_keyD, dNever_e, dAsg_e, dAsgA_e, dAsgF_e, dAsgL_e, dAsgLA_e, dDrop_e, dRet_e, dRetN_e, dRetL_e, dIfS_e, dApp_e, dAppA_e, dFor_e, dForA_e, dForF_e, dVar_e, dC_e, dNil_e, dCons_e, dTup_e, dLst_e, dOp_e, dChain_e, asB_e, dAnd_e, dOr_e, dNot_e, dAndV_e, dOrV_e, dNotV_e, dIf_e, dSl_e, dPart_e, dNoPart_e, dCB_e, dCall_e, dCallL_e, dLc_e, dLcL_e, dListL_e, dItems_e, dRng1_e, dRng2_e, dRng3_e, dIsi_e, dIsi2_e, dRaise_e, dNeg_e, tgn_e, tgt_e, setAll, frz, wipeD, envOf, lawEnv, lawEnds,
  oEr_e, oEl_e, oEx_e, oLl_e, oLx_e, inD_t, inD_l, ninD_t, ninD_l, List.any_cons, List.any_nil, Bool.or_false, addD_ii, addD_ss, addD_tt, addD_ll, subD_ii, mulD_ii, mulD_li, mulD_ti, dMinDf_e, dRetF_e, dPar_e, dEnum_e, fdivD_ii, modD_ii, powD_ii, cmpD_ii, isD_n, notD_n, isN_none, isN_int, isN_str, isN_tuple, isN_list, isN_opt, Option.isNone_none, Option.isNone_some, eqD_e, neD_e, ixD_t, ixD_l, slD_t, slD_l, lenD_t, lenD_l, tupleD_rng, tupleD_t, tupleD_l, listD_t, listD_l, min2D_ii, max2D_ii, absD_i, intD_i, intD_b, seqD_t, seqD_l, seqD_row, at0, at1, at2, at3, len_row, ixD_c0, ixD_c1, ixD_c2, ixD_n0, ixD_n1, ixD_n2, ixD_f0, ixD_f1, eqv_ii, shaped_int,
  List.map_cons, List.map_nil, List.set_cons_zero, List.set_cons_succ, List.set_nil, List.getElem?_cons_zero, List.getElem?_cons_succ, List.getElem?_nil, List.replicate_succ, List.replicate_zero, List.cons_append, List.nil_append, List.length_cons, List.length_nil, Nat.reduceAdd, Nat.reduceSub, Nat.add_zero, Nat.zero_add, Nat.sub_self, Nat.sub_zero, if_true, if_false, Bool.false_eq_true, Bool.not_true, Bool.not_false, reduceIte, flat, flatAll, flat_optD, flat_cellD, Bool.and_true, Bool.true_and, Bool.and_self, true_and, and_true, and_self, decide_true, decide_false, List.drop_zero, Int.toNat_natCast, Nat.reduceLeDiff, reduceCtorEq])
/-! ### the same -/
def Pl : Nat → PyData → Prop
  | 0, _ => False
  | _ + 1, .none => True
  | _ + 1, .bool _ => True
  | _ + 1, .int _ => True
  | _ + 1, .str x => SeqAt.shaped (.str x) = true
  | n + 1, .list ds => ds.length ≤ 10000 ∧ ∀ x ∈ ds, Pl n x
  | n + 1, .tuple ds => ds.length ≤ 10000 ∧ ∀ x ∈ ds, Pl n x
  | _ + 1, .dict _ => False
theorem isi_none : isiB "tuple" .none = false ∧ isiB "list" .none = false ∧ isiB "str" .none = false ∧ isiB "bool" .none = false := by decide
theorem lcD_none {g : PyData → (List EV → Prop) → Prop} {t : List EV → (Bool → Prop) → Prop} {f : List EV → (PyData → Prop) → Prop} : ∀ {ds : List PyData} {P : List PyData → Prop}, (∀ x ∈ ds, ∀ Q : Prop, Q → g x fun ρ => t ρ fun b => if b = true then f ρ (fun _ => False) else Q) → P [] → True
  | _, _, _, _ => trivial
theorem same_seq {n : Nat} {ds : List PyData} (mk : List PyData → PyData) (hix : ∀ (i : Nat) (x : PyData) (R : PyData → Prop), ds[i]? = some x → R x → ixD (mk ds) (.int (i : Nat)) R)
    (ih : ∀ x ∈ ds, ∀ R : O → Prop, R (.ret (.bool true)) → S__law_same n [x, x] R) {S : List PyData → Prop} (q : S []) :
    lcD (fun x => (Tg.nm 2).d x [.d (mk ds), .d (mk ds), .un]) ((dNot (asB (dCall (S__law_same n) (dCons (dOp ixD (dVar 0) (dVar 2)) (dCons (dOp ixD (dVar 1) (dVar 2)) dNil))))) nxq) (dVar 2 nxq) (rngD 0 ds.length) S := by
  have key : ∀ xs : List PyData, (∀ y ∈ xs, ∃ i x, y = .int (i : Nat) ∧ ds[i]? = some x) → ∀ S : List PyData → Prop, S [] → lcD (fun x => (Tg.nm 2).d x [.d (mk ds), .d (mk ds), .un]) ((dNot (asB (dCall (S__law_same n) (dCons (dOp ixD (dVar 0) (dVar 2)) (dCons (dOp ixD (dVar 1) (dVar 2)) dNil))))) nxq) (dVar 2 nxq) xs S := by
    intro xs
    induction xs with
    | nil => intro _ S s; exact s
    | cons y ys ihx =>
      intro h S s
      obtain ⟨i, x, rfl, hx⟩ := h y List.mem_cons_self
      unfold lcD
      walk_at "d"
      refine hix i x _ hx ?_
      refine hix i x _ hx ?_
      refine ih x (List.mem_of_getElem? hx) _ ?_
      walk_at "d"
      exact ihx (fun z hz => h z (List.mem_cons_of_mem _ hz)) _ s
  refine key _ (fun y hy => ?_) _ q
  unfold rngD at hy
  obtain ⟨i, hi, rfl⟩ := List.mem_map.mp hy
  have hi' : i < ds.length := List.mem_range.mp hi
  exact ⟨i, ds[i], by simp, List.getElem?_eq_getElem hi'⟩
theorem same_ok : ∀ (n : Nat) (d : PyData), Pl n d → ∀ P : O → Prop, P (.ret (.bool true)) → S__law_same n [d, d] P
  | 0, _, h, _, _ => h.elim
  | n + 1, d, h, P, q => by
    refine ⟨rfl, ?_⟩
    unfold F__law_same
    cases d with
    | none => walk_at "d"; exact ⟨rfl, q⟩
    | bool b =>
      walk_at "d"
      refine ⟨rfl, ?_⟩
      rw [show isiB "tuple" (.bool b) = false from rfl, show isiB "list" (.bool b) = false from rfl]
      walk_at "d"
      refine ⟨rfl, ?_⟩
      rw [show isiB "str" (.bool b) = false from rfl]
      walk_at "d"
      refine ⟨rfl, ?_⟩
      rw [show isiB "bool" (.bool b) = true from rfl]
      walk_at "d"
      refine ⟨rfl, rfl, rfl, rfl, ?_⟩
      rw [show PyData.eqv (.bool b) (.bool b) = true by cases b <;> rfl]
      exact q
    | int b =>
      walk_at "d"
      refine ⟨rfl, ?_⟩
      rw [show isiB "tuple" (.int b) = false from rfl, show isiB "list" (.int b) = false from rfl]
      walk_at "d"
      refine ⟨rfl, ?_⟩
      rw [show isiB "str" (.int b) = false from rfl]
      walk_at "d"
      refine ⟨rfl, ?_⟩
      rw [show isiB "bool" (.int b) = false from rfl]
      walk_at "d"
      refine ⟨rfl, rfl, ?_⟩
      rw [show isiB "int" (.int b) = true from rfl]
      walk_at "d"
      rw [beq_self_eq_true]
      exact q
    | str b =>
      have hb : SeqAt.shaped (.str b) = true := h
      walk_at "d"
      refine ⟨rfl, ?_⟩
      rw [show isiB "tuple" (.str b) = false from rfl, show isiB "list" (.str b) = false from rfl]
      walk_at "d"
      refine ⟨rfl, ?_⟩
      rw [show isiB "str" (.str b) = true from rfl]
      walk_at "d"
      refine ⟨rfl, hb, hb, ?_⟩
      rw [SeqAt.eqv_refl _ (SeqAt.canLay_of_shaped hb)]
      exact q
    | list ds =>
      obtain ⟨hz, hp⟩ := h
      walk_at "d"
      refine ⟨rfl, ?_⟩
      rw [show isiB "tuple" (.list ds) = false from rfl, show isiB "list" (.list ds) = true from rfl]
      simp only [Bool.false_or, Bool.true_or, if_true, Bool.not_true, Bool.false_eq_true, if_false, beq_self_eq_true]
      refine ⟨rfl, rfl, rfl, by decide, by decide, ?_⟩
      rw [show PyData.eqv (.bool true) (.bool true) = true from rfl]
      simp only [Bool.not_true, Bool.false_eq_true, if_false]
      refine ⟨⟨by omega, by omega⟩, by simp [rngD]; omega, ?_⟩
      exact same_seq .list (fun i x R hx r => by rw [ixD_l, atI_nat hx]; exact r) (fun x hx R r => same_ok n x (hp x hx) R r) ⟨by decide, by decide, q⟩
    | tuple ds =>
      obtain ⟨hz, hp⟩ := h
      walk_at "d"
      refine ⟨rfl, ?_⟩
      rw [show isiB "tuple" (.tuple ds) = true from rfl, show isiB "list" (.tuple ds) = false from rfl]
      simp only [Bool.false_or, Bool.true_or, if_true, Bool.not_true, Bool.false_eq_true, if_false, beq_self_eq_true]
      refine ⟨rfl, rfl, rfl, by decide, by decide, ?_⟩
      rw [show PyData.eqv (.bool false) (.bool false) = true from rfl]
      simp only [Bool.not_true, Bool.false_eq_true, if_false]
      refine ⟨⟨by omega, by omega⟩, by simp [rngD]; omega, ?_⟩
      exact same_seq .tuple (fun i x R hx r => by rw [ixD_t, atI_nat hx]; exact r) (fun x hx R r => same_ok n x (hp x hx) R r) ⟨by decide, by decide, q⟩
    | dict _ => exact h.elim

/-! ### plain data -/
theorem pl_opt {n : Nat} (o : Option Int) : Pl (n + 1) (optD o) := by cases o <;> trivial
theorem pl_row {n m : Nat} {f : Nat → PyData} (hm : m ≤ 1000) (h : ∀ i, i < m → Pl n (f i)) : Pl (n + 1) (rowD m f) := by
  refine ⟨by simp; omega, fun x hx => ?_⟩
  obtain ⟨i, hi, rfl⟩ := List.mem_map.mp hx
  exact h i (List.mem_range.mp hi)
theorem pl_cell {n : Nat} (c : Cell) : Pl (n + 2) (cellD c) := by
  refine ⟨by simp, fun x hx => ?_⟩
  simp only [List.mem_cons, List.not_mem_nil, or_false] at hx
  rcases hx with rfl | rfl | rfl <;> exact pl_opt _
theorem pl_st {n r c : Nat} {f : Nat → Nat → Cell} (hr : r ≤ 6) (hc : c ≤ 6) : Pl (n + 4) (stD r c f) := pl_row (by omega) fun _ _ => pl_row (by omega) fun _ _ => pl_cell _
theorem pl_tab {n r c : Nat} {f : Nat → Nat → Option Int} (hr : r ≤ 6) (hc : c ≤ 6) : Pl (n + 3) (tabD r c f) := pl_row (by omega) fun _ _ => pl_row (by omega) fun _ _ => pl_opt _
theorem side_of {n : Nat} {ys : List PyData} (hl : ys.length = n) (h : ∀ y ∈ ys, ∃ o, NumO o ∧ y = optD o) : ∃ g : Nat → Option Int, ys = (List.range n).map (fun i => optD (g i)) ∧ ∀ i, i < n → NumO (g i) := by
  have : ∃ l : List (Option Int), ys = l.map optD ∧ ∀ o ∈ l, NumO o := by
    clear hl
    induction ys with
    | nil => exact ⟨[], rfl, fun o h => nomatch h⟩
    | cons y ys ih =>
      obtain ⟨o, ho, e⟩ := h y List.mem_cons_self
      obtain ⟨l, e2, h2⟩ := ih fun z hz => h z (List.mem_cons_of_mem _ hz)
      refine ⟨o :: l, by rw [e, e2]; rfl, fun x hx => ?_⟩
      rcases List.mem_cons.mp hx with rfl | hx
      · exact ho
      · exact h2 x hx
  obtain ⟨l, rfl, h2⟩ := this
  rw [List.length_map] at hl
  subst hl
  exact ⟨fun i => l.getD i default, fam_list optD l, fun i hi => h2 _ (getD_mem hi)⟩
end DL

namespace DL
open PySem PySem.Spec L2
local macro_rules | `(tactic| walk_at "d") => `(tactic| simp (config := { failIfUnchanged := false }) only [dSeq_e, dSkip_e, dLcX_e, mulSD_e, dStrM_e, splitD_s, dAsgD_e, dPut_e, dPv_e, dPx_e, dLcD_e, dListRng_e, dListZip_e, dKind_e, dExt_e, dPopS_e, dIns_e, onlyD, dNewT_e, dPutT_e, dUpd_e, dForC_e, dPopV_e, dRem_e, dPopD_e, dSwap_e, dWorks_e, dRaiseR_e, dTold_e, dInsD_e, dInsP_e, dNewH_e, dDo_e, dNetF_e, dFeedF_e, dCellsF_e, dSelf_e, inDicD_k, ninDicD_k, dictPD_k, flat_keyD, dNever_e, dAsg_e, dAsgA_e, dAsgF_e, dAsgL_e, dAsgLA_e, dDrop_e, dRet_e, dRetN_e, dRetL_e, dIfS_e, dApp_e, dAppA_e, dFor_e, dForA_e, dForF_e, dVar_e, dC_e, dNil_e, dCons_e, dTup_e, dLst_e, dOp_e, dChain_e, asB_e, dAnd_e, dOr_e, dNot_e, dAndV_e, dOrV_e, dNotV_e, dIf_e, dSl_e, dPart_e, dNoPart_e, dCB_e, dCall_e, dCallL_e, dLc_e, dLcL_e, dListL_e, dItems_e, dRng1_e, dRng2_e, dRng3_e, dIsi_e, dIsi2_e, dRaise_e, dNeg_e, tgn_e, tgt_e, setAll, frz, wipeD, envOf, lawEnv, lawEnds,
  oEr_e, oEl_e, oEx_e, oLl_e, oLx_e, inD_t, inD_l, ninD_t, ninD_l, List.any_cons, List.any_nil, Bool.or_false, addD_ii, addD_ss, addD_tt, addD_ll, subD_ii, mulD_ii, mulD_li, mulD_ti, dMinDf_e, dRetF_e, dPar_e, dEnum_e, fdivD_ii, modD_ii, powD_ii, cmpD_ii, isD_n, notD_n, isN_none, isN_int, isN_str, isN_tuple, isN_list, isN_opt, Option.isNone_none, Option.isNone_some, eqD_e, neD_e, ixD_t, ixD_l, slD_t, slD_l, lenD_t, lenD_l, tupleD_rng, tupleD_t, tupleD_l, listD_t, listD_l, min2D_ii, max2D_ii, absD_i, intD_i, intD_b, seqD_t, seqD_l, seqD_row, at0, at1, at2, at3, len_row, ixD_c0, ixD_c1, ixD_c2, ixD_n0, ixD_n1, ixD_n2, ixD_f0, ixD_f1, eqv_ii, shaped_int,
  List.map_cons, List.map_nil, List.set_cons_zero, List.set_cons_succ, List.set_nil, List.getElem?_cons_zero, List.getElem?_cons_succ, List.getElem?_nil, List.replicate_succ, List.replicate_zero, List.cons_append, List.nil_append, List.length_cons, List.length_nil, Nat.reduceAdd, Nat.reduceSub, Nat.add_zero, Nat.zero_add, Nat.sub_self, Nat.sub_zero, if_true, if_false, Bool.false_eq_true, Bool.not_true, Bool.not_false, reduceIte, flat, flatAll, flat_optD, flat_cellD, Bool.and_true, Bool.true_and, Bool.and_self, true_and, and_true, and_self, decide_true, decide_false, List.drop_zero, Int.toNat_natCast, Nat.reduceLeDiff, reduceCtorEq])
/-! ### runs -/
def fedF (L : Nat → List (Option Int)) (t i : Nat) : Option Int := match (L i)[t]? with
  | some o => o
  | none => none
def firstF (k : Kd) : Nat → Nat → Cell := fun _ _ => ⟨if k = .product then some 0 else none, none, none⟩
def stateF (k : Kd) (L T : Nat → List (Option Int)) : Nat → Nat → Nat → Cell
  | 0 => firstF k
  | t + 1 => stepF k (stateF k L T t) (fedF L t) (fedF T t)
/-- the lines of a side: numbers that are not too big, not too many -/
def GoodLs (n : Nat) (L : Nat → List (Option Int)) : Prop := ∀ i, i < n → (L i).length ≤ 1000 ∧ ∀ o ∈ L i, NumO o
theorem GoodLs.fed {n : Nat} {L : Nat → List (Option Int)} (h : GoodLs n L) {i : Nat} (hi : i < n) (t : Nat) : NumO (fedF L t i) := by
  unfold fedF
  cases e : (L i)[t]? with
  | none => exact NumO.none
  | some o => exact (h i hi).2 o (List.mem_of_getElem? e)
theorem GoodLs.side {n : Nat} {L : Nat → List (Option Int)} (h : GoodLs n L) (k : Kd) (t : Nat) : GoodSide k n (fedF L t) := fun _ i hi => (h.fed hi t).sm
theorem step_good {k : Kd} {r c : Nat} {f : Nat → Nat → Cell} {left top : Nat → Option Int} (hg : GoodSt k r c f) (hl : GoodSide k r left) (ht : GoodSide k c top) : GoodSt k r c (stepF k f left top) := by
  refine ⟨fun e i j hi hj => ?_, fun e i j hi hj => ?_⟩
  · have := hg.kept e i j hi hj
    unfold stepF cellB
    subst e
    simp only
    split
    · simpa using this
    · exact this
  · have a1 : Sm (if j = 0 then left i else (f i (j - 1)).right) := by
      split
      · exact hl e i hi
      · exact (hg.sm e i (j - 1) hi (by omega)).1
    have a2 : Sm (if i = 0 then top j else (f (i - 1) j).down) := by
      split
      · exact ht e j hj
      · exact (hg.sm e (i - 1) j (by omega) hj).2
    unfold stepF cellB
    subst e
    simp only
    split
    · exact ⟨a1, a2⟩
    · exact ⟨a1, a2⟩
theorem first_good (k : Kd) (r c : Nat) : GoodSt k r c (firstF k) := ⟨fun e i j _ _ => (by simp [firstF, e]), fun _ i j _ _ => ⟨fun _ h => (nomatch h), fun _ h => (nomatch h)⟩⟩
theorem state_good {k : Kd} {r c : Nat} {L T : Nat → List (Option Int)} (hL : GoodLs r L) (hT : GoodLs c T) : ∀ t, GoodSt k r c (stateF k L T t)
  | 0 => first_good k r c
  | t + 1 => step_good (state_good hL hT t) (hL.side k t) (hT.side k t)
theorem need_beats_ok {b : Nat} {P : O → Prop} (hb : b ≤ 60) (q : P (.ret .none)) : S_need_beats [.int b] P := by
  refine ⟨rfl, ?_⟩
  unfold F_need_beats
  have e1 : decide ((0 : Int) ≤ (b : Nat)) = true := by simp
  have e2 : decide (((b : Nat) : Int) ≤ 60) = true := by simp; omega
  walk_at "d"
  rw [e1, e2]
  simpa using q
theorem need_run_ok {k : Kd} {r c b : Nat} {L T : Nat → List (Option Int)} {P : O → Prop} (h1 : 1 ≤ r) (h2 : r ≤ 6) (h3 : 1 ≤ c) (h4 : c ≤ 6) (hb : b ≤ 60) (q : P (.ret .none)) : S_need_run [netD k r c, feedD r c L T, .int b] P := by
  refine ⟨rfl, ?_⟩
  unfold F_need_run
  walk_at "d"
  refine need_net_ok h1 h2 h3 h4 ?_
  walk_at "d"
  refine need_sides_ok (a := (List.range r).map fun i => lineD (L i)) (b := (List.range c).map fun i => lineD (T i)) (by simp) (by simp) (.inl rfl) (.inl rfl) ?_
  walk_at "d"
  refine need_beats_ok hb ?_
  walk_at "d"
  exact q
theorem map_const {n : Nat} (x : PyData) : (rngD 0 n).map (fun _ => x) = (List.range n).map fun _ => x := by unfold rngD; rw [List.map_map]; rfl
theorem first_of_ok {k : Kd} {r c : Nat} {P : O → Prop} (h2 : r ≤ 6) (h4 : c ≤ 6) (q : P (.ret (stD r c (firstF k)))) : S_first_of [netD k r c] P := by
  refine ⟨rfl, ?_⟩
  unfold F_first_of
  have e := kd_eq k
  walk_at "d"
  refine ⟨e.1, sh_p, ?_⟩
  rw [e.2.1]
  have q1 : ∀ cell : PyData, cell = cellD (firstF k 0 0) → (P (.ret (.tuple ((rngD 0 r).map fun _ => .tuple ((rngD 0 c).map fun _ => cell))))) := fun cell h => by
    rw [map_const, map_const, h]
    exact q
  have q2 : ∀ cell : PyData, cell = cellD (firstF k 0 0) → (rngD 0 r).length ≤ 100000 ∧ lcD (fun x => (Tg.nm 2).d x [.d (netD k r c), .d cell, .un, .un]) (dYes nxq) ((dCB tupleD (dCons (dLc (dRng1 (dCons (dOp ixD (dVar 0) (dC (.int 2))) dNil)) (.nm 3) dYes (dVar 1) [3]) dNil)) nxq) (rngD 0 r) (fun ys => P (.ret (.tuple ys))) := fun cell h => by
    refine ⟨by simp [rngD]; omega, ?_⟩
    refine lcD_map (fun _ => .tuple ((rngD 0 c).map fun _ => cell)) (fun x hx Q hQ => ?_) ?_
    · walk_at "d"
      refine ⟨⟨by omega, by omega⟩, by simp [rngD]; omega, ?_⟩
      refine lcD_map (fun _ => cell) (fun y hy R hR => ?_) ?_
      · walk_at "d"
        exact hR
      · walk_at "d"
        exact hQ
    · exact q1 cell h
  cases k <;> (simp only [reduceCtorEq, decide_true, decide_false, if_true, Bool.false_eq_true, if_false]; exact ⟨⟨by omega, by omega⟩, q2 _ rfl⟩)
theorem fed_now_ok {n t : Nat} {L : Nat → List (Option Int)} {P : O → Prop} (hn : n ≤ 1000) (q : P (.ret (.list ((List.range n).map fun i => optD (fedF L t i))))) : S_fed_now [rowD n fun i => lineD (L i), .int t] P := by
  refine ⟨rfl, ?_⟩
  unfold F_fed_now
  walk_at "d"
  refine ⟨by simp; omega, ?_⟩
  refine lcD_map (fun x => match x with | .tuple ds => (match ds[t]? with | some y => y | none => .none) | _ => .none) (fun x hx Q hQ => ?_) ?_
  · obtain ⟨i, hi, rfl⟩ := List.mem_map.mp hx
    unfold lineD at hQ ⊢
    walk_at "d"
    cases e : ((L i).map optD)[t]? with
    | none =>
      simp only [e] at hQ
      have h1 : ¬ ((t : Nat) : Int) < (((L i).map optD).length : Nat) := by
        have := List.getElem?_eq_none_iff.mp e
        omega
      rw [decide_eq_false h1]
      walk_at "d"
      exact hQ
    | some y =>
      simp only [e] at hQ
      have h1 : ((t : Nat) : Int) < (((L i).map optD).length : Nat) := by
        have := (List.getElem?_eq_some_iff.mp e).1
        omega
      rw [decide_eq_true h1]
      walk_at "d"
      rw [atI_nat e]
      exact hQ
  · rw [List.map_map]
    have e : ((List.range n).map ((fun x => match x with | .tuple ds => (match ds[t]? with | some y => y | none => .none) | _ => .none) ∘ fun i => lineD (L i)) : List PyData) = (List.range n).map fun i => optD (fedF L t i) := by
      apply List.map_congr_left
      intro i _
      simp only [Function.comp_def, lineD, List.getElem?_map, fedF]
      cases (L i)[t]? <;> rfl
    rw [e]
    exact q
def statesD (k : Kd) (r c : Nat) (L T : Nat → List (Option Int)) (n : Nat) : List PyData := (List.range n).map fun t => stD r c (stateF k L T (t + 1))
theorem states_succ {k : Kd} {r c : Nat} {L T : Nat → List (Option Int)} {n : Nat} : statesD k r c L T (n + 1) = statesD k r c L T n ++ [stD r c (stateF k L T (n + 1))] := range_succ_map _ _
theorem flat_st {r c : Nat} {f : Nat → Nat → Cell} : flat (stD r c f) = true := flat_rowD fun _ _ => flat_rowD fun _ _ => flat_cellD _
theorem run_ok {k : Kd} {r c b : Nat} {L T : Nat → List (Option Int)} {P : O → Prop} (h1 : 1 ≤ r) (h2 : r ≤ 6) (h3 : 1 ≤ c) (h4 : c ≤ 6) (hb : b ≤ 60) (hL : GoodLs r L) (hT : GoodLs c T) (q : P (.retL (statesD k r c L T b))) : S_run [netD k r c, feedD r c L T, .int b] P := by
  refine ⟨rfl, ?_⟩
  unfold F_run
  walk_at "d"
  refine need_run_ok h1 h2 h3 h4 hb ?_
  walk_at "d"
  refine first_of_ok h2 h4 ?_
  walk_at "d"
  refine ⟨⟨by omega, by omega⟩, ?_⟩
  refine for_rng (fun t ρ => ∃ e5, ρ = [.d (netD k r c), .d (feedD r c L T), .d (.int b), .own (statesD k r c L T t), .d (stD r c (stateF k L T t)), e5]) ⟨_, rfl⟩ ?_ ?_
  · rintro t ρ Kt ht ⟨e5, rfl⟩ hk
    walk_at "d"
    refine fed_now_ok (by omega) ?_
    walk_at "d"
    refine fed_now_ok (by omega) ?_
    walk_at "d"
    refine state_behind_ok h2 h4 (state_good hL hT t) (hL.side k t) (hT.side k t) (.inr rfl) (.inr rfl) ?_
    walk_at "d"
    refine ⟨by unfold statesD; simp; omega, hk _ ⟨.d (.int (t : Nat)), ?_⟩⟩
    rw [states_succ]
    rfl
  · rintro ρ ⟨e5, rfl⟩
    walk_at "d"
    exact q
end DL

namespace DL
open PySem PySem.Spec L2
local macro_rules | `(tactic| walk_at "d") => `(tactic| simp (config := { failIfUnchanged := false }) only [dSeq_e, dSkip_e, dLcX_e, mulSD_e, dStrM_e, splitD_s, dAsgD_e, dPut_e, dPv_e, dPx_e, dLcD_e, dListRng_e, dListZip_e, dKind_e, dExt_e, dPopS_e, dIns_e, onlyD, dNewT_e, dPutT_e, dUpd_e, dForC_e, dPopV_e, dRem_e, dPopD_e, dSwap_e, dWorks_e, dRaiseR_e, dTold_e, dInsD_e, dInsP_e, dNewH_e, dDo_e, dNetF_e, dFeedF_e, dCellsF_e, dSelf_e, inDicD_k, ninDicD_k, dictPD_k, flat_keyD, dNever_e, dAsg_e, dAsgA_e, dAsgF_e, dAsgL_e, dAsgLA_e, dDrop_e, dRet_e, dRetN_e, dRetL_e, dIfS_e, dApp_e, dAppA_e, dFor_e, dForA_e, dForF_e, dVar_e, dC_e, dNil_e, dCons_e, dTup_e, dLst_e, dOp_e, dChain_e, asB_e, dAnd_e, dOr_e, dNot_e, dAndV_e, dOrV_e, dNotV_e, dIf_e, dSl_e, dPart_e, dNoPart_e, dCB_e, dCall_e, dCallL_e, dLc_e, dLcL_e, dListL_e, dItems_e, dRng1_e, dRng2_e, dRng3_e, dIsi_e, dIsi2_e, dRaise_e, dNeg_e, tgn_e, tgt_e, setAll, frz, wipeD, envOf, lawEnv, lawEnds,
  oEr_e, oEl_e, oEx_e, oLl_e, oLx_e, inD_t, inD_l, ninD_t, ninD_l, List.any_cons, List.any_nil, Bool.or_false, addD_ii, addD_ss, addD_tt, addD_ll, subD_ii, mulD_ii, mulD_li, mulD_ti, dMinDf_e, dRetF_e, dPar_e, dEnum_e, fdivD_ii, modD_ii, powD_ii, cmpD_ii, isD_n, notD_n, isN_none, isN_int, isN_str, isN_tuple, isN_list, isN_opt, Option.isNone_none, Option.isNone_some, eqD_e, neD_e, ixD_t, ixD_l, slD_t, slD_l, lenD_t, lenD_l, tupleD_rng, tupleD_t, tupleD_l, listD_t, listD_l, min2D_ii, max2D_ii, absD_i, intD_i, intD_b, seqD_t, seqD_l, seqD_row, at0, at1, at2, at3, len_row, ixD_c0, ixD_c1, ixD_c2, ixD_n0, ixD_n1, ixD_n2, ixD_f0, ixD_f1, eqv_ii, shaped_int,
  List.map_cons, List.map_nil, List.set_cons_zero, List.set_cons_succ, List.set_nil, List.getElem?_cons_zero, List.getElem?_cons_succ, List.getElem?_nil, List.replicate_succ, List.replicate_zero, List.cons_append, List.nil_append, List.length_cons, List.length_nil, Nat.reduceAdd, Nat.reduceSub, Nat.add_zero, Nat.zero_add, Nat.sub_self, Nat.sub_zero, if_true, if_false, Bool.false_eq_true, Bool.not_true, Bool.not_false, reduceIte, flat, flatAll, flat_optD, flat_cellD, Bool.and_true, Bool.true_and, Bool.and_self, true_and, and_true, and_self, decide_true, decide_false, List.drop_zero, Int.toNat_natCast, Nat.reduceLeDiff, reduceCtorEq])
/-! ### lines and feeds drawn -/
theorem law_line_ok {m : Nat} {P : O → Prop} (hm : m ≤ 900) (q : ∀ l : List (Option Int), l.length ≤ m → (∀ o ∈ l, NumO o) → P (.ret (lineD l))) : S__law_line [.dict [], .int m] P := by
  refine ⟨rfl, ?_⟩
  unfold F__law_line
  walk_at "d"
  refine drawn_e (by omega) (small_big (by omega)) fun x hx => ?_
  refine ⟨⟨by omega, by omega⟩, ?_⟩
  rw [Int.toNat_natCast]
  refine for_rng (fun i ρ => ∃ l : List (Option Int), l.length = i ∧ (∀ o ∈ l, NumO o) ∧ ∃ e3, ρ = [.d (.dict []), .d (.int m), .own (l.map optD), e3]) ⟨[], rfl, (fun o h => nomatch h), _, rfl⟩ ?_ ?_
  · rintro i ρ Kt hi ⟨l, hl, hn, e3, rfl⟩ hk
    walk_at "d"
    refine ⟨by rw [List.length_map]; omega, ?_⟩
    refine number_ok fun z hz => ?_
    walk_at "d"
    refine drawn_e (by decide) (by decide) fun u hu => ?_
    walk_at "d"
    have fin : ∀ o, NumO o → Kt [.d (.dict []), .d (.int m), .own (l.map optD ++ [optD o]), .d (.int i)] := fun o ho => hk _ ⟨l ++ [o], by rw [List.length_append, hl]; rfl, fun y hy => (List.mem_append.mp hy).elim (hn y) fun h => by cases List.mem_singleton.mp h; exact ho, _, by rw [List.map_append]; rfl⟩
    exact at_bool (fun _ => fin (some z) (.some hz)) fun _ => fin none .none
  · rintro ρ ⟨l, hl, hn, e3, rfl⟩
    walk_at "d"
    exact q l (by omega) hn
theorem lines_of {n m : Nat} {ys : List PyData} (hl : ys.length = n) (hy : ∀ y ∈ ys, ∃ l : List (Option Int), l.length ≤ m ∧ (∀ o ∈ l, NumO o) ∧ y = lineD l) : ∃ L : Nat → List (Option Int), ys = (List.range n).map (fun i => lineD (L i)) ∧ ∀ i, i < n → (L i).length ≤ m ∧ ∀ o ∈ L i, NumO o := by
  have : ∃ ls : List (List (Option Int)), ys = ls.map lineD ∧ ∀ l ∈ ls, l.length ≤ m ∧ ∀ o ∈ l, NumO o := by
    clear hl
    induction ys with
    | nil => exact ⟨[], rfl, fun o h => nomatch h⟩
    | cons y ys ih =>
      obtain ⟨o, h1, h2, e⟩ := hy y List.mem_cons_self
      obtain ⟨l, e2, h3⟩ := ih fun z hz => hy z (List.mem_cons_of_mem _ hz)
      refine ⟨o :: l, by rw [e, e2]; rfl, fun x hx => ?_⟩
      rcases List.mem_cons.mp hx with rfl | hx
      · exact ⟨h1, h2⟩
      · exact h3 x hx
  obtain ⟨ls, rfl, h2⟩ := this
  rw [List.length_map] at hl
  subst hl
  exact ⟨fun i => ls.getD i default, fam_list lineD ls, fun i hi => h2 _ (getD_mem hi)⟩
def Lens (n m : Nat) (L : Nat → List (Option Int)) : Prop := ∀ i, i < n → (L i).length ≤ m
theorem law_feed_ok {k : Kd} {r c m : Nat} {P : O → Prop} (hr : r ≤ 6) (hc : c ≤ 6) (hm : m ≤ 900) (q : ∀ L T, GoodLs r L → GoodLs c T → Lens r m L → Lens c m T → P (.ret (feedD r c L T))) : S__law_feed [.dict [], netD k r c, .int m] P := by
  refine ⟨rfl, ?_⟩
  unfold F__law_feed
  walk_at "d"
  refine ⟨⟨by omega, by omega⟩, by simp [rngD]; omega, ?_⟩
  refine lcD_any (fun y => ∃ l : List (Option Int), l.length ≤ m ∧ (∀ o ∈ l, NumO o) ∧ y = lineD l) (fun x hx Q hQ => ?_) fun ys hl hy => ?_
  · walk_at "d"
    exact law_line_ok hm fun l h1 h2 => hQ _ ⟨l, h1, h2, rfl⟩
  obtain ⟨L, rfl, hL⟩ := lines_of (n := r) (by simpa [rngD] using hl) hy
  walk_at "d"
  refine ⟨⟨by omega, by omega⟩, by simp [rngD]; omega, ?_⟩
  refine lcD_any (fun y => ∃ l : List (Option Int), l.length ≤ m ∧ (∀ o ∈ l, NumO o) ∧ y = lineD l) (fun x hx Q hQ => ?_) fun ys hl hy => ?_
  · walk_at "d"
    exact law_line_ok hm fun l h1 h2 => hQ _ ⟨l, h1, h2, rfl⟩
  obtain ⟨T, rfl, hT⟩ := lines_of (n := c) (by simpa [rngD] using hl) hy
  walk_at "d"
  exact q L T (fun i hi => ⟨Nat.le_trans (hL i hi).1 (by omega), (hL i hi).2⟩) (fun i hi => ⟨Nat.le_trans (hT i hi).1 (by omega), (hT i hi).2⟩) (fun i hi => (hL i hi).1) fun i hi => (hT i hi).1
end DL

namespace DL
open PySem PySem.Spec L2
local macro_rules | `(tactic| walk_at "d") => `(tactic| simp (config := { failIfUnchanged := false }) only [dSeq_e, dSkip_e, dLcX_e, mulSD_e, dStrM_e, splitD_s, dAsgD_e, dPut_e, dPv_e, dPx_e, dLcD_e, dListRng_e, dListZip_e, dKind_e, dExt_e, dPopS_e, dIns_e, onlyD, dNewT_e, dPutT_e, dUpd_e, dForC_e, dPopV_e, dRem_e, dPopD_e, dSwap_e, dWorks_e, dRaiseR_e, dTold_e, dInsD_e, dInsP_e, dNewH_e, dDo_e, dNetF_e, dFeedF_e, dCellsF_e, dSelf_e, inDicD_k, ninDicD_k, dictPD_k, flat_keyD, dNever_e, dAsg_e, dAsgA_e, dAsgF_e, dAsgL_e, dAsgLA_e, dDrop_e, dRet_e, dRetN_e, dRetL_e, dIfS_e, dApp_e, dAppA_e, dFor_e, dForA_e, dForF_e, dVar_e, dC_e, dNil_e, dCons_e, dTup_e, dLst_e, dOp_e, dChain_e, asB_e, dAnd_e, dOr_e, dNot_e, dAndV_e, dOrV_e, dNotV_e, dIf_e, dSl_e, dPart_e, dNoPart_e, dCB_e, dCall_e, dCallL_e, dLc_e, dLcL_e, dListL_e, dItems_e, dRng1_e, dRng2_e, dRng3_e, dIsi_e, dIsi2_e, dRaise_e, dNeg_e, tgn_e, tgt_e, setAll, frz, wipeD, envOf, lawEnv, lawEnds,
  oEr_e, oEl_e, oEx_e, oLl_e, oLx_e, inD_t, inD_l, ninD_t, ninD_l, List.any_cons, List.any_nil, Bool.or_false, addD_ii, addD_ss, addD_tt, addD_ll, subD_ii, mulD_ii, mulD_li, mulD_ti, dMinDf_e, dRetF_e, dPar_e, dEnum_e, fdivD_ii, modD_ii, powD_ii, cmpD_ii, isD_n, notD_n, isN_none, isN_int, isN_str, isN_tuple, isN_list, isN_opt, Option.isNone_none, Option.isNone_some, eqD_e, neD_e, ixD_t, ixD_l, slD_t, slD_l, lenD_t, lenD_l, tupleD_rng, tupleD_t, tupleD_l, listD_t, listD_l, min2D_ii, max2D_ii, absD_i, intD_i, intD_b, seqD_t, seqD_l, seqD_row, at0, at1, at2, at3, len_row, ixD_c0, ixD_c1, ixD_c2, ixD_n0, ixD_n1, ixD_n2, ixD_f0, ixD_f1, eqv_ii, shaped_int,
  List.map_cons, List.map_nil, List.set_cons_zero, List.set_cons_succ, List.set_nil, List.getElem?_cons_zero, List.getElem?_cons_succ, List.getElem?_nil, List.replicate_succ, List.replicate_zero, List.cons_append, List.nil_append, List.length_cons, List.length_nil, Nat.reduceAdd, Nat.reduceSub, Nat.add_zero, Nat.zero_add, Nat.sub_self, Nat.sub_zero, if_true, if_false, Bool.false_eq_true, Bool.not_true, Bool.not_false, reduceIte, flat, flatAll, flat_optD, flat_cellD, Bool.and_true, Bool.true_and, Bool.and_self, true_and, and_true, and_self, decide_true, decide_false, List.drop_zero, Int.toNat_natCast, Nat.reduceLeDiff, reduceCtorEq])
/-! ### slices -/
theorem cut_ab {α : Type} (xs : List α) (a b : Nat) : cutD xs (some (a : Int)) (some (b : Int)) = (xs.take b).drop a := by
  unfold cutD
  rw [HT.sIx_nat, HT.sIx_nat]
  rw [List.drop_take]
  by_cases h : a ≤ xs.length
  · rw [Nat.min_eq_left h]
    by_cases h2 : b ≤ xs.length
    · rw [Nat.min_eq_left h2]
    · rw [Nat.min_eq_right (by omega), List.take_of_length_le (by simp), List.take_of_length_le (by simp; omega)]
  · rw [Nat.min_eq_right (by omega : xs.length ≤ a), List.drop_of_length_le (Nat.le_refl _), List.drop_of_length_le (by omega)]
    simp
theorem cut_a {α : Type} (xs : List α) (a : Nat) : cutD xs (some (a : Int)) none = xs.drop a := by
  unfold cutD
  rw [HT.sIx_nat]
  show (xs.drop (min a xs.length)).take (xs.length - min a xs.length) = _
  by_cases h : a ≤ xs.length
  · rw [Nat.min_eq_left h, List.take_of_length_le (by simp)]
  · rw [Nat.min_eq_right (by omega : xs.length ≤ a), List.drop_of_length_le (Nat.le_refl _), List.drop_of_length_le (by omega)]
    simp
theorem cut_b {α : Type} (xs : List α) (b : Nat) : cutD xs none (some (b : Int)) = xs.take b := by
  unfold cutD
  rw [HT.sIx_nat]
  show (xs.drop 0).take (min b xs.length - 0) = _
  rw [List.drop_zero, Nat.sub_zero]
  by_cases h : b ≤ xs.length
  · rw [Nat.min_eq_left h]
  · rw [Nat.min_eq_right (by omega : xs.length ≤ b), List.take_of_length_le (Nat.le_refl _), List.take_of_length_le (by omega)]
theorem atI_last {α : Type} {xs : List α} {x : α} : atI (xs ++ [x]) (-1) = some x := by
  have e : ixN (xs ++ [x]).length (-1) = some xs.length := by
    unfold ixN
    rw [List.length_append, List.length_singleton, if_neg (by omega), if_pos (by omega)]
    congr 1
    omega
  unfold atI
  rw [e]
  simp
theorem repl_flat (x : PyData) (n : Nat) : (List.replicate n [x]).flatten = (List.range n).map fun _ => x := by
  induction n with
  | zero => rfl
  | succ n ih => rw [List.replicate_succ', List.flatten_append, ih, range_succ_map]; rfl
end DL

namespace DL
open PySem PySem.Spec L2
local macro_rules | `(tactic| walk_at "d") => `(tactic| simp (config := { failIfUnchanged := false }) only [dSeq_e, dSkip_e, dLcX_e, mulSD_e, dStrM_e, splitD_s, dAsgD_e, dPut_e, dPv_e, dPx_e, dLcD_e, dListRng_e, dListZip_e, dKind_e, dExt_e, dPopS_e, dIns_e, onlyD, dNewT_e, dPutT_e, dUpd_e, dForC_e, dPopV_e, dRem_e, dPopD_e, dSwap_e, dWorks_e, dRaiseR_e, dTold_e, dInsD_e, dInsP_e, dNewH_e, dDo_e, dNetF_e, dFeedF_e, dCellsF_e, dSelf_e, inDicD_k, ninDicD_k, dictPD_k, flat_keyD, dNever_e, dAsg_e, dAsgA_e, dAsgF_e, dAsgL_e, dAsgLA_e, dDrop_e, dRet_e, dRetN_e, dRetL_e, dIfS_e, dApp_e, dAppA_e, dFor_e, dForA_e, dForF_e, dVar_e, dC_e, dNil_e, dCons_e, dTup_e, dLst_e, dOp_e, dChain_e, asB_e, dAnd_e, dOr_e, dNot_e, dAndV_e, dOrV_e, dNotV_e, dIf_e, dSl_e, dPart_e, dNoPart_e, dCB_e, dCall_e, dCallL_e, dLc_e, dLcL_e, dListL_e, dItems_e, dRng1_e, dRng2_e, dRng3_e, dIsi_e, dIsi2_e, dRaise_e, dNeg_e, tgn_e, tgt_e, setAll, frz, wipeD, envOf, lawEnv, lawEnds,
  oEr_e, oEl_e, oEx_e, oLl_e, oLx_e, inD_t, inD_l, ninD_t, ninD_l, List.any_cons, List.any_nil, Bool.or_false, addD_ii, addD_ss, addD_tt, addD_ll, subD_ii, mulD_ii, mulD_li, mulD_ti, dMinDf_e, dRetF_e, dPar_e, dEnum_e, fdivD_ii, modD_ii, powD_ii, cmpD_ii, isD_n, notD_n, isN_none, isN_int, isN_str, isN_tuple, isN_list, isN_opt, Option.isNone_none, Option.isNone_some, eqD_e, neD_e, ixD_t, ixD_l, slD_t, slD_l, lenD_t, lenD_l, tupleD_rng, tupleD_t, tupleD_l, listD_t, listD_l, min2D_ii, max2D_ii, absD_i, intD_i, intD_b, seqD_t, seqD_l, seqD_row, at0, at1, at2, at3, len_row, ixD_c0, ixD_c1, ixD_c2, ixD_n0, ixD_n1, ixD_n2, ixD_f0, ixD_f1, eqv_ii, shaped_int,
  List.map_cons, List.map_nil, List.set_cons_zero, List.set_cons_succ, List.set_nil, List.getElem?_cons_zero, List.getElem?_cons_succ, List.getElem?_nil, List.replicate_succ, List.replicate_zero, List.cons_append, List.nil_append, List.length_cons, List.length_nil, Nat.reduceAdd, Nat.reduceSub, Nat.add_zero, Nat.zero_add, Nat.sub_self, Nat.sub_zero, if_true, if_false, Bool.false_eq_true, Bool.not_true, Bool.not_false, reduceIte, flat, flatAll, flat_optD, flat_cellD, Bool.and_true, Bool.true_and, Bool.and_self, true_and, and_true, and_self, decide_true, decide_false, List.drop_zero, Int.toNat_natCast, Nat.reduceLeDiff, reduceCtorEq])
/-! ### what a net keeps, by one sum -/
def atL (l : List (Option Int)) (t : Nat) : Option Int := match l[t]? with
  | some o => o
  | none => none
theorem fedF_eq (L : Nat → List (Option Int)) (t i : Nat) : fedF L t i = atL (L i) t := rfl
def fedAt (l : List (Option Int)) (t : Int) : Option Int := if 0 ≤ t then atL l t.toNat else none
theorem fed_at_ok {l : List (Option Int)} {t : Int} {P : O → Prop} (q : P (.ret (optD (fedAt l t)))) : S_fed_at [lineD l, .int t] P := by
  refine ⟨rfl, ?_⟩
  unfold F_fed_at lineD
  walk_at "d"
  by_cases h0 : 0 ≤ t
  · obtain ⟨n, rfl⟩ := Int.eq_ofNat_of_zero_le h0
    rw [decide_eq_true h0]
    unfold fedAt atL at q
    rw [if_pos h0, Int.toNat_natCast] at q
    cases e : l[n]? with
    | none =>
      rw [e] at q
      have h1 : ¬ ((n : Nat) : Int) < ((l.map optD).length : Nat) := by
        have := List.getElem?_eq_none_iff.mp e
        simp; omega
      walk_at "d"
      rw [decide_eq_false h1]
      walk_at "d"
      exact q
    | some o =>
      rw [e] at q
      have h1 : ((n : Nat) : Int) < ((l.map optD).length : Nat) := by
        have := (List.getElem?_eq_some_iff.mp e).1
        simp; omega
      walk_at "d"
      rw [decide_eq_true h1]
      walk_at "d"
      rw [atI_nat (by rw [List.getElem?_map, e]; rfl)]
      exact q
  · rw [decide_eq_false h0]
    unfold fedAt at q
    rw [if_neg h0] at q
    walk_at "d"
    exact q
def meet1 (l u : List (Option Int)) (i j t : Nat) : Option (Int × Int) := match fedAt l ((t : Int) - (j : Int)), fedAt u ((t : Int) - (i : Int)) with
  | some a, some b => some (a, b)
  | _, _ => none
def meetsL (l u : List (Option Int)) (i j b : Nat) : List (Int × Int) := (List.range b).filterMap (meet1 l u i j)
def pairD (p : Int × Int) : PyData := .tuple [.int p.1, .int p.2]
theorem meets_succ (l u : List (Option Int)) (i j b : Nat) : meetsL l u i j (b + 1) = meetsL l u i j b ++ (meet1 l u i j b).toList := by
  unfold meetsL
  rw [List.range_succ, List.filterMap_append]
  cases e : meet1 l u i j b <;> simp [e]
theorem meets_len (l u : List (Option Int)) (i j b : Nat) : (meetsL l u i j b).length ≤ b := by
  have := List.length_filterMap_le (meet1 l u i j) (List.range b)
  simpa [meetsL] using this
end DL

namespace DL
open PySem PySem.Spec L2
local macro_rules | `(tactic| walk_at "d") => `(tactic| simp (config := { failIfUnchanged := false }) only [dSeq_e, dSkip_e, dLcX_e, mulSD_e, dStrM_e, splitD_s, dAsgD_e, dPut_e, dPv_e, dPx_e, dLcD_e, dListRng_e, dListZip_e, dKind_e, dExt_e, dPopS_e, dIns_e, onlyD, dNewT_e, dPutT_e, dUpd_e, dForC_e, dPopV_e, dRem_e, dPopD_e, dSwap_e, dWorks_e, dRaiseR_e, dTold_e, dInsD_e, dInsP_e, dNewH_e, dDo_e, dNetF_e, dFeedF_e, dCellsF_e, dSelf_e, inDicD_k, ninDicD_k, dictPD_k, flat_keyD, dNever_e, dAsg_e, dAsgA_e, dAsgF_e, dAsgL_e, dAsgLA_e, dDrop_e, dRet_e, dRetN_e, dRetL_e, dIfS_e, dApp_e, dAppA_e, dFor_e, dForA_e, dForF_e, dVar_e, dC_e, dNil_e, dCons_e, dTup_e, dLst_e, dOp_e, dChain_e, asB_e, dAnd_e, dOr_e, dNot_e, dAndV_e, dOrV_e, dNotV_e, dIf_e, dSl_e, dPart_e, dNoPart_e, dCB_e, dCall_e, dCallL_e, dLc_e, dLcL_e, dListL_e, dItems_e, dRng1_e, dRng2_e, dRng3_e, dIsi_e, dIsi2_e, dRaise_e, dNeg_e, tgn_e, tgt_e, setAll, frz, wipeD, envOf, lawEnv, lawEnds,
  oEr_e, oEl_e, oEx_e, oLl_e, oLx_e, inD_t, inD_l, ninD_t, ninD_l, List.any_cons, List.any_nil, Bool.or_false, addD_ii, addD_ss, addD_tt, addD_ll, subD_ii, mulD_ii, mulD_li, mulD_ti, dMinDf_e, dRetF_e, dPar_e, dEnum_e, fdivD_ii, modD_ii, powD_ii, cmpD_ii, isD_n, notD_n, isN_none, isN_int, isN_str, isN_tuple, isN_list, isN_opt, Option.isNone_none, Option.isNone_some, eqD_e, neD_e, ixD_t, ixD_l, slD_t, slD_l, lenD_t, lenD_l, tupleD_rng, tupleD_t, tupleD_l, listD_t, listD_l, min2D_ii, max2D_ii, absD_i, intD_i, intD_b, seqD_t, seqD_l, seqD_row, at0, at1, at2, at3, len_row, ixD_c0, ixD_c1, ixD_c2, ixD_n0, ixD_n1, ixD_n2, ixD_f0, ixD_f1, eqv_ii, shaped_int,
  List.map_cons, List.map_nil, List.set_cons_zero, List.set_cons_succ, List.set_nil, List.getElem?_cons_zero, List.getElem?_cons_succ, List.getElem?_nil, List.replicate_succ, List.replicate_zero, List.cons_append, List.nil_append, List.length_cons, List.length_nil, Nat.reduceAdd, Nat.reduceSub, Nat.add_zero, Nat.zero_add, Nat.sub_self, Nat.sub_zero, if_true, if_false, Bool.false_eq_true, Bool.not_true, Bool.not_false, reduceIte, flat, flatAll, flat_optD, flat_cellD, Bool.and_true, Bool.true_and, Bool.and_self, true_and, and_true, and_self, decide_true, decide_false, List.drop_zero, Int.toNat_natCast, Nat.reduceLeDiff, reduceCtorEq])
def sumF (k : Kd) (l u : List (Option Int)) (i j b : Nat) : Option Int := match k with
  | .sorting => (sortI ((l.take (b - j)).filterMap id))[j]?
  | .product => some ((meetsL l u i j b).map fun p => p.1 * p.2).sum
  | .paths => minI ((meetsL l u i j b).map fun p => p.1 + p.2)
theorem opt_get {ns : List Int} {j : Nat} {P : PyData → Prop} (q : P (optD ns[j]?)) : (if decide (((j : Nat) : Int) < ((ns.map PyData.int).length : Nat)) = true then ixD (.list (ns.map PyData.int)) (.int (j : Nat)) P else P .none) := by
  cases e : ns[j]? with
  | none =>
    rw [e] at q
    have h1 : ¬ ((j : Nat) : Int) < ((ns.map PyData.int).length : Nat) := by
      have := List.getElem?_eq_none_iff.mp e
      simp; omega
    rw [decide_eq_false h1]
    exact q
  | some o =>
    rw [e] at q
    have h1 : ((j : Nat) : Int) < ((ns.map PyData.int).length : Nat) := by
      have := (List.getElem?_eq_some_iff.mp e).1
      simp; omega
    rw [decide_eq_true h1, ixD_l, atI_nat (by rw [List.getElem?_map, e]; rfl)]
    exact q
theorem fm_opts : ∀ l : List (Option Int), ((l.map optD).filter fun x => !isN x).map (fun x => x) = (l.filterMap id).map PyData.int
  | [] => rfl
  | none :: l => by
    have := fm_opts l
    simpa [optD, isN] using this
  | some a :: l => by
    have := fm_opts l
    simpa [optD, isN] using this
theorem numO_log {a b : Int} (ha : Num a) (hb : Num b) : a.natAbs.log2 + b.natAbs.log2 < 1000000 :=
  sm_log (Nat.lt_of_lt_of_le ha two_le) (Nat.lt_of_lt_of_le hb two_le)
theorem fedAt_num {l : List (Option Int)} (h : ∀ o ∈ l, NumO o) (t : Int) : NumO (fedAt l t) := by
  unfold fedAt atL
  split
  · cases e : l[t.toNat]? with
    | none => exact .none
    | some o => exact h o (List.mem_of_getElem? e)
  · exact .none
theorem meets_num {l u : List (Option Int)} (hl : ∀ o ∈ l, NumO o) (hu : ∀ o ∈ u, NumO o) {i j b : Nat} : ∀ p ∈ meetsL l u i j b, Num p.1 ∧ Num p.2 := fun p hp => by
  obtain ⟨t, _, e⟩ := List.mem_filterMap.mp hp
  unfold meet1 at e
  split at e
  · rename_i a b e1 e2
    cases e
    exact ⟨fedAt_num hl _ _ e1, fedAt_num hu _ _ e2⟩
  · cases e
end DL

namespace DL
open PySem PySem.Spec L2
local macro_rules | `(tactic| walk_at "d") => `(tactic| simp (config := { failIfUnchanged := false }) only [dSeq_e, dSkip_e, dLcX_e, mulSD_e, dStrM_e, splitD_s, dAsgD_e, dPut_e, dPv_e, dPx_e, dLcD_e, dListRng_e, dListZip_e, dKind_e, dExt_e, dPopS_e, dIns_e, onlyD, dNewT_e, dPutT_e, dUpd_e, dForC_e, dPopV_e, dRem_e, dPopD_e, dSwap_e, dWorks_e, dRaiseR_e, dTold_e, dInsD_e, dInsP_e, dNewH_e, dDo_e, dNetF_e, dFeedF_e, dCellsF_e, dSelf_e, inDicD_k, ninDicD_k, dictPD_k, flat_keyD, dNever_e, dAsg_e, dAsgA_e, dAsgF_e, dAsgL_e, dAsgLA_e, dDrop_e, dRet_e, dRetN_e, dRetL_e, dIfS_e, dApp_e, dAppA_e, dFor_e, dForA_e, dForF_e, dVar_e, dC_e, dNil_e, dCons_e, dTup_e, dLst_e, dOp_e, dChain_e, asB_e, dAnd_e, dOr_e, dNot_e, dAndV_e, dOrV_e, dNotV_e, dIf_e, dSl_e, dPart_e, dNoPart_e, dCB_e, dCall_e, dCallL_e, dLc_e, dLcL_e, dListL_e, dItems_e, dRng1_e, dRng2_e, dRng3_e, dIsi_e, dIsi2_e, dRaise_e, dNeg_e, tgn_e, tgt_e, setAll, frz, wipeD, envOf, lawEnv, lawEnds,
  oEr_e, oEl_e, oEx_e, oLl_e, oLx_e, inD_t, inD_l, ninD_t, ninD_l, List.any_cons, List.any_nil, Bool.or_false, addD_ii, addD_ss, addD_tt, addD_ll, subD_ii, mulD_ii, mulD_li, mulD_ti, dMinDf_e, dRetF_e, dPar_e, dEnum_e, fdivD_ii, modD_ii, powD_ii, cmpD_ii, isD_n, notD_n, isN_none, isN_int, isN_str, isN_tuple, isN_list, isN_opt, Option.isNone_none, Option.isNone_some, eqD_e, neD_e, ixD_t, ixD_l, slD_t, slD_l, lenD_t, lenD_l, tupleD_rng, tupleD_t, tupleD_l, listD_t, listD_l, min2D_ii, max2D_ii, absD_i, intD_i, intD_b, seqD_t, seqD_l, seqD_row, at0, at1, at2, at3, len_row, ixD_c0, ixD_c1, ixD_c2, ixD_n0, ixD_n1, ixD_n2, ixD_f0, ixD_f1, eqv_ii, shaped_int,
  List.map_cons, List.map_nil, List.set_cons_zero, List.set_cons_succ, List.set_nil, List.getElem?_cons_zero, List.getElem?_cons_succ, List.getElem?_nil, List.replicate_succ, List.replicate_zero, List.cons_append, List.nil_append, List.length_cons, List.length_nil, Nat.reduceAdd, Nat.reduceSub, Nat.add_zero, Nat.zero_add, Nat.sub_self, Nat.sub_zero, if_true, if_false, Bool.false_eq_true, Bool.not_true, Bool.not_false, reduceIte, flat, flatAll, flat_optD, flat_cellD, Bool.and_true, Bool.true_and, Bool.and_self, true_and, and_true, and_self, decide_true, decide_false, List.drop_zero, Int.toNat_natCast, Nat.reduceLeDiff, reduceCtorEq])
/-! ### what a run keeps is the sum -/
/-- a line taken in -/
def insF (k : Kd) (L T : Nat → List (Option Int)) (i j t : Nat) : Option Int := if j = 0 then fedF L t i else (stateF k L T t i (j - 1)).right
def topF (k : Kd) (L T : Nat → List (Option Int)) (i j t : Nat) : Option Int := if i = 0 then fedF T t j else (stateF k L T t (i - 1) j).down
theorem state_succ (k : Kd) (L T : Nat → List (Option Int)) (t i j : Nat) : stateF k L T (t + 1) i j = cellB k (stateF k L T t i j).kept (insF k L T i j t) (topF k L T i j t) := rfl
theorem fedAt_neg {l : List (Option Int)} {t : Int} (h : t < 0) : fedAt l t = none := by unfold fedAt; rw [if_neg (by omega)]
theorem fedAt_nat (l : List (Option Int)) (t : Nat) : fedAt l (t : Int) = atL l t := by unfold fedAt; rw [if_pos (by omega), Int.toNat_natCast]
theorem right_is {k : Kd} (hk : k ≠ .sorting) {m a b : Option Int} : (cellB k m a b).right = a ∧ (cellB k m a b).down = b := by
  unfold cellB
  cases k with
  | sorting => exact absurd rfl hk
  | product => simp only; split <;> exact ⟨rfl, rfl⟩
  | paths => simp only; split <;> exact ⟨rfl, rfl⟩
theorem rights {k : Kd} (hk : k ≠ .sorting) (L T : Nat → List (Option Int)) : ∀ t i j, (stateF k L T t i j).right = fedAt (L i) ((t : Int) - 1 - (j : Int)) ∧ (stateF k L T t i j).down = fedAt (T j) ((t : Int) - 1 - (i : Int))
  | 0, i, j => ⟨by rw [fedAt_neg (by omega)]; rfl, by rw [fedAt_neg (by omega)]; rfl⟩
  | t + 1, i, j => by
    rw [state_succ, (right_is hk).1, (right_is hk).2]
    constructor
    · unfold insF
      split
      · rename_i e
        subst e
        rw [fedF_eq, ← fedAt_nat]
        congr 1
        omega
      · rw [(rights hk L T t i (j - 1)).1]
        congr 1
        omega
    · unfold topF
      split
      · rename_i e
        subst e
        rw [fedF_eq, ← fedAt_nat]
        congr 1
        omega
      · rw [(rights hk L T t (i - 1) j).2]
        congr 1
        omega
theorem ins_is {k : Kd} (hk : k ≠ .sorting) (L T : Nat → List (Option Int)) (t i j : Nat) : insF k L T i j t = fedAt (L i) ((t : Int) - (j : Int)) ∧ topF k L T i j t = fedAt (T j) ((t : Int) - (i : Int)) := by
  constructor
  · unfold insF
    split
    · rename_i e
      subst e
      rw [fedF_eq, ← fedAt_nat]
      congr 1
    · rw [(rights hk L T t i (j - 1)).1]
      congr 1
      omega
  · unfold topF
    split
    · rename_i e
      subst e
      rw [fedF_eq, ← fedAt_nat]
      congr 1
    · rw [(rights hk L T t (i - 1) j).2]
      congr 1
      omega
theorem minI_app (xs : List Int) (y : Int) : minI (xs ++ [y]) = some (match minI xs with | none => y | some m => if y < m then y else m) := by
  induction xs with
  | nil => rfl
  | cons x xs ih =>
    rw [List.cons_append]
    unfold minI
    rw [ih]
    cases minI xs with
    | none => simp only
    | some m =>
      simp only
      congr 1
      repeat' split
      all_goals omega
theorem kept_product (L T : Nat → List (Option Int)) : ∀ t i j, (stateF .product L T t i j).kept = sumF .product (L i) (T j) i j t
  | 0, i, j => rfl
  | t + 1, i, j => by
    have ih := kept_product L T t i j
    have e := ins_is (k := .product) (by decide) L T t i j
    rw [state_succ, e.1, e.2, ih]
    unfold sumF
    simp only
    rw [meets_succ]
    unfold meet1 cellB
    simp only
    cases fedAt (L i) ((t : Int) - (j : Int)) <;> cases fedAt (T j) ((t : Int) - (i : Int)) <;> simp
theorem kept_paths (L T : Nat → List (Option Int)) : ∀ t i j, (stateF .paths L T t i j).kept = sumF .paths (L i) (T j) i j t
  | 0, i, j => rfl
  | t + 1, i, j => by
    have ih := kept_paths L T t i j
    have e := ins_is (k := .paths) (by decide) L T t i j
    rw [state_succ, e.1, e.2, ih]
    unfold sumF
    simp only
    rw [meets_succ]
    unfold meet1 cellB
    simp only
    cases fedAt (L i) ((t : Int) - (j : Int)) <;> cases fedAt (T j) ((t : Int) - (i : Int)) <;> simp only [Option.toList_none, Option.toList_some, List.append_nil, List.map_append, List.map_cons, List.map_nil]
    first
      | (rw [minI_app]; done)
      | (rw [minI_app]; cases minI ((meetsL (L i) (T j) i j t).map fun p => p.1 + p.2) <;> rfl)
/-! ### sorting -/
theorem fm_succ {α : Type} (x : Nat → Option α) (t : Nat) : (List.range (t + 1)).filterMap x = (List.range t).filterMap x ++ (x t).toList := by
  rw [List.range_succ, List.filterMap_append]
  cases e : x t <;> simp [e]
/-- one cell: what it keeps is the least that came, what it passes the rest -/
theorem sort_cell {x kept : Nat → Option Int} {out : Nat → Option Int} (h0 : kept 0 = none) (hk : ∀ t b, kept (t + 1) = (sortedIn (kept t) (x t) b).kept) (ho : ∀ t b, out t = (sortedIn (kept t) (x t) b).right) :
    ∀ t, kept t = minI ((List.range t).filterMap x) ∧ ((List.range t).filterMap out ++ (kept t).toList).Perm ((List.range t).filterMap x)
  | 0 => by rw [h0]; exact ⟨rfl, .refl _⟩
  | t + 1 => by
    obtain ⟨h1, h2⟩ := sort_cell h0 hk ho t
    rw [fm_succ, fm_succ, hk t none, ho t none]
    cases ex : x t with
    | none =>
      simp only [sortedIn, Option.toList_none, List.append_nil]
      exact ⟨h1, h2⟩
    | some a =>
      cases ek : kept t with
      | none =>
        rw [ek] at h1 h2
        have e0 : (List.range t).filterMap x = [] := by
          cases e : (List.range t).filterMap x with
          | nil => rfl
          | cons y ys =>
            rw [e] at h1
            unfold minI at h1
            cases e2 : minI ys <;> rw [e2] at h1 <;> cases h1
        simp only [sortedIn, Option.toList_none, List.append_nil, Option.toList_some] at h2 ⊢
        refine ⟨?_, List.Perm.append h2 (.refl _)⟩
        rw [e0]
        rfl
      | some m =>
        rw [ek] at h1 h2
        simp only [sortedIn, Option.toList_some] at h2 ⊢
        refine ⟨?_, ?_⟩
        · rw [minI_app, ← h1]
        · have p1 : ((List.range t).filterMap out ++ [if a > m then a else m] ++ [if a < m then a else m]).Perm ((List.range t).filterMap out ++ [m] ++ [a]) := by
            rw [List.append_assoc, List.append_assoc]
            refine List.Perm.append (.refl _) ?_
            by_cases h : a < m
            · rw [if_pos h, if_neg (by omega)]
            · rw [if_neg h]
              by_cases h3 : a > m
              · rw [if_pos h3]
                exact .swap _ _ _
              · have : a = m := by omega
                subst this
                simp
          exact p1.trans (List.Perm.append h2 (.refl _))
theorem minI_sorted {ns : List Int} (h : ns.Pairwise (· ≤ ·)) : minI ns = ns[0]? := by
  cases ns with
  | nil => rfl
  | cons n ns =>
    refine minI_spec List.mem_cons_self fun y hy => ?_
    rcases List.mem_cons.mp hy with e | hy
    · rw [e]
      exact Int.le_refl _
    · exact (List.pairwise_cons.mp h).1 y hy
theorem minI_mem : ∀ {ns : List Int} {m : Int}, minI ns = some m → m ∈ ns ∧ ∀ y ∈ ns, m ≤ y
  | [], m, h => by cases h
  | n :: ns, m, h => by
    unfold minI at h
    cases e : minI ns with
    | none =>
      rw [e] at h
      cases h
      cases ns with
      | nil => exact ⟨List.mem_cons_self, fun y hy => by rcases List.mem_cons.mp hy with rfl | hy; exact Int.le_refl _; exact nomatch hy⟩
      | cons y ys => unfold minI at e; cases e2 : minI ys <;> rw [e2] at e <;> cases e
    | some k =>
      rw [e] at h
      obtain ⟨h1, h2⟩ := minI_mem e
      simp only [Option.some.injEq] at h
      subst h
      by_cases hlt : k < n
      · rw [if_pos hlt]
        refine ⟨List.mem_cons_of_mem _ h1, fun y hy => ?_⟩
        rcases List.mem_cons.mp hy with rfl | hy
        · omega
        · exact h2 y hy
      · rw [if_neg hlt]
        refine ⟨List.mem_cons_self, fun y hy => ?_⟩
        rcases List.mem_cons.mp hy with rfl | hy
        · omega
        · have := h2 y hy; omega
theorem minI_perm {ns ms : List Int} (h : ns.Perm ms) : minI ns = minI ms := by
  cases e : minI ms with
  | none =>
    have : ms = [] := by
      cases ms with
      | nil => rfl
      | cons y ys => unfold minI at e; cases e2 : minI ys <;> rw [e2] at e <;> cases e
    subst this
    rw [h.eq_nil]
    rfl
  | some m =>
    obtain ⟨h1, h2⟩ := minI_mem e
    exact minI_spec (h.mem_iff.mpr h1) fun y hy => h2 y (h.mem_iff.mp hy)
def cameF (L : Nat → List (Option Int)) (i t : Nat) : List Int := sortI ((List.range t).filterMap fun s => fedF L s i)
theorem kept_sort (L T : Nat → List (Option Int)) (i : Nat) : ∀ j t, ((List.range t).filterMap (insF .sorting L T i j)).Perm ((cameF L i (t - j)).drop j) ∧ (stateF .sorting L T t i j).kept = (cameF L i (t - j))[j]? := by
  have cell : ∀ j t, (stateF .sorting L T t i j).kept = minI ((List.range t).filterMap (insF .sorting L T i j)) ∧ ((List.range t).filterMap (fun t => (stateF .sorting L T (t + 1) i j).right) ++ ((stateF .sorting L T t i j).kept).toList).Perm ((List.range t).filterMap (insF .sorting L T i j)) := fun j =>
    sort_cell (x := insF .sorting L T i j) (kept := fun t => (stateF .sorting L T t i j).kept) (out := fun t => (stateF .sorting L T (t + 1) i j).right) rfl (fun t b => by
      rw [state_succ]
      unfold cellB sortedIn
      simp only
      cases insF .sorting L T i j t <;> cases (stateF .sorting L T t i j).kept <;> rfl) fun t b => by
      rw [state_succ]
      unfold cellB sortedIn
      simp only
      cases insF .sorting L T i j t <;> cases (stateF .sorting L T t i j).kept <;> rfl
  have sorted : ∀ t j, ((cameF L i t).drop j).Pairwise (· ≤ ·) := fun t j => (sortI_sorted _).sublist (List.drop_sublist _ _)
  have head : ∀ j t, ((List.range t).filterMap (insF .sorting L T i j)).Perm ((cameF L i (t - j)).drop j) → (stateF .sorting L T t i j).kept = (cameF L i (t - j))[j]? := fun j t h => by
    rw [(cell j t).1, minI_perm h, minI_sorted (sorted _ _), List.getElem?_drop, Nat.add_zero]
  intro j
  induction j with
  | zero =>
    intro t
    have h : ((List.range t).filterMap (insF .sorting L T i 0)).Perm ((cameF L i (t - 0)).drop 0) := by
      rw [List.drop_zero, Nat.sub_zero]
      exact (sortI_perm _).symm
    exact ⟨h, head 0 t h⟩
  | succ j ih =>
    intro t
    have h : ((List.range t).filterMap (insF .sorting L T i (j + 1))).Perm ((cameF L i (t - (j + 1))).drop (j + 1)) := by
      cases t with
      | zero =>
        have e0 : cameF L i 0 = [] := by simp [cameF, sortI]
        rw [Nat.zero_sub, e0]
        exact .refl _
      | succ t =>
        have e1 : (List.range (t + 1)).filterMap (insF .sorting L T i (j + 1)) = (List.range t).filterMap fun t => (stateF .sorting L T (t + 1) i j).right := by
          rw [List.range_succ_eq_map, List.filterMap_cons, List.filterMap_map]
          rfl
        rw [e1, Nat.add_sub_add_right]
        obtain ⟨h1, h2⟩ := ih t
        have h3 := ((cell j t).2).trans h1
        rw [h2] at h3
        cases e : (cameF L i (t - j))[j]? with
        | none =>
          rw [e] at h3
          have hl := List.getElem?_eq_none_iff.mp e
          rw [List.drop_of_length_le (by omega)]
          rw [List.drop_of_length_le hl] at h3
          simpa using h3
        | some y =>
          rw [e] at h3
          obtain ⟨hlt, hy⟩ := List.getElem?_eq_some_iff.mp e
          rw [List.drop_eq_getElem_cons hlt, hy] at h3
          have h4 := (List.perm_append_comm (l₁ := [y])).trans h3
          exact h4.cons_inv
    exact ⟨h, head (j + 1) t h⟩
theorem take_range (l : List (Option Int)) : ∀ n, (List.range n).filterMap (atL l) = (l.take n).filterMap id
  | 0 => rfl
  | n + 1 => by
    rw [fm_succ, take_range l n, List.take_succ, List.filterMap_append]
    congr 1
    unfold atL
    cases e : l[n]? with
    | none => rfl
    | some o => cases o <;> rfl
theorem kept_sorting (L T : Nat → List (Option Int)) (t i j : Nat) : (stateF .sorting L T t i j).kept = sumF .sorting (L i) (T j) i j t := by
  rw [(kept_sort L T i j t).2]
  have e : (List.range (t - j)).filterMap (fun s => fedF L s i) = ((L i).take (t - j)).filterMap id := take_range (L i) (t - j)
  exact congrArg (fun l : List Int => (sortI l)[j]?) e
theorem kept_sum (k : Kd) (L T : Nat → List (Option Int)) (t i j : Nat) : (stateF k L T t i j).kept = sumF k (L i) (T j) i j t := by
  cases k with
  | product => exact kept_product L T t i j
  | paths => exact kept_paths L T t i j
  | sorting => exact kept_sorting L T t i j
end DL

namespace DL
open PySem PySem.Spec L2
local macro_rules | `(tactic| walk_at "d") => `(tactic| simp (config := { failIfUnchanged := false }) only [dSeq_e, dSkip_e, dLcX_e, mulSD_e, dStrM_e, splitD_s, dAsgD_e, dPut_e, dPv_e, dPx_e, dLcD_e, dListRng_e, dListZip_e, dKind_e, dExt_e, dPopS_e, dIns_e, onlyD, dNewT_e, dPutT_e, dUpd_e, dForC_e, dPopV_e, dRem_e, dPopD_e, dSwap_e, dWorks_e, dRaiseR_e, dTold_e, dInsD_e, dInsP_e, dNewH_e, dDo_e, dNetF_e, dFeedF_e, dCellsF_e, dSelf_e, inDicD_k, ninDicD_k, dictPD_k, flat_keyD, dNever_e, dAsg_e, dAsgA_e, dAsgF_e, dAsgL_e, dAsgLA_e, dDrop_e, dRet_e, dRetN_e, dRetL_e, dIfS_e, dApp_e, dAppA_e, dFor_e, dForA_e, dForF_e, dVar_e, dC_e, dNil_e, dCons_e, dTup_e, dLst_e, dOp_e, dChain_e, asB_e, dAnd_e, dOr_e, dNot_e, dAndV_e, dOrV_e, dNotV_e, dIf_e, dSl_e, dPart_e, dNoPart_e, dCB_e, dCall_e, dCallL_e, dLc_e, dLcL_e, dListL_e, dItems_e, dRng1_e, dRng2_e, dRng3_e, dIsi_e, dIsi2_e, dRaise_e, dNeg_e, tgn_e, tgt_e, setAll, frz, wipeD, envOf, lawEnv, lawEnds,
  oEr_e, oEl_e, oEx_e, oLl_e, oLx_e, inD_t, inD_l, ninD_t, ninD_l, List.any_cons, List.any_nil, Bool.or_false, addD_ii, addD_ss, addD_tt, addD_ll, subD_ii, mulD_ii, mulD_li, mulD_ti, dMinDf_e, dRetF_e, dPar_e, dEnum_e, fdivD_ii, modD_ii, powD_ii, cmpD_ii, isD_n, notD_n, isN_none, isN_int, isN_str, isN_tuple, isN_list, isN_opt, Option.isNone_none, Option.isNone_some, eqD_e, neD_e, ixD_t, ixD_l, slD_t, slD_l, lenD_t, lenD_l, tupleD_rng, tupleD_t, tupleD_l, listD_t, listD_l, min2D_ii, max2D_ii, absD_i, intD_i, intD_b, seqD_t, seqD_l, seqD_row, at0, at1, at2, at3, len_row, ixD_c0, ixD_c1, ixD_c2, ixD_n0, ixD_n1, ixD_n2, ixD_f0, ixD_f1, eqv_ii, shaped_int,
  List.map_cons, List.map_nil, List.set_cons_zero, List.set_cons_succ, List.set_nil, List.getElem?_cons_zero, List.getElem?_cons_succ, List.getElem?_nil, List.replicate_succ, List.replicate_zero, List.cons_append, List.nil_append, List.length_cons, List.length_nil, Nat.reduceAdd, Nat.reduceSub, Nat.add_zero, Nat.zero_add, Nat.sub_self, Nat.sub_zero, if_true, if_false, Bool.false_eq_true, Bool.not_true, Bool.not_false, reduceIte, flat, flatAll, flat_optD, flat_cellD, Bool.and_true, Bool.true_and, Bool.and_self, true_and, and_true, and_self, decide_true, decide_false, List.drop_zero, Int.toNat_natCast, Nat.reduceLeDiff, reduceCtorEq])
theorem canLayAll_of {ds : List PyData} (h : ∀ x ∈ ds, x.canLay0 = true) : PyData.canLayAll0 ds = true := by
  induction ds with
  | nil => rfl
  | cons d ds ih =>
    simp only [PyData.canLayAll0, Bool.and_eq_true]
    exact ⟨h d List.mem_cons_self, ih fun x hx => h x (List.mem_cons_of_mem _ hx)⟩
theorem depthAll_of {ds : List PyData} {n : Nat} (h : ∀ x ∈ ds, x.depth ≤ n) : PyData.depthAll ds ≤ n := by
  induction ds with
  | nil => exact Nat.zero_le _
  | cons d ds ih =>
    simp only [PyData.depthAll]
    have h1 := h d List.mem_cons_self
    have h2 := ih fun x hx => h x (List.mem_cons_of_mem _ hx)
    omega
theorem pl_shape : ∀ {n : Nat} {d : PyData}, Pl n d → d.canLay0 = true ∧ d.depth ≤ n
  | 0, _, h => h.elim
  | n + 1, .none, _ => ⟨rfl, by simp [PyData.depth]⟩
  | n + 1, .bool _, _ => ⟨rfl, by simp [PyData.depth]⟩
  | n + 1, .int _, _ => ⟨rfl, by simp [PyData.depth]⟩
  | n + 1, .str x, h => by
    have h' : SeqAt.shaped (.str x) = true := h
    simp only [SeqAt.shaped, Bool.and_eq_true] at h'
    exact ⟨h'.1, by simp [PyData.depth]⟩
  | n + 1, .list ds, h => by
    refine ⟨?_, ?_⟩
    · simp only [PyData.canLay0]
      exact canLayAll_of fun x hx => (pl_shape (h.2 x hx)).1
    · simp only [PyData.depth]
      have := depthAll_of fun x hx => (pl_shape (h.2 x hx)).2
      omega
  | n + 1, .tuple ds, h => by
    refine ⟨?_, ?_⟩
    · simp only [PyData.canLay0]
      exact canLayAll_of fun x hx => (pl_shape (h.2 x hx)).1
    · simp only [PyData.depth]
      have := depthAll_of fun x hx => (pl_shape (h.2 x hx)).2
      omega
  | n + 1, .dict _, h => h.elim
theorem pl_shaped {n : Nat} {d : PyData} (h : Pl n d) (hn : n ≤ 60) : SeqAt.shaped d = true := by
  have := pl_shape h
  simp only [SeqAt.shaped, Bool.and_eq_true]
  exact ⟨this.1, decide_eq_true (by omega)⟩
theorem eqv_pl {n : Nat} {d : PyData} (h : Pl n d) (hn : n ≤ 60) : PyData.eqv d d = true := SeqAt.eqv_refl _ (SeqAt.canLay_of_shaped (pl_shaped h hn))
theorem eq_self {n : Nat} {d : PyData} {P : PyData → Prop} (h : Pl n d) (hn : n ≤ 60) (q : P (.bool true)) : eqD d d P := by
  have := pl_shaped h hn
  refine ⟨this, this, ?_⟩
  rw [SeqAt.eqv_refl _ (SeqAt.canLay_of_shaped this)]
  exact q
theorem ne_self {n : Nat} {d : PyData} {P : PyData → Prop} (h : Pl n d) (hn : n ≤ 60) (q : P (.bool false)) : neD d d P := by
  have := pl_shaped h hn
  refine ⟨this, this, ?_⟩
  rw [SeqAt.eqv_refl _ (SeqAt.canLay_of_shaped this)]
  exact q
end DL

/-! M14: schedules looked over: the plain law. -/
namespace DL
open PySem PySem.Spec L2
local macro_rules | `(tactic| walk_at "d") => `(tactic| simp (config := { failIfUnchanged := false }) only [dSeq_e, dSkip_e, dLcX_e, mulSD_e, dStrM_e, splitD_s, dAsgD_e, dPut_e, dPv_e, dPx_e, dLcD_e, dListRng_e, dListZip_e, dKind_e, dExt_e, dPopS_e, dIns_e, onlyD, dNewT_e, dPutT_e, dUpd_e, dForC_e, dPopV_e, dRem_e, dPopD_e, dSwap_e, dWorks_e, dRaiseR_e, dTold_e, dInsD_e, dInsP_e, dNewH_e, dDo_e, dNetF_e, dFeedF_e, dCellsF_e, dSelf_e, inDicD_k, ninDicD_k, dictPD_k, flat_keyD, dNever_e, dAsg_e, dAsgA_e, dAsgF_e, dAsgL_e, dAsgLA_e, dDrop_e, dRet_e, dRetN_e, dRetL_e, dIfS_e, dApp_e, dAppA_e, dFor_e, dForA_e, dForF_e, dVar_e, dC_e, dNil_e, dCons_e, dTup_e, dLst_e, dOp_e, dChain_e, asB_e, dAnd_e, dOr_e, dNot_e, dAndV_e, dOrV_e, dNotV_e, dIf_e, dSl_e, dPart_e, dNoPart_e, dCB_e, dCall_e, dCallL_e, dLc_e, dLcL_e, dListL_e, dItems_e, dRng1_e, dRng2_e, dRng3_e, dIsi_e, dIsi2_e, dRaise_e, dNeg_e, tgn_e, tgt_e, setAll, frz, wipeD, envOf, lawEnv, lawEnds,
  oEr_e, oEl_e, oEx_e, oLl_e, oLx_e, inD_t, inD_l, ninD_t, ninD_l, List.any_cons, List.any_nil, Bool.or_false, addD_ii, addD_ss, addD_tt, addD_ll, subD_ii, mulD_ii, mulD_li, mulD_ti, dMinDf_e, dRetF_e, dPar_e, dEnum_e, fdivD_ii, modD_ii, powD_ii, cmpD_ii, isD_n, notD_n, isN_none, isN_int, isN_str, isN_tuple, isN_list, isN_opt, Option.isNone_none, Option.isNone_some, eqD_e, neD_e, ixD_t, ixD_l, slD_t, slD_l, lenD_t, lenD_l, tupleD_rng, tupleD_t, tupleD_l, listD_t, listD_l, min2D_ii, max2D_ii, absD_i, intD_i, intD_b, seqD_t, seqD_l, seqD_row, at0, at1, at2, at3, len_row, ixD_c0, ixD_c1, ixD_c2, ixD_n0, ixD_n1, ixD_n2, ixD_f0, ixD_f1, eqv_ii, shaped_int,
  List.map_cons, List.map_nil, List.set_cons_zero, List.set_cons_succ, List.set_nil, List.getElem?_cons_zero, List.getElem?_cons_succ, List.getElem?_nil, List.replicate_succ, List.replicate_zero, List.cons_append, List.nil_append, List.length_cons, List.length_nil, Nat.reduceAdd, Nat.reduceSub, Nat.add_zero, Nat.zero_add, Nat.sub_self, Nat.sub_zero, if_true, if_false, Bool.false_eq_true, Bool.not_true, Bool.not_false, reduceIte, flat, flatAll, flat_optD, flat_cellD, Bool.and_true, Bool.true_and, Bool.and_self, true_and, and_true, and_self, decide_true, decide_false, List.drop_zero, Int.toNat_natCast, Nat.reduceLeDiff, reduceCtorEq])
abbrev Task := List Int
def tkD : Option Task → PyData
  | none => .none
  | some k => keyD k
abbrev StepT := List (Option Task)
def stepD (s : StepT) : PyData := .tuple (s.map tkD)
def schD (ss : List StepT) : PyData := .list (ss.map stepD)
/-- the tasks that a task needs -/
def needsF : Task → List Task
  | [t, i, j] => if 0 < t then [t - 1, i, j] :: ((if 0 < j then [[t - 1, i, j - 1]] else []) ++ if 0 < i then [[t - 1, i - 1, j]] else []) else []
  | _ => []
/-- what is wrong with a task -/
def wrongAt (every done fresh : List Task) (k : Task) : Option Str :=
  if k ∉ every then some "none" else if k ∈ done ∨ k ∈ fresh then some "twice" else if (needsF k).all (fun x => decide (x ∈ done)) = false then some "early" else none
def scanF (every done : List Task) : Nat → List Task → StepT → Sum (Str × Nat) (List Task)
  | _, fresh, [] => .inr fresh
  | w, fresh, none :: r => scanF every done (w + 1) fresh r
  | w, fresh, some k :: r => match wrongAt every done fresh k with
    | some x => .inl (x, w)
    | none => scanF every done (w + 1) (fresh ++ [k]) r
def goF (every : List Task) : Nat → List Task → List StepT → Sum (Str × Nat × Nat) (List Task)
  | _, done, [] => .inr done
  | n, done, s :: ss => match scanF every done 0 [] s with
    | .inl (x, w) => .inl (x, n, w)
    | .inr fresh => goF every (n + 1) (done ++ fresh) ss
def endF (every : List Task) : Sum (Str × Nat × Nat) (List Task) → PyData
  | .inl (x, n, w) => .tuple [.str x, .int (n : Nat), .int (w : Nat)]
  | .inr done => match every.filter (fun k => decide (k ∉ done)) with
    | [] => .none
    | k :: _ => .tuple [.str "missing", keyD k]
def wrongF (every : List Task) (ss : List StepT) : PyData := endF every (goF every 0 [] ss)
/-! ### the dict of what is done -/
def dnD (l : List Task) : List (List Int × PyData) := l.map fun k => (k, .bool true)
theorem getT_dn (l : List Task) (k : Task) : (getT (dnD l) k).isSome = decide (k ∈ l) := by
  unfold getT dnD
  rw [Option.isSome_map]
  induction l with
  | nil => rfl
  | cons a r ih =>
    rw [List.map_cons, List.find?_cons]
    by_cases h : a = k
    · subst h; simp
    · simp only [h, decide_false]
      rw [ih]
      simp [Ne.symm h]
theorem putT_dn {l : List Task} {k : Task} (h : k ∉ l) : putT (dnD l) k (.bool true) = dnD (l ++ [k]) := by
  unfold putT dnD
  rw [if_neg]
  · simp
  · simp only [List.any_map, List.any_eq_true, Function.comp, decide_eq_true_eq, not_exists, not_and]
    rintro x hx rfl
    exact h hx
theorem putsT_dn : ∀ {more l : List Task}, (∀ k ∈ more, k ∉ l) → more.Nodup → putsT (dnD l) (dnD more) = dnD (l ++ more)
  | [], l, _, _ => by simp [putsT, dnD]
  | k :: more, l, h, hn => by
    have e : putsT (dnD l) (dnD (k :: more)) = putsT (putT (dnD l) k (.bool true)) (dnD more) := rfl
    rw [e, putT_dn (h k List.mem_cons_self), putsT_dn (fun x hx z => ?_) (List.nodup_cons.mp hn).2, List.append_assoc]
    · rfl
    · rcases List.mem_append.mp z with z | z
      · exact h x (List.mem_cons_of_mem _ hx) z
      · rw [List.mem_singleton] at z
        subst z
        exact (List.nodup_cons.mp hn).1 hx
theorem kvD_dn (l : List Task) : (dnD l).map kvD = l.map fun k => PyData.tuple [keyD k, .bool true] := by
  unfold dnD
  rw [List.map_map]
  rfl
/-! ### hashes of the first tasks -/
def zeros : List Task := (List.range 6).flatMap fun i : Nat => (List.range 6).map fun j : Nat => [0, (i : Int), (j : Int)]
theorem hash_key (P : Program) (w : World) (k : Task) : (tupleKind (mixKind P w)).hash (k.map Sum.inl) = reduceHash (Builtin.Tuple.tupleHashOf (k.map hashInt)) := by
  show reduceHash (Builtin.Tuple.tupleHashOf ((k.map Sum.inl).map (mixKind P w).hash)) = _
  rw [List.map_map]
  rfl
theorem zeros_nodup : (zeros.map fun k => reduceHash (Builtin.Tuple.tupleHashOf (k.map hashInt))).Nodup := by decide +kernel
theorem nodup_map_sub {α β : Type} {f : α → β} {Z : List α} (hz : (Z.map f).Nodup) {l : List α} (hl : l.Nodup) (hs : ∀ x ∈ l, x ∈ Z) : (l.map f).Nodup := by
  have inj : ∀ x ∈ Z, ∀ y ∈ Z, f x = f y → x = y := by
    clear hl hs
    induction Z with
    | nil => intro x hx; cases hx
    | cons a r ih =>
      rw [List.map_cons, List.nodup_cons] at hz
      have ih' := ih hz.2
      intro x hx y hy e
      rcases List.mem_cons.mp hx with ex | hx <;> rcases List.mem_cons.mp hy with ey | hy
      · rw [ex, ey]
      · exact absurd (List.mem_map.mpr ⟨y, hy, by rw [← e, ex]⟩) hz.1
      · exact absurd (List.mem_map.mpr ⟨x, hx, by rw [e, ey]⟩) hz.1
      · exact ih' x hx y hy e
  induction l with
  | nil => exact List.nodup_nil
  | cons a r ih =>
    rw [List.map_cons, List.nodup_cons]
    have h := List.nodup_cons.mp hl
    refine ⟨fun z => ?_, ih h.2 fun x hx => hs x (List.mem_cons_of_mem _ hx)⟩
    obtain ⟨y, hy, e⟩ := List.mem_map.mp z
    have := inj y (hs y (List.mem_cons_of_mem _ hy)) a (hs a List.mem_cons_self) e
    subst this
    exact h.1 hy
theorem hashNd_dn {l : List Task} (hl : l.Nodup) (hs : ∀ x ∈ l, x ∈ zeros) : HashNd (dnD l) := fun P w => by
  unfold dnD
  rw [List.map_map]
  have e : ((fun e : List Int × PyData => (tupleKind (mixKind P w)).hash (e.1.map Sum.inl)) ∘ fun k => (k, PyData.bool true)) = fun k : Task => reduceHash (Builtin.Tuple.tupleHashOf (k.map hashInt)) := by
    funext k
    exact hash_key P w k
  rw [e]
  exact nodup_map_sub zeros_nodup hl hs
end DL

/-! M14b: needed, tasks_of, first_wrong. -/
namespace DL
open PySem PySem.Spec L2
local macro_rules | `(tactic| walk_at "d") => `(tactic| simp (config := { failIfUnchanged := false }) only [dSeq_e, dSkip_e, dLcX_e, mulSD_e, dStrM_e, splitD_s, dAsgD_e, dPut_e, dPv_e, dPx_e, dLcD_e, dListRng_e, dListZip_e, dKind_e, dExt_e, dPopS_e, dIns_e, onlyD, dNewT_e, dPutT_e, dUpd_e, dForC_e, dPopV_e, dRem_e, dPopD_e, dSwap_e, dWorks_e, dRaiseR_e, dTold_e, dInsD_e, dInsP_e, dNewH_e, dDo_e, dNetF_e, dFeedF_e, dCellsF_e, dSelf_e, inDicD_k, ninDicD_k, dictPD_k, flat_keyD, dNever_e, dAsg_e, dAsgA_e, dAsgF_e, dAsgL_e, dAsgLA_e, dDrop_e, dRet_e, dRetN_e, dRetL_e, dIfS_e, dApp_e, dAppA_e, dFor_e, dForA_e, dForF_e, dVar_e, dC_e, dNil_e, dCons_e, dTup_e, dLst_e, dOp_e, dChain_e, asB_e, dAnd_e, dOr_e, dNot_e, dAndV_e, dOrV_e, dNotV_e, dIf_e, dSl_e, dPart_e, dNoPart_e, dCB_e, dCall_e, dCallL_e, dLc_e, dLcL_e, dListL_e, dItems_e, dRng1_e, dRng2_e, dRng3_e, dIsi_e, dIsi2_e, dRaise_e, dNeg_e, tgn_e, tgt_e, setAll, frz, wipeD, envOf, lawEnv, lawEnds,
  oEr_e, oEl_e, oEx_e, oLl_e, oLx_e, inD_t, inD_l, ninD_t, ninD_l, List.any_cons, List.any_nil, Bool.or_false, addD_ii, addD_ss, addD_tt, addD_ll, subD_ii, mulD_ii, mulD_li, mulD_ti, dMinDf_e, dRetF_e, dPar_e, dEnum_e, fdivD_ii, modD_ii, powD_ii, cmpD_ii, isD_n, notD_n, isN_none, isN_int, isN_str, isN_tuple, isN_list, isN_opt, Option.isNone_none, Option.isNone_some, eqD_e, neD_e, ixD_t, ixD_l, slD_t, slD_l, lenD_t, lenD_l, tupleD_rng, tupleD_t, tupleD_l, listD_t, listD_l, min2D_ii, max2D_ii, absD_i, intD_i, intD_b, seqD_t, seqD_l, seqD_row, at0, at1, at2, at3, len_row, ixD_c0, ixD_c1, ixD_c2, ixD_n0, ixD_n1, ixD_n2, ixD_f0, ixD_f1, eqv_ii, shaped_int,
  List.map_cons, List.map_nil, List.set_cons_zero, List.set_cons_succ, List.set_nil, List.getElem?_cons_zero, List.getElem?_cons_succ, List.getElem?_nil, List.replicate_succ, List.replicate_zero, List.cons_append, List.nil_append, List.length_cons, List.length_nil, Nat.reduceAdd, Nat.reduceSub, Nat.add_zero, Nat.zero_add, Nat.sub_self, Nat.sub_zero, if_true, if_false, Bool.false_eq_true, Bool.not_true, Bool.not_false, reduceIte, flat, flatAll, flat_optD, flat_cellD, Bool.and_true, Bool.true_and, Bool.and_self, true_and, and_true, and_self, decide_true, decide_false, List.drop_zero, Int.toNat_natCast, Nat.reduceLeDiff, reduceCtorEq])
def tasksF (b r c : Nat) : List Task := (List.range b).flatMap fun t : Nat => (List.range r).flatMap fun i : Nat => (List.range c).map fun j : Nat => [(t : Int), (i : Int), (j : Int)]
theorem mem_tasks {b r c : Nat} {k : Task} : k ∈ tasksF b r c ↔ ∃ t i j : Nat, t < b ∧ i < r ∧ j < c ∧ k = [(t : Int), (i : Int), (j : Int)] := by
  unfold tasksF
  simp only [List.mem_flatMap, List.mem_map, List.mem_range]
  constructor
  · rintro ⟨t, ht, i, hi, j, hj, rfl⟩
    exact ⟨t, i, j, ht, hi, hj, rfl⟩
  · rintro ⟨t, i, j, ht, hi, hj, rfl⟩
    exact ⟨t, ht, i, hi, j, hj, rfl⟩
theorem min_ge {a b c : Int} {Q : PyData → Prop} : (minD [.tuple [.int a, .int b, .int c]] fun x => geD x (.int 0) Q) = Q (.bool (decide (0 ≤ a ∧ 0 ≤ b ∧ 0 ≤ c))) := by
  show (geD (.int _) (.int 0) Q) = _
  simp only [geD, cmpD_ii]
  congr 2
  rw [decide_eq_decide]
  by_cases h1 : c < b <;> simp only [h1, if_true, if_false] <;> split <;> omega
theorem needed_ok {t i j : Nat} {P : O → Prop} (q : P (.ret (.list ((needsF [(t : Int), (i : Int), (j : Int)]).map keyD)))) : S_needed [keyD [(t : Int), (i : Int), (j : Int)]] P := by
  refine ⟨rfl, ?_⟩
  show F_needed _ _ _
  unfold F_needed
  rw [show envOf 6 [keyD [(t : Int), (i : Int), (j : Int)]] = [.d (.tuple [.int (t : Nat), .int (i : Nat), .int (j : Nat)]), .un, .un, .un, .un, .un] from rfl]
  walk_at "d"
  simp only [lcD]
  walk_at "d"
  simp only [min_ge]
  unfold needsF at q
  by_cases ht : t = 0
  · have e1 : ¬ (0 ≤ (t : Int) - 1) := by omega
    have e2 : ¬ (0 < (t : Int)) := by omega
    simp only [e2, if_false] at q
    simp only [e1, false_and, decide_false, Bool.false_eq_true, if_false]
    exact q
  · have e1 : 0 ≤ (t : Int) - 1 := by omega
    have e2 : 0 < (t : Int) := by omega
    simp only [e2, if_true] at q
    simp only [e1, true_and]
    have i0 : 0 ≤ (i : Int) := by omega
    have j0 : 0 ≤ (j : Int) := by omega
    simp only [i0, j0, true_and, and_true, decide_true, if_true]
    by_cases hj : j = 0
    · have f1 : ¬ (0 ≤ (j : Int) - 1) := by omega
      have f2 : ¬ (0 < (j : Int)) := by omega
      by_cases hi : i = 0
      · have g1 : ¬ (0 ≤ (i : Int) - 1) := by omega
        have g2 : ¬ (0 < (i : Int)) := by omega
        simp only [f1, g1, f2, g2, decide_false, Bool.false_eq_true, if_false] at q ⊢
        exact q
      · have g1 : 0 ≤ (i : Int) - 1 := by omega
        have g2 : 0 < (i : Int) := by omega
        simp only [f1, g1, f2, g2, decide_false, decide_true, Bool.false_eq_true, if_false, if_true] at q ⊢
        exact q
    · have f1 : 0 ≤ (j : Int) - 1 := by omega
      have f2 : 0 < (j : Int) := by omega
      by_cases hi : i = 0
      · have g1 : ¬ (0 ≤ (i : Int) - 1) := by omega
        have g2 : ¬ (0 < (i : Int)) := by omega
        simp only [f1, g1, f2, g2, decide_false, decide_true, Bool.false_eq_true, if_false, if_true] at q ⊢
        exact q
      · have g1 : 0 ≤ (i : Int) - 1 := by omega
        have g2 : 0 < (i : Int) := by omega
        simp only [f1, g1, f2, g2, decide_true, if_true] at q ⊢
        exact q
/-! ### the tasks -/
theorem tasks_succ {b r c : Nat} : tasksF (b + 1) r c = tasksF b r c ++ (List.range r).flatMap fun i : Nat => (List.range c).map fun j : Nat => [(b : Int), (i : Int), (j : Int)] := by
  unfold tasksF
  rw [List.range_succ, List.flatMap_append]
  simp
theorem tasks_len {b r c : Nat} : (tasksF b r c).length = b * (r * c) := by
  induction b with
  | zero => simp [tasksF]
  | succ b ih =>
    rw [tasks_succ, List.length_append, ih, Nat.succ_mul]
    congr 1
    rw [List.length_flatMap]
    simp [List.map_const', Nat.mul_comm]
theorem tasks_of_ok {k : Kd} {b r c : Nat} {P : O → Prop} (hb : b ≤ 60) (h2 : r ≤ 6) (h4 : c ≤ 6) (q : P (.retL ((tasksF b r c).map keyD))) : S_tasks_of [netD k r c, .int (b : Nat)] P := by
  have hsz : ∀ b', b' ≤ 60 → ∀ i, i ≤ r → b' * (r * c) + i * c ≤ 2196 := fun b' hb' i hi => by
    have h1 : r * c ≤ 6 * 6 := Nat.mul_le_mul h2 h4
    have h3 : b' * (r * c) ≤ 60 * 36 := Nat.mul_le_mul hb' h1
    have h5 : i * c ≤ 6 * 6 := Nat.mul_le_mul (Nat.le_trans hi h2) h4
    omega
  refine ⟨rfl, ?_⟩
  unfold F_tasks_of
  walk_at "d"
  refine ⟨⟨by omega, by omega⟩, ?_⟩
  refine for_rng (fun t ρ => ∃ e3 e4 e5, ρ = [.d (netD k r c), .d (.int (b : Nat)), .own ((tasksF t r c).map keyD), e3, e4, e5]) ⟨_, _, _, rfl⟩ ?_ ?_
  · rintro t ρ Kt ht ⟨e3, e4, e5, rfl⟩ hk
    walk_at "d"
    refine ⟨⟨by omega, by omega⟩, ?_⟩
    refine for_rng (fun i ρ => ∃ e4 e5, ρ = [.d (netD k r c), .d (.int (b : Nat)), .own ((tasksF t r c ++ (List.range i).flatMap fun i : Nat => (List.range c).map fun j : Nat => [(t : Int), (i : Int), (j : Int)]).map keyD), .d (.int (t : Nat)), e4, e5]) ⟨e4, e5, by simp⟩ ?_ ?_
    · rintro i ρ Kt2 hi ⟨e4, e5, rfl⟩ hk2
      walk_at "d"
      refine ⟨⟨by omega, by omega⟩, by simp [rngD]; omega, ?_⟩
      refine lcD_map (fun d => match d with | .int j => keyD [(t : Int), (i : Int), j] | _ => .none) (fun x hx Q hq => ?_) ?_
      · unfold rngD at hx
        obtain ⟨j, hj, rfl⟩ := List.mem_map.mp hx
        walk_at "d"
        exact hq
      · refine ⟨_, rfl, ?_, ?_⟩
        · have := hsz t (by omega) i (by omega)
          have e : ((List.range i).flatMap fun i : Nat => (List.range c).map fun j : Nat => [(t : Int), (i : Int), (j : Int)]).length = i * c := by
            rw [List.length_flatMap]
            simp [List.map_const', Nat.mul_comm]
          simp only [List.length_map, List.length_append, tasks_len, e, rngD, List.length_range]
          omega
        · refine hk2 _ ⟨_, _, congrArg (fun l => [EV.d (netD k r c), EV.d (PyData.int ↑b), EV.own l, EV.d (PyData.int ↑t), EV.d (PyData.int ↑i), e5]) ?_⟩
          rw [List.range_succ, List.flatMap_append, ← List.append_assoc, List.map_append (l₂ := List.flatMap _ [i])]
          congr 1
          simp [rngD, Function.comp_def]
    · rintro ρ ⟨e4, e5, rfl⟩
      exact hk _ ⟨_, e4, e5, by rw [tasks_succ]⟩
  · rintro ρ ⟨e3, e4, e5, rfl⟩
    walk_at "d"
    exact q
end DL

/-! M14c: first_wrong, wrong. -/
namespace DL
open PySem PySem.Spec L2
local macro_rules | `(tactic| walk_at "d") => `(tactic| simp (config := { failIfUnchanged := false }) only [dSeq_e, dSkip_e, dLcX_e, mulSD_e, dStrM_e, splitD_s, dAsgD_e, dPut_e, dPv_e, dPx_e, dLcD_e, dListRng_e, dListZip_e, dKind_e, dExt_e, dPopS_e, dIns_e, onlyD, dNewT_e, dPutT_e, dUpd_e, dForC_e, dPopV_e, dRem_e, dPopD_e, dSwap_e, dWorks_e, dRaiseR_e, dTold_e, dInsD_e, dInsP_e, dNewH_e, dDo_e, dNetF_e, dFeedF_e, dCellsF_e, dSelf_e, inDicD_k, ninDicD_k, dictPD_k, flat_keyD, dNever_e, dAsg_e, dAsgA_e, dAsgF_e, dAsgL_e, dAsgLA_e, dDrop_e, dRet_e, dRetN_e, dRetL_e, dIfS_e, dApp_e, dAppA_e, dFor_e, dForA_e, dForF_e, dVar_e, dC_e, dNil_e, dCons_e, dTup_e, dLst_e, dOp_e, dChain_e, asB_e, dAnd_e, dOr_e, dNot_e, dAndV_e, dOrV_e, dNotV_e, dIf_e, dSl_e, dPart_e, dNoPart_e, dCB_e, dCall_e, dCallL_e, dLc_e, dLcL_e, dListL_e, dItems_e, dRng1_e, dRng2_e, dRng3_e, dIsi_e, dIsi2_e, dRaise_e, dNeg_e, tgn_e, tgt_e, setAll, frz, wipeD, envOf, lawEnv, lawEnds,
  oEr_e, oEl_e, oEx_e, oLl_e, oLx_e, inD_t, inD_l, ninD_t, ninD_l, List.any_cons, List.any_nil, Bool.or_false, addD_ii, addD_ss, addD_tt, addD_ll, subD_ii, mulD_ii, mulD_li, mulD_ti, dMinDf_e, dRetF_e, dPar_e, dEnum_e, fdivD_ii, modD_ii, powD_ii, cmpD_ii, isD_n, notD_n, isN_none, isN_int, isN_str, isN_tuple, isN_list, isN_opt, Option.isNone_none, Option.isNone_some, eqD_e, neD_e, ixD_t, ixD_l, slD_t, slD_l, lenD_t, lenD_l, tupleD_rng, tupleD_t, tupleD_l, listD_t, listD_l, min2D_ii, max2D_ii, absD_i, intD_i, intD_b, seqD_t, seqD_l, seqD_row, at0, at1, at2, at3, len_row, ixD_c0, ixD_c1, ixD_c2, ixD_n0, ixD_n1, ixD_n2, ixD_f0, ixD_f1, eqv_ii, shaped_int,
  List.map_cons, List.map_nil, List.set_cons_zero, List.set_cons_succ, List.set_nil, List.getElem?_cons_zero, List.getElem?_cons_succ, List.getElem?_nil, List.replicate_succ, List.replicate_zero, List.cons_append, List.nil_append, List.length_cons, List.length_nil, Nat.reduceAdd, Nat.reduceSub, Nat.add_zero, Nat.zero_add, Nat.sub_self, Nat.sub_zero, if_true, if_false, Bool.false_eq_true, Bool.not_true, Bool.not_false, reduceIte, flat, flatAll, flat_optD, flat_cellD, Bool.and_true, Bool.true_and, Bool.and_self, true_and, and_true, and_self, decide_true, decide_false, List.drop_zero, Int.toNat_natCast, Nat.reduceLeDiff, reduceCtorEq])
theorem nodup_le {α : Type} [DecidableEq α] : ∀ {l m : List α}, l.Nodup → (∀ x ∈ l, x ∈ m) → l.length ≤ m.length
  | [], _, _, _ => Nat.zero_le _
  | a :: l, m, hn, hs => by
    have h := List.nodup_cons.mp hn
    have ha := hs a List.mem_cons_self
    have ih := nodup_le (m := m.erase a) h.2 fun x hx => (List.mem_erase_of_ne (fun z => h.1 (by rw [← z]; exact hx))).mpr (hs x (List.mem_cons_of_mem _ hx))
    have e := List.length_erase_of_mem ha
    have p : 0 < m.length := List.length_pos_of_mem ha
    rw [List.length_cons]
    omega
theorem lcD_keys {g : PyData → (List EV → Prop) → Prop} {t : List EV → (Bool → Prop) → Prop} {f : List EV → (PyData → Prop) → Prop} (p : Task → Bool) : ∀ {l : List Task} {P : List PyData → Prop},
    (∀ k ∈ l, ∀ (Q : PyData → Prop) (R : Prop), (p k = true → Q (keyD k)) → (p k = false → R) → g (keyD k) fun ρ => t ρ fun b => if b = true then f ρ Q else R) → P ((l.filter p).map keyD) → lcD g t f (l.map keyD) P
  | [], P, _, q => q
  | x :: xs, P, hs, q => hs x List.mem_cons_self _ _ (fun e => lcD_keys p (P := fun ys => P (keyD x :: ys)) (fun y hy => hs y (List.mem_cons_of_mem _ hy)) (by simpa [e] using q)) fun e => lcD_keys p (fun y hy => hs y (List.mem_cons_of_mem _ hy)) (by simpa [e] using q)
theorem canLay_keys (l : List Task) : PyData.canLayAll0 (l.map keyD) = true := by
  induction l with
  | nil => rfl
  | cons a r ih => simp only [List.map_cons, PyData.canLayAll0, canLay_keyD, ih, Bool.and_self]
theorem depth_keyD (k : Task) : (keyD k).depth ≤ 2 := by
  have := depth_ints k
  show PyData.depth (.tuple (k.map .int)) ≤ 2
  rw [PyData.depth]
  omega
theorem depth_keys (l : List Task) : PyData.depthAll (l.map keyD) ≤ 2 := by
  induction l with
  | nil => simp [PyData.depthAll]
  | cons a r ih =>
    have := depth_keyD a
    simp only [List.map_cons, PyData.depthAll]
    omega
theorem shaped_keys (l : List Task) : SeqAt.shaped (.list (l.map keyD)) = true := by
  unfold SeqAt.shaped
  have := depth_keys l
  simp only [Bool.and_eq_true, decide_eq_true_eq]
  refine ⟨by rw [PyData.canLay0]; exact canLay_keys l, ?_⟩
  rw [PyData.depth]
  omega
theorem shaped_nil : SeqAt.shaped (.list []) = true := by decide
theorem eqv_nil (l : List PyData) : PyData.eqv (.list l) (.list []) = l.isEmpty := by
  cases l <;> simp [PyData.eqv, PyData.eqvAll]
/-- a list of tasks is asked whether it is empty -/
theorem ne_keys {l : List Task} {Q : PyData → Prop} (q : Q (.bool (!l.isEmpty))) : neD (.list (l.map keyD)) (.list []) Q := by
  refine ⟨shaped_keys l, shaped_nil, ?_⟩
  rw [eqv_nil, List.isEmpty_map]
  exact q
theorem isN_tk (o : Option Task) : isN (tkD o) = o.isNone := by cases o <;> rfl
theorem tasks_nodup {b r c : Nat} : (tasksF b r c).Nodup := by
  have row : ∀ t i : Nat, ((List.range c).map fun j : Nat => ([(t : Int), (i : Int), (j : Int)] : Task)).Nodup := fun t i => by
    refine List.Pairwise.map _ (R := (· ≠ ·)) (fun a b h e => h ?_) List.nodup_range
    simp only [List.cons.injEq, and_true, true_and] at e
    omega
  have tab : ∀ (t n : Nat), ((List.range n).flatMap fun i : Nat => (List.range c).map fun j : Nat => ([(t : Int), (i : Int), (j : Int)] : Task)).Nodup := fun t n => by
    induction n with
    | zero => exact List.nodup_nil
    | succ n ih =>
      rw [List.range_succ, List.flatMap_append, List.nodup_append]
      refine ⟨ih, by simpa using row t n, fun x hx y hy e => ?_⟩
      subst e
      simp only [List.mem_flatMap, List.mem_map, List.mem_range, List.mem_singleton] at hx hy
      obtain ⟨i, hi, j, hj, rfl⟩ := hx
      obtain ⟨_, rfl, j', hj', e⟩ := hy
      simp only [List.cons.injEq, and_true, true_and] at e
      omega
  induction b with
  | zero => exact List.nodup_nil
  | succ b ih =>
    rw [tasks_succ, List.nodup_append]
    refine ⟨ih, tab b r, fun x hx y hy e => ?_⟩
    subst e
    obtain ⟨t, i, j, ht, _, _, rfl⟩ := mem_tasks.mp hx
    simp only [List.mem_flatMap, List.mem_map, List.mem_range] at hy
    obtain ⟨i', hi, j', hj, e⟩ := hy
    simp only [List.cons.injEq, and_true] at e
    omega
/-- a first task stands at beat 0 -/
theorem first_zero {b r c : Nat} {k : Task} (h2 : r ≤ 6) (h4 : c ≤ 6) (hk : k ∈ tasksF b r c) (hn : (needsF k).all (fun x => decide (x ∈ ([] : List Task))) = true) : k ∈ zeros := by
  obtain ⟨t, i, j, ht, hi, hj, rfl⟩ := mem_tasks.mp hk
  by_cases h0 : 0 < (t : Int)
  · unfold needsF at hn
    simp only [h0, if_true] at hn
    simp at hn
  · have : t = 0 := by omega
    subst this
    unfold zeros
    simp only [List.mem_flatMap, List.mem_map, List.mem_range]
    exact ⟨i, by omega, j, by omega, rfl⟩
/-- nothing is wrong with a task: what that says -/
theorem wrongAt_none {every done fresh : List Task} {k : Task} (h : wrongAt every done fresh k = none) : k ∈ every ∧ k ∉ done ∧ k ∉ fresh ∧ (needsF k).all (fun x => decide (x ∈ done)) = true := by
  unfold wrongAt at h
  split at h
  · cases h
  · rename_i h1
    split at h
    · cases h
    · rename_i h2
      split at h
      · cases h
      · rename_i h3
        exact ⟨Classical.not_not.mp h1, fun z => h2 (.inl z), fun z => h2 (.inr z), by simpa using h3⟩
end DL

namespace DL
open PySem PySem.Spec L2
local macro_rules | `(tactic| walk_at "d") => `(tactic| simp (config := { failIfUnchanged := false }) only [dSkip_e, dLcX_e, mulSD_e, dStrM_e, splitD_s, dAsgD_e, dPut_e, dPv_e, dPx_e, dLcD_e, dListRng_e, dListZip_e, dKind_e, dExt_e, dPopS_e, dIns_e, onlyD, dNewT_e, dPutT_e, dUpd_e, dForC_e, dPopV_e, dRem_e, dPopD_e, dSwap_e, dWorks_e, dRaiseR_e, dTold_e, dInsD_e, dInsP_e, dNewH_e, dDo_e, dNetF_e, dFeedF_e, dCellsF_e, dSelf_e, inDicD_k, ninDicD_k, dictPD_k, flat_keyD, dNever_e, dAsg_e, dAsgA_e, dAsgF_e, dAsgL_e, dAsgLA_e, dDrop_e, dRet_e, dRetN_e, dRetL_e, dIfS_e, dApp_e, dAppA_e, dFor_e, dForA_e, dForF_e, dVar_e, dC_e, dNil_e, dCons_e, dTup_e, dLst_e, dOp_e, dChain_e, asB_e, dAnd_e, dOr_e, dNot_e, dAndV_e, dOrV_e, dNotV_e, dIf_e, dSl_e, dPart_e, dNoPart_e, dCB_e, dCall_e, dCallL_e, dLc_e, dLcL_e, dListL_e, dItems_e, dRng1_e, dRng2_e, dRng3_e, dIsi_e, dIsi2_e, dRaise_e, dNeg_e, tgn_e, tgt_e, setAll, frz, wipeD, envOf, lawEnv, lawEnds,
  oEr_e, oEl_e, oEx_e, oLl_e, oLx_e, inD_t, inD_l, ninD_t, ninD_l, List.any_cons, List.any_nil, Bool.or_false, addD_ii, addD_ss, addD_tt, addD_ll, subD_ii, mulD_ii, mulD_li, mulD_ti, dMinDf_e, dRetF_e, dPar_e, dEnum_e, fdivD_ii, modD_ii, powD_ii, cmpD_ii, isD_n, notD_n, isN_none, isN_int, isN_str, isN_tuple, isN_list, isN_opt, Option.isNone_none, Option.isNone_some, eqD_e, neD_e, ixD_t, ixD_l, slD_t, slD_l, lenD_t, lenD_l, tupleD_rng, tupleD_t, tupleD_l, listD_t, listD_l, min2D_ii, max2D_ii, absD_i, intD_i, intD_b, seqD_t, seqD_l, seqD_row, at0, at1, at2, at3, len_row, ixD_c0, ixD_c1, ixD_c2, ixD_n0, ixD_n1, ixD_n2, ixD_f0, ixD_f1, eqv_ii, shaped_int,
  List.map_cons, List.map_nil, List.set_cons_zero, List.set_cons_succ, List.set_nil, List.getElem?_cons_zero, List.getElem?_cons_succ, List.getElem?_nil, List.replicate_succ, List.replicate_zero, List.cons_append, List.nil_append, List.length_cons, List.length_nil, Nat.reduceAdd, Nat.reduceSub, Nat.add_zero, Nat.zero_add, Nat.sub_self, Nat.sub_zero, if_true, if_false, Bool.false_eq_true, Bool.not_true, Bool.not_false, reduceIte, flat, flatAll, flat_optD, flat_cellD, Bool.and_true, Bool.true_and, Bool.and_self, true_and, and_true, and_self, decide_true, decide_false, List.drop_zero, Int.toNat_natCast, Nat.reduceLeDiff, reduceCtorEq])
theorem pl_states {k : Kd} {r c b n : Nat} {L T : Nat → List (Option Int)} (hr : r ≤ 6) (hc : c ≤ 6) (hb : b ≤ 100) : Pl (n + 5) (.list (statesD k r c L T b)) := by
  refine ⟨by unfold statesD; simp; omega, fun x hx => ?_⟩
  obtain ⟨i, hi, rfl⟩ := List.mem_map.mp hx
  exact pl_st hr hc
theorem at4 {a b c e : PyData} {x : Nat} (h : (x : Int) < 4) {Q : PyData → Prop} (ha : Q a) (hb : Q b) (hc : Q c) (he : Q e) : ixD (.list [a, b, c, e]) (.int (x : Nat)) Q := by
  have : x = 0 ∨ x = 1 ∨ x = 2 ∨ x = 3 := by omega
  rcases this with rfl | rfl | rfl | rfl
  · exact ha
  · exact hb
  · exact hc
  · exact he
end DL

namespace DL
open PySem PySem.Spec L2
local macro_rules | `(tactic| walk_at "d") => `(tactic| simp (config := { failIfUnchanged := false }) only [dSeq_e, dSkip_e, dLcX_e, mulSD_e, dStrM_e, splitD_s, dAsgD_e, dPut_e, dPv_e, dPx_e, dLcD_e, dListRng_e, dListZip_e, dKind_e, dExt_e, dPopS_e, dIns_e, onlyD, dNewT_e, dPutT_e, dUpd_e, dForC_e, dPopV_e, dRem_e, dPopD_e, dSwap_e, dWorks_e, dRaiseR_e, dTold_e, dInsD_e, dInsP_e, dNewH_e, dDo_e, dNetF_e, dFeedF_e, dCellsF_e, dSelf_e, inDicD_k, ninDicD_k, dictPD_k, flat_keyD, dNever_e, dAsg_e, dAsgA_e, dAsgF_e, dAsgL_e, dAsgLA_e, dDrop_e, dRet_e, dRetN_e, dRetL_e, dIfS_e, dApp_e, dAppA_e, dFor_e, dForA_e, dForF_e, dVar_e, dC_e, dNil_e, dCons_e, dTup_e, dLst_e, dOp_e, dChain_e, asB_e, dAnd_e, dOr_e, dNot_e, dAndV_e, dOrV_e, dNotV_e, dIf_e, dSl_e, dPart_e, dNoPart_e, dCB_e, dCall_e, dCallL_e, dLc_e, dLcL_e, dListL_e, dItems_e, dRng1_e, dRng2_e, dRng3_e, dIsi_e, dIsi2_e, dRaise_e, dNeg_e, tgn_e, tgt_e, setAll, frz, wipeD, envOf, lawEnv, lawEnds,
  oEr_e, oEl_e, oEx_e, oLl_e, oLx_e, inD_t, inD_l, ninD_t, ninD_l, List.any_cons, List.any_nil, Bool.or_false, addD_ii, addD_ss, addD_tt, addD_ll, subD_ii, mulD_ii, mulD_li, mulD_ti, dMinDf_e, dRetF_e, dPar_e, dEnum_e, fdivD_ii, modD_ii, powD_ii, cmpD_ii, isD_n, notD_n, isN_none, isN_int, isN_str, isN_tuple, isN_list, isN_opt, Option.isNone_none, Option.isNone_some, eqD_e, neD_e, ixD_t, ixD_l, slD_t, slD_l, lenD_t, lenD_l, tupleD_rng, tupleD_t, tupleD_l, listD_t, listD_l, min2D_ii, max2D_ii, absD_i, intD_i, intD_b, seqD_t, seqD_l, seqD_row, at0, at1, at2, at3, len_row, ixD_c0, ixD_c1, ixD_c2, ixD_n0, ixD_n1, ixD_n2, ixD_f0, ixD_f1, eqv_ii, shaped_int,
  List.map_cons, List.map_nil, List.set_cons_zero, List.set_cons_succ, List.set_nil, List.getElem?_cons_zero, List.getElem?_cons_succ, List.getElem?_nil, List.replicate_succ, List.replicate_zero, List.cons_append, List.nil_append, List.length_cons, List.length_nil, Nat.reduceAdd, Nat.reduceSub, Nat.add_zero, Nat.zero_add, Nat.sub_self, Nat.sub_zero, if_true, if_false, Bool.false_eq_true, Bool.not_true, Bool.not_false, reduceIte, flat, flatAll, flat_optD, flat_cellD, Bool.and_true, Bool.true_and, Bool.and_self, true_and, and_true, and_self, decide_true, decide_false, List.drop_zero, Int.toNat_natCast, Nat.reduceLeDiff, reduceCtorEq])
theorem fm_congr {α β : Type} {f g : α → Option β} : ∀ {xs : List α}, (∀ x ∈ xs, f x = g x) → xs.filterMap f = xs.filterMap g
  | [], _ => rfl
  | x :: xs, h => by
    rw [List.filterMap_cons, List.filterMap_cons, h x List.mem_cons_self, fm_congr fun y hy => h y (List.mem_cons_of_mem _ hy)]
theorem fm_cut {α : Type} {f : Nat → Option α} {n : Nat} (h : ∀ t, n ≤ t → f t = none) : ∀ m, (List.range (n + m)).filterMap f = (List.range n).filterMap f
  | 0 => rfl
  | m + 1 => by
    rw [← Nat.add_assoc, fm_succ, fm_cut h m, h (n + m) (by omega)]
    simp
theorem fm_shift {α : Type} {f : Nat → Option α} {j : Nat} (h : ∀ t, t < j → f t = none) (n : Nat) : (List.range (j + n)).filterMap f = (List.range n).filterMap fun k => f (k + j) := by
  have h0 : (List.range j).filterMap f = [] := by
    apply List.filterMap_eq_nil_iff.mpr
    intro t ht
    exact h t (List.mem_range.mp ht)
  induction n with
  | zero => rw [Nat.add_zero, h0]; rfl
  | succ n ih => rw [← Nat.add_assoc, fm_succ, ih, fm_succ, Nat.add_comm j n]
def otherF (l u : List (Option Int)) (i j b k : Nat) : Option (Int × Int) := if k + j < b then meet1 l u i j (k + j) else none
theorem meets_other (l u : List (Option Int)) (i j b : Nat) : meetsL l u i j b = (List.range l.length).filterMap (otherF l u i j b) := by
  have e1 : meetsL l u i j b = (List.range b).filterMap fun t => if t < b then meet1 l u i j t else none := by
    unfold meetsL
    refine fm_congr fun t ht => ?_
    rw [if_pos (List.mem_range.mp ht)]
  have e2 : (List.range (b + (j + l.length))).filterMap (fun t => if t < b then meet1 l u i j t else none) = (List.range b).filterMap fun t => if t < b then meet1 l u i j t else none :=
    fm_cut (fun t ht => by rw [if_neg (by omega)]) _
  have e3 : b + (j + l.length) = j + (l.length + b) := by omega
  rw [e1, ← e2, e3, fm_shift (fun t ht => by
    split
    · unfold meet1
      rw [fedAt_neg (by omega)]
    · rfl)]
  refine fm_cut (f := otherF l u i j b) (fun t ht => ?_) b
  unfold otherF
  split
  · unfold meet1
    have e4 : (((t + j : Nat) : Int) - (j : Int)) = ((t : Nat) : Int) := by omega
    rw [e4, fedAt_nat]
    unfold atL
    rw [List.getElem?_eq_none_iff.mpr ht]
  · rfl
theorem came_other (l : List (Option Int)) (j b : Nat) : (l.take (b - j)).filterMap id = (List.range l.length).filterMap fun k => if k + j < b then atL l k else none := by
  rw [← take_range]
  have e1 : (List.range (b - j)).filterMap (atL l) = (List.range (b - j)).filterMap fun k => if k + j < b then atL l k else none := by
    refine fm_congr fun t ht => ?_
    have := List.mem_range.mp ht
    rw [if_pos (by omega)]
  rw [e1, ← fm_cut (n := b - j) (fun t ht => by rw [if_neg (by omega)]) l.length, Nat.add_comm]
  refine fm_cut (fun t ht => ?_) _
  unfold atL
  rw [List.getElem?_eq_none_iff.mpr ht]
  simp
theorem some_six {ns : List Int} {j : Nat} (h : j < 6) : (ns.map PyData.int ++ List.replicate 6 PyData.none)[j]? = some (optD ns[j]?) := by
  cases e : ns[j]? with
  | none =>
    have hl := List.getElem?_eq_none_iff.mp e
    rw [List.getElem?_append_right (by simpa using hl), List.getElem?_replicate, if_pos (by simp; omega)]
    rfl
  | some x =>
    rw [List.getElem?_append_left (by have := (List.getElem?_eq_some_iff.mp e).1; simpa using this), List.getElem?_map, e]
    rfl
theorem lcD_fm {α β : Type} {g : PyData → (List EV → Prop) → Prop} {t : List EV → (Bool → Prop) → Prop} {f : List EV → (PyData → Prop) → Prop} (dd : α → PyData) (F : α → Option β) (h : β → PyData) : ∀ {xs : List α} {P : List PyData → Prop},
    (∀ x ∈ xs, ∀ (Q : PyData → Prop) (R : Prop), (∀ y, F x = some y → Q (h y)) → (F x = none → R) → g (dd x) fun ρ => t ρ fun b => if b = true then f ρ Q else R) → P ((xs.filterMap F).map h) → lcD g t f (xs.map dd) P
  | [], P, _, q => q
  | x :: xs, P, hs, q => hs x List.mem_cons_self _ _ (fun y e => lcD_fm dd F h (P := fun ys => P (h y :: ys)) (fun z hz => hs z (List.mem_cons_of_mem _ hz)) (by rw [List.filterMap_cons, e] at q; exact q)) fun e => lcD_fm dd F h (fun z hz => hs z (List.mem_cons_of_mem _ hz)) (by rw [List.filterMap_cons, e] at q; exact q)
theorem ixD_line {l : List (Option Int)} {k : Nat} (h : k < l.length) {P : PyData → Prop} : ixD (lineD l) (.int (k : Nat)) P = P (optD (atL l k)) := by
  unfold lineD
  rw [ixD_t, atI_nat (v := optD l[k]) (by rw [List.getElem?_map, List.getElem?_eq_getElem h]; rfl)]
  unfold atL
  rw [List.getElem?_eq_getElem h]
end DL

namespace DL
open PySem PySem.Spec L2
local macro_rules | `(tactic| walk_at "d") => `(tactic| simp (config := { failIfUnchanged := false }) only [dSeq_e, dSkip_e, dLcX_e, mulSD_e, dStrM_e, splitD_s, dAsgD_e, dPut_e, dPv_e, dPx_e, dLcD_e, dListRng_e, dListZip_e, dKind_e, dExt_e, dPopS_e, dIns_e, onlyD, dNewT_e, dPutT_e, dUpd_e, dForC_e, dPopV_e, dRem_e, dPopD_e, dSwap_e, dWorks_e, dRaiseR_e, dTold_e, dInsD_e, dInsP_e, dNewH_e, dDo_e, dNetF_e, dFeedF_e, dCellsF_e, dSelf_e, inDicD_k, ninDicD_k, dictPD_k, flat_keyD, dNever_e, dAsg_e, dAsgA_e, dAsgF_e, dAsgL_e, dAsgLA_e, dDrop_e, dRet_e, dRetN_e, dRetL_e, dIfS_e, dApp_e, dAppA_e, dFor_e, dForA_e, dForF_e, dVar_e, dC_e, dNil_e, dCons_e, dTup_e, dLst_e, dOp_e, dChain_e, asB_e, dAnd_e, dOr_e, dNot_e, dAndV_e, dOrV_e, dNotV_e, dIf_e, dSl_e, dPart_e, dNoPart_e, dCB_e, dCall_e, dCallL_e, dLc_e, dLcL_e, dListL_e, dItems_e, dRng1_e, dRng2_e, dRng3_e, dIsi_e, dIsi2_e, dRaise_e, dNeg_e, tgn_e, tgt_e, setAll, frz, wipeD, envOf, lawEnv, lawEnds,
  oEr_e, oEl_e, oEx_e, oLl_e, oLx_e, inD_t, inD_l, ninD_t, ninD_l, List.any_cons, List.any_nil, Bool.or_false, addD_ii, addD_ss, addD_tt, addD_ll, subD_ii, mulD_ii, mulD_li, mulD_ti, dMinDf_e, dRetF_e, dPar_e, dEnum_e, fdivD_ii, modD_ii, powD_ii, cmpD_ii, isD_n, notD_n, isN_none, isN_int, isN_str, isN_tuple, isN_list, isN_opt, Option.isNone_none, Option.isNone_some, eqD_e, neD_e, ixD_t, ixD_l, slD_t, slD_l, lenD_t, lenD_l, tupleD_rng, tupleD_t, tupleD_l, listD_t, listD_l, min2D_ii, max2D_ii, absD_i, intD_i, intD_b, seqD_t, seqD_l, seqD_row, at0, at1, at2, at3, len_row, ixD_c0, ixD_c1, ixD_c2, ixD_n0, ixD_n1, ixD_n2, ixD_f0, ixD_f1, eqv_ii, shaped_int,
  List.map_cons, List.map_nil, List.set_cons_zero, List.set_cons_succ, List.set_nil, List.getElem?_cons_zero, List.getElem?_cons_succ, List.getElem?_nil, List.replicate_succ, List.replicate_zero, List.cons_append, List.nil_append, List.length_cons, List.length_nil, Nat.reduceAdd, Nat.reduceSub, Nat.add_zero, Nat.zero_add, Nat.sub_self, Nat.sub_zero, if_true, if_false, Bool.false_eq_true, Bool.not_true, Bool.not_false, reduceIte, flat, flatAll, flat_optD, flat_cellD, Bool.and_true, Bool.true_and, Bool.and_self, true_and, and_true, and_self, decide_true, decide_false, List.drop_zero, Int.toNat_natCast, Nat.reduceLeDiff, reduceCtorEq])
theorem rng_map (n : Nat) : rngD 0 n = (List.range n).map fun k => PyData.int (k : Nat) := by
  unfold rngD
  apply List.map_congr_left
  intro k _
  simp
theorem meets_len' (l u : List (Option Int)) (i j b : Nat) : (meetsL l u i j b).length ≤ l.length := by
  rw [meets_other]
  have := List.length_filterMap_le (otherF l u i j b) (List.range l.length)
  simpa using this
end DL

namespace DL
open PySem PySem.Spec L2
local macro_rules | `(tactic| walk_at "d") => `(tactic| simp (config := { failIfUnchanged := false }) only [dSeq_e, dSkip_e, dLcX_e, mulSD_e, dStrM_e, splitD_s, dAsgD_e, dPut_e, dPv_e, dPx_e, dLcD_e, dListRng_e, dListZip_e, dKind_e, dExt_e, dPopS_e, dIns_e, onlyD, dNewT_e, dPutT_e, dUpd_e, dForC_e, dPopV_e, dRem_e, dPopD_e, dSwap_e, dWorks_e, dRaiseR_e, dTold_e, dInsD_e, dInsP_e, dNewH_e, dDo_e, dNetF_e, dFeedF_e, dCellsF_e, dSelf_e, inDicD_k, ninDicD_k, dictPD_k, flat_keyD, dNever_e, dAsg_e, dAsgA_e, dAsgF_e, dAsgL_e, dAsgLA_e, dDrop_e, dRet_e, dRetN_e, dRetL_e, dIfS_e, dApp_e, dAppA_e, dFor_e, dForA_e, dForF_e, dVar_e, dC_e, dNil_e, dCons_e, dTup_e, dLst_e, dOp_e, dChain_e, asB_e, dAnd_e, dOr_e, dNot_e, dAndV_e, dOrV_e, dNotV_e, dIf_e, dSl_e, dPart_e, dNoPart_e, dCB_e, dCall_e, dCallL_e, dLc_e, dLcL_e, dListL_e, dItems_e, dRng1_e, dRng2_e, dRng3_e, dIsi_e, dIsi2_e, dRaise_e, dNeg_e, tgn_e, tgt_e, setAll, frz, wipeD, envOf, lawEnv, lawEnds,
  oEr_e, oEl_e, oEx_e, oLl_e, oLx_e, inD_t, inD_l, ninD_t, ninD_l, List.any_cons, List.any_nil, Bool.or_false, addD_ii, addD_ss, addD_tt, addD_ll, subD_ii, mulD_ii, mulD_li, mulD_ti, dMinDf_e, dRetF_e, dPar_e, dEnum_e, fdivD_ii, modD_ii, powD_ii, cmpD_ii, isD_n, notD_n, isN_none, isN_int, isN_str, isN_tuple, isN_list, isN_opt, Option.isNone_none, Option.isNone_some, eqD_e, neD_e, ixD_t, ixD_l, slD_t, slD_l, lenD_t, lenD_l, tupleD_rng, tupleD_t, tupleD_l, listD_t, listD_l, min2D_ii, max2D_ii, absD_i, intD_i, intD_b, seqD_t, seqD_l, seqD_row, at0, at1, at2, at3, len_row, ixD_c0, ixD_c1, ixD_c2, ixD_n0, ixD_n1, ixD_n2, ixD_f0, ixD_f1, eqv_ii, shaped_int,
  List.map_cons, List.map_nil, List.set_cons_zero, List.set_cons_succ, List.set_nil, List.getElem?_cons_zero, List.getElem?_cons_succ, List.getElem?_nil, List.replicate_succ, List.replicate_zero, List.cons_append, List.nil_append, List.length_cons, List.length_nil, Nat.reduceAdd, Nat.reduceSub, Nat.add_zero, Nat.zero_add, Nat.sub_self, Nat.sub_zero, if_true, if_false, Bool.false_eq_true, Bool.not_true, Bool.not_false, reduceIte, flat, flatAll, flat_optD, flat_cellD, Bool.and_true, Bool.true_and, Bool.and_self, true_and, and_true, and_self, decide_true, decide_false, List.drop_zero, Int.toNat_natCast, Nat.reduceLeDiff, reduceCtorEq])
end DL

namespace DL
open PySem PySem.Spec L2
local macro_rules | `(tactic| walk_at "d") => `(tactic| simp (config := { failIfUnchanged := false }) only [dSeq_e, dSkip_e, dLcX_e, mulSD_e, dStrM_e, splitD_s, dAsgD_e, dPut_e, dPv_e, dPx_e, dLcD_e, dListRng_e, dListZip_e, dKind_e, dExt_e, dPopS_e, dIns_e, onlyD, dNewT_e, dPutT_e, dUpd_e, dForC_e, dPopV_e, dRem_e, dPopD_e, dSwap_e, dWorks_e, dRaiseR_e, dTold_e, dInsD_e, dInsP_e, dNewH_e, dDo_e, dNetF_e, dFeedF_e, dCellsF_e, dSelf_e, inDicD_k, ninDicD_k, dictPD_k, flat_keyD, dNever_e, dAsg_e, dAsgA_e, dAsgF_e, dAsgL_e, dAsgLA_e, dDrop_e, dRet_e, dRetN_e, dRetL_e, dIfS_e, dApp_e, dAppA_e, dFor_e, dForA_e, dForF_e, dVar_e, dC_e, dNil_e, dCons_e, dTup_e, dLst_e, dOp_e, dChain_e, asB_e, dAnd_e, dOr_e, dNot_e, dAndV_e, dOrV_e, dNotV_e, dIf_e, dSl_e, dPart_e, dNoPart_e, dCB_e, dCall_e, dCallL_e, dLc_e, dLcL_e, dListL_e, dItems_e, dRng1_e, dRng2_e, dRng3_e, dIsi_e, dIsi2_e, dRaise_e, dNeg_e, tgn_e, tgt_e, setAll, frz, wipeD, envOf, lawEnv, lawEnds,
  oEr_e, oEl_e, oEx_e, oLl_e, oLx_e, inD_t, inD_l, ninD_t, ninD_l, List.any_cons, List.any_nil, Bool.or_false, addD_ii, addD_ss, addD_tt, addD_ll, subD_ii, mulD_ii, mulD_li, mulD_ti, dMinDf_e, dRetF_e, dPar_e, dEnum_e, fdivD_ii, modD_ii, powD_ii, cmpD_ii, isD_n, notD_n, isN_none, isN_int, isN_str, isN_tuple, isN_list, isN_opt, Option.isNone_none, Option.isNone_some, eqD_e, neD_e, ixD_t, ixD_l, slD_t, slD_l, lenD_t, lenD_l, tupleD_rng, tupleD_t, tupleD_l, listD_t, listD_l, min2D_ii, max2D_ii, absD_i, intD_i, intD_b, seqD_t, seqD_l, seqD_row, at0, at1, at2, at3, len_row, ixD_c0, ixD_c1, ixD_c2, ixD_n0, ixD_n1, ixD_n2, ixD_f0, ixD_f1, eqv_ii, shaped_int,
  List.map_cons, List.map_nil, List.set_cons_zero, List.set_cons_succ, List.set_nil, List.getElem?_cons_zero, List.getElem?_cons_succ, List.getElem?_nil, List.replicate_succ, List.replicate_zero, List.cons_append, List.nil_append, List.length_cons, List.length_nil, Nat.reduceAdd, Nat.reduceSub, Nat.add_zero, Nat.zero_add, Nat.sub_self, Nat.sub_zero, if_true, if_false, Bool.false_eq_true, Bool.not_true, Bool.not_false, reduceIte, flat, flatAll, flat_optD, flat_cellD, Bool.and_true, Bool.true_and, Bool.and_self, true_and, and_true, and_self, decide_true, decide_false, List.drop_zero, Int.toNat_natCast, Nat.reduceLeDiff, reduceCtorEq])
/-! ### equality of cells -/
theorem eqv_opt (a b : Option Int) : PyData.eqv (optD a) (optD b) = decide (a = b) := by
  cases a <;> cases b <;> simp [optD, PyData.eqv]
  rename_i x y
  by_cases h : x = y <;> simp [h]
theorem eqv_cell (a b : Cell) : PyData.eqv (cellD a) (cellD b) = decide (a = b) := by
  obtain ⟨a1, a2, a3⟩ := a
  obtain ⟨b1, b2, b3⟩ := b
  unfold cellD
  simp only [PyData.eqv, PyData.eqvAll, eqv_opt, Bool.and_true]
  by_cases h1 : a1 = b1 <;> by_cases h2 : a2 = b2 <;> by_cases h3 : a3 = b3 <;> simp [h1, h2, h3]
/-! ### the first place -/
def unlikeF (r c : Nat) (p : Nat → Nat → Bool) : Option (Nat × Nat) := (List.range r).findSome? fun i => ((List.range c).find? (p i)).map fun j => (i, j)
theorem unlike_none {r c : Nat} {p : Nat → Nat → Bool} (h : ∀ i, i < r → ∀ j, j < c → p i j = false) : unlikeF r c p = none := by
  unfold unlikeF
  rw [List.findSome?_eq_none_iff]
  intro i hi
  have : (List.range c).find? (p i) = none := by
    rw [List.find?_eq_none]
    intro j hj
    simp [h i (List.mem_range.mp hi) j (List.mem_range.mp hj)]
  rw [this]; rfl
theorem unlike_some {r c i j : Nat} {p : Nat → Nat → Bool} (hi : i < r) (hj : j < c) (h : p i j = true) (h1 : ∀ i', i' < i → ∀ j', j' < c → p i' j' = false) (h2 : ∀ j', j' < j → p i j' = false) : unlikeF r c p = some (i, j) := by
  unfold unlikeF
  rw [List.findSome?_eq_some_iff]
  refine ⟨List.range i, i, (List.range (r - i - 1)).map fun k => i + 1 + k, ?_, ?_, fun x hx => ?_⟩
  · have : r = i + (1 + (r - i - 1)) := by omega
    conv => lhs; rw [this, List.range_add, List.range_add]
    simp [Nat.add_assoc]
  · have : (List.range c).find? (p i) = some j := by
      rw [List.find?_range_eq_some]
      exact ⟨h, List.mem_range.mpr hj, fun k hk => by simp [h2 k hk]⟩
    rw [this]; rfl
  · have : (List.range c).find? (p x) = none := by
      rw [List.find?_eq_none]
      intro k hk
      simp [h1 x (List.mem_range.mp hx) k (List.mem_range.mp hk)]
    rw [this]; rfl
theorem unlike_inv {r c i j : Nat} {p : Nat → Nat → Bool} (h : unlikeF r c p = some (i, j)) : i < r ∧ j < c ∧ p i j = true := by
  unfold unlikeF at h
  obtain ⟨l1, a, l2, e, h1, _⟩ := List.findSome?_eq_some_iff.mp h
  obtain ⟨k, hk, e2⟩ := Option.map_eq_some_iff.mp h1
  cases e2
  have ha : i ∈ List.range r := by rw [e]; simp
  exact ⟨List.mem_range.mp ha, List.mem_range.mp (List.mem_of_find?_eq_some hk), by simpa using List.find?_some hk⟩
theorem unlike_none_inv {r c : Nat} {p : Nat → Nat → Bool} (h : unlikeF r c p = none) : ∀ i, i < r → ∀ j, j < c → p i j = false := by
  intro i hi j hj
  unfold unlikeF at h
  rw [List.findSome?_eq_none_iff] at h
  have := h i (List.mem_range.mpr hi)
  cases e : (List.range c).find? (p i) with
  | some k => rw [e] at this; cases this
  | none =>
    rw [List.find?_eq_none] at e
    simpa using e j (List.mem_range.mpr hj)
def posD (t : Nat) : Option (Nat × Nat) → PyData
  | none => .none
  | some (i, j) => .tuple [.int (t : Nat), .int (i : Nat), .int (j : Nat)]
/-- a table of anything that can be compared -/
structure Cmp {α : Type} [DecidableEq α] (φ : α → PyData) (ok : α → Prop) : Prop where
  sh : ∀ a, ok a → SeqAt.shaped (φ a) = true
  eq : ∀ a b, ok a → ok b → PyData.eqv (φ a) (φ b) = decide (a = b)
theorem cmp_cell : Cmp cellD fun _ => True := ⟨fun a _ => pl_shaped (pl_cell (n := 0) a) (by decide), fun a b _ _ => eqv_cell a b⟩
theorem cmp_opt : Cmp optD fun _ => True := ⟨fun a _ => pl_shaped (pl_opt (n := 0) a) (by decide), fun a b _ _ => eqv_opt a b⟩
section
variable {α : Type} [DecidableEq α] {φ : α → PyData} {t r c : Nat} {f g : Nat → Nat → α} {P : O → Prop}
theorem unlike_core (C : Cmp φ fun _ => True) (hr : 1 ≤ r) (hr6 : r ≤ 100) (hc : c ≤ 100) (q : P (.ret (posD t (unlikeF r c fun i j => decide (f i j ≠ g i j))))) :
    ∀ G : STd, (∀ (xq : XQ) (ρ : List EV) (D : DEnds), (∃ i e4, i < r ∧ ρ = [.d (.int (t : Nat)), .d (rowD r fun i => rowD c fun j => φ (f i j)), .d (rowD r fun i => rowD c fun j => φ (g i j)), .d (.int (i : Nat)), e4]) → (forD (Tg.nm 4).d (dIfS (asB (dOp neD (dOp ixD (dOp ixD (dVar 1) (dVar 3)) (dVar 4)) (dOp ixD (dOp ixD (dVar 2) (dVar 3)) (dVar 4)))) (dRet (dTup (dCons (dVar 0) (dCons (dVar 3) (dCons (dVar 4) dNil))))) dSkip xq) (rngD 0 c) ρ D) → G xq ρ D) →
      (dSeq (dFor (dRng1 (dCons (dCB lenD (dCons (dVar 1) dNil)) dNil)) (.nm 3) G) (dRet (dC .none))) (fun n r => P (.exc n r)) (envOf 5 [.int (t : Nat), rowD r fun i => rowD c fun j => φ (f i j), rowD r fun i => rowD c fun j => φ (g i j)]) { nx := fun _ => P (.ret .none), rt := P } := by
  intro G hG
  walk_at "d"
  refine ⟨⟨by omega, by omega⟩, ?_⟩
  refine for_rng (fun i ρ => (∀ i', i' < i → ∀ j, j < c → decide (f i' j ≠ g i' j) = false) ∧ ∃ e3 e4, ρ = [.d (.int (t : Nat)), .d (rowD r fun i => rowD c fun j => φ (f i j)), .d (rowD r fun i => rowD c fun j => φ (g i j)), e3, e4]) ⟨fun i' h => by omega, _, _, rfl⟩ ?_ ?_
  · rintro i ρ Kt hi ⟨hp, e3, e4, rfl⟩ hk
    walk_at "d"
    refine hG _ _ _ ⟨i, e4, hi, rfl⟩ ?_
    refine for_rng (fun j ρ => (∀ j', j' < j → decide (f i j' ≠ g i j') = false) ∧ ∃ e4, ρ = [.d (.int (t : Nat)), .d (rowD r fun i => rowD c fun j => φ (f i j)), .d (rowD r fun i => rowD c fun j => φ (g i j)), .d (.int (i : Nat)), e4]) ⟨fun j' h => by omega, _, rfl⟩ ?_ ?_
    · rintro j ρ Kt' hj ⟨hp', e4, rfl⟩ hk'
      walk_at "d"
      rw [ixD_row hi, ixD_row hj, ixD_row hi, ixD_row hj]
      refine ⟨C.sh _ trivial, C.sh _ trivial, ?_⟩
      rw [C.eq _ _ trivial trivial]
      by_cases e : f i j = g i j
      · rw [decide_eq_true e]
        walk_at "d"
        refine hk' _ ⟨fun j' h => ?_, _, rfl⟩
        rcases Nat.lt_succ_iff_lt_or_eq.mp h with h | h
        · exact hp' j' h
        · subst h; simpa using e
      · rw [decide_eq_false e]
        walk_at "d"
        rw [unlike_some (p := fun i j => decide (f i j ≠ g i j)) hi hj (by simpa using e) hp hp'] at q
        exact q
    · rintro ρ ⟨hp', e4, rfl⟩
      refine hk _ ⟨fun i' h => ?_, _, _, rfl⟩
      rcases Nat.lt_succ_iff_lt_or_eq.mp h with h | h
      · exact hp i' h
      · subst h; exact hp'
  · rintro ρ ⟨hp, e3, e4, rfl⟩
    walk_at "d"
    rw [unlike_none (p := fun i j => decide (f i j ≠ g i j)) fun i hi j hj => hp i hi j hj] at q
    exact q
end
end DL

namespace DL
open PySem PySem.Spec L2
local macro_rules | `(tactic| walk_at "d") => `(tactic| simp (config := { failIfUnchanged := false }) only [dSeq_e, dSkip_e, dLcX_e, mulSD_e, dStrM_e, splitD_s, dAsgD_e, dPut_e, dPv_e, dPx_e, dLcD_e, dListRng_e, dListZip_e, dKind_e, dExt_e, dPopS_e, dIns_e, onlyD, dNewT_e, dPutT_e, dUpd_e, dForC_e, dPopV_e, dRem_e, dPopD_e, dSwap_e, dWorks_e, dRaiseR_e, dTold_e, dInsD_e, dInsP_e, dNewH_e, dDo_e, dNetF_e, dFeedF_e, dCellsF_e, dSelf_e, inDicD_k, ninDicD_k, dictPD_k, flat_keyD, dNever_e, dAsg_e, dAsgA_e, dAsgF_e, dAsgL_e, dAsgLA_e, dDrop_e, dRet_e, dRetN_e, dRetL_e, dIfS_e, dApp_e, dAppA_e, dFor_e, dForA_e, dForF_e, dVar_e, dC_e, dNil_e, dCons_e, dTup_e, dLst_e, dOp_e, dChain_e, asB_e, dAnd_e, dOr_e, dNot_e, dAndV_e, dOrV_e, dNotV_e, dIf_e, dSl_e, dPart_e, dNoPart_e, dCB_e, dCall_e, dCallL_e, dLc_e, dLcL_e, dListL_e, dItems_e, dRng1_e, dRng2_e, dRng3_e, dIsi_e, dIsi2_e, dRaise_e, dNeg_e, tgn_e, tgt_e, setAll, frz, wipeD, envOf, lawEnv, lawEnds,
  oEr_e, oEl_e, oEx_e, oLl_e, oLx_e, inD_t, inD_l, ninD_t, ninD_l, List.any_cons, List.any_nil, Bool.or_false, addD_ii, addD_ss, addD_tt, addD_ll, subD_ii, mulD_ii, mulD_li, mulD_ti, dMinDf_e, dRetF_e, dPar_e, dEnum_e, fdivD_ii, modD_ii, powD_ii, cmpD_ii, isD_n, notD_n, isN_none, isN_int, isN_str, isN_tuple, isN_list, isN_opt, Option.isNone_none, Option.isNone_some, eqD_e, neD_e, ixD_t, ixD_l, slD_t, slD_l, lenD_t, lenD_l, tupleD_rng, tupleD_t, tupleD_l, listD_t, listD_l, min2D_ii, max2D_ii, absD_i, intD_i, intD_b, seqD_t, seqD_l, seqD_row, at0, at1, at2, at3, len_row, ixD_c0, ixD_c1, ixD_c2, ixD_n0, ixD_n1, ixD_n2, ixD_f0, ixD_f1, eqv_ii, shaped_int,
  List.map_cons, List.map_nil, List.set_cons_zero, List.set_cons_succ, List.set_nil, List.getElem?_cons_zero, List.getElem?_cons_succ, List.getElem?_nil, List.replicate_succ, List.replicate_zero, List.cons_append, List.nil_append, List.length_cons, List.length_nil, Nat.reduceAdd, Nat.reduceSub, Nat.add_zero, Nat.zero_add, Nat.sub_self, Nat.sub_zero, if_true, if_false, Bool.false_eq_true, Bool.not_true, Bool.not_false, reduceIte, flat, flatAll, flat_optD, flat_cellD, Bool.and_true, Bool.true_and, Bool.and_self, true_and, and_true, and_self, decide_true, decide_false, List.drop_zero, Int.toNat_natCast, Nat.reduceLeDiff, reduceCtorEq])
abbrev CellT := Nat → Nat → Cell
def unS (r c : Nat) (f g : CellT) : Option (Nat × Nat) := unlikeF r c fun i j => decide (f i j ≠ g i j)
def unK (r c : Nat) (f g : Nat → Nat → Option Int) : Option (Nat × Nat) := unlikeF r c fun i j => decide (f i j ≠ g i j)
/-- the first wrong beat of the states behind a, at t and later -/
def judgedF (k : Kd) (r c : Nat) (L T : Nat → List (Option Int)) : Nat → CellT → List CellT → Option (Nat × Nat × Nat)
  | _, _, [] => none
  | t, a, s :: ss => match unS r c (stepF k a (fedF L t) (fedF T t)) s with
    | some p => some (t, p)
    | none => judgedF k r c L T (t + 1) s ss
def offF (k : Kd) (r c : Nat) (L T : Nat → List (Option Int)) : Nat → List CellT → Option (Nat × Nat × Nat)
  | _, [] => none
  | t, s :: ss => match unK r c (fun i j => sumF k (L i) (T j) i j (t + 1)) (keptF s) with
    | some p => some (t, p)
    | none => offF k r c L T (t + 1) ss
def pos3D : Option (Nat × Nat × Nat) → PyData
  | none => .none
  | some (t, i, j) => .tuple [.int (t : Nat), .int (i : Nat), .int (j : Nat)]
theorem enum_get {ds : List PyData} {i : Nat} {x : PyData} : ∀ {k : Nat}, (enumL k ds)[i]? = some x → ∃ d, ds[i]? = some d ∧ x = .tuple [.int ((k + i : Nat) : Int), d] := by
  induction ds generalizing i with
  | nil => intro k h; simp [enumL] at h
  | cons d ds ih =>
    intro k h
    cases i with
    | zero => simp [enumL] at h; exact ⟨d, rfl, by rw [← h]; simp⟩
    | succ i =>
      have h' : (enumL (k + 1) ds)[i]? = some x := by simpa [enumL] using h
      obtain ⟨e, h1, h2⟩ := ih h'
      exact ⟨e, by simpa using h1, by rw [h2, show k + 1 + i = k + (i + 1) by omega]⟩
theorem isN_pos {t : Nat} {o : Option (Nat × Nat)} : isN (posD t o) = o.isNone := by
  cases o <;> rfl
/-- the state ahead of the t-th -/
def aheadF (k : Kd) (ss : List CellT) : Nat → CellT
  | 0 => firstF k
  | t + 1 => ss.getD t (firstF k)
theorem judged_step {k : Kd} {r c t : Nat} {L T : Nat → List (Option Int)} {ss : List CellT} {s : CellT} (h : ss[t]? = some s) : judgedF k r c L T t (aheadF k ss t) (ss.drop t) = match unS r c (stepF k (aheadF k ss t) (fedF L t) (fedF T t)) s with | some p => some (t, p) | none => judgedF k r c L T (t + 1) (aheadF k ss (t + 1)) (ss.drop (t + 1)) := by
  obtain ⟨hlt, e⟩ := List.getElem?_eq_some_iff.mp h
  rw [List.drop_eq_getElem_cons hlt, e]
  have e2 : aheadF k ss (t + 1) = s := by simp [aheadF, List.getD, h]
  rw [e2]
  rfl
theorem off_step {k : Kd} {r c t : Nat} {L T : Nat → List (Option Int)} {ss : List CellT} {s : CellT} (h : ss[t]? = some s) : offF k r c L T t (ss.drop t) = match unK r c (fun i j => sumF k (L i) (T j) i j (t + 1)) (keptF s) with | some p => some (t, p) | none => offF k r c L T (t + 1) (ss.drop (t + 1)) := by
  obtain ⟨hlt, e⟩ := List.getElem?_eq_some_iff.mp h
  rw [List.drop_eq_getElem_cons hlt, e]
  rfl
theorem ahead_good {k : Kd} {r c t : Nat} {ss : List CellT} (hs : ∀ s ∈ ss, GoodSt k r c s) : GoodSt k r c (aheadF k ss t) := by
  cases t with
  | zero => exact first_good k r c
  | succ t =>
    show GoodSt k r c (ss.getD t (firstF k))
    unfold List.getD
    cases e : ss[t]? with
    | none => exact first_good k r c
    | some s => exact hs s (List.mem_of_getElem? e)
section
variable {k : Kd} {r c : Nat} {L T : Nat → List (Option Int)} {ss : List CellT} {P : O → Prop}
/-! ### the law's own -/
end
end DL

/-! M14d: first_wrong, wrong. -/
namespace DL
open PySem PySem.Spec L2
local macro_rules | `(tactic| walk_at "d") => `(tactic| simp (config := { failIfUnchanged := false }) only [dSeq_e, dSkip_e, dLcX_e, mulSD_e, dStrM_e, splitD_s, dAsgD_e, dPut_e, dPv_e, dPx_e, dLcD_e, dListRng_e, dListZip_e, dKind_e, dExt_e, dPopS_e, dIns_e, onlyD, dNewT_e, dPutT_e, dUpd_e, dForC_e, dPopV_e, dRem_e, dPopD_e, dSwap_e, dWorks_e, dRaiseR_e, dTold_e, dInsD_e, dInsP_e, dNewH_e, dDo_e, dNetF_e, dFeedF_e, dCellsF_e, dSelf_e, inDicD_k, ninDicD_k, dictPD_k, flat_keyD, dNever_e, dAsg_e, dAsgA_e, dAsgF_e, dAsgL_e, dAsgLA_e, dDrop_e, dRet_e, dRetN_e, dRetL_e, dIfS_e, dApp_e, dAppA_e, dFor_e, dForA_e, dForF_e, dVar_e, dC_e, dNil_e, dCons_e, dTup_e, dLst_e, dOp_e, dChain_e, asB_e, dAnd_e, dOr_e, dNot_e, dAndV_e, dOrV_e, dNotV_e, dIf_e, dSl_e, dPart_e, dNoPart_e, dCB_e, dCall_e, dCallL_e, dLc_e, dLcL_e, dListL_e, dItems_e, dRng1_e, dRng2_e, dRng3_e, dIsi_e, dIsi2_e, dRaise_e, dNeg_e, tgn_e, tgt_e, setAll, frz, wipeD, envOf, lawEnv, lawEnds,
  oEr_e, oEl_e, oEx_e, oLl_e, oLx_e, inD_t, inD_l, ninD_t, ninD_l, List.any_cons, List.any_nil, Bool.or_false, addD_ii, addD_ss, addD_tt, addD_ll, subD_ii, mulD_ii, mulD_li, mulD_ti, dMinDf_e, dRetF_e, dPar_e, dEnum_e, fdivD_ii, modD_ii, powD_ii, cmpD_ii, isD_n, notD_n, isN_none, isN_int, isN_str, isN_tuple, isN_list, isN_opt, Option.isNone_none, Option.isNone_some, eqD_e, neD_e, ixD_t, ixD_l, slD_t, slD_l, lenD_t, lenD_l, tupleD_rng, tupleD_t, tupleD_l, listD_t, listD_l, min2D_ii, max2D_ii, absD_i, intD_i, intD_b, seqD_t, seqD_l, seqD_row, at0, at1, at2, at3, len_row, ixD_c0, ixD_c1, ixD_c2, ixD_n0, ixD_n1, ixD_n2, ixD_f0, ixD_f1, eqv_ii, shaped_int,
  List.map_cons, List.map_nil, List.set_cons_zero, List.set_cons_succ, List.set_nil, List.getElem?_cons_zero, List.getElem?_cons_succ, List.getElem?_nil, List.replicate_succ, List.replicate_zero, List.cons_append, List.nil_append, List.length_cons, List.length_nil, Nat.reduceAdd, Nat.reduceSub, Nat.add_zero, Nat.zero_add, Nat.sub_self, Nat.sub_zero, if_true, if_false, Bool.false_eq_true, Bool.not_true, Bool.not_false, reduceIte, flat, flatAll, flat_optD, flat_cellD, Bool.and_true, Bool.true_and, Bool.and_self, true_and, and_true, and_self, decide_true, decide_false, List.drop_zero, Int.toNat_natCast, Nat.reduceLeDiff, reduceCtorEq])
theorem scan_step {every done : List Task} {w : Nat} {fresh : List Task} {s : StepT} {o : Option Task} (h : s[w]? = some o) : scanF every done w fresh (s.drop w) = match o with
    | none => scanF every done (w + 1) fresh (s.drop (w + 1))
    | some k => match wrongAt every done fresh k with
      | some x => .inl (x, w)
      | none => scanF every done (w + 1) (fresh ++ [k]) (s.drop (w + 1)) := by
  obtain ⟨hlt, e⟩ := List.getElem?_eq_some_iff.mp h
  rw [List.drop_eq_getElem_cons hlt, e]
  cases o <;> rfl
theorem go_step {every : List Task} {n : Nat} {done : List Task} {ss : List StepT} {s : StepT} (h : ss[n]? = some s) : goF every n done (ss.drop n) = match scanF every done 0 [] s with
    | .inl (x, w) => .inl (x, n, w)
    | .inr fresh => goF every (n + 1) (done ++ fresh) (ss.drop (n + 1)) := by
  obtain ⟨hlt, e⟩ := List.getElem?_eq_some_iff.mp h
  rw [List.drop_eq_getElem_cons hlt, e]
  rfl
theorem needs_len (k : Task) : (needsF k).length ≤ 3 := by
  unfold needsF
  split
  · split
    · split <;> split <;> simp
    · simp
  · simp
theorem first_wrong_ok {b r c : Nat} {ss : List StepT} {P : O → Prop} (hb : b ≤ 60) (h2 : r ≤ 6) (h4 : c ≤ 6) (q : P (.ret (wrongF (tasksF b r c) ss))) : S_first_wrong [.list ((tasksF b r c).map keyD), schD ss] P := by
  have hlen : (tasksF b r c).length ≤ 2160 := by
    rw [tasks_len]
    have h1 : r * c ≤ 6 * 6 := Nat.mul_le_mul h2 h4
    have h3 : b * (r * c) ≤ 60 * 36 := Nat.mul_le_mul hb h1
    omega
  refine ⟨rfl, ?_⟩
  unfold F_first_wrong schD
  walk_at "d"
  refine ⟨by rw [List.length_map]; omega, ?_⟩
  refine lcD_map (fun d => .tuple [d, .bool true]) (fun x hx Q hq => ?_) ?_
  · walk_at "d"
    exact hq
  have e0 : ((tasksF b r c).map keyD).map (fun d => PyData.tuple [d, .bool true]) = (dnD (tasksF b r c)).map kvD := by
    rw [kvD_dn, List.map_map]
    rfl
  rw [e0]
  have e1 : putsT [] (dnD (tasksF b r c)) = dnD (tasksF b r c) := by
    have := putsT_dn (l := []) (more := tasksF b r c) (fun _ _ z => nomatch z) tasks_nodup
    simpa [dnD] using this
  walk_at "d"
  rw [e1]
  refine forD_inv (fun n ρ => ∃ done e4 e5 e6 e7 e8, ρ = [.d (.list ((tasksF b r c).map keyD)), .d (.list (ss.map stepD)), .d (dicD (dnD (tasksF b r c))), .dic (dnD done), e4, e5, e6, e7, e8, .un, .un] ∧ endF (tasksF b r c) (goF (tasksF b r c) n done (ss.drop n)) = wrongF (tasksF b r c) ss ∧ done.Nodup ∧ ∀ k ∈ done, k ∈ tasksF b r c) ⟨[], _, _, _, _, _, rfl, rfl, List.nodup_nil, fun _ h => nomatch h⟩ ?_ ?_
  · rintro n x ρ Kt hx ⟨done, e4, e5, e6, e7, e8, rfl, hg, hnd, hev⟩ hk
    rw [Nat.zero_add] at hg hk
    obtain ⟨d, hd, rfl⟩ := enum_get hx
    rw [List.getElem?_map] at hd
    obtain ⟨s, hs, rfl⟩ := Option.map_eq_some_iff.mp hd
    rw [Nat.zero_add]
    refine ⟨rfl, ?_⟩
    unfold stepD
    walk_at "d"
    rw [go_step hs] at hg
    refine forD_inv (fun w ρ => ∃ fresh e7 e8, ρ = [.d (.list ((tasksF b r c).map keyD)), .d (.list (ss.map fun s => .tuple (s.map tkD))), .d (dicD (dnD (tasksF b r c))), .dic (dnD done), .d (.int (n : Nat)), .d (.tuple (s.map tkD)), .dic (dnD fresh), e7, e8, .un, .un] ∧ scanF (tasksF b r c) done w fresh (s.drop w) = scanF (tasksF b r c) done 0 [] s ∧
      (done ++ fresh).Nodup ∧ (∀ k ∈ fresh, k ∈ tasksF b r c) ∧ (done = [] → ∀ k ∈ fresh, k ∈ zeros)) ⟨[], _, _, rfl, rfl, by simpa using hnd, fun _ h => (nomatch h), fun _ _ h => (nomatch h)⟩ ?_ ?_
    · rintro w x ρ Kt2 hx ⟨fresh, e7, e8, rfl, hsc, hnf, hfe, hfz⟩ hk2
      rw [Nat.zero_add] at hsc hk2
      obtain ⟨d, hd, rfl⟩ := enum_get hx
      rw [List.getElem?_map] at hd
      obtain ⟨o, ho, rfl⟩ := Option.map_eq_some_iff.mp hd
      rw [Nat.zero_add]
      refine ⟨rfl, ?_⟩
      walk_at "d"
      rw [isN_tk]
      rw [scan_step ho] at hsc
      cases o with
      | none =>
        simp only [Option.isNone_none, Bool.not_true, Bool.false_eq_true, if_false]
        exact hk2 _ ⟨fresh, _, _, rfl, hsc, hnf, hfe, hfz⟩
      | some k =>
        have hk1 : tkD (some k) = keyD k := rfl
        rw [hk1]
        walk_at "d"
        rw [getT_dn]
        have fin : ∀ x, wrongAt (tasksF b r c) done fresh k = some x → P (.ret (.tuple [.str x, .int (n : Nat), .int (w : Nat)])) := fun x e => by
          simp only [e] at hsc
          rw [← hsc] at hg
          rw [← hg] at q
          exact q
        by_cases h1 : k ∈ tasksF b r c
        · simp only [h1, decide_true, Bool.not_true, Bool.false_eq_true, if_false]
          walk_at "d"
          rw [getT_dn]
          by_cases h3 : k ∈ done
          · simp only [h3, decide_true, if_true]
            exact fin _ (by unfold wrongAt; rw [if_neg (by simpa using h1), if_pos (.inl h3)])
          · simp only [h3, decide_false, Bool.false_eq_true, if_false]
            rw [getT_dn]
            by_cases h5 : k ∈ fresh
            · simp only [h5, decide_true, if_true]
              exact fin _ (by unfold wrongAt; rw [if_neg (by simpa using h1), if_pos (.inr h5)])
            · simp only [h5, decide_false, Bool.false_eq_true, if_false]
              obtain ⟨t, i, j, ht, hi, hj, ek⟩ := mem_tasks.mp h1
              walk_at "d"
              rw [ek]
              refine needed_ok ?_
              rw [← ek]
              walk_at "d"
              have hnl := needs_len k
              refine ⟨by rw [List.length_map]; omega, ?_⟩
              refine lcD_keys (fun x => !decide (x ∈ done)) (fun x hx Q R hq hr => ?_) ?_
              · walk_at "d"
                rw [getT_dn]
                cases hxd : decide (x ∈ done) with
                | true => simp only [Bool.not_true, Bool.false_eq_true, if_false]; exact hr (by simp [hxd])
                | false => simp only [Bool.not_false, if_true]; exact hq (by simp [hxd])
              refine ⟨shaped_keys _, shaped_nil, ?_⟩
              rw [eqv_nil, List.isEmpty_map]
              walk_at "d"
              by_cases h6 : (needsF k).all (fun x => decide (x ∈ done)) = true
              · have e6 : ((needsF k).filter fun x => !decide (x ∈ done)) = [] := by
                  rw [List.filter_eq_nil_iff]
                  intro x hx
                  have := List.all_eq_true.mp h6 x hx
                  simpa using this
                rw [e6]
                simp only [List.isEmpty_nil, Bool.not_true, Bool.false_eq_true, if_false]
                walk_at "d"
                have hwn : wrongAt (tasksF b r c) done fresh k = none := by
                  unfold wrongAt
                  rw [if_neg (by simpa using h1), if_neg (fun z => z.elim h3 h5), if_neg (by rw [h6]; decide)]
                simp only [hwn] at hsc
                have hfl : fresh.length ≤ 2160 := Nat.le_trans (List.Nodup.length_le_of_subset (List.nodup_append.mp hnf).2.1 hfe) hlen
                refine ⟨k, rfl, by unfold dnD; rw [List.length_map]; omega, ?_⟩
                rw [putT_dn h5]
                refine hk2 _ ⟨fresh ++ [k], _, _, rfl, hsc, ?_, fun x hx => ?_, fun hd x hx => ?_⟩
                · rw [← List.append_assoc, List.nodup_append]
                  refine ⟨hnf, by simp, fun x hxx y hy e => ?_⟩
                  rw [List.mem_singleton] at hy
                  rw [e, hy] at hxx
                  rcases List.mem_append.mp hxx with z | z
                  · exact h3 z
                  · exact h5 z
                · rcases List.mem_append.mp hx with z | z
                  · exact hfe x z
                  · rw [List.mem_singleton] at z; rw [z]; exact h1
                · rcases List.mem_append.mp hx with z | z
                  · exact hfz hd x z
                  · rw [List.mem_singleton] at z
                    rw [z]
                    rw [hd] at h6
                    exact first_zero h2 h4 h1 h6
              · have e6 : ((needsF k).filter fun x => !decide (x ∈ done)).isEmpty = false := by
                  rw [Bool.eq_false_iff]
                  intro z
                  rw [List.isEmpty_iff, List.filter_eq_nil_iff] at z
                  exact h6 (List.all_eq_true.mpr fun x hx => by simpa using z x hx)
                rw [e6]
                simp only [Bool.not_false, if_true]
                exact fin _ (by unfold wrongAt; rw [if_neg (by simpa using h1), if_neg (fun z => z.elim h3 h5), if_pos (by simpa using h6)])
        · simp only [h1, decide_false, Bool.not_false, if_true]
          exact fin _ (by unfold wrongAt; rw [if_pos h1])
    · rintro ρ ⟨fresh, e7, e8, rfl, hsc, hnf, hfe, hfz⟩
      rw [Nat.zero_add, enumL_len, List.length_map, List.drop_length] at hsc
      walk_at "d"
      have hn := List.nodup_append.mp hnf
      have hfl : fresh.length ≤ 2160 := Nat.le_trans (List.Nodup.length_le_of_subset hn.2.1 hfe) hlen
      have hdl : done.length ≤ 2160 := Nat.le_trans (List.Nodup.length_le_of_subset hnd hev) hlen
      refine ⟨by decide, by unfold dnD; rw [List.length_map, List.length_map]; omega, ?_, ?_⟩
      · by_cases hd : done = []
        · exact .inr (hashNd_dn hn.2.1 (hfz hd))
        · exact .inl (by unfold dnD; simpa using hd)
      · rw [putsT_dn (fun x hx z => hn.2.2 x z x hx rfl) hn.2.1]
        rw [← hsc] at hg
        exact hk _ ⟨done ++ fresh, _, _, _, _, _, rfl, hg, hnf, fun x hx => (List.mem_append.mp hx).elim (hev x) (hfe x)⟩
  · rintro ρ ⟨done, e4, e5, e6, e7, e8, rfl, hg, hnd, hev⟩
    rw [Nat.zero_add, enumL_len, List.length_map, List.drop_length] at hg
    walk_at "d"
    refine ⟨by rw [List.length_map]; omega, ?_⟩
    refine lcD_keys (fun x => decide (x ∉ done)) (fun x hx Q R hq hr => ?_) ?_
    · walk_at "d"
      rw [getT_dn]
      by_cases hxd : x ∈ done
      · simp only [hxd, decide_true, Bool.not_true, Bool.false_eq_true, if_false]; exact hr (by simp [hxd])
      · simp only [hxd, decide_false, Bool.not_false, if_true]; exact hq (by simp [hxd])
    walk_at "d"
    refine ⟨shaped_keys _, shaped_nil, ?_⟩
    rw [eqv_nil, List.isEmpty_map]
    walk_at "d"
    rw [← hg] at q
    have eg : goF (tasksF b r c) ss.length done [] = .inr done := rfl
    rw [eg] at q
    unfold endF at q
    cases hf : (tasksF b r c).filter (fun x => decide (x ∉ done)) with
    | nil =>
      simp only [hf] at q
      simp only [List.isEmpty_nil, Bool.not_true, Bool.false_eq_true, if_false]
      exact q
    | cons k l =>
      simp only [hf] at q
      simp only [List.isEmpty_cons, Bool.not_false, if_true]
      walk_at "d"
      exact q
theorem wrong_ok {k : Kd} {b r c : Nat} {ss : List StepT} {P : O → Prop} (hb : b ≤ 60) (h1 : 1 ≤ r) (h2 : r ≤ 6) (h3 : 1 ≤ c) (h4 : c ≤ 6) (q : P (.ret (wrongF (tasksF b r c) ss))) : S_wrong [netD k r c, .int (b : Nat), schD ss] P := by
  refine ⟨rfl, ?_⟩
  unfold F_wrong
  walk_at "d"
  refine need_net_ok h1 h2 h3 h4 ?_
  walk_at "d"
  refine need_beats_ok hb ?_
  walk_at "d"
  refine tasks_of_ok hb h2 h4 ?_
  walk_at "d"
  exact first_wrong_ok hb h2 h4 q
end DL

/-! M14e: the law's tasks, needs, ready ones. -/
namespace DL
open PySem PySem.Spec L2
local macro_rules | `(tactic| walk_at "d") => `(tactic| simp (config := { failIfUnchanged := false }) only [dSeq_e, dSkip_e, dLcX_e, mulSD_e, dStrM_e, splitD_s, dAsgD_e, dPut_e, dPv_e, dPx_e, dLcD_e, dListRng_e, dListZip_e, dKind_e, dExt_e, dPopS_e, dIns_e, onlyD, dNewT_e, dPutT_e, dUpd_e, dForC_e, dPopV_e, dRem_e, dPopD_e, dSwap_e, dWorks_e, dRaiseR_e, dTold_e, dInsD_e, dInsP_e, dNewH_e, dDo_e, dNetF_e, dFeedF_e, dCellsF_e, dSelf_e, inDicD_k, ninDicD_k, dictPD_k, flat_keyD, dNever_e, dAsg_e, dAsgA_e, dAsgF_e, dAsgL_e, dAsgLA_e, dDrop_e, dRet_e, dRetN_e, dRetL_e, dIfS_e, dApp_e, dAppA_e, dFor_e, dForA_e, dForF_e, dVar_e, dC_e, dNil_e, dCons_e, dTup_e, dLst_e, dOp_e, dChain_e, asB_e, dAnd_e, dOr_e, dNot_e, dAndV_e, dOrV_e, dNotV_e, dIf_e, dSl_e, dPart_e, dNoPart_e, dCB_e, dCall_e, dCallL_e, dLc_e, dLcL_e, dListL_e, dItems_e, dRng1_e, dRng2_e, dRng3_e, dIsi_e, dIsi2_e, dRaise_e, dNeg_e, tgn_e, tgt_e, setAll, frz, wipeD, envOf, lawEnv, lawEnds,
  oEr_e, oEl_e, oEx_e, oLl_e, oLx_e, inD_t, inD_l, ninD_t, ninD_l, List.any_cons, List.any_nil, Bool.or_false, addD_ii, addD_ss, addD_tt, addD_ll, subD_ii, mulD_ii, mulD_li, mulD_ti, dMinDf_e, dRetF_e, dPar_e, dEnum_e, fdivD_ii, modD_ii, powD_ii, cmpD_ii, isD_n, notD_n, isN_none, isN_int, isN_str, isN_tuple, isN_list, isN_opt, Option.isNone_none, Option.isNone_some, eqD_e, neD_e, ixD_t, ixD_l, slD_t, slD_l, lenD_t, lenD_l, tupleD_rng, tupleD_t, tupleD_l, listD_t, listD_l, min2D_ii, max2D_ii, absD_i, intD_i, intD_b, seqD_t, seqD_l, seqD_row, at0, at1, at2, at3, len_row, ixD_c0, ixD_c1, ixD_c2, ixD_n0, ixD_n1, ixD_n2, ixD_f0, ixD_f1, eqv_ii, shaped_int,
  List.map_cons, List.map_nil, List.set_cons_zero, List.set_cons_succ, List.set_nil, List.getElem?_cons_zero, List.getElem?_cons_succ, List.getElem?_nil, List.replicate_succ, List.replicate_zero, List.cons_append, List.nil_append, List.length_cons, List.length_nil, Nat.reduceAdd, Nat.reduceSub, Nat.add_zero, Nat.zero_add, Nat.sub_self, Nat.sub_zero, if_true, if_false, Bool.false_eq_true, Bool.not_true, Bool.not_false, reduceIte, flat, flatAll, flat_optD, flat_cellD, Bool.and_true, Bool.true_and, Bool.and_self, true_and, and_true, and_self, decide_true, decide_false, List.drop_zero, Int.toNat_natCast, Nat.reduceLeDiff, reduceCtorEq])
def rdy (done : List Task) (k : Task) : Bool := (needsF k).all fun x => decide (x ∈ done)
theorem rdy_filter {done : List Task} {k : Task} : ((needsF k).filter fun x => !decide (x ∈ done)).isEmpty = rdy done k := by
  unfold rdy
  by_cases h6 : (needsF k).all (fun x => decide (x ∈ done)) = true
  · rw [h6, List.isEmpty_iff, List.filter_eq_nil_iff]
    intro x hx
    have := List.all_eq_true.mp h6 x hx
    simpa using this
  · rw [Bool.not_eq_true] at h6
    rw [h6, Bool.eq_false_iff]
    intro z
    rw [List.isEmpty_iff, List.filter_eq_nil_iff] at z
    have : (needsF k).all (fun x => decide (x ∈ done)) = true := List.all_eq_true.mpr fun x hx => by simpa using z x hx
    rw [this] at h6
    cases h6
end DL

/-! M14f: a schedule in a drawn good order. -/
namespace DL
open PySem PySem.Spec L2
local macro_rules | `(tactic| walk_at "d") => `(tactic| simp (config := { failIfUnchanged := false }) only [dSeq_e, dSkip_e, dLcX_e, mulSD_e, dStrM_e, splitD_s, dAsgD_e, dPut_e, dPv_e, dPx_e, dLcD_e, dListRng_e, dListZip_e, dKind_e, dExt_e, dPopS_e, dIns_e, onlyD, dNewT_e, dPutT_e, dUpd_e, dForC_e, dPopV_e, dRem_e, dPopD_e, dSwap_e, dWorks_e, dRaiseR_e, dTold_e, dInsD_e, dInsP_e, dNewH_e, dDo_e, dNetF_e, dFeedF_e, dCellsF_e, dSelf_e, inDicD_k, ninDicD_k, dictPD_k, flat_keyD, dNever_e, dAsg_e, dAsgA_e, dAsgF_e, dAsgL_e, dAsgLA_e, dDrop_e, dRet_e, dRetN_e, dRetL_e, dIfS_e, dApp_e, dAppA_e, dFor_e, dForA_e, dForF_e, dVar_e, dC_e, dNil_e, dCons_e, dTup_e, dLst_e, dOp_e, dChain_e, asB_e, dAnd_e, dOr_e, dNot_e, dAndV_e, dOrV_e, dNotV_e, dIf_e, dSl_e, dPart_e, dNoPart_e, dCB_e, dCall_e, dCallL_e, dLc_e, dLcL_e, dListL_e, dItems_e, dRng1_e, dRng2_e, dRng3_e, dIsi_e, dIsi2_e, dRaise_e, dNeg_e, tgn_e, tgt_e, setAll, frz, wipeD, envOf, lawEnv, lawEnds,
  oEr_e, oEl_e, oEx_e, oLl_e, oLx_e, inD_t, inD_l, ninD_t, ninD_l, List.any_cons, List.any_nil, Bool.or_false, addD_ii, addD_ss, addD_tt, addD_ll, subD_ii, mulD_ii, mulD_li, mulD_ti, dMinDf_e, dRetF_e, dPar_e, dEnum_e, fdivD_ii, modD_ii, powD_ii, cmpD_ii, isD_n, notD_n, isN_none, isN_int, isN_str, isN_tuple, isN_list, isN_opt, Option.isNone_none, Option.isNone_some, eqD_e, neD_e, ixD_t, ixD_l, slD_t, slD_l, lenD_t, lenD_l, tupleD_rng, tupleD_t, tupleD_l, listD_t, listD_l, min2D_ii, max2D_ii, absD_i, intD_i, intD_b, seqD_t, seqD_l, seqD_row, at0, at1, at2, at3, len_row, ixD_c0, ixD_c1, ixD_c2, ixD_n0, ixD_n1, ixD_n2, ixD_f0, ixD_f1, eqv_ii, shaped_int,
  List.map_cons, List.map_nil, List.set_cons_zero, List.set_cons_succ, List.set_nil, List.getElem?_cons_zero, List.getElem?_cons_succ, List.getElem?_nil, List.replicate_succ, List.replicate_zero, List.cons_append, List.nil_append, List.length_cons, List.length_nil, Nat.reduceAdd, Nat.reduceSub, Nat.add_zero, Nat.zero_add, Nat.sub_self, Nat.sub_zero, if_true, if_false, Bool.false_eq_true, Bool.not_true, Bool.not_false, reduceIte, flat, flatAll, flat_optD, flat_cellD, Bool.and_true, Bool.true_and, Bool.and_self, true_and, and_true, and_self, decide_true, decide_false, List.drop_zero, Int.toNat_natCast, Nat.reduceLeDiff, reduceCtorEq])
theorem scan_good {every done : List Task} {s : StepT} : ∀ {w : Nat} {fresh : List Task}, (∀ k ∈ s.filterMap id, k ∈ every ∧ k ∉ done ∧ rdy done k = true) → (fresh ++ s.filterMap id).Nodup → scanF every done w fresh s = .inr (fresh ++ s.filterMap id) := by
  induction s with
  | nil => intro w fresh _ _; simp [scanF]
  | cons o r ih =>
    intro w fresh h hn
    cases o with
    | none =>
      have e : (none :: r : StepT).filterMap id = r.filterMap id := rfl
      rw [e] at h hn ⊢
      exact ih h hn
    | some k =>
      have e : (some k :: r : StepT).filterMap id = k :: r.filterMap id := rfl
      rw [e] at h hn ⊢
      obtain ⟨h1, h2, h3⟩ := h k List.mem_cons_self
      have h5 : k ∉ fresh := fun z => (List.nodup_append.mp hn).2.2 k z k List.mem_cons_self rfl
      have hw : wrongAt every done fresh k = none := by
        unfold wrongAt
        rw [if_neg (by simpa using h1), if_neg (fun z => z.elim h2 h5), if_neg (by unfold rdy at h3; rw [h3]; decide)]
      have e2 : fresh ++ k :: r.filterMap id = (fresh ++ [k]) ++ r.filterMap id := by simp
      unfold scanF
      simp only [hw]
      rw [e2] at hn ⊢
      exact ih (fun x hx => h x (List.mem_cons_of_mem _ hx)) hn
theorem go_snoc {every : List Task} {s : StepT} {ss : List StepT} : ∀ {n : Nat} {done d : List Task}, goF every n done ss = .inr d → goF every n done (ss ++ [s]) = match scanF every d 0 [] s with
    | .inl (x, w) => .inl (x, n + ss.length, w)
    | .inr fresh => .inr (d ++ fresh) := by
  induction ss with
  | nil =>
    intro n done d h
    cases h
    rw [List.nil_append]
    unfold goF
    cases scanF every done 0 [] s with
    | inl p => rfl
    | inr f => rfl
  | cons s0 ss ih =>
    intro n done d h
    rw [List.cons_append]
    unfold goF at h ⊢
    cases e : scanF every done 0 [] s0 with
    | inl p => rw [e] at h; cases h
    | inr fresh =>
      simp only [e] at h ⊢
      rw [ih h]
      cases scanF every d 0 [] s with
      | inl p =>
        rw [List.length_cons]
        have : n + 1 + ss.length = n + (ss.length + 1) := by omega
        rw [this]
      | inr f => rfl
/-- what is left -/
def leftF (every done : List Task) : List Task := every.filter fun k => decide (k ∉ done)
theorem left_erase {every done : List Task} {k : Task} (hn : every.Nodup) : (leftF every done).erase k = leftF every (done ++ [k]) := by
  unfold leftF
  rw [List.Nodup.erase_eq_filter (hn.filter _), List.filter_filter]
  apply List.filter_congr
  intro x hx
  by_cases h1 : x = k
  · subst h1; simp
  · by_cases h2 : x ∈ done <;> simp [h1, h2]
theorem mem_left {every done : List Task} {k : Task} : k ∈ leftF every done ↔ k ∈ every ∧ k ∉ done := by
  unfold leftF
  simp
/-- the first one left is ready -/
theorem head_ready {b r c : Nat} {done l : List Task} {k : Task} (h : leftF (tasksF b r c) done = k :: l) : rdy done k = true := by
  have hk : k ∈ tasksF b r c ∧ k ∉ done := mem_left.mp (by rw [h]; exact List.mem_cons_self)
  obtain ⟨t, i, j, ht, hi, hj, ek⟩ := mem_tasks.mp hk.1
  unfold rdy
  refine List.all_eq_true.mpr fun x hx => decide_eq_true ?_
  refine Classical.byContradiction fun hxd => ?_
  -- x stands ahead of k among the tasks, and is left
  have hx2 : ∃ t' i' j' : Nat, t' < t ∧ i' < r ∧ j' < c ∧ x = [(t' : Int), (i' : Int), (j' : Int)] := by
    have en : needsF [(t : Int), (i : Int), (j : Int)] = if 0 < (t : Int) then [(t : Int) - 1, (i : Int), (j : Int)] :: ((if 0 < (j : Int) then [[(t : Int) - 1, (i : Int), (j : Int) - 1]] else []) ++ if 0 < (i : Int) then [[(t : Int) - 1, (i : Int) - 1, (j : Int)]] else []) else [] := rfl
    rw [ek, en] at hx
    split at hx
    · rename_i h0
      have e0 : ((t - 1 : Nat) : Int) = (t : Int) - 1 := by omega
      rcases List.mem_cons.mp hx with e | hx
      · exact ⟨t - 1, i, j, by omega, hi, hj, by rw [e, e0]⟩
      · rcases List.mem_append.mp hx with hx | hx
        · split at hx
          · rw [List.mem_singleton] at hx
            exact ⟨t - 1, i, j - 1, by omega, hi, by omega, by rw [hx, e0, show ((j - 1 : Nat) : Int) = (j : Int) - 1 by omega]⟩
          · cases hx
        · split at hx
          · rw [List.mem_singleton] at hx
            exact ⟨t - 1, i - 1, j, by omega, by omega, hj, by rw [hx, e0, show ((i - 1 : Nat) : Int) = (i : Int) - 1 by omega]⟩
          · cases hx
    · cases hx
  obtain ⟨t', i', j', h1, h2, h3, ex⟩ := hx2
  have hxe : x ∈ tasksF t r c := mem_tasks.mpr ⟨t', i', j', h1, h2, h3, ex⟩
  have hsplit : ∀ n, ∃ rest, tasksF (t + n) r c = tasksF t r c ++ rest := fun n => by
    induction n with
    | zero => exact ⟨[], by simp⟩
    | succ n ih =>
      obtain ⟨rest, e⟩ := ih
      exact ⟨rest ++ _, by rw [← Nat.add_assoc, tasks_succ, e, List.append_assoc]⟩
  obtain ⟨rest, er⟩ := hsplit (b - t)
  rw [show t + (b - t) = b by omega] at er
  have hk' : k ∉ tasksF t r c := fun z => by
    obtain ⟨t2, i2, j2, g1, g2, g3, e2⟩ := mem_tasks.mp z
    rw [ek] at e2
    simp only [List.cons.injEq, and_true] at e2
    omega
  unfold leftF at h
  rw [er, List.filter_append] at h
  cases hf : (tasksF t r c).filter (fun k => decide (k ∉ done)) with
  | nil =>
    have : x ∈ (tasksF t r c).filter fun k => decide (k ∉ done) := List.mem_filter.mpr ⟨hxe, decide_eq_true hxd⟩
    rw [hf] at this
    cases this
  | cons a l' =>
    rw [hf] at h
    have : a = k := (List.cons.inj h).1
    have ha : a ∈ (tasksF t r c).filter fun k => decide (k ∉ done) := by rw [hf]; exact List.mem_cons_self
    rw [this] at ha
    exact hk' (List.mem_filter.mp ha).1
theorem place_erase {k : Task} : ∀ {l : List Task}, k ∈ l → ∃ j, SeqAt.dataPlace (l.map keyD) (keyD k) = some j ∧ (l.map keyD).eraseIdx j = (l.erase k).map keyD
  | [], h => nomatch h
  | a :: l, h => by
    unfold SeqAt.dataPlace
    rw [List.map_cons, List.findIdx?_cons, eqv_keyD]
    by_cases e : a = k
    · subst e
      exact ⟨0, by simp, by simp⟩
    · rcases List.mem_cons.mp h with h | h
      · exact absurd h.symm e
      · obtain ⟨j, h1, h2⟩ := place_erase h
        unfold SeqAt.dataPlace at h1
        refine ⟨j + 1, by simp [e, h1], ?_⟩
        rw [List.eraseIdx_cons_succ, h2, List.erase_cons, if_neg (by simpa using e)]
        rfl
end DL

/-! M14g: the drawn schedule. -/
namespace DL
open PySem PySem.Spec L2
local macro_rules | `(tactic| walk_at "d") => `(tactic| simp (config := { failIfUnchanged := false }) only [dSeq_e, dSkip_e, dLcX_e, mulSD_e, dStrM_e, splitD_s, dAsgD_e, dPut_e, dPv_e, dPx_e, dLcD_e, dListRng_e, dListZip_e, dKind_e, dExt_e, dPopS_e, dIns_e, onlyD, dNewT_e, dPutT_e, dUpd_e, dForC_e, dPopV_e, dRem_e, dPopD_e, dSwap_e, dWorks_e, dRaiseR_e, dTold_e, dInsD_e, dInsP_e, dNewH_e, dDo_e, dNetF_e, dFeedF_e, dCellsF_e, dSelf_e, inDicD_k, ninDicD_k, dictPD_k, flat_keyD, dNever_e, dAsg_e, dAsgA_e, dAsgF_e, dAsgL_e, dAsgLA_e, dDrop_e, dRet_e, dRetN_e, dRetL_e, dIfS_e, dApp_e, dAppA_e, dFor_e, dForA_e, dForF_e, dVar_e, dC_e, dNil_e, dCons_e, dTup_e, dLst_e, dOp_e, dChain_e, asB_e, dAnd_e, dOr_e, dNot_e, dAndV_e, dOrV_e, dNotV_e, dIf_e, dSl_e, dPart_e, dNoPart_e, dCB_e, dCall_e, dCallL_e, dLc_e, dLcL_e, dListL_e, dItems_e, dRng1_e, dRng2_e, dRng3_e, dIsi_e, dIsi2_e, dRaise_e, dNeg_e, tgn_e, tgt_e, setAll, frz, wipeD, envOf, lawEnv, lawEnds,
  oEr_e, oEl_e, oEx_e, oLl_e, oLx_e, inD_t, inD_l, ninD_t, ninD_l, List.any_cons, List.any_nil, Bool.or_false, addD_ii, addD_ss, addD_tt, addD_ll, subD_ii, mulD_ii, mulD_li, mulD_ti, dMinDf_e, dRetF_e, dPar_e, dEnum_e, fdivD_ii, modD_ii, powD_ii, cmpD_ii, isD_n, notD_n, isN_none, isN_int, isN_str, isN_tuple, isN_list, isN_opt, Option.isNone_none, Option.isNone_some, eqD_e, neD_e, ixD_t, ixD_l, slD_t, slD_l, lenD_t, lenD_l, tupleD_rng, tupleD_t, tupleD_l, listD_t, listD_l, min2D_ii, max2D_ii, absD_i, intD_i, intD_b, seqD_t, seqD_l, seqD_row, at0, at1, at2, at3, len_row, ixD_c0, ixD_c1, ixD_c2, ixD_n0, ixD_n1, ixD_n2, ixD_f0, ixD_f1, eqv_ii, shaped_int,
  List.map_cons, List.map_nil, List.set_cons_zero, List.set_cons_succ, List.set_nil, List.getElem?_cons_zero, List.getElem?_cons_succ, List.getElem?_nil, List.replicate_succ, List.replicate_zero, List.cons_append, List.nil_append, List.length_cons, List.length_nil, Nat.reduceAdd, Nat.reduceSub, Nat.add_zero, Nat.zero_add, Nat.sub_self, Nat.sub_zero, if_true, if_false, Bool.false_eq_true, Bool.not_true, Bool.not_false, reduceIte, flat, flatAll, flat_optD, flat_cellD, Bool.and_true, Bool.true_and, Bool.and_self, true_and, and_true, and_self, decide_true, decide_false, List.drop_zero, Int.toNat_natCast, Nat.reduceLeDiff, reduceCtorEq])
theorem lcD_tks {g : PyData → (List EV → Prop) → Prop} {t : List EV → (Bool → Prop) → Prop} {f : List EV → (PyData → Prop) → Prop} : ∀ {st : StepT} {P : List PyData → Prop},
    (∀ o ∈ st, ∀ (Q : PyData → Prop) (R : Prop), (∀ k, o = some k → Q (keyD k)) → (o = none → R) → g (tkD o) fun ρ => t ρ fun b => if b = true then f ρ Q else R) → P ((st.filterMap id).map keyD) → lcD g t f (st.map tkD) P
  | [], P, _, q => q
  | none :: xs, P, hs, q => hs none List.mem_cons_self (fun y => lcD g t f (xs.map tkD) fun ys => P (y :: ys)) _ (fun k e => nomatch e) fun _ => lcD_tks (P := P) (fun y hy => hs y (List.mem_cons_of_mem _ hy)) (by simpa using q)
  | some k :: xs, P, hs, q => hs (some k) List.mem_cons_self (fun y => lcD g t f (xs.map tkD) fun ys => P (y :: ys)) _ (fun k' e => by cases e; exact lcD_tks (P := fun ys => P (keyD k :: ys)) (fun y hy => hs y (List.mem_cons_of_mem _ hy)) (by simpa using q)) fun e => nomatch e
theorem flat_tk (o : Option Task) : flat (tkD o) = true := by
  cases o with
  | none => rfl
  | some k => exact flat_keyD k
theorem flat_step (s : StepT) : flat (.tuple (s.map tkD)) = true := by
  show flatAll _ = true
  refine flatAll_of fun d hd => ?_
  obtain ⟨o, _, rfl⟩ := List.mem_map.mp hd
  exact flat_tk o
theorem flatAll_keys (l : List Task) : flatAll (l.map keyD) = true := by
  refine flatAll_of fun d hd => ?_
  obtain ⟨o, _, rfl⟩ := List.mem_map.mp hd
  exact flat_keyD o
theorem left_lt {every done fs : List Task} {k : Task} (hk : k ∈ fs) (hl : k ∈ leftF every done) : (leftF every (done ++ fs)).length < (leftF every done).length := by
  have e : leftF every (done ++ fs) = (leftF every done).filter fun x => decide (x ∉ fs) := by
    unfold leftF
    rw [List.filter_filter]
    apply List.filter_congr
    intro x _
    by_cases h1 : x ∈ done <;> by_cases h2 : x ∈ fs <;> simp [h1, h2]
  rw [e]
  exact List.length_filter_lt_length_iff_exists.mpr ⟨k, hl, by simpa using hk⟩
theorem cons_erase_perm {α : Type} : ∀ {l : List α} {n : Nat} (h : n < l.length), (l[n] :: l.eraseIdx n).Perm l
  | [], _, h => absurd h (Nat.not_lt_zero _)
  | a :: l, 0, _ => List.Perm.refl _
  | a :: l, n + 1, h => by
    have ih := cons_erase_perm (l := l) (n := n) (by simpa using h)
    exact (List.Perm.swap a (l[n]'(by simpa using h)) _).trans (ih.cons a)
structure GoodSch (b r c w : Nat) (ss : List StepT) : Prop where
  go : ∃ done, goF (tasksF b r c) 0 [] ss = .inr done ∧ ∀ k ∈ tasksF b r c, k ∈ done
  wid : ∀ s ∈ ss, s.length = w
  len : ss.length ≤ (tasksF b r c).length
section
variable {k : Kd} {b r c w : Nat} {P : O → Prop}
abbrev schE (k : Kd) (b r c w : Nat) (done : List Task) (ss : List StepT) (r' : List EV) : List EV := .d (.dict []) :: .d (netD k r c) :: .d (.int (b : Nat)) :: .d (.int (w : Nat)) :: .own ((leftF (tasksF b r c) done).map keyD) :: .dic (dnD done) :: .own (ss.map stepD) :: r'
end
end DL

/-! M16: halls: what is kept by a schedule. -/
namespace DL
open PySem PySem.Spec L2
local macro_rules | `(tactic| walk_at "d") => `(tactic| simp (config := { failIfUnchanged := false }) only [dSeq_e, dSkip_e, dLcX_e, mulSD_e, dStrM_e, splitD_s, dAsgD_e, dPut_e, dPv_e, dPx_e, dLcD_e, dListRng_e, dListZip_e, dKind_e, dExt_e, dPopS_e, dIns_e, onlyD, dNewT_e, dPutT_e, dUpd_e, dForC_e, dPopV_e, dRem_e, dPopD_e, dSwap_e, dWorks_e, dRaiseR_e, dTold_e, dInsD_e, dInsP_e, dNewH_e, dDo_e, dNetF_e, dFeedF_e, dCellsF_e, dSelf_e, inDicD_k, ninDicD_k, dictPD_k, flat_keyD, dNever_e, dAsg_e, dAsgA_e, dAsgF_e, dAsgL_e, dAsgLA_e, dDrop_e, dRet_e, dRetN_e, dRetL_e, dIfS_e, dApp_e, dAppA_e, dFor_e, dForA_e, dForF_e, dVar_e, dC_e, dNil_e, dCons_e, dTup_e, dLst_e, dOp_e, dChain_e, asB_e, dAnd_e, dOr_e, dNot_e, dAndV_e, dOrV_e, dNotV_e, dIf_e, dSl_e, dPart_e, dNoPart_e, dCB_e, dCall_e, dCallL_e, dLc_e, dLcL_e, dListL_e, dItems_e, dRng1_e, dRng2_e, dRng3_e, dIsi_e, dIsi2_e, dRaise_e, dNeg_e, tgn_e, tgt_e, setAll, frz, wipeD, envOf, lawEnv, lawEnds,
  oEr_e, oEl_e, oEx_e, oLl_e, oLx_e, inD_t, inD_l, ninD_t, ninD_l, List.any_cons, List.any_nil, Bool.or_false, addD_ii, addD_ss, addD_tt, addD_ll, subD_ii, mulD_ii, mulD_li, mulD_ti, dMinDf_e, dRetF_e, dPar_e, dEnum_e, fdivD_ii, modD_ii, powD_ii, cmpD_ii, isD_n, notD_n, isN_none, isN_int, isN_str, isN_tuple, isN_list, isN_opt, Option.isNone_none, Option.isNone_some, eqD_e, neD_e, ixD_t, ixD_l, slD_t, slD_l, lenD_t, lenD_l, tupleD_rng, tupleD_t, tupleD_l, listD_t, listD_l, min2D_ii, max2D_ii, absD_i, intD_i, intD_b, seqD_t, seqD_l, seqD_row, at0, at1, at2, at3, len_row, ixD_c0, ixD_c1, ixD_c2, ixD_n0, ixD_n1, ixD_n2, ixD_f0, ixD_f1, eqv_ii, shaped_int,
  List.map_cons, List.map_nil, List.set_cons_zero, List.set_cons_succ, List.set_nil, List.getElem?_cons_zero, List.getElem?_cons_succ, List.getElem?_nil, List.replicate_succ, List.replicate_zero, List.cons_append, List.nil_append, List.length_cons, List.length_nil, Nat.reduceAdd, Nat.reduceSub, Nat.add_zero, Nat.zero_add, Nat.sub_self, Nat.sub_zero, if_true, if_false, Bool.false_eq_true, Bool.not_true, Bool.not_false, reduceIte, flat, flatAll, flat_optD, flat_cellD, Bool.and_true, Bool.true_and, Bool.and_self, true_and, and_true, and_self, decide_true, decide_false, List.drop_zero, Int.toNat_natCast, Nat.reduceLeDiff, reduceCtorEq])
section
variable {k : Kd} {r c : Nat} {L T : Nat → List (Option Int)} {P : O → Prop}
def cellT (k : Kd) (L T : Nat → List (Option Int)) : Task → PyData
  | [t, i, j] => cellD (stateF k L T (t.toNat + 1) i.toNat j.toNat)
  | _ => .none
def celD (k : Kd) (L T : Nat → List (Option Int)) (l : List Task) : List (List Int × PyData) := l.map fun x => (x, cellT k L T x)
theorem getT_cel {l : List Task} {x : Task} (h : x ∈ l) : getT (celD k L T l) x = some (cellT k L T x) := by
  unfold getT celD
  induction l with
  | nil => cases h
  | cons a l ih =>
    rw [List.map_cons, List.find?_cons]
    by_cases e : a = x
    · subst e; simp
    · simp only [e, decide_false]
      exact ih ((List.mem_cons.mp h).resolve_left fun z => e z.symm)
theorem putT_cel {l : List Task} {x : Task} (h : x ∉ l) : putT (celD k L T l) x (cellT k L T x) = celD k L T (l ++ [x]) := by
  unfold putT celD
  rw [if_neg]
  · simp
  · simp only [List.any_map, List.any_eq_true, Function.comp, decide_eq_true_eq, not_exists, not_and]
    rintro y hy rfl
    exact h hy
def partC (x : Cell) : Nat → Option Int
  | 0 => x.kept
  | 1 => x.right
  | _ => x.down
theorem ix_part {x : Cell} {p : Nat} (hp : p < 3) {Q : PyData → Prop} : ixD (cellD x) (.int (p : Nat)) Q = Q (optD (partC x p)) := by
  have : p = 0 ∨ p = 1 ∨ p = 2 := by omega
  rcases this with rfl | rfl | rfl <;> rfl
theorem part_ok {t i j p : Nat} {done : List Task} {feed : PyData} (hp : p < 3) (hd : t = 0 ∨ [(t : Int) - 1, (i : Int), (j : Int)] ∈ done) (q : P (.ret (optD (partC (stateF k L T t i j) p)))) : S_Hall_part [hallD (netD k r c) feed (celD k L T done), .tuple [.int ((t : Int) - 1), .int (i : Nat), .int (j : Nat)], .int (p : Nat)] P := by
  refine ⟨rfl, ?_⟩
  unfold F_Hall_part
  have e := kd_eq k
  walk_at "d"
  by_cases h0 : t = 0
  · subst h0
    simp only [Int.natCast_zero, Int.ofNat_zero]
    rw [if_pos (by decide)]
    have hpe : ((p : Int) == 0) = decide (p = 0) := by
      by_cases h : p = 0
      · subst h; rfl
      · rw [decide_eq_false h]
        simp only [beq_eq_false_iff_ne, ne_eq]
        omega
    rw [hpe]
    by_cases h : p = 0
    · subst h
      simp only [decide_true, if_true]
      refine ⟨e.1, by decide +kernel, ?_⟩
      rw [e.2.1]
      cases k <;> exact q
    · simp only [h, decide_false, Bool.false_eq_true, if_false]
      have : p = 1 ∨ p = 2 := by omega
      rcases this with rfl | rfl <;> exact q
  · rw [if_neg (by simp only [decide_eq_true_eq]; omega)]
    have hd' := hd.resolve_left h0
    show getDicD (dicD (celD k L T done)) (keyD [(t : Int) - 1, (i : Int), (j : Int)]) _
    rw [getDicD_k (getT_cel hd')]
    unfold cellT
    rw [ix_part hp]
    have e1 : ((t : Int) - 1).toNat + 1 = t := by omega
    rw [e1, Int.toNat_natCast, Int.toNat_natCast]
    exact q

theorem got {b : Nat} {t i j : Nat} {done : List Task} (h : rdy done [(t : Int), (i : Int), (j : Int)] = true) : (t = 0 ∨ [(t : Int) - 1, (i : Int), (j : Int)] ∈ done) ∧ (0 < j → t = 0 ∨ [(t : Int) - 1, (i : Int), (j : Int) - 1] ∈ done) ∧ (0 < i → t = 0 ∨ [(t : Int) - 1, (i : Int) - 1, (j : Int)] ∈ done) := by
  unfold rdy at h
  have en : needsF [(t : Int), (i : Int), (j : Int)] = if 0 < (t : Int) then [(t : Int) - 1, (i : Int), (j : Int)] :: ((if 0 < (j : Int) then [[(t : Int) - 1, (i : Int), (j : Int) - 1]] else []) ++ if 0 < (i : Int) then [[(t : Int) - 1, (i : Int) - 1, (j : Int)]] else []) else [] := rfl
  rw [en] at h
  by_cases h0 : t = 0
  · exact ⟨.inl h0, fun _ => .inl h0, fun _ => .inl h0⟩
  · rw [if_pos (by omega)] at h
    have all : ∀ x, x ∈ [(t : Int) - 1, (i : Int), (j : Int)] :: ((if 0 < (j : Int) then [[(t : Int) - 1, (i : Int), (j : Int) - 1]] else []) ++ if 0 < (i : Int) then [[(t : Int) - 1, (i : Int) - 1, (j : Int)]] else []) → x ∈ done := fun x hx => of_decide_eq_true (List.all_eq_true.mp h x hx)
    refine ⟨.inr (all _ List.mem_cons_self), fun hj => .inr (all _ ?_), fun hi => .inr (all _ ?_)⟩
    · rw [if_pos (show 0 < (j : Int) by omega)]
      simp
    · rw [if_pos (show 0 < (i : Int) by omega)]
      simp
theorem took_ok {t i j : Nat} {done : List Task} (hi : i < r) (hj : j < c) (h : rdy done [(t : Int), (i : Int), (j : Int)] = true)
    (q : P (.ret (.tuple [optD (if j = 0 then fedF L t i else (stateF k L T t i (j - 1)).right), optD (if i = 0 then fedF T t j else (stateF k L T t (i - 1) j).down)]))) :
    S_Hall_took [hallD (netD k r c) (feedD r c L T) (celD k L T done), .tuple [.int (t : Nat), .int (i : Nat), .int (j : Nat)]] P := by
  obtain ⟨_, g2, g3⟩ := got (b := 0) h
  refine ⟨rfl, ?_⟩
  unfold F_Hall_took
  walk_at "d"
  have hA : ∀ Q : PyData → Prop, Q (optD (if j = 0 then fedF L t i else (stateF k L T t i (j - 1)).right)) →
      if decide (0 < (j : Int)) = true then S_Hall_part [hallD (netD k r c) (feedD r c L T) (celD k L T done), .tuple [.int ((t : Int) - 1), .int (i : Nat), .int ((j : Int) - 1)], .int 1] (oE (fun n r => P (.exc n r)) Q)
      else ixD (rowD r fun i => lineD (L i)) (.int (i : Nat)) fun d => S_fed_at [d, .int (t : Nat)] (oE (fun n r => P (.exc n r)) Q) := fun Q hQ => by
    by_cases h0 : j = 0
    · subst h0
      rw [if_neg (by simp)]
      rw [if_pos rfl] at hQ
      rw [ixD_row hi]
      refine fed_at_ok ?_
      unfold fedAt
      rw [if_pos (by omega), Int.toNat_natCast]
      exact hQ
    · rw [if_pos (by simp; omega)]
      rw [if_neg h0] at hQ
      have e : (j : Int) - 1 = ((j - 1 : Nat) : Int) := by omega
      rw [e]
      refine part_ok (p := 1) (by decide) ?_ hQ
      have := g2 (Nat.pos_of_ne_zero h0)
      rwa [e] at this
  have hB : ∀ Q : PyData → Prop, Q (optD (if i = 0 then fedF T t j else (stateF k L T t (i - 1) j).down)) →
      if decide (0 < (i : Int)) = true then S_Hall_part [hallD (netD k r c) (feedD r c L T) (celD k L T done), .tuple [.int ((t : Int) - 1), .int ((i : Int) - 1), .int (j : Nat)], .int 2] (oE (fun n r => P (.exc n r)) Q)
      else ixD (rowD c fun j => lineD (T j)) (.int (j : Nat)) fun d => S_fed_at [d, .int (t : Nat)] (oE (fun n r => P (.exc n r)) Q) := fun Q hQ => by
    by_cases h0 : i = 0
    · subst h0
      rw [if_neg (by simp)]
      rw [if_pos rfl] at hQ
      rw [ixD_row hj]
      refine fed_at_ok ?_
      unfold fedAt
      rw [if_pos (by omega), Int.toNat_natCast]
      exact hQ
    · rw [if_pos (by simp; omega)]
      rw [if_neg h0] at hQ
      have e : (i : Int) - 1 = ((i - 1 : Nat) : Int) := by omega
      rw [e]
      refine part_ok (p := 2) (by decide) ?_ hQ
      have := g3 (Nat.pos_of_ne_zero h0)
      rwa [e] at this
  refine hA _ ?_
  refine hB _ ?_
  exact q
theorem do_ok {b : Nat} {x : Task} {done : List Task} {R : List (List Int × PyData) → Prop} (hL : GoodLs r L) (hT : GoodLs c T) (hx : x ∈ tasksF b r c) (hn : x ∉ done) (hl : done.length < 100000) (h : rdy done x = true) (q : R (celD k L T (done ++ [x]))) : S_Hall_do (netD k r c) (feedD r c L T) (celD k L T done) (keyD x) R := by
  obtain ⟨t, i, j, ht, hi, hj, rfl⟩ := mem_tasks.mp hx
  obtain ⟨g1, _, _⟩ := got (b := 0) h
  unfold S_Hall_do doD
  rw [← key3]
  walk_at "d"
  refine took_ok hi hj h ?_
  refine ⟨_, _, rfl, ?_⟩
  walk_at "d"
  rw [show (1 : Int) = ((1 : Nat) : Int) from rfl, cut_a]
  refine ⟨by simp, ?_⟩
  refine part_ok (p := 0) (by decide) g1 ?_
  walk_at "d"
  have hg := state_good (k := k) hL hT t
  refine cell_behind_ok (fun hk => ⟨hg.kept hk i j hi hj, ?_, ?_⟩) ?_
  · split
    · exact (hL.fed hi t).sm
    · exact (hg.sm hk i (j - 1) hi (by omega)).1
  · split
    · exact (hT.fed hj t).sm
    · exact (hg.sm hk (i - 1) j (by omega) hj).2
  · walk_at "d"
    refine ⟨[(t : Int), (i : Int), (j : Int)], rfl, by unfold celD; rw [List.length_map]; exact hl, ?_⟩
    have e : cellD (cellB k (partC (stateF k L T t i j) 0) (if j = 0 then fedF L t i else (stateF k L T t i (j - 1)).right) (if i = 0 then fedF T t j else (stateF k L T t (i - 1) j).down)) = cellT k L T [(t : Int), (i : Int), (j : Int)] := by
      show _ = cellD (stateF k L T (((t : Nat) : Int).toNat + 1) ((i : Nat) : Int).toNat ((j : Nat) : Int).toNat)
      rw [Int.toNat_natCast, Int.toNat_natCast, Int.toNat_natCast]
      rfl
    rw [e, putT_cel hn]
    exact q
end
end DL

/-! M16b: folded_run. -/
namespace DL
open PySem PySem.Spec L2
local macro_rules | `(tactic| walk_at "d") => `(tactic| simp (config := { failIfUnchanged := false }) only [dSeq_e, dSkip_e, dLcX_e, mulSD_e, dStrM_e, splitD_s, dAsgD_e, dPut_e, dPv_e, dPx_e, dLcD_e, dListRng_e, dListZip_e, dKind_e, dExt_e, dPopS_e, dIns_e, onlyD, dNewT_e, dPutT_e, dUpd_e, dForC_e, dPopV_e, dRem_e, dPopD_e, dSwap_e, dWorks_e, dRaiseR_e, dTold_e, dInsD_e, dInsP_e, dNewH_e, dDo_e, dNetF_e, dFeedF_e, dCellsF_e, dSelf_e, inDicD_k, ninDicD_k, dictPD_k, flat_keyD, dNever_e, dAsg_e, dAsgA_e, dAsgF_e, dAsgL_e, dAsgLA_e, dDrop_e, dRet_e, dRetN_e, dRetL_e, dIfS_e, dApp_e, dAppA_e, dFor_e, dForA_e, dForF_e, dVar_e, dC_e, dNil_e, dCons_e, dTup_e, dLst_e, dOp_e, dChain_e, asB_e, dAnd_e, dOr_e, dNot_e, dAndV_e, dOrV_e, dNotV_e, dIf_e, dSl_e, dPart_e, dNoPart_e, dCB_e, dCall_e, dCallL_e, dLc_e, dLcL_e, dListL_e, dItems_e, dRng1_e, dRng2_e, dRng3_e, dIsi_e, dIsi2_e, dRaise_e, dNeg_e, tgn_e, tgt_e, setAll, frz, wipeD, envOf, lawEnv, lawEnds,
  oEr_e, oEl_e, oEx_e, oLl_e, oLx_e, inD_t, inD_l, ninD_t, ninD_l, List.any_cons, List.any_nil, Bool.or_false, addD_ii, addD_ss, addD_tt, addD_ll, subD_ii, mulD_ii, mulD_li, mulD_ti, dMinDf_e, dRetF_e, dPar_e, dEnum_e, fdivD_ii, modD_ii, powD_ii, cmpD_ii, isD_n, notD_n, isN_none, isN_int, isN_str, isN_tuple, isN_list, isN_opt, Option.isNone_none, Option.isNone_some, eqD_e, neD_e, ixD_t, ixD_l, slD_t, slD_l, lenD_t, lenD_l, tupleD_rng, tupleD_t, tupleD_l, listD_t, listD_l, min2D_ii, max2D_ii, absD_i, intD_i, intD_b, seqD_t, seqD_l, seqD_row, at0, at1, at2, at3, len_row, ixD_c0, ixD_c1, ixD_c2, ixD_n0, ixD_n1, ixD_n2, ixD_f0, ixD_f1, eqv_ii, shaped_int,
  List.map_cons, List.map_nil, List.set_cons_zero, List.set_cons_succ, List.set_nil, List.getElem?_cons_zero, List.getElem?_cons_succ, List.getElem?_nil, List.replicate_succ, List.replicate_zero, List.cons_append, List.nil_append, List.length_cons, List.length_nil, Nat.reduceAdd, Nat.reduceSub, Nat.add_zero, Nat.zero_add, Nat.sub_self, Nat.sub_zero, if_true, if_false, Bool.false_eq_true, Bool.not_true, Bool.not_false, reduceIte, flat, flatAll, flat_optD, flat_cellD, Bool.and_true, Bool.true_and, Bool.and_self, true_and, and_true, and_self, decide_true, decide_false, List.drop_zero, Int.toNat_natCast, Nat.reduceLeDiff, reduceCtorEq])
theorem scan_inr {every done : List Task} {s : StepT} : ∀ {w : Nat} {fresh f : List Task}, fresh.Nodup → scanF every done w fresh s = .inr f → f = fresh ++ s.filterMap id ∧ f.Nodup ∧ ∀ k ∈ s.filterMap id, k ∈ every ∧ k ∉ done ∧ rdy done k = true := by
  induction s with
  | nil => intro w fresh f hn h; cases h; exact ⟨by simp, hn, fun _ h => nomatch h⟩
  | cons o r ih =>
    intro w fresh f hn h
    cases o with
    | none => exact ih hn h
    | some k =>
      unfold scanF at h
      split at h
      · cases h
      · rename_i e
        obtain ⟨h1, h2, h3, h4⟩ := wrongAt_none e
        have hn' : (fresh ++ [k]).Nodup := List.nodup_append.mpr ⟨hn, by simp, fun x hx y hy e => by
          rw [List.mem_singleton] at hy
          rw [e, hy] at hx
          exact h3 hx⟩
        obtain ⟨g1, g2, g3⟩ := ih hn' h
        have ef : (some k :: r : StepT).filterMap id = k :: r.filterMap id := rfl
        rw [ef]
        refine ⟨by rw [g1]; simp, g2, fun x hx => ?_⟩
        rcases List.mem_cons.mp hx with z | z
        · rw [z]; exact ⟨h1, h2, h4⟩
        · exact g3 x z
theorem go_inr {every : List Task} {n : Nat} {done d : List Task} {ss : List StepT} {s : StepT} (hs : ss[n]? = some s) (h : goF every n done (ss.drop n) = .inr d) : ∃ f, scanF every done 0 [] s = .inr f ∧ goF every (n + 1) (done ++ f) (ss.drop (n + 1)) = .inr d := by
  rw [go_step hs] at h
  split at h
  · cases h
  · rename_i f e
    exact ⟨f, e, h⟩
theorem wrong_none {b r c : Nat} {ss : List StepT} (h : wrongF (tasksF b r c) ss = .none) : ∃ done, goF (tasksF b r c) 0 [] ss = .inr done ∧ ∀ k ∈ tasksF b r c, k ∈ done := by
  unfold wrongF endF at h
  split at h
  · cases h
  · rename_i done e
    split at h
    · rename_i hf
      refine ⟨done, e, fun k hk => Classical.byContradiction fun z => ?_⟩
      have := List.filter_eq_nil_iff.mp hf k hk
      simp at this
      exact z this
    · cases h
theorem wrong_none_of {b r c : Nat} {ss : List StepT} (h : ∃ done, goF (tasksF b r c) 0 [] ss = .inr done ∧ ∀ k ∈ tasksF b r c, k ∈ done) : wrongF (tasksF b r c) ss = .none := by
  obtain ⟨done, e, hd⟩ := h
  unfold wrongF endF
  rw [e]
  simp only
  have : (tasksF b r c).filter (fun k => decide (k ∉ done)) = [] := List.filter_eq_nil_iff.mpr fun k hk => by simpa using hd k hk
  rw [this]
end DL

/-! M17: folded_run where NoSchedule tells the reason. -/
namespace DL
open PySem PySem.Spec L2
local macro_rules | `(tactic| walk_at "d") => `(tactic| simp (config := { failIfUnchanged := false }) only [dSeq_e, dSkip_e, dLcX_e, mulSD_e, dStrM_e, splitD_s, dAsgD_e, dPut_e, dPv_e, dPx_e, dLcD_e, dListRng_e, dListZip_e, dKind_e, dExt_e, dPopS_e, dIns_e, onlyD, dNewT_e, dPutT_e, dUpd_e, dForC_e, dPopV_e, dRem_e, dPopD_e, dSwap_e, dWorks_e, dRaiseR_e, dTold_e, dInsD_e, dInsP_e, dNewH_e, dDo_e, dNetF_e, dFeedF_e, dCellsF_e, dSelf_e, inDicD_k, ninDicD_k, dictPD_k, flat_keyD, dNever_e, dAsg_e, dAsgA_e, dAsgF_e, dAsgL_e, dAsgLA_e, dDrop_e, dRet_e, dRetN_e, dRetL_e, dIfS_e, dApp_e, dAppA_e, dFor_e, dForA_e, dForF_e, dVar_e, dC_e, dNil_e, dCons_e, dTup_e, dLst_e, dOp_e, dChain_e, asB_e, dAnd_e, dOr_e, dNot_e, dAndV_e, dOrV_e, dNotV_e, dIf_e, dSl_e, dPart_e, dNoPart_e, dCB_e, dCall_e, dCallL_e, dLc_e, dLcL_e, dListL_e, dItems_e, dRng1_e, dRng2_e, dRng3_e, dIsi_e, dIsi2_e, dRaise_e, dNeg_e, tgn_e, tgt_e, setAll, frz, wipeD, envOf, lawEnv, lawEnds,
  oEr_e, oEl_e, oEx_e, oLl_e, oLx_e, inD_t, inD_l, ninD_t, ninD_l, List.any_cons, List.any_nil, Bool.or_false, addD_ii, addD_ss, addD_tt, addD_ll, subD_ii, mulD_ii, mulD_li, mulD_ti, dMinDf_e, dRetF_e, dPar_e, dEnum_e, fdivD_ii, modD_ii, powD_ii, cmpD_ii, isD_n, notD_n, isN_none, isN_int, isN_str, isN_tuple, isN_list, isN_opt, Option.isNone_none, Option.isNone_some, eqD_e, neD_e, ixD_t, ixD_l, slD_t, slD_l, lenD_t, lenD_l, tupleD_rng, tupleD_t, tupleD_l, listD_t, listD_l, min2D_ii, max2D_ii, absD_i, intD_i, intD_b, seqD_t, seqD_l, seqD_row, at0, at1, at2, at3, len_row, ixD_c0, ixD_c1, ixD_c2, ixD_n0, ixD_n1, ixD_n2, ixD_f0, ixD_f1, eqv_ii, shaped_int,
  List.map_cons, List.map_nil, List.set_cons_zero, List.set_cons_succ, List.set_nil, List.getElem?_cons_zero, List.getElem?_cons_succ, List.getElem?_nil, List.replicate_succ, List.replicate_zero, List.cons_append, List.nil_append, List.length_cons, List.length_nil, Nat.reduceAdd, Nat.reduceSub, Nat.add_zero, Nat.zero_add, Nat.sub_self, Nat.sub_zero, if_true, if_false, Bool.false_eq_true, Bool.not_true, Bool.not_false, reduceIte, flat, flatAll, flat_optD, flat_cellD, Bool.and_true, Bool.true_and, Bool.and_self, true_and, and_true, and_self, decide_true, decide_false, List.drop_zero, Int.toNat_natCast, Nat.reduceLeDiff, reduceCtorEq])
theorem folded_run17_ok {k : Kd} {b r c : Nat} {L T : Nat → List (Option Int)} {ss : List StepT} {P : O → Prop} (h1 : 1 ≤ r) (h2 : r ≤ 6) (h3 : 1 ≤ c) (h4 : c ≤ 6) (hb : b ≤ 60) (hL : GoodLs r L) (hT : GoodLs c T) (hw : wrongF (tasksF b r c) ss = .none) (q : P (.ret (tabD r c (keptF (stateF k L T b))))) : S_folded_run [netD k r c, feedD r c L T, .int (b : Nat), schD ss] P := by
  have hlen : (tasksF b r c).length ≤ 2160 := by
    rw [tasks_len]
    have h1 : r * c ≤ 6 * 6 := Nat.mul_le_mul h2 h4
    have h3 : b * (r * c) ≤ 60 * 36 := Nat.mul_le_mul hb h1
    omega
  obtain ⟨dn, hgo, hall⟩ := wrong_none hw
  refine ⟨rfl, ?_⟩
  unfold F_folded_run
  walk_at "d"
  refine need_run_ok h1 h2 h3 h4 hb ?_
  walk_at "d"
  refine tasks_of_ok hb h2 h4 ?_
  walk_at "d"
  refine first_wrong_ok hb h2 h4 ?_
  rw [hw]
  walk_at "d"
  unfold schD
  walk_at "d"
  refine ⟨_, _, rfl, ?_⟩
  refine forD_inv (fun n ρ => ∃ done e6 e7, ρ = [.d (netD k r c), .d (feedD r c L T), .d (.int (b : Nat)), .d (.list (ss.map stepD)), .d .none, .hall (netD k r c) (feedD r c L T) (celD k L T done), e6, e7, .un, .un, .un] ∧ goF (tasksF b r c) n done (ss.drop n) = .inr dn ∧ done.Nodup ∧ ∀ k ∈ done, k ∈ tasksF b r c) ⟨[], _, _, rfl, hgo, List.nodup_nil, fun _ h => nomatch h⟩ ?_ ?_
  · rintro n x ρ Kt hx ⟨done, e6, e7, rfl, hg, hnd, hev⟩ hk
    rw [Nat.zero_add] at hg hk
    rw [List.getElem?_map] at hx
    obtain ⟨s, hs, rfl⟩ := Option.map_eq_some_iff.mp hx
    obtain ⟨f, hsc, hg'⟩ := go_inr hs hg
    obtain ⟨ef, hfn, hfg⟩ := scan_inr List.nodup_nil hsc
    rw [List.nil_append] at ef
    subst ef
    have hdf : (done ++ s.filterMap id).Nodup := List.nodup_append.mpr ⟨hnd, hfn, fun x hx y hy e => (hfg y hy).2.1 (by rw [← e]; exact hx)⟩
    have hdfe : ∀ x ∈ done ++ s.filterMap id, x ∈ tasksF b r c := fun x hx => (List.mem_append.mp hx).elim (hev x) fun z => (hfg x z).1
    unfold stepD
    walk_at "d"
    refine forD_inv (k := 0) (fun w ρ => ∃ e7, ρ = [.d (netD k r c), .d (feedD r c L T), .d (.int (b : Nat)), .d (.list (ss.map fun s => .tuple (s.map tkD))), .d .none, .hall (netD k r c) (feedD r c L T) (celD k L T (done ++ (s.take w).filterMap id)), .d (.tuple (s.map tkD)), e7, .un, .un, .un]) ⟨e7, by simp⟩ ?_ ?_
    · rintro w x ρ Kt2 hx ⟨e7, rfl⟩ hk2
      rw [Nat.zero_add] at hk2 ⊢
      rw [List.getElem?_map] at hx
      obtain ⟨o, ho, rfl⟩ := Option.map_eq_some_iff.mp hx
      have htf : (s.take (w + 1)).filterMap id = (s.take w).filterMap id ++ o.toList := by
        rw [List.take_succ, ho, List.filterMap_append]
        cases o <;> rfl
      walk_at "d"
      rw [isN_tk]
      cases o with
      | none =>
        simp only [Option.isNone_none, Bool.not_true, Bool.false_eq_true, if_false]
        refine hk2 _ ⟨.d (tkD none), ?_⟩
        rw [htf]
        simp only [Option.toList_none, List.append_nil]
      | some x =>
        simp only [Option.isNone_some, Bool.not_false, if_true]
        have hsub : ∀ y ∈ done ++ (s.take w).filterMap id, y ∈ tasksF b r c := fun y hy => hdfe y (by
          rcases List.mem_append.mp hy with z | z
          · exact List.mem_append.mpr (.inl z)
          · obtain ⟨o', ho', e⟩ := List.mem_filterMap.mp z
            exact List.mem_append.mpr (.inr (List.mem_filterMap.mpr ⟨o', List.mem_of_mem_take ho', e⟩)))
        have hxm : x ∈ s.filterMap id := List.mem_filterMap.mpr ⟨some x, List.mem_of_getElem? ho, rfl⟩
        have hsplit : done ++ s.filterMap id = (done ++ (s.take w).filterMap id) ++ x :: (s.drop (w + 1)).filterMap id := by
          obtain ⟨hlt, e⟩ := List.getElem?_eq_some_iff.mp ho
          conv => lhs; rw [← List.take_append_drop w s, List.drop_eq_getElem_cons hlt, e, List.filterMap_append]
          simp
        have hnx : x ∉ done ++ (s.take w).filterMap id := fun z => by
          rw [hsplit] at hdf
          exact (List.nodup_append.mp hdf).2.2 x z x List.mem_cons_self rfl
        have hnd2 : (done ++ (s.take w).filterMap id).Nodup := by
          rw [hsplit] at hdf
          exact (List.nodup_append.mp hdf).1
        have hl2 : (done ++ (s.take w).filterMap id).length ≤ 2160 := Nat.le_trans (List.Nodup.length_le_of_subset hnd2 hsub) hlen
        have hr2 : rdy (done ++ (s.take w).filterMap id) x = true := by
          have := (hfg x hxm).2.2
          unfold rdy at this ⊢
          refine List.all_eq_true.mpr fun y hy => decide_eq_true ?_
          exact List.mem_append.mpr (.inl (of_decide_eq_true (List.all_eq_true.mp this y hy)))
        refine do_ok hL hT (hfg x hxm).1 hnx (by omega) hr2 ?_
        refine hk2 _ ⟨.d (tkD (some x)), ?_⟩
        rw [htf]
        simp only [Option.toList_some, List.append_assoc]
    · rintro ρ ⟨e7, rfl⟩
      rw [Nat.zero_add, List.length_map, List.take_length]
      exact hk _ ⟨done ++ s.filterMap id, _, _, rfl, hg', hdf, hdfe⟩
  · rintro ρ ⟨done, e6, e7, rfl, hg, hnd, hev⟩
    rw [Nat.zero_add, List.length_map, List.drop_length] at hg
    have ed : done = dn := by
      have : goF (tasksF b r c) ss.length done [] = .inr done := rfl
      rw [this] at hg
      cases hg
      rfl
    subst ed
    walk_at "d"
    refine ⟨⟨by omega, by omega⟩, ?_⟩
    refine for_rng (fun i ρ => ∃ e9 e10, ρ = [.d (netD k r c), .d (feedD r c L T), .d (.int (b : Nat)), .d (.list (ss.map stepD)), .d .none, .hall (netD k r c) (feedD r c L T) (celD k L T done), e6, e7, .own ((List.range i).map fun i => rowD c fun j => optD (keptF (stateF k L T b) i j)), e9, e10]) ⟨_, _, rfl⟩ ?_ ?_
    · rintro i ρ Kt hi ⟨e9, e10, rfl⟩ hk
      walk_at "d"
      refine ⟨by rw [List.length_map, List.length_range]; omega, ⟨by omega, by omega⟩, by simp [rngD]; omega, ?_⟩
      refine lcD_map (fun d => match d with | .int j => optD (keptF (stateF k L T b) i j.toNat) | _ => .none) (fun x hx Q hq => ?_) ?_
      · unfold rngD at hx
        obtain ⟨j, hj, rfl⟩ := List.mem_map.mp hx
        rw [List.mem_range] at hj
        walk_at "d"
        rw [Int.zero_add]
        refine part_ok (p := 0) (by decide) ?_ ?_
        · by_cases hb0 : b = 0
          · exact .inl hb0
          · refine .inr (hall _ (mem_tasks.mpr ⟨b - 1, i, j, by omega, hi, by omega, ?_⟩))
            rw [show ((b - 1 : Nat) : Int) = (b : Int) - 1 by omega]
        · walk_at "d"
          have := hq
          simp only [Int.zero_add, Int.toNat_natCast] at this
          exact this
      · have e : ((rngD 0 c).map fun d => match d with | .int j => optD (keptF (stateF k L T b) i j.toNat) | _ => .none) = (List.range c).map fun j => optD (keptF (stateF k L T b) i j) := by
          unfold rngD
          rw [List.map_map]
          apply List.map_congr_left
          intro j _
          simp
        rw [e]
        refine ⟨flat_rngT fun _ _ => flat_optD _, hk _ ⟨.d (.int (i : Nat)), e10, ?_⟩⟩
        rw [range_succ_map]
        rfl
    · rintro ρ ⟨e9, e10, rfl⟩
      walk_at "d"
      exact q
theorem folded_run17_no {k : Kd} {b r c : Nat} {L T : Nat → List (Option Int)} {ss : List StepT} {P : O → Prop} (h1 : 1 ≤ r) (h2 : r ≤ 6) (h3 : 1 ≤ c) (h4 : c ≤ 6) (hb : b ≤ 60) (hL : GoodLs r L) (hT : GoodLs c T) (hw : isN (wrongF (tasksF b r c) ss) = false) (q : P (.exc "NoSchedule" (some (wrongF (tasksF b r c) ss)))) : S_folded_run [netD k r c, feedD r c L T, .int (b : Nat), schD ss] P := by
  refine ⟨rfl, ?_⟩
  unfold F_folded_run
  walk_at "d"
  refine need_run_ok h1 h2 h3 h4 hb ?_
  walk_at "d"
  refine tasks_of_ok hb h2 h4 ?_
  walk_at "d"
  refine first_wrong_ok hb h2 h4 ?_
  walk_at "d"
  rw [hw]
  walk_at "d"
  exact q
/-- `_law_told` -/
theorem law_told_ok {k : Kd} {b r c : Nat} {L T : Nat → List (Option Int)} {ss : List StepT} {P : O → Prop} (h1 : 1 ≤ r) (h2 : r ≤ 6) (h3 : 1 ≤ c) (h4 : c ≤ 6) (hb : b ≤ 60) (hL : GoodLs r L) (hT : GoodLs c T) (q : P (.ret (if isN (wrongF (tasksF b r c) ss) = true then .tuple [.str (Str.ofString "told"), tabD r c (keptF (stateF k L T b))] else .tuple [.str (Str.ofString "refused"), wrongF (tasksF b r c) ss]))) : S__law_told [netD k r c, feedD r c L T, .int (b : Nat), schD ss] P := by
  refine ⟨rfl, ?_⟩
  unfold F__law_told
  walk_at "d"
  cases hw : isN (wrongF (tasksF b r c) ss) with
  | true =>
    rw [hw] at q
    have hn : wrongF (tasksF b r c) ss = .none := by
      cases e : wrongF (tasksF b r c) ss <;> rw [e] at hw <;> first | rfl | cases hw
    refine folded_run17_ok h1 h2 h3 h4 hb hL hT hn ?_
    walk_at "d"
    exact q
  | false =>
    rw [hw] at q
    refine folded_run17_no h1 h2 h3 h4 hb hL hT hw ?_
    walk_at "d"
    exact ⟨_, rfl, q⟩
end DL

/-! M15: folded: the plain law. -/
namespace DL
open PySem PySem.Spec L2
local macro_rules | `(tactic| walk_at "d") => `(tactic| simp (config := { failIfUnchanged := false }) only [dSeq_e, dSkip_e, dLcX_e, mulSD_e, dStrM_e, splitD_s, dAsgD_e, dPut_e, dPv_e, dPx_e, dLcD_e, dListRng_e, dListZip_e, dKind_e, dExt_e, dPopS_e, dIns_e, onlyD, dNewT_e, dPutT_e, dUpd_e, dForC_e, dPopV_e, dRem_e, dPopD_e, dSwap_e, dWorks_e, dRaiseR_e, dTold_e, dInsD_e, dInsP_e, dNewH_e, dDo_e, dNetF_e, dFeedF_e, dCellsF_e, dSelf_e, inDicD_k, ninDicD_k, dictPD_k, flat_keyD, dNever_e, dAsg_e, dAsgA_e, dAsgF_e, dAsgL_e, dAsgLA_e, dDrop_e, dRet_e, dRetN_e, dRetL_e, dIfS_e, dApp_e, dAppA_e, dFor_e, dForA_e, dForF_e, dVar_e, dC_e, dNil_e, dCons_e, dTup_e, dLst_e, dOp_e, dChain_e, asB_e, dAnd_e, dOr_e, dNot_e, dAndV_e, dOrV_e, dNotV_e, dIf_e, dSl_e, dPart_e, dNoPart_e, dCB_e, dCall_e, dCallL_e, dLc_e, dLcL_e, dListL_e, dItems_e, dRng1_e, dRng2_e, dRng3_e, dIsi_e, dIsi2_e, dRaise_e, dNeg_e, tgn_e, tgt_e, setAll, frz, wipeD, envOf, lawEnv, lawEnds,
  oEr_e, oEl_e, oEx_e, oLl_e, oLx_e, inD_t, inD_l, ninD_t, ninD_l, List.any_cons, List.any_nil, Bool.or_false, addD_ii, addD_ss, addD_tt, addD_ll, subD_ii, mulD_ii, mulD_li, mulD_ti, dMinDf_e, dRetF_e, dPar_e, dEnum_e, fdivD_ii, modD_ii, powD_ii, cmpD_ii, isD_n, notD_n, isN_none, isN_int, isN_str, isN_tuple, isN_list, isN_opt, Option.isNone_none, Option.isNone_some, eqD_e, neD_e, ixD_t, ixD_l, slD_t, slD_l, lenD_t, lenD_l, tupleD_rng, tupleD_t, tupleD_l, listD_t, listD_l, min2D_ii, max2D_ii, absD_i, intD_i, intD_b, seqD_t, seqD_l, seqD_row, at0, at1, at2, at3, len_row, ixD_c0, ixD_c1, ixD_c2, ixD_n0, ixD_n1, ixD_n2, ixD_f0, ixD_f1, eqv_ii, shaped_int,
  List.map_cons, List.map_nil, List.set_cons_zero, List.set_cons_succ, List.set_nil, List.getElem?_cons_zero, List.getElem?_cons_succ, List.getElem?_nil, List.replicate_succ, List.replicate_zero, List.cons_append, List.nil_append, List.length_cons, List.length_nil, Nat.reduceAdd, Nat.reduceSub, Nat.add_zero, Nat.zero_add, Nat.sub_self, Nat.sub_zero, if_true, if_false, Bool.false_eq_true, Bool.not_true, Bool.not_false, reduceIte, flat, flatAll, flat_optD, flat_cellD, Bool.and_true, Bool.true_and, Bool.and_self, true_and, and_true, and_self, decide_true, decide_false, List.drop_zero, Int.toNat_natCast, Nat.reduceLeDiff, reduceCtorEq])
def Tk (c t p : Nat) : Task := [(t : Int), ((p / c : Nat) : Int), ((p % c : Nat) : Int)]
theorem Tk_inj {c t p t' p' : Nat} (h : Tk c t p = Tk c t' p') : t = t' ∧ p = p' := by
  unfold Tk at h
  simp only [List.cons.injEq, and_true] at h
  obtain ⟨h1, h2, h3⟩ := h
  have e1 : p / c = p' / c := by omega
  have e2 : p % c = p' % c := by omega
  have a := Nat.div_add_mod p c
  have b := Nat.div_add_mod p' c
  rw [e1, e2] at a
  exact ⟨by omega, by omega⟩
theorem Tk_of {r c t i j : Nat} (hi : i < r) (hj : j < c) : ∃ p, p < r * c ∧ ([(t : Int), (i : Int), (j : Int)] : Task) = Tk c t p := by
  have hc : 0 < c := by omega
  refine ⟨i * c + j, ?_, ?_⟩
  · have : (i + 1) * c ≤ r * c := Nat.mul_le_mul_right c hi
    rw [Nat.add_mul, Nat.one_mul] at this
    omega
  · unfold Tk
    have e1 : (i * c + j) / c = i := by
      rw [Nat.mul_comm, Nat.mul_add_div hc, Nat.div_eq_of_lt hj, Nat.add_zero]
    have e2 : (i * c + j) % c = j := by
      rw [Nat.mul_comm, Nat.mul_add_mod, Nat.mod_eq_of_lt hj]
    rw [e1, e2]
theorem Tk_mem {b r c t p : Nat} (ht : t < b) (hp : p < r * c) : Tk c t p ∈ tasksF b r c := by
  have hc : 0 < c := by
    rcases Nat.eq_zero_or_pos c with z | z
    · rw [z, Nat.mul_zero] at hp; omega
    · exact z
  refine mem_tasks.mpr ⟨t, p / c, p % c, ht, ?_, Nat.mod_lt _ hc, rfl⟩
  exact (Nat.div_lt_iff_lt_mul hc).mpr hp
theorem cells_eq {r c : Nat} (h2 : r ≤ 6) (h4 : c ≤ 6) : tasksF 1 r c = (List.range (r * c)).map fun p => Tk c 0 p := by
  have all : ∀ r : Fin 7, ∀ c : Fin 7, tasksF 1 r.val c.val = (List.range (r.val * c.val)).map fun p => Tk c.val 0 p := by decide +kernel
  exact all ⟨r, by omega⟩ ⟨c, by omega⟩
/-- steps for each beat -/
def turnsF (n w : Nat) : Nat := (n + w - 1) / w
def fstep (n c w m t u : Nat) : StepT := (List.range w).map fun k => if k * m + u < n then some (Tk c t (k * m + u)) else none
def FoldF (b n c w m : Nat) : List StepT := (List.range b).flatMap fun t => (List.range m).map fun u => fstep n c w m t u
theorem turns_pos {n w : Nat} (hw : 1 ≤ w) (hn : w ≤ n) : 1 ≤ turnsF n w := by
  unfold turnsF
  exact (Nat.le_div_iff_mul_le (by omega)).mpr (by omega)
theorem turns_all {n w : Nat} (hw : 1 ≤ w) : n ≤ w * turnsF n w := by
  unfold turnsF
  have h := Nat.div_add_mod (n + w - 1) w
  have h2 := Nat.mod_lt (n + w - 1) (show 0 < w by omega)
  omega
theorem needs_shape {t i j r c : Nat} {x : Task} (hi : i < r) (hj : j < c) (hx : x ∈ needsF [(t : Int), (i : Int), (j : Int)]) : ∃ i' j', 0 < t ∧ i' < r ∧ j' < c ∧ x = [((t - 1 : Nat) : Int), (i' : Int), (j' : Int)] := by
  have en : needsF [(t : Int), (i : Int), (j : Int)] = if 0 < (t : Int) then [(t : Int) - 1, (i : Int), (j : Int)] :: ((if 0 < (j : Int) then [[(t : Int) - 1, (i : Int), (j : Int) - 1]] else []) ++ if 0 < (i : Int) then [[(t : Int) - 1, (i : Int) - 1, (j : Int)]] else []) else [] := rfl
  rw [en] at hx
  split at hx
  · rename_i h0
    have e0 : ((t - 1 : Nat) : Int) = (t : Int) - 1 := by omega
    rcases List.mem_cons.mp hx with e | hx
    · exact ⟨i, j, by omega, hi, hj, by rw [e, e0]⟩
    · rcases List.mem_append.mp hx with hx | hx
      · split at hx
        · rw [List.mem_singleton] at hx
          exact ⟨i, j - 1, by omega, hi, by omega, by rw [hx, e0, show ((j - 1 : Nat) : Int) = (j : Int) - 1 by omega]⟩
        · cases hx
      · split at hx
        · rw [List.mem_singleton] at hx
          exact ⟨i - 1, j, by omega, by omega, hj, by rw [hx, e0, show ((i - 1 : Nat) : Int) = (i : Int) - 1 by omega]⟩
        · cases hx
  · cases hx
def stepsTU (n c w m t u : Nat) : List StepT := FoldF t n c w m ++ (List.range u).map fun u => fstep n c w m t u
theorem stepsTU_succ {n c w m t : Nat} : stepsTU n c w m t m = FoldF (t + 1) n c w m := by
  unfold stepsTU FoldF
  rw [List.range_succ, List.flatMap_append]
  simp
theorem mem_fstep {n c w m t u : Nat} {x : Task} : x ∈ (fstep n c w m t u).filterMap id ↔ ∃ k, k < w ∧ k * m + u < n ∧ x = Tk c t (k * m + u) := by
  unfold fstep
  simp only [List.mem_filterMap, List.mem_map, List.mem_range, id]
  constructor
  · rintro ⟨o, ⟨k, hk, rfl⟩, ho⟩
    split at ho
    · rename_i h
      exact ⟨k, hk, h, (Option.some.inj ho).symm⟩
    · cases ho
  · rintro ⟨k, hk, h, rfl⟩
    exact ⟨_, ⟨k, hk, rfl⟩, by rw [if_pos h]⟩
theorem fstep_nodup {n c w m t u : Nat} (hm : 1 ≤ m) : ((fstep n c w m t u).filterMap id).Nodup := by
  unfold fstep
  rw [List.filterMap_map]
  unfold List.Nodup
  rw [List.pairwise_filterMap]
  refine List.Pairwise.imp ?_ List.nodup_range
  intro a b hab x hx y hy e
  simp only [Function.comp, id] at hx hy
  split at hx
  · split at hy
    · cases hx; cases hy
      have := (Tk_inj e).2
      have h1 : a * m = b * m := by omega
      exact hab (Nat.eq_of_mul_eq_mul_right (by omega) h1)
    · cases hy
  · cases hx
def FoldQ (b r c w m t u : Nat) : Prop := ∃ d, goF (tasksF b r c) 0 [] (stepsTU (r * c) c w m t u) = .inr d ∧ ∀ x, x ∈ d ↔ ∃ t' p, p < r * c ∧ (t' < t ∨ (t' = t ∧ p % m < u)) ∧ x = Tk c t' p
theorem fold_step {b r c w m t u : Nat} (hm : 1 ≤ m) (hall : r * c ≤ w * m) (htb : t < b) (hu : u < m) (h : FoldQ b r c w m t u) : FoldQ b r c w m t (u + 1) := by
  obtain ⟨d, hg, hd⟩ := h
  have es : stepsTU (r * c) c w m t (u + 1) = stepsTU (r * c) c w m t u ++ [fstep (r * c) c w m t u] := by
    unfold stepsTU
    rw [List.range_succ, List.map_append, ← List.append_assoc]
    rfl
  have hmod : ∀ k, (k * m + u) % m = u := fun k => by rw [Nat.mul_comm, Nat.mul_add_mod, Nat.mod_eq_of_lt hu]
  refine ⟨d ++ (fstep (r * c) c w m t u).filterMap id, ?_, fun x => ?_⟩
  · rw [es, go_snoc hg, scan_good (fun x hx => ?_) (by simpa using fstep_nodup hm)]
    · rfl
    · obtain ⟨k, hk, hlt, rfl⟩ := mem_fstep.mp hx
      refine ⟨Tk_mem htb hlt, fun z => ?_, ?_⟩
      · obtain ⟨t', p', hp', ht', e⟩ := (hd _).mp z
        obtain ⟨e1, e2⟩ := Tk_inj e
        rw [← e1, ← e2, hmod] at ht'
        omega
      · unfold rdy
        refine List.all_eq_true.mpr fun y hy => decide_eq_true ?_
        have hc : 0 < c := by
          rcases Nat.eq_zero_or_pos c with z | z
          · rw [z, Nat.mul_zero] at hlt; omega
          · exact z
        obtain ⟨i', j', h0, hi', hj', ey⟩ := needs_shape (r := r) (c := c) ((Nat.div_lt_iff_lt_mul hc).mpr hlt) (Nat.mod_lt _ hc) hy
        obtain ⟨p', hp', e'⟩ := Tk_of (t := t - 1) hi' hj'
        rw [ey, e']
        exact (hd _).mpr ⟨t - 1, p', hp', .inl (by omega), rfl⟩
  · rw [List.mem_append, hd, mem_fstep]
    constructor
    · rintro (⟨t', p, hp, ht, e⟩ | ⟨k, hk, hlt, e⟩)
      · exact ⟨t', p, hp, by omega, e⟩
      · exact ⟨t, k * m + u, hlt, .inr ⟨rfl, by rw [hmod]; omega⟩, e⟩
    · rintro ⟨t', p, hp, ht, e⟩
      by_cases h1 : t' < t ∨ (t' = t ∧ p % m < u)
      · exact .inl ⟨t', p, hp, h1, e⟩
      · have h2 : t' = t ∧ p % m = u := by omega
        have h3 := Nat.div_add_mod p m
        rw [h2.2] at h3
        have h4 : p / m * m + u = p := by rw [Nat.mul_comm]; exact h3
        refine .inr ⟨p / m, ?_, by rw [h4]; exact hp, by rw [h4, ← h2.1]; exact e⟩
        exact (Nat.div_lt_iff_lt_mul (by omega)).mpr (by omega)
theorem fold_row {b r c w m t : Nat} (hm : 1 ≤ m) (hall : r * c ≤ w * m) (htb : t < b) (h : FoldQ b r c w m t 0) : ∀ u, u ≤ m → FoldQ b r c w m t u
  | 0, _ => h
  | u + 1, hu => fold_step hm hall htb (by omega) (fold_row hm hall htb h u (by omega))
theorem fold_all {b r c w m : Nat} (hm : 1 ≤ m) (hall : r * c ≤ w * m) : ∀ t, t ≤ b → FoldQ b r c w m t 0
  | 0, _ => ⟨[], rfl, fun x => by simp⟩
  | t + 1, ht => by
    obtain ⟨d, hg, hd⟩ := fold_row (b := b) (t := t) hm hall (by omega) (fold_all (b := b) hm hall t (by omega)) m (Nat.le_refl _)
    refine ⟨d, ?_, fun x => ?_⟩
    · have e : stepsTU (r * c) c w m (t + 1) 0 = stepsTU (r * c) c w m t m := by
        rw [stepsTU_succ]
        unfold stepsTU
        simp
      rw [e]
      exact hg
    · rw [hd]
      have hlt : ∀ p, p % m < m := fun p => Nat.mod_lt _ (by omega)
      constructor
      · rintro ⟨t', p, hp, h1, e⟩
        exact ⟨t', p, hp, .inl (h1.elim (fun z => by omega) fun z => by omega), e⟩
      · rintro ⟨t', p, hp, h1, e⟩
        refine ⟨t', p, hp, ?_, e⟩
        rcases h1 with z | ⟨_, z⟩
        · by_cases zz : t' < t
          · exact .inl zz
          · exact .inr ⟨by omega, hlt p⟩
        · exact absurd z (Nat.not_lt_zero _)
theorem fold_right {b r c w : Nat} (hw : 1 ≤ w) (hn : w ≤ r * c) : wrongF (tasksF b r c) (FoldF b (r * c) c w (turnsF (r * c) w)) = .none := by
  have hm := turns_pos hw hn
  obtain ⟨d, hg, hd⟩ := fold_all (b := b) (r := r) (c := c) (w := w) hm (turns_all hw) b (Nat.le_refl _)
  have e : stepsTU (r * c) c w (turnsF (r * c) w) b 0 = FoldF b (r * c) c w (turnsF (r * c) w) := by unfold stepsTU; simp
  rw [e] at hg
  refine wrong_none_of ⟨d, hg, fun x hx => ?_⟩
  obtain ⟨t, i, j, ht, hi, hj, rfl⟩ := mem_tasks.mp hx
  obtain ⟨p, hp, e⟩ := Tk_of (t := t) hi hj
  rw [e]
  exact (hd _).mpr ⟨t, p, hp, .inl ht, rfl⟩
theorem fold_len {b n c w m : Nat} : (FoldF b n c w m).length = b * m := by
  unfold FoldF
  rw [List.length_flatMap]
  simp [List.map_const']
theorem fold_wid {b n c w m : Nat} : ∀ s ∈ FoldF b n c w m, s.length = w := fun s hs => by
  unfold FoldF at hs
  simp only [List.mem_flatMap, List.mem_map, List.mem_range] at hs
  obtain ⟨t, _, u, _, rfl⟩ := hs
  unfold fstep
  simp
/-! ### the def -/
theorem folded_ok {k : Kd} {b r c w : Nat} {P : O → Prop} (hb : b ≤ 60) (h1 : 1 ≤ r) (h2 : r ≤ 6) (h3 : 1 ≤ c) (h4 : c ≤ 6) (hw : 1 ≤ w) (hn : w ≤ r * c) (q : P (.retL ((FoldF b (r * c) c w (turnsF (r * c) w)).map stepD))) : S_folded [netD k r c, .int (b : Nat), .int (w : Nat)] P := by
  have hnc : r * c ≤ 36 := Nat.mul_le_mul h2 h4
  have hm36 : turnsF (r * c) w ≤ 36 := by
    unfold turnsF
    have : r * c + w - 1 < 37 * w := by
      have : r * c ≤ 36 * w := Nat.le_trans hnc (by omega)
      omega
    exact Nat.le_of_lt_succ ((Nat.div_lt_iff_lt_mul (by omega)).mpr this)
  refine ⟨rfl, ?_⟩
  unfold F_folded
  walk_at "d"
  refine need_net_ok h1 h2 h3 h4 ?_
  walk_at "d"
  refine need_beats_ok hb ?_
  walk_at "d"
  refine tasks_of_ok (b := 1) (by omega) h2 h4 ?_
  walk_at "d"
  rw [cells_eq h2 h4]
  refine ⟨by simp; omega, ?_⟩
  refine lcD_map (fun d => match d with | .tuple ds => .tuple (ds.drop 1) | _ => .none) (fun x hx Q hq => ?_) ?_
  · rw [List.map_map] at hx
    obtain ⟨p, hp, rfl⟩ := List.mem_map.mp hx
    show (Tg.nm 9).d (keyD (Tk c 0 p)) _ _
    unfold keyD Tk
    walk_at "d"
    rw [show (1 : Int) = ((1 : Nat) : Int) from rfl, cut_a]
    exact hq
  have ec : ((((List.range (r * c)).map fun p => Tk c 0 p).map keyD).map fun d => match d with | .tuple ds => PyData.tuple (ds.drop 1) | _ => .none) = (List.range (r * c)).map fun p => .tuple [.int ((p / c : Nat) : Int), .int ((p % c : Nat) : Int)] := by
    rw [List.map_map, List.map_map]
    rfl
  rw [ec]
  generalize hcl : ((List.range (r * c)).map fun p => PyData.tuple [.int ((p / c : Nat) : Int), .int ((p % c : Nat) : Int)]) = cl
  have el : cl.length = r * c := by rw [← hcl]; simp
  have eg : ∀ p, p < r * c → cl[p]? = some (.tuple [.int ((p / c : Nat) : Int), .int ((p % c : Nat) : Int)]) := fun p hp => by rw [← hcl]; simp [hp]
  rw [el]
  rw [if_pos (show decide ((1 : Int) ≤ (w : Nat)) = true from decide_eq_true (by omega))]
  have e2 : decide (((w : Nat) : Int) ≤ ((r * c : Nat) : Int)) = true := decide_eq_true (by omega)
  rw [e2]
  simp only [Bool.not_true, Bool.false_eq_true, if_false]
  have em : (((r * c : Nat) : Int) + (w : Nat) - 1) / ((w : Nat) : Int) = ((turnsF (r * c) w : Nat) : Int) := by
    unfold turnsF
    rw [Int.natCast_ediv]
    congr 1
    omega
  rw [em]
  generalize hM : turnsF (r * c) w = m at *
  generalize hN : r * c = n at *
  refine ⟨by omega, by have := log_small (n := ((w : Nat) : Int)) (by omega) (small_big (by omega)); exact this, ⟨by omega, by omega⟩, ?_⟩
  refine for_rng (fun t ρ => ∃ e6 e7 e8, ρ = [.d (netD k r c), .d (.int (b : Nat)), .d (.int (w : Nat)), .d (.list cl), .d (.int (m : Nat)), .own ((FoldF t n c w m).map stepD), e6, e7, e8, .un, .un, .un]) ⟨_, _, _, rfl⟩ ?_ ?_
  · rintro t ρ Kt ht ⟨e6, e7, e8, rfl⟩ hk
    walk_at "d"
    refine ⟨⟨by omega, by omega⟩, ?_⟩
    refine for_rng (fun u ρ => ∃ e7 e8, ρ = [.d (netD k r c), .d (.int (b : Nat)), .d (.int (w : Nat)), .d (.list cl), .d (.int (m : Nat)), .own ((stepsTU n c w m t u).map stepD), .d (.int (t : Nat)), e7, e8, .un, .un, .un]) ⟨e7, e8, by unfold stepsTU; simp⟩ ?_ ?_
    · rintro u ρ Kt2 hu ⟨e7, e8, rfl⟩ hk2
      walk_at "d"
      refine ⟨⟨by omega, by omega⟩, by simp [rngD]; omega, ?_⟩
      refine lcD_map (fun d => match d with | .int x => .int (x * (m : Nat) + (u : Nat)) | _ => .none) (fun x hx Q hq => ?_) ?_
      · unfold rngD at hx
        obtain ⟨x', hx', rfl⟩ := List.mem_map.mp hx
        rw [List.mem_range] at hx'
        walk_at "d"
        refine ⟨?_, hq⟩
        have a1 := log_small (n := ((x' : Nat) : Int) + 1) (by omega) (small_big (by omega))
        have a2 : (0 + ((x' : Nat) : Int)).natAbs.log2 ≤ 64 := by
          rw [Int.zero_add, Int.natAbs_natCast]
          exact Nat.le_trans (Nat.log2_le_self _) (by omega)
        have a3 : ((m : Nat) : Int).natAbs.log2 ≤ 64 := by
          rw [Int.natAbs_natCast]
          exact Nat.le_trans (Nat.log2_le_self _) (by omega)
        omega
      have e3 : ((rngD 0 w).map fun d => match d with | .int x => PyData.int (x * (m : Nat) + (u : Nat)) | _ => .none) = (List.range w).map fun x => .int ((x * m + u : Nat) : Int) := by
        unfold rngD
        rw [List.map_map]
        apply List.map_congr_left
        intro x _
        simp
      rw [e3]
      have hsl : ((stepsTU n c w m t u).map stepD).length ≤ 100000 := by
        unfold stepsTU
        rw [List.length_map, List.length_append, fold_len, List.length_map, List.length_range]
        have := Nat.mul_le_mul (show t ≤ 60 by omega) hm36
        omega
      refine ⟨hsl, by rw [List.length_map, List.length_range]; omega, ?_⟩
      refine lcD_map (fun d => match d with | .int x => tkD (if x.toNat < n then some (Tk c t x.toNat) else none) | _ => .none) (fun x hx Q hq => ?_) ?_
      · obtain ⟨y, hy, rfl⟩ := List.mem_map.mp hx
        walk_at "d"
        rw [el]
        by_cases hlt : y * m + u < n
        · rw [if_pos (show decide (((y * m + u : Nat) : Int) < ((n : Nat) : Int)) = true from decide_eq_true (by omega))]
          rw [atI_nat (eg _ hlt)]
          walk_at "d"
          simp only [Int.toNat_natCast, hlt, if_true] at hq
          exact hq
        · rw [if_neg (by rw [decide_eq_true_eq]; omega)]
          simp only [Int.toNat_natCast, hlt, if_false] at hq
          exact hq
      have e4 : (((List.range w).map fun x => PyData.int ((x * m + u : Nat) : Int)).map fun d => match d with | .int x => tkD (if x.toNat < n then some (Tk c t x.toNat) else none) | _ => .none) = (fstep n c w m t u).map tkD := by
        unfold fstep
        rw [List.map_map, List.map_map]
        apply List.map_congr_left
        intro x _
        simp only [Function.comp, Int.toNat_natCast]
      rw [e4]
      refine hk2 _ ⟨.d (.int (u : Nat)), _, congrArg (fun l => [EV.d (netD k r c), .d (.int (b : Nat)), .d (.int (w : Nat)), .d (.list cl), .d (.int (m : Nat)), .own l, .d (.int (t : Nat)), .d (.int (u : Nat)), .d (.list ((List.range w).map fun x => .int ((x * m + u : Nat) : Int))), .un, .un, .un]) ?_⟩
      unfold stepsTU
      rw [List.range_succ, List.map_append (f := fun u => fstep n c w m t u), ← List.append_assoc, List.map_append (l₂ := List.map _ [u])]
      rfl
    · rintro ρ ⟨e7, e8, rfl⟩
      exact hk _ ⟨_, e7, e8, by rw [stepsTU_succ]⟩
  · rintro ρ ⟨e6, e7, e8, rfl⟩
    walk_at "d"
    exact q
end DL

/-! M14h: the law's own look at a schedule. -/
namespace DL
open PySem PySem.Spec L2
local macro_rules | `(tactic| walk_at "d") => `(tactic| simp (config := { failIfUnchanged := false }) only [dSeq_e, dSkip_e, dLcX_e, mulSD_e, dStrM_e, splitD_s, dAsgD_e, dPut_e, dPv_e, dPx_e, dLcD_e, dListRng_e, dListZip_e, dKind_e, dExt_e, dPopS_e, dIns_e, onlyD, dNewT_e, dPutT_e, dUpd_e, dForC_e, dPopV_e, dRem_e, dPopD_e, dSwap_e, dWorks_e, dRaiseR_e, dTold_e, dInsD_e, dInsP_e, dNewH_e, dDo_e, dNetF_e, dFeedF_e, dCellsF_e, dSelf_e, inDicD_k, ninDicD_k, dictPD_k, flat_keyD, dNever_e, dAsg_e, dAsgA_e, dAsgF_e, dAsgL_e, dAsgLA_e, dDrop_e, dRet_e, dRetN_e, dRetL_e, dIfS_e, dApp_e, dAppA_e, dFor_e, dForA_e, dForF_e, dVar_e, dC_e, dNil_e, dCons_e, dTup_e, dLst_e, dOp_e, dChain_e, asB_e, dAnd_e, dOr_e, dNot_e, dAndV_e, dOrV_e, dNotV_e, dIf_e, dSl_e, dPart_e, dNoPart_e, dCB_e, dCall_e, dCallL_e, dLc_e, dLcL_e, dListL_e, dItems_e, dRng1_e, dRng2_e, dRng3_e, dIsi_e, dIsi2_e, dRaise_e, dNeg_e, tgn_e, tgt_e, setAll, frz, wipeD, envOf, lawEnv, lawEnds,
  oEr_e, oEl_e, oEx_e, oLl_e, oLx_e, inD_t, inD_l, ninD_t, ninD_l, List.any_cons, List.any_nil, Bool.or_false, addD_ii, addD_ss, addD_tt, addD_ll, subD_ii, mulD_ii, mulD_li, mulD_ti, dMinDf_e, dRetF_e, dPar_e, dEnum_e, fdivD_ii, modD_ii, powD_ii, cmpD_ii, isD_n, notD_n, isN_none, isN_int, isN_str, isN_tuple, isN_list, isN_opt, Option.isNone_none, Option.isNone_some, eqD_e, neD_e, ixD_t, ixD_l, slD_t, slD_l, lenD_t, lenD_l, tupleD_rng, tupleD_t, tupleD_l, listD_t, listD_l, min2D_ii, max2D_ii, absD_i, intD_i, intD_b, seqD_t, seqD_l, seqD_row, at0, at1, at2, at3, len_row, ixD_c0, ixD_c1, ixD_c2, ixD_n0, ixD_n1, ixD_n2, ixD_f0, ixD_f1, eqv_ii, shaped_int,
  List.map_cons, List.map_nil, List.set_cons_zero, List.set_cons_succ, List.set_nil, List.getElem?_cons_zero, List.getElem?_cons_succ, List.getElem?_nil, List.replicate_succ, List.replicate_zero, List.cons_append, List.nil_append, List.length_cons, List.length_nil, Nat.reduceAdd, Nat.reduceSub, Nat.add_zero, Nat.zero_add, Nat.sub_self, Nat.sub_zero, if_true, if_false, Bool.false_eq_true, Bool.not_true, Bool.not_false, reduceIte, flat, flatAll, flat_optD, flat_cellD, Bool.and_true, Bool.true_and, Bool.and_self, true_and, and_true, and_self, decide_true, decide_false, List.drop_zero, Int.toNat_natCast, Nat.reduceLeDiff, reduceCtorEq])
theorem any_keys (l : List Task) (k : Task) : (l.map keyD).any (fun z => PyData.eqv z (keyD k)) = decide (k ∈ l) := by
  induction l with
  | nil => rfl
  | cons a l ih =>
    rw [List.map_cons, List.any_cons, eqv_keyD, ih]
    by_cases h : a = k
    · subst h; simp
    · simp [h, Ne.symm h]
theorem any_tks (s : StepT) (k : Task) : (s.map tkD).any (fun z => PyData.eqv z (keyD k)) = decide (k ∈ s.filterMap id) := by
  induction s with
  | nil => rfl
  | cons a l ih =>
    rw [List.map_cons, List.any_cons, ih]
    cases a with
    | none =>
      have : PyData.eqv (tkD none) (keyD k) = false := by unfold tkD keyD; rw [PyData.eqv]
      rw [this]
      rfl
    | some x =>
      have : PyData.eqv (tkD (some x)) (keyD k) = decide (x = k) := eqv_keyD x k
      rw [this]
      by_cases h : x = k
      · subst h; simp
      · simp [h, Ne.symm h]
theorem canLay_tks (l : StepT) : PyData.canLayAll0 (l.map tkD) = true := by
  induction l with
  | nil => rfl
  | cons a r ih =>
    cases a with
    | none => simp only [List.map_cons, tkD, PyData.canLayAll0, PyData.canLay0, ih, Bool.and_self]
    | some k => simp only [List.map_cons, tkD, PyData.canLayAll0, canLay_keyD, ih, Bool.and_self]
theorem depth_tks (l : StepT) : PyData.depthAll (l.map tkD) ≤ 2 := by
  induction l with
  | nil => simp [PyData.depthAll]
  | cons a r ih =>
    cases a with
    | none => simp only [List.map_cons, tkD, PyData.depthAll, PyData.depth]; omega
    | some k =>
      have := depth_keyD k
      simp only [List.map_cons, tkD, PyData.depthAll]
      omega
theorem shaped_step (s : StepT) : SeqAt.shaped (.tuple (s.map tkD)) = true := by
  unfold SeqAt.shaped
  have := depth_tks s
  simp only [Bool.and_eq_true, decide_eq_true_eq]
  refine ⟨by rw [PyData.canLay0]; exact canLay_tks s, ?_⟩
  rw [PyData.depth]
  omega
theorem take_filter {s : StepT} {w : Nat} {o : Option Task} (h : s[w]? = some o) : (s.take (w + 1)).filterMap id = (s.take w).filterMap id ++ o.toList := by
  rw [List.take_succ, h, List.filterMap_append]
  cases o <;> rfl
end DL

/-! M15b: folded refused; each cell at home. -/
namespace DL
open PySem PySem.Spec L2
local macro_rules | `(tactic| walk_at "d") => `(tactic| simp (config := { failIfUnchanged := false }) only [dSeq_e, dSkip_e, dLcX_e, mulSD_e, dStrM_e, splitD_s, dAsgD_e, dPut_e, dPv_e, dPx_e, dLcD_e, dListRng_e, dListZip_e, dKind_e, dExt_e, dPopS_e, dIns_e, onlyD, dNewT_e, dPutT_e, dUpd_e, dForC_e, dPopV_e, dRem_e, dPopD_e, dSwap_e, dWorks_e, dRaiseR_e, dTold_e, dInsD_e, dInsP_e, dNewH_e, dDo_e, dNetF_e, dFeedF_e, dCellsF_e, dSelf_e, inDicD_k, ninDicD_k, dictPD_k, flat_keyD, dNever_e, dAsg_e, dAsgA_e, dAsgF_e, dAsgL_e, dAsgLA_e, dDrop_e, dRet_e, dRetN_e, dRetL_e, dIfS_e, dApp_e, dAppA_e, dFor_e, dForA_e, dForF_e, dVar_e, dC_e, dNil_e, dCons_e, dTup_e, dLst_e, dOp_e, dChain_e, asB_e, dAnd_e, dOr_e, dNot_e, dAndV_e, dOrV_e, dNotV_e, dIf_e, dSl_e, dPart_e, dNoPart_e, dCB_e, dCall_e, dCallL_e, dLc_e, dLcL_e, dListL_e, dItems_e, dRng1_e, dRng2_e, dRng3_e, dIsi_e, dIsi2_e, dRaise_e, dNeg_e, tgn_e, tgt_e, setAll, frz, wipeD, envOf, lawEnv, lawEnds,
  oEr_e, oEl_e, oEx_e, oLl_e, oLx_e, inD_t, inD_l, ninD_t, ninD_l, List.any_cons, List.any_nil, Bool.or_false, addD_ii, addD_ss, addD_tt, addD_ll, subD_ii, mulD_ii, mulD_li, mulD_ti, dMinDf_e, dRetF_e, dPar_e, dEnum_e, fdivD_ii, modD_ii, powD_ii, cmpD_ii, isD_n, notD_n, isN_none, isN_int, isN_str, isN_tuple, isN_list, isN_opt, Option.isNone_none, Option.isNone_some, eqD_e, neD_e, ixD_t, ixD_l, slD_t, slD_l, lenD_t, lenD_l, tupleD_rng, tupleD_t, tupleD_l, listD_t, listD_l, min2D_ii, max2D_ii, absD_i, intD_i, intD_b, seqD_t, seqD_l, seqD_row, at0, at1, at2, at3, len_row, ixD_c0, ixD_c1, ixD_c2, ixD_n0, ixD_n1, ixD_n2, ixD_f0, ixD_f1, eqv_ii, shaped_int,
  List.map_cons, List.map_nil, List.set_cons_zero, List.set_cons_succ, List.set_nil, List.getElem?_cons_zero, List.getElem?_cons_succ, List.getElem?_nil, List.replicate_succ, List.replicate_zero, List.cons_append, List.nil_append, List.length_cons, List.length_nil, Nat.reduceAdd, Nat.reduceSub, Nat.add_zero, Nat.zero_add, Nat.sub_self, Nat.sub_zero, if_true, if_false, Bool.false_eq_true, Bool.not_true, Bool.not_false, reduceIte, flat, flatAll, flat_optD, flat_cellD, Bool.and_true, Bool.true_and, Bool.and_self, true_and, and_true, and_self, decide_true, decide_false, List.drop_zero, Int.toNat_natCast, Nat.reduceLeDiff, reduceCtorEq])
theorem folded_no {k : Kd} {b r c : Nat} {w : Int} {P : O → Prop} (hb : b ≤ 60) (h1 : 1 ≤ r) (h2 : r ≤ 6) (h3 : 1 ≤ c) (h4 : c ≤ 6) (hw : ¬ (1 ≤ w ∧ w ≤ ((r * c : Nat) : Int))) (q : P (.exc "NoCount" none)) : S_folded [netD k r c, .int (b : Nat), .int w] P := by
  have hnc : r * c ≤ 36 := Nat.mul_le_mul h2 h4
  refine ⟨rfl, ?_⟩
  unfold F_folded
  walk_at "d"
  refine need_net_ok h1 h2 h3 h4 ?_
  walk_at "d"
  refine need_beats_ok hb ?_
  walk_at "d"
  refine tasks_of_ok (b := 1) (by omega) h2 h4 ?_
  walk_at "d"
  rw [cells_eq h2 h4]
  refine ⟨by simp; omega, ?_⟩
  refine lcD_map (fun d => match d with | .tuple ds => .tuple (ds.drop 1) | _ => .none) (fun x hx Q hq => ?_) ?_
  · rw [List.map_map] at hx
    obtain ⟨p, hp, rfl⟩ := List.mem_map.mp hx
    show (Tg.nm 9).d (keyD (Tk c 0 p)) _ _
    unfold keyD Tk
    walk_at "d"
    rw [show (1 : Int) = ((1 : Nat) : Int) from rfl, cut_a]
    exact hq
  have el : ((((List.range (r * c)).map fun p => Tk c 0 p).map keyD).map fun d => match d with | .tuple ds => PyData.tuple (ds.drop 1) | _ => .none).length = r * c := by simp
  rw [el]
  by_cases a : 1 ≤ w
  · have a2 : ¬ w ≤ ((r * c : Nat) : Int) := fun z => hw ⟨a, z⟩
    rw [if_pos (by simpa using a)]
    rw [decide_eq_false a2]
    simp only [Bool.not_false, if_true]
    exact q
  · rw [if_neg (by simpa using a)]
    exact q
def Ck (c p : Nat) : Task := [((p / c : Nat) : Int), ((p % c : Nat) : Int)]
theorem Ck_inj {c p p' : Nat} (h : Ck c p = Ck c p') : p = p' := by
  have : Tk c 0 p = Tk c 0 p' := by
    unfold Ck at h
    unfold Tk
    rw [h]
  exact (Tk_inj this).2
theorem getT_put {kvs : List (List Int × PyData)} {k k' : Task} {v : PyData} (hn : getT kvs k = none) : getT (putT kvs k v) k' = if k = k' then some v else getT kvs k' := by
  have hany : (kvs.any fun e => decide (e.1 = k)) = false := by
    unfold getT at hn
    rw [Option.map_eq_none_iff, List.find?_eq_none] at hn
    rw [List.any_eq_false]
    intro x hx
    exact hn x hx
  unfold putT
  rw [if_neg (by rw [hany]; decide)]
  unfold getT
  rw [List.find?_append]
  by_cases e : k = k'
  · subst e
    rw [if_pos rfl]
    unfold getT at hn
    rw [Option.map_eq_none_iff] at hn
    rw [hn]
    simp
  · rw [if_neg e]
    cases h : kvs.find? (fun e => decide (e.1 = k')) with
    | some y => rfl
    | none => simp [e]
theorem keys_put {kvs : List (List Int × PyData)} {k : Task} {v : PyData} (hn : getT kvs k = none) : (putT kvs k v).map (·.1) = kvs.map (·.1) ++ [k] ∧ k ∉ kvs.map (·.1) := by
  have hany : (kvs.any fun e => decide (e.1 = k)) = false := by
    unfold getT at hn
    rw [Option.map_eq_none_iff, List.find?_eq_none] at hn
    rw [List.any_eq_false]
    intro x hx
    exact hn x hx
  unfold putT
  rw [if_neg (by rw [hany]; decide)]
  refine ⟨by simp, fun z => ?_⟩
  obtain ⟨x, hx, e⟩ := List.mem_map.mp z
  rw [List.any_eq_false] at hany
  exact hany x hx (by simpa using e)
end DL

/-! M14i: the law k14. -/
namespace DL
open PySem PySem.Spec L2
local macro_rules | `(tactic| walk_at "d") => `(tactic| simp (config := { failIfUnchanged := false }) only [dSkip_e, dLcX_e, mulSD_e, dStrM_e, splitD_s, dAsgD_e, dPut_e, dPv_e, dPx_e, dLcD_e, dListRng_e, dListZip_e, dKind_e, dExt_e, dPopS_e, dIns_e, onlyD, dNewT_e, dPutT_e, dUpd_e, dForC_e, dPopV_e, dRem_e, dPopD_e, dSwap_e, dWorks_e, dRaiseR_e, dTold_e, dInsD_e, dInsP_e, dNewH_e, dDo_e, dNetF_e, dFeedF_e, dCellsF_e, dSelf_e, inDicD_k, ninDicD_k, dictPD_k, flat_keyD, dNever_e, dAsg_e, dAsgA_e, dAsgF_e, dAsgL_e, dAsgLA_e, dDrop_e, dRet_e, dRetN_e, dRetL_e, dIfS_e, dApp_e, dAppA_e, dFor_e, dForA_e, dForF_e, dVar_e, dC_e, dNil_e, dCons_e, dTup_e, dLst_e, dOp_e, dChain_e, asB_e, dAnd_e, dOr_e, dNot_e, dAndV_e, dOrV_e, dNotV_e, dIf_e, dSl_e, dPart_e, dNoPart_e, dCB_e, dCall_e, dCallL_e, dLc_e, dLcL_e, dListL_e, dItems_e, dRng1_e, dRng2_e, dRng3_e, dIsi_e, dIsi2_e, dRaise_e, dNeg_e, tgn_e, tgt_e, setAll, frz, wipeD, envOf, lawEnv, lawEnds,
  oEr_e, oEl_e, oEx_e, oLl_e, oLx_e, inD_t, inD_l, ninD_t, ninD_l, List.any_cons, List.any_nil, Bool.or_false, addD_ii, addD_ss, addD_tt, addD_ll, subD_ii, mulD_ii, mulD_li, mulD_ti, dMinDf_e, dRetF_e, dPar_e, dEnum_e, fdivD_ii, modD_ii, powD_ii, cmpD_ii, isD_n, notD_n, isN_none, isN_int, isN_str, isN_tuple, isN_list, isN_opt, Option.isNone_none, Option.isNone_some, eqD_e, neD_e, ixD_t, ixD_l, slD_t, slD_l, lenD_t, lenD_l, tupleD_rng, tupleD_t, tupleD_l, listD_t, listD_l, min2D_ii, max2D_ii, absD_i, intD_i, intD_b, seqD_t, seqD_l, seqD_row, at0, at1, at2, at3, len_row, ixD_c0, ixD_c1, ixD_c2, ixD_n0, ixD_n1, ixD_n2, ixD_f0, ixD_f1, eqv_ii, shaped_int,
  List.map_cons, List.map_nil, List.set_cons_zero, List.set_cons_succ, List.set_nil, List.getElem?_cons_zero, List.getElem?_cons_succ, List.getElem?_nil, List.replicate_succ, List.replicate_zero, List.cons_append, List.nil_append, List.length_cons, List.length_nil, Nat.reduceAdd, Nat.reduceSub, Nat.add_zero, Nat.zero_add, Nat.sub_self, Nat.sub_zero, if_true, if_false, Bool.false_eq_true, Bool.not_true, Bool.not_false, reduceIte, flat, flatAll, flat_optD, flat_cellD, Bool.and_true, Bool.true_and, Bool.and_self, true_and, and_true, and_self, decide_true, decide_false, List.drop_zero, Int.toNat_natCast, Nat.reduceLeDiff, reduceCtorEq])
def ddL (L : List StepT) : List PyData := L.map fun s => .list (s.map tkD)
theorem ddL_get {L : List StepT} {i : Nat} {s : StepT} (h : L[i]? = some s) : (ddL L)[i]? = some (.list (s.map tkD)) := by
  unfold ddL
  rw [List.getElem?_map, h]
  rfl
theorem ddL_len (L : List StepT) : (ddL L).length = L.length := by unfold ddL; rw [List.length_map]
theorem shaped_ddL (L : List StepT) : SeqAt.shaped (.list (ddL L)) = true := by
  have h1 : PyData.canLayAll0 (ddL L) = true := by
    unfold ddL
    induction L with
    | nil => rfl
    | cons a r ih =>
      simp only [List.map_cons, PyData.canLayAll0, PyData.canLay0, canLay_tks, Bool.true_and]
      exact ih
  have h2 : PyData.depthAll (ddL L) ≤ 3 := by
    clear h1
    unfold ddL
    induction L with
    | nil => simp [PyData.depthAll]
    | cons a r ih =>
      have := depth_tks a
      simp only [List.map_cons, PyData.depthAll, PyData.depth]
      omega
  unfold SeqAt.shaped
  simp only [Bool.and_eq_true, decide_eq_true_eq]
  refine ⟨by rw [PyData.canLay0]; exact h1, ?_⟩
  rw [PyData.depth]
  omega
theorem ddL_empty (L : List StepT) : (ddL L).isEmpty = L.isEmpty := by cases L <;> rfl
theorem ddL_nil (L : List StepT) : PyData.eqv (.list (ddL L)) (.list []) = L.isEmpty := by rw [eqv_nil, ddL_empty]
theorem insPop_map {α β : Type} (f : α → β) (l : List α) (a b : Nat) : insPop (l.map f) a b = (insPop l a b).map f := by
  unfold insPop
  rw [← PySem.map_eraseIdx, List.map_append, List.map_append, List.map_take, List.map_drop, List.getElem?_map]
  congr 2
  cases l[b]? <;> rfl
theorem mem_insPop {α : Type} {l : List α} {a b : Nat} {x : α} (h : x ∈ insPop l a b) : x ∈ l := by
  unfold insPop at h
  rcases List.mem_append.mp h with h | h
  · rcases List.mem_append.mp h with h | h
    · exact List.mem_of_mem_eraseIdx (List.mem_of_mem_take h)
    · cases e : l[b]? with
      | none => rw [e] at h; cases h
      | some y =>
        rw [e] at h
        have : x = y := by simpa using h
        rw [this]
        exact List.mem_of_getElem? e
  · exact List.mem_of_mem_eraseIdx (List.mem_of_mem_drop h)
/-- one thing put -/
theorem put_ddL {L : List StepT} {a w : Nat} {s : StepT} {o : Option Task} (h : L[a]? = some s) (hw : w < s.length) : putE (some (.deep 0 (ddL L))) [a, w] (tkD o) = some (.deep 0 (ddL (L.set a (s.set w o)))) := by
  show (putP 1 (ddL L) [a, w] (tkD o)).map (EV.deep 0) = _
  unfold putP
  rw [ddL_get h]
  simp only
  unfold putP
  rw [List.length_map, if_pos hw]
  simp only [Option.map_some]
  congr 2
  unfold ddL
  rw [List.map_set, List.map_set]
theorem len_ddL0 {L : List StepT} : lenE (some (.deep 0 (ddL L))) [] = some L.length := by
  show lenP 1 (ddL L) [] = _
  unfold lenP
  rw [ddL_len]
theorem len_ddL1 {L : List StepT} {a : Nat} {s : StepT} (h : L[a]? = some s) : lenE (some (.deep 0 (ddL L))) [a] = some s.length := by
  show lenP 1 (ddL L) [a] = _
  unfold lenP
  rw [ddL_get h]
  show lenP 0 (s.map tkD) [] = _
  unfold lenP
  rw [List.length_map]
theorem wid_set {L : List StepT} {a w n : Nat} {s : StepT} {o : Option Task} (hL : ∀ s ∈ L, s.length = n) (h : L[a]? = some s) : ∀ s' ∈ L.set a (s.set w o), s'.length = n := fun s' hs => by
  rcases List.mem_or_eq_of_mem_set hs with z | z
  · exact hL _ z
  · rw [z, List.length_set]; exact hL _ (List.mem_of_getElem? h)
theorem ixN_n {n i : Nat} (h : i < n) : ixN n ((i : Nat) : Int) = some i := by
  unfold ixN
  simp
  omega
theorem odd_get {x : Nat} {l : List (Option Task)} {Q : PyData → Prop} (h : x < l.length) (q : ∀ o : Option Task, Q (tkD o)) : ixD (.list (l.map tkD)) (.int (x : Nat)) Q := by
  rw [ixD_l, atI_nat (show (l.map tkD)[x]? = some (tkD l[x]) by rw [List.getElem?_map, List.getElem?_eq_getElem h]; rfl)]
  exact q _
theorem wrongAt_str {every done fresh : List Task} {k : Task} {x : Str} (h : wrongAt every done fresh k = some x) : SeqAt.shaped (.str x) = true := by
  unfold wrongAt at h
  split at h
  · cases h; decide +kernel
  · split at h
    · cases h; decide +kernel
    · split at h
      · cases h; decide +kernel
      · cases h
theorem scan_str {every done : List Task} {s : StepT} : ∀ {w : Nat} {fresh : List Task} {x : Str} {m : Nat}, scanF every done w fresh s = .inl (x, m) → SeqAt.shaped (.str x) = true := by
  induction s with
  | nil => intro w fresh x m h; cases h
  | cons o r ih =>
    intro w fresh x m h
    cases o with
    | none => exact ih h
    | some k =>
      unfold scanF at h
      split at h
      · rename_i y e
        cases h
        exact wrongAt_str e
      · exact ih h
theorem go_str {every : List Task} {ss : List StepT} : ∀ {n : Nat} {done : List Task} {p : Str × Nat × Nat}, goF every n done ss = .inl p → SeqAt.shaped (.str p.1) = true := by
  induction ss with
  | nil => intro n done p h; cases h
  | cons s ss ih =>
    intro n done p h
    unfold goF at h
    split at h
    · rename_i x w e
      cases h
      exact scan_str e
    · exact ih h
theorem pl_wrong {n b r c : Nat} {ss : List StepT} : Pl (n + 4) (wrongF (tasksF b r c) ss) := by
  unfold wrongF
  have pk : ∀ k : Task, k.length ≤ 10000 → Pl (n + 3) (keyD k) := fun k hk => by
    refine ⟨by rw [List.length_map]; exact hk, fun x hx => ?_⟩
    obtain ⟨i, _, rfl⟩ := List.mem_map.mp hx
    trivial
  have all : ∀ res : Sum (Str × Nat × Nat) (List Task), (∀ p, res = .inl p → SeqAt.shaped (.str p.1) = true) → Pl (n + 4) (endF (tasksF b r c) res) := fun res hstr => by
    cases res with
    | inl p =>
      refine ⟨by simp, fun x hx => ?_⟩
      simp only [List.mem_cons, List.not_mem_nil, or_false] at hx
      rcases hx with rfl | rfl | rfl
      · exact hstr p rfl
      · trivial
      · trivial
    | inr done =>
      unfold endF
      simp only
      split
      · trivial
      · rename_i k l he
        have hk : k ∈ tasksF b r c := (List.mem_filter.mp (by rw [he]; exact List.mem_cons_self)).1
        obtain ⟨t, i, j, _, _, _, rfl⟩ := mem_tasks.mp hk
        refine ⟨by simp, fun x hx => ?_⟩
        simp only [List.mem_cons, List.not_mem_nil, or_false] at hx
        rcases hx with rfl | rfl
        · show SeqAt.shaped _ = true
          decide +kernel
        · exact pk _ (by simp)
  exact all _ fun p h => go_str h
theorem shaped_sch (ss : List StepT) : SeqAt.shaped (schD ss) = true := by
  have h2 : PyData.depthAll (ss.map stepD) ≤ 3 := by
    induction ss with
    | nil => simp [PyData.depthAll]
    | cons a r ih =>
      have := depth_tks a
      simp only [List.map_cons, PyData.depthAll, stepD, PyData.depth] at ih ⊢
      omega
  have h1 : PyData.canLayAll0 (ss.map stepD) = true := by
    clear h2
    induction ss with
    | nil => rfl
    | cons a r ih =>
      simp only [List.map_cons, PyData.canLayAll0, stepD, PyData.canLay0, canLay_tks, Bool.true_and] at ih ⊢
      exact ih
  unfold SeqAt.shaped schD
  simp only [Bool.and_eq_true, decide_eq_true_eq]
  refine ⟨by rw [PyData.canLay0]; exact h1, ?_⟩
  rw [PyData.depth]
  omega
end DL

/-! M16c: the law k16. -/
namespace DL
open PySem PySem.Spec L2
local macro_rules | `(tactic| walk_at "d") => `(tactic| simp (config := { failIfUnchanged := false }) only [dSkip_e, dLcX_e, mulSD_e, dStrM_e, splitD_s, dAsgD_e, dPut_e, dPv_e, dPx_e, dLcD_e, dListRng_e, dListZip_e, dKind_e, dExt_e, dPopS_e, dIns_e, onlyD, dNewT_e, dPutT_e, dUpd_e, dForC_e, dPopV_e, dRem_e, dPopD_e, dSwap_e, dWorks_e, dRaiseR_e, dTold_e, dInsD_e, dInsP_e, dNewH_e, dDo_e, dNetF_e, dFeedF_e, dCellsF_e, dSelf_e, inDicD_k, ninDicD_k, dictPD_k, flat_keyD, dNever_e, dAsg_e, dAsgA_e, dAsgF_e, dAsgL_e, dAsgLA_e, dDrop_e, dRet_e, dRetN_e, dRetL_e, dIfS_e, dApp_e, dAppA_e, dFor_e, dForA_e, dForF_e, dVar_e, dC_e, dNil_e, dCons_e, dTup_e, dLst_e, dOp_e, dChain_e, asB_e, dAnd_e, dOr_e, dNot_e, dAndV_e, dOrV_e, dNotV_e, dIf_e, dSl_e, dPart_e, dNoPart_e, dCB_e, dCall_e, dCallL_e, dLc_e, dLcL_e, dListL_e, dItems_e, dRng1_e, dRng2_e, dRng3_e, dIsi_e, dIsi2_e, dRaise_e, dNeg_e, tgn_e, tgt_e, setAll, frz, wipeD, envOf, lawEnv, lawEnds,
  oEr_e, oEl_e, oEx_e, oLl_e, oLx_e, inD_t, inD_l, ninD_t, ninD_l, List.any_cons, List.any_nil, Bool.or_false, addD_ii, addD_ss, addD_tt, addD_ll, subD_ii, mulD_ii, mulD_li, mulD_ti, dMinDf_e, dRetF_e, dPar_e, dEnum_e, fdivD_ii, modD_ii, powD_ii, cmpD_ii, isD_n, notD_n, isN_none, isN_int, isN_str, isN_tuple, isN_list, isN_opt, Option.isNone_none, Option.isNone_some, eqD_e, neD_e, ixD_t, ixD_l, slD_t, slD_l, lenD_t, lenD_l, tupleD_rng, tupleD_t, tupleD_l, listD_t, listD_l, min2D_ii, max2D_ii, absD_i, intD_i, intD_b, seqD_t, seqD_l, seqD_row, at0, at1, at2, at3, len_row, ixD_c0, ixD_c1, ixD_c2, ixD_n0, ixD_n1, ixD_n2, ixD_f0, ixD_f1, eqv_ii, shaped_int,
  List.map_cons, List.map_nil, List.set_cons_zero, List.set_cons_succ, List.set_nil, List.getElem?_cons_zero, List.getElem?_cons_succ, List.getElem?_nil, List.replicate_succ, List.replicate_zero, List.cons_append, List.nil_append, List.length_cons, List.length_nil, Nat.reduceAdd, Nat.reduceSub, Nat.add_zero, Nat.zero_add, Nat.sub_self, Nat.sub_zero, if_true, if_false, Bool.false_eq_true, Bool.not_true, Bool.not_false, reduceIte, flat, flatAll, flat_optD, flat_cellD, Bool.and_true, Bool.true_and, Bool.and_self, true_and, and_true, and_self, decide_true, decide_false, List.drop_zero, Int.toNat_natCast, Nat.reduceLeDiff, reduceCtorEq])
theorem states_lastF {k : Kd} {r c b : Nat} {L T : Nat → List (Option Int)} : atI (stD r c (firstF k) :: statesD k r c L T b) (-1) = some (stD r c (stateF k L T b)) := by
  have el : (stD r c (firstF k) :: statesD k r c L T b).length = b + 1 := by unfold statesD; simp
  unfold atI
  rw [el]
  have e : ixN (b + 1) (-1) = some b := by
    unfold ixN
    simp
    omega
  rw [e]
  cases b with
  | zero => rfl
  | succ b =>
    unfold statesD
    simp
end DL

/-! M17b: the law k17. -/
namespace DL
open PySem PySem.Spec L2
local macro_rules | `(tactic| walk_at "d") => `(tactic| simp (config := { failIfUnchanged := false }) only [dSkip_e, dLcX_e, mulSD_e, dStrM_e, splitD_s, dAsgD_e, dPut_e, dPv_e, dPx_e, dLcD_e, dListRng_e, dListZip_e, dKind_e, dExt_e, dPopS_e, dIns_e, onlyD, dNewT_e, dPutT_e, dUpd_e, dForC_e, dPopV_e, dRem_e, dPopD_e, dSwap_e, dWorks_e, dRaiseR_e, dTold_e, dInsD_e, dInsP_e, dNewH_e, dDo_e, dNetF_e, dFeedF_e, dCellsF_e, dSelf_e, inDicD_k, ninDicD_k, dictPD_k, flat_keyD, dNever_e, dAsg_e, dAsgA_e, dAsgF_e, dAsgL_e, dAsgLA_e, dDrop_e, dRet_e, dRetN_e, dRetL_e, dIfS_e, dApp_e, dAppA_e, dFor_e, dForA_e, dForF_e, dVar_e, dC_e, dNil_e, dCons_e, dTup_e, dLst_e, dOp_e, dChain_e, asB_e, dAnd_e, dOr_e, dNot_e, dAndV_e, dOrV_e, dNotV_e, dIf_e, dSl_e, dPart_e, dNoPart_e, dCB_e, dCall_e, dCallL_e, dLc_e, dLcL_e, dListL_e, dItems_e, dRng1_e, dRng2_e, dRng3_e, dIsi_e, dIsi2_e, dRaise_e, dNeg_e, tgn_e, tgt_e, setAll, frz, wipeD, envOf, lawEnv, lawEnds,
  oEr_e, oEl_e, oEx_e, oLl_e, oLx_e, inD_t, inD_l, ninD_t, ninD_l, List.any_cons, List.any_nil, Bool.or_false, addD_ii, addD_ss, addD_tt, addD_ll, subD_ii, mulD_ii, mulD_li, mulD_ti, dMinDf_e, dRetF_e, dPar_e, dEnum_e, fdivD_ii, modD_ii, powD_ii, cmpD_ii, isD_n, notD_n, isN_none, isN_int, isN_str, isN_tuple, isN_list, isN_opt, Option.isNone_none, Option.isNone_some, eqD_e, neD_e, ixD_t, ixD_l, slD_t, slD_l, lenD_t, lenD_l, tupleD_rng, tupleD_t, tupleD_l, listD_t, listD_l, min2D_ii, max2D_ii, absD_i, intD_i, intD_b, seqD_t, seqD_l, seqD_row, at0, at1, at2, at3, len_row, ixD_c0, ixD_c1, ixD_c2, ixD_n0, ixD_n1, ixD_n2, ixD_f0, ixD_f1, eqv_ii, shaped_int,
  List.map_cons, List.map_nil, List.set_cons_zero, List.set_cons_succ, List.set_nil, List.getElem?_cons_zero, List.getElem?_cons_succ, List.getElem?_nil, List.replicate_succ, List.replicate_zero, List.cons_append, List.nil_append, List.length_cons, List.length_nil, Nat.reduceAdd, Nat.reduceSub, Nat.add_zero, Nat.zero_add, Nat.sub_self, Nat.sub_zero, if_true, if_false, Bool.false_eq_true, Bool.not_true, Bool.not_false, reduceIte, flat, flatAll, flat_optD, flat_cellD, Bool.and_true, Bool.true_and, Bool.and_self, true_and, and_true, and_self, decide_true, decide_false, List.drop_zero, Int.toNat_natCast, Nat.reduceLeDiff, reduceCtorEq])
theorem swapL_map {α β : Type} (f : α → β) (l : List α) (a b : Nat) : swapL (l.map f) a b = (swapL l a b).map f := by
  unfold swapL
  rw [List.getElem?_map, List.getElem?_map]
  cases l[a]? <;> cases l[b]? <;> simp [List.map_set]
theorem mem_swapL {α : Type} {l : List α} {a b : Nat} {x : α} (h : x ∈ swapL l a b) : x ∈ l := by
  unfold swapL at h
  split at h
  · rename_i y z e1 e2
    rcases List.mem_or_eq_of_mem_set h with h | h
    · rcases List.mem_or_eq_of_mem_set h with h | h
      · exact h
      · rw [h]; exact List.mem_of_getElem? e2
    · rw [h]; exact List.mem_of_getElem? e1
  · exact h
theorem turned17_ok {w : Nat} {ss : List StepT} {P : O → Prop} (hw1 : 1 ≤ w) (hw : w ≤ 100) (h0 : 0 < ss.length) (hn : ss.length ≤ 10000) (hwid : ∀ s ∈ ss, s.length = w) (q : ∀ L : List StepT, L.length ≤ ss.length + 1 → P (.ret (schD L))) : S__law_turned [.dict [], schD ss] P := by
  refine ⟨rfl, ?_⟩
  unfold F__law_turned schD
  refine seq_g fun K h => ?_
  walk_at "d"
  refine ⟨by rw [List.length_map]; omega, ?_⟩
  refine lcD_map (fun d => match d with | .tuple ds => .list ds | _ => .none) (fun x hx Q hq => ?_) ?_
  · obtain ⟨s, hs, rfl⟩ := List.mem_map.mp hx
    unfold stepD
    walk_at "d"
    exact hq
  have e0 : ((ss.map stepD).map fun d => match d with | .tuple ds => .list ds | _ => .none) = ddL ss := by
    rw [List.map_map]
    rfl
  rw [e0]
  refine h _ ?_
  refine seq_g fun K h => ?_
  walk_at "d"
  rw [ddL_len]
  refine drawn_e (by omega) (Int.le_trans (by omega : ((ss.length : Nat) : Int) ≤ 10000) (by decide)) fun at_ hat => ?_
  have hat' : at_ < ss.length := by omega
  walk_at "d"
  refine h _ ?_
  refine seq_g fun K h => ?_
  walk_at "d"
  rw [ddL_len]
  refine drawn_e (by omega) (Int.le_trans (by omega : ((ss.length : Nat) : Int) ≤ 10000) (by decide)) fun ot hot => ?_
  have hot' : ot < ss.length := by omega
  walk_at "d"
  refine h _ ?_
  refine seq_g fun K h => ?_
  walk_at "d"
  have hs0 : ss[0]? = some ss[0] := List.getElem?_eq_getElem h0
  generalize ss[0] = s0 at hs0
  have hs0w : s0.length = w := hwid s0 (List.mem_of_getElem? hs0)
  rw [show ((0 : Int)) = ((0 : Nat) : Int) from rfl, atI_nat (ddL_get hs0)]
  walk_at "d"
  rw [List.length_map, hs0w]
  refine drawn_e (by omega) (small_big (by omega)) fun wk hwk => ?_
  have hwk' : wk < w := by omega
  walk_at "d"
  refine h _ ?_
  refine seq_g fun K h => ?_
  walk_at "d"
  refine drawn_e (by decide) (by decide) fun way hway => ?_
  refine h _ ?_
  refine seq_g fun K h => ?_
  have fin : ∀ (L : List StepT) e7, L.length ≤ ss.length + 1 → K [.d (.dict []), .d (.list (ss.map stepD)), .deep 0 (ddL L), .d (.int (at_ : Nat)), .d (.int (ot : Nat)), .d (.int (wk : Nat)), .d (.int (way : Nat)), e7] := fun L e7 h2 => by
    refine h _ ?_
    walk_at "d"
    refine ⟨by rw [ddL_len]; omega, ?_⟩
    refine lcD_map (fun d => match d with | .list ds => .tuple ds | _ => .none) (fun x hx Q hq => ?_) ?_
    · unfold ddL at hx
      obtain ⟨s, hs, rfl⟩ := List.mem_map.mp hx
      walk_at "d"
      exact hq
    · have e1 : ((ddL L).map fun d => match d with | .list ds => .tuple ds | _ => .none) = L.map stepD := by
        unfold ddL
        rw [List.map_map]
        rfl
      rw [e1]
      exact q L h2
  have hsat : ss[at_]? = some ss[at_] := List.getElem?_eq_getElem hat'
  generalize ss[at_] = sa at hsat
  have hsaw : sa.length = w := hwid sa (List.mem_of_getElem? hsat)
  have hsot : ss[ot]? = some ss[ot] := List.getElem?_eq_getElem hot'
  generalize ss[ot] = so at hsot
  have hsow : so.length = w := hwid so (List.mem_of_getElem? hsot)
  have hb : ∀ n : Nat, ((way : Int) == (n : Int)) = decide (way = n) := fun n => by
    by_cases hz : way = n
    · subst hz; simp
    · rw [decide_eq_false hz]
      simp only [beq_eq_false_iff_ne, ne_eq]
      omega
  have hb0 : ((way : Int) == 0) = decide (way = 0) := hb 0
  have hb1 : ((way : Int) == 1) = decide (way = 1) := hb 1
  have hb2 : ((way : Int) == 2) = decide (way = 2) := hb 2
  have hb3 : ((way : Int) == 3) = decide (way = 3) := hb 3
  walk_at "d"
  by_cases w0 : way = 0
  · simp only [hb0, w0, decide_true, if_true]
    refine ⟨at_, rfl, by rw [ddL_len]; exact hat', by omega, ?_⟩
    have e : (ddL ss).eraseIdx at_ = ddL (ss.eraseIdx at_) := by unfold ddL; rw [PySem.map_eraseIdx]
    rw [e]
    have f := fin (ss.eraseIdx at_) .un (Nat.le_trans (List.length_eraseIdx_le _ _) (Nat.le_succ _))
    rw [w0] at f
    exact f
  simp only [hb0, w0, decide_false, Bool.false_eq_true, if_false]
  by_cases w1 : way = 1
  · simp only [hb1, w1, decide_true, if_true]
    refine ⟨ot, rfl, by rw [ddL_len]; omega, by rw [ddL_len]; omega, ?_⟩
    rw [atI_nat (ddL_get hsat)]
    refine ⟨(by have := flat_step sa; exact this), ?_⟩
    have e : (ddL ss).take ot ++ [PyData.list (sa.map tkD)] ++ (ddL ss).drop ot = ddL (ss.take ot ++ [sa] ++ ss.drop ot) := by
      unfold ddL
      simp
    rw [e]
    have f := fin (ss.take ot ++ [sa] ++ ss.drop ot) .un ?_
    · rw [w1] at f
      exact f
    · simp only [List.length_append, List.length_take, List.length_drop, List.length_singleton]
      omega
  simp only [hb1, w1, decide_false, Bool.false_eq_true, if_false]
  by_cases w2 : way = 2
  · simp only [hb2, w2, decide_true, if_true]
    refine ⟨0, ddL ss, at_, ot, rfl, rfl, rfl, by rw [ddL_len]; exact hat', by rw [ddL_len]; exact hot', by simp, ?_⟩
    have e : swapL (ddL ss) at_ ot = ddL (swapL ss at_ ot) := swapL_map _ _ _ _
    rw [e]
    have f := fin (swapL ss at_ ot) .un (by rw [swapL_length]; omega)
    rw [w2] at f
    exact f
  simp only [hb2, w2, decide_false, Bool.false_eq_true, if_false]
  have put : ∀ o : Option Task, flat (tkD o) = true ∧ ∃ m j, lenE (some (.deep 0 (ddL ss))) [] = some m ∧ ixN m (at_ : Int) = some j ∧ ∃ m1 j1 e, lenE (some (.deep 0 (ddL ss))) ([] ++ [j]) = some m1 ∧ ixN m1 (wk : Int) = some j1 ∧ putE (some (.deep 0 (ddL ss))) ([] ++ [j] ++ [j1]) (tkD o) = some e ∧ K [.d (.dict []), .d (.list (ss.map stepD)), e, .d (.int (at_ : Nat)), .d (.int (ot : Nat)), .d (.int (wk : Nat)), .d (.int (way : Nat)), .un] := fun o => by
    refine ⟨flat_tk _, _, _, len_ddL0, ixN_n hat', _, _, _, len_ddL1 hsat, by rw [hsaw]; exact ixN_n hwk', put_ddL hsat (by omega), ?_⟩
    exact fin (ss.set at_ (sa.set wk o)) .un (by rw [List.length_set]; omega)
  by_cases w3 : way = 3
  · rw [if_pos (show ((way : Int) == 3) = true by rw [hb3, w3]; rfl)]
    have g2 : (so.map tkD)[wk]? = some (tkD so[wk]) := by rw [List.getElem?_map, List.getElem?_eq_getElem (by omega)]; rfl
    rw [atI_nat (ddL_get hsot)]
    walk_at "d"
    rw [atI_nat g2]
    walk_at "d"
    exact put _
  simp only [hb3, w3, decide_false, Bool.false_eq_true, if_false]
  walk_at "d"
  refine drawn_e (by decide) (by decide) fun od hod => ?_
  have hod' : od < 6 := by omega
  refine odd_get (l := [none, some [0, 6, 0], some [4, 0, 0], some [0, 0, 6], some [0 - 1, 0, 0], some [0, 0]]) (x := od) hod' fun o => ?_
  exact put o
theorem isN_nn {d : PyData} (h : isN d = true) : d = .none := by
  cases d <;> first | rfl | cases h
theorem pl_pair {n : Nat} {x : Str} {d : PyData} (hs : SeqAt.shaped (.str x) = true) (h : Pl (n + 1) d) : Pl (n + 2) (.tuple [.str x, d]) := by
  refine ⟨by simp, fun y hy => ?_⟩
  simp only [List.mem_cons, List.not_mem_nil, or_false] at hy
  rcases hy with rfl | rfl
  · exact hs
  · exact h
theorem states_at_last {k : Kd} {r c b : Nat} {L T : Nat → List (Option Int)} (hb : 1 ≤ b) : atI (statesD k r c L T b) (-1) = some (stD r c (stateF k L T b)) := by
  have el : (statesD k r c L T b).length = b := by unfold statesD; simp
  unfold atI
  rw [el]
  have e : ixN b (-1) = some (b - 1) := by
    unfold ixN
    simp
    omega
  rw [e]
  cases b with
  | zero => omega
  | succ b =>
    unfold statesD
    simp
theorem law_k17_holds : Law_k17 := by
  unfold Law_k17 F_law_k17
  refine seq_g fun K h => ?_
  walk_at "d"
  refine ⟨⟨by omega, by omega⟩, ?_⟩
  refine for_rng (n := 3) (fun i ρ => ∃ e2 e3 e4 e5 e6 e7 e8, ρ = [.un, .d (.dict []), e2, e3, e4, e5, e6, e7, e8]) ⟨_, _, _, _, _, _, _, rfl⟩ ?_ ?_
  · rintro i ρ Kt hi ⟨e2, e3, e4, e5, e6, e7, e8, rfl⟩ hk
    walk_at "d"
    refine seq_g fun K h => ?_
    walk_at "d"
    refine net_ok fun k r c h1 h2 h3 h4 => h _ ?_
    refine seq_g fun K h => ?_
    walk_at "d"
    refine law_feed_ok (m := 8) h2 h4 (by omega) fun L T hL hT hl8 ht8 => h _ ?_
    refine seq_g fun K h => ?_
    walk_at "d"
    refine drawn_e (by decide) (by decide) fun b0 hb0 => ?_
    walk_at "d"
    rw [show (1 : Int) + (b0 : Nat) = ((1 + b0 : Nat) : Int) by omega]
    have hb1 : 1 ≤ 1 + b0 := by omega
    have hb4 : 1 + b0 ≤ 4 := by omega
    generalize 1 + b0 = b at hb1 hb4
    have hb : b ≤ 60 := by omega
    have hnc : r * c ≤ 36 := Nat.mul_le_mul h2 h4
    have hpos : 1 ≤ r * c := Nat.mul_le_mul h1 h3
    refine h _ ?_
    refine seq_g fun K h => ?_
    walk_at "d"
    have hsm : (r : Int).natAbs.log2 + (c : Int).natAbs.log2 < 1000000 := by
      have a1 : (r : Int).natAbs.log2 ≤ 6 := by rw [Int.natAbs_natCast]; exact Nat.le_trans (Nat.log2_le_self _) h2
      have a2 : (c : Int).natAbs.log2 ≤ 6 := by rw [Int.natAbs_natCast]; exact Nat.le_trans (Nat.log2_le_self _) h4
      omega
    refine ⟨hsm, ?_⟩
    rw [show (r : Int) * (c : Int) = ((r * c : Nat) : Int) from (Int.natCast_mul _ _).symm]
    refine drawn_e (by omega) (small_big (by omega)) fun w0 hw0 => ?_
    walk_at "d"
    rw [show (1 : Int) + (w0 : Nat) = ((1 + w0 : Nat) : Int) by omega]
    have hw1 : 1 ≤ 1 + w0 := by omega
    have hwn : 1 + w0 ≤ r * c := by omega
    generalize 1 + w0 = w at hw1 hwn
    have hm := turns_pos hw1 hwn
    have hm36 : turnsF (r * c) w ≤ 36 := by
      unfold turnsF
      have : r * c + w - 1 < 37 * w := by
        have : r * c ≤ 36 * w := Nat.le_trans hnc (by omega)
        omega
      exact Nat.le_of_lt_succ ((Nat.div_lt_iff_lt_mul (by omega)).mpr this)
    have hln := fold_len (b := b) (n := r * c) (c := c) (w := w) (m := turnsF (r * c) w)
    have hwd := fold_wid (b := b) (n := r * c) (c := c) (w := w) (m := turnsF (r * c) w)
    have hbm : b * turnsF (r * c) w ≤ 60 * 36 := Nat.mul_le_mul hb hm36
    have hbp : 1 * 1 ≤ b * turnsF (r * c) w := Nat.mul_le_mul hb1 hm
    refine folded_ok hb h1 h2 h3 h4 hw1 hwn ?_
    walk_at "d"
    refine turned17_ok hw1 (by omega) (by omega) (by omega) hwd fun ss hss => ?_
    walk_at "d"
    refine h _ ?_
    refine seq_g fun K h => ?_
    walk_at "d"
    refine wrong_ok hb h1 h2 h3 h4 ?_
    walk_at "d"
    refine h _ ?_
    refine seq_g fun K h => ?_
    walk_at "d"
    refine h _ ?_
    refine seq_g fun K h => ?_
    walk_at "d"
    cases hw : isN (wrongF (tasksF b r c) ss) with
    | true =>
      have en := isN_nn hw
      simp only [if_true]
      refine run_ok h1 h2 h3 h4 hb hL hT ?_
      walk_at "d"
      rw [states_at_last hb1]
      walk_at "d"
      refine kept_in_ok h2 h4 ?_
      walk_at "d"
      refine h _ ?_
      walk_at "d"
      refine law_told_ok h1 h2 h3 h4 hb hL hT ?_
      rw [hw]
      walk_at "d"
      refine same_ok 12 _ ?_ _ ?_
      · exact pl_pair (n := 10) (by decide +kernel) (pl_tab (n := 8) h2 h4)
      walk_at "d"
      exact hk _ ⟨_, _, _, _, _, _, _, rfl⟩
    | false =>
      simp only [Bool.false_eq_true, if_false]
      refine h _ ?_
      walk_at "d"
      refine law_told_ok h1 h2 h3 h4 hb hL hT ?_
      rw [hw]
      walk_at "d"
      refine same_ok 12 _ ?_ _ ?_
      · exact pl_pair (n := 10) (by decide +kernel) (pl_wrong (n := 7))
      walk_at "d"
      exact hk _ ⟨_, _, _, _, _, _, _, rfl⟩
  · rintro ρ ⟨e2, e3, e4, e5, e6, e7, e8, rfl⟩
    refine h _ ?_
    walk_at "d"
end DL

namespace DL
open PySem PySem.Spec L2

def topS (i : Nat) : Stmt := PySem.Challenge.pw_beatgrid_k17_wrong_schedules_refused.main.body.getD i (.Pass ⟨0, 0, 0, 0⟩)
section
variable {P : Program} {w : World} {K : PySem.W.Frag} {mg : Str → Option Value} {base : Heap}
theorem sc_need_net : FnScope [(Str.ofString "net"), (Str.ofString "kind"), (Str.ofString "rows"), (Str.ofString "columns")] [(Str.ofString "net")] (defScope (topS 16)) := ⟨rfl, rfl, rfl, by decide +kernel, rfl, by decide +kernel, by decide +kernel⟩
theorem ok_need_net {f : Addr} {fd : FuncData} {k : Nat} {t_MOST_SIZE : Tok} (F : Fun K "need_net" "need_net" (topS 16) f fd) (c_KINDS : TupC K mg "KINDS" (.tuple [(.str (Str.ofString "product")), (.str (Str.ofString "paths")), (.str (Str.ofString "sorting"))])) (c_MOST_SIZE : mg "MOST_SIZE" = some (.int 6 t_MOST_SIZE)) (x_NoNet : ExcK K mg "NoNet") : FnOk P w K mg base (L2.CX P w) (k + 1) f fd [(Str.ofString "net")] (spD K mg S_need_net) :=
  def_ok F sc_need_net (body := fun cdv A outer s H c B E hr =>
    have px := pas_of (P := P) (w := w) (K := K) (mg := mg) (base := base) (N := [(Str.ofString "net"), (Str.ofString "kind"), (Str.ofString "rows"), (Str.ofString "columns")]) (qual := "need_net") (f := f) (cdv := cdv) (A := A) (outer := outer) (s := s) (H := H) (E := E) (sc := defScope (topS 16))
    have po := own_of (P := P) (w := w) (K := K) (mg := mg) (base := base) (N := [(Str.ofString "net"), (Str.ofString "kind"), (Str.ofString "rows"), (Str.ofString "columns")]) (qual := "need_net") (f := f) (cdv := cdv) (A := A) (outer := outer) (s := s) (H := H) (E := E) (sc := defScope (topS 16))
    have tk := tk_of (P := P) (w := w) (K := K) (mg := mg) (base := base) (N := [(Str.ofString "net"), (Str.ofString "kind"), (Str.ofString "rows"), (Str.ofString "columns")]) (qual := "need_net") (f := f) (cdv := cdv) (A := A) (outer := outer) (s := s) (H := H) (E := E) (sc := defScope (topS 16))
    have nd := sc_need_net.nd
    (dss_cons (ds_asg (.tp [1, 2, 3]) (de_var 0) (dg_tup [1, 2, 3] rfl (dgs_cons (dg_name 1 nd) (dgs_cons (dg_name 2 nd) (dgs_cons (dg_name 3 nd) dgs_nil)))))
    (dss_one (ds_if (dt_w (dw_or (dt_cmp (od_nin hr) (de_var 1) (de_globT (by rfl) c_KINDS)) (dw_or (dt_not (dt_chain od_le od_le de_int (de_var 2) (de_globI (by rfl) c_MOST_SIZE))) (dw_or1 (dt_not (dt_chain od_le od_le de_int (de_var 3) (de_globI (by rfl) c_MOST_SIZE))))))) (dss_one (ds_raise x_NoNet tk rfl (by rfl))) dss_nil))))

theorem sc_need_sides : FnScope [(Str.ofString "net"), (Str.ofString "lefts"), (Str.ofString "tops")] [(Str.ofString "net"), (Str.ofString "lefts"), (Str.ofString "tops")] (defScope (topS 17)) := ⟨rfl, rfl, rfl, by decide +kernel, rfl, by decide +kernel, by decide +kernel⟩
theorem ok_need_sides {f : Addr} {fd : FuncData} {k : Nat} (F : Fun K "need_sides" "need_sides" (topS 17) f fd) (n_len : mg "len" = none) (x_NoFeed : ExcK K mg "NoFeed") : FnOk P w K mg base (L2.CX P w) (k + 1) f fd [(Str.ofString "net"), (Str.ofString "lefts"), (Str.ofString "tops")] (spD K mg S_need_sides) :=
  def_ok F sc_need_sides (body := fun cdv A outer s H c B E hr =>
    have px := pas_of (P := P) (w := w) (K := K) (mg := mg) (base := base) (N := [(Str.ofString "net"), (Str.ofString "lefts"), (Str.ofString "tops")]) (qual := "need_sides") (f := f) (cdv := cdv) (A := A) (outer := outer) (s := s) (H := H) (E := E) (sc := defScope (topS 17))
    have po := own_of (P := P) (w := w) (K := K) (mg := mg) (base := base) (N := [(Str.ofString "net"), (Str.ofString "lefts"), (Str.ofString "tops")]) (qual := "need_sides") (f := f) (cdv := cdv) (A := A) (outer := outer) (s := s) (H := H) (E := E) (sc := defScope (topS 17))
    have tk := tk_of (P := P) (w := w) (K := K) (mg := mg) (base := base) (N := [(Str.ofString "net"), (Str.ofString "lefts"), (Str.ofString "tops")]) (qual := "need_sides") (f := f) (cdv := cdv) (A := A) (outer := outer) (s := s) (H := H) (E := E) (sc := defScope (topS 17))
    have nd := sc_need_sides.nd
    (dss_one (ds_if (dt_w (dw_or (dt_cmp (od_ne hr) (de_callB cd_len (by rfl) n_len (by decide +kernel) (da_cons (de_var 1) da_nil)) (de_ix (de_var 0) de_int)) (dw_or1 (dt_cmp (od_ne hr) (de_callB cd_len (by rfl) n_len (by decide +kernel) (da_cons (de_var 2) da_nil)) (de_ix (de_var 0) de_int))))) (dss_one (ds_raise x_NoFeed tk rfl (by rfl))) dss_nil)))

theorem sc_need_beats : FnScope [(Str.ofString "beats")] [(Str.ofString "beats")] (defScope (topS 18)) := ⟨rfl, rfl, rfl, by decide +kernel, rfl, by decide +kernel, by decide +kernel⟩
theorem ok_need_beats {f : Addr} {fd : FuncData} {k : Nat} {t_MOST_BEATS : Tok} (F : Fun K "need_beats" "need_beats" (topS 18) f fd) (c_MOST_BEATS : mg "MOST_BEATS" = some (.int 60 t_MOST_BEATS)) (x_NoCount : ExcK K mg "NoCount") : FnOk P w K mg base (L2.CX P w) (k + 1) f fd [(Str.ofString "beats")] (spD K mg S_need_beats) :=
  def_ok F sc_need_beats (body := fun cdv A outer s H c B E hr =>
    have px := pas_of (P := P) (w := w) (K := K) (mg := mg) (base := base) (N := [(Str.ofString "beats")]) (qual := "need_beats") (f := f) (cdv := cdv) (A := A) (outer := outer) (s := s) (H := H) (E := E) (sc := defScope (topS 18))
    have po := own_of (P := P) (w := w) (K := K) (mg := mg) (base := base) (N := [(Str.ofString "beats")]) (qual := "need_beats") (f := f) (cdv := cdv) (A := A) (outer := outer) (s := s) (H := H) (E := E) (sc := defScope (topS 18))
    have tk := tk_of (P := P) (w := w) (K := K) (mg := mg) (base := base) (N := [(Str.ofString "beats")]) (qual := "need_beats") (f := f) (cdv := cdv) (A := A) (outer := outer) (s := s) (H := H) (E := E) (sc := defScope (topS 18))
    have nd := sc_need_beats.nd
    (dss_one (ds_if (dt_not (dt_chain od_le od_le de_int (de_var 0) (de_globI (by rfl) c_MOST_BEATS))) (dss_one (ds_raise x_NoCount tk rfl (by rfl))) dss_nil)))

theorem sc_need_run : FnScope [(Str.ofString "net"), (Str.ofString "feed"), (Str.ofString "beats")] [(Str.ofString "net"), (Str.ofString "feed"), (Str.ofString "beats")] (defScope (topS 19)) := ⟨rfl, rfl, rfl, by decide +kernel, rfl, by decide +kernel, by decide +kernel⟩
theorem ok_need_run {f : Addr} {fd : FuncData} {k : Nat} (F : Fun K "need_run" "need_run" (topS 19) f fd) (G_need_net : Cal P w K mg base k "need_net" S_need_net) (G_need_sides : Cal P w K mg base k "need_sides" S_need_sides) (G_need_beats : Cal P w K mg base k "need_beats" S_need_beats) : FnOk P w K mg base (L2.CX P w) (k + 1) f fd [(Str.ofString "net"), (Str.ofString "feed"), (Str.ofString "beats")] (spD K mg S_need_run) :=
  def_ok F sc_need_run (body := fun cdv A outer s H c B E hr =>
    have px := pas_of (P := P) (w := w) (K := K) (mg := mg) (base := base) (N := [(Str.ofString "net"), (Str.ofString "feed"), (Str.ofString "beats")]) (qual := "need_run") (f := f) (cdv := cdv) (A := A) (outer := outer) (s := s) (H := H) (E := E) (sc := defScope (topS 19))
    have po := own_of (P := P) (w := w) (K := K) (mg := mg) (base := base) (N := [(Str.ofString "net"), (Str.ofString "feed"), (Str.ofString "beats")]) (qual := "need_run") (f := f) (cdv := cdv) (A := A) (outer := outer) (s := s) (H := H) (E := E) (sc := defScope (topS 19))
    have nd := sc_need_run.nd
    (dss_cons (ds_expr (de_call G_need_net hr px (by rfl) (da_cons (de_var 0) da_nil)))
    (dss_cons (ds_expr (de_call G_need_sides hr px (by rfl) (da_cons (de_var 0) (da_cons (de_ix (de_var 1) de_int) (da_cons (de_ix (de_var 1) de_int) da_nil)))))
    (dss_one (ds_expr (de_call G_need_beats hr px (by rfl) (da_cons (de_var 2) da_nil)))))))

theorem sc_first_of : FnScope [(Str.ofString "net"), (Str.ofString "cell"), (Str.ofString "row"), (Str.ofString "column")] [(Str.ofString "net")] (defScope (topS 20)) := ⟨rfl, rfl, rfl, by decide +kernel, rfl, by decide +kernel, by decide +kernel⟩
theorem ok_first_of {f : Addr} {fd : FuncData} {k : Nat} (F : Fun K "first_of" "first_of" (topS 20) f fd) (n_tuple : mg "tuple" = none) (n_range : mg "range" = none) : FnOk P w K mg base (L2.CX P w) (k + 1) f fd [(Str.ofString "net")] (spD K mg S_first_of) :=
  def_ok F sc_first_of (body := fun cdv A outer s H c B E hr =>
    have px := pas_of (P := P) (w := w) (K := K) (mg := mg) (base := base) (N := [(Str.ofString "net"), (Str.ofString "cell"), (Str.ofString "row"), (Str.ofString "column")]) (qual := "first_of") (f := f) (cdv := cdv) (A := A) (outer := outer) (s := s) (H := H) (E := E) (sc := defScope (topS 20))
    have po := own_of (P := P) (w := w) (K := K) (mg := mg) (base := base) (N := [(Str.ofString "net"), (Str.ofString "cell"), (Str.ofString "row"), (Str.ofString "column")]) (qual := "first_of") (f := f) (cdv := cdv) (A := A) (outer := outer) (s := s) (H := H) (E := E) (sc := defScope (topS 20))
    have nd := sc_first_of.nd
    (dss_cons (ds_asg (.nm 1) (de_tup (da_cons (de_if (dt_cmp (od_eq hr) (de_ix (de_var 0) de_int) de_str) de_int de_non) (da_cons de_non (da_cons de_non da_nil)))) (dg_name 1 nd))
    (dss_one (ds_ret (de_callTy cd_tuple (by rfl) n_tuple (by decide +kernel) (da_cons (de_lc (own := [((Str.ofString "row"), 2)]) (.nm 2) rfl nd ((dir_rng1 (by rfl) n_range (da_cons (de_ix (de_var 0) de_int) da_nil)).di) (blkOk_by (by kernel_rfl)) (fun _ _ _ _ _ => (dg_name 2 nd)) (fun _ _ _ _ _ => dts_nil) (fun _ _ _ _ _ => (de_callTy cd_tuple (by rfl) n_tuple (by decide +kernel) (da_cons (de_lc (own := [((Str.ofString "column"), 3)]) (.nm 3) rfl nd ((dir_rng1 (by rfl) n_range (da_cons (de_ix (de_var 0) de_int) da_nil)).di) (blkOk_by (by kernel_rfl)) (fun _ _ _ _ _ => (dg_name 3 nd)) (fun _ _ _ _ _ => dts_nil) (fun _ _ _ _ _ => (de_var 1))) da_nil)))) da_nil))))))

theorem sc_sorted_in : FnScope [(Str.ofString "mine"), (Str.ofString "a"), (Str.ofString "b")] [(Str.ofString "mine"), (Str.ofString "a"), (Str.ofString "b")] (defScope (topS 21)) := ⟨rfl, rfl, rfl, by decide +kernel, rfl, by decide +kernel, by decide +kernel⟩
theorem ok_sorted_in {f : Addr} {fd : FuncData} {k : Nat} (F : Fun K "sorted_in" "sorted_in" (topS 21) f fd) (n_max : mg "max" = none) (n_min : mg "min" = none) : FnOk P w K mg base (L2.CX P w) (k + 1) f fd [(Str.ofString "mine"), (Str.ofString "a"), (Str.ofString "b")] (spD K mg S_sorted_in) :=
  def_ok F sc_sorted_in (body := fun cdv A outer s H c B E hr =>
    have px := pas_of (P := P) (w := w) (K := K) (mg := mg) (base := base) (N := [(Str.ofString "mine"), (Str.ofString "a"), (Str.ofString "b")]) (qual := "sorted_in") (f := f) (cdv := cdv) (A := A) (outer := outer) (s := s) (H := H) (E := E) (sc := defScope (topS 21))
    have po := own_of (P := P) (w := w) (K := K) (mg := mg) (base := base) (N := [(Str.ofString "mine"), (Str.ofString "a"), (Str.ofString "b")]) (qual := "sorted_in") (f := f) (cdv := cdv) (A := A) (outer := outer) (s := s) (H := H) (E := E) (sc := defScope (topS 21))
    have nd := sc_sorted_in.nd
    (dss_cons (ds_if (dt_cmp od_is (de_var 1) de_non) (dss_one (ds_ret (de_tup (da_cons (de_var 0) (da_cons de_non (da_cons (de_var 2) da_nil)))))) dss_nil)
    (dss_cons (ds_if (dt_cmp od_is (de_var 0) de_non) (dss_one (ds_ret (de_tup (da_cons (de_var 1) (da_cons de_non (da_cons (de_var 2) da_nil)))))) dss_nil)
    (dss_one (ds_ret (de_tup (da_cons (de_callB (cd_min2 rfl) (by rfl) n_min (by decide +kernel) (da_cons (de_var 0) (da_cons (de_var 1) da_nil))) (da_cons (de_callB (cd_max2 rfl) (by rfl) n_max (by decide +kernel) (da_cons (de_var 0) (da_cons (de_var 1) da_nil))) (da_cons (de_var 2) da_nil)))))))))

theorem sc_cell_behind : FnScope [(Str.ofString "kind"), (Str.ofString "mine"), (Str.ofString "a"), (Str.ofString "b")] [(Str.ofString "kind"), (Str.ofString "mine"), (Str.ofString "a"), (Str.ofString "b")] (defScope (topS 22)) := ⟨rfl, rfl, rfl, by decide +kernel, rfl, by decide +kernel, by decide +kernel⟩
theorem ok_cell_behind {f : Addr} {fd : FuncData} {k : Nat} (F : Fun K "cell_behind" "cell_behind" (topS 22) f fd) (G_sorted_in : Cal P w K mg base k "sorted_in" S_sorted_in) (n_min : mg "min" = none) : FnOk P w K mg base (L2.CX P w) (k + 1) f fd [(Str.ofString "kind"), (Str.ofString "mine"), (Str.ofString "a"), (Str.ofString "b")] (spD K mg S_cell_behind) :=
  def_ok F sc_cell_behind (body := fun cdv A outer s H c B E hr =>
    have px := pas_of (P := P) (w := w) (K := K) (mg := mg) (base := base) (N := [(Str.ofString "kind"), (Str.ofString "mine"), (Str.ofString "a"), (Str.ofString "b")]) (qual := "cell_behind") (f := f) (cdv := cdv) (A := A) (outer := outer) (s := s) (H := H) (E := E) (sc := defScope (topS 22))
    have po := own_of (P := P) (w := w) (K := K) (mg := mg) (base := base) (N := [(Str.ofString "kind"), (Str.ofString "mine"), (Str.ofString "a"), (Str.ofString "b")]) (qual := "cell_behind") (f := f) (cdv := cdv) (A := A) (outer := outer) (s := s) (H := H) (E := E) (sc := defScope (topS 22))
    have nd := sc_cell_behind.nd
    (dss_cons (ds_if (dt_cmp (od_eq hr) (de_var 0) de_str) (dss_one (ds_ret (de_call G_sorted_in hr px (by rfl) (da_cons (de_var 1) (da_cons (de_var 2) (da_cons (de_var 3) da_nil)))))) dss_nil)
    (dss_cons (ds_if (dt_w (dw_or (dt_cmp od_is (de_var 2) de_non) (dw_or1 (dt_cmp od_is (de_var 3) de_non)))) (dss_one (ds_ret (de_tup (da_cons (de_var 1) (da_cons (de_var 2) (da_cons (de_var 3) da_nil)))))) dss_nil)
    (dss_cons (ds_if (dt_cmp (od_eq hr) (de_var 0) de_str) (dss_one (ds_ret (de_tup (da_cons (de_op od_add (de_var 1) (de_op od_mul (de_var 2) (de_var 3))) (da_cons (de_var 2) (da_cons (de_var 3) da_nil)))))) dss_nil)
    (dss_one (ds_ret (de_tup (da_cons (de_if (dt_cmp od_is (de_var 1) de_non) (de_op od_add (de_var 2) (de_var 3)) (de_callB (cd_min2 rfl) (by rfl) n_min (by decide +kernel) (da_cons (de_var 1) (da_cons (de_op od_add (de_var 2) (de_var 3)) da_nil)))) (da_cons (de_var 2) (da_cons (de_var 3) da_nil))))))))))

theorem sc_state_behind : FnScope [(Str.ofString "net"), (Str.ofString "state"), (Str.ofString "lefts"), (Str.ofString "tops"), (Str.ofString "found"), (Str.ofString "row"), (Str.ofString "line"), (Str.ofString "column"), (Str.ofString "a"), (Str.ofString "b")] [(Str.ofString "net"), (Str.ofString "state"), (Str.ofString "lefts"), (Str.ofString "tops")] (defScope (topS 23)) := ⟨rfl, rfl, rfl, by decide +kernel, rfl, by decide +kernel, by decide +kernel⟩
theorem ok_state_behind {f : Addr} {fd : FuncData} {k : Nat} {t_RIGHT : Tok} {t_DOWN : Tok} {t_KEPT : Tok} (F : Fun K "state_behind" "state_behind" (topS 23) f fd) (G_cell_behind : Cal P w K mg base k "cell_behind" S_cell_behind) (c_RIGHT : mg "RIGHT" = some (.int 1 t_RIGHT)) (c_DOWN : mg "DOWN" = some (.int 2 t_DOWN)) (c_KEPT : mg "KEPT" = some (.int 0 t_KEPT)) (n_range : mg "range" = none) (n_tuple : mg "tuple" = none) : FnOk P w K mg base (L2.CX P w) (k + 1) f fd [(Str.ofString "net"), (Str.ofString "state"), (Str.ofString "lefts"), (Str.ofString "tops")] (spD K mg S_state_behind) :=
  def_ok F sc_state_behind (body := fun cdv A outer s H c B E hr =>
    have px := pas_of (P := P) (w := w) (K := K) (mg := mg) (base := base) (N := [(Str.ofString "net"), (Str.ofString "state"), (Str.ofString "lefts"), (Str.ofString "tops"), (Str.ofString "found"), (Str.ofString "row"), (Str.ofString "line"), (Str.ofString "column"), (Str.ofString "a"), (Str.ofString "b")]) (qual := "state_behind") (f := f) (cdv := cdv) (A := A) (outer := outer) (s := s) (H := H) (E := E) (sc := defScope (topS 23))
    have po := own_of (P := P) (w := w) (K := K) (mg := mg) (base := base) (N := [(Str.ofString "net"), (Str.ofString "state"), (Str.ofString "lefts"), (Str.ofString "tops"), (Str.ofString "found"), (Str.ofString "row"), (Str.ofString "line"), (Str.ofString "column"), (Str.ofString "a"), (Str.ofString "b")]) (qual := "state_behind") (f := f) (cdv := cdv) (A := A) (outer := outer) (s := s) (H := H) (E := E) (sc := defScope (topS 23))
    have nd := sc_state_behind.nd
    (dss_cons (ds_asgLR 4 (ps_asgW (.nm 4) (dg_name 4 nd)) (rl_lst da_nil))
    (dss_cons (ds_for (.nm 5) po rfl ((dir_rng1 (by rfl) n_range (da_cons (de_ix (de_var 0) de_int) da_nil)).di) (dg_name 5 nd) (dss_cons (ds_asgLR 6 (ps_asgW (.nm 6) (dg_name 6 nd)) (rl_lst da_nil))
    (dss_cons (ds_for (.nm 7) po rfl ((dir_rng1 (by rfl) n_range (da_cons (de_ix (de_var 0) de_int) da_nil)).di) (dg_name 7 nd) (dss_cons (ds_asg (.nm 8) (de_if (dt_cmp (od_eq hr) (de_var 7) de_int) (de_ix (de_var 2) (de_var 5)) (de_ix (de_ix (de_ix (de_var 1) (de_var 5)) (de_op od_sub (de_var 7) de_int)) (de_globI (by rfl) c_RIGHT))) (dg_name 8 nd))
    (dss_cons (ds_asg (.nm 9) (de_if (dt_cmp (od_eq hr) (de_var 5) de_int) (de_ix (de_var 3) (de_var 7)) (de_ix (de_ix (de_ix (de_var 1) (de_op od_sub (de_var 5) de_int)) (de_var 7)) (de_globI (by rfl) c_DOWN))) (dg_name 9 nd))
    (dss_one (ds_app 6 (de_call G_cell_behind hr px (by rfl) (da_cons (de_ix (de_var 0) de_int) (da_cons (de_ix (de_ix (de_ix (de_var 1) (de_var 5)) (de_var 7)) (de_globI (by rfl) c_KEPT)) (da_cons (de_var 8) (da_cons (de_var 9) da_nil))))) (pe_bm PySem.F.plainAttrs_list PySem.F.slot_list_append PySem.F.type_list_append mt_append (pv 6) (pa_cons (peW _) pa_nil)))))))
    (dss_one (ds_appA 4 (de_callTy cd_tuple (by rfl) n_tuple (by decide +kernel) (da_cons (de_var 6) da_nil)) (pe_bm PySem.F.plainAttrs_list PySem.F.slot_list_append PySem.F.type_list_append mt_append (pv 4) (pa_cons (peW _) pa_nil)))))))
    (dss_one (ds_ret (de_callTy cd_tuple (by rfl) n_tuple (by decide +kernel) (da_cons (de_var 4) da_nil)))))))

theorem sc_fed_now : FnScope [(Str.ofString "side"), (Str.ofString "time"), (Str.ofString "line")] [(Str.ofString "side"), (Str.ofString "time")] (defScope (topS 24)) := ⟨rfl, rfl, rfl, by decide +kernel, rfl, by decide +kernel, by decide +kernel⟩
theorem ok_fed_now {f : Addr} {fd : FuncData} {k : Nat} (F : Fun K "fed_now" "fed_now" (topS 24) f fd) (n_len : mg "len" = none) : FnOk P w K mg base (L2.CX P w) (k + 1) f fd [(Str.ofString "side"), (Str.ofString "time")] (spD K mg S_fed_now) :=
  def_ok F sc_fed_now (body := fun cdv A outer s H c B E hr =>
    have px := pas_of (P := P) (w := w) (K := K) (mg := mg) (base := base) (N := [(Str.ofString "side"), (Str.ofString "time"), (Str.ofString "line")]) (qual := "fed_now") (f := f) (cdv := cdv) (A := A) (outer := outer) (s := s) (H := H) (E := E) (sc := defScope (topS 24))
    have po := own_of (P := P) (w := w) (K := K) (mg := mg) (base := base) (N := [(Str.ofString "side"), (Str.ofString "time"), (Str.ofString "line")]) (qual := "fed_now") (f := f) (cdv := cdv) (A := A) (outer := outer) (s := s) (H := H) (E := E) (sc := defScope (topS 24))
    have nd := sc_fed_now.nd
    (dss_one (ds_ret (de_lc (own := [((Str.ofString "line"), 2)]) (.nm 2) rfl nd ((di_seq (de_var 0))) (blkOk_by (by kernel_rfl)) (fun _ _ _ _ _ => (dg_name 2 nd)) (fun _ _ _ _ _ => dts_nil) (fun _ _ _ _ _ => (de_if (dt_cmp od_lt (de_var 1) (de_callB cd_len (by rfl) n_len (by decide +kernel) (da_cons (de_var 2) da_nil))) (de_ix (de_var 2) (de_var 1)) de_non))))))

theorem sc_run : FnScope [(Str.ofString "net"), (Str.ofString "feed"), (Str.ofString "beats"), (Str.ofString "found"), (Str.ofString "state"), (Str.ofString "time")] [(Str.ofString "net"), (Str.ofString "feed"), (Str.ofString "beats")] (defScope (topS 25)) := ⟨rfl, rfl, rfl, by decide +kernel, rfl, by decide +kernel, by decide +kernel⟩
theorem ok_run {f : Addr} {fd : FuncData} {k : Nat} (F : Fun K "run" "run" (topS 25) f fd) (G_need_run : Cal P w K mg base k "need_run" S_need_run) (G_first_of : Cal P w K mg base k "first_of" S_first_of) (G_state_behind : Cal P w K mg base k "state_behind" S_state_behind) (G_fed_now : Cal P w K mg base k "fed_now" S_fed_now) (n_range : mg "range" = none) : FnOk P w K mg base (L2.CX P w) (k + 1) f fd [(Str.ofString "net"), (Str.ofString "feed"), (Str.ofString "beats")] (spD K mg S_run) :=
  def_ok F sc_run (body := fun cdv A outer s H c B E hr =>
    have px := pas_of (P := P) (w := w) (K := K) (mg := mg) (base := base) (N := [(Str.ofString "net"), (Str.ofString "feed"), (Str.ofString "beats"), (Str.ofString "found"), (Str.ofString "state"), (Str.ofString "time")]) (qual := "run") (f := f) (cdv := cdv) (A := A) (outer := outer) (s := s) (H := H) (E := E) (sc := defScope (topS 25))
    have po := own_of (P := P) (w := w) (K := K) (mg := mg) (base := base) (N := [(Str.ofString "net"), (Str.ofString "feed"), (Str.ofString "beats"), (Str.ofString "found"), (Str.ofString "state"), (Str.ofString "time")]) (qual := "run") (f := f) (cdv := cdv) (A := A) (outer := outer) (s := s) (H := H) (E := E) (sc := defScope (topS 25))
    have nd := sc_run.nd
    (dss_cons (ds_expr (de_call G_need_run hr px (by rfl) (da_cons (de_var 0) (da_cons (de_var 1) (da_cons (de_var 2) da_nil)))))
    (dss_cons (ds_asgLR 3 (ps_asgW (.nm 3) (dg_name 3 nd)) (rl_lst da_nil))
    (dss_cons (ds_asg (.nm 4) (de_call G_first_of hr px (by rfl) (da_cons (de_var 0) da_nil)) (dg_name 4 nd))
    (dss_cons (ds_for (.nm 5) po rfl ((dir_rng1 (by rfl) n_range (da_cons (de_var 2) da_nil)).di) (dg_name 5 nd) (dss_cons (ds_asg (.nm 4) (de_call G_state_behind hr px (by rfl) (da_cons (de_var 0) (da_cons (de_var 4) (da_cons (de_call G_fed_now hr px (by rfl) (da_cons (de_ix (de_var 1) de_int) (da_cons (de_var 5) da_nil))) (da_cons (de_call G_fed_now hr px (by rfl) (da_cons (de_ix (de_var 1) de_int) (da_cons (de_var 5) da_nil))) da_nil))))) (dg_name 4 nd))
    (dss_one (ds_app 3 (de_var 4) (pe_bm PySem.F.plainAttrs_list PySem.F.slot_list_append PySem.F.type_list_append mt_append (pv 3) (pa_cons (peW _) pa_nil))))))
    (dss_one (ds_retL 3)))))))

theorem sc_kept_in : FnScope [(Str.ofString "state"), (Str.ofString "line"), (Str.ofString "cell")] [(Str.ofString "state")] (defScope (topS 26)) := ⟨rfl, rfl, rfl, by decide +kernel, rfl, by decide +kernel, by decide +kernel⟩
theorem ok_kept_in {f : Addr} {fd : FuncData} {k : Nat} {t_KEPT : Tok} (F : Fun K "kept_in" "kept_in" (topS 26) f fd) (c_KEPT : mg "KEPT" = some (.int 0 t_KEPT)) (n_tuple : mg "tuple" = none) : FnOk P w K mg base (L2.CX P w) (k + 1) f fd [(Str.ofString "state")] (spD K mg S_kept_in) :=
  def_ok F sc_kept_in (body := fun cdv A outer s H c B E hr =>
    have px := pas_of (P := P) (w := w) (K := K) (mg := mg) (base := base) (N := [(Str.ofString "state"), (Str.ofString "line"), (Str.ofString "cell")]) (qual := "kept_in") (f := f) (cdv := cdv) (A := A) (outer := outer) (s := s) (H := H) (E := E) (sc := defScope (topS 26))
    have po := own_of (P := P) (w := w) (K := K) (mg := mg) (base := base) (N := [(Str.ofString "state"), (Str.ofString "line"), (Str.ofString "cell")]) (qual := "kept_in") (f := f) (cdv := cdv) (A := A) (outer := outer) (s := s) (H := H) (E := E) (sc := defScope (topS 26))
    have nd := sc_kept_in.nd
    (dss_one (ds_ret (de_callTy cd_tuple (by rfl) n_tuple (by decide +kernel) (da_cons (de_lc (own := [((Str.ofString "line"), 1)]) (.nm 1) rfl nd ((di_seq (de_var 0))) (blkOk_by (by kernel_rfl)) (fun _ _ _ _ _ => (dg_name 1 nd)) (fun _ _ _ _ _ => dts_nil) (fun _ _ _ _ _ => (de_callTy cd_tuple (by rfl) n_tuple (by decide +kernel) (da_cons (de_lc (own := [((Str.ofString "cell"), 2)]) (.nm 2) rfl nd ((di_seq (de_var 1))) (blkOk_by (by kernel_rfl)) (fun _ _ _ _ _ => (dg_name 2 nd)) (fun _ _ _ _ _ => dts_nil) (fun _ _ _ _ _ => (de_ix (de_var 2) (de_globI (by rfl) c_KEPT)))) da_nil)))) da_nil)))))

theorem sc_fed_at : FnScope [(Str.ofString "line"), (Str.ofString "time")] [(Str.ofString "line"), (Str.ofString "time")] (defScope (topS 28)) := ⟨rfl, rfl, rfl, by decide +kernel, rfl, by decide +kernel, by decide +kernel⟩
theorem ok_fed_at {f : Addr} {fd : FuncData} {k : Nat} (F : Fun K "fed_at" "fed_at" (topS 28) f fd) (n_len : mg "len" = none) : FnOk P w K mg base (L2.CX P w) (k + 1) f fd [(Str.ofString "line"), (Str.ofString "time")] (spD K mg S_fed_at) :=
  def_ok F sc_fed_at (body := fun cdv A outer s H c B E hr =>
    have px := pas_of (P := P) (w := w) (K := K) (mg := mg) (base := base) (N := [(Str.ofString "line"), (Str.ofString "time")]) (qual := "fed_at") (f := f) (cdv := cdv) (A := A) (outer := outer) (s := s) (H := H) (E := E) (sc := defScope (topS 28))
    have po := own_of (P := P) (w := w) (K := K) (mg := mg) (base := base) (N := [(Str.ofString "line"), (Str.ofString "time")]) (qual := "fed_at") (f := f) (cdv := cdv) (A := A) (outer := outer) (s := s) (H := H) (E := E) (sc := defScope (topS 28))
    have nd := sc_fed_at.nd
    (dss_one (ds_ret (de_if (dt_chain od_le od_lt de_int (de_var 1) (de_callB cd_len (by rfl) n_len (by decide +kernel) (da_cons (de_var 0) da_nil))) (de_ix (de_var 0) (de_var 1)) de_non))))

theorem sc_tasks_of : FnScope [(Str.ofString "net"), (Str.ofString "beats"), (Str.ofString "found"), (Str.ofString "time"), (Str.ofString "row"), (Str.ofString "column")] [(Str.ofString "net"), (Str.ofString "beats")] (defScope (topS 30)) := ⟨rfl, rfl, rfl, by decide +kernel, rfl, by decide +kernel, by decide +kernel⟩
theorem ok_tasks_of {f : Addr} {fd : FuncData} {k : Nat} (F : Fun K "tasks_of" "tasks_of" (topS 30) f fd) (n_range : mg "range" = none) : FnOk P w K mg base (L2.CX P w) (k + 1) f fd [(Str.ofString "net"), (Str.ofString "beats")] (spD K mg S_tasks_of) :=
  def_ok F sc_tasks_of (body := fun cdv A outer s H c B E hr =>
    have px := pas_of (P := P) (w := w) (K := K) (mg := mg) (base := base) (N := [(Str.ofString "net"), (Str.ofString "beats"), (Str.ofString "found"), (Str.ofString "time"), (Str.ofString "row"), (Str.ofString "column")]) (qual := "tasks_of") (f := f) (cdv := cdv) (A := A) (outer := outer) (s := s) (H := H) (E := E) (sc := defScope (topS 30))
    have po := own_of (P := P) (w := w) (K := K) (mg := mg) (base := base) (N := [(Str.ofString "net"), (Str.ofString "beats"), (Str.ofString "found"), (Str.ofString "time"), (Str.ofString "row"), (Str.ofString "column")]) (qual := "tasks_of") (f := f) (cdv := cdv) (A := A) (outer := outer) (s := s) (H := H) (E := E) (sc := defScope (topS 30))
    have nd := sc_tasks_of.nd
    (dss_cons (ds_asgLR 2 (ps_asgW (.nm 2) (dg_name 2 nd)) (rl_lst da_nil))
    (dss_cons (ds_for (.nm 3) po rfl ((dir_rng1 (by rfl) n_range (da_cons (de_var 1) da_nil)).di) (dg_name 3 nd) (dss_one (ds_for (.nm 4) po rfl ((dir_rng1 (by rfl) n_range (da_cons (de_ix (de_var 0) de_int) da_nil)).di) (dg_name 4 nd) (dss_one (ds_ext 2 (de_lc (own := [((Str.ofString "column"), 5)]) (.nm 5) rfl nd ((dir_rng1 (by rfl) n_range (da_cons (de_ix (de_var 0) de_int) da_nil)).di) (blkOk_by (by kernel_rfl)) (fun _ _ _ _ _ => (dg_name 5 nd)) (fun _ _ _ _ _ => dts_nil) (fun _ _ _ _ _ => (de_tup (da_cons (de_var 3) (da_cons (de_var 4) (da_cons (de_var 5) da_nil)))))) (pe_bm PySem.F.plainAttrs_list PySem.F.slot_list_extend PySem.F.type_list_extend mt_extend (pv 2) (pa_cons (peW _) pa_nil)))))))
    (dss_one (ds_retL 2)))))

theorem sc_needed : FnScope [(Str.ofString "task"), (Str.ofString "time"), (Str.ofString "row"), (Str.ofString "column"), (Str.ofString "some"), (Str.ofString "one")] [(Str.ofString "task")] (defScope (topS 31)) := ⟨rfl, rfl, rfl, by decide +kernel, rfl, by decide +kernel, by decide +kernel⟩
theorem ok_needed {f : Addr} {fd : FuncData} {k : Nat} (F : Fun K "needed" "needed" (topS 31) f fd) (n_min : mg "min" = none) : FnOk P w K mg base (L2.CX P w) (k + 1) f fd [(Str.ofString "task")] (spD K mg S_needed) :=
  def_ok F sc_needed (body := fun cdv A outer s H c B E hr =>
    have px := pas_of (P := P) (w := w) (K := K) (mg := mg) (base := base) (N := [(Str.ofString "task"), (Str.ofString "time"), (Str.ofString "row"), (Str.ofString "column"), (Str.ofString "some"), (Str.ofString "one")]) (qual := "needed") (f := f) (cdv := cdv) (A := A) (outer := outer) (s := s) (H := H) (E := E) (sc := defScope (topS 31))
    have po := own_of (P := P) (w := w) (K := K) (mg := mg) (base := base) (N := [(Str.ofString "task"), (Str.ofString "time"), (Str.ofString "row"), (Str.ofString "column"), (Str.ofString "some"), (Str.ofString "one")]) (qual := "needed") (f := f) (cdv := cdv) (A := A) (outer := outer) (s := s) (H := H) (E := E) (sc := defScope (topS 31))
    have nd := sc_needed.nd
    (dss_cons (ds_asg (.tp [1, 2, 3]) (de_var 0) (dg_tup [1, 2, 3] rfl (dgs_cons (dg_name 1 nd) (dgs_cons (dg_name 2 nd) (dgs_cons (dg_name 3 nd) dgs_nil)))))
    (dss_cons (ds_asg (.nm 4) (de_lst (da_cons (de_tup (da_cons (de_op od_sub (de_var 1) de_int) (da_cons (de_var 2) (da_cons (de_var 3) da_nil)))) (da_cons (de_tup (da_cons (de_op od_sub (de_var 1) de_int) (da_cons (de_var 2) (da_cons (de_op od_sub (de_var 3) de_int) da_nil)))) (da_cons (de_tup (da_cons (de_op od_sub (de_var 1) de_int) (da_cons (de_op od_sub (de_var 2) de_int) (da_cons (de_var 3) da_nil)))) da_nil)))) (dg_name 4 nd))
    (dss_one (ds_ret (de_lc (own := [((Str.ofString "one"), 5)]) (.nm 5) rfl nd ((di_seq (de_var 4))) (blkOk_by (by kernel_rfl)) (fun _ _ _ _ _ => (dg_name 5 nd)) (fun _ _ _ _ _ => dts_one (dt_cmp od_ge (de_callB (cd_min rfl) (by rfl) n_min (by decide +kernel) (da_cons (de_var 5) da_nil)) de_int)) (fun _ _ _ _ _ => (de_var 5))))))))

theorem sc_first_wrong : FnScope [(Str.ofString "every"), (Str.ofString "schedule"), (Str.ofString "known"), (Str.ofString "done"), (Str.ofString "number"), (Str.ofString "some"), (Str.ofString "fresh"), (Str.ofString "worker"), (Str.ofString "task"), (Str.ofString "left"), (Str.ofString "one")] [(Str.ofString "every"), (Str.ofString "schedule")] (defScope (topS 32)) := ⟨rfl, rfl, rfl, by decide +kernel, rfl, by decide +kernel, by decide +kernel⟩
theorem ok_first_wrong {f : Addr} {fd : FuncData} {k : Nat} (F : Fun K "first_wrong" "first_wrong" (topS 32) f fd) (G_needed : Cal P w K mg base k "needed" S_needed) (n_dict : mg "dict" = none) (n_enumerate : mg "enumerate" = none) : FnOk P w K mg base (L2.CX P w) (k + 1) f fd [(Str.ofString "every"), (Str.ofString "schedule")] (spD K mg S_first_wrong) :=
  def_ok F sc_first_wrong (body := fun cdv A outer s H c B E hr =>
    have px := pas_of (P := P) (w := w) (K := K) (mg := mg) (base := base) (N := [(Str.ofString "every"), (Str.ofString "schedule"), (Str.ofString "known"), (Str.ofString "done"), (Str.ofString "number"), (Str.ofString "some"), (Str.ofString "fresh"), (Str.ofString "worker"), (Str.ofString "task"), (Str.ofString "left"), (Str.ofString "one")]) (qual := "first_wrong") (f := f) (cdv := cdv) (A := A) (outer := outer) (s := s) (H := H) (E := E) (sc := defScope (topS 32))
    have po := own_of (P := P) (w := w) (K := K) (mg := mg) (base := base) (N := [(Str.ofString "every"), (Str.ofString "schedule"), (Str.ofString "known"), (Str.ofString "done"), (Str.ofString "number"), (Str.ofString "some"), (Str.ofString "fresh"), (Str.ofString "worker"), (Str.ofString "task"), (Str.ofString "left"), (Str.ofString "one")]) (qual := "first_wrong") (f := f) (cdv := cdv) (A := A) (outer := outer) (s := s) (H := H) (E := E) (sc := defScope (topS 32))
    have nd := sc_first_wrong.nd
    (dss_cons (ds_asg (.nm 2) (de_callTy (cd_dictP rfl (hu2_of hr)) (by rfl) n_dict (by decide +kernel) (da_cons (de_lc (own := [((Str.ofString "task"), 8)]) (.nm 8) rfl nd ((di_seq (de_var 0))) (blkOk_by (by kernel_rfl)) (fun _ _ _ _ _ => (dg_name 8 nd)) (fun _ _ _ _ _ => dts_nil) (fun _ _ _ _ _ => (de_tup (da_cons (de_var 8) (da_cons de_bl da_nil))))) da_nil)) (dg_name 2 nd))
    (dss_cons (ds_newT 3 (ps_asg pe_dnewT (dg_name 3 nd)))
    (dss_cons (ds_for (.tp [4, 5]) po rfl ((di_enum (by rfl) n_enumerate (de_var 1))) (dg_tup [4, 5] rfl (dgs_cons (dg_name 4 nd) (dgs_cons (dg_name 5 nd) dgs_nil))) (dss_cons (ds_newT 6 (ps_asg pe_dnewT (dg_name 6 nd)))
    (dss_cons (ds_for (.tp [7, 8]) po rfl ((di_enum (by rfl) n_enumerate (de_var 5))) (dg_tup [7, 8] rfl (dgs_cons (dg_name 7 nd) (dgs_cons (dg_name 8 nd) dgs_nil))) (dss_one (ds_if (dt_cmp od_not (de_var 8) de_non) (dss_cons (ds_if (dt_cmp (od_ninDic (hu_of hr)) (de_var 8) (de_var 2)) (dss_one (ds_ret (de_tup (da_cons de_str (da_cons (de_var 4) (da_cons (de_var 7) da_nil)))))) dss_nil)
    (dss_cons (ds_if (dt_w (dw_or (dt_cmp (od_inDic (hu_of hr)) (de_var 8) (de_var 3)) (dw_or1 (dt_cmp (od_inDic (hu_of hr)) (de_var 8) (de_var 6))))) (dss_one (ds_ret (de_tup (da_cons de_str (da_cons (de_var 4) (da_cons (de_var 7) da_nil)))))) dss_nil)
    (dss_cons (ds_if (dt_cmp (od_ne hr) (de_lc (own := [((Str.ofString "one"), 10)]) (.nm 10) rfl nd ((di_seq (de_call G_needed hr px (by rfl) (da_cons (de_var 8) da_nil)))) (blkOk_by (by kernel_rfl)) (fun _ _ _ _ _ => (dg_name 10 nd)) (fun _ _ _ _ _ => dts_one (dt_cmp (od_ninDic (hu_of hr)) (de_var 10) (de_var 3))) (fun _ _ _ _ _ => (de_var 10))) (de_lst da_nil)) (dss_one (ds_ret (de_tup (da_cons de_str (da_cons (de_var 4) (da_cons (de_var 7) da_nil)))))) dss_nil)
    (dss_one (ds_putT 6 hr de_bl (de_var 8) rfl))))) dss_nil)))
    (dss_one (ds_upd 3 6 hr (pe_bm PySem.F.plainAttrs_dict PySem.F.slot_dict_update PySem.F.type_dict_update (mt_updT (hu_of hr)) (pv 3) (pa_cons (pv 6) pa_nil)))))))
    (dss_cons (ds_asgFR (.nm 9) (ps_lc (own := [((Str.ofString "task"), 8)]) 9 (.nm 8) rfl nd (blkOk_by (by kernel_rfl)) (fun _ _ _ _ _ => (dg_name 8 nd)) (by rfl) (sw_true rfl rfl rfl (by kernel_rfl))) (re_lc (.nm 8) rfl nd ((di_seq (de_var 0))) (blkOk_by (by kernel_rfl)) (fun _ _ _ _ _ => (dg_name 8 nd)) (fun _ _ _ _ _ => dts_one (dt_cmp (od_ninDic (hu_of hr)) (de_var 8) (de_var 3))) (fun _ _ _ _ _ => (de_var 8))))
    (dss_one (ds_ret (de_if (dt_cmp (od_ne hr) (de_var 9) (de_lst da_nil)) (de_tup (da_cons de_str (da_cons (de_ix (de_var 9) de_int) da_nil))) de_non))))))))

theorem sc_wrong : FnScope [(Str.ofString "net"), (Str.ofString "beats"), (Str.ofString "schedule")] [(Str.ofString "net"), (Str.ofString "beats"), (Str.ofString "schedule")] (defScope (topS 33)) := ⟨rfl, rfl, rfl, by decide +kernel, rfl, by decide +kernel, by decide +kernel⟩
theorem ok_wrong {f : Addr} {fd : FuncData} {k : Nat} (F : Fun K "wrong" "wrong" (topS 33) f fd) (G_need_net : Cal P w K mg base k "need_net" S_need_net) (G_need_beats : Cal P w K mg base k "need_beats" S_need_beats) (G_first_wrong : Cal P w K mg base k "first_wrong" S_first_wrong) (G_tasks_of : Cal P w K mg base k "tasks_of" S_tasks_of) : FnOk P w K mg base (L2.CX P w) (k + 1) f fd [(Str.ofString "net"), (Str.ofString "beats"), (Str.ofString "schedule")] (spD K mg S_wrong) :=
  def_ok F sc_wrong (body := fun cdv A outer s H c B E hr =>
    have px := pas_of (P := P) (w := w) (K := K) (mg := mg) (base := base) (N := [(Str.ofString "net"), (Str.ofString "beats"), (Str.ofString "schedule")]) (qual := "wrong") (f := f) (cdv := cdv) (A := A) (outer := outer) (s := s) (H := H) (E := E) (sc := defScope (topS 33))
    have po := own_of (P := P) (w := w) (K := K) (mg := mg) (base := base) (N := [(Str.ofString "net"), (Str.ofString "beats"), (Str.ofString "schedule")]) (qual := "wrong") (f := f) (cdv := cdv) (A := A) (outer := outer) (s := s) (H := H) (E := E) (sc := defScope (topS 33))
    have nd := sc_wrong.nd
    (dss_cons (ds_expr (de_call G_need_net hr px (by rfl) (da_cons (de_var 0) da_nil)))
    (dss_cons (ds_expr (de_call G_need_beats hr px (by rfl) (da_cons (de_var 1) da_nil)))
    (dss_one (ds_ret (de_call G_first_wrong hr px (by rfl) (da_cons (de_call G_tasks_of hr px (by rfl) (da_cons (de_var 0) (da_cons (de_var 1) da_nil))) (da_cons (de_var 2) da_nil))))))))

theorem sc_Hall_init : FnScope [(Str.ofString "self"), (Str.ofString "net"), (Str.ofString "feed")] [(Str.ofString "self"), (Str.ofString "net"), (Str.ofString "feed")] (defScope (inClass (topS 34) 0)) := ⟨rfl, rfl, rfl, by decide +kernel, rfl, by decide +kernel, by decide +kernel⟩
theorem ok_Hall_init {f C : Addr} {fd : FuncData} {k : Nat} (hC : HallC K mg C) (F : Fun K "__init__" "Hall.__init__" (inClass (topS 34) 0) f fd) : FnOk P w K mg base (L2.CX P w) (k + 1) f fd ["self", "net", "feed"] (spInitH K C) :=
  init_fn hC F sc_Hall_init fun cdv A outer s H E => pss_cons (ps_fld (pv 0) (pv 1) rfl) (pss_cons (ps_fld (pv 0) (pv 2) rfl) (pss_one (ps_fld (pv 0) pe_dnewT rfl)))

theorem sc_Hall_part : FnScope [(Str.ofString "self"), (Str.ofString "task"), (Str.ofString "which")] [(Str.ofString "self"), (Str.ofString "task"), (Str.ofString "which")] (defScope (inClass (topS 34) 2)) := ⟨rfl, rfl, rfl, by decide +kernel, rfl, by decide +kernel, by decide +kernel⟩
theorem ok_Hall_part {f : Addr} {fd : FuncData} {k : Nat} {t_KEPT : Tok} (F : Fun K "part" "Hall.part" (inClass (topS 34) 2) f fd) (c_KEPT : mg "KEPT" = some (.int 0 t_KEPT)) (hK : HallK K mg) : FnOk P w K mg base (L2.CX P w) (k + 1) f fd [(Str.ofString "self"), (Str.ofString "task"), (Str.ofString "which")] (spD K mg S_Hall_part) :=
  def_ok F sc_Hall_part (body := fun cdv A outer s H c B E hr =>
    have px := pas_of (P := P) (w := w) (K := K) (mg := mg) (base := base) (N := [(Str.ofString "self"), (Str.ofString "task"), (Str.ofString "which")]) (qual := "Hall.part") (f := f) (cdv := cdv) (A := A) (outer := outer) (s := s) (H := H) (E := E) (sc := defScope (inClass (topS 34) 2))
    have po := own_of (P := P) (w := w) (K := K) (mg := mg) (base := base) (N := [(Str.ofString "self"), (Str.ofString "task"), (Str.ofString "which")]) (qual := "Hall.part") (f := f) (cdv := cdv) (A := A) (outer := outer) (s := s) (H := H) (E := E) (sc := defScope (inClass (topS 34) 2))
    have nd := sc_Hall_part.nd
    (dss_cons (ds_if (dt_cmp od_lt (de_ix (de_var 1) de_int) de_int) (dss_one (ds_ret (de_if (dt_w (dw_and (dt_cmp (od_eq hr) (de_var 2) (de_globI (by rfl) c_KEPT)) (dw_and1 (dt_cmp (od_eq hr) (de_ix (de_netK hK (de_var 0)) de_int) de_str)))) de_int de_non))) dss_nil)
    (dss_one (ds_ret (de_ix (de_dget hr (de_cellsK hK (de_var 0)) (de_var 1)) (de_var 2))))))

theorem sc_Hall_took : FnScope [(Str.ofString "self"), (Str.ofString "task"), (Str.ofString "time"), (Str.ofString "row"), (Str.ofString "column"), (Str.ofString "a"), (Str.ofString "b")] [(Str.ofString "self"), (Str.ofString "task")] (defScope (inClass (topS 34) 1)) := ⟨rfl, rfl, rfl, by decide +kernel, rfl, by decide +kernel, by decide +kernel⟩
theorem ok_Hall_took {f : Addr} {fd : FuncData} {k : Nat} {t_RIGHT : Tok} {t_DOWN : Tok} (F : Fun K "took" "Hall.took" (inClass (topS 34) 1) f fd) (M_part : CalM P w K mg base k "part" S_Hall_part) (G_fed_at : Cal P w K mg base k "fed_at" S_fed_at) (c_RIGHT : mg "RIGHT" = some (.int 1 t_RIGHT)) (c_DOWN : mg "DOWN" = some (.int 2 t_DOWN)) (hK : HallK K mg) : FnOk P w K mg base (L2.CX P w) (k + 1) f fd [(Str.ofString "self"), (Str.ofString "task")] (spD K mg S_Hall_took) :=
  def_ok F sc_Hall_took (body := fun cdv A outer s H c B E hr =>
    have px := pas_of (P := P) (w := w) (K := K) (mg := mg) (base := base) (N := [(Str.ofString "self"), (Str.ofString "task"), (Str.ofString "time"), (Str.ofString "row"), (Str.ofString "column"), (Str.ofString "a"), (Str.ofString "b")]) (qual := "Hall.took") (f := f) (cdv := cdv) (A := A) (outer := outer) (s := s) (H := H) (E := E) (sc := defScope (inClass (topS 34) 1))
    have po := own_of (P := P) (w := w) (K := K) (mg := mg) (base := base) (N := [(Str.ofString "self"), (Str.ofString "task"), (Str.ofString "time"), (Str.ofString "row"), (Str.ofString "column"), (Str.ofString "a"), (Str.ofString "b")]) (qual := "Hall.took") (f := f) (cdv := cdv) (A := A) (outer := outer) (s := s) (H := H) (E := E) (sc := defScope (inClass (topS 34) 1))
    have nd := sc_Hall_took.nd
    (dss_cons (ds_asg (.tp [2, 3, 4]) (de_var 1) (dg_tup [2, 3, 4] rfl (dgs_cons (dg_name 2 nd) (dgs_cons (dg_name 3 nd) (dgs_cons (dg_name 4 nd) dgs_nil)))))
    (dss_cons (ds_asg (.nm 5) (de_if (dt_cmp od_gt (de_var 4) de_int) (de_methK M_part hr px (de_var 0) (da_cons (de_tup (da_cons (de_op od_sub (de_var 2) de_int) (da_cons (de_var 3) (da_cons (de_op od_sub (de_var 4) de_int) da_nil)))) (da_cons (de_globI (by rfl) c_RIGHT) da_nil))) (de_call G_fed_at hr px (by rfl) (da_cons (de_ix (de_ix (de_feedK hK (de_var 0)) de_int) (de_var 3)) (da_cons (de_var 2) da_nil)))) (dg_name 5 nd))
    (dss_cons (ds_asg (.nm 6) (de_if (dt_cmp od_gt (de_var 3) de_int) (de_methK M_part hr px (de_var 0) (da_cons (de_tup (da_cons (de_op od_sub (de_var 2) de_int) (da_cons (de_op od_sub (de_var 3) de_int) (da_cons (de_var 4) da_nil)))) (da_cons (de_globI (by rfl) c_DOWN) da_nil))) (de_call G_fed_at hr px (by rfl) (da_cons (de_ix (de_ix (de_feedK hK (de_var 0)) de_int) (de_var 4)) (da_cons (de_var 2) da_nil)))) (dg_name 6 nd))
    (dss_one (ds_ret (de_tup (da_cons (de_var 5) (da_cons (de_var 6) da_nil)))))))))

theorem sc_Hall_do : FnScope [(Str.ofString "self"), (Str.ofString "task"), (Str.ofString "a"), (Str.ofString "b"), (Str.ofString "mine")] [(Str.ofString "self"), (Str.ofString "task")] (defScope (inClass (topS 34) 3)) := ⟨rfl, rfl, rfl, by decide +kernel, rfl, by decide +kernel, by decide +kernel⟩
theorem ok_Hall_do {f C : Addr} {fd : FuncData} {k : Nat} {t_KEPT : Tok} (hC : HallC K mg C) (F : Fun K "do" "Hall.do" (inClass (topS 34) 3) f fd) (M_took : CalM P w K mg base k "took" S_Hall_took) (M_part : CalM P w K mg base k "part" S_Hall_part) (G_cell_behind : Cal P w K mg base k "cell_behind" S_cell_behind) (c_KEPT : mg "KEPT" = some (.int 0 t_KEPT)) (hK : HallK K mg) : FnOk P w K mg base (L2.CX P w) (k + 1) f fd ["self", "task"] (spDo K mg S_Hall_do) :=
  do_fn hC F sc_Hall_do rfl (fun cdv A outer s H c B E hr =>
    have px := pas_of (P := P) (w := w) (K := K) (mg := mg) (base := base) (N := [(Str.ofString "self"), (Str.ofString "task"), (Str.ofString "a"), (Str.ofString "b"), (Str.ofString "mine")]) (qual := "Hall.do") (f := f) (cdv := cdv) (A := A) (outer := outer) (s := s) (H := H) (E := E) (sc := defScope (inClass (topS 34) 3))
    have po := own_of (P := P) (w := w) (K := K) (mg := mg) (base := base) (N := [(Str.ofString "self"), (Str.ofString "task"), (Str.ofString "a"), (Str.ofString "b"), (Str.ofString "mine")]) (qual := "Hall.do") (f := f) (cdv := cdv) (A := A) (outer := outer) (s := s) (H := H) (E := E) (sc := defScope (inClass (topS 34) 3))
    have nd := sc_Hall_do.nd
    ⟨_, _, _, _, _, _, rfl, ps_asgW (.tp [2, 3]) (dg_tup [2, 3] rfl (dgs_cons (dg_name 2 nd) (dgs_cons (dg_name 3 nd) dgs_nil))), ps_asgW (.nm 4) (dg_name 4 nd), ps_dput (hu_of hr) (pe_fld (pv 0) rfl) (pv 1) (peW _) rfl, (de_methK M_took hr px (de_var 0) (da_cons (de_var 1) da_nil)), (de_methK M_part hr px (de_var 0) (da_cons (de_op od_add (de_tup (da_cons (de_op od_sub (de_ix (de_var 1) de_int) de_int) da_nil)) (de_sl (de_var 1) (do_some de_int) do_none)) (da_cons (de_globI (by rfl) c_KEPT) da_nil))), (de_call G_cell_behind hr px (by rfl) (da_cons (de_ix (de_netK hK (de_var 0)) de_int) (da_cons (de_var 4) (da_cons (de_var 2) (da_cons (de_var 3) da_nil)))))⟩)

theorem sc_NoSchedule_init : FnScope [(Str.ofString "self"), (Str.ofString "reason")] [(Str.ofString "self"), (Str.ofString "reason")] (defScope (inClass (topS 7) 0)) := ⟨rfl, rfl, rfl, by decide +kernel, rfl, by decide +kernel, by decide +kernel⟩
theorem ok_NoSchedule_init {f C CG : Addr} {fd : FuncData} {k : Nat} (T : OexC K C) (hno : PySem.W.findIn K (.ref C) "reason" = some none) (g : mg "GridError" = some (.ref CG)) (hr : PySem.W.readsIn K CG (.type "type") = true) (hs : PySem.W.specialIn K (.ref CG) "__getattribute__" = some (some (.builtin "type.__getattribute__"))) (vV : PySem.W.findCls K (.ref CG) (.type "type") "__init__" = some (.val (.builtin "ValueError.__init__")))
    (F : Fun K "__init__" "NoSchedule.__init__" (inClass (topS 7) 0) f fd) : FnOk P w K mg base (L2.CX P w) (k + 1) f fd ["self", "reason"] (spInitX K C) :=
  initX_fn T hno F sc_NoSchedule_init (z := "a wrong schedule") fun cdv A outer s H E => pss_cons (ps_expr (pe_ginit (by rfl) g hr hs vV (pa_cons (pv 0) (pa_cons pe_str pa_nil)))) (pss_one (ps_ost (pv 0) (pv 1)))

theorem sc_folded_run : FnScope [(Str.ofString "net"), (Str.ofString "feed"), (Str.ofString "beats"), (Str.ofString "schedule"), (Str.ofString "reason"), (Str.ofString "hall"), (Str.ofString "some"), (Str.ofString "task"), (Str.ofString "found"), (Str.ofString "row"), (Str.ofString "column")] [(Str.ofString "net"), (Str.ofString "feed"), (Str.ofString "beats"), (Str.ofString "schedule")] (defScope (topS 35)) := ⟨rfl, rfl, rfl, by decide +kernel, rfl, by decide +kernel, by decide +kernel⟩
theorem ok_folded_run {f : Addr} {fd : FuncData} {k : Nat} {t_KEPT : Tok} (F : Fun K "folded_run" "folded_run" (topS 35) f fd) (G_need_run : Cal P w K mg base k "need_run" S_need_run) (G_first_wrong : Cal P w K mg base k "first_wrong" S_first_wrong) (G_tasks_of : Cal P w K mg base k "tasks_of" S_tasks_of) (X_NoSchedule : CalX P w K mg base k "NoSchedule") (M_init : CalI P w K mg base k) (M_do : CalDo P w K mg base k S_Hall_do) (M_part : CalM P w K mg base k "part" S_Hall_part) (c_KEPT : mg "KEPT" = some (.int 0 t_KEPT)) (n_range : mg "range" = none) (n_tuple : mg "tuple" = none) : FnOk P w K mg base (L2.CX P w) (k + 1) f fd [(Str.ofString "net"), (Str.ofString "feed"), (Str.ofString "beats"), (Str.ofString "schedule")] (spD K mg S_folded_run) :=
  def_ok F sc_folded_run (body := fun cdv A outer s H c B E hr =>
    have px := pas_of (P := P) (w := w) (K := K) (mg := mg) (base := base) (N := [(Str.ofString "net"), (Str.ofString "feed"), (Str.ofString "beats"), (Str.ofString "schedule"), (Str.ofString "reason"), (Str.ofString "hall"), (Str.ofString "some"), (Str.ofString "task"), (Str.ofString "found"), (Str.ofString "row"), (Str.ofString "column")]) (qual := "folded_run") (f := f) (cdv := cdv) (A := A) (outer := outer) (s := s) (H := H) (E := E) (sc := defScope (topS 35))
    have po := own_of (P := P) (w := w) (K := K) (mg := mg) (base := base) (N := [(Str.ofString "net"), (Str.ofString "feed"), (Str.ofString "beats"), (Str.ofString "schedule"), (Str.ofString "reason"), (Str.ofString "hall"), (Str.ofString "some"), (Str.ofString "task"), (Str.ofString "found"), (Str.ofString "row"), (Str.ofString "column")]) (qual := "folded_run") (f := f) (cdv := cdv) (A := A) (outer := outer) (s := s) (H := H) (E := E) (sc := defScope (topS 35))
    have tk := tk_of (P := P) (w := w) (K := K) (mg := mg) (base := base) (N := [(Str.ofString "net"), (Str.ofString "feed"), (Str.ofString "beats"), (Str.ofString "schedule"), (Str.ofString "reason"), (Str.ofString "hall"), (Str.ofString "some"), (Str.ofString "task"), (Str.ofString "found"), (Str.ofString "row"), (Str.ofString "column")]) (qual := "folded_run") (f := f) (cdv := cdv) (A := A) (outer := outer) (s := s) (H := H) (E := E) (sc := defScope (topS 35))
    have nd := sc_folded_run.nd
    (dss_cons (ds_expr (de_call G_need_run hr px (by rfl) (da_cons (de_var 0) (da_cons (de_var 1) (da_cons (de_var 2) da_nil)))))
    (dss_cons (ds_asg (.nm 4) (de_call G_first_wrong hr px (by rfl) (da_cons (de_call G_tasks_of hr px (by rfl) (da_cons (de_var 0) (da_cons (de_var 2) da_nil))) (da_cons (de_var 3) da_nil))) (dg_name 4 nd))
    (dss_cons (ds_if (dt_cmp od_not (de_var 4) de_non) (dss_one (ds_raiseR X_NoSchedule hr (de_var 4) tk rfl (by rfl))) dss_nil)
    (dss_cons (ds_newHK 5 M_init hr px (da_cons (de_var 0) (da_cons (de_var 1) da_nil)) (fun _ h => ps_asg h (dg_name 5 nd)))
    (dss_cons (ds_for (.nm 6) po rfl ((di_seq (de_var 3))) (dg_name 6 nd) (dss_one (ds_for (.nm 7) po rfl ((di_seq (de_var 6))) (dg_name 7 nd) (dss_one (ds_if (dt_cmp od_not (de_var 7) de_non) (dss_one (ds_doK 5 M_do hr px (de_var 7) (pv 5))) dss_nil)))))
    (dss_cons (ds_asgLR 8 (ps_asgW (.nm 8) (dg_name 8 nd)) (rl_lst da_nil))
    (dss_cons (ds_for (.nm 9) po rfl ((dir_rng1 (by rfl) n_range (da_cons (de_ix (de_var 0) de_int) da_nil)).di) (dg_name 9 nd) (dss_one (ds_appA 8 (de_callTy cd_tuple (by rfl) n_tuple (by decide +kernel) (da_cons (de_lc (own := [((Str.ofString "column"), 10)]) (.nm 10) rfl nd ((dir_rng1 (by rfl) n_range (da_cons (de_ix (de_var 0) de_int) da_nil)).di) (blkOk_by (by kernel_rfl)) (fun _ _ _ _ _ => (dg_name 10 nd)) (fun _ _ _ _ _ => dts_nil) (fun _ _ _ _ _ => (de_methK M_part hr passL (de_var 5) (da_cons (de_tup (da_cons (de_op od_sub (de_var 2) de_int) (da_cons (de_var 9) (da_cons (de_var 10) da_nil)))) (da_cons (de_globI (by rfl) c_KEPT) da_nil))))) da_nil)) (pe_bm PySem.F.plainAttrs_list PySem.F.slot_list_append PySem.F.type_list_append mt_append (pv 8) (pa_cons (peW _) pa_nil)))))
    (dss_one (ds_ret (de_callTy cd_tuple (by rfl) n_tuple (by decide +kernel) (da_cons (de_var 8) da_nil))))))))))))

theorem sc_folded : FnScope [(Str.ofString "net"), (Str.ofString "beats"), (Str.ofString "workers"), (Str.ofString "cells"), (Str.ofString "turns"), (Str.ofString "found"), (Str.ofString "time"), (Str.ofString "turn"), (Str.ofString "places"), (Str.ofString "task"), (Str.ofString "worker"), (Str.ofString "place")] [(Str.ofString "net"), (Str.ofString "beats"), (Str.ofString "workers")] (defScope (topS 36)) := ⟨rfl, rfl, rfl, by decide +kernel, rfl, by decide +kernel, by decide +kernel⟩
theorem ok_folded {f : Addr} {fd : FuncData} {k : Nat} (F : Fun K "folded" "folded" (topS 36) f fd) (G_need_net : Cal P w K mg base k "need_net" S_need_net) (G_need_beats : Cal P w K mg base k "need_beats" S_need_beats) (G_tasks_of : Cal P w K mg base k "tasks_of" S_tasks_of) (n_len : mg "len" = none) (n_range : mg "range" = none) (n_tuple : mg "tuple" = none) (x_NoCount : ExcK K mg "NoCount") : FnOk P w K mg base (L2.CX P w) (k + 1) f fd [(Str.ofString "net"), (Str.ofString "beats"), (Str.ofString "workers")] (spD K mg S_folded) :=
  def_ok F sc_folded (body := fun cdv A outer s H c B E hr =>
    have px := pas_of (P := P) (w := w) (K := K) (mg := mg) (base := base) (N := [(Str.ofString "net"), (Str.ofString "beats"), (Str.ofString "workers"), (Str.ofString "cells"), (Str.ofString "turns"), (Str.ofString "found"), (Str.ofString "time"), (Str.ofString "turn"), (Str.ofString "places"), (Str.ofString "task"), (Str.ofString "worker"), (Str.ofString "place")]) (qual := "folded") (f := f) (cdv := cdv) (A := A) (outer := outer) (s := s) (H := H) (E := E) (sc := defScope (topS 36))
    have po := own_of (P := P) (w := w) (K := K) (mg := mg) (base := base) (N := [(Str.ofString "net"), (Str.ofString "beats"), (Str.ofString "workers"), (Str.ofString "cells"), (Str.ofString "turns"), (Str.ofString "found"), (Str.ofString "time"), (Str.ofString "turn"), (Str.ofString "places"), (Str.ofString "task"), (Str.ofString "worker"), (Str.ofString "place")]) (qual := "folded") (f := f) (cdv := cdv) (A := A) (outer := outer) (s := s) (H := H) (E := E) (sc := defScope (topS 36))
    have tk := tk_of (P := P) (w := w) (K := K) (mg := mg) (base := base) (N := [(Str.ofString "net"), (Str.ofString "beats"), (Str.ofString "workers"), (Str.ofString "cells"), (Str.ofString "turns"), (Str.ofString "found"), (Str.ofString "time"), (Str.ofString "turn"), (Str.ofString "places"), (Str.ofString "task"), (Str.ofString "worker"), (Str.ofString "place")]) (qual := "folded") (f := f) (cdv := cdv) (A := A) (outer := outer) (s := s) (H := H) (E := E) (sc := defScope (topS 36))
    have nd := sc_folded.nd
    (dss_cons (ds_expr (de_call G_need_net hr px (by rfl) (da_cons (de_var 0) da_nil)))
    (dss_cons (ds_expr (de_call G_need_beats hr px (by rfl) (da_cons (de_var 1) da_nil)))
    (dss_cons (ds_asg (.nm 3) (de_lc (own := [((Str.ofString "task"), 9)]) (.nm 9) rfl nd ((di_seq (de_call G_tasks_of hr px (by rfl) (da_cons (de_var 0) (da_cons de_int da_nil))))) (blkOk_by (by kernel_rfl)) (fun _ _ _ _ _ => (dg_name 9 nd)) (fun _ _ _ _ _ => dts_nil) (fun _ _ _ _ _ => (de_sl (de_var 9) (do_some de_int) do_none))) (dg_name 3 nd))
    (dss_cons (ds_if (dt_not (dt_chain od_le od_le de_int (de_var 2) (de_callB cd_len (by rfl) n_len (by decide +kernel) (da_cons (de_var 3) da_nil)))) (dss_one (ds_raise x_NoCount tk rfl (by rfl))) dss_nil)
    (dss_cons (ds_asg (.nm 4) (de_op od_fdiv (de_op od_sub (de_op od_add (de_callB cd_len (by rfl) n_len (by decide +kernel) (da_cons (de_var 3) da_nil)) (de_var 2)) de_int) (de_var 2)) (dg_name 4 nd))
    (dss_cons (ds_asgLR 5 (ps_asgW (.nm 5) (dg_name 5 nd)) (rl_lst da_nil))
    (dss_cons (ds_for (.nm 6) po rfl ((dir_rng1 (by rfl) n_range (da_cons (de_var 1) da_nil)).di) (dg_name 6 nd) (dss_one (ds_for (.nm 7) po rfl ((dir_rng1 (by rfl) n_range (da_cons (de_var 4) da_nil)).di) (dg_name 7 nd) (dss_cons (ds_asgR (.nm 8) (ps_lc (own := [((Str.ofString "worker"), 10)]) 8 (.nm 10) rfl nd (blkOk_by (by kernel_rfl)) (fun _ _ _ _ _ => (dg_name 10 nd)) (by rfl) (sw_true rfl rfl rfl (by kernel_rfl))) (re_lc (.nm 10) rfl nd ((dir_rng1 (by rfl) n_range (da_cons (de_var 2) da_nil)).di) (blkOk_by (by kernel_rfl)) (fun _ _ _ _ _ => (dg_name 10 nd)) (fun _ _ _ _ _ => dts_nil) (fun _ _ _ _ _ => (de_op od_add (de_op od_mul (de_var 10) (de_var 4)) (de_var 7)))))
    (dss_one (ds_app 5 (de_callTy cd_tuple (by rfl) n_tuple (by decide +kernel) (da_cons (de_lc (own := [((Str.ofString "place"), 11)]) (.nm 11) rfl nd ((di_seq (de_var 8))) (blkOk_by (by kernel_rfl)) (fun _ _ _ _ _ => (dg_name 11 nd)) (fun _ _ _ _ _ => dts_nil) (fun _ _ _ _ _ => (de_if (dt_cmp od_lt (de_var 11) (de_callB cd_len (by rfl) n_len (by decide +kernel) (da_cons (de_var 3) da_nil))) (de_op od_add (de_tup (da_cons (de_var 6) da_nil)) (de_ix (de_var 3) (de_var 11))) de_non))) da_nil)) (pe_bm PySem.F.plainAttrs_list PySem.F.slot_list_append PySem.F.type_list_append mt_append (pv 5) (pa_cons (peW _) pa_nil))))))))
    (dss_one (ds_retL 5))))))))))

theorem sc__law_start : FnScope [(Str.ofString "_law_script"), (Str.ofString "_law_mixed"), (Str.ofString "_law_cell")] [(Str.ofString "_law_script")] (defScope (topS 38)) := ⟨rfl, rfl, rfl, by decide +kernel, rfl, by decide +kernel, by decide +kernel⟩
theorem ok__law_start {f : Addr} {fd : FuncData} {k : Nat} (F : Fun K "_law_start" "_law_start" (topS 38) f fd) : FnOk P w K mg base (L2.CX P w) (k + 1) f fd [(Str.ofString "_law_script")] (spStart K) := by
  refine F.okX sc__law_start (fun vs H Q E h => ?_) fun cdv A outer s H vs Q E hr h => ?_
  · obtain ⟨a, ns, rfl, _⟩ := h
    rfl
  · obtain ⟨a, ns, rfl, hF, q⟩ := h
    have nd := sc__law_start.nd
    refine ⟨_, pss_cons (ps_set (i := 1) nd rfl (.inl rfl) pe_int)
      (pss_cons (ps_for own_of rfl (pi_list (pv 0)) (pg_name (i := 2) nd rfl (Or.inl rfl))
        (pss_one (ps_set (i := 1) nd rfl (.inl rfl) (pe_op op_mod (pe_op op_add (pe_op op_add (pe_op op_mul (pv 1) pe_int) (pv 2)) pe_int) pe_int))))
      (pss_one (ps_ret (pe_lst (pa_cons (pv 0) (pa_cons pe_int (pa_cons (pv 1) (pa_cons pe_int pa_nil)))))))), ?_⟩
    have hS := hF
    refine ⟨.ref a, rfl, a, rfl, ⟨_, hS⟩, for_list (K := K) (a := a) (xs := ns.map V.int) (fun _ σ H' => H' = H ∧ ∃ m y, 0 ≤ m ∧ σ = [some (.ref a), some (.int m), y]) ⟨rfl, 1, none, by decide, rfl⟩ (fun i σ H' _ hh => by rw [hh.1]; exact hS) ?_ ?_⟩
    · rintro i x σ H' hx ⟨rfl, m, y, hm, rfl⟩
      rw [List.getElem?_map] at hx
      obtain ⟨z, _, rfl⟩ := Option.map_eq_some_iff.mp hx
      refine ⟨.int m, rfl, m, 48271, rfl, rfl, .inr ⟨by decide, by decide⟩, .int z, rfl, _, z, rfl, rfl, _, 7, rfl, rfl, _, 2147483647, rfl, rfl, by show (0 : Int) < 2147483647; decide, ?_⟩
      exact ⟨rfl, _, _, Int.emod_nonneg _ (by decide), rfl⟩
    · rintro σ H' ⟨rfl, m, y, hm, rfl⟩
      exact ⟨.ref a, rfl, .int m, rfl, by show 4 ≤ sizeLine; decide, fun p hp => q p m hp hm⟩

theorem sc__law_drawn : FnScope [(Str.ofString "_law_state"), (Str.ofString "_law_many"), (Str.ofString "_law_found"), (Str.ofString "_law_cell")] [(Str.ofString "_law_state"), (Str.ofString "_law_many")] (defScope (topS 39)) := ⟨rfl, rfl, rfl, by decide +kernel, rfl, by decide +kernel, by decide +kernel⟩
theorem ok__law_drawn {f : Addr} {fd : FuncData} {k : Nat} (F : Fun K "_law_drawn" "_law_drawn" (topS 39) f fd) (n_len : mg "len" = none) : FnOk P w K mg base (L2.CX P w) (k + 1) f fd [(Str.ofString "_law_state"), (Str.ofString "_law_many")] (spD K mg S__law_drawn) := by
  refine F.okX sc__law_drawn (fun vs H Q E h => ?_) fun cdv A outer s H vs Q E hr h => ?_
  · obtain ⟨c, B, ds, P', _, ok, r, ⟨n, rfl, _⟩, _⟩ := h
    exact r.length
  · obtain ⟨c, B, ds, P', _, ok, r, ⟨n, rfl, hn, hz, q⟩, q1, _, _⟩ := h
    cases r with
    | cons ra r =>
    cases r with
    | cons rb r =>
    cases r
    cases tok_inv ra
    cases int_inv rb
    have fin : ∀ (x k m r : Int), 0 ≤ x → x < n → 0 ≤ k → 0 ≤ m → 0 ≤ r → ∀ H', H' = upd H c.st (.lst [.ref c.scr, .int k, .int m, .int r]) → Q (.int x) H' := fun x k m r a b h1 h2 h3 H' e => by
      rw [e]
      exact q1 _ (q x a b) _ B _ (draw_step ok h1 h2 h3) (.int x)
    obtain ⟨k0, m0, r0, eS, hk, hm, hrr, hF, _⟩ := ok.wd
    have nd := sc__law_drawn.nd
    refine ⟨_, pss_cons (ps_if (pt_cmpR op_gt (pe_ix ix_list (pv 0) pe_int (fun _ _ => rfl)) pe_int (nomark _))
        (pss_cons (ps_set (i := 2) nd rfl (.inl rfl) (pe_op op_mod (pe_ix ix_list (pv 0) pe_int (fun _ _ => rfl)) (pv 1)))
          (pss_cons (ps_asg (pe_op op_fdivW (pe_ix ix_list (pv 0) pe_int (fun _ _ => rfl)) (pv 1)) (pg_sub (pv 0) pe_int set_list))
            (pss_one (ps_ret (pv 2))))) pss_nil)
      (pss_cons (ps_asg (pe_op op_add (pe_ix ix_list (pv 0) pe_int (fun _ _ => rfl)) pe_int) (pg_sub (pv 0) pe_int set_list))
      (pss_cons (ps_if (pt_cmpR op_le (pe_ix ix_list (pv 0) pe_int (fun _ _ => rfl)) (pe_callB call_len_seq (by rfl) n_len PySem.boot_len (pa_cons (pe_ix ix_list (pv 0) pe_int (fun _ _ => rfl)) pa_nil)) (nomark _))
          (pss_cons (ps_set (i := 3) nd rfl (.inl rfl) (pe_ix ix_list (pe_ix ix_list (pv 0) pe_int (fun _ _ => rfl)) (pe_op op_sub (pe_ix ix_list (pv 0) pe_int (fun _ _ => rfl)) pe_int) (fun _ _ => rfl)))
            (pss_cons (ps_asg (pe_ifExp (pt_cmpR op_ge (pv 3) (pe_op op_pow pe_int pe_int) (nomark _)) (pe_op op_fdivW (pv 3) (pv 1)) pe_int) (pg_sub (pv 0) pe_int set_list))
              (pss_one (ps_ret (pe_op op_mod (pv 3) (pv 1)))))) pss_nil)
      (pss_cons (ps_asg (pe_op op_mod (pe_op op_add (pe_op op_mul (pe_ix ix_list (pv 0) pe_int (fun _ _ => rfl)) pe_int) pe_int) pe_int) (pg_sub (pv 0) pe_int set_list))
        (pss_one (ps_ret (pe_op op_mod (pe_op op_fdiv (pe_ix ix_list (pv 0) pe_int (fun _ _ => rfl)) pe_int) (pv 1))))))), ?_⟩
    have sq : ∀ {H' : Hp} {xs : List V}, H' c.st = some (.lst xs) → SqL K H' c.st xs := fun h => SqL.of h
    refine ⟨.ref c.st, rfl, c.st, _, 3, .int r0, rfl, rfl, sq eS, rfl, r0, 0, rfl, rfl, _, rfl, ite2 (fun h => ?_) fun h => ?_⟩
    · have h0 : 0 < r0 := of_decide_eq_true h
      refine ⟨.ref c.st, rfl, c.st, _, 3, .int r0, rfl, rfl, sq eS, rfl, .int n, rfl, r0, n, rfl, rfl, hn, ?_⟩
      refine ⟨.ref c.st, rfl, c.st, _, 3, .int r0, rfl, rfl, sq eS, rfl, .int n, rfl, r0, n, rfl, rfl, ⟨hn, hz⟩, ?_⟩
      refine ⟨.ref c.st, rfl, c.st, _, 3, 3, rfl, rfl, eS, rfl, ?_⟩
      exact ⟨.int (r0 % n), rfl, fin _ k0 m0 _ (Int.emod_nonneg _ (by omega)) (Int.emod_lt_of_pos _ hn) hk hm (Int.ediv_nonneg hrr (by omega)) _ rfl⟩
    · refine ⟨.ref c.st, rfl, c.st, _, 1, .int k0, rfl, rfl, sq eS, rfl, k0, 1, rfl, rfl, ?_⟩
      refine ⟨.ref c.st, rfl, c.st, _, 1, 1, rfl, rfl, eS, rfl, ?_⟩
      have e1 : (upd H c.st (.lst [.ref c.scr, .int (k0 + 1), .int m0, .int r0])) c.st = some (.lst [.ref c.scr, .int (k0 + 1), .int m0, .int r0]) := upd_same
      have hF1' : SqL K (upd H c.st (.lst [.ref c.scr, .int (k0 + 1), .int m0, .int r0])) c.scr (c.ns.map V.int) := (draw_step ok (k := k0 + 1) (m := m0) (r := r0) (by omega) hm hrr).wd.elim fun _ h => h.elim fun _ h => h.elim fun _ h => h.2.2.2.2.1.seq
      have hF1 : SqL K (upd H c.st (.lst [.ref c.scr, .int (k0 + 1), .int m0, .int r0])) c.scr (c.ns.map V.int) := hF1'
      refine ⟨.ref c.st, rfl, c.st, _, 1, .int (k0 + 1), rfl, rfl, sq e1, rfl, .ref c.st, rfl, c.st, _, 0, .ref c.scr, rfl, rfl, sq e1, rfl, c.scr, _, rfl, .inl hF1, k0 + 1, _, rfl, rfl, _, rfl, ite2 (fun h2 => ?_) fun h2 => ?_⟩
      · have h2' : k0 + 1 ≤ ((c.ns.map V.int).length : Int) := of_decide_eq_true h2
        rw [List.length_map] at h2'
        have hlt : k0.toNat < c.ns.length := by omega
        refine ⟨.ref c.st, rfl, c.st, _, 0, .ref c.scr, rfl, rfl, sq e1, rfl, .ref c.st, rfl, c.st, _, 1, .int (k0 + 1), rfl, rfl, sq e1, rfl, k0 + 1, 1, rfl, rfl, c.scr, _, k0 + 1 - 1, .int c.ns[k0.toNat], rfl, rfl, hF1, ?_, ?_⟩
        · refine at_of (j := k0.toNat) (by omega) ?_
          rw [List.getElem?_map, List.getElem?_eq_getElem hlt]; rfl
        · generalize c.ns[k0.toNat] = z
          refine ⟨.int z, rfl, 10, 18, rfl, rfl, ⟨by decide, by decide, by decide⟩, z, _, rfl, rfl, _, rfl, ite2 (fun h3 => ?_) fun h3 => ?_⟩
          · have h3' : (10 : Int) ^ (18 : Int).toNat ≤ z := of_decide_eq_true h3
            rw [big18] at h3'
            refine ⟨.int z, rfl, .int n, rfl, z, n, rfl, rfl, ⟨hn, hz⟩, .ref c.st, rfl, c.st, _, 3, 3, rfl, rfl, e1, rfl, ?_⟩
            refine ⟨.int z, rfl, .int n, rfl, z, n, rfl, rfl, hn, ?_⟩
            exact fin _ (k0 + 1) m0 (z / n) (Int.emod_nonneg _ (by omega)) (Int.emod_lt_of_pos _ hn) (by omega) hm (Int.ediv_nonneg (by omega) (by omega)) _ (by rw [upd_upd]; rfl)
          · refine ⟨.ref c.st, rfl, c.st, _, 3, 3, rfl, rfl, e1, rfl, ?_⟩
            refine ⟨.int z, rfl, .int n, rfl, z, n, rfl, rfl, hn, ?_⟩
            exact fin _ (k0 + 1) m0 0 (Int.emod_nonneg _ (by omega)) (Int.emod_lt_of_pos _ hn) (by omega) hm (by omega) _ (by rw [upd_upd]; rfl)
      · refine ⟨.ref c.st, rfl, c.st, _, 2, .int m0, rfl, rfl, sq e1, rfl, m0, 48271, rfl, rfl, .inr ⟨by decide, by decide⟩, _, 11, rfl, rfl, _, 2147483647, rfl, rfl, by show (0 : Int) < 2147483647; decide, ?_⟩
        refine ⟨.ref c.st, rfl, c.st, _, 2, 2, rfl, rfl, e1, rfl, ?_⟩
        refine ⟨.ref c.st, rfl, c.st, _, 2, .int ((m0 * 48271 + 11) % 2147483647), rfl, rfl, sq upd_same, rfl, _, 7, rfl, rfl, ⟨by decide, by decide⟩, .int n, rfl, _, n, rfl, rfl, hn, ?_⟩
        exact fin _ (k0 + 1) ((m0 * 48271 + 11) % 2147483647) r0 (Int.emod_nonneg _ (by omega)) (Int.emod_lt_of_pos _ hn) (by omega) (Int.emod_nonneg _ (by decide)) hrr _ (by rw [upd_upd]; rfl)


theorem sc__law_same : FnScope [(Str.ofString "_law_found"), (Str.ofString "_law_due"), (Str.ofString "_law_k")] [(Str.ofString "_law_found"), (Str.ofString "_law_due")] (defScope (topS 40)) := ⟨rfl, rfl, rfl, by decide +kernel, rfl, by decide +kernel, by decide +kernel⟩
theorem st__law_same {f : Addr} {fd : FuncData} {k : Nat} {S__law_same : DSpec} (F : Fun K "_law_same" "_law_same" (topS 40) f fd) (G__law_same : Cal P w K mg base k "_law_same" S__law_same) (n_isinstance : mg "isinstance" = none) (n_tuple : mg "tuple" = none) (n_list : mg "list" = none) (n_len : mg "len" = none) (n_range : mg "range" = none) (n_str : mg "str" = none) (n_bool : mg "bool" = none) (n_int : mg "int" = none) : FnOk P w K mg base (L2.CX P w) (k + 1) f fd [(Str.ofString "_law_found"), (Str.ofString "_law_due")] (spD K mg (defS 2 3 (F__law_same S__law_same))) :=
  def_ok F sc__law_same (body := fun cdv A outer s H c B E hr =>
    have px := pas_of (P := P) (w := w) (K := K) (mg := mg) (base := base) (N := [(Str.ofString "_law_found"), (Str.ofString "_law_due"), (Str.ofString "_law_k")]) (qual := "_law_same") (f := f) (cdv := cdv) (A := A) (outer := outer) (s := s) (H := H) (E := E) (sc := defScope (topS 40))
    have po := own_of (P := P) (w := w) (K := K) (mg := mg) (base := base) (N := [(Str.ofString "_law_found"), (Str.ofString "_law_due"), (Str.ofString "_law_k")]) (qual := "_law_same") (f := f) (cdv := cdv) (A := A) (outer := outer) (s := s) (H := H) (E := E) (sc := defScope (topS 40))
    have nd := sc__law_same.nd
    (dss_cons (ds_if (dt_val (de_isi2 (de_var 1) kitT_tuple kitT_list (by rfl) n_isinstance (by rfl) n_tuple (by decide +kernel) (by rfl) n_list (by decide +kernel))) (dss_cons (ds_if (dt_w (dw_or (dt_not (dt_val (de_isi2 (de_var 0) kitT_tuple kitT_list (by rfl) n_isinstance (by rfl) n_tuple (by decide +kernel) (by rfl) n_list (by decide +kernel)))) (dw_or1 (dt_cmp (od_ne hr) (de_isi (de_var 0) kitT_list (by rfl) n_isinstance (by rfl) n_list (by decide +kernel)) (de_isi (de_var 1) kitT_list (by rfl) n_isinstance (by rfl) n_list (by decide +kernel)))))) (dss_one (ds_ret de_bl)) dss_nil)
    (dss_cons (ds_if (dt_cmp (od_ne hr) (de_callB cd_len (by rfl) n_len (by decide +kernel) (da_cons (de_var 0) da_nil)) (de_callB cd_len (by rfl) n_len (by decide +kernel) (da_cons (de_var 1) da_nil))) (dss_one (ds_ret de_bl)) dss_nil)
    (dss_one (ds_ret (de_cmp (od_eq hr) (de_lc (own := [((Str.ofString "_law_k"), 2)]) (.nm 2) rfl nd ((dir_rng1 (by rfl) n_range (da_cons (de_callB cd_len (by rfl) n_len (by decide +kernel) (da_cons (de_var 1) da_nil)) da_nil)).di) (blkOk_by (by kernel_rfl)) (fun _ _ _ _ _ => (dg_name 2 nd)) (fun _ _ _ _ _ => dts_one (dt_not (dt_val (de_call G__law_same hr passL (by rfl) (da_cons (de_ix (de_var 0) (de_var 2)) (da_cons (de_ix (de_var 1) (de_var 2)) da_nil)))))) (fun _ _ _ _ _ => (de_var 2))) (de_lst da_nil)))))) dss_nil)
    (dss_cons (ds_if (dt_cmp od_is (de_var 1) de_non) (dss_one (ds_ret (de_cmp od_is (de_var 0) de_non))) dss_nil)
    (dss_cons (ds_if (dt_val (de_isi (de_var 1) kitT_str (by rfl) n_isinstance (by rfl) n_str (by decide +kernel))) (dss_one (ds_ret (de_and (de_isi (de_var 0) kitT_str (by rfl) n_isinstance (by rfl) n_str (by decide +kernel)) (de_one (de_cmp (od_eq hr) (de_var 0) (de_var 1)))))) dss_nil)
    (dss_cons (ds_if (dt_w (dw_or (dt_val (de_isi (de_var 1) kitT_bool (by rfl) n_isinstance (by rfl) n_bool (by decide +kernel))) (dw_or1 (dt_val (de_isi (de_var 0) kitT_bool (by rfl) n_isinstance (by rfl) n_bool (by decide +kernel)))))) (dss_one (ds_ret (de_and (de_isi (de_var 1) kitT_bool (by rfl) n_isinstance (by rfl) n_bool (by decide +kernel)) (de_and (de_isi (de_var 0) kitT_bool (by rfl) n_isinstance (by rfl) n_bool (by decide +kernel)) (de_one (de_cmp (od_eq hr) (de_var 0) (de_var 1))))))) dss_nil)
    (dss_one (ds_ret (de_and (de_isi (de_var 0) kitT_int (by rfl) n_isinstance (by rfl) n_int (by decide +kernel)) (de_one (de_cmp (od_eq hr) (de_var 0) (de_var 1)))))))))))
theorem ok__law_same {f : Addr} {fd : FuncData} (F : Fun K "_law_same" "_law_same" (topS 40) f fd) (hm : mg "_law_same" = some (.ref f)) (hb : Binds K fd [(Str.ofString "_law_found"), (Str.ofString "_law_due")] []) (n_isinstance : mg "isinstance" = none) (n_tuple : mg "tuple" = none) (n_list : mg "list" = none) (n_len : mg "len" = none) (n_range : mg "range" = none) (n_str : mg "str" = none) (n_bool : mg "bool" = none) (n_int : mg "int" = none) : ∀ n, FnOk P w K mg base (L2.CX P w) (n + 1) f fd [(Str.ofString "_law_found"), (Str.ofString "_law_due")] (spD K mg (S__law_same n))
  | 0 => ⟨fun _ _ _ _ h => (let ⟨_, _, _, _, _, _, _, z, _⟩ := h; z.elim), fun _ _ _ _ _ _ _ _ _ _ _ _ _ h => (let ⟨_, _, _, _, _, _, _, z, _⟩ := h; z.elim)⟩
  | n + 1 => st__law_same F (cal_of (ok__law_same F hm hb n_isinstance n_tuple n_list n_len n_range n_str n_bool n_int n) hm F.kp hb) n_isinstance n_tuple n_list n_len n_range n_str n_bool n_int

theorem sc__law_net : FnScope [(Str.ofString "_law_state"), (Str.ofString "_law_kind"), (Str.ofString "_law_wide")] [(Str.ofString "_law_state")] (defScope (topS 41)) := ⟨rfl, rfl, rfl, by decide +kernel, rfl, by decide +kernel, by decide +kernel⟩
theorem ok__law_net {f : Addr} {fd : FuncData} {k : Nat} (F : Fun K "_law_net" "_law_net" (topS 41) f fd) (G__law_drawn : Cal P w K mg base k "_law_drawn" S__law_drawn) : FnOk P w K mg base (L2.CX P w) (k + 1) f fd [(Str.ofString "_law_state")] (spD K mg S__law_net) :=
  def_ok F sc__law_net (body := fun cdv A outer s H c B E hr =>
    have px := pas_of (P := P) (w := w) (K := K) (mg := mg) (base := base) (N := [(Str.ofString "_law_state"), (Str.ofString "_law_kind"), (Str.ofString "_law_wide")]) (qual := "_law_net") (f := f) (cdv := cdv) (A := A) (outer := outer) (s := s) (H := H) (E := E) (sc := defScope (topS 41))
    have po := own_of (P := P) (w := w) (K := K) (mg := mg) (base := base) (N := [(Str.ofString "_law_state"), (Str.ofString "_law_kind"), (Str.ofString "_law_wide")]) (qual := "_law_net") (f := f) (cdv := cdv) (A := A) (outer := outer) (s := s) (H := H) (E := E) (sc := defScope (topS 41))
    have nd := sc__law_net.nd
    (dss_cons (ds_asg (.nm 1) (de_ix (de_lst (da_cons de_str (da_cons de_str (da_cons de_str da_nil)))) (de_call G__law_drawn hr px (by rfl) (da_cons (de_var 0) (da_cons de_int da_nil)))) (dg_name 1 nd))
    (dss_cons (ds_asg (.nm 2) (de_ix (de_lst (da_cons de_int (da_cons de_int (da_cons de_int da_nil)))) (de_call G__law_drawn hr px (by rfl) (da_cons (de_var 0) (da_cons de_int da_nil)))) (dg_name 2 nd))
    (dss_one (ds_ret (de_tup (da_cons (de_var 1) (da_cons (de_op od_add de_int (de_call G__law_drawn hr px (by rfl) (da_cons (de_var 0) (da_cons (de_var 2) da_nil)))) (da_cons (de_op od_add de_int (de_call G__law_drawn hr px (by rfl) (da_cons (de_var 0) (da_cons (de_var 2) da_nil)))) da_nil)))))))))

theorem sc__law_number : FnScope [(Str.ofString "_law_state"), (Str.ofString "_law_some")] [(Str.ofString "_law_state")] (defScope (topS 42)) := ⟨rfl, rfl, rfl, by decide +kernel, rfl, by decide +kernel, by decide +kernel⟩
theorem ok__law_number {f : Addr} {fd : FuncData} {k : Nat} (F : Fun K "_law_number" "_law_number" (topS 42) f fd) (G__law_drawn : Cal P w K mg base k "_law_drawn" S__law_drawn) : FnOk P w K mg base (L2.CX P w) (k + 1) f fd [(Str.ofString "_law_state")] (spD K mg S__law_number) :=
  def_ok F sc__law_number (body := fun cdv A outer s H c B E hr =>
    have px := pas_of (P := P) (w := w) (K := K) (mg := mg) (base := base) (N := [(Str.ofString "_law_state"), (Str.ofString "_law_some")]) (qual := "_law_number") (f := f) (cdv := cdv) (A := A) (outer := outer) (s := s) (H := H) (E := E) (sc := defScope (topS 42))
    have po := own_of (P := P) (w := w) (K := K) (mg := mg) (base := base) (N := [(Str.ofString "_law_state"), (Str.ofString "_law_some")]) (qual := "_law_number") (f := f) (cdv := cdv) (A := A) (outer := outer) (s := s) (H := H) (E := E) (sc := defScope (topS 42))
    have nd := sc__law_number.nd
    (dss_cons (ds_asg (.nm 1) (de_lst (da_cons (de_op od_sub (de_call G__law_drawn hr px (by rfl) (da_cons (de_var 0) (da_cons de_int da_nil))) de_int) (da_cons (de_op od_sub (de_call G__law_drawn hr px (by rfl) (da_cons (de_var 0) (da_cons de_int da_nil))) de_int) (da_cons (de_op od_sub (de_call G__law_drawn hr px (by rfl) (da_cons (de_var 0) (da_cons (de_op od_pow de_int de_int) da_nil))) (de_op od_pow de_int de_int)) da_nil)))) (dg_name 1 nd))
    (dss_one (ds_ret (de_ix (de_var 1) (de_ix (de_lst (da_cons de_int (da_cons de_int (da_cons de_int (da_cons de_int (da_cons de_int (da_cons de_int da_nil))))))) (de_call G__law_drawn hr px (by rfl) (da_cons (de_var 0) (da_cons de_int da_nil)))))))))

theorem sc__law_line : FnScope [(Str.ofString "_law_state"), (Str.ofString "_law_most"), (Str.ofString "_law_found"), (Str.ofString "_law_k")] [(Str.ofString "_law_state"), (Str.ofString "_law_most")] (defScope (topS 43)) := ⟨rfl, rfl, rfl, by decide +kernel, rfl, by decide +kernel, by decide +kernel⟩
theorem ok__law_line {f : Addr} {fd : FuncData} {k : Nat} (F : Fun K "_law_line" "_law_line" (topS 43) f fd) (G__law_drawn : Cal P w K mg base k "_law_drawn" S__law_drawn) (G__law_number : Cal P w K mg base k "_law_number" S__law_number) (n_range : mg "range" = none) (n_int : mg "int" = none) (n_tuple : mg "tuple" = none) : FnOk P w K mg base (L2.CX P w) (k + 1) f fd [(Str.ofString "_law_state"), (Str.ofString "_law_most")] (spD K mg S__law_line) :=
  def_ok F sc__law_line (body := fun cdv A outer s H c B E hr =>
    have px := pas_of (P := P) (w := w) (K := K) (mg := mg) (base := base) (N := [(Str.ofString "_law_state"), (Str.ofString "_law_most"), (Str.ofString "_law_found"), (Str.ofString "_law_k")]) (qual := "_law_line") (f := f) (cdv := cdv) (A := A) (outer := outer) (s := s) (H := H) (E := E) (sc := defScope (topS 43))
    have po := own_of (P := P) (w := w) (K := K) (mg := mg) (base := base) (N := [(Str.ofString "_law_state"), (Str.ofString "_law_most"), (Str.ofString "_law_found"), (Str.ofString "_law_k")]) (qual := "_law_line") (f := f) (cdv := cdv) (A := A) (outer := outer) (s := s) (H := H) (E := E) (sc := defScope (topS 43))
    have nd := sc__law_line.nd
    (dss_cons (ds_asgLR 2 (ps_asgW (.nm 2) (dg_name 2 nd)) (rl_lst da_nil))
    (dss_cons (ds_for (.nm 3) po rfl ((dir_rng1 (by rfl) n_range (da_cons (de_call G__law_drawn hr px (by rfl) (da_cons (de_var 0) (da_cons (de_op od_add (de_var 1) de_int) da_nil))) da_nil)).di) (dg_name 3 nd) (dss_one (ds_app 2 (de_ix (de_lst (da_cons (de_call G__law_number hr px (by rfl) (da_cons (de_var 0) da_nil)) (da_cons de_non da_nil))) (de_callTy cd_int (by rfl) n_int (by decide +kernel) (da_cons (de_cmp (od_eq hr) (de_call G__law_drawn hr px (by rfl) (da_cons (de_var 0) (da_cons de_int da_nil))) de_int) da_nil))) (pe_bm PySem.F.plainAttrs_list PySem.F.slot_list_append PySem.F.type_list_append mt_append (pv 2) (pa_cons (peW _) pa_nil)))))
    (dss_one (ds_ret (de_callTy cd_tuple (by rfl) n_tuple (by decide +kernel) (da_cons (de_var 2) da_nil)))))))

theorem sc__law_feed : FnScope [(Str.ofString "_law_state"), (Str.ofString "_law_net_here"), (Str.ofString "_law_most"), (Str.ofString "_law_lefts"), (Str.ofString "_law_row"), (Str.ofString "_law_column")] [(Str.ofString "_law_state"), (Str.ofString "_law_net_here"), (Str.ofString "_law_most")] (defScope (topS 44)) := ⟨rfl, rfl, rfl, by decide +kernel, rfl, by decide +kernel, by decide +kernel⟩
theorem ok__law_feed {f : Addr} {fd : FuncData} {k : Nat} (F : Fun K "_law_feed" "_law_feed" (topS 44) f fd) (G__law_line : Cal P w K mg base k "_law_line" S__law_line) (n_tuple : mg "tuple" = none) (n_range : mg "range" = none) : FnOk P w K mg base (L2.CX P w) (k + 1) f fd [(Str.ofString "_law_state"), (Str.ofString "_law_net_here"), (Str.ofString "_law_most")] (spD K mg S__law_feed) :=
  def_ok F sc__law_feed (body := fun cdv A outer s H c B E hr =>
    have px := pas_of (P := P) (w := w) (K := K) (mg := mg) (base := base) (N := [(Str.ofString "_law_state"), (Str.ofString "_law_net_here"), (Str.ofString "_law_most"), (Str.ofString "_law_lefts"), (Str.ofString "_law_row"), (Str.ofString "_law_column")]) (qual := "_law_feed") (f := f) (cdv := cdv) (A := A) (outer := outer) (s := s) (H := H) (E := E) (sc := defScope (topS 44))
    have po := own_of (P := P) (w := w) (K := K) (mg := mg) (base := base) (N := [(Str.ofString "_law_state"), (Str.ofString "_law_net_here"), (Str.ofString "_law_most"), (Str.ofString "_law_lefts"), (Str.ofString "_law_row"), (Str.ofString "_law_column")]) (qual := "_law_feed") (f := f) (cdv := cdv) (A := A) (outer := outer) (s := s) (H := H) (E := E) (sc := defScope (topS 44))
    have nd := sc__law_feed.nd
    (dss_cons (ds_asg (.nm 3) (de_callTy cd_tuple (by rfl) n_tuple (by decide +kernel) (da_cons (de_lc (own := [((Str.ofString "_law_row"), 4)]) (.nm 4) rfl nd ((dir_rng1 (by rfl) n_range (da_cons (de_ix (de_var 1) de_int) da_nil)).di) (blkOk_by (by kernel_rfl)) (fun _ _ _ _ _ => (dg_name 4 nd)) (fun _ _ _ _ _ => dts_nil) (fun _ _ _ _ _ => (de_call G__law_line hr passL (by rfl) (da_cons (de_var 0) (da_cons (de_var 2) da_nil))))) da_nil)) (dg_name 3 nd))
    (dss_one (ds_ret (de_tup (da_cons (de_var 3) (da_cons (de_callTy cd_tuple (by rfl) n_tuple (by decide +kernel) (da_cons (de_lc (own := [((Str.ofString "_law_column"), 5)]) (.nm 5) rfl nd ((dir_rng1 (by rfl) n_range (da_cons (de_ix (de_var 1) de_int) da_nil)).di) (blkOk_by (by kernel_rfl)) (fun _ _ _ _ _ => (dg_name 5 nd)) (fun _ _ _ _ _ => dts_nil) (fun _ _ _ _ _ => (de_call G__law_line hr passL (by rfl) (da_cons (de_var 0) (da_cons (de_var 2) da_nil))))) da_nil)) da_nil)))))))

theorem sc__law_turned : FnScope [(Str.ofString "_law_state"), (Str.ofString "_law_schedule"), (Str.ofString "_law_found"), (Str.ofString "_law_at"), (Str.ofString "_law_other"), (Str.ofString "_law_worker"), (Str.ofString "_law_way"), (Str.ofString "_law_step")] [(Str.ofString "_law_state"), (Str.ofString "_law_schedule")] (defScope (topS 45)) := ⟨rfl, rfl, rfl, by decide +kernel, rfl, by decide +kernel, by decide +kernel⟩
theorem ok__law_turned {f : Addr} {fd : FuncData} {k : Nat} (F : Fun K "_law_turned" "_law_turned" (topS 45) f fd) (G__law_drawn : Cal P w K mg base k "_law_drawn" S__law_drawn) (n_list : mg "list" = none) (n_len : mg "len" = none) (n_tuple : mg "tuple" = none) : FnOk P w K mg base (L2.CX P w) (k + 1) f fd [(Str.ofString "_law_state"), (Str.ofString "_law_schedule")] (spD K mg S__law_turned) :=
  def_ok F sc__law_turned (body := fun cdv A outer s H c B E hr =>
    have px := pas_of (P := P) (w := w) (K := K) (mg := mg) (base := base) (N := [(Str.ofString "_law_state"), (Str.ofString "_law_schedule"), (Str.ofString "_law_found"), (Str.ofString "_law_at"), (Str.ofString "_law_other"), (Str.ofString "_law_worker"), (Str.ofString "_law_way"), (Str.ofString "_law_step")]) (qual := "_law_turned") (f := f) (cdv := cdv) (A := A) (outer := outer) (s := s) (H := H) (E := E) (sc := defScope (topS 45))
    have po := own_of (P := P) (w := w) (K := K) (mg := mg) (base := base) (N := [(Str.ofString "_law_state"), (Str.ofString "_law_schedule"), (Str.ofString "_law_found"), (Str.ofString "_law_at"), (Str.ofString "_law_other"), (Str.ofString "_law_worker"), (Str.ofString "_law_way"), (Str.ofString "_law_step")]) (qual := "_law_turned") (f := f) (cdv := cdv) (A := A) (outer := outer) (s := s) (H := H) (E := E) (sc := defScope (topS 45))
    have nd := sc__law_turned.nd
    (dss_cons (ds_asgDR 0 2 (ps_lc (own := [((Str.ofString "_law_step"), 7)]) 2 (.nm 7) rfl nd (blkOk_by (by kernel_rfl)) (fun _ _ _ _ _ => (dg_name 7 nd)) (by rfl) (sw_true rfl rfl rfl (by kernel_rfl))) (rd_lc (.nm 7) rfl nd ((di_seq (de_var 1))) (blkOk_by (by kernel_rfl)) (fun _ _ _ _ _ => (dg_name 7 nd)) (fun _ _ _ _ _ => dts_nil) (fun _ _ _ _ _ => (RL.df (rl_list (de_var 7) (by rfl) n_list)))))
    (dss_cons (ds_asgA (.nm 3) (de_call G__law_drawn hr px (by rfl) (da_cons (de_var 0) (da_cons (de_callB cd_len (by rfl) n_len (by decide +kernel) (da_cons (de_var 2) da_nil)) da_nil))) (dg_name 3 nd))
    (dss_cons (ds_asgA (.nm 4) (de_call G__law_drawn hr px (by rfl) (da_cons (de_var 0) (da_cons (de_callB cd_len (by rfl) n_len (by decide +kernel) (da_cons (de_var 2) da_nil)) da_nil))) (dg_name 4 nd))
    (dss_cons (ds_asgA (.nm 5) (de_call G__law_drawn hr px (by rfl) (da_cons (de_var 0) (da_cons (de_callB cd_len (by rfl) n_len (by decide +kernel) (da_cons (de_ix (de_var 2) de_int) da_nil)) da_nil))) (dg_name 5 nd))
    (dss_cons (ds_asg (.nm 6) (de_call G__law_drawn hr px (by rfl) (da_cons (de_var 0) (da_cons de_int da_nil))) (dg_name 6 nd))
    (dss_cons (ds_if (dt_cmp (od_eq hr) (de_var 6) de_int) (dss_one (ds_popD 2 (de_var 3) (pe_bm PySem.F.plainAttrs_list PySem.F.slot_list_pop PySem.F.type_list_pop mt_popAt (pv 2) (pa_cons (peW _) pa_nil)))) (dss_one (ds_if (dt_cmp (od_eq hr) (de_var 6) de_int) (dss_one (ds_insD 2 (de_var 4) (rl_list (de_ix (de_var 2) (de_var 3)) (by rfl) n_list) (pe_bm PySem.F.plainAttrs_list PySem.F.slot_list_insert PySem.F.type_list_insert mt_ins (pv 2) (pa_cons (peW _) (pa_cons (peW _) pa_nil))))) (dss_one (ds_if (dt_cmp (od_eq hr) (de_var 6) de_int) (dss_swap 2 3 4 7 (ps_asg (pe_ix ix_seq (pv 2) (pv 3) (fun _ _ => rfl)) (dg_name 7 nd)) (ps_asg (pe_ix ix_seq (pv 2) (pv 4) (fun _ _ => rfl)) (pg_sub (pv 2) (pv 3) set_list)) (ps_asg (pv 7) (pg_sub (pv 2) (pv 4) set_list))) (dss_one (ds_if (dt_cmp (od_eq hr) (de_var 6) de_int) (dss_one (ds_put (dp_ix (dp_var 2) (de_var 3)) (de_var 5) (de_ix (de_ix (de_var 2) (de_var 4)) (de_var 5)))) (dss_one (ds_put (dp_ix (dp_var 2) (de_var 3)) (de_var 5) (de_ix (de_lst (da_cons de_non (da_cons (de_tup (da_cons de_int (da_cons de_int (da_cons de_int da_nil)))) (da_cons (de_tup (da_cons de_int (da_cons de_int (da_cons de_int da_nil)))) (da_cons (de_tup (da_cons de_int (da_cons de_int (da_cons de_int da_nil)))) (da_cons (de_tup (da_cons (de_op od_sub de_int de_int) (da_cons de_int (da_cons de_int da_nil)))) (da_cons (de_tup (da_cons de_int (da_cons de_int da_nil))) da_nil))))))) (de_call G__law_drawn hr px (by rfl) (da_cons (de_var 0) (da_cons de_int da_nil)))))))))))))
    (dss_one (ds_ret (de_lc (own := [((Str.ofString "_law_step"), 7)]) (.nm 7) rfl nd ((di_seq (de_var 2))) (blkOk_by (by kernel_rfl)) (fun _ _ _ _ _ => (dg_name 7 nd)) (fun _ _ _ _ _ => dts_nil) (fun _ _ _ _ _ => (de_callTy cd_tuple (by rfl) n_tuple (by decide +kernel) (da_cons (de_var 7) da_nil)))))))))))))

theorem sc__law_told : FnScope [(Str.ofString "_law_net_here"), (Str.ofString "_law_feed_here"), (Str.ofString "_law_beats"), (Str.ofString "_law_schedule"), (Str.ofString "e"), (Str.ofString "_law_other")] [(Str.ofString "_law_net_here"), (Str.ofString "_law_feed_here"), (Str.ofString "_law_beats"), (Str.ofString "_law_schedule")] (defScope (topS 46)) := ⟨rfl, rfl, rfl, by decide +kernel, rfl, by decide +kernel, by decide +kernel⟩
theorem ok__law_told {f : Addr} {fd : FuncData} {k : Nat} (F : Fun K "_law_told" "_law_told" (topS 46) f fd) (G_folded_run : Cal P w K mg base k "folded_run" S_folded_run) (n_isinstance : mg "isinstance" = none) (n_ValueError : mg "ValueError" = none) (tf : ToldF K mg) : FnOk P w K mg base (L2.CX P w) (k + 1) f fd [(Str.ofString "_law_net_here"), (Str.ofString "_law_feed_here"), (Str.ofString "_law_beats"), (Str.ofString "_law_schedule")] (spD K mg S__law_told) :=
  def_ok F sc__law_told (body := fun cdv A outer s H c B E hr =>
    have px := pas_of (P := P) (w := w) (K := K) (mg := mg) (base := base) (N := [(Str.ofString "_law_net_here"), (Str.ofString "_law_feed_here"), (Str.ofString "_law_beats"), (Str.ofString "_law_schedule"), (Str.ofString "e"), (Str.ofString "_law_other")]) (qual := "_law_told") (f := f) (cdv := cdv) (A := A) (outer := outer) (s := s) (H := H) (E := E) (sc := defScope (topS 46))
    have po := own_of (P := P) (w := w) (K := K) (mg := mg) (base := base) (N := [(Str.ofString "_law_net_here"), (Str.ofString "_law_feed_here"), (Str.ofString "_law_beats"), (Str.ofString "_law_schedule"), (Str.ofString "e"), (Str.ofString "_law_other")]) (qual := "_law_told") (f := f) (cdv := cdv) (A := A) (outer := outer) (s := s) (H := H) (E := E) (sc := defScope (topS 46))
    have nd := sc__law_told.nd
    (dss_one (ds_told tf rfl rfl nd rfl rfl rfl rfl (by first | exact Or.inl rfl | exact Or.inr (Or.inl rfl) | exact Or.inr (Or.inr rfl)) (by first | exact Or.inl rfl | exact Or.inr rfl) (by first | exact Or.inl rfl | exact Or.inr (Or.inl rfl) | exact Or.inr (Or.inr rfl)) rfl (fun n hn => by simp only [List.mem_cons, List.not_mem_nil, or_false] at hn; rcases hn with rfl | rfl | rfl | rfl | rfl | rfl | rfl | rfl | rfl | rfl <;> rfl) (fun pn xe E B0 H0 px => (de_tup (da_cons de_str (da_cons (de_call G_folded_run hr px (by rfl) (da_cons (de_var 0) (da_cons (de_var 1) (da_cons (de_var 2) (da_cons (de_var 3) da_nil))))) da_nil)))))))

theorem sc_law : FnScope [(Str.ofString "_law_script"), (Str.ofString "_law_state"), (Str.ofString "_law_turn"), (Str.ofString "_law_net_here"), (Str.ofString "_law_feed_here"), (Str.ofString "_law_beats"), (Str.ofString "_law_schedule"), (Str.ofString "_law_reason"), (Str.ofString "_law_told_here")] [(Str.ofString "_law_script")] (defScope (topS 47)) := ⟨rfl, rfl, rfl, by decide +kernel, rfl, by decide +kernel, by decide +kernel⟩
theorem ok_law {f : Addr} {fd : FuncData} {k : Nat} {fS : Addr} {fdS : FuncData} (F : Fun K "law" "law" (topS 47) f fd) (GS : FnOk P w K mg base (L2.CX P w) 1 fS fdS [(Str.ofString "_law_script")] (spStart K)) (mS : mg "_law_start" = some (.ref fS)) (kS : PySem.W.keepIn K (.ref fS) = true) (bS : Binds K fdS [(Str.ofString "_law_script")] []) (G__law_net : Cal P w K mg base k "_law_net" S__law_net) (G__law_feed : Cal P w K mg base k "_law_feed" S__law_feed) (G__law_drawn : Cal P w K mg base k "_law_drawn" S__law_drawn) (G__law_turned : Cal P w K mg base k "_law_turned" S__law_turned) (G_folded : Cal P w K mg base k "folded" S_folded) (G_wrong : Cal P w K mg base k "wrong" S_wrong) (G_kept_in : Cal P w K mg base k "kept_in" S_kept_in) (G_run : Cal P w K mg base k "run" S_run) (G__law_same : Cal P w K mg base k "_law_same" (S__law_same 12)) (G__law_told : Cal P w K mg base k "_law_told" S__law_told) (n_range : mg "range" = none) (main : Law_k17) (hk : 1 ≤ k) : FnOk P w K mg base (L2.CX P w) (k + 1) f fd [(Str.ofString "_law_script")] (spLaw K) := by
  refine F.okX sc_law (fun vs H Q E h => ?_) fun cdv A outer s H vs Q E hr h => ?_
  · obtain ⟨a, ns, rfl, _⟩ := h
    rfl
  · obtain ⟨a, ns, rfl, hF, q⟩ := h
    have px := pas_of (P := P) (w := w) (K := K) (mg := mg) (base := base) (N := [(Str.ofString "_law_script"), (Str.ofString "_law_state"), (Str.ofString "_law_turn"), (Str.ofString "_law_net_here"), (Str.ofString "_law_feed_here"), (Str.ofString "_law_beats"), (Str.ofString "_law_schedule"), (Str.ofString "_law_reason"), (Str.ofString "_law_told_here")]) (qual := "law") (f := f) (cdv := cdv) (A := A) (outer := outer) (s := s) (H := H) (E := E) (sc := defScope (topS 47))
    have po := own_of (P := P) (w := w) (K := K) (mg := mg) (base := base) (N := [(Str.ofString "_law_script"), (Str.ofString "_law_state"), (Str.ofString "_law_turn"), (Str.ofString "_law_net_here"), (Str.ofString "_law_feed_here"), (Str.ofString "_law_beats"), (Str.ofString "_law_schedule"), (Str.ofString "_law_reason"), (Str.ofString "_law_told_here")]) (qual := "law") (f := f) (cdv := cdv) (A := A) (outer := outer) (s := s) (H := H) (E := E) (sc := defScope (topS 47))
    have nd := sc_law.nd
    refine ⟨_, pss_cons (ps_asg (pe_call GS (hr.mono hk) (by rfl) mS kS bS .nil px (pa_cons (pv 0) pa_nil)) (dg_name 1 nd)) (pssW _), ?_⟩
    refine ⟨.ref a, rfl, a, ns, rfl, hF.seq, fun p m hp hm => ?_⟩
    have key : ∀ (ha : Addr) (sl : Bool), DSs (cxOf (L2.CX P w) P w K mg base [(Str.ofString "_law_script"), (Str.ofString "_law_state"), (Str.ofString "_law_turn"), (Str.ofString "_law_net_here"), (Str.ofString "_law_feed_here"), (Str.ofString "_law_beats"), (Str.ofString "_law_schedule"), (Str.ofString "_law_reason"), (Str.ofString "_law_told_here")] "law" (defScope (topS 47)) f cdv A outer s H E) ⟨⟨p, a, ns, ha, [], sl⟩, fun _ => none, upd H p (.lst [.ref a, .int 0, .int m, .int 0]), E⟩ (defBody (topS 47)).tail F_law_k17 :=
      fun ha sl => (dss_cons (ds_for (.nm 2) po rfl ((dir_rng1 (by rfl) n_range (da_cons de_int da_nil)).di) (dg_name 2 nd) (dss_cons (ds_asg (.nm 3) (de_call G__law_net hr px (by rfl) (da_cons (de_var 1) da_nil)) (dg_name 3 nd))
    (dss_cons (ds_asg (.nm 4) (de_call G__law_feed hr px (by rfl) (da_cons (de_var 1) (da_cons (de_var 3) (da_cons de_int da_nil)))) (dg_name 4 nd))
    (dss_cons (ds_asg (.nm 5) (de_op od_add de_int (de_call G__law_drawn hr px (by rfl) (da_cons (de_var 1) (da_cons de_int da_nil)))) (dg_name 5 nd))
    (dss_cons (ds_asg (.nm 6) (de_call G__law_turned hr px (by rfl) (da_cons (de_var 1) (da_cons (de_call G_folded hr px (by rfl) (da_cons (de_var 3) (da_cons (de_var 5) (da_cons (de_op od_add de_int (de_call G__law_drawn hr px (by rfl) (da_cons (de_var 1) (da_cons (de_op od_mul (de_ix (de_var 3) de_int) (de_ix (de_var 3) de_int)) da_nil)))) da_nil)))) da_nil))) (dg_name 6 nd))
    (dss_cons (ds_asg (.nm 7) (de_call G_wrong hr px (by rfl) (da_cons (de_var 3) (da_cons (de_var 5) (da_cons (de_var 6) da_nil)))) (dg_name 7 nd))
    (dss_cons (ds_asg (.nm 8) (de_tup (da_cons de_str (da_cons (de_var 7) da_nil))) (dg_name 8 nd))
    (dss_cons (ds_if (dt_cmp od_is (de_var 7) de_non) (dss_one (ds_asg (.nm 8) (de_tup (da_cons de_str (da_cons (de_call G_kept_in hr px (by rfl) (da_cons (de_ix (de_call G_run hr px (by rfl) (da_cons (de_var 3) (da_cons (de_var 4) (da_cons (de_var 5) da_nil)))) (de_neg de_int)) da_nil)) da_nil))) (dg_name 8 nd))) dss_nil)
    (dss_one (ds_if (dt_not (dt_val (de_call G__law_same hr px (by rfl) (da_cons (de_call G__law_told hr px (by rfl) (da_cons (de_var 3) (da_cons (de_var 4) (da_cons (de_var 5) (da_cons (de_var 6) da_nil))))) (da_cons (de_var 8) da_nil))))) (dss_one (ds_ret de_bl)) dss_nil))))))))))
    (dss_one (ds_ret de_bl)))
    exact law_run key hF hp hm main q (by rfl)

end
theorem all_mk {l : PySem.W.OpenLaw} {w : World} {K : PySem.W.Frag} {h : Heap} {mg : Str → Option Value} {fa : Addr} (X : K.In h) (G : h.Ns mainGlobals mg) (hfa : mg "law" = some (.ref fa)) (main : Law_k17)
    {f0 : Addr} {od0 an0 : Option Addr} {sl0 : Array (Option Value)} {oc0 kV0 dc0 pm0 cd0 ct0 : Value}
    {f1 : Addr} {od1 an1 : Option Addr} {sl1 : Array (Option Value)} {oc1 kV1 dc1 pm1 cd1 ct1 : Value}
    {f2 : Addr} {od2 an2 : Option Addr} {sl2 : Array (Option Value)} {oc2 kV2 dc2 pm2 cd2 ct2 : Value}
    {f3 : Addr} {od3 an3 : Option Addr} {sl3 : Array (Option Value)} {oc3 kV3 dc3 pm3 cd3 ct3 : Value}
    {f4 : Addr} {od4 an4 : Option Addr} {sl4 : Array (Option Value)} {oc4 kV4 dc4 pm4 cd4 ct4 : Value}
    {f5 : Addr} {od5 an5 : Option Addr} {sl5 : Array (Option Value)} {oc5 kV5 dc5 pm5 cd5 ct5 : Value}
    {f6 : Addr} {od6 an6 : Option Addr} {sl6 : Array (Option Value)} {oc6 kV6 dc6 pm6 cd6 ct6 : Value}
    {f7 : Addr} {od7 an7 : Option Addr} {sl7 : Array (Option Value)} {oc7 kV7 dc7 pm7 cd7 ct7 : Value}
    {f8 : Addr} {od8 an8 : Option Addr} {sl8 : Array (Option Value)} {oc8 kV8 dc8 pm8 cd8 ct8 : Value}
    {f9 : Addr} {od9 an9 : Option Addr} {sl9 : Array (Option Value)} {oc9 kV9 dc9 pm9 cd9 ct9 : Value}
    {f10 : Addr} {od10 an10 : Option Addr} {sl10 : Array (Option Value)} {oc10 kV10 dc10 pm10 cd10 ct10 : Value}
    {f11 : Addr} {od11 an11 : Option Addr} {sl11 : Array (Option Value)} {oc11 kV11 dc11 pm11 cd11 ct11 : Value}
    {f12 : Addr} {od12 an12 : Option Addr} {sl12 : Array (Option Value)} {oc12 kV12 dc12 pm12 cd12 ct12 : Value}
    {f13 : Addr} {od13 an13 : Option Addr} {sl13 : Array (Option Value)} {oc13 kV13 dc13 pm13 cd13 ct13 : Value}
    {f14 : Addr} {od14 an14 : Option Addr} {sl14 : Array (Option Value)} {oc14 kV14 dc14 pm14 cd14 ct14 : Value}
    {f15 : Addr} {od15 an15 : Option Addr} {sl15 : Array (Option Value)} {oc15 kV15 dc15 pm15 cd15 ct15 : Value}
    {f16 : Addr} {od16 an16 : Option Addr} {sl16 : Array (Option Value)} {oc16 kV16 dc16 pm16 cd16 ct16 : Value}
    {f17 : Addr} {od17 an17 : Option Addr} {sl17 : Array (Option Value)} {oc17 kV17 dc17 pm17 cd17 ct17 : Value}
    {f18 : Addr} {od18 an18 : Option Addr} {sl18 : Array (Option Value)} {oc18 kV18 dc18 pm18 cd18 ct18 : Value}
    {f19 : Addr} {od19 an19 : Option Addr} {sl19 : Array (Option Value)} {oc19 kV19 dc19 pm19 cd19 ct19 : Value}
    {f20 : Addr} {od20 an20 : Option Addr} {sl20 : Array (Option Value)} {oc20 kV20 dc20 pm20 cd20 ct20 : Value}
    {f21 : Addr} {od21 an21 : Option Addr} {sl21 : Array (Option Value)} {oc21 kV21 dc21 pm21 cd21 ct21 : Value}
    {f22 : Addr} {od22 an22 : Option Addr} {sl22 : Array (Option Value)} {oc22 kV22 dc22 pm22 cd22 ct22 : Value}
    {f23 : Addr} {od23 an23 : Option Addr} {sl23 : Array (Option Value)} {oc23 kV23 dc23 pm23 cd23 ct23 : Value}
    {f24 : Addr} {od24 an24 : Option Addr} {sl24 : Array (Option Value)} {oc24 kV24 dc24 pm24 cd24 ct24 : Value}
    {f25 : Addr} {od25 an25 : Option Addr} {sl25 : Array (Option Value)} {oc25 kV25 dc25 pm25 cd25 ct25 : Value}
    {f26 : Addr} {od26 an26 : Option Addr} {sl26 : Array (Option Value)} {oc26 kV26 dc26 pm26 cd26 ct26 : Value}
    {f27 : Addr} {od27 an27 : Option Addr} {sl27 : Array (Option Value)} {oc27 kV27 dc27 pm27 cd27 ct27 : Value}
    {f28 : Addr} {od28 an28 : Option Addr} {sl28 : Array (Option Value)} {oc28 kV28 dc28 pm28 cd28 ct28 : Value}
    {f29 : Addr} {od29 an29 : Option Addr} {sl29 : Array (Option Value)} {oc29 kV29 dc29 pm29 cd29 ct29 : Value}
    {f30 : Addr} {od30 an30 : Option Addr} {sl30 : Array (Option Value)} {oc30 kV30 dc30 pm30 cd30 ct30 : Value}
    {f31 : Addr} {od31 an31 : Option Addr} {sl31 : Array (Option Value)} {oc31 kV31 dc31 pm31 cd31 ct31 : Value}
    {f32 : Addr} {od32 an32 : Option Addr} {sl32 : Array (Option Value)} {oc32 kV32 dc32 pm32 cd32 ct32 : Value}
    {aC : Addr} (hc0 : PySem.W.nsIn K mainGlobals "Hall" = some (some (.ref aC))) (hc1 : PySem.W.plainGet K aC Str.empty = true) (hc2 : PySem.W.hasDictIn K aC = true) (hc3 : PySem.W.plainOver K aC = true) (hc4 : PySem.W.findIn K (.ref aC) "__setattr__" = some (some (.builtin "object.__setattr__"))) (hc5 : PySem.W.makesIn K aC = true) (hc6 : PySem.W.keepIn K (.ref aC) = true) (hc7 : PySem.W.findIn K (.ref aC) "net" = some none) (hc8 : PySem.W.findIn K (.ref aC) "feed" = some none) (hc9 : PySem.W.findIn K (.ref aC) "cells" = some none)
    (a0 : PySem.W.nsIn K mainGlobals "need_net" = some (some (.ref f0))) (l0 : K.lookup f0 = some ⟨oc0, od0, .func (PySem.W.fnOf "need_net" "need_net" (defArgs (topS 16)) (defBody (topS 16)) (defScope (topS 16)) .none kV0 dc0 pm0 an0 cd0 ct0), sl0⟩) (c0 : PySem.W.codeIn K cd0 "need_net" = true) (k0 : PySem.W.keepIn K (.ref f0) = true)
    (a1 : PySem.W.nsIn K mainGlobals "need_sides" = some (some (.ref f1))) (l1 : K.lookup f1 = some ⟨oc1, od1, .func (PySem.W.fnOf "need_sides" "need_sides" (defArgs (topS 17)) (defBody (topS 17)) (defScope (topS 17)) .none kV1 dc1 pm1 an1 cd1 ct1), sl1⟩) (c1 : PySem.W.codeIn K cd1 "need_sides" = true) (k1 : PySem.W.keepIn K (.ref f1) = true)
    (a2 : PySem.W.nsIn K mainGlobals "need_beats" = some (some (.ref f2))) (l2 : K.lookup f2 = some ⟨oc2, od2, .func (PySem.W.fnOf "need_beats" "need_beats" (defArgs (topS 18)) (defBody (topS 18)) (defScope (topS 18)) .none kV2 dc2 pm2 an2 cd2 ct2), sl2⟩) (c2 : PySem.W.codeIn K cd2 "need_beats" = true) (k2 : PySem.W.keepIn K (.ref f2) = true)
    (a3 : PySem.W.nsIn K mainGlobals "need_run" = some (some (.ref f3))) (l3 : K.lookup f3 = some ⟨oc3, od3, .func (PySem.W.fnOf "need_run" "need_run" (defArgs (topS 19)) (defBody (topS 19)) (defScope (topS 19)) .none kV3 dc3 pm3 an3 cd3 ct3), sl3⟩) (c3 : PySem.W.codeIn K cd3 "need_run" = true) (k3 : PySem.W.keepIn K (.ref f3) = true)
    (a4 : PySem.W.nsIn K mainGlobals "first_of" = some (some (.ref f4))) (l4 : K.lookup f4 = some ⟨oc4, od4, .func (PySem.W.fnOf "first_of" "first_of" (defArgs (topS 20)) (defBody (topS 20)) (defScope (topS 20)) .none kV4 dc4 pm4 an4 cd4 ct4), sl4⟩) (c4 : PySem.W.codeIn K cd4 "first_of" = true) (k4 : PySem.W.keepIn K (.ref f4) = true)
    (a5 : PySem.W.nsIn K mainGlobals "sorted_in" = some (some (.ref f5))) (l5 : K.lookup f5 = some ⟨oc5, od5, .func (PySem.W.fnOf "sorted_in" "sorted_in" (defArgs (topS 21)) (defBody (topS 21)) (defScope (topS 21)) .none kV5 dc5 pm5 an5 cd5 ct5), sl5⟩) (c5 : PySem.W.codeIn K cd5 "sorted_in" = true) (k5 : PySem.W.keepIn K (.ref f5) = true)
    (a6 : PySem.W.nsIn K mainGlobals "cell_behind" = some (some (.ref f6))) (l6 : K.lookup f6 = some ⟨oc6, od6, .func (PySem.W.fnOf "cell_behind" "cell_behind" (defArgs (topS 22)) (defBody (topS 22)) (defScope (topS 22)) .none kV6 dc6 pm6 an6 cd6 ct6), sl6⟩) (c6 : PySem.W.codeIn K cd6 "cell_behind" = true) (k6 : PySem.W.keepIn K (.ref f6) = true)
    (a7 : PySem.W.nsIn K mainGlobals "state_behind" = some (some (.ref f7))) (l7 : K.lookup f7 = some ⟨oc7, od7, .func (PySem.W.fnOf "state_behind" "state_behind" (defArgs (topS 23)) (defBody (topS 23)) (defScope (topS 23)) .none kV7 dc7 pm7 an7 cd7 ct7), sl7⟩) (c7 : PySem.W.codeIn K cd7 "state_behind" = true) (k7 : PySem.W.keepIn K (.ref f7) = true)
    (a8 : PySem.W.nsIn K mainGlobals "fed_now" = some (some (.ref f8))) (l8 : K.lookup f8 = some ⟨oc8, od8, .func (PySem.W.fnOf "fed_now" "fed_now" (defArgs (topS 24)) (defBody (topS 24)) (defScope (topS 24)) .none kV8 dc8 pm8 an8 cd8 ct8), sl8⟩) (c8 : PySem.W.codeIn K cd8 "fed_now" = true) (k8 : PySem.W.keepIn K (.ref f8) = true)
    (a9 : PySem.W.nsIn K mainGlobals "run" = some (some (.ref f9))) (l9 : K.lookup f9 = some ⟨oc9, od9, .func (PySem.W.fnOf "run" "run" (defArgs (topS 25)) (defBody (topS 25)) (defScope (topS 25)) .none kV9 dc9 pm9 an9 cd9 ct9), sl9⟩) (c9 : PySem.W.codeIn K cd9 "run" = true) (k9 : PySem.W.keepIn K (.ref f9) = true)
    (a10 : PySem.W.nsIn K mainGlobals "kept_in" = some (some (.ref f10))) (l10 : K.lookup f10 = some ⟨oc10, od10, .func (PySem.W.fnOf "kept_in" "kept_in" (defArgs (topS 26)) (defBody (topS 26)) (defScope (topS 26)) .none kV10 dc10 pm10 an10 cd10 ct10), sl10⟩) (c10 : PySem.W.codeIn K cd10 "kept_in" = true) (k10 : PySem.W.keepIn K (.ref f10) = true)
    (a11 : PySem.W.nsIn K mainGlobals "fed_at" = some (some (.ref f11))) (l11 : K.lookup f11 = some ⟨oc11, od11, .func (PySem.W.fnOf "fed_at" "fed_at" (defArgs (topS 28)) (defBody (topS 28)) (defScope (topS 28)) .none kV11 dc11 pm11 an11 cd11 ct11), sl11⟩) (c11 : PySem.W.codeIn K cd11 "fed_at" = true) (k11 : PySem.W.keepIn K (.ref f11) = true)
    (a12 : PySem.W.nsIn K mainGlobals "tasks_of" = some (some (.ref f12))) (l12 : K.lookup f12 = some ⟨oc12, od12, .func (PySem.W.fnOf "tasks_of" "tasks_of" (defArgs (topS 30)) (defBody (topS 30)) (defScope (topS 30)) .none kV12 dc12 pm12 an12 cd12 ct12), sl12⟩) (c12 : PySem.W.codeIn K cd12 "tasks_of" = true) (k12 : PySem.W.keepIn K (.ref f12) = true)
    (a13 : PySem.W.nsIn K mainGlobals "needed" = some (some (.ref f13))) (l13 : K.lookup f13 = some ⟨oc13, od13, .func (PySem.W.fnOf "needed" "needed" (defArgs (topS 31)) (defBody (topS 31)) (defScope (topS 31)) .none kV13 dc13 pm13 an13 cd13 ct13), sl13⟩) (c13 : PySem.W.codeIn K cd13 "needed" = true) (k13 : PySem.W.keepIn K (.ref f13) = true)
    (a14 : PySem.W.nsIn K mainGlobals "first_wrong" = some (some (.ref f14))) (l14 : K.lookup f14 = some ⟨oc14, od14, .func (PySem.W.fnOf "first_wrong" "first_wrong" (defArgs (topS 32)) (defBody (topS 32)) (defScope (topS 32)) .none kV14 dc14 pm14 an14 cd14 ct14), sl14⟩) (c14 : PySem.W.codeIn K cd14 "first_wrong" = true) (k14 : PySem.W.keepIn K (.ref f14) = true)
    (a15 : PySem.W.nsIn K mainGlobals "wrong" = some (some (.ref f15))) (l15 : K.lookup f15 = some ⟨oc15, od15, .func (PySem.W.fnOf "wrong" "wrong" (defArgs (topS 33)) (defBody (topS 33)) (defScope (topS 33)) .none kV15 dc15 pm15 an15 cd15 ct15), sl15⟩) (c15 : PySem.W.codeIn K cd15 "wrong" = true) (k15 : PySem.W.keepIn K (.ref f15) = true)
    (a16 : PySem.W.findIn K (.ref aC) "__init__" = some (some (.ref f16))) (i16 : PySem.W.isFn K (.ref f16) = true) (l16 : K.lookup f16 = some ⟨oc16, od16, .func (PySem.W.fnOf "__init__" "Hall.__init__" (defArgs (inClass (topS 34) 0)) (defBody (inClass (topS 34) 0)) (defScope (inClass (topS 34) 0)) .none kV16 dc16 pm16 an16 cd16 ct16), sl16⟩) (c16 : PySem.W.codeIn K cd16 "Hall.__init__" = true) (k16 : PySem.W.keepIn K (.ref f16) = true)
    (a17 : PySem.W.findIn K (.ref aC) "part" = some (some (.ref f17))) (i17 : PySem.W.isFn K (.ref f17) = true) (l17 : K.lookup f17 = some ⟨oc17, od17, .func (PySem.W.fnOf "part" "Hall.part" (defArgs (inClass (topS 34) 2)) (defBody (inClass (topS 34) 2)) (defScope (inClass (topS 34) 2)) .none kV17 dc17 pm17 an17 cd17 ct17), sl17⟩) (c17 : PySem.W.codeIn K cd17 "Hall.part" = true) (k17 : PySem.W.keepIn K (.ref f17) = true)
    (a18 : PySem.W.findIn K (.ref aC) "took" = some (some (.ref f18))) (i18 : PySem.W.isFn K (.ref f18) = true) (l18 : K.lookup f18 = some ⟨oc18, od18, .func (PySem.W.fnOf "took" "Hall.took" (defArgs (inClass (topS 34) 1)) (defBody (inClass (topS 34) 1)) (defScope (inClass (topS 34) 1)) .none kV18 dc18 pm18 an18 cd18 ct18), sl18⟩) (c18 : PySem.W.codeIn K cd18 "Hall.took" = true) (k18 : PySem.W.keepIn K (.ref f18) = true)
    (a19 : PySem.W.findIn K (.ref aC) "do" = some (some (.ref f19))) (i19 : PySem.W.isFn K (.ref f19) = true) (l19 : K.lookup f19 = some ⟨oc19, od19, .func (PySem.W.fnOf "do" "Hall.do" (defArgs (inClass (topS 34) 3)) (defBody (inClass (topS 34) 3)) (defScope (inClass (topS 34) 3)) .none kV19 dc19 pm19 an19 cd19 ct19), sl19⟩) (c19 : PySem.W.codeIn K cd19 "Hall.do" = true) (k19 : PySem.W.keepIn K (.ref f19) = true)
    {ea_GridError ea_NoNet ea_NoFeed ea_NoCount ea_NoTable ea_NoFault ea_NoSchedule ea_NoText : Addr} {xnm xq : Str} {xN : Addr} {xbs : List Value} {xsn : List Str} {xsub : List Value} {xab : Bool} {xcol : Option Bool} {xdd : Option Addr} {xm0 xm1 xm2 xm3 xm5 : Option Value}
    (e1_NoNet : PySem.W.nsIn K mainGlobals "NoNet" = some (some (.ref ea_NoNet)))
    (e1_NoFeed : PySem.W.nsIn K mainGlobals "NoFeed" = some (some (.ref ea_NoFeed)))
    (e1_NoCount : PySem.W.nsIn K mainGlobals "NoCount" = some (some (.ref ea_NoCount)))
    (e1_NoTable : PySem.W.nsIn K mainGlobals "NoTable" = some (some (.ref ea_NoTable)))
    (e1_NoFault : PySem.W.nsIn K mainGlobals "NoFault" = some (some (.ref ea_NoFault)))
    (e1_NoSchedule : PySem.W.nsIn K mainGlobals "NoSchedule" = some (some (.ref ea_NoSchedule)))
    (e1_NoText : PySem.W.nsIn K mainGlobals "NoText" = some (some (.ref ea_NoText)))
    (e1_GridError : PySem.W.nsIn K mainGlobals "GridError" = some (some (.ref ea_GridError)))
    (xL : K.lookup ea_NoSchedule = some (excClassObj xnm xq ea_NoSchedule xN xbs [.ref ea_GridError, .type "ValueError", .type "Exception", .type "BaseException", .type "object"] true xsn xsub xab xcol xdd xm0 xm1 xm2 xm3 xm5 "ValueError.__new__"))
    (x1 : PySem.W.findIn K (.ref ea_NoSchedule) "__setattr__" = some (some (.builtin "object.__setattr__")))
    (x2 : PySem.W.subIn K (.ref ea_NoSchedule) (.type "BaseException") = some true)
    (x3 : PySem.W.typeIn K (.ref ea_NoSchedule) = some (.type "type"))
    (x4 : PySem.W.keepIn K (.ref ea_NoSchedule) = true)
    (a20 : PySem.W.findIn K (.ref ea_NoSchedule) "__init__" = some (some (.ref f20)))
    (i20 : PySem.W.typeIn K (.ref f20) = some (.type "function"))
    (x5 : PySem.W.findIn K (.ref ea_NoSchedule) "reason" = some none)
    (x6 : PySem.W.readsIn K ea_GridError (.type "type") = true)
    (x7 : PySem.W.specialIn K (.ref ea_GridError) "__getattribute__" = some (some (.builtin "type.__getattribute__")))
    (x8 : PySem.W.findCls K (.ref ea_GridError) (.type "type") "__init__" = some (.val (.builtin "ValueError.__init__")))
    (w1 : PySem.W.findIn K (.ref ea_NoSchedule) "__getattribute__" = some (some (.builtin "BaseException.__getattribute__")))
    (w2 : PySem.W.findIn K (.ref ea_NoSchedule) "__getattr__" = some none)
    (w3 : PySem.W.hasDictIn K ea_NoSchedule = true)
    (w4 : PySem.W.findIn K (.ref ea_NoSchedule) "__class__" = some (some (.builtin "object.__class__")))
    (w5 : PySem.W.mroIn K ea_NoSchedule (.type "object") = some true)
    (w6 : PySem.W.kitOne K (.ref ea_NoSchedule) (.type "ValueError") = some true)
    (w7 : PySem.W.exmOne K (.ref ea_NoSchedule) (.ref ea_GridError) = some true)
    (v1 : PySem.W.specialIn K (.builtin "object.__class__") "__get__" = some (some (.builtin "getset_descriptor.__get__")))
    (v2 : PySem.W.takesIn K (.builtin "object.__class__") = some true)
    (l20 : K.lookup f20 = some ⟨oc20, od20, .func (PySem.W.fnOf "__init__" "NoSchedule.__init__" (defArgs (inClass (topS 7) 0)) (defBody (inClass (topS 7) 0)) (defScope (inClass (topS 7) 0)) .none kV20 dc20 pm20 an20 cd20 ct20), sl20⟩)
    (c20 : PySem.W.codeIn K cd20 "NoSchedule.__init__" = true)
    (k20 : PySem.W.keepIn K (.ref f20) = true)
    (y_NoNet : PySem.W.kitOne K (.ref ea_NoSchedule) (.ref ea_NoNet) = some false)
    (y_NoFeed : PySem.W.kitOne K (.ref ea_NoSchedule) (.ref ea_NoFeed) = some false)
    (y_NoCount : PySem.W.kitOne K (.ref ea_NoSchedule) (.ref ea_NoCount) = some false)
    (y_NoTable : PySem.W.kitOne K (.ref ea_NoSchedule) (.ref ea_NoTable) = some false)
    (y_NoFault : PySem.W.kitOne K (.ref ea_NoSchedule) (.ref ea_NoFault) = some false)
    (y_NoSchedule : PySem.W.kitOne K (.ref ea_NoSchedule) (.ref ea_NoSchedule) = some true)
    (y_NoText : PySem.W.kitOne K (.ref ea_NoSchedule) (.ref ea_NoText) = some false)
    (a21 : PySem.W.nsIn K mainGlobals "folded_run" = some (some (.ref f21))) (l21 : K.lookup f21 = some ⟨oc21, od21, .func (PySem.W.fnOf "folded_run" "folded_run" (defArgs (topS 35)) (defBody (topS 35)) (defScope (topS 35)) .none kV21 dc21 pm21 an21 cd21 ct21), sl21⟩) (c21 : PySem.W.codeIn K cd21 "folded_run" = true) (k21 : PySem.W.keepIn K (.ref f21) = true)
    (a22 : PySem.W.nsIn K mainGlobals "folded" = some (some (.ref f22))) (l22 : K.lookup f22 = some ⟨oc22, od22, .func (PySem.W.fnOf "folded" "folded" (defArgs (topS 36)) (defBody (topS 36)) (defScope (topS 36)) .none kV22 dc22 pm22 an22 cd22 ct22), sl22⟩) (c22 : PySem.W.codeIn K cd22 "folded" = true) (k22 : PySem.W.keepIn K (.ref f22) = true)
    (a23 : PySem.W.nsIn K mainGlobals "_law_start" = some (some (.ref f23))) (l23 : K.lookup f23 = some ⟨oc23, od23, .func (PySem.W.fnOf "_law_start" "_law_start" (defArgs (topS 38)) (defBody (topS 38)) (defScope (topS 38)) .none kV23 dc23 pm23 an23 cd23 ct23), sl23⟩) (c23 : PySem.W.codeIn K cd23 "_law_start" = true) (k23 : PySem.W.keepIn K (.ref f23) = true)
    (a24 : PySem.W.nsIn K mainGlobals "_law_drawn" = some (some (.ref f24))) (l24 : K.lookup f24 = some ⟨oc24, od24, .func (PySem.W.fnOf "_law_drawn" "_law_drawn" (defArgs (topS 39)) (defBody (topS 39)) (defScope (topS 39)) .none kV24 dc24 pm24 an24 cd24 ct24), sl24⟩) (c24 : PySem.W.codeIn K cd24 "_law_drawn" = true) (k24 : PySem.W.keepIn K (.ref f24) = true)
    (a25 : PySem.W.nsIn K mainGlobals "_law_same" = some (some (.ref f25))) (l25 : K.lookup f25 = some ⟨oc25, od25, .func (PySem.W.fnOf "_law_same" "_law_same" (defArgs (topS 40)) (defBody (topS 40)) (defScope (topS 40)) .none kV25 dc25 pm25 an25 cd25 ct25), sl25⟩) (c25 : PySem.W.codeIn K cd25 "_law_same" = true) (k25 : PySem.W.keepIn K (.ref f25) = true)
    (a26 : PySem.W.nsIn K mainGlobals "_law_net" = some (some (.ref f26))) (l26 : K.lookup f26 = some ⟨oc26, od26, .func (PySem.W.fnOf "_law_net" "_law_net" (defArgs (topS 41)) (defBody (topS 41)) (defScope (topS 41)) .none kV26 dc26 pm26 an26 cd26 ct26), sl26⟩) (c26 : PySem.W.codeIn K cd26 "_law_net" = true) (k26 : PySem.W.keepIn K (.ref f26) = true)
    (a27 : PySem.W.nsIn K mainGlobals "_law_number" = some (some (.ref f27))) (l27 : K.lookup f27 = some ⟨oc27, od27, .func (PySem.W.fnOf "_law_number" "_law_number" (defArgs (topS 42)) (defBody (topS 42)) (defScope (topS 42)) .none kV27 dc27 pm27 an27 cd27 ct27), sl27⟩) (c27 : PySem.W.codeIn K cd27 "_law_number" = true) (k27 : PySem.W.keepIn K (.ref f27) = true)
    (a28 : PySem.W.nsIn K mainGlobals "_law_line" = some (some (.ref f28))) (l28 : K.lookup f28 = some ⟨oc28, od28, .func (PySem.W.fnOf "_law_line" "_law_line" (defArgs (topS 43)) (defBody (topS 43)) (defScope (topS 43)) .none kV28 dc28 pm28 an28 cd28 ct28), sl28⟩) (c28 : PySem.W.codeIn K cd28 "_law_line" = true) (k28 : PySem.W.keepIn K (.ref f28) = true)
    (a29 : PySem.W.nsIn K mainGlobals "_law_feed" = some (some (.ref f29))) (l29 : K.lookup f29 = some ⟨oc29, od29, .func (PySem.W.fnOf "_law_feed" "_law_feed" (defArgs (topS 44)) (defBody (topS 44)) (defScope (topS 44)) .none kV29 dc29 pm29 an29 cd29 ct29), sl29⟩) (c29 : PySem.W.codeIn K cd29 "_law_feed" = true) (k29 : PySem.W.keepIn K (.ref f29) = true)
    (a30 : PySem.W.nsIn K mainGlobals "_law_turned" = some (some (.ref f30))) (l30 : K.lookup f30 = some ⟨oc30, od30, .func (PySem.W.fnOf "_law_turned" "_law_turned" (defArgs (topS 45)) (defBody (topS 45)) (defScope (topS 45)) .none kV30 dc30 pm30 an30 cd30 ct30), sl30⟩) (c30 : PySem.W.codeIn K cd30 "_law_turned" = true) (k30 : PySem.W.keepIn K (.ref f30) = true)
    (a31 : PySem.W.nsIn K mainGlobals "_law_told" = some (some (.ref f31))) (l31 : K.lookup f31 = some ⟨oc31, od31, .func (PySem.W.fnOf "_law_told" "_law_told" (defArgs (topS 46)) (defBody (topS 46)) (defScope (topS 46)) .none kV31 dc31 pm31 an31 cd31 ct31), sl31⟩) (c31 : PySem.W.codeIn K cd31 "_law_told" = true) (k31 : PySem.W.keepIn K (.ref f31) = true)
    (a32 : PySem.W.nsIn K mainGlobals "law" = some (some (.ref f32))) (l32 : K.lookup f32 = some ⟨oc32, od32, .func (PySem.W.fnOf "law" "law" (defArgs (topS 47)) (defBody (topS 47)) (defScope (topS 47)) .none kV32 dc32 pm32 an32 cd32 ct32), sl32⟩) (c32 : PySem.W.codeIn K cd32 "law" = true) (k32 : PySem.W.keepIn K (.ref f32) = true)
    {ad_KINDS : Addr} {dd_KINDS : Option Addr} {n_KINDS : Nat} {sl_KINDS : Array (Option Value)} {t0_KINDS : Tok} {t1_KINDS : Tok} {t2_KINDS : Tok} (g_KINDS : PySem.W.nsIn K mainGlobals "KINDS" = some (some (.ref ad_KINDS))) (h_KINDS : K.lookup ad_KINDS = some ⟨.type "tuple", dd_KINDS, .seq #[.str (Str.ofString "product") t0_KINDS, .str (Str.ofString "paths") t1_KINDS, .str (Str.ofString "sorting") t2_KINDS] n_KINDS, sl_KINDS⟩)
    {t_MOST_SIZE : Tok} (g_MOST_SIZE : PySem.W.nsIn K mainGlobals "MOST_SIZE" = some (some (.int 6 t_MOST_SIZE)))
    {t_MOST_BEATS : Tok} (g_MOST_BEATS : PySem.W.nsIn K mainGlobals "MOST_BEATS" = some (some (.int 60 t_MOST_BEATS)))
    {t_RIGHT : Tok} (g_RIGHT : PySem.W.nsIn K mainGlobals "RIGHT" = some (some (.int 1 t_RIGHT)))
    {t_DOWN : Tok} (g_DOWN : PySem.W.nsIn K mainGlobals "DOWN" = some (some (.int 2 t_DOWN)))
    {t_KEPT : Tok} (g_KEPT : PySem.W.nsIn K mainGlobals "KEPT" = some (some (.int 0 t_KEPT)))
    (z_len : PySem.W.nsIn K mainGlobals "len" = some none)
    (z_tuple : PySem.W.nsIn K mainGlobals "tuple" = some none)
    (z_range : PySem.W.nsIn K mainGlobals "range" = some none)
    (z_max : PySem.W.nsIn K mainGlobals "max" = some none)
    (z_min : PySem.W.nsIn K mainGlobals "min" = some none)
    (z_dict : PySem.W.nsIn K mainGlobals "dict" = some none)
    (z_enumerate : PySem.W.nsIn K mainGlobals "enumerate" = some none)
    (z_isinstance : PySem.W.nsIn K mainGlobals "isinstance" = some none)
    (z_list : PySem.W.nsIn K mainGlobals "list" = some none)
    (z_str : PySem.W.nsIn K mainGlobals "str" = some none)
    (z_bool : PySem.W.nsIn K mainGlobals "bool" = some none)
    (z_int : PySem.W.nsIn K mainGlobals "int" = some none)
    (z_ValueError : PySem.W.nsIn K mainGlobals "ValueError" = some none)
    (e2_NoNet : PySem.W.excIn K ea_NoNet [.type "ValueError", .type "Exception", .type "BaseException", .type "object"] "ValueError.__new__" = true) (e3_NoNet : PySem.W.keepIn K (.ref ea_NoNet) = true) (e4_NoNet : PySem.W.subIn K (.ref ea_NoNet) (.type "BaseException") = some true) (e5_NoNet : PySem.W.typeIn K (.ref ea_NoNet) = some (.type "type"))
    (e2_NoFeed : PySem.W.excIn K ea_NoFeed [.type "ValueError", .type "Exception", .type "BaseException", .type "object"] "ValueError.__new__" = true) (e3_NoFeed : PySem.W.keepIn K (.ref ea_NoFeed) = true) (e4_NoFeed : PySem.W.subIn K (.ref ea_NoFeed) (.type "BaseException") = some true) (e5_NoFeed : PySem.W.typeIn K (.ref ea_NoFeed) = some (.type "type"))
    (e2_NoCount : PySem.W.excIn K ea_NoCount [.type "ValueError", .type "Exception", .type "BaseException", .type "object"] "ValueError.__new__" = true) (e3_NoCount : PySem.W.keepIn K (.ref ea_NoCount) = true) (e4_NoCount : PySem.W.subIn K (.ref ea_NoCount) (.type "BaseException") = some true) (e5_NoCount : PySem.W.typeIn K (.ref ea_NoCount) = some (.type "type"))
    : ∃ fd : FuncData, (∀ (s : Shared) (v : Value), BindsTo s fd ⟨[v], []⟩ [((Str.ofString "_law_script"), v)]) ∧ ∀ base : Heap, K.In base → base.Ns mainGlobals mg → FnOk l.prog w K mg base (L2.CX l.prog w) 14 fa fd [(Str.ofString "_law_script")] (spLaw K) := by
  have e := hfa.symm.trans (PySem.W.mg_of X G a32)
  cases e
  have F0 := fun_mk (st := topS 16) l0 c0 k0
  have b0 := F0.binds (ps := [(Str.ofString "net")]) fun _ _ _ _ _ _ us hl => match us, hl with | [_], _ => rfl
  have m0 := PySem.W.mg_of X G a0
  have F1 := fun_mk (st := topS 17) l1 c1 k1
  have b1 := F1.binds (ps := [(Str.ofString "net"), (Str.ofString "lefts"), (Str.ofString "tops")]) fun _ _ _ _ _ _ us hl => match us, hl with | [_, _, _], _ => rfl
  have m1 := PySem.W.mg_of X G a1
  have F2 := fun_mk (st := topS 18) l2 c2 k2
  have b2 := F2.binds (ps := [(Str.ofString "beats")]) fun _ _ _ _ _ _ us hl => match us, hl with | [_], _ => rfl
  have m2 := PySem.W.mg_of X G a2
  have F3 := fun_mk (st := topS 19) l3 c3 k3
  have b3 := F3.binds (ps := [(Str.ofString "net"), (Str.ofString "feed"), (Str.ofString "beats")]) fun _ _ _ _ _ _ us hl => match us, hl with | [_, _, _], _ => rfl
  have m3 := PySem.W.mg_of X G a3
  have F4 := fun_mk (st := topS 20) l4 c4 k4
  have b4 := F4.binds (ps := [(Str.ofString "net")]) fun _ _ _ _ _ _ us hl => match us, hl with | [_], _ => rfl
  have m4 := PySem.W.mg_of X G a4
  have F5 := fun_mk (st := topS 21) l5 c5 k5
  have b5 := F5.binds (ps := [(Str.ofString "mine"), (Str.ofString "a"), (Str.ofString "b")]) fun _ _ _ _ _ _ us hl => match us, hl with | [_, _, _], _ => rfl
  have m5 := PySem.W.mg_of X G a5
  have F6 := fun_mk (st := topS 22) l6 c6 k6
  have b6 := F6.binds (ps := [(Str.ofString "kind"), (Str.ofString "mine"), (Str.ofString "a"), (Str.ofString "b")]) fun _ _ _ _ _ _ us hl => match us, hl with | [_, _, _, _], _ => rfl
  have m6 := PySem.W.mg_of X G a6
  have F7 := fun_mk (st := topS 23) l7 c7 k7
  have b7 := F7.binds (ps := [(Str.ofString "net"), (Str.ofString "state"), (Str.ofString "lefts"), (Str.ofString "tops")]) fun _ _ _ _ _ _ us hl => match us, hl with | [_, _, _, _], _ => rfl
  have m7 := PySem.W.mg_of X G a7
  have F8 := fun_mk (st := topS 24) l8 c8 k8
  have b8 := F8.binds (ps := [(Str.ofString "side"), (Str.ofString "time")]) fun _ _ _ _ _ _ us hl => match us, hl with | [_, _], _ => rfl
  have m8 := PySem.W.mg_of X G a8
  have F9 := fun_mk (st := topS 25) l9 c9 k9
  have b9 := F9.binds (ps := [(Str.ofString "net"), (Str.ofString "feed"), (Str.ofString "beats")]) fun _ _ _ _ _ _ us hl => match us, hl with | [_, _, _], _ => rfl
  have m9 := PySem.W.mg_of X G a9
  have F10 := fun_mk (st := topS 26) l10 c10 k10
  have b10 := F10.binds (ps := [(Str.ofString "state")]) fun _ _ _ _ _ _ us hl => match us, hl with | [_], _ => rfl
  have m10 := PySem.W.mg_of X G a10
  have F11 := fun_mk (st := topS 28) l11 c11 k11
  have b11 := F11.binds (ps := [(Str.ofString "line"), (Str.ofString "time")]) fun _ _ _ _ _ _ us hl => match us, hl with | [_, _], _ => rfl
  have m11 := PySem.W.mg_of X G a11
  have F12 := fun_mk (st := topS 30) l12 c12 k12
  have b12 := F12.binds (ps := [(Str.ofString "net"), (Str.ofString "beats")]) fun _ _ _ _ _ _ us hl => match us, hl with | [_, _], _ => rfl
  have m12 := PySem.W.mg_of X G a12
  have F13 := fun_mk (st := topS 31) l13 c13 k13
  have b13 := F13.binds (ps := [(Str.ofString "task")]) fun _ _ _ _ _ _ us hl => match us, hl with | [_], _ => rfl
  have m13 := PySem.W.mg_of X G a13
  have F14 := fun_mk (st := topS 32) l14 c14 k14
  have b14 := F14.binds (ps := [(Str.ofString "every"), (Str.ofString "schedule")]) fun _ _ _ _ _ _ us hl => match us, hl with | [_, _], _ => rfl
  have m14 := PySem.W.mg_of X G a14
  have F15 := fun_mk (st := topS 33) l15 c15 k15
  have b15 := F15.binds (ps := [(Str.ofString "net"), (Str.ofString "beats"), (Str.ofString "schedule")]) fun _ _ _ _ _ _ us hl => match us, hl with | [_, _, _], _ => rfl
  have m15 := PySem.W.mg_of X G a15
  have F16 := fun_mk (st := inClass (topS 34) 0) l16 c16 k16
  have b16 := F16.binds (ps := [(Str.ofString "self"), (Str.ofString "net"), (Str.ofString "feed")]) fun _ _ _ _ _ _ us hl => match us, hl with | [_, _, _], _ => rfl
  have F17 := fun_mk (st := inClass (topS 34) 2) l17 c17 k17
  have b17 := F17.binds (ps := [(Str.ofString "self"), (Str.ofString "task"), (Str.ofString "which")]) fun _ _ _ _ _ _ us hl => match us, hl with | [_, _, _], _ => rfl
  have F18 := fun_mk (st := inClass (topS 34) 1) l18 c18 k18
  have b18 := F18.binds (ps := [(Str.ofString "self"), (Str.ofString "task")]) fun _ _ _ _ _ _ us hl => match us, hl with | [_, _], _ => rfl
  have F19 := fun_mk (st := inClass (topS 34) 3) l19 c19 k19
  have b19 := F19.binds (ps := [(Str.ofString "self"), (Str.ofString "task")]) fun _ _ _ _ _ _ us hl => match us, hl with | [_, _], _ => rfl
  have F20 := fun_mk (st := inClass (topS 7) 0) l20 c20 k20
  have b20 := F20.binds (ps := [(Str.ofString "self"), (Str.ofString "reason")]) fun _ _ _ _ _ _ us hl => match us, hl with | [_, _], _ => rfl
  have F21 := fun_mk (st := topS 35) l21 c21 k21
  have b21 := F21.binds (ps := [(Str.ofString "net"), (Str.ofString "feed"), (Str.ofString "beats"), (Str.ofString "schedule")]) fun _ _ _ _ _ _ us hl => match us, hl with | [_, _, _, _], _ => rfl
  have m21 := PySem.W.mg_of X G a21
  have F22 := fun_mk (st := topS 36) l22 c22 k22
  have b22 := F22.binds (ps := [(Str.ofString "net"), (Str.ofString "beats"), (Str.ofString "workers")]) fun _ _ _ _ _ _ us hl => match us, hl with | [_, _, _], _ => rfl
  have m22 := PySem.W.mg_of X G a22
  have F23 := fun_mk (st := topS 38) l23 c23 k23
  have b23 := F23.binds (ps := [(Str.ofString "_law_script")]) fun _ _ _ _ _ _ us hl => match us, hl with | [_], _ => rfl
  have m23 := PySem.W.mg_of X G a23
  have F24 := fun_mk (st := topS 39) l24 c24 k24
  have b24 := F24.binds (ps := [(Str.ofString "_law_state"), (Str.ofString "_law_many")]) fun _ _ _ _ _ _ us hl => match us, hl with | [_, _], _ => rfl
  have m24 := PySem.W.mg_of X G a24
  have F25 := fun_mk (st := topS 40) l25 c25 k25
  have b25 := F25.binds (ps := [(Str.ofString "_law_found"), (Str.ofString "_law_due")]) fun _ _ _ _ _ _ us hl => match us, hl with | [_, _], _ => rfl
  have m25 := PySem.W.mg_of X G a25
  have F26 := fun_mk (st := topS 41) l26 c26 k26
  have b26 := F26.binds (ps := [(Str.ofString "_law_state")]) fun _ _ _ _ _ _ us hl => match us, hl with | [_], _ => rfl
  have m26 := PySem.W.mg_of X G a26
  have F27 := fun_mk (st := topS 42) l27 c27 k27
  have b27 := F27.binds (ps := [(Str.ofString "_law_state")]) fun _ _ _ _ _ _ us hl => match us, hl with | [_], _ => rfl
  have m27 := PySem.W.mg_of X G a27
  have F28 := fun_mk (st := topS 43) l28 c28 k28
  have b28 := F28.binds (ps := [(Str.ofString "_law_state"), (Str.ofString "_law_most")]) fun _ _ _ _ _ _ us hl => match us, hl with | [_, _], _ => rfl
  have m28 := PySem.W.mg_of X G a28
  have F29 := fun_mk (st := topS 44) l29 c29 k29
  have b29 := F29.binds (ps := [(Str.ofString "_law_state"), (Str.ofString "_law_net_here"), (Str.ofString "_law_most")]) fun _ _ _ _ _ _ us hl => match us, hl with | [_, _, _], _ => rfl
  have m29 := PySem.W.mg_of X G a29
  have F30 := fun_mk (st := topS 45) l30 c30 k30
  have b30 := F30.binds (ps := [(Str.ofString "_law_state"), (Str.ofString "_law_schedule")]) fun _ _ _ _ _ _ us hl => match us, hl with | [_, _], _ => rfl
  have m30 := PySem.W.mg_of X G a30
  have F31 := fun_mk (st := topS 46) l31 c31 k31
  have b31 := F31.binds (ps := [(Str.ofString "_law_net_here"), (Str.ofString "_law_feed_here"), (Str.ofString "_law_beats"), (Str.ofString "_law_schedule")]) fun _ _ _ _ _ _ us hl => match us, hl with | [_, _, _, _], _ => rfl
  have m31 := PySem.W.mg_of X G a31
  have F32 := fun_mk (st := topS 47) l32 c32 k32
  have c_KINDS : TupC K mg "KINDS" (.tuple [(.str (Str.ofString "product")), (.str (Str.ofString "paths")), (.str (Str.ofString "sorting"))]) := ⟨ad_KINDS, PySem.W.mg_of X G g_KINDS, fun c B => .tup ⟨.inr ⟨_, _, _, h_KINDS, rfl, rfl, (by show 3 ≤ sizeLine; decide), (.cons (show RelV (.str (Str.ofString "product")) _ from ⟨_, rfl⟩) (.cons (show RelV (.str (Str.ofString "paths")) _ from ⟨_, rfl⟩) (.cons (show RelV (.str (Str.ofString "sorting")) _ from ⟨_, rfl⟩) .nil)))⟩, .inr ⟨_, _, rfl⟩⟩ (.cons (.str _) (.cons (.str _) (.cons (.str _) .nil)))⟩
  have c_MOST_SIZE := PySem.W.mg_of X G g_MOST_SIZE
  have c_MOST_BEATS := PySem.W.mg_of X G g_MOST_BEATS
  have c_RIGHT := PySem.W.mg_of X G g_RIGHT
  have c_DOWN := PySem.W.mg_of X G g_DOWN
  have c_KEPT := PySem.W.mg_of X G g_KEPT
  have n_len := PySem.W.mg_none_of X G z_len
  have n_tuple := PySem.W.mg_none_of X G z_tuple
  have n_range := PySem.W.mg_none_of X G z_range
  have n_max := PySem.W.mg_none_of X G z_max
  have n_min := PySem.W.mg_none_of X G z_min
  have n_dict := PySem.W.mg_none_of X G z_dict
  have n_enumerate := PySem.W.mg_none_of X G z_enumerate
  have n_isinstance := PySem.W.mg_none_of X G z_isinstance
  have n_list := PySem.W.mg_none_of X G z_list
  have n_str := PySem.W.mg_none_of X G z_str
  have n_bool := PySem.W.mg_none_of X G z_bool
  have n_int := PySem.W.mg_none_of X G z_int
  have n_ValueError := PySem.W.mg_none_of X G z_ValueError
  have x_NoNet : ExcK K mg "NoNet" := ⟨ea_NoNet, PySem.W.mg_of X G e1_NoNet, e2_NoNet, e3_NoNet, e4_NoNet, e5_NoNet⟩
  have x_NoFeed : ExcK K mg "NoFeed" := ⟨ea_NoFeed, PySem.W.mg_of X G e1_NoFeed, e2_NoFeed, e3_NoFeed, e4_NoFeed, e5_NoFeed⟩
  have x_NoCount : ExcK K mg "NoCount" := ⟨ea_NoCount, PySem.W.mg_of X G e1_NoCount, e2_NoCount, e3_NoCount, e4_NoCount, e5_NoCount⟩
  refine ⟨PySem.W.fnOf "law" "law" (defArgs (topS 47)) (defBody (topS 47)) (defScope (topS 47)) .none kV32 dc32 pm32 an32 cd32 ct32, fun s v => .of_eq rfl, fun base _ _ => ?_⟩
  have hC : HallC K mg aC := ⟨⟨hc1, hc2, hc3, hc4⟩, hc7, hc8, hc9, PySem.W.mg_of X G hc0⟩
  have hK : HallK K mg := ⟨aC, hC⟩
  have O_need_net := cal_of (ok_need_net (P := l.prog) (w := w) (mg := mg) (base := base) (k := 0) F0 c_KINDS c_MOST_SIZE x_NoNet) m0 F0.kp b0
  have O_need_sides := cal_of (ok_need_sides (P := l.prog) (w := w) (mg := mg) (base := base) (k := 0) F1 n_len x_NoFeed) m1 F1.kp b1
  have O_need_beats := cal_of (ok_need_beats (P := l.prog) (w := w) (mg := mg) (base := base) (k := 0) F2 c_MOST_BEATS x_NoCount) m2 F2.kp b2
  have O_need_run := cal_of (ok_need_run (P := l.prog) (w := w) (mg := mg) (base := base) (k := 1) F3 (O_need_net.up) (O_need_sides.up) (O_need_beats.up)) m3 F3.kp b3
  have O_first_of := cal_of (ok_first_of (P := l.prog) (w := w) (mg := mg) (base := base) (k := 0) F4 n_tuple n_range) m4 F4.kp b4
  have O_sorted_in := cal_of (ok_sorted_in (P := l.prog) (w := w) (mg := mg) (base := base) (k := 0) F5 n_max n_min) m5 F5.kp b5
  have O_cell_behind := cal_of (ok_cell_behind (P := l.prog) (w := w) (mg := mg) (base := base) (k := 1) F6 (O_sorted_in.up) n_min) m6 F6.kp b6
  have O_state_behind := cal_of (ok_state_behind (P := l.prog) (w := w) (mg := mg) (base := base) (k := 2) F7 (O_cell_behind.up) c_RIGHT c_DOWN c_KEPT n_range n_tuple) m7 F7.kp b7
  have O_fed_now := cal_of (ok_fed_now (P := l.prog) (w := w) (mg := mg) (base := base) (k := 0) F8 n_len) m8 F8.kp b8
  have O_run := cal_of (ok_run (P := l.prog) (w := w) (mg := mg) (base := base) (k := 3) F9 (O_need_run.up) (O_first_of.up) (O_state_behind.up) (O_fed_now.up) n_range) m9 F9.kp b9
  have O_kept_in := cal_of (ok_kept_in (P := l.prog) (w := w) (mg := mg) (base := base) (k := 0) F10 c_KEPT n_tuple) m10 F10.kp b10
  have O_fed_at := cal_of (ok_fed_at (P := l.prog) (w := w) (mg := mg) (base := base) (k := 0) F11 n_len) m11 F11.kp b11
  have O_tasks_of := cal_of (ok_tasks_of (P := l.prog) (w := w) (mg := mg) (base := base) (k := 0) F12 n_range) m12 F12.kp b12
  have O_needed := cal_of (ok_needed (P := l.prog) (w := w) (mg := mg) (base := base) (k := 0) F13 n_min) m13 F13.kp b13
  have O_first_wrong := cal_of (ok_first_wrong (P := l.prog) (w := w) (mg := mg) (base := base) (k := 1) F14 (O_needed.up) n_dict n_enumerate) m14 F14.kp b14
  have O_wrong := cal_of (ok_wrong (P := l.prog) (w := w) (mg := mg) (base := base) (k := 2) F15 (O_need_net.up) (O_need_beats.up) (O_first_wrong.up) (O_tasks_of.up)) m15 F15.kp b15
  have O_Hall_init : CalI l.prog w K mg base 2 := ⟨aC, _, _, 1, hC, ⟨hc5, a16, i16, hc6⟩, ok_Hall_init (k := 0) hC F16, Nat.le_refl _, b16⟩
  have O_Hall_part : CalM l.prog w K mg base 1 "part" S_Hall_part := ⟨aC, _, _, _, 1, hC, ⟨a17, i17, k17⟩, ok_Hall_part (k := 0) F17 c_KEPT hK, Nat.le_refl _, b17⟩
  have O_Hall_took : CalM l.prog w K mg base 2 "took" S_Hall_took := ⟨aC, _, _, _, 2, hC, ⟨a18, i18, k18⟩, ok_Hall_took (k := 1) F18 (O_Hall_part.up) (O_fed_at.up) c_RIGHT c_DOWN hK, Nat.le_refl _, b18⟩
  have O_Hall_do : CalDo l.prog w K mg base 3 S_Hall_do := ⟨aC, _, _, 3, hC, ⟨a19, i19, k19⟩, ok_Hall_do (k := 2) hC F19 (O_Hall_took.up) (O_Hall_part.up) (O_cell_behind.up) c_KEPT hK, Nat.le_refl _, b19⟩
  have hT : OexC K ea_NoSchedule := ⟨⟨xnm, xq, xN, xbs, _, xsn, xsub, xab, xcol, xdd, xm0, xm1, xm2, xm3, xm5, xL, (show PySem.HandSPX.refsVE [.type "ValueError", .type "Exception", .type "BaseException", .type "object"] = true by decide +kernel)⟩, x1, x2, x3, x4⟩
  have O_NoSchedule_init : CalX l.prog w K mg base 2 "NoSchedule" := ⟨ea_NoSchedule, _, _, 1, (PySem.W.mg_of X G e1_NoSchedule), hT, a20, i20, ok_NoSchedule_init (k := 0) hT x5 (PySem.W.mg_of X G e1_GridError) x6 x7 x8 F20, Nat.le_refl _, b20⟩
  have tf : ToldF K mg := ⟨ea_NoSchedule, ea_GridError, ea_NoNet, ea_NoFeed, ea_NoCount, ea_NoTable, ea_NoFault, ea_NoText, (PySem.W.mg_of X G e1_NoSchedule), (PySem.W.mg_of X G e1_GridError), n_isinstance, n_ValueError, (PySem.W.mg_of X G e1_NoNet), (PySem.W.mg_of X G e1_NoFeed), (PySem.W.mg_of X G e1_NoCount), (PySem.W.mg_of X G e1_NoTable), (PySem.W.mg_of X G e1_NoFault), (PySem.W.mg_of X G e1_NoText), ⟨⟨w1, w2, x2, w3, w4, v1, v2, w5⟩, ⟨w1, w2, x2, w3⟩, x5, w6, y_NoSchedule, fun CG h => by rw [PySem.W.mg_of X G e1_GridError] at h; cases h; exact w7⟩, by simp only [PySem.W.kitAny, y_NoNet, y_NoFeed, y_NoCount, y_NoTable, y_NoFault, y_NoText]⟩
  have O_folded_run := cal_of (ok_folded_run (P := l.prog) (w := w) (mg := mg) (base := base) (k := 3) F21 (O_need_run.up) (O_first_wrong.up) (O_tasks_of.up) (O_NoSchedule_init.up) (O_Hall_init.up) (O_Hall_do.up) (O_Hall_part.up) c_KEPT n_range n_tuple) m21 F21.kp b21
  have O_folded := cal_of (ok_folded (P := l.prog) (w := w) (mg := mg) (base := base) (k := 1) F22 (O_need_net.up) (O_need_beats.up) (O_tasks_of.up) n_len n_range n_tuple x_NoCount) m22 F22.kp b22
  have O__law_start := ok__law_start (P := l.prog) (w := w) (mg := mg) (base := base) (k := 0) F23
  have O__law_drawn := cal_of (ok__law_drawn (P := l.prog) (w := w) (mg := mg) (base := base) (k := 0) F24 n_len) m24 F24.kp b24
  have O__law_same := cal_of (ok__law_same (P := l.prog) (w := w) (base := base) F25 m25 b25 n_isinstance n_tuple n_list n_len n_range n_str n_bool n_int 12) m25 F25.kp b25
  have O__law_net := cal_of (ok__law_net (P := l.prog) (w := w) (mg := mg) (base := base) (k := 1) F26 (O__law_drawn.up)) m26 F26.kp b26
  have O__law_number := cal_of (ok__law_number (P := l.prog) (w := w) (mg := mg) (base := base) (k := 1) F27 (O__law_drawn.up)) m27 F27.kp b27
  have O__law_line := cal_of (ok__law_line (P := l.prog) (w := w) (mg := mg) (base := base) (k := 2) F28 (O__law_drawn.up) (O__law_number.up) n_range n_int n_tuple) m28 F28.kp b28
  have O__law_feed := cal_of (ok__law_feed (P := l.prog) (w := w) (mg := mg) (base := base) (k := 3) F29 (O__law_line.up) n_tuple n_range) m29 F29.kp b29
  have O__law_turned := cal_of (ok__law_turned (P := l.prog) (w := w) (mg := mg) (base := base) (k := 1) F30 (O__law_drawn.up) n_list n_len n_tuple) m30 F30.kp b30
  have O__law_told := cal_of (ok__law_told (P := l.prog) (w := w) (mg := mg) (base := base) (k := 4) F31 (O_folded_run.up) n_isinstance n_ValueError tf) m31 F31.kp b31
  exact ok_law (k := 13) F32 O__law_start m23 F23.kp b23 (O__law_net.up) (O__law_feed.up) (O__law_drawn.up) (O__law_turned.up) (O_folded.up) (O_wrong.up) (O_kept_in.up) (O_run.up) (O__law_same.up) (O__law_told.up) n_range main (by decide)

end DL


open PySem PySem.W PyProof.Rows
set_option maxHeartbeats 0 in
theorem PySem.Challenge.cw_beatgrid_k17_wrong_schedules_refused_holds : PySem.Challenge.rw_beatgrid_k17_wrong_schedules_refused.Holds := by
  w_on; o_law; k_head; (case hw => w_witness2)
  k_fill
  refine L2.walk_of (l := PySem.Challenge.rw_beatgrid_k17_wrong_schedules_refused) (n := 63) (k := 14) (x := (Str.ofString "_law_script")) (CX := fun w => L2.CX PySem.Challenge.rw_beatgrid_k17_wrong_schedules_refused.prog w) (sp := fun w => DL.spLaw _) rfl (by decide) rfl ⟨rfl, by decide, by decide⟩ (fun w h Y => PySem.W.kIn_of Y) ?F (fun _ H a ns hl hO hS => ⟨a, ns, rfl, DL.sqF_of hO hS, fun _ => rfl⟩) (fun _ _ _ _ _ h => DL.cx_false h)
  case F =>
    intro w mg fa h KX G hmg
    refine' DL.all_mk KX G hmg DL.law_k17_holds ?hc0 ?hc1 ?hc2 ?hc3 ?hc4 ?hc5 ?hc6 ?hc7 ?hc8 ?hc9 ?a0 ?l0 ?c0 ?k0 ?a1 ?l1 ?c1 ?k1 ?a2 ?l2 ?c2 ?k2 ?a3 ?l3 ?c3 ?k3 ?a4 ?l4 ?c4 ?k4 ?a5 ?l5 ?c5 ?k5 ?a6 ?l6 ?c6 ?k6 ?a7 ?l7 ?c7 ?k7 ?a8 ?l8 ?c8 ?k8 ?a9 ?l9 ?c9 ?k9 ?a10 ?l10 ?c10 ?k10 ?a11 ?l11 ?c11 ?k11 ?a12 ?l12 ?c12 ?k12 ?a13 ?l13 ?c13 ?k13 ?a14 ?l14 ?c14 ?k14 ?a15 ?l15 ?c15 ?k15 ?a16 ?i16 ?l16 ?c16 ?k16 ?a17 ?i17 ?l17 ?c17 ?k17 ?a18 ?i18 ?l18 ?c18 ?k18 ?a19 ?i19 ?l19 ?c19 ?k19 ?e1_NoNet ?e1_NoFeed ?e1_NoCount ?e1_NoTable ?e1_NoFault ?e1_NoSchedule ?e1_NoText ?e1_GridError ?xL ?x1 ?x2 ?x3 ?x4 ?a20 ?i20 ?x5 ?x6 ?x7 ?x8 ?w1 ?w2 ?w3 ?w4 ?w5 ?w6 ?w7 ?v1 ?v2 ?l20 ?c20 ?k20 ?y_NoNet ?y_NoFeed ?y_NoCount ?y_NoTable ?y_NoFault ?y_NoSchedule ?y_NoText ?a21 ?l21 ?c21 ?k21 ?a22 ?l22 ?c22 ?k22 ?a23 ?l23 ?c23 ?k23 ?a24 ?l24 ?c24 ?k24 ?a25 ?l25 ?c25 ?k25 ?a26 ?l26 ?c26 ?k26 ?a27 ?l27 ?c27 ?k27 ?a28 ?l28 ?c28 ?k28 ?a29 ?l29 ?c29 ?k29 ?a30 ?l30 ?c30 ?k30 ?a31 ?l31 ?c31 ?k31 ?a32 ?l32 ?c32 ?k32 ?g_KINDS ?h_KINDS ?g_MOST_SIZE ?g_MOST_BEATS ?g_RIGHT ?g_DOWN ?g_KEPT ?z_len ?z_tuple ?z_range ?z_max ?z_min ?z_dict ?z_enumerate ?z_isinstance ?z_list ?z_str ?z_bool ?z_int ?z_ValueError ?e2_NoNet ?e3_NoNet ?e4_NoNet ?e5_NoNet ?e2_NoFeed ?e3_NoFeed ?e4_NoFeed ?e5_NoFeed ?e2_NoCount ?e3_NoCount ?e4_NoCount ?e5_NoCount
    (case hc0 => k_is); (case hc1 => k_is); (case hc2 => k_is); (case hc3 => k_is); (case hc4 => k_is); (case hc5 => k_is); (case hc6 => k_is); (case hc7 => k_is); (case hc8 => k_is); (case hc9 => k_is); (case a0 => k_is); (case l0 => k_is); (case c0 => k_is); (case k0 => k_is); (case a1 => k_is); (case l1 => k_is); (case c1 => k_is); (case k1 => k_is); (case a2 => k_is); (case l2 => k_is); (case c2 => k_is); (case k2 => k_is); (case a3 => k_is); (case l3 => k_is); (case c3 => k_is); (case k3 => k_is); (case a4 => k_is); (case l4 => k_is); (case c4 => k_is); (case k4 => k_is); (case a5 => k_is); (case l5 => k_is); (case c5 => k_is); (case k5 => k_is); (case a6 => k_is); (case l6 => k_is); (case c6 => k_is); (case k6 => k_is); (case a7 => k_is); (case l7 => k_is); (case c7 => k_is); (case k7 => k_is); (case a8 => k_is); (case l8 => k_is); (case c8 => k_is); (case k8 => k_is); (case a9 => k_is); (case l9 => k_is); (case c9 => k_is); (case k9 => k_is); (case a10 => k_is); (case l10 => k_is); (case c10 => k_is); (case k10 => k_is); (case a11 => k_is); (case l11 => k_is); (case c11 => k_is); (case k11 => k_is); (case a12 => k_is); (case l12 => k_is); (case c12 => k_is); (case k12 => k_is); (case a13 => k_is); (case l13 => k_is); (case c13 => k_is); (case k13 => k_is); (case a14 => k_is); (case l14 => k_is); (case c14 => k_is); (case k14 => k_is); (case a15 => k_is); (case l15 => k_is); (case c15 => k_is); (case k15 => k_is); (case a16 => k_is); (case i16 => k_is); (case l16 => k_is); (case c16 => k_is); (case k16 => k_is); (case a17 => k_is); (case i17 => k_is); (case l17 => k_is); (case c17 => k_is); (case k17 => k_is); (case a18 => k_is); (case i18 => k_is); (case l18 => k_is); (case c18 => k_is); (case k18 => k_is); (case a19 => k_is); (case i19 => k_is); (case l19 => k_is); (case c19 => k_is); (case k19 => k_is); (case e1_NoNet => first | k_is | rfl | (decide +kernel)); (case e1_NoFeed => first | k_is | rfl | (decide +kernel)); (case e1_NoCount => first | k_is | rfl | (decide +kernel)); (case e1_NoTable => first | k_is | rfl | (decide +kernel)); (case e1_NoFault => first | k_is | rfl | (decide +kernel)); (case e1_NoSchedule => first | k_is | rfl | (decide +kernel)); (case e1_NoText => first | k_is | rfl | (decide +kernel)); (case e1_GridError => first | k_is | rfl | (decide +kernel)); (case xL => first | k_is | rfl | (decide +kernel)); (case x1 => first | k_is | rfl | (decide +kernel)); (case x2 => first | k_is | rfl | (decide +kernel)); (case x3 => first | k_is | rfl | (decide +kernel)); (case x4 => first | k_is | rfl | (decide +kernel)); (case a20 => first | k_is | rfl | (decide +kernel)); (case i20 => first | k_is | rfl | (decide +kernel)); (case x5 => first | k_is | rfl | (decide +kernel)); (case x6 => first | k_is | rfl | (decide +kernel)); (case x7 => first | k_is | rfl | (decide +kernel)); (case x8 => first | k_is | rfl | (decide +kernel)); (case w1 => first | k_is | rfl | (decide +kernel)); (case w2 => first | k_is | rfl | (decide +kernel)); (case w3 => first | k_is | rfl | (decide +kernel)); (case w4 => first | k_is | rfl | (decide +kernel)); (case w5 => first | k_is | rfl | (decide +kernel)); (case w6 => first | k_is | rfl | (decide +kernel)); (case w7 => first | k_is | rfl | (decide +kernel)); (case v1 => first | k_is | rfl | (decide +kernel)); (case v2 => first | k_is | rfl | (decide +kernel)); (case l20 => first | k_is | rfl | (decide +kernel)); (case c20 => first | k_is | rfl | (decide +kernel)); (case k20 => first | k_is | rfl | (decide +kernel)); (case y_NoNet => first | k_is | rfl | (decide +kernel)); (case y_NoFeed => first | k_is | rfl | (decide +kernel)); (case y_NoCount => first | k_is | rfl | (decide +kernel)); (case y_NoTable => first | k_is | rfl | (decide +kernel)); (case y_NoFault => first | k_is | rfl | (decide +kernel)); (case y_NoSchedule => first | k_is | rfl | (decide +kernel)); (case y_NoText => first | k_is | rfl | (decide +kernel)); (case a21 => k_is); (case l21 => k_is); (case c21 => k_is); (case k21 => k_is); (case a22 => k_is); (case l22 => k_is); (case c22 => k_is); (case k22 => k_is); (case a23 => k_is); (case l23 => k_is); (case c23 => k_is); (case k23 => k_is); (case a24 => k_is); (case l24 => k_is); (case c24 => k_is); (case k24 => k_is); (case a25 => k_is); (case l25 => k_is); (case c25 => k_is); (case k25 => k_is); (case a26 => k_is); (case l26 => k_is); (case c26 => k_is); (case k26 => k_is); (case a27 => k_is); (case l27 => k_is); (case c27 => k_is); (case k27 => k_is); (case a28 => k_is); (case l28 => k_is); (case c28 => k_is); (case k28 => k_is); (case a29 => k_is); (case l29 => k_is); (case c29 => k_is); (case k29 => k_is); (case a30 => k_is); (case l30 => k_is); (case c30 => k_is); (case k30 => k_is); (case a31 => k_is); (case l31 => k_is); (case c31 => k_is); (case k31 => k_is); (case a32 => k_is); (case l32 => k_is); (case c32 => k_is); (case k32 => k_is); (case g_KINDS => k_is); (case h_KINDS => k_is); (case g_MOST_SIZE => k_is); (case g_MOST_BEATS => k_is); (case g_RIGHT => k_is); (case g_DOWN => k_is); (case g_KEPT => k_is); (case z_len => k_is); (case z_tuple => k_is); (case z_range => k_is); (case z_max => k_is); (case z_min => k_is); (case z_dict => k_is); (case z_enumerate => k_is); (case z_isinstance => k_is); (case z_list => k_is); (case z_str => k_is); (case z_bool => k_is); (case z_int => k_is); (case z_ValueError => k_is); (case e2_NoNet => k_exc); (case e3_NoNet => k_is); (case e4_NoNet => k_is); (case e5_NoNet => k_is); (case e2_NoFeed => k_exc); (case e3_NoFeed => k_is); (case e4_NoFeed => k_is); (case e5_NoFeed => k_is); (case e2_NoCount => k_exc); (case e3_NoCount => k_is); (case e4_NoCount => k_is); (case e5_NoCount => k_is)

