import PyProof.Rows.All
import Wide.All
import OpenK.AllK
import Wide.FinOn
import HandS.ForMost
import HandS.HeadHook3
import HandS.IsInst
import HandS.Evl
import HandS.Text
import HandS.Exc
import HandS.ExcOwn
import HandS.ExcInit
import HandS.ExcIs
import HandS.ExcField
import HandS.TryMany
import HandS.Defaults
import PyProof.EqAt
import PyProof.EqLayable
import PyProof.P3Eq
import KE.KExcSuper
import HandS.ExcCtx
import KE.KExcIs
import HandS.HotCalls
import KE.KStateDown
import HandS.Head0
import HandS.Head1
import HandS.Head2
import HandS.HeadEnd
import HandS.HeadHook1
import HandS.HeadHook2
import HandS.HeadNt
import PySem.Challenge.RW_slotlag_k72_apart_events
set_option Elab.async false
set_option linter.all false
set_option maxRecDepth 100000
set_option maxHeartbeats 2000000
/-! Pw: plain values over the hand layer, read by an interpreter of one's own. -/
namespace Pw
open PySem L2

/-- plain data -/
inductive D where
  | non | bl (b : Bool) | int (i : Int) | str (x : Str) | lst (xs : List D) | tup (xs : List D) | obj (C : Str) (ns : List Str) (xs : List D) | dic (j : Nat) | kls (xs : List D) | opq
/-- the written part; how many fields make an object whole -/
structure G where
  K : PySem.W.Frag
  nf : Addr → Nat
  tab : Nat → Option Addr
/-- objects that are never changed -/
def imm (g : G) : HO → Bool
  | .tup _ => true
  | .frz _ _ => true
  | .xd _ => true
  | .ins C _ fs => decide (g.nf C ≤ fs.length)
  | _ => false
def Kp (g : G) (H H' : Hp) : Prop := ∀ b o, H b = some o → imm g o = true → H' b = some o
section
variable {g : G}
theorem Kp.refl (H : Hp) : Kp g H H := fun _ _ h _ => h
theorem Kp.trans {H H1 H2 : Hp} (a : Kp g H H1) (b : Kp g H1 H2) : Kp g H H2 := fun c o h i => b c o (a c o h i) i
theorem Kp.of {H H' : Hp} (a : Same H H') : Kp g H H' := fun c o h _ => a c o h
theorem kp_t {H H' : Hp} {a : Addr} {xs : List V} (e : Kp g H H') (h : SqT g.K H a xs) : SqT g.K H' a xs := by
  rcases h with (h | ⟨o, h⟩) | h
  · exact .inl (.inl (e _ _ h rfl))
  · exact .inl (.inr ⟨o, e _ _ h rfl⟩)
  · exact .inr h
/-- a list that stands still -/
def FzL (g : G) (H : Hp) (a : Addr) (xs : List V) : Prop := ∃ o, H a = some (.frz o (.lst xs))
theorem FzL.rd {H : Hp} {a : Addr} {xs : List V} (h : FzL g H a xs) : Rd H a (.lst xs) := .inr h
/-- a list that is read alone: it stands still, or it is the module's -/
def KsL (g : G) (H : Hp) (a : Addr) (xs : List V) : Prop := FzL g H a xs ∨
    ∃ (o : Obj) (its : Array Value) (n : Nat), g.K.lookup a = some o ∧ o.cls = .type "list" ∧ o.dict = none ∧ o.data = .seq its n ∧ its.size ≤ sizeLine ∧ Vals xs its.toList
theorem KsL.sq {H : Hp} {a : Addr} {xs : List V} (h : KsL g H a xs) : SqL g.K H a xs := h.elim (fun z => .inl z.rd) .inr
theorem FzL.mono {H H' : Hp} {a : Addr} {xs : List V} (e : Kp g H H') (h : FzL g H a xs) : FzL g H' a xs := let ⟨o, q⟩ := h; ⟨o, e _ _ q rfl⟩
end

mutual
/-- the value v is the data d -/
def Rep (g : G) (H : Hp) : D → V → Prop
  | .non, v => v = .non
  | .bl b, v => v = .bl b
  | .int i, v => v = .int i
  | .str x, v => v = .str x
  | .lst ds, v => ∃ a xs, v = .ref a ∧ FzL g H a xs ∧ Reps g H ds xs
  | .tup ds, v => ∃ a xs, v = .ref a ∧ SqT g.K H a xs ∧ Reps g H ds xs
  | .obj C ns ds, v => ∃ a dx xs, v = .ref a ∧ H a = some (.ins (He.ga g.K C) dx (ns.zip xs)) ∧ xs.length = ns.length ∧ g.nf (He.ga g.K C) ≤ ns.length ∧ Reps g H ds xs
  | .dic j, v => ∃ a, v = .ref a ∧ g.tab j = some a
  | .kls ds, v => ∃ a xs, v = .ref a ∧ KsL g H a xs ∧ Reps g H ds xs
  | .opq, _ => True
def Reps (g : G) (H : Hp) : List D → List V → Prop
  | [], xs => xs = []
  | d :: ds, xs => ∃ y ys, xs = y :: ys ∧ Rep g H d y ∧ Reps g H ds ys
end
section
variable {g : G} {H H' : Hp}
mutual
theorem Rep.mono (e : Kp g H H') : ∀ (d : D) (v : V), Rep g H d v → Rep g H' d v
  | .non, _, h => h
  | .bl _, _, h => h
  | .int _, _, h => h
  | .str _, _, h => h
  | .lst ds, _, h => by
    obtain ⟨a, xs, hv, ho, hr⟩ := h
    exact ⟨a, xs, hv, ho.mono e, Reps.mono e ds xs hr⟩
  | .tup ds, _, h => by
    obtain ⟨a, xs, hv, ho, hr⟩ := h
    exact ⟨a, xs, hv, kp_t e ho, Reps.mono e ds xs hr⟩
  | .obj C ns ds, _, h => by
    obtain ⟨a, dx, xs, hv, ho, hl, hn, hr⟩ := h
    exact ⟨a, dx, xs, hv, e _ _ ho (by simp [imm, hl, hn]), hl, hn, Reps.mono e ds xs hr⟩
  | .dic _, _, h => h
  | .kls ds, _, h => by
    obtain ⟨a, xs, hv, ho, hr⟩ := h
    exact ⟨a, xs, hv, ho.elim (fun z => .inl (z.mono e)) .inr, Reps.mono e ds xs hr⟩
  | .opq, _, h => h
theorem Reps.mono (e : Kp g H H') : ∀ (ds : List D) (xs : List V), Reps g H ds xs → Reps g H' ds xs
  | [], _, h => h
  | d :: ds, _, h => by
    obtain ⟨y, ys, hx, h1, h2⟩ := h
    exact ⟨y, ys, hx, Rep.mono e d y h1, Reps.mono e ds ys h2⟩
end
theorem Reps.len : ∀ {ds : List D} {xs : List V}, Reps g H ds xs → xs.length = ds.length
  | [], _, h => by cases h; rfl
  | d :: ds, _, h => by
    obtain ⟨y, ys, rfl, _, h2⟩ := h
    simp [Reps.len h2]
theorem Reps.at : ∀ {ds : List D} {xs : List V} {i : Nat} {d : D}, Reps g H ds xs → ds[i]? = some d → ∃ v, xs[i]? = some v ∧ Rep g H d v
  | [], _, _, _, _, e => by simp at e
  | d :: ds, _, 0, d', h, e => by
    obtain ⟨y, ys, rfl, h1, _⟩ := h
    simp at e; subst e
    exact ⟨y, rfl, h1⟩
  | d :: ds, _, i + 1, d', h, e => by
    obtain ⟨y, ys, rfl, _, h2⟩ := h
    obtain ⟨v, e1, e2⟩ := Reps.at (i := i) h2 (by simpa using e)
    exact ⟨v, by simpa using e1, e2⟩
theorem Reps.at' : ∀ {ds : List D} {xs : List V} {i : Nat} {v : V}, Reps g H ds xs → xs[i]? = some v → ∃ d, ds[i]? = some d ∧ Rep g H d v
  | [], _, _, _, h, e => by cases h; simp at e
  | d :: ds, _, 0, v, h, e => by
    obtain ⟨y, ys, rfl, h1, _⟩ := h
    simp at e; subst e
    exact ⟨d, rfl, h1⟩
  | d :: ds, _, i + 1, v, h, e => by
    obtain ⟨y, ys, rfl, _, h2⟩ := h
    obtain ⟨d', e1, e2⟩ := Reps.at' (i := i) h2 (by simpa using e)
    exact ⟨d', by simpa using e1, e2⟩
theorem Reps.app : ∀ {ds es : List D} {xs ys : List V}, Reps g H ds xs → Reps g H es ys → Reps g H (ds ++ es) (xs ++ ys)
  | [], _, _, _, h, g => by cases h; exact g
  | d :: ds, _, _, _, h, g => by
    obtain ⟨y, ys, rfl, h1, h2⟩ := h
    exact ⟨y, _, rfl, h1, Reps.app h2 g⟩
theorem Reps.one {d : D} {v : V} (h : Rep g H d v) : Reps g H [d] [v] := ⟨v, [], rfl, h, rfl⟩
theorem Reps.set : ∀ {ds : List D} {xs : List V} (i : Nat) {d : D} {v : V}, Reps g H ds xs → Rep g H d v → Reps g H (ds.set i d) (xs.set i v)
  | [], _, _, _, _, h, _ => by cases h; rfl
  | d :: ds, _, 0, _, _, h, g => by
    obtain ⟨y, ys, rfl, h1, h2⟩ := h
    exact ⟨_, _, rfl, g, h2⟩
  | d :: ds, _, i + 1, _, _, h, g => by
    obtain ⟨y, ys, rfl, h1, h2⟩ := h
    exact ⟨y, _, rfl, h1, Reps.set i h2 g⟩
theorem Reps.take : ∀ {ds : List D} {xs : List V} (n : Nat), Reps g H ds xs → Reps g H (ds.take n) (xs.take n)
  | _, _, 0, _ => by simp [Reps]
  | [], _, n + 1, h => by cases h; rfl
  | d :: ds, _, n + 1, h => by
    obtain ⟨y, ys, rfl, h1, h2⟩ := h
    exact ⟨y, _, rfl, h1, Reps.take n h2⟩
theorem Reps.drop : ∀ {ds : List D} {xs : List V} (n : Nat), Reps g H ds xs → Reps g H (ds.drop n) (xs.drop n)
  | _, _, 0, h => by simpa using h
  | [], _, n + 1, h => by cases h; rfl
  | d :: ds, _, n + 1, h => by
    obtain ⟨y, ys, rfl, h1, h2⟩ := h
    exact Reps.drop n h2
theorem Reps.ints : ∀ {ns : List Int} {xs : List V}, Reps g H (ns.map D.int) xs → xs = ns.map V.int
  | [], _, h => h
  | n :: ns, _, h => by
    obtain ⟨y, ys, rfl, h1, h2⟩ := h
    rw [show y = V.int n from h1, Reps.ints h2]; rfl
theorem Reps.of_ints : ∀ (ns : List Int), Reps g H (ns.map D.int) (ns.map V.int)
  | [] => rfl
  | n :: ns => ⟨_, _, rfl, rfl, Reps.of_ints ns⟩
theorem Reps.strs : ∀ {ns : List Str} {xs : List V}, Reps g H (ns.map D.str) xs → xs = ns.map V.str
  | [], _, h => h
  | n :: ns, _, h => by
    obtain ⟨y, ys, rfl, h1, h2⟩ := h
    rw [show y = V.str n from h1, Reps.strs h2]; rfl
end


/-! ### what a def's names hold -/
inductive A where
  | un | val (d : D) | own (t : Nat) (ds : List D) | exn (C : Str) (ns : List Str) (ds : List D)
  /-- a list of one's own whose items are lists of one's own, each with a number; a name for one of them -/
  | own2 (t : Nat) (rows : List (Nat × List D)) | ali (i id : Nat)
/-- a def's surroundings: the addresses of its own-lists' parameters, what it may change, the heap at its entry -/
structure Fr0 where
  L : Nat → Option Addr
  M : Addr → Prop
  H0 : Hp
/-- the exceptions in hand -/
abbrev PX := Addr → Str → Addr → Prop
def RowsOk (g : G) (H : Hp) : List (Nat × List D) → List Addr → Prop
  | [], as => as = []
  | r :: rs, as => ∃ a bs xs, as = a :: bs ∧ H a = some (.lst xs) ∧ Reps g H r.2 xs ∧ RowsOk g H rs bs
/-- what stands behind own2 -/
structure Own2 (g : G) (c : Fr0) (H : Hp) (σ : L2.St) (i t : Nat) (rows : List (Nat × List D)) (p : Addr) (as : List Addr) : Prop where
  at_ : σ[i]? = some (some (.ref p))
  lst : H p = some (.lst (as.map V.ref))
  rk : RowsOk g H rows as
  tag : t = 0 ∨ ∃ j, t = j + 1 ∧ c.L j = some p
  mine : ∀ a, a = p ∨ a ∈ as → c.H0 a = none ∨ c.M a
  ne : p ∉ as
  nd : as.Nodup
  ids : (rows.map (·.1)).Nodup
/-- the addresses that a name's own lists take -/
def At (H : Hp) (σ : L2.St) (r : List A) (i : Nat) (a : Addr) : Prop := σ[i]? = some (some (.ref a)) ∧ (∃ t ds, r[i]? = some (.own t ds)) ∨
  ∃ (t : Nat) (rows : List (Nat × List D)) (p : Addr) (as : List Addr), r[i]? = some (.own2 t rows) ∧ σ[i]? = some (some (.ref p)) ∧ H p = some (.lst (as.map V.ref)) ∧ (a = p ∨ a ∈ as)
structure EnvOk (g : G) (P : PX) (c : Fr0) (H : Hp) (σ : L2.St) (r : List A) : Prop where
  len : σ.length = r.length
  fr : ∀ b o, c.H0 b = some o → ¬ c.M b → H b = some o
  mem : ∀ b, c.M b → ∃ o, H b = some o
  val : ∀ (i : Nat) (d : D), r[i]? = some (.val d) → ∃ v, σ[i]? = some (some v) ∧ Rep g H d v
  own : ∀ (i t : Nat) (ds : List D), r[i]? = some (.own t ds) → ∃ p xs, σ[i]? = some (some (.ref p)) ∧ H p = some (.lst xs) ∧ Reps g H ds xs ∧ (t = 0 ∨ ∃ j, t = j + 1 ∧ c.L j = some p) ∧ (c.H0 p = none ∨ c.M p)
  own2 : ∀ (i t : Nat) (rows : List (Nat × List D)), r[i]? = some (.own2 t rows) → ∃ p as, Own2 g c H σ i t rows p as
  dis : ∀ (i j : Nat) (a : Addr), At H σ r i a → At H σ r j a → i = j
  exn : ∀ (i : Nat) (C : Str) (ns : List Str) (ds : List D), r[i]? = some (.exn C ns ds) → ∃ a x xs, σ[i]? = some (some (.ref a)) ∧ P a C x ∧ H x = some (.xd (ns.zip xs)) ∧ xs.length = ns.length ∧ Reps g H ds xs
  ali : ∀ (j i id : Nat), r[j]? = some (.ali i id) → ∃ (t : Nat) (rows : List (Nat × List D)) (p : Addr) (as : List Addr) (k : Nat) (ds : List D) (a : Addr), r[i]? = some (.own2 t rows) ∧ σ[i]? = some (some (.ref p)) ∧ H p = some (.lst (as.map V.ref)) ∧ rows[k]? = some (id, ds) ∧ as[k]? = some a ∧ σ[j]? = some (some (.ref a))
/-- p is no name's own -/
def Fresh (H : Hp) (σ : L2.St) (r : List A) (p : Addr) : Prop := ∀ i, ¬ At H σ r i p
theorem get_set {α : Type} {l : List α} {i j : Nat} {x y : α} (h : (l.set i x)[j]? = some y) : (i = j ∧ y = x ∧ i < l.length) ∨ (i ≠ j ∧ l[j]? = some y) := by
  by_cases hij : i = j
  · subst hij
    have hl : i < l.length := by have := (List.getElem?_eq_some_iff.mp h).1; simpa using this
    rw [List.getElem?_set_self hl] at h
    exact .inl ⟨rfl, (Option.some.inj h).symm, hl⟩
  · rw [List.getElem?_set_ne hij] at h
    exact .inr ⟨hij, h⟩
section
variable {g : G} {P : PX} {c : Fr0} {H H' : Hp} {σ σ' : L2.St} {r r' : List A}
theorem RowsOk.keep (k : Kp g H H') : ∀ {rows : List (Nat × List D)} {as : List Addr}, (∀ b xs, b ∈ as → H b = some (.lst xs) → H' b = some (.lst xs)) → RowsOk g H rows as → RowsOk g H' rows as
  | [], _, _, h => h
  | r :: rs, _, e, h => by
    obtain ⟨a, bs, xs, rfl, h1, h2, h3⟩ := h
    exact ⟨a, bs, xs, rfl, e a xs (by simp) h1, Reps.mono k _ _ h2, RowsOk.keep k (fun b xs hb => e b xs (by simp [hb])) h3⟩
theorem RowsOk.len : ∀ {rows : List (Nat × List D)} {as : List Addr}, RowsOk g H rows as → as.length = rows.length
  | [], _, h => by cases h; rfl
  | r :: rs, _, h => by
    obtain ⟨a, bs, xs, rfl, h1, h2, h3⟩ := h
    simp [RowsOk.len h3]
theorem RowsOk.at : ∀ {rows : List (Nat × List D)} {as : List Addr} {k : Nat} {x : Nat × List D}, RowsOk g H rows as → rows[k]? = some x → ∃ a xs, as[k]? = some a ∧ H a = some (.lst xs) ∧ Reps g H x.2 xs
  | [], _, _, _, _, e => by simp at e
  | r :: rs, _, 0, x, h, e => by
    obtain ⟨a, bs, xs, rfl, h1, h2, h3⟩ := h
    simp at e; subst e
    exact ⟨a, xs, rfl, h1, h2⟩
  | r :: rs, _, k + 1, x, h, e => by
    obtain ⟨a, bs, xs, rfl, h1, h2, h3⟩ := h
    obtain ⟨b, ys, q1, q2⟩ := RowsOk.at (k := k) h3 (by simpa using e)
    exact ⟨b, ys, by simpa using q1, q2⟩
theorem RowsOk.in : ∀ {rows : List (Nat × List D)} {as : List Addr} {b : Addr}, RowsOk g H rows as → b ∈ as → ∃ xs, H b = some (.lst xs)
  | [], _, _, h, hb => by cases h; cases hb
  | r :: rs, _, b, h, hb => by
    obtain ⟨a, bs, xs, rfl, h1, h2, h3⟩ := h
    rcases List.mem_cons.mp hb with rfl | hb
    · exact ⟨xs, h1⟩
    · exact RowsOk.in h3 hb
theorem map_ref_inj : ∀ {as bs : List Addr}, as.map V.ref = bs.map V.ref → as = bs
  | [], [], _ => rfl
  | a :: as, b :: bs, h => by
    simp only [List.map_cons, List.cons.injEq, V.ref.injEq] at h
    rw [h.1, map_ref_inj h.2]
  | [], _ :: _, h => by simp at h
  | _ :: _, [], h => by simp at h
theorem EnvOk.lt (h : EnvOk g P c H σ r) {i : Nat} {s : A} (hi : r[i]? = some s) : i < σ.length := by
  rw [h.len]; exact (List.getElem?_eq_some_iff.mp hi).1
/-- an own address is a list's -/
theorem EnvOk.at_lst (h : EnvOk g P c H σ r) {i : Nat} {a : Addr} (ha : At H σ r i a) : (∃ xs, H a = some (.lst xs)) ∧ (c.H0 a = none ∨ c.M a) := by
  rcases ha with ⟨hs, t, ds, hi⟩ | ⟨t, rows, p, as, hi, hs, hp, ha⟩
  · obtain ⟨p, xs, h1, h2, _, _, h4⟩ := h.own i t ds hi
    rw [h1] at hs; cases hs
    exact ⟨⟨xs, h2⟩, h4⟩
  · obtain ⟨q, bs, o⟩ := h.own2 i t rows hi
    have : q = p := by rw [o.at_] at hs; cases hs; rfl
    subst this
    have : bs = as := by
      have := o.lst
      rw [hp] at this
      exact (map_ref_inj (by simpa using this)).symm
    subst this
    refine ⟨?_, o.mine a ha⟩
    rcases ha with rfl | ha
    · exact ⟨_, hp⟩
    · exact o.rk.in ha
/-- the same own addresses in a heap that keeps them -/
theorem At.back (h : EnvOk g P c H σ r) {i : Nat} {a : Addr} (e : ∀ b xs, At H σ r i b → H b = some (.lst xs) → H' b = some (.lst xs)) (ha : At H' σ r i a) : At H σ r i a := by
  rcases ha with h1 | ⟨t, rows, p, as, hi, hs, hp, ha⟩
  · exact .inl h1
  · obtain ⟨q, bs, o⟩ := h.own2 i t rows hi
    have : q = p := by rw [o.at_] at hs; cases hs; rfl
    subst this
    have e2 := e q _ (.inr ⟨t, rows, q, bs, hi, o.at_, o.lst, .inl rfl⟩) o.lst
    have : bs = as := by
      rw [hp] at e2
      exact (map_ref_inj (by simpa using e2)).symm
    subst this
    exact .inr ⟨t, rows, q, bs, hi, o.at_, o.lst, ha⟩
/-- a change of the heap that keeps all own lists -/
theorem EnvOk.heap (h : EnvOk g P c H σ r) (k : Kp g H H') (fr : ∀ b o, c.H0 b = some o → ¬ c.M b → H' b = some o) (mem : ∀ b, c.M b → ∃ o, H' b = some o) (e : ∀ i b xs, At H σ r i b → H b = some (.lst xs) → H' b = some (.lst xs)) : EnvOk g P c H' σ r where
  len := h.len
  fr := fr
  mem := mem
  val := fun i d hi => let ⟨v, h1, h2⟩ := h.val i d hi; ⟨v, h1, Rep.mono k _ _ h2⟩
  own := fun i t ds hi => let ⟨p, xs, h1, h2, h3, h4, h5⟩ := h.own i t ds hi; ⟨p, xs, h1, e i p xs (.inl ⟨h1, t, ds, hi⟩) h2, Reps.mono k _ _ h3, h4, h5⟩
  own2 := fun i t rows hi => by
    obtain ⟨p, as, o⟩ := h.own2 i t rows hi
    have at' : ∀ b, b = p ∨ b ∈ as → At H σ r i b := fun b hb => .inr ⟨t, rows, p, as, hi, o.at_, o.lst, hb⟩
    exact ⟨p, as, o.at_, e i p _ (at' p (.inl rfl)) o.lst, o.rk.keep k fun b xs hb => e i b xs (at' b (.inr hb)), o.tag, o.mine, o.ne, o.nd, o.ids⟩
  dis := fun i j a hi hj => h.dis i j a (hi.back h fun b xs => e i b xs) (hj.back h fun b xs => e j b xs)
  exn := fun i C ns ds hi => let ⟨a, x, xs, h1, h2, h3, h4, h5⟩ := h.exn i C ns ds hi; ⟨a, x, xs, h1, h2, k _ _ h3 rfl, h4, Reps.mono k _ _ h5⟩
  ali := fun j i id hj => by
    obtain ⟨t, rows, p, as, m, ds, a, h1, h2, h3, h4, h5, h6⟩ := h.ali j i id hj
    exact ⟨t, rows, p, as, m, ds, a, h1, h2, e i p _ (.inr ⟨t, rows, p, as, h1, h2, h3, .inl rfl⟩) h3, h4, h5, h6⟩
/-- the heap grows -/
theorem EnvOk.same (h : EnvOk g P c H σ r) (e : Same H H') : EnvOk g P c H' σ r :=
  h.heap (Kp.of e) (fun b o hb hm => e b o (h.fr b o hb hm)) (fun m hm => let ⟨o, ho⟩ := h.mem m hm; ⟨o, e m o ho⟩) fun _ b xs _ hb => e _ _ hb
theorem At.set (h : At H (σ.set i v) (r.set i a) j b) (hij : i ≠ j) : At H σ r j b := by
  rcases h with ⟨h1, t, ds, h2⟩ | ⟨t, rows, p, as, h1, h2, h3⟩
  · rw [List.getElem?_set_ne hij] at h1 h2
    exact .inl ⟨h1, t, ds, h2⟩
  · rw [List.getElem?_set_ne hij] at h1 h2
    exact .inr ⟨t, rows, p, as, h1, h2, h3⟩
/-- no name stands for a row -/
def NoAli (r : List A) (i : Nat) : Prop := ∀ j id : Nat, r[j]? ≠ some (A.ali i id)
/-- a name takes something (it is no name whose rows others name) -/
theorem EnvOk.put (h : EnvOk g P c H σ r) (i : Nat) {v : V} {a : A} (hno : ∀ j id, i ≠ j → r[j]? ≠ some (A.ali i id)) (hval : ∀ d, a = .val d → Rep g H d v)
    (hown : ∀ t ds, a = .own t ds → ∃ p xs, v = .ref p ∧ H p = some (.lst xs) ∧ Reps g H ds xs ∧ (t = 0 ∨ ∃ j, t = j + 1 ∧ c.L j = some p) ∧ (c.H0 p = none ∨ c.M p) ∧ Fresh H σ r p) (hown2 : ∀ t rows, a ≠ .own2 t rows)
    (hex : ∀ C ns ds, a = .exn C ns ds → ∃ e x xs, v = .ref e ∧ P e C x ∧ H x = some (.xd (ns.zip xs)) ∧ xs.length = ns.length ∧ Reps g H ds xs)
    (hali : ∀ k id, a = .ali k id → k ≠ i ∧ ∃ (t : Nat) (rows : List (Nat × List D)) (p : Addr) (as : List Addr) (m : Nat) (ds : List D) (b : Addr), r[k]? = some (.own2 t rows) ∧ σ[k]? = some (some (.ref p)) ∧ H p = some (.lst (as.map V.ref)) ∧ rows[m]? = some (id, ds) ∧ as[m]? = some b ∧ v = .ref b) :
    EnvOk g P c H (σ.set i (some v)) (r.set i a) where
  len := by simp [h.len]
  fr := h.fr
  mem := h.mem
  val := fun j e hj => by
    rcases get_set hj with ⟨rfl, e1, hl⟩ | ⟨hij, hj⟩
    · exact ⟨v, by rw [List.getElem?_set_self (by rw [h.len]; exact hl)], hval e e1.symm⟩
    · rw [List.getElem?_set_ne hij]; exact h.val j e hj
  own := fun j t ds hj => by
    rcases get_set hj with ⟨rfl, e1, hl⟩ | ⟨hij, hj⟩
    · obtain ⟨p, xs, e2, h1, h2, h3, h4, _⟩ := hown t ds e1.symm
      exact ⟨p, xs, by rw [List.getElem?_set_self (by rw [h.len]; exact hl), e2], h1, h2, h3, h4⟩
    · rw [List.getElem?_set_ne hij]; exact h.own j t ds hj
  own2 := fun j t rows hj => by
    rcases get_set hj with ⟨rfl, e1, hl⟩ | ⟨hij, hj⟩
    · exact absurd e1.symm (hown2 t rows)
    · obtain ⟨p, as, o⟩ := h.own2 j t rows hj
      exact ⟨p, as, by rw [List.getElem?_set_ne hij]; exact o.at_, o.lst, o.rk, o.tag, o.mine, o.ne, o.nd, o.ids⟩
  dis := fun j k b hj hk => by
    have here : ∀ {b}, At H (σ.set i (some v)) (r.set i a) i b → Fresh H σ r b := fun {b} hb => by
      rcases hb with ⟨h1, t, ds, h2⟩ | ⟨t, rows, p, as, h1, h2, h3⟩
      · rcases get_set h2 with ⟨_, e1, hl⟩ | ⟨z, _⟩
        · obtain ⟨p, xs, e2, _, _, _, _, hf⟩ := hown t ds e1.symm
          rw [List.getElem?_set_self (by rw [h.len]; exact hl), e2] at h1
          cases h1
          exact hf
        · exact absurd rfl z
      · rcases get_set h1 with ⟨_, e1, hl⟩ | ⟨z, _⟩
        · exact absurd e1.symm (hown2 t rows)
        · exact absurd rfl z
    by_cases hij : i = j
    · subst hij
      by_cases hik : i = k
      · exact hik
      · exact absurd (hk.set hik) (here hj k)
    · by_cases hik : i = k
      · subst hik
        exact absurd (hj.set hij) (here hk j)
      · exact h.dis j k b (hj.set hij) (hk.set hik)
  exn := fun j C ns ds hj => by
    rcases get_set hj with ⟨rfl, e1, hl⟩ | ⟨hij, hj⟩
    · obtain ⟨e, x, xs, e2, h1, h2, h3, h4⟩ := hex C ns ds e1.symm
      exact ⟨e, x, xs, by rw [List.getElem?_set_self (by rw [h.len]; exact hl), e2], h1, h2, h3, h4⟩
    · rw [List.getElem?_set_ne hij]; exact h.exn j C ns ds hj
  ali := fun j k id hj => by
    rcases get_set hj with ⟨rfl, e1, hl⟩ | ⟨hij, hj⟩
    · obtain ⟨hk, t, rows, p, as, m, ds, b, q1, q2, q3, q4, q5, q6⟩ := hali k id e1.symm
      exact ⟨t, rows, p, as, m, ds, b, by rw [List.getElem?_set_ne (Ne.symm hk)]; exact q1, by rw [List.getElem?_set_ne (Ne.symm hk)]; exact q2, q3, q4, q5, by rw [List.getElem?_set_self (by rw [h.len]; exact hl), q6]⟩
    · obtain ⟨t, rows, p, as, m, ds, b, q1, q2, q3, q4, q5, q6⟩ := h.ali j k id hj
      have hk : i ≠ k := fun z => hno j id hij (z ▸ hj)
      exact ⟨t, rows, p, as, m, ds, b, by rw [List.getElem?_set_ne hk]; exact q1, by rw [List.getElem?_set_ne hk]; exact q2, q3, q4, q5, by rw [List.getElem?_set_ne hij]; exact q6⟩
theorem EnvOk.noAli (h : EnvOk g P c H σ r) {i : Nat} (hn : ∀ t rows, r[i]? ≠ some (.own2 t rows)) (j id : Nat) : r[j]? ≠ some (.ali i id) := fun z => by
  obtain ⟨t, rows, _, _, _, _, _, h1, _⟩ := h.ali j i id z
  exact hn t rows h1
theorem EnvOk.set (h : EnvOk g P c H σ r) (i : Nat) {v : V} {d : D} (hn : ∀ t rows, r[i]? ≠ some (.own2 t rows)) (q : Rep g H d v) : EnvOk g P c H (σ.set i (some v)) (r.set i (.val d)) :=
  h.put i (fun j id _ => h.noAli hn j id) (fun e he => by cases he; exact q) (fun _ _ he => by cases he) (fun _ _ he => by cases he) (fun _ _ _ he => by cases he) (fun _ _ he => by cases he)
theorem EnvOk.setOwn (h : EnvOk g P c H σ r) (i : Nat) {p : Addr} {xs : List V} {ds : List D} (hn : ∀ t rows, r[i]? ≠ some (.own2 t rows)) (hp : H p = some (.lst xs)) (q : Reps g H ds xs) (h0 : c.H0 p = none) (hf : Fresh H σ r p) :
    EnvOk g P c H (σ.set i (some (.ref p))) (r.set i (.own 0 ds)) :=
  h.put i (fun j id _ => h.noAli hn j id) (fun e he => by cases he) (fun t es he => by cases he; exact ⟨p, xs, rfl, hp, q, .inl rfl, .inl h0, hf⟩) (fun _ _ he => by cases he) (fun _ _ _ he => by cases he) (fun _ _ he => by cases he)
/-- a name's own list is changed, all else that was tracked is as it was -/
theorem EnvOk.upd (h : EnvOk g P c H σ r) (i : Nat) {p : Addr} {t : Nat} {xs' : List V} {ds ds' : List D} (hi : r[i]? = some (.own t ds)) (hs : σ[i]? = some (some (.ref p))) (e : ∀ b o, H b = some o → b ≠ p → H' b = some o) (hp : H' p = some (.lst xs')) (q : Reps g H' ds' xs') :
    EnvOk g P c H' σ (r.set i (.own t ds')) ∧ Kp g H H' := by
  obtain ⟨p', xs, h1, h2, h3, h5, h4⟩ := h.own i t ds hi
  have : p' = p := by rw [hs] at h1; cases h1; rfl
  subst this
  have kp : Kp g H H' := fun b o hb ho => e b o hb (fun z => by subst z; rw [h2] at hb; cases hb; cases ho)
  have ati : At H σ r i p' := .inl ⟨h1, t, ds, hi⟩
  have oth : ∀ j b, i ≠ j → At H σ r j b → b ≠ p' := fun j b hij hb z => hij (h.dis i j b (z ▸ ati) hb)
  have old : ∀ j a, (r.set i (.own t ds'))[j]? = some a → (i = j ∧ a = .own t ds') ∨ (i ≠ j ∧ r[j]? = some a) := fun j a hj => by
    rcases get_set hj with ⟨z, z2, _⟩ | z
    · exact .inl ⟨z, z2⟩
    · exact .inr z
  have back : ∀ j b, At H' σ (r.set i (.own t ds')) j b → At H σ r j b := fun j b hb => by
    rcases hb with ⟨q1, u, es, q2⟩ | ⟨u, rows, p2, as, q1, q2, q3, q4⟩
    · rcases old j _ q2 with ⟨rfl, _⟩ | ⟨_, z⟩
      · exact .inl ⟨q1, t, ds, hi⟩
      · exact .inl ⟨q1, u, es, z⟩
    · rcases old j _ q1 with ⟨_, z⟩ | ⟨hij, z⟩
      · cases z
      · obtain ⟨p3, bs, o⟩ := h.own2 j u rows z
        have : p3 = p2 := by rw [o.at_] at q2; cases q2; rfl
        subst this
        have e2 := e p3 _ o.lst (oth j p3 hij (.inr ⟨u, rows, p3, bs, z, o.at_, o.lst, .inl rfl⟩))
        have : bs = as := by
          rw [q3] at e2
          exact (map_ref_inj (by simpa using e2)).symm
        subst this
        exact .inr ⟨u, rows, p3, bs, z, o.at_, o.lst, q4⟩
  refine ⟨⟨by simp [h.len], fun b o hb hm => ?_, fun m hm => ?_, fun j d hj => ?_, fun j u es hj => ?_, fun j u rows hj => ?_, fun j k b hj hk => h.dis j k b (back j b hj) (back k b hk), fun j C ns es hj => ?_, fun j k id hj => ?_⟩, kp⟩
  · refine e b o (h.fr b o hb hm) (fun z => ?_)
    subst z
    rcases h4 with h4 | h4
    · rw [h4] at hb; cases hb
    · exact hm h4
  · obtain ⟨o, ho⟩ := h.mem m hm
    by_cases z : m = p'
    · exact ⟨_, by rw [z]; exact hp⟩
    · exact ⟨o, e m o ho z⟩
  · rcases old j _ hj with ⟨_, z⟩ | ⟨_, hj⟩
    · cases z
    · obtain ⟨v, g1, g2⟩ := h.val j d hj
      exact ⟨v, g1, Rep.mono kp _ _ g2⟩
  · rcases old j _ hj with ⟨rfl, z⟩ | ⟨hij, hj⟩
    · cases z
      exact ⟨p', xs', h1, hp, q, h5, h4⟩
    · obtain ⟨p2, ys, g1, g2, g3, g5, g4⟩ := h.own j u es hj
      exact ⟨p2, ys, g1, e _ _ g2 (oth j p2 hij (.inl ⟨g1, u, es, hj⟩)), Reps.mono kp _ _ g3, g5, g4⟩
  · rcases old j _ hj with ⟨_, z⟩ | ⟨hij, hj⟩
    · cases z
    · obtain ⟨p2, as, o⟩ := h.own2 j u rows hj
      have a2 : ∀ b, b = p2 ∨ b ∈ as → b ≠ p' := fun b hb => oth j b hij (.inr ⟨u, rows, p2, as, hj, o.at_, o.lst, hb⟩)
      exact ⟨p2, as, o.at_, e _ _ o.lst (a2 p2 (.inl rfl)), o.rk.keep kp fun b xs hb z => e _ _ z (a2 b (.inr hb)), o.tag, o.mine, o.ne, o.nd, o.ids⟩
  · rcases old j _ hj with ⟨_, z⟩ | ⟨_, hj⟩
    · cases z
    · obtain ⟨a, x, ys, g1, g2, g3, g4, g5⟩ := h.exn j C ns es hj
      exact ⟨a, x, ys, g1, g2, kp _ _ g3 rfl, g4, Reps.mono kp _ _ g5⟩
  · rcases old j _ hj with ⟨_, z⟩ | ⟨_, hj⟩
    · cases z
    · obtain ⟨u, rows, p2, as, m, es, b, q1, q2, q3, q4, q5, q6⟩ := h.ali j k id hj
      have hik : i ≠ k := fun z => by subst z; rw [hi] at q1; cases q1
      exact ⟨u, rows, p2, as, m, es, b, by rw [List.getElem?_set_ne hik]; exact q1, q2, e _ _ q3 (oth k p2 hik (.inr ⟨u, rows, p2, as, q1, q2, q3, .inl rfl⟩)), q4, q5, q6⟩
/-- a list that is no name's own comes to stand still -/
theorem kp_frz {p : Addr} {xs : List V} {o : Obj} (hp : H p = some (.lst xs)) : Kp g H (L2.upd H p (.frz o (.lst xs))) := fun b u hb hi => by
  rw [upd_ne (fun z => by subst z; rw [hp] at hb; cases hb; cases hi)]
  exact hb
theorem EnvOk.frz {p : Addr} {xs : List V} {ob : Obj} (h : EnvOk g P c H σ r) (hp : H p = some (.lst xs)) (h0 : c.H0 p = none ∨ c.M p) (hn : Fresh H σ r p) :
    EnvOk g P c (L2.upd H p (.frz ob (.lst xs))) σ r := by
  refine h.heap (kp_frz hp) (fun b o hb hM => ?_) (fun m hM => ?_) fun i b ys hb e => ?_
  · rw [upd_ne (fun z => by
      subst z
      rcases h0 with h0 | h0
      · rw [h0] at hb; cases hb
      · exact hM h0)]
    exact h.fr b o hb hM
  · by_cases z : m = p
    · exact ⟨_, by rw [z, upd_same]⟩
    · rw [upd_ne z]
      exact h.mem m hM
  · rw [upd_ne (fun z => by subst z; exact hn i hb)]
    exact e
theorem At.sub {r' : List A} {i : Nat} {b : Addr} (hw : ∀ a, r'[i]? = some a → a = .un ∨ r[i]? = some a) (h : At H σ r' i b) : At H σ r i b := by
  rcases h with ⟨q1, u, es, q2⟩ | ⟨u, rows, p2, as, q1, q2⟩
  · exact .inl ⟨q1, u, es, (hw _ q2).elim (fun z => by cases z) id⟩
  · exact .inr ⟨u, rows, p2, as, (hw _ q1).elim (fun z => by cases z) id, q2⟩
/-- less is known of a name -/
theorem EnvOk.weak (h : EnvOk g P c H σ r) {r' : List A} (hl : r'.length = r.length) (hw : ∀ (i : Nat) a, r'[i]? = some a → a = .un ∨ r[i]? = some a) (ha : ∀ (j i id t : Nat) (rows : List (Nat × List D)), r'[j]? = some (A.ali i id) → r[i]? = some (A.own2 t rows) → r'[i]? = some (A.own2 t rows)) : EnvOk g P c H σ r' where
  len := by rw [hl]; exact h.len
  fr := h.fr
  mem := h.mem
  val := fun j d hj => (hw j _ hj).elim (fun z => by cases z) fun z => h.val j d z
  own := fun j t ds hj => (hw j _ hj).elim (fun z => by cases z) fun z => h.own j t ds z
  own2 := fun j t ds hj => (hw j _ hj).elim (fun z => by cases z) fun z => h.own2 j t ds z
  dis := fun j k b hj hk => h.dis j k b (hj.sub (hw j)) (hk.sub (hw k))
  exn := fun j C ns ds hj => (hw j _ hj).elim (fun z => by cases z) fun z => h.exn j C ns ds z
  ali := fun j k id hj => (hw j _ hj).elim (fun z => by cases z) fun z => by
    obtain ⟨u, rows, p2, as, m, es, b, q1, q2⟩ := h.ali j k id z
    exact ⟨u, rows, p2, as, m, es, b, ha j k id u rows hj q1, q2⟩
theorem EnvOk.forget (h : EnvOk g P c H σ r) (i : Nat) (hn : ∀ t rows, r[i]? ≠ some (.own2 t rows)) : EnvOk g P c H σ (r.set i .un) := h.weak (by simp) (fun j a hj => by
  rcases get_set hj with ⟨_, e, _⟩ | ⟨_, e⟩
  · exact .inl e
  · exact .inr e) fun j k id t rows hj hk => by
    rw [List.getElem?_set_ne (fun z => by subst z; exact hn t rows hk)]
    exact hk
theorem set_id {i : Nat} {x : Option V} (hs : σ[i]? = some x) : σ.set i x = σ := by
  have hl := (List.getElem?_eq_some_iff.mp hs).1
  refine List.ext_getElem? fun j => ?_
  by_cases hij : i = j
  · subst hij; rw [List.getElem?_set_self hl, hs]
  · rw [List.getElem?_set_ne hij]
/-- a name's own list comes to stand still: the name holds it as data -/
theorem EnvOk.freeze (h : EnvOk g P c H σ r) {i t : Nat} {p : Addr} {xs : List V} {ds : List D} {ob : Obj} (hi : r[i]? = some (.own t ds)) (hs : σ[i]? = some (some (.ref p))) (hp : H p = some (.lst xs)) :
    EnvOk g P c (L2.upd H p (.frz ob (.lst xs))) σ (r.set i (.val (.lst ds))) ∧ Kp g H (L2.upd H p (.frz ob (.lst xs))) ∧ Rep g (L2.upd H p (.frz ob (.lst xs))) (.lst ds) (.ref p) := by
  obtain ⟨p', xs', h1, h2, h3, h4, h5⟩ := h.own i t ds hi
  have : p' = p := by rw [hs] at h1; cases h1; rfl
  subst this
  have : xs' = xs := by rw [hp] at h2; cases h2; rfl
  subst this
  have hn : ∀ u rows, r[i]? ≠ some (.own2 u rows) := fun u rows z => by rw [hi] at z; cases z
  have hf : Fresh H σ (r.set i .un) p' := fun j hj => by
    by_cases hij : i = j
    · subst hij
      have hl : i < r.length := (List.getElem?_eq_some_iff.mp hi).1
      rcases hj with ⟨_, u, es, z⟩ | ⟨u, rows, _, _, z, _⟩
      · rw [List.getElem?_set_self hl] at z; cases z
      · rw [List.getElem?_set_self hl] at z; cases z
    · exact hij (h.dis i j p' (.inl ⟨hs, t, ds, hi⟩) (hj.sub fun a z => by
        rw [List.getElem?_set_ne hij] at z
        exact .inr z))
  have o1 := (h.forget i hn).frz (ob := ob) hp h5 hf
  have k := kp_frz (g := g) (o := ob) hp
  have q : Rep g (L2.upd H p' (.frz ob (.lst xs'))) (.lst ds) (.ref p') := ⟨p', xs', rfl, ⟨ob, upd_same⟩, Reps.mono k _ _ h3⟩
  have hl : i < r.length := (List.getElem?_eq_some_iff.mp hi).1
  have o2 := o1.set i (fun u rows z => by rw [List.getElem?_set_self hl] at z; cases z) q
  rw [set_id hs, List.set_set] at o2
  exact ⟨o2, k, q⟩
theorem same_new {H : Hp} {p : Addr} {o : HO} (h : H p = none) : Same H (L2.upd H p o) := fun a u e => by
  rw [upd_ne (ne_of_none e h)]
  exact e
theorem EnvOk.fresh (h : EnvOk g P c H σ r) {p : Addr} (hp : H p = none) : Fresh H σ r p := fun i ha => by
  obtain ⟨⟨xs, e⟩, _⟩ := h.at_lst ha
  rw [hp] at e; cases e
theorem EnvOk.newM (h : EnvOk g P c H σ r) {p : Addr} (hp : H p = none) : ¬ c.M p := fun hm => by
  obtain ⟨o, ho⟩ := h.mem p hm
  rw [ho] at hp; cases hp
theorem EnvOk.new0 (h : EnvOk g P c H σ r) {p : Addr} (hp : H p = none) : c.H0 p = none := by
  cases q : c.H0 p with
  | none => rfl
  | some o =>
    have := h.fr p o q (h.newM hp)
    rw [hp] at this; cases this
/-- the addresses of the names' own lists -/
def oa (H : Hp) (σ : L2.St) (r : List A) (b : Addr) : Prop := ∃ i, At H σ r i b
theorem Fresh.keep (h : EnvOk g P c H σ r) {p : Addr} (e : ∀ b xs, H b = some (.lst xs) → H' b = some (.lst xs)) (hf : Fresh H σ r p) : Fresh H' σ r p := fun i ha => hf i (ha.back h fun b xs _ q => e b xs q)
theorem EnvOk.freshS (h : EnvOk g P c H σ r) {p : Addr} (hp : H p = none) (s : Same H H') : Fresh H' σ r p := Fresh.keep h (fun b xs e => s _ _ e) (h.fresh hp)
/-- the same surroundings, entered here -/
def Fr0.at (c : Fr0) (H : Hp) (σ : L2.St) (r : List A) : Fr0 := { c with M := oa H σ r, H0 := H }
theorem EnvOk.here (h : EnvOk g P c H σ r) : EnvOk g P (c.at H σ r) H σ r where
  len := h.len
  fr := fun b o hb _ => hb
  mem := fun m ⟨i, hi⟩ => let ⟨⟨xs, e⟩, _⟩ := h.at_lst hi; ⟨_, e⟩
  val := h.val
  own := fun i t ds hi => let ⟨p, xs, h1, h2, h3, h4, _⟩ := h.own i t ds hi; ⟨p, xs, h1, h2, h3, h4, .inr ⟨i, .inl ⟨h1, t, ds, hi⟩⟩⟩
  own2 := fun i t rows hi => let ⟨p, as, o⟩ := h.own2 i t rows hi; ⟨p, as, o.at_, o.lst, o.rk, o.tag, fun a ha => .inr ⟨i, .inr ⟨t, rows, p, as, hi, o.at_, o.lst, ha⟩⟩, o.ne, o.nd, o.ids⟩
  dis := h.dis
  exn := h.exn
  ali := h.ali
/-- what was tracked ahead and is no name's own stands as it was -/
theorem EnvOk.there (h : EnvOk g P c H σ r) {σ' : L2.St} {r' : List A} (q : EnvOk g P (c.at H σ r) H' σ' r') : EnvOk g P c H' σ' r' where
  len := q.len
  fr := fun b o hb hm => q.fr b o (h.fr b o hb hm) fun ⟨i, hi⟩ => by
    obtain ⟨_, h4⟩ := h.at_lst hi
    rcases h4 with h4 | h4
    · rw [h4] at hb; cases hb
    · exact hm h4
  mem := fun m hm => by
    by_cases z : oa H σ r m
    · exact q.mem m z
    · obtain ⟨o, ho⟩ := h.mem m hm
      exact ⟨o, q.fr m o ho z⟩
  val := q.val
  own := fun i t ds hi => by
    obtain ⟨p, xs, g1, g2, g3, g4, g5⟩ := q.own i t ds hi
    refine ⟨p, xs, g1, g2, g3, g4, ?_⟩
    rcases g5 with g5 | ⟨j, hj⟩
    · exact .inl (h.new0 g5)
    · exact (h.at_lst hj).2
  own2 := fun i t rows hi => by
    obtain ⟨p, as, o⟩ := q.own2 i t rows hi
    refine ⟨p, as, o.at_, o.lst, o.rk, o.tag, fun a ha => ?_, o.ne, o.nd, o.ids⟩
    rcases o.mine a ha with g5 | ⟨j, hj⟩
    · exact .inl (h.new0 g5)
    · exact (h.at_lst hj).2
  dis := q.dis
  exn := q.exn
  ali := q.ali
end
end Pw

set_option Elab.async false
set_option linter.all false
set_option maxRecDepth 100000
set_option maxHeartbeats 2000000
namespace Pw
open PySem L2

/-- an error: its class, its fields -/
structure Er where
  cls : Str
  ns : List Str
  ds : List D
/-- what a piece of code does with the names' contents: no answer here, a value, an error -/
inductive Res (α : Type) where
  | no | ok (a : α) (r : List A) | ex (e : Er) (r : List A)
def Mo (α : Type) := List A → Res α
def Mo.pure {α : Type} (a : α) : Mo α := fun r => .ok a r
def Mo.bind {α β : Type} (m : Mo α) (f : α → Mo β) : Mo β := fun r =>
  match m r with
  | .no => .no
  | .ok a r1 => f a r1
  | .ex e r1 => .ex e r1
def Mo.none {α : Type} : Mo α := fun _ => .no
/-- a value that may lack -/
def Mo.opt {α : Type} : Option α → Mo α
  | some a => .pure a
  | Option.none => .none
instance : Monad Mo where
  pure := Mo.pure
  bind := Mo.bind
theorem mo_bind {α β : Type} (m : Mo α) (f : α → Mo β) : (m >>= f) = Mo.bind m f := rfl
theorem mo_pure {α : Type} (a : α) : (pure a : Mo α) = Mo.pure a := rfl
/-- what stands in an expression's place: data, a name's own list, a list just made -/
inductive U where
  | val (d : D) | slot (i : Nat) | fresh (ds : List D)

/-- what is wished of an exception; the exceptions in hand -/
structure WP where
  w : WX
  p : PX
def noP : PX := fun _ _ _ => False
section
variable (g : G) (W : WP) (c : Fr0) (σ : L2.St)
def PostX (H : Hp) (e : Er) (r : List A) : Prop := ∀ x xs H', Kp g H H' → EnvOk g W.p c H' σ r → H' x = some (.xd (e.ns.zip xs)) → xs.length = e.ns.length → Reps g H' e.ds xs → W.w (.ref (He.ga g.K e.cls)) (some x) σ H'
/-- R: when the machine's v is the reader's a -/
abbrev RelT (α β : Type) := Fr0 → L2.St → List A → Hp → α → β → Prop
def Post {α β : Type} (R : RelT α β) (H : Hp) (m : Res α) (Q : β → Hp → Prop) : Prop :=
  match m with
  | .no => False
  | .ok a r => ∀ v H', Kp g H H' → EnvOk g W.p c H' σ r → R c σ r H' a v → Q v H'
  | .ex e r => PostX g W c σ H e r
end
/-- t does what m says -/
def J (g : G) (W : WP) {α β : Type} (R : RelT α β) (t : L2.St → Hp → (β → Hp → Prop) → Prop) (m : Mo α) : Prop := ∀ c H σ r Q, EnvOk g W.p c H σ r → Post g W c σ R H (m r) Q → t σ H Q
def A.isOwn : A → Bool
  | .own _ _ => true
  | .own2 _ _ => true
  | .ali _ _ => true
  | _ => false
def RD (g : G) : RelT D V := fun _ _ _ H d v => Rep g H d v
def RDs (g : G) : RelT (List D) (List V) := fun _ _ _ H d v => Reps g H d v
def RB : RelT Bool Bool := fun _ _ _ _ a b => a = b
def RU (g : G) : RelT U V := fun c σ r H u v =>
  match u with
  | .val d => Rep g H d v
  | .slot i => σ[i]? = some (some v) ∧ ∃ a, r[i]? = some a ∧ a.isOwn = true
  | .fresh ds => ∃ p xs, v = .ref p ∧ H p = some (.lst xs) ∧ Reps g H ds xs ∧ c.H0 p = none ∧ Fresh H σ r p

section
variable {g : G} {W : WP} {c : Fr0} {σ : L2.St} {H H1 : Hp} {α β γ δ : Type} {R : RelT α β} {R2 : RelT γ δ} {r : List A}
theorem PostX.go {e : Er} (h : PostX g W c σ H e r) (k : Kp g H H1) : PostX g W c σ H1 e r := fun x xs H' k' => h x xs H' (k.trans k')
theorem Post.go {m : Res α} {Q : β → Hp → Prop} (h : Post g W c σ R H m Q) (k : Kp g H H1) : Post g W c σ R H1 m Q := by
  cases m with
  | no => exact h
  | ok a r => exact fun v H' k' => h v H' (k.trans k')
  | ex e r => exact PostX.go h k
/-- one piece behind another -/
theorem J.bind {t : L2.St → Hp → (β → Hp → Prop) → Prop} {m : Mo α} {f : α → Mo γ} {Q : β → Hp → Prop} {Q2 : δ → Hp → Prop} (h : J g W R t m) (o : EnvOk g W.p c H σ r) (p : Post g W c σ R2 H ((m >>= f) r) Q2)
    (k : ∀ v H1 a r1, Kp g H H1 → EnvOk g W.p c H1 σ r1 → R c σ r1 H1 a v → Post g W c σ R2 H1 (f a r1) Q2 → Q v H1) : t σ H Q := by
  refine h c H σ r Q o ?_
  have p' : Post g W c σ R2 H (Mo.bind m f r) Q2 := p
  unfold Mo.bind at p'
  cases e : m r with
  | no => rw [e] at p'; exact p'
  | ok a r1 =>
    rw [e] at p'
    exact fun v H' k' o' q => k v H' a r1 k' o' q (p'.go k')
  | ex er r1 => rw [e] at p'; exact p'
/-- the end -/
theorem Post.pure {a : α} {v : β} {Q : β → Hp → Prop} (p : Post g W c σ R H ((Pure.pure a : Mo α) r) Q) (o : EnvOk g W.p c H1 σ r) (k : Kp g H H1) (q : R c σ r H1 a v) : Q v H1 := p v H1 k o q
theorem Post.opt {a : Option α} {v : β} {Q : β → Hp → Prop} (p : Post g W c σ R H (Mo.opt a r) Q) (o : EnvOk g W.p c H1 σ r) (k : Kp g H H1) (q : ∀ x, a = some x → R c σ r H1 x v) : Q v H1 := by
  cases a with
  | none => exact False.elim p
  | some x => exact p v H1 k o (q x rfl)
/-- a weaker end -/
theorem Post.imp {m : Res α} {Q Q' : β → Hp → Prop} (p : Post g W c σ R H m Q) (h : ∀ v H', Kp g H H' → Q v H' → Q' v H') : Post g W c σ R H m Q' := by
  cases m with
  | no => exact p
  | ok a r => exact fun v H' k o q => h v H' k (p v H' k o q)
  | ex e r => exact p
end

/-! ### what reads as what -/
/-- v reads as d just now: data, or a list that may be changed later -/
def RepR (g : G) (H : Hp) (d : D) (v : V) : Prop := Rep g H d v ∨ ∃ p xs ds, d = .lst ds ∧ v = .ref p ∧ H p = some (.lst xs) ∧ Reps g H ds xs
/-- what u holds just now -/
def U.now (r : List A) : U → Option D
  | .val d => some d
  | .slot i => match r[i]? with
    | some (.own _ ds) => some (.lst ds)
    | some (.own2 _ rows) => some (.lst (rows.map fun _ => .opq))
    | some (.ali j id) => (match r[j]? with
      | some (.own2 _ rows) => (rows.lookup id).map .lst
      | _ => none)
    | _ => none
  | .fresh ds => some (.lst ds)
section
variable {g : G} {P : PX} {c : Fr0} {σ : L2.St} {H H1 : Hp} {r : List A} {u : U} {v : V} {d : D}
theorem opqs {rows : List (Nat × List D)} : ∀ {xs : List V}, xs.length = rows.length → Reps g H (rows.map fun _ => D.opq) xs := by
  induction rows with
  | nil => intro xs h; exact List.length_eq_zero_iff.mp h
  | cons a rows ih =>
    intro xs h
    cases xs with
    | nil => cases h
    | cons x xs => exact ⟨x, xs, rfl, trivial, ih (by simpa using h)⟩
theorem look_at : ∀ {rows : List (Nat × List D)} {k id : Nat} {ds : List D}, (rows.map (·.1)).Nodup → rows[k]? = some (id, ds) → rows.lookup id = some ds
  | [], _, _, _, _, e => by simp at e
  | x :: rows, 0, id, ds, _, e => by simp at e; subst e; simp [List.lookup]
  | x :: rows, k + 1, id, ds, nd, e => by
    have e' : rows[k]? = some (id, ds) := by simpa using e
    rw [List.map_cons, List.nodup_cons] at nd
    have hne : (id == x.1) = false := by
      cases q : id == x.1 with
      | false => rfl
      | true =>
        have : id = x.1 := by simpa using q
        exact absurd (List.mem_map.mpr ⟨(id, ds), List.mem_of_getElem? e', by exact this⟩) nd.1
    obtain ⟨x1, x2⟩ := x
    rw [List.lookup_cons]
    rw [show (id == x1) = false from hne]
    exact look_at nd.2 e'
theorem slot_now {i : Nat} (o : EnvOk g P c H σ r) (h : σ[i]? = some (some v)) (e : (U.slot i).now r = some d) : RepR g H d v := by
  cases q : r[i]? with
  | none => simp only [U.now, q] at e; cases e
  | some a =>
    cases a with
    | own t ds =>
      simp only [U.now, q] at e
      cases e
      obtain ⟨p, xs, h3, h4, h5, _⟩ := o.own i t ds q
      rw [h3] at h
      cases h
      exact .inr ⟨p, xs, ds, rfl, rfl, h4, h5⟩
    | own2 t rows =>
      simp only [U.now, q] at e
      cases e
      obtain ⟨p, as, O⟩ := o.own2 i t rows q
      rw [O.at_] at h
      cases h
      exact .inr ⟨p, _, _, rfl, rfl, O.lst, opqs (by rw [List.length_map, O.rk.len])⟩
    | ali j id =>
      simp only [U.now, q] at e
      obtain ⟨t, rows, p, as, k, ds, a, q1, q2, q3, q4, q5, q6⟩ := o.ali i j id q
      simp only [q1] at e
      obtain ⟨p2, as2, O⟩ := o.own2 j t rows q1
      have : p2 = p := by have := O.at_; rw [q2] at this; cases this; rfl
      subst this
      have : as2 = as := by
        have := O.lst
        rw [q3] at this
        exact (map_ref_inj (by simpa using this)).symm
      subst this
      rw [look_at O.ids q4] at e
      cases e
      rw [q6] at h
      cases h
      obtain ⟨a', xs, z1, z2, z3⟩ := O.rk.at q4
      rw [q5] at z1
      cases z1
      exact .inr ⟨a, xs, ds, rfl, rfl, z2, z3⟩
    | _ => simp only [U.now, q] at e; cases e
theorem RU.now (o : EnvOk g P c H σ r) (h : RU g c σ r H u v) (e : u.now r = some d) : RepR g H d v := by
  cases u with
  | val a => cases e; exact .inl h
  | slot i => exact slot_now o h.1 e
  | fresh ds =>
    obtain ⟨p, xs, h1, h2, h3, _⟩ := h
    cases e
    exact .inr ⟨p, xs, ds, rfl, h1, h2, h3⟩
/-- a list just made counts as data from now on -/
def U.fz : U → U
  | .fresh ds => .val (.lst ds)
  | u => u
/-- u as data -/
def toD : U → Mo D
  | .val d => pure d
  | .fresh ds => pure (.lst ds)
  | .slot i => fun r => match r[i]? with
    | some (.own _ ds) => .ok (.lst ds) (r.set i (.val (.lst ds)))
    | _ => .no
end
/-- the machine's side of it -/
def tFz (te : TE) : TE := fun σ H Q => te σ H fun v H1 => (∃ p xs, v = .ref p ∧ H1 p = some (.lst xs) ∧ ∀ o, Q v (upd H1 p (.frz o (.lst xs)))) ∨ Q v H1
section
variable {X : Cx}
theorem inv_frz {pins : List (Addr × Obj)} {σ : L2.St} {H : Hp} {s : Shared} {p : Addr} {xs : List V} (I : Inv X pins σ H s) (hp : H p = some (.lst xs)) : ∃ o, Inv X pins σ (upd H p (.frz o (.lst xs))) s := by
  obtain ⟨z, its, n, r, e⟩ := I.hok p _ hp
  refine ⟨_, I.un (t' := s.toks) (h' := s.heap) (H' := upd H p (.frz { cls := .type "list", data := .seq its.toArray n } (.lst xs))) ⟨fun b o q _ _ _ => q, fun b o q _ _ _ => ⟨o.slots, q⟩, fun b o q n _ => ?_, fun b o q _ => ⟨o, q⟩, fun b ys q => ?_, fun b o u q => ?_, fun b ps q => ⟨#[], ?_⟩⟩ fun b o q => ?_⟩
  · rw [upd_ne (fun z => by subst z; rw [hp] at n; cases n)]; exact n
  · rw [upd_ne (ne_of q hp (by intro z; cases z))]; exact q
  · rw [upd_ne (ne_of q hp (by intro z; cases z))]; exact q
  · rw [upd_ne (ne_of q hp (by intro z; cases z)), q]; simp
  · by_cases hb : b = p
    · subst hb
      rw [upd_same] at q
      cases q
      exact ⟨e, z, its, n, r, e⟩
    · rw [upd_ne hb] at q
      exact (I.hok b o q).stay (fun _ _ _ q => q) (fun c q => by rw [upd_ne (ne_of q hp (by intro z; cases z))]; exact q) fun c ys q => by rw [upd_ne (ne_of q hp (by intro z; cases z))]; exact q
theorem pe_fz {e : Expr} {t : TE} (h : PE X e t) : PE X e (tFz t) := by
  refine ⟨fun pins s σ H Q I q => ?_⟩
  refine thn (h.run pins s σ H _ I q) fun u s1 ⟨v, H1, I1, r, hq⟩ => ?_
  rcases hq with ⟨p, xs, ev, hp, k⟩ | k
  · subst ev
    obtain ⟨o, I2⟩ := inv_frz I1 hp
    exact ⟨_, _, I2, r, k o⟩
  · exact ⟨v, H1, I1, r, k⟩
end
section
variable {g : G} {W : WP} {te : TE} {m : Mo U}
theorem J.fz (h : J g W (RU g) te m) : J g W (RU g) (tFz te) (do let u ← m; pure u.fz) := fun c H σ r Q o p =>
  h.bind o p fun v H1 u r1 k1 o1 h1 p1 => by
    cases u with
    | val d => exact .inr (p1.pure o1 (Kp.refl _) h1)
    | slot i => exact .inr (p1.pure o1 (Kp.refl _) h1)
    | fresh ds =>
      obtain ⟨p, xs, rfl, h2, h3, h4, h5⟩ := h1
      exact .inl ⟨p, xs, rfl, h2, fun ob => p1.pure (o1.frz h2 (.inl h4) h5) (kp_frz h2) ⟨p, xs, rfl, ⟨ob, upd_same⟩, Reps.mono (kp_frz h2) _ _ h3⟩⟩
theorem J.toD (h : J g W (RU g) te m) : J g W (RD g) (tFz te) (do let u ← m; toD u) := fun c H σ r Q o p =>
  h.bind o p fun v H1 u r1 k1 o1 h1 p1 => by
    cases u with
    | val d => exact .inr (p1.pure o1 (Kp.refl _) h1)
    | slot i =>
      have p2 : Post g W c σ (RD g) H1 (Pw.toD (.slot i) r1) Q := p1
      unfold Pw.toD at p2
      obtain ⟨h2, a, h3, _⟩ := h1
      cases a with
      | own t ds =>
        obtain ⟨p, xs, h4, h5, h6, _⟩ := o1.own i t ds h3
        have : v = .ref p := by rw [h4] at h2; cases h2; rfl
        subst this
        refine .inl ⟨p, xs, rfl, h5, fun ob => ?_⟩
        obtain ⟨o2, k2, q2⟩ := o1.freeze (ob := ob) h3 h4 h5
        simp only [h3] at p2
        exact p2 _ _ k2 o2 q2
      | _ => simp only [h3] at p2; exact p2.elim
    | fresh ds =>
      obtain ⟨p, xs, rfl, h2, h3, h4, h5⟩ := h1
      exact .inl ⟨p, xs, rfl, h2, fun ob => p1.pure (o1.frz h2 (.inl h4) h5) (kp_frz h2) ⟨p, xs, rfl, ⟨ob, upd_same⟩, Reps.mono (kp_frz h2) _ _ h3⟩⟩
end
end Pw

set_option Elab.async false
set_option linter.all false
set_option maxRecDepth 100000
set_option maxHeartbeats 2000000
namespace Pw
open PySem L2

/-! ### what reads as what: lists, scalars -/
section
variable {g : G} {H H1 : Hp} {x v : V} {d : D}
theorem RepR.non (h : RepR g H .non v) : v = .non := h.elim id fun ⟨_, _, _, e, _⟩ => by cases e
theorem RepR.bl {b : Bool} (h : RepR g H (.bl b) v) : v = .bl b := h.elim id fun ⟨_, _, _, e, _⟩ => by cases e
theorem RepR.int {i : Int} (h : RepR g H (.int i) v) : v = .int i := h.elim id fun ⟨_, _, _, e, _⟩ => by cases e
theorem RepR.str {x : Str} (h : RepR g H (.str x) v) : v = .str x := h.elim id fun ⟨_, _, _, e, _⟩ => by cases e
theorem RepR.lst {ds : List D} (h : RepR g H (.lst ds) v) : ∃ p xs, v = .ref p ∧ Rd H p (.lst xs) ∧ Reps g H ds xs := by
  rcases h with ⟨p, xs, e, h1, h2⟩ | ⟨p, xs, es, e, e2, h1, h2⟩
  · exact ⟨p, xs, e, h1.rd, h2⟩
  · cases e
    exact ⟨p, xs, e2, .inl h1, h2⟩
theorem RepR.tup {ds : List D} (h : RepR g H (.tup ds) v) : ∃ p xs, v = .ref p ∧ SqT g.K H p xs ∧ Reps g H ds xs := by
  rcases h with ⟨p, xs, e, h1, h2⟩ | ⟨_, _, _, e, _⟩
  · exact ⟨p, xs, e, h1, h2⟩
  · cases e
def D.isNon : D → Option Bool
  | .non => some true
  | .opq => none
  | _ => some false
theorem RepR.non_iff {b : Bool} (h : RepR g H d v) (e : d.isNon = some b) : decide (v = .non) = b := by
  rcases h with h | ⟨p, xs, ds, rfl, rfl, _⟩
  · cases d with
    | non => cases e; rw [show v = .non from h]; rfl
    | bl _ => cases e; rw [show v = .bl _ from h]; rfl
    | int _ => cases e; rw [show v = .int _ from h]; rfl
    | str _ => cases e; rw [show v = .str _ from h]; rfl
    | lst _ => cases e; obtain ⟨a, xs, rfl, _⟩ := h; rfl
    | tup _ => cases e; obtain ⟨a, xs, rfl, _⟩ := h; rfl
    | obj _ _ _ => cases e; obtain ⟨a, dx, xs, rfl, _⟩ := h; rfl
    | dic _ => cases e; obtain ⟨a, rfl, _⟩ := h; rfl
    | kls _ => cases e; obtain ⟨a, xs, rfl, _⟩ := h; rfl
    | opq => cases e
  · cases e; rfl
end
/- data whose parts == compares one by one -/
mutual
def D.py : D → Option PyData
  | .non => some .none
  | .bl b => some (.bool b)
  | .int i => some (.int i)
  | .str x => some (.str x)
  | .lst xs => (D.pys xs).map .list
  | .tup xs => (D.pys xs).map .tuple
  | .obj _ _ _ => none
  | .dic _ => none
  | .kls _ => none
  | .opq => none
def D.pys : List D → Option (List PyData)
  | [] => some []
  | d :: ds => match D.py d, D.pys ds with
    | some a, some b => some (a :: b)
    | _, _ => none
end
mutual
theorem Rep.dp {g : G} {H : Hp} : ∀ (d : D) (v : V) (a : PyData), Rep g H d v → d.py = some a → Dp g.K H v a
  | .non, v, a, h, e => by rw [show v = .non from h]; cases e; exact .non
  | .bl _, v, a, h, e => by rw [show v = .bl _ from h]; cases e; exact .bl _
  | .int _, v, a, h, e => by rw [show v = .int _ from h]; cases e; exact .int _
  | .str _, v, a, h, e => by rw [show v = .str _ from h]; cases e; exact .str _
  | .lst ds, v, a, h, e => by
    obtain ⟨p, xs, rfl, h1, h2⟩ := h
    unfold D.py at e
    cases q : D.pys ds with
    | none => rw [q] at e; cases e
    | some bs => rw [q] at e; cases e; exact .lst (.inl h1.rd) (Reps.dp ds xs bs h2 q)
  | .tup ds, v, a, h, e => by
    obtain ⟨p, xs, rfl, h1, h2⟩ := h
    unfold D.py at e
    cases q : D.pys ds with
    | none => rw [q] at e; cases e
    | some bs => rw [q] at e; cases e; exact .tup h1 (Reps.dp ds xs bs h2 q)
  | .obj _ _ _, _, _, _, e => by cases e
  | .dic _, _, _, _, e => by cases e
  | .kls _, _, _, _, e => by cases e
  | .opq, _, _, _, e => by cases e
theorem Reps.dp {g : G} {H : Hp} : ∀ (ds : List D) (xs : List V) (bs : List PyData), Reps g H ds xs → D.pys ds = some bs → DpAll g.K H xs bs
  | [], xs, bs, h, e => by cases e; cases h; exact .nil
  | d :: ds, xs, bs, h, e => by
    obtain ⟨y, ys, rfl, h1, h2⟩ := h
    unfold D.pys at e
    cases q1 : D.py d with
    | none => rw [q1] at e; cases e
    | some a =>
      cases q2 : D.pys ds with
      | none => rw [q1, q2] at e; cases e
      | some b =>
        rw [q1, q2] at e
        cases e
        exact .cons (Rep.dp d y a h1 q1) (Reps.dp ds ys b h2 q2)
end
theorem RepR.dp {g : G} {H : Hp} {d : D} {v : V} {a : PyData} (h : RepR g H d v) (e : d.py = some a) : Dp g.K H v a := by
  rcases h with h | ⟨p, xs, ds, rfl, rfl, h1, h2⟩
  · exact Rep.dp d v a h e
  · unfold D.py at e
    cases q : D.pys ds with
    | none => rw [q] at e; cases e
    | some bs => rw [q] at e; cases e; exact .lst (.inl (.inl h1)) (Reps.dp ds xs bs h2 q)
/-- == of data -/
def eqD : D → D → Option Bool
  | .int i, .int j => some (decide (i = j))
  | .str x, .str y => some (decide (x = y))
  | .bl x, .bl y => some (decide (x = y))
  | d, e => match d.py, e.py with
    | some a, some b => if SeqAt.shaped a && SeqAt.shaped b then some (PyData.eqv a b) else none
    | _, _ => none
/-- flat data -/
def D.flat : D → Bool
  | .non => true
  | .bl _ => true
  | .int _ => true
  | .str _ => true
  | _ => false
def D.eqF : D → D → Bool
  | .non, .non => true
  | .bl a, .bl b => a == b
  | .bl a, .int b => (if a then 1 else 0) == b
  | .int a, .bl b => a == (if b then 1 else 0)
  | .int a, .int b => a == b
  | .str a, .str b => a == b
  | _, _ => false
section
variable {g : G} {H : Hp}
theorem Rep.flat : ∀ {d : D} {v : V}, Rep g H d v → d.flat = true → flatV v = true
  | .non, v, h, _ => by rw [show v = .non from h]; rfl
  | .bl _, v, h, _ => by rw [show v = .bl _ from h]; rfl
  | .int _, v, h, _ => by rw [show v = .int _ from h]; rfl
  | .str _, v, h, _ => by rw [show v = .str _ from h]; rfl
  | .lst _, _, _, h => by cases h
  | .tup _, _, _, h => by cases h
  | .obj _ _ _, _, _, h => by cases h
  | .dic _, _, _, h => by cases h
  | .kls _, _, _, h => by cases h
  | .opq, _, _, h => by cases h
theorem Rep.eqF : ∀ {d e : D} {v u : V}, Rep g H d v → Rep g H e u → d.flat = true → e.flat = true → eqV v u = d.eqF e
  | .non, e, v, u, h, q, _, fe => by
    rw [show v = .non from h]
    cases e with
    | non => rw [show u = .non from q]; rfl
    | bl _ => rw [show u = .bl _ from q]; rfl
    | int _ => rw [show u = .int _ from q]; rfl
    | str _ => rw [show u = .str _ from q]; rfl
    | _ => cases fe
  | .bl _, e, v, u, h, q, _, fe => by
    rw [show v = .bl _ from h]
    cases e with
    | non => rw [show u = .non from q]; rfl
    | bl _ => rw [show u = .bl _ from q]; rfl
    | int _ => rw [show u = .int _ from q]; rfl
    | str _ => rw [show u = .str _ from q]; rfl
    | _ => cases fe
  | .int _, e, v, u, h, q, _, fe => by
    rw [show v = .int _ from h]
    cases e with
    | non => rw [show u = .non from q]; rfl
    | bl _ => rw [show u = .bl _ from q]; rfl
    | int _ => rw [show u = .int _ from q]; rfl
    | str _ => rw [show u = .str _ from q]; rfl
    | _ => cases fe
  | .str _, e, v, u, h, q, _, fe => by
    rw [show v = .str _ from h]
    cases e with
    | non => rw [show u = .non from q]; rfl
    | bl _ => rw [show u = .bl _ from q]; rfl
    | int _ => rw [show u = .int _ from q]; rfl
    | str _ => rw [show u = .str _ from q]; rfl
    | _ => cases fe
  | .lst _, _, _, _, _, _, h, _ => by cases h
  | .tup _, _, _, _, _, _, h, _ => by cases h
  | .obj _ _ _, _, _, _, _, _, h, _ => by cases h
  | .dic _, _, _, _, _, _, h, _ => by cases h
  | .kls _, _, _, _, _, _, h, _ => by cases h
  | .opq, _, _, _, _, _, h, _ => by cases h
theorem Reps.flats : ∀ {ds : List D} {xs : List V}, Reps g H ds xs → ds.all D.flat = true → xs.all flatV = true
  | [], _, h, _ => by cases h; rfl
  | d :: ds, _, h, f => by
    obtain ⟨y, ys, rfl, h1, h2⟩ := h
    simp only [List.all_cons, Bool.and_eq_true] at f ⊢
    exact ⟨Rep.flat h1 f.1, Reps.flats h2 f.2⟩
end
def D.isIn (d : D) (ds : List D) : Bool := ds.any fun e => e.eqF d
theorem Reps.inV {g : G} {H : Hp} {d : D} {v : V} (h : Rep g H d v) (fd : d.flat = true) : ∀ {ds : List D} {xs : List V}, Reps g H ds xs → ds.all D.flat = true → L2.inV v xs = d.isIn ds
  | [], _, h, _ => by cases h; rfl
  | e :: ds, _, q, f => by
    obtain ⟨y, ys, rfl, h1, h2⟩ := q
    simp only [List.all_cons, Bool.and_eq_true] at f
    have ih := Reps.inV h fd h2 f.2
    unfold L2.inV D.isIn at ih ⊢
    rw [List.any_cons, List.any_cons, ih, Rep.eqF h1 h f.1 fd]
/-- d in e -/
def inD : D → D → Option Bool
  | d, .tup es => if d.flat && es.all D.flat then some (d.isIn es) else none
  | d, .lst es => if d.flat && es.all D.flat then some (d.isIn es) else none
  | .str x, .str y => match x.cps.toList with
    | [c] => some (decide (c ∈ y.cps.toList))
    | _ => none
  | _, _ => none

/-! ### operators -/
def vI (i : Int) : Option U := some (.val (.int i))
def vB (b : Bool) : Option U := some (.val (.bl b))
def binD : Operator → D → D → Option U
  | .Add, .int i, .int j => vI (i + j)
  | .Add, .str x, .str y => if x.length + y.length ≤ sizeLine then some (.val (.str (x ++ y))) else none
  | .Add, .lst xs, .lst ys => if xs.length + ys.length ≤ sizeLine then some (.fresh (xs ++ ys)) else none
  | .Sub, .int i, .int j => vI (i - j)
  | .Mult, .int i, .int j => if (-(2 ^ 64) < i ∧ i < 2 ^ 64) ∨ (-(2 ^ 64) < j ∧ j < 2 ^ 64) then vI (i * j) else none
  | .FloorDiv, .int i, .int j => if 0 < j ∧ j < 1073741824 then vI (i / j) else none
  | .Mod, .int i, .int j => if 0 < j then vI (i % j) else none
  | .Pow, .int i, .int j => if 0 ≤ j ∧ j ≤ 1000000 ∧ i.natAbs < 2 ^ 64 then vI (i ^ j.toNat) else none
  | _, _, _ => none
def cmpD : CmpOp → D → D → Option U
  | .Eq, d, e => (eqD d e).map fun b => .val (.bl b)
  | .NotEq, d, e => (eqD d e).map fun b => .val (.bl (!b))
  | .Lt, .int i, .int j => vB (decide (i < j))
  | .Lt, .str x, .str y => vB (decide (x.cps.toList < y.cps.toList))
  | .LtE, .int i, .int j => vB (decide (i ≤ j))
  | .Gt, .int i, .int j => vB (decide (j < i))
  | .GtE, .int i, .int j => vB (decide (j ≤ i))
  | .Is, d, .non => d.isNon.map fun b => .val (.bl b)
  | .IsNot, d, .non => d.isNon.map fun b => .val (.bl (!b))
  | .In, d, e => (inD d e).map fun b => .val (.bl b)
  | .NotIn, d, e => (inD d e).map fun b => .val (.bl (!b))
  | _, _, _ => none
def rOr (a b : R2) : R2 := fun x y H Q => a x y H Q ∨ b x y H Q
theorem OpR.or {X : Cx} {f : Value → Value → Sem Value} {a b : R2} (ha : OpR X f a) (hb : OpR X f b) : OpR X f (rOr a b) := fun pins s σ H x y v u Q I rx ry h =>
  h.elim (ha pins s σ H x y v u Q I rx ry) (hb pins s σ H x y v u Q I rx ry)
/-- list + list -/
def rCatR : R2 := fun x y H Q => ∃ l b xs zs, x = .ref l ∧ y = .ref b ∧ Rd H l (.lst xs) ∧ Rd H b (.lst zs) ∧ xs.length + zs.length ≤ sizeLine ∧ ∀ p, H p = none → Q (.ref p) (upd H p (.lst (xs ++ zs)))
section
variable {X : Cx}
theorem op_catR : OpR X (binaryOp .Add) rCatR := by
  intro pins s σ H x y v u Q I rx ry h
  obtain ⟨l, b, xs, zs, rfl, rfl, hH, hB, hz, q⟩ := h
  cases rx
  cases ry
  obtain ⟨z, its, n, r, e⟩ := hH.ok I.hok
  obtain ⟨z2, its2, n2, r2, e2⟩ := hB.ok I.hok
  have hl := r.length
  have hl2 := r2.length
  refine PySem.P.add_list e e2 ?_ (by rw [List.size_toArray, List.size_toArray]; omega)
  have ea : its.toArray ++ its2.toArray = (its ++ its2).toArray := by simp
  rw [ea]
  exact ⟨.ref _, _, I.lnew (t' := s.toks) (r.append r2) (by rw [List.length_append]; omega), rfl, q _ I.fresh⟩
end

/-! ### an operation on what two pieces hold -/
def OpEnd (g : G) (H : Hp) (Q : VK) : U → Prop
  | .val z => ∀ v H', Same H H' → Rep g H' z v → Q v H'
  | .fresh zs => ∀ p xs H', Same H H' → H p = none → H' p = some (.lst xs) → Reps g H' zs xs → Q (.ref p) H'
  | .slot _ => False
def OpOk (g : G) (r : R2) (f : D → D → Option U) : Prop := ∀ d e x y H (Q : VK) u, RepR g H d x → RepR g H e y → f d e = some u → OpEnd g H Q u → r x y H Q
section
variable {g : G} {H : Hp} {Q : VK}
theorem OpEnd.same {z : D} {v : V} (h : OpEnd g H Q (.val z)) (q : Rep g H z v) : Q v H := h v H (Same.refl H) q
theorem OpOk.inl {r r' : R2} {f : D → D → Option U} (h : OpOk g r f) : OpOk g (rOr r r') f := fun d e x y H Q u hx hy hf k => .inl (h d e x y H Q u hx hy hf k)
theorem OpOk.inr {r r' : R2} {f : D → D → Option U} (h : OpOk g r' f) : OpOk g (rOr r r') f := fun d e x y H Q u hx hy hf k => .inr (h d e x y H Q u hx hy hf k)
end
def rAddS : R2 := fun x y H Q => ∃ i j, x = .str i ∧ y = .str j ∧ i.length + j.length ≤ sizeLine ∧ Q (.str (i ++ j)) H
def rLtS : R2 := fun x y H Q => ∃ i j, x = .str i ∧ y = .str j ∧ Q (.bl (decide (i.cps.toList < j.cps.toList))) H
def rInC : R2 := fun x y H Q => ∃ (c : Nat) (z : Str), x = .str ⟨#[c]⟩ ∧ y = .str z ∧ Q (.bl (decide (c ∈ z.cps.toList))) H
def rNotInC : R2 := fun x y H Q => ∃ (c : Nat) (z : Str), x = .str ⟨#[c]⟩ ∧ y = .str z ∧ Q (.bl (!decide (c ∈ z.cps.toList))) H
def rIs0 : R2 := fun x y H Q => y = .non ∧ Q (.bl (decide (x = .non))) H
def rNot0 : R2 := fun x y H Q => y = .non ∧ Q (.bl (!decide (x = .non))) H
/-- what each operator reads -/
def rBin : Operator → R2
  | .Add => rOr (rI0 fun i j => .int (i + j)) (rOr rAddS rCatR)
  | .Sub => rI0 fun i j => .int (i - j)
  | .Mult => rI CMul fun i j => .int (i * j)
  | .FloorDiv => rI CDiv fun i j => .int (i / j)
  | .Mod => rI (fun _ j => 0 < j) fun i j => .int (i % j)
  | .Pow => rI CPow fun i j => .int (i ^ j.toNat)
  | _ => fun _ _ _ _ => False
theorem op_bin {X : Cx} : ∀ op, OpR X (binaryOp op) (rBin op)
  | .Add => op_add.or (op_add_str.or op_catR)
  | .Sub => op_sub
  | .Mult => op_mul
  | .FloorDiv => op_fdiv
  | .Mod => op_mod
  | .Pow => op_pow
  | .MatMult => fun _ _ _ _ _ _ _ _ _ _ _ _ h => h.elim
  | .Div => fun _ _ _ _ _ _ _ _ _ _ _ _ h => h.elim
  | .LShift => fun _ _ _ _ _ _ _ _ _ _ _ _ h => h.elim
  | .RShift => fun _ _ _ _ _ _ _ _ _ _ _ _ h => h.elim
  | .BitOr => fun _ _ _ _ _ _ _ _ _ _ _ _ h => h.elim
  | .BitXor => fun _ _ _ _ _ _ _ _ _ _ _ _ h => h.elim
  | .BitAnd => fun _ _ _ _ _ _ _ _ _ _ _ _ h => h.elim
def rCmp (K : PySem.W.Frag) : CmpOp → R2
  | .Eq => rOr rEq (rEqD K)
  | .NotEq => rOr rNe (rNeD K)
  | .Lt => rOr (rI0 fun i j => .bl (decide (i < j))) rLtS
  | .LtE => rI0 fun i j => .bl (decide (i ≤ j))
  | .Gt => rI0 fun i j => .bl (decide (j < i))
  | .GtE => rI0 fun i j => .bl (decide (j ≤ i))
  | .Is => rIs0
  | .IsNot => rNot0
  | .In => rOr (rIn K false) rInC
  | .NotIn => rOr (rIn K true) rNotInC
theorem op_cmp {X : Cx} (hu : X.A.units + 64 < cLine) : ∀ op, OpR X (compareOp op) (rCmp X.K op)
  | .Eq => op_eq.or (op_eqD hu)
  | .NotEq => op_ne.or (op_neD hu)
  | .Lt => op_lt.or op_lt_str
  | .LtE => op_le
  | .Gt => op_gt
  | .GtE => op_ge
  | .Is => op_isN
  | .IsNot => op_notN
  | .In => op_in_seq.or op_in_sign
  | .NotIn => op_notIn_seq.or op_notIn_sign
section
variable {g : G}
theorem bin_ok (op : Operator) : OpOk g (rBin op) (binD op) := by
  intro d e x y H Q u hx hy hf k
  cases op <;> cases d <;> cases e <;> simp only [binD, vI, reduceCtorEq] at hf <;>
    first
    | (cases hf)
    | skip
  all_goals (try (split at hf))
  all_goals (try (cases hf; done))
  case Add.int.int i j =>
    exact .inl ⟨i, j, hx.int, hy.int, k.same rfl⟩
  case Add.str.str.isTrue i j h =>
    cases hf
    exact .inr (.inl ⟨i, j, hx.str, hy.str, h, k.same rfl⟩)
  case Add.lst.lst.isTrue i j h =>
    cases hf
    obtain ⟨p, xs, e1, h1, q1⟩ := hx.lst
    obtain ⟨p2, xs2, e2, h2, q2⟩ := hy.lst
    refine .inr (.inr ⟨p, p2, xs, xs2, e1, e2, h1, h2, by rw [Reps.len q1, Reps.len q2]; exact h, fun q hq => ?_⟩)
    exact k q _ _ (same_new hq) hq upd_same (Reps.mono (Kp.of (same_new hq)) _ _ (Reps.app q1 q2))
  case Sub.int.int i j =>
    exact ⟨i, j, hx.int, hy.int, k.same rfl⟩
  case Mult.int.int.isTrue i j h =>
    cases hf
    exact ⟨i, j, hx.int, hy.int, h, k.same rfl⟩
  case FloorDiv.int.int.isTrue i j h =>
    cases hf
    exact ⟨i, j, hx.int, hy.int, h, k.same rfl⟩
  case Mod.int.int.isTrue i j h =>
    cases hf
    exact ⟨i, j, hx.int, hy.int, h, k.same rfl⟩
  case Pow.int.int.isTrue i j h =>
    cases hf
    exact ⟨i, j, hx.int, hy.int, h, k.same rfl⟩
theorem dcI (i j : Int) : decide (V.int i = V.int j) = decide (i = j) := by
  by_cases h : i = j
  · subst h; simp
  · rw [decide_eq_false h, decide_eq_false (fun z => h (V.int.inj z))]
theorem dcS (i j : Str) : decide (V.str i = V.str j) = decide (i = j) := by
  by_cases h : i = j
  · subst h; simp
  · rw [decide_eq_false h, decide_eq_false (fun z => h (V.str.inj z))]
theorem dcB (i j : Bool) : decide (V.bl i = V.bl j) = decide (i = j) := by
  by_cases h : i = j
  · subst h; simp
  · rw [decide_eq_false h, decide_eq_false (fun z => h (V.bl.inj z))]
/-- the two ways of == -/
theorem eq_two {d e : D} {x y : V} {H : Hp} {b : Bool} (hx : RepR g H d x) (hy : RepR g H e y) (h : eqD d e = some b) :
    (scal x y = true ∧ decide (x = y) = b) ∨ ∃ p q, Dp g.K H x p ∧ Dp g.K H y q ∧ SeqAt.shaped p = true ∧ SeqAt.shaped q = true ∧ PyData.eqv p q = b := by
  have gen : (match d.py, e.py with
    | some a, some b => if SeqAt.shaped a && SeqAt.shaped b then some (PyData.eqv a b) else none
    | _, _ => none) = some b → ∃ p q, Dp g.K H x p ∧ Dp g.K H y q ∧ SeqAt.shaped p = true ∧ SeqAt.shaped q = true ∧ PyData.eqv p q = b := by
    intro z
    cases e1 : d.py with
    | none => rw [e1] at z; cases z
    | some p =>
      cases e2 : e.py with
      | none => rw [e1, e2] at z; cases z
      | some q =>
        rw [e1, e2] at z
        dsimp only at z
        split at z
        · rename_i w
          rw [Bool.and_eq_true] at w
          cases z
          exact ⟨p, q, hx.dp e1, hy.dp e2, w.1, w.2, rfl⟩
        · cases z
  cases d <;> cases e <;> first
    | exact .inr (gen h)
    | skip
  case str.str i j =>
    cases hx.str; cases hy.str; cases h
    exact .inl ⟨rfl, dcS i j⟩
theorem in_two {d e : D} {x y : V} {H : Hp} {b : Bool} (hx : RepR g H d x) (hy : RepR g H e y) (h : inD d e = some b) :
    (∃ p xs, y = .ref p ∧ (SqL g.K H p xs ∨ SqT g.K H p xs) ∧ flatV x = true ∧ xs.all flatV = true ∧ inV x xs = b) ∨ ∃ (c : Nat) (z : Str), x = .str ⟨#[c]⟩ ∧ y = .str z ∧ decide (c ∈ z.cps.toList) = b := by
  have flat : d.flat = true → Rep g H d x := fun z => hx.elim id fun ⟨_, _, _, e, _⟩ => by subst e; cases z
  cases e with
  | tup es =>
    have h' : (if d.flat && es.all D.flat then some (d.isIn es) else none) = some b := by cases d <;> exact h
    split at h'
    · rename_i w
      rw [Bool.and_eq_true] at w
      obtain ⟨p, xs, e1, h1, h2⟩ := hy.tup
      cases h'
      exact .inl ⟨p, xs, e1, .inr h1, Rep.flat (flat w.1) w.1, Reps.flats h2 w.2, Reps.inV (flat w.1) w.1 h2 w.2⟩
    · cases h'
  | lst es =>
    have h' : (if d.flat && es.all D.flat then some (d.isIn es) else none) = some b := by cases d <;> exact h
    split at h'
    · rename_i w
      rw [Bool.and_eq_true] at w
      obtain ⟨p, xs, e1, h1, h2⟩ := hy.lst
      cases h'
      exact .inl ⟨p, xs, e1, .inl (.inl h1), Rep.flat (flat w.1) w.1, Reps.flats h2 w.2, Reps.inV (flat w.1) w.1 h2 w.2⟩
    · cases h'
  | str z =>
    cases d with
    | str w =>
      have h' : (match w.cps.toList with
        | [c] => some (decide (c ∈ z.cps.toList))
        | _ => none) = some b := h
      split at h'
      · rename_i c hc
        cases h'
        have : w = ⟨#[c]⟩ := by
          obtain ⟨a⟩ := w
          have : a = #[c] := by
            apply Array.toList_inj.mp
            exact hc
          rw [this]
        exact .inr ⟨c, z, by rw [hx.str, this], hy.str, rfl⟩
      · cases h'
    | _ => cases h
  | _ => cases d <;> cases h
theorem cmp_ok (op : CmpOp) : OpOk g (rCmp g.K op) (cmpD op) := by
  intro d e x y H Q u hx hy hf k
  cases op with
  | Eq =>
    cases q : eqD d e with
    | none => simp [cmpD, q] at hf
    | some b =>
      simp [cmpD, q] at hf
      subst hf
      rcases eq_two hx hy q with ⟨h1, h2⟩ | ⟨p, p2, h1, h2, h3, h4, h5⟩
      · exact .inl ⟨h1, k.same (by rw [h2]; rfl)⟩
      · exact .inr ⟨p, p2, h1, h2, h3, h4, k.same (by rw [h5]; rfl)⟩
  | NotEq =>
    cases q : eqD d e with
    | none => simp [cmpD, q] at hf
    | some b =>
      simp [cmpD, q] at hf
      subst hf
      rcases eq_two hx hy q with ⟨h1, h2⟩ | ⟨p, p2, h1, h2, h3, h4, h5⟩
      · exact .inl ⟨h1, k.same (by rw [h2]; rfl)⟩
      · exact .inr ⟨p, p2, h1, h2, h3, h4, k.same (by rw [h5]; rfl)⟩
  | In =>
    cases q : inD d e with
    | none => simp [cmpD, q] at hf
    | some b =>
      simp [cmpD, q] at hf
      subst hf
      rcases in_two hx hy q with ⟨p, xs, h1, h2, h3, h4, h5⟩ | ⟨c, z, h1, h2, h5⟩
      · exact .inl ⟨p, xs, h1, h2, h3, h4, k.same (by rw [h5]; rfl)⟩
      · exact .inr ⟨c, z, h1, h2, k.same (by rw [h5]; rfl)⟩
  | NotIn =>
    cases q : inD d e with
    | none => simp [cmpD, q] at hf
    | some b =>
      simp [cmpD, q] at hf
      subst hf
      rcases in_two hx hy q with ⟨p, xs, h1, h2, h3, h4, h5⟩ | ⟨c, z, h1, h2, h5⟩
      · exact .inl ⟨p, xs, h1, h2, h3, h4, k.same (by rw [h5]; rfl)⟩
      · exact .inr ⟨c, z, h1, h2, k.same (by rw [h5]; rfl)⟩
  | Is =>
    cases e with
    | non =>
      have hf' : (d.isNon.map fun b => U.val (.bl b)) = some u := by cases d <;> exact hf
      cases q : d.isNon with
      | none => rw [q] at hf'; cases hf'
      | some b =>
        rw [q] at hf'
        cases hf'
        exact ⟨hy.non, k.same (by rw [hx.non_iff q]; rfl)⟩
    | _ => cases d <;> cases hf
  | IsNot =>
    cases e with
    | non =>
      have hf' : (d.isNon.map fun b => U.val (.bl (!b))) = some u := by cases d <;> exact hf
      cases q : d.isNon with
      | none => rw [q] at hf'; cases hf'
      | some b =>
        rw [q] at hf'
        cases hf'
        exact ⟨hy.non, k.same (by rw [hx.non_iff q]; rfl)⟩
    | _ => cases d <;> cases hf
  | Lt =>
    cases d <;> cases e <;> first
      | (cases hf; done)
      | skip
    · cases hf; exact .inl ⟨_, _, hx.int, hy.int, k.same rfl⟩
    · cases hf; exact .inr ⟨_, _, hx.str, hy.str, k.same rfl⟩
  | LtE =>
    cases d <;> cases e <;> first
      | (cases hf; done)
      | skip
    · cases hf; exact ⟨_, _, hx.int, hy.int, k.same rfl⟩
  | Gt =>
    cases d <;> cases e <;> first
      | (cases hf; done)
      | skip
    · cases hf; exact ⟨_, _, hx.int, hy.int, k.same rfl⟩
  | GtE =>
    cases d <;> cases e <;> first
      | (cases hf; done)
      | skip
    · cases hf; exact ⟨_, _, hx.int, hy.int, k.same rfl⟩
end
end Pw

set_option Elab.async false
set_option linter.all false
set_option maxRecDepth 100000
set_option maxHeartbeats 2000000
namespace Pw
open PySem L2

/-- a piece that stays readable while others run -/
def RU0 (g : G) (σ : L2.St) (H : Hp) : U → V → Prop
  | .val d, v => Rep g H d v
  | .slot i, v => σ[i]? = some (some v)
  | .fresh _, _ => False
def RUs0 (g : G) (σ : L2.St) (H : Hp) : List U → List V → Prop
  | [], vs => vs = []
  | u :: us, vs => ∃ w ws, vs = w :: ws ∧ RU0 g σ H u w ∧ RUs0 g σ H us ws
def RZ (g : G) : RelT U V := fun _ σ _ H u v => RU0 g σ H u v
def RUs (g : G) : RelT (List U) (List V) := fun _ σ _ H us vs => RUs0 g σ H us vs
/-- what the pieces hold just now -/
def nows (r : List A) : List U → Option (List D)
  | [] => some []
  | u :: us => match u.now r, nows r us with
    | some d, some ds => some (d :: ds)
    | _, _ => none
def RepRs (g : G) (H : Hp) : List D → List V → Prop
  | [], vs => vs = []
  | d :: ds, vs => ∃ w ws, vs = w :: ws ∧ RepR g H d w ∧ RepRs g H ds ws
section
variable {g : G} {P : PX} {c : Fr0} {σ : L2.St} {H H1 : Hp} {r : List A} {u : U} {v : V} {d : D}
theorem RU.zero (h : RU g c σ r H u.fz v) : RU0 g σ H u.fz v := by
  cases u with
  | val d => exact h
  | slot i => exact h.1
  | fresh ds => exact h
theorem RU0.mono (k : Kp g H H1) (h : RU0 g σ H u v) : RU0 g σ H1 u v := by
  cases u with
  | val d => exact Rep.mono k _ _ h
  | slot i => exact h
  | fresh ds => exact h
theorem RU0.now (o : EnvOk g P c H σ r) (h : RU0 g σ H u v) (e : u.now r = some d) : RepR g H d v := by
  cases u with
  | val a => cases e; exact .inl h
  | slot i => exact slot_now o h e
  | fresh ds => exact h.elim
theorem RUs0.now (o : EnvOk g P c H σ r) : ∀ {us : List U} {vs : List V} {ds : List D}, RUs0 g σ H us vs → nows r us = some ds → RepRs g H ds vs
  | [], vs, ds, h, e => by cases e; exact h
  | u :: us, vs, ds, h, e => by
    obtain ⟨w, ws, rfl, h1, h2⟩ := h
    unfold nows at e
    cases e1 : u.now r with
    | none => rw [e1] at e; cases e
    | some d =>
      cases e2 : nows r us with
      | none => rw [e1, e2] at e; cases e
      | some ds' =>
        rw [e1, e2] at e
        cases e
        exact ⟨w, ws, rfl, h1.now o e1, RUs0.now o h2 e2⟩
end

/-! ### the reader's steps -/
def varM (i : Nat) : Mo U := fun r => match r[i]? with
  | some (.val d) => .ok (.val d) r
  | some (.own _ _) => .ok (.slot i) r
  | some (.own2 _ _) => .ok (.slot i) r
  | some (.ali _ _) => .ok (.slot i) r
  | _ => .no
def fzM (m : Mo U) : Mo U := do let u ← m; pure u.fz
def okU (r : List A) : Option U → Res U
  | some (.val d) => .ok (.val d) r
  | some (.fresh ds) => .ok (.fresh ds) r
  | _ => .no
def opM (f : D → D → Option U) (u w : U) : Mo U := fun r => match u.now r, w.now r with
  | some d, some e => okU r (f d e)
  | _, _ => .no
def cbM (f : List D → Option U) (us : List U) : Mo U := fun r => match nows r us with
  | some ds => okU r (f ds)
  | none => .no
def asB : U → Mo Bool
  | .val (.bl b) => pure b
  | _ => .none
def asI : U → Mo Int
  | .val (.int b) => pure b
  | _ => .none
def boolM (m : Mo U) : Mo Bool := do let u ← m; asB u
def intM (m : Mo U) : Mo Int := do let u ← m; asI u
def dataM (m : Mo U) : Mo D := do let u ← m; toD u
def vB' (b : Bool) : U := .val (.bl b)
def andM (a b : Mo Bool) : Mo Bool := do let x ← a; if x = true then b else pure false
def orM (a b : Mo Bool) : Mo Bool := do let x ← a; if x = true then pure true else b
def notM (a : Mo Bool) : Mo Bool := do let x ← a; pure (!x)
def iteM {α : Type} (c : Mo Bool) (a b : Mo α) : Mo α := do let x ← c; if x = true then a else b

section
variable {g : G} {W : WP} {te ta tb tc : TE} {tt tu : TT} {tA : TA} {ma mb : Mo U} {m m1 m2 : Mo Bool} {ms : Mo (List D)} {mus : Mo (List U)}
theorem ju_var (i : Nat) : J g W (RU g) (tVar i) (varM i) := fun c H σ r Q o p => by
  unfold varM at p
  cases q : r[i]? with
  | none => simp only [q] at p; exact p.elim
  | some a =>
    cases a with
    | val d =>
      simp only [q] at p
      obtain ⟨v, h1, h2⟩ := o.val i d q
      exact ⟨v, h1, p v H (Kp.refl H) o h2⟩
    | own t ds =>
      simp only [q] at p
      obtain ⟨pp, xs, h1, h2, h3, _⟩ := o.own i t ds q
      exact ⟨.ref pp, h1, p _ H (Kp.refl H) o ⟨h1, _, q, rfl⟩⟩
    | own2 t rows =>
      simp only [q] at p
      obtain ⟨pp, as, O⟩ := o.own2 i t rows q
      exact ⟨.ref pp, O.at_, p _ H (Kp.refl H) o ⟨O.at_, _, q, rfl⟩⟩
    | ali j id =>
      simp only [q] at p
      obtain ⟨t, rows, pp, as, k, ds, a, q1, q2, q3, q4, q5, q6⟩ := o.ali i j id q
      exact ⟨.ref a, q6, p _ H (Kp.refl H) o ⟨q6, _, q, rfl⟩⟩
    | un => simp only [q] at p; exact p.elim
    | exn _ _ _ => simp only [q] at p; exact p.elim
theorem ju_c {v : V} {d : D} (h : ∀ H, Rep g H d v) : J g W (RU g) (tC v) (pure (.val d)) := fun c H σ r Q o p => p.pure o (Kp.refl H) (h H)
theorem J.fzM (h : J g W (RU g) te ma) : J g W (RZ g) (tFz te) (fzM ma) := fun c H σ r Q o p =>
  show te σ H _ from h.bind o p fun v H1 u r1 k1 o1 h1 p1 => by
    cases u with
    | val d => exact .inr (p1.pure o1 (Kp.refl _) h1)
    | slot i => exact .inr (p1.pure o1 (Kp.refl _) h1.1)
    | fresh ds =>
      obtain ⟨p, xs, rfl, h2, h3, h4, h5⟩ := h1
      exact .inl ⟨p, xs, rfl, h2, fun ob => p1.pure (o1.frz h2 (.inl h4) h5) (kp_frz h2) ⟨p, xs, rfl, ⟨ob, upd_same⟩, Reps.mono (kp_frz h2) _ _ h3⟩⟩
theorem J.data (h : J g W (RU g) te ma) : J g W (RD g) (tFz te) (dataM ma) := h.toD
theorem Post.okU {c : Fr0} {σ : L2.St} {H : Hp} {r : List A} {z : Option U} {Q : VK} (p : Post g W c σ (RU g) H (okU r z) Q) (o : EnvOk g W.p c H σ r) (k : ∀ u, z = some u → OpEnd g H Q u → False) : False := by
  cases z with
  | none => exact p
  | some u =>
    cases u with
    | val d' => exact k _ rfl fun v H' s q => p v H' (Kp.of s) (o.same s) q
    | fresh ds => exact k _ rfl fun a xs H' s hn hp q => p _ H' (Kp.of s) (o.same s) ⟨a, xs, rfl, hp, q, o.new0 hn, o.freshS hn s⟩
    | slot i => exact p
theorem Post.op {c : Fr0} {σ : L2.St} {H : Hp} {r : List A} {f : D → D → Option U} {u w : U} {Q : VK} {x y : V} {r2 : R2} (p : Post g W c σ (RU g) H (opM f u w r) Q) (o : EnvOk g W.p c H σ r) (hr : OpOk g r2 f) (h1 : RU0 g σ H u x) (h2 : RU g c σ r H w y) : r2 x y H Q := by
  unfold opM at p
  cases e1 : u.now r with
  | none => simp only [e1] at p; exact p.elim
  | some d =>
    cases e2 : w.now r with
    | none => simp only [e1, e2] at p; exact p.elim
    | some e =>
      simp only [e1, e2] at p
      exact Classical.byContradiction fun no => p.okU o fun z hz q => no (hr d e x y H Q z (h1.now o e1) (RU.now o h2 e2) hz q)
/-- a built-in's answer by what the arguments hold -/
def CbOk (g : G) (r : List V → Hp → VK → Prop) (f : List D → Option U) : Prop := ∀ ds vs H (Q : VK) u, RepRs g H ds vs → f ds = some u → OpEnd g H Q u → r vs H Q
theorem Post.cb {c : Fr0} {σ : L2.St} {H : Hp} {r : List A} {f : List D → Option U} {us : List U} {Q : VK} {vs : List V} {rr : List V → Hp → VK → Prop} (p : Post g W c σ (RU g) H (cbM f us r) Q) (o : EnvOk g W.p c H σ r) (hr : CbOk g rr f) (h : RUs0 g σ H us vs) : rr vs H Q := by
  unfold cbM at p
  cases e : nows r us with
  | none => simp only [e] at p; exact p.elim
  | some ds =>
    simp only [e] at p
    exact Classical.byContradiction fun no => p.okU o fun z hz q => no (hr ds vs H Q z (h.now o e) hz q)
theorem ju_op {r2 : R2} {f : D → D → Option U} (hr : OpOk g r2 f) (ha : J g W (RU g) te ma) (hb : J g W (RU g) ta mb) : J g W (RU g) (tOp r2 (tFz te) ta) (do let x ← fzM ma; let y ← mb; opM f x y) := fun c H σ r Q o p =>
  show tFz te σ H _ from J.bind (J.fzM ha) o p fun x H1 u r1 k1 o1 h1 p1 => show ta σ H1 _ from J.bind hb o1 p1 fun y H2 w r2' k2 o2 h2 p2 => p2.op o2 hr (RU0.mono k2 h1) h2
/-! argument lists -/
theorem jz_nil : J g W (RUs g) tNil (pure []) := fun c H σ r Q o p => p.pure o (Kp.refl H) rfl
theorem RUs0.mono {σ : L2.St} {H H1 : Hp} (k : Kp g H H1) : ∀ {us : List U} {vs : List V}, RUs0 g σ H us vs → RUs0 g σ H1 us vs
  | [], _, h => h
  | u :: us, _, h => by
    obtain ⟨w, ws, rfl, h1, h2⟩ := h
    exact ⟨w, ws, rfl, h1.mono k, RUs0.mono k h2⟩
theorem jz_cons (ha : J g W (RU g) te ma) (hb : J g W (RUs g) tA mus) : J g W (RUs g) (tCons (tFz te) tA) (do let x ← fzM ma; let xs ← mus; pure (x :: xs)) := fun c H σ r Q o p =>
  show tFz te σ H _ from J.bind (J.fzM ha) o p fun x H1 u r1 k1 o1 h1 p1 => show tA σ H1 _ from J.bind hb o1 p1 fun y H2 w r2' k2 o2 h2 p2 => p2.pure o2 (Kp.refl _) ⟨x, y, rfl, RU0.mono k2 h1, h2⟩
theorem ju_cb {rr : List V → Hp → VK → Prop} {f : List D → Option U} (hr : CbOk g rr f) (hb : J g W (RUs g) tA mus) : J g W (RU g) (tCB rr tA) (do let xs ← mus; cbM f xs) := fun c H σ r Q o p =>
  show tA σ H _ from J.bind hb o p fun y H2 w r2' k2 o2 h2 p2 => p2.cb o2 hr h2
/-- data, n of them -/
def RDn (g : G) (n : Nat) : RelT (List D) (List V) := fun _ _ _ H ds vs => Reps g H ds vs ∧ ds.length = n
theorem jd_nil : J g W (RDn g 0) tNil (pure []) := fun c H σ r Q o p => p.pure o (Kp.refl H) ⟨rfl, rfl⟩
theorem jd_cons {n : Nat} (ha : J g W (RU g) te ma) (hb : J g W (RDn g n) tA ms) : J g W (RDn g (n + 1)) (tCons (tFz te) tA) (do let x ← dataM ma; let xs ← ms; pure (x :: xs)) := fun c H σ r Q o p =>
  show tFz te σ H _ from J.bind (J.data ha) o p fun x H1 u r1 k1 o1 h1 p1 => show tA σ H1 _ from J.bind hb o1 p1 fun y H2 w r2' k2 o2 h2 p2 => p2.pure o2 (Kp.refl _) ⟨⟨x, y, rfl, Rep.mono k2 _ _ h1, h2.1⟩, by rw [List.length_cons, h2.2]⟩
theorem ju_tup {n : Nat} (hn : n ≤ 1000) (h : J g W (RDn g n) tA ms) : J g W (RU g) (tTup tA) (do let xs ← ms; pure (.val (.tup xs))) := fun c H σ r Q o p =>
  show tA σ H _ from J.bind h o p fun y H2 w r2' k2 o2 h2 p2 => ⟨by
    have := Reps.len h2.1
    have : (1000 : Nat) ≤ sizeLine := by decide
    have := h2.2
    omega, fun q hq => p2.pure (o2.same (same_new hq)) (Kp.of (same_new hq)) ⟨q, y, rfl, SqT.of upd_same, Reps.mono (Kp.of (same_new hq)) _ _ h2.1⟩⟩
theorem ju_lst {n : Nat} (hn : n ≤ 1000) (h : J g W (RDn g n) tA ms) : J g W (RU g) (tLst tA) (do let xs ← ms; pure (.fresh xs)) := fun c H σ r Q o p =>
  show tA σ H _ from J.bind h o p fun y H2 w r2' k2 o2 h2 p2 => ⟨by
    have := Reps.len h2.1
    have : (1000 : Nat) ≤ sizeLine := by decide
    have := h2.2
    omega, fun q hq => p2.pure (o2.same (same_new hq)) (Kp.of (same_new hq)) ⟨q, y, rfl, upd_same, Reps.mono (Kp.of (same_new hq)) _ _ h2.1, o2.new0 hq, o2.freshS hq (same_new hq)⟩⟩
/-! tests -/
theorem asB_post {c : Fr0} {σ : L2.St} {H : Hp} {r : List A} {u : U} {v : V} {Q : Bool → Hp → Prop} (p : Post g W c σ RB H (asB u r) Q) (o : EnvOk g W.p c H σ r) (h : RU g c σ r H u v) : ∃ b, v = .bl b ∧ Q b H := by
  cases u with
  | val d =>
    cases d with
    | bl b => exact ⟨b, h, p b H (Kp.refl H) o rfl⟩
    | _ => exact p.elim
  | _ => exact p.elim
theorem jt_val (h : J g W (RU g) te ma) : J g W RB (tB te) (boolM ma) := fun c H σ r Q o p =>
  show te σ H _ from J.bind h o p fun y H2 w r2' k2 o2 h2 p2 => asB_post p2 o2 h2
theorem jt_test (h : J g W (RU g) te ma) : J g W RB (tTest te) (boolM ma) := fun c H σ r Q o p =>
  show te σ H _ from J.bind h o p fun y H2 w r2' k2 o2 h2 p2 => asB_post p2 o2 h2
theorem jt_and (h1 : J g W RB tt m1) (h2 : J g W RB tu m2) : J g W RB (tAnd tt tu) (andM m1 m2) := fun c H σ r Q o p =>
  show tt σ H _ from J.bind h1 o p fun y H2 w r2' k2 o2 hw p2 => by
    obtain rfl : w = y := hw
    cases w with
    | true => rw [if_pos rfl]; exact h2 c H2 σ r2' Q o2 p2
    | false => rw [if_neg (by decide)]; exact p2 _ _ (Kp.refl _) o2 rfl
theorem jt_or (h1 : J g W RB tt m1) (h2 : J g W RB tu m2) : J g W RB (tOr tt tu) (orM m1 m2) := fun c H σ r Q o p =>
  show tt σ H _ from J.bind h1 o p fun y H2 w r2' k2 o2 hw p2 => by
    obtain rfl : w = y := hw
    cases w with
    | true => rw [if_pos rfl]; exact p2 _ _ (Kp.refl _) o2 rfl
    | false => rw [if_neg (by decide)]; exact h2 c H2 σ r2' Q o2 p2
theorem jt_not (h1 : J g W RB tt m1) : J g W RB (tNot tt) (notM m1) := fun c H σ r Q o p =>
  show tt σ H _ from J.bind h1 o p fun y H2 w r2' k2 o2 hw p2 => by
    obtain rfl : w = y := hw
    exact p2 _ _ (Kp.refl _) o2 rfl
/-! bools as values -/
def RBV : RelT Bool V := fun _ _ _ _ b v => v = .bl b
theorem jb_of (h : J g W (RU g) te ma) : J g W RBV te (boolM ma) := fun c H σ r Q o p =>
  J.bind h o p fun y H2 w r2' k2 o2 h2 p2 => by
    cases w with
    | val d =>
      cases d with
      | bl b => exact p2 y H2 (Kp.refl _) o2 h2
      | _ => exact p2.elim
    | _ => exact p2.elim
theorem ju_b (h : J g W RBV te m) : J g W (RU g) te (do let b ← m; pure (vB' b)) := fun c H σ r Q o p =>
  J.bind h o p fun y H2 w r2' k2 o2 h2 p2 => p2.pure o2 (Kp.refl _) h2
theorem jb_and (h1 : J g W RBV te m1) (h2 : J g W RBV ta m2) : J g W RBV (tAndV te ta) (andM m1 m2) := fun c H σ r Q o p =>
  show te σ H _ from J.bind h1 o p fun y H2 w r2' k2 o2 hw p2 => by
    refine ⟨w, hw, ?_⟩
    cases w with
    | true => rw [if_pos rfl]; exact h2 c H2 σ r2' Q o2 p2
    | false => rw [if_neg (by decide)]; exact p2 _ _ (Kp.refl _) o2 rfl
theorem jb_or (h1 : J g W RBV te m1) (h2 : J g W RBV ta m2) : J g W RBV (tOrV te ta) (orM m1 m2) := fun c H σ r Q o p =>
  show te σ H _ from J.bind h1 o p fun y H2 w r2' k2 o2 hw p2 => by
    refine ⟨w, hw, ?_⟩
    cases w with
    | true => rw [if_pos rfl]; exact p2 _ _ (Kp.refl _) o2 rfl
    | false => rw [if_neg (by decide)]; exact h2 c H2 σ r2' Q o2 p2
theorem jb_not (h1 : J g W RBV te m1) : J g W RBV (tNotV te) (notM m1) := fun c H σ r Q o p =>
  show te σ H _ from J.bind h1 o p fun y H2 w r2' k2 o2 hw p2 => ⟨w, hw, p2 _ _ (Kp.refl _) o2 rfl⟩
theorem ju_ite (hc : J g W RB tt m) (ha : J g W (RU g) te ma) (hb : J g W (RU g) ta mb) : J g W (RU g) (tIf tt te ta) (iteM m ma mb) := fun c H σ r Q o p =>
  show tt σ H _ from J.bind hc o p fun y H2 w r2' k2 o2 hw p2 => by
    obtain rfl : w = y := hw
    cases w with
    | true => rw [if_pos rfl]; exact ha c H2 σ r2' Q o2 p2
    | false => rw [if_neg (by decide)]; exact hb c H2 σ r2' Q o2 p2
/-! places -/
theorem atI_reps {H : Hp} {ds : List D} {xs : List V} {d : D} {i : Int} (h : Reps g H ds xs) (hi : atI ds i = some d) : ∃ v, atI xs i = some v ∧ Rep g H d v := by
  unfold atI at hi ⊢
  rw [Reps.len h]
  cases q : ixN ds.length i with
  | none => rw [q] at hi; cases hi
  | some j =>
    rw [q] at hi
    obtain ⟨v, h1, h2⟩ := Reps.at (i := j) h hi
    exact ⟨v, h1, h2⟩
end
/-- the tables of the module -/
abbrev Tabs := Nat → List (Str × D)
def TabsOk (g : G) (w : World) (T : Tabs) : Prop := ∀ j a z d, g.tab j = some a → (T j).lookup z = some d → ∃ v, KDct g.K w a z v ∧ ∀ H, Rep g H d v
def uD : Option D → Option U
  | some d => some (.val d)
  | none => none
def ixD (T : Tabs) : D → D → Option U
  | .lst ds, .int i => uD (atI ds i)
  | .tup ds, .int i => uD (atI ds i)
  | .str x, .int i => if x.length ≤ sizeLine then (match atI x.cps.toList i with
    | some c => some (.val (.str ⟨#[c]⟩))
    | none => none) else none
  | .dic j, .str z => uD ((T j).lookup z)
  | _, _ => none
def rIxx (K : PySem.W.Frag) (w : World) : R2 := rOr (rIx K) (rIxD K w)
theorem uD_some {a : Option D} {u : U} (h : uD a = some u) : ∃ d, a = some d ∧ u = .val d := by
  cases a with
  | none => cases h
  | some d => cases h; exact ⟨d, rfl, rfl⟩
theorem ix_ok {g : G} {w : World} {T : Tabs} (hT : TabsOk g w T) : OpOk g (rIxx g.K w) (ixD T) := by
  intro d e x y H Q u hx hy hf k
  cases d <;> cases e <;> first
    | (cases hf; done)
    | skip
  case lst.int ds i =>
    obtain ⟨d, h1, rfl⟩ := uD_some hf
    obtain ⟨p, xs, rfl, h2, h3⟩ := hx.lst
    obtain ⟨v, h4, h5⟩ := atI_reps h3 h1
    exact .inl (.inl ⟨p, xs, i, v, rfl, hy.int, .inl h2, h4, k.same h5⟩)
  case tup.int ds i =>
    obtain ⟨d, h1, rfl⟩ := uD_some hf
    obtain ⟨p, xs, rfl, h2, h3⟩ := hx.tup
    obtain ⟨v, h4, h5⟩ := atI_reps h3 h1
    exact .inl (.inr (.inl ⟨p, xs, i, v, rfl, hy.int, h2, h4, k.same h5⟩))
  case str.int z i =>
    have hf' : (if z.length ≤ sizeLine then (match atI z.cps.toList i with
      | some c => some (U.val (.str ⟨#[c]⟩))
      | none => none) else none) = some u := hf
    split at hf'
    · rename_i hl
      cases q : atI z.cps.toList i with
      | none => rw [q] at hf'; cases hf'
      | some c =>
        rw [q] at hf'
        cases hf'
        exact .inl (.inr (.inr ⟨z, i, c, hx.str, hy.int, hl, q, k.same rfl⟩))
    · cases hf'
  case dic.str j z =>
    obtain ⟨d, h1, rfl⟩ := uD_some hf
    rcases hx with ⟨a, rfl, ha⟩ | ⟨_, _, _, e, _⟩
    · obtain ⟨v, h2, h3⟩ := hT j a z d ha h1
      exact .inr ⟨a, z, v, rfl, hy.str, h2, k.same (h3 H)⟩
    · cases e
theorem ix_all {X : Cx} : IxR X (rIxx X.K X.w) := ix_seq.or ix_kdict
end Pw

set_option Elab.async false
set_option linter.all false
set_option maxRecDepth 100000
set_option maxHeartbeats 2000000
namespace Pw
open PySem L2

/-! ### isinstance -/
inductive Ty where
  | int | bool | str | list | tuple | dict
def Ty.name : Ty → String
  | .int => "int"
  | .bool => "bool"
  | .str => "str"
  | .list => "list"
  | .tuple => "tuple"
  | .dict => "dict"
def Ty.nameS : Ty → Str
  | .int => "int"
  | .bool => "bool"
  | .str => "str"
  | .list => "list"
  | .tuple => "tuple"
  | .dict => "dict"
/-- the built-in type of plain data, of its own names -/
inductive Tn where
  | non | bool | int | str | list | tuple
def Tn.name : Tn → String
  | .non => "NoneType"
  | .bool => "bool"
  | .int => "int"
  | .str => "str"
  | .list => "list"
  | .tuple => "tuple"
def D.tn : D → Option Tn
  | .non => some .non
  | .bl _ => some .bool
  | .int _ => some .int
  | .str _ => some .str
  | .lst _ => some .list
  | .tup _ => some .tuple
  | _ => none
def Tn.is : Tn → Ty → Bool
  | .int, .int => true
  | .bool, .int => true
  | .bool, .bool => true
  | .str, .str => true
  | .list, .list => true
  | .tuple, .tuple => true
  | _, _ => false
/-- what is known of own classes: is an object of class C of the type; is plain data of the class -/
structure IsT where
  ob : Str → Ty → Option Bool
  oc : Str → Str → Option Bool
def isTy (S : IsT) : D → Ty → Option Bool
  | .obj C _ _, t => S.ob C t
  | d, t => d.tn.map fun a => a.is t
def isOwn (S : IsT) : D → Str → Option Bool
  | .obj C _ _, t => S.oc C t
  | .dic _, _ => none
  | .kls _, _ => none
  | .opq, _ => none
  | _, _ => some false
theorem Tn.kit (K : PySem.W.Frag) (a : Tn) (t : Ty) : PySem.W.kitOne K (.type a.name) (.type t.name) = some (a.is t) := by
  cases a <;> cases t <;> exact kit_ty (by decide +kernel)
theorem RepR.tyx {g : G} {H : Hp} {d : D} {v : V} {a : Tn} (h : RepR g H d v) (e : d.tn = some a) : TyX g.K H v (.type a.name) := by
  cases d with
  | non => cases e; rw [h.non]; exact .base .non
  | bl b => cases e; rw [h.bl]; exact .base (.bl b)
  | int i => cases e; rw [h.int]; exact .base (.int i)
  | str x => cases e; rw [h.str]; exact .base (.str x)
  | lst ds =>
    cases e
    obtain ⟨p, xs, rfl, h1, _⟩ := h.lst
    rcases h1 with h1 | ⟨o, h1⟩
    · exact .base (.lst h1)
    · exact .base (.frz h1)
  | tup ds =>
    cases e
    obtain ⟨p, xs, rfl, h1, _⟩ := h.tup
    rcases h1 with (h1 | ⟨o, h1⟩) | ⟨o, its, n, h1, h2, _⟩
    · exact .base (.tup h1)
    · exact .fTuple h1
    · exact .kTuple h1 h2
  | _ => cases e
/-- a class as isinstance takes its objects -/
structure ClsI (K : PySem.W.Frag) (C : Addr) : Prop where
  cl : Cls K C
  ha : PySem.W.findIn K (.ref C) "__class__" = some (some (.builtin "object.__class__"))
  hn : PySem.W.specialIn K (.builtin "object.__class__") "__get__" = some (some (.builtin "getset_descriptor.__get__"))
  htk : PySem.W.takesIn K (.builtin "object.__class__") = some true
  hm : PySem.W.mroIn K C (.type "object") = some true
structure IsOk (g : G) (S : IsT) : Prop where
  ob : ∀ C t b, S.ob C t = some b → ClsI g.K (He.ga g.K C) ∧ PySem.W.kitOne g.K (.ref (He.ga g.K C)) (.type t.name) = some b
  oc : ∀ C D b, S.oc C D = some b → ClsI g.K (He.ga g.K C) ∧ PySem.W.kitOne g.K (.ref (He.ga g.K C)) (.ref (He.ga g.K D)) = some b
/-- the question asked of what stands there -/
def isM (f : D → Option Bool) (u : U) : Mo U := fun r => match u.now r with
  | some d => (match f d with
    | some b => .ok (.val (.bl b)) r
    | none => .no)
  | none => .no
section
variable {g : G} {W : WP} {S : IsT} {te ta tb : TE} {ma mb : Mo U} {tA : TA} {mus : Mo (List U)}
theorem Post.is {c : Fr0} {σ : L2.St} {H : Hp} {r : List A} {f : D → Option Bool} {u : U} {x : V} {Q : VK} (p : Post g W c σ (RU g) H (isM f u r) Q) (o : EnvOk g W.p c H σ r) (h : RU0 g σ H u x) : ∃ d b, RepR g H d x ∧ f d = some b ∧ Q (.bl b) H := by
  unfold isM at p
  cases e : u.now r with
  | none => simp only [e] at p; exact p.elim
  | some d =>
    cases e2 : f d with
    | none => simp only [e, e2] at p; exact p.elim
    | some b =>
      simp only [e, e2] at p
      exact ⟨d, b, h.now o e, e2, p _ H (Kp.refl H) o rfl⟩
theorem ju_isTy (hS : IsOk g S) (t : Ty) (ha : J g W (RU g) te ma) : J g W (RU g) (tCB (rIsi g.K) (tCons (tFz te) (tCons (tC (.ty t.name)) tNil))) (do let x ← fzM ma; isM (fun d => isTy S d t) x) := fun c H σ r Q o p =>
  show tFz te σ H _ from J.bind (J.fzM ha) o p fun x H1 u r1 k1 o1 h1 p1 => by
    obtain ⟨d, b, hd, hf, q⟩ := p1.is o1 h1
    refine ⟨x, .ty t.name, ?_⟩
    cases hd2 : d.tn with
    | some a =>
      have : a.is t = b := by
        cases d <;> first
          | (cases hd2; done)
          | skip
        all_goals
          have hf' := hf
          simp only [isTy, hd2, Option.map_some, Option.some.injEq] at hf'
          exact hf'
      exact ⟨.type a.name, .type t.name, b, rfl, .ty _, hd.tyx hd2, by rw [Tn.kit, this], q⟩
    | none =>
      cases d with
      | obj C ns ds =>
        obtain ⟨z, k⟩ := hS.ob C t b hf
        rcases hd with ⟨a, dx, xs, rfl, h2, _⟩ | ⟨_, _, _, e, _⟩
        · exact ⟨_, _, b, rfl, .ty _, .base (.ins h2 z.cl z.ha z.hn z.htk z.hm), k, q⟩
        · cases e
      | dic j => cases hf
      | kls j => cases hf
      | opq => cases hf
      | _ => cases hd2
/-- a class as no built-in type's base: what kitOne says of plain data -/
structure OwnOk (K : PySem.W.Frag) (C : Addr) : Prop where
  no : ∀ a : Tn, PySem.W.kitOne K (.type a.name) (.ref C) = some false
theorem ju_isOwn (hS : IsOk g S) (D : Str) (hD : OwnOk g.K (He.ga g.K D)) (ha : J g W (RU g) te ma) : J g W (RU g) (tCB (rIsi g.K) (tCons (tFz te) (tCons (tC (.ref (He.ga g.K D))) tNil))) (do let x ← fzM ma; isM (fun d => isOwn S d D) x) := fun c H σ r Q o p =>
  show tFz te σ H _ from J.bind (J.fzM ha) o p fun x H1 u r1 k1 o1 h1 p1 => by
    obtain ⟨d, b, hd, hf, q⟩ := p1.is o1 h1
    refine ⟨x, .ref (He.ga g.K D), ?_⟩
    cases hd2 : d.tn with
    | some a =>
      have : b = false := by
        cases d <;> first
          | (cases hd2; done)
          | (cases hf; rfl)
      subst this
      exact ⟨.type a.name, .ref (He.ga g.K D), false, rfl, .own _, hd.tyx hd2, hD.no a, q⟩
    | none =>
      cases d with
      | obj C ns ds =>
        obtain ⟨z, k⟩ := hS.oc C D b hf
        rcases hd with ⟨a, dx, xs, rfl, h2, _⟩ | ⟨_, _, _, e, _⟩
        · exact ⟨_, _, b, rfl, .own _, .base (.ins h2 z.cl z.ha z.hn z.htk z.hm), k, q⟩
        · cases e
      | dic j => cases hf
      | kls j => cases hf
      | opq => cases hf
      | _ => cases hd2

/-! ### built-ins -/
inductive Bi where
  | len | int | list | tuple | str
def Bi.nm : Bi → Str
  | .len => "len"
  | .int => "int"
  | .list => "list"
  | .tuple => "tuple"
  | .str => "str"
def biF : Bi → List D → Option U
  | .len, [.lst ds] => vI ds.length
  | .len, [.tup ds] => vI ds.length
  | .len, [.str x] => if x.length ≤ sizeLine then vI x.length else none
  | .int, [.int i] => vI i
  | .int, [.bl b] => vI (if b then 1 else 0)
  | .list, [.lst ds] => some (.fresh ds)
  | .list, [.tup ds] => some (.fresh ds)
  | .list, [.kls ds] => some (.fresh ds)
  | .tuple, [.lst ds] => some (.val (.tup ds))
  | .tuple, [.tup ds] => some (.val (.tup ds))
  | .str, [.int i] => if i.natAbs.log2 < 1920 then some (.val (.str (toString i))) else none
  | _, _ => none
def rInt1 : List V → Hp → VK → Prop := fun xs H Q => (∃ i, xs = [.int i] ∧ Q (.int i) H) ∨ ∃ k, xs = [.bl k] ∧ Q (.int (if k then 1 else 0)) H
def rListS (K : PySem.W.Frag) : List V → Hp → VK → Prop := fun xs H Q => ∃ p ys, xs = [.ref p] ∧ (SqL K H p ys ∨ SqT K H p ys) ∧ ∀ l, H l = none → Q (.ref l) (upd H l (.lst ys))
def rTupS (K : PySem.W.Frag) : List V → Hp → VK → Prop := fun xs H Q => ∃ p ys, xs = [.ref p] ∧ ((SqL K H p ys ∧ ∀ l, H l = none → Q (.ref l) (upd H l (.tup ys))) ∨ (SqT K H p ys ∧ Q (.ref p) H))
def rStrI : List V → Hp → VK → Prop := fun xs H Q => ∃ i : Int, xs = [.int i] ∧ i.natAbs.log2 < 1920 ∧ Q (.str (toString i)) H
def rBi (K : PySem.W.Frag) : Bi → List V → Hp → VK → Prop
  | .len => rLen K
  | .int => rInt1
  | .list => rListS K
  | .tuple => rTupS K
  | .str => rStrI
theorem RepRs.one {H : Hp} {d : D} {vs : List V} (h : RepRs g H [d] vs) : ∃ v, vs = [v] ∧ RepR g H d v := by
  obtain ⟨w, ws, rfl, h1, h2⟩ := h
  cases h2
  exact ⟨w, rfl, h1⟩
theorem bi_ok (b : Bi) : CbOk g (rBi g.K b) (biF b) := by
  intro ds vs H Q u hr hf k
  cases ds with
  | nil => cases b <;> cases hf
  | cons d ds =>
    cases ds with
    | cons e es => cases b <;> cases d <;> cases hf
    | nil =>
      obtain ⟨v, rfl, h⟩ := hr.one
      cases b with
      | len =>
        cases d with
        | lst ds =>
          cases hf
          obtain ⟨p, xs, rfl, h1, h2⟩ := h.lst
          exact ⟨_, ds.length, rfl, .inl ⟨xs, .inl h1, (Reps.len h2).symm⟩, k.same rfl⟩
        | tup ds =>
          cases hf
          obtain ⟨p, xs, rfl, h1, h2⟩ := h.tup
          exact ⟨_, ds.length, rfl, .inr ⟨xs, h1, (Reps.len h2).symm⟩, k.same rfl⟩
        | str x =>
          have hf' : (if x.length ≤ sizeLine then vI x.length else none) = some u := hf
          split at hf'
          · rename_i hl
            cases hf'
            rw [h.str]
            exact ⟨_, x.length, rfl, ⟨hl, rfl⟩, k.same rfl⟩
          · cases hf'
        | _ => cases hf
      | int =>
        cases d with
        | int i => cases hf; rw [h.int]; exact .inl ⟨i, rfl, k.same rfl⟩
        | bl i => cases hf; rw [h.bl]; exact .inr ⟨i, rfl, k.same rfl⟩
        | _ => cases hf
      | list =>
        cases d with
        | lst ds =>
          cases hf
          obtain ⟨p, xs, rfl, h1, h2⟩ := h.lst
          exact ⟨p, xs, rfl, .inl (.inl h1), fun l hl => k l _ _ (same_new hl) hl upd_same (Reps.mono (Kp.of (same_new hl)) _ _ h2)⟩
        | tup ds =>
          cases hf
          obtain ⟨p, xs, rfl, h1, h2⟩ := h.tup
          exact ⟨p, xs, rfl, .inr h1, fun l hl => k l _ _ (same_new hl) hl upd_same (Reps.mono (Kp.of (same_new hl)) _ _ h2)⟩
        | kls ds =>
          cases hf
          rcases h with ⟨p, xs, rfl, h1, h2⟩ | ⟨_, _, _, e, _⟩
          · exact ⟨p, xs, rfl, .inl h1.sq, fun l hl => k l _ _ (same_new hl) hl upd_same (Reps.mono (Kp.of (same_new hl)) _ _ h2)⟩
          · cases e
        | _ => cases hf
      | tuple =>
        cases d with
        | lst ds =>
          cases hf
          obtain ⟨p, xs, rfl, h1, h2⟩ := h.lst
          exact ⟨p, xs, rfl, .inl ⟨.inl h1, fun l hl => k _ _ (same_new hl) ⟨l, xs, rfl, SqT.of upd_same, Reps.mono (Kp.of (same_new hl)) _ _ h2⟩⟩⟩
        | tup ds =>
          cases hf
          obtain ⟨p, xs, rfl, h1, h2⟩ := h.tup
          exact ⟨p, xs, rfl, .inr ⟨h1, k.same ⟨p, xs, rfl, h1, h2⟩⟩⟩
        | _ => cases hf
      | str =>
        cases d with
        | int i =>
          have hf' : (if i.natAbs.log2 < 1920 then some (U.val (.str (toString i))) else none) = some u := hf
          split at hf'
          · rename_i hl
            cases hf'
            rw [h.int]
            exact ⟨i, rfl, hl, k.same rfl⟩
          · cases hf'
        | _ => cases hf
theorem ju_bi (b : Bi) (h : J g W (RUs g) tA mus) : J g W (RU g) (tCB (rBi g.K b) tA) (do let xs ← mus; cbM (biF b) xs) := ju_cb (bi_ok b) h

/-! ### slices -/
def ROI : RelT (Option Int) (Option Int) := fun _ _ _ _ a b => a = b
def optI (m : Mo U) : Mo (Option Int) := do let u ← m; match u with
  | .val (.int i) => pure (some i)
  | _ => .none
theorem jo_none : J g W ROI tNoPart (pure Option.none) := fun c H σ r Q o p => p.pure o (Kp.refl H) rfl
theorem jo_some (h : J g W (RU g) te ma) : J g W ROI (tPart te) (optI ma) := fun c H σ r Q o p =>
  show te σ H _ from J.bind h o p fun x H1 u r1 k1 o1 h1 p1 => by
    cases u with
    | val d =>
      cases d with
      | int i => exact ⟨i, h1, p1 _ H1 (Kp.refl _) o1 rfl⟩
      | _ => exact p1.elim
    | _ => exact p1.elim
def cutD (ds : List D) (lo hi : Option Int) : List D := (ds.drop (HT.sIx ds.length 0 lo)).take (HT.sIx ds.length ds.length hi - HT.sIx ds.length 0 lo)
theorem Reps.cut {H : Hp} {ds : List D} {xs : List V} (h : Reps g H ds xs) (lo hi : Option Int) : Reps g H (cutD ds lo hi) (cutV xs lo hi) := by
  unfold cutD cutV
  rw [Reps.len h]
  exact Reps.take _ (Reps.drop _ h)
def slD : D → Option Int → Option Int → Option U
  | .lst ds, lo, hi => some (.fresh (cutD ds lo hi))
  | .str x, lo, hi => if x.length ≤ sizeLine then some (.val (.str (cutS x lo hi))) else none
  | _, _, _ => none
def slM (u : U) (lo hi : Option Int) : Mo U := fun r => match u.now r with
  | some d => okU r (slD d lo hi)
  | none => .no
def rSlc (K : PySem.W.Frag) : V → Option Int → Option Int → Hp → VK → Prop := fun x lo hi H Q => rSlL K x lo hi H Q ∨ rSlS x lo hi H Q
theorem ju_slc {tl th : TO} {ml mh : Mo (Option Int)} (ha : J g W (RU g) te ma) (hl : J g W ROI tl ml) (hh : J g W ROI th mh) : J g W (RU g) (tSl (rSlc g.K) (tFz te) tl th) (do let x ← fzM ma; let lo ← ml; let hi ← mh; slM x lo hi) := fun c H σ r Q o p =>
  show tFz te σ H _ from J.bind (J.fzM ha) o p fun x H1 u r1 k1 o1 h1 p1 => show tl σ H1 _ from J.bind hl o1 p1 fun lo H2 lo' r2 k2 o2 h2 p2 => show th σ H2 _ from J.bind hh o2 p2 fun hi H3 hi' r3 k3 o3 h3 p3 => by
    obtain rfl : lo' = lo := h2
    obtain rfl : hi' = hi := h3
    have p4 : Post g W c σ (RU g) H3 (slM u lo' hi' r3) Q := p3
    unfold slM at p4
    cases e : u.now r3 with
    | none => simp only [e] at p4; exact p4.elim
    | some d =>
      simp only [e] at p4
      refine Classical.byContradiction fun no => p4.okU o3 fun z hz q => no ?_
      have hd := RU0.now o3 (RU0.mono (k2.trans k3) h1) e
      cases d with
      | lst ds =>
        cases hz
        obtain ⟨a, xs, rfl, h4, h5⟩ := hd.lst
        exact .inl ⟨a, xs, rfl, .inl h4, fun n hn => q n _ _ (same_new hn) hn upd_same (Reps.mono (Kp.of (same_new hn)) _ _ (Reps.cut h5 _ _))⟩
      | str y =>
        have hz' : (if y.length ≤ sizeLine then some (U.val (.str (cutS y lo' hi'))) else none) = some z := hz
        split at hz'
        · rename_i hl
          cases hz'
          exact .inr ⟨y, hd.str, hl, q.same rfl⟩
        · cases hz'
      | _ => cases hz
end
theorem sl_all {X : Cx} : SlR X (rSlc X.K) := sl_list.or sl_str
end Pw

set_option Elab.async false
set_option linter.all false
set_option maxRecDepth 100000
set_option maxHeartbeats 2000000
namespace Pw
open PySem L2

/-! ### statements -/
inductive Fl where
  | nx | rt (u : U) | bk | ct
section
variable (g : G) (W : WP) (c : Fr0)
def PostS (H : Hp) (m : Res Fl) (Dn : Ends) : Prop :=
  match m with
  | .no => False
  | .ok .nx r => ∀ σ' H', Kp g H H' → EnvOk g W.p c H' σ' r → Dn.nx σ' H'
  | .ok (.rt u) r => ∀ v σ' H', Kp g H H' → EnvOk g W.p c H' σ' r → RU g c σ' r H' u v → Dn.rt v H'
  | .ok .bk r => ∀ σ' H', Kp g H H' → EnvOk g W.p c H' σ' r → Dn.bk σ' H'
  | .ok .ct r => ∀ σ' H', Kp g H H' → EnvOk g W.p c H' σ' r → Dn.ct σ' H'
  | .ex e r => ∀ x xs σ' H', Kp g H H' → EnvOk g W.p c H' σ' r → H' x = some (.xd (e.ns.zip xs)) → xs.length = e.ns.length → Reps g H' e.ds xs → W.w (.ref (He.ga g.K e.cls)) (some x) σ' H'
end
def JS (g : G) (W : WP) (t : TS) (m : Mo Fl) : Prop := ∀ c H σ r Dn, EnvOk g W.p c H σ r → PostS g W c H (m r) Dn → t Dn σ H
section
variable {g : G} {W : WP} {c : Fr0} {σ : L2.St} {H H1 : Hp} {r : List A} {Dn : Ends}
theorem PostS.go {m : Res Fl} (h : PostS g W c H m Dn) (k : Kp g H H1) : PostS g W c H1 m Dn := by
  cases m with
  | no => exact h
  | ok a r =>
    cases a with
    | nx => exact fun σ' H' k' => h σ' H' (k.trans k')
    | rt u => exact fun v σ' H' k' => h v σ' H' (k.trans k')
    | bk => exact fun σ' H' k' => h σ' H' (k.trans k')
    | ct => exact fun σ' H' k' => h σ' H' (k.trans k')
  | ex e r => exact fun x xs σ' H' k' => h x xs σ' H' (k.trans k')
/-- an expression ahead of a statement's end -/
theorem J.bindS {α β : Type} {R : RelT α β} {t : L2.St → Hp → (β → Hp → Prop) → Prop} {m : Mo α} {f : α → Mo Fl} {Q : β → Hp → Prop} (h : J g W R t m) (o : EnvOk g W.p c H σ r) (p : PostS g W c H ((m >>= f) r) Dn)
    (k : ∀ v H1 a r1, Kp g H H1 → EnvOk g W.p c H1 σ r1 → R c σ r1 H1 a v → PostS g W c H1 (f a r1) Dn → Q v H1) : t σ H Q := by
  refine h c H σ r Q o ?_
  have p' : PostS g W c H (Mo.bind m f r) Dn := p
  unfold Mo.bind at p'
  cases e : m r with
  | no => rw [e] at p'; exact p'
  | ok a r1 =>
    rw [e] at p'
    exact fun v H' k' o' q => k v H' a r1 k' o' q (p'.go k')
  | ex er r1 =>
    rw [e] at p'
    exact fun x xs H' k' o' => p' x xs σ H' k' o'
end
def seqM (a b : Mo Fl) : Mo Fl := do
  let f ← a
  match f with
  | .nx => b
  | f => pure f
section
variable {g : G} {W : WP} {t u : TS} {m m1 m2 : Mo Fl} {te ta tb : TE} {ma mb : Mo U} {tt : TT} {mt : Mo Bool}
theorem js_seq (h1 : JS g W t m1) (h2 : JS g W u m2) : JS g W (tSeq t u) (seqM m1 m2) := fun c H σ r Dn o p => by
  refine h1 c H σ r { Dn with nx := u Dn } o ?_
  have p' : PostS g W c H (Mo.bind m1 (fun f => match f with
    | .nx => m2
    | f => pure f) r) Dn := p
  unfold Mo.bind at p'
  cases e : m1 r with
  | no => rw [e] at p'; exact p'
  | ok a r1 =>
    rw [e] at p'
    cases a with
    | nx => exact fun σ' H' k o' => h2 c H' σ' r1 Dn o' (p'.go k)
    | rt u => exact p'
    | bk => exact p'
    | ct => exact p'
  | ex er r1 => rw [e] at p'; exact p'
theorem js_next : JS g W tNext (pure .nx) := fun c H σ r Dn o p => p σ H (Kp.refl H) o
theorem js_brk : JS g W tBreak (pure .bk) := fun c H σ r Dn o p => p σ H (Kp.refl H) o
theorem js_cont : JS g W tCont (pure .ct) := fun c H σ r Dn o p => p σ H (Kp.refl H) o
/-- what leaves a def: data, or a list just made -/
def retU (u : U) : Mo U := match u with
  | .slot i => do let d ← toD (.slot i); pure (.val d)
  | u => pure u
theorem J.noslot (h : J g W (RU g) te ma) : J g W (RU g) (tFz te) (do let u ← ma; retU u) := fun c H σ r Q o p =>
  show te σ H _ from h.bind o p fun v H1 u r1 k1 o1 h1 p1 => by
    cases u with
    | val d => exact .inr (p1.pure o1 (Kp.refl _) h1)
    | slot i =>
      have p2 : Post g W c σ (RU g) H1 (Mo.bind (Pw.toD (.slot i)) (fun d => pure (.val d)) r1) Q := p1
      unfold Mo.bind Pw.toD at p2
      obtain ⟨h2, a, h3, _⟩ := h1
      cases a with
      | own t ds =>
        obtain ⟨p, xs, h4, h5, h6, _⟩ := o1.own i t ds h3
        have : v = .ref p := by rw [h4] at h2; cases h2; rfl
        subst this
        refine .inl ⟨p, xs, rfl, h5, fun ob => ?_⟩
        obtain ⟨o2, k2, q2⟩ := o1.freeze (ob := ob) h3 h4 h5
        simp only [h3] at p2
        exact p2 _ _ k2 o2 q2
      | _ => simp only [h3] at p2; exact p2.elim
    | fresh ds => exact .inr (p1.pure o1 (Kp.refl _) h1)
theorem js_ret (h : J g W (RU g) te ma) : JS g W (tRet (tFz te)) (do let u ← (do let u ← ma; retU u); pure (.rt u)) := fun c H σ r Dn o p =>
  show tFz te σ H _ from J.bindS (J.noslot h) o p fun v H1 u r1 k1 o1 h1 p1 => p1 v σ H1 (Kp.refl _) o1 h1
theorem js_retN : JS g W tRetN (pure (.rt (.val .non))) := fun c H σ r Dn o p => p .non σ H (Kp.refl H) o rfl
theorem js_exp (h : J g W (RU g) te ma) : JS g W (tDrop te) (do let _ ← ma; pure .nx) := fun c H σ r Dn o p =>
  show te σ H _ from J.bindS h o p fun v H1 u r1 k1 o1 h1 p1 => p1 σ H1 (Kp.refl _) o1
theorem js_if (hc : J g W RB tt mt) (h1 : JS g W t m1) (h2 : JS g W u m2) : JS g W (tIfS tt t u) (iteM mt m1 m2) := fun c H σ r Dn o p =>
  show tt σ H _ from J.bindS hc o p fun y H2 w r2' k2 o2 hw p2 => by
    obtain rfl : w = y := hw
    cases w with
    | true => rw [if_pos rfl]; exact h1 c H2 σ r2' Dn o2 p2
    | false => rw [if_neg (by decide)]; exact h2 c H2 σ r2' Dn o2 p2
/-- name = e -/
def okSet (r : List A) (i : Nat) : Bool := match r[i]? with
  | some (.own2 _ _) => false
  | _ => true
theorem okSet_ne {r : List A} {i : Nat} (h : okSet r i = true) (t : Nat) (rows : List (Nat × List D)) : r[i]? ≠ some (.own2 t rows) := fun z => by
  unfold okSet at h
  simp only [z] at h
  cases h
def putM (i : Nat) (u : U) : Mo Fl := fun r => if okSet r i = true then (match u with
  | .val d => .ok .nx (r.set i (.val d))
  | .fresh ds => .ok .nx (r.set i (.own 0 ds))
  | .slot _ => .no) else .no
theorem js_set (i : Nat) (h : J g W (RU g) te ma) : JS g W (tAsg (tFz te) (gName i)) (do let u ← (do let u ← ma; retU u); putM i u) := fun c H σ r Dn o p =>
  show tFz te σ H _ from J.bindS (J.noslot h) o p fun v H1 u r1 k1 o1 h1 p1 => by
    have p2 : PostS g W c H1 (putM i u r1) Dn := p1
    unfold putM at p2
    split at p2
    · rename_i hok
      cases u with
      | val d => exact p2 _ H1 (Kp.refl _) (o1.set i (okSet_ne hok) h1)
      | fresh ds =>
        obtain ⟨p, xs, rfl, h2, h3, h4, h5⟩ := h1
        exact p2 _ H1 (Kp.refl _) (o1.setOwn i (okSet_ne hok) h2 h3 h4 h5)
      | slot j => exact p2.elim
    · exact p2.elim
/-- xs.append(e) -/
def appM (i : Nat) (d : D) : Mo Fl := fun r => match r[i]? with
  | some (.own t ds) => if ds.length < 1000000 then .ok .nx (r.set i (.own t (ds ++ [d]))) else .no
  | _ => .no
theorem js_app (i : Nat) (h : J g W (RU g) te ma) : JS g W (tDrop (tBM g.K "list" rAppend (tVar i) (tCons (tFz te) tNil))) (fun r => match r[i]? with
    | some (.own _ _) => (do let d ← dataM ma; appM i d : Mo Fl) r
    | _ => .no) := fun c H σ r Dn o p => by
  cases e : r[i]? with
  | none => simp only [e] at p; exact p.elim
  | some a =>
    cases a with
    | own t ds =>
      simp only [e] at p
      obtain ⟨q, xs, h1, h2, h3, _⟩ := o.own i t ds e
      refine ⟨.ref q, h1, .inl ⟨rfl, xs, SqL.of h2⟩, ?_⟩
      refine show tFz te σ H _ from J.bindS (J.data h) o p fun v H1 d r1 k1 o1 r' p1 => ?_
      have p2 : PostS g W c H1 (appM i d r1) Dn := p1
      unfold appM at p2
      cases e1 : r1[i]? with
      | none => simp only [e1] at p2; exact p2.elim
      | some a =>
        cases a with
        | own t' es =>
          simp only [e1] at p2
          split at p2
          · rename_i hz
            obtain ⟨q', ys, g1, g2, g3, _⟩ := o1.own i t' es e1
            have : q' = q := by rw [h1] at g1; cases g1; rfl
            subst this
            refine ⟨q', ys, v, rfl, rfl, g2, ?_, ?_⟩
            · rw [Reps.len g3]
              exact Nat.lt_trans hz (by decide)
            · have kp : Kp g H1 (upd H1 q' (.lst (ys ++ [v]))) := fun b ob hb hi => by
                rw [upd_ne (fun z => by subst z; rw [g2] at hb; cases hb; cases hi)]
                exact hb
              obtain ⟨o2, k2⟩ := o1.upd i (H' := upd H1 q' (.lst (ys ++ [v]))) (ds' := es ++ [d]) e1 g1 (fun b ob hb hn => by rw [upd_ne hn]; exact hb) upd_same (Reps.app (Reps.mono kp _ _ g3) (Reps.one (Rep.mono kp _ _ r')))
              exact p2 _ _ k2 o2
          · exact p2.elim
        | _ => simp only [e1] at p2; exact p2.elim
    | _ => simp only [e] at p; exact p.elim
/-- xs[k] = e -/
def setM (i : Nat) (d : D) (n : Int) : Mo Fl := fun r => match r[i]? with
  | some (.own t ds) => (match ixN ds.length n with
    | some q => .ok .nx (r.set i (.own t (ds.set q d)))
    | none => .no)
  | _ => .no
theorem js_setI (i : Nat) (h : J g W (RU g) te ma) (hk : J g W (RU g) tb mb) : JS g W (tAsg (tFz te) (gSub (tVar i) tb rSetL)) (do let d ← dataM ma; (fun r => match r[i]? with
    | some (.own _ _) => (do let n ← intM mb; setM i d n : Mo Fl) r
    | _ => .no)) := fun c H σ r Dn o p => by
  refine show tFz te σ H _ from J.bindS (J.data h) o p fun v H1 d r1 k1 o1 r' p1 => ?_
  have p1' : PostS g W c H1 ((match r1[i]? with
    | some (.own _ _) => (do let n ← intM mb; setM i d n : Mo Fl) r1
    | _ => .no)) Dn := p1
  cases e : r1[i]? with
  | none => simp only [e] at p1'; exact p1'.elim
  | some a =>
    cases a with
    | own t ds =>
      simp only [e] at p1'
      obtain ⟨q, xs, h1, h2, h3, _⟩ := o1.own i t ds e
      refine ⟨.ref q, h1, ?_⟩
      have hn : J g W (fun _ _ _ _ (n : Int) (v : V) => v = .int n) tb (intM mb) := fun c H σ r Q o p => J.bind hk o p fun y H2 w r2' k2 o2 h2 p2 => by
        cases w with
        | val d =>
          cases d with
          | int n => exact p2 y H2 (Kp.refl _) o2 h2
          | _ => exact p2.elim
        | _ => exact p2.elim
      refine show tb σ H1 _ from J.bindS hn o1 p1' fun w H2 n r2 k2 o2 hw p2 => ?_
      have p3 : PostS g W c H2 (setM i d n r2) Dn := p2
      unfold setM at p3
      cases e1 : r2[i]? with
      | none => simp only [e1] at p3; exact p3.elim
      | some a =>
        cases a with
        | own t' es =>
          simp only [e1] at p3
          cases hq : ixN es.length n with
          | none => rw [hq] at p3; exact p3.elim
          | some k =>
            rw [hq] at p3
            obtain ⟨q', ys, g1, g2, g3, _⟩ := o2.own i t' es e1
            have : q' = q := by rw [h1] at g1; cases g1; rfl
            subst this
            refine ⟨q', ys, n, k, rfl, hw, g2, by rw [Reps.len g3]; exact hq, ?_⟩
            have kp : Kp g H2 (upd H2 q' (.lst (ys.set k v))) := fun b ob hb hi => by
              rw [upd_ne (fun z => by subst z; rw [g2] at hb; cases hb; cases hi)]
              exact hb
            obtain ⟨o3, k3⟩ := o2.upd i (H' := upd H2 q' (.lst (ys.set k v))) (ds' := es.set k d) e1 g1 (fun b ob hb hn => by rw [upd_ne hn]; exact hb) upd_same (Reps.set k (Reps.mono kp _ _ g3) (Rep.mono (k2.trans kp) _ _ r'))
            exact p3 _ _ k3 o3
        | _ => simp only [e1] at p3; exact p3.elim
    | _ => simp only [e] at p1'; exact p1'.elim
end

/-! ### targets, walks, loops -/
inductive Tg where
  | name (i : Nat) | tup (is : List Nat)
def sets : List Nat → List D → List A → Option (List A)
  | i :: is, d :: ds, r => if okSet r i = true then sets is ds (r.set i (.val d)) else none
  | _, _, r => some r
def tgF : Tg → D → List A → Option (List A)
  | .name i, d, r => if okSet r i = true then some (r.set i (.val d)) else none
  | .tup is, .tup ds, r => if is.length = ds.length then sets is ds r else none
  | _, _, _ => none
def gNs : List Nat → TGs
  | [] => gNil
  | i :: is => gCons (gName i) (gNs is)
def tgT (K : PySem.W.Frag) : Tg → TG
  | .name i => gName i
  | .tup is => gTup K is.length (gNs is)
section
variable {g : G} {P : PX} {c : Fr0} {σ : L2.St} {H : Hp} {r r' : List A}
theorem sets_ok : ∀ {is : List Nat} {ds : List D} {xs : List V} {σ : L2.St} {r r' : List A} {Q : L2.St → Hp → Prop}, EnvOk g P c H σ r → is.length = ds.length → Reps g H ds xs → sets is ds r = some r' → (∀ σ', EnvOk g P c H σ' r' → Q σ' H) → gNs is xs σ H Q
  | [], [], xs, σ, r, r', Q, o, _, h, e, k => by cases h; cases e; exact ⟨rfl, k σ o⟩
  | i :: is, d :: ds, xs, σ, r, r', Q, o, hl, h, e, k => by
    obtain ⟨y, ys, rfl, h1, h2⟩ := h
    unfold sets at e
    split at e
    · rename_i hok
      exact ⟨y, ys, rfl, sets_ok (o.set i (okSet_ne hok) h1) (by simpa using hl) h2 e k⟩
    · cases e
  | [], _ :: _, _, _, _, _, _, _, hl, _, _, _ => by cases hl
  | _ :: _, [], _, _, _, _, _, _, hl, _, _, _ => by cases hl
theorem tg_ok {t : Tg} {d : D} {v : V} {Q : L2.St → Hp → Prop} (o : EnvOk g P c H σ r) (h : Rep g H d v) (e : tgF t d r = some r') (k : ∀ σ', EnvOk g P c H σ' r' → Q σ' H) : tgT g.K t v σ H Q := by
  cases t with
  | name i =>
    have e' : (if okSet r i = true then some (r.set i (.val d)) else none) = some r' := e
    split at e'
    · rename_i hok
      cases e'
      exact k _ (o.set i (okSet_ne hok) h)
    · cases e'
  | tup is =>
    cases d with
    | tup ds =>
      have e' : (if is.length = ds.length then sets is ds r else none) = some r' := e
      split at e'
      · rename_i hl
        obtain ⟨a, xs, rfl, h1, h2⟩ := h
        exact ⟨a, xs, rfl, h1, by rw [Reps.len h2, hl], sets_ok o hl h2 e' k⟩
      · cases e'
    | _ => cases e
end
/-- what a for walks: the items, one behind another -/
def RI (g : G) : RelT (List D) It := fun _ _ _ H ds J => ∀ H2, Kp g H H2 → (∀ (i : Nat) d, ds[i]? = some d → J.go i H2 ∧ ∀ x H3, J.yld i H2 x H3 → H3 = H2 ∧ Rep g H2 d x) ∧ ∀ i, ds.length ≤ i → J.stop i H2
def forM' (t : Tg) (b : Mo Fl) : List D → Mo Fl
  | [] => pure .nx
  | d :: ds => fun r => match tgF t d r with
    | none => .no
    | some r1 => (do
      let f ← b
      match f with
      | .nx => forM' t b ds
      | .ct => forM' t b ds
      | .bk => pure .nx
      | .rt u => pure (.rt u) : Mo Fl) r1
section
variable {g : G} {W : WP} {t u : TS} {m : Mo Fl} {wi : TI} {mi : Mo (List D)} {tg : Tg} {tt : TT} {mt : Mo Bool}
theorem js_for (hi : J g W (RI g) wi mi) (hb : JS g W t m) : JS g W (tFor wi (tgT g.K tg) t) (do let ds ← mi; forM' tg m ds) := fun c H σ r Dn o p =>
  show wi σ H _ from J.bindS hi o p fun Jt H1 ds r1 k1 o1 w p1 => by
    refine ⟨fun i n σ' H' => n = ds.length - i ∧ i ≤ ds.length ∧ Kp g H1 H' ∧ ∃ r', EnvOk g W.p c H' σ' r' ∧ PostS g W c H' (forM' tg m (ds.drop i) r') Dn, ⟨_, rfl, Nat.zero_le _, Kp.refl _, r1, o1, p1⟩, ?_⟩
    rintro i n σ' H' ⟨rfl, hi, k2, r', o2, p2⟩
    obtain ⟨w1, w2⟩ := w H' k2
    by_cases hlt : i < ds.length
    · have hd' : ds[i]? = some ds[i] := List.getElem?_eq_getElem hlt
      obtain ⟨go, yl⟩ := w1 i _ hd'
      have ed : ds.drop i = ds[i] :: ds.drop (i + 1) := List.drop_eq_getElem_cons hlt
      rw [ed] at p2
      unfold forM' at p2
      refine .inr ⟨go, fun σ2 H2 => Kp g H1 H2 ∧ ∃ r', EnvOk g W.p c H2 σ2 r' ∧ PostS g W c H2 (forM' tg m (ds.drop (i + 1)) r') Dn, fun σ2 H2 z => ⟨ds.length - (i + 1), by omega, rfl, hlt, z.1, z.2⟩, fun x H3 y => ?_⟩
      obtain ⟨rfl, rx⟩ := yl x H3 y
      cases e : tgF tg ds[i] r' with
      | none => simp only [e] at p2; exact p2.elim
      | some r3 =>
        simp only [e] at p2
        refine tg_ok o2 rx e fun σ2 o3 => ?_
        refine hb c H3 σ2 r3 _ o3 ?_
        have p3 : PostS g W c H3 (Mo.bind m (fun f => match f with
          | .nx => forM' tg m (ds.drop (i + 1))
          | .ct => forM' tg m (ds.drop (i + 1))
          | .bk => pure .nx
          | .rt u => pure (.rt u)) r3) Dn := p2
        unfold Mo.bind at p3
        cases e3 : m r3 with
        | no => rw [e3] at p3; exact p3
        | ex er r4 => rw [e3] at p3; exact p3
        | ok f r4 =>
          rw [e3] at p3
          cases f with
          | nx => exact fun σ4 H4 k4 o4 => ⟨k2.trans k4, r4, o4, p3.go k4⟩
          | ct => exact fun σ4 H4 k4 o4 => ⟨k2.trans k4, r4, o4, p3.go k4⟩
          | bk => exact p3
          | rt u => exact p3
    · have e : i = ds.length := by omega
      subst e
      rw [List.drop_length] at p2
      exact .inl ⟨w2 _ (Nat.le_refl _), p2 σ' H' (Kp.refl _) o2⟩
/-- while, at most n turns -/
def whileM (c : Mo Bool) (b : Mo Fl) : Nat → Mo Fl
  | 0 => fun _ => .no
  | n + 1 => do
    let x ← c
    if x = true then (do
      let f ← b
      match f with
      | .nx => whileM c b n
      | .ct => whileM c b n
      | .bk => pure .nx
      | .rt u => pure (.rt u) : Mo Fl) else pure .nx
theorem js_while (n : Nat) (hc : J g W RB tt mt) (hb : JS g W t m) : JS g W (tWhile tt t) (whileM mt m n) := fun c H σ r Dn o p => by
  refine ⟨fun n σ' H' => ∃ r', EnvOk g W.p c H' σ' r' ∧ PostS g W c H' (whileM mt m n r') Dn, ⟨n, r, o, p⟩, ?_⟩
  rintro n σ' H' ⟨r', o1, p1⟩
  cases n with
  | zero => exact p1.elim
  | succ n =>
    unfold whileM at p1
    refine show tt σ' H' _ from J.bindS hc o1 p1 fun b H2 w r2 k2 o2 hw p2 => ?_
    obtain rfl : w = b := hw
    cases w with
    | false =>
      rw [if_neg (by decide)]
      exact p2 σ' H2 (Kp.refl _) o2
    | true =>
      rw [if_pos rfl]
      refine ⟨fun σ3 H3 => ∃ r', EnvOk g W.p c H3 σ3 r' ∧ PostS g W c H3 (whileM mt m n r') Dn, fun σ3 H3 z => ⟨n, by omega, z⟩, ?_⟩
      refine hb c H2 σ' r2 _ o2 ?_
      have p3 : PostS g W c H2 (Mo.bind m (fun f => match f with
        | .nx => whileM mt m n
        | .ct => whileM mt m n
        | .bk => pure .nx
        | .rt u => pure (.rt u)) r2) Dn := p2
      unfold Mo.bind at p3
      cases e3 : m r2 with
      | no => rw [e3] at p3; exact p3
      | ex er r4 => rw [e3] at p3; exact p3
      | ok f r4 =>
        rw [e3] at p3
        cases f with
        | nx => exact fun σ4 H4 k4 o4 => ⟨r4, o4, p3.go k4⟩
        | ct => exact fun σ4 H4 k4 o4 => ⟨r4, o4, p3.go k4⟩
        | bk => exact p3
        | rt u => exact p3
end
end Pw

set_option Elab.async false
set_option linter.all false
set_option maxRecDepth 100000
set_option maxHeartbeats 2000000
namespace Pw
open PySem L2

/-! ### rows of one's own: what changes them -/
section
variable {g : G} {P : PX} {c : Fr0} {H H' : Hp} {σ : L2.St} {r : List A}
/-- the rows of a name's list -/
def rowsOf : A → Option (Nat × List (Nat × List D))
  | .own t [] => some (t, [])
  | .own2 t rows => some (t, rows)
  | _ => none
theorem rows_at (o : EnvOk g P c H σ r) {i t : Nat} {a : A} {rows : List (Nat × List D)} (hi : r[i]? = some a) (hr : rowsOf a = some (t, rows)) :
    ∃ p as, Own2 g c H σ i t rows p as ∧ ∀ b, (b = p ∨ b ∈ as) → At H σ r i b := by
  cases a with
  | own u ds =>
    cases ds with
    | nil =>
      cases hr
      obtain ⟨p, xs, h1, h2, h3, h4, h5⟩ := o.own i _ _ hi
      have h3' : xs = [] := h3
      subst h3'
      have hA : At H σ r i p := .inl ⟨h1, t, [], hi⟩
      refine ⟨p, [], ⟨h1, h2, rfl, h4, fun b hb => ?_, by simp, List.nodup_nil, List.nodup_nil⟩, fun b hb => ?_⟩
      · rcases hb with rfl | hb
        · exact h5
        · cases hb
      · rcases hb with rfl | hb
        · exact hA
        · cases hb
    | cons _ _ => cases hr
  | own2 u rs =>
    cases hr
    obtain ⟨p, as, O⟩ := o.own2 i _ _ hi
    exact ⟨p, as, O, fun b hb => .inr ⟨t, rows, p, as, hi, O.at_, O.lst, hb⟩⟩
  | _ => cases hr
/-- other rows stand at i -/
theorem EnvOk.rows (h : EnvOk g P c H σ r) {i t : Nat} {a : A} {rows rows' : List (Nat × List D)} {p : Addr} {as' : List Addr} (hi : r[i]? = some a) (hs : σ[i]? = some (some (.ref p))) (hA : At H σ r i p)
    (tag : t = 0 ∨ ∃ j, t = j + 1 ∧ c.L j = some p) (e : ∀ b o, H b = some o → ¬ At H σ r i b → H' b = some o) (m' : ∀ b, At H σ r i b → ∃ o, H' b = some o)
    (hp : H' p = some (.lst (as'.map V.ref))) (rk : RowsOk g H' rows' as') (new : ∀ b, b ∈ as' → At H σ r i b ∨ (c.H0 b = none ∧ Fresh H σ r b)) (ne : p ∉ as') (nd : as'.Nodup) (ids : (rows'.map (·.1)).Nodup)
    (al : ∀ (j id : Nat), r[j]? = some (.ali i id) → ∃ (k : Nat) (ds : List D) (b : Addr), rows'[k]? = some (id, ds) ∧ as'[k]? = some b ∧ σ[j]? = some (some (.ref b))) :
    EnvOk g P c H' σ (r.set i (.own2 t rows')) ∧ Kp g H H' := by
  have kp : Kp g H H' := fun b o hb ho => e b o hb fun z => by
    obtain ⟨⟨xs, q⟩, _⟩ := h.at_lst z
    rw [hb] at q
    cases q
    cases ho
  have oth : ∀ j b, i ≠ j → At H σ r j b → ¬ At H σ r i b := fun j b hij hb z => hij (h.dis i j b z hb)
  have hl : i < r.length := (List.getElem?_eq_some_iff.mp hi).1
  have old : ∀ j b, (r.set i (.own2 t rows'))[j]? = some b → (i = j ∧ b = .own2 t rows') ∨ (i ≠ j ∧ r[j]? = some b) := fun j b hj => by
    rcases get_set hj with ⟨z, z2, _⟩ | z
    · exact .inl ⟨z, z2⟩
    · exact .inr z
  have back : ∀ j b, At H' σ (r.set i (.own2 t rows')) j b → At H σ r j b ∨ (j = i ∧ Fresh H σ r b) := fun j b hb => by
    rcases hb with ⟨q1, u, es, q2⟩ | ⟨u, rs, p2, bs, q1, q2, q3, q4⟩
    · rcases old j _ q2 with ⟨_, z⟩ | ⟨_, z⟩
      · cases z
      · exact .inl (.inl ⟨q1, u, es, z⟩)
    · rcases old j _ q1 with ⟨rfl, z⟩ | ⟨hij, z⟩
      · rw [hs] at q2
        cases q2
        rw [hp] at q3
        have : as' = bs := map_ref_inj (by simpa using q3)
        subst this
        rcases q4 with rfl | q4
        · exact .inl hA
        · rcases new b q4 with w | ⟨_, w⟩
          · exact .inl w
          · exact .inr ⟨rfl, w⟩
      · obtain ⟨p3, cs, o⟩ := h.own2 j u rs z
        have : p3 = p2 := by rw [o.at_] at q2; cases q2; rfl
        subst this
        have e2 := e p3 _ o.lst (oth j p3 hij (.inr ⟨u, rs, p3, cs, z, o.at_, o.lst, .inl rfl⟩))
        have : cs = bs := by
          rw [q3] at e2
          exact (map_ref_inj (by simpa using e2)).symm
        subst this
        exact .inl (.inr ⟨u, rs, p3, cs, z, o.at_, o.lst, q4⟩)
  refine ⟨⟨by simp [h.len], fun b o hb hm => ?_, fun m hm => ?_, fun j d hj => ?_, fun j u es hj => ?_, fun j u rs hj => ?_, fun j k b hj hk => ?_, fun j C ns es hj => ?_, fun j k id hj => ?_⟩, kp⟩
  · refine e b o (h.fr b o hb hm) (fun z => ?_)
    rcases (h.at_lst z).2 with h4 | h4
    · rw [h4] at hb; cases hb
    · exact hm h4
  · by_cases z : At H σ r i m
    · exact m' m z
    · obtain ⟨o, ho⟩ := h.mem m hm
      exact ⟨o, e m o ho z⟩
  · rcases old j _ hj with ⟨_, z⟩ | ⟨_, hj⟩
    · cases z
    · obtain ⟨v, g1, g2⟩ := h.val j d hj
      exact ⟨v, g1, Rep.mono kp _ _ g2⟩
  · rcases old j _ hj with ⟨_, z⟩ | ⟨hij, hj⟩
    · cases z
    · obtain ⟨p2, ys, g1, g2, g3, g5, g4⟩ := h.own j u es hj
      exact ⟨p2, ys, g1, e _ _ g2 (oth j p2 hij (.inl ⟨g1, u, es, hj⟩)), Reps.mono kp _ _ g3, g5, g4⟩
  · rcases old j _ hj with ⟨rfl, z⟩ | ⟨hij, hj⟩
    · cases z
      refine ⟨p, as', hs, hp, rk, tag, fun b hb => ?_, ne, nd, ids⟩
      rcases hb with rfl | hb
      · exact (h.at_lst hA).2
      · rcases new b hb with w | ⟨w, _⟩
        · exact (h.at_lst w).2
        · exact .inl w
    · obtain ⟨p2, bs, o⟩ := h.own2 j u rs hj
      have a2 : ∀ b, b = p2 ∨ b ∈ bs → ¬ At H σ r i b := fun b hb => oth j b hij (.inr ⟨u, rs, p2, bs, hj, o.at_, o.lst, hb⟩)
      exact ⟨p2, bs, o.at_, e _ _ o.lst (a2 p2 (.inl rfl)), o.rk.keep kp fun b xs hb z => e _ _ z (a2 b (.inr hb)), o.tag, o.mine, o.ne, o.nd, o.ids⟩
  · rcases back j b hj with z1 | ⟨rfl, z1⟩
    · rcases back k b hk with z2 | ⟨rfl, z2⟩
      · exact h.dis j k b z1 z2
      · exact absurd z1 (z2 j)
    · rcases back k b hk with z2 | ⟨rfl, z2⟩
      · exact absurd z2 (z1 k)
      · rfl
  · rcases old j _ hj with ⟨_, z⟩ | ⟨_, hj⟩
    · cases z
    · obtain ⟨a, x, ys, g1, g2, g3, g4, g5⟩ := h.exn j C ns es hj
      exact ⟨a, x, ys, g1, g2, kp _ _ g3 rfl, g4, Reps.mono kp _ _ g5⟩
  · rcases old j _ hj with ⟨_, z⟩ | ⟨_, hj⟩
    · cases z
    · by_cases hik : i = k
      · subst hik
        obtain ⟨m, ds, b, q1, q2, q3⟩ := al j id hj
        exact ⟨t, rows', p, as', m, ds, b, by rw [List.getElem?_set_self hl], hs, hp, q1, q2, q3⟩
      · obtain ⟨u, rs, p2, bs, m, es, b, q1, q2, q3, q4, q5, q6⟩ := h.ali j k id hj
        exact ⟨u, rs, p2, bs, m, es, b, by rw [List.getElem?_set_ne hik]; exact q1, q2, e _ _ q3 (oth k p2 hik (.inr ⟨u, rs, p2, bs, q1, q2, q3, .inl rfl⟩)), q4, q5, q6⟩
def newId (rows : List (Nat × List D)) : Nat := rows.foldr (fun x m => max x.1 m) 0 + 1
theorem newId_lt : ∀ {rows : List (Nat × List D)} {x : Nat × List D}, x ∈ rows → x.1 < newId rows
  | y :: rows, x, h => by
    unfold newId
    rw [List.foldr_cons]
    rcases List.mem_cons.mp h with rfl | h
    · omega
    · have := newId_lt h
      unfold newId at this
      omega
theorem newId_nd {rows : List (Nat × List D)} {ds : List D} (h : (rows.map (·.1)).Nodup) : ((rows ++ [(newId rows, ds)]).map (·.1)).Nodup := by
  rw [List.map_append, List.nodup_append]
  refine ⟨h, by simp, fun a ha b hb => ?_⟩
  simp only [List.map_cons, List.map_nil, List.mem_singleton] at hb
  subst hb
  obtain ⟨x, hx, rfl⟩ := List.mem_map.mp ha
  exact Nat.ne_of_lt (newId_lt hx)
theorem RowsOk.app : ∀ {rows : List (Nat × List D)} {as : List Addr} {id : Nat} {ds : List D} {q : Addr} {xs : List V}, RowsOk g H rows as → H q = some (.lst xs) → Reps g H ds xs → RowsOk g H (rows ++ [(id, ds)]) (as ++ [q])
  | [], as, id, ds, q, xs, h, h1, h2 => by
    cases h
    exact ⟨q, [], xs, rfl, h1, h2, rfl⟩
  | r :: rs, as, id, ds, q, xs, h, h1, h2 => by
    obtain ⟨a, bs, ys, rfl, z1, z2, z3⟩ := h
    exact ⟨a, _, ys, rfl, z1, z2, RowsOk.app z3 h1 h2⟩
theorem RowsOk.set (kp : Kp g H H') : ∀ {rows : List (Nat × List D)} {as : List Addr} {k id : Nat} {ds : List D} {a : Addr} {xs : List V}, as.Nodup → RowsOk g H rows as → as[k]? = some a → (∀ b o, H b = some o → b ≠ a → H' b = some o) → H' a = some (.lst xs) → Reps g H' ds xs → RowsOk g H' (rows.set k (id, ds)) as
  | [], as, k, id, ds, a, xs, nd, h, h1, h2, h3, h4 => by
    cases h
    simp at h1
  | r :: rs, as, 0, id, ds, a, xs, nd, h, h1, h2, h3, h4 => by
    obtain ⟨a', bs, ys, rfl, z1, z2, z3⟩ := h
    simp at h1
    subst h1
    have nd' := List.nodup_cons.mp nd
    exact ⟨a', bs, xs, rfl, h3, h4, z3.keep kp fun b zs hb hz => h2 b _ hz (fun e => nd'.1 (e ▸ hb))⟩
  | r :: rs, as, k + 1, id, ds, a, xs, nd, h, h1, h2, h3, h4 => by
    obtain ⟨a', bs, ys, rfl, z1, z2, z3⟩ := h
    have nd' := List.nodup_cons.mp nd
    have h1' : bs[k]? = some a := by simpa using h1
    exact ⟨a', bs, ys, rfl, h2 a' _ z1 (fun e => nd'.1 (e ▸ List.mem_of_getElem? h1')), Reps.mono kp _ _ z2, RowsOk.set kp nd'.2 z3 h1' h2 h3 h4⟩
theorem RowsOk.erase : ∀ {rows : List (Nat × List D)} {as : List Addr} (k : Nat), RowsOk g H rows as → RowsOk g H (rows.eraseIdx k) (as.eraseIdx k)
  | [], as, k, h => by cases h; simp [RowsOk]
  | r :: rs, as, 0, h => by
    obtain ⟨a', bs, ys, rfl, z1, z2, z3⟩ := h
    exact z3
  | r :: rs, as, k + 1, h => by
    obtain ⟨a', bs, ys, rfl, z1, z2, z3⟩ := h
    exact ⟨a', _, ys, rfl, z1, z2, RowsOk.erase k z3⟩
end
end Pw

set_option Elab.async false
set_option linter.all false
set_option maxRecDepth 100000
set_option maxHeartbeats 2000000
namespace PySem.PwX
open PySem PySem.Spec PyProof.Rows L2 MeetsSeq SeqAt
/-! ### xs.remove(a list) -/
theorem rem_loop (l : Addr) (items : Array Value) (n : Nat) (x : Value) (j : Nat) (hj : j < items.size) (k : Nat) (hs1 : items.size ≤ sizeLine) :
    ∀ i : Nat, j - i = k → i ≤ j → Meets (Builtin.«list.remove.loop» ⟨[.ref l, x, rawInt i], []⟩)
      (fun A R s => s.heap.get? l = some { cls := .type "list", dict := none, data := .seq items n, slots := #[] } ∧ EqAt A.in1 s items[j] x true ∧ (∀ m (hm : m < items.size), i ≤ m → m < j → EqAt A.in1 s items[m] x false) ∧
        R (.ok (.ret .none)) { s with heap := s.heap.update l (Obj.mapSeq fun xs => xs.eraseIdxIfInBounds j) }) := by
  induction k with
  | zero =>
    intro i hk hij prog w A R s h
    obtain ⟨hp, g, d, tk, os⟩ := s
    obtain ⟨hl, hit, hno, h⟩ := h
    obtain rfl : i = j := by omega
    wp_walk using AutoSeq1.wpAny_loadPart' hl
    rw [show items[((i : Nat) : Int).toNat]? = some items[i] by simp [hj]]
    refine wpAny_bind (hit prog w _ _ ?_)
    have hz' : (items.eraseIdxIfInBounds i).size ≤ sizeLine + 1 := Nat.le_trans (size_erased items _) (Nat.le_succ_of_le hs1)
    wp_walk using (wpAny_updateSeq hl rfl (hz := hs1) (_hz' := hz')), AutoSeq1.wpAny_loadPart' hl
    simpa using h
  | succ k ih =>
    intro i hk hij prog w A R s h
    obtain ⟨hp, g, d, tk, os⟩ := s
    obtain ⟨hl, hit, hno, h⟩ := h
    have hlt : i < items.size := by omega
    wp_walk using AutoSeq1.wpAny_loadPart' hl
    have hc : ((i : Int) + 1) = ((i + 1 : Nat) : Int) := by push_cast; rfl
    rw [show items[((i : Nat) : Int).toNat]? = some items[i] by simp [hlt]]
    refine wpAny_bind (hno i hlt (Nat.le_refl _) (by omega) prog w _ _ ?_)
    wp_walk
    rw [hc]
    exact ⟨plainId_quiet plain_remove_loop _, codeAny_builtin entry_remove_loop (by
      rw [Around.under_plainId plain_remove_loop _]
      exact ih (i + 1) (by omega) (by omega) prog w A R _ ⟨hl, hit, fun m hm h1 h2 => hno m hm (by omega) h2, h⟩)⟩
theorem rem_at (l : Addr) (items : Array Value) (n : Nat) (x : Value) (j : Nat) (hj : j < items.size) (hs1 : items.size ≤ sizeLine) :
    Meets (Builtin.«list.remove» ⟨[.ref l, x], []⟩)
      (fun A R s => s.heap.get? l = some { cls := .type "list", dict := none, data := .seq items n, slots := #[] } ∧ EqAt A.in1 s items[j] x true ∧ (∀ m (hm : m < items.size), m < j → EqAt A.in1 s items[m] x false) ∧
        R (.ok (.ret .none)) { s with heap := s.heap.update l (Obj.mapSeq fun xs => xs.eraseIdxIfInBounds j) }) := by
  intro prog w A R s h
  obtain ⟨hp, g, d, tk, os⟩ := s
  obtain ⟨hl, hit, hno, h⟩ := h
  wp_walk using AutoSeq1.wpAny_loadPart' hl
  exact ⟨plainId_quiet plain_remove_loop _, codeAny_builtin entry_remove_loop (by
    rw [Around.under_plainId plain_remove_loop _]
    exact rem_loop l items n x j hj _ hs1 0 rfl (Nat.zero_le _) prog w A R _ ⟨hl, hit, fun m hm _ h2 => hno m hm h2, h⟩)⟩
end PySem.PwX
namespace Pw
open PySem L2
def rRem (K : PySem.W.Frag) : V → List V → Hp → VK → Prop := fun x vs H Q => ∃ l xs y k, x = .ref l ∧ vs = [y] ∧ H l = some (.lst xs) ∧ xs[k]? = some y ∧
  (∀ m v, m < k → xs[m]? = some v → ∃ d e, Dp K H v d ∧ Dp K H y e ∧ d.canLay0 = true ∧ e.canLay0 = true ∧ d.depth ≤ 50 ∧ PyData.eqv d e = false) ∧ y ≠ .non ∧ (∃ a, y = .ref a) ∧ Q .non (upd H l (.lst (xs.eraseIdx k)))
theorem mt_remove {X : Cx} (hu : X.A.units + 64 < cLine) : MtM X "list.remove" (rRem X.K) := by
  intro pins s σ H x vs v us Q I rx rv h
  obtain ⟨l, xs, y, k, rfl, rfl, hH, hk, hne, _, ⟨ay, rfl⟩, q⟩ := h
  cases rx
  obtain ⟨u, rfl, ru⟩ := rv.one
  cases ru
  obtain ⟨z, its, n, r, hl, e⟩ := I.lstM hH
  obtain ⟨u', hu', ru'⟩ := Vals.get r hk
  cases ru'
  have hj : k < its.toArray.size := by
    rw [List.size_toArray]
    exact (List.getElem?_eq_some_iff.mp hu').1
  have hat : its.toArray[k] = .ref ay := by
    rw [List.getElem_toArray]
    exact (List.getElem?_eq_some_iff.mp hu').2
  have hsz : its.toArray.size ≤ sizeLine := by rw [List.size_toArray, ← hl]; exact z
  refine call_meets PySem.F.slot_list_remove ⟨_, e, rfl⟩ PySem.F.entry_list_remove (PySem.F.args_list_remove_2 _ _) (PySem.PwX.rem_at l its.toArray n (.ref ay) k hj hsz) ⟨e, ?_, fun m hm hlt => ?_, ?_⟩
  · rw [hat]
    exact SeqAt.EqAt.same _
  · have hm' : m < its.length := by rw [List.size_toArray] at hm; exact hm
    have hm2 : m < xs.length := by omega
    obtain ⟨w, hw, rw'⟩ := Vals.get r (List.getElem?_eq_getElem hm2)
    obtain ⟨d, e', h1, h2, c1, c2, dd, hv⟩ := hne m _ hlt (List.getElem?_eq_getElem hm2)
    obtain ⟨as, r1⟩ := Dp.reads I d _ w h1 rw'
    obtain ⟨bs, r2⟩ := Dp.reads I e' _ (.ref ay) h2 rfl
    have hw' : its.toArray[m] = w := by
      rw [List.getElem_toArray]
      exact (List.getElem?_eq_some_iff.mp hw).2
    rw [hw']
    have := SeqAt.eqAt_reads d e' X.A.in1 s w (.ref ay) as bs r1 r2 c1 c2 (by
      show X.A.units + 1 + _ < cLine
      have := Nat.min_le_left d.depth e'.depth
      omega)
    rw [hv] at this
    exact this
  · refine ⟨.non, _, I.lset (its' := its.eraseIdx k) hH e ?_ (r.eraseIdx k) ?_, rfl, q⟩
    · show its.toArray.eraseIdxIfInBounds k = (its.eraseIdx k).toArray
      rw [List.eraseIdxIfInBounds_toArray]
    · have := len_erase xs k
      omega
end Pw

set_option Elab.async false
set_option linter.all false
set_option maxRecDepth 100000
set_option maxHeartbeats 2000000
namespace Pw
open PySem L2

/-! ### statements on rows -/
def isRows (r : List A) (i : Nat) : Bool := match r[i]? with
  | some a => (rowsOf a).isSome
  | none => false
def ifRows (i : Nat) (m : Mo Fl) : Mo Fl := fun r => if isRows r i = true then m r else .no
/-- xs.append(a list just made) -/
def appRM (i : Nat) (u : U) : Mo Fl := fun r => match u, r[i]? with
  | .fresh ds, some a => (match rowsOf a with
    | some (t, rows) => if rows.length < 1000000 then .ok .nx (r.set i (.own2 t (rows ++ [(newId rows, ds)]))) else .no
    | none => .no)
  | _, _ => .no
/-- x = xs[n] -/
def aliM (j i : Nat) (n : Int) : Mo Fl := fun r => match r[i]? with
  | some (.own2 _ rows) => (match atI rows n with
    | some x => if j ≠ i ∧ okSet r j = true then .ok .nx (r.set j (.ali i x.1)) else .no
    | none => .no)
  | _ => .no
def rowIx (rows : List (Nat × List D)) (id : Nat) : Option Nat := rows.findIdx? fun x => x.1 == id
/-- x[n] = d, x a row -/
def setRM (j : Nat) (d : D) (n : Int) : Mo Fl := fun r => match r[j]? with
  | some (.ali i id) => (match r[i]? with
    | some (.own2 t rows) => (match rowIx rows id with
      | some k => (match rows[k]? with
        | some x => (match ixN x.2.length n with
          | some q => .ok .nx (r.set i (.own2 t (rows.set k (id, x.2.set q d))))
          | none => .no)
        | none => .no)
      | none => .no)
    | _ => .no)
  | _ => .no
def ifAli (j : Nat) (m : Mo Fl) : Mo Fl := fun r => match r[j]? with
  | some (.ali _ _) => m r
  | _ => .no
def neDs (xs ys : List D) : Bool := match D.pys xs, D.pys ys with
  | some a, some b => (PyData.list a).canLay0 && ((PyData.list b).canLay0 && (decide ((PyData.list a).depth ≤ 50) && !(PyData.eqv (.list a) (.list b))))
  | _, _ => false
/-- xs.remove(x), x a row -/
def remM (i j : Nat) : Mo Fl := fun r => match r[j]?, r[i]? with
  | some (.ali i' id), some (.own2 t rows) => if i' = i then (match rowIx rows id with
    | some k => (match rows[k]? with
      | some x => if (rows.take k).all (fun y => neDs y.2 x.2) && noAl' (r.set j .un) i then .ok .nx ((r.set i (.own2 t (rows.eraseIdx k))).set j (.own 0 x.2)) else .no
      | none => .no)
    | none => .no) else .no
  | _, _ => .no
where
  noAl' (r : List A) (i : Nat) : Bool := r.all fun a => match a with
    | .ali k _ => k != i
    | _ => true
theorem noAl_ok' {r : List A} {i : Nat} (h : remM.noAl' r i = true) (j id : Nat) : r[j]? ≠ some (.ali i id) := fun z => by
  have := List.all_eq_true.mp h _ (List.mem_of_getElem? z)
  simp at this
theorem rowIx_at {rows : List (Nat × List D)} {id k : Nat} (h : rowIx rows id = some k) : ∃ ds, rows[k]? = some (id, ds) := by
  unfold rowIx at h
  obtain ⟨h1, h2, _⟩ := List.findIdx?_eq_some_iff_getElem.mp h
  refine ⟨rows[k].2, ?_⟩
  rw [List.getElem?_eq_getElem h1]
  have : rows[k].1 = id := by simpa using h2
  rw [← this]
theorem id_one : ∀ {rows : List (Nat × List D)} {k m id : Nat} {a b : List D}, (rows.map (·.1)).Nodup → rows[k]? = some (id, a) → rows[m]? = some (id, b) → k = m
  | [], k, m, id, a, b, nd, h1, h2 => by simp at h1
  | x :: rows, 0, 0, id, a, b, nd, h1, h2 => rfl
  | x :: rows, 0, m + 1, id, a, b, nd, h1, h2 => by
    simp at h1
    subst h1
    have h2' : rows[m]? = some (id, b) := by simpa using h2
    exact absurd (List.mem_map.mpr ⟨_, List.mem_of_getElem? h2', rfl⟩) (List.nodup_cons.mp nd).1
  | x :: rows, k + 1, 0, id, a, b, nd, h1, h2 => by
    simp at h2
    subst h2
    have h1' : rows[k]? = some (id, a) := by simpa using h1
    exact absurd (List.mem_map.mpr ⟨_, List.mem_of_getElem? h1', rfl⟩) (List.nodup_cons.mp nd).1
  | x :: rows, k + 1, m + 1, id, a, b, nd, h1, h2 => by
    have := id_one (k := k) (m := m) (List.nodup_cons.mp nd).2 (by simpa using h1) (by simpa using h2)
    omega
section
variable {g : G} {W : WP} {c : Fr0} {H H' : Hp} {σ : L2.St} {r : List A} {te tb : TE} {ma mb : Mo U}
theorem js_appR (i : Nat) (h : J g W (RU g) te ma) : JS g W (tDrop (tBM g.K "list" rAppend (tVar i) (tCons te tNil))) (ifRows i (do let u ← ma; appRM i u)) := fun c H σ r Dn o p => by
  unfold ifRows at p
  split at p
  · rename_i hz
    unfold isRows at hz
    cases e : r[i]? with
    | none => rw [e] at hz; cases hz
    | some a =>
      rw [e] at hz
      obtain ⟨⟨t, rows⟩, hr⟩ := Option.isSome_iff_exists.mp hz
      obtain ⟨q, as, O, _⟩ := rows_at o e hr
      refine ⟨.ref q, O.at_, .inl ⟨rfl, _, SqL.of O.lst⟩, ?_⟩
      refine show te σ H _ from J.bindS h o p fun v H1 u r1 k1 o1 r' p1 => ?_
      have p2 : PostS g W c H1 (appRM i u r1) Dn := p1
      unfold appRM at p2
      cases u with
      | val d => exact p2.elim
      | slot d => exact p2.elim
      | fresh ds =>
        cases e1 : r1[i]? with
        | none => simp only [e1] at p2; exact p2.elim
        | some a1 =>
          simp only [e1] at p2
          cases e2 : rowsOf a1 with
          | none => simp only [e2] at p2; exact p2.elim
          | some w =>
            obtain ⟨t1, rows1⟩ := w
            simp only [e2] at p2
            split at p2
            · rename_i hz1
              obtain ⟨q', bs, O1, at1⟩ := rows_at o1 e1 e2
              have : q' = q := by have := O1.at_; rw [O.at_] at this; cases this; rfl
              subst this
              obtain ⟨pp, xs, rfl, h2, h3, h4, h5⟩ := r'
              refine ⟨q', _, .ref pp, rfl, rfl, O1.lst, ?_, ?_⟩
              · rw [List.length_map, O1.rk.len]
                exact Nat.lt_trans hz1 (by decide)
              · have npq : pp ≠ q' := fun z => h5 i (z ▸ at1 q' (.inl rfl))
                have npb : pp ∉ bs := fun z => h5 i (at1 pp (.inr z))
                have hup : ∀ b ob, H1 b = some ob → b ≠ q' → upd H1 q' (.lst (bs.map V.ref ++ [V.ref pp])) b = some ob := fun b ob hb hn => by rw [upd_ne hn]; exact hb
                have kp : Kp g H1 (upd H1 q' (.lst (bs.map V.ref ++ [V.ref pp]))) := fun b ob hb hi => hup b ob hb (fun z => by subst z; rw [O1.lst] at hb; cases hb; cases hi)
                have rk : RowsOk g (upd H1 q' (.lst (bs.map V.ref ++ [V.ref pp]))) (rows1 ++ [(newId rows1, ds)]) (bs ++ [pp]) := RowsOk.app (O1.rk.keep kp fun b ys hb hy => hup b _ hy (fun z => O1.ne (z ▸ hb))) (hup pp _ h2 npq) (Reps.mono kp _ _ h3)
                obtain ⟨o2, k2⟩ := o1.rows (H' := upd H1 q' (.lst (bs.map V.ref ++ [V.ref pp]))) (rows := rows1) (rows' := rows1 ++ [(newId rows1, ds)]) (as' := bs ++ [pp]) e1 O1.at_ (at1 q' (.inl rfl)) O1.tag
                  (fun b ob hb hn => hup b ob hb (fun z => hn (z ▸ at1 q' (.inl rfl))))
                  (fun b hb => by
                    by_cases z : b = q'
                    · exact ⟨_, by rw [z, upd_same]⟩
                    · obtain ⟨⟨ys, hy⟩, _⟩ := o1.at_lst hb
                      exact ⟨_, hup b _ hy z⟩)
                  (by rw [upd_same]; simp) rk
                  (fun b hb => by
                    rcases List.mem_append.mp hb with hb | hb
                    · exact .inl (at1 b (.inr hb))
                    · obtain rfl := List.mem_singleton.mp hb
                      exact .inr ⟨h4, h5⟩)
                  (fun hb => by
                    rcases List.mem_append.mp hb with hb | hb
                    · exact O1.ne hb
                    · exact npq (List.mem_singleton.mp hb).symm)
                  (by
                    rw [List.nodup_append]
                    refine ⟨O1.nd, by simp, fun a ha b hb => ?_⟩
                    obtain rfl := List.mem_singleton.mp hb
                    exact fun z => npb (z ▸ ha)) (newId_nd O1.ids)
                  (fun j id hj => by
                    obtain ⟨u, rs, p2, cs, m, es, b, q1, q2, q3, q4, q5, q6⟩ := o1.ali j i id hj
                    rw [e1] at q1
                    cases q1
                    cases e2
                    have : p2 = q' := by have := O1.at_; rw [q2] at this; cases this; rfl
                    subst this
                    have : cs = bs := by
                      have := O1.lst
                      rw [q3] at this
                      exact map_ref_inj (by simpa using this)
                    subst this
                    have l1 := (List.getElem?_eq_some_iff.mp q4).1
                    have l2 := (List.getElem?_eq_some_iff.mp q5).1
                    exact ⟨m, es, b, by rw [List.getElem?_append_left l1]; exact q4, by rw [List.getElem?_append_left l2]; exact q5, q6⟩)
                exact p2 _ _ k2 o2
            · exact p2.elim
  · exact p.elim
theorem j_int (hk : J g W (RU g) tb mb) : J g W (fun _ _ _ _ (n : Int) (v : V) => v = .int n) tb (intM mb) := fun c H σ r Q o p => J.bind hk o p fun y H2 w r2' k2 o2 h2 p2 => by
  cases w with
  | val d =>
    cases d with
    | int n => exact p2 y H2 (Kp.refl _) o2 h2
    | _ => exact p2.elim
  | _ => exact p2.elim
theorem js_ali (w : World) (j i : Nat) (hk : J g W (RU g) tb mb) : JS g W (tAsg (tOp (rIxx g.K w) (tVar i) tb) (gName j)) (ifRows i (do let n ← intM mb; aliM j i n)) := fun c H σ r Dn o p => by
  unfold ifRows at p
  split at p
  · rename_i hz
    unfold isRows at hz
    cases e : r[i]? with
    | none => rw [e] at hz; cases hz
    | some a =>
      rw [e] at hz
      obtain ⟨⟨t, rows⟩, hr⟩ := Option.isSome_iff_exists.mp hz
      obtain ⟨q, as, O, _⟩ := rows_at o e hr
      refine ⟨.ref q, O.at_, ?_⟩
      refine show tb σ H _ from J.bindS (j_int hk) o p fun v H1 n r1 k1 o1 hv p1 => ?_
      have hv : v = .int n := hv
      have p2 : PostS g W c H1 (aliM j i n r1) Dn := p1
      unfold aliM at p2
      cases e1 : r1[i]? with
      | none => simp only [e1] at p2; exact p2.elim
      | some a1 =>
        cases a1 with
        | own2 t1 rows1 =>
          simp only [e1] at p2
          cases e2 : atI rows1 n with
          | none => simp only [e2] at p2; exact p2.elim
          | some x =>
            simp only [e2] at p2
            split at p2
            · rename_i hok
              obtain ⟨q', bs, O1, at1⟩ := rows_at (rows := rows1) (t := t1) o1 e1 rfl
              have : q' = q := by have := O1.at_; rw [O.at_] at this; cases this; rfl
              subst this
              unfold atI at e2
              cases e3 : ixN rows1.length n with
              | none => rw [e3] at e2; cases e2
              | some k =>
                rw [e3] at e2
                have e2 : rows1[k]? = some x := e2
                obtain ⟨b, xs, z1, z2, z3⟩ := O1.rk.at e2
                have ha : atI (bs.map V.ref) n = some (.ref b) := by
                  unfold atI
                  rw [List.length_map, O1.rk.len, e3]
                  show (bs.map V.ref)[k]? = _
                  rw [List.getElem?_map, z1]
                  rfl
                refine .inl (.inl ⟨q', bs.map V.ref, n, .ref b, rfl, hv, .inl (.inl O1.lst), ha, ?_⟩)
                exact p2 _ H1 (Kp.refl _) (o1.put j (fun j' id _ => o1.noAli (okSet_ne hok.2) j' id) (fun _ z => by cases z) (fun _ _ z => by cases z) (fun _ _ z => by cases z) (fun _ _ _ z => by cases z)
                  (fun k' id z => by
                    cases z
                    exact ⟨Ne.symm hok.1, t1, rows1, q', bs, k, x.2, b, e1, O1.at_, O1.lst, e2, z1, rfl⟩))
            · exact p2.elim
        | _ => simp only [e1] at p2; exact p2.elim
  · exact p.elim
theorem js_setR (j : Nat) (h : J g W (RU g) te ma) (hk : J g W (RU g) tb mb) : JS g W (tAsg (tFz te) (gSub (tVar j) tb rSetL)) (do let d ← dataM ma; ifAli j (do let n ← intM mb; setRM j d n)) := fun c H σ r Dn o p => by
  refine show tFz te σ H _ from J.bindS (J.data h) o p fun v H1 d r1 k1 o1 r' p1 => ?_
  have p1' : PostS g W c H1 (ifAli j (do let n ← intM mb; setRM j d n) r1) Dn := p1
  unfold ifAli at p1'
  cases e : r1[j]? with
  | none => simp only [e] at p1'; exact p1'.elim
  | some a =>
    cases a with
    | ali i id =>
      simp only [e] at p1'
      obtain ⟨t, rows, p0, as, m, ds, b, q1, q2, q3, q4, q5, q6⟩ := o1.ali j i id e
      refine ⟨.ref b, q6, ?_⟩
      refine show tb σ H1 _ from J.bindS (j_int hk) o1 p1' fun w H2 n r2 k2 o2 hw p2 => ?_
      have p3 : PostS g W c H2 (setRM j d n r2) Dn := p2
      unfold setRM at p3
      cases e1 : r2[j]? with
      | none => simp only [e1] at p3; exact p3.elim
      | some a =>
        cases a with
        | ali i2 id2 =>
          simp only [e1] at p3
          obtain ⟨t, rows, p0, as, m, ds, b', q1, q2, q3, q4, q5, q6'⟩ := o2.ali j i2 id2 e1
          have : b' = b := by rw [q6] at q6'; cases q6'; rfl
          subst this
          simp only [q1] at p3
          obtain ⟨p1, bs, O, at1⟩ := rows_at (rows := rows) (t := t) o2 q1 rfl
          have : p1 = p0 := by have := O.at_; rw [q2] at this; cases this; rfl
          subst this
          have : bs = as := by
            have := O.lst
            rw [q3] at this
            exact (map_ref_inj (by simpa using this)).symm
          subst this
          cases e2 : rowIx rows id2 with
          | none => simp only [e2] at p3; exact p3.elim
          | some k =>
            simp only [e2] at p3
            obtain ⟨ds', e3⟩ := rowIx_at e2
            have : k = m := id_one O.ids e3 q4
            subst this
            simp only [e3] at p3
            cases e4 : ixN ds'.length n with
            | none => simp only [e4] at p3; exact p3.elim
            | some q =>
              simp only [e4] at p3
              obtain ⟨b2, xs, z1, z2, z3⟩ := O.rk.at e3
              have : b2 = b' := by rw [q5] at z1; cases z1; rfl
              subst this
              refine ⟨b2, xs, n, q, rfl, hw, z2, by rw [Reps.len z3]; exact e4, ?_⟩
              have hup : ∀ b ob, H2 b = some ob → b ≠ b2 → upd H2 b2 (.lst (xs.set q v)) b = some ob := fun b ob hb hn => by rw [upd_ne hn]; exact hb
              have kp : Kp g H2 (upd H2 b2 (.lst (xs.set q v))) := fun b ob hb hi => hup b ob hb (fun z => by subst z; rw [z2] at hb; cases hb; cases hi)
              have hin : b2 ∈ bs := List.mem_of_getElem? z1
              have npq : p1 ≠ b2 := fun z => O.ne (z ▸ hin)
              obtain ⟨o3, k3⟩ := o2.rows (H' := upd H2 b2 (.lst (xs.set q v))) (rows := rows) (rows' := rows.set k (id2, ds'.set q d)) (as' := bs) q1 O.at_ (at1 p1 (.inl rfl)) O.tag
                (fun b ob hb hn => hup b ob hb (fun z => hn (z ▸ at1 b2 (.inr hin))))
                (fun b hb => by
                  by_cases z : b = b2
                  · exact ⟨_, by rw [z, upd_same]⟩
                  · obtain ⟨⟨ys, hy⟩, _⟩ := o2.at_lst hb
                    exact ⟨_, hup b _ hy z⟩)
                (hup p1 _ O.lst npq)
                (RowsOk.set kp O.nd O.rk z1 hup upd_same (Reps.set q (Reps.mono kp _ _ z3) (Rep.mono (k2.trans kp) _ _ r')))
                (fun b hb => .inl (at1 b (.inr hb))) O.ne O.nd
                (by
                  have : (rows.set k (id2, ds'.set q d)).map (·.1) = rows.map (·.1) := by
                    rw [List.map_set]
                    exact set_self (by rw [List.getElem?_map, e3]; rfl)
                  rw [this]
                  exact O.ids)
                (fun j' id' hj => by
                  obtain ⟨u, rs, p2', cs, m', es, b', w1, w2, w3, w4, w5, w6⟩ := o2.ali j' i2 id' hj
                  rw [q1] at w1
                  cases w1
                  have : p2' = p1 := by have := O.at_; rw [w2] at this; cases this; rfl
                  subst this
                  have : cs = bs := by
                    have := O.lst
                    rw [w3] at this
                    exact map_ref_inj (by simpa using this)
                  subst this
                  by_cases hmk : k = m'
                  · subst hmk
                    rw [e3] at w4
                    cases w4
                    exact ⟨k, _, b', by rw [List.getElem?_set_self (List.getElem?_eq_some_iff.mp e3).1], w5, w6⟩
                  · exact ⟨m', es, b', by rw [List.getElem?_set_ne hmk]; exact w4, w5, w6⟩)
              exact p3 _ _ k3 o3
        | _ => simp only [e1] at p3; exact p3.elim
    | _ => simp only [e] at p1'; exact p1'.elim
where
  set_self {α : Type} {l : List α} {k : Nat} {x : α} (h : l[k]? = some x) : l.set k x = l := by
    have hl := (List.getElem?_eq_some_iff.mp h).1
    refine List.ext_getElem? fun j => ?_
    by_cases hij : k = j
    · subst hij; rw [List.getElem?_set_self hl, h]
    · rw [List.getElem?_set_ne hij]
theorem ne_dps {K : PySem.W.Frag} {xs ys : List D} {u v : V} {p q : Addr} {as bs : List V} (hK : g.K = K) (h : neDs xs ys = true) (h1 : H p = some (.lst as)) (h2 : Reps g H xs as) (h3 : H q = some (.lst bs)) (h4 : Reps g H ys bs) :
    ∃ d e, Dp K H (.ref p) d ∧ Dp K H (.ref q) e ∧ d.canLay0 = true ∧ e.canLay0 = true ∧ d.depth ≤ 50 ∧ PyData.eqv d e = false := by
  subst hK
  unfold neDs at h
  cases q1 : D.pys xs with
  | none => rw [q1] at h; cases h
  | some a =>
    cases q2 : D.pys ys with
    | none => rw [q1, q2] at h; cases h
    | some b =>
      rw [q1, q2] at h
      simp only [Bool.and_eq_true, decide_eq_true_eq, Bool.not_eq_true'] at h
      exact ⟨.list a, .list b, .lst (.inl (.inl h1)) (Reps.dp _ _ _ h2 q1), .lst (.inl (.inl h3)) (Reps.dp _ _ _ h4 q2), h.1, h.2.1, h.2.2.1, h.2.2.2⟩
theorem js_rem (i j : Nat) : JS g W (tDrop (tBM g.K "list" (rRem g.K) (tVar i) (tCons (tVar j) tNil))) (remM i j) := fun c H σ r Dn o p => by
  unfold remM at p
  cases e1 : r[j]? with
  | none => simp only [e1] at p; exact p.elim
  | some a =>
    cases a with
    | ali i' id =>
      obtain ⟨t, rows, p0, as, m, ds, b, q1, q2, q3, q4, q5, q6⟩ := o.ali j i' id e1
      cases e0 : r[i]? with
      | none => simp only [e1, e0] at p; exact p.elim
      | some a0 =>
        cases a0 with
        | own2 t0 rows0 =>
          simp only [e1, e0] at p
          split at p
          · rename_i hii
            subst hii
            rw [e0] at q1
            cases q1
            obtain ⟨p1, bs, O, at1⟩ := rows_at (rows := rows) (t := t) o e0 rfl
            have : p1 = p0 := by have := O.at_; rw [q2] at this; cases this; rfl
            subst this
            have : bs = as := by
              have := O.lst
              rw [q3] at this
              exact (map_ref_inj (by simpa using this)).symm
            subst this
            cases e2 : rowIx rows id with
            | none => simp only [e2] at p; exact p.elim
            | some k =>
              simp only [e2] at p
              obtain ⟨ds', e3⟩ := rowIx_at e2
              have : k = m := id_one O.ids e3 q4
              subst this
              simp only [e3] at p
              split at p
              · rename_i hc
                rw [Bool.and_eq_true] at hc
                obtain ⟨hne, hno⟩ := hc
                obtain ⟨b2, xs, z1, z2, z3⟩ := O.rk.at e3
                have : b2 = b := by rw [q5] at z1; cases z1; rfl
                subst this
                have hin : b2 ∈ bs := List.mem_of_getElem? z1
                have npq : b2 ≠ p1 := fun z => O.ne (z ▸ hin)
                have hk : k < bs.length := (List.getElem?_eq_some_iff.mp z1).1
                have hij : i' ≠ j := fun z => by subst z; rw [e0] at e1; cases e1
                refine ⟨.ref p1, O.at_, .inl ⟨rfl, _, SqL.of O.lst⟩, .ref b2, q6, ?_⟩
                refine ⟨p1, bs.map V.ref, .ref b2, k, rfl, rfl, O.lst, by rw [List.getElem?_map, z1]; rfl, fun m v hm hv => ?_, (fun z => by cases z), ⟨b2, rfl⟩, ?_⟩
                · rw [List.getElem?_map] at hv
                  cases q : bs[m]? with
                  | none => rw [q] at hv; cases hv
                  | some b3 =>
                    rw [q] at hv
                    cases hv
                    have hmr : m < rows.length := by have := (List.getElem?_eq_some_iff.mp q).1; rw [O.rk.len] at this; exact this
                    obtain ⟨b4, ys, w1, w2, w3⟩ := O.rk.at (List.getElem?_eq_getElem hmr)
                    rw [q] at w1
                    cases w1
                    have := List.all_eq_true.mp hne rows[m] (List.mem_iff_getElem?.mpr ⟨m, by rw [List.getElem?_take, if_pos hm, List.getElem?_eq_getElem hmr]⟩)
                    exact ne_dps (u := .non) (v := .non) rfl this w2 w3 z2 z3
                · have o0 : EnvOk g W.p c H σ (r.set j .un) := o.forget j (fun u rs z => by rw [e1] at z; cases z)
                  have r0 : (r.set j .un)[i']? = some (.own2 t rows) := by rw [List.getElem?_set_ne (Ne.symm hij)]; exact e0
                  obtain ⟨p2, cs, O2, at2⟩ := rows_at (rows := rows) (t := t) o0 r0 rfl
                  have : p2 = p1 := by have := O2.at_; rw [O.at_] at this; cases this; rfl
                  subst this
                  have : cs = bs := by
                    have := O2.lst
                    rw [O.lst] at this
                    exact (map_ref_inj (by simpa using this)).symm
                  subst this
                  have em : (cs.map V.ref).eraseIdx k = (cs.eraseIdx k).map V.ref := er k cs
                  have hup : ∀ b ob, H b = some ob → b ≠ p2 → upd H p2 (.lst ((cs.map V.ref).eraseIdx k)) b = some ob := fun b ob hb hn => by rw [upd_ne hn]; exact hb
                  have kp : Kp g H (upd H p2 (.lst ((cs.map V.ref).eraseIdx k))) := fun b ob hb hi => hup b ob hb (fun z => by subst z; rw [O.lst] at hb; cases hb; cases hi)
                  obtain ⟨o3, k3⟩ := o0.rows (H' := upd H p2 (.lst ((cs.map V.ref).eraseIdx k))) (rows := rows) (rows' := rows.eraseIdx k) (as' := cs.eraseIdx k) r0 O.at_ (at2 p2 (.inl rfl)) O.tag
                    (fun b ob hb hn => hup b ob hb (fun z => hn (z ▸ at2 p2 (.inl rfl))))
                    (fun b hb => by
                      by_cases z : b = p2
                      · exact ⟨_, by rw [z, upd_same]⟩
                      · obtain ⟨⟨ys, hy⟩, _⟩ := o0.at_lst hb
                        exact ⟨_, hup b _ hy z⟩)
                    (by rw [upd_same, em])
                    (RowsOk.erase k (O.rk.keep kp fun b ys hb hy => hup b _ hy (fun z => O.ne (z ▸ hb))))
                    (fun b hb => .inl (at2 b (.inr (List.mem_of_mem_eraseIdx hb))))
                    (fun hb => O.ne (List.mem_of_mem_eraseIdx hb))
                    (O.nd.sublist (List.eraseIdx_sublist _ _))
                    (by
                      have : (rows.eraseIdx k).map (·.1) = (rows.map (·.1)).eraseIdx k := (er2 k rows).symm
                      rw [this]
                      exact O.ids.sublist (List.eraseIdx_sublist _ _))
                    (fun j' id' hj => absurd hj (noAl_ok' hno j' id'))
                  have hlen : j < r.length := (List.getElem?_eq_some_iff.mp e1).1
                  have hb : upd H p2 (.lst ((cs.map V.ref).eraseIdx k)) b2 = some (.lst xs) := hup b2 _ z2 npq
                  have fr : Fresh (upd H p2 (.lst ((cs.map V.ref).eraseIdx k))) σ ((r.set j .un).set i' (.own2 t (rows.eraseIdx k))) b2 := fun l hl => by
                    by_cases hli : i' = l
                    · subst hli
                      have hl' : i' < (r.set j .un).length := (List.getElem?_eq_some_iff.mp r0).1
                      rcases hl with ⟨_, u, es, w⟩ | ⟨u, rs, p3, ds3, w1, w2, w3, w4⟩
                      · rw [List.getElem?_set_self hl'] at w; cases w
                      · rw [O.at_] at w2
                        cases w2
                        rw [upd_same, em] at w3
                        have : cs.eraseIdx k = ds3 := map_ref_inj (by simpa using w3)
                        subst this
                        rcases w4 with w4 | w4
                        · exact npq w4
                        · exact nder O.nd z1 w4
                    · have w : At H σ (r.set j .un) l b2 := by
                        rcases hl with ⟨w1, u, es, w2⟩ | ⟨u, rs, p3, ds3, w1, w2, w3, w4⟩
                        · rw [List.getElem?_set_ne hli] at w2
                          exact .inl ⟨w1, u, es, w2⟩
                        · rw [List.getElem?_set_ne hli] at w1
                          obtain ⟨p4, fs, O4⟩ := o0.own2 l u rs w1
                          have : p4 = p3 := by have := O4.at_; rw [w2] at this; cases this; rfl
                          subst this
                          have a4 : At H σ (r.set j .un) l p4 := .inr ⟨u, rs, p4, fs, w1, O4.at_, O4.lst, .inl rfl⟩
                          have n4 : p4 ≠ p2 := fun z => hli (o0.dis i' l p2 (at2 p2 (.inl rfl)) (z ▸ a4))
                          have := hup p4 _ O4.lst n4
                          rw [w3] at this
                          have : ds3 = fs := map_ref_inj (by simpa using this)
                          subst this
                          exact .inr ⟨u, rs, p4, ds3, w1, O4.at_, O4.lst, w4⟩
                      exact hli (o0.dis i' l b2 (at2 b2 (.inr hin)) w)
                  have o4 := o3.put j (v := .ref b2) (a := .own 0 ds') (fun j' id' _ => o3.noAli (fun u rs z => by
                      rw [List.getElem?_set_ne hij, List.getElem?_set_self hlen] at z
                      cases z) j' id') (fun _ z => by cases z)
                    (fun u es z => by
                      cases z
                      refine ⟨b2, xs, rfl, hb, Reps.mono kp _ _ z3, .inl rfl, (o.at_lst (at1 b2 (.inr hin))).2, fr⟩)
                    (fun _ _ z => by cases z) (fun _ _ _ z => by cases z) (fun _ _ z => by cases z)
                  rw [set_id q6] at o4
                  have er : ((r.set j .un).set i' (.own2 t (rows.eraseIdx k))).set j (.own 0 ds') = (r.set i' (.own2 t (rows.eraseIdx k))).set j (.own 0 ds') := by
                    rw [List.set_comm _ _ (Ne.symm hij), List.set_set]
                  rw [er] at o4
                  exact p _ _ k3 o4
              · exact p.elim
          · exact p.elim
        | _ => simp only [e1, e0] at p; exact p.elim
    | _ => simp only [e1] at p; exact p.elim
where
  er : ∀ (k : Nat) (l : List Addr), (l.map V.ref).eraseIdx k = (l.eraseIdx k).map V.ref
    | _, [] => by simp
    | 0, a :: l => rfl
    | k + 1, a :: l => by
      show V.ref a :: (l.map V.ref).eraseIdx k = V.ref a :: (l.eraseIdx k).map V.ref
      rw [er k l]
  er2 : ∀ (k : Nat) (l : List (Nat × List D)), (l.map (·.1)).eraseIdx k = (l.eraseIdx k).map (·.1)
    | _, [] => by simp
    | 0, a :: l => rfl
    | k + 1, a :: l => by
      show a.1 :: (l.map (·.1)).eraseIdx k = a.1 :: (l.eraseIdx k).map (·.1)
      rw [er2 k l]
  nder : ∀ {l : List Addr} {k : Nat} {a : Addr}, l.Nodup → l[k]? = some a → a ∉ l.eraseIdx k
    | [], k, a, _, h => by simp at h
    | b :: l, 0, a, nd, h => by
      simp at h
      subst h
      exact (List.nodup_cons.mp nd).1
    | b :: l, k + 1, a, nd, h => by
      have h' : l[k]? = some a := by simpa using h
      show a ∉ b :: l.eraseIdx k
      intro hm
      rcases List.mem_cons.mp hm with rfl | hm
      · exact (List.nodup_cons.mp nd).1 (List.mem_of_getElem? h')
      · exact nder (List.nodup_cons.mp nd).2 h' hm
end
end Pw

set_option Elab.async false
set_option linter.all false
set_option maxRecDepth 100000
set_option maxHeartbeats 2000000
namespace Pw
open PySem L2

/-! ### a def's promise -/
inductive Arg where
  | d (x : D) | s (i : Nat)
def adr (vs : List V) (j : Nat) : Option Addr := match vs[j]? with
  | some (.ref a) => some a
  | _ => none
def σA (vs : List V) : L2.St := vs.map some
def frA (vs : List V) (as : List A) (H : Hp) : Fr0 := { L := adr vs, M := oa H (σA vs) as, H0 := H }
/-- the tag of a list of one's own -/
def A.tag : A → Option Nat
  | .own t _ => some t
  | .own2 t _ => some t
  | _ => none
def A.plainArg : A → Bool
  | .val _ => true
  | .own _ _ => true
  | .own2 _ _ => true
  | _ => false
/-- parameters that are lists of the caller's own keep their places -/
def TagOk (as : List A) : Prop := ∀ (j : Nat) a, as[j]? = some a → a.plainArg = true ∧ ∀ t, a.tag = some t → t = j + 1
def spF (g : G) (run : List A → Res U) : Sp := fun vs H Q E => ∃ as, EnvOk g noP (frA vs as H) H (σA vs) as ∧ TagOk as ∧
  match run as with
  | .no => False
  | .ok u rs => ∀ v H', Kp g H H' → EnvOk g noP (frA vs as H) H' (σA vs) rs → RU g (frA vs as H) (σA vs) rs H' u v → Q v H'
  | .ex e rs => ∀ x xs H', Kp g H H' → EnvOk g noP (frA vs as H) H' (σA vs) rs → H' x = some (.xd (e.ns.zip xs)) → xs.length = e.ns.length → Reps g H' e.ds xs → E (.ref (He.ga g.K e.cls)) (some x) H'
/-- the parameters behind the call -/
def backP : List A → List A → Option (List A)
  | [], _ => some []
  | _ :: _, [] => none
  | a :: as, b :: r => match a.tag with
    | some t => if b.tag = some t then (backP as r).map (b :: ·) else none
    | none => (backP as r).map (a :: ·)
theorem backP_at : ∀ {as r rs : List A}, backP as r = some rs → rs.length = as.length ∧ ∀ (j : Nat) a, rs[j]? = some a → (as[j]? = some a ∧ a.tag = none) ∨ ∃ t b, as[j]? = some b ∧ b.tag = some t ∧ a.tag = some t ∧ r[j]? = some a
  | [], r, rs, h => by cases h; exact ⟨rfl, fun j a e => by simp at e⟩
  | b :: as, [], rs, h => by cases h
  | b :: as, c :: r, rs, h => by
    unfold backP at h
    have step : ∀ {x : A} {rs' : List A}, backP as r = some rs' → rs = x :: rs' → ((b = x ∧ x.tag = none) ∨ ∃ t, b.tag = some t ∧ x.tag = some t ∧ c = x) →
        rs.length = (b :: as).length ∧ ∀ (j : Nat) a, rs[j]? = some a → ((b :: as)[j]? = some a ∧ a.tag = none) ∨ ∃ t b', (b :: as)[j]? = some b' ∧ b'.tag = some t ∧ a.tag = some t ∧ (c :: r)[j]? = some a := by
      intro x rs' h1 h2 h3
      subst h2
      obtain ⟨i1, i2⟩ := backP_at h1
      refine ⟨by simp [i1], fun j a e => ?_⟩
      cases j with
      | zero =>
        simp at e
        subst e
        rcases h3 with ⟨rfl, h3⟩ | ⟨t, h3, h4, rfl⟩
        · exact .inl ⟨rfl, h3⟩
        · exact .inr ⟨t, b, rfl, h3, h4, rfl⟩
      | succ j => simpa using i2 j a (by simpa using e)
    cases q0 : b.tag with
    | none =>
      rw [q0] at h
      dsimp only at h
      cases q : backP as r with
      | none => rw [q] at h; cases h
      | some rs' => rw [q] at h; cases h; exact step (x := b) q rfl (.inl ⟨rfl, q0⟩)
    | some t =>
      rw [q0] at h
      dsimp only at h
      split at h
      · rename_i e
        cases q : backP as r with
        | none => rw [q] at h; cases h
        | some rs' => rw [q] at h; cases h; exact step (x := c) q rfl (.inr ⟨t, q0, e, rfl⟩)
      · cases h
/-- what a def's body leaves, as its call's answer -/
def endF (as : List A) : Res Fl → Res U
  | .no => .no
  | .ok .nx r => (match backP as r with
    | some rs => .ok (.val .non) rs
    | none => .no)
  | .ok (.rt (.val d)) r => (match backP as r with
    | some rs => .ok (.val d) rs
    | none => .no)
  | .ok (.rt (.fresh ds)) r => (match backP as r with
    | some rs => .ok (.fresh ds) rs
    | none => .no)
  | .ok _ _ => .no
  | .ex e r => (match backP as r with
    | some rs => .ex e rs
    | none => .no)
section
variable {g : G} {W : WP} {as rs r : List A} {vs : List V} {H H' : Hp} {σ' : L2.St}
theorem start_ok {N : List Str} (o : EnvOk g noP (frA vs as H) H (σA vs) as) : EnvOk g noP (frA vs as H) H (L2.start N vs) (as ++ List.replicate (N.length - as.length) .un) := by
  have hl : vs.length = as.length := by have := o.len; simpa [σA] using this
  have es : L2.start N vs = σA vs ++ List.replicate (N.length - as.length) none := by unfold L2.start σA; rw [hl]
  have look : ∀ (i : Nat) a, (as ++ List.replicate (N.length - as.length) A.un)[i]? = some a → a = .un ∨ as[i]? = some a ∧ (L2.start N vs)[i]? = (σA vs)[i]? := fun i a hi => by
    by_cases hlt : i < as.length
    · rw [List.getElem?_append_left hlt] at hi
      exact .inr ⟨hi, by rw [es, List.getElem?_append_left (by simp [σA, hl, hlt])]⟩
    · rw [List.getElem?_append_right (by omega)] at hi
      have := List.mem_of_getElem? hi
      rw [List.mem_replicate] at this
      exact .inl this.2
  have look2 : ∀ (i : Nat) a, as[i]? = some a → (as ++ List.replicate (N.length - as.length) A.un)[i]? = some a ∧ (L2.start N vs)[i]? = (σA vs)[i]? := fun i a hi => by
    have hlt := (List.getElem?_eq_some_iff.mp hi).1
    exact ⟨by rw [List.getElem?_append_left hlt]; exact hi, by rw [es, List.getElem?_append_left (by simp [σA, hl, hlt])]⟩
  have at' : ∀ i a, At H (L2.start N vs) (as ++ List.replicate (N.length - as.length) A.un) i a → At H (σA vs) as i a := fun i a h => by
    rcases h with ⟨h1, t, ds, h2⟩ | ⟨t, rows, p, bs, h1, h2, h3⟩
    · rcases look i _ h2 with z | ⟨z, e⟩
      · cases z
      · rw [e] at h1; exact .inl ⟨h1, t, ds, z⟩
    · rcases look i _ h1 with z | ⟨z, e⟩
      · cases z
      · rw [e] at h2; exact .inr ⟨t, rows, p, bs, z, h2, h3⟩
  refine ⟨by rw [es]; simp [σA, hl], o.fr, o.mem, fun i d hi => ?_, fun i t ds hi => ?_, fun i t rows hi => ?_, fun i j a hi hj => o.dis i j a (at' i a hi) (at' j a hj), fun i C ns ds hi => ?_, fun j i id hj => ?_⟩
  · rcases look i _ hi with z | ⟨z, e⟩
    · cases z
    · rw [e]; exact o.val i d z
  · rcases look i _ hi with z | ⟨z, e⟩
    · cases z
    · rw [e]; exact o.own i t ds z
  · rcases look i _ hi with z | ⟨z, e⟩
    · cases z
    · obtain ⟨p, bs, q⟩ := o.own2 i t rows z
      exact ⟨p, bs, by rw [e]; exact q.at_, q.lst, q.rk, q.tag, q.mine, q.ne, q.nd, q.ids⟩
  · rcases look i _ hi with z | ⟨z, e⟩
    · cases z
    · rw [e]; exact o.exn i C ns ds z
  · rcases look j _ hj with z | ⟨z, e⟩
    · cases z
    · obtain ⟨t, rows, p, bs, m, ds, b, q1, q2, q3, q4, q5, q6⟩ := o.ali j i id z
      obtain ⟨w1, w2⟩ := look2 i _ q1
      exact ⟨t, rows, p, bs, m, ds, b, w1, by rw [w2]; exact q2, q3, q4, q5, by rw [e]; exact q6⟩
/-- the parameters' own lists stand where they stood -/
theorem back_at (tg : TagOk as) (q : EnvOk g noP (frA vs as H) H' σ' r) (e : backP as r = some rs) {i t : Nat} {a : A} (hi : rs[i]? = some a) (ht : a.tag = some t) : r[i]? = some a ∧ ∃ p b, σ'[i]? = some (some (.ref p)) ∧ (σA vs)[i]? = some (some (.ref p)) ∧ as[i]? = some b ∧ b.tag = some t := by
  obtain ⟨hl, ha⟩ := backP_at e
  rcases ha i _ hi with ⟨_, z⟩ | ⟨t', b, e1, e2, e3, e4⟩
  · rw [ht] at z; cases z
  · have : t' = t := by rw [ht] at e3; cases e3; rfl
    subst this
    have hti := (tg i b e1).2 t' e2
    have fin : ∀ p, σ'[i]? = some (some (.ref p)) → (t' = 0 ∨ ∃ j, t' = j + 1 ∧ (frA vs as H).L j = some p) → (σA vs)[i]? = some (some (.ref p)) := fun p hp h4 => by
      have hp : adr vs i = some p := by
        rcases h4 with h4 | ⟨j, h4, h6⟩
        · omega
        · have : j = i := by omega
          subst this
          exact h6
      unfold adr at hp
      cases z : vs[i]? with
      | none => rw [z] at hp; cases hp
      | some v =>
        rw [z] at hp
        cases v with
        | ref a => cases hp; unfold σA; rw [List.getElem?_map, z]; rfl
        | _ => cases hp
    refine ⟨e4, ?_⟩
    cases a with
    | own u ds =>
      cases ht
      obtain ⟨p, xs, h1, h2, h3, h4, h5⟩ := q.own i _ ds e4
      exact ⟨p, b, h1, fin p h1 h4, e1, e2⟩
    | own2 u rows =>
      cases ht
      obtain ⟨p, bs, O⟩ := q.own2 i _ rows e4
      exact ⟨p, b, O.at_, fin p O.at_ O.tag, e1, e2⟩
    | _ => cases ht
theorem back_At (tg : TagOk as) (q : EnvOk g noP (frA vs as H) H' σ' r) (e : backP as r = some rs) {i : Nat} {a : Addr} (h : At H' (σA vs) rs i a) : At H' σ' r i a := by
  rcases h with ⟨h1, t, ds, h2⟩ | ⟨t, rows, p, bs, h1, h2, h3⟩
  · obtain ⟨w1, p, _, w2, w3, _⟩ := back_at tg q e h2 rfl
    rw [w3] at h1
    cases h1
    exact .inl ⟨w2, t, ds, w1⟩
  · obtain ⟨w1, p2, _, w2, w3, _⟩ := back_at tg q e h1 rfl
    have : p = p2 := by rw [w3] at h2; cases h2; rfl
    subst this
    exact .inr ⟨t, rows, p, bs, w1, w2, h3⟩
/-- behind the body: the parameters again -/
theorem back_ok (o : EnvOk g noP (frA vs as H) H (σA vs) as) (tg : TagOk as) (k : Kp g H H') (q : EnvOk g noP (frA vs as H) H' σ' r) (e : backP as r = some rs) : EnvOk g noP (frA vs as H) H' (σA vs) rs := by
  obtain ⟨hl, ha⟩ := backP_at e
  have plain : ∀ (i : Nat) (a : A), rs[i]? = some a → a.tag = none → ∃ d, a = A.val d ∧ as[i]? = some a := fun i a hi ht => by
    rcases ha i _ hi with ⟨z, _⟩ | ⟨_, _, _, _, z, _⟩
    · have := (tg i a z).1
      cases a with
      | val d => exact ⟨d, rfl, z⟩
      | own _ _ => cases ht
      | own2 _ _ => cases ht
      | _ => cases this
    · rw [ht] at z; cases z
  refine ⟨by rw [hl]; exact o.len, q.fr, q.mem, fun i d hi => ?_, fun i t ds hi => ?_, fun i t rows hi => ?_, fun i j a hi hj => q.dis i j a (back_At tg q e hi) (back_At tg q e hj), fun i C ns ds hi => ?_, fun j i id hj => ?_⟩
  · obtain ⟨d', e1, z⟩ := plain i _ hi rfl
    cases e1
    obtain ⟨v, h1, h2⟩ := o.val i d z
    exact ⟨v, h1, Rep.mono k _ _ h2⟩
  · obtain ⟨w1, p, _, w2, w3, _⟩ := back_at tg q e hi rfl
    obtain ⟨p', xs', g1, g2, g3, g4, g5⟩ := q.own i t ds w1
    rw [w2] at g1
    cases g1
    exact ⟨p, xs', w3, g2, g3, g4, g5⟩
  · obtain ⟨w1, p, _, w2, w3, _⟩ := back_at tg q e hi rfl
    obtain ⟨p', bs, O⟩ := q.own2 i t rows w1
    have : p' = p := by have := O.at_; rw [w2] at this; cases this; rfl
    subst this
    exact ⟨p', bs, w3, O.lst, O.rk, O.tag, O.mine, O.ne, O.nd, O.ids⟩
  · obtain ⟨d', e1, z⟩ := plain i _ hi rfl
    cases e1
  · obtain ⟨d', e1, z⟩ := plain j _ hj rfl
    cases e1
/-- a def's body keeps the promise -/
theorem run_F {N : List Str} {t : TS} {m : Mo Fl} {Q : VK} {E : XK} (hb : JS g ⟨fun c d _ H => E c d H, noP⟩ t m)  {run : List A → Res U} (hr : ∀ as, run as = .no ∨ run as = endF as (m (as ++ List.replicate (N.length - as.length) .un))) (h : spF g run vs H Q E) : t { nx := fun _ H' => Q .non H', rt := Q } (L2.start N vs) H := by
  obtain ⟨as, o, tg, p⟩ := h
  rcases hr as with e | e
  · rw [e] at p; exact p.elim
  rw [e] at p
  refine hb _ H _ _ _ (start_ok o) ?_
  generalize m (as ++ List.replicate (N.length - as.length) .un) = res at p
  cases res with
  | no => exact p
  | ex er r' =>
    unfold endF at p
    cases q : backP as r' with
    | none => simp only [q] at p
    | some rs =>
      simp only [q] at p
      exact fun x xs σ' H' k o' hx hl hr => p x xs H' k (back_ok o tg k o' q) hx hl hr
  | ok f r' =>
    cases f with
    | nx =>
      unfold endF at p
      cases q : backP as r' with
      | none => simp only [q] at p
      | some rs =>
        simp only [q] at p
        exact fun σ' H' k o' => p .non H' k (back_ok o tg k o' q) rfl
    | bk => exact p.elim
    | ct => exact p.elim
    | rt u =>
      cases u with
      | slot i => exact p.elim
      | val d =>
        unfold endF at p
        cases q : backP as r' with
        | none => simp only [q] at p
        | some rs =>
          simp only [q] at p
          exact fun v σ' H' k o' hv => p v H' k (back_ok o tg k o' q) hv
      | fresh ds =>
        unfold endF at p
        cases q : backP as r' with
        | none => simp only [q] at p
        | some rs =>
          simp only [q] at p
          refine fun v σ' H' k o' hv => p v H' k (back_ok o tg k o' q) ?_
          obtain ⟨pp, xs, h1, h2, h3, h4, h5⟩ := hv
          exact ⟨pp, xs, h1, h2, h3, h4, fun j hj => h5 j (back_At tg o' q hj)⟩
end
end Pw

set_option Elab.async false
set_option linter.all false
set_option maxRecDepth 100000
set_option maxHeartbeats 2000000
namespace Pw
open PySem L2

/-! ### a call -/
def A.ret (t : Nat) : A → A
  | .own _ ds => .own t ds
  | .own2 _ rows => .own2 t rows
  | a => a
theorem ret_tag {a : A} {t u : Nat} (h : a.tag = some u) : (a.ret t).tag = some t := by cases a <;> first | (cases h; done) | rfl
def mkArgs (r : List A) : Nat → List Arg → Option (List A)
  | _, [] => some []
  | j, .d x :: as => (mkArgs r (j + 1) as).map (.val x :: ·)
  | j, .s i :: as => match r[i]? with
    | some a => if a.tag.isSome = true then (mkArgs r (j + 1) as).map (a.ret (j + 1) :: ·) else none
    | none => none
def slots : List Arg → List Nat
  | [] => []
  | .d _ :: as => slots as
  | .s i :: as => i :: slots as
def put1 (r : List A) (i : Nat) (b : A) : List A := match r[i]? with
  | some a => (match a.tag with
    | some t => r.set i (b.ret t)
    | none => r)
  | none => r
def putBack : List A → List Arg → List A → List A
  | r, .s i :: as, b :: rs => putBack (put1 r i b) as rs
  | r, .d _ :: as, _ :: rs => putBack r as rs
  | r, _, _ => r
/-- no name stands for a row of the list at i -/
def noAl (r : List A) (i : Nat) : Bool := r.all fun a => match a with
  | .ali k _ => k != i
  | _ => true
theorem noAl_ok {r : List A} {i : Nat} (h : noAl r i = true) (j id : Nat) : r[j]? ≠ some (.ali i id) := fun z => by
  have := List.all_eq_true.mp h _ (List.mem_of_getElem? z)
  simp at this
def callM (run : List A → Res U) (args : List Arg) : Mo U := fun r => match mkArgs r 0 args with
  | none => .no
  | some as => if (slots args).Nodup ∧ (slots args).all (noAl r) = true then (match run as with
    | .no => .no
    | .ok u rs => okU (putBack r args rs) (some u)
    | .ex e rs => .ex e (putBack r args rs)) else .no
def argM (own : Bool) (m : Mo U) : Mo Arg := do
  let u ← m
  match own, u with
  | true, .slot i => pure (.s i)
  | _, u => do let d ← toD u; pure (.d d)
def RA0 (g : G) (σ : L2.St) (H : Hp) : Arg → V → Prop
  | .d x, v => Rep g H x v
  | .s i, v => σ[i]? = some (some v)
def RAs0 (g : G) (σ : L2.St) (H : Hp) : List Arg → List V → Prop
  | [], vs => vs = []
  | a :: as, vs => ∃ w ws, vs = w :: ws ∧ RA0 g σ H a w ∧ RAs0 g σ H as ws
def RAs (g : G) : RelT (List Arg) (List V) := fun _ σ _ H as vs => RAs0 g σ H as vs
section
variable {g : G} {W : WP} {σ : L2.St} {H H1 : Hp} {te : TE} {tA : TA} {ma : Mo U} {ms : Mo (List Arg)}
theorem RAs0.mono (k : Kp g H H1) : ∀ {as : List Arg} {vs : List V}, RAs0 g σ H as vs → RAs0 g σ H1 as vs
  | [], _, h => h
  | a :: as, _, h => by
    obtain ⟨w, ws, rfl, h1, h2⟩ := h
    refine ⟨w, ws, rfl, ?_, RAs0.mono k h2⟩
    cases a with
    | d x => exact Rep.mono k _ _ h1
    | s i => exact h1
theorem ja_arg (own : Bool) (h : J g W (RU g) te ma) : J g W (fun _ σ _ H a v => RA0 g σ H a v) (tFz te) (argM own ma) := fun c H σ r Q o p =>
  show te σ H _ from J.bind h o p fun x H1 u r1 k1 o1 h1 p1 => by
    have gen : Post g W c σ (fun _ σ _ H a v => RA0 g σ H a v) H1 ((do let d ← toD u; pure (.d d) : Mo Arg) r1) Q → (∃ p xs, x = .ref p ∧ H1 p = some (.lst xs) ∧ ∀ o, Q x (upd H1 p (.frz o (.lst xs)))) ∨ Q x H1 := fun p2 => by
      cases u with
      | val d => exact .inr (p2 x H1 (Kp.refl _) o1 h1)
      | fresh ds =>
        obtain ⟨p, xs, rfl, h2, h3, h4, h5⟩ := h1
        exact .inl ⟨p, xs, rfl, h2, fun ob => p2 _ _ (kp_frz h2) (o1.frz h2 (.inl h4) h5) ⟨p, xs, rfl, ⟨ob, upd_same⟩, Reps.mono (kp_frz h2) _ _ h3⟩⟩
      | slot i =>
        have p3 : Post g W c σ (fun _ σ _ H a v => RA0 g σ H a v) H1 (Mo.bind (Pw.toD (.slot i)) (fun d => pure (.d d)) r1) Q := p2
        unfold Mo.bind Pw.toD at p3
        obtain ⟨h2, a, h3, _⟩ := h1
        cases a with
        | own t ds =>
          obtain ⟨p, xs, h4, h5, h6, _⟩ := o1.own i t ds h3
          have : x = .ref p := by rw [h4] at h2; cases h2; rfl
          subst this
          refine .inl ⟨p, xs, rfl, h5, fun ob => ?_⟩
          obtain ⟨o2, k2, q2⟩ := o1.freeze (ob := ob) h3 h4 h5
          simp only [h3] at p3
          exact p3 _ _ k2 o2 q2
        | _ => simp only [h3] at p3; exact p3.elim
    cases own with
    | false => exact gen p1
    | true =>
      cases u with
      | slot i => exact .inr (p1 x H1 (Kp.refl _) o1 h1.1)
      | val d => exact gen p1
      | fresh ds => exact gen p1
theorem ja_nil : J g W (RAs g) tNil (pure []) := fun c H σ r Q o p => p.pure o (Kp.refl H) rfl
theorem ja_cons (own : Bool) (ha : J g W (RU g) te ma) (hb : J g W (RAs g) tA ms) : J g W (RAs g) (tCons (tFz te) tA) (do let x ← argM own ma; let xs ← ms; pure (x :: xs)) := fun c H σ r Q o p =>
  show tFz te σ H _ from J.bind (ja_arg own ha) o p fun x H1 u r1 k1 o1 h1 p1 => show tA σ H1 _ from J.bind hb o1 p1 fun y H2 w r2' k2 o2 h2 p2 => p2.pure o2 (Kp.refl _) ⟨x, y, rfl, by
    cases u with
    | d z => exact Rep.mono k2 _ _ h1
    | s i => exact h1, h2⟩
end
section
variable {r : List A}
theorem mkArgs_at : ∀ {args : List Arg} {n : Nat} {as : List A}, mkArgs r n args = some as → as.length = args.length ∧ ∀ (j : Nat) a, args[j]? = some a → (∃ x, a = .d x ∧ as[j]? = some (.val x)) ∨ ∃ (i t : Nat) (b : A), a = .s i ∧ r[i]? = some b ∧ b.tag = some t ∧ as[j]? = some (b.ret (n + j + 1))
  | [], n, as, h => by cases h; exact ⟨rfl, fun j a e => by simp at e⟩
  | .d x :: args, n, as, h => by
    unfold mkArgs at h
    cases q : mkArgs r (n + 1) args with
    | none => rw [q] at h; cases h
    | some as' =>
      rw [q] at h
      cases h
      obtain ⟨h1, h2⟩ := mkArgs_at q
      refine ⟨by simp [h1], fun j a e => ?_⟩
      cases j with
      | zero => simp at e; subst e; exact .inl ⟨x, rfl, rfl⟩
      | succ j =>
        rcases h2 j a (by simpa using e) with z | ⟨i, t, b, z1, z2, z3, z4⟩
        · exact .inl (by simpa using z)
        · exact .inr ⟨i, t, b, z1, z2, z3, by simpa [Nat.add_assoc, Nat.add_comm, Nat.add_left_comm] using z4⟩
  | .s i :: args, n, as, h => by
    unfold mkArgs at h
    cases e0 : r[i]? with
    | none => simp only [e0] at h; cases h
    | some a0 =>
      simp only [e0] at h
      split at h
      · rename_i ht
        obtain ⟨t, ht⟩ := Option.isSome_iff_exists.mp ht
        cases q : mkArgs r (n + 1) args with
        | none => rw [q] at h; cases h
        | some as' =>
          rw [q] at h
          cases h
          obtain ⟨h1, h2⟩ := mkArgs_at q
          refine ⟨by simp [h1], fun j a e => ?_⟩
          cases j with
          | zero => simp at e; subst e; exact .inr ⟨i, t, a0, rfl, e0, ht, rfl⟩
          | succ j =>
            rcases h2 j a (by simpa using e) with z | ⟨i', t', b', z1, z2, z3, z4⟩
            · exact .inl (by simpa using z)
            · exact .inr ⟨i', t', b', z1, z2, z3, by simpa [Nat.add_assoc, Nat.add_comm, Nat.add_left_comm] using z4⟩
      · cases h
theorem mem_slots : ∀ {args : List Arg} {i : Nat}, i ∈ slots args ↔ ∃ j : Nat, args[j]? = some (Arg.s i)
  | [], i => by simp [slots]
  | .d x :: args, i => by
    rw [slots, mem_slots]
    exact ⟨fun ⟨j, e⟩ => ⟨j + 1, by simpa using e⟩, fun ⟨j, e⟩ => by
      cases j with
      | zero => simp at e
      | succ j => exact ⟨j, by simpa using e⟩⟩
  | .s k :: args, i => by
    rw [slots, List.mem_cons, mem_slots]
    constructor
    · rintro (rfl | ⟨j, e⟩)
      · exact ⟨0, rfl⟩
      · exact ⟨j + 1, by simpa using e⟩
    · rintro ⟨j, e⟩
      cases j with
      | zero => simp at e; exact .inl e.symm
      | succ j => exact .inr ⟨j, by simpa using e⟩
/-- two places for one slot are one place -/
theorem slot_one : ∀ {args : List Arg} {i j k : Nat}, (slots args).Nodup → args[j]? = some (.s i) → args[k]? = some (.s i) → j = k
  | [], i, j, k, _, h, _ => by simp at h
  | a :: args, i, j, k, nd, h1, h2 => by
    have nd2 : (slots args).Nodup := by cases a with
      | d x => exact nd
      | s z => exact (List.nodup_cons.mp nd).2
    cases j with
    | zero =>
      cases k with
      | zero => rfl
      | succ k =>
        simp at h1
        subst h1
        exact absurd (mem_slots.mpr ⟨k, by simpa using h2⟩) (List.nodup_cons.mp nd).1
    | succ j =>
      cases k with
      | zero =>
        simp at h2
        subst h2
        exact absurd (mem_slots.mpr ⟨j, by simpa using h1⟩) (List.nodup_cons.mp nd).1
      | succ k =>
        have := slot_one (i := i) (j := j) (k := k) nd2 (by simpa using h1) (by simpa using h2)
        omega
theorem put1_at {i t : Nat} {a b : A} (h : r[i]? = some a) (ht : a.tag = some t) : put1 r i b = r.set i (b.ret t) := by unfold put1; simp only [h, ht]
theorem putBack_at : ∀ {args : List Arg} {rs r : List A}, (slots args).Nodup → rs.length = args.length → (∀ k ∈ slots args, ∃ (a : A) (t : Nat), r[k]? = some a ∧ a.tag = some t) →
    (putBack r args rs).length = r.length ∧ ∀ (k : Nat) a, (putBack r args rs)[k]? = some a → (r[k]? = some a ∧ k ∉ slots args) ∨ ∃ (j t : Nat) (b c : A), args[j]? = some (.s k) ∧ rs[j]? = some b ∧ r[k]? = some c ∧ c.tag = some t ∧ a = b.ret t
  | [], rs, r, _, hl, _ => by
    cases rs with
    | nil => exact ⟨rfl, fun k a e => .inl ⟨e, by simp [slots]⟩⟩
    | cons _ _ => simp at hl
  | a :: args, [], r, _, hl, _ => by simp at hl
  | .d x :: args, b :: rs, r, nd, hl, hr => by
    obtain ⟨h1, h2⟩ := putBack_at (args := args) (rs := rs) (r := r) nd (by simpa using hl) hr
    refine ⟨h1, fun k a z => ?_⟩
    rcases h2 k a z with z | ⟨j, t, b', c, z1, z2, z3⟩
    · exact .inl z
    · exact .inr ⟨j + 1, t, b', c, by simpa using z1, by simpa using z2, z3⟩
  | .s i :: args, b :: rs, r, nd, hl, hr => by
    obtain ⟨a0, t, hi, ht⟩ := hr i (by simp [slots])
    have nd' := List.nodup_cons.mp nd
    show (putBack (put1 r i b) args rs).length = r.length ∧ ∀ (k : Nat) a, (putBack (put1 r i b) args rs)[k]? = some a → _
    rw [put1_at hi ht]
    obtain ⟨h1, h2⟩ := putBack_at (args := args) (rs := rs) (r := r.set i (b.ret t)) nd'.2 (by simpa using hl) (fun k hk => by
      have hne : i ≠ k := fun z => nd'.1 (z ▸ hk)
      rw [List.getElem?_set_ne hne]
      exact hr k (by simp [slots, hk]))
    refine ⟨by rw [h1, List.length_set], fun k a z => ?_⟩
    rcases h2 k a z with ⟨z1, z2⟩ | ⟨j, t', b', c, z1, z2, z3, z4⟩
    · by_cases hk : i = k
      · subst hk
        have hl' : i < r.length := (List.getElem?_eq_some_iff.mp hi).1
        rw [List.getElem?_set_self hl'] at z1
        exact .inr ⟨0, t, b, a0, rfl, rfl, hi, ht, (Option.some.inj z1).symm⟩
      · rw [List.getElem?_set_ne hk] at z1
        exact .inl ⟨z1, by simp [slots, z2, Ne.symm hk]⟩
    · have hne : i ≠ k := fun z => nd'.1 (z ▸ mem_slots.mpr ⟨j, z1⟩)
      rw [List.getElem?_set_ne hne] at z3
      exact .inr ⟨j + 1, t', b', c, by simpa using z1, by simpa using z2, z3, z4⟩
end
section
variable {g : G} {W : WP} {c : Fr0} {σ : L2.St} {H H' : Hp} {r : List A} {te : TE} {tA : TA} {ma : Mo U} {ms : Mo (List Arg)} {run : List A → Res U}
theorem RAs0.at : ∀ {args : List Arg} {vs : List V}, RAs0 g σ H args vs → vs.length = args.length ∧ ∀ (j : Nat) a, args[j]? = some a → ∃ v, vs[j]? = some v ∧ RA0 g σ H a v
  | [], vs, h => by cases h; exact ⟨rfl, fun j a e => by simp at e⟩
  | b :: args, vs, h => by
    obtain ⟨w, ws, rfl, h1, h2⟩ := h
    obtain ⟨l, q⟩ := RAs0.at h2
    refine ⟨by simp [l], fun j a e => ?_⟩
    cases j with
    | zero => simp at e; subst e; exact ⟨w, rfl, h1⟩
    | succ j => simpa using q j a (by simpa using e)
theorem sA_at {vs : List V} {j : Nat} {v : V} (h : vs[j]? = some v) : (σA vs)[j]? = some (some v) := by unfold σA; rw [List.getElem?_map, h]; rfl
/-- the callee's view of its parameters -/
theorem args_ok {args : List Arg} {vs : List V} {as : List A} (o : EnvOk g W.p c H σ r) (h : RAs0 g σ H args vs) (e : mkArgs r 0 args = some as) (nd : (slots args).Nodup) :
    EnvOk g noP (frA vs as H) H (σA vs) as ∧ TagOk as ∧ ∀ (j : Nat) (a : Addr), At H (σA vs) as j a → ∃ i, args[j]? = some (.s i) ∧ At H σ r i a := by
  obtain ⟨l1, a1⟩ := mkArgs_at e
  obtain ⟨l2, a2⟩ := h.at
  have arg : ∀ (j : Nat) a, as[j]? = some a → ∃ b, args[j]? = some b := fun j a z => by
    have hl := (List.getElem?_eq_some_iff.mp z).1
    exact ⟨_, List.getElem?_eq_getElem (by omega)⟩
  have own : ∀ (j : Nat) (a : A), as[j]? = some a → (∃ d, a = .val d ∧ ∃ v, (σA vs)[j]? = some (some v) ∧ Rep g H d v) ∨ ∃ (i t : Nat) (b : A), args[j]? = some (.s i) ∧ r[i]? = some b ∧ b.tag = some t ∧ a = b.ret (j + 1) ∧ ∃ v, (σA vs)[j]? = some (some v) ∧ σ[i]? = some (some v) := fun j a z => by
    obtain ⟨b, hb⟩ := arg j _ z
    rcases a1 j b hb with ⟨x, rfl, q⟩ | ⟨i, t, b', rfl, q1, q2, q3⟩
    · rw [z] at q
      cases q
      obtain ⟨v, v1, v2⟩ := a2 j _ hb
      exact .inl ⟨x, rfl, v, sA_at v1, v2⟩
    · rw [z] at q3
      obtain ⟨v, v1, v2⟩ := a2 j _ hb
      exact .inr ⟨i, t, b', hb, q1, q2, by rw [Option.some.inj q3, Nat.zero_add], v, sA_at v1, v2⟩
  have at' : ∀ (j : Nat) (a : Addr), At H (σA vs) as j a → ∃ i, args[j]? = some (.s i) ∧ At H σ r i a := fun j a ha => by
    rcases ha with ⟨h1, t, ds, h2⟩ | ⟨t, rows, p, bs, h1, h2, h3⟩
    · rcases own j _ h2 with ⟨d, z, _⟩ | ⟨i, u, b, z1, z2, z3, z4, v, z5, z6⟩
      · cases z
      · rw [h1] at z5
        cases z5
        cases b with
        | own u' es => exact ⟨i, z1, .inl ⟨z6, _, _, z2⟩⟩
        | own2 u' es => cases z4
        | _ => cases z3
    · rcases own j _ h1 with ⟨d, z, _⟩ | ⟨i, u, b, z1, z2, z3, z4, v, z5, z6⟩
      · cases z
      · rw [h2] at z5
        cases z5
        cases b with
        | own u' es => cases z4
        | own2 u' es => exact ⟨i, z1, .inr ⟨_, _, p, bs, z2, z6, h3⟩⟩
        | _ => cases z3
  have tagL : ∀ (j : Nat) (p : Addr), (σA vs)[j]? = some (some (.ref p)) → (j + 1 = 0 ∨ ∃ m, j + 1 = m + 1 ∧ (frA vs as H).L m = some p) := fun j p hp => by
    refine .inr ⟨j, rfl, ?_⟩
    show adr vs j = some p
    unfold σA at hp
    rw [List.getElem?_map] at hp
    unfold adr
    cases z : vs[j]? with
    | none => rw [z] at hp; cases hp
    | some w => rw [z] at hp; cases hp; rfl
  refine ⟨⟨by simp [σA, l1, l2], fun b ob hb _ => hb, fun b ⟨j, hj⟩ => ?_, fun j d z => ?_, fun j t ds z => ?_, fun j t rows z => ?_, fun j k a hj hk => ?_, fun j C ns ds z => ?_, fun j i id z => ?_⟩, fun j a z => ?_, at'⟩
  · obtain ⟨i, _, hi⟩ := at' j b hj
    obtain ⟨⟨xs, ex⟩, _⟩ := o.at_lst hi
    exact ⟨_, ex⟩
  · rcases own j _ z with ⟨d', e1, v, v1, v2⟩ | ⟨i, u, b, z1, z2, z3, z4, _⟩
    · cases e1; exact ⟨v, v1, v2⟩
    · cases b with
      | own _ _ => cases z4
      | own2 _ _ => cases z4
      | _ => cases z3
  · rcases own j _ z with ⟨d', e1, _⟩ | ⟨i, u, b, z1, z2, z3, z4, v, z5, z6⟩
    · cases e1
    · cases b with
      | own u' es =>
        cases z4
        obtain ⟨p, xs, g1, g2, g3, _⟩ := o.own i _ _ z2
        rw [z6] at g1
        cases g1
        exact ⟨p, xs, z5, g2, g3, tagL j p z5, .inr ⟨j, .inl ⟨z5, _, _, z⟩⟩⟩
      | own2 _ _ => cases z4
      | _ => cases z3
  · rcases own j _ z with ⟨d', e1, _⟩ | ⟨i, u, b, z1, z2, z3, z4, v, z5, z6⟩
    · cases e1
    · cases b with
      | own _ _ => cases z4
      | own2 u' es =>
        cases z4
        obtain ⟨p, bs, O⟩ := o.own2 i _ _ z2
        have : v = .ref p := by have := O.at_; rw [z6] at this; cases this; rfl
        subst this
        exact ⟨p, bs, z5, O.lst, O.rk, tagL j p z5, fun a ha => .inr ⟨j, .inr ⟨_, _, p, bs, z, z5, O.lst, ha⟩⟩, O.ne, O.nd, O.ids⟩
      | _ => cases z3
  · obtain ⟨i1, q1, w1⟩ := at' j a hj
    obtain ⟨i2, q2, w2⟩ := at' k a hk
    have : i1 = i2 := o.dis i1 i2 a w1 w2
    subst this
    exact slot_one nd q1 q2
  · rcases own j _ z with ⟨d', e1, _⟩ | ⟨i, u, b, z1, z2, z3, z4, _⟩
    · cases e1
    · cases b with
      | own _ _ => cases z4
      | own2 _ _ => cases z4
      | _ => cases z3
  · rcases own j _ z with ⟨d', e1, _⟩ | ⟨i, u, b, z1, z2, z3, z4, _⟩
    · cases e1
    · cases b with
      | own _ _ => cases z4
      | own2 _ _ => cases z4
      | _ => cases z3
  · rcases own j _ z with ⟨d', e1, _⟩ | ⟨i, u, b, z1, z2, z3, z4, _⟩
    · subst e1; exact ⟨rfl, fun t ht => by cases ht⟩
    · subst z4
      cases b with
      | own _ _ => exact ⟨rfl, fun t ht => by cases ht; rfl⟩
      | own2 _ _ => exact ⟨rfl, fun t ht => by cases ht; rfl⟩
      | _ => cases z3
/-- answers leave the own lists own -/
def RunEnd (as rs : List A) : Prop := rs.length = as.length ∧ ∀ (j t : Nat) (a : A), as[j]? = some a → a.tag = some t → ∃ b, rs[j]? = some b ∧ b.tag = some t
def RunOk (run : List A → Res U) : Prop := ∀ as, (∀ u rs, run as = .ok u rs → RunEnd as rs) ∧ ∀ e rs, run as = .ex e rs → RunEnd as rs
/-- the caller behind the call -/
theorem call_back {args : List Arg} {vs : List V} {as rs : List A} (o : EnvOk g W.p c H σ r) (h : RAs0 g σ H args vs) (e : mkArgs r 0 args = some as) (nd : (slots args).Nodup) (na : (slots args).all (noAl r) = true) (k : Kp g H H')
    (q : EnvOk g noP (frA vs as H) H' (σA vs) rs) (hrs : RunEnd as rs) : EnvOk g W.p c H' σ (putBack r args rs) ∧ ∀ i a, At H' σ (putBack r args rs) i a → (i ∉ slots args ∧ At H σ r i a) ∨ ∃ j : Nat, args[j]? = some (.s i) ∧ At H' (σA vs) rs j a := by
  obtain ⟨oa1, ot, at'⟩ := args_ok o h e nd
  obtain ⟨l1, a1⟩ := mkArgs_at e
  obtain ⟨l2, a2⟩ := h.at
  have hr : ∀ k ∈ slots args, ∃ (a : A) (t : Nat), r[k]? = some a ∧ a.tag = some t := fun i hi => by
    obtain ⟨j, hj⟩ := mem_slots.mp hi
    rcases a1 j _ hj with ⟨x, q1, _⟩ | ⟨i', t, b, q1, q2, q3, _⟩
    · cases q1
    · cases q1; exact ⟨b, t, q2, q3⟩
  obtain ⟨pl, pa⟩ := putBack_at nd (by rw [hrs.1, l1]) hr
  have nal : ∀ i ∈ slots args, ∀ j id : Nat, r[j]? ≠ some (A.ali i id) := fun i hi => noAl_ok (List.all_eq_true.mp na i hi)
  -- an address among the parameters' own lists is a slot's of the caller's
  have mine : ∀ b, oa H (σA vs) as b → ∃ i, i ∈ slots args ∧ At H σ r i b := fun b ⟨j, hj⟩ => by
    obtain ⟨i, q1, q2⟩ := at' j b hj
    exact ⟨i, mem_slots.mpr ⟨j, q1⟩, q2⟩
  have keep : ∀ b ob, H b = some ob → ¬ oa H (σA vs) as b → H' b = some ob := fun b ob hb hn => q.fr b ob hb hn
  have kept : ∀ i b ob, i ∉ slots args → At H σ r i b → H b = some ob → H' b = some ob := fun i b ob hi hb ho => keep b ob ho fun z => by
    obtain ⟨i2, w1, w2⟩ := mine b z
    have := o.dis i2 i b w2 hb
    exact hi (this ▸ w1)
  -- a slot that was handed over
  have given : ∀ (i j t u : Nat) (b cc : A), args[j]? = some (.s i) → rs[j]? = some b → r[i]? = some cc → cc.tag = some t → b.tag = some u → ∃ p, σ[i]? = some (some (.ref p)) ∧ (σA vs)[j]? = some (some (.ref p)) ∧ (t = 0 ∨ ∃ m, t = m + 1 ∧ c.L m = some p) := fun i j t u b cc z1 z2 z3 z4 z5 => by
    have hp : ∃ p, (σA vs)[j]? = some (some (.ref p)) := by
      cases b with
      | own u' ds => obtain ⟨p, xs, g1, _⟩ := q.own j _ _ z2; exact ⟨p, g1⟩
      | own2 u' rows => obtain ⟨p, bs, O⟩ := q.own2 j _ _ z2; exact ⟨p, O.at_⟩
      | _ => cases z5
    obtain ⟨p, hp⟩ := hp
    obtain ⟨v, v1, v2⟩ := a2 j _ z1
    rw [sA_at v1] at hp
    have ev : v = .ref p := by cases hp; rfl
    subst ev
    refine ⟨p, v2, sA_at v1, ?_⟩
    cases cc with
    | own t' ds =>
      cases z4
      obtain ⟨p', xs, g1, _, _, g4, _⟩ := o.own i _ _ z3
      have v2' : σ[i]? = some (some (.ref p)) := v2
      rw [v2'] at g1
      cases g1
      exact g4
    | own2 t' rows =>
      cases z4
      obtain ⟨p', bs, O⟩ := o.own2 i _ _ z3
      have v2' : σ[i]? = some (some (.ref p)) := v2
      have : p' = p := by have := O.at_; rw [v2'] at this; cases this; rfl
      subst this
      exact O.tag
    | _ => cases z4
  have btag : ∀ (i j t : Nat) (b cc : A), args[j]? = some (.s i) → rs[j]? = some b → r[i]? = some cc → cc.tag = some t → b.tag = some (j + 1) := fun i j t b cc z1 z2 z3 z4 => by
    rcases a1 j _ z1 with ⟨x, q1, _⟩ | ⟨i', t', b', q1, q2, q3, q4⟩
    · cases q1
    · cases q1
      obtain ⟨b2, w1, w2⟩ := hrs.2 j (0 + j + 1) _ q4 (ret_tag q3)
      rw [z2] at w1
      cases w1
      rw [w2, Nat.zero_add]
  have atp : ∀ i a, At H' σ (putBack r args rs) i a → (i ∉ slots args ∧ At H σ r i a) ∨ ∃ j : Nat, args[j]? = some (.s i) ∧ At H' (σA vs) rs j a := fun i a ha => by
    rcases ha with ⟨h1, t, ds, h2⟩ | ⟨t, rows, p, bs, h1, h2, h3, h4⟩
    · rcases pa i _ h2 with ⟨z, hn⟩ | ⟨j, t', b, cc, z1, z2, z3, z4, z5⟩
      · exact .inl ⟨hn, .inl ⟨h1, t, ds, z⟩⟩
      · obtain ⟨p, w1, w2, _⟩ := given i j t' _ b cc z1 z2 z3 z4 (btag i j t' b cc z1 z2 z3 z4)
        rw [h1] at w1
        cases w1
        have bt := btag i j t' b cc z1 z2 z3 z4
        cases b with
        | own u ds' => exact .inr ⟨j, z1, .inl ⟨w2, _, _, z2⟩⟩
        | own2 u rows => cases z5
        | _ => cases bt
    · rcases pa i _ h1 with ⟨z, hn⟩ | ⟨j, t', b, cc, z1, z2, z3, z4, z5⟩
      · obtain ⟨p2, as2, O⟩ := o.own2 i t rows z
        have : p2 = p := by have := O.at_; rw [h2] at this; cases this; rfl
        subst this
        have e2 := kept i p2 _ hn (.inr ⟨t, rows, p2, as2, z, O.at_, O.lst, .inl rfl⟩) O.lst
        have : as2 = bs := by
          rw [h3] at e2
          exact (map_ref_inj (by simpa using e2)).symm
        subst this
        exact .inl ⟨hn, .inr ⟨t, rows, p2, as2, z, O.at_, O.lst, h4⟩⟩
      · obtain ⟨p2, w1, w2, _⟩ := given i j t' _ b cc z1 z2 z3 z4 (btag i j t' b cc z1 z2 z3 z4)
        have : p = p2 := by rw [h2] at w1; cases w1; rfl
        subst this
        have bt := btag i j t' b cc z1 z2 z3 z4
        cases b with
        | own u ds' => cases z5
        | own2 u rows' => exact .inr ⟨j, z1, .inr ⟨_, _, p, bs, z2, w2, h3, h4⟩⟩
        | _ => cases bt
  have qin : ∀ (j : Nat) (a : Addr), At H' (σA vs) rs j a → H a = none ∨ ∃ i, i ∈ slots args ∧ At H σ r i a := fun j a hj => by
    rcases (q.at_lst hj).2 with z | z
    · exact .inl z
    · exact .inr (mine a z)
  have own0 : ∀ (j : Nat) (a : Addr), At H' (σA vs) rs j a → c.H0 a = none ∨ c.M a := fun j a hj => by
    rcases qin j a hj with z | ⟨i, _, z⟩
    · exact .inl (o.new0 z)
    · exact (o.at_lst z).2
  refine ⟨⟨by rw [pl]; exact o.len, fun b ob hb hm => ?_, fun b hb => ?_, fun i d hi => ?_, fun i t ds hi => ?_, fun i t rows hi => ?_, fun i j a hi hj => ?_, fun i C ns ds hi => ?_, fun j i id hj => ?_⟩, atp⟩
  · refine keep b ob (o.fr b ob hb hm) fun z => ?_
    obtain ⟨i, _, w⟩ := mine b z
    rcases (o.at_lst w).2 with h4 | h4
    · rw [h4] at hb; cases hb
    · exact hm h4
  · by_cases z : oa H (σA vs) as b
    · exact q.mem b z
    · obtain ⟨ob, hob⟩ := o.mem b hb
      exact ⟨ob, keep b ob hob z⟩
  · rcases pa i _ hi with ⟨z, _⟩ | ⟨j, t', b, cc, z1, z2, z3, z4, z5⟩
    · obtain ⟨v, h1, h2⟩ := o.val i d z
      exact ⟨v, h1, Rep.mono k _ _ h2⟩
    · have bt := btag i j t' b cc z1 z2 z3 z4
      cases b <;> first | (cases bt; done) | cases z5
  · rcases pa i _ hi with ⟨z, hn⟩ | ⟨j, t', b, cc, z1, z2, z3, z4, z5⟩
    · obtain ⟨p, xs, h1, h2, h3, h4, h5⟩ := o.own i t ds z
      exact ⟨p, xs, h1, kept i p _ hn (.inl ⟨h1, t, ds, z⟩) h2, Reps.mono k _ _ h3, h4, h5⟩
    · have bt := btag i j t' b cc z1 z2 z3 z4
      cases b with
      | own u ds' =>
        cases z5
        obtain ⟨p, w1, w2, w3⟩ := given i j _ _ _ cc z1 z2 z3 z4 bt
        obtain ⟨p', xs, g1, g2, g3, _⟩ := q.own j _ _ z2
        rw [w2] at g1
        cases g1
        exact ⟨p, xs, w1, g2, g3, w3, own0 j p (.inl ⟨w2, _, _, z2⟩)⟩
      | own2 u rows => cases z5
      | _ => cases bt
  · rcases pa i _ hi with ⟨z, hn⟩ | ⟨j, t', b, cc, z1, z2, z3, z4, z5⟩
    · obtain ⟨p, bs, O⟩ := o.own2 i t rows z
      have a2' : ∀ b, b = p ∨ b ∈ bs → At H σ r i b := fun b hb => .inr ⟨t, rows, p, bs, z, O.at_, O.lst, hb⟩
      exact ⟨p, bs, O.at_, kept i p _ hn (a2' p (.inl rfl)) O.lst, O.rk.keep k fun b xs hb hx => kept i b _ hn (a2' b (.inr hb)) hx, O.tag, O.mine, O.ne, O.nd, O.ids⟩
    · have bt := btag i j t' b cc z1 z2 z3 z4
      cases b with
      | own u ds' => cases z5
      | own2 u rows' =>
        cases z5
        obtain ⟨p, w1, w2, w3⟩ := given i j _ _ _ cc z1 z2 z3 z4 bt
        obtain ⟨p', bs, O⟩ := q.own2 j _ _ z2
        have : p' = p := by have := O.at_; rw [w2] at this; cases this; rfl
        subst this
        exact ⟨p', bs, w1, O.lst, O.rk, w3, fun a ha => own0 j a (.inr ⟨_, _, p', bs, z2, w2, O.lst, ha⟩), O.ne, O.nd, O.ids⟩
      | _ => cases bt
  · rcases atp i a hi with ⟨n1, z1⟩ | ⟨j1, z1, w1⟩
    · rcases atp j a hj with ⟨n2, z2⟩ | ⟨j2, z2, w2⟩
      · exact o.dis i j a z1 z2
      · rcases qin j2 a w2 with z | ⟨i2, m1, m2⟩
        · obtain ⟨⟨xs, ex⟩, _⟩ := o.at_lst z1
          rw [z] at ex; cases ex
        · exact absurd (o.dis i2 i a m2 z1 ▸ m1) n1
    · rcases atp j a hj with ⟨n2, z2⟩ | ⟨j2, z2, w2⟩
      · rcases qin j1 a w1 with z | ⟨i2, m1, m2⟩
        · obtain ⟨⟨xs, ex⟩, _⟩ := o.at_lst z2
          rw [z] at ex; cases ex
        · exact absurd (o.dis i2 j a m2 z2 ▸ m1) n2
      · have := q.dis j1 j2 a w1 w2
        subst this
        rw [z1] at z2
        cases z2
        rfl
  · rcases pa i _ hi with ⟨z, _⟩ | ⟨j, t', b, cc, z1, z2, z3, z4, z5⟩
    · obtain ⟨a, x, xs, h1, h2, h3, h4, h5⟩ := o.exn i C ns ds z
      exact ⟨a, x, xs, h1, h2, k _ _ h3 rfl, h4, Reps.mono k _ _ h5⟩
    · have bt := btag i j t' b cc z1 z2 z3 z4
      cases b <;> first | (cases bt; done) | cases z5
  · rcases pa j _ hj with ⟨z, _⟩ | ⟨j', t', b, cc, z1, z2, z3, z4, z5⟩
    · obtain ⟨t, rows, p, bs, m, ds, a, q1, q2, q3, q4, q5, q6⟩ := o.ali j i id z
      have hn : i ∉ slots args := fun w => nal i w j id z
      have hl : i < (putBack r args rs).length := by rw [pl]; exact (List.getElem?_eq_some_iff.mp q1).1
      have hi' : (putBack r args rs)[i]? = some (.own2 t rows) := by
        rcases pa i _ (List.getElem?_eq_getElem hl) with ⟨w, _⟩ | ⟨j2, _, _, _, w1, _⟩
        · rw [List.getElem?_eq_getElem hl]
          rw [q1] at w
          exact w.symm
        · exact absurd (mem_slots.mpr ⟨j2, w1⟩) hn
      exact ⟨t, rows, p, bs, m, ds, a, hi', q2, kept i p _ hn (.inr ⟨t, rows, p, bs, q1, q2, q3, .inl rfl⟩) q3, q4, q5, q6⟩
    · have bt := btag j j' t' b cc z1 z2 z3 z4
      cases b <;> first | (cases bt; done) | cases z5
theorem ju_call (ro : RunOk run) (h : J g W (RAs g) tA ms) : J g W (RU g) (tCallS (spF g run) (WE W.w) tA) (do let as ← ms; callM run as) := fun c H σ r Q o p =>
  show tA σ H _ from J.bind h o p fun vs H1 args r1 k1 o1 h1 p1 => by
    have p2 : Post g W c σ (RU g) H1 (callM run args r1) Q := p1
    unfold callM at p2
    cases e : mkArgs r1 0 args with
    | none => simp only [e] at p2; exact p2.elim
    | some as =>
      simp only [e] at p2
      split at p2
      · rename_i nd
        obtain ⟨oa1, ot, at'⟩ := args_ok o1 h1 e nd.1
        refine ⟨as, oa1, ot, ?_⟩
        cases e2 : run as with
        | no => simp only [e2] at p2; exact p2.elim
        | ex er rs =>
          simp only [e2] at p2
          exact fun x xs H' k q hx hl hr => p2 x xs H' k (call_back o1 h1 e nd.1 nd.2 k q ((ro as).2 er rs e2)).1 hx hl hr
        | ok u rs =>
          simp only [e2] at p2
          refine fun v H' k q hv => ?_
          obtain ⟨o3, at3⟩ := call_back o1 h1 e nd.1 nd.2 k q ((ro as).1 u rs e2)
          cases u with
          | val d => exact p2 v H' k o3 hv
          | slot i => exact p2.elim
          | fresh ds =>
            obtain ⟨pp, xs, rfl, h2, h3, h4, h5⟩ := hv
            have h4' : H1 pp = none := h4
            refine p2 _ H' k o3 ⟨pp, xs, rfl, h2, h3, o1.new0 h4', fun i hi => ?_⟩
            rcases at3 i pp hi with ⟨_, z⟩ | ⟨j, _, z⟩
            · exact o1.fresh h4' i z
            · exact h5 j z
      · exact p2.elim
end
end Pw

set_option Elab.async false
set_option linter.all false
set_option maxRecDepth 100000
set_option maxHeartbeats 2000000
/-! an own error: super().__init__('..'); self.f = f -/
namespace PySem
namespace PwX
open PySem.W PySem.Calls PyProof.Rows PySem.HandSPX
/-- what the written part says of the class at C, its __init__ at fI (found in the class at D, whose cell is cc, its code at cda) -/
structure ErrTxt (K : Frag) (prog : Program) (f : Str) (C D fI cc cda : Addr) (qual : Str) (params : Arguments) (body : List Stmt) (scope : Scope) : Prop where
  cls : ∃ nm q N bs bm sn sub ab col dd k0 k1 k2 k3 k5, K.lookup C = some (excClassObj nm q C N bs bm true sn sub ab col dd k0 k1 k2 k3 k5 "ValueError.__new__") ∧ refsVE bm = true
  sa : findIn K (.ref C) "__setattr__" = some (some (.builtin "object.__setattr__"))
  noN : findIn K (.ref C) f = some none
  iC : findIn K (.ref C) "__init__" = some (some (.ref fI))
  tC : typeIn K (.ref fI) = some (.type "function")
  kC : keepIn K (.ref C) = true
  exC : subIn K (.ref C) (.type "BaseException") = some true
  veC : subIn K (.ref C) (.type "ValueError") = some true
  tyC : typeIn K (.ref C) = some (.type "type")
  fn : ∃ (oc : Value) (od : Option Addr) (dV kV doc pm ct : Value) (an : Option Addr) (osl : Array (Option Value)), K.lookup fI = some ⟨oc, od, .func (ksFn "__init__" qual params body scope dV kV doc pm an (.ref cda) ct cc), osl⟩ ∧
    ∀ (x u : Value), bindArgs (ksFn "__init__" qual params body scope dV kV doc pm an (.ref cda) ct cc) ⟨[x, u], []⟩ = pure [(("self" : Str), x), (f, u)]
  code : codeIn K (.ref cda) qual = true
  file : ∃ (ccl : Value) (cdd : Option Addr) (vs : Array Value) (ccs : Array (Option Value)) (file : Str) (tf : Tok), K.lookup cda = some ⟨ccl, cdd, .fields vs, ccs⟩ ∧ vs[2]? = some (.str file tf) ∧ ((prog.main.file : Str) == file) = true
  cell : ∃ (cl : Value) (cld : Option Addr) (csl : Array (Option Value)) (cdD : ClassData), K.lookup cc = some ⟨cl, cld, .cell (some (.ref D)), csl⟩ ∧ clsIn K D = some cdD ∧ mroIn K C (.ref D) = some true
  sup : ks_superIn K C D "__init__" = some (some (.builtin "ValueError.__init__"))
  opq : nsIn K cStatics "thirdparty.any" = some none
  top : (prog.main.scope.names.lookup ("super" : Str)).isSome = false
  hd : (params.posonlyargs ++ params.args).head?.map (·.arg) = some ("self" : Str)
  text : ∃ (m : Str) (j : Nat) (p0 p1 p2 p3 p4 p5 q1 q2 q3 q4 : Pos), (p2.endLine == p4.line) = true ∧ body = [.Expr (.Call (.Attribute (.Call (.Name "super" p0) [] [] p1) "__init__" p2) [.Constant (.str m) j p3] [] p4) p5, .Assign [.Attribute (.Name "self" q1) f q2] (.Name f q3) q4]
  s1 : scope.names.lookup ("super" : Str) = some .globalImplicit
  s2 : scope.names.lookup ("__class__" : Str) = some .free
  s3 : scope.names.lookup ("self" : Str) = some .local
  s4 : scope.names.lookup f = some .local
  s5 : scope.kind = .function
  s6 : scope.isCoroutine = false
  s7 : scope.isGenerator = false
  s8 : ∀ x ∈ scope.names, x.2 ≠ .cell
  s9 : f ≠ ("self" : Str) ∧ (f == ("__debug__" : Str)) = false
theorem one_size (v : Value) : [v].length ≤ sizeLine := by
  rw [sizeLine_eq]
  exact (by decide : 1 ≤ 16777216)
/-- super().__init__ of the object at x, called: the arguments are laid anew -/
theorem call_wrap {prog : Program} {w : World} {A : Around} {E : Value → Shared → Prop} {s : Shared} {C x u t0 : Addr} {rest : List Value} {Q : Value → Shared → Prop}
    (hC : ∃ nm q N bs bm sn sub ab col dd k0 k1 k2 k3 k5, s.heap.get? C = some (excClassObj nm q C N bs bm true sn sub ab col dd k0 k1 k2 k3 k5 "ValueError.__new__"))
    (hu : s.heap.get? u = some (kxs_mw "ValueError.__init__" x)) (he : s.heap.get? x = some (excO C t0)) (hz : rest.length ≤ sizeLine)
    (fin : ∀ h', (∀ b o, b ≠ x → s.heap.get? b = some o → h'.get? b = some o) → h'.get? x = some (excO C s.heap.objs.size) → Q .none { s with heap := h' }) :
    wpAny (model prog w) A (call (.ref u) rest) Q E s := by
  obtain ⟨nm, qn, N', bs, bm, sn, sub, ab, col, dd, k0, k1, k2, k3, k5, hC⟩ := hC
  obtain ⟨hh, g, d, tk, os⟩ := s
  refine wpAny_call (codeAny_of_tree ?_)
  show wpAny _ A.in1 (callAny (.ref u) ⟨rest, []⟩) _ _ _
  simp only [callAny]
  refine wpAny_bind (wpAny_load hu ?_)
  simp only [kxs_mw, show (Value.type "method-wrapper" == Value.type "method" || Value.type "method-wrapper" == Value.type "builtin_function_or_method" || Value.type "method-wrapper" == Value.type "method-wrapper") = true by decide, if_true]
  refine KFB.if_so (by decide) ?_
  have FB := F.excBase_ValueError
  refine wpAny_bind (check_bound_init FB.toExcCallFacts hC he rfl ?_)
  refine wpAny_bind (wpAny_pure (wpAny_pure ?_))
  refine ⟨plainId_quiet FB.init.plain _, codeAny_builtin FB.initEntry ?_⟩
  exact exc_init_tree (cls := .ref C) (t0 := t0) (dv := none) (c2 := .none) (c3 := .none) (b4 := .bool false) he hz fun h' k e _ => fin h' k e
/-- what __init__ leaves of a fresh exception at x -/
structure InitEnd (f : Str) (h h' : Heap) (x C dx t1 : Addr) (v : Value) : Prop where
  keep : ∀ b o, b ≠ x → h.get? b = some o → h'.get? b = some o
  obj : h'.get? x = some { cls := .ref C, dict := some dx, data := .fields #[.ref t1, .none, .none, .none, .bool false, .none] }
  dbig : h.objs.size ≤ dx
  dne : dx ≠ x
  ns : h'.Ns1 dx (fun y => if y = f then some v else none)
section
variable {prog : Program} {w : World} {A : Around} {E : Value → Shared → Prop} {R : Result → Shared → Prop} {s : Shared} {K : Frag} {mg mb : Str → Option Value} {f qual : Str} {C D fI cc cda : Addr} {params : Arguments} {body : List Stmt} {scope : Scope}
theorem err_init (T : ErrTxt K prog f C D fI cc cda qual params body scope) {x t0 : Addr} {v : Value} (X : K.In s.heap) (hg : s.heap.Ns mainGlobals mg) (hmg : mg "super" = none) (hb : s.heap.Ns builtinsNs mb) (hmb : mb "super" = some (.type "super"))
    (hlim : s.heap.NoLimit) (hx : s.heap.get? x = some (excO C t0)) (hnx : K.lookup x = none) (hroom : A.depth < recursionLimit)
    (hq : ∀ h' tk dx t1, InitEnd f s.heap h' x C dx t1 v → R (.ok (.ret .none)) { s with heap := h', toks := tk }) :
    codeAny (model prog w) A (.call (.ref fI) ⟨[.ref x, v], []⟩) R s := by
  obtain ⟨oc, od, dV, kV, doc, pm, ct, an, osl, ho, hbind⟩ := T.fn
  obtain ⟨nm, q, N, bs, bm, sn, sub, ab, col, dd, k0, k1, k2, k3, k5, hC, hbm⟩ := T.cls
  obtain ⟨m, j, p0, p1, p2, p3, p4, p5, q1, q2, q3, q4, hln, htext⟩ := T.text
  obtain ⟨ccl, cdd, vs, ccs, file, tf, hcode, hvs, hfile⟩ := T.file
  obtain ⟨cl, cld, csl, cdD, hcell, hclD, hmro⟩ := T.cell
  have hcl : clsIn K C = some { name := nm, bases := bs, mro := .ref C :: bm, ns := N, qualname := q, hasDict := true, slotNames := sn, subclasses := sub, abstract := ab, collection := col, hasDel := false } := by unfold clsIn; rw [hC] <;> rfl
  refine ks_codeAny_call_defAt (fd := ksFn "__init__" qual params body scope dV kV doc pm an (.ref cda) ct cc) (body := body) (binds := [(("self" : Str), .ref x), (f, v)]) hroom (X _ _ ho) rfl hlim (codeRec_of X T.code) rfl (BindsTo.of_eq (hbind _ _)) T.s8 ?_ (fun h₁ hn k => ?_) T.s6 T.s7 T.s5
  · intro y hy
    rcases List.mem_cons.mp hy with rfl | hy
    · exact T.s3
    · rcases List.mem_cons.mp hy with rfl | hy
      · exact T.s4
      · cases hy
  show _root_.PySem.wpAt (model prog w) (A.deeper (ksEnv qual scope s.heap.objs.size fI (.ref cda) cc)) (.func body (ksEnv qual scope s.heap.objs.size fI (.ref cda) cc)) (execs body (ksEnv qual scope s.heap.objs.size fI (.ref cda) cc)) _ _ _
  have X₁ : K.In h₁ := X.keeps k
  have hx₁ := k _ _ hx
  have mself : (fun y => List.lookup y [(("self" : Str), Value.ref x), (f, v)].reverse) ("self" : Str) = some (.ref x) := by
    show List.lookup ("self" : Str) [(f, v), (("self" : Str), Value.ref x)] = _
    have : (("self" : Str) == f) = false := by simpa using (Ne.symm T.s9.1)
    simp [List.lookup, this]
  have mf : (fun y => List.lookup y [(("self" : Str), Value.ref x), (f, v)].reverse) f = some v := by
    show List.lookup f [(f, v), (("self" : Str), Value.ref x)] = _
    simp [List.lookup]
  rw [htext]
  obtain ⟨ar, har⟩ : ∃ ar, (params.posonlyargs ++ params.args).head? = some ar := by
    cases q : (params.posonlyargs ++ params.args).head? with
    | none => have := T.hd; rw [q] at this; cases this
    | some ar => exact ⟨ar, rfl⟩
  have harg : ar.arg = ("self" : Str) := by have := T.hd; rw [har] at this; exact Option.some.inj this
  have hD : ∃ oD, h₁.get? D = some oD ∧ oD.data = .cls cdD := by
    unfold clsIn at hclD
    split at hclD
    · rename_i c d cd' sl hoD
      cases hclD
      exact ⟨_, X₁ _ _ hoD, rfl⟩
    · cases hclD
  obtain ⟨oD, hD1, hD2⟩ := hD
  have he : ∀ env : Env, eval (.Call (.Attribute (.Call (.Name "super" p0) [] [] p1) "__init__" p2) [.Constant (.str m) j p3] [] p4) env = (do
      let ov ← attributeBase (.Call (.Name "super" p0) [] [] p1) "__init__" env (eval (.Call (.Name "super" p0) [] [] p1) env)
      standAt p2.atName
      let (f, first) ← holding [ov] (getMethod ov "__init__" (do return (← importBound (.Call (.Name "super" p0) [] [] p1) env).getD true))
      callWith p4 f first (backTo p4 (starEach [.Constant (.str m) j p3] env)) []) := fun env => by
    show (do
      let ov ← attributeBase (.Call (.Name "super" p0) [] [] p1) "__init__" env (eval (.Call (.Name "super" p0) [] [] p1) env)
      standAt p2.atName
      methodCall (.Call (.Name "super" p0) [] [] p1) "__init__" p2 p4 env ov 1 (backTo p4 (starEach [.Constant (.str m) j p3] env)) []) = _
    unfold methodCall methodCallPos calleeOf
    rw [hln]
    rfl
  refine ks_wpAt_execs_cons (ks_wpAt_Expr_any (ks_wpAt_MethodCall ?_ (he _)) ?_ ?_)
  rotate_left
  · show ((scope.kind == .module) && _) = false
    rw [T.s5]; rfl
  · rfl
  refine ks_wpAt_super_base (env := ksEnv qual scope s.heap.objs.size fI (.ref cda) cc) T.s1 T.s2 (by decide) rfl (X₁ _ _ ho) rfl har rfl (X₁ _ _ hcode) rfl hvs hfile T.top ?_
  refine ks_loadName_global T.s5 T.s1 (loadGlobal_builtin (env := ksEnv qual scope s.heap.objs.size fI (.ref cda) cc) (hg.keeps k) hmg (hb.keeps k) hmb ⟨rfl, ?_⟩)
  refine wpAny_loadName_free T.s5 T.s2 rfl ⟨_, X₁ _ _ hcell, rfl⟩ ?_
  rw [harg]
  refine wpAny_loadName_local T.s5 T.s3 hn mself ?_
  refine ks_wpAny_isType_cls hD1 hD2 ⟨rfl, ?_⟩
  refine ks_wpAny_call_super hD1 hD2 hx₁ rfl (fun c e => by cases e) (looks_mroIn X₁ hmro) (fun h₂ e₂ k₂ => ?_)
  have X₂ : K.In h₂ := X₁.keeps k₂
  have hxC : x ≠ C := fun z => by
    have y := X₁ _ _ hC
    rw [← z, hx₁] at y
    cases y
  have hsup := T.sup
  unfold ks_superIn at hsup
  rw [hcl] at hsup
  have hx₂ := k₂ _ _ hx₁
  have I₂ : InstAt h₂ x (excO C t0) C none := ⟨hx₂, rfl, rfl, trivial⟩
  refine kxs_getMethod kxs_ValueError e₂ (looks_opaque X₂ T.opq) (l₀ := .ref C :: bm) (fun A Q E s k q => wpAny_bind ((looks_clsIn X₂ hcl) A _ E s k (wpAny_pure q))) rfl X₂ hsup (I₂.type.andThen (looks_subIn X₂ T.veC)) hxC (by decide) ?_
  generalize hh3 : h₂.push (kxs_mw "ValueError.__init__" x) = h₃
  have k₃ : ∀ b o, h₂.get? b = some o → h₃.get? b = some o := fun b o e => by rw [← hh3]; exact Heap.get?_push_of_some _ e
  have hu₃ : h₃.get? h₂.objs.size = some (kxs_mw "ValueError.__init__" x) := by rw [← hh3]; exact Heap.get?_push_at rfl rfl
  refine kxs_callWith (i := "ValueError.__init__") (x := x) rfl (evalArgs_plain (Calls.spliced_cons (show wpAny _ _ (eval (.Constant (.str m) j p3) _) _ _ _ from Calls.Constant_str (Calls.spliced_nil ⟨hu₃, ?_⟩))))
  refine call_wrap (C := C) (t0 := t0) ⟨_, _, _, _, _, _, _, _, _, _, _, _, _, _, _, k₃ _ _ (X₂ _ _ hC)⟩ hu₃ (k₃ _ _ hx₂) (one_size _) (fun h₄ k₄ hx₄ => ?_)
  -- self.f = f
  have hkeep : ∀ b o, b ≠ x → s.heap.get? b = some o → h₄.get? b = some o := fun b o hb e => k₄ b o hb (k₃ _ _ (k₂ _ _ (k _ _ e)))
  have hxnL : s.heap.objs.size ≠ x := Nat.ne_of_gt (Heap.lt_size hx)
  have X₄ : K.In h₄ := fun a o e => k₄ a o (fun z => by rw [z, hnx] at e; cases e) (X₂.keeps k₃ a o e)
  have hL0 : h₁.get? s.heap.objs.size ≠ none := by
    obtain ⟨oL, _, _, hL, _⟩ := hn
    rw [hL]; exact fun z => by cases z
  have hn₄ : h₄.Ns s.heap.objs.size (fun y => List.lookup y [(("self" : Str), Value.ref x), (f, v)].reverse) := by
    obtain ⟨oL, es, ep, hL, r⟩ := hn
    exact ⟨oL, es, ep, k₄ _ _ hxnL (k₃ _ _ (k₂ _ _ hL)), r⟩
  show wpAt _ _ _ _ _ _ _
  refine wpAt_of_wpAny (wpAny_execs_cons (plainObj_wpAny_Assign_Attribute ?_))
  have rd : ∀ {y : Str} {u : Value} {ps : Pos} {hh : Heap} {tk : Nat} {Q' : Value → Shared → Prop} {A' : Around} {E' : Value → Shared → Prop}, hh.Ns s.heap.objs.size (fun y => List.lookup y [(("self" : Str), Value.ref x), (f, v)].reverse) → scope.names.lookup y = some .local →
      (fun y => List.lookup y [(("self" : Str), Value.ref x), (f, v)].reverse) y = some u → (y == ("__debug__" : Str)) = false → Q' u { s with heap := hh, toks := tk } → wpAny (model prog w) A' (eval (.Name y ps) (ksEnv qual scope s.heap.objs.size fI (.ref cda) cc)) Q' E' { s with heap := hh, toks := tk } :=
    fun hN hl hv hd hq => wpAny_Name (wpAny_loadName_local T.s5 hl hN hv hq) hd
  refine rd hn₄ T.s4 mf T.s9.2 (rd hn₄ T.s3 mself (by decide) ?_)
  refine set_plain X₄ (ox := excO C h₃.objs.size) (od := none) ⟨hx₄, rfl, rfl, trivial⟩ T.sa ?_
  refine exc_osa X₄ hx₄ hcl (show refsVE (.ref C :: bm) = true from hbm) rfl T.noN (fun h₅ tk₅ dx k₅ dn dne hx₅ hn₅ => ?_)
  show wpAny _ _ (execs _ _) _ _ _
  have lt1 : s.heap.objs.size ≤ h₄.objs.size := Nat.le_of_lt (by
    obtain ⟨oL, _, _, hL, _⟩ := hn₄
    exact Heap.lt_size hL)
  exact wpAny_execs_nil (hq h₅ tk₅ dx h₃.objs.size ⟨fun b o hb e => k₅ b o hb (hkeep b o hb e), hx₅, Nat.le_trans lt1 dn, dne, hn₅⟩)
/-- a made error -/
structure OwnMade (f : Str) (h h' : Heap) (e C d : Addr) (v : Value) : Prop where
  keep : ∀ b o, h.get? b = some o → h'.get? b = some o
  new : h.objs.size ≤ e
  obj : ∃ oe vs, h'.get? e = some oe ∧ oe.cls = .ref C ∧ oe.dict = some d ∧ oe.data = .fields vs ∧ vs[1]? = some .none ∧ vs[2]? = some .none
  dbig : h.objs.size ≤ d
  dne : d ≠ e
  ns : h'.Ns1 d (fun y => if y = f then some v else none)
theorem err_made (T : ErrTxt K prog f C D fI cc cda qual params body scope) {v : Value} (X : K.In s.heap) (hg : s.heap.Ns mainGlobals mg) (hmg : mg "super" = none) (hb : s.heap.Ns builtinsNs mb) (hmb : mb "super" = some (.type "super"))
    (hlim : s.heap.NoLimit) (hroom : A.depth + 1 < recursionLimit)
    (hq : ∀ h' tk e d, OwnMade f s.heap h' e C d v → R (.ok (.ret (.ref e))) { s with heap := h', toks := tk }) :
    codeAny (model prog w) A (.call (.ref C) ⟨[v], []⟩) R s := by
  obtain ⟨nm, q, N, bs, bm, sn, sub, ab, col, dd, k0, k1, k2, k3, k5, hC, hbm⟩ := T.cls
  obtain ⟨hp, g, dr, tk, os⟩ := s
  have k : ∀ b o, hp.get? b = some o → ((hp.push (kdv_tup [v])).push (excO C hp.objs.size)).get? b = some o := fun b o e => Heap.get?_push_of_some _ (Heap.get?_push_of_some _ e)
  have hget : ((hp.push (kdv_tup [v])).push (excO C hp.objs.size)).get? (hp.objs.size + 1) = some (excO C hp.objs.size) := by heap_get
  have hnx : K.lookup (hp.objs.size + 1) = none := by
    cases e : K.lookup (hp.objs.size + 1) with
    | none => rfl
    | some o =>
      have z : hp.get? (hp.objs.size + 1) = some o := X _ _ e
      exact absurd (Nat.lt_of_succ_lt (Heap.lt_size z)) (Nat.lt_irrefl _)
  refine call_own F.excBase_ValueError (fun X => refsVE_contains X bm hbm) (X _ _ hC) (looks_findIn X T.iC) (fun self => bind_fn X self T.tC) (one_size v) ?_
  refine err_init (s := ⟨(hp.push (kdv_tup [v])).push (excO C hp.objs.size), g, dr, tk, os⟩) T (X.keeps k) (hg.keeps k) hmg (hb.keeps k) hmb (hlim.keeps k) hget hnx ?_ fun h' tk' dx t1 ⟨k', hx, dn, dne, hns⟩ => ?_
  · show A.depth + 1 < recursionLimit
    exact hroom
  · have old : ∀ b o, hp.get? b = some o → h'.get? b = some o := fun b o e => k' b o (Nat.ne_of_lt (Nat.lt_succ_of_lt (Heap.lt_size e))) (k b o e)
    have z : hp.objs.size + 1 + 1 ≤ dx := by
      first
        | (simpa only [Heap.size_push] using dn)
        | exact dn
        | (have q := dn; rw [Heap.size_push, Heap.size_push] at q; exact q)
    exact ⟨rfl, hq h' tk' (hp.objs.size + 1) dx ⟨old, Nat.le_succ _, ⟨_, _, hx, rfl, rfl, rfl, rfl, rfl⟩, Nat.le_trans (Nat.le_trans (Nat.le_succ _) (Nat.le_succ _)) z, dne, hns⟩⟩
end
end PwX
end PySem
namespace Pw
open PySem PySem.Spec PyProof.Rows L2
theorem relO_one {f : Str} {v : V} {v' : Value} (r : RelV v v') (y : Str) : RelO (List.lookup y [(f, v)]) (if y = f then some v' else none) := by
  by_cases hw : y = f
  · subst hw
    rw [if_pos rfl]
    have q : List.lookup y [(y, v)] = some v := by simp [List.lookup]
    rw [q]
    exact r
  · rw [if_neg hw]
    have qw : (y == f) = false := by simpa using hw
    have q2 : List.lookup y [(f, v)] = none := by simp [List.lookup, qw]
    rw [q2]
    trivial
section
variable {X : Cx} {f qual x : Str} {C D fI cc cda : Addr} {params : Arguments} {body : List Stmt} {scope : Scope}
/-- C(e) -/
def tMkE (f : Str) (C : Addr) (ta : TA) : L2.St → Hp → XK → Prop := fun σ H Q => ta σ H fun vs H1 => ∃ v, vs = [v] ∧ ∀ d, H1 d = none → Q (.ref C) (some d) (upd H1 d (.xd [(f, v)]))
theorem pmk_err {a : Expr} {ta : TA} {p pos : Pos} {k : Nat} (T : PySem.PwX.ErrTxt X.K X.prog f C D fI cc cda qual params body scope) (gC : X.mg x = some (.ref C)) (hs : X.mg "super" = none) (hr : Room k X.A) (ha : PA X [a] ta) (hg : Gl X x) (hxd : (x == ("__debug__" : Str)) = false)
    (he : starEach (a :: []) X.env = (false, eval a X.env) :: starEach [] X.env := by rfl) (hpl : (backTo pos (starEach [] X.env)).any (·.1) = false := by rfl) :
    L2N.PMk X (.Call (.Name x p) [a] [] pos) (tMkE f C ta) := by
  intro pins s σ H Q I h
  refine wpAny_Call_Name_kw (ld_glob I hg gC ?_ hxd)
  refine PySem.W.callWith_K (h₀ := X.base) I.ok.mod.kin T.kC (thn (ha.run pos pins s σ H _ I h) fun us s1 hh => ?_) he hpl
  obtain ⟨vs, H1, I1, r1, v, ev, q1⟩ := hh
  subst ev
  refine ⟨I1.kIn, ?_⟩
  cases r1 with
  | cons rv rn =>
    rename_i v' us'
    cases rn
    show wpAny _ _ (call (.ref C) [v']) _ _ _
    have hlim := I1.nolimit
    obtain ⟨mb, hb1, hb2⟩ := I1.mod.blt
    have hgl := I1.mod.glob.keeps I1.bk
    have hbl := hb1.keeps I1.bk
    have hmb : mb "super" = some (.type "super") := (hb2 _ (by decide)).trans (by decide +kernel)
    obtain ⟨hp, g, dr, tk, os⟩ := s1
    refine wpAny_call (PySem.PwX.err_made T I1.kIn hgl hs hbl hmb hlim (by have := hr.dp; omega) fun h' tk' e d M => ?_)
    show L2N.MkP X pins σ Q (.ref e) ⟨h', g, dr, tk', os⟩
    obtain ⟨oe, fv, hoe, hc, hd, hdat, h1, hctx⟩ := M.obj
    have hns := M.ns
    obtain ⟨G', g1, g2⟩ := restrict h' fun b => decide (b ≠ e)
    have gk : ∀ b, b ≠ e → G'.get? b = h'.get? b := fun b hb => g1 b (decide_eq_true hb)
    have ge : G'.get? e = none := g2 e (by simp)
    have old : ∀ b o, hp.get? b = some o → G'.get? b = some o := fun b o q => (gk b (Nat.ne_of_lt (Nat.lt_of_lt_of_le (Heap.lt_size q) M.new))).trans (M.keep b o q)
    have ob : ObjOk X.prog X.w (upd H1 d (.xd [(f, v)])) G' d (.xd [(f, v)]) :=
      ⟨_, hns.at (fun o q => (gk d M.dne).trans q), fun y => relO_one rv y⟩
    have J : Inv X pins σ (upd H1 d (.xd [(f, v)])) ⟨G', g, dr, tk', os⟩ := I1.laid (t' := tk') old M.dbig ob
    refine ⟨e, oe, fv, ⟨G', g, dr, tk', os⟩, _, .ref C, some d, rfl, J, fun b o q => ?_, ge, hoe, ⟨hc, hd, fun vs e => by rw [hdat] at e; cases e; exact hctx⟩, hdat, h1, ?_, rfl, I1.bare, raises_own T.exC T.tyC, q1 d (I1.hok.fresh M.dbig)⟩
    · by_cases hb : b = e
      · have q' : G'.get? b = some o := q
        rw [hb, ge] at q'; cases q'
      · exact (gk b hb).symm.trans q
    · rw [upd_ne (Ne.symm M.dne)]
      exact I1.hok.fresh M.new
end
end Pw

set_option Elab.async false
set_option linter.all false
set_option maxRecDepth 100000
set_option maxHeartbeats 2000000
namespace Pw
open PySem L2

/-! ### the reader's own language -/
mutual
inductive IE where
  | bad | var (i : Nat) | cst (d : D)
  | bin (op : Operator) (a b : IE) | cmp (op : CmpOp) (a b : IE) | chn (op op2 : CmpOp) (a b c : IE)
  | and (a b : IE) | or (a b : IE) | not (a : IE) | ite (c a b : IE)
  | tup (es : IEs) | lst (es : IEs) | ix (a b : IE) | slc (a : IE) (lo hi : IO)
  | call (f : Str) (es : IEs) | bi (b : Bi) (es : IEs) | isT (a : IE) (t : Ty) | isC (a : IE) (C : Str)
  | xis (i : Nat) (C : Str) | xfd (i : Nat) (f : Str)
inductive IO where
  | no | yes (e : IE)
inductive IEs where
  | nil | cons (e : IE) (es : IEs)
end
inductive II where
  | bad | seq (e : IE) | rng (es : IEs)
mutual
inductive IS where
  | bad | set (i : Nat) (e : IE) | asg (t : Tg) (e : IE) | app (i : Nat) (e : IE) | setI (i : Nat) (k e : IE) | appR (i : Nat) (e : IE) | ali (j i : Nat) (k : IE) | setR (j : Nat) (k e : IE) | rem (i j : Nat) | exp (e : IE) | ret (e : IE) | retN | pas | brk | cnt
  | ifs (c : IE) (a b : ISs) | for (t : Tg) (it : II) (b : ISs) | whl (c : IE) (b : ISs) | rse (C : Str) (es : IEs) | try_ (b : ISs) (C : Str) (i : Nat) (s : ISs)
inductive ISs where
  | nil | cons (s : IS) (ss : ISs)
end
def IEs.len : IEs → Nat
  | .nil => 0
  | .cons _ es => es.len + 1

/-! ### the surroundings of a text: what its names mean -/
structure Fn where
  N : List Str
  ps : List Str
  md : List Bool
  body : ISs
structure Tb where
  fns : Str → Option Fn
  hots : Str → Bool
  cst : Str → Option D
  tabs : Tabs
  isT : IsT
  own : Str → Bool
  /-- an error's class, its field -/
  errs : Str → Option Str
  exm : Str → Str → Option Bool
  /-- a class in an except clause -/
  cat : Str → Bool
  xis : Str → Str → Option Bool
  /-- names of lists whose rows are changed, names for such rows -/
  rws : Str → Bool
  als : Str → Bool

/-! ### what a text does -/
def upto (n : Nat) : List D := (List.range n).map fun (i : Nat) => D.int (i : Int)
def range2 (a b : Int) : List D := (List.range (b - a).toNat).map fun (i : Nat) => D.int (a + (i : Int))
def signs (x : Str) : List D := x.cps.toList.map fun c => D.str ⟨#[c]⟩
def itemsD : D → Option (List D)
  | .lst ds => some ds
  | .tup ds => some ds
  | .str x => some (signs x)
  | _ => none
def rngD : List D → Option (List D)
  | [.int n] => if -1000000 ≤ n ∧ n ≤ 1000000 then some (upto n.toNat) else none
  | [.int a, .int b] => if (-1000000 ≤ a ∧ a ≤ 1000000) ∧ (-1000000 ≤ b ∧ b ≤ 1000000) then some (range2 a b) else none
  | _ => none
def chnM (f f2 : D → D → Option U) (a b c : Mo U) : Mo U := do
  let x ← fzM a
  let y ← fzM b
  let u ← opM f x y
  let k ← asB u
  if k = true then do let z ← c; opM f2 y z else pure (.val (.bl false))
def xisM (f : Str → Option Bool) (i : Nat) : Mo U := fun r => match r[i]? with
  | some (.exn C _ _) => (match f C with
    | some b => .ok (.val (.bl b)) r
    | none => .no)
  | _ => .no
def xfdM (ef : Str → Option Str) (f : Str) (i : Nat) : Mo U := fun r => match r[i]? with
  | some (.exn C ns ds) => if ef C = some f then (match (ns.zip ds).lookup f with
    | some d => .ok (.val d) r
    | none => .no) else .no
  | _ => .no
section
variable (T : Tb) (run : Str → List A → Res U)
def mdOf (f : Str) : List Bool := match T.fns f with
  | some F => F.md
  | none => []
mutual
def dU : IE → Mo U
  | .bad => Mo.none
  | .var i => varM i
  | .cst d => pure (.val d)
  | .bin op a b => do let x ← fzM (dU a); let y ← dU b; opM (binD op) x y
  | .cmp op a b => do let x ← fzM (dU a); let y ← dU b; opM (cmpD op) x y
  | .chn op op2 a b c => chnM (cmpD op) (cmpD op2) (dU a) (dU b) (dU c)
  | .and a b => do let k ← andM (boolM (dU a)) (boolM (dU b)); pure (vB' k)
  | .or a b => do let k ← orM (boolM (dU a)) (boolM (dU b)); pure (vB' k)
  | .not a => do let k ← notM (boolM (dU a)); pure (vB' k)
  | .ite c a b => iteM (boolM (dU c)) (dU a) (dU b)
  | .tup es => do let xs ← dDs es; pure (.val (.tup xs))
  | .lst es => do let xs ← dDs es; pure (.fresh xs)
  | .ix a b => do let x ← fzM (dU a); let y ← dU b; opM (ixD T.tabs) x y
  | .slc a lo hi => do let x ← fzM (dU a); let l ← dO lo; let h ← dO hi; slM x l h
  | .call f es => do let as ← dAs (mdOf T f) es; callM (run f) as
  | .bi b es => do let xs ← dUs es; cbM (biF b) xs
  | .isT a t => do let x ← fzM (dU a); isM (fun d => isTy T.isT d t) x
  | .isC a C => do let x ← fzM (dU a); isM (fun d => isOwn T.isT d C) x
  | .xis i C => xisM (fun D => T.xis D C) i
  | .xfd i f => xfdM T.errs f i
def dO : IO → Mo (Option Int)
  | .no => pure Option.none
  | .yes e => optI (dU e)
def dDs : IEs → Mo (List D)
  | .nil => pure []
  | .cons e es => do let x ← dataM (dU e); let xs ← dDs es; pure (x :: xs)
def dUs : IEs → Mo (List U)
  | .nil => pure []
  | .cons e es => do let x ← fzM (dU e); let xs ← dUs es; pure (x :: xs)
def dAs : List Bool → IEs → Mo (List Arg)
  | _, .nil => pure []
  | [], .cons e es => do let x ← argM false (dU e); let xs ← dAs [] es; pure (x :: xs)
  | m :: ms, .cons e es => do let x ← argM m (dU e); let xs ← dAs ms es; pure (x :: xs)
end
def optM {α : Type} (m : Mo α) (f : α → Option (List D)) : Mo (List D) := do let x ← m; Mo.opt (f x)
def dI : II → Mo (List D)
  | .bad => Mo.none
  | .seq e => optM (dataM (dU T run e)) itemsD
  | .rng es => optM (dDs T run es) rngD
def ifOwn (i : Nat) (m : Mo Fl) : Mo Fl := fun r => match r[i]? with
  | some (.own _ _) => m r
  | _ => .no
/-- a caught error is let go -/
def clrA : A → A
  | .exn _ _ _ => .un
  | a => a
def tryM (T : Tb) (b : Mo Fl) (C : Str) (i : Nat) (s : Mo Fl) : Mo Fl := fun r => match b r with
  | .ex e r1 => (match T.exm e.cls C with
    | some true => if okSet r1 i = true then (match s (r1.set i (.exn e.cls e.ns e.ds)) with
      | .ok (.rt (.slot _)) _ => .no
      | .ok f r2 => if okSet r2 i = true then .ok f ((r2.map clrA).set i .un) else .no
      | _ => .no) else .no
    | some false => .ex e r1
    | none => .no)
  | m => m
def rseM (C f : Str) (m : Mo (List D)) : Mo Fl := do let ds ← m; fun r => .ex ⟨C, [f], ds⟩ r
mutual
def dS : IS → Mo Fl
  | .bad => Mo.none
  | .set i e => do let u ← (do let u ← dU T run e; retU u); putM i u
  | .asg t e => do let d ← dataM (dU T run e); fun r => match tgF t d r with
    | some r' => .ok .nx r'
    | none => .no
  | .app i e => ifOwn i (do let d ← dataM (dU T run e); appM i d)
  | .setI i k e => do let d ← dataM (dU T run e); ifOwn i (do let n ← intM (dU T run k); setM i d n)
  | .appR i e => ifRows i (do let u ← dU T run e; appRM i u)
  | .ali j i k => ifRows i (do let n ← intM (dU T run k); aliM j i n)
  | .setR j k e => do let d ← dataM (dU T run e); ifAli j (do let n ← intM (dU T run k); setRM j d n)
  | .rem i j => remM i j
  | .exp e => do let _ ← dU T run e; pure .nx
  | .ret e => do let u ← (do let u ← dU T run e; retU u); pure (.rt u)
  | .retN => pure (.rt (.val .non))
  | .pas => pure .nx
  | .brk => pure .bk
  | .cnt => pure .ct
  | .ifs c a b => iteM (boolM (dU T run c)) (dSs a) (dSs b)
  | .for t it b => do let ds ← dI T run it; forM' t (dSs b) ds
  | .whl c b => whileM (boolM (dU T run c)) (dSs b) 1000000
  | .rse C es => (match T.errs C with
    | some f => rseM C f (dDs T run es)
    | none => Mo.none)
  | .try_ b C i s => tryM T (dSs b) C i (dSs s)
def dSs : ISs → Mo Fl
  | .nil => pure .nx
  | .cons s ss => seqM (dS s) (dSs ss)
end
end
/-- a def called with its arguments, at most k calls deep -/
def runF (T : Tb) (k : Nat) (f : Str) (as : List A) : Res U := match k with
  | 0 => .no
  | k + 1 => (match T.fns f with
    | none => .no
    | some F => if as.length = F.ps.length then endF as (dSs T (runF T k) F.body (as ++ List.replicate (F.N.length - as.length) .un)) else .no)

/-! ### from the program's text -/
def ixOf : List Str → Str → Option Nat
  | [], _ => none
  | y :: ys, x => if y = x then some 0 else (ixOf ys x).map (· + 1)
def isVis : Option NameKind → Bool
  | some .local => true
  | some .cell => true
  | some .free => true
  | _ => false
def isGlo : Option NameKind → Bool
  | some .globalImplicit => true
  | _ => false
def dbg : List Str := ["__debug__", "__classdict__"]
/-- a name of the def's own -/
def cV (N : List Str) (sc : Scope) (x : Str) : Option Nat := if isVis (sc.names.lookup x) && !(dbg.contains x) then ixOf N x else none
def cG (sc : Scope) (x : Str) : Bool := isGlo (sc.names.lookup x) && !(dbg.contains x)
def isLocal : Option NameKind → Bool
  | some .local => true
  | _ => false
def isLoc : Option NameKind → Bool
  | some .local => true
  | some .cell => true
  | _ => false
/-- a name that is stored -/
def cL (N : List Str) (sc : Scope) (x : Str) : Option Nat := if isLoc (sc.names.lookup x) && !(dbg.contains x) then ixOf N x else none
def biOf (x : Str) : Option Bi :=
  if x = "len" then some .len else if x = "int" then some .int else if x = "list" then some .list else if x = "tuple" then some .tuple else if x = "str" then some .str else none
def tyOf (x : Str) : Option Ty :=
  if x = "int" then some .int else if x = "bool" then some .bool else if x = "str" then some .str else if x = "list" then some .list else if x = "tuple" then some .tuple else if x = "dict" then some .dict else none
def notStar : Expr → Bool
  | .Starred _ _ => false
  | _ => true
def plainIx : Expr → Bool
  | .Slice _ _ _ _ => false
  | _ => true
def noMark : Expr → Bool
  | .Set _ _ _ => false
  | _ => true
def ofL : List IE → IEs
  | [] => .nil
  | e :: es => .cons e (ofL es)
def ofS : List IS → ISs
  | [] => .nil
  | e :: es => .cons e (ofS es)
section
variable (T : Tb) (N : List Str) (sc : Scope) (hot : Bool)
def cVar (x : Str) : IE := match cV N sc x with
  | some i => .var i
  | none => if cG sc x then (match T.cst x with
    | some d => .cst d
    | none => .bad) else .bad
def cOpt (f : Expr → IE) : Option Expr → IO
  | some e => .yes (f e)
  | none => .no
/-- isinstance(a, t) -/
def cIs (f : Expr → IE) : List Expr → IE
  | [a, .Name t _] => if cG sc t && notStar a then (match tyOf t with
    | some ty => .isT (f a) ty
    | none => if T.own t then .isC (f a) t else if hot then (match a with
      | .Name x _ => (match cV N sc x with
        | some i => .xis i t
        | none => .bad)
      | _ => .bad) else .bad) else .bad
  | _ => .bad
def cCall (f : Expr → IE) (x : Str) (es : List Expr) : IE := if cG sc x && es.all notStar then
    (if x = "isinstance" then cIs T N sc hot f es else match biOf x with
      | some b => if es.isEmpty then .bad else .bi b (ofL (es.map f))
      | none => if (T.fns x).isSome && (!hot || T.hots x) then .call x (ofL (es.map f)) else .bad) else .bad
def cE : Nat → Expr → IE
  | 0, _ => .bad
  | n + 1, e => match e with
    | .Constant (.int i) _ _ => .cst (.int i)
    | .Constant (.str x) _ _ => .cst (.str x)
    | .Constant (.bool b) _ _ => .cst (.bl b)
    | .Constant .none _ _ => .cst .non
    | .Name x _ => cVar T N sc x
    | .BinOp a op b _ => .bin op (cE n a) (cE n b)
    | .Compare a [op] [b] _ => if noMark b then .cmp op (cE n a) (cE n b) else .bad
    | .Compare a [op, op2] [b, c] _ => if noMark c then .chn op op2 (cE n a) (cE n b) (cE n c) else .bad
    | .BoolOp .And [a] _ => cE n a
    | .BoolOp .Or [a] _ => cE n a
    | .BoolOp .And (a :: b :: rest) p => .and (cE n a) (cE n (.BoolOp .And (b :: rest) p))
    | .BoolOp .Or (a :: b :: rest) p => .or (cE n a) (cE n (.BoolOp .Or (b :: rest) p))
    | .UnaryOp .Not a _ => .not (cE n a)
    | .IfExp c a b _ => .ite (cE n c) (cE n a) (cE n b)
    | .Tuple es _ _ => if es.all notStar && decide (es.length ≤ 1000) then .tup (ofL (es.map (cE n))) else .bad
    | .List es _ => if es.all notStar && decide (es.length ≤ 1000) then .lst (ofL (es.map (cE n))) else .bad
    | .Subscript a (.Slice lo hi none _) _ => .slc (cE n a) (cOpt (cE n) lo) (cOpt (cE n) hi)
    | .Subscript a b _ => if plainIx b then .ix (cE n a) (cE n b) else .bad
    | .Attribute (.Name x _) f _ => (match cV N sc x with
      | some i => if hot then .xfd i f else .bad
      | none => .bad)
    | .Call (.Name x _) es [] _ => cCall T N sc hot (cE n) x es
    | _ => .bad
/-- what a for walks -/
def cI (n : Nat) (e : Expr) : II := match e with
  | .Call (.Name x p) es [] q => if x = "range" then (if cG sc "range" && (es.all notStar && (es.length == 1 || (!hot && es.length == 2))) then .rng (ofL (es.map (cE T N sc hot n))) else .bad)
    else if hot then .bad else .seq (cE T N sc hot n (.Call (.Name x p) es [] q))
  | e => if hot || !noMark e then .bad else .seq (cE T N sc hot n e)
/-- a plain target -/
def cNs : List Expr → Option (List Nat)
  | [] => some []
  | .Name x _ :: es => (match cL N sc x, cNs es with
    | some i, some is => some (i :: is)
    | _, _ => none)
  | _ => none
def cT : Expr → Option Tg
  | .Name x _ => (cL N sc x).map .name
  | .Tuple es _ _ => if hot then none else (cNs N sc es).map .tup
  | _ => none
end
def notComp : Expr → Bool
  | .ListComp .. => false
  | .SetComp .. => false
  | .DictComp .. => false
  | _ => true
/-- x = xs[k], a row -/
def cAli (T : Tb) (N : List Str) (sc : Scope) (hot : Bool) (n : Nat) (j : Nat) : Expr → IS
  | .Subscript (.Name y _) k _ => (match cV N sc y with
    | some i => if plainIx k then .ali j i (cE T N sc hot n k) else .bad
    | none => .bad)
  | _ => .bad
def cRem (N : List Str) (sc : Scope) (x : Str) : Expr → IS
  | .Name y _ => (match cV N sc x, cV N sc y with
    | some i, some j => .rem i j
    | _, _ => .bad)
  | _ => .bad
def notTup : Expr → Bool
  | .Tuple .. => false
  | .List .. => false
  | _ => true
section
variable (T : Tb) (N : List Str) (sc : Scope)
def cS : Nat → Bool → Stmt → IS
  | 0, _, _ => .bad
  | n + 1, hot, s => match s with
    | .Return (some e) _ => .ret (cE T N sc hot n e)
    | .Return none _ => .retN
    | .Pass _ => .pas
    | .Break _ => .brk
    | .Continue _ => .cnt
    | .Assign [.Name x _] e _ => (match cL N sc x with
      | some i => if T.als x then cAli T N sc hot n i e else if notComp e then .set i (cE T N sc hot n e) else .bad
      | none => .bad)
    | .Assign [.Subscript (.Name x _) k _] e _ => (match cV N sc x with
      | some i => if plainIx k && notComp e then (if T.als x then .setR i (cE T N sc hot n k) (cE T N sc hot n e) else .setI i (cE T N sc hot n k) (cE T N sc hot n e)) else .bad
      | none => .bad)
    | .Assign [.Tuple es p1 p2] e _ => (match cT N sc hot (.Tuple es p1 p2) with
      | some t => if notComp e && notTup e then .asg t (cE T N sc hot n e) else .bad
      | none => .bad)
    | .Expr (.Call (.Attribute (.Name x _) m ap) [a] [] cp) _ => if m = "append" && (notStar a && ap.endLine == cp.line) then (match cV N sc x with
      | some i => if T.rws x then .appR i (cE T N sc hot n a) else .app i (cE T N sc hot n a)
      | none => .bad) else if m = "remove" && (T.rws x && ap.endLine == cp.line) then cRem N sc x a else .bad
    | .Expr e _ => if notComp e then .exp (cE T N sc hot n e) else .bad
    | .If c a b _ => .ifs (cE T N sc hot n c) (ofS (a.map (cS n hot))) (ofS (b.map (cS n hot)))
    | .For t it b [] _ => (match cT N sc hot t with
      | some tg => .for tg (cI T N sc hot n it) (ofS (b.map (cS n hot)))
      | none => .bad)
    | .While c b [] _ => .whl (cE T N sc hot n c) (ofS (b.map (cS n hot)))
    | .Raise (some (.Call (.Name C _) [a] [] _)) none _ => if !hot && (cG sc C && notStar a) then .rse C (.cons (cE T N sc hot n a) .nil) else .bad
    | .Try b [.ExceptHandler (some (.Name C _)) (some x) (s0 :: ss) _] [] [] _ => (match cL N sc x with
      | some i => if !hot && (cG sc C && (T.cat C && isLocal (sc.names.lookup x))) then .try_ (ofS (b.map (cS n false))) C i (ofS ((s0 :: ss).map (cS n true))) else .bad
      | none => .bad)
    | _ => .bad
def cSs (n : Nat) (hot : Bool) (ss : List Stmt) : ISs := ofS (ss.map (cS T N sc n hot))
end
end Pw

set_option Elab.async false
set_option linter.all false
set_option maxRecDepth 100000
set_option maxHeartbeats 2000000
namespace Pw
open PySem PySem.Spec PyProof.Rows L2

/-! ### the weakest readings -/
def wE (X : Cx) (e : Expr) : TE := fun σ H Q => ∀ pins s, Inv X pins σ H s → wpAny (model X.prog X.w) X.A (eval e X.env) (EP X pins σ Q) X.xe s
def wT (X : Cx) (e : Expr) : TT := fun σ H Q => ∀ pins s, Inv X pins σ H s → wpAny (model X.prog X.w) X.A (isTrue e X.env (eval e X.env)) (TP X pins σ Q) X.xe s
def wSs (X : Cx) (ss : List Stmt) : TS := fun D σ H => ∀ pins s, Inv X pins σ H s → wpAny (model X.prog X.w) X.A (execs ss X.env) (SP X pins D) X.xe s
def wS (X : Cx) (s : Stmt) : TS := fun D σ H => ∀ pins s', Inv X pins σ H s' → wpAny (model X.prog X.w) X.A (exec s X.env) (SP X pins D) X.xe s'
theorem pe_w (X : Cx) (e : Expr) : PE X e (wE X e) := ⟨fun pins s σ H Q I h => h pins s I⟩
theorem pt_w (X : Cx) (e : Expr) : PT X e (wT X e) := ⟨fun pins s σ H Q I h => h pins s I⟩
theorem ps_w (X : Cx) (s : Stmt) : PS X s (wS X s) := ⟨fun pins s σ H D I h => h pins s I⟩
theorem pss_w (X : Cx) (ss : List Stmt) : PSs X ss (wSs X ss) := ⟨fun pins s σ H D I h => h pins s I⟩
section
variable {X : Cx} {g : G} {W : WP} {e : Expr} {te : TE} {tt : TT} {ts : TS} {mu : Mo U} {mb : Mo Bool} {mf : Mo Fl} {st : Stmt} {ss : List Stmt}
theorem J.we (h : PE X e te) (j : J g W (RU g) te mu) : J g W (RU g) (wE X e) mu := fun c H σ r Q o p pins s I => h.run pins s σ H Q I (j c H σ r Q o p)
theorem J.wt (h : PT X e tt) (j : J g W RB tt mb) : J g W RB (wT X e) mb := fun c H σ r Q o p pins s I => h.run pins s σ H Q I (j c H σ r Q o p)
theorem JS.ws (h : PS X st ts) (j : JS g W ts mf) : JS g W (wS X st) mf := fun c H σ r D o p pins s I => h.run pins s σ H D I (j c H σ r D o p)
theorem JS.wss (h : PSs X ss ts) (j : JS g W ts mf) : JS g W (wSs X ss) mf := fun c H σ r D o p pins s I => h.run pins s σ H D I (j c H σ r D o p)
theorem j_no {α β : Type} {R : RelT α β} {t : L2.St → Hp → (β → Hp → Prop) → Prop} : J g W R t (Mo.none : Mo α) := fun c H σ r Q o p => p.elim
theorem js_no : JS g W ts Mo.none := fun c H σ r D o p => p.elim
/-- a test by its value -/
theorem boolM_none : boolM (Mo.none : Mo U) = Mo.none := rfl
theorem boolM_b (m : Mo Bool) : boolM (do let k ← m; pure (vB' k)) = m := by
  funext r
  show Mo.bind (Mo.bind m fun k => pure (vB' k)) asB r = m r
  unfold Mo.bind
  cases m r with
  | no => rfl
  | ok a r => rfl
  | ex e r => rfl
theorem boolM_ite (c : Mo Bool) (a b : Mo U) : boolM (iteM c a b) = iteM c (boolM a) (boolM b) := by
  funext r
  show Mo.bind (Mo.bind c fun x => if x = true then a else b) asB r = Mo.bind c (fun x => if x = true then boolM a else boolM b) r
  unfold Mo.bind
  cases c r with
  | no => rfl
  | ok x r => cases x <;> rfl
  | ex e r => rfl
end
/-! ### what holds of a text's surroundings -/
def biNames : List Str := ["len", "int", "list", "tuple", "str", "bool", "dict", "isinstance", "range", "super"]
structure Glb (g : G) (T : Tb) (P : Program) (w : World) (mg : Str → Option Value) (base : Heap) (k : Nat) : Prop where
  fnC : ∀ f F, T.fns f = some F → ∃ a fd, FnOk P w g.K mg base (L2N.CX P w) k a fd F.ps (spF g (runF T k f)) ∧ mg f = some (.ref a) ∧ PySem.W.keepIn g.K (.ref a) = true ∧ Binds g.K fd F.ps []
  fnH : ∀ f F, T.fns f = some F → T.hots f = true → ∃ a fd, L2H.FnH P w g.K mg base (L2N.CX P w) k a fd F.ps (spF g (runF T k f)) ∧ mg f = some (.ref a) ∧ PySem.W.keepIn g.K (.ref a) = true ∧ Binds g.K fd F.ps []
  cst : ∀ x d, T.cst x = some d → ∃ u v, mg x = some u ∧ RelV v u ∧ ∀ H, Rep g H d v
  tb : TabsOk g w T.tabs
  isT : IsOk g T.isT
  own : ∀ C, T.own C = true → mg C = some (.ref (He.ga g.K C)) ∧ OwnOk g.K (He.ga g.K C)
  bi : ∀ x, x ∈ biNames → mg x = none
  errs : ∀ C f, T.errs C = some f → mg C = some (.ref (He.ga g.K C)) ∧ ∃ D fI cc cda qual params body scope, PySem.PwX.ErrTxt g.K P f (He.ga g.K C) D fI cc cda qual params body scope
  xis : ∀ C D b, T.xis C D = some b → ExcC g.K (He.ga g.K C) ∧ PySem.W.kitOne g.K (.ref (He.ga g.K C)) (.ref (He.ga g.K D)) = some b ∧ mg D = some (.ref (He.ga g.K D))
  xfd : ∀ C f, T.errs C = some f → XfC g.K (He.ga g.K C) ∧ f ≠ "__class__"
  exm : ∀ C D b, T.exm C D = some b → PySem.W.exmOne g.K (.ref (He.ga g.K C)) (.ref (He.ga g.K D)) = some b
  cat : ∀ D, T.cat D = true → mg D = some (.ref (He.ga g.K D))
structure Cok (g : G) (T : Tb) (k : Nat) (N : List Str) (sc : Scope) (hot : Bool) (W : WP) (X : Cx) : Prop where
  hK : g.K = X.K
  n : X.N = N
  nd : N.Nodup
  hsc : X.env.scope = sc
  un : X.A.units + 64 < cLine
  gl : Glb g T X.prog X.w X.mg X.base k
  tk : L2N.Takes X W.w
  po : PassesOwn (model X.prog X.w) X.A X.env X.xe
  cold : hot = false → X.calm = true ∧ Room k X.A ∧ X.stack = X.env :: X.outer ∧ X.env.frame = some X.env.locals ∧ W.p = noP
  hotc : hot = true → L2H.HotC X ∧ L2H.RoomH k X.A
  fnc : ∀ x, L2.Loc sc x → X.fn x = true ∨ sc.names.lookup x = some .local
  exq : ∀ a C x, W.p a C x → ∃ oe, (a, oe) ∈ X.pn ∧ oe.cls = .ref (He.ga g.K C) ∧ oe.dict = some x ∧ ∃ vs, oe.data = .fields vs

/-! ### names -/
theorem ixOf_get : ∀ {N : List Str} {x : Str} {i : Nat}, ixOf N x = some i → N[i]? = some x
  | [], _, _, h => by cases h
  | y :: ys, x, i, h => by
    unfold ixOf at h
    split at h
    · rename_i e
      cases h
      simp [e]
    · cases q : ixOf ys x with
      | none => rw [q] at h; cases h
      | some j => rw [q] at h; cases h; simpa using ixOf_get q
theorem cV_ok {N : List Str} {sc : Scope} {x : Str} {i : Nat} (h : cV N sc x = some i) : N[i]? = some x ∧ Vis sc x ∧ (x == ("__debug__" : Str)) = false ∧ (x == ("__classdict__" : Str)) = false := by
  unfold cV at h
  split at h
  · rename_i q
    rw [Bool.and_eq_true] at q
    refine ⟨ixOf_get h, ?_, ?_⟩
    · unfold Vis
      cases e : sc.names.lookup x with
      | none => rw [e] at q; cases q.1
      | some z => rw [e] at q; cases z <;> first | exact .inl rfl | exact .inr (.inl rfl) | exact .inr (.inr rfl) | cases q.1
    · have := q.2
      simp [dbg] at this
      exact ⟨by simpa using this.1, by simpa using this.2⟩
  · cases h
theorem cL_ok {N : List Str} {sc : Scope} {x : Str} {i : Nat} (h : cL N sc x = some i) : N[i]? = some x ∧ L2.Loc sc x := by
  unfold cL at h
  split at h
  · rename_i q
    rw [Bool.and_eq_true] at q
    refine ⟨ixOf_get h, ?_⟩
    unfold L2.Loc
    cases e : sc.names.lookup x with
    | none => rw [e] at q; cases q.1
    | some z => rw [e] at q; cases z <;> first | exact .inl rfl | exact .inr rfl | cases q.1
  · cases h
theorem cG_ok {sc : Scope} {x : Str} (h : cG sc x = true) : sc.names.lookup x = some .globalImplicit ∧ (x == ("__debug__" : Str)) = false := by
  unfold cG at h
  rw [Bool.and_eq_true] at h
  refine ⟨?_, ?_⟩
  · cases e : sc.names.lookup x with
    | none => rw [e] at h; cases h.1
    | some z => rw [e] at h; cases z <;> first | rfl | cases h.1
  · have := h.2
    simp [dbg] at this
    simpa using this.1

/-! ### lists of expressions -/
theorem star_cons {e : Expr} {es : List Expr} {env : Env} (h : notStar e = true) : starEach (e :: es) env = (false, eval e env) :: starEach es env := by
  cases e <;> first | rfl | cases h
theorem star_any {es : List Expr} {env : Env} {pos : Pos} (h : es.all notStar = true) : (backTo pos (starEach es env)).any (·.1) = false := by
  induction es with
  | nil => rfl
  | cons e es ih =>
    rw [List.all_cons, Bool.and_eq_true] at h
    rw [star_cons h.1]
    show (false || (backTo pos (starEach es env)).any (·.1)) = false
    rw [ih h.2]
    rfl
def tas (X : Cx) : List Expr → TA
  | [] => tNil
  | e :: es => tCons (tFz (wE X e)) (tas X es)
theorem pa_w (X : Cx) : ∀ (es : List Expr), es.all notStar = true → PA X es (tas X es)
  | [], _ => pa_nil
  | e :: es, h => by
    rw [List.all_cons, Bool.and_eq_true] at h
    exact pa_cons (pe_fz (pe_w X e)) (pa_w X es h.2) (star_cons h.1)
section
variable {g : G} {T : Tb} {run : Str → List A → Res U} {W : WP} {X : Cx} {f : Expr → IE}
theorem jd_all : ∀ (es : List Expr), (∀ e ∈ es, J g W (RU g) (wE X e) (dU T run (f e))) → J g W (RDn g es.length) (tas X es) (dDs T run (ofL (es.map f)))
  | [], _ => jd_nil
  | e :: es, h => jd_cons (h e (by simp)) (jd_all es fun e' h' => h e' (by simp [h']))
theorem jz_all : ∀ (es : List Expr), (∀ e ∈ es, J g W (RU g) (wE X e) (dU T run (f e))) → J g W (RUs g) (tas X es) (dUs T run (ofL (es.map f)))
  | [], _ => jz_nil
  | e :: es, h => jz_cons (h e (by simp)) (jz_all es fun e' h' => h e' (by simp [h']))
theorem ja_all : ∀ (es : List Expr) (ms : List Bool), (∀ e ∈ es, J g W (RU g) (wE X e) (dU T run (f e))) → J g W (RAs g) (tas X es) (dAs T run ms (ofL (es.map f)))
  | [], ms, _ => by cases ms <;> exact ja_nil
  | e :: es, [], h => ja_cons false (h e (by simp)) (ja_all es [] fun e' h' => h e' (by simp [h']))
  | e :: es, m :: ms, h => ja_cons m (h e (by simp)) (ja_all es ms fun e' h' => h e' (by simp [h']))
end
/-! ### the answers of a def -/
theorem endF_ok {as : List A} {m : Res Fl} : (∀ u rs, endF as m = .ok u rs → RunEnd as rs) ∧ ∀ e rs, endF as m = .ex e rs → RunEnd as rs := by
  have key : ∀ {r rs : List A}, backP as r = some rs → RunEnd as rs := fun {r rs} h => by
    obtain ⟨h1, h2⟩ := backP_at h
    refine ⟨h1, fun j t a hj ht => ?_⟩
    have hl : j < rs.length := by rw [h1]; exact (List.getElem?_eq_some_iff.mp hj).1
    rcases h2 j _ (List.getElem?_eq_getElem hl) with ⟨z, n⟩ | ⟨t', b, z1, z2, z3, z4⟩
    · rw [hj] at z
      cases z
      rw [ht] at n
      cases n
    · rw [hj] at z1
      cases z1
      exact ⟨_, List.getElem?_eq_getElem hl, by rw [z3, ← z2, ht]⟩
  refine ⟨fun u rs h => ?_, fun e rs h => ?_⟩
  · cases m with
    | no => cases h
    | ex e r =>
      unfold endF at h
      cases q : backP as r with
      | none => simp only [q] at h; cases h
      | some rs' => simp only [q] at h; cases h
    | ok f r =>
      cases f with
      | nx =>
        unfold endF at h
        cases q : backP as r with
        | none => simp only [q] at h; cases h
        | some rs' => simp only [q] at h; cases h; exact key q
      | rt u =>
        cases u with
        | slot i => cases h
        | val d =>
          unfold endF at h
          cases q : backP as r with
          | none => simp only [q] at h; cases h
          | some rs' => simp only [q] at h; cases h; exact key q
        | fresh ds =>
          unfold endF at h
          cases q : backP as r with
          | none => simp only [q] at h; cases h
          | some rs' => simp only [q] at h; cases h; exact key q
      | bk => cases h
      | ct => cases h
  · cases m with
    | no => cases h
    | ok f r =>
      cases f with
      | nx =>
        unfold endF at h
        cases q : backP as r with
        | none => simp only [q] at h; cases h
        | some rs' => simp only [q] at h; cases h
      | rt u =>
        cases u with
        | slot i => cases h
        | val d =>
          unfold endF at h
          cases q : backP as r with
          | none => simp only [q] at h; cases h
          | some rs' => simp only [q] at h; cases h
        | fresh ds =>
          unfold endF at h
          cases q : backP as r with
          | none => simp only [q] at h; cases h
          | some rs' => simp only [q] at h; cases h
      | bk => cases h
      | ct => cases h
    | ex e' r =>
      unfold endF at h
      cases q : backP as r with
      | none => simp only [q] at h; cases h
      | some rs' => simp only [q] at h; cases h; exact key q
theorem runF_ok (T : Tb) (k : Nat) (f : Str) : RunOk (runF T k f) := fun as => by
  cases k with
  | zero => exact ⟨(fun u rs h => by cases h), (fun e rs h => by cases h)⟩
  | succ k =>
    unfold runF
    cases q : T.fns f with
    | none => exact ⟨(fun u rs h => by cases h), (fun e rs h => by cases h)⟩
    | some F =>
      simp only [q]
      split
      · exact endF_ok
      · exact ⟨(fun u rs h => by cases h), (fun e rs h => by cases h)⟩
end Pw

set_option Elab.async false
set_option linter.all false
set_option maxRecDepth 100000
set_option maxHeartbeats 4000000
namespace Pw
open PySem PySem.Spec PyProof.Rows L2

/-! ### texts do what the reader says: expressions -/
section
variable {g : G} {T : Tb} {k : Nat} {N : List Str} {sc : Scope} {hot : Bool} {W : WP} {X : Cx}
/-- what is shown of an expression -/
def SE (g : G) (T : Tb) (k : Nat) (W : WP) (X : Cx) (e : Expr) (i : IE) : Prop := J g W (RU g) (wE X e) (dU T (runF T k) i) ∧ J g W RB (wT X e) (boolM (dU T (runF T k) i))
theorem Cok.gl_of (ok : Cok g T k N sc hot W X) {x : Str} (h : cG sc x = true) : Gl X x ∧ (x == ("__debug__" : Str)) = false := by
  obtain ⟨h1, h2⟩ := cG_ok h
  exact ⟨by unfold Gl Env.kindOf; rw [ok.hsc]; exact h1, h2⟩
/-- a plain expression: its test is its value's truth -/
theorem se_plain {e : Expr} {te : TE} {i : IE} (h : PE X e te) (j : J g W (RU g) te (dU T (runF T k) i)) (he : ∀ whole, isTrue e X.env whole = (do let v ← whole; standAt e.pos; holding [v] (truthy v))) : SE g T k W X e i :=
  ⟨J.we h j, J.wt (pt_val h he) (jt_val j)⟩
theorem se_bad {e : Expr} : SE g T k W X e .bad := ⟨j_no, j_no⟩
theorem se_const {e : Expr} {v : V} {d : D} (h : PE X e (tC v)) (hr : ∀ H, Rep g H d v) (he : ∀ whole, isTrue e X.env whole = (do let v ← whole; standAt e.pos; holding [v] (truthy v))) : SE g T k W X e (.cst d) := se_plain h (ju_c hr) he
theorem se_name (ok : Cok g T k N sc hot W X) (x : Str) (p : Pos) : SE g T k W X (.Name x p) (cVar T N sc x) := by
  unfold cVar
  cases q : cV N sc x with
  | some i =>
    obtain ⟨h1, h2, h3, h4⟩ := cV_ok q
    exact se_plain (pe_var (i := i) (by rw [ok.n]; exact h1) (by rw [ok.hsc]; exact h2) h3 h4) (ju_var i) (fun _ => rfl)
  | none =>
    dsimp only
    split
    · rename_i hg
      cases q2 : T.cst x with
      | none => exact se_bad
      | some d =>
        obtain ⟨u, v, h1, h2, h3⟩ := ok.gl.cst x d q2
        obtain ⟨g1, g2⟩ := ok.gl_of hg
        exact se_const (pe_glob g1 h1 h2 g2) h3 (fun _ => rfl)
    · exact se_bad
theorem se_bin {a b : Expr} {i j : IE} (ha : SE g T k W X a i) (hb : SE g T k W X b j) (op : Operator) (p : Pos) : SE g T k W X (.BinOp a op b p) (.bin op i j) :=
  se_plain (pe_op (op_bin op) (pe_fz (pe_w X a)) (pe_w X b)) (ju_op (bin_ok op) ha.1 hb.1) (fun _ => rfl)
theorem mark_of {b : Expr} (h : noMark b = true) (op : CmpOp) : behindInMarks op b = false := by
  cases b <;> first | rfl | cases h
theorem se_cmp (ok : Cok g T k N sc hot W X) {a b : Expr} {i j : IE} (ha : SE g T k W X a i) (hb : SE g T k W X b j) (op : CmpOp) (p : Pos) (hm : noMark b = true) : SE g T k W X (.Compare a [op] [b] p) (.cmp op i j) := by
  obtain ⟨K, nf, tab⟩ := g
  obtain rfl : K = X.K := ok.hK
  have j1 := ju_op (cmp_ok (g := ⟨X.K, nf, tab⟩) op) ha.1 hb.1
  exact ⟨J.we (pe_cmpR (op_cmp ok.un op) (pe_fz (pe_w X a)) (pe_w X b) (mark_of hm op)) j1, J.wt (pt_cmpR (op_cmp ok.un op) (pe_fz (pe_w X a)) (pe_w X b) (mark_of hm op)) (jt_test j1)⟩
theorem ju_chn {r r' : R2} {f f2 : D → D → Option U} {ta tb tc : TE} {ma mb mc : Mo U} (hr : OpOk g r f) (hr2 : OpOk g r' f2) (ha : J g W (RU g) ta ma) (hb : J g W (RU g) tb mb) (hc : J g W (RU g) tc mc) :
    J g W (RU g) (tChain r r' (tFz ta) (tFz tb) tc) (do let x ← fzM ma; let y ← fzM mb; let u ← opM f x y; let k ← asB u; if k = true then do let z ← mc; opM f2 y z else pure (.val (.bl false))) := fun c H σ r Q o p =>
  show tFz ta σ H _ from J.bind (J.fzM ha) o p fun x H1 u r1 k1 o1 h1 p1 => show tFz tb σ H1 _ from J.bind (J.fzM hb) o1 p1 fun y H2 w r2 k2 o2 h2 p2 => by
    have p2' : Post g W c σ (RU g) H2 (Mo.bind (opM f u w) (fun z => do let k ← asB z; if k = true then do let z ← mc; opM f2 w z else pure (.val (.bl false))) r2) Q := p2
    unfold Mo.bind opM at p2'
    cases e1 : u.now r2 with
    | none => simp only [e1] at p2'; exact p2'.elim
    | some d =>
      cases e2 : w.now r2 with
      | none => simp only [e1, e2] at p2'; exact p2'.elim
      | some e =>
        simp only [e1, e2] at p2'
        cases e3 : f d e with
        | none => rw [e3] at p2'; exact p2'.elim
        | some z =>
          rw [e3] at p2'
          refine hr d e x y H2 _ z (RU0.now o2 (RU0.mono k2 h1) e1) (RU0.now o2 h2 e2) e3 ?_
          cases z with
          | slot i => exact p2'.elim
          | fresh ds => exact p2'.elim
          | val d' =>
            cases d' with
            | bl b =>
              intro v H3 s q
              refine ⟨b, q, ?_⟩
              have p3 : Post g W c σ (RU g) H2 ((if b = true then (do let z ← mc; opM f2 w z : Mo U) else pure (.val (.bl false))) r2) Q := p2'
              cases b with
              | false =>
                rw [if_neg (by decide)] at p3 ⊢
                exact p3.pure (o2.same s) (Kp.of s) rfl
              | true =>
                rw [if_pos rfl] at p3 ⊢
                exact J.bind hc (o2.same s) (p3.go (Kp.of s)) fun z' H4 w' r4 k4 o4 h4 p4 => p4.op o4 hr2 (RU0.mono ((Kp.of s).trans k4) h2) h4
            | _ => exact p2'.elim
theorem se_chn (ok : Cok g T k N sc hot W X) {a b c : Expr} {i j l : IE} (ha : SE g T k W X a i) (hb : SE g T k W X b j) (hc : SE g T k W X c l) (op op2 : CmpOp) (p : Pos) (hm : noMark c = true) : SE g T k W X (.Compare a [op, op2] [b, c] p) (.chn op op2 i j l) := by
  obtain ⟨K, nf, tab⟩ := g
  obtain rfl : K = X.K := ok.hK
  have j1 := ju_chn (cmp_ok (g := ⟨X.K, nf, tab⟩) op) (cmp_ok (g := ⟨X.K, nf, tab⟩) op2) ha.1 hb.1 hc.1
  have hm' : lastMarks [op, op2] [b, c] = false := mark_of hm op2
  exact ⟨J.we (pe_chain (op_cmp ok.un op) (op_cmp ok.un op2) (pe_fz (pe_w X a)) (pe_fz (pe_w X b)) (pe_w X c) hm') j1, J.wt (pt_chain (op_cmp ok.un op) (op_cmp ok.un op2) (pe_fz (pe_w X a)) (pe_fz (pe_w X b)) (pe_w X c) hm') (jt_test j1)⟩
theorem pw_bool {op : BoolOp} {vs : List Expr} {p : Pos} {t : TT} (h : PT X (.BoolOp op vs p) t) : PW X (.BoolOp op vs p) t := ⟨fun wh pins s σ H Q I q => h.run pins s σ H Q I q⟩
theorem se_and {a b : Expr} {rest : List Expr} {p : Pos} {i j : IE} (ha : SE g T k W X a i) (hb : SE g T k W X (.BoolOp .And (b :: rest) p) j) : SE g T k W X (.BoolOp .And (a :: b :: rest) p) (.and i j) := by
  refine ⟨J.we (pe_and (pe_w X a) (pe_w X _)) (ju_b (jb_and (jb_of ha.1) (jb_of hb.1))), ?_⟩
  have e : boolM (dU T (runF T k) (.and i j)) = andM (boolM (dU T (runF T k) i)) (boolM (dU T (runF T k) j)) := boolM_b _
  rw [e]
  exact J.wt (pw_and (pt_w X a) (pw_bool (pt_w X _))).pt (jt_and ha.2 hb.2)
theorem se_or {a b : Expr} {rest : List Expr} {p : Pos} {i j : IE} (ha : SE g T k W X a i) (hb : SE g T k W X (.BoolOp .Or (b :: rest) p) j) : SE g T k W X (.BoolOp .Or (a :: b :: rest) p) (.or i j) := by
  refine ⟨J.we (pe_or (pe_w X a) (pe_w X _)) (ju_b (jb_or (jb_of ha.1) (jb_of hb.1))), ?_⟩
  have e : boolM (dU T (runF T k) (.or i j)) = orM (boolM (dU T (runF T k) i)) (boolM (dU T (runF T k) j)) := boolM_b _
  rw [e]
  exact J.wt (pw_or (pt_w X a) (pw_bool (pt_w X _))).pt (jt_or ha.2 hb.2)
theorem se_and1 {a : Expr} {p : Pos} {i : IE} (ha : SE g T k W X a i) : SE g T k W X (.BoolOp .And [a] p) i := ⟨J.we (pe_one (pe_w X a)) ha.1, J.wt (pw_and1 (pt_w X a)).pt ha.2⟩
theorem se_or1 {a : Expr} {p : Pos} {i : IE} (ha : SE g T k W X a i) : SE g T k W X (.BoolOp .Or [a] p) i := ⟨J.we (pe_one (pe_w X a)) ha.1, J.wt (pw_or1 (pt_w X a)).pt ha.2⟩
theorem se_not {a : Expr} {p : Pos} {i : IE} (ha : SE g T k W X a i) : SE g T k W X (.UnaryOp .Not a p) (.not i) := by
  refine ⟨J.we (pe_not (pe_w X a)) (ju_b (jb_not (jb_of ha.1))), ?_⟩
  have e : boolM (dU T (runF T k) (.not i)) = notM (boolM (dU T (runF T k) i)) := boolM_b _
  rw [e]
  exact J.wt (pt_not (pt_w X a)) (jt_not ha.2)
theorem pt_ifE {c a b : Expr} {p : Pos} {tc ta tb : TT} (hc : PT X c tc) (ha : PT X a ta) (hb : PT X b tb) : PT X (.IfExp c a b p) (fun σ H Q => tc σ H fun k H1 => if k = true then ta σ H1 Q else tb σ H1 Q) := by
  refine ⟨fun pins s σ H Q I h => ?_⟩
  refine isTrue_IfExp (thn (hc.run pins s σ H _ I h) fun d s1 ⟨H1, I1, q1⟩ => ?_)
  cases d with
  | true => exact ha.run pins s1 σ H1 Q I1 q1
  | false => exact hb.run pins s1 σ H1 Q I1 q1
theorem se_ite {c a b : Expr} {p : Pos} {i j l : IE} (hc : SE g T k W X c i) (ha : SE g T k W X a j) (hb : SE g T k W X b l) : SE g T k W X (.IfExp c a b p) (.ite i j l) := by
  refine ⟨J.we (pe_ifExp (pt_w X c) (pe_w X a) (pe_w X b)) (ju_ite hc.2 ha.1 hb.1), ?_⟩
  have e : boolM (dU T (runF T k) (.ite i j l)) = iteM (boolM (dU T (runF T k) i)) (boolM (dU T (runF T k) j)) (boolM (dU T (runF T k) l)) := boolM_ite _ _ _
  rw [e]
  refine J.wt (pt_ifE (pt_w X c) (pt_w X a) (pt_w X b)) fun cc H σ r Q o p => ?_
  refine show wT X c σ H _ from J.bind hc.2 o p fun y H2 w r2' k2 o2 hw p2 => ?_
  obtain rfl : w = y := hw
  cases w with
  | true => rw [if_pos rfl]; exact ha.2 cc H2 σ r2' Q o2 p2
  | false => rw [if_neg (by decide)]; exact hb.2 cc H2 σ r2' Q o2 p2
theorem se_tup {f : Expr → IE} {es : List Expr} {x1 : Nat} {p : Pos} (h : ∀ e ∈ es, SE g T k W X e (f e)) (hs : es.all notStar = true) (hl : es.length ≤ 1000) : SE g T k W X (.Tuple es x1 p) (.tup (ofL (es.map f))) :=
  se_plain (pe_tup (pa_w X es hs)) (ju_tup hl (jd_all es fun e he => (h e he).1)) (fun _ => rfl)
theorem se_lst {f : Expr → IE} {es : List Expr} {p : Pos} (h : ∀ e ∈ es, SE g T k W X e (f e)) (hs : es.all notStar = true) (hl : es.length ≤ 1000) : SE g T k W X (.List es p) (.lst (ofL (es.map f))) :=
  se_plain (pe_lst (pa_w X es hs)) (ju_lst hl (jd_all es fun e he => (h e he).1)) (fun _ => rfl)
theorem plain_of {b : Expr} (h : plainIx b = true) : PlainIx b := by
  intro o i
  cases b <;> first | rfl | cases h
theorem se_ix (ok : Cok g T k N sc hot W X) {a b : Expr} {p : Pos} {i j : IE} (ha : SE g T k W X a i) (hb : SE g T k W X b j) (h : plainIx b = true) : SE g T k W X (.Subscript a b p) (.ix i j) := by
  obtain ⟨K, nf, tab⟩ := g
  obtain rfl : K = X.K := ok.hK
  exact se_plain (pe_ix ix_all (pe_fz (pe_w X a)) (pe_w X b) (plain_of h)) (ju_op (ix_ok (g := ⟨X.K, nf, tab⟩) ok.gl.tb) ha.1 hb.1) (fun _ => rfl)
theorem po_opt {f : Expr → IE} {lo : Option Expr} (h : ∀ e, lo = some e → SE g T k W X e (f e)) : ∃ to, PO X lo to ∧ J g W ROI to (dO T (runF T k) (cOpt f lo)) := by
  cases lo with
  | none => exact ⟨_, po_none, jo_none⟩
  | some e => exact ⟨_, po_some (pe_w X e), jo_some (h e rfl).1⟩
theorem se_slc (ok : Cok g T k N sc hot W X) {f : Expr → IE} {a : Expr} {lo hi : Option Expr} {p p2 : Pos} {i : IE} (ha : SE g T k W X a i) (hl : ∀ e, lo = some e → SE g T k W X e (f e)) (hh : ∀ e, hi = some e → SE g T k W X e (f e)) :
    SE g T k W X (.Subscript a (.Slice lo hi none p2) p) (.slc i (cOpt f lo) (cOpt f hi)) := by
  obtain ⟨K, nf, tab⟩ := g
  obtain rfl : K = X.K := ok.hK
  obtain ⟨t1, q1, j1⟩ := po_opt hl
  obtain ⟨t2, q2, j2⟩ := po_opt hh
  exact se_plain (pe_slice sl_all (pe_fz (pe_w X a)) q1 q2) (ju_slc ha.1 j1 j2) (fun _ => rfl)
/-! calls -/
theorem gone {es : List Expr} (h : es.isEmpty = false) : ∃ e r, es = e :: r := by
  cases es with
  | nil => cases h
  | cons e r => exact ⟨e, r, rfl⟩
theorem biOf_ok {x : Str} {b : Bi} (h : biOf x = some b) : x = b.nm := by
  unfold biOf at h
  split at h
  · rename_i e; cases h; exact e
  · split at h
    · rename_i e; cases h; exact e
    · split at h
      · rename_i e; cases h; exact e
      · split at h
        · rename_i e; cases h; exact e
        · split at h
          · rename_i e; cases h; exact e
          · cases h
theorem bi_mem (b : Bi) : b.nm ∈ biNames := by cases b <;> simp [Bi.nm, biNames]
theorem se_bi (ok : Cok g T k N sc hot W X) {f : Expr → IE} {es : List Expr} {p pos : Pos} {b : Bi} (h : ∀ e ∈ es, SE g T k W X e (f e)) (hs : es.all notStar = true) (hc : cG sc b.nm = true) (he : es.isEmpty = false) : SE g T k W X (.Call (.Name b.nm p) es [] pos) (.bi b (ofL (es.map f))) := by
  obtain ⟨K, nf, tab⟩ := g
  obtain rfl : K = X.K := ok.hK
  obtain ⟨g1, g2⟩ := ok.gl_of hc
  obtain ⟨e, r, rfl⟩ := gone he
  have m := ok.gl.bi _ (bi_mem b)
  have hs' := hs
  rw [List.all_cons, Bool.and_eq_true] at hs'
  have j := ju_bi (g := ⟨X.K, nf, tab⟩) (W := W) b (jz_all (T := T) (run := runF T k) (X := X) (e :: r) fun e he => (h e he).1)
  have pa := pa_w X (e :: r) hs
  have st := star_cons (es := r) (env := X.env) hs'.1
  have pl := star_any (env := X.env) (pos := pos) hs'.2
  cases b with
  | len => exact se_plain (pe_callB call_len g1 m (by decide +kernel) pa (by decide) g2 st pl) j (fun _ => rfl)
  | int => exact se_plain (pe_callTy call_int1 g1 m (by decide +kernel) pa (by decide) g2 st pl) j (fun _ => rfl)
  | list => exact se_plain (pe_callTy call_list_of g1 m (by decide +kernel) pa (by decide) g2 st pl) j (fun _ => rfl)
  | tuple => exact se_plain (pe_callTy call_tuple_of g1 m (by decide +kernel) pa (by decide) g2 st pl) j (fun _ => rfl)
  | str => exact se_plain (pe_callTy call_str_int g1 m (by decide +kernel) pa (by decide) g2 st pl) j (fun _ => rfl)
theorem pe_call0S {CX : CXT} {kk : Nat} {a : Addr} {fd : FuncData} {ps : List Str} {sp : Sp} {E : L2.St → XK} {x : Str} {p pos : Pos} (F : FnOk X.prog X.w X.K X.mg X.base CX kk a fd ps sp) (hr : Room kk X.A) (hg : Gl X x) (hm : X.mg x = some (.ref a)) (hk : PySem.W.keepIn X.K (.ref a) = true) (hb : Binds X.K fd ps [])
    (hx : ∀ σ, PassesAt CX X σ (E σ)) (hdb : (x == ("__debug__" : Str)) = false) : PE X (.Call (.Name x p) [] [] pos) (tCallS sp E tNil) := by
  refine ⟨fun pins s σ H Q I h => ?_⟩
  refine wpAny_Call_Name_kw (ld_glob I hg hm ?_ hdb)
  exact PySem.W.callWith_K0 I.kIn hk (run_fnS (us := []) F hr hb (hx σ) I .nil h)
theorem pe_call0H {CX : CXT} {kk : Nat} {a : Addr} {fd : FuncData} {ps : List Str} {sp : Sp} {E : L2.St → XK} {x : Str} {p pos : Pos} (F : L2H.FnH X.prog X.w X.K X.mg X.base CX kk a fd ps sp) (hr : L2H.RoomH kk X.A) (hc : L2H.HotC X) (hg : Gl X x) (hm : X.mg x = some (.ref a)) (hk : PySem.W.keepIn X.K (.ref a) = true) (hb : Binds X.K fd ps [])
    (hx : ∀ σ, PassesAt CX X σ (E σ)) (hdb : (x == ("__debug__" : Str)) = false) : PE X (.Call (.Name x p) [] [] pos) (tCallS sp E tNil) := by
  refine ⟨fun pins s σ H Q I h => ?_⟩
  refine wpAny_Call_Name_kw (ld_glob I hg hm ?_ hdb)
  exact PySem.W.callWith_K0 I.kIn hk (L2H.run_fnH (us := []) F hr hc hb (hx σ) I .nil h)
theorem se_call (ok : Cok g T k N sc hot W X) {f : Expr → IE} {es : List Expr} {p pos : Pos} {x : Str} (h : ∀ e ∈ es, SE g T k W X e (f e)) (hs : es.all notStar = true) (hc : cG sc x = true) (hf : (T.fns x).isSome = true) (hh : (!hot || T.hots x) = true) :
    SE g T k W X (.Call (.Name x p) es [] pos) (.call x (ofL (es.map f))) := by
  obtain ⟨K, nf, tab⟩ := g
  obtain rfl : K = X.K := ok.hK
  obtain ⟨g1, g2⟩ := ok.gl_of hc
  obtain ⟨F, hF⟩ := Option.isSome_iff_exists.mp hf
  have j := ju_call (g := ⟨X.K, nf, tab⟩) (W := W) (runF_ok T k x) (ja_all (T := T) (run := runF T k) (X := X) es (mdOf T x) fun e he => (h e he).1)
  have hx : ∀ σ, PassesAt (L2N.CX X.prog X.w) X σ (WE W.w σ) := fun σ => L2N.passAt ok.tk σ
  refine se_plain (te := tCallS (spF ⟨X.K, nf, tab⟩ (runF T k x)) (WE W.w) (tas X es)) ?_ j (fun _ => rfl)
  cases hot with
  | false =>
    obtain ⟨a, fd, h1, h2, h3, h4⟩ := ok.gl.fnC x F hF
    cases es with
    | nil => exact pe_call0S h1 (ok.cold rfl).2.1 g1 h2 h3 h4 hx g2
    | cons e r =>
      have hs' := hs
      rw [List.all_cons, Bool.and_eq_true] at hs'
      exact pe_callS h1 (ok.cold rfl).2.1 g1 h2 h3 h4 hx (pa_w X (e :: r) hs) g2 (star_cons hs'.1) (star_any hs'.2)
  | true =>
    obtain ⟨a, fd, h1, h2, h3, h4⟩ := ok.gl.fnH x F hF (by simpa using hh)
    cases es with
    | nil => exact pe_call0H h1 (ok.hotc rfl).2 (ok.hotc rfl).1 g1 h2 h3 h4 hx g2
    | cons e r =>
      have hs' := hs
      rw [List.all_cons, Bool.and_eq_true] at hs'
      exact L2H.pe_callH h1 (ok.hotc rfl).2 (ok.hotc rfl).1 g1 h2 h3 h4 hx (pa_w X (e :: r) hs) g2 (star_cons hs'.1) (star_any hs'.2)
theorem tyOf_ok {x : Str} {t : Ty} (h : tyOf x = some t) : x = t.nameS := by
  unfold tyOf at h
  split at h
  · rename_i e; cases h; exact e
  · split at h
    · rename_i e; cases h; exact e
    · split at h
      · rename_i e; cases h; exact e
      · split at h
        · rename_i e; cases h; exact e
        · split at h
          · rename_i e; cases h; exact e
          · split at h
            · rename_i e; cases h; exact e
            · cases h
theorem ty_mem (t : Ty) : t.nameS ∈ biNames := by cases t <;> simp [Ty.nameS, biNames]
theorem pe_ty (t : Ty) {p : Pos} (hg : Gl X t.nameS) (hm : X.mg t.nameS = none) : PE X (.Name t.nameS p) (tC (.ty t.name)) := by
  cases t <;> exact pe_bltn (v := .ty _) hg hm (by decide +kernel) rfl (by decide) (by decide)
theorem se_isT (ok : Cok g T k N sc hot W X) {a : Expr} {i : IE} {p p2 pos : Pos} {t : Ty} (ha : SE g T k W X a i) (hs : notStar a = true) (hc : cG sc "isinstance" = true) (ht : cG sc t.nameS = true) : SE g T k W X (.Call (.Name "isinstance" p) [a, .Name t.nameS p2] [] pos) (.isT i t) := by
  obtain ⟨K, nf, tab⟩ := g
  obtain rfl : K = X.K := ok.hK
  obtain ⟨g1, g2⟩ := ok.gl_of hc
  obtain ⟨g3, g4⟩ := ok.gl_of ht
  have pa : PA X [a, .Name t.nameS p2] (tCons (tFz (wE X a)) (tCons (tC (.ty t.name)) tNil)) := pa_cons (pe_fz (pe_w X a)) (pa_cons (pe_ty t g3 (ok.gl.bi _ (ty_mem t))) pa_nil) (star_cons hs)
  exact se_plain (pe_callB call_isi g1 (ok.gl.bi _ (by simp [biNames])) (by decide +kernel) pa (by decide) g2 (star_cons hs) rfl) (ju_isTy (g := ⟨X.K, nf, tab⟩) ok.gl.isT t ha.1) (fun _ => rfl)
theorem se_isC (ok : Cok g T k N sc hot W X) {a : Expr} {i : IE} {p p2 pos : Pos} {C : Str} (ha : SE g T k W X a i) (hs : notStar a = true) (hc : cG sc "isinstance" = true) (ht : cG sc C = true) (ho : T.own C = true) : SE g T k W X (.Call (.Name "isinstance" p) [a, .Name C p2] [] pos) (.isC i C) := by
  obtain ⟨K, nf, tab⟩ := g
  obtain rfl : K = X.K := ok.hK
  obtain ⟨g1, g2⟩ := ok.gl_of hc
  obtain ⟨g3, g4⟩ := ok.gl_of ht
  obtain ⟨m1, m2⟩ := ok.gl.own C ho
  have pa : PA X [a, .Name C p2] (tCons (tFz (wE X a)) (tCons (tC (.ref (He.ga X.K C))) tNil)) := pa_cons (pe_fz (pe_w X a)) (pa_cons (pe_glob (v := .ref (He.ga X.K C)) g3 m1 rfl g4) pa_nil) (star_cons hs)
  exact se_plain (pe_callB call_isi g1 (ok.gl.bi _ (by simp [biNames])) (by decide +kernel) pa (by decide) g2 (star_cons hs) rfl) (ju_isOwn (g := ⟨X.K, nf, tab⟩) ok.gl.isT C m2 ha.1) (fun _ => rfl)
/-! a caught error -/
theorem zip_look {H : Hp} : ∀ {ns : List Str} {ds : List D} {xs : List V} {f : Str} {d : D}, Reps g H ds xs → (ns.zip ds).lookup f = some d → ∃ v, (ns.zip xs).lookup f = some v ∧ Rep g H d v
  | [], ds, xs, f, d, _, e => by simp at e
  | n :: ns, [], xs, f, d, _, e => by simp at e
  | n :: ns, b :: ds, xs, f, d, h, e => by
    obtain ⟨y, ys, rfl, h1, h2⟩ := h
    rw [List.zip_cons_cons, List.lookup_cons] at e ⊢
    cases q : f == n with
    | true => rw [q] at e; cases e; exact ⟨y, rfl, h1⟩
    | false => rw [q] at e; exact zip_look h2 e
/-- the object that stands at a, in the machine -/
theorem exq_inst {pins : List (Addr × Obj)} {σ : L2.St} {H : Hp} {s : Shared} {a C dx : Addr} {oe : Obj} {fs : List (Str × V)} (I : Inv X pins σ H s) (hm : (a, oe) ∈ X.pn) (h1 : oe.cls = .ref C) (h2 : oe.dict = some dx) (h3 : ∃ vs, oe.data = .fields vs) (h4 : H dx = some (.xd fs)) :
    ∃ mA od, s.heap.Ns1 dx mA ∧ (∀ f, RelO (fs.lookup f) (mA f)) ∧ s.heap.get? dx = some od ∧ PySem.W.InstAt s.heap a oe C (some od) := by
  obtain ⟨ha, _⟩ := I.pin (a, oe) (List.mem_append_left _ hm)
  obtain ⟨vs, hd⟩ := h3
  have hx : ObjOk X.prog X.w H s.heap dx (.xd fs) := I.hok dx _ h4
  obtain ⟨mA, hns, hr⟩ := hx
  obtain ⟨od, es, ep, ho, _⟩ := id hns
  exact ⟨mA, od, hns, hr, ho, ha, h1, by unfold PySem.W.notCls; rw [hd] <;> rfl, by rw [h2]; exact ho⟩
def rXis (X : Cx) : List V → Hp → VK → Prop := fun xs H Q => ∃ (a C D dx : Addr) (b : Bool) (oe : Obj) (fs : List (Str × V)), xs = [.ref a, .ref D] ∧ (a, oe) ∈ X.pn ∧ oe.cls = .ref C ∧ oe.dict = some dx ∧ (∃ vs, oe.data = .fields vs) ∧ ExcC X.K C ∧ H dx = some (.xd fs) ∧ PySem.W.kitOne X.K (.ref C) (.ref D) = some b ∧ Q (.bl b) H
theorem call_xis : CallR X (.builtin "isinstance") (rXis X) := by
  intro pins s σ H xs us Q I r h
  obtain ⟨a, C, D, dx, b, oe, fs, rfl, hm, h1, h2, h3, E, h4, e, q⟩ := h
  obtain ⟨u1, u2, rfl, r1, r2⟩ := vals2 r
  obtain rfl : u1 = Value.ref a := r1
  obtain rfl : u2 = Value.ref D := r2
  obtain ⟨mA, od, _, _, _, J⟩ := exq_inst I hm h1 h2 h3 h4
  have hc : (PySem.W.clsIn X.K C).isSome = true := by
    obtain ⟨cd, hc, _⟩ := PySem.W.any_some E.hd
    rw [hc]; rfl
  exact PySem.W.kia_one (PySem.W.kitx_exc (od := some od) hc E.hg E.hk E.hs E.ha E.hn E.ht E.hm) I.kIn J e (fun z => nomatch z) fun tk => ⟨.bl b, H, I.tok tk, rfl, q⟩
theorem se_xis (ok : Cok g T k N sc hot W X) {i : Nat} {x t : Str} {p p1 p2 pos : Pos} (hv : cV N sc x = some i) (hc : cG sc "isinstance" = true) (ht : cG sc t = true) : SE g T k W X (.Call (.Name "isinstance" p) [.Name x p1, .Name t p2] [] pos) (.xis i t) := by
  obtain ⟨K, nf, tab⟩ := g
  obtain rfl : K = X.K := ok.hK
  obtain ⟨g1, g2⟩ := ok.gl_of hc
  obtain ⟨g3, g4⟩ := ok.gl_of ht
  obtain ⟨h1, h2, h3, h4⟩ := cV_ok hv
  have px : PE X (.Name x p1) (tVar i) := pe_var (i := i) (by rw [ok.n]; exact h1) (by rw [ok.hsc]; exact h2) h3 h4
  by_cases hD : X.mg t = some (.ref (He.ga X.K t))
  · have pa : PA X [.Name x p1, .Name t p2] (tCons (tVar i) (tCons (tC (.ref (He.ga X.K t))) tNil)) := pa_cons px (pa_cons (pe_glob (v := .ref (He.ga X.K t)) g3 hD rfl g4) pa_nil)
    refine se_plain (pe_callB call_xis g1 (ok.gl.bi _ (by simp [biNames])) (by decide +kernel) pa (by decide) g2 rfl rfl) (fun c H σ r Q o p => ?_) (fun _ => rfl)
    have p' : Post ⟨X.K, nf, tab⟩ W c σ (RU ⟨X.K, nf, tab⟩) H (xisM (fun D => T.xis D t) i r) Q := p
    unfold xisM at p'
    cases e : r[i]? with
    | none => simp only [e] at p'; exact p'.elim
    | some a =>
      cases a with
      | exn C ns ds =>
        simp only [e] at p'
        cases e2 : T.xis C t with
        | none => rw [e2] at p'; exact p'.elim
        | some b =>
          rw [e2] at p'
          obtain ⟨a, dx, xs, q1, q2, q3, q4, q5⟩ := o.exn i C ns ds e
          obtain ⟨oe, m1, m2, m3, m4⟩ := ok.exq a C dx q2
          obtain ⟨x1, x2, x3⟩ := ok.gl.xis C t b e2
          exact ⟨_, q1, a, He.ga X.K C, He.ga X.K t, dx, b, oe, _, rfl, m1, m2, m3, m4, x1, q3, x2, p' _ H (Kp.refl H) o rfl⟩
      | _ => simp only [e] at p'; exact p'.elim
  · refine ⟨fun c H σ r Q o p => ?_, fun c H σ r Q o p => ?_⟩
    · have p' : Post ⟨X.K, nf, tab⟩ W c σ (RU ⟨X.K, nf, tab⟩) H (xisM (fun D => T.xis D t) i r) Q := p
      unfold xisM at p'
      cases e : r[i]? with
      | none => simp only [e] at p'; exact p'.elim
      | some a =>
        cases a with
        | exn C ns ds =>
          simp only [e] at p'
          cases e2 : T.xis C t with
          | none => rw [e2] at p'; exact p'.elim
          | some b => exact absurd (ok.gl.xis C t b e2).2.2 hD
        | _ => simp only [e] at p'; exact p'.elim
    · have p' : Post ⟨X.K, nf, tab⟩ W c σ RB H (Mo.bind (xisM (fun D => T.xis D t) i) asB r) Q := p
      unfold Mo.bind xisM at p'
      cases e : r[i]? with
      | none => simp only [e] at p'; exact p'.elim
      | some a =>
        cases a with
        | exn C ns ds =>
          simp only [e] at p'
          cases e2 : T.xis C t with
          | none => rw [e2] at p'; exact p'.elim
          | some b => exact absurd (ok.gl.xis C t b e2).2.2 hD
        | _ => simp only [e] at p'; exact p'.elim
def tXfd (X : Cx) (i : Nat) (f : Str) : TE := fun σ H Q => ∃ (a C dx : Addr) (oe : Obj) (fs : List (Str × V)) (v : V), σ[i]? = some (some (.ref a)) ∧ (a, oe) ∈ X.pn ∧ oe.cls = .ref C ∧ oe.dict = some dx ∧ (∃ vs, oe.data = .fields vs) ∧ XfC X.K C ∧ PySem.W.findIn X.K (.ref C) f = some none ∧ H dx = some (.xd fs) ∧ fs.lookup f = some v ∧ Q v H
theorem pe_xfd {i : Nat} {x f : Str} {p pos : Pos} (hN : X.N[i]? = some x) (hv : Vis X.env.scope x) (hd : (x == ("__debug__" : Str)) = false) (hcd : (x == ("__classdict__" : Str)) = false) : PE X (.Attribute (.Name x p) f pos) (tXfd X i f) := by
  refine ⟨fun pins s σ H Q I h => ?_⟩
  obtain ⟨a, C, dx, oe, fs, v, hs, hm, h1, h2, h3, T, hno, h4, l, q⟩ := h
  have px : PE X (.Name x p) (tVar i) := pe_var (i := i) hN hv hd hcd
  refine attr_of (by rfl) (thn (px.run pins s σ H (fun x' H1 => x' = .ref a ∧ H1 = H) I ⟨_, hs, rfl, rfl⟩) fun u s1 hh => ?_)
  obtain ⟨x', H1, I1, rx, ex, eH⟩ := hh
  subst ex
  obtain rfl : u = Value.ref a := rx
  subst eH
  obtain ⟨mA, od, hns, hr, ho, J⟩ := exq_inst I1 hm h1 h2 h3 h4
  obtain ⟨od', ho', hl⟩ := lookIn_ns hns
  obtain rfl : od' = od := by rw [ho] at ho'; cases ho'; rfl
  obtain ⟨u, hu, ru⟩ := RelO.some_of (v := v) (o := mA f) (by rw [← l]; exact hr f)
  exact HandSPX.exc_get I1.kIn J T.ga T.gg T.exC (PySem.W.findObj_own T.hdC hno rfl (by rw [hl, hu])) (handed_of ru) ⟨v, H1, I1.tok _, ru, q⟩
theorem se_xfd (ok : Cok g T k N sc hot W X) {i : Nat} {x f : Str} {p pos : Pos} (hv : cV N sc x = some i) : SE g T k W X (.Attribute (.Name x p) f pos) (.xfd i f) := by
  obtain ⟨K, nf, tab⟩ := g
  obtain rfl : K = X.K := ok.hK
  obtain ⟨h1, h2, h3, h4⟩ := cV_ok hv
  refine se_plain (pe_xfd (i := i) (by rw [ok.n]; exact h1) (by rw [ok.hsc]; exact h2) h3 h4) (fun c H σ r Q o p => ?_) (fun _ => rfl)
  have p' : Post ⟨X.K, nf, tab⟩ W c σ (RU ⟨X.K, nf, tab⟩) H (xfdM T.errs f i r) Q := p
  unfold xfdM at p'
  cases e : r[i]? with
  | none => simp only [e] at p'; exact p'.elim
  | some a =>
    cases a with
    | exn C ns ds =>
      simp only [e] at p'
      split at p'
      · rename_i hef
        cases e2 : (ns.zip ds).lookup f with
        | none => rw [e2] at p'; exact p'.elim
        | some d =>
          rw [e2] at p'
          obtain ⟨a, dx, xs, q1, q2, q3, q4, q5⟩ := o.exn i C ns ds e
          obtain ⟨oe, m1, m2, m3, m4⟩ := ok.exq a C dx q2
          obtain ⟨v, v1, v2⟩ := zip_look q5 e2
          obtain ⟨_, D, fI, cc, cda, qual, params, body, scope, TX⟩ := ok.gl.errs C f hef
          exact ⟨a, He.ga X.K C, dx, oe, _, v, q1, m1, m2, m3, m4, (ok.gl.xfd C f hef).1, TX.noN, q3, v1, p' v H (Kp.refl H) o v2⟩
      · exact p'.elim
    | _ => simp only [e] at p'; exact p'.elim
/-! all of it -/
theorem se_call_all (ok : Cok g T k N sc hot W X) {f : Expr → IE} {es : List Expr} {p pos : Pos} {x : Str} (h : ∀ e, SE g T k W X e (f e)) : SE g T k W X (.Call (.Name x p) es [] pos) (cCall T N sc hot f x es) := by
  unfold cCall
  split
  · rename_i hc
    rw [Bool.and_eq_true] at hc
    split
    · rename_i hx
      subst hx
      unfold cIs
      split
      · rename_i a t p2
        split
        · rename_i ht
          rw [Bool.and_eq_true] at ht
          cases q : tyOf t with
          | some ty =>
            have := tyOf_ok q
            subst this
            exact se_isT ok (h a) ht.2 hc.1 ht.1
          | none =>
            dsimp only
            split
            · rename_i ho
              exact se_isC ok (h a) ht.2 hc.1 ht.1 ho
            · split
              · split
                · rename_i y p1
                  cases q2 : cV N sc y with
                  | some i => exact se_xis ok q2 hc.1 ht.1
                  | none => exact se_bad
                · exact se_bad
              · exact se_bad
        · exact se_bad
      · exact se_bad
    · cases q : biOf x with
      | some b =>
        have := biOf_ok q
        subst this
        dsimp only
        split
        · exact se_bad
        · rename_i he
          exact se_bi ok (fun e _ => h e) hc.2 hc.1 (by simpa using he)
      | none =>
        dsimp only
        split
        · rename_i hf
          rw [Bool.and_eq_true] at hf
          exact se_call ok (fun e _ => h e) hc.2 hc.1 hf.1 hf.2
        · exact se_bad
  · exact se_bad
theorem snd_E (ok : Cok g T k N sc hot W X) : ∀ (n : Nat) (e : Expr), SE g T k W X e (cE T N sc hot n e)
  | 0, e => se_bad
  | n + 1, e => by
    have ih := snd_E ok n
    unfold cE
    split
    · exact se_const pe_int (fun _ => rfl) (fun _ => rfl)
    · exact se_const pe_str (fun _ => rfl) (fun _ => rfl)
    · exact se_const pe_bl (fun _ => rfl) (fun _ => rfl)
    · exact se_const pe_non (fun _ => rfl) (fun _ => rfl)
    · exact se_name ok _ _
    · exact se_bin (ih _) (ih _) _ _
    · split
      · rename_i hm; exact se_cmp ok (ih _) (ih _) _ _ hm
      · exact se_bad
    · split
      · rename_i hm; exact se_chn ok (ih _) (ih _) (ih _) _ _ _ hm
      · exact se_bad
    · exact se_and1 (ih _)
    · exact se_or1 (ih _)
    · exact se_and (ih _) (ih _)
    · exact se_or (ih _) (ih _)
    · exact se_not (ih _)
    · exact se_ite (ih _) (ih _) (ih _)
    · split
      · rename_i h
        rw [Bool.and_eq_true] at h
        exact se_tup (fun e _ => ih e) h.1 (of_decide_eq_true h.2)
      · exact se_bad
    · split
      · rename_i h
        rw [Bool.and_eq_true] at h
        exact se_lst (fun e _ => ih e) h.1 (of_decide_eq_true h.2)
      · exact se_bad
    · exact se_slc ok (ih _) (fun e _ => ih e) (fun e _ => ih e)
    · split
      · rename_i h; exact se_ix ok (ih _) (ih _) h
      · exact se_bad
    · rename_i x p f pos
      cases q : cV N sc x with
      | some i =>
        dsimp only
        split
        · exact se_xfd ok q
        · exact se_bad
      | none => exact se_bad
    · exact se_call_all ok ih
    · exact se_bad
end
end Pw

set_option Elab.async false
set_option linter.all false
set_option maxRecDepth 100000
set_option maxHeartbeats 4000000
namespace Pw
open PySem PySem.Spec PyProof.Rows L2

/-! ### what a loop walks -/
section
variable {g : G} {T : Tb} {k : Nat} {N : List Str} {sc : Scope} {hot : Bool} {W : WP} {X : Cx}
def iAll (K : PySem.W.Frag) (te : TE) : TI := fun σ H R => te σ H fun v H1 => (∃ a, v = .ref a ∧ (∃ xs, SqL K H1 a xs) ∧ R (Itl K a) H1) ∨ (∃ a, v = .ref a ∧ (∃ xs, SqT K H1 a xs) ∧ R (Itt K a) H1) ∨ ∃ x, v = .str x ∧ R (Its x) H1
/-- a walk by what the value is -/
theorem pi_all {tg e : Expr} {te : TE} (he : PE X e te) : PI X tg e (iAll X.K te) := by
  refine ⟨fun pins s σ H R I h => ?_⟩
  refine thn (he.run pins s σ H _ I h) fun v s1 ⟨x, H1, I1, r1, q1⟩ => ?_
  have new : ∀ (o : Obj) (b o' : _), s1.heap.get? b = some o' → (s1.heap.push o).get? b = some o' := fun o b o' e => Heap.get?_push_of_some _ e
  have fin : ∀ b ∈ [s1.heap.objs.size], FpOk X pins H1 b := fun b hb => by
    obtain rfl := List.mem_singleton.mp hb
    exact I1.fpOk (Nat.le_refl _) (I1.hok.fresh (Nat.le_refl _))
  rcases q1 with ⟨a, rfl, ⟨xs, hq⟩, q⟩ | ⟨a, rfl, ⟨xs, hq⟩, q⟩ | ⟨x, rfl, q⟩
  · obtain rfl : v = .ref a := r1
    obtain ⟨its, rv, p, hz⟩ := I1.list hq
    exact wpAny_pyIter_list p.isList ⟨s1.heap.objs.size, [s1.heap.objs.size], _, _, H1, rfl, I1.kept (t' := s1.toks) (new _), turn_list a _, ⟨_, Heap.get?_push_size _ rfl, rfl, rfl⟩, fin, q⟩
  · obtain rfl : v = .ref a := r1
    obtain ⟨its, rv, p, hz⟩ := I1.tuple hq
    exact wpAny_pyIter_tuple (show s1.heap.IsTuple a its.toArray from p) ⟨s1.heap.objs.size, [s1.heap.objs.size], _, _, H1, rfl, I1.kept (t' := s1.toks) (new _), turn_tuple a _, ⟨_, Heap.get?_push_size _ rfl, rfl, rfl⟩, fin, q⟩
  · obtain ⟨t, rfl⟩ := r1
    cases ha : x.cps.all (· < 128) with
    | false => exact wpAny_pyIter_wide ha (pi_one (tk := s1.toks) I1 _ (turn_str _ x t "str_iterator" (.inr rfl)) ⟨_, Heap.get?_push_size _ rfl, rfl, rfl⟩ q)
    | true => exact wpAny_pyIter_ascii ha (pi_one (tk := s1.toks) I1 _ (turn_str _ x t "str_ascii_iterator" (.inl rfl)) ⟨_, Heap.get?_push_size _ rfl, rfl, rfl⟩ q)
theorem ji_all {te : TE} {m : Mo U} (h : J g W (RU g) te m) : J g W (RI g) (iAll g.K (tFz te)) (optM (dataM m) itemsD) := fun c H σ r Q o p =>
  show tFz te σ H _ from J.bind (J.data h) o p fun v H1 d r1 k1 o1 h1 p1 => by
    cases e : itemsD d with
    | none => rw [e] at p1; exact p1.elim
    | some ds =>
      rw [e] at p1
      cases d with
      | lst es =>
        cases e
        obtain ⟨a, xs, rfl, hp, hr⟩ := h1
        refine .inl ⟨a, rfl, ⟨xs, .inl hp.rd⟩, p1 _ H1 (Kp.refl _) o1 fun H2 k2 => ?_⟩
        have hp2 := (hp.mono k2).rd
        have hr2 := Reps.mono k2 _ _ hr
        refine ⟨fun i d hi => ?_, fun i hi => ⟨xs, .inl hp2, by rw [Reps.len hr2]; exact hi⟩⟩
        obtain ⟨u, e1, e2⟩ := Reps.at hr2 hi
        refine ⟨⟨xs, u, .inl hp2, e1⟩, fun x H3 y => ⟨y.1, ?_⟩⟩
        have := y.2 xs (.inl hp2)
        rw [e1] at this
        cases this
        exact e2
      | tup es =>
        cases e
        obtain ⟨a, xs, rfl, hp, hr⟩ := h1
        refine .inr (.inl ⟨a, rfl, ⟨xs, hp⟩, p1 _ H1 (Kp.refl _) o1 fun H2 k2 => ?_⟩)
        have hp2 := kp_t k2 hp
        have hr2 := Reps.mono k2 _ _ hr
        refine ⟨fun i d hi => ?_, fun i hi => ⟨xs, hp2, by rw [Reps.len hr2]; exact hi⟩⟩
        obtain ⟨u, e1, e2⟩ := Reps.at hr2 hi
        refine ⟨⟨xs, u, hp2, e1⟩, fun x H3 y => ⟨y.1, ?_⟩⟩
        have := y.2 xs hp2
        rw [e1] at this
        cases this
        exact e2
      | str x =>
        cases e
        obtain rfl : v = .str x := h1
        refine .inr (.inr ⟨x, rfl, p1 _ H1 (Kp.refl _) o1 fun H2 k2 => ⟨fun i d hi => ?_, fun i hi => ?_⟩⟩)
        · unfold signs at hi
          rw [List.getElem?_map, Array.getElem?_toList] at hi
          cases q : x.cps[i]? with
          | none => rw [q] at hi; cases hi
          | some c =>
            rw [q] at hi
            cases hi
            refine ⟨(Array.getElem?_eq_some_iff.mp q).1, fun u H3 y => ⟨y.1, ?_⟩⟩
            obtain ⟨c', e1, e2⟩ := y.2
            rw [q] at e1
            cases e1
            exact e2
        · show x.cps.size ≤ i
          unfold signs at hi
          simpa using hi
      | _ => cases e
theorem ri_upto {n : Int} {c : Fr0} {σ : L2.St} {r : List A} {H : Hp} : RI g c σ r H (upto n.toNat) (Itr 0 n.toNat) := fun H2 k2 => ⟨fun i d hi => by
    unfold upto at hi
    rw [List.getElem?_map] at hi
    have hl : i < n.toNat := by
      rcases Nat.lt_or_ge i n.toNat with hl | hl
      · exact hl
      · rw [List.getElem?_eq_none (by simpa using hl)] at hi; cases hi
    rw [List.getElem?_range hl] at hi
    cases hi
    refine ⟨hl, fun x H3 y => ⟨y.1, ?_⟩⟩
    rw [y.2]
    show V.int _ = V.int _
    simp, fun i hi => by
    show n.toNat ≤ i
    unfold upto at hi
    simpa using hi⟩
theorem ri_range2 {a b : Int} {c : Fr0} {σ : L2.St} {r : List A} {H : Hp} : RI g c σ r H (range2 a b) (Itr a (b - a).toNat) := fun H2 k2 => ⟨fun i d hi => by
    unfold range2 at hi
    rw [List.getElem?_map] at hi
    have hl : i < (b - a).toNat := by
      rcases Nat.lt_or_ge i (b - a).toNat with hl | hl
      · exact hl
      · rw [List.getElem?_eq_none (by simpa using hl)] at hi; cases hi
    rw [List.getElem?_range hl] at hi
    cases hi
    exact ⟨hl, fun x H3 y => ⟨y.1, y.2⟩⟩, fun i hi => by
    show (b - a).toNat ≤ i
    unfold range2 at hi
    simpa using hi⟩
theorem ji_rng1 {tA : TA} {m : Mo (List D)} (h : J g W (RDn g 1) tA m) : J g W (RI g) (iRng1 tA) (optM m rngD) := fun c H σ r Q o p =>
  show tA σ H _ from J.bind h o p fun vs H1 ds r1 k1 o1 h1 p1 => by
    cases e : rngD ds with
    | none => rw [e] at p1; exact p1.elim
    | some es =>
      rw [e] at p1
      obtain ⟨h2, h3⟩ := h1
      match ds, h3 with
      | [d], _ =>
        cases d with
        | int n =>
          have e' : (if -1000000 ≤ n ∧ n ≤ 1000000 then some (upto n.toNat) else none) = some es := e
          split at e'
          · rename_i hn
            cases e'
            obtain ⟨y, ys, rfl, e1, e2⟩ := h2
            obtain rfl : ys = [] := e2
            obtain rfl : y = .int n := e1
            exact ⟨n, rfl, by omega, by omega, p1 _ H1 (Kp.refl _) o1 ri_upto⟩
          · cases e'
        | _ => cases e
theorem ji_rng2 {tA : TA} {m : Mo (List D)} (h : J g W (RDn g 2) tA m) : J g W (RI g) (iRng2 tA) (optM m rngD) := fun c H σ r Q o p =>
  show tA σ H _ from J.bind h o p fun vs H1 ds r1 k1 o1 h1 p1 => by
    cases e : rngD ds with
    | none => rw [e] at p1; exact p1.elim
    | some es =>
      rw [e] at p1
      obtain ⟨h2, h3⟩ := h1
      match ds, h3 with
      | [d, d'], _ =>
        cases d with
        | int a =>
          cases d' with
          | int b =>
            have e' : (if (-1000000 ≤ a ∧ a ≤ 1000000) ∧ (-1000000 ≤ b ∧ b ≤ 1000000) then some (range2 a b) else none) = some es := e
            split at e'
            · rename_i hn
              cases e'
              obtain ⟨y, ys, rfl, e1, z, zs, rfl, e2, e3⟩ := h2
              obtain rfl : zs = [] := e3
              obtain rfl : y = .int a := e1
              obtain rfl : z = .int b := e2
              exact ⟨a, b, rfl, ⟨by omega, by omega, by omega, by omega⟩, p1 _ H1 (Kp.refl _) o1 ri_range2⟩
            · cases e'
          | _ => cases e
        | _ => cases d' <;> cases e

/-! ### statements -/
def SS (g : G) (T : Tb) (k : Nat) (W : WP) (X : Cx) (s : Stmt) (i : IS) : Prop := JS g W (wS X s) (dS T (runF T k) i)
theorem ss_bad {s : Stmt} : SS g T k W X s .bad := js_no
theorem ss_all {f : Stmt → IS} : ∀ {ss : List Stmt}, (∀ s ∈ ss, SS g T k W X s (f s)) → JS g W (wSs X ss) (dSs T (runF T k) (ofS (ss.map f)))
  | [], _ => JS.wss pss_nil js_next
  | s :: ss, h => JS.wss (pss_cons (ps_w X s) (pss_w X ss)) (js_seq (h s (by simp)) (ss_all fun s' h' => h s' (by simp [h'])))
theorem swaps_of {e : Expr} {t : Option Expr} {l : Nat} {env : Env} (h : notComp e = true) : swapsWith e t l env = pure false := by
  cases e <;> first | rfl | cases h
theorem swapsS_of {e t : Expr} {l : Nat} {env : Env} (h : notComp e = true) : swapsWithSole [t] e l env = pure false := by
  show swapsWith e (some t) l env = pure false
  exact swaps_of h
theorem swapped_of {ts : List Expr} {e : Expr} {env : Env} (h : notTup e = true) : swappedStores ts e env = pure none := by
  cases e <;> first
    | (cases h; done)
    | (rcases ts with _ | ⟨t, _ | ⟨t2, ts⟩⟩ <;> first | rfl | (cases t <;> rfl))
theorem swapped_sub {o i e : Expr} {p : Pos} {env : Env} : swappedStores [.Subscript o i p] e env = pure none := by
  cases e <;> rfl
theorem ss_set (ok : Cok g T k N sc hot W X) {x : Str} {p pos : Pos} {e : Expr} {i : Nat} {ie : IE} (h : SE g T k W X e ie) (hi : cL N sc x = some i) (hc : notComp e = true) : SS g T k W X (.Assign [.Name x p] e pos) (.set i ie) := by
  obtain ⟨h1, h2⟩ := cL_ok hi
  exact JS.ws (ps_set (i := i) (by rw [ok.n]; exact ok.nd) (by rw [ok.n]; exact h1) (by rw [ok.hsc]; exact h2) (pe_fz (pe_w X e)) (swaps_of hc) (by rw [ok.hsc]; exact ok.fnc x h2)) (js_set i h.1)
theorem ss_setI (ok : Cok g T k N sc hot W X) {x : Str} {p p2 pos : Pos} {e kx : Expr} {i : Nat} {ie ik : IE} (h : SE g T k W X e ie) (hk : SE g T k W X kx ik) (hi : cV N sc x = some i) (hp : plainIx kx = true) (hc : notComp e = true) :
    SS g T k W X (.Assign [.Subscript (.Name x p) kx p2] e pos) (.setI i ik ie) := by
  obtain ⟨h1, h2, h3, h4⟩ := cV_ok hi
  have px : PE X (.Name x p) (tVar i) := pe_var (i := i) (by rw [ok.n]; exact h1) (by rw [ok.hsc]; exact h2) h3 h4
  exact JS.ws (ps_asg (pe_fz (pe_w X e)) (pg_sub px (pe_w X kx) set_list (fun v => by cases kx <;> first | rfl | cases hp)) (swapsS_of hc) swapped_sub) (js_setI i h.1 hk.1)
theorem pg_nm (ok : Cok g T k N sc hot W X) {x : Str} {p : Pos} {i : Nat} (hi : cL N sc x = some i) : PG X (.Name x p) (gName i) := by
  obtain ⟨h1, h2⟩ := cL_ok hi
  exact pg_name (i := i) (by rw [ok.n]; exact ok.nd) (by rw [ok.n]; exact h1) (by rw [ok.hsc]; exact h2) (by rw [ok.hsc]; exact ok.fnc x h2)
theorem pgs_nms (ok : Cok g T k N sc hot W X) : ∀ {es : List Expr} {is : List Nat}, cNs N sc es = some is → PGs X es (gNs is) ∧ (assignEach es X.env).length = is.length ∧ (assignEach es X.env).findIdx? (·.1) = none
  | [], is, h => by cases h; exact ⟨pgs_nil, rfl, rfl⟩
  | e :: es, is, h => by
    cases e with
    | Name x p =>
      unfold cNs at h
      cases q : cL N sc x with
      | none => rw [q] at h; cases h
      | some i =>
        cases q2 : cNs N sc es with
        | none => rw [q, q2] at h; cases h
        | some is' =>
          rw [q, q2] at h
          cases h
          obtain ⟨h1, h2, h3⟩ := pgs_nms ok q2
          refine ⟨pgs_cons (pg_nm ok q) h1, ?_, ?_⟩
          · show (assignEach es X.env).length + 1 = is'.length + 1
            rw [h2]
          · show List.findIdx? (·.1) ((false, assign (.Name x p) X.env) :: assignEach es X.env) = none
            rw [List.findIdx?_cons]
            rw [h3]
            rfl
    | _ => cases h
theorem pg_tg (ok : Cok g T k N sc hot W X) {e : Expr} {t : Tg} (h : cT N sc hot e = some t) : PG X e (tgT X.K t) := by
  unfold cT at h
  split at h
  · rename_i x p
    cases q : cL N sc x with
    | none => rw [q] at h; cases h
    | some i => rw [q] at h; cases h; exact pg_nm ok q
  · rename_i es p1 p2
    cases hot with
    | true => cases h
    | false =>
      cases q : cNs N sc es with
      | none => rw [q] at h; cases h
      | some is =>
        rw [q] at h
        cases h
        obtain ⟨h1, h2, h3⟩ := pgs_nms ok q
        exact pg_tup (ok.cold rfl).1 h1 h2 h3
  · cases h
theorem js_asgT {te : TE} {m : Mo U} {t : Tg} (h : J g W (RU g) te m) : JS g W (tAsg (tFz te) (tgT g.K t)) (do let d ← dataM m; fun r => match tgF t d r with
    | some r' => .ok .nx r'
    | none => .no) := fun c H σ r Dn o p =>
  show tFz te σ H _ from J.bindS (J.data h) o p fun v H1 d r1 k1 o1 h1 p1 => by
    cases e : tgF t d r1 with
    | none => simp only [e] at p1; exact p1.elim
    | some r' =>
      simp only [e] at p1
      exact tg_ok o1 h1 e fun σ' o2 => p1 σ' H1 (Kp.refl _) o2
theorem ss_asg (ok : Cok g T k N sc hot W X) {tg e : Expr} {pos : Pos} {t : Tg} {ie : IE} (h : SE g T k W X e ie) (ht : cT N sc hot tg = some t) (hc : notComp e = true) (hn : notTup e = true) (h1 : (assignEach [tg] X.env).map (·.2) = [assign tg X.env]) :
    SS g T k W X (.Assign [tg] e pos) (.asg t ie) := by
  obtain ⟨K, nf, tab⟩ := g
  obtain rfl : K = X.K := ok.hK
  exact JS.ws (ps_asg (pe_fz (pe_w X e)) (pg_tg ok ht) (swapsS_of hc) (swapped_of hn) h1) (js_asgT (g := ⟨X.K, nf, tab⟩) h.1)
theorem ss_app (ok : Cok g T k N sc hot W X) {x : Str} {p ap cp pos : Pos} {a : Expr} {i : Nat} {ia : IE} (h : SE g T k W X a ia) (hi : cV N sc x = some i) (hs : notStar a = true) (hl : (ap.endLine == cp.line) = true) :
    SS g T k W X (.Expr (.Call (.Attribute (.Name x p) "append" ap) [a] [] cp) pos) (.app i ia) := by
  obtain ⟨K, nf, tab⟩ := g
  obtain rfl : K = X.K := ok.hK
  obtain ⟨h1, h2, h3, h4⟩ := cV_ok hi
  have px : PE X (.Name x p) (tVar i) := pe_var (i := i) (by rw [ok.n]; exact h1) (by rw [ok.hsc]; exact h2) h3 h4
  have pa : PA X [a] (tCons (tFz (wE X a)) tNil) := pa_cons (pe_fz (pe_w X a)) pa_nil (star_cons hs)
  have st := star_cons (es := []) (env := X.env) hs
  exact JS.ws (ps_expr (pe_bm PySem.F.plainAttrs_list PySem.F.slot_list_append PySem.F.type_list_append mt_append px pa rfl (by rw [st]; rfl) hl st rfl)) (js_app (g := ⟨X.K, nf, tab⟩) i h.1)
theorem ss_appR (ok : Cok g T k N sc hot W X) {x : Str} {p ap cp pos : Pos} {a : Expr} {i : Nat} {ia : IE} (h : SE g T k W X a ia) (hi : cV N sc x = some i) (hs : notStar a = true) (hl : (ap.endLine == cp.line) = true) :
    SS g T k W X (.Expr (.Call (.Attribute (.Name x p) "append" ap) [a] [] cp) pos) (.appR i ia) := by
  obtain ⟨K, nf, tab⟩ := g
  obtain rfl : K = X.K := ok.hK
  obtain ⟨h1, h2, h3, h4⟩ := cV_ok hi
  have px : PE X (.Name x p) (tVar i) := pe_var (i := i) (by rw [ok.n]; exact h1) (by rw [ok.hsc]; exact h2) h3 h4
  have pa : PA X [a] (tCons (wE X a) tNil) := pa_cons (pe_w X a) pa_nil (star_cons hs)
  have st := star_cons (es := []) (env := X.env) hs
  exact JS.ws (ps_expr (pe_bm PySem.F.plainAttrs_list PySem.F.slot_list_append PySem.F.type_list_append mt_append px pa rfl (by rw [st]; rfl) hl st rfl)) (js_appR (g := ⟨X.K, nf, tab⟩) i h.1)
theorem ss_rem (ok : Cok g T k N sc hot W X) {x y : Str} {p p2 ap cp pos : Pos} {i j : Nat} (hi : cV N sc x = some i) (hj : cV N sc y = some j) (hl : (ap.endLine == cp.line) = true) :
    SS g T k W X (.Expr (.Call (.Attribute (.Name x p) "remove" ap) [.Name y p2] [] cp) pos) (.rem i j) := by
  obtain ⟨K, nf, tab⟩ := g
  obtain rfl : K = X.K := ok.hK
  obtain ⟨h1, h2, h3, h4⟩ := cV_ok hi
  obtain ⟨g1, g2, g3, g4⟩ := cV_ok hj
  have px : PE X (.Name x p) (tVar i) := pe_var (i := i) (by rw [ok.n]; exact h1) (by rw [ok.hsc]; exact h2) h3 h4
  have py : PE X (.Name y p2) (tVar j) := pe_var (i := j) (by rw [ok.n]; exact g1) (by rw [ok.hsc]; exact g2) g3 g4
  have pa : PA X [.Name y p2] (tCons (tVar j) tNil) := pa_cons py pa_nil (star_cons rfl)
  have st := star_cons (e := .Name y p2) (es := []) (env := X.env) rfl
  exact JS.ws (ps_expr (pe_bm PySem.F.plainAttrs_list PySem.F.slot_list_remove PySem.F.type_list_remove (mt_remove ok.un) px pa rfl (by rw [st]; rfl) hl st rfl)) (js_rem (g := ⟨X.K, nf, tab⟩) i j)
theorem ss_ali (ok : Cok g T k N sc hot W X) {x y : Str} {p p2 p3 pos : Pos} {kx : Expr} {i j : Nat} {ik : IE} (hk : SE g T k W X kx ik) (hj : cL N sc x = some j) (hi : cV N sc y = some i) (hp : plainIx kx = true) : SS g T k W X (.Assign [.Name x p] (.Subscript (.Name y p2) kx p3) pos) (.ali j i ik) := by
  obtain ⟨K, nf, tab⟩ := g
  obtain rfl : K = X.K := ok.hK
  obtain ⟨h1, h2⟩ := cL_ok hj
  obtain ⟨g1, g2, g3, g4⟩ := cV_ok hi
  have py : PE X (.Name y p2) (tVar i) := pe_var (i := i) (by rw [ok.n]; exact g1) (by rw [ok.hsc]; exact g2) g3 g4
  exact JS.ws (ps_set (i := j) (by rw [ok.n]; exact ok.nd) (by rw [ok.n]; exact h1) (by rw [ok.hsc]; exact h2) (pe_ix ix_all py (pe_w X kx) (plain_of hp)) (swaps_of rfl) (by rw [ok.hsc]; exact ok.fnc x h2)) (js_ali (g := ⟨X.K, nf, tab⟩) X.w j i hk.1)
theorem ss_setR (ok : Cok g T k N sc hot W X) {x : Str} {p p2 pos : Pos} {e kx : Expr} {i : Nat} {ie ik : IE} (h : SE g T k W X e ie) (hk : SE g T k W X kx ik) (hi : cV N sc x = some i) (hp : plainIx kx = true) (hc : notComp e = true) :
    SS g T k W X (.Assign [.Subscript (.Name x p) kx p2] e pos) (.setR i ik ie) := by
  obtain ⟨h1, h2, h3, h4⟩ := cV_ok hi
  have px : PE X (.Name x p) (tVar i) := pe_var (i := i) (by rw [ok.n]; exact h1) (by rw [ok.hsc]; exact h2) h3 h4
  exact JS.ws (ps_asg (pe_fz (pe_w X e)) (pg_sub px (pe_w X kx) set_list (fun v => by cases kx <;> first | rfl | cases hp)) (swapsS_of hc) swapped_sub) (js_setR i h.1 hk.1)
theorem ss_exp {e : Expr} {pos : Pos} {ie : IE} (h : SE g T k W X e ie) (hc : notComp e = true) : SS g T k W X (.Expr e pos) (.exp ie) := JS.ws (ps_expr (pe_w X e) (swaps_of hc)) (js_exp h.1)
theorem ss_if {c : Expr} {a b : List Stmt} {pos : Pos} {ic : IE} {f : Stmt → IS} (hc : SE g T k W X c ic) (ha : ∀ s ∈ a, SS g T k W X s (f s)) (hb : ∀ s ∈ b, SS g T k W X s (f s)) : SS g T k W X (.If c a b pos) (.ifs ic (ofS (a.map f)) (ofS (b.map f))) :=
  JS.ws (ps_if (pt_w X c) (pss_w X a) (pss_w X b)) (js_if hc.2 (ss_all ha) (ss_all hb))
theorem ss_while (ok : Cok g T k N sc hot W X) {c : Expr} {b : List Stmt} {pos : Pos} {ic : IE} {f : Stmt → IS} (hc : SE g T k W X c ic) (hb : ∀ s ∈ b, SS g T k W X s (f s)) : SS g T k W X (.While c b [] pos) (.whl ic (ofS (b.map f))) :=
  JS.ws (ps_while ok.po (pt_w X c) (pss_w X b)) (js_while 1000000 hc.2 (ss_all hb))
/-! for, raise, try -/
theorem noset {e : Expr} {env : Env} (h : noMark e = true) : ∀ x, foldedSetIterable e env x = pure x := fun x => by
  cases e <;> first | rfl | cases h
theorem cE_lens {f : Expr → IE} {es : List Expr} : True := trivial
theorem ss_for (ok : Cok g T k N sc hot W X) {t it : Expr} {b : List Stmt} {pos : Pos} {tg : Tg} {n : Nat} {f : Stmt → IS} (ht : cT N sc hot t = some tg) (hb : ∀ s ∈ b, SS g T k W X s (f s)) : SS g T k W X (.For t it b [] pos) (.for tg (cI T N sc hot n it) (ofS (b.map f))) := by
  obtain ⟨K, nf, tab⟩ := g
  obtain rfl : K = X.K := ok.hK
  have bad : ∀ {m : Mo Fl}, JS (⟨X.K, nf, tab⟩ : G) W (wS X (.For t it b [] pos)) (do let ds ← (Mo.none : Mo (List D)); forM' tg m ds) := fun c H σ r D o p => p.elim
  have seq : hot = false → noMark it = true → JS (⟨X.K, nf, tab⟩ : G) W (wS X (.For t it b [] pos)) (do let ds ← dI T (runF T k) (.seq (cE T N sc hot n it)); forM' tg (dSs T (runF T k) (ofS (b.map f))) ds) := fun hh hm =>
    JS.ws (ps_for ok.po (ok.cold hh).1 (pi_all (tg := t) (pe_fz (pe_w X it))) (pg_tg ok ht) (pss_w X b) (noset hm)) (js_for (g := ⟨X.K, nf, tab⟩) (ji_all (snd_E ok n it).1) (ss_all hb))
  show JS _ W (wS X (.For t it b [] pos)) (do let ds ← dI T (runF T k) (cI T N sc hot n it); forM' tg (dSs T (runF T k) (ofS (b.map f))) ds)
  unfold cI
  split
  · rename_i x p es q
    split
    · rename_i hx
      subst hx
      split
      · rename_i hc
        rw [Bool.and_eq_true, Bool.and_eq_true] at hc
        obtain ⟨g1, g2⟩ := ok.gl_of hc.1
        have m := ok.gl.bi "range" (by simp [biNames])
        have jd := jd_all (g := ⟨X.K, nf, tab⟩) (T := T) (run := runF T k) (W := W) (X := X) es fun e _ => (snd_E ok n e).1
        match es, hc, jd with
        | [], hc, _ => exact bad
        | [a], hc, jd =>
          have ha : notStar a = true := by simpa using hc.2.1
          cases hot with
          | false => exact JS.ws (ps_for ok.po (ok.cold rfl).1 (pi_range1 (tg := t) g1 m (pa_w X [a] (by simp [ha])) (star_cons ha)) (pg_tg ok ht) (pss_w X b) (fun _ => rfl)) (js_for (g := ⟨X.K, nf, tab⟩) (ji_rng1 jd) (ss_all hb))
          | true => exact JS.ws (L2H.ps_forH ok.po (ok.hotc rfl).1 (L2H.pi_range1H (tg := t) g1 m (pa_w X [a] (by simp [ha])) (star_cons ha)) (pg_tg ok ht) (pss_w X b) (fun _ => rfl)) (js_for (g := ⟨X.K, nf, tab⟩) (ji_rng1 jd) (ss_all hb))
        | [a, a2], hc, jd =>
          have ha : notStar a = true ∧ notStar a2 = true := by simpa using hc.2.1
          cases hot with
          | true => simp at hc
          | false => exact JS.ws (ps_for ok.po (ok.cold rfl).1 (pi_range2 (tg := t) g1 m (pa_w X [a, a2] (by simp [ha])) (by rw [star_cons ha.1, star_cons ha.2]; rfl) (by rw [star_cons ha.2]; rfl)) (pg_tg ok ht) (pss_w X b) (fun _ => rfl)) (js_for (g := ⟨X.K, nf, tab⟩) (ji_rng2 jd) (ss_all hb))
        | _ :: _ :: _ :: _, hc, _ => simp at hc
      · exact bad
    · split
      · exact bad
      · rename_i hh
        exact seq (by simpa using hh) rfl
  · split
    · exact bad
    · rename_i hh
      simp at hh
      exact seq hh.1 hh.2
theorem ss_raise (ok : Cok g T k N sc hot W X) {C : Str} {a : Expr} {p pos pos2 : Pos} {ia : IE} (h : SE g T k W X a ia) (hh : hot = false) (hc : cG sc C = true) (hs : notStar a = true) : SS g T k W X (.Raise (some (.Call (.Name C p) [a] [] pos)) none pos2) (.rse C (.cons ia .nil)) := by
  obtain ⟨K, nf, tab⟩ := g
  obtain rfl : K = X.K := ok.hK
  show JS _ W _ (match T.errs C with
    | some f => rseM C f (dDs T (runF T k) (.cons ia .nil))
    | none => Mo.none)
  cases q : T.errs C with
  | none => exact js_no
  | some f =>
    obtain ⟨m, D, fI, cc, cda, qual, params, body, scope, TX⟩ := ok.gl.errs C f q
    obtain ⟨g1, g2⟩ := ok.gl_of hc
    have pa : PA X [a] (tCons (tFz (wE X a)) tNil) := pa_cons (pe_fz (pe_w X a)) pa_nil (star_cons hs)
    refine JS.ws (L2N.ps_raise (ok.cold hh).1 ok.tk (pmk_err TX m (ok.gl.bi _ (by simp [biNames])) (ok.cold hh).2.1 pa g1 g2 (star_cons hs) rfl)) fun c H σ r Dn o p1 => ?_
    have jd : J (⟨X.K, nf, tab⟩ : G) W (RDn ⟨X.K, nf, tab⟩ 1) (tCons (tFz (wE X a)) tNil) (dDs T (runF T k) (.cons ia .nil)) := jd_cons h.1 jd_nil
    refine J.bindS jd o p1 fun vs H1 ds r1 k1 o1 h1 p2 => ?_
    obtain ⟨h2, h3⟩ := h1
    match ds, h3 with
    | [d], _ =>
      obtain ⟨y, ys, rfl, e1, e2⟩ := h2
      obtain rfl : ys = [] := e2
      refine ⟨y, rfl, fun dx hdx => ?_⟩
      exact p2 dx [y] σ _ (Kp.of (same_new hdx)) (o1.same (same_new hdx)) upd_same rfl ⟨y, [], rfl, Rep.mono (Kp.of (same_new hdx)) _ _ e1, rfl⟩
theorem EnvOk.wP {P P' : PX} {c : Fr0} {H : Hp} {σ : L2.St} {r : List A} (h : EnvOk g P c H σ r) (w : ∀ a C x, P a C x → P' a C x) : EnvOk g P' c H σ r :=
  ⟨h.len, h.fr, h.mem, h.val, h.own, h.own2, h.dis, fun i C ns ds hi => let ⟨a, x, xs, h1, h2, h3⟩ := h.exn i C ns ds hi; ⟨a, x, xs, h1, w _ _ _ h2, h3⟩, h.ali⟩
theorem clr_at {r : List A} {i j : Nat} {a : A} (h : ((r.map clrA).set i .un)[j]? = some a) : a = .un ∨ (i ≠ j ∧ r[j]? = some a ∧ ∀ C ns ds, a ≠ .exn C ns ds) := by
  rcases get_set h with ⟨_, e, _⟩ | ⟨hij, e⟩
  · exact .inl e
  · rw [List.getElem?_map] at e
    cases q : r[j]? with
    | none => rw [q] at e; cases e
    | some b =>
      rw [q] at e
      cases b with
      | exn C ns ds => cases e; exact .inl rfl
      | un => cases e; exact .inl rfl
      | val d => cases e; exact .inr ⟨hij, rfl, fun _ _ _ z => by cases z⟩
      | own t ds => cases e; exact .inr ⟨hij, rfl, fun _ _ _ z => by cases z⟩
      | own2 t ds => cases e; exact .inr ⟨hij, rfl, fun _ _ _ z => by cases z⟩
      | ali t ds => cases e; exact .inr ⟨hij, rfl, fun _ _ _ z => by cases z⟩
theorem clr_At {H : Hp} {σ : L2.St} {r : List A} {i j : Nat} {a : Addr} (h : At H (σ.set i none) ((r.map clrA).set i .un) j a) : At H σ r j a := by
  rcases h with ⟨h1, t, ds, h2⟩ | ⟨t, rows, p, as, h1, h2, h3⟩
  · rcases clr_at h2 with z | ⟨hij, z, _⟩
    · cases z
    · rw [List.getElem?_set_ne hij] at h1
      exact .inl ⟨h1, t, ds, z⟩
  · rcases clr_at h1 with z | ⟨hij, z, _⟩
    · cases z
    · rw [List.getElem?_set_ne hij] at h2
      exact .inr ⟨t, rows, p, as, z, h2, h3⟩
theorem EnvOk.clr {P P' : PX} {c : Fr0} {H : Hp} {σ : L2.St} {r : List A} (h : EnvOk g P c H σ r) (i : Nat) (hn : ∀ t rows, r[i]? ≠ some (.own2 t rows)) : EnvOk g P' c H (σ.set i none) ((r.map clrA).set i .un) where
  len := by simp [h.len]
  fr := h.fr
  mem := h.mem
  val := fun j d hj => by
    rcases clr_at hj with z | ⟨hij, z, _⟩
    · cases z
    · rw [List.getElem?_set_ne hij]; exact h.val j d z
  own := fun j t ds hj => by
    rcases clr_at hj with z | ⟨hij, z, _⟩
    · cases z
    · rw [List.getElem?_set_ne hij]; exact h.own j t ds z
  own2 := fun j t rows hj => by
    rcases clr_at hj with z | ⟨hij, z, _⟩
    · cases z
    · obtain ⟨p, as, o⟩ := h.own2 j t rows z
      exact ⟨p, as, by rw [List.getElem?_set_ne hij]; exact o.at_, o.lst, o.rk, o.tag, o.mine, o.ne, o.nd, o.ids⟩
  dis := fun j l a hj hl => h.dis j l a (clr_At hj) (clr_At hl)
  exn := fun j C ns ds hj => by
    rcases clr_at hj with z | ⟨_, _, z⟩
    · cases z
    · exact absurd rfl (z C ns ds)
  ali := fun j k id hj => by
    rcases clr_at hj with z | ⟨hij, z, _⟩
    · cases z
    · obtain ⟨t, rows, p, as, m, ds, b, q1, q2, q3, q4, q5, q6⟩ := h.ali j k id z
      have hik : i ≠ k := fun e => by subst e; exact hn t rows q1
      exact ⟨t, rows, p, as, m, ds, b, by rw [List.getElem?_set_ne hik, List.getElem?_map, q1]; rfl, by rw [List.getElem?_set_ne hik]; exact q2, q3, q4, q5, by rw [List.getElem?_set_ne hij]; exact q6⟩
theorem RU.clr {c : Fr0} {H : Hp} {σ : L2.St} {r : List A} {u : U} {v : V} (i : Nat) (h : RU g c σ r H u v) (hs : ∀ j, u ≠ .slot j) : RU g c (σ.set i none) ((r.map clrA).set i .un) H u v := by
  cases u with
  | val d => exact h
  | slot j => exact absurd rfl (hs j)
  | fresh ds =>
    obtain ⟨p, xs, h1, h2, h3, h4, h5⟩ := h
    exact ⟨p, xs, h1, h2, h3, h4, fun j hj => h5 j (clr_At hj)⟩
theorem cok_tr {W' : WP} (ok : Cok g T k N sc false W X) (hp : W'.p = noP) (pn : List (Addr × Obj)) (xe : Value → Shared → Prop) (tk : L2N.Takes (X.tr pn xe) W'.w) (po : PassesOwn (model X.prog X.w) X.A X.env xe) : Cok g T k N sc false W' (X.tr pn xe) where
  hK := ok.hK
  n := ok.n
  nd := ok.nd
  hsc := ok.hsc
  un := ok.un
  gl := ok.gl
  tk := tk
  po := po
  cold := fun h => let ⟨h1, h2, h3, h4, _⟩ := ok.cold h; ⟨h1, h2, h3, h4, hp⟩
  hotc := fun h => by cases h
  fnc := ok.fnc
  exq := fun a C x h => by rw [hp] at h; exact h.elim
theorem takesF {X : Cx} : L2N.Takes X (fun _ _ _ _ => False) := fun _ _ ⟨_, _, _, _, _, _, _, _, _, _, _, _, _, _, _, _, w⟩ => w.elim
/-- what is in hand in a suite -/
def sP (g : G) (a : Addr) (cls : Value) (d : Option Addr) : PX := fun a' C' x' => a' = a ∧ cls = .ref (He.ga g.K C') ∧ d = some x'
theorem cok_suite (ok : Cok g T k N sc false W X) (a : Addr) (oe : Obj) (cls : Value) (d : Option Addr) (pn : List (Addr × Obj)) (hz : L2N.Zn cls d oe) (hv : ∃ vs, oe.data = .fields vs) :
    Cok g T k N sc true ⟨fun _ _ _ _ => False, sP g a cls d⟩ (X.suite a ((a, oe) :: pn)) where
  hK := ok.hK
  n := ok.n
  nd := ok.nd
  hsc := ok.hsc
  un := ok.un
  gl := ok.gl
  tk := takesF
  po := PassesOwn.never
  cold := fun h => by cases h
  hotc := fun _ => ⟨⟨(a, oe), ⟨rfl, let ⟨vs, h⟩ := hv; ⟨vs, h, hz.2.2 vs h⟩⟩, List.mem_cons_self⟩, ⟨(ok.cold rfl).2.1.dp, (ok.cold rfl).2.1.un⟩⟩
  fnc := ok.fnc
  exq := fun a' C x h => by
    obtain ⟨rfl, h2, h3⟩ := h
    exact ⟨oe, List.mem_cons_self, hz.1.trans h2, hz.2.1.trans h3, hv⟩
def tbW (X : Cx) (b : List Stmt) (W' : WX) : TS := fun D σ H => ∀ pn xe, L2N.Takes (X.tr pn xe) W' → PassesOwn (model X.prog X.w) X.A X.env xe → wSs (X.tr pn xe) b D σ H
def tsW (X : Cx) (ss : List Stmt) (a : Addr) (cls : Value) (d : Option Addr) : TS := fun D σ H => ∀ oe pn, L2N.Zn cls d oe → (∃ vs, oe.data = .fields vs) → wSs (X.suite a ((a, oe) :: pn)) ss D σ H
theorem ss_try (ok : Cok g T k N sc false W X) {b ss : List Stmt} {s0 : Stmt} {C x : Str} {p p2 pos : Pos} {i : Nat} {fb fs : Stmt → IS} (hi : cL N sc x = some i) (hl : sc.names.lookup x = some .local) (hc : cG sc C = true) (hct : T.cat C = true)
    (hb : ∀ (W' : WP) (X' : Cx), Cok g T k N sc false W' X' → ∀ s ∈ b, SS g T k W' X' s (fb s)) (hs : ∀ (W' : WP) (X' : Cx), Cok g T k N sc true W' X' → ∀ s ∈ s0 :: ss, SS g T k W' X' s (fs s)) :
    SS g T k W X (.Try b [.ExceptHandler (some (.Name C p)) (some x) (s0 :: ss) p2] [] [] pos) (.try_ (ofS (b.map fb)) C i (ofS ((s0 :: ss).map fs))) := by
  obtain ⟨w, px⟩ := W
  obtain rfl : px = noP := (ok.cold rfl).2.2.2.2
  obtain ⟨h1, h2⟩ := cL_ok hi
  obtain ⟨g1, g2⟩ := ok.gl_of hc
  obtain ⟨_, _, st, fr, _⟩ := ok.cold rfl
  have hm := ok.gl.cat C hct
  · refine JS.ws (L2N.ps_try_as (i := i) (c := .ref (He.ga g.K C)) (tb := tbW X b) (ts := tsW X (s0 :: ss)) st fr (by rw [ok.n]; exact ok.nd) (by rw [ok.n]; exact h1) (by unfold Env.kindOf; rw [ok.hsc]; exact hl) ⟨g1, g2, .inl hm⟩ ok.tk
      (fun W' pn xe tk po => ⟨fun pins s σ H D I h => h pn xe tk po pins s I⟩) (fun a oe cls d pn hz hv => ⟨fun pins s σ H D I h => h oe pn hz hv pins s I⟩)) fun c H σ r Dn o p1 => ?_
    intro pn xe tk po
    have okb := cok_tr (W' := ⟨wAs X.K (.ref (He.ga g.K C)) i (tsW X (s0 :: ss)) w Dn, noP⟩) ok rfl pn xe tk po
    refine ss_all (hb _ _ okb) c H σ r Dn o ?_
    have p2 : PostS g ⟨w, noP⟩ c H (tryM T (dSs T (runF T k) (ofS (b.map fb))) C i (dSs T (runF T k) (ofS ((s0 :: ss).map fs))) r) Dn := p1
    unfold tryM at p2
    cases e : dSs T (runF T k) (ofS (b.map fb)) r with
    | no => simp only [e] at p2; exact p2
    | ok f r1 =>
      simp only [e] at p2
      cases f with
      | nx => exact p2
      | rt u => exact p2
      | bk => exact p2
      | ct => exact p2
    | ex er r1 =>
      simp only [e] at p2
      intro dx xs σ' H' kp oe hx hlx hr
      cases e2 : T.exm er.cls C with
      | none => simp only [e2] at p2; exact p2.elim
      | some bb =>
        have q1 := ok.gl.exm er.cls C bb e2
        refine ⟨bb, by rw [← ok.hK]; exact q1, fun hbb a ha => ?_, fun hbb => ?_⟩
        · subst hbb
          simp only [e2] at p2
          intro ob pn' hz hv
          have oks := cok_suite ok a ob (.ref (He.ga g.K er.cls)) (some dx) pn' hz hv
          split at p2
          · rename_i hok
            have o2 : EnvOk g (sP g a (.ref (He.ga g.K er.cls)) (some dx)) c H' (σ'.set i (some (.ref a))) (r1.set i (.exn er.cls er.ns er.ds)) :=
              (oe.wP (fun _ _ _ z => z.elim)).put i (fun j id _ => oe.noAli (okSet_ne hok) j id) (fun _ z => by cases z) (fun _ _ z => by cases z) (fun _ _ z => by cases z) (fun _ _ _ z => by cases z; exact ⟨a, dx, xs, rfl, ⟨rfl, rfl, rfl⟩, hx, hlx, hr⟩) (fun _ _ z => by cases z)
            refine ss_all (hs _ _ oks) c H' _ _ _ o2 ?_
            generalize dSs T (runF T k) (ofS ((s0 :: ss).map fs)) (r1.set i (.exn er.cls er.ns er.ds)) = res at p2
            cases res with
            | no => exact p2.elim
            | ex _ _ => exact p2.elim
            | ok f r2 =>
              cases f with
              | nx =>
                dsimp only at p2
                split at p2
                · rename_i h2; exact fun σ4 H4 k4 o4 => p2 _ H4 (kp.trans k4) (o4.clr i (okSet_ne h2))
                · exact p2.elim
              | bk =>
                dsimp only at p2
                split at p2
                · rename_i h2; exact fun σ4 H4 k4 o4 => p2 _ H4 (kp.trans k4) (o4.clr i (okSet_ne h2))
                · exact p2.elim
              | ct =>
                dsimp only at p2
                split at p2
                · rename_i h2; exact fun σ4 H4 k4 o4 => p2 _ H4 (kp.trans k4) (o4.clr i (okSet_ne h2))
                · exact p2.elim
              | rt u =>
                cases u with
                | slot j => exact p2.elim
                | val d =>
                  dsimp only at p2
                  split at p2
                  · rename_i h2; exact fun v σ4 H4 k4 o4 hv4 => p2 v _ H4 (kp.trans k4) (o4.clr i (okSet_ne h2)) (RU.clr i hv4 (fun j z => by cases z))
                  · exact p2.elim
                | fresh ds =>
                  dsimp only at p2
                  split at p2
                  · rename_i h2; exact fun v σ4 H4 k4 o4 hv4 => p2 v _ H4 (kp.trans k4) (o4.clr i (okSet_ne h2)) (RU.clr i hv4 (fun j z => by cases z))
                  · exact p2.elim
          · exact p2.elim
        · subst hbb
          simp only [e2] at p2
          exact p2 dx xs σ' H' kp oe hx hlx hr
/-! all of it -/
theorem isLocal_ok {o : Option NameKind} (h : isLocal o = true) : o = some .local := by
  cases o with
  | none => cases h
  | some z => cases z <;> first | rfl | cases h
theorem snd_S : ∀ (n : Nat) (hot : Bool) (W : WP) (X : Cx), Cok g T k N sc hot W X → ∀ s, SS g T k W X s (cS T N sc n hot s)
  | 0, hot, W, X, ok, s => ss_bad
  | n + 1, hot, W, X, ok, s => by
    have ih := fun s => snd_S n hot W X ok s
    have ihE := snd_E ok n
    unfold cS
    split
    · exact JS.ws (ps_ret (pe_fz (pe_w X _))) (js_ret (ihE _).1)
    · exact JS.ws ps_retN js_retN
    · exact JS.ws ps_pass js_next
    · exact JS.ws ps_break js_brk
    · exact JS.ws ps_continue js_cont
    · split
      · rename_i i hi
        split
        · unfold cAli
          split
          · split
            · rename_i i' hi'
              split
              · rename_i hp; exact ss_ali ok (ihE _) hi hi' hp
              · exact ss_bad
            · exact ss_bad
          · exact ss_bad
        · split
          · rename_i hc; exact ss_set ok (ihE _) hi hc
          · exact ss_bad
      · exact ss_bad
    · split
      · rename_i i hi
        split
        · rename_i hc
          rw [Bool.and_eq_true] at hc
          split
          · exact ss_setR ok (ihE _) (ihE _) hi hc.1 hc.2
          · exact ss_setI ok (ihE _) (ihE _) hi hc.1 hc.2
        · exact ss_bad
      · exact ss_bad
    · split
      · rename_i t ht
        split
        · rename_i hc
          rw [Bool.and_eq_true] at hc
          exact ss_asg ok (ihE _) ht hc.1 hc.2 rfl
        · exact ss_bad
      · exact ss_bad
    · split
      · rename_i hc
        rw [Bool.and_eq_true] at hc
        obtain ⟨hm, hc⟩ := hc
        have hm := of_decide_eq_true hm
        subst hm
        rw [Bool.and_eq_true] at hc
        split
        · rename_i i hi
          split
          · exact ss_appR ok (ihE _) hi hc.1 hc.2
          · exact ss_app ok (ihE _) hi hc.1 hc.2
        · exact ss_bad
      · split
        · rename_i hc
          rw [Bool.and_eq_true] at hc
          obtain ⟨hm, hc⟩ := hc
          have hm := of_decide_eq_true hm
          subst hm
          rw [Bool.and_eq_true] at hc
          unfold cRem
          split
          · split
            · rename_i i j hi hj; exact ss_rem ok hi hj hc.2
            · exact ss_bad
          · exact ss_bad
        · exact ss_bad
    · split
      · rename_i hc; exact ss_exp (ihE _) hc
      · exact ss_bad
    · exact ss_if (ihE _) (fun s _ => ih s) (fun s _ => ih s)
    · split
      · rename_i tg ht; exact ss_for ok ht (fun s _ => ih s)
      · exact ss_bad
    · exact ss_while ok (ihE _) (fun s _ => ih s)
    · split
      · rename_i hc
        rw [Bool.and_eq_true] at hc
        obtain ⟨hh, hc⟩ := hc
        rw [Bool.and_eq_true] at hc
        exact ss_raise ok (ihE _) (by simpa using hh) hc.1 hc.2
      · exact ss_bad
    · split
      · rename_i i hi
        split
        · rename_i hc
          rw [Bool.and_eq_true] at hc
          obtain ⟨hh, hc⟩ := hc
          rw [Bool.and_eq_true] at hc
          obtain ⟨hg, hc⟩ := hc
          rw [Bool.and_eq_true] at hc
          have hh' : hot = false := by simpa using hh
          subst hh'
          exact ss_try ok hi (isLocal_ok hc.2) hg hc.1 (fun W' X' ok' s _ => snd_S n false W' X' ok' s) (fun W' X' ok' s _ => snd_S n true W' X' ok' s)
        · exact ss_bad
      · exact ss_bad
    · exact ss_bad
theorem snd_Ss (ok : Cok g T k N sc hot W X) (n : Nat) (ss : List Stmt) : JS g W (wSs X ss) (dSs T (runF T k) (cSs T N sc n hot ss)) := ss_all fun s _ => snd_S n hot W X ok s
end
end Pw

set_option Elab.async false
set_option linter.all false
set_option maxRecDepth 100000
set_option maxHeartbeats 4000000
namespace Pw
open PySem PySem.Spec PyProof.Rows L2

/-! ### defs do what the reader says, at any depth -/
structure Base (g : G) (T : Tb) (P : Program) (w : World) (mg : Str → Option Value) : Prop where
  fn : ∀ f F, T.fns f = some F → ∃ (qual : Str) (params : Arguments) (body : List Stmt) (scope : Scope) (a : Addr) (fd : FuncData) (n : Nat), FunD g.K f qual params body scope [] [] a fd ∧ FnScope F.N F.ps scope ∧
    F.body = cSs T F.N scope n false body ∧ (T.hots f = true → F.body = cSs T F.N scope n true body) ∧ mg f = some (.ref a) ∧ Binds g.K fd F.ps []
  cst : ∀ x d, T.cst x = some d → ∃ u v, mg x = some u ∧ RelV v u ∧ ∀ H, Rep g H d v
  tb : TabsOk g w T.tabs
  isT : IsOk g T.isT
  own : ∀ C, T.own C = true → mg C = some (.ref (He.ga g.K C)) ∧ OwnOk g.K (He.ga g.K C)
  bi : ∀ x, x ∈ biNames → mg x = none
  errs : ∀ C f, T.errs C = some f → mg C = some (.ref (He.ga g.K C)) ∧ ∃ D fI cc cda qual params body scope, PySem.PwX.ErrTxt g.K P f (He.ga g.K C) D fI cc cda qual params body scope
  xis : ∀ C D b, T.xis C D = some b → ExcC g.K (He.ga g.K C) ∧ PySem.W.kitOne g.K (.ref (He.ga g.K C)) (.ref (He.ga g.K D)) = some b ∧ mg D = some (.ref (He.ga g.K D))
  xfd : ∀ C f, T.errs C = some f → XfC g.K (He.ga g.K C) ∧ f ≠ "__class__"
  exm : ∀ C D b, T.exm C D = some b → PySem.W.exmOne g.K (.ref (He.ga g.K C)) (.ref (He.ga g.K D)) = some b
  cat : ∀ D, T.cat D = true → mg D = some (.ref (He.ga g.K D))
section
variable {g : G} {T : Tb} {P : Program} {w : World} {mg : Str → Option Value} {base : Heap}
theorem runF_eq {k : Nat} {f : Str} {F : Fn} (h : T.fns f = some F) (as : List A) : runF T (k + 1) f as = .no ∨ runF T (k + 1) f as = endF as (dSs T (runF T k) F.body (as ++ List.replicate (F.N.length - as.length) .un)) := by
  unfold runF
  simp only [h]
  split
  · exact .inr rfl
  · exact .inl rfl
theorem spF_len {k : Nat} {f : Str} {F : Fn} (h : T.fns f = some F) (vs : List V) (H : Hp) (Q : VK) (E : XK) (hs : spF g (runF T k f) vs H Q E) : vs.length = F.ps.length := by
  obtain ⟨as, o, _, p⟩ := hs
  have hl : vs.length = as.length := by have := o.len; simpa [σA] using this
  rw [hl]
  cases k with
  | zero => exact False.elim p
  | succ k =>
    unfold runF at p
    simp only [h] at p
    by_cases e : as.length = F.ps.length
    · exact e
    · rw [if_neg e] at p
      exact False.elim p
theorem FunD.okH {CX : CXT} {K : PySem.W.Frag} {x qual : Str} {params : Arguments} {body : List Stmt} {scope : Scope} {dvs : List V} {kws : List (Str × V)} {f : Addr} {fd : FuncData} {N ps : List Str} {k : Nat} {sp : Sp} (F : FunD K x qual params body scope dvs kws f fd) (S : FnScope N ps scope)
    (len : ∀ vs H Q E, sp vs H Q E → vs.length = ps.length)
    (hbody : ∀ (cdv : Value) (A : Around) (outer : List Env) (s : Shared) (H : Hp) (vs : List V) (Q : VK) (E : XK) (p : Addr × Obj), L2H.Hot1 A p → L2H.RoomH k (A.deeper (envOfC qual scope s.heap.objs.size f cdv)) → sp vs H Q E →
      ∃ t, PSs (L2H.cxH CX P w K mg base N qual scope f cdv A outer s H E p) body t ∧ t { nx := fun _ H' => Q .non H', rt := Q } (L2.start N vs) H) : L2H.FnH P w K mg base CX (k + 1) f fd ps sp := by
  obtain ⟨oc, od, dV, kV, doc, pm, an, cdv, ct, osl, e, lk, hcd, _, _⟩ := F.ex
  subst e
  exact L2H.fn_ofH lk hcd S len fun A outer s H vs Q E p h1 h2 h3 => hbody cdv A outer s H vs Q E p h1 h2 h3
theorem glb (b : Base g T P w mg) : ∀ k, Glb g T P w mg base k
  | 0 => by
    refine ⟨fun f F h => ?_, fun f F h hh => ?_, b.cst, b.tb, b.isT, b.own, b.bi, b.errs, b.xis, b.xfd, b.exm, b.cat⟩
    · obtain ⟨qual, params, body, scope, a, fd, n, F1, S, _, _, m, bd⟩ := b.fn f F h
      exact ⟨a, fd, ⟨spF_len h, fun A outer s H args us vs Q E _ _ _ _ ⟨as, o, _, p⟩ => False.elim p⟩, m, F1.kp, bd⟩
    · obtain ⟨qual, params, body, scope, a, fd, n, F1, S, _, _, m, bd⟩ := b.fn f F h
      exact ⟨a, fd, ⟨spF_len h, fun A outer s H args us vs Q E _ _ _ _ _ _ _ ⟨as, o, _, p⟩ => False.elim p⟩, m, F1.kp, bd⟩
  | k + 1 => by
    have ih := glb b k
    refine ⟨fun f F h => ?_, fun f F h hh => ?_, b.cst, b.tb, b.isT, b.own, b.bi, b.errs, b.xis, b.xfd, b.exm, b.cat⟩
    · obtain ⟨qual, params, body, scope, a, fd, n, F1, S, e1, _, m, bd⟩ := b.fn f F h
      refine ⟨a, fd, FunD.ok F1 S (spF_len h) fun cdv A outer s H vs Q E hr hsp => ⟨_, pss_w _ body, ?_⟩, m, F1.kp, bd⟩
      have ok : Cok g T k F.N scope false ⟨fun c d _ H => E c d H, noP⟩ (cxOf (L2N.CX P w) P w g.K mg base F.N qual scope a cdv A outer s H E) :=
        ⟨rfl, rfl, S.nd, rfl, hr.units, ih, L2N.takes_of rfl rfl rfl rfl, L2.passes_of rfl, fun _ => ⟨rfl, hr, rfl, rfl, rfl⟩, (fun z => by cases z), fun _ _ => .inl rfl, fun _ _ _ z => False.elim z⟩
      exact run_F (snd_Ss ok n body) (fun as => by rw [← e1]; exact runF_eq h as) hsp
    · obtain ⟨qual, params, body, scope, a, fd, n, F1, S, _, e1, m, bd⟩ := b.fn f F h
      refine ⟨a, fd, FunD.okH F1 S (spF_len h) fun cdv A outer s H vs Q E p h1 hr hsp => ⟨_, pss_w _ body, ?_⟩, m, F1.kp, bd⟩
      have ok : Cok g T k F.N scope true ⟨fun c d _ H => E c d H, noP⟩ (L2H.cxH (L2N.CX P w) P w g.K mg base F.N qual scope a cdv A outer s H E p) :=
        ⟨rfl, rfl, S.nd, rfl, by have := hr.un; show (A.deeper (envOfC qual scope s.heap.objs.size a cdv)).units + 64 < cLine; omega, ih, L2N.takes_of rfl rfl rfl rfl, L2.passes_of rfl, (fun z => by cases z), fun _ => ⟨⟨p, h1, List.mem_cons_self⟩, hr⟩, fun _ _ => .inl rfl, fun _ _ _ z => False.elim z⟩
      exact run_F (snd_Ss ok n body) (fun as => by rw [← e1 hh]; exact runF_eq h as) hsp
end
end Pw

set_option Elab.async false
set_option linter.all false
set_option maxRecDepth 100000
set_option maxHeartbeats 2000000
/-! the head's facts: any Bool of the written part, the defs, the errors' __init__, the tables with text keys -/
namespace Pw
open PySem PySem.Spec PyProof.Rows L2 PySem.W PySem.HandSPX
/-! ### an own error's __init__ -/
abbrev ErW : Type := Option (Str × Str × Arguments × FuncBody × Scope × Addr × List Str × Addr)
def erA (K : Frag) (a : Addr) : ErW := match K.lookup a with
  | some ⟨_, _, .func fd, _⟩ => some (fd.name, fd.qualname, fd.params, fd.body, fd.scope, fd.globals, fd.closure.map (·.1), fd.builtins)
  | _ => none
/-- an error: its name, its field, its __init__ -/
structure ErS where
  cls : Str
  f : Str
  qual : Str
  params : Arguments
  body : List Stmt
  scope : Scope
def ErS.val (d : ErS) : ErW := some ("__init__", d.qual, d.params, .stmts d.body, d.scope, mainGlobals, ["__class__"], builtinsNs)
def ErS.at_ (d : ErS) (K : Frag) : Addr := He.ma K (He.ga K d.cls) "__init__"
def shB (K : Frag) (C : Addr) : Bool := match K.lookup C with
  | some ⟨.type "type", _, .cls cd, sl⟩ => (match cd.mro, sl.toList with
    | .ref C' :: bm, [_, _, _, _, some (.builtin n), _] => (C' == C && n == "ValueError.__new__") && (!cd.hasDel && (cd.hasDict && refsVE bm))
    | _, _ => false)
  | _ => false
theorem shB_ok {K : Frag} {C : Addr} (h : shB K C = true) : ∃ nm q N bs bm sn sub ab col dd k0 k1 k2 k3 k5, K.lookup C = some (excClassObj nm q C N bs bm true sn sub ab col dd k0 k1 k2 k3 k5 "ValueError.__new__") ∧ refsVE bm = true := by
  unfold shB at h
  split at h
  · rename_i dd cd sl ho
    split at h
    · rename_i C' bm k0 k1 k2 k3 n k5 hm hs
      simp only [Bool.and_eq_true, beq_iff_eq, Bool.not_eq_true'] at h
      obtain ⟨⟨rfl, rfl⟩, h2, h3, h4⟩ := h
      obtain ⟨a1, a2, a3, a4, a5, a6, a7, a8, a9, a10, a11⟩ := cd
      simp only at hm h2 h3 
      subst hm h2 h3
      have : sl = #[k0, k1, k2, k3, some (.builtin "ValueError.__new__"), k5] := by
        apply Array.ext'
        simpa using hs
      subst this
      exact ⟨_, _, _, _, bm, _, _, _, _, _, k0, k1, k2, k3, k5, ho, h4⟩
    · cases h
  · cases h
/-- what the code of a def and its cell say -/
def flB (K : Frag) (file : Str) (cda : Addr) : Bool := match K.lookup cda with
  | some ⟨_, _, .fields vs, _⟩ => (match vs[2]? with
    | some (Value.str fl _) => file == fl
    | _ => false)
  | _ => false
def clB (K : Frag) (C cc : Addr) : Bool := match K.lookup cc with
  | some ⟨_, _, .cell (some (.ref D)), _⟩ => (clsIn K D).isSome && (decide (mroIn K C (.ref D) = some true) && He.eqO (ks_superIn K C D "__init__") (some (some (.builtin "ValueError.__init__"))))
  | _ => false
def inB2 (K : Frag) (file qual : Str) (C : Addr) : Value → List (Str × Addr) → Bool
  | .ref cda, [(_, cc)] => codeIn K (.ref cda) qual && (flB K file cda && clB K C cc)
  | _, _ => false
theorem inB2_ok {K : Frag} {file qual : Str} {C : Addr} {v : Value} {cl : List (Str × Addr)} (h : inB2 K file qual C v cl = true) : ∃ cda nm cc, v = .ref cda ∧ cl = [(nm, cc)] ∧ codeIn K (.ref cda) qual = true ∧
    (∃ (ccl : Value) (cdd : Option Addr) (vs : Array Value) (ccs : Array (Option Value)) (fl : Str) (tf : Tok), K.lookup cda = some ⟨ccl, cdd, .fields vs, ccs⟩ ∧ vs[2]? = some (.str fl tf) ∧ ((file : Str) == fl) = true) ∧
    ∃ (D : Addr) (cl : Value) (cld : Option Addr) (csl : Array (Option Value)) (cdD : ClassData), K.lookup cc = some ⟨cl, cld, .cell (some (.ref D)), csl⟩ ∧ clsIn K D = some cdD ∧ mroIn K C (.ref D) = some true ∧ ks_superIn K C D "__init__" = some (some (.builtin "ValueError.__init__")) := by
  unfold inB2 at h
  split at h
  · rename_i cda nm cc
    obtain ⟨k1, k⟩ := He.ba h
    obtain ⟨k2, k3⟩ := He.ba k
    refine ⟨cda, nm, cc, rfl, rfl, k1, ?_, ?_⟩
    · unfold flB at k2
      split at k2
      · rename_i ccl cdd vs ccs hcode
        split at k2
        · rename_i fl tf hvs
          exact ⟨ccl, cdd, vs, ccs, fl, tf, hcode, hvs, k2⟩
        · cases k2
      · cases k2
    · unfold clB at k3
      split at k3
      · rename_i cl cld D csl hcell
        obtain ⟨k4, k5⟩ := He.ba k3
        obtain ⟨k6, k7⟩ := He.ba k5
        obtain ⟨cdD, k4⟩ := Option.isSome_iff_exists.mp k4
        exact ⟨D, cl, cld, csl, cdD, hcell, k4, of_decide_eq_true k6, He.eqO_ok k7⟩
      · cases k3
  · cases h
def nonB : Value → Bool
  | .none => true
  | _ => false
theorem nonB_ok {v : Value} (h : nonB v = true) : v = .none := by cases v <;> first | rfl | cases h
def inB (K : Frag) (file qual : Str) (C fI : Addr) : Bool := match K.lookup fI with
  | some ⟨_, _, .func fd, _⟩ => nonB fd.defaults && inB2 K file qual C fd.code fd.closure
  | _ => false
def ErS.ok (K : Frag) (file : Str) (d : ErS) : Bool :=
  shB K (He.ga K d.cls) && (He.eqO (findIn K (.ref (He.ga K d.cls)) "__setattr__") (some (some (.builtin "object.__setattr__"))) && (He.eqO (findIn K (.ref (He.ga K d.cls)) d.f) (some none) &&
  (He.eqO (findIn K (.ref (He.ga K d.cls)) "__init__") (some (some (.ref (d.at_ K)))) && (decide (typeIn K (.ref (d.at_ K)) = some (.type "function")) && (keepIn K (.ref (He.ga K d.cls)) &&
  (decide (subIn K (.ref (He.ga K d.cls)) (.type "BaseException") = some true) && (decide (subIn K (.ref (He.ga K d.cls)) (.type "ValueError") = some true) && (decide (typeIn K (.ref (He.ga K d.cls)) = some (.type "type")) &&
  (inB K file d.qual (He.ga K d.cls) (d.at_ K) && (He.eqO (nsIn K cStatics "thirdparty.any") (some none) && (xfB K (He.ga K d.cls) && He.eqO (nsIn K mainGlobals d.cls) (some (some (.ref (He.ga K d.cls)))))))))))))))
/-- what the text alone says -/
structure ErT (P : Program) (d : ErS) : Prop where
  top : (P.main.scope.names.lookup ("super" : Str)).isSome = false
  bind : ∀ kV doc pm an cdv ct cc (x u : Value), bindArgs (ksFn "__init__" d.qual d.params d.body d.scope .none kV doc pm an cdv ct cc) ⟨[x, u], []⟩ = pure [(("self" : Str), x), (d.f, u)]
  hd : (d.params.posonlyargs ++ d.params.args).head?.map (·.arg) = some ("self" : Str)
  text : ∃ (m : Str) (j : Nat) (p0 p1 p2 p3 p4 p5 q1 q2 q3 q4 : Pos), (p2.endLine == p4.line) = true ∧ d.body = [.Expr (.Call (.Attribute (.Call (.Name "super" p0) [] [] p1) "__init__" p2) [.Constant (.str m) j p3] [] p4) p5, .Assign [.Attribute (.Name "self" q1) d.f q2] (.Name d.f q3) q4]
  s1 : d.scope.names.lookup ("super" : Str) = some .globalImplicit
  s2 : d.scope.names.lookup ("__class__" : Str) = some .free
  s3 : d.scope.names.lookup ("self" : Str) = some .local
  s4 : d.scope.names.lookup d.f = some .local
  s5 : d.scope.kind = .function
  s6 : d.scope.isCoroutine = false
  s7 : d.scope.isGenerator = false
  s8 : ∀ x ∈ d.scope.names, x.2 ≠ .cell
  s9 : d.f ≠ ("self" : Str) ∧ (d.f == ("__debug__" : Str)) = false
theorem ErS.txt {K : Frag} {P : Program} {d : ErS} (e : erA K (d.at_ K) = d.val) (h : d.ok K P.main.file = true) (t : ErT P d) :
    (∃ D fI cc cda qual params body scope, PySem.PwX.ErrTxt K P d.f (He.ga K d.cls) D fI cc cda qual params body scope) ∧ XfC K (He.ga K d.cls) ∧ nsIn K mainGlobals d.cls = some (some (.ref (He.ga K d.cls))) := by
  obtain ⟨h1, h⟩ := He.ba h
  obtain ⟨h2, h⟩ := He.ba h
  obtain ⟨h3, h⟩ := He.ba h
  obtain ⟨h4, h⟩ := He.ba h
  obtain ⟨h5, h⟩ := He.ba h
  obtain ⟨h6, h⟩ := He.ba h
  obtain ⟨h7, h⟩ := He.ba h
  obtain ⟨h8, h⟩ := He.ba h
  obtain ⟨h9, h⟩ := He.ba h
  obtain ⟨h10, h⟩ := He.ba h
  obtain ⟨h11, h⟩ := He.ba h
  obtain ⟨h12, h13⟩ := He.ba h
  refine ⟨?_, xfB_ok h12, He.eqO_ok h13⟩
  unfold inB at h10
  unfold erA at e
  cases q : K.lookup (d.at_ K) with
  | none => rw [q] at h10; cases h10
  | some o =>
    obtain ⟨oc, od, dt, osl⟩ := o
    rw [q] at h10 e
    cases dt with
    | func fd =>
      obtain ⟨n1, n2, n3, n4, n5, n6, n7, n8, n9, n10, n11, n12, n13, n14, n15⟩ := fd
      have e2 : (some (n1, n2, n3, n4, n5, n6, n7.map (·.1), n15) : ErW) = (some (("__init__" : Str), d.qual, d.params, FuncBody.stmts d.body, d.scope, mainGlobals, [("__class__" : Str)], builtinsNs) : ErW) := e
      simp only [Option.some.injEq, Prod.mk.injEq] at e2
      obtain ⟨g1, g2, g3, g4, g5, g6, g7, g8⟩ := e2
      subst g1 g2 g3 g4 g5 g6 g8
      obtain ⟨hdv, h10⟩ := He.ba (show (nonB n8 && inB2 K P.main.file d.qual (He.ga K d.cls) n13 n7) = true from h10)
      obtain rfl := nonB_ok hdv
      obtain ⟨cda, nm, cc, rfl, rfl, k1, ⟨ccl, cdd, vs, ccs, fl, tf, hcode, hvs, k2⟩, D, cl, cld, csl, cdD, hcell, k4, k6, k7⟩ := inB2_ok h10
      have : nm = ("__class__" : Str) := by
        have := g7
        simpa using this
      subst this
      exact ⟨D, d.at_ K, cc, cda, d.qual, d.params, d.body, d.scope, {
        cls := shB_ok h1
        sa := He.eqO_ok h2
        noN := He.eqO_ok h3
        iC := He.eqO_ok h4
        tC := of_decide_eq_true h5
        kC := h6
        exC := of_decide_eq_true h7
        veC := of_decide_eq_true h8
        tyC := of_decide_eq_true h9
        fn := ⟨oc, od, .none, n9, n10, n11, n14, n12, osl, q, fun x u => t.bind n9 n10 n11 n12 (.ref cda) n14 cc x u⟩
        code := k1
        file := ⟨ccl, cdd, vs, ccs, fl, tf, hcode, hvs, k2⟩
        cell := ⟨cl, cld, csl, cdD, hcell, k4, k6⟩
        sup := k7
        opq := He.eqO_ok h11
        top := t.top
        hd := t.hd
        text := t.text
        s1 := t.s1
        s2 := t.s2
        s3 := t.s3
        s4 := t.s4
        s5 := t.s5
        s6 := t.s6
        s7 := t.s7
        s8 := t.s8
        s9 := t.s9 }⟩
    | _ => cases h10
/-! ### constants -/
mutual
/-- the value u reads as d in any heap -/
def cstB (K : Frag) : D → Value → Bool
  | .non, .none => true
  | .bl b, .bool c => b == c
  | .int i, .int j _ => decide (i = j)
  | .str x, .str y _ => decide (x = y)
  | .tup ds, .ref a => (match K.lookup a with
    | some ⟨.type "tuple", _, .seq its _, _⟩ => decide (its.size ≤ 1000) && cstBs K ds its.toList
    | _ => false)
  | .kls ds, .ref a => (match K.lookup a with
    | some ⟨.type "list", none, .seq its _, _⟩ => decide (its.size ≤ 1000) && cstBs K ds its.toList
    | _ => false)
  | _, _ => false
def cstBs (K : Frag) : List D → List Value → Bool
  | [], [] => true
  | d :: ds, v :: vs => cstB K d v && cstBs K ds vs
  | _, _ => false
end
section
variable {g : G}
mutual
theorem cstB_ok : ∀ (d : D) (u : Value), cstB g.K d u = true → ∃ v, RelV v u ∧ ∀ H, Rep g H d v
  | .non, u, h => by
    unfold cstB at h
    cases u <;> first | (cases h; done) | exact ⟨.non, rfl, fun H => rfl⟩
  | .bl b, u, h => by
    unfold cstB at h
    cases u <;> first | (cases h; done) | exact ⟨.bl b, by have := beq_iff_eq.mp h; subst this; rfl, fun H => rfl⟩
  | .int i, u, h => by
    unfold cstB at h
    cases u <;> first | (cases h; done) | exact ⟨.int i, by have := of_decide_eq_true h; subst this; exact ⟨_, rfl⟩, fun H => rfl⟩
  | .str x, u, h => by
    unfold cstB at h
    cases u <;> first | (cases h; done) | exact ⟨.str x, by have := of_decide_eq_true h; subst this; exact ⟨_, rfl⟩, fun H => rfl⟩
  | .tup ds, u, h => by
    unfold cstB at h
    cases u <;> first | (cases h; done) | skip
    rename_i a
    dsimp only at h
    split at h
    · rename_i dd its n sl ho
      obtain ⟨h1, h2⟩ := He.ba h
      obtain ⟨vs, r, q⟩ := cstBs_ok ds its.toList h2
      exact ⟨.ref a, rfl, fun H => ⟨a, vs, rfl, .inr ⟨_, its, n, ho, rfl, rfl, Nat.le_trans (of_decide_eq_true h1) (by rw [sizeLine_eq]; decide), r⟩, q H⟩⟩
    · cases h
  | .kls ds, u, h => by
    unfold cstB at h
    cases u <;> first | (cases h; done) | skip
    rename_i a
    dsimp only at h
    split at h
    · rename_i its n sl ho
      obtain ⟨h1, h2⟩ := He.ba h
      obtain ⟨vs, r, q⟩ := cstBs_ok ds its.toList h2
      exact ⟨.ref a, rfl, fun H => ⟨a, vs, rfl, .inr ⟨_, its, n, ho, rfl, rfl, rfl, Nat.le_trans (of_decide_eq_true h1) (by rw [sizeLine_eq]; decide), r⟩, q H⟩⟩
    · cases h
  | .lst _, u, h => by unfold cstB at h; cases u <;> cases h
  | .obj _ _ _, u, h => by unfold cstB at h; cases u <;> cases h
  | .dic _, u, h => by unfold cstB at h; cases u <;> cases h
  | .opq, u, h => by unfold cstB at h; cases u <;> cases h
theorem cstBs_ok : ∀ (ds : List D) (us : List Value), cstBs g.K ds us = true → ∃ vs, Vals vs us ∧ ∀ H, Reps g H ds vs
  | [], us, h => by
    cases us with
    | nil => exact ⟨[], .nil, fun H => rfl⟩
    | cons _ _ => unfold cstBs at h; cases h
  | d :: ds, us, h => by
    cases us with
    | nil => unfold cstBs at h; cases h
    | cons u us =>
      unfold cstBs at h
      obtain ⟨h1, h2⟩ := He.ba h
      obtain ⟨v, r1, q1⟩ := cstB_ok d u h1
      obtain ⟨vs, r2, q2⟩ := cstBs_ok ds us h2
      exact ⟨v :: vs, .cons r1 r2, fun H => ⟨v, vs, rfl, q1 H, q2 H⟩⟩
end
end
def gcB (K : Frag) (x : Str) (d : D) : Bool := match nsIn K mainGlobals x with
  | some (some u) => cstB K d u
  | _ => false
theorem gcB_ok {g : G} {mg : Str → Option Value} {h : Heap} (X : g.K.In h) (G : h.Ns mainGlobals mg) {x : Str} {d : D} (c : gcB g.K x d = true) : ∃ u v, mg x = some u ∧ RelV v u ∧ ∀ H, Rep g H d v := by
  unfold gcB at c
  split at c
  · rename_i u e
    obtain ⟨v, r, q⟩ := cstB_ok d u c
    exact ⟨u, v, PySem.W.mg_of X G e, r, q⟩
  · cases c
/-- a table's values -/
def tbB (K : Frag) (a : Addr) (kvs : List (Str × D)) : Bool := kvs.all fun q => match nsIn K a q.1 with
  | some (some u) => cstB K q.2 u
  | _ => false
theorem tbB_ok {g : G} {w : World} {a : Addr} {kvs : List (Str × D)} {es : Array DictEntry} {n : Nat} (k : KDict g.K w a es n) (h : tbB g.K a kvs = true) {z : Str} {d : D} (hz : kvs.lookup z = some d) : ∃ v, KDct g.K w a z v ∧ ∀ H, Rep g H d v := by
  have hm : (z, d) ∈ kvs := by
    clear h
    induction kvs with
    | nil => cases hz
    | cons q r ih =>
      obtain ⟨q1, q2⟩ := q
      rw [List.lookup_cons] at hz
      cases e : z == q1 with
      | true =>
        rw [e] at hz
        cases hz
        rw [beq_iff_eq.mp e]
        exact List.mem_cons_self
      | false => rw [e] at hz; exact List.mem_cons_of_mem _ (ih hz)
  have h2 := List.all_eq_true.mp h _ hm
  cases e : nsIn g.K a z with
  | none => simp only [e] at h2; cases h2
  | some o =>
    cases o with
    | none => simp only [e] at h2; cases h2
    | some u =>
      simp only [e] at h2
      obtain ⟨v, r, q⟩ := cstB_ok d u h2
      exact ⟨v, ⟨es, n, u, k.at_, k.lit, e, r⟩, q⟩
/-! ### the errors as classes -/
def excB (K : Frag) (D : Addr) : Bool :=
  He.eqO (findIn K (.ref D) "__getattribute__") (some (some (.builtin "BaseException.__getattribute__"))) && (He.eqO (findIn K (.ref D) "__getattr__") (some none) && (decide (subIn K (.ref D) (.type "BaseException") = some true) && (hasDictIn K D &&
  (He.eqO (findIn K (.ref D) "__class__") (some (some (.builtin "object.__class__"))) && (He.eqO (specialIn K (.builtin "object.__class__") "__get__") (some (some (.builtin "getset_descriptor.__get__"))) && (decide (takesIn K (.builtin "object.__class__") = some true) && decide (mroIn K D (.type "object") = some true)))))))
theorem excB_ok {K : Frag} {D : Addr} (h : excB K D = true) : ExcC K D := by
  obtain ⟨h1, h⟩ := He.ba h
  obtain ⟨h2, h⟩ := He.ba h
  obtain ⟨h3, h⟩ := He.ba h
  obtain ⟨h4, h⟩ := He.ba h
  obtain ⟨h5, h⟩ := He.ba h
  obtain ⟨h6, h⟩ := He.ba h
  obtain ⟨h7, h8⟩ := He.ba h
  exact ⟨He.eqO_ok h1, He.eqO_ok h2, of_decide_eq_true h3, h4, He.eqO_ok h5, He.eqO_ok h6, of_decide_eq_true h7, of_decide_eq_true h8⟩
/-! ### the Hook -/
abbrev AlP : Type := (Bool × List He.FnW × List ErW) × List (Option (List (Option (Str × Int))))
structure Seen where
  ex : Frag → Bool
  fn : List He5.DefA
  er : List ErS
  file : Str
  ts : List He.Tab
def Seen.obs (S : Seen) (K : Frag) : AlP := ((S.ex K && ((S.fn.all fun d => d.ok K) && S.er.all fun d => d.ok K S.file), S.fn.map (fun d => He5.fnA K (d.at_ K)), S.er.map fun d => erA K (d.at_ K)), S.ts.map fun t => He.dicW K (t.1 K))
def Seen.val (S : Seen) (w : World) : AlP := ((true, S.fn.map He5.DefA.val, S.er.map ErS.val), S.ts.map fun t => some (He.keysIn w.params t.2))
structure Seen.Says (S : Seen) (w : World) (K : Frag) : Prop where
  eq : S.obs K = S.val w
/-- with the defs' cells -/
def asE (g : Addr → Option Obj) (n : Nat) : List Addr := He5.asA g n ++ (He5.asA g n).flatMap fun a => match g a with
  | some ⟨_, _, .func fd, _⟩ => fd.closure.map (·.2)
  | _ => []
def Seen.obsG (S : Seen) (n : Nat) (g : Addr → Option Obj) : AlP := S.obs (He.frG g (asE g n))
def Seen.hook (S : Seen) (n : Nat) : PySem.W.Hook where
  α := AlP
  obs := fun s => S.obsG n s.heap.get?
  val := fun w => S.val w
  says := fun w h => ∃ K : Frag, K.In h ∧ S.Says w K
  of := fun _ _ e => ⟨_, He.frG_in, ⟨e⟩⟩
  keeps := fun _ _ _ ⟨K, hK, c⟩ k => ⟨K, Frag.In.keeps hK k, c⟩
theorem Seen.obsG_eq {S : Seen} {n : Nat} {g : Addr → Option Obj} {s : Shared} (h : ∀ a, g a = s.heap.get? a) : S.obsG n g = (S.hook n).obs s := by
  have e : g = s.heap.get? := funext h
  rw [e] <;> rfl
section
variable {S : Seen} {w : World} {K : Frag}
theorem Seen.Says.all (c : S.Says w K) : S.ex K = true ∧ (S.fn.all fun d => d.ok K) = true ∧ (S.er.all fun d => d.ok K S.file) = true := by
  have h : (S.ex K && ((S.fn.all fun d => d.ok K) && S.er.all fun d => d.ok K S.file)) = true := congrArg (fun z : AlP => z.1.1) c.eq
  obtain ⟨h1, h⟩ := He.ba h
  obtain ⟨h2, h3⟩ := He.ba h
  exact ⟨h1, h2, h3⟩
theorem Seen.Says.def_ (c : S.Says w K) {d : He5.DefA} (hd : d ∈ S.fn) : ∃ fd, L2.FunD K d.name d.qual d.params d.body d.scope (d.dvs K) (d.kws K) (d.at_ K) fd := by
  obtain ⟨i, h⟩ := List.mem_iff_getElem?.mp hd
  have e : S.fn.map (fun d => He5.fnA K (d.at_ K)) = S.fn.map He5.DefA.val := congrArg (fun z : AlP => z.1.2.1) c.eq
  have e2 : (S.fn.map fun d => He5.fnA K (d.at_ K))[i]? = (S.fn.map He5.DefA.val)[i]? := by rw [e]
  rw [List.getElem?_map, List.getElem?_map, h] at e2
  exact He5.DefA.funD (Option.some.inj e2) (List.all_eq_true.mp c.all.2.1 d hd)
theorem Seen.Says.err {P : Program} (c : S.Says w K) (hf : S.file = P.main.file) {d : ErS} (hd : d ∈ S.er) (t : ErT P d) :
    (∃ D fI cc cda qual params body scope, PySem.PwX.ErrTxt K P d.f (He.ga K d.cls) D fI cc cda qual params body scope) ∧ XfC K (He.ga K d.cls) ∧ nsIn K mainGlobals d.cls = some (some (.ref (He.ga K d.cls))) := by
  obtain ⟨i, h⟩ := List.mem_iff_getElem?.mp hd
  have e : S.er.map (fun d => erA K (d.at_ K)) = S.er.map ErS.val := congrArg (fun z : AlP => z.1.2.2) c.eq
  have e2 : (S.er.map fun d => erA K (d.at_ K))[i]? = (S.er.map ErS.val)[i]? := by rw [e]
  rw [List.getElem?_map, List.getElem?_map, h] at e2
  have := List.all_eq_true.mp c.all.2.2 d hd
  rw [hf] at this
  exact ErS.txt (Option.some.inj e2) this t
theorem Seen.Says.tab (c : S.Says w K) (i : Nat) {t : He.Tab} (h : S.ts[i]? = some t := by rfl) : ∃ es n, KDict K w (t.1 K) es n := by
  have e : S.ts.map (fun t => He.dicW K (t.1 K)) = S.ts.map fun t => some (He.keysIn w.params t.2) := congrArg (fun z : AlP => z.2) c.eq
  have e2 : (S.ts.map fun t => He.dicW K (t.1 K))[i]? = (S.ts.map fun t => some (He.keysIn w.params t.2))[i]? := by rw [e]
  rw [List.getElem?_map, List.getElem?_map, h] at e2
  exact He.dicW_ok (Option.some.inj e2)
end
end Pw

set_option Elab.async false
set_option linter.all false
set_option maxRecDepth 100000
set_option maxHeartbeats 2000000
/-! a law's tables; what the head must show of them -/
namespace Pw
open PySem PySem.Spec PyProof.Rows L2 PySem.W
structure Lw where
  fnL : List (Str × Fn)
  cstL : List (Str × D)
  /-- the names of the dicts -/
  dicL : List Str
  tabL : List (List (Str × D))
  errL : List (Str × Str)
  exmL : List ((Str × Str) × Bool)
  xisL : List ((Str × Str) × Bool)
  catL : List Str
  hotL : List Str
  rwsL : List Str
  alsL : List Str
def Lw.tabs (L : Lw) (j : Nat) : List (Str × D) := L.tabL.getD j []
def Lw.cst (L : Lw) (x : Str) : Option D := match L.cstL.lookup x with
  | some d => some d
  | none => (L.dicL.findIdx? (· == x)).map .dic
def Lw.tb (L : Lw) : Tb where
  fns := fun f => L.fnL.lookup f
  hots := fun f => L.hotL.contains f
  cst := L.cst
  tabs := L.tabs
  isT := ⟨fun _ _ => none, fun _ _ => none⟩
  own := fun _ => false
  errs := fun C => L.errL.lookup C
  exm := fun C D => L.exmL.lookup (C, D)
  cat := fun D => L.catL.contains D
  xis := fun C D => L.xisL.lookup (C, D)
  rws := fun x => L.rwsL.contains x
  als := fun x => L.alsL.contains x
def Lw.g (L : Lw) (K : Frag) : G := ⟨K, fun _ => 0, fun j => (L.dicL[j]?).map (He.ga K)⟩
def glB (K : Frag) (x : Str) : Bool := He.eqO (nsIn K mainGlobals x) (some (some (.ref (He.ga K x))))
def Lw.ex (L : Lw) (K : Frag) : Bool :=
  (biNames.all fun x => He.eqO (nsIn K mainGlobals x) (some none)) && ((L.fnL.all fun q => glB K q.1) && ((L.cstL.all fun q => gcB K q.1 q.2) && ((L.dicL.all fun x => glB K x) && (((L.dicL.zip L.tabL).all fun q => tbB K (He.ga K q.1) q.2) &&
  ((L.exmL.all fun q => decide (exmOne K (.ref (He.ga K q.1.1)) (.ref (He.ga K q.1.2)) = some q.2)) && ((L.catL.all fun x => glB K x) && (L.xisL.all fun q => excB K (He.ga K q.1.1) && (decide (kitOne K (.ref (He.ga K q.1.1)) (.ref (He.ga K q.1.2)) = some q.2) && glB K q.1.2))))))))
/-- what the hook looks at -/
def Lw.seen (L : Lw) (fn : List He5.DefA) (er : List ErS) (file : Str) : Seen := ⟨L.ex, fn, er, file, (L.dicL.zip L.tabL).map fun q => (fun K => He.ga K q.1, q.2.map (·.1))⟩
theorem look_mem {α β : Type} [BEq α] [LawfulBEq α] : ∀ {l : List (α × β)} {x : α} {y : β}, l.lookup x = some y → (x, y) ∈ l
  | [], _, _, h => by cases h
  | q :: l, x, y, h => by
    obtain ⟨q1, q2⟩ := q
    rw [List.lookup_cons] at h
    cases e : x == q1 with
    | true =>
      rw [e] at h
      cases h
      rw [beq_iff_eq.mp e]
      exact List.mem_cons_self
    | false => rw [e] at h; exact List.mem_cons_of_mem _ (look_mem h)
section
variable {L : Lw} {fn : List He5.DefA} {er : List ErS} {w : World} {K : Frag} {P : Program} {mg : Str → Option Value} {h : Heap}
theorem Lw.base (X : K.In h) (G : h.Ns mainGlobals mg) (c : (L.seen fn er P.main.file).Says w K)
    (hfn : ∀ f F, (f, F) ∈ L.fnL → ∃ d ∈ fn, d.at_ K = He.ga K f ∧ d.name = f ∧ d.dfl = [] ∧ d.kwd = [] ∧ FnScope F.N F.ps d.scope ∧ (∃ n, F.body = cSs L.tb F.N d.scope n false d.body ∧ (L.hotL.contains f = true → F.body = cSs L.tb F.N d.scope n true d.body)) ∧
      ∀ (kV doc pm : Value) (an : Option Addr) (cdv ct : Value) (us : List Value), us.length = F.ps.length → bindArgs (PySem.W.fnOf f d.qual d.params d.body d.scope .none kV doc pm an cdv ct) ⟨us, []⟩ = pure (F.ps.zip us))
    (her : ∀ C f, (C, f) ∈ L.errL → f ≠ "__class__" ∧ ∃ d ∈ er, d.cls = C ∧ d.f = f ∧ ErT P d) (hd : L.dicL.length = L.tabL.length) : Base (L.g K) L.tb P w mg := by
  obtain ⟨c0, _, _⟩ := c.all
  obtain ⟨c1, c0⟩ := He.ba (show L.ex K = true from c0)
  obtain ⟨c2, c0⟩ := He.ba c0
  obtain ⟨c3, c0⟩ := He.ba c0
  obtain ⟨c4, c0⟩ := He.ba c0
  obtain ⟨c5, c0⟩ := He.ba c0
  obtain ⟨c6, c0⟩ := He.ba c0
  obtain ⟨c7, c8⟩ := He.ba c0
  have gl : ∀ {x}, glB K x = true → mg x = some (.ref (He.ga K x)) := fun e => PySem.W.mg_of X G (He.eqO_ok e)
  refine ⟨fun f F hF => ?_, fun x d hx => ?_, fun j a z d hj hz => ?_, ⟨(fun _ _ _ z => by cases z), (fun _ _ _ z => by cases z)⟩, (fun C z => by cases z), fun x hx => ?_, fun C f hC => ?_, fun C D b hb => ?_, fun C f hC => ?_, fun C D b hb => ?_, fun D hD => ?_⟩
  · have hm := look_mem hF
    obtain ⟨d, hd, e1, e2, e3, e4, S, ⟨n, b1, b2⟩, bd⟩ := hfn f F hm
    obtain ⟨fd, FD⟩ := c.def_ hd
    rw [e1, e2] at FD
    have z1 : d.dvs K = [] := by unfold He5.DefA.dvs; rw [e3]; rfl
    have z2 : d.kws K = [] := by unfold He5.DefA.kws; rw [e4]; rfl
    rw [z1, z2] at FD
    exact ⟨d.qual, d.params, d.body, d.scope, He.ga K f, fd, n, FD, S, b1, b2, gl (List.all_eq_true.mp c2 _ hm), FD.bindsN bd⟩
  · have hx' : L.cst x = some d := hx
    unfold Lw.cst at hx'
    split at hx'
    · rename_i d' q
      cases hx'
      exact gcB_ok (g := L.g K) X G (List.all_eq_true.mp c3 _ (look_mem q))
    · cases q : L.dicL.findIdx? (· == x) with
      | none => rw [q] at hx'; cases hx'
      | some j =>
        rw [q] at hx'
        cases hx'
        obtain ⟨h1, h2, _⟩ := List.findIdx?_eq_some_iff_getElem.mp q
        have h2 : L.dicL[j] = x := by simpa using h2
        have h3 : L.dicL[j]? = some x := by rw [List.getElem?_eq_getElem h1, h2]
        exact ⟨.ref (He.ga K x), .ref (He.ga K x), gl (List.all_eq_true.mp c4 x (List.mem_of_getElem? h3)), rfl, fun H => ⟨He.ga K x, rfl, by show (L.dicL[j]?).map (He.ga K) = _; rw [h3]; rfl⟩⟩
  · have hj' : (L.dicL[j]?).map (He.ga K) = some a := hj
    cases q : L.dicL[j]? with
    | none => rw [q] at hj'; cases hj'
    | some x =>
      rw [q] at hj'
      cases hj'
      have hl : j < L.tabL.length := by rw [← hd]; exact (List.getElem?_eq_some_iff.mp q).1
      have hz' : (L.tabL.getD j []).lookup z = some d := hz
      rw [List.getD_eq_getElem?_getD, List.getElem?_eq_getElem hl] at hz'
      have hzip : (L.dicL.zip L.tabL)[j]? = some (x, L.tabL[j]) := by rw [List.getElem?_zip_eq_some]; exact ⟨q, List.getElem?_eq_getElem hl⟩
      obtain ⟨es, n, kd⟩ := c.tab j (t := (fun K => He.ga K x, L.tabL[j].map (·.1))) (by show ((L.dicL.zip L.tabL).map _)[j]? = _; rw [List.getElem?_map, hzip]; rfl)
      exact tbB_ok (g := L.g K) kd (List.all_eq_true.mp c5 _ (List.mem_of_getElem? hzip)) hz'
  · exact PySem.W.mg_none_of X G (He.eqO_ok (List.all_eq_true.mp c1 x hx))
  · obtain ⟨_, d, hd, rfl, rfl, t⟩ := her C f (look_mem hC)
    obtain ⟨e1, _, e3⟩ := c.err rfl hd t
    exact ⟨PySem.W.mg_of X G e3, e1⟩
  · obtain ⟨h1, h2⟩ := He.ba (List.all_eq_true.mp c8 _ (look_mem hb))
    obtain ⟨h2, h3⟩ := He.ba h2
    exact ⟨excB_ok h1, of_decide_eq_true h2, gl h3⟩
  · obtain ⟨h1, d, hd, rfl, rfl, t⟩ := her C f (look_mem hC)
    obtain ⟨_, e2, _⟩ := c.err rfl hd t
    exact ⟨e2, h1⟩
  · exact of_decide_eq_true (List.all_eq_true.mp c6 _ (look_mem hb))
  · exact gl (List.all_eq_true.mp c7 D (List.contains_iff_mem.mp (show L.catL.contains D = true from hD)))
end
end Pw

set_option Elab.async false
set_option linter.all false
set_option maxRecDepth 100000
set_option maxHeartbeats 0
/-! the law's defs in the reader's language (printed by mklaw.py) -/
namespace Law
open PySem PySem.Spec PyProof.Rows L2 Pw
def bodyC : Stmt → List Stmt
  | .ClassDef (body := b) .. => b
  | _ => []
def top (i : Nat) : Stmt := PySem.Challenge.pw_slotlag_k72_apart_events.main.body.getD i (.Pass ⟨0, 0, 0, 0⟩)
abbrev R : PySem.W.OpenRow := PySem.W.OpenLaw.row PySem.Challenge.rw_slotlag_k72_apart_events
abbrev sf_is_word : Stmt := top 8
def l_is_word_1 : ISs := .cons (.ifs (.cmp .NotIn (.var 1) (.cst (.str "abcdefghijklmnopqrstuvwxyz"))) (.cons (.ret (.cst (.bl false))) (.nil)) (.nil)) (.nil)
def f_is_word : Fn := ⟨["value", "sign"], ["value"], [false],
  .cons (.ifs (.or (.not (.isT (.var 0) .str)) (.or (.cmp .Eq (.bi .len (.cons (.var 0) (.nil))) (.cst (.int 0))) (.cmp .Gt (.bi .len (.cons (.var 0) (.nil))) (.cst (.int 8))))) (.cons (.ret (.cst (.bl false))) (.nil)) (.nil)) (.cons (.for (.name 1) (.seq (.var 0)) l_is_word_1) (.cons (.ret (.cst (.bl true))) (.nil)))⟩
abbrev sf_is_event : Stmt := top 11
def f_is_event : Fn := ⟨["event"], ["event"], [false],
  .cons (.ifs (.or (.not (.isT (.var 0) .tuple)) (.or (.cmp .Eq (.bi .len (.cons (.var 0) (.nil))) (.cst (.int 0))) (.not (.isT (.ix (.var 0) (.cst (.int 0))) .str)))) (.cons (.ret (.cst (.bl false))) (.nil)) (.nil)) (.cons (.ifs (.or (.cmp .Eq (.ix (.var 0) (.cst (.int 0))) (.cst (.str "stop"))) (.cmp .Eq (.ix (.var 0) (.cst (.int 0))) (.cst (.str "strike")))) (.cons (.ret (.cmp .Eq (.bi .len (.cons (.var 0) (.nil))) (.cst (.int 1)))) (.nil)) (.nil)) (.cons (.ifs (.cmp .Eq (.ix (.var 0) (.cst (.int 0))) (.cst (.str "log"))) (.cons (.ret (.cmp .Eq (.bi .len (.cons (.var 0) (.nil))) (.cst (.int 2)))) (.nil)) (.nil)) (.cons (.ret (.and (.cmp .In (.ix (.var 0) (.cst (.int 0))) (.cst (.tup [.str "connect", .str "tell", .str "apply", .str "report", .str "confirm", .str "save", .str "halt"]))) (.and (.cmp .Eq (.bi .len (.cons (.var 0) (.nil))) (.cst (.int 2))) (.call "is_word" (.cons (.ix (.var 0) (.cst (.int 1))) (.nil)))))) (.nil))))⟩
abbrev sf_check_event : Stmt := top 12
def f_check_event : Fn := ⟨["event"], ["event"], [false],
  .cons (.ifs (.not (.call "is_event" (.cons (.var 0) (.nil)))) (.cons (.rse "BadEvent" (.cons (.var 0) (.nil))) (.nil)) (.nil)) (.nil)⟩
abbrev sf_events_apart : Stmt := top 16
def f_events_apart : Fn := ⟨["first", "second"], ["first", "second"], [false, false],
  .cons (.ifs (.and (.cmp .NotIn (.ix (.var 0) (.cst (.int 0))) (.cst (.tup [.str "log", .str "stop", .str "strike"]))) (.and (.cmp .NotIn (.ix (.var 1) (.cst (.int 0))) (.cst (.tup [.str "log", .str "stop", .str "strike"]))) (.cmp .NotEq (.ix (.var 0) (.cst (.int 1))) (.ix (.var 1) (.cst (.int 1)))))) (.cons (.ret (.cst (.bl true))) (.nil)) (.nil)) (.cons (.ret (.cmp .In (.ix (.var 1) (.cst (.int 0))) (.ix (.cst (.dic 0)) (.ix (.var 0) (.cst (.int 0)))))) (.nil))⟩
abbrev sf_apart : Stmt := top 17
def f_apart : Fn := ⟨["first", "second"], ["first", "second"], [false, false],
  .cons (.exp (.call "check_event" (.cons (.var 0) (.nil)))) (.cons (.exp (.call "check_event" (.cons (.var 1) (.nil)))) (.cons (.ret (.call "events_apart" (.cons (.var 0) (.cons (.var 1) (.nil))))) (.nil)))⟩
abbrev sf_law_same : Stmt := top 19
def l_law_same_1 : ISs := .cons (.ifs (.not (.call "_law_same" (.cons (.ix (.var 0) (.var 2)) (.cons (.ix (.var 1) (.var 2)) (.nil))))) (.cons (.ret (.cst (.bl false))) (.nil)) (.nil)) (.nil)
def f_law_same : Fn := ⟨["here", "there", "k"], ["here", "there"], [false, false],
  .cons (.ifs (.or (.cmp .Is (.var 0) (.cst (.non))) (.cmp .Is (.var 1) (.cst (.non)))) (.cons (.ret (.and (.cmp .Is (.var 0) (.cst (.non))) (.cmp .Is (.var 1) (.cst (.non))))) (.nil)) (.nil)) (.cons (.ifs (.or (.isT (.var 0) .bool) (.isT (.var 1) .bool)) (.cons (.ret (.and (.isT (.var 0) .bool) (.and (.isT (.var 1) .bool) (.cmp .Eq (.var 0) (.var 1))))) (.nil)) (.nil)) (.cons (.ifs (.or (.isT (.var 0) .int) (.isT (.var 1) .int)) (.cons (.ret (.and (.isT (.var 0) .int) (.and (.isT (.var 1) .int) (.cmp .Eq (.var 0) (.var 1))))) (.nil)) (.nil)) (.cons (.ifs (.or (.isT (.var 0) .str) (.isT (.var 1) .str)) (.cons (.ret (.and (.isT (.var 0) .str) (.and (.isT (.var 1) .str) (.cmp .Eq (.var 0) (.var 1))))) (.nil)) (.nil)) (.cons (.ifs (.and (.isT (.var 0) .dict) (.isT (.var 1) .dict)) (.cons (.ifs (.not (.call "_law_same" (.cons (.bi .list (.cons (.var 0) (.nil))) (.cons (.bi .list (.cons (.var 1) (.nil))) (.nil))))) (.cons (.ret (.cst (.bl false))) (.nil)) (.nil)) (.cons (.ret (.call "_law_same" (.cons (.bad) (.cons (.bad) (.nil))))) (.nil))) (.nil)) (.cons (.ifs (.or (.cmp .NotEq (.isT (.var 0) .tuple) (.isT (.var 1) .tuple)) (.cmp .NotEq (.isT (.var 0) .list) (.isT (.var 1) .list))) (.cons (.ret (.cst (.bl false))) (.nil)) (.nil)) (.cons (.ifs (.and (.not (.isT (.var 0) .tuple)) (.not (.isT (.var 0) .list))) (.cons (.ret (.cst (.bl false))) (.nil)) (.nil)) (.cons (.ifs (.cmp .NotEq (.bi .len (.cons (.var 0) (.nil))) (.bi .len (.cons (.var 1) (.nil)))) (.cons (.ret (.cst (.bl false))) (.nil)) (.nil)) (.cons (.for (.name 2) (.rng (.cons (.bi .len (.cons (.var 0) (.nil))) (.nil))) l_law_same_1) (.cons (.ret (.cst (.bl true))) (.nil))))))))))⟩
abbrev sf_law_start : Stmt := top 20
def f_law_start : Fn := ⟨["script"], ["script"], [false],
  .cons (.ret (.lst (.cons (.bi .list (.cons (.var 0) (.nil))) (.cons (.cst (.int 0)) (.cons (.cst (.int 0)) (.cons (.cst (.int 0)) (.cons (.cst (.int 0)) (.cons (.cst (.int 0)) (.nil))))))))) (.nil)⟩
abbrev sf_law_mixed : Stmt := top 21
def f_law_mixed : Fn := ⟨["cell", "turn", "limit", "once"], ["cell", "turn", "limit"], [false, false, false],
  .cons (.set 3 (.bin .Mod (.bi .int (.cons (.bin .Add (.bin .Add (.bin .Mult (.var 0) (.cst (.int 48271))) (.bin .Mult (.var 1) (.cst (.int 69621)))) (.cst (.int 11))) (.nil))) (.cst (.int 2147483647)))) (.cons (.ret (.bin .Mod (.bin .Mod (.bi .int (.cons (.bin .Add (.bin .Add (.bin .Mult (.var 3) (.cst (.int 16807))) (.bin .Mult (.var 1) (.cst (.int 40692)))) (.cst (.int 7))) (.nil))) (.cst (.int 2147483629))) (.var 2))) (.nil))⟩
abbrev sf_law_draw : Stmt := top 22
def f_law_draw : Fn := ⟨["state", "limit", "digit", "cell"], ["state", "limit"], [true, false],
  .cons (.ifs (.cmp .Gt (.ix (.var 0) (.cst (.int 2))) (.cst (.int 0))) (.cons (.set 2 (.bin .Mod (.bi .int (.cons (.ix (.var 0) (.cst (.int 2))) (.nil))) (.var 1))) (.cons (.setI 0 (.cst (.int 2)) (.bin .FloorDiv (.ix (.var 0) (.cst (.int 2))) (.var 1))) (.cons (.ret (.var 2)) (.nil)))) (.nil)) (.cons (.ifs (.cmp .Gt (.ix (.var 0) (.cst (.int 4))) (.cst (.int 0))) (.cons (.setI 0 (.cst (.int 4)) (.bin .Sub (.ix (.var 0) (.cst (.int 4))) (.cst (.int 1)))) (.cons (.setI 0 (.cst (.int 5)) (.bin .Add (.ix (.var 0) (.cst (.int 5))) (.cst (.int 1)))) (.cons (.ret (.call "_law_mixed" (.cons (.ix (.var 0) (.cst (.int 3))) (.cons (.ix (.var 0) (.cst (.int 5))) (.cons (.var 1) (.nil)))))) (.nil)))) (.nil)) (.cons (.ifs (.cmp .GtE (.ix (.var 0) (.cst (.int 1))) (.bi .len (.cons (.ix (.var 0) (.cst (.int 0))) (.nil)))) (.cons (.ret (.cst (.int 0))) (.nil)) (.nil)) (.cons (.set 3 (.ix (.ix (.var 0) (.cst (.int 0))) (.ix (.var 0) (.cst (.int 1))))) (.cons (.setI 0 (.cst (.int 1)) (.bin .Add (.ix (.var 0) (.cst (.int 1))) (.cst (.int 1)))) (.cons (.ifs (.cmp .GtE (.var 3) (.bin .Pow (.cst (.int 10)) (.cst (.int 18)))) (.cons (.setI 0 (.cst (.int 2)) (.bin .FloorDiv (.var 3) (.var 1))) (.cons (.ret (.bin .Mod (.bi .int (.cons (.var 3) (.nil))) (.var 1))) (.nil))) (.nil)) (.cons (.setI 0 (.cst (.int 3)) (.var 3)) (.cons (.setI 0 (.cst (.int 4)) (.cst (.int 3))) (.cons (.setI 0 (.cst (.int 5)) (.bin .Add (.ix (.var 0) (.cst (.int 5))) (.cst (.int 1)))) (.cons (.ret (.call "_law_mixed" (.cons (.var 3) (.cons (.ix (.var 0) (.cst (.int 5))) (.cons (.var 1) (.nil)))))) (.nil))))))))))⟩
abbrev sf_law_word : Stmt := top 23
def l_law_word_1 : ISs := .cons (.ifs (.or (.cmp .Eq (.var 3) (.cst (.int 0))) (.cmp .Eq (.var 7) (.var 5))) (.cons (.set 6 (.bin .Add (.var 6) (.ix (.var 1) (.call "_law_draw" (.cons (.var 0) (.cons (.cst (.int 26)) (.nil))))))) (.nil)) (.cons (.set 6 (.bin .Add (.var 6) (.var 4))) (.nil))) (.nil)
def f_law_word : Fn := ⟨["state", "letters", "many", "alike", "sign", "spot", "word", "k"], ["state"], [true],
  .cons (.set 1 (.cst (.str "abcdefghijklmnopqrstuvwxyz"))) (.cons (.set 2 (.bin .Add (.cst (.int 1)) (.call "_law_draw" (.cons (.var 0) (.cons (.cst (.int 8)) (.nil)))))) (.cons (.set 3 (.call "_law_draw" (.cons (.var 0) (.cons (.cst (.int 2)) (.nil))))) (.cons (.set 4 (.ix (.var 1) (.call "_law_draw" (.cons (.var 0) (.cons (.cst (.int 26)) (.nil)))))) (.cons (.set 5 (.call "_law_draw" (.cons (.var 0) (.cons (.var 2) (.nil))))) (.cons (.set 6 (.cst (.str ""))) (.cons (.for (.name 7) (.rng (.cons (.var 2) (.nil))) l_law_word_1) (.cons (.ret (.var 6)) (.nil))))))))⟩
abbrev sf_law_slots : Stmt := top 24
def l_law_slots_1 : ISs := .cons (.ifs (.cmp .In (.var 4) (.var 2)) (.cons (.set 4 (.var 5)) (.nil)) (.nil)) (.nil)
def l_law_slots_2 : ISs := .cons (.set 4 (.call "_law_word" (.cons (.var 0) (.nil)))) (.cons (.for (.name 5) (.seq (.lst (.cons (.cst (.str "s")) (.cons (.cst (.str "a")) (.cons (.cst (.str "ab")) (.cons (.cst (.str "ba")) (.cons (.cst (.str "zz")) (.cons (.cst (.str "left")) (.cons (.cst (.str "rightone")) (.cons (.cst (.str "q")) (.nil))))))))))) l_law_slots_1) (.cons (.app 2 (.var 4)) (.nil)))
def f_law_slots : Fn := ⟨["state", "many", "found", "k", "word", "spare"], ["state", "many"], [true, false],
  .cons (.set 2 (.lst (.nil))) (.cons (.for (.name 3) (.rng (.cons (.var 1) (.nil))) l_law_slots_2) (.cons (.ret (.var 2)) (.nil)))⟩
abbrev sf_law_value : Stmt := top 25
def f_law_value : Fn := ⟨["state", "pick"], ["state"], [true],
  .cons (.set 1 (.call "_law_draw" (.cons (.var 0) (.cons (.cst (.int 4)) (.nil))))) (.cons (.ifs (.cmp .Eq (.var 1) (.cst (.int 0))) (.cons (.ret (.bin .Sub (.call "_law_draw" (.cons (.var 0) (.cons (.cst (.int 101)) (.nil)))) (.cst (.int 50)))) (.nil)) (.nil)) (.cons (.ifs (.cmp .Eq (.var 1) (.cst (.int 1))) (.cons (.ret (.bin .Sub (.bin .Sub (.bin .Pow (.cst (.int 10)) (.cst (.int 40))) (.cst (.int 1))) (.call "_law_draw" (.cons (.var 0) (.cons (.cst (.int 3)) (.nil)))))) (.nil)) (.nil)) (.cons (.ifs (.cmp .Eq (.var 1) (.cst (.int 2))) (.cons (.ret (.bin .Sub (.cst (.int 0)) (.bin .Sub (.bin .Sub (.bin .Pow (.cst (.int 10)) (.cst (.int 40))) (.cst (.int 1))) (.call "_law_draw" (.cons (.var 0) (.cons (.cst (.int 3)) (.nil))))))) (.nil)) (.nil)) (.cons (.ret (.bin .Sub (.call "_law_draw" (.cons (.var 0) (.cons (.bin .Pow (.cst (.int 10)) (.cst (.int 9))) (.nil)))) (.bin .Mult (.cst (.int 5)) (.bin .Pow (.cst (.int 10)) (.cst (.int 8)))))) (.nil)))))⟩
abbrev sf_law_name : Stmt := top 26
def l_law_name_1 : ISs := .cons (.ifs (.cmp .In (.var 2) (.var 1)) (.cons (.set 2 (.bin .Add (.bin .Mod (.bi .int (.cons (.var 2) (.nil))) (.cst (.int 9999))) (.cst (.int 1)))) (.nil)) (.nil)) (.nil)
def f_law_name : Fn := ⟨["state", "used", "name", "k"], ["state", "used"], [true, true],
  .cons (.set 2 (.bin .Add (.cst (.int 1)) (.call "_law_draw" (.cons (.var 0) (.cons (.cst (.int 9999)) (.nil)))))) (.cons (.for (.name 3) (.rng (.cons (.bi .len (.cons (.var 1) (.nil))) (.nil))) l_law_name_1) (.cons (.ret (.var 2)) (.nil)))⟩
abbrev sf_law_next : Stmt := top 27
def f_law_next : Fn := ⟨["state", "used", "running", "pick", "name", "one", "many"], ["state", "used", "running"], [true, true, true],
  .cons (.set 3 (.call "_law_draw" (.cons (.var 0) (.cons (.cst (.int 12)) (.nil))))) (.cons (.ifs (.and (.cmp .Eq (.bi .len (.cons (.var 2) (.nil))) (.cst (.int 0))) (.chn .LtE .LtE (.cst (.int 3)) (.var 3) (.cst (.int 6)))) (.cons (.set 3 (.cst (.int 0))) (.nil)) (.nil)) (.cons (.ifs (.and (.cmp .Eq (.bi .len (.cons (.var 2) (.nil))) (.cst (.int 0))) (.chn .LtE .LtE (.cst (.int 7)) (.var 3) (.cst (.int 9)))) (.cons (.set 3 (.cst (.int 11))) (.nil)) (.nil)) (.cons (.ifs (.and (.cmp .GtE (.bi .len (.cons (.var 2) (.nil))) (.cst (.int 6))) (.cmp .Lt (.var 3) (.cst (.int 3)))) (.cons (.set 3 (.cst (.int 7))) (.nil)) (.nil)) (.cons (.ifs (.cmp .Lt (.var 3) (.cst (.int 3))) (.cons (.set 4 (.call "_law_name" (.cons (.var 0) (.cons (.var 1) (.nil))))) (.cons (.app 1 (.var 4)) (.cons (.appR 2 (.lst (.cons (.var 4) (.cons (.cst (.int 0)) (.nil))))) (.cons (.ret (.tup (.cons (.cst (.str "begin")) (.cons (.var 4) (.nil))))) (.nil))))) (.nil)) (.cons (.ifs (.cmp .Eq (.var 3) (.cst (.int 10))) (.cons (.ret (.tup (.cons (.cst (.str "note")) (.nil)))) (.nil)) (.nil)) (.cons (.ifs (.cmp .Eq (.var 3) (.cst (.int 11))) (.cons (.ret (.tup (.cons (.cst (.str "rest")) (.nil)))) (.nil)) (.nil)) (.cons (.ali 5 2 (.call "_law_draw" (.cons (.var 0) (.cons (.bi .len (.cons (.var 2) (.nil))) (.nil))))) (.cons (.ifs (.and (.cmp .Eq (.var 3) (.cst (.int 6))) (.cmp .Eq (.ix (.var 5) (.cst (.int 1))) (.cst (.int 0)))) (.cons (.set 3 (.cst (.int 5))) (.nil)) (.nil)) (.cons (.ifs (.cmp .Lt (.var 3) (.cst (.int 6))) (.cons (.setR 5 (.cst (.int 1)) (.bin .Add (.ix (.var 5) (.cst (.int 1))) (.cst (.int 1)))) (.cons (.ret (.tup (.cons (.cst (.str "change")) (.cons (.ix (.var 5) (.cst (.int 0))) (.cons (.call "_law_word" (.cons (.var 0) (.nil))) (.cons (.call "_law_value" (.cons (.var 0) (.nil))) (.nil))))))) (.nil))) (.nil)) (.cons (.ifs (.cmp .Eq (.var 3) (.cst (.int 6))) (.cons (.set 6 (.bin .Add (.cst (.int 1)) (.call "_law_draw" (.cons (.var 0) (.cons (.ix (.var 5) (.cst (.int 1))) (.nil)))))) (.cons (.setR 5 (.cst (.int 1)) (.bin .Sub (.ix (.var 5) (.cst (.int 1))) (.var 6))) (.cons (.ret (.tup (.cons (.cst (.str "undo")) (.cons (.ix (.var 5) (.cst (.int 0))) (.cons (.var 6) (.nil)))))) (.nil)))) (.nil)) (.cons (.rem 2 5) (.cons (.ret (.tup (.cons (.ix (.lst (.cons (.cst (.str "commit")) (.cons (.cst (.str "commit")) (.cons (.cst (.str "abort")) (.nil))))) (.bin .Sub (.var 3) (.cst (.int 7)))) (.cons (.ix (.var 5) (.cst (.int 0))) (.nil))))) (.nil)))))))))))))⟩
abbrev sf_law_records : Stmt := top 28
def l_law_records_1 : ISs := .cons (.app 4 (.call "_law_next" (.cons (.var 0) (.cons (.var 2) (.cons (.var 3) (.nil)))))) (.nil)
def f_law_records : Fn := ⟨["state", "count", "used", "running", "found", "k"], ["state", "count"], [true, false],
  .cons (.set 2 (.lst (.nil))) (.cons (.set 3 (.lst (.nil))) (.cons (.set 4 (.lst (.nil))) (.cons (.for (.name 5) (.rng (.cons (.var 1) (.nil))) l_law_records_1) (.cons (.ret (.var 4)) (.nil)))))⟩
abbrev sf_law_apart_rows : Stmt := top 29
def f_law_apart_rows : Fn := ⟨[], [], [],
  .cons (.ret (.lst (.cons (.tup (.cons (.cst (.str "save")) (.cons (.lst (.cons (.cst (.str "connect")) (.cons (.cst (.str "tell")) (.cons (.cst (.str "apply")) (.cons (.cst (.str "report")) (.cons (.cst (.str "halt")) (.cons (.cst (.str "log")) (.nil)))))))) (.nil)))) (.cons (.tup (.cons (.cst (.str "confirm")) (.cons (.lst (.cons (.cst (.str "tell")) (.cons (.cst (.str "apply")) (.cons (.cst (.str "halt")) (.cons (.cst (.str "strike")) (.nil)))))) (.nil)))) (.cons (.tup (.cons (.cst (.str "log")) (.cons (.lst (.cons (.cst (.str "connect")) (.cons (.cst (.str "apply")) (.cons (.cst (.str "report")) (.cons (.cst (.str "halt")) (.cons (.cst (.str "stop")) (.cons (.cst (.str "strike")) (.nil)))))))) (.nil)))) (.cons (.tup (.cons (.cst (.str "strike")) (.cons (.lst (.cons (.cst (.str "connect")) (.cons (.cst (.str "apply")) (.cons (.cst (.str "report")) (.cons (.cst (.str "halt")) (.cons (.cst (.str "stop")) (.nil))))))) (.nil)))) (.cons (.tup (.cons (.cst (.str "stop")) (.cons (.lst (.cons (.cst (.str "apply")) (.nil))) (.nil)))) (.nil)))))))) (.nil)⟩
abbrev sf_law_apart : Stmt := top 30
def l_law_apart_1 : ISs := .cons (.ifs (.or (.and (.cmp .Eq (.ix (.var 0) (.cst (.int 0))) (.ix (.var 3) (.cst (.int 0)))) (.cmp .In (.ix (.var 1) (.cst (.int 0))) (.ix (.var 3) (.cst (.int 1))))) (.and (.cmp .Eq (.ix (.var 1) (.cst (.int 0))) (.ix (.var 3) (.cst (.int 0)))) (.cmp .In (.ix (.var 0) (.cst (.int 0))) (.ix (.var 3) (.cst (.int 1)))))) (.cons (.ret (.cst (.bl true))) (.nil)) (.nil)) (.nil)
def f_law_apart : Fn := ⟨["first", "second", "shared", "row"], ["first", "second"], [false, false],
  .cons (.set 2 (.lst (.cons (.cst (.str "log")) (.cons (.cst (.str "stop")) (.cons (.cst (.str "strike")) (.nil)))))) (.cons (.ifs (.and (.cmp .NotIn (.ix (.var 0) (.cst (.int 0))) (.var 2)) (.and (.cmp .NotIn (.ix (.var 1) (.cst (.int 0))) (.var 2)) (.cmp .NotEq (.ix (.var 0) (.cst (.int 1))) (.ix (.var 1) (.cst (.int 1)))))) (.cons (.ret (.cst (.bl true))) (.nil)) (.nil)) (.cons (.for (.name 3) (.seq (.call "_law_apart_rows" (.nil))) l_law_apart_1) (.cons (.ret (.cst (.bl false))) (.nil))))⟩
abbrev sf_law_all_events : Stmt := top 31
def l_law_all_events_1 : ISs := .cons (.app 2 (.tup (.cons (.cst (.str "log")) (.cons (.var 5) (.nil))))) (.nil)
def l_law_all_events_2 : ISs := .cons (.app 2 (.tup (.cons (.var 4) (.cons (.var 3) (.nil))))) (.nil)
def l_law_all_events_3 : ISs := .cons (.for (.name 4) (.seq (.lst (.cons (.cst (.str "connect")) (.cons (.cst (.str "tell")) (.cons (.cst (.str "apply")) (.cons (.cst (.str "report")) (.cons (.cst (.str "confirm")) (.cons (.cst (.str "save")) (.cons (.cst (.str "halt")) (.nil)))))))))) l_law_all_events_2) (.nil)
def f_law_all_events : Fn := ⟨["state", "names", "events", "name", "word", "record"], ["state", "names"], [true, false],
  .cons (.set 2 (.lst (.nil))) (.cons (.for (.name 3) (.seq (.var 1)) l_law_all_events_3) (.cons (.for (.name 5) (.seq (.call "_law_records" (.cons (.var 0) (.cons (.cst (.int 2)) (.nil))))) l_law_all_events_1) (.cons (.app 2 (.tup (.cons (.cst (.str "log")) (.cons (.tup (.cons (.cst (.str "begin")) (.cons (.bin .Add (.cst (.int 10000)) (.call "_law_draw" (.cons (.var 0) (.cons (.cst (.int 9)) (.nil))))) (.nil)))) (.nil))))) (.cons (.app 2 (.tup (.cons (.cst (.str "log")) (.cons (.lst (.cons (.ix (.var 1) (.cst (.int 0))) (.nil))) (.nil))))) (.cons (.ret (.bin .Add (.var 2) (.lst (.cons (.tup (.cons (.cst (.str "stop")) (.nil))) (.cons (.tup (.cons (.cst (.str "strike")) (.nil))) (.nil)))))) (.nil))))))⟩
abbrev sf_law_bad_events : Stmt := top 32
def f_law_bad_events : Fn := ⟨["state", "name", "word", "sign", "spot", "spoilt", "rows"], ["state", "name"], [true, false],
  .cons (.set 2 (.ix (.lst (.cons (.cst (.str "connect")) (.cons (.cst (.str "tell")) (.cons (.cst (.str "apply")) (.cons (.cst (.str "report")) (.cons (.cst (.str "confirm")) (.cons (.cst (.str "save")) (.cons (.cst (.str "halt")) (.nil))))))))) (.call "_law_draw" (.cons (.var 0) (.cons (.cst (.int 7)) (.nil)))))) (.cons (.set 3 (.ix (.cst (.str "ABZ09 -:")) (.call "_law_draw" (.cons (.var 0) (.cons (.cst (.int 8)) (.nil)))))) (.cons (.set 4 (.call "_law_draw" (.cons (.var 0) (.cons (.bin .Add (.bi .len (.cons (.var 1) (.nil))) (.cst (.int 1))) (.nil))))) (.cons (.set 5 (.bin .Add (.bin .Add (.slc (.var 1) .no (.yes (.var 4))) (.var 3)) (.slc (.var 1) (.yes (.var 4)) .no))) (.cons (.set 6 (.lst (.cons (.tup (.nil)) (.cons (.tup (.cons (.var 2) (.nil))) (.cons (.tup (.cons (.var 2) (.cons (.var 1) (.cons (.var 1) (.nil))))) (.cons (.tup (.cons (.var 2) (.cons (.var 5) (.nil)))) (.cons (.tup (.cons (.var 2) (.cons (.cst (.str "")) (.nil)))) (.cons (.tup (.cons (.var 2) (.cons (.bin .Add (.var 1) (.cst (.str "abcdefgh"))) (.nil)))) (.cons (.tup (.cons (.var 2) (.cons (.cst (.int 3)) (.nil)))) (.nil)))))))))) (.cons (.set 6 (.bin .Add (.var 6) (.lst (.cons (.tup (.cons (.var 2) (.cons (.cst (.non)) (.nil)))) (.cons (.tup (.cons (.var 2) (.cons (.cst (.bl true)) (.nil)))) (.cons (.tup (.cons (.var 2) (.cons (.tup (.cons (.var 1) (.nil))) (.nil)))) (.cons (.lst (.cons (.var 2) (.cons (.var 1) (.nil)))) (.cons (.lst (.nil)) (.cons (.var 2) (.cons (.bin .Add (.bin .Add (.var 2) (.cst (.str " "))) (.var 1)) (.cons (.cst (.non)) (.cons (.cst (.int 7)) (.cons (.cst (.bl true)) (.nil)))))))))))))) (.cons (.set 6 (.bin .Add (.var 6) (.lst (.cons (.tup (.cons (.cst (.str "stop")) (.cons (.var 1) (.nil)))) (.cons (.tup (.cons (.cst (.str "strike")) (.cons (.var 1) (.nil)))) (.cons (.tup (.cons (.cst (.str "stop")) (.cons (.tup (.cons (.cst (.str "note")) (.nil))) (.nil)))) (.cons (.tup (.cons (.cst (.str "log")) (.nil))) (.cons (.tup (.cons (.cst (.str "log")) (.cons (.tup (.cons (.cst (.str "note")) (.nil))) (.cons (.tup (.cons (.cst (.str "note")) (.nil))) (.nil))))) (.nil))))))))) (.cons (.ret (.bin .Add (.var 6) (.lst (.cons (.tup (.cons (.cst (.str "jump")) (.cons (.var 1) (.nil)))) (.cons (.tup (.cons (.bin .Add (.slc (.var 1) .no (.yes (.cst (.int 1)))) (.var 2)) (.cons (.var 1) (.nil)))) (.cons (.tup (.cons (.bin .Add (.var 2) (.cst (.str " "))) (.cons (.var 1) (.nil)))) (.cons (.tup (.cons (.cst (.str "")) (.cons (.var 1) (.nil)))) (.cons (.tup (.cons (.cst (.non)) (.nil))) (.cons (.tup (.cons (.cst (.int 5)) (.cons (.var 1) (.nil)))) (.cons (.tup (.cons (.tup (.cons (.var 2) (.cons (.var 1) (.nil)))) (.nil))) (.nil))))))))))) (.nil))))))))⟩
abbrev sf_law_refused : Stmt := top 33
def f_law_refused : Fn := ⟨["first", "second", "due", "e"], ["first", "second", "due"], [false, false, false],
  .cons (.try_ (.cons (.exp (.call "apart" (.cons (.var 0) (.cons (.var 1) (.nil))))) (.nil)) "BadEvent" 3 (.cons (.ifs (.or (.xis 3 "BadRecord") (.xis 3 "NoSlot")) (.cons (.ret (.cst (.bl false))) (.nil)) (.nil)) (.cons (.ret (.and (.xis 3 "SlotError") (.call "_law_same" (.cons (.xfd 3 "event") (.cons (.var 2) (.nil)))))) (.nil)))) (.cons (.ret (.cst (.bl false))) (.nil))⟩
abbrev sf_law_table_kept : Stmt := top 34
def l_law_table_kept_1 : ISs := .cons (.ifs (.not (.call "_law_same" (.cons (.call "apart" (.cons (.var 1) (.cons (.var 2) (.nil)))) (.cons (.call "_law_apart" (.cons (.var 1) (.cons (.var 2) (.nil)))) (.nil))))) (.cons (.ret (.cst (.bl false))) (.nil)) (.nil)) (.nil)
def l_law_table_kept_2 : ISs := .cons (.for (.name 2) (.seq (.var 0)) l_law_table_kept_1) (.nil)
def f_law_table_kept : Fn := ⟨["events", "first", "second"], ["events"], [false],
  .cons (.for (.name 1) (.seq (.var 0)) l_law_table_kept_2) (.cons (.ret (.cst (.bl true))) (.nil))⟩
abbrev sf_law : Stmt := top 35
def l_law_1 : ISs := .cons (.set 9 (.ix (.var 6) (.bin .Mod (.bi .int (.cons (.bin .Add (.var 8) (.var 7)) (.nil))) (.bi .len (.cons (.var 6) (.nil)))))) (.cons (.ifs (.or (.not (.call "_law_refused" (.cons (.ix (.var 6) (.var 8)) (.cons (.var 4) (.cons (.ix (.var 6) (.var 8)) (.nil)))))) (.not (.call "_law_refused" (.cons (.var 4) (.cons (.ix (.var 6) (.var 8)) (.cons (.ix (.var 6) (.var 8)) (.nil))))))) (.cons (.ret (.cst (.bl false))) (.nil)) (.nil)) (.cons (.ifs (.not (.call "_law_refused" (.cons (.ix (.var 6) (.var 8)) (.cons (.var 9) (.cons (.ix (.var 6) (.var 8)) (.nil)))))) (.cons (.ret (.cst (.bl false))) (.nil)) (.nil)) (.cons (.ifs (.not (.call "_law_same" (.cons (.call "apart" (.cons (.var 4) (.cons (.var 5) (.nil)))) (.cons (.call "_law_apart" (.cons (.var 4) (.cons (.var 5) (.nil)))) (.nil))))) (.cons (.ret (.cst (.bl false))) (.nil)) (.nil)) (.nil))))
def f_law : Fn := ⟨["script", "state", "names", "events", "good", "other", "rows", "step", "k", "rival"], ["script"], [false],
  .cons (.set 1 (.call "_law_start" (.cons (.var 0) (.nil)))) (.cons (.set 2 (.call "_law_slots" (.cons (.var 1) (.cons (.cst (.int 2)) (.nil))))) (.cons (.set 3 (.call "_law_all_events" (.cons (.var 1) (.cons (.var 2) (.nil))))) (.cons (.ifs (.not (.call "_law_table_kept" (.cons (.var 3) (.nil)))) (.cons (.ret (.cst (.bl false))) (.nil)) (.nil)) (.cons (.set 4 (.ix (.var 3) (.call "_law_draw" (.cons (.var 1) (.cons (.bi .len (.cons (.var 3) (.nil))) (.nil)))))) (.cons (.set 5 (.ix (.var 3) (.call "_law_draw" (.cons (.var 1) (.cons (.bi .len (.cons (.var 3) (.nil))) (.nil)))))) (.cons (.set 6 (.call "_law_bad_events" (.cons (.var 1) (.cons (.ix (.var 2) (.call "_law_draw" (.cons (.var 1) (.cons (.cst (.int 2)) (.nil))))) (.nil))))) (.cons (.set 7 (.bin .Add (.cst (.int 1)) (.call "_law_draw" (.cons (.var 1) (.cons (.bin .Sub (.bi .len (.cons (.var 6) (.nil))) (.cst (.int 1))) (.nil)))))) (.cons (.for (.name 8) (.rng (.cons (.bi .len (.cons (.var 6) (.nil))) (.nil))) l_law_1) (.cons (.ret (.cst (.bl true))) (.nil))))))))))⟩
def fnL : List (Str × Fn) := [("is_word", f_is_word), ("is_event", f_is_event), ("check_event", f_check_event), ("events_apart", f_events_apart), ("apart", f_apart), ("_law_same", f_law_same), ("_law_start", f_law_start), ("_law_mixed", f_law_mixed), ("_law_draw", f_law_draw), ("_law_word", f_law_word), ("_law_slots", f_law_slots), ("_law_value", f_law_value), ("_law_name", f_law_name), ("_law_next", f_law_next), ("_law_records", f_law_records), ("_law_apart_rows", f_law_apart_rows), ("_law_apart", f_law_apart), ("_law_all_events", f_law_all_events), ("_law_bad_events", f_law_bad_events), ("_law_refused", f_law_refused), ("_law_table_kept", f_law_table_kept), ("law", f_law)]
def cstL : List (Str × D) := [("KEY_LENGTH", .int 8), ("LETTERS", .str "abcdefghijklmnopqrstuvwxyz"), ("SLOT_WORDS", .tup [.str "connect", .str "tell", .str "apply", .str "report", .str "confirm", .str "save", .str "halt"]), ("SHARED", .tup [.str "log", .str "stop", .str "strike"])]
def dicL : List Str := ["APART"]
def tabL : List (List (Str × D)) := [[("connect", .tup [.str "save", .str "log", .str "strike"]), ("tell", .tup [.str "confirm", .str "save"]), ("apply", .tup [.str "confirm", .str "save", .str "log", .str "stop", .str "strike"]), ("report", .tup [.str "save", .str "log", .str "strike"]), ("confirm", .tup [.str "tell", .str "apply", .str "halt", .str "strike"]), ("save", .tup [.str "connect", .str "tell", .str "apply", .str "report", .str "halt", .str "log"]), ("halt", .tup [.str "confirm", .str "save", .str "log", .str "strike"]), ("log", .tup [.str "connect", .str "apply", .str "report", .str "save", .str "halt", .str "stop", .str "strike"]), ("strike", .tup [.str "connect", .str "apply", .str "report", .str "confirm", .str "halt", .str "log", .str "stop"]), ("stop", .tup [.str "apply", .str "log", .str "strike"])]]
def errL : List (Str × Str) := [("BadRecord", "record"), ("NoSlot", "name"), ("BadEvent", "event")]
def exmL : List ((Str × Str) × Bool) := [(("BadEvent", "BadEvent"), true)]
def xisL : List ((Str × Str) × Bool) := [(("BadEvent", "BadRecord"), false), (("BadEvent", "NoSlot"), false), (("BadEvent", "SlotError"), true)]
def catL : List Str := ["BadEvent"]
def hotL : List Str := ["_law_same"]
def L : Lw := ⟨fnL, cstL, dicL, tabL, errL, exmL, xisL, catL, hotL, ["running"], ["one"]⟩
abbrev T : Tb := L.tb
theorem bf_is_word : f_is_word.body = cSs T f_is_word.N (defScope sf_is_word) 40 false (defBody sf_is_word) := by kernel_rfl
theorem scf_is_word : FnScope f_is_word.N f_is_word.ps (defScope sf_is_word) := ⟨rfl, rfl, rfl, by decide +kernel, rfl, by decide +kernel, by decide +kernel⟩
theorem bf_is_event : f_is_event.body = cSs T f_is_event.N (defScope sf_is_event) 40 false (defBody sf_is_event) := by kernel_rfl
theorem scf_is_event : FnScope f_is_event.N f_is_event.ps (defScope sf_is_event) := ⟨rfl, rfl, rfl, by decide +kernel, rfl, by decide +kernel, by decide +kernel⟩
theorem bf_check_event : f_check_event.body = cSs T f_check_event.N (defScope sf_check_event) 40 false (defBody sf_check_event) := by kernel_rfl
theorem scf_check_event : FnScope f_check_event.N f_check_event.ps (defScope sf_check_event) := ⟨rfl, rfl, rfl, by decide +kernel, rfl, by decide +kernel, by decide +kernel⟩
theorem bf_events_apart : f_events_apart.body = cSs T f_events_apart.N (defScope sf_events_apart) 40 false (defBody sf_events_apart) := by kernel_rfl
theorem scf_events_apart : FnScope f_events_apart.N f_events_apart.ps (defScope sf_events_apart) := ⟨rfl, rfl, rfl, by decide +kernel, rfl, by decide +kernel, by decide +kernel⟩
theorem bf_apart : f_apart.body = cSs T f_apart.N (defScope sf_apart) 40 false (defBody sf_apart) := by kernel_rfl
theorem scf_apart : FnScope f_apart.N f_apart.ps (defScope sf_apart) := ⟨rfl, rfl, rfl, by decide +kernel, rfl, by decide +kernel, by decide +kernel⟩
theorem bf_law_same : f_law_same.body = cSs T f_law_same.N (defScope sf_law_same) 40 false (defBody sf_law_same) := by kernel_rfl
theorem hf_law_same : f_law_same.body = cSs T f_law_same.N (defScope sf_law_same) 40 true (defBody sf_law_same) := by kernel_rfl
theorem scf_law_same : FnScope f_law_same.N f_law_same.ps (defScope sf_law_same) := ⟨rfl, rfl, rfl, by decide +kernel, rfl, by decide +kernel, by decide +kernel⟩
theorem bf_law_start : f_law_start.body = cSs T f_law_start.N (defScope sf_law_start) 40 false (defBody sf_law_start) := by kernel_rfl
theorem scf_law_start : FnScope f_law_start.N f_law_start.ps (defScope sf_law_start) := ⟨rfl, rfl, rfl, by decide +kernel, rfl, by decide +kernel, by decide +kernel⟩
theorem bf_law_mixed : f_law_mixed.body = cSs T f_law_mixed.N (defScope sf_law_mixed) 40 false (defBody sf_law_mixed) := by kernel_rfl
theorem scf_law_mixed : FnScope f_law_mixed.N f_law_mixed.ps (defScope sf_law_mixed) := ⟨rfl, rfl, rfl, by decide +kernel, rfl, by decide +kernel, by decide +kernel⟩
theorem bf_law_draw : f_law_draw.body = cSs T f_law_draw.N (defScope sf_law_draw) 40 false (defBody sf_law_draw) := by kernel_rfl
theorem scf_law_draw : FnScope f_law_draw.N f_law_draw.ps (defScope sf_law_draw) := ⟨rfl, rfl, rfl, by decide +kernel, rfl, by decide +kernel, by decide +kernel⟩
theorem bf_law_word : f_law_word.body = cSs T f_law_word.N (defScope sf_law_word) 40 false (defBody sf_law_word) := by kernel_rfl
theorem scf_law_word : FnScope f_law_word.N f_law_word.ps (defScope sf_law_word) := ⟨rfl, rfl, rfl, by decide +kernel, rfl, by decide +kernel, by decide +kernel⟩
theorem bf_law_slots : f_law_slots.body = cSs T f_law_slots.N (defScope sf_law_slots) 40 false (defBody sf_law_slots) := by kernel_rfl
theorem scf_law_slots : FnScope f_law_slots.N f_law_slots.ps (defScope sf_law_slots) := ⟨rfl, rfl, rfl, by decide +kernel, rfl, by decide +kernel, by decide +kernel⟩
theorem bf_law_value : f_law_value.body = cSs T f_law_value.N (defScope sf_law_value) 40 false (defBody sf_law_value) := by kernel_rfl
theorem scf_law_value : FnScope f_law_value.N f_law_value.ps (defScope sf_law_value) := ⟨rfl, rfl, rfl, by decide +kernel, rfl, by decide +kernel, by decide +kernel⟩
theorem bf_law_name : f_law_name.body = cSs T f_law_name.N (defScope sf_law_name) 40 false (defBody sf_law_name) := by kernel_rfl
theorem scf_law_name : FnScope f_law_name.N f_law_name.ps (defScope sf_law_name) := ⟨rfl, rfl, rfl, by decide +kernel, rfl, by decide +kernel, by decide +kernel⟩
theorem bf_law_next : f_law_next.body = cSs T f_law_next.N (defScope sf_law_next) 40 false (defBody sf_law_next) := by kernel_rfl
theorem scf_law_next : FnScope f_law_next.N f_law_next.ps (defScope sf_law_next) := ⟨rfl, rfl, rfl, by decide +kernel, rfl, by decide +kernel, by decide +kernel⟩
theorem bf_law_records : f_law_records.body = cSs T f_law_records.N (defScope sf_law_records) 40 false (defBody sf_law_records) := by kernel_rfl
theorem scf_law_records : FnScope f_law_records.N f_law_records.ps (defScope sf_law_records) := ⟨rfl, rfl, rfl, by decide +kernel, rfl, by decide +kernel, by decide +kernel⟩
theorem bf_law_apart_rows : f_law_apart_rows.body = cSs T f_law_apart_rows.N (defScope sf_law_apart_rows) 40 false (defBody sf_law_apart_rows) := by kernel_rfl
theorem scf_law_apart_rows : FnScope f_law_apart_rows.N f_law_apart_rows.ps (defScope sf_law_apart_rows) := ⟨rfl, rfl, rfl, by decide +kernel, rfl, by decide +kernel, by decide +kernel⟩
theorem bf_law_apart : f_law_apart.body = cSs T f_law_apart.N (defScope sf_law_apart) 40 false (defBody sf_law_apart) := by kernel_rfl
theorem scf_law_apart : FnScope f_law_apart.N f_law_apart.ps (defScope sf_law_apart) := ⟨rfl, rfl, rfl, by decide +kernel, rfl, by decide +kernel, by decide +kernel⟩
theorem bf_law_all_events : f_law_all_events.body = cSs T f_law_all_events.N (defScope sf_law_all_events) 40 false (defBody sf_law_all_events) := by kernel_rfl
theorem scf_law_all_events : FnScope f_law_all_events.N f_law_all_events.ps (defScope sf_law_all_events) := ⟨rfl, rfl, rfl, by decide +kernel, rfl, by decide +kernel, by decide +kernel⟩
theorem bf_law_bad_events : f_law_bad_events.body = cSs T f_law_bad_events.N (defScope sf_law_bad_events) 40 false (defBody sf_law_bad_events) := by kernel_rfl
theorem scf_law_bad_events : FnScope f_law_bad_events.N f_law_bad_events.ps (defScope sf_law_bad_events) := ⟨rfl, rfl, rfl, by decide +kernel, rfl, by decide +kernel, by decide +kernel⟩
theorem bf_law_refused : f_law_refused.body = cSs T f_law_refused.N (defScope sf_law_refused) 40 false (defBody sf_law_refused) := by kernel_rfl
theorem scf_law_refused : FnScope f_law_refused.N f_law_refused.ps (defScope sf_law_refused) := ⟨rfl, rfl, rfl, by decide +kernel, rfl, by decide +kernel, by decide +kernel⟩
theorem bf_law_table_kept : f_law_table_kept.body = cSs T f_law_table_kept.N (defScope sf_law_table_kept) 40 false (defBody sf_law_table_kept) := by kernel_rfl
theorem scf_law_table_kept : FnScope f_law_table_kept.N f_law_table_kept.ps (defScope sf_law_table_kept) := ⟨rfl, rfl, rfl, by decide +kernel, rfl, by decide +kernel, by decide +kernel⟩
theorem bf_law : f_law.body = cSs T f_law.N (defScope sf_law) 40 false (defBody sf_law) := by kernel_rfl
theorem scf_law : FnScope f_law.N f_law.ps (defScope sf_law) := ⟨rfl, rfl, rfl, by decide +kernel, rfl, by decide +kernel, by decide +kernel⟩
def df_is_word : He5.DefA := ⟨fun K => He.ga K "is_word", "is_word", "is_word", defArgs sf_is_word, defBody sf_is_word, defScope sf_is_word, [], []⟩
def df_is_event : He5.DefA := ⟨fun K => He.ga K "is_event", "is_event", "is_event", defArgs sf_is_event, defBody sf_is_event, defScope sf_is_event, [], []⟩
def df_check_event : He5.DefA := ⟨fun K => He.ga K "check_event", "check_event", "check_event", defArgs sf_check_event, defBody sf_check_event, defScope sf_check_event, [], []⟩
def df_events_apart : He5.DefA := ⟨fun K => He.ga K "events_apart", "events_apart", "events_apart", defArgs sf_events_apart, defBody sf_events_apart, defScope sf_events_apart, [], []⟩
def df_apart : He5.DefA := ⟨fun K => He.ga K "apart", "apart", "apart", defArgs sf_apart, defBody sf_apart, defScope sf_apart, [], []⟩
def df_law_same : He5.DefA := ⟨fun K => He.ga K "_law_same", "_law_same", "_law_same", defArgs sf_law_same, defBody sf_law_same, defScope sf_law_same, [], []⟩
def df_law_start : He5.DefA := ⟨fun K => He.ga K "_law_start", "_law_start", "_law_start", defArgs sf_law_start, defBody sf_law_start, defScope sf_law_start, [], []⟩
def df_law_mixed : He5.DefA := ⟨fun K => He.ga K "_law_mixed", "_law_mixed", "_law_mixed", defArgs sf_law_mixed, defBody sf_law_mixed, defScope sf_law_mixed, [], []⟩
def df_law_draw : He5.DefA := ⟨fun K => He.ga K "_law_draw", "_law_draw", "_law_draw", defArgs sf_law_draw, defBody sf_law_draw, defScope sf_law_draw, [], []⟩
def df_law_word : He5.DefA := ⟨fun K => He.ga K "_law_word", "_law_word", "_law_word", defArgs sf_law_word, defBody sf_law_word, defScope sf_law_word, [], []⟩
def df_law_slots : He5.DefA := ⟨fun K => He.ga K "_law_slots", "_law_slots", "_law_slots", defArgs sf_law_slots, defBody sf_law_slots, defScope sf_law_slots, [], []⟩
def df_law_value : He5.DefA := ⟨fun K => He.ga K "_law_value", "_law_value", "_law_value", defArgs sf_law_value, defBody sf_law_value, defScope sf_law_value, [], []⟩
def df_law_name : He5.DefA := ⟨fun K => He.ga K "_law_name", "_law_name", "_law_name", defArgs sf_law_name, defBody sf_law_name, defScope sf_law_name, [], []⟩
def df_law_next : He5.DefA := ⟨fun K => He.ga K "_law_next", "_law_next", "_law_next", defArgs sf_law_next, defBody sf_law_next, defScope sf_law_next, [], []⟩
def df_law_records : He5.DefA := ⟨fun K => He.ga K "_law_records", "_law_records", "_law_records", defArgs sf_law_records, defBody sf_law_records, defScope sf_law_records, [], []⟩
def df_law_apart_rows : He5.DefA := ⟨fun K => He.ga K "_law_apart_rows", "_law_apart_rows", "_law_apart_rows", defArgs sf_law_apart_rows, defBody sf_law_apart_rows, defScope sf_law_apart_rows, [], []⟩
def df_law_apart : He5.DefA := ⟨fun K => He.ga K "_law_apart", "_law_apart", "_law_apart", defArgs sf_law_apart, defBody sf_law_apart, defScope sf_law_apart, [], []⟩
def df_law_all_events : He5.DefA := ⟨fun K => He.ga K "_law_all_events", "_law_all_events", "_law_all_events", defArgs sf_law_all_events, defBody sf_law_all_events, defScope sf_law_all_events, [], []⟩
def df_law_bad_events : He5.DefA := ⟨fun K => He.ga K "_law_bad_events", "_law_bad_events", "_law_bad_events", defArgs sf_law_bad_events, defBody sf_law_bad_events, defScope sf_law_bad_events, [], []⟩
def df_law_refused : He5.DefA := ⟨fun K => He.ga K "_law_refused", "_law_refused", "_law_refused", defArgs sf_law_refused, defBody sf_law_refused, defScope sf_law_refused, [], []⟩
def df_law_table_kept : He5.DefA := ⟨fun K => He.ga K "_law_table_kept", "_law_table_kept", "_law_table_kept", defArgs sf_law_table_kept, defBody sf_law_table_kept, defScope sf_law_table_kept, [], []⟩
def df_law : He5.DefA := ⟨fun K => He.ga K "law", "law", "law", defArgs sf_law, defBody sf_law, defScope sf_law, [], []⟩
def dL : List He5.DefA := [df_is_word, df_is_event, df_check_event, df_events_apart, df_apart, df_law_same, df_law_start, df_law_mixed, df_law_draw, df_law_word, df_law_slots, df_law_value, df_law_name, df_law_next, df_law_records, df_law_apart_rows, df_law_apart, df_law_all_events, df_law_bad_events, df_law_refused, df_law_table_kept, df_law]
abbrev i_BadRecord : Stmt := (bodyC (top 2)).getD 0 (.Pass ⟨0, 0, 0, 0⟩)
def e_BadRecord : ErS := ⟨"BadRecord", "record", "BadRecord.__init__", defArgs i_BadRecord, defBody i_BadRecord, defScope i_BadRecord⟩
abbrev i_NoSlot : Stmt := (bodyC (top 3)).getD 0 (.Pass ⟨0, 0, 0, 0⟩)
def e_NoSlot : ErS := ⟨"NoSlot", "name", "NoSlot.__init__", defArgs i_NoSlot, defBody i_NoSlot, defScope i_NoSlot⟩
abbrev i_BadEvent : Stmt := (bodyC (top 4)).getD 0 (.Pass ⟨0, 0, 0, 0⟩)
def e_BadEvent : ErS := ⟨"BadEvent", "event", "BadEvent.__init__", defArgs i_BadEvent, defBody i_BadEvent, defScope i_BadEvent⟩
def eL : List ErS := [e_BadRecord, e_NoSlot, e_BadEvent]
end Law

set_option Elab.async false
set_option linter.all false
set_option maxRecDepth 100000
set_option maxHeartbeats 0
/-! the head's run (printed by mklaw.py) -/
namespace Law
open PySem PySem.Spec PyProof.Rows L2 Pw
def file : Str := PySem.Challenge.pw_slotlag_k72_apart_events.main.file
abbrev SN : Pw.Seen := L.seen dL eL file
def names : List PySem.Str := (["SlotError", "BadRecord", "NoSlot", "BadEvent", "KEY_LENGTH", "LETTERS", "is_word", "SLOT_WORDS", "is_event", "check_event", "APART", "SHARED", "events_apart", "apart", "_law_same", "_law_start", "_law_mixed", "_law_draw", "_law_word", "_law_slots", "_law_value", "_law_name", "_law_next", "_law_records", "_law_apart_rows", "_law_apart", "_law_all_events", "_law_bad_events", "_law_refused", "_law_table_kept"] : List PySem.Str)
abbrev hk : PySem.W.Hook := SN.hook 5
def ob (s : PySem.W.SharedT) : Pw.AlP := SN.obsG 5 (HandSHeadRun.getT s)
theorem ob_eq (s : PySem.W.SharedT) : ob s = hk.obs s.abs := Pw.Seen.obsG_eq (HandSHeadRun.getT_eq s)
theorem run (w : World) : HandSHeadRun.RunEq R (PySem.W.view R.prog [35]) hk ob 20000 names w :=
  PySem.W.byRow2 "special-get-raises" (P := fun w => HandSHeadRun.RunEq R (PySem.W.view R.prog [35]) hk ob 20000 names w) (fun w os => by kernel_rfl) (fun w os => by kernel_rfl) w
end Law

set_option Elab.async false
set_option linter.all false
set_option maxRecDepth 100000
set_option maxHeartbeats 0
/-! the law's Base (printed by mklaw.py) -/
namespace Law
open PySem PySem.Spec PyProof.Rows L2 Pw
def Q (K : PySem.W.Frag) (f : Str) (F : Fn) : Prop := ∃ d ∈ dL, d.at_ K = He.ga K f ∧ d.name = f ∧ d.dfl = [] ∧ d.kwd = [] ∧ FnScope F.N F.ps d.scope ∧ (∃ n, F.body = cSs T F.N d.scope n false d.body ∧ (L.hotL.contains f = true → F.body = cSs T F.N d.scope n true d.body)) ∧
  ∀ (kV doc pm : Value) (an : Option Addr) (cdv ct : Value) (us : List Value), us.length = F.ps.length → bindArgs (PySem.W.fnOf f d.qual d.params d.body d.scope .none kV doc pm an cdv ct) ⟨us, []⟩ = pure (F.ps.zip us)
theorem zf_is_word (K : PySem.W.Frag) : Q K "is_word" f_is_word := ⟨df_is_word, by simp [dL], rfl, rfl, rfl, rfl, scf_is_word, ⟨40, bf_is_word, fun h => absurd h (by decide +kernel)⟩, fun kV doc pm an cdv ct us hu => by
  match us, hu with
  | [u0], _ => rfl⟩
theorem zf_is_event (K : PySem.W.Frag) : Q K "is_event" f_is_event := ⟨df_is_event, by simp [dL], rfl, rfl, rfl, rfl, scf_is_event, ⟨40, bf_is_event, fun h => absurd h (by decide +kernel)⟩, fun kV doc pm an cdv ct us hu => by
  match us, hu with
  | [u0], _ => rfl⟩
theorem zf_check_event (K : PySem.W.Frag) : Q K "check_event" f_check_event := ⟨df_check_event, by simp [dL], rfl, rfl, rfl, rfl, scf_check_event, ⟨40, bf_check_event, fun h => absurd h (by decide +kernel)⟩, fun kV doc pm an cdv ct us hu => by
  match us, hu with
  | [u0], _ => rfl⟩
theorem zf_events_apart (K : PySem.W.Frag) : Q K "events_apart" f_events_apart := ⟨df_events_apart, by simp [dL], rfl, rfl, rfl, rfl, scf_events_apart, ⟨40, bf_events_apart, fun h => absurd h (by decide +kernel)⟩, fun kV doc pm an cdv ct us hu => by
  match us, hu with
  | [u0, u1], _ => rfl⟩
theorem zf_apart (K : PySem.W.Frag) : Q K "apart" f_apart := ⟨df_apart, by simp [dL], rfl, rfl, rfl, rfl, scf_apart, ⟨40, bf_apart, fun h => absurd h (by decide +kernel)⟩, fun kV doc pm an cdv ct us hu => by
  match us, hu with
  | [u0, u1], _ => rfl⟩
theorem zf_law_same (K : PySem.W.Frag) : Q K "_law_same" f_law_same := ⟨df_law_same, by simp [dL], rfl, rfl, rfl, rfl, scf_law_same, ⟨40, bf_law_same, fun _ => hf_law_same⟩, fun kV doc pm an cdv ct us hu => by
  match us, hu with
  | [u0, u1], _ => rfl⟩
theorem zf_law_start (K : PySem.W.Frag) : Q K "_law_start" f_law_start := ⟨df_law_start, by simp [dL], rfl, rfl, rfl, rfl, scf_law_start, ⟨40, bf_law_start, fun h => absurd h (by decide +kernel)⟩, fun kV doc pm an cdv ct us hu => by
  match us, hu with
  | [u0], _ => rfl⟩
theorem zf_law_mixed (K : PySem.W.Frag) : Q K "_law_mixed" f_law_mixed := ⟨df_law_mixed, by simp [dL], rfl, rfl, rfl, rfl, scf_law_mixed, ⟨40, bf_law_mixed, fun h => absurd h (by decide +kernel)⟩, fun kV doc pm an cdv ct us hu => by
  match us, hu with
  | [u0, u1, u2], _ => rfl⟩
theorem zf_law_draw (K : PySem.W.Frag) : Q K "_law_draw" f_law_draw := ⟨df_law_draw, by simp [dL], rfl, rfl, rfl, rfl, scf_law_draw, ⟨40, bf_law_draw, fun h => absurd h (by decide +kernel)⟩, fun kV doc pm an cdv ct us hu => by
  match us, hu with
  | [u0, u1], _ => rfl⟩
theorem zf_law_word (K : PySem.W.Frag) : Q K "_law_word" f_law_word := ⟨df_law_word, by simp [dL], rfl, rfl, rfl, rfl, scf_law_word, ⟨40, bf_law_word, fun h => absurd h (by decide +kernel)⟩, fun kV doc pm an cdv ct us hu => by
  match us, hu with
  | [u0], _ => rfl⟩
theorem zf_law_slots (K : PySem.W.Frag) : Q K "_law_slots" f_law_slots := ⟨df_law_slots, by simp [dL], rfl, rfl, rfl, rfl, scf_law_slots, ⟨40, bf_law_slots, fun h => absurd h (by decide +kernel)⟩, fun kV doc pm an cdv ct us hu => by
  match us, hu with
  | [u0, u1], _ => rfl⟩
theorem zf_law_value (K : PySem.W.Frag) : Q K "_law_value" f_law_value := ⟨df_law_value, by simp [dL], rfl, rfl, rfl, rfl, scf_law_value, ⟨40, bf_law_value, fun h => absurd h (by decide +kernel)⟩, fun kV doc pm an cdv ct us hu => by
  match us, hu with
  | [u0], _ => rfl⟩
theorem zf_law_name (K : PySem.W.Frag) : Q K "_law_name" f_law_name := ⟨df_law_name, by simp [dL], rfl, rfl, rfl, rfl, scf_law_name, ⟨40, bf_law_name, fun h => absurd h (by decide +kernel)⟩, fun kV doc pm an cdv ct us hu => by
  match us, hu with
  | [u0, u1], _ => rfl⟩
theorem zf_law_next (K : PySem.W.Frag) : Q K "_law_next" f_law_next := ⟨df_law_next, by simp [dL], rfl, rfl, rfl, rfl, scf_law_next, ⟨40, bf_law_next, fun h => absurd h (by decide +kernel)⟩, fun kV doc pm an cdv ct us hu => by
  match us, hu with
  | [u0, u1, u2], _ => rfl⟩
theorem zf_law_records (K : PySem.W.Frag) : Q K "_law_records" f_law_records := ⟨df_law_records, by simp [dL], rfl, rfl, rfl, rfl, scf_law_records, ⟨40, bf_law_records, fun h => absurd h (by decide +kernel)⟩, fun kV doc pm an cdv ct us hu => by
  match us, hu with
  | [u0, u1], _ => rfl⟩
theorem zf_law_apart_rows (K : PySem.W.Frag) : Q K "_law_apart_rows" f_law_apart_rows := ⟨df_law_apart_rows, by simp [dL], rfl, rfl, rfl, rfl, scf_law_apart_rows, ⟨40, bf_law_apart_rows, fun h => absurd h (by decide +kernel)⟩, fun kV doc pm an cdv ct us hu => by
  match us, hu with
  | [], _ => rfl⟩
theorem zf_law_apart (K : PySem.W.Frag) : Q K "_law_apart" f_law_apart := ⟨df_law_apart, by simp [dL], rfl, rfl, rfl, rfl, scf_law_apart, ⟨40, bf_law_apart, fun h => absurd h (by decide +kernel)⟩, fun kV doc pm an cdv ct us hu => by
  match us, hu with
  | [u0, u1], _ => rfl⟩
theorem zf_law_all_events (K : PySem.W.Frag) : Q K "_law_all_events" f_law_all_events := ⟨df_law_all_events, by simp [dL], rfl, rfl, rfl, rfl, scf_law_all_events, ⟨40, bf_law_all_events, fun h => absurd h (by decide +kernel)⟩, fun kV doc pm an cdv ct us hu => by
  match us, hu with
  | [u0, u1], _ => rfl⟩
theorem zf_law_bad_events (K : PySem.W.Frag) : Q K "_law_bad_events" f_law_bad_events := ⟨df_law_bad_events, by simp [dL], rfl, rfl, rfl, rfl, scf_law_bad_events, ⟨40, bf_law_bad_events, fun h => absurd h (by decide +kernel)⟩, fun kV doc pm an cdv ct us hu => by
  match us, hu with
  | [u0, u1], _ => rfl⟩
theorem zf_law_refused (K : PySem.W.Frag) : Q K "_law_refused" f_law_refused := ⟨df_law_refused, by simp [dL], rfl, rfl, rfl, rfl, scf_law_refused, ⟨40, bf_law_refused, fun h => absurd h (by decide +kernel)⟩, fun kV doc pm an cdv ct us hu => by
  match us, hu with
  | [u0, u1, u2], _ => rfl⟩
theorem zf_law_table_kept (K : PySem.W.Frag) : Q K "_law_table_kept" f_law_table_kept := ⟨df_law_table_kept, by simp [dL], rfl, rfl, rfl, rfl, scf_law_table_kept, ⟨40, bf_law_table_kept, fun h => absurd h (by decide +kernel)⟩, fun kV doc pm an cdv ct us hu => by
  match us, hu with
  | [u0], _ => rfl⟩
theorem zf_law (K : PySem.W.Frag) : Q K "law" f_law := ⟨df_law, by simp [dL], rfl, rfl, rfl, rfl, scf_law, ⟨40, bf_law, fun h => absurd h (by decide +kernel)⟩, fun kV doc pm an cdv ct us hu => by
  match us, hu with
  | [u0], _ => rfl⟩
theorem hfn (K : PySem.W.Frag) (f : Str) (F : Fn) (hm : (f, F) ∈ L.fnL) : Q K f F := by
  have hm : (f, F) ∈ fnL := hm
  unfold fnL at hm
  rcases List.mem_cons.mp hm with h | hm
  · cases h; exact zf_is_word K
  rcases List.mem_cons.mp hm with h | hm
  · cases h; exact zf_is_event K
  rcases List.mem_cons.mp hm with h | hm
  · cases h; exact zf_check_event K
  rcases List.mem_cons.mp hm with h | hm
  · cases h; exact zf_events_apart K
  rcases List.mem_cons.mp hm with h | hm
  · cases h; exact zf_apart K
  rcases List.mem_cons.mp hm with h | hm
  · cases h; exact zf_law_same K
  rcases List.mem_cons.mp hm with h | hm
  · cases h; exact zf_law_start K
  rcases List.mem_cons.mp hm with h | hm
  · cases h; exact zf_law_mixed K
  rcases List.mem_cons.mp hm with h | hm
  · cases h; exact zf_law_draw K
  rcases List.mem_cons.mp hm with h | hm
  · cases h; exact zf_law_word K
  rcases List.mem_cons.mp hm with h | hm
  · cases h; exact zf_law_slots K
  rcases List.mem_cons.mp hm with h | hm
  · cases h; exact zf_law_value K
  rcases List.mem_cons.mp hm with h | hm
  · cases h; exact zf_law_name K
  rcases List.mem_cons.mp hm with h | hm
  · cases h; exact zf_law_next K
  rcases List.mem_cons.mp hm with h | hm
  · cases h; exact zf_law_records K
  rcases List.mem_cons.mp hm with h | hm
  · cases h; exact zf_law_apart_rows K
  rcases List.mem_cons.mp hm with h | hm
  · cases h; exact zf_law_apart K
  rcases List.mem_cons.mp hm with h | hm
  · cases h; exact zf_law_all_events K
  rcases List.mem_cons.mp hm with h | hm
  · cases h; exact zf_law_bad_events K
  rcases List.mem_cons.mp hm with h | hm
  · cases h; exact zf_law_refused K
  rcases List.mem_cons.mp hm with h | hm
  · cases h; exact zf_law_table_kept K
  rcases List.mem_cons.mp hm with h | hm
  · cases h; exact zf_law K
  cases hm
theorem t_BadRecord : ErT R.prog e_BadRecord := ⟨by decide +kernel, fun _ _ _ _ _ _ _ _ _ => rfl, rfl, ⟨_, _, _, _, _, _, _, _, _, _, _, _, (by exact rfl), rfl⟩, rfl, rfl, rfl, rfl, rfl, rfl, rfl, by decide +kernel, by decide +kernel⟩
theorem t_NoSlot : ErT R.prog e_NoSlot := ⟨by decide +kernel, fun _ _ _ _ _ _ _ _ _ => rfl, rfl, ⟨_, _, _, _, _, _, _, _, _, _, _, _, (by exact rfl), rfl⟩, rfl, rfl, rfl, rfl, rfl, rfl, rfl, by decide +kernel, by decide +kernel⟩
theorem t_BadEvent : ErT R.prog e_BadEvent := ⟨by decide +kernel, fun _ _ _ _ _ _ _ _ _ => rfl, rfl, ⟨_, _, _, _, _, _, _, _, _, _, _, _, (by exact rfl), rfl⟩, rfl, rfl, rfl, rfl, rfl, rfl, rfl, by decide +kernel, by decide +kernel⟩
theorem her (C f : Str) (hm : (C, f) ∈ L.errL) : f ≠ ("__class__" : Str) ∧ ∃ d ∈ eL, d.cls = C ∧ d.f = f ∧ ErT R.prog d := by
  have hm : (C, f) ∈ errL := hm
  unfold errL at hm
  rcases List.mem_cons.mp hm with h | hm
  · cases h; exact ⟨by decide +kernel, e_BadRecord, by simp [eL], rfl, rfl, t_BadRecord⟩
  rcases List.mem_cons.mp hm with h | hm
  · cases h; exact ⟨by decide +kernel, e_NoSlot, by simp [eL], rfl, rfl, t_NoSlot⟩
  rcases List.mem_cons.mp hm with h | hm
  · cases h; exact ⟨by decide +kernel, e_BadEvent, by simp [eL], rfl, rfl, t_BadEvent⟩
  cases hm
theorem base {K : PySem.W.Frag} {h : Heap} {mg : Str → Option Value} {w : World} (X : K.In h) (G : h.Ns mainGlobals mg) (c : SN.Says w K) : Base (L.g K) T R.prog w mg :=
  Lw.base X G c (hfn K) her rfl
end Law

set_option Elab.async false
set_option linter.all false
set_option maxRecDepth 100000
namespace Law
open PySem L2 Pw
theorem ne_connect_tell : (("connect" : Str) = "tell") = False := eq_false (by decide +kernel)
theorem ne_connect_apply : (("connect" : Str) = "apply") = False := eq_false (by decide +kernel)
theorem ne_connect_report : (("connect" : Str) = "report") = False := eq_false (by decide +kernel)
theorem ne_connect_confirm : (("connect" : Str) = "confirm") = False := eq_false (by decide +kernel)
theorem ne_connect_save : (("connect" : Str) = "save") = False := eq_false (by decide +kernel)
theorem ne_connect_halt : (("connect" : Str) = "halt") = False := eq_false (by decide +kernel)
theorem ne_connect_log : (("connect" : Str) = "log") = False := eq_false (by decide +kernel)
theorem ne_connect_stop : (("connect" : Str) = "stop") = False := eq_false (by decide +kernel)
theorem ne_connect_strike : (("connect" : Str) = "strike") = False := eq_false (by decide +kernel)
theorem ne_tell_connect : (("tell" : Str) = "connect") = False := eq_false (by decide +kernel)
theorem ne_tell_apply : (("tell" : Str) = "apply") = False := eq_false (by decide +kernel)
theorem ne_tell_report : (("tell" : Str) = "report") = False := eq_false (by decide +kernel)
theorem ne_tell_confirm : (("tell" : Str) = "confirm") = False := eq_false (by decide +kernel)
theorem ne_tell_save : (("tell" : Str) = "save") = False := eq_false (by decide +kernel)
theorem ne_tell_halt : (("tell" : Str) = "halt") = False := eq_false (by decide +kernel)
theorem ne_tell_log : (("tell" : Str) = "log") = False := eq_false (by decide +kernel)
theorem ne_tell_stop : (("tell" : Str) = "stop") = False := eq_false (by decide +kernel)
theorem ne_tell_strike : (("tell" : Str) = "strike") = False := eq_false (by decide +kernel)
theorem ne_apply_connect : (("apply" : Str) = "connect") = False := eq_false (by decide +kernel)
theorem ne_apply_tell : (("apply" : Str) = "tell") = False := eq_false (by decide +kernel)
theorem ne_apply_report : (("apply" : Str) = "report") = False := eq_false (by decide +kernel)
theorem ne_apply_confirm : (("apply" : Str) = "confirm") = False := eq_false (by decide +kernel)
theorem ne_apply_save : (("apply" : Str) = "save") = False := eq_false (by decide +kernel)
theorem ne_apply_halt : (("apply" : Str) = "halt") = False := eq_false (by decide +kernel)
theorem ne_apply_log : (("apply" : Str) = "log") = False := eq_false (by decide +kernel)
theorem ne_apply_stop : (("apply" : Str) = "stop") = False := eq_false (by decide +kernel)
theorem ne_apply_strike : (("apply" : Str) = "strike") = False := eq_false (by decide +kernel)
theorem ne_report_connect : (("report" : Str) = "connect") = False := eq_false (by decide +kernel)
theorem ne_report_tell : (("report" : Str) = "tell") = False := eq_false (by decide +kernel)
theorem ne_report_apply : (("report" : Str) = "apply") = False := eq_false (by decide +kernel)
theorem ne_report_confirm : (("report" : Str) = "confirm") = False := eq_false (by decide +kernel)
theorem ne_report_save : (("report" : Str) = "save") = False := eq_false (by decide +kernel)
theorem ne_report_halt : (("report" : Str) = "halt") = False := eq_false (by decide +kernel)
theorem ne_report_log : (("report" : Str) = "log") = False := eq_false (by decide +kernel)
theorem ne_report_stop : (("report" : Str) = "stop") = False := eq_false (by decide +kernel)
theorem ne_report_strike : (("report" : Str) = "strike") = False := eq_false (by decide +kernel)
theorem ne_confirm_connect : (("confirm" : Str) = "connect") = False := eq_false (by decide +kernel)
theorem ne_confirm_tell : (("confirm" : Str) = "tell") = False := eq_false (by decide +kernel)
theorem ne_confirm_apply : (("confirm" : Str) = "apply") = False := eq_false (by decide +kernel)
theorem ne_confirm_report : (("confirm" : Str) = "report") = False := eq_false (by decide +kernel)
theorem ne_confirm_save : (("confirm" : Str) = "save") = False := eq_false (by decide +kernel)
theorem ne_confirm_halt : (("confirm" : Str) = "halt") = False := eq_false (by decide +kernel)
theorem ne_confirm_log : (("confirm" : Str) = "log") = False := eq_false (by decide +kernel)
theorem ne_confirm_stop : (("confirm" : Str) = "stop") = False := eq_false (by decide +kernel)
theorem ne_confirm_strike : (("confirm" : Str) = "strike") = False := eq_false (by decide +kernel)
theorem ne_save_connect : (("save" : Str) = "connect") = False := eq_false (by decide +kernel)
theorem ne_save_tell : (("save" : Str) = "tell") = False := eq_false (by decide +kernel)
theorem ne_save_apply : (("save" : Str) = "apply") = False := eq_false (by decide +kernel)
theorem ne_save_report : (("save" : Str) = "report") = False := eq_false (by decide +kernel)
theorem ne_save_confirm : (("save" : Str) = "confirm") = False := eq_false (by decide +kernel)
theorem ne_save_halt : (("save" : Str) = "halt") = False := eq_false (by decide +kernel)
theorem ne_save_log : (("save" : Str) = "log") = False := eq_false (by decide +kernel)
theorem ne_save_stop : (("save" : Str) = "stop") = False := eq_false (by decide +kernel)
theorem ne_save_strike : (("save" : Str) = "strike") = False := eq_false (by decide +kernel)
theorem ne_halt_connect : (("halt" : Str) = "connect") = False := eq_false (by decide +kernel)
theorem ne_halt_tell : (("halt" : Str) = "tell") = False := eq_false (by decide +kernel)
theorem ne_halt_apply : (("halt" : Str) = "apply") = False := eq_false (by decide +kernel)
theorem ne_halt_report : (("halt" : Str) = "report") = False := eq_false (by decide +kernel)
theorem ne_halt_confirm : (("halt" : Str) = "confirm") = False := eq_false (by decide +kernel)
theorem ne_halt_save : (("halt" : Str) = "save") = False := eq_false (by decide +kernel)
theorem ne_halt_log : (("halt" : Str) = "log") = False := eq_false (by decide +kernel)
theorem ne_halt_stop : (("halt" : Str) = "stop") = False := eq_false (by decide +kernel)
theorem ne_halt_strike : (("halt" : Str) = "strike") = False := eq_false (by decide +kernel)
theorem ne_log_connect : (("log" : Str) = "connect") = False := eq_false (by decide +kernel)
theorem ne_log_tell : (("log" : Str) = "tell") = False := eq_false (by decide +kernel)
theorem ne_log_apply : (("log" : Str) = "apply") = False := eq_false (by decide +kernel)
theorem ne_log_report : (("log" : Str) = "report") = False := eq_false (by decide +kernel)
theorem ne_log_confirm : (("log" : Str) = "confirm") = False := eq_false (by decide +kernel)
theorem ne_log_save : (("log" : Str) = "save") = False := eq_false (by decide +kernel)
theorem ne_log_halt : (("log" : Str) = "halt") = False := eq_false (by decide +kernel)
theorem ne_log_stop : (("log" : Str) = "stop") = False := eq_false (by decide +kernel)
theorem ne_log_strike : (("log" : Str) = "strike") = False := eq_false (by decide +kernel)
theorem ne_stop_connect : (("stop" : Str) = "connect") = False := eq_false (by decide +kernel)
theorem ne_stop_tell : (("stop" : Str) = "tell") = False := eq_false (by decide +kernel)
theorem ne_stop_apply : (("stop" : Str) = "apply") = False := eq_false (by decide +kernel)
theorem ne_stop_report : (("stop" : Str) = "report") = False := eq_false (by decide +kernel)
theorem ne_stop_confirm : (("stop" : Str) = "confirm") = False := eq_false (by decide +kernel)
theorem ne_stop_save : (("stop" : Str) = "save") = False := eq_false (by decide +kernel)
theorem ne_stop_halt : (("stop" : Str) = "halt") = False := eq_false (by decide +kernel)
theorem ne_stop_log : (("stop" : Str) = "log") = False := eq_false (by decide +kernel)
theorem ne_stop_strike : (("stop" : Str) = "strike") = False := eq_false (by decide +kernel)
theorem ne_strike_connect : (("strike" : Str) = "connect") = False := eq_false (by decide +kernel)
theorem ne_strike_tell : (("strike" : Str) = "tell") = False := eq_false (by decide +kernel)
theorem ne_strike_apply : (("strike" : Str) = "apply") = False := eq_false (by decide +kernel)
theorem ne_strike_report : (("strike" : Str) = "report") = False := eq_false (by decide +kernel)
theorem ne_strike_confirm : (("strike" : Str) = "confirm") = False := eq_false (by decide +kernel)
theorem ne_strike_save : (("strike" : Str) = "save") = False := eq_false (by decide +kernel)
theorem ne_strike_halt : (("strike" : Str) = "halt") = False := eq_false (by decide +kernel)
theorem ne_strike_log : (("strike" : Str) = "log") = False := eq_false (by decide +kernel)
theorem ne_strike_stop : (("strike" : Str) = "stop") = False := eq_false (by decide +kernel)
theorem nz1 (n : Nat) : ((n : Int) + 1 = 0) = False := eq_false (by omega)
theorem nz2 (n : Nat) : ((n : Int) + 1 + 1 = 0) = False := eq_false (by omega)
theorem nz3 (n : Nat) : ((n : Int) + 1 + 1 + 1 = 0) = False := eq_false (by omega)
theorem nz4 (n : Nat) : ((n : Int) + 1 + 1 = 1) = False := eq_false (by omega)
theorem nz5 (n : Nat) : ((n : Int) + 1 + 1 + 1 = 1) = False := eq_false (by omega)
theorem nz6 (n : Nat) : ((n : Int) + 1 + 1 + 1 = 2) = False := eq_false (by omega)
theorem pz1 (n : Nat) : (0 < (n : Int) + 1) = True := eq_true (by omega)
theorem pz2 (n : Nat) : (0 < (n : Int) + 1 + 1) = True := eq_true (by omega)
theorem pz3 (n : Nat) : (0 < (n : Int) + 1 + 1 + 1) = True := eq_true (by omega)
theorem pz4 (n : Nat) : (1 < (n : Int) + 1 + 1) = True := eq_true (by omega)
theorem pz5 (n : Nat) : (1 < (n : Int) + 1 + 1 + 1) = True := eq_true (by omega)
end Law

set_option Elab.async false
set_option linter.all false
set_option maxRecDepth 100000
set_option maxHeartbeats 2000000
namespace Law
open PySem L2 Pw
theorem mbind {α β : Type} (m : Mo α) (f : α → Mo β) (r : List A) : (m >>= f) r = (match m r with
  | .no => .no
  | .ok a r1 => f a r1
  | .ex e r1 => .ex e r1) := rfl
theorem mpure {α : Type} (a : α) (r : List A) : (pure a : Mo α) r = .ok a r := rfl
def mixv (c t l : Int) : Int := (((c*48271+t*69621+11) % 2147483647)*16807 + t*40692+7) % 2147483629 % l
theorem mixv_lo {c t l : Int} (h : 0 < l) : 0 ≤ mixv c t l := Int.emod_nonneg _ (Int.ne_of_gt h)
theorem mixv_hi {c t l : Int} (h : 0 < l) : mixv c t l < l := Int.emod_lt_of_pos _ h
theorem run_mixed (k : Nat) (c t l : Int) (hl : 0 < l) : runF T (k+1) "_law_mixed" [.val (.int c), .val (.int t), .val (.int l)] = .ok (.val (.int (mixv c t l))) [.val (.int c), .val (.int t), .val (.int l)] := by
  have e : T.fns "_law_mixed" = some f_law_mixed := rfl
  unfold runF mixv
  simp [e, f_law_mixed, dSs, dS, dU, dUs, mbind, mpure, seqM, fzM, varM, opM, binD, U.now, U.fz, vI, Mo.opt, Mo.pure, Mo.none, cbM, biF, retU, putM, okSet, endF, backP, A.tag, hl, dDs, dataM, toD, okU, nows]
end Law

set_option Elab.async false
set_option linter.all false
set_option maxRecDepth 100000
set_option maxHeartbeats 4000000
namespace Law
open PySem L2 Pw
def stD (cells : List Int) (pos : Nat) (a b c d : Int) : List D := [.lst (cells.map .int), .int pos, .int a, .int b, .int c, .int d]
theorem runF_succ {k : Nat} {f : Str} {F : Fn} {as : List A} (h : T.fns f = some F) (hl : as.length = F.ps.length) : runF T (k + 1) f as = endF as (dSs T (runF T k) F.body (as ++ List.replicate (F.N.length - as.length) .un)) := by
  rw [runF]
  simp only [h, hl, if_pos]
theorem run_draw1 (k t : Nat) (cells : List Int) (pos : Nat) (a b c d lim : Int) (h : 0 < lim) (h2 : lim < 1073741824) (ha : 0 < a) : runF T (k+2) "_law_draw" [.own t (stD cells pos a b c d), .val (.int lim)] = .ok (.val (.int (a % lim))) [.own t (stD cells pos (a / lim) b c d), .val (.int lim)] := by
  have e : T.fns "_law_draw" = some f_law_draw := rfl
  rw [runF_succ e rfl]
  simp [f_law_draw, stD, dSs, dS, dU, dUs, mbind, mpure, seqM, fzM, varM, opM, binD, cmpD, vB, U.now, U.fz, vI, Mo.opt, Mo.pure, Mo.none, cbM, biF, retU, putM, okSet, endF, backP, A.tag, h, h2, ha, dDs, dataM, toD, okU, nows, iteM, boolM, asB, ixD, atI, ixN, uD, ifOwn, intM, asI, setM]
end Law
namespace Law
open PySem L2 Pw
theorem run_draw2 (k t : Nat) (cells : List Int) (pos : Nat) (a b c d lim : Int) (h : 0 < lim) (h2 : lim < 1073741824) (ha : ¬ 0 < a) (hc : 0 < c) : runF T (k+2) "_law_draw" [.own t (stD cells pos a b c d), .val (.int lim)] = .ok (.val (.int (mixv b (d + 1) lim))) [.own t (stD cells pos a b (c - 1) (d + 1)), .val (.int lim)] := by
  have e : T.fns "_law_draw" = some f_law_draw := rfl
  rw [runF_succ e rfl]
  have m := fun c t => run_mixed k c t lim h
  have e2 : T.fns "_law_mixed" = some f_law_mixed := rfl
  simp [f_law_draw, stD, dSs, dS, dU, dUs, mbind, mpure, seqM, fzM, varM, opM, binD, cmpD, vB, U.now, U.fz, vI, Mo.opt, Mo.pure, Mo.none, cbM, biF, retU, putM, okSet, endF, backP, A.tag, h, h2, ha, hc, dDs, dataM, toD, okU, nows, iteM, boolM, asB, ixD, atI, ixN, uD, ifOwn, intM, asI, setM, dAs, argM, mdOf, callM, mkArgs, slots, putBack, e, e2, m, f_law_mixed]
theorem run_draw3 (k t : Nat) (cells : List Int) (pos : Nat) (a b c d lim : Int) (h : 0 < lim) (h2 : lim < 1073741824) (ha : ¬ 0 < a) (hc : ¬ 0 < c) (hp : cells.length ≤ pos) : runF T (k+2) "_law_draw" [.own t (stD cells pos a b c d), .val (.int lim)] = .ok (.val (.int 0)) [.own t (stD cells pos a b c d), .val (.int lim)] := by
  have e : T.fns "_law_draw" = some f_law_draw := rfl
  rw [runF_succ e rfl]
  have m := fun c t => run_mixed k c t lim h
  have e2 : T.fns "_law_mixed" = some f_law_mixed := rfl
  simp [f_law_draw, stD, dSs, dS, dU, dUs, mbind, mpure, seqM, fzM, varM, opM, binD, cmpD, vB, U.now, U.fz, vI, Mo.opt, Mo.pure, Mo.none, cbM, biF, retU, putM, okSet, endF, backP, A.tag, h, h2, ha, hc, dDs, dataM, toD, okU, nows, iteM, boolM, asB, ixD, atI, ixN, uD, ifOwn, intM, asI, setM, dAs, argM, mdOf, callM, mkArgs, slots, putBack, e, e2, m, f_law_mixed, hp]
theorem run_draw4 (k t : Nat) (cells : List Int) (pos : Nat) (a b c d lim x : Int) (h : 0 < lim) (h2 : lim < 1073741824) (ha : ¬ 0 < a) (hc : ¬ 0 < c) (hp : cells[pos]? = some x) (hx : 1000000000000000000 ≤ x) : runF T (k+2) "_law_draw" [.own t (stD cells pos a b c d), .val (.int lim)] = .ok (.val (.int (x % lim))) [.own t (stD cells (pos + 1) (x / lim) b c d), .val (.int lim)] := by
  have e : T.fns "_law_draw" = some f_law_draw := rfl
  rw [runF_succ e rfl]
  have m := fun c t => run_mixed k c t lim h
  have e2 : T.fns "_law_mixed" = some f_law_mixed := rfl
  have hl : pos < cells.length := (List.getElem?_eq_some_iff.mp hp).1
  have hl2 : ¬ cells.length ≤ pos := by omega
  have hg : cells[pos] = x := (List.getElem?_eq_some_iff.mp hp).2
  simp [f_law_draw, stD, dSs, dS, dU, dUs, mbind, mpure, seqM, fzM, varM, opM, binD, cmpD, vB, U.now, U.fz, vI, Mo.opt, Mo.pure, Mo.none, cbM, biF, retU, putM, okSet, endF, backP, A.tag, h, h2, ha, hc, dDs, dataM, toD, okU, nows, iteM, boolM, asB, ixD, atI, ixN, uD, ifOwn, intM, asI, setM, dAs, argM, mdOf, callM, mkArgs, slots, putBack, e, e2, m, f_law_mixed, hp, hx, hl, hl2, hg]
theorem run_draw5 (k t : Nat) (cells : List Int) (pos : Nat) (a b c d lim x : Int) (h : 0 < lim) (h2 : lim < 1073741824) (ha : ¬ 0 < a) (hc : ¬ 0 < c) (hp : cells[pos]? = some x) (hx : ¬ 1000000000000000000 ≤ x) : runF T (k+2) "_law_draw" [.own t (stD cells pos a b c d), .val (.int lim)] = .ok (.val (.int (mixv x (d + 1) lim))) [.own t (stD cells (pos + 1) a x 3 (d + 1)), .val (.int lim)] := by
  have e : T.fns "_law_draw" = some f_law_draw := rfl
  rw [runF_succ e rfl]
  have m := fun c t => run_mixed k c t lim h
  have e2 : T.fns "_law_mixed" = some f_law_mixed := rfl
  have hl : pos < cells.length := (List.getElem?_eq_some_iff.mp hp).1
  have hl2 : ¬ cells.length ≤ pos := by omega
  have hg : cells[pos] = x := (List.getElem?_eq_some_iff.mp hp).2
  simp [f_law_draw, stD, dSs, dS, dU, dUs, mbind, mpure, seqM, fzM, varM, opM, binD, cmpD, vB, U.now, U.fz, vI, Mo.opt, Mo.pure, Mo.none, cbM, biF, retU, putM, okSet, endF, backP, A.tag, h, h2, ha, hc, dDs, dataM, toD, okU, nows, iteM, boolM, asB, ixD, atI, ixN, uD, ifOwn, intM, asI, setM, dAs, argM, mdOf, callM, mkArgs, slots, putBack, e, e2, m, f_law_mixed, hp, hx, hl, hl2, hg]
/-- a draw -/
theorem run_draw (k t : Nat) (cells : List Int) (pos : Nat) (a b c d lim : Int) (h : 0 < lim) (h2 : lim < 1073741824) : ∃ (pos' : Nat) (a' b' c' d' x : Int), runF T (k+2) "_law_draw" [.own t (stD cells pos a b c d), .val (.int lim)] = .ok (.val (.int x)) [.own t (stD cells pos' a' b' c' d'), .val (.int lim)] ∧ 0 ≤ x ∧ x < lim := by
  by_cases ha : 0 < a
  · exact ⟨_, _, _, _, _, _, run_draw1 k t cells pos a b c d lim h h2 ha, Int.emod_nonneg _ (Int.ne_of_gt h), Int.emod_lt_of_pos _ h⟩
  · by_cases hc : 0 < c
    · exact ⟨_, _, _, _, _, _, run_draw2 k t cells pos a b c d lim h h2 ha hc, mixv_lo h, mixv_hi h⟩
    · cases hp : cells[pos]? with
      | none => exact ⟨_, _, _, _, _, _, run_draw3 k t cells pos a b c d lim h h2 ha hc (by simpa using hp), Int.le_refl _, h⟩
      | some x =>
        by_cases hx : 1000000000000000000 ≤ x
        · exact ⟨_, _, _, _, _, _, run_draw4 k t cells pos a b c d lim x h h2 ha hc hp hx, Int.emod_nonneg _ (Int.ne_of_gt h), Int.emod_lt_of_pos _ h⟩
        · exact ⟨_, _, _, _, _, _, run_draw5 k t cells pos a b c d lim x h h2 ha hc hp hx, mixv_lo h, mixv_hi h⟩
end Law

set_option Elab.async false
set_option linter.all false
set_option maxRecDepth 100000
set_option maxHeartbeats 4000000
namespace Law
open PySem L2 Pw
def Sd (ds : List D) : Prop := ∃ (cells : List Int) (pos : Nat) (a b c d : Int), ds = stD cells pos a b c d
theorem draw (k t : Nat) {ds : List D} (lim : Int) (hs : Sd ds) (h : 0 < lim) (h2 : lim < 1073741824) : ∃ (ds' : List D) (x : Int), Sd ds' ∧ 0 ≤ x ∧ x < lim ∧ runF T (k+2) "_law_draw" [.own t ds, .val (.int lim)] = .ok (.val (.int x)) [.own t ds', .val (.int lim)] := by
  obtain ⟨cells, pos, a, b, c, d, rfl⟩ := hs
  obtain ⟨pos', a', b', c', d', x, h1, h3, h4⟩ := run_draw k t cells pos a b c d lim h h2
  exact ⟨_, x, ⟨_, _, _, _, _, _, rfl⟩, h3, h4, h1⟩
theorem toDv (d : D) : toD (.val d) = pure d := rfl
theorem toDf (ds : List D) : toD (.fresh ds) = pure (.lst ds) := rfl
theorem toDs (i : Nat) (r : List A) : toD (.slot i) r = (match r[i]? with
    | some (.own _ ds) => .ok (.lst ds) (r.set i (.val (.lst ds)))
    | _ => .no) := rfl
theorem itTup (S : IsT) (ds : List D) (t : Ty) : isTy S (.tup ds) t = some (Tn.is .tuple t) := rfl
theorem itLst (S : IsT) (ds : List D) (t : Ty) : isTy S (.lst ds) t = some (Tn.is .list t) := rfl
theorem itStr (S : IsT) (x : Str) (t : Ty) : isTy S (.str x) t = some (Tn.is .str t) := rfl
theorem itInt (S : IsT) (i : Int) (t : Ty) : isTy S (.int i) t = some (Tn.is .int t) := rfl
theorem itBl (S : IsT) (b : Bool) (t : Ty) : isTy S (.bl b) t = some (Tn.is .bool t) := rfl
theorem itNon (S : IsT) (t : Ty) : isTy S .non t = some (Tn.is .non t) := rfl
/-! ### loops -/
theorem for_inv {t : Tg} {b : Mo Fl} (I : Nat → List A → Prop) : ∀ (ds : List D) (n : Nat) (r : List A), (∀ i d r, ds[i]? = some d → I (n + i) r → ∃ r1 r2, tgF t d r = some r1 ∧ b r1 = .ok .nx r2 ∧ I (n + i + 1) r2) → I n r → ∃ r', forM' t b ds r = .ok .nx r' ∧ I (n + ds.length) r'
  | [], n, r, _, h0 => ⟨r, rfl, h0⟩
  | d :: ds, n, r, h, h0 => by
    obtain ⟨r1, r2, e1, e2, h1⟩ := h 0 d r rfl h0
    obtain ⟨r', e3, h3⟩ := for_inv I ds (n + 1) r2 (fun i d' r hd hi => by
      have := h (i + 1) d' r (by simpa using hd) (by rw [show n + (i + 1) = n + 1 + i by omega]; exact hi)
      rw [show n + (i + 1) + 1 = n + 1 + i + 1 by omega] at this
      exact this) h1
    refine ⟨r', ?_, by rw [List.length_cons, show n + (ds.length + 1) = n + 1 + ds.length by omega]; exact h3⟩
    unfold forM'
    simp only [e1, mbind, e2]
    exact e3
theorem up_at {n i : Nat} {d : D} (h : (upto n)[i]? = some d) : d = .int i ∧ i < n := by
  unfold upto at h
  rw [List.getElem?_map] at h
  cases q : (List.range n)[i]? with
  | none => rw [q] at h; cases h
  | some j =>
    rw [q] at h
    obtain ⟨h1, h2⟩ := List.getElem?_eq_some_iff.mp q
    have : j = i := by simpa using h2.symm
    subst this
    cases h
    exact ⟨rfl, by simpa using h1⟩
theorem up_len (n : Nat) : (upto n).length = n := by simp [upto]
/-! ### words -/
def abc : Str := "abcdefghijklmnopqrstuvwxyz"
def Lt (w : Str) : Prop := ∀ c ∈ w.cps.toList, 97 ≤ c ∧ c ≤ 122
def Wd (w : Str) : Prop := Lt w ∧ 1 ≤ w.length ∧ w.length ≤ 8
theorem len_app (x y : Str) : (x ++ y).length = x.length + y.length := by
  show (x.cps ++ y.cps).size = _
  rw [Array.size_append]; rfl
theorem lt_app {x y : Str} (hx : Lt x) (hy : Lt y) : Lt (x ++ y) := fun c hc => by
  have : c ∈ (x.cps ++ y.cps).toList := hc
  rw [Array.toList_append, List.mem_append] at this
  exact this.elim (hx c) (hy c)
theorem lt_one {n : Nat} (h : n < 26) : Lt ⟨#[97 + n]⟩ := fun c hc => by
  have : c = 97 + n := by simpa using hc
  omega
theorem abc_at {i : Int} (h : 0 ≤ i) (h2 : i < 26) : ∃ c : Nat, 97 ≤ c ∧ c ≤ 122 ∧ atI abc.cps.toList i = some c := by
  obtain ⟨n, rfl⟩ := Int.eq_ofNat_of_zero_le h
  have hn : n < 26 := by omega
  have : ∀ n : Nat, n < 26 → (atI abc.cps.toList (n : Int)) = some (97 + n) := by decide +kernel
  exact ⟨97 + n, by omega, by omega, this n hn⟩
theorem lt_one' {c : Nat} (h : 97 ≤ c) (h2 : c ≤ 122) : Lt ⟨#[c]⟩ := fun x hx => by
  have : x = c := by simpa using hx
  omega
theorem abc_len : abc.length ≤ sizeLine := by decide +kernel
theorem small {n : Nat} (h : n ≤ 100) : n ≤ sizeLine := Nat.le_trans h (by rw [sizeLine_eq]; decide)
theorem word_turn (k t : Nat) (many alike spot j : Int) (sign w : Str) {ds : List D} (hs : Sd ds) (hsg : Lt sign ∧ sign.length = 1) (hw : Lt w) (hl : w.length ≤ 8) :
    ∃ (ds' : List D) (w' : Str), Sd ds' ∧ Lt w' ∧ w'.length = w.length + 1 ∧ dSs T (runF T (k+2)) l_law_word_1 [.own t ds, .val (.str abc), .val (.int many), .val (.int alike), .val (.str sign), .val (.int spot), .val (.str w), .val (.int j)] =
      .ok .nx [.own t ds', .val (.str abc), .val (.int many), .val (.int alike), .val (.str sign), .val (.int spot), .val (.str w'), .val (.int j)] := by
  obtain ⟨ds1, x, hs1, h1, h2, e1⟩ := draw k 1 26 hs (by decide) (by decide)
  have e : T.fns "_law_draw" = some f_law_draw := rfl
  have em : f_law_draw.md = [true, false] := rfl
  obtain ⟨c, c1, c2, hx⟩ := abc_at h1 h2
  have hal := abc_len
  by_cases hc : alike = 0 ∨ j = spot
  · refine ⟨ds1, w ++ ⟨#[c]⟩, hs1, lt_app hw (lt_one' c1 c2), by rw [len_app]; rfl, ?_⟩
    have hz : w.length + (⟨#[c]⟩ : Str).length ≤ sizeLine := small (by have : (⟨#[c]⟩ : Str).length = 1 := rfl; omega)
    have hz' : w.length + 1 ≤ sizeLine := hz
    by_cases hc0 : alike = 0
    · simp [l_law_word_1, dSs, dS, dU, dUs, dDs, mbind, mpure, seqM, fzM, varM, opM, binD, cmpD, eqD, vB, vB', U.now, U.fz, Mo.opt, Mo.pure, Mo.none, retU, putM, okSet, A.tag, A.ret, dataM, toD, okU, nows, iteM, boolM, asB, Pw.orM, dAs, argM, mdOf, callM, mkArgs, slots, putBack, put1, noAl, ixD, uD, e, e1, em, hx, hc0, hz, hz', hal]
    · have hj : j = spot := hc.resolve_left hc0
      simp [l_law_word_1, dSs, dS, dU, dUs, dDs, mbind, mpure, seqM, fzM, varM, opM, binD, cmpD, eqD, vB, vB', U.now, U.fz, Mo.opt, Mo.pure, Mo.none, retU, putM, okSet, A.tag, A.ret, dataM, toD, okU, nows, iteM, boolM, asB, Pw.orM, dAs, argM, mdOf, callM, mkArgs, slots, putBack, put1, noAl, ixD, uD, e, e1, em, hx, hc0, hj, hz, hz', hal]
  · obtain ⟨hc1, hc2⟩ := not_or.mp hc
    refine ⟨ds, w ++ sign, hs, lt_app hw hsg.1, by rw [len_app, hsg.2], ?_⟩
    have hz : w.length + sign.length ≤ sizeLine := small (by omega)
    simp [l_law_word_1, dSs, dS, dU, dUs, mbind, mpure, seqM, fzM, varM, opM, binD, cmpD, eqD, vB, vB', U.now, U.fz, Mo.opt, Mo.pure, Mo.none, retU, putM, okSet, A.tag, dataM, toD, okU, nows, iteM, boolM, asB, Pw.orM, hc1, hc2, hz]
theorem word (k t : Nat) {ds : List D} (hs : Sd ds) : ∃ (ds' : List D) (w : Str), Sd ds' ∧ Wd w ∧ runF T (k+3) "_law_word" [.own t ds] = .ok (.val (.str w)) [.own t ds'] := by
  obtain ⟨d1, x1, s1, a1, b1, e1⟩ := draw k 1 8 hs (by decide) (by decide)
  obtain ⟨d2, x2, s2, a2, b2, e2⟩ := draw k 1 2 s1 (by decide) (by decide)
  obtain ⟨d3, x3, s3, a3, b3, e3⟩ := draw k 1 26 s2 (by decide) (by decide)
  obtain ⟨d4, x4, s4, a4, b4, e4⟩ := draw k 1 (1 + x1) s3 (by omega) (by omega)
  have e : T.fns "_law_draw" = some f_law_draw := rfl
  have em : f_law_draw.md = [true, false] := rfl
  obtain ⟨c, c1, c2, hx⟩ := abc_at a3 b3
  have hal := abc_len
  have ew : T.fns "_law_word" = some f_law_word := rfl
  obtain ⟨n, hn⟩ : ∃ n : Nat, n = (1 + x1).toNat := ⟨_, rfl⟩
  obtain ⟨r', e5, I5⟩ := for_inv (t := .name 7) (b := dSs T (runF T (k+2)) l_law_word_1) (fun j r => ∃ ds' w kk, Sd ds' ∧ Lt w ∧ w.length = j ∧ (kk = .un ∨ ∃ d, kk = .val d) ∧ r = [.own t ds', .val (.str abc), .val (.int (1 + x1)), .val (.int x2), .val (.str ⟨#[c]⟩), .val (.int x4), .val (.str w), kk]) (upto n) 0
    [.own t d4, .val (.str abc), .val (.int (1 + x1)), .val (.int x2), .val (.str ⟨#[c]⟩), .val (.int x4), .val (.str ""), .un] (fun i d r hd hi => by
      obtain ⟨rfl, hlt⟩ := up_at hd
      obtain ⟨ds', w, kk, hs', hw', hl', hk', rfl⟩ := hi
      obtain ⟨ds2, w2, g1, g2, g3, g4⟩ := word_turn k t (1 + x1) x2 x4 i ⟨#[c]⟩ w hs' ⟨lt_one' c1 c2, rfl⟩ hw' (by omega)
      refine ⟨_, _, ?_, g4, ds2, w2, .val (.int i), g1, g2, by omega, .inr ⟨_, rfl⟩, rfl⟩
      rcases hk' with rfl | ⟨d, rfl⟩ <;> rfl) ⟨d4, "", .un, s4, (fun c hc => by cases hc), rfl, .inl rfl, rfl⟩
  rw [up_len] at I5
  obtain ⟨ds', w, kk, hs', hw', hl', hk', rfl⟩ := I5
  refine ⟨ds', w, hs', ⟨hw', by omega, by omega⟩, ?_⟩
  rw [runF_succ ew rfl]
  have hb : (-1000000 ≤ 1 + x1 ∧ 1 + x1 ≤ 1000000) := by omega
  have ea : ("abcdefghijklmnopqrstuvwxyz" : Str) = abc := rfl
  have hx' : atI abc.cps.toList x3 = some c := hx
  simp [f_law_word, dSs, dS, dU, dUs, dDs, dI, optM, rngD, mbind, mpure, seqM, fzM, varM, opM, binD, vI, U.now, U.fz, Mo.opt, Mo.pure, Mo.none, retU, putM, okSet, A.tag, A.ret, dataM, toD, okU, dAs, argM, mdOf, callM, mkArgs, slots, putBack, put1, noAl, ixD, endF, backP, e, e1, e2, e3, e4, em, ea, hx', hal, hb, ← hn, e5]
end Law

set_option Elab.async false
set_option linter.all false
set_option maxRecDepth 100000
set_option maxHeartbeats 4000000
namespace Law
open PySem L2 Pw
/-! ### the slots' names -/
theorem flat_strs (ws : List Str) : (ws.map D.str).all D.flat = true := by
  rw [List.all_map, List.all_eq_true]
  exact fun _ _ => rfl
def spares : List Str := ["s", "a", "ab", "ba", "zz", "left", "rightone", "q"]
theorem spares_ok : ∀ w ∈ spares, Wd w := by unfold Wd Lt spares; decide +kernel
theorem spare_turn (k t t2 : Nat) (many kk : D) (w sp : Str) (ds : List D) (ws : List Str) (hw : Wd w) (hsp : Wd sp) :
    ∃ w', Wd w' ∧ dSs T (runF T k) l_law_slots_1 [.own t ds, .val many, .own t2 (ws.map .str), .val kk, .val (.str w), .val (.str sp)] = .ok .nx [.own t ds, .val many, .own t2 (ws.map .str), .val kk, .val (.str w'), .val (.str sp)] := by
  have hf : (D.str w).flat = true := rfl
  have hfs := flat_strs ws
  cases hi : (D.str w).isIn (ws.map .str) with
  | true => exact ⟨sp, hsp, by simp [l_law_slots_1, dSs, dS, dU, mbind, mpure, seqM, fzM, varM, opM, cmpD, inD, U.now, U.fz, retU, putM, okSet, okU, iteM, boolM, asB, hf, hfs, hi]⟩
  | false => exact ⟨w, hw, by simp [l_law_slots_1, dSs, dS, dU, mbind, mpure, seqM, fzM, varM, opM, cmpD, inD, U.now, U.fz, retU, putM, okSet, okU, iteM, boolM, asB, hf, hfs, hi]⟩
def oA : A → Prop
  | .own2 _ _ => False
  | _ => True
theorem spare_loop (k t t2 : Nat) (many kk : D) (w : Str) (x : A) (hx : x = .un ∨ ∃ d, x = .val d) (ds : List D) (ws : List Str) (hw : Wd w) :
    ∃ w' x', (x' = .un ∨ ∃ d, x' = .val d) ∧ Wd w' ∧ forM' (.name 5) (dSs T (runF T k) l_law_slots_1) (spares.map D.str) [.own t ds, .val many, .own t2 (ws.map .str), .val kk, .val (.str w), x] = .ok .nx [.own t ds, .val many, .own t2 (ws.map .str), .val kk, .val (.str w'), x'] := by
  obtain ⟨r', e, w', x', h1, h2, rfl⟩ := for_inv (t := .name 5) (b := dSs T (runF T k) l_law_slots_1) (fun _ r => ∃ w' x', Wd w' ∧ (x' = .un ∨ ∃ d, x' = .val d) ∧ r = [.own t ds, .val many, .own t2 (ws.map .str), .val kk, .val (.str w'), x']) (spares.map D.str) 0
    [.own t ds, .val many, .own t2 (ws.map .str), .val kk, .val (.str w), x] (fun i d r hd hi => by
      obtain ⟨sp, hsp, rfl⟩ : ∃ sp, sp ∈ spares ∧ d = .str sp := by
        have := List.mem_of_getElem? hd
        obtain ⟨sp, q1, q2⟩ := List.mem_map.mp this
        exact ⟨sp, q1, q2.symm⟩
      obtain ⟨w', x', h1, h2, rfl⟩ := hi
      obtain ⟨w2, h3, h4⟩ := spare_turn k t t2 many kk w' sp ds ws h1 (spares_ok sp hsp)
      refine ⟨_, _, ?_, h4, w2, _, h3, .inr ⟨_, rfl⟩, rfl⟩
      rcases h2 with rfl | ⟨d, rfl⟩ <;> rfl) ⟨w, x, hw, hx, rfl⟩
  exact ⟨w', x', h2, h1, e⟩
theorem slots_turn (k t t2 : Nat) (many kk : D) (w x : A) (hw : w = .un ∨ ∃ d, w = .val d) (hx : x = .un ∨ ∃ d, x = .val d) {ds : List D} (hs : Sd ds) (ws : List Str) (hl : ws.length ≤ 100) :
    ∃ ds' w' x', Sd ds' ∧ (x' = .un ∨ ∃ d, x' = .val d) ∧ Wd w' ∧ dSs T (runF T (k+3)) l_law_slots_2 [.own t ds, .val many, .own t2 (ws.map .str), .val kk, w, x] = .ok .nx [.own t ds', .val many, .own t2 ((ws ++ [w']).map .str), .val kk, .val (.str w'), x'] := by
  obtain ⟨d1, w1, s1, h1, e1⟩ := word k 1 hs
  obtain ⟨w2, x2, h2, h3, e2⟩ := spare_loop (k+3) t t2 many kk w1 x hx d1 ws h1
  have e : T.fns "_law_word" = some f_law_word := rfl
  have em : f_law_word.md = [true] := rfl
  have es : spares.map D.str = [.str "s", .str "a", .str "ab", .str "ba", .str "zz", .str "left", .str "rightone", .str "q"] := rfl
  rw [es] at e2
  have hl2 : ws.length < 1000000 := by omega
  refine ⟨d1, w2, x2, s1, h2, h3, ?_⟩
  rcases hw with rfl | ⟨d, rfl⟩ <;> rcases hx with rfl | ⟨d', rfl⟩ <;>
  simp [l_law_slots_2, dSs, dS, dU, dDs, dI, optM, itemsD, mbind, mpure, seqM, fzM, varM, U.now, U.fz, Mo.opt, Mo.pure, Mo.none, retU, putM, appM, okSet, A.tag, A.ret, dataM, toDv, toDf, toDs, okU, ifOwn, dAs, argM, mdOf, callM, mkArgs, slots, putBack, put1, noAl, e, e1, em, e2, hl2]
theorem slotsN (k t : Nat) {ds : List D} (hs : Sd ds) (n : Nat) (hn : n ≤ 100) : ∃ (ds' : List D) (ws : List Str), Sd ds' ∧ (∀ w ∈ ws, Wd w) ∧ ws.length = n ∧ runF T (k+4) "_law_slots" [.own t ds, .val (.int n)] = .ok (.val (.lst (ws.map .str))) [.own t ds', .val (.int n)] := by
  obtain ⟨r', e5, ds', ws, x3, x4, x5, g1, g2, g3, g4, g5, g6, rfl⟩ := for_inv (t := .name 3) (b := dSs T (runF T (k+3)) l_law_slots_2) (fun j r => ∃ ds' ws x3 x4 x5, Sd ds' ∧ (∀ w ∈ ws, Wd w) ∧ ws.length = j ∧ (x3 = .un ∨ ∃ d, x3 = .val d) ∧ (x4 = .un ∨ ∃ d, x4 = .val d) ∧ (x5 = .un ∨ ∃ d, x5 = .val d) ∧ r = [.own t ds', .val (.int n), .own 0 (ws.map .str), x3, x4, x5]) (upto n) 0
    [.own t ds, .val (.int n), .own 0 [], .un, .un, .un] (fun i d r hd hi => by
      obtain ⟨rfl, hlt⟩ := up_at hd
      obtain ⟨ds', ws, x3, x4, x5, g1, g2, g3, g4, g5, g6, rfl⟩ := hi
      obtain ⟨ds2, w', x', p1, p2, p3, p4⟩ := slots_turn k t 0 (.int n) (.int i) x4 x5 g5 g6 g1 ws (by omega)
      refine ⟨_, _, ?_, p4, ds2, ws ++ [w'], .val (.int i), .val (.str w'), x', p1, fun w hw => ?_, by simp; omega, .inr ⟨_, rfl⟩, .inr ⟨_, rfl⟩, p2, rfl⟩
      · rcases g4 with rfl | ⟨d, rfl⟩ <;> rfl
      · rcases List.mem_append.mp hw with h | h
        · exact g2 w h
        · rw [List.mem_singleton.mp h]; exact p3) ⟨ds, [], .un, .un, .un, hs, (fun _ h => by cases h), rfl, .inl rfl, .inl rfl, .inl rfl, rfl⟩
  rw [up_len] at g3
  refine ⟨ds', ws, g1, g2, by omega, ?_⟩
  have ew : T.fns "_law_slots" = some f_law_slots := rfl
  rw [runF_succ ew rfl]
  have hb : (-1000000 ≤ (n : Int) ∧ (n : Int) ≤ 1000000) := by omega
  simp [f_law_slots, dSs, dS, dU, dUs, dDs, dI, optM, rngD, mbind, mpure, seqM, fzM, varM, U.now, U.fz, Mo.opt, Mo.pure, Mo.none, retU, putM, okSet, A.tag, dataM, toDv, toDf, toDs, okU, endF, backP, hb, e5]
end Law

set_option Elab.async false
set_option linter.all false
set_option maxRecDepth 100000
set_option maxHeartbeats 4000000
namespace Law
open PySem L2 Pw
/-! ### loops that ask -/
theorem for_any {t : Tg} {b : Mo Fl} {u : U} (p : D → Bool) (I : List A → Prop) : ∀ (ds : List D) (r : List A), (∀ d ∈ ds, ∀ r, I r → ∃ r1 r2, tgF t d r = some r1 ∧ b r1 = .ok (if p d = true then .rt u else .nx) r2 ∧ I r2) → I r → ∃ r', forM' t b ds r = .ok (if ds.any p = true then .rt u else .nx) r' ∧ I r'
  | [], r, _, h0 => ⟨r, rfl, h0⟩
  | d :: ds, r, h, h0 => by
    obtain ⟨r1, r2, e1, e2, h1⟩ := h d (List.mem_cons_self ..) r h0
    unfold forM'
    by_cases hp : p d = true
    · rw [if_pos hp] at e2
      refine ⟨r2, ?_, h1⟩
      simp only [e1, mbind, e2, List.any_cons, hp, Bool.true_or, if_true]
      rfl
    · rw [if_neg hp] at e2
      obtain ⟨r', e3, h3⟩ := for_any p I ds r2 (fun d' hd => h d' (List.mem_cons_of_mem _ hd)) h1
      have hp' : p d = false := by simpa using hp
      refine ⟨r', ?_, h3⟩
      simp only [e1, mbind, e2, List.any_cons, hp', Bool.false_or]
      exact e3
/-! ### is_word, is_event -/
def ltB (c : Nat) : Bool := decide (97 ≤ c) && decide (c ≤ 122)
def wordB : D → Bool
  | .str x => decide (1 ≤ x.length) && (decide (x.length ≤ 8) && x.cps.toList.all ltB)
  | _ => false
theorem abc_mem (c : Nat) : decide (c ∈ abc.cps.toList) = ltB c := by
  have : abc.cps.toList = (List.range 26).map (97 + ·) := by decide +kernel
  rw [this]
  unfold ltB
  by_cases h : 97 ≤ c ∧ c ≤ 122
  · have : c ∈ (List.range 26).map (97 + ·) := List.mem_map.mpr ⟨c - 97, List.mem_range.mpr (by omega), by omega⟩
    simp [this, h.1, h.2]
  · have h2 : ¬ c ∈ (List.range 26).map (97 + ·) := fun z => by
      obtain ⟨i, hi, e⟩ := List.mem_map.mp z
      have := List.mem_range.mp hi
      omega
    rw [decide_eq_false h2]
    by_cases h3 : 97 ≤ c
    · have : ¬ c ≤ 122 := fun z => h ⟨h3, z⟩
      simp [this]
    · simp [h3]
def notLt : D → Bool
  | .str x => (match x.cps.toList with
    | [c] => !(ltB c)
    | _ => false)
  | _ => false
theorem is_word_str (k : Nat) (x : Str) (hx : x.length ≤ sizeLine) : runF T (k+1) "is_word" [.val (.str x)] = .ok (.val (.bl (wordB (.str x)))) [.val (.str x)] := by
  have ew : T.fns "is_word" = some f_is_word := rfl
  rw [runF_succ ew rfl]
  obtain ⟨r', e, y, rfl, _⟩ := for_any (t := .name 1) (b := dSs T (runF T k) l_is_word_1) (u := .val (.bl false)) notLt (fun r => ∃ y, r = [.val (.str x), y] ∧ (y = .un ∨ ∃ d, y = .val d)) (signs x) [.val (.str x), .un] (fun d hd r hr => by
    obtain ⟨y, rfl, hy⟩ := hr
    obtain ⟨c, hc, rfl⟩ := List.mem_map.mp hd
    refine ⟨[.val (.str x), .val (.str ⟨#[c]⟩)], [.val (.str x), .val (.str ⟨#[c]⟩)], by rcases hy with rfl | ⟨d, rfl⟩ <;> rfl, ?_, _, rfl, .inr ⟨_, rfl⟩⟩
    have hm := abc_mem c
    have ea : ("abcdefghijklmnopqrstuvwxyz" : Str) = abc := rfl
    cases hl : ltB c with
    | true =>
      have hm' : c ∈ abc.cps.toList := by rw [hl] at hm; exact of_decide_eq_true hm
      have hm2 : c ∈ abc.cps := Array.mem_toList_iff.mp hm'
      simp [l_is_word_1, dSs, dS, dU, mbind, mpure, seqM, fzM, varM, opM, cmpD, inD, U.now, U.fz, okU, iteM, boolM, asB, notLt, hl, ea, hm', hm2]
    | false =>
      have hm' : ¬ c ∈ abc.cps.toList := by rw [hl] at hm; exact of_decide_eq_false hm
      have hm2 : ¬ c ∈ abc.cps := fun z => hm' (Array.mem_toList_iff.mpr z)
      simp [l_is_word_1, dSs, dS, dU, mbind, mpure, seqM, fzM, varM, opM, cmpD, inD, U.now, U.fz, okU, iteM, boolM, asB, notLt, hl, ea, hm', hm2, retU]) ⟨_, rfl, .inl rfl⟩
  have ha : (signs x).any notLt = !(x.cps.toList.all ltB) := by
    unfold signs
    induction x.cps.toList with
    | nil => rfl
    | cons a l ih => simp only [List.map_cons, List.any_cons, ih, List.all_cons, Bool.not_and]; rfl
  rw [ha] at e
  by_cases h1 : 1 ≤ x.length
  · by_cases h8 : x.length ≤ 8
    · have h1' : ¬ x.length = 0 := by omega
      have h8' : ¬ (8 : Int) < x.length := by omega
      cases hl : x.cps.toList.all ltB with
      | true =>
        rw [hl] at e
        simp [f_is_word, dSs, dS, dU, dUs, dI, optM, itemsD, mbind, mpure, seqM, fzM, varM, opM, cmpD, eqD, vB, vI, vB', U.now, U.fz, Mo.opt, Mo.pure, Mo.none, cbM, biF, retU, endF, backP, A.tag, dataM, toDv, toDf, toDs, okU, nows, iteM, boolM, asB, Pw.orM, Pw.notM, isM, itTup, itLst, itStr, itInt, itBl, itNon, Tn.is, hx, h1', h8', wordB, h1, h8, hl, e]
      | false =>
        rw [hl] at e
        simp [f_is_word, dSs, dS, dU, dUs, dI, optM, itemsD, mbind, mpure, seqM, fzM, varM, opM, cmpD, eqD, vB, vI, vB', U.now, U.fz, Mo.opt, Mo.pure, Mo.none, cbM, biF, retU, endF, backP, A.tag, dataM, toDv, toDf, toDs, okU, nows, iteM, boolM, asB, Pw.orM, Pw.notM, isM, itTup, itLst, itStr, itInt, itBl, itNon, Tn.is, hx, h1', h8', wordB, h1, h8, hl, e]
    · have h1' : ¬ x.length = 0 := by omega
      have h8' : (8 : Int) < x.length := by omega
      simp [f_is_word, dSs, dS, dU, dUs, mbind, mpure, seqM, fzM, varM, opM, cmpD, eqD, vB, vI, vB', U.now, U.fz, cbM, biF, retU, endF, backP, A.tag, okU, nows, iteM, boolM, asB, Pw.orM, Pw.notM, isM, itTup, itLst, itStr, itInt, itBl, itNon, Tn.is, hx, h1', h8', wordB, h1, h8]
  · have h1' : x.length = 0 := by omega
    simp [f_is_word, dSs, dS, dU, dUs, mbind, mpure, seqM, fzM, varM, opM, cmpD, eqD, vB, vI, vB', U.now, U.fz, cbM, biF, retU, endF, backP, A.tag, okU, nows, iteM, boolM, asB, Pw.orM, Pw.notM, isM, itTup, itLst, itStr, itInt, itBl, itNon, Tn.is, hx, h1', wordB, h1]
end Law

set_option Elab.async false
set_option linter.all false
set_option maxRecDepth 100000
set_option maxHeartbeats 4000000
namespace Law
open PySem L2 Pw
theorem is_word_no (k : Nat) (d : D) (h : isTy T.isT d .str = some false) : runF T (k+1) "is_word" [.val d] = .ok (.val (.bl false)) [.val d] := by
  have ew : T.fns "is_word" = some f_is_word := rfl
  rw [runF_succ ew rfl]
  simp [f_is_word, dSs, dS, dU, mbind, mpure, seqM, fzM, varM, U.now, U.fz, vB', retU, endF, backP, A.tag, okU, iteM, boolM, asB, Pw.orM, Pw.notM, isM, h]
def slotW : List D := [.str "connect", .str "tell", .str "apply", .str "report", .str "confirm", .str "save", .str "halt"]
theorem ev_nt (k : Nat) (d : D) (h : isTy T.isT d .tuple = some false) : runF T (k+2) "is_event" [.val d] = .ok (.val (.bl false)) [.val d] := by
  have ew : T.fns "is_event" = some f_is_event := rfl
  rw [runF_succ ew rfl]
  simp [f_is_event, dSs, dS, dU, mbind, mpure, seqM, fzM, varM, U.now, U.fz, vB', retU, endF, backP, A.tag, okU, iteM, boolM, asB, Pw.orM, Pw.notM, isM, h]
theorem ev_nil (k : Nat) : runF T (k+2) "is_event" [.val (.tup [])] = .ok (.val (.bl false)) [.val (.tup [])] := by
  have ew : T.fns "is_event" = some f_is_event := rfl
  rw [runF_succ ew rfl]
  simp [f_is_event, dSs, dS, dU, dUs, mbind, mpure, seqM, fzM, varM, opM, cmpD, eqD, vI, cbM, biF, nows, U.now, U.fz, vB', retU, endF, backP, A.tag, okU, iteM, boolM, asB, Pw.orM, Pw.notM, isM, itTup, itLst, itStr, itInt, itBl, itNon, Tn.is]
theorem ev_ns (k : Nat) (x : D) (rest : List D) (h : isTy T.isT x .str = some false) : runF T (k+2) "is_event" [.val (.tup (x :: rest))] = .ok (.val (.bl false)) [.val (.tup (x :: rest))] := by
  have ew : T.fns "is_event" = some f_is_event := rfl
  rw [runF_succ ew rfl]
  have hn : ¬ (rest.length : Int) + 1 = 0 := by omega
  simp [f_is_event, dSs, dS, dU, dUs, dDs, dO, dI, optM, itemsD, rngD, mbind, mpure, seqM, fzM, varM, opM, binD, cmpD, eqD, vB, vI, vB', U.now, U.fz, Mo.opt, Mo.pure, Mo.none, cbM, biF, retU, putM, appM, setM, okSet, endF, backP, A.tag, A.ret, dataM, toDv, toDf, toDs, okU, nows, iteM, boolM, asB, Pw.andM, Pw.orM, Pw.notM, ixD, uD, ifOwn, intM, asI, dAs, argM, mdOf, callM, mkArgs, slots, putBack, put1, noAl, chnM, tgF, sets, isM, itTup, itLst, itStr, itInt, itBl, itNon, Tn.is, optI, slM, slD, atI, ixN, ne_connect_tell, ne_connect_apply, ne_connect_report, ne_connect_confirm, ne_connect_save, ne_connect_halt, ne_connect_log, ne_connect_stop, ne_connect_strike, ne_tell_connect, ne_tell_apply, ne_tell_report, ne_tell_confirm, ne_tell_save, ne_tell_halt, ne_tell_log, ne_tell_stop, ne_tell_strike, ne_apply_connect, ne_apply_tell, ne_apply_report, ne_apply_confirm, ne_apply_save, ne_apply_halt, ne_apply_log, ne_apply_stop, ne_apply_strike, ne_report_connect, ne_report_tell, ne_report_apply, ne_report_confirm, ne_report_save, ne_report_halt, ne_report_log, ne_report_stop, ne_report_strike, ne_confirm_connect, ne_confirm_tell, ne_confirm_apply, ne_confirm_report, ne_confirm_save, ne_confirm_halt, ne_confirm_log, ne_confirm_stop, ne_confirm_strike, ne_save_connect, ne_save_tell, ne_save_apply, ne_save_report, ne_save_confirm, ne_save_halt, ne_save_log, ne_save_stop, ne_save_strike, ne_halt_connect, ne_halt_tell, ne_halt_apply, ne_halt_report, ne_halt_confirm, ne_halt_save, ne_halt_log, ne_halt_stop, ne_halt_strike, ne_log_connect, ne_log_tell, ne_log_apply, ne_log_report, ne_log_confirm, ne_log_save, ne_log_halt, ne_log_stop, ne_log_strike, ne_stop_connect, ne_stop_tell, ne_stop_apply, ne_stop_report, ne_stop_confirm, ne_stop_save, ne_stop_halt, ne_stop_log, ne_stop_strike, ne_strike_connect, ne_strike_tell, ne_strike_apply, ne_strike_report, ne_strike_confirm, ne_strike_save, ne_strike_halt, ne_strike_log, ne_strike_stop, nz1, nz2, nz3, nz4, nz5, nz6, pz1, pz2, pz3, pz4, pz5, h, hn]
theorem ev_stop (k : Nat) (w : Str) (rest : List D) (hw : w = "stop" ∨ w = "strike") : runF T (k+2) "is_event" [.val (.tup (.str w :: rest))] = .ok (.val (.bl (decide (rest.length = 0)))) [.val (.tup (.str w :: rest))] := by
  have ew : T.fns "is_event" = some f_is_event := rfl
  rw [runF_succ ew rfl]
  have hn : ¬ (rest.length : Int) + 1 = 0 := by omega
  rcases hw with rfl | rfl <;> cases rest <;> simp [f_is_event, dSs, dS, dU, dUs, dDs, dO, dI, optM, itemsD, rngD, mbind, mpure, seqM, fzM, varM, opM, binD, cmpD, eqD, vB, vI, vB', U.now, U.fz, Mo.opt, Mo.pure, Mo.none, cbM, biF, retU, putM, appM, setM, okSet, endF, backP, A.tag, A.ret, dataM, toDv, toDf, toDs, okU, nows, iteM, boolM, asB, Pw.andM, Pw.orM, Pw.notM, ixD, uD, ifOwn, intM, asI, dAs, argM, mdOf, callM, mkArgs, slots, putBack, put1, noAl, chnM, tgF, sets, isM, itTup, itLst, itStr, itInt, itBl, itNon, Tn.is, optI, slM, slD, atI, ixN, ne_connect_tell, ne_connect_apply, ne_connect_report, ne_connect_confirm, ne_connect_save, ne_connect_halt, ne_connect_log, ne_connect_stop, ne_connect_strike, ne_tell_connect, ne_tell_apply, ne_tell_report, ne_tell_confirm, ne_tell_save, ne_tell_halt, ne_tell_log, ne_tell_stop, ne_tell_strike, ne_apply_connect, ne_apply_tell, ne_apply_report, ne_apply_confirm, ne_apply_save, ne_apply_halt, ne_apply_log, ne_apply_stop, ne_apply_strike, ne_report_connect, ne_report_tell, ne_report_apply, ne_report_confirm, ne_report_save, ne_report_halt, ne_report_log, ne_report_stop, ne_report_strike, ne_confirm_connect, ne_confirm_tell, ne_confirm_apply, ne_confirm_report, ne_confirm_save, ne_confirm_halt, ne_confirm_log, ne_confirm_stop, ne_confirm_strike, ne_save_connect, ne_save_tell, ne_save_apply, ne_save_report, ne_save_confirm, ne_save_halt, ne_save_log, ne_save_stop, ne_save_strike, ne_halt_connect, ne_halt_tell, ne_halt_apply, ne_halt_report, ne_halt_confirm, ne_halt_save, ne_halt_log, ne_halt_stop, ne_halt_strike, ne_log_connect, ne_log_tell, ne_log_apply, ne_log_report, ne_log_confirm, ne_log_save, ne_log_halt, ne_log_stop, ne_log_strike, ne_stop_connect, ne_stop_tell, ne_stop_apply, ne_stop_report, ne_stop_confirm, ne_stop_save, ne_stop_halt, ne_stop_log, ne_stop_strike, ne_strike_connect, ne_strike_tell, ne_strike_apply, ne_strike_report, ne_strike_confirm, ne_strike_save, ne_strike_halt, ne_strike_log, ne_strike_stop, nz1, nz2, nz3, nz4, nz5, nz6, pz1, pz2, pz3, pz4, pz5, hn]
theorem ev_log (k : Nat) (rest : List D) : runF T (k+2) "is_event" [.val (.tup (.str "log" :: rest))] = .ok (.val (.bl (decide (rest.length = 1)))) [.val (.tup (.str "log" :: rest))] := by
  have ew : T.fns "is_event" = some f_is_event := rfl
  rw [runF_succ ew rfl]
  have hn : ¬ (rest.length : Int) + 1 = 0 := by omega
  have h2 : decide ((rest.length : Int) + 1 = 2) = decide (rest.length = 1) := decide_eq_decide.mpr (by omega)
  simp [f_is_event, dSs, dS, dU, dUs, dDs, dO, dI, optM, itemsD, rngD, mbind, mpure, seqM, fzM, varM, opM, binD, cmpD, eqD, vB, vI, vB', U.now, U.fz, Mo.opt, Mo.pure, Mo.none, cbM, biF, retU, putM, appM, setM, okSet, endF, backP, A.tag, A.ret, dataM, toDv, toDf, toDs, okU, nows, iteM, boolM, asB, Pw.andM, Pw.orM, Pw.notM, ixD, uD, ifOwn, intM, asI, dAs, argM, mdOf, callM, mkArgs, slots, putBack, put1, noAl, chnM, tgF, sets, isM, itTup, itLst, itStr, itInt, itBl, itNon, Tn.is, optI, slM, slD, atI, ixN, ne_connect_tell, ne_connect_apply, ne_connect_report, ne_connect_confirm, ne_connect_save, ne_connect_halt, ne_connect_log, ne_connect_stop, ne_connect_strike, ne_tell_connect, ne_tell_apply, ne_tell_report, ne_tell_confirm, ne_tell_save, ne_tell_halt, ne_tell_log, ne_tell_stop, ne_tell_strike, ne_apply_connect, ne_apply_tell, ne_apply_report, ne_apply_confirm, ne_apply_save, ne_apply_halt, ne_apply_log, ne_apply_stop, ne_apply_strike, ne_report_connect, ne_report_tell, ne_report_apply, ne_report_confirm, ne_report_save, ne_report_halt, ne_report_log, ne_report_stop, ne_report_strike, ne_confirm_connect, ne_confirm_tell, ne_confirm_apply, ne_confirm_report, ne_confirm_save, ne_confirm_halt, ne_confirm_log, ne_confirm_stop, ne_confirm_strike, ne_save_connect, ne_save_tell, ne_save_apply, ne_save_report, ne_save_confirm, ne_save_halt, ne_save_log, ne_save_stop, ne_save_strike, ne_halt_connect, ne_halt_tell, ne_halt_apply, ne_halt_report, ne_halt_confirm, ne_halt_save, ne_halt_log, ne_halt_stop, ne_halt_strike, ne_log_connect, ne_log_tell, ne_log_apply, ne_log_report, ne_log_confirm, ne_log_save, ne_log_halt, ne_log_stop, ne_log_strike, ne_stop_connect, ne_stop_tell, ne_stop_apply, ne_stop_report, ne_stop_confirm, ne_stop_save, ne_stop_halt, ne_stop_log, ne_stop_strike, ne_strike_connect, ne_strike_tell, ne_strike_apply, ne_strike_report, ne_strike_confirm, ne_strike_save, ne_strike_halt, ne_strike_log, ne_strike_stop, nz1, nz2, nz3, nz4, nz5, nz6, pz1, pz2, pz3, pz4, pz5, hn, h2]
theorem flat7 : slotW.all D.flat = true := rfl
theorem ev_slot (k : Nat) (w : Str) (rest : List D) (h1 : w ≠ "stop") (h2 : w ≠ "strike") (h3 : w ≠ "log") (b : Bool) (hb : ∀ x, rest = [x] → runF T (k+1) "is_word" [.val x] = .ok (.val (.bl b)) [.val x]) :
    runF T (k+2) "is_event" [.val (.tup (.str w :: rest))] = .ok (.val (.bl ((D.str w).isIn slotW && (decide (rest.length = 1) && b)))) [.val (.tup (.str w :: rest))] := by
  have ew : T.fns "is_event" = some f_is_event := rfl
  have ed : [D.str "connect", .str "tell", .str "apply", .str "report", .str "confirm", .str "save", .str "halt"] = slotW := rfl
  have ei := T.fns "is_word"
  have ex : T.fns "is_word" = some f_is_word := rfl
  have em : f_is_word.md = [false] := rfl
  have hf := flat7
  have hw : (D.str w).flat = true := rfl
  rw [runF_succ ew rfl]
  cases hi : (D.str w).isIn slotW with
  | false =>
    have hn : ¬ (rest.length : Int) + 1 = 0 := by omega
    simp [f_is_event, dSs, dS, dU, dUs, dDs, dO, dI, optM, itemsD, rngD, mbind, mpure, seqM, fzM, varM, opM, binD, cmpD, eqD, vB, vI, vB', U.now, U.fz, Mo.opt, Mo.pure, Mo.none, cbM, biF, retU, putM, appM, setM, okSet, endF, backP, A.tag, A.ret, dataM, toDv, toDf, toDs, okU, nows, iteM, boolM, asB, Pw.andM, Pw.orM, Pw.notM, ixD, uD, ifOwn, intM, asI, dAs, argM, mdOf, callM, mkArgs, slots, putBack, put1, noAl, chnM, tgF, sets, isM, itTup, itLst, itStr, itInt, itBl, itNon, Tn.is, optI, slM, slD, atI, ixN, ne_connect_tell, ne_connect_apply, ne_connect_report, ne_connect_confirm, ne_connect_save, ne_connect_halt, ne_connect_log, ne_connect_stop, ne_connect_strike, ne_tell_connect, ne_tell_apply, ne_tell_report, ne_tell_confirm, ne_tell_save, ne_tell_halt, ne_tell_log, ne_tell_stop, ne_tell_strike, ne_apply_connect, ne_apply_tell, ne_apply_report, ne_apply_confirm, ne_apply_save, ne_apply_halt, ne_apply_log, ne_apply_stop, ne_apply_strike, ne_report_connect, ne_report_tell, ne_report_apply, ne_report_confirm, ne_report_save, ne_report_halt, ne_report_log, ne_report_stop, ne_report_strike, ne_confirm_connect, ne_confirm_tell, ne_confirm_apply, ne_confirm_report, ne_confirm_save, ne_confirm_halt, ne_confirm_log, ne_confirm_stop, ne_confirm_strike, ne_save_connect, ne_save_tell, ne_save_apply, ne_save_report, ne_save_confirm, ne_save_halt, ne_save_log, ne_save_stop, ne_save_strike, ne_halt_connect, ne_halt_tell, ne_halt_apply, ne_halt_report, ne_halt_confirm, ne_halt_save, ne_halt_log, ne_halt_stop, ne_halt_strike, ne_log_connect, ne_log_tell, ne_log_apply, ne_log_report, ne_log_confirm, ne_log_save, ne_log_halt, ne_log_stop, ne_log_strike, ne_stop_connect, ne_stop_tell, ne_stop_apply, ne_stop_report, ne_stop_confirm, ne_stop_save, ne_stop_halt, ne_stop_log, ne_stop_strike, ne_strike_connect, ne_strike_tell, ne_strike_apply, ne_strike_report, ne_strike_confirm, ne_strike_save, ne_strike_halt, ne_strike_log, ne_strike_stop, nz1, nz2, nz3, nz4, nz5, nz6, pz1, pz2, pz3, pz4, pz5, inD, ed, hf, hw, hi, h1, h2, h3, hn]
  | true =>
    match rest, hb with
    | [], _ => simp [f_is_event, dSs, dS, dU, dUs, dDs, dO, dI, optM, itemsD, rngD, mbind, mpure, seqM, fzM, varM, opM, binD, cmpD, eqD, vB, vI, vB', U.now, U.fz, Mo.opt, Mo.pure, Mo.none, cbM, biF, retU, putM, appM, setM, okSet, endF, backP, A.tag, A.ret, dataM, toDv, toDf, toDs, okU, nows, iteM, boolM, asB, Pw.andM, Pw.orM, Pw.notM, ixD, uD, ifOwn, intM, asI, dAs, argM, mdOf, callM, mkArgs, slots, putBack, put1, noAl, chnM, tgF, sets, isM, itTup, itLst, itStr, itInt, itBl, itNon, Tn.is, optI, slM, slD, atI, ixN, ne_connect_tell, ne_connect_apply, ne_connect_report, ne_connect_confirm, ne_connect_save, ne_connect_halt, ne_connect_log, ne_connect_stop, ne_connect_strike, ne_tell_connect, ne_tell_apply, ne_tell_report, ne_tell_confirm, ne_tell_save, ne_tell_halt, ne_tell_log, ne_tell_stop, ne_tell_strike, ne_apply_connect, ne_apply_tell, ne_apply_report, ne_apply_confirm, ne_apply_save, ne_apply_halt, ne_apply_log, ne_apply_stop, ne_apply_strike, ne_report_connect, ne_report_tell, ne_report_apply, ne_report_confirm, ne_report_save, ne_report_halt, ne_report_log, ne_report_stop, ne_report_strike, ne_confirm_connect, ne_confirm_tell, ne_confirm_apply, ne_confirm_report, ne_confirm_save, ne_confirm_halt, ne_confirm_log, ne_confirm_stop, ne_confirm_strike, ne_save_connect, ne_save_tell, ne_save_apply, ne_save_report, ne_save_confirm, ne_save_halt, ne_save_log, ne_save_stop, ne_save_strike, ne_halt_connect, ne_halt_tell, ne_halt_apply, ne_halt_report, ne_halt_confirm, ne_halt_save, ne_halt_log, ne_halt_stop, ne_halt_strike, ne_log_connect, ne_log_tell, ne_log_apply, ne_log_report, ne_log_confirm, ne_log_save, ne_log_halt, ne_log_stop, ne_log_strike, ne_stop_connect, ne_stop_tell, ne_stop_apply, ne_stop_report, ne_stop_confirm, ne_stop_save, ne_stop_halt, ne_stop_log, ne_stop_strike, ne_strike_connect, ne_strike_tell, ne_strike_apply, ne_strike_report, ne_strike_confirm, ne_strike_save, ne_strike_halt, ne_strike_log, ne_strike_stop, nz1, nz2, nz3, nz4, nz5, nz6, pz1, pz2, pz3, pz4, pz5, inD, ed, hf, hw, hi, h1, h2, h3]
    | [x], hb =>
      have hx := hb x rfl
      simp [f_is_event, dSs, dS, dU, dUs, dDs, dO, dI, optM, itemsD, rngD, mbind, mpure, seqM, fzM, varM, opM, binD, cmpD, eqD, vB, vI, vB', U.now, U.fz, Mo.opt, Mo.pure, Mo.none, cbM, biF, retU, putM, appM, setM, okSet, endF, backP, A.tag, A.ret, dataM, toDv, toDf, toDs, okU, nows, iteM, boolM, asB, Pw.andM, Pw.orM, Pw.notM, ixD, uD, ifOwn, intM, asI, dAs, argM, mdOf, callM, mkArgs, slots, putBack, put1, noAl, chnM, tgF, sets, isM, itTup, itLst, itStr, itInt, itBl, itNon, Tn.is, optI, slM, slD, atI, ixN, ne_connect_tell, ne_connect_apply, ne_connect_report, ne_connect_confirm, ne_connect_save, ne_connect_halt, ne_connect_log, ne_connect_stop, ne_connect_strike, ne_tell_connect, ne_tell_apply, ne_tell_report, ne_tell_confirm, ne_tell_save, ne_tell_halt, ne_tell_log, ne_tell_stop, ne_tell_strike, ne_apply_connect, ne_apply_tell, ne_apply_report, ne_apply_confirm, ne_apply_save, ne_apply_halt, ne_apply_log, ne_apply_stop, ne_apply_strike, ne_report_connect, ne_report_tell, ne_report_apply, ne_report_confirm, ne_report_save, ne_report_halt, ne_report_log, ne_report_stop, ne_report_strike, ne_confirm_connect, ne_confirm_tell, ne_confirm_apply, ne_confirm_report, ne_confirm_save, ne_confirm_halt, ne_confirm_log, ne_confirm_stop, ne_confirm_strike, ne_save_connect, ne_save_tell, ne_save_apply, ne_save_report, ne_save_confirm, ne_save_halt, ne_save_log, ne_save_stop, ne_save_strike, ne_halt_connect, ne_halt_tell, ne_halt_apply, ne_halt_report, ne_halt_confirm, ne_halt_save, ne_halt_log, ne_halt_stop, ne_halt_strike, ne_log_connect, ne_log_tell, ne_log_apply, ne_log_report, ne_log_confirm, ne_log_save, ne_log_halt, ne_log_stop, ne_log_strike, ne_stop_connect, ne_stop_tell, ne_stop_apply, ne_stop_report, ne_stop_confirm, ne_stop_save, ne_stop_halt, ne_stop_log, ne_stop_strike, ne_strike_connect, ne_strike_tell, ne_strike_apply, ne_strike_report, ne_strike_confirm, ne_strike_save, ne_strike_halt, ne_strike_log, ne_strike_stop, nz1, nz2, nz3, nz4, nz5, nz6, pz1, pz2, pz3, pz4, pz5, inD, ed, hf, hw, hi, h1, h2, h3, hx, ex, em]
    | x :: y :: rest, _ =>
      have hn : ¬ (rest.length : Int) + 1 + 1 + 1 = 0 := by omega
      have hn2 : ¬ (rest.length : Int) + 1 + 1 + 1 = 2 := by omega
      simp [f_is_event, dSs, dS, dU, dUs, dDs, dO, dI, optM, itemsD, rngD, mbind, mpure, seqM, fzM, varM, opM, binD, cmpD, eqD, vB, vI, vB', U.now, U.fz, Mo.opt, Mo.pure, Mo.none, cbM, biF, retU, putM, appM, setM, okSet, endF, backP, A.tag, A.ret, dataM, toDv, toDf, toDs, okU, nows, iteM, boolM, asB, Pw.andM, Pw.orM, Pw.notM, ixD, uD, ifOwn, intM, asI, dAs, argM, mdOf, callM, mkArgs, slots, putBack, put1, noAl, chnM, tgF, sets, isM, itTup, itLst, itStr, itInt, itBl, itNon, Tn.is, optI, slM, slD, atI, ixN, ne_connect_tell, ne_connect_apply, ne_connect_report, ne_connect_confirm, ne_connect_save, ne_connect_halt, ne_connect_log, ne_connect_stop, ne_connect_strike, ne_tell_connect, ne_tell_apply, ne_tell_report, ne_tell_confirm, ne_tell_save, ne_tell_halt, ne_tell_log, ne_tell_stop, ne_tell_strike, ne_apply_connect, ne_apply_tell, ne_apply_report, ne_apply_confirm, ne_apply_save, ne_apply_halt, ne_apply_log, ne_apply_stop, ne_apply_strike, ne_report_connect, ne_report_tell, ne_report_apply, ne_report_confirm, ne_report_save, ne_report_halt, ne_report_log, ne_report_stop, ne_report_strike, ne_confirm_connect, ne_confirm_tell, ne_confirm_apply, ne_confirm_report, ne_confirm_save, ne_confirm_halt, ne_confirm_log, ne_confirm_stop, ne_confirm_strike, ne_save_connect, ne_save_tell, ne_save_apply, ne_save_report, ne_save_confirm, ne_save_halt, ne_save_log, ne_save_stop, ne_save_strike, ne_halt_connect, ne_halt_tell, ne_halt_apply, ne_halt_report, ne_halt_confirm, ne_halt_save, ne_halt_log, ne_halt_stop, ne_halt_strike, ne_log_connect, ne_log_tell, ne_log_apply, ne_log_report, ne_log_confirm, ne_log_save, ne_log_halt, ne_log_stop, ne_log_strike, ne_stop_connect, ne_stop_tell, ne_stop_apply, ne_stop_report, ne_stop_confirm, ne_stop_save, ne_stop_halt, ne_stop_log, ne_stop_strike, ne_strike_connect, ne_strike_tell, ne_strike_apply, ne_strike_report, ne_strike_confirm, ne_strike_save, ne_strike_halt, ne_strike_log, ne_strike_stop, nz1, nz2, nz3, nz4, nz5, nz6, pz1, pz2, pz3, pz4, pz5, inD, ed, hf, hw, hi, h1, h2, h3, hn, hn2]
end Law

set_option Elab.async false
set_option linter.all false
set_option maxRecDepth 100000
set_option maxHeartbeats 4000000
namespace Law
open PySem L2 Pw
/-! ### apart -/
theorem rseA (C f : Str) (m : Mo (List D)) (r : List A) : rseM C f m r = (match m r with
    | .no => .no
    | .ok ds r1 => .ex ⟨C, [f], ds⟩ r1
    | .ex e r1 => .ex e r1) := by
  show Mo.bind m (fun ds r => (.ex ⟨C, [f], ds⟩ r : Res Fl)) r = _
  unfold Mo.bind
  cases m r <;> rfl
def IsEv (k : Nat) (d : D) (b : Bool) : Prop := runF T k "is_event" [.val d] = .ok (.val (.bl b)) [.val d]
def badE (d : D) : Er := ⟨"BadEvent", ["event"], [d]⟩
theorem check_ok (k : Nat) (d : D) (h : IsEv k d true) : runF T (k+1) "check_event" [.val d] = .ok (.val .non) [.val d] := by
  have ew : T.fns "check_event" = some f_check_event := rfl
  have ex : T.fns "is_event" = some f_is_event := rfl
  have em : f_is_event.md = [false] := rfl
  rw [runF_succ ew rfl]
  have h' : runF T k "is_event" [.val d] = .ok (.val (.bl true)) [.val d] := h
  simp [f_check_event, dSs, dS, dU, dUs, dDs, dO, dI, optM, itemsD, rngD, mbind, mpure, seqM, fzM, varM, opM, binD, cmpD, eqD, vB, vI, vB', U.now, U.fz, Mo.opt, Mo.pure, Mo.none, cbM, biF, retU, putM, appM, setM, okSet, endF, backP, A.tag, A.ret, dataM, toDv, toDf, toDs, okU, nows, iteM, boolM, asB, Pw.andM, Pw.orM, Pw.notM, ixD, uD, ifOwn, intM, asI, dAs, argM, mdOf, callM, mkArgs, slots, putBack, put1, noAl, chnM, tgF, sets, isM, itTup, itLst, itStr, itInt, itBl, itNon, Tn.is, optI, slM, slD, atI, ixN, h', ex, em]
theorem check_bad (k : Nat) (d : D) (h : IsEv k d false) : runF T (k+1) "check_event" [.val d] = .ex (badE d) [.val d] := by
  have ew : T.fns "check_event" = some f_check_event := rfl
  have ex : T.fns "is_event" = some f_is_event := rfl
  have em : f_is_event.md = [false] := rfl
  rw [runF_succ ew rfl]
  have h' : runF T k "is_event" [.val d] = .ok (.val (.bl false)) [.val d] := h
  have he : T.errs "BadEvent" = some "event" := rfl
  simp [f_check_event, dSs, dS, dU, dUs, dDs, dO, dI, optM, itemsD, rngD, mbind, mpure, seqM, fzM, varM, opM, binD, cmpD, eqD, vB, vI, vB', U.now, U.fz, Mo.opt, Mo.pure, Mo.none, cbM, biF, retU, putM, appM, setM, okSet, endF, backP, A.tag, A.ret, dataM, toDv, toDf, toDs, okU, nows, iteM, boolM, asB, Pw.andM, Pw.orM, Pw.notM, ixD, uD, ifOwn, intM, asI, dAs, argM, mdOf, callM, mkArgs, slots, putBack, put1, noAl, chnM, tgF, sets, isM, itTup, itLst, itStr, itInt, itBl, itNon, Tn.is, optI, slM, slD, atI, ixN, h', ex, em, he, rseA, badE]
theorem apart_bad1 (k : Nat) (d e : D) (h : IsEv k d false) : runF T (k+2) "apart" [.val d, .val e] = .ex (badE d) [.val d, .val e] := by
  have ew : T.fns "apart" = some f_apart := rfl
  have ex : T.fns "check_event" = some f_check_event := rfl
  have em : f_check_event.md = [false] := rfl
  rw [runF_succ ew rfl]
  simp [f_apart, dSs, dS, dU, dUs, dDs, dO, dI, optM, itemsD, rngD, mbind, mpure, seqM, fzM, varM, opM, binD, cmpD, eqD, vB, vI, vB', U.now, U.fz, Mo.opt, Mo.pure, Mo.none, cbM, biF, retU, putM, appM, setM, okSet, endF, backP, A.tag, A.ret, dataM, toDv, toDf, toDs, okU, nows, iteM, boolM, asB, Pw.andM, Pw.orM, Pw.notM, ixD, uD, ifOwn, intM, asI, dAs, argM, mdOf, callM, mkArgs, slots, putBack, put1, noAl, chnM, tgF, sets, isM, itTup, itLst, itStr, itInt, itBl, itNon, Tn.is, optI, slM, slD, atI, ixN, check_bad k d h, ex, em]
theorem apart_bad2 (k : Nat) (d e : D) (h0 : IsEv k d true) (h : IsEv k e false) : runF T (k+2) "apart" [.val d, .val e] = .ex (badE e) [.val d, .val e] := by
  have ew : T.fns "apart" = some f_apart := rfl
  have ex : T.fns "check_event" = some f_check_event := rfl
  have em : f_check_event.md = [false] := rfl
  rw [runF_succ ew rfl]
  simp [f_apart, dSs, dS, dU, dUs, dDs, dO, dI, optM, itemsD, rngD, mbind, mpure, seqM, fzM, varM, opM, binD, cmpD, eqD, vB, vI, vB', U.now, U.fz, Mo.opt, Mo.pure, Mo.none, cbM, biF, retU, putM, appM, setM, okSet, endF, backP, A.tag, A.ret, dataM, toDv, toDf, toDs, okU, nows, iteM, boolM, asB, Pw.andM, Pw.orM, Pw.notM, ixD, uD, ifOwn, intM, asI, dAs, argM, mdOf, callM, mkArgs, slots, putBack, put1, noAl, chnM, tgF, sets, isM, itTup, itLst, itStr, itInt, itBl, itNon, Tn.is, optI, slM, slD, atI, ixN, check_bad k e h, check_ok k d h0, ex, em]
theorem apart_ok (k : Nat) (d e : D) (b : Bool) (h0 : IsEv k d true) (h : IsEv k e true) (h2 : runF T (k+1) "events_apart" [.val d, .val e] = .ok (.val (.bl b)) [.val d, .val e]) : runF T (k+2) "apart" [.val d, .val e] = .ok (.val (.bl b)) [.val d, .val e] := by
  have ew : T.fns "apart" = some f_apart := rfl
  have ex : T.fns "check_event" = some f_check_event := rfl
  have em : f_check_event.md = [false] := rfl
  have ex2 : T.fns "events_apart" = some f_events_apart := rfl
  have em2 : f_events_apart.md = [false, false] := rfl
  rw [runF_succ ew rfl]
  simp [f_apart, dSs, dS, dU, dUs, dDs, dO, dI, optM, itemsD, rngD, mbind, mpure, seqM, fzM, varM, opM, binD, cmpD, eqD, vB, vI, vB', U.now, U.fz, Mo.opt, Mo.pure, Mo.none, cbM, biF, retU, putM, appM, setM, okSet, endF, backP, A.tag, A.ret, dataM, toDv, toDf, toDs, okU, nows, iteM, boolM, asB, Pw.andM, Pw.orM, Pw.notM, ixD, uD, ifOwn, intM, asI, dAs, argM, mdOf, callM, mkArgs, slots, putBack, put1, noAl, chnM, tgF, sets, isM, itTup, itLst, itStr, itInt, itBl, itNon, Tn.is, optI, slM, slD, atI, ixN, check_ok k e h, check_ok k d h0, ex, em, ex2, em2, h2]
def shW : List D := [.str "log", .str "stop", .str "strike"]
def inSh (w : Str) : Bool := (D.str w).isIn shW
theorem flSh : shW.all D.flat = true := rfl
theorem ea_diff (k : Nat) (w1 w2 x y : Str) (h1 : inSh w1 = false) (h2 : inSh w2 = false) (hxy : x ≠ y) : runF T (k+1) "events_apart" [.val (.tup [.str w1, .str x]), .val (.tup [.str w2, .str y])] = .ok (.val (.bl true)) [.val (.tup [.str w1, .str x]), .val (.tup [.str w2, .str y])] := by
  have ew : T.fns "events_apart" = some f_events_apart := rfl
  rw [runF_succ ew rfl]
  have ed : [D.str "log", .str "stop", .str "strike"] = shW := rfl
  have hf := flSh
  have g1 : (D.str w1).flat = true := rfl
  have g2 : (D.str w2).flat = true := rfl
  have h1' : (D.str w1).isIn shW = false := h1
  have h2' : (D.str w2).isIn shW = false := h2
  simp [f_events_apart, dSs, dS, dU, dUs, dDs, dO, dI, optM, itemsD, rngD, mbind, mpure, seqM, fzM, varM, opM, binD, cmpD, eqD, vB, vI, vB', U.now, U.fz, Mo.opt, Mo.pure, Mo.none, cbM, biF, retU, putM, appM, setM, okSet, endF, backP, A.tag, A.ret, dataM, toDv, toDf, toDs, okU, nows, iteM, boolM, asB, Pw.andM, Pw.orM, Pw.notM, ixD, uD, ifOwn, intM, asI, dAs, argM, mdOf, callM, mkArgs, slots, putBack, put1, noAl, chnM, tgF, sets, isM, itTup, itLst, itStr, itInt, itBl, itNon, Tn.is, optI, slM, slD, atI, ixN, inD, ed, hf, g1, g2, h1', h2', hxy]
theorem ea_tab (k : Nat) (w1 w2 : Str) (r1 r2 es : List D) (hc : inSh w1 = true ∨ inSh w2 = true ∨ ∃ x, r1 = [.str x] ∧ r2 = [.str x]) (ht : (T.tabs 0).lookup w1 = some (.tup es)) (hfe : es.all D.flat = true) :
    runF T (k+1) "events_apart" [.val (.tup (.str w1 :: r1)), .val (.tup (.str w2 :: r2))] = .ok (.val (.bl ((D.str w2).isIn es))) [.val (.tup (.str w1 :: r1)), .val (.tup (.str w2 :: r2))] := by
  have ew : T.fns "events_apart" = some f_events_apart := rfl
  rw [runF_succ ew rfl]
  have ed : [D.str "log", .str "stop", .str "strike"] = shW := rfl
  have hf := flSh
  have g1 : (D.str w1).flat = true := rfl
  have g2 : (D.str w2).flat = true := rfl
  cases h1 : (D.str w1).isIn shW with
  | true => simp [f_events_apart, dSs, dS, dU, dUs, dDs, dO, dI, optM, itemsD, rngD, mbind, mpure, seqM, fzM, varM, opM, binD, cmpD, eqD, vB, vI, vB', U.now, U.fz, Mo.opt, Mo.pure, Mo.none, cbM, biF, retU, putM, appM, setM, okSet, endF, backP, A.tag, A.ret, dataM, toDv, toDf, toDs, okU, nows, iteM, boolM, asB, Pw.andM, Pw.orM, Pw.notM, ixD, uD, ifOwn, intM, asI, dAs, argM, mdOf, callM, mkArgs, slots, putBack, put1, noAl, chnM, tgF, sets, isM, itTup, itLst, itStr, itInt, itBl, itNon, Tn.is, optI, slM, slD, atI, ixN, ne_connect_tell, ne_connect_apply, ne_connect_report, ne_connect_confirm, ne_connect_save, ne_connect_halt, ne_connect_log, ne_connect_stop, ne_connect_strike, ne_tell_connect, ne_tell_apply, ne_tell_report, ne_tell_confirm, ne_tell_save, ne_tell_halt, ne_tell_log, ne_tell_stop, ne_tell_strike, ne_apply_connect, ne_apply_tell, ne_apply_report, ne_apply_confirm, ne_apply_save, ne_apply_halt, ne_apply_log, ne_apply_stop, ne_apply_strike, ne_report_connect, ne_report_tell, ne_report_apply, ne_report_confirm, ne_report_save, ne_report_halt, ne_report_log, ne_report_stop, ne_report_strike, ne_confirm_connect, ne_confirm_tell, ne_confirm_apply, ne_confirm_report, ne_confirm_save, ne_confirm_halt, ne_confirm_log, ne_confirm_stop, ne_confirm_strike, ne_save_connect, ne_save_tell, ne_save_apply, ne_save_report, ne_save_confirm, ne_save_halt, ne_save_log, ne_save_stop, ne_save_strike, ne_halt_connect, ne_halt_tell, ne_halt_apply, ne_halt_report, ne_halt_confirm, ne_halt_save, ne_halt_log, ne_halt_stop, ne_halt_strike, ne_log_connect, ne_log_tell, ne_log_apply, ne_log_report, ne_log_confirm, ne_log_save, ne_log_halt, ne_log_stop, ne_log_strike, ne_stop_connect, ne_stop_tell, ne_stop_apply, ne_stop_report, ne_stop_confirm, ne_stop_save, ne_stop_halt, ne_stop_log, ne_stop_strike, ne_strike_connect, ne_strike_tell, ne_strike_apply, ne_strike_report, ne_strike_confirm, ne_strike_save, ne_strike_halt, ne_strike_log, ne_strike_stop, nz1, nz2, nz3, nz4, nz5, nz6, pz1, pz2, pz3, pz4, pz5, inD, ed, hf, g1, g2, h1, ht, hfe]
  | false =>
    cases h2 : (D.str w2).isIn shW with
    | true => simp [f_events_apart, dSs, dS, dU, dUs, dDs, dO, dI, optM, itemsD, rngD, mbind, mpure, seqM, fzM, varM, opM, binD, cmpD, eqD, vB, vI, vB', U.now, U.fz, Mo.opt, Mo.pure, Mo.none, cbM, biF, retU, putM, appM, setM, okSet, endF, backP, A.tag, A.ret, dataM, toDv, toDf, toDs, okU, nows, iteM, boolM, asB, Pw.andM, Pw.orM, Pw.notM, ixD, uD, ifOwn, intM, asI, dAs, argM, mdOf, callM, mkArgs, slots, putBack, put1, noAl, chnM, tgF, sets, isM, itTup, itLst, itStr, itInt, itBl, itNon, Tn.is, optI, slM, slD, atI, ixN, ne_connect_tell, ne_connect_apply, ne_connect_report, ne_connect_confirm, ne_connect_save, ne_connect_halt, ne_connect_log, ne_connect_stop, ne_connect_strike, ne_tell_connect, ne_tell_apply, ne_tell_report, ne_tell_confirm, ne_tell_save, ne_tell_halt, ne_tell_log, ne_tell_stop, ne_tell_strike, ne_apply_connect, ne_apply_tell, ne_apply_report, ne_apply_confirm, ne_apply_save, ne_apply_halt, ne_apply_log, ne_apply_stop, ne_apply_strike, ne_report_connect, ne_report_tell, ne_report_apply, ne_report_confirm, ne_report_save, ne_report_halt, ne_report_log, ne_report_stop, ne_report_strike, ne_confirm_connect, ne_confirm_tell, ne_confirm_apply, ne_confirm_report, ne_confirm_save, ne_confirm_halt, ne_confirm_log, ne_confirm_stop, ne_confirm_strike, ne_save_connect, ne_save_tell, ne_save_apply, ne_save_report, ne_save_confirm, ne_save_halt, ne_save_log, ne_save_stop, ne_save_strike, ne_halt_connect, ne_halt_tell, ne_halt_apply, ne_halt_report, ne_halt_confirm, ne_halt_save, ne_halt_log, ne_halt_stop, ne_halt_strike, ne_log_connect, ne_log_tell, ne_log_apply, ne_log_report, ne_log_confirm, ne_log_save, ne_log_halt, ne_log_stop, ne_log_strike, ne_stop_connect, ne_stop_tell, ne_stop_apply, ne_stop_report, ne_stop_confirm, ne_stop_save, ne_stop_halt, ne_stop_log, ne_stop_strike, ne_strike_connect, ne_strike_tell, ne_strike_apply, ne_strike_report, ne_strike_confirm, ne_strike_save, ne_strike_halt, ne_strike_log, ne_strike_stop, nz1, nz2, nz3, nz4, nz5, nz6, pz1, pz2, pz3, pz4, pz5, inD, ed, hf, g1, g2, h1, h2, ht, hfe]
    | false =>
      rcases hc with q | q | ⟨x, rfl, rfl⟩
      · rw [show inSh w1 = false from h1] at q; cases q
      · rw [show inSh w2 = false from h2] at q; cases q
      · simp [f_events_apart, dSs, dS, dU, dUs, dDs, dO, dI, optM, itemsD, rngD, mbind, mpure, seqM, fzM, varM, opM, binD, cmpD, eqD, vB, vI, vB', U.now, U.fz, Mo.opt, Mo.pure, Mo.none, cbM, biF, retU, putM, appM, setM, okSet, endF, backP, A.tag, A.ret, dataM, toDv, toDf, toDs, okU, nows, iteM, boolM, asB, Pw.andM, Pw.orM, Pw.notM, ixD, uD, ifOwn, intM, asI, dAs, argM, mdOf, callM, mkArgs, slots, putBack, put1, noAl, chnM, tgF, sets, isM, itTup, itLst, itStr, itInt, itBl, itNon, Tn.is, optI, slM, slD, atI, ixN, ne_connect_tell, ne_connect_apply, ne_connect_report, ne_connect_confirm, ne_connect_save, ne_connect_halt, ne_connect_log, ne_connect_stop, ne_connect_strike, ne_tell_connect, ne_tell_apply, ne_tell_report, ne_tell_confirm, ne_tell_save, ne_tell_halt, ne_tell_log, ne_tell_stop, ne_tell_strike, ne_apply_connect, ne_apply_tell, ne_apply_report, ne_apply_confirm, ne_apply_save, ne_apply_halt, ne_apply_log, ne_apply_stop, ne_apply_strike, ne_report_connect, ne_report_tell, ne_report_apply, ne_report_confirm, ne_report_save, ne_report_halt, ne_report_log, ne_report_stop, ne_report_strike, ne_confirm_connect, ne_confirm_tell, ne_confirm_apply, ne_confirm_report, ne_confirm_save, ne_confirm_halt, ne_confirm_log, ne_confirm_stop, ne_confirm_strike, ne_save_connect, ne_save_tell, ne_save_apply, ne_save_report, ne_save_confirm, ne_save_halt, ne_save_log, ne_save_stop, ne_save_strike, ne_halt_connect, ne_halt_tell, ne_halt_apply, ne_halt_report, ne_halt_confirm, ne_halt_save, ne_halt_log, ne_halt_stop, ne_halt_strike, ne_log_connect, ne_log_tell, ne_log_apply, ne_log_report, ne_log_confirm, ne_log_save, ne_log_halt, ne_log_stop, ne_log_strike, ne_stop_connect, ne_stop_tell, ne_stop_apply, ne_stop_report, ne_stop_confirm, ne_stop_save, ne_stop_halt, ne_stop_log, ne_stop_strike, ne_strike_connect, ne_strike_tell, ne_strike_apply, ne_strike_report, ne_strike_confirm, ne_strike_save, ne_strike_halt, ne_strike_log, ne_strike_stop, nz1, nz2, nz3, nz4, nz5, nz6, pz1, pz2, pz3, pz4, pz5, inD, ed, hf, g1, g2, h1, h2, ht, hfe]
/-! ### the law's table -/
def rowsL : List (Str × List D) := [("save", [.str "connect", .str "tell", .str "apply", .str "report", .str "halt", .str "log"]), ("confirm", [.str "tell", .str "apply", .str "halt", .str "strike"]), ("log", [.str "connect", .str "apply", .str "report", .str "halt", .str "stop", .str "strike"]), ("strike", [.str "connect", .str "apply", .str "report", .str "halt", .str "stop"]), ("stop", [.str "apply"])]
def rowD (x : Str × List D) : D := .tup [.str x.1, .lst x.2]
theorem law_rows (k : Nat) : runF T (k+1) "_law_apart_rows" [] = .ok (.fresh (rowsL.map rowD)) [] := by
  have ew : T.fns "_law_apart_rows" = some f_law_apart_rows := rfl
  rw [runF_succ ew rfl]
  simp [f_law_apart_rows, dSs, dS, dU, dUs, dDs, dO, dI, optM, itemsD, rngD, mbind, mpure, seqM, fzM, varM, opM, binD, cmpD, eqD, vB, vI, vB', U.now, U.fz, Mo.opt, Mo.pure, Mo.none, cbM, biF, retU, putM, appM, setM, okSet, endF, backP, A.tag, A.ret, dataM, toDv, toDf, toDs, okU, nows, iteM, boolM, asB, Pw.andM, Pw.orM, Pw.notM, ixD, uD, ifOwn, intM, asI, dAs, argM, mdOf, callM, mkArgs, slots, putBack, put1, noAl, chnM, tgF, sets, isM, itTup, itLst, itStr, itInt, itBl, itNon, Tn.is, optI, slM, slD, atI, ixN, rowsL, rowD]
def rowP (w1 w2 : Str) (x : Str × List D) : Bool := (decide (w1 = x.1) && (D.str w2).isIn x.2) || (decide (w2 = x.1) && (D.str w1).isIn x.2)
def rowQ (w1 w2 : Str) : D → Bool
  | .tup [.str a, .lst bs] => rowP w1 w2 (a, bs)
  | _ => false
def laT (w1 w2 : Str) : Bool := rowsL.any (rowP w1 w2)
theorem row_turn (k : Nat) (w1 w2 a : Str) (r1 r2 bs : List D) (hf : bs.all D.flat = true) (sh : A) :
    dSs T (runF T k) l_law_apart_1 [.val (.tup (.str w1 :: r1)), .val (.tup (.str w2 :: r2)), sh, .val (.tup [.str a, .lst bs])] =
      .ok (if rowP w1 w2 (a, bs) = true then .rt (.val (.bl true)) else .nx) [.val (.tup (.str w1 :: r1)), .val (.tup (.str w2 :: r2)), sh, .val (.tup [.str a, .lst bs])] := by
  have g1 : (D.str w1).flat = true := rfl
  have g2 : (D.str w2).flat = true := rfl
  unfold rowP
  by_cases c1 : w1 = a
  · cases i1 : (D.str w2).isIn bs with
    | true => simp [l_law_apart_1, dSs, dS, dU, dUs, dDs, dO, dI, optM, itemsD, rngD, mbind, mpure, seqM, fzM, varM, opM, binD, cmpD, eqD, vB, vI, vB', U.now, U.fz, Mo.opt, Mo.pure, Mo.none, cbM, biF, retU, putM, appM, setM, okSet, endF, backP, A.tag, A.ret, dataM, toDv, toDf, toDs, okU, nows, iteM, boolM, asB, Pw.andM, Pw.orM, Pw.notM, ixD, uD, ifOwn, intM, asI, dAs, argM, mdOf, callM, mkArgs, slots, putBack, put1, noAl, chnM, tgF, sets, isM, itTup, itLst, itStr, itInt, itBl, itNon, Tn.is, optI, slM, slD, atI, ixN, ne_connect_tell, ne_connect_apply, ne_connect_report, ne_connect_confirm, ne_connect_save, ne_connect_halt, ne_connect_log, ne_connect_stop, ne_connect_strike, ne_tell_connect, ne_tell_apply, ne_tell_report, ne_tell_confirm, ne_tell_save, ne_tell_halt, ne_tell_log, ne_tell_stop, ne_tell_strike, ne_apply_connect, ne_apply_tell, ne_apply_report, ne_apply_confirm, ne_apply_save, ne_apply_halt, ne_apply_log, ne_apply_stop, ne_apply_strike, ne_report_connect, ne_report_tell, ne_report_apply, ne_report_confirm, ne_report_save, ne_report_halt, ne_report_log, ne_report_stop, ne_report_strike, ne_confirm_connect, ne_confirm_tell, ne_confirm_apply, ne_confirm_report, ne_confirm_save, ne_confirm_halt, ne_confirm_log, ne_confirm_stop, ne_confirm_strike, ne_save_connect, ne_save_tell, ne_save_apply, ne_save_report, ne_save_confirm, ne_save_halt, ne_save_log, ne_save_stop, ne_save_strike, ne_halt_connect, ne_halt_tell, ne_halt_apply, ne_halt_report, ne_halt_confirm, ne_halt_save, ne_halt_log, ne_halt_stop, ne_halt_strike, ne_log_connect, ne_log_tell, ne_log_apply, ne_log_report, ne_log_confirm, ne_log_save, ne_log_halt, ne_log_stop, ne_log_strike, ne_stop_connect, ne_stop_tell, ne_stop_apply, ne_stop_report, ne_stop_confirm, ne_stop_save, ne_stop_halt, ne_stop_log, ne_stop_strike, ne_strike_connect, ne_strike_tell, ne_strike_apply, ne_strike_report, ne_strike_confirm, ne_strike_save, ne_strike_halt, ne_strike_log, ne_strike_stop, nz1, nz2, nz3, nz4, nz5, nz6, pz1, pz2, pz3, pz4, pz5, inD, g1, g2, hf, c1, i1]
    | false =>
      by_cases c2 : w2 = a
      · cases i2 : (D.str w1).isIn bs with
        | true => subst c1; simp [l_law_apart_1, dSs, dS, dU, dUs, dDs, dO, dI, optM, itemsD, rngD, mbind, mpure, seqM, fzM, varM, opM, binD, cmpD, eqD, vB, vI, vB', U.now, U.fz, Mo.opt, Mo.pure, Mo.none, cbM, biF, retU, putM, appM, setM, okSet, endF, backP, A.tag, A.ret, dataM, toDv, toDf, toDs, okU, nows, iteM, boolM, asB, Pw.andM, Pw.orM, Pw.notM, ixD, uD, ifOwn, intM, asI, dAs, argM, mdOf, callM, mkArgs, slots, putBack, put1, noAl, chnM, tgF, sets, isM, itTup, itLst, itStr, itInt, itBl, itNon, Tn.is, optI, slM, slD, atI, ixN, ne_connect_tell, ne_connect_apply, ne_connect_report, ne_connect_confirm, ne_connect_save, ne_connect_halt, ne_connect_log, ne_connect_stop, ne_connect_strike, ne_tell_connect, ne_tell_apply, ne_tell_report, ne_tell_confirm, ne_tell_save, ne_tell_halt, ne_tell_log, ne_tell_stop, ne_tell_strike, ne_apply_connect, ne_apply_tell, ne_apply_report, ne_apply_confirm, ne_apply_save, ne_apply_halt, ne_apply_log, ne_apply_stop, ne_apply_strike, ne_report_connect, ne_report_tell, ne_report_apply, ne_report_confirm, ne_report_save, ne_report_halt, ne_report_log, ne_report_stop, ne_report_strike, ne_confirm_connect, ne_confirm_tell, ne_confirm_apply, ne_confirm_report, ne_confirm_save, ne_confirm_halt, ne_confirm_log, ne_confirm_stop, ne_confirm_strike, ne_save_connect, ne_save_tell, ne_save_apply, ne_save_report, ne_save_confirm, ne_save_halt, ne_save_log, ne_save_stop, ne_save_strike, ne_halt_connect, ne_halt_tell, ne_halt_apply, ne_halt_report, ne_halt_confirm, ne_halt_save, ne_halt_log, ne_halt_stop, ne_halt_strike, ne_log_connect, ne_log_tell, ne_log_apply, ne_log_report, ne_log_confirm, ne_log_save, ne_log_halt, ne_log_stop, ne_log_strike, ne_stop_connect, ne_stop_tell, ne_stop_apply, ne_stop_report, ne_stop_confirm, ne_stop_save, ne_stop_halt, ne_stop_log, ne_stop_strike, ne_strike_connect, ne_strike_tell, ne_strike_apply, ne_strike_report, ne_strike_confirm, ne_strike_save, ne_strike_halt, ne_strike_log, ne_strike_stop, nz1, nz2, nz3, nz4, nz5, nz6, pz1, pz2, pz3, pz4, pz5, inD, g1, g2, hf, i1, c2, i2]
        | false => subst c1; simp [l_law_apart_1, dSs, dS, dU, dUs, dDs, dO, dI, optM, itemsD, rngD, mbind, mpure, seqM, fzM, varM, opM, binD, cmpD, eqD, vB, vI, vB', U.now, U.fz, Mo.opt, Mo.pure, Mo.none, cbM, biF, retU, putM, appM, setM, okSet, endF, backP, A.tag, A.ret, dataM, toDv, toDf, toDs, okU, nows, iteM, boolM, asB, Pw.andM, Pw.orM, Pw.notM, ixD, uD, ifOwn, intM, asI, dAs, argM, mdOf, callM, mkArgs, slots, putBack, put1, noAl, chnM, tgF, sets, isM, itTup, itLst, itStr, itInt, itBl, itNon, Tn.is, optI, slM, slD, atI, ixN, ne_connect_tell, ne_connect_apply, ne_connect_report, ne_connect_confirm, ne_connect_save, ne_connect_halt, ne_connect_log, ne_connect_stop, ne_connect_strike, ne_tell_connect, ne_tell_apply, ne_tell_report, ne_tell_confirm, ne_tell_save, ne_tell_halt, ne_tell_log, ne_tell_stop, ne_tell_strike, ne_apply_connect, ne_apply_tell, ne_apply_report, ne_apply_confirm, ne_apply_save, ne_apply_halt, ne_apply_log, ne_apply_stop, ne_apply_strike, ne_report_connect, ne_report_tell, ne_report_apply, ne_report_confirm, ne_report_save, ne_report_halt, ne_report_log, ne_report_stop, ne_report_strike, ne_confirm_connect, ne_confirm_tell, ne_confirm_apply, ne_confirm_report, ne_confirm_save, ne_confirm_halt, ne_confirm_log, ne_confirm_stop, ne_confirm_strike, ne_save_connect, ne_save_tell, ne_save_apply, ne_save_report, ne_save_confirm, ne_save_halt, ne_save_log, ne_save_stop, ne_save_strike, ne_halt_connect, ne_halt_tell, ne_halt_apply, ne_halt_report, ne_halt_confirm, ne_halt_save, ne_halt_log, ne_halt_stop, ne_halt_strike, ne_log_connect, ne_log_tell, ne_log_apply, ne_log_report, ne_log_confirm, ne_log_save, ne_log_halt, ne_log_stop, ne_log_strike, ne_stop_connect, ne_stop_tell, ne_stop_apply, ne_stop_report, ne_stop_confirm, ne_stop_save, ne_stop_halt, ne_stop_log, ne_stop_strike, ne_strike_connect, ne_strike_tell, ne_strike_apply, ne_strike_report, ne_strike_confirm, ne_strike_save, ne_strike_halt, ne_strike_log, ne_strike_stop, nz1, nz2, nz3, nz4, nz5, nz6, pz1, pz2, pz3, pz4, pz5, inD, g1, g2, hf, i1, c2, i2]
      · subst c1; simp [l_law_apart_1, dSs, dS, dU, dUs, dDs, dO, dI, optM, itemsD, rngD, mbind, mpure, seqM, fzM, varM, opM, binD, cmpD, eqD, vB, vI, vB', U.now, U.fz, Mo.opt, Mo.pure, Mo.none, cbM, biF, retU, putM, appM, setM, okSet, endF, backP, A.tag, A.ret, dataM, toDv, toDf, toDs, okU, nows, iteM, boolM, asB, Pw.andM, Pw.orM, Pw.notM, ixD, uD, ifOwn, intM, asI, dAs, argM, mdOf, callM, mkArgs, slots, putBack, put1, noAl, chnM, tgF, sets, isM, itTup, itLst, itStr, itInt, itBl, itNon, Tn.is, optI, slM, slD, atI, ixN, ne_connect_tell, ne_connect_apply, ne_connect_report, ne_connect_confirm, ne_connect_save, ne_connect_halt, ne_connect_log, ne_connect_stop, ne_connect_strike, ne_tell_connect, ne_tell_apply, ne_tell_report, ne_tell_confirm, ne_tell_save, ne_tell_halt, ne_tell_log, ne_tell_stop, ne_tell_strike, ne_apply_connect, ne_apply_tell, ne_apply_report, ne_apply_confirm, ne_apply_save, ne_apply_halt, ne_apply_log, ne_apply_stop, ne_apply_strike, ne_report_connect, ne_report_tell, ne_report_apply, ne_report_confirm, ne_report_save, ne_report_halt, ne_report_log, ne_report_stop, ne_report_strike, ne_confirm_connect, ne_confirm_tell, ne_confirm_apply, ne_confirm_report, ne_confirm_save, ne_confirm_halt, ne_confirm_log, ne_confirm_stop, ne_confirm_strike, ne_save_connect, ne_save_tell, ne_save_apply, ne_save_report, ne_save_confirm, ne_save_halt, ne_save_log, ne_save_stop, ne_save_strike, ne_halt_connect, ne_halt_tell, ne_halt_apply, ne_halt_report, ne_halt_confirm, ne_halt_save, ne_halt_log, ne_halt_stop, ne_halt_strike, ne_log_connect, ne_log_tell, ne_log_apply, ne_log_report, ne_log_confirm, ne_log_save, ne_log_halt, ne_log_stop, ne_log_strike, ne_stop_connect, ne_stop_tell, ne_stop_apply, ne_stop_report, ne_stop_confirm, ne_stop_save, ne_stop_halt, ne_stop_log, ne_stop_strike, ne_strike_connect, ne_strike_tell, ne_strike_apply, ne_strike_report, ne_strike_confirm, ne_strike_save, ne_strike_halt, ne_strike_log, ne_strike_stop, nz1, nz2, nz3, nz4, nz5, nz6, pz1, pz2, pz3, pz4, pz5, inD, g1, g2, hf, i1, c2]
  · by_cases c2 : w2 = a
    · cases i2 : (D.str w1).isIn bs with
      | true => subst c2; simp [l_law_apart_1, dSs, dS, dU, dUs, dDs, dO, dI, optM, itemsD, rngD, mbind, mpure, seqM, fzM, varM, opM, binD, cmpD, eqD, vB, vI, vB', U.now, U.fz, Mo.opt, Mo.pure, Mo.none, cbM, biF, retU, putM, appM, setM, okSet, endF, backP, A.tag, A.ret, dataM, toDv, toDf, toDs, okU, nows, iteM, boolM, asB, Pw.andM, Pw.orM, Pw.notM, ixD, uD, ifOwn, intM, asI, dAs, argM, mdOf, callM, mkArgs, slots, putBack, put1, noAl, chnM, tgF, sets, isM, itTup, itLst, itStr, itInt, itBl, itNon, Tn.is, optI, slM, slD, atI, ixN, ne_connect_tell, ne_connect_apply, ne_connect_report, ne_connect_confirm, ne_connect_save, ne_connect_halt, ne_connect_log, ne_connect_stop, ne_connect_strike, ne_tell_connect, ne_tell_apply, ne_tell_report, ne_tell_confirm, ne_tell_save, ne_tell_halt, ne_tell_log, ne_tell_stop, ne_tell_strike, ne_apply_connect, ne_apply_tell, ne_apply_report, ne_apply_confirm, ne_apply_save, ne_apply_halt, ne_apply_log, ne_apply_stop, ne_apply_strike, ne_report_connect, ne_report_tell, ne_report_apply, ne_report_confirm, ne_report_save, ne_report_halt, ne_report_log, ne_report_stop, ne_report_strike, ne_confirm_connect, ne_confirm_tell, ne_confirm_apply, ne_confirm_report, ne_confirm_save, ne_confirm_halt, ne_confirm_log, ne_confirm_stop, ne_confirm_strike, ne_save_connect, ne_save_tell, ne_save_apply, ne_save_report, ne_save_confirm, ne_save_halt, ne_save_log, ne_save_stop, ne_save_strike, ne_halt_connect, ne_halt_tell, ne_halt_apply, ne_halt_report, ne_halt_confirm, ne_halt_save, ne_halt_log, ne_halt_stop, ne_halt_strike, ne_log_connect, ne_log_tell, ne_log_apply, ne_log_report, ne_log_confirm, ne_log_save, ne_log_halt, ne_log_stop, ne_log_strike, ne_stop_connect, ne_stop_tell, ne_stop_apply, ne_stop_report, ne_stop_confirm, ne_stop_save, ne_stop_halt, ne_stop_log, ne_stop_strike, ne_strike_connect, ne_strike_tell, ne_strike_apply, ne_strike_report, ne_strike_confirm, ne_strike_save, ne_strike_halt, ne_strike_log, ne_strike_stop, nz1, nz2, nz3, nz4, nz5, nz6, pz1, pz2, pz3, pz4, pz5, inD, g1, g2, hf, c1, i2]
      | false => subst c2; simp [l_law_apart_1, dSs, dS, dU, dUs, dDs, dO, dI, optM, itemsD, rngD, mbind, mpure, seqM, fzM, varM, opM, binD, cmpD, eqD, vB, vI, vB', U.now, U.fz, Mo.opt, Mo.pure, Mo.none, cbM, biF, retU, putM, appM, setM, okSet, endF, backP, A.tag, A.ret, dataM, toDv, toDf, toDs, okU, nows, iteM, boolM, asB, Pw.andM, Pw.orM, Pw.notM, ixD, uD, ifOwn, intM, asI, dAs, argM, mdOf, callM, mkArgs, slots, putBack, put1, noAl, chnM, tgF, sets, isM, itTup, itLst, itStr, itInt, itBl, itNon, Tn.is, optI, slM, slD, atI, ixN, ne_connect_tell, ne_connect_apply, ne_connect_report, ne_connect_confirm, ne_connect_save, ne_connect_halt, ne_connect_log, ne_connect_stop, ne_connect_strike, ne_tell_connect, ne_tell_apply, ne_tell_report, ne_tell_confirm, ne_tell_save, ne_tell_halt, ne_tell_log, ne_tell_stop, ne_tell_strike, ne_apply_connect, ne_apply_tell, ne_apply_report, ne_apply_confirm, ne_apply_save, ne_apply_halt, ne_apply_log, ne_apply_stop, ne_apply_strike, ne_report_connect, ne_report_tell, ne_report_apply, ne_report_confirm, ne_report_save, ne_report_halt, ne_report_log, ne_report_stop, ne_report_strike, ne_confirm_connect, ne_confirm_tell, ne_confirm_apply, ne_confirm_report, ne_confirm_save, ne_confirm_halt, ne_confirm_log, ne_confirm_stop, ne_confirm_strike, ne_save_connect, ne_save_tell, ne_save_apply, ne_save_report, ne_save_confirm, ne_save_halt, ne_save_log, ne_save_stop, ne_save_strike, ne_halt_connect, ne_halt_tell, ne_halt_apply, ne_halt_report, ne_halt_confirm, ne_halt_save, ne_halt_log, ne_halt_stop, ne_halt_strike, ne_log_connect, ne_log_tell, ne_log_apply, ne_log_report, ne_log_confirm, ne_log_save, ne_log_halt, ne_log_stop, ne_log_strike, ne_stop_connect, ne_stop_tell, ne_stop_apply, ne_stop_report, ne_stop_confirm, ne_stop_save, ne_stop_halt, ne_stop_log, ne_stop_strike, ne_strike_connect, ne_strike_tell, ne_strike_apply, ne_strike_report, ne_strike_confirm, ne_strike_save, ne_strike_halt, ne_strike_log, ne_strike_stop, nz1, nz2, nz3, nz4, nz5, nz6, pz1, pz2, pz3, pz4, pz5, inD, g1, g2, hf, c1, i2]
    · simp [l_law_apart_1, dSs, dS, dU, dUs, dDs, dO, dI, optM, itemsD, rngD, mbind, mpure, seqM, fzM, varM, opM, binD, cmpD, eqD, vB, vI, vB', U.now, U.fz, Mo.opt, Mo.pure, Mo.none, cbM, biF, retU, putM, appM, setM, okSet, endF, backP, A.tag, A.ret, dataM, toDv, toDf, toDs, okU, nows, iteM, boolM, asB, Pw.andM, Pw.orM, Pw.notM, ixD, uD, ifOwn, intM, asI, dAs, argM, mdOf, callM, mkArgs, slots, putBack, put1, noAl, chnM, tgF, sets, isM, itTup, itLst, itStr, itInt, itBl, itNon, Tn.is, optI, slM, slD, atI, ixN, ne_connect_tell, ne_connect_apply, ne_connect_report, ne_connect_confirm, ne_connect_save, ne_connect_halt, ne_connect_log, ne_connect_stop, ne_connect_strike, ne_tell_connect, ne_tell_apply, ne_tell_report, ne_tell_confirm, ne_tell_save, ne_tell_halt, ne_tell_log, ne_tell_stop, ne_tell_strike, ne_apply_connect, ne_apply_tell, ne_apply_report, ne_apply_confirm, ne_apply_save, ne_apply_halt, ne_apply_log, ne_apply_stop, ne_apply_strike, ne_report_connect, ne_report_tell, ne_report_apply, ne_report_confirm, ne_report_save, ne_report_halt, ne_report_log, ne_report_stop, ne_report_strike, ne_confirm_connect, ne_confirm_tell, ne_confirm_apply, ne_confirm_report, ne_confirm_save, ne_confirm_halt, ne_confirm_log, ne_confirm_stop, ne_confirm_strike, ne_save_connect, ne_save_tell, ne_save_apply, ne_save_report, ne_save_confirm, ne_save_halt, ne_save_log, ne_save_stop, ne_save_strike, ne_halt_connect, ne_halt_tell, ne_halt_apply, ne_halt_report, ne_halt_confirm, ne_halt_save, ne_halt_log, ne_halt_stop, ne_halt_strike, ne_log_connect, ne_log_tell, ne_log_apply, ne_log_report, ne_log_confirm, ne_log_save, ne_log_halt, ne_log_stop, ne_log_strike, ne_stop_connect, ne_stop_tell, ne_stop_apply, ne_stop_report, ne_stop_confirm, ne_stop_save, ne_stop_halt, ne_stop_log, ne_stop_strike, ne_strike_connect, ne_strike_tell, ne_strike_apply, ne_strike_report, ne_strike_confirm, ne_strike_save, ne_strike_halt, ne_strike_log, ne_strike_stop, nz1, nz2, nz3, nz4, nz5, nz6, pz1, pz2, pz3, pz4, pz5, inD, g1, g2, hf, c1, c2]
theorem la_diff (k : Nat) (w1 w2 x y : Str) (h1 : inSh w1 = false) (h2 : inSh w2 = false) (hxy : x ≠ y) : runF T (k+2) "_law_apart" [.val (.tup [.str w1, .str x]), .val (.tup [.str w2, .str y])] = .ok (.val (.bl true)) [.val (.tup [.str w1, .str x]), .val (.tup [.str w2, .str y])] := by
  have ew : T.fns "_law_apart" = some f_law_apart := rfl
  rw [runF_succ ew rfl]
  have ed : [D.str "log", .str "stop", .str "strike"] = shW := rfl
  have hf := flSh
  have g1 : (D.str w1).flat = true := rfl
  have g2 : (D.str w2).flat = true := rfl
  have h1' : (D.str w1).isIn shW = false := h1
  have h2' : (D.str w2).isIn shW = false := h2
  simp [f_law_apart, dSs, dS, dU, dUs, dDs, dO, dI, optM, itemsD, rngD, mbind, mpure, seqM, fzM, varM, opM, binD, cmpD, eqD, vB, vI, vB', U.now, U.fz, Mo.opt, Mo.pure, Mo.none, cbM, biF, retU, putM, appM, setM, okSet, endF, backP, A.tag, A.ret, dataM, toDv, toDf, toDs, okU, nows, iteM, boolM, asB, Pw.andM, Pw.orM, Pw.notM, ixD, uD, ifOwn, intM, asI, dAs, argM, mdOf, callM, mkArgs, slots, putBack, put1, noAl, chnM, tgF, sets, isM, itTup, itLst, itStr, itInt, itBl, itNon, Tn.is, optI, slM, slD, atI, ixN, inD, ed, hf, g1, g2, h1', h2', hxy]
theorem rows_flat : ∀ x ∈ rowsL, x.2.all D.flat = true := by
  intro x hx
  simp only [rowsL, List.mem_cons, List.not_mem_nil, or_false] at hx
  rcases hx with rfl | rfl | rfl | rfl | rfl <;> rfl
theorem rows_loop (k : Nat) (w1 w2 : Str) (r1 r2 : List D) (sh : A) : ∃ x, forM' (.name 3) (dSs T (runF T k) l_law_apart_1) (rowsL.map rowD) [.val (.tup (.str w1 :: r1)), .val (.tup (.str w2 :: r2)), sh, .un] =
    .ok (if laT w1 w2 = true then .rt (.val (.bl true)) else .nx) [.val (.tup (.str w1 :: r1)), .val (.tup (.str w2 :: r2)), sh, x] := by
  obtain ⟨r', e, x, rfl, _⟩ := for_any (t := .name 3) (b := dSs T (runF T k) l_law_apart_1) (u := .val (.bl true)) (rowQ w1 w2) (fun r => ∃ x, r = [.val (.tup (.str w1 :: r1)), .val (.tup (.str w2 :: r2)), sh, x] ∧ (x = .un ∨ ∃ d, x = .val d)) (rowsL.map rowD) [.val (.tup (.str w1 :: r1)), .val (.tup (.str w2 :: r2)), sh, .un] (fun d hd r hr => by
    obtain ⟨x, rfl, hx⟩ := hr
    obtain ⟨⟨a, bs⟩, hm, rfl⟩ := List.mem_map.mp hd
    exact ⟨_, _, by rcases hx with rfl | ⟨d, rfl⟩ <;> rfl, row_turn k w1 w2 a r1 r2 bs (rows_flat _ hm) sh, _, rfl, .inr ⟨_, rfl⟩⟩) ⟨_, rfl, .inl rfl⟩
  have : (rowsL.map rowD).any (rowQ w1 w2) = laT w1 w2 := by
    rw [List.any_map]; rfl
  rw [this] at e
  exact ⟨x, e⟩
theorem la_tab (k : Nat) (w1 w2 : Str) (r1 r2 : List D) (hc : inSh w1 = true ∨ inSh w2 = true ∨ ∃ x, r1 = [.str x] ∧ r2 = [.str x]) :
    runF T (k+2) "_law_apart" [.val (.tup (.str w1 :: r1)), .val (.tup (.str w2 :: r2))] = .ok (.val (.bl (laT w1 w2))) [.val (.tup (.str w1 :: r1)), .val (.tup (.str w2 :: r2))] := by
  have ew : T.fns "_law_apart" = some f_law_apart := rfl
  have ex : T.fns "_law_apart_rows" = some f_law_apart_rows := rfl
  have em : f_law_apart_rows.md = [] := rfl
  rw [runF_succ ew rfl]
  have ed : [D.str "log", .str "stop", .str "strike"] = shW := rfl
  have hf := flSh
  have g1 : (D.str w1).flat = true := rfl
  have g2 : (D.str w2).flat = true := rfl
  have hr := law_rows k
  obtain ⟨x, hl⟩ := rows_loop (k+1) w1 w2 r1 r2 (.own 0 shW)
  cases h3 : laT w1 w2 with
  | true =>
    rw [h3] at hl
    have hl' := hl
    rw [if_pos rfl] at hl'
    cases h1 : (D.str w1).isIn shW with
    | true => simp [f_law_apart, dSs, dS, dU, dUs, dDs, dO, dI, optM, itemsD, rngD, mbind, mpure, seqM, fzM, varM, opM, binD, cmpD, eqD, vB, vI, vB', U.now, U.fz, Mo.opt, Mo.pure, Mo.none, cbM, biF, retU, putM, appM, setM, okSet, endF, backP, A.tag, A.ret, dataM, toDv, toDf, toDs, okU, nows, iteM, boolM, asB, Pw.andM, Pw.orM, Pw.notM, ixD, uD, ifOwn, intM, asI, dAs, argM, mdOf, callM, mkArgs, slots, putBack, put1, noAl, chnM, tgF, sets, isM, itTup, itLst, itStr, itInt, itBl, itNon, Tn.is, optI, slM, slD, atI, ixN, ne_connect_tell, ne_connect_apply, ne_connect_report, ne_connect_confirm, ne_connect_save, ne_connect_halt, ne_connect_log, ne_connect_stop, ne_connect_strike, ne_tell_connect, ne_tell_apply, ne_tell_report, ne_tell_confirm, ne_tell_save, ne_tell_halt, ne_tell_log, ne_tell_stop, ne_tell_strike, ne_apply_connect, ne_apply_tell, ne_apply_report, ne_apply_confirm, ne_apply_save, ne_apply_halt, ne_apply_log, ne_apply_stop, ne_apply_strike, ne_report_connect, ne_report_tell, ne_report_apply, ne_report_confirm, ne_report_save, ne_report_halt, ne_report_log, ne_report_stop, ne_report_strike, ne_confirm_connect, ne_confirm_tell, ne_confirm_apply, ne_confirm_report, ne_confirm_save, ne_confirm_halt, ne_confirm_log, ne_confirm_stop, ne_confirm_strike, ne_save_connect, ne_save_tell, ne_save_apply, ne_save_report, ne_save_confirm, ne_save_halt, ne_save_log, ne_save_stop, ne_save_strike, ne_halt_connect, ne_halt_tell, ne_halt_apply, ne_halt_report, ne_halt_confirm, ne_halt_save, ne_halt_log, ne_halt_stop, ne_halt_strike, ne_log_connect, ne_log_tell, ne_log_apply, ne_log_report, ne_log_confirm, ne_log_save, ne_log_halt, ne_log_stop, ne_log_strike, ne_stop_connect, ne_stop_tell, ne_stop_apply, ne_stop_report, ne_stop_confirm, ne_stop_save, ne_stop_halt, ne_stop_log, ne_stop_strike, ne_strike_connect, ne_strike_tell, ne_strike_apply, ne_strike_report, ne_strike_confirm, ne_strike_save, ne_strike_halt, ne_strike_log, ne_strike_stop, nz1, nz2, nz3, nz4, nz5, nz6, pz1, pz2, pz3, pz4, pz5, inD, ed, hf, g1, g2, h1, ex, em, hr, hl']
    | false =>
      cases h2 : (D.str w2).isIn shW with
      | true => simp [f_law_apart, dSs, dS, dU, dUs, dDs, dO, dI, optM, itemsD, rngD, mbind, mpure, seqM, fzM, varM, opM, binD, cmpD, eqD, vB, vI, vB', U.now, U.fz, Mo.opt, Mo.pure, Mo.none, cbM, biF, retU, putM, appM, setM, okSet, endF, backP, A.tag, A.ret, dataM, toDv, toDf, toDs, okU, nows, iteM, boolM, asB, Pw.andM, Pw.orM, Pw.notM, ixD, uD, ifOwn, intM, asI, dAs, argM, mdOf, callM, mkArgs, slots, putBack, put1, noAl, chnM, tgF, sets, isM, itTup, itLst, itStr, itInt, itBl, itNon, Tn.is, optI, slM, slD, atI, ixN, ne_connect_tell, ne_connect_apply, ne_connect_report, ne_connect_confirm, ne_connect_save, ne_connect_halt, ne_connect_log, ne_connect_stop, ne_connect_strike, ne_tell_connect, ne_tell_apply, ne_tell_report, ne_tell_confirm, ne_tell_save, ne_tell_halt, ne_tell_log, ne_tell_stop, ne_tell_strike, ne_apply_connect, ne_apply_tell, ne_apply_report, ne_apply_confirm, ne_apply_save, ne_apply_halt, ne_apply_log, ne_apply_stop, ne_apply_strike, ne_report_connect, ne_report_tell, ne_report_apply, ne_report_confirm, ne_report_save, ne_report_halt, ne_report_log, ne_report_stop, ne_report_strike, ne_confirm_connect, ne_confirm_tell, ne_confirm_apply, ne_confirm_report, ne_confirm_save, ne_confirm_halt, ne_confirm_log, ne_confirm_stop, ne_confirm_strike, ne_save_connect, ne_save_tell, ne_save_apply, ne_save_report, ne_save_confirm, ne_save_halt, ne_save_log, ne_save_stop, ne_save_strike, ne_halt_connect, ne_halt_tell, ne_halt_apply, ne_halt_report, ne_halt_confirm, ne_halt_save, ne_halt_log, ne_halt_stop, ne_halt_strike, ne_log_connect, ne_log_tell, ne_log_apply, ne_log_report, ne_log_confirm, ne_log_save, ne_log_halt, ne_log_stop, ne_log_strike, ne_stop_connect, ne_stop_tell, ne_stop_apply, ne_stop_report, ne_stop_confirm, ne_stop_save, ne_stop_halt, ne_stop_log, ne_stop_strike, ne_strike_connect, ne_strike_tell, ne_strike_apply, ne_strike_report, ne_strike_confirm, ne_strike_save, ne_strike_halt, ne_strike_log, ne_strike_stop, nz1, nz2, nz3, nz4, nz5, nz6, pz1, pz2, pz3, pz4, pz5, inD, ed, hf, g1, g2, h1, h2, ex, em, hr, hl']
      | false =>
        rcases hc with q | q | ⟨x, rfl, rfl⟩
        · rw [show inSh w1 = false from h1] at q; cases q
        · rw [show inSh w2 = false from h2] at q; cases q
        · simp [f_law_apart, dSs, dS, dU, dUs, dDs, dO, dI, optM, itemsD, rngD, mbind, mpure, seqM, fzM, varM, opM, binD, cmpD, eqD, vB, vI, vB', U.now, U.fz, Mo.opt, Mo.pure, Mo.none, cbM, biF, retU, putM, appM, setM, okSet, endF, backP, A.tag, A.ret, dataM, toDv, toDf, toDs, okU, nows, iteM, boolM, asB, Pw.andM, Pw.orM, Pw.notM, ixD, uD, ifOwn, intM, asI, dAs, argM, mdOf, callM, mkArgs, slots, putBack, put1, noAl, chnM, tgF, sets, isM, itTup, itLst, itStr, itInt, itBl, itNon, Tn.is, optI, slM, slD, atI, ixN, ne_connect_tell, ne_connect_apply, ne_connect_report, ne_connect_confirm, ne_connect_save, ne_connect_halt, ne_connect_log, ne_connect_stop, ne_connect_strike, ne_tell_connect, ne_tell_apply, ne_tell_report, ne_tell_confirm, ne_tell_save, ne_tell_halt, ne_tell_log, ne_tell_stop, ne_tell_strike, ne_apply_connect, ne_apply_tell, ne_apply_report, ne_apply_confirm, ne_apply_save, ne_apply_halt, ne_apply_log, ne_apply_stop, ne_apply_strike, ne_report_connect, ne_report_tell, ne_report_apply, ne_report_confirm, ne_report_save, ne_report_halt, ne_report_log, ne_report_stop, ne_report_strike, ne_confirm_connect, ne_confirm_tell, ne_confirm_apply, ne_confirm_report, ne_confirm_save, ne_confirm_halt, ne_confirm_log, ne_confirm_stop, ne_confirm_strike, ne_save_connect, ne_save_tell, ne_save_apply, ne_save_report, ne_save_confirm, ne_save_halt, ne_save_log, ne_save_stop, ne_save_strike, ne_halt_connect, ne_halt_tell, ne_halt_apply, ne_halt_report, ne_halt_confirm, ne_halt_save, ne_halt_log, ne_halt_stop, ne_halt_strike, ne_log_connect, ne_log_tell, ne_log_apply, ne_log_report, ne_log_confirm, ne_log_save, ne_log_halt, ne_log_stop, ne_log_strike, ne_stop_connect, ne_stop_tell, ne_stop_apply, ne_stop_report, ne_stop_confirm, ne_stop_save, ne_stop_halt, ne_stop_log, ne_stop_strike, ne_strike_connect, ne_strike_tell, ne_strike_apply, ne_strike_report, ne_strike_confirm, ne_strike_save, ne_strike_halt, ne_strike_log, ne_strike_stop, nz1, nz2, nz3, nz4, nz5, nz6, pz1, pz2, pz3, pz4, pz5, inD, ed, hf, g1, g2, h1, h2, ex, em, hr, hl']
  | false =>
    rw [h3] at hl
    have hl' := hl
    rw [if_neg (by decide)] at hl'
    cases h1 : (D.str w1).isIn shW with
    | true => simp [f_law_apart, dSs, dS, dU, dUs, dDs, dO, dI, optM, itemsD, rngD, mbind, mpure, seqM, fzM, varM, opM, binD, cmpD, eqD, vB, vI, vB', U.now, U.fz, Mo.opt, Mo.pure, Mo.none, cbM, biF, retU, putM, appM, setM, okSet, endF, backP, A.tag, A.ret, dataM, toDv, toDf, toDs, okU, nows, iteM, boolM, asB, Pw.andM, Pw.orM, Pw.notM, ixD, uD, ifOwn, intM, asI, dAs, argM, mdOf, callM, mkArgs, slots, putBack, put1, noAl, chnM, tgF, sets, isM, itTup, itLst, itStr, itInt, itBl, itNon, Tn.is, optI, slM, slD, atI, ixN, ne_connect_tell, ne_connect_apply, ne_connect_report, ne_connect_confirm, ne_connect_save, ne_connect_halt, ne_connect_log, ne_connect_stop, ne_connect_strike, ne_tell_connect, ne_tell_apply, ne_tell_report, ne_tell_confirm, ne_tell_save, ne_tell_halt, ne_tell_log, ne_tell_stop, ne_tell_strike, ne_apply_connect, ne_apply_tell, ne_apply_report, ne_apply_confirm, ne_apply_save, ne_apply_halt, ne_apply_log, ne_apply_stop, ne_apply_strike, ne_report_connect, ne_report_tell, ne_report_apply, ne_report_confirm, ne_report_save, ne_report_halt, ne_report_log, ne_report_stop, ne_report_strike, ne_confirm_connect, ne_confirm_tell, ne_confirm_apply, ne_confirm_report, ne_confirm_save, ne_confirm_halt, ne_confirm_log, ne_confirm_stop, ne_confirm_strike, ne_save_connect, ne_save_tell, ne_save_apply, ne_save_report, ne_save_confirm, ne_save_halt, ne_save_log, ne_save_stop, ne_save_strike, ne_halt_connect, ne_halt_tell, ne_halt_apply, ne_halt_report, ne_halt_confirm, ne_halt_save, ne_halt_log, ne_halt_stop, ne_halt_strike, ne_log_connect, ne_log_tell, ne_log_apply, ne_log_report, ne_log_confirm, ne_log_save, ne_log_halt, ne_log_stop, ne_log_strike, ne_stop_connect, ne_stop_tell, ne_stop_apply, ne_stop_report, ne_stop_confirm, ne_stop_save, ne_stop_halt, ne_stop_log, ne_stop_strike, ne_strike_connect, ne_strike_tell, ne_strike_apply, ne_strike_report, ne_strike_confirm, ne_strike_save, ne_strike_halt, ne_strike_log, ne_strike_stop, nz1, nz2, nz3, nz4, nz5, nz6, pz1, pz2, pz3, pz4, pz5, inD, ed, hf, g1, g2, h1, ex, em, hr, hl']
    | false =>
      cases h2 : (D.str w2).isIn shW with
      | true => simp [f_law_apart, dSs, dS, dU, dUs, dDs, dO, dI, optM, itemsD, rngD, mbind, mpure, seqM, fzM, varM, opM, binD, cmpD, eqD, vB, vI, vB', U.now, U.fz, Mo.opt, Mo.pure, Mo.none, cbM, biF, retU, putM, appM, setM, okSet, endF, backP, A.tag, A.ret, dataM, toDv, toDf, toDs, okU, nows, iteM, boolM, asB, Pw.andM, Pw.orM, Pw.notM, ixD, uD, ifOwn, intM, asI, dAs, argM, mdOf, callM, mkArgs, slots, putBack, put1, noAl, chnM, tgF, sets, isM, itTup, itLst, itStr, itInt, itBl, itNon, Tn.is, optI, slM, slD, atI, ixN, ne_connect_tell, ne_connect_apply, ne_connect_report, ne_connect_confirm, ne_connect_save, ne_connect_halt, ne_connect_log, ne_connect_stop, ne_connect_strike, ne_tell_connect, ne_tell_apply, ne_tell_report, ne_tell_confirm, ne_tell_save, ne_tell_halt, ne_tell_log, ne_tell_stop, ne_tell_strike, ne_apply_connect, ne_apply_tell, ne_apply_report, ne_apply_confirm, ne_apply_save, ne_apply_halt, ne_apply_log, ne_apply_stop, ne_apply_strike, ne_report_connect, ne_report_tell, ne_report_apply, ne_report_confirm, ne_report_save, ne_report_halt, ne_report_log, ne_report_stop, ne_report_strike, ne_confirm_connect, ne_confirm_tell, ne_confirm_apply, ne_confirm_report, ne_confirm_save, ne_confirm_halt, ne_confirm_log, ne_confirm_stop, ne_confirm_strike, ne_save_connect, ne_save_tell, ne_save_apply, ne_save_report, ne_save_confirm, ne_save_halt, ne_save_log, ne_save_stop, ne_save_strike, ne_halt_connect, ne_halt_tell, ne_halt_apply, ne_halt_report, ne_halt_confirm, ne_halt_save, ne_halt_log, ne_halt_stop, ne_halt_strike, ne_log_connect, ne_log_tell, ne_log_apply, ne_log_report, ne_log_confirm, ne_log_save, ne_log_halt, ne_log_stop, ne_log_strike, ne_stop_connect, ne_stop_tell, ne_stop_apply, ne_stop_report, ne_stop_confirm, ne_stop_save, ne_stop_halt, ne_stop_log, ne_stop_strike, ne_strike_connect, ne_strike_tell, ne_strike_apply, ne_strike_report, ne_strike_confirm, ne_strike_save, ne_strike_halt, ne_strike_log, ne_strike_stop, nz1, nz2, nz3, nz4, nz5, nz6, pz1, pz2, pz3, pz4, pz5, inD, ed, hf, g1, g2, h1, h2, ex, em, hr, hl']
      | false =>
        rcases hc with q | q | ⟨x, rfl, rfl⟩
        · rw [show inSh w1 = false from h1] at q; cases q
        · rw [show inSh w2 = false from h2] at q; cases q
        · simp [f_law_apart, dSs, dS, dU, dUs, dDs, dO, dI, optM, itemsD, rngD, mbind, mpure, seqM, fzM, varM, opM, binD, cmpD, eqD, vB, vI, vB', U.now, U.fz, Mo.opt, Mo.pure, Mo.none, cbM, biF, retU, putM, appM, setM, okSet, endF, backP, A.tag, A.ret, dataM, toDv, toDf, toDs, okU, nows, iteM, boolM, asB, Pw.andM, Pw.orM, Pw.notM, ixD, uD, ifOwn, intM, asI, dAs, argM, mdOf, callM, mkArgs, slots, putBack, put1, noAl, chnM, tgF, sets, isM, itTup, itLst, itStr, itInt, itBl, itNon, Tn.is, optI, slM, slD, atI, ixN, ne_connect_tell, ne_connect_apply, ne_connect_report, ne_connect_confirm, ne_connect_save, ne_connect_halt, ne_connect_log, ne_connect_stop, ne_connect_strike, ne_tell_connect, ne_tell_apply, ne_tell_report, ne_tell_confirm, ne_tell_save, ne_tell_halt, ne_tell_log, ne_tell_stop, ne_tell_strike, ne_apply_connect, ne_apply_tell, ne_apply_report, ne_apply_confirm, ne_apply_save, ne_apply_halt, ne_apply_log, ne_apply_stop, ne_apply_strike, ne_report_connect, ne_report_tell, ne_report_apply, ne_report_confirm, ne_report_save, ne_report_halt, ne_report_log, ne_report_stop, ne_report_strike, ne_confirm_connect, ne_confirm_tell, ne_confirm_apply, ne_confirm_report, ne_confirm_save, ne_confirm_halt, ne_confirm_log, ne_confirm_stop, ne_confirm_strike, ne_save_connect, ne_save_tell, ne_save_apply, ne_save_report, ne_save_confirm, ne_save_halt, ne_save_log, ne_save_stop, ne_save_strike, ne_halt_connect, ne_halt_tell, ne_halt_apply, ne_halt_report, ne_halt_confirm, ne_halt_save, ne_halt_log, ne_halt_stop, ne_halt_strike, ne_log_connect, ne_log_tell, ne_log_apply, ne_log_report, ne_log_confirm, ne_log_save, ne_log_halt, ne_log_stop, ne_log_strike, ne_stop_connect, ne_stop_tell, ne_stop_apply, ne_stop_report, ne_stop_confirm, ne_stop_save, ne_stop_halt, ne_stop_log, ne_stop_strike, ne_strike_connect, ne_strike_tell, ne_strike_apply, ne_strike_report, ne_strike_confirm, ne_strike_save, ne_strike_halt, ne_strike_log, ne_strike_stop, nz1, nz2, nz3, nz4, nz5, nz6, pz1, pz2, pz3, pz4, pz5, inD, ed, hf, g1, g2, h1, h2, ex, em, hr, hl']
/-! ### the two tables are one -/
def tenW : List Str := ["connect", "tell", "apply", "report", "confirm", "save", "halt", "log", "stop", "strike"]
def apL (w : Str) : List D := match (T.tabs 0).lookup w with
  | some (.tup es) => es
  | _ => []
theorem apL_ok : ∀ w ∈ tenW, (T.tabs 0).lookup w = some (.tup (apL w)) ∧ (apL w).all D.flat = true := by
  intro w hw
  simp only [tenW, List.mem_cons, List.not_mem_nil, or_false] at hw
  rcases hw with rfl | rfl | rfl | rfl | rfl | rfl | rfl | rfl | rfl | rfl <;> exact ⟨by rfl, by rfl⟩
theorem one_table : ∀ w1 ∈ tenW, ∀ w2 ∈ tenW, (D.str w2).isIn (apL w1) = laT w1 w2 := by decide +kernel
end Law

set_option Elab.async false
set_option linter.all false
set_option maxRecDepth 100000
set_option maxHeartbeats 4000000
namespace Law
open PySem L2 Pw
/-! ### _law_same of a value and itself -/
def Pl : Nat → D → Prop
  | _, .non => True
  | _, .bl _ => True
  | _, .int _ => True
  | _, .str _ => True
  | n + 1, .lst ds => ds.length ≤ 1000 ∧ ∀ d ∈ ds, Pl n d
  | n + 1, .tup ds => ds.length ≤ 1000 ∧ ∀ d ∈ ds, Pl n d
  | _, _ => False
theorem at_nat {α : Type} (ds : List α) (i : Nat) (h : i < ds.length) : atI ds (i : Int) = ds[i]? := by
  unfold atI ixN
  have h1 : ¬ (i : Int) < 0 := by omega
  have h2 : (0 : Int) ≤ i ∧ (i : Int) < ds.length := by omega
  simp [h1, h2, h]
theorem same_turn (k i : Nat) (d x : D) (h : uD (some x) = some (.val x)) (hx : ixD T.tabs d (.int i) = some (.val x)) (hr : runF T k "_law_same" [.val x, .val x] = .ok (.val (.bl true)) [.val x, .val x]) :
    dSs T (runF T k) l_law_same_1 [.val d, .val d, .val (.int i)] = .ok .nx [.val d, .val d, .val (.int i)] := by
  have ex : T.fns "_law_same" = some f_law_same := rfl
  have em : f_law_same.md = [false, false] := rfl
  simp [l_law_same_1, dSs, dS, dU, dUs, dDs, mbind, mpure, seqM, fzM, varM, opM, vB', U.now, U.fz, Mo.opt, Mo.pure, Mo.none, retU, putM, okSet, A.tag, A.ret, dataM, toDv, toDf, toDs, okU, nows, iteM, boolM, asB, Pw.notM, dAs, argM, mdOf, callM, mkArgs, slots, putBack, put1, noAl, ex, em, hx, hr]
theorem same_loop (k : Nat) (d : D) (ds : List D) (hd : d = .lst ds ∨ d = .tup ds) (hr : ∀ x ∈ ds, runF T k "_law_same" [.val x, .val x] = .ok (.val (.bl true)) [.val x, .val x]) :
    ∃ y, forM' (.name 2) (dSs T (runF T k) l_law_same_1) (upto ds.length) [.val d, .val d, .un] = .ok .nx [.val d, .val d, y] := by
  obtain ⟨r', e, y, rfl, _⟩ := for_inv (t := .name 2) (b := dSs T (runF T k) l_law_same_1) (fun _ r => ∃ y, r = [.val d, .val d, y] ∧ (y = .un ∨ ∃ d, y = .val d)) (upto ds.length) 0 [.val d, .val d, .un] (fun i d' r hi hI => by
    obtain ⟨rfl, hlt⟩ := up_at hi
    obtain ⟨y, rfl, hy⟩ := hI
    have hx : ixD T.tabs d (.int i) = some (.val ds[i]) := by
      rcases hd with rfl | rfl
      · show uD (atI ds (i : Int)) = _
        rw [at_nat ds i hlt, List.getElem?_eq_getElem hlt]; rfl
      · show uD (atI ds (i : Int)) = _
        rw [at_nat ds i hlt, List.getElem?_eq_getElem hlt]; rfl
    exact ⟨_, _, by rcases hy with rfl | ⟨d, rfl⟩ <;> rfl, same_turn k i d ds[i] rfl hx (hr _ (List.getElem_mem hlt)), _, rfl, .inr ⟨_, rfl⟩⟩) ⟨_, rfl, .inl rfl⟩
  exact ⟨y, e⟩
theorem same : ∀ (n k : Nat) (d : D), Pl n d → runF T (k+n+1) "_law_same" [.val d, .val d] = .ok (.val (.bl true)) [.val d, .val d] := by
  intro n
  have ew : T.fns "_law_same" = some f_law_same := rfl
  have F : ∀ (k : Nat) (d : D), (d = .non ∨ (∃ b, d = .bl b) ∨ (∃ i, d = .int i) ∨ ∃ x, d = .str x) → runF T (k+1) "_law_same" [.val d, .val d] = .ok (.val (.bl true)) [.val d, .val d] := by
    intro k d h
    rw [runF_succ ew rfl]
    rcases h with rfl | ⟨b, rfl⟩ | ⟨i, rfl⟩ | ⟨x, rfl⟩
    · simp [f_law_same, dSs, dS, dU, dUs, dDs, dO, dI, optM, itemsD, rngD, mbind, mpure, seqM, fzM, varM, opM, binD, cmpD, eqD, vB, vI, vB', U.now, U.fz, Mo.opt, Mo.pure, Mo.none, cbM, biF, retU, putM, appM, setM, okSet, endF, backP, A.tag, A.ret, dataM, toDv, toDf, toDs, okU, nows, iteM, boolM, asB, Pw.andM, Pw.orM, Pw.notM, ixD, uD, ifOwn, intM, asI, dAs, argM, mdOf, callM, mkArgs, slots, putBack, put1, noAl, chnM, tgF, sets, isM, itTup, itLst, itStr, itInt, itBl, itNon, Tn.is, optI, slM, slD, atI, ixN, D.isNon]
    · simp [f_law_same, dSs, dS, dU, dUs, dDs, dO, dI, optM, itemsD, rngD, mbind, mpure, seqM, fzM, varM, opM, binD, cmpD, eqD, vB, vI, vB', U.now, U.fz, Mo.opt, Mo.pure, Mo.none, cbM, biF, retU, putM, appM, setM, okSet, endF, backP, A.tag, A.ret, dataM, toDv, toDf, toDs, okU, nows, iteM, boolM, asB, Pw.andM, Pw.orM, Pw.notM, ixD, uD, ifOwn, intM, asI, dAs, argM, mdOf, callM, mkArgs, slots, putBack, put1, noAl, chnM, tgF, sets, isM, itTup, itLst, itStr, itInt, itBl, itNon, Tn.is, optI, slM, slD, atI, ixN, D.isNon]
    · simp [f_law_same, dSs, dS, dU, dUs, dDs, dO, dI, optM, itemsD, rngD, mbind, mpure, seqM, fzM, varM, opM, binD, cmpD, eqD, vB, vI, vB', U.now, U.fz, Mo.opt, Mo.pure, Mo.none, cbM, biF, retU, putM, appM, setM, okSet, endF, backP, A.tag, A.ret, dataM, toDv, toDf, toDs, okU, nows, iteM, boolM, asB, Pw.andM, Pw.orM, Pw.notM, ixD, uD, ifOwn, intM, asI, dAs, argM, mdOf, callM, mkArgs, slots, putBack, put1, noAl, chnM, tgF, sets, isM, itTup, itLst, itStr, itInt, itBl, itNon, Tn.is, optI, slM, slD, atI, ixN, D.isNon]
    · simp [f_law_same, dSs, dS, dU, dUs, dDs, dO, dI, optM, itemsD, rngD, mbind, mpure, seqM, fzM, varM, opM, binD, cmpD, eqD, vB, vI, vB', U.now, U.fz, Mo.opt, Mo.pure, Mo.none, cbM, biF, retU, putM, appM, setM, okSet, endF, backP, A.tag, A.ret, dataM, toDv, toDf, toDs, okU, nows, iteM, boolM, asB, Pw.andM, Pw.orM, Pw.notM, ixD, uD, ifOwn, intM, asI, dAs, argM, mdOf, callM, mkArgs, slots, putBack, put1, noAl, chnM, tgF, sets, isM, itTup, itLst, itStr, itInt, itBl, itNon, Tn.is, optI, slM, slD, atI, ixN, D.isNon]
  have G : ∀ (k : Nat) (d : D) (ds : List D), (d = .lst ds ∨ d = .tup ds) → ds.length ≤ 1000 → (∀ x ∈ ds, runF T k "_law_same" [.val x, .val x] = .ok (.val (.bl true)) [.val x, .val x]) → runF T (k+1) "_law_same" [.val d, .val d] = .ok (.val (.bl true)) [.val d, .val d] := by
    intro k d ds hd hl hr
    rw [runF_succ ew rfl]
    obtain ⟨y, e⟩ := same_loop k d ds hd hr
    have hb : (-1000000 : Int) ≤ ds.length ∧ (ds.length : Int) ≤ 1000000 := by omega
    rcases hd with rfl | rfl
    · simp [f_law_same, dSs, dS, dU, dUs, dDs, dO, dI, optM, itemsD, rngD, mbind, mpure, seqM, fzM, varM, opM, binD, cmpD, eqD, vB, vI, vB', U.now, U.fz, Mo.opt, Mo.pure, Mo.none, cbM, biF, retU, putM, appM, setM, okSet, endF, backP, A.tag, A.ret, dataM, toDv, toDf, toDs, okU, nows, iteM, boolM, asB, Pw.andM, Pw.orM, Pw.notM, ixD, uD, ifOwn, intM, asI, dAs, argM, mdOf, callM, mkArgs, slots, putBack, put1, noAl, chnM, tgF, sets, isM, itTup, itLst, itStr, itInt, itBl, itNon, Tn.is, optI, slM, slD, atI, ixN, D.isNon, hb, e]
    · simp [f_law_same, dSs, dS, dU, dUs, dDs, dO, dI, optM, itemsD, rngD, mbind, mpure, seqM, fzM, varM, opM, binD, cmpD, eqD, vB, vI, vB', U.now, U.fz, Mo.opt, Mo.pure, Mo.none, cbM, biF, retU, putM, appM, setM, okSet, endF, backP, A.tag, A.ret, dataM, toDv, toDf, toDs, okU, nows, iteM, boolM, asB, Pw.andM, Pw.orM, Pw.notM, ixD, uD, ifOwn, intM, asI, dAs, argM, mdOf, callM, mkArgs, slots, putBack, put1, noAl, chnM, tgF, sets, isM, itTup, itLst, itStr, itInt, itBl, itNon, Tn.is, optI, slM, slD, atI, ixN, D.isNon, hb, e]
  induction n with
  | zero =>
    intro k d h
    cases d with
    | non => exact F k _ (.inl rfl)
    | bl b => exact F k _ (.inr (.inl ⟨b, rfl⟩))
    | int i => exact F k _ (.inr (.inr (.inl ⟨i, rfl⟩)))
    | str x => exact F k _ (.inr (.inr (.inr ⟨x, rfl⟩)))
    | _ => cases h
  | succ n ih =>
    intro k d h
    cases d with
    | non => exact F _ _ (.inl rfl)
    | bl b => exact F _ _ (.inr (.inl ⟨b, rfl⟩))
    | int i => exact F _ _ (.inr (.inr (.inl ⟨i, rfl⟩)))
    | str x => exact F _ _ (.inr (.inr (.inr ⟨x, rfl⟩)))
    | lst ds => exact G _ _ ds (.inl rfl) h.1 fun x hx => ih k x (h.2 x hx)
    | tup ds => exact G _ _ ds (.inr rfl) h.1 fun x hx => ih k x (h.2 x hx)
    | _ => cases h
/-! ### refused -/
theorem refused (k : Nat) (a b d : D) (h : runF T k "apart" [.val a, .val b] = .ex (badE d) [.val a, .val b]) (hs : runF T k "_law_same" [.val d, .val d] = .ok (.val (.bl true)) [.val d, .val d]) :
    runF T (k+1) "_law_refused" [.val a, .val b, .val d] = .ok (.val (.bl true)) [.val a, .val b, .val d] := by
  have ew : T.fns "_law_refused" = some f_law_refused := rfl
  have ex : T.fns "apart" = some f_apart := rfl
  have em : f_apart.md = [false, false] := rfl
  have ex2 : T.fns "_law_same" = some f_law_same := rfl
  have em2 : f_law_same.md = [false, false] := rfl
  have q1 : T.exm "BadEvent" "BadEvent" = some true := by rfl
  have q2 : T.xis "BadEvent" "BadRecord" = some false := by rfl
  have q3 : T.xis "BadEvent" "NoSlot" = some false := by rfl
  have q4 : T.xis "BadEvent" "SlotError" = some true := by rfl
  have q5 : T.errs "BadEvent" = some "event" := by rfl
  rw [runF_succ ew rfl]
  simp [f_law_refused, dSs, dS, dU, dUs, dDs, dO, dI, optM, itemsD, rngD, mbind, mpure, seqM, fzM, varM, opM, binD, cmpD, eqD, vB, vI, vB', U.now, U.fz, Mo.opt, Mo.pure, Mo.none, cbM, biF, retU, putM, appM, setM, okSet, endF, backP, A.tag, A.ret, dataM, toDv, toDf, toDs, okU, nows, iteM, boolM, asB, Pw.andM, Pw.orM, Pw.notM, ixD, uD, ifOwn, intM, asI, dAs, argM, mdOf, callM, mkArgs, slots, putBack, put1, noAl, chnM, tgF, sets, isM, itTup, itLst, itStr, itInt, itBl, itNon, Tn.is, optI, slM, slD, atI, ixN, h, hs, ex, em, ex2, em2, tryM, badE, clrA, xisM, xfdM, q1, q2, q3, q4, q5]
end Law

set_option Elab.async false
set_option linter.all false
set_option maxRecDepth 100000
set_option maxHeartbeats 4000000
namespace Law
open PySem L2 Pw
theorem value (k t : Nat) {ds : List D} (hs : Sd ds) : ∃ (ds' : List D) (v : Int), Sd ds' ∧ runF T (k+3) "_law_value" [.own t ds] = .ok (.val (.int v)) [.own t ds'] := by
  obtain ⟨d1, x, s1, a1, b1, e1⟩ := draw k 1 4 hs (by decide) (by decide)
  have ew : T.fns "_law_value" = some f_law_value := rfl
  have e : T.fns "_law_draw" = some f_law_draw := rfl
  have em : f_law_draw.md = [true, false] := rfl
  by_cases h0 : x = 0
  · obtain ⟨d2, y, s2, a2, b2, e2⟩ := draw k 1 101 s1 (by decide) (by decide)
    refine ⟨d2, y - 50, s2, ?_⟩
    rw [runF_succ ew rfl]
    simp [f_law_value, dSs, dS, dU, dUs, dDs, dO, dI, optM, itemsD, rngD, mbind, mpure, seqM, fzM, varM, opM, binD, cmpD, eqD, vB, vI, vB', U.now, U.fz, Mo.opt, Mo.pure, Mo.none, cbM, biF, retU, putM, appM, setM, okSet, endF, backP, A.tag, A.ret, dataM, toDv, toDf, toDs, okU, nows, iteM, boolM, asB, Pw.andM, Pw.orM, Pw.notM, ixD, uD, ifOwn, intM, asI, dAs, argM, mdOf, callM, mkArgs, slots, putBack, put1, noAl, chnM, tgF, sets, isM, itTup, itLst, itStr, itInt, itBl, itNon, Tn.is, optI, slM, slD, atI, ixN, e, em, e1, e2, h0]
  · by_cases h1 : x = 1
    · obtain ⟨d2, y, s2, a2, b2, e2⟩ := draw k 1 3 s1 (by decide) (by decide)
      refine ⟨d2, 9999999999999999999999999999999999999999 - y, s2, ?_⟩
      rw [runF_succ ew rfl]
      simp [f_law_value, dSs, dS, dU, dUs, dDs, dO, dI, optM, itemsD, rngD, mbind, mpure, seqM, fzM, varM, opM, binD, cmpD, eqD, vB, vI, vB', U.now, U.fz, Mo.opt, Mo.pure, Mo.none, cbM, biF, retU, putM, appM, setM, okSet, endF, backP, A.tag, A.ret, dataM, toDv, toDf, toDs, okU, nows, iteM, boolM, asB, Pw.andM, Pw.orM, Pw.notM, ixD, uD, ifOwn, intM, asI, dAs, argM, mdOf, callM, mkArgs, slots, putBack, put1, noAl, chnM, tgF, sets, isM, itTup, itLst, itStr, itInt, itBl, itNon, Tn.is, optI, slM, slD, atI, ixN, e, em, e1, e2, h1]
    · by_cases h2 : x = 2
      · obtain ⟨d2, y, s2, a2, b2, e2⟩ := draw k 1 3 s1 (by decide) (by decide)
        refine ⟨d2, 0 - (9999999999999999999999999999999999999999 - y), s2, ?_⟩
        rw [runF_succ ew rfl]
        simp [f_law_value, dSs, dS, dU, dUs, dDs, dO, dI, optM, itemsD, rngD, mbind, mpure, seqM, fzM, varM, opM, binD, cmpD, eqD, vB, vI, vB', U.now, U.fz, Mo.opt, Mo.pure, Mo.none, cbM, biF, retU, putM, appM, setM, okSet, endF, backP, A.tag, A.ret, dataM, toDv, toDf, toDs, okU, nows, iteM, boolM, asB, Pw.andM, Pw.orM, Pw.notM, ixD, uD, ifOwn, intM, asI, dAs, argM, mdOf, callM, mkArgs, slots, putBack, put1, noAl, chnM, tgF, sets, isM, itTup, itLst, itStr, itInt, itBl, itNon, Tn.is, optI, slM, slD, atI, ixN, e, em, e1, e2, h2]
      · obtain ⟨d2, y, s2, a2, b2, e2⟩ := draw k 1 1000000000 s1 (by decide) (by decide)
        refine ⟨d2, y - 500000000, s2, ?_⟩
        rw [runF_succ ew rfl]
        simp [f_law_value, dSs, dS, dU, dUs, dDs, dO, dI, optM, itemsD, rngD, mbind, mpure, seqM, fzM, varM, opM, binD, cmpD, eqD, vB, vI, vB', U.now, U.fz, Mo.opt, Mo.pure, Mo.none, cbM, biF, retU, putM, appM, setM, okSet, endF, backP, A.tag, A.ret, dataM, toDv, toDf, toDs, okU, nows, iteM, boolM, asB, Pw.andM, Pw.orM, Pw.notM, ixD, uD, ifOwn, intM, asI, dAs, argM, mdOf, callM, mkArgs, slots, putBack, put1, noAl, chnM, tgF, sets, isM, itTup, itLst, itStr, itInt, itBl, itNon, Tn.is, optI, slM, slD, atI, ixN, e, em, e1, e2, h0, h1, h2]
theorem name_turn (k t t2 : Nat) (ds : List D) (us : List Int) (v j : Int) : ∃ v' : Int, dSs T (runF T k) l_law_name_1 [.own t ds, .own t2 (us.map .int), .val (.int v), .val (.int j)] = .ok .nx [.own t ds, .own t2 (us.map .int), .val (.int v'), .val (.int j)] := by
  have hf : (us.map D.int).all D.flat = true := by
    rw [List.all_map, List.all_eq_true]
    exact fun _ _ => rfl
  have hv : (D.int v).flat = true := rfl
  cases hi : (D.int v).isIn (us.map .int) with
  | true => exact ⟨v % 9999 + 1, by simp [l_law_name_1, dSs, dS, dU, dUs, dDs, dO, dI, optM, itemsD, rngD, mbind, mpure, seqM, fzM, varM, opM, binD, cmpD, eqD, vB, vI, vB', U.now, U.fz, Mo.opt, Mo.pure, Mo.none, cbM, biF, retU, putM, appM, setM, okSet, endF, backP, A.tag, A.ret, dataM, toDv, toDf, toDs, okU, nows, iteM, boolM, asB, Pw.andM, Pw.orM, Pw.notM, ixD, uD, ifOwn, intM, asI, dAs, argM, mdOf, callM, mkArgs, slots, putBack, put1, noAl, chnM, tgF, sets, isM, itTup, itLst, itStr, itInt, itBl, itNon, Tn.is, optI, slM, slD, atI, ixN, inD, hf, hv, hi]⟩
  | false => exact ⟨v, by simp [l_law_name_1, dSs, dS, dU, dUs, dDs, dO, dI, optM, itemsD, rngD, mbind, mpure, seqM, fzM, varM, opM, binD, cmpD, eqD, vB, vI, vB', U.now, U.fz, Mo.opt, Mo.pure, Mo.none, cbM, biF, retU, putM, appM, setM, okSet, endF, backP, A.tag, A.ret, dataM, toDv, toDf, toDs, okU, nows, iteM, boolM, asB, Pw.andM, Pw.orM, Pw.notM, ixD, uD, ifOwn, intM, asI, dAs, argM, mdOf, callM, mkArgs, slots, putBack, put1, noAl, chnM, tgF, sets, isM, itTup, itLst, itStr, itInt, itBl, itNon, Tn.is, optI, slM, slD, atI, ixN, inD, hf, hv, hi]⟩
theorem name (k t t2 : Nat) {ds : List D} (hs : Sd ds) (us : List Int) (hl : us.length ≤ 1000) : ∃ (ds' : List D) (v : Int), Sd ds' ∧ runF T (k+3) "_law_name" [.own t ds, .own t2 (us.map .int)] = .ok (.val (.int v)) [.own t ds', .own t2 (us.map .int)] := by
  obtain ⟨d1, x, s1, a1, b1, e1⟩ := draw k 1 9999 hs (by decide) (by decide)
  have ew : T.fns "_law_name" = some f_law_name := rfl
  have e : T.fns "_law_draw" = some f_law_draw := rfl
  have em : f_law_draw.md = [true, false] := rfl
  obtain ⟨r', e5, v, kk, hk, rfl⟩ := for_inv (t := .name 3) (b := dSs T (runF T (k+2)) l_law_name_1) (fun j r => ∃ (v : Int) (kk : A), (kk = .un ∨ ∃ d, kk = .val d) ∧ r = [.own t d1, .own t2 (us.map .int), .val (.int v), kk]) (upto us.length) 0
    [.own t d1, .own t2 (us.map .int), .val (.int (1 + x)), .un] (fun i d r hd hi => by
      obtain ⟨rfl, hlt⟩ := up_at hd
      obtain ⟨v, kk, hk, rfl⟩ := hi
      obtain ⟨v', g⟩ := name_turn (k+2) t t2 d1 us v i
      exact ⟨_, _, by rcases hk with rfl | ⟨d, rfl⟩ <;> rfl, g, v', _, .inr ⟨_, rfl⟩, rfl⟩) ⟨_, _, .inl rfl, rfl⟩
  refine ⟨d1, v, s1, ?_⟩
  rw [runF_succ ew rfl]
  have hb : (-1000000 : Int) ≤ us.length ∧ (us.length : Int) ≤ 1000000 := by omega
  simp [f_law_name, dSs, dS, dU, dUs, dDs, dO, dI, optM, itemsD, rngD, mbind, mpure, seqM, fzM, varM, opM, binD, cmpD, eqD, vB, vI, vB', U.now, U.fz, Mo.opt, Mo.pure, Mo.none, cbM, biF, retU, putM, appM, setM, okSet, endF, backP, A.tag, A.ret, dataM, toDv, toDf, toDs, okU, nows, iteM, boolM, asB, Pw.andM, Pw.orM, Pw.notM, ixD, uD, ifOwn, intM, asI, dAs, argM, mdOf, callM, mkArgs, slots, putBack, put1, noAl, chnM, tgF, sets, isM, itTup, itLst, itStr, itInt, itBl, itNon, Tn.is, optI, slM, slD, atI, ixN, e, em, e1, hb, e5]
end Law

set_option Elab.async false
set_option linter.all false
set_option maxRecDepth 100000
set_option maxHeartbeats 4000000
namespace Law
open PySem L2 Pw
theorem next0 (k : Nat) {ds : List D} (hs : Sd ds) : ∃ (ds' : List D) (rec : D) (us : List Int) (run : A), Sd ds' ∧ Pl 1 rec ∧ ((us = [] ∧ run = .own 3 []) ∨ ∃ v, us = [v] ∧ run = .own2 3 [(1, [.int v, .int 0])]) ∧
    runF T (k+4) "_law_next" [.own 1 ds, .own 2 [], .own 3 []] = .ok (.val rec) [.own 1 ds', .own 2 (us.map .int), run] := by
  obtain ⟨d1, x, s1, a1, b1, e1⟩ := draw (k+1) 1 12 hs (by decide) (by decide)
  have ew : T.fns "_law_next" = some f_law_next := rfl
  have e : T.fns "_law_draw" = some f_law_draw := rfl
  have em : f_law_draw.md = [true, false] := rfl
  have en : T.fns "_law_name" = some f_law_name := rfl
  have emn : f_law_name.md = [true, true] := rfl
  obtain ⟨d2, v, s2, e2⟩ := name k 1 2 s1 [] (by decide)
  have e2' : runF T (k+3) "_law_name" [.own 1 d1, .own 2 []] = .ok (.val (.int v)) [.own 1 d2, .own 2 []] := e2
  by_cases hb : x < 3 ∨ (3 ≤ x ∧ x ≤ 6)
  · refine ⟨d2, .tup [.str "begin", .int v], [v], .own2 3 [(1, [.int v, .int 0])], s2, ⟨by simp, fun d hd => ?_⟩, .inr ⟨v, rfl, rfl⟩, ?_⟩
    · simp at hd; rcases hd with rfl | rfl <;> trivial
    · rw [runF_succ ew rfl]
      have h4 : ¬ (7 ≤ x) := by omega
      rcases hb with hb | hb
      · have h3 : ¬ 3 ≤ x := by omega
        simp [f_law_next, dSs, dS, dU, dUs, dDs, dO, dI, optM, itemsD, rngD, mbind, mpure, seqM, fzM, varM, opM, binD, cmpD, eqD, vB, vI, vB', U.now, U.fz, Mo.opt, Mo.pure, Mo.none, cbM, biF, retU, putM, appM, setM, okSet, endF, backP, A.tag, A.ret, dataM, toDv, toDf, toDs, okU, nows, iteM, boolM, asB, Pw.andM, Pw.orM, Pw.notM, ixD, uD, ifOwn, intM, asI, dAs, argM, mdOf, callM, mkArgs, slots, putBack, put1, noAl, chnM, tgF, sets, isM, itTup, itLst, itStr, itInt, itBl, itNon, Tn.is, optI, slM, slD, atI, ixN, e, em, e1, en, emn, e2', ifRows, isRows, rowsOf, appRM, newId, hb, h3, h4]
      · have h5 : ¬ x < 3 := by omega
        simp [f_law_next, dSs, dS, dU, dUs, dDs, dO, dI, optM, itemsD, rngD, mbind, mpure, seqM, fzM, varM, opM, binD, cmpD, eqD, vB, vI, vB', U.now, U.fz, Mo.opt, Mo.pure, Mo.none, cbM, biF, retU, putM, appM, setM, okSet, endF, backP, A.tag, A.ret, dataM, toDv, toDf, toDs, okU, nows, iteM, boolM, asB, Pw.andM, Pw.orM, Pw.notM, ixD, uD, ifOwn, intM, asI, dAs, argM, mdOf, callM, mkArgs, slots, putBack, put1, noAl, chnM, tgF, sets, isM, itTup, itLst, itStr, itInt, itBl, itNon, Tn.is, optI, slM, slD, atI, ixN, e, em, e1, en, emn, e2', ifRows, isRows, rowsOf, appRM, newId, hb.1, hb.2, h4, h5]
  · by_cases hc : x = 10
    · refine ⟨d1, .tup [.str "note"], [], .own 3 [], s1, ⟨by simp, fun d hd => ?_⟩, .inl ⟨rfl, rfl⟩, ?_⟩
      · simp at hd; subst hd; trivial
      · subst hc
        rw [runF_succ ew rfl]
        simp [f_law_next, dSs, dS, dU, dUs, dDs, dO, dI, optM, itemsD, rngD, mbind, mpure, seqM, fzM, varM, opM, binD, cmpD, eqD, vB, vI, vB', U.now, U.fz, Mo.opt, Mo.pure, Mo.none, cbM, biF, retU, putM, appM, setM, okSet, endF, backP, A.tag, A.ret, dataM, toDv, toDf, toDs, okU, nows, iteM, boolM, asB, Pw.andM, Pw.orM, Pw.notM, ixD, uD, ifOwn, intM, asI, dAs, argM, mdOf, callM, mkArgs, slots, putBack, put1, noAl, chnM, tgF, sets, isM, itTup, itLst, itStr, itInt, itBl, itNon, Tn.is, optI, slM, slD, atI, ixN, e, em, e1, en, emn, e2', ifRows, isRows, rowsOf, appRM, newId]
    · refine ⟨d1, .tup [.str "rest"], [], .own 3 [], s1, ⟨by simp, fun d hd => ?_⟩, .inl ⟨rfl, rfl⟩, ?_⟩
      · simp at hd; subst hd; trivial
      · rw [runF_succ ew rfl]
        have h5 : ¬ x < 3 := by omega
        have h7 : 7 ≤ x := by omega
        have h6 : ¬ x ≤ 6 := by omega
        have h3 : 3 ≤ x := by omega
        by_cases h9 : x ≤ 9
        · have h10 : ¬ x = 10 := by omega
          simp [f_law_next, dSs, dS, dU, dUs, dDs, dO, dI, optM, itemsD, rngD, mbind, mpure, seqM, fzM, varM, opM, binD, cmpD, eqD, vB, vI, vB', U.now, U.fz, Mo.opt, Mo.pure, Mo.none, cbM, biF, retU, putM, appM, setM, okSet, endF, backP, A.tag, A.ret, dataM, toDv, toDf, toDs, okU, nows, iteM, boolM, asB, Pw.andM, Pw.orM, Pw.notM, ixD, uD, ifOwn, intM, asI, dAs, argM, mdOf, callM, mkArgs, slots, putBack, put1, noAl, chnM, tgF, sets, isM, itTup, itLst, itStr, itInt, itBl, itNon, Tn.is, optI, slM, slD, atI, ixN, e, em, e1, h3, h5, h6, h7, h9, h10]
        · obtain rfl : x = 11 := by omega
          simp [f_law_next, dSs, dS, dU, dUs, dDs, dO, dI, optM, itemsD, rngD, mbind, mpure, seqM, fzM, varM, opM, binD, cmpD, eqD, vB, vI, vB', U.now, U.fz, Mo.opt, Mo.pure, Mo.none, cbM, biF, retU, putM, appM, setM, okSet, endF, backP, A.tag, A.ret, dataM, toDv, toDf, toDs, okU, nows, iteM, boolM, asB, Pw.andM, Pw.orM, Pw.notM, ixD, uD, ifOwn, intM, asI, dAs, argM, mdOf, callM, mkArgs, slots, putBack, put1, noAl, chnM, tgF, sets, isM, itTup, itLst, itStr, itInt, itBl, itNon, Tn.is, optI, slM, slD, atI, ixN, e, em, e1]
end Law

set_option Elab.async false
set_option linter.all false
set_option maxRecDepth 100000
set_option maxHeartbeats 4000000
namespace Law
open PySem L2 Pw
theorem next1 (k : Nat) (v : Int) {ds : List D} (hs : Sd ds) : ∃ (ds' : List D) (rec : D) (a2 a3 : A), Sd ds' ∧ Pl 1 rec ∧ a2.tag = some 2 ∧ a3.tag = some 3 ∧
    runF T (k+5) "_law_next" [.own 1 ds, .own 2 [.int v], .own2 3 [(1, [.int v, .int 0])]] = .ok (.val rec) [.own 1 ds', a2, a3] := by
  obtain ⟨d1, x, s1, a1, b1, e1⟩ := draw (k+2) 1 12 hs (by decide) (by decide)
  have ew : T.fns "_law_next" = some f_law_next := rfl
  have e : T.fns "_law_draw" = some f_law_draw := rfl
  have em : f_law_draw.md = [true, false] := rfl
  have en : T.fns "_law_name" = some f_law_name := rfl
  have emn : f_law_name.md = [true, true] := rfl
  have ewo : T.fns "_law_word" = some f_law_word := rfl
  have emw : f_law_word.md = [true] := rfl
  have eva : T.fns "_law_value" = some f_law_value := rfl
  have emv : f_law_value.md = [true] := rfl
  by_cases hb : x < 3
  · obtain ⟨d2, v2, s2, e2⟩ := name (k+1) 1 2 s1 [v] (by simp)
    have e2' : runF T (k+4) "_law_name" [.own 1 d1, .own 2 [.int v]] = .ok (.val (.int v2)) [.own 1 d2, .own 2 [.int v]] := e2
    refine ⟨d2, .tup [.str "begin", .int v2], .own 2 [.int v, .int v2], .own2 3 [(1, [.int v, .int 0]), (2, [.int v2, .int 0])], s2, ⟨by simp, fun d hd => ?_⟩, rfl, rfl, ?_⟩
    · simp at hd; rcases hd with rfl | rfl <;> trivial
    · rw [runF_succ ew rfl]
      simp [f_law_next, dSs, dS, dU, dUs, dDs, dO, dI, optM, itemsD, rngD, mbind, mpure, seqM, fzM, varM, opM, binD, cmpD, eqD, vB, vI, vB', U.now, U.fz, Mo.opt, Mo.pure, Mo.none, cbM, biF, retU, putM, appM, setM, okSet, endF, backP, A.tag, A.ret, dataM, toDv, toDf, toDs, okU, nows, iteM, boolM, asB, Pw.andM, Pw.orM, Pw.notM, ixD, uD, ifOwn, intM, asI, dAs, argM, mdOf, callM, mkArgs, slots, putBack, put1, noAl, chnM, tgF, sets, isM, itTup, itLst, itStr, itInt, itBl, itNon, Tn.is, optI, slM, slD, atI, ixN, e, em, e1, en, emn, e2', ifRows, isRows, rowsOf, appRM, newId, hb]
  · by_cases hc : x = 10
    · refine ⟨d1, .tup [.str "note"], .own 2 [.int v], .own2 3 [(1, [.int v, .int 0])], s1, ⟨by simp, fun d hd => ?_⟩, rfl, rfl, ?_⟩
      · simp at hd; subst hd; trivial
      · subst hc
        rw [runF_succ ew rfl]
        simp [f_law_next, dSs, dS, dU, dUs, dDs, dO, dI, optM, itemsD, rngD, mbind, mpure, seqM, fzM, varM, opM, binD, cmpD, eqD, vB, vI, vB', U.now, U.fz, Mo.opt, Mo.pure, Mo.none, cbM, biF, retU, putM, appM, setM, okSet, endF, backP, A.tag, A.ret, dataM, toDv, toDf, toDs, okU, nows, iteM, boolM, asB, Pw.andM, Pw.orM, Pw.notM, ixD, uD, ifOwn, intM, asI, dAs, argM, mdOf, callM, mkArgs, slots, putBack, put1, noAl, chnM, tgF, sets, isM, itTup, itLst, itStr, itInt, itBl, itNon, Tn.is, optI, slM, slD, atI, ixN, e, em, e1]
    · by_cases hc2 : x = 11
      · refine ⟨d1, .tup [.str "rest"], .own 2 [.int v], .own2 3 [(1, [.int v, .int 0])], s1, ⟨by simp, fun d hd => ?_⟩, rfl, rfl, ?_⟩
        · simp at hd; subst hd; trivial
        · subst hc2
          rw [runF_succ ew rfl]
          simp [f_law_next, dSs, dS, dU, dUs, dDs, dO, dI, optM, itemsD, rngD, mbind, mpure, seqM, fzM, varM, opM, binD, cmpD, eqD, vB, vI, vB', U.now, U.fz, Mo.opt, Mo.pure, Mo.none, cbM, biF, retU, putM, appM, setM, okSet, endF, backP, A.tag, A.ret, dataM, toDv, toDf, toDs, okU, nows, iteM, boolM, asB, Pw.andM, Pw.orM, Pw.notM, ixD, uD, ifOwn, intM, asI, dAs, argM, mdOf, callM, mkArgs, slots, putBack, put1, noAl, chnM, tgF, sets, isM, itTup, itLst, itStr, itInt, itBl, itNon, Tn.is, optI, slM, slD, atI, ixN, e, em, e1]
      · obtain ⟨d2, y, s2, y1, y2, e2⟩ := draw (k+2) 1 1 s1 (by decide) (by decide)
        obtain rfl : y = 0 := by omega
        by_cases h6 : x ≤ 6
        · obtain ⟨d3, w, s3, _, e3⟩ := word (k+1) 1 s2
          obtain ⟨d4, u, s4, e4⟩ := value (k+1) 1 s3
          refine ⟨d4, .tup [.str "change", .int v, .str w, .int u], .own 2 [.int v], .own2 3 [(1, [.int v, .int 1])], s4, ⟨by simp, fun d hd => ?_⟩, rfl, rfl, ?_⟩
          · simp at hd; rcases hd with rfl | rfl | rfl | rfl <;> trivial
          · rw [runF_succ ew rfl]
            by_cases h66 : x = 6
            · subst h66
              simp [f_law_next, dSs, dS, dU, dUs, dDs, dO, dI, optM, itemsD, rngD, mbind, mpure, seqM, fzM, varM, opM, binD, cmpD, eqD, vB, vI, vB', U.now, U.fz, Mo.opt, Mo.pure, Mo.none, cbM, biF, retU, putM, appM, setM, okSet, endF, backP, A.tag, A.ret, dataM, toDv, toDf, toDs, okU, nows, iteM, boolM, asB, Pw.andM, Pw.orM, Pw.notM, ixD, uD, ifOwn, intM, asI, dAs, argM, mdOf, callM, mkArgs, slots, putBack, put1, noAl, chnM, tgF, sets, isM, itTup, itLst, itStr, itInt, itBl, itNon, Tn.is, optI, slM, slD, atI, ixN, e, em, e1, e2, ewo, emw, e3, eva, emv, e4, ifRows, isRows, rowsOf, aliM, ifAli, setRM, rowIx]
            · have h67 : x < 6 := by omega
              simp [f_law_next, dSs, dS, dU, dUs, dDs, dO, dI, optM, itemsD, rngD, mbind, mpure, seqM, fzM, varM, opM, binD, cmpD, eqD, vB, vI, vB', U.now, U.fz, Mo.opt, Mo.pure, Mo.none, cbM, biF, retU, putM, appM, setM, okSet, endF, backP, A.tag, A.ret, dataM, toDv, toDf, toDs, okU, nows, iteM, boolM, asB, Pw.andM, Pw.orM, Pw.notM, ixD, uD, ifOwn, intM, asI, dAs, argM, mdOf, callM, mkArgs, slots, putBack, put1, noAl, chnM, tgF, sets, isM, itTup, itLst, itStr, itInt, itBl, itNon, Tn.is, optI, slM, slD, atI, ixN, e, em, e1, e2, ewo, emw, e3, eva, emv, e4, ifRows, isRows, rowsOf, aliM, ifAli, setRM, rowIx, hb, hc, hc2, h66, h67]
        · by_cases h9 : x = 9
          · subst h9
            refine ⟨d2, .tup [.str "abort", .int v], .own 2 [.int v], .own2 3 [], s2, ⟨by simp, fun d hd => ?_⟩, rfl, rfl, ?_⟩
            · simp at hd; rcases hd with rfl | rfl <;> trivial
            · rw [runF_succ ew rfl]
              simp [f_law_next, dSs, dS, dU, dUs, dDs, dO, dI, optM, itemsD, rngD, mbind, mpure, seqM, fzM, varM, opM, binD, cmpD, eqD, vB, vI, vB', U.now, U.fz, Mo.opt, Mo.pure, Mo.none, cbM, biF, retU, putM, appM, setM, okSet, endF, backP, A.tag, A.ret, dataM, toDv, toDf, toDs, okU, nows, iteM, boolM, asB, Pw.andM, Pw.orM, Pw.notM, ixD, uD, ifOwn, intM, asI, dAs, argM, mdOf, callM, mkArgs, slots, putBack, put1, noAl, chnM, tgF, sets, isM, itTup, itLst, itStr, itInt, itBl, itNon, Tn.is, optI, slM, slD, atI, ixN, e, em, e1, e2, ifRows, isRows, rowsOf, aliM, ifAli, setRM, rowIx, remM, remM.noAl']
          · refine ⟨d2, .tup [.str "commit", .int v], .own 2 [.int v], .own2 3 [], s2, ⟨by simp, fun d hd => ?_⟩, rfl, rfl, ?_⟩
            · simp at hd; rcases hd with rfl | rfl <;> trivial
            · rw [runF_succ ew rfl]
              by_cases h7 : x = 7
              · subst h7
                simp [f_law_next, dSs, dS, dU, dUs, dDs, dO, dI, optM, itemsD, rngD, mbind, mpure, seqM, fzM, varM, opM, binD, cmpD, eqD, vB, vI, vB', U.now, U.fz, Mo.opt, Mo.pure, Mo.none, cbM, biF, retU, putM, appM, setM, okSet, endF, backP, A.tag, A.ret, dataM, toDv, toDf, toDs, okU, nows, iteM, boolM, asB, Pw.andM, Pw.orM, Pw.notM, ixD, uD, ifOwn, intM, asI, dAs, argM, mdOf, callM, mkArgs, slots, putBack, put1, noAl, chnM, tgF, sets, isM, itTup, itLst, itStr, itInt, itBl, itNon, Tn.is, optI, slM, slD, atI, ixN, e, em, e1, e2, ifRows, isRows, rowsOf, aliM, ifAli, setRM, rowIx, remM, remM.noAl']
              · obtain rfl : x = 8 := by omega
                simp [f_law_next, dSs, dS, dU, dUs, dDs, dO, dI, optM, itemsD, rngD, mbind, mpure, seqM, fzM, varM, opM, binD, cmpD, eqD, vB, vI, vB', U.now, U.fz, Mo.opt, Mo.pure, Mo.none, cbM, biF, retU, putM, appM, setM, okSet, endF, backP, A.tag, A.ret, dataM, toDv, toDf, toDs, okU, nows, iteM, boolM, asB, Pw.andM, Pw.orM, Pw.notM, ixD, uD, ifOwn, intM, asI, dAs, argM, mdOf, callM, mkArgs, slots, putBack, put1, noAl, chnM, tgF, sets, isM, itTup, itLst, itStr, itInt, itBl, itNon, Tn.is, optI, slM, slD, atI, ixN, e, em, e1, e2, ifRows, isRows, rowsOf, aliM, ifAli, setRM, rowIx, remM, remM.noAl']
end Law

set_option Elab.async false
set_option linter.all false
set_option maxRecDepth 100000
set_option maxHeartbeats 4000000
namespace Law
open PySem L2 Pw
theorem records (k t : Nat) {ds : List D} (hs : Sd ds) : ∃ (ds' : List D) (ra rb : D), Sd ds' ∧ Pl 1 ra ∧ Pl 1 rb ∧ runF T (k+6) "_law_records" [.own t ds, .val (.int 2)] = .ok (.val (.lst [ra, rb])) [.own t ds', .val (.int 2)] := by
  obtain ⟨d1, ra, us, run, s1, p1, hc, e1⟩ := next0 (k+1) hs
  have ew : T.fns "_law_records" = some f_law_records := rfl
  have e : T.fns "_law_next" = some f_law_next := rfl
  have em : f_law_next.md = [true, true, true] := rfl
  have eu : upto 2 = [.int 0, .int 1] := rfl
  rcases hc with ⟨rfl, rfl⟩ | ⟨v, rfl, rfl⟩
  · obtain ⟨d2, rb, us2, run2, s2, p2, hc2, e2⟩ := next0 (k+1) s1
    refine ⟨d2, ra, rb, s2, p1, p2, ?_⟩
    rw [runF_succ ew rfl]
    rcases hc2 with ⟨rfl, rfl⟩ | ⟨v, rfl, rfl⟩
    · simp [f_law_records, l_law_records_1, dSs, dS, dU, dUs, dDs, dO, dI, optM, itemsD, rngD, mbind, mpure, seqM, fzM, varM, opM, binD, cmpD, eqD, vB, vI, vB', U.now, U.fz, Mo.opt, Mo.pure, Mo.none, cbM, biF, retU, putM, appM, setM, okSet, endF, backP, A.tag, A.ret, dataM, toDv, toDf, toDs, okU, nows, iteM, boolM, asB, Pw.andM, Pw.orM, Pw.notM, ixD, uD, ifOwn, intM, asI, dAs, argM, mdOf, callM, mkArgs, slots, putBack, put1, noAl, chnM, tgF, sets, isM, itTup, itLst, itStr, itInt, itBl, itNon, Tn.is, optI, slM, slD, atI, ixN, e, em, eu, forM', e1, e2]
    · simp [f_law_records, l_law_records_1, dSs, dS, dU, dUs, dDs, dO, dI, optM, itemsD, rngD, mbind, mpure, seqM, fzM, varM, opM, binD, cmpD, eqD, vB, vI, vB', U.now, U.fz, Mo.opt, Mo.pure, Mo.none, cbM, biF, retU, putM, appM, setM, okSet, endF, backP, A.tag, A.ret, dataM, toDv, toDf, toDs, okU, nows, iteM, boolM, asB, Pw.andM, Pw.orM, Pw.notM, ixD, uD, ifOwn, intM, asI, dAs, argM, mdOf, callM, mkArgs, slots, putBack, put1, noAl, chnM, tgF, sets, isM, itTup, itLst, itStr, itInt, itBl, itNon, Tn.is, optI, slM, slD, atI, ixN, e, em, eu, forM', e1, e2]
  · obtain ⟨d2, rb, a2, a3, s2, p2, t2, t3, e2⟩ := next1 k v s1
    refine ⟨d2, ra, rb, s2, p1, p2, ?_⟩
    rw [runF_succ ew rfl]
    simp [f_law_records, l_law_records_1, dSs, dS, dU, dUs, dDs, dO, dI, optM, itemsD, rngD, mbind, mpure, seqM, fzM, varM, opM, binD, cmpD, eqD, vB, vI, vB', U.now, U.fz, Mo.opt, Mo.pure, Mo.none, cbM, biF, retU, putM, appM, setM, okSet, endF, backP, A.tag, A.ret, dataM, toDv, toDf, toDs, okU, nows, iteM, boolM, asB, Pw.andM, Pw.orM, Pw.notM, ixD, uD, ifOwn, intM, asI, dAs, argM, mdOf, callM, mkArgs, slots, putBack, put1, noAl, chnM, tgF, sets, isM, itTup, itLst, itStr, itInt, itBl, itNon, Tn.is, optI, slM, slD, atI, ixN, e, em, eu, forM', e1, e2]
end Law

set_option Elab.async false
set_option linter.all false
set_option maxRecDepth 100000
set_option maxHeartbeats 4000000
namespace Law
open PySem L2 Pw
def sE (w n : Str) : D := .tup [.str w, .str n]
def lE (d : D) : D := .tup [.str "log", d]
def evs (n1 n2 : Str) (ra rb : D) (i : Int) : List D := [sE "connect" n1, sE "tell" n1, sE "apply" n1, sE "report" n1, sE "confirm" n1, sE "save" n1, sE "halt" n1, sE "connect" n2, sE "tell" n2, sE "apply" n2, sE "report" n2, sE "confirm" n2, sE "save" n2, sE "halt" n2,
  lE ra, lE rb, lE (.tup [.str "begin", .int i]), lE (.lst [.str n1]), .tup [.str "stop"], .tup [.str "strike"]]
theorem ev_words (k t : Nat) (ds es : List D) (nm : D) (n : Str) (x : A) (hx : x = .un ∨ ∃ d, x = .val d) (hl : es.length ≤ 100) : forM' (.name 4) (dSs T (runF T k) l_law_all_events_2) [.str "connect", .str "tell", .str "apply", .str "report", .str "confirm", .str "save", .str "halt"] [.own t ds, .val nm, .own 0 es, .val (.str n), x, .un] =
    .ok .nx [.own t ds, .val nm, .own 0 (es ++ [sE "connect" n, sE "tell" n, sE "apply" n, sE "report" n, sE "confirm" n, sE "save" n, sE "halt" n]), .val (.str n), .val (.str "halt"), .un] := by
  have h0 : ∀ m, m ≤ 10 → es.length + m < 1000000 := fun m hm => by omega
  have g0 : es.length < 1000000 := by omega
  have g1 : es.length + 1 < 1000000 := by omega
  have g2 : es.length + 1 + 1 < 1000000 := by omega
  have g3 : es.length + 1 + 1 + 1 < 1000000 := by omega
  have g4 : es.length + 1 + 1 + 1 + 1 < 1000000 := by omega
  have g5 : es.length + 1 + 1 + 1 + 1 + 1 < 1000000 := by omega
  have g6 : es.length + 1 + 1 + 1 + 1 + 1 + 1 < 1000000 := by omega
  rcases hx with rfl | ⟨d, rfl⟩ <;> simp [l_law_all_events_2, forM', sE, dSs, dS, dU, dUs, dDs, dO, dI, optM, itemsD, rngD, mbind, mpure, seqM, fzM, varM, opM, binD, cmpD, eqD, vB, vI, vB', U.now, U.fz, Mo.opt, Mo.pure, Mo.none, cbM, biF, retU, putM, appM, setM, okSet, endF, backP, A.tag, A.ret, dataM, toDv, toDf, toDs, okU, nows, iteM, boolM, asB, Pw.andM, Pw.orM, Pw.notM, ixD, uD, ifOwn, intM, asI, dAs, argM, mdOf, callM, mkArgs, slots, putBack, put1, noAl, chnM, tgF, sets, isM, itTup, itLst, itStr, itInt, itBl, itNon, Tn.is, optI, slM, slD, atI, ixN, g0, g1, g2, g3, g4, g5, g6]
theorem all_events (k t : Nat) (n1 n2 : Str) {ds : List D} (hs : Sd ds) : ∃ (ds' : List D) (ra rb : D) (i : Int), Sd ds' ∧ Pl 1 ra ∧ Pl 1 rb ∧
    runF T (k+7) "_law_all_events" [.own t ds, .val (.lst [.str n1, .str n2])] = .ok (.fresh (evs n1 n2 ra rb i)) [.own t ds', .val (.lst [.str n1, .str n2])] := by
  obtain ⟨d1, ra, rb, s1, p1, p2, e1⟩ := records k 1 hs
  obtain ⟨d2, y, s2, y1, y2, e2⟩ := draw (k+4) 1 9 s1 (by decide) (by decide)
  have ew : T.fns "_law_all_events" = some f_law_all_events := rfl
  have er : T.fns "_law_records" = some f_law_records := rfl
  have emr : f_law_records.md = [true, false] := rfl
  have e : T.fns "_law_draw" = some f_law_draw := rfl
  have em : f_law_draw.md = [true, false] := rfl
  refine ⟨d2, ra, rb, 10000 + y, s2, p1, p2, ?_⟩
  rw [runF_succ ew rfl]
  have w1 := ev_words (k+6) t ds [] (.lst [.str n1, .str n2]) n1 .un (.inl rfl) (by simp)
  have w2 := ev_words (k+6) t ds [sE "connect" n1, sE "tell" n1, sE "apply" n1, sE "report" n1, sE "confirm" n1, sE "save" n1, sE "halt" n1] (.lst [.str n1, .str n2]) n2 (.val (.str "halt")) (.inr ⟨_, rfl⟩) (by simp)
  simp only [List.nil_append] at w1
  simp only [List.cons_append, List.nil_append] at w2
  have u1 : dSs T (runF T (k+6)) l_law_all_events_3 [.own t ds, .val (.lst [.str n1, .str n2]), .own 0 [], .val (.str n1), .un, .un] = .ok .nx [.own t ds, .val (.lst [.str n1, .str n2]), .own 0 [sE "connect" n1, sE "tell" n1, sE "apply" n1, sE "report" n1, sE "confirm" n1, sE "save" n1, sE "halt" n1], .val (.str n1), .val (.str "halt"), .un] := by
    simp [l_law_all_events_3, dSs, dS, dU, dUs, dDs, dO, dI, optM, itemsD, rngD, mbind, mpure, seqM, fzM, varM, opM, binD, cmpD, eqD, vB, vI, vB', U.now, U.fz, Mo.opt, Mo.pure, Mo.none, cbM, biF, retU, putM, appM, setM, okSet, endF, backP, A.tag, A.ret, dataM, toDv, toDf, toDs, okU, nows, iteM, boolM, asB, Pw.andM, Pw.orM, Pw.notM, ixD, uD, ifOwn, intM, asI, dAs, argM, mdOf, callM, mkArgs, slots, putBack, put1, noAl, chnM, tgF, sets, isM, itTup, itLst, itStr, itInt, itBl, itNon, Tn.is, optI, slM, slD, atI, ixN, w1]
  have u2 : dSs T (runF T (k+6)) l_law_all_events_3 [.own t ds, .val (.lst [.str n1, .str n2]), .own 0 [sE "connect" n1, sE "tell" n1, sE "apply" n1, sE "report" n1, sE "confirm" n1, sE "save" n1, sE "halt" n1], .val (.str n2), .val (.str "halt"), .un] = .ok .nx [.own t ds, .val (.lst [.str n1, .str n2]), .own 0 [sE "connect" n1, sE "tell" n1, sE "apply" n1, sE "report" n1, sE "confirm" n1, sE "save" n1, sE "halt" n1, sE "connect" n2, sE "tell" n2, sE "apply" n2, sE "report" n2, sE "confirm" n2, sE "save" n2, sE "halt" n2], .val (.str n2), .val (.str "halt"), .un] := by
    simp [l_law_all_events_3, dSs, dS, dU, dUs, dDs, dO, dI, optM, itemsD, rngD, mbind, mpure, seqM, fzM, varM, opM, binD, cmpD, eqD, vB, vI, vB', U.now, U.fz, Mo.opt, Mo.pure, Mo.none, cbM, biF, retU, putM, appM, setM, okSet, endF, backP, A.tag, A.ret, dataM, toDv, toDf, toDs, okU, nows, iteM, boolM, asB, Pw.andM, Pw.orM, Pw.notM, ixD, uD, ifOwn, intM, asI, dAs, argM, mdOf, callM, mkArgs, slots, putBack, put1, noAl, chnM, tgF, sets, isM, itTup, itLst, itStr, itInt, itBl, itNon, Tn.is, optI, slM, slD, atI, ixN, w2]
  have hz : ∀ n : Nat, n ≤ 100 → n ≤ sizeLine := fun n h => small h
  have hz20 := hz 20 (by decide)
  simp [f_law_all_events, l_law_all_events_1, forM', evs, lE, dSs, dS, dU, dUs, dDs, dO, dI, optM, itemsD, rngD, mbind, mpure, seqM, fzM, varM, opM, binD, cmpD, eqD, vB, vI, vB', U.now, U.fz, Mo.opt, Mo.pure, Mo.none, cbM, biF, retU, putM, appM, setM, okSet, endF, backP, A.tag, A.ret, dataM, toDv, toDf, toDs, okU, nows, iteM, boolM, asB, Pw.andM, Pw.orM, Pw.notM, ixD, uD, ifOwn, intM, asI, dAs, argM, mdOf, callM, mkArgs, slots, putBack, put1, noAl, chnM, tgF, sets, isM, itTup, itLst, itStr, itInt, itBl, itNon, Tn.is, optI, slM, slD, atI, ixN, u1, u2, er, emr, e, em, e1, e2, hz20]
end Law

set_option Elab.async false
set_option linter.all false
set_option maxRecDepth 100000
set_option maxHeartbeats 4000000
namespace Law
open PySem L2 Pw
def sevW : List Str := ["connect", "tell", "apply", "report", "confirm", "save", "halt"]
inductive Gd : D → Prop
  | slot (w n : Str) : w ∈ sevW → Wd n → Gd (sE w n)
  | log (d : D) : Gd (lE d)
  | stop : Gd (.tup [.str "stop"])
  | strike : Gd (.tup [.str "strike"])
theorem sev_ten : ∀ w ∈ sevW, w ∈ tenW ∧ inSh w = false ∧ w ≠ "stop" ∧ w ≠ "strike" ∧ w ≠ "log" ∧ (D.str w).isIn slotW = true := by decide +kernel
theorem Gd.view {d : D} (h : Gd d) : ∃ w r, d = .tup (.str w :: r) ∧ w ∈ tenW ∧ (inSh w = true ∨ (inSh w = false ∧ ∃ x, r = [.str x])) := by
  cases h with
  | slot w n hw hn => exact ⟨w, _, rfl, (sev_ten w hw).1, .inr ⟨(sev_ten w hw).2.1, n, rfl⟩⟩
  | log d => exact ⟨"log", _, rfl, by decide +kernel, .inl (by decide +kernel)⟩
  | stop => exact ⟨"stop", _, rfl, by decide +kernel, .inl (by decide +kernel)⟩
  | strike => exact ⟨"strike", _, rfl, by decide +kernel, .inl (by decide +kernel)⟩
theorem wordB_ok {n : Str} (h : Wd n) : wordB (.str n) = true := by
  obtain ⟨h1, h2, h3⟩ := h
  have : n.cps.toList.all ltB = true := by
    rw [List.all_eq_true]
    intro c hc
    obtain ⟨q1, q2⟩ := h1 c hc
    unfold ltB
    rw [decide_eq_true q1, decide_eq_true q2]; rfl
  simp [wordB, h2, h3, this]
theorem Gd.ev {d : D} (h : Gd d) (k : Nat) : IsEv (k+2) d true := by
  cases h with
  | slot w n hw hn =>
    obtain ⟨_, _, a, b, c, i⟩ := sev_ten w hw
    have := ev_slot k w [.str n] a b c true (fun x hx => by
      cases hx
      have := is_word_str k n (small (by have := hn.2.2; omega))
      rw [wordB_ok hn] at this
      exact this)
    rw [i] at this
    exact this
  | log d => exact ev_log k [d]
  | stop => exact ev_stop k "stop" [] (.inl rfl)
  | strike => exact ev_stop k "strike" [] (.inr rfl)
theorem pair (k : Nat) {d e : D} (hd : Gd d) (he : Gd e) : ∃ b, runF T (k+4) "apart" [.val d, .val e] = .ok (.val (.bl b)) [.val d, .val e] ∧ runF T (k+4) "_law_apart" [.val d, .val e] = .ok (.val (.bl b)) [.val d, .val e] := by
  have x1 := hd.ev k
  have x2 := he.ev k
  obtain ⟨w1, r1, rfl, t1, c1⟩ := hd.view
  obtain ⟨w2, r2, rfl, t2, c2⟩ := he.view
  have tab : (inSh w1 = true ∨ inSh w2 = true ∨ ∃ x, r1 = [.str x] ∧ r2 = [.str x]) → ∃ b, runF T (k+4) "apart" [.val (.tup (.str w1 :: r1)), .val (.tup (.str w2 :: r2))] = .ok (.val (.bl b)) [.val (.tup (.str w1 :: r1)), .val (.tup (.str w2 :: r2))] ∧ runF T (k+4) "_law_apart" [.val (.tup (.str w1 :: r1)), .val (.tup (.str w2 :: r2))] = .ok (.val (.bl b)) [.val (.tup (.str w1 :: r1)), .val (.tup (.str w2 :: r2))] := fun hc => by
    obtain ⟨a1, a2⟩ := apL_ok w1 t1
    have q1 := ea_tab (k+2) w1 w2 r1 r2 (apL w1) hc a1 a2
    rw [one_table w1 t1 w2 t2] at q1
    exact ⟨_, apart_ok (k+2) _ _ _ x1 x2 q1, la_tab (k+2) w1 w2 r1 r2 hc⟩
  rcases c1 with c1 | ⟨c1, x, rfl⟩
  · exact tab (.inl c1)
  · rcases c2 with c2 | ⟨c2, y, rfl⟩
    · exact tab (.inr (.inl c2))
    · by_cases hxy : x = y
      · subst hxy
        exact tab (.inr (.inr ⟨x, rfl, rfl⟩))
      · exact ⟨true, apart_ok (k+2) _ _ _ x1 x2 (ea_diff (k+2) w1 w2 x y c1 c2 hxy), la_diff (k+2) w1 w2 x y c1 c2 hxy⟩
theorem table_turn (k : Nat) (es : D) {d e : D} (hd : Gd d) (he : Gd e) : dSs T (runF T (k+4)) l_law_table_kept_1 [.val es, .val d, .val e] = .ok .nx [.val es, .val d, .val e] := by
  obtain ⟨b, q1, q2⟩ := pair k hd he
  have q3 := same 0 (k+3) (.bl b) trivial
  have e1 : T.fns "apart" = some f_apart := rfl
  have m1 : f_apart.md = [false, false] := rfl
  have e2 : T.fns "_law_apart" = some f_law_apart := rfl
  have m2 : f_law_apart.md = [false, false] := rfl
  have e3 : T.fns "_law_same" = some f_law_same := rfl
  have m3 : f_law_same.md = [false, false] := rfl
  simp [l_law_table_kept_1, dSs, dS, dU, dUs, dDs, dO, dI, optM, itemsD, rngD, mbind, mpure, seqM, fzM, varM, opM, binD, cmpD, eqD, vB, vI, vB', U.now, U.fz, Mo.opt, Mo.pure, Mo.none, cbM, biF, retU, putM, appM, setM, okSet, endF, backP, A.tag, A.ret, dataM, toDv, toDf, toDs, okU, nows, iteM, boolM, asB, Pw.andM, Pw.orM, Pw.notM, ixD, uD, ifOwn, intM, asI, dAs, argM, mdOf, callM, mkArgs, slots, putBack, put1, noAl, chnM, tgF, sets, isM, itTup, itLst, itStr, itInt, itBl, itNon, Tn.is, optI, slM, slD, atI, ixN, e1, m1, e2, m2, e3, m3, q1, q2, q3]
theorem table_row (k : Nat) (es : List D) (h : ∀ d ∈ es, Gd d) {d : D} (hd : Gd d) (x : A) (hx : x = .un ∨ ∃ d, x = .val d) : ∃ y, (y = .un ∨ ∃ d, y = .val d) ∧ dSs T (runF T (k+4)) l_law_table_kept_2 [.val (.lst es), .val d, x] = .ok .nx [.val (.lst es), .val d, y] := by
  obtain ⟨r', e, y, rfl, hy⟩ := for_inv (t := .name 2) (b := dSs T (runF T (k+4)) l_law_table_kept_1) (fun _ r => ∃ y, r = [.val (.lst es), .val d, y] ∧ (y = .un ∨ ∃ d, y = .val d)) es 0 [.val (.lst es), .val d, x] (fun i e r hi hI => by
    obtain ⟨y, rfl, hy⟩ := hI
    exact ⟨_, _, by rcases hy with rfl | ⟨d, rfl⟩ <;> rfl, table_turn k (.lst es) hd (h e (List.mem_of_getElem? hi)), _, rfl, .inr ⟨_, rfl⟩⟩) ⟨_, rfl, hx⟩
  refine ⟨y, hy, ?_⟩
  rcases hx with rfl | ⟨d, rfl⟩ <;> simp [l_law_table_kept_2, dSs, dS, dU, dUs, dDs, dO, dI, optM, itemsD, rngD, mbind, mpure, seqM, fzM, varM, opM, binD, cmpD, eqD, vB, vI, vB', U.now, U.fz, Mo.opt, Mo.pure, Mo.none, cbM, biF, retU, putM, appM, setM, okSet, endF, backP, A.tag, A.ret, dataM, toDv, toDf, toDs, okU, nows, iteM, boolM, asB, Pw.andM, Pw.orM, Pw.notM, ixD, uD, ifOwn, intM, asI, dAs, argM, mdOf, callM, mkArgs, slots, putBack, put1, noAl, chnM, tgF, sets, isM, itTup, itLst, itStr, itInt, itBl, itNon, Tn.is, optI, slM, slD, atI, ixN, e]
theorem table_kept (k : Nat) (es : List D) (h : ∀ d ∈ es, Gd d) : runF T (k+5) "_law_table_kept" [.val (.lst es)] = .ok (.val (.bl true)) [.val (.lst es)] := by
  have ew : T.fns "_law_table_kept" = some f_law_table_kept := rfl
  rw [runF_succ ew rfl]
  obtain ⟨r', e, y, z, rfl, hy⟩ := for_inv (t := .name 1) (b := dSs T (runF T (k+4)) l_law_table_kept_2) (fun _ r => ∃ y z, r = [.val (.lst es), y, z] ∧ (y = .un ∨ ∃ d, y = .val d) ∧ (z = .un ∨ ∃ d, z = .val d)) es 0 [.val (.lst es), .un, .un] (fun i e r hi hI => by
    obtain ⟨y, z, rfl, hy, hz⟩ := hI
    obtain ⟨w, hw, q⟩ := table_row k es h (h e (List.mem_of_getElem? hi)) z hz
    exact ⟨_, _, by rcases hy with rfl | ⟨d, rfl⟩ <;> rfl, q, _, w, rfl, .inr ⟨_, rfl⟩, hw⟩) ⟨_, _, rfl, .inl rfl, .inl rfl⟩
  simp [f_law_table_kept, dSs, dS, dU, dUs, dDs, dO, dI, optM, itemsD, rngD, mbind, mpure, seqM, fzM, varM, opM, binD, cmpD, eqD, vB, vI, vB', U.now, U.fz, Mo.opt, Mo.pure, Mo.none, cbM, biF, retU, putM, appM, setM, okSet, endF, backP, A.tag, A.ret, dataM, toDv, toDf, toDs, okU, nows, iteM, boolM, asB, Pw.andM, Pw.orM, Pw.notM, ixD, uD, ifOwn, intM, asI, dAs, argM, mdOf, callM, mkArgs, slots, putBack, put1, noAl, chnM, tgF, sets, isM, itTup, itLst, itStr, itInt, itBl, itNon, Tn.is, optI, slM, slD, atI, ixN, e]
theorem evs_good {n1 n2 : Str} (h1 : Wd n1) (h2 : Wd n2) (ra rb : D) (i : Int) : ∀ d ∈ evs n1 n2 ra rb i, Gd d := by
  intro d hd
  have m : ∀ w ∈ sevW, ∀ n, Wd n → Gd (sE w n) := fun w hw n hn => .slot w n hw hn
  simp only [evs, List.mem_cons, List.not_mem_nil, or_false] at hd
  rcases hd with rfl | rfl | rfl | rfl | rfl | rfl | rfl | rfl | rfl | rfl | rfl | rfl | rfl | rfl | rfl | rfl | rfl | rfl | rfl | rfl
  all_goals first
    | exact .log _
    | exact .stop
    | exact .strike
    | exact m _ (by decide +kernel) _ h1
    | exact m _ (by decide +kernel) _ h2
end Law

set_option Elab.async false
set_option linter.all false
set_option maxRecDepth 100000
set_option maxHeartbeats 4000000
namespace Law
open PySem L2 Pw
def Bd (d : D) : Prop := Pl 2 d ∧ ∀ k, IsEv (k+2) d false
theorem bd_slot {w : Str} (hw : w ∈ sevW) (x : D) (hp : Pl 1 x) (hx : ∀ k, runF T (k+1) "is_word" [.val x] = .ok (.val (.bl false)) [.val x]) : Bd (.tup [.str w, x]) := by
  obtain ⟨_, _, a, b, c, i⟩ := sev_ten w hw
  refine ⟨⟨by simp, fun d hd => ?_⟩, fun k => ?_⟩
  · simp at hd; rcases hd with rfl | rfl
    · trivial
    · exact hp
  · have := ev_slot k w [x] a b c false (fun y hy => by cases hy; exact hx k)
    rw [i] at this
    exact this
theorem bd_len {w : Str} (hw : w ∈ sevW) (rest : List D) (hp : ∀ d ∈ rest, Pl 1 d) (hl : rest.length ≠ 1) (hl2 : rest.length ≤ 100) : Bd (.tup (.str w :: rest)) := by
  obtain ⟨_, _, a, b, c, i⟩ := sev_ten w hw
  refine ⟨⟨by simp; omega, fun d hd => ?_⟩, fun k => ?_⟩
  · rcases List.mem_cons.mp hd with rfl | hd
    · trivial
    · exact hp d hd
  · have := ev_slot k w rest a b c false (fun y hy => by rw [hy] at hl; exact absurd rfl hl)
    rw [Bool.and_false, Bool.and_false] at this
    exact this
theorem bd_other (w n : Str) (h : w ≠ "stop" ∧ w ≠ "strike" ∧ w ≠ "log" ∧ (D.str w).isIn slotW = false) (hn : n.length ≤ sizeLine) : Bd (.tup [.str w, .str n]) := by
  refine ⟨⟨by simp, fun d hd => ?_⟩, fun k => ?_⟩
  · simp at hd; rcases hd with rfl | rfl <;> trivial
  · have := ev_slot k w [.str n] h.1 h.2.1 h.2.2.1 _ (fun y hy => by cases hy; exact is_word_str k n hn)
    rw [h.2.2.2, Bool.false_and] at this
    exact this
theorem bd_nt (d : D) (hp : Pl 2 d) (h : isTy T.isT d .tuple = some false) : Bd d := ⟨hp, fun k => ev_nt k d h⟩
theorem bd_ns (x : D) (rest : List D) (hp : Pl 2 (.tup (x :: rest))) (h : isTy T.isT x .str = some false) : Bd (.tup (x :: rest)) := ⟨hp, fun k => ev_ns k x rest h⟩
theorem bd_stop (w : Str) (rest : List D) (hw : w = "stop" ∨ w = "strike") (hp : Pl 2 (.tup (.str w :: rest))) (h : rest.length ≠ 0) : Bd (.tup (.str w :: rest)) := ⟨hp, fun k => by
  have := ev_stop k w rest hw
  rw [decide_eq_false h] at this
  exact this⟩
theorem bd_log (rest : List D) (hp : Pl 2 (.tup (.str "log" :: rest))) (h : rest.length ≠ 1) : Bd (.tup (.str "log" :: rest)) := ⟨hp, fun k => by
  have := ev_log k rest
  rw [decide_eq_false h] at this
  exact this⟩
def bads (w n sp p : Str) : List D := [.tup [], .tup [.str w], .tup [.str w, .str n, .str n], .tup [.str w, .str sp], .tup [.str w, .str ""], .tup [.str w, .str (n ++ "abcdefgh")], .tup [.str w, .int 3],
  .tup [.str w, .non], .tup [.str w, .bl true], .tup [.str w, .tup [.str n]], .lst [.str w, .str n], .lst [], .str w, .str (w ++ " " ++ n), .non, .int 7, .bl true,
  .tup [.str "stop", .str n], .tup [.str "strike", .str n], .tup [.str "stop", .tup [.str "note"]], .tup [.str "log"], .tup [.str "log", .tup [.str "note"], .tup [.str "note"]],
  .tup [.str "jump", .str n], .tup [.str p, .str n], .tup [.str (w ++ " "), .str n], .tup [.str "", .str n], .tup [.non], .tup [.int 5, .str n], .tup [.tup [.str w, .str n]]]
theorem pl_strs (n : Nat) : ∀ (ws : List Str), ws.length ≤ 1000 → Pl (n+1) (.tup (ws.map .str)) := fun ws hl => ⟨by simpa using hl, fun d hd => by
  obtain ⟨w, _, rfl⟩ := List.mem_map.mp hd
  cases n <;> trivial⟩
theorem sev_blank : ∀ w ∈ sevW, w ++ " " ≠ "stop" ∧ w ++ " " ≠ "strike" ∧ w ++ " " ≠ "log" ∧ (D.str (w ++ " ")).isIn slotW = false ∧ w.length ≤ 7 := by decide +kernel
theorem sev_front : ∀ w ∈ sevW, ∀ i, i < 26 → (⟨#[97 + i]⟩ : Str) ++ w ≠ "stop" ∧ (⟨#[97 + i]⟩ : Str) ++ w ≠ "strike" ∧ (⟨#[97 + i]⟩ : Str) ++ w ≠ "log" ∧ (D.str ((⟨#[97 + i]⟩ : Str) ++ w)).isIn slotW = false := by decide +kernel
theorem all_bad (w n sp p : Str) (hw : w ∈ sevW) (hn : Wd n) (hsp : wordB (.str sp) = false) (hsl : sp.length ≤ sizeLine) (hp : p ≠ "stop" ∧ p ≠ "strike" ∧ p ≠ "log" ∧ (D.str p).isIn slotW = false) : ∀ d ∈ bads w n sp p, Bd d := by
  intro d hd
  have hnl : n.length ≤ sizeLine := small (by have := hn.2.2; omega)
  have no : ∀ (x : D), isTy T.isT x .str = some false → ∀ k, runF T (k+1) "is_word" [.val x] = .ok (.val (.bl false)) [.val x] := fun x hx k => is_word_no k x hx
  have st : ∀ (x : Str), x.length ≤ sizeLine → wordB (.str x) = false → ∀ k, runF T (k+1) "is_word" [.val (.str x)] = .ok (.val (.bl false)) [.val (.str x)] := fun x h1 h2 k => by
    have := is_word_str k x h1
    rw [h2] at this
    exact this
  have hlong : (n ++ "abcdefgh").length = n.length + 8 := len_app n "abcdefgh"
  have hn1 := hn.2.1
  have hn8 := hn.2.2
  obtain ⟨b1, b2, b3, b4, _⟩ := sev_blank w hw
  simp only [bads, List.mem_cons, List.not_mem_nil, or_false] at hd
  rcases hd with rfl | rfl | rfl | rfl | rfl | rfl | rfl | rfl | rfl | rfl | rfl | rfl | rfl | rfl | rfl | rfl | rfl | rfl | rfl | rfl | rfl | rfl | rfl | rfl | rfl | rfl | rfl | rfl | rfl
  · exact ⟨⟨by simp, fun _ h => by cases h⟩, fun k => ev_nil k⟩
  · exact bd_len hw [] (fun _ h => by cases h) (by simp) (by simp)
  · exact bd_len hw [.str n, .str n] (fun d h => by simp at h; subst h; trivial) (by simp) (by simp)
  · exact bd_slot hw _ trivial (st sp hsl hsp)
  · exact bd_slot hw _ trivial (st "" (small (by decide +kernel)) (by decide +kernel))
  · exact bd_slot hw _ trivial (st (n ++ "abcdefgh") (small (by omega)) (by
      have : ¬ n.length + 8 ≤ 8 := by omega
      simp [wordB, hlong, this]))
  · exact bd_slot hw _ trivial (no _ rfl)
  · exact bd_slot hw _ trivial (no _ rfl)
  · exact bd_slot hw _ trivial (no _ rfl)
  · exact bd_slot hw _ (pl_strs 0 [n] (by simp)) (no _ rfl)
  · exact bd_nt _ ⟨by simp, fun d h => by simp at h; rcases h with rfl | rfl <;> trivial⟩ rfl
  · exact bd_nt _ ⟨by simp, fun _ h => by cases h⟩ rfl
  · exact bd_nt _ trivial rfl
  · exact bd_nt _ trivial rfl
  · exact bd_nt _ trivial rfl
  · exact bd_nt _ trivial rfl
  · exact bd_nt _ trivial rfl
  · exact bd_stop "stop" [.str n] (.inl rfl) (pl_strs 1 ["stop", n] (by simp)) (by simp)
  · exact bd_stop "strike" [.str n] (.inr rfl) (pl_strs 1 ["strike", n] (by simp)) (by simp)
  · exact bd_stop "stop" [.tup [.str "note"]] (.inl rfl) ⟨by simp, fun d h => by
      simp at h; rcases h with rfl | rfl
      · trivial
      · exact pl_strs 0 ["note"] (by simp)⟩ (by simp)
  · exact bd_log [] (pl_strs 1 ["log"] (by simp)) (by simp)
  · exact bd_log [.tup [.str "note"], .tup [.str "note"]] ⟨by simp, fun d h => by
      simp at h; rcases h with rfl | rfl
      · trivial
      · exact pl_strs 0 ["note"] (by simp)⟩ (by simp)
  · exact bd_other "jump" n ⟨by decide +kernel, by decide +kernel, by decide +kernel, by decide +kernel⟩ hnl
  · exact bd_other p n hp hnl
  · exact bd_other (w ++ " ") n ⟨b1, b2, b3, b4⟩ hnl
  · exact bd_other "" n ⟨by decide +kernel, by decide +kernel, by decide +kernel, by decide +kernel⟩ hnl
  · exact bd_ns .non [] ⟨by simp, fun d h => by simp at h; subst h; trivial⟩ rfl
  · exact bd_ns (.int 5) [.str n] ⟨by simp, fun d h => by simp at h; rcases h with rfl | rfl <;> trivial⟩ rfl
  · exact bd_ns (.tup [.str w, .str n]) [] ⟨by simp, fun d h => by simp at h; subst h; exact pl_strs 0 [w, n] (by simp)⟩ rfl
end Law

set_option Elab.async false
set_option linter.all false
set_option maxRecDepth 100000
set_option maxHeartbeats 4000000
namespace Law
open PySem L2 Pw
theorem seven_at {i : Int} (h : 0 ≤ i) (h2 : i < 7) : ∃ w ∈ sevW, atI slotW i = some (.str w) := by
  obtain ⟨n, rfl⟩ := Int.eq_ofNat_of_zero_le h
  match n, h2 with
  | 0, _ => exact ⟨_, by decide +kernel, rfl⟩
  | 1, _ => exact ⟨_, by decide +kernel, rfl⟩
  | 2, _ => exact ⟨_, by decide +kernel, rfl⟩
  | 3, _ => exact ⟨_, by decide +kernel, rfl⟩
  | 4, _ => exact ⟨_, by decide +kernel, rfl⟩
  | 5, _ => exact ⟨_, by decide +kernel, rfl⟩
  | 6, _ => exact ⟨_, by decide +kernel, rfl⟩
  | n + 7, h2 => omega
def sgs : Str := "ABZ09 -:"
theorem sg_at {i : Int} (h : 0 ≤ i) (h2 : i < 8) : ∃ c : Nat, ltB c = false ∧ atI sgs.cps.toList i = some c := by
  obtain ⟨n, rfl⟩ := Int.eq_ofNat_of_zero_le h
  have hn : n < 8 := by omega
  have : ∀ n : Nat, n < 8 → ((atI sgs.cps.toList (n : Int)).any fun c => !ltB c) = true := by decide +kernel
  have := this n hn
  cases q : atI sgs.cps.toList (n : Int) with
  | none => rw [q] at this; cases this
  | some c => rw [q] at this; exact ⟨c, by simpa using this, rfl⟩
theorem cut1 {n : Str} (h : Wd n) : ∃ i, i < 26 ∧ cutS n none (some 1) = ⟨#[97 + i]⟩ := by
  have hl : n.cps.toList.length = n.length := by rw [Array.length_toList]; rfl
  cases q : n.cps.toList with
  | nil => rw [q] at hl; have := h.2.1; simp at hl; omega
  | cons c l =>
    have hc := h.1 c (by rw [q]; exact List.mem_cons_self ..)
    refine ⟨c - 97, by omega, ?_⟩
    rw [show 97 + (c - 97) = c by omega]
    unfold cutS
    have e1 : HT.sIx n.length 0 none = 0 := rfl
    have e2 : HT.sIx n.length n.length (some 1) = 1 := by
      rw [show (1 : Int) = ((1 : Nat) : Int) by rfl, HT.sIx_nat]
      have := h.2.1
      omega
    rw [e1, e2, q]
    rfl
theorem spoilt (x y : Str) (c : Nat) (h : ltB c = false) : wordB (.str (x ++ ⟨#[c]⟩ ++ y)) = false := by
  have : (x ++ ⟨#[c]⟩ ++ y).cps.toList = x.cps.toList ++ [c] ++ y.cps.toList := by
    show ((x.cps ++ #[c]) ++ y.cps).toList = _
    rw [Array.toList_append, Array.toList_append]
  show (decide (1 ≤ (x ++ ⟨#[c]⟩ ++ y).length) && (decide ((x ++ ⟨#[c]⟩ ++ y).length ≤ 8) && (x ++ ⟨#[c]⟩ ++ y).cps.toList.all ltB)) = false
  rw [this, List.all_append, List.all_append]
  simp [h]
theorem bad_events (k t : Nat) (n : Str) (hn : Wd n) {ds : List D} (hs : Sd ds) : ∃ (ds' : List D) (w sp p : Str), Sd ds' ∧ (∀ d ∈ bads w n sp p, Bd d) ∧ runF T (k+3) "_law_bad_events" [.own t ds, .val (.str n)] = .ok (.fresh (bads w n sp p)) [.own t ds', .val (.str n)] := by
  obtain ⟨d1, x1, s1, a1, b1, e1⟩ := draw k 1 7 hs (by decide) (by decide)
  obtain ⟨d2, x2, s2, a2, b2, e2⟩ := draw k 1 8 s1 (by decide) (by decide)
  have hn1 := hn.2.1
  have hn8 := hn.2.2
  obtain ⟨d3, x3, s3, a3, b3, e3⟩ := draw k 1 (n.length + 1) s2 (by omega) (by omega)
  obtain ⟨w, hw, q1⟩ := seven_at a1 b1
  obtain ⟨c, hc, q2⟩ := sg_at a2 b2
  obtain ⟨i, hi, q3⟩ := cut1 hn
  have hnl : n.length ≤ sizeLine := small (by omega)
  have c1 := cutS_length n none (some x3)
  have c2 := cutS_length n (some x3) none
  have hsl : (cutS n none (some x3) ++ ⟨#[c]⟩ ++ cutS n (some x3) none).length ≤ sizeLine := small (by
    rw [len_app, len_app]
    have : (⟨#[c]⟩ : Str).length = 1 := rfl
    omega)
  refine ⟨d3, w, cutS n none (some x3) ++ ⟨#[c]⟩ ++ cutS n (some x3) none, cutS n none (some 1) ++ w, s3, all_bad w n _ _ hw hn (spoilt _ _ c hc) hsl (by rw [q3]; exact sev_front w hw i hi), ?_⟩
  have ew : T.fns "_law_bad_events" = some f_law_bad_events := rfl
  have e : T.fns "_law_draw" = some f_law_draw := rfl
  have em : f_law_draw.md = [true, false] := rfl
  have hw7 := (sev_blank w hw).2.2.2.2
  have z1 : (cutS n none (some x3)).length + (⟨#[c]⟩ : Str).length ≤ sizeLine := small (by have : (⟨#[c]⟩ : Str).length = 1 := rfl; omega)
  have z2 : (cutS n none (some x3) ++ (⟨#[c]⟩ : Str)).length + (cutS n (some x3) none).length ≤ sizeLine := small (by rw [len_app]; have : (⟨#[c]⟩ : Str).length = 1 := rfl; omega)
  have l8 : ("abcdefgh" : Str).length = 8 := by decide +kernel
  have l1 : (" " : Str).length = 1 := by decide +kernel
  have z3 : n.length + ("abcdefgh" : Str).length ≤ sizeLine := small (by omega)
  have z4 : w.length + (" " : Str).length ≤ sizeLine := small (by omega)
  have z5 : (w ++ " ").length + n.length ≤ sizeLine := small (by
    rw [len_app]
    omega)
  have z6 : (cutS n none (some 1)).length + w.length ≤ sizeLine := small (by have := cutS_length n none (some 1); omega)
  have zz : ∀ m : Nat, m ≤ 100 → m ≤ sizeLine := fun m h => small h
  have y1 := zz 17 (by decide)
  have y2 := zz 22 (by decide)
  have y3 := zz 29 (by decide)
  have ed : [D.str "connect", .str "tell", .str "apply", .str "report", .str "confirm", .str "save", .str "halt"] = slotW := rfl
  have ea : ("ABZ09 -:" : Str) = sgs := rfl
  have hsg : sgs.length ≤ sizeLine := small (by decide +kernel)
  rw [runF_succ ew rfl]
  simp [f_law_bad_events, dSs, dS, dU, dUs, dDs, dO, mbind, mpure, seqM, fzM, varM, opM, binD, vI, U.now, U.fz, Mo.opt, Mo.pure, Mo.none, cbM, biF, retU, putM, okSet, endF, backP, A.tag, A.ret, dataM, toDv, toDf, toDs, okU, nows, ixD, uD, dAs, argM, mdOf, callM, mkArgs, slots, putBack, put1, noAl, optI, slM, slD, e, em, e1, e2, e3, ed, ea, q1, q2, hsg, hnl, z1, z2, z3, z4, z5, z6, y1, y2, y3, bads]
end Law

set_option Elab.async false
set_option linter.all false
set_option maxRecDepth 100000
set_option maxHeartbeats 4000000
namespace Law
open PySem L2 Pw
theorem start (k : Nat) (ns : List Int) : runF T (k+1) "_law_start" [.val (.kls (ns.map D.int))] = .ok (.fresh (stD ns 0 0 0 0 0)) [.val (.kls (ns.map D.int))] := by
  have ew : T.fns "_law_start" = some f_law_start := rfl
  rw [runF_succ ew rfl]
  simp [f_law_start, dSs, dS, dU, dUs, dDs, dO, dI, optM, itemsD, rngD, mbind, mpure, seqM, fzM, varM, opM, binD, cmpD, eqD, vB, vI, vB', U.now, U.fz, Mo.opt, Mo.pure, Mo.none, cbM, biF, retU, putM, appM, setM, okSet, endF, backP, A.tag, A.ret, dataM, toDv, toDf, toDs, okU, nows, iteM, boolM, asB, Pw.andM, Pw.orM, Pw.notM, ixD, uD, ifOwn, intM, asI, dAs, argM, mdOf, callM, mkArgs, slots, putBack, put1, noAl, chnM, tgF, sets, isM, itTup, itLst, itStr, itInt, itBl, itNon, Tn.is, optI, slM, slD, atI, ixN, stD]
theorem turn (q : Nat) (sc nm ev good other : D) (st rows : List D) (step j : Int) (x9 : A) (h9 : x9 = .un ∨ ∃ d, x9 = .val d) (hg : Gd good) (ho : Gd other) (hr : ∀ d ∈ rows, Bd d) (hl : rows.length ≠ 0) (hl2 : rows.length ≤ 1000) (hj : 0 ≤ j ∧ j < rows.length) :
    ∃ y, dSs T (runF T (q+7)) l_law_1 [.val sc, .own 0 st, .val nm, .val ev, .val good, .val other, .own 0 rows, .val (.int step), .val (.int j), x9] =
      .ok .nx [.val sc, .own 0 st, .val nm, .val ev, .val good, .val other, .own 0 rows, .val (.int step), .val (.int j), .val y] := by
  have at_ : ∀ i : Int, 0 ≤ i → i < rows.length → ∃ x ∈ rows, atI rows i = some x := fun i h1 h2 => by
    obtain ⟨n, rfl⟩ := Int.eq_ofNat_of_zero_le h1
    have hn : n < rows.length := by omega
    exact ⟨rows[n], List.getElem_mem hn, by rw [show ((n : Nat) : Int) = (n : Int) from rfl, at_nat rows n hn, List.getElem?_eq_getElem hn]⟩
  have hlp : (0 : Int) < rows.length := by omega
  have hlp' : 0 < rows.length := by omega
  obtain ⟨x, hx, ex⟩ := at_ j hj.1 hj.2
  obtain ⟨y, hy, ey⟩ := at_ ((j + step) % (rows.length : Int)) (Int.emod_nonneg _ (by omega)) (Int.emod_lt_of_pos _ hlp)
  have bx := hr x hx
  have by_ := hr y hy
  have sx := same 2 (q+3) x bx.1
  have r1 := refused (q+6) x good x (apart_bad1 (q+4) x good (bx.2 (q+2))) sx
  have r2 := refused (q+6) good x x (apart_bad2 (q+4) good x (hg.ev (q+2)) (bx.2 (q+2))) sx
  have r3 := refused (q+6) x y x (apart_bad1 (q+4) x y (bx.2 (q+2))) sx
  obtain ⟨b, p1, p2⟩ := pair (q+3) hg ho
  have p3 := same 0 (q+6) (.bl b) trivial
  have e1 : T.fns "apart" = some f_apart := rfl
  have m1 : f_apart.md = [false, false] := rfl
  have e2 : T.fns "_law_apart" = some f_law_apart := rfl
  have m2 : f_law_apart.md = [false, false] := rfl
  have e3 : T.fns "_law_same" = some f_law_same := rfl
  have m3 : f_law_same.md = [false, false] := rfl
  have e4 : T.fns "_law_refused" = some f_law_refused := rfl
  have m4 : f_law_refused.md = [false, false, false] := rfl
  refine ⟨y, ?_⟩
  rcases h9 with rfl | ⟨d, rfl⟩ <;> simp [l_law_1, dSs, dS, dU, dUs, dDs, mbind, mpure, seqM, fzM, varM, opM, binD, vI, vB', U.now, U.fz, Mo.opt, Mo.pure, Mo.none, cbM, biF, retU, putM, okSet, A.tag, A.ret, dataM, toDv, toDf, toDs, okU, nows, iteM, boolM, asB, Pw.orM, Pw.notM, ixD, uD, dAs, argM, mdOf, callM, mkArgs, slots, putBack, put1, noAl, e1, m1, e2, m2, e3, m3, e4, m4, ex, ey, r1, r2, r3, p1, p2, p3, hlp, hlp']
theorem law_true (q : Nat) (ns : List Int) : ∃ rs, runF T (q+8) "law" [.val (.kls (ns.map D.int))] = .ok (.val (.bl true)) rs := by
  have g1 := start (q+6) ns
  have s0 : Sd (stD ns 0 0 0 0 0) := ⟨_, _, _, _, _, _, rfl⟩
  obtain ⟨d1, ws, s1, hws, hl, g2⟩ := slotsN (q+3) 1 s0 2 (by decide)
  match ws, hl, hws, g2 with
  | [n1, n2], _, hws, g2 =>
    have w1 : Wd n1 := hws _ (by simp)
    have w2 : Wd n2 := hws _ (by simp)
    obtain ⟨d2, ra, rb, i, s2, _, _, g3⟩ := all_events q 1 n1 n2 s1
    have G := evs_good w1 w2 ra rb i
    have g4 := table_kept (q+2) (evs n1 n2 ra rb i) G
    have el : (evs n1 n2 ra rb i).length = 20 := rfl
    obtain ⟨d3, x3, s3, a3, b3, e3⟩ := draw (q+5) 1 20 s2 (by decide) (by decide)
    obtain ⟨d4, x4, s4, a4, b4, e4⟩ := draw (q+5) 1 20 s3 (by decide) (by decide)
    obtain ⟨d5, x5, s5, a5, b5, e5⟩ := draw (q+5) 1 2 s4 (by decide) (by decide)
    have ix : ∀ {α : Type} (l : List α) (i : Int), 0 ≤ i → i < l.length → ∃ x ∈ l, atI l i = some x := fun l i h1 h2 => by
      obtain ⟨n, rfl⟩ := Int.eq_ofNat_of_zero_le h1
      have hn : n < l.length := by omega
      exact ⟨l[n], List.getElem_mem hn, by rw [show ((n : Nat) : Int) = (n : Int) from rfl, at_nat l n hn, List.getElem?_eq_getElem hn]⟩
    obtain ⟨good, hg, q3⟩ := ix (evs n1 n2 ra rb i) x3 a3 (by rw [el]; exact b3)
    obtain ⟨other, ho, q4⟩ := ix (evs n1 n2 ra rb i) x4 a4 (by rw [el]; exact b4)
    obtain ⟨nn, hn, q5⟩ : ∃ nn, Wd nn ∧ atI [D.str n1, D.str n2] x5 = some (.str nn) := by
      obtain ⟨z, hz, qz⟩ := ix [D.str n1, D.str n2] x5 a5 b5
      simp only [List.mem_cons, List.not_mem_nil, or_false] at hz
      rcases hz with rfl | rfl
      · exact ⟨n1, w1, qz⟩
      · exact ⟨n2, w2, qz⟩
    obtain ⟨d6, w, sp, p, s6, hb, g5⟩ := bad_events (q+4) 1 nn hn s5
    have bl : (bads w nn sp p).length = 29 := rfl
    obtain ⟨d7, x7, s7, a7, b7, e7⟩ := draw (q+5) 1 28 s6 (by decide) (by decide)
    obtain ⟨r', e8, y, z, hy, hz, rfl⟩ := for_inv (t := .name 8) (b := dSs T (runF T (q+7)) l_law_1) (fun _ r => ∃ y z, (y = .un ∨ ∃ d, y = .val d) ∧ (z = .un ∨ ∃ d, z = .val d) ∧ r = [.val (.kls (ns.map D.int)), .own 0 d7, .val (.lst [.str n1, .str n2]), .val (.lst (evs n1 n2 ra rb i)), .val good, .val other, .own 0 (bads w nn sp p), .val (.int (1 + x7)), y, z]) (upto 29) 0
      [.val (.kls (ns.map D.int)), .own 0 d7, .val (.lst [.str n1, .str n2]), .val (.lst (evs n1 n2 ra rb i)), .val good, .val other, .own 0 (bads w nn sp p), .val (.int (1 + x7)), .un, .un] (fun j d r hd hi => by
        obtain ⟨rfl, hlt⟩ := up_at hd
        obtain ⟨y, z, hy, hz, rfl⟩ := hi
        obtain ⟨u, hu⟩ := turn q (.kls (ns.map D.int)) (.lst [.str n1, .str n2]) (.lst (evs n1 n2 ra rb i)) good other d7 (bads w nn sp p) (1 + x7) j z hz (G _ hg) (G _ ho) hb (by rw [bl]; decide) (by rw [bl]; decide) (by rw [bl]; omega)
        exact ⟨_, _, by rcases hy with rfl | ⟨d, rfl⟩ <;> rfl, hu, _, _, .inr ⟨_, rfl⟩, .inr ⟨_, rfl⟩, rfl⟩) ⟨_, _, .inl rfl, .inl rfl, rfl⟩
    have ew : T.fns "law" = some f_law := rfl
    have t1 : T.fns "_law_start" = some f_law_start := rfl
    have m1 : f_law_start.md = [false] := rfl
    have t2 : T.fns "_law_slots" = some f_law_slots := rfl
    have m2 : f_law_slots.md = [true, false] := rfl
    have t3 : T.fns "_law_all_events" = some f_law_all_events := rfl
    have m3 : f_law_all_events.md = [true, false] := rfl
    have t4 : T.fns "_law_table_kept" = some f_law_table_kept := rfl
    have m4 : f_law_table_kept.md = [false] := rfl
    have t5 : T.fns "_law_draw" = some f_law_draw := rfl
    have m5 : f_law_draw.md = [true, false] := rfl
    have t6 : T.fns "_law_bad_events" = some f_law_bad_events := rfl
    have m6 : f_law_bad_events.md = [true, false] := rfl
    obtain ⟨EV, hEV⟩ : ∃ EV, EV = evs n1 n2 ra rb i := ⟨_, rfl⟩
    obtain ⟨BD, hBD⟩ : ∃ BD, BD = bads w nn sp p := ⟨_, rfl⟩
    rw [← hEV] at g3 g4 el q3 q4 e8
    rw [← hBD] at g5 bl e8
    have g2' : runF T (q+7) "_law_slots" [.own 1 (stD ns 0 0 0 0 0), .val (.int 2)] = .ok (.val (.lst [.str n1, .str n2])) [.own 1 d1, .val (.int 2)] := g2
    refine ⟨[.val (.kls (ns.map D.int))], ?_⟩
    rw [runF_succ ew rfl]
    simp [f_law, dSs, dS, dU, dUs, dDs, dI, optM, rngD, mbind, mpure, seqM, fzM, varM, opM, binD, vI, vB', U.now, U.fz, Mo.opt, Mo.pure, Mo.none, cbM, biF, retU, putM, okSet, endF, backP, A.tag, A.ret, dataM, toDv, toDf, toDs, okU, nows, iteM, boolM, asB, Pw.notM, ixD, uD, dAs, argM, mdOf, callM, mkArgs, slots, putBack, put1, noAl, t1, m1, t2, m2, t3, m3, t4, m4, t5, m5, t6, m6, g1, g2', g3, g4, g5, e3, e4, e5, e7, q3, q4, q5, el, bl, e8]
end Law

set_option Elab.async false
set_option linter.all false
set_option maxRecDepth 100000
set_option maxHeartbeats 0
namespace Law
open PySem PySem.Spec PyProof.Rows L2 Pw
def topI : Nat := 35
theorem law_pos : True := trivial
/-- the law's call, from the reader's word -/
theorem sp_law {K : PySem.W.Frag} {ns : List Int} {k : Nat} {rs : List A} (h : runF T k "law" [.val (.kls (ns.map D.int))] = .ok (.val (.bl true)) rs) {H : Hp} {a : Addr} (hk : KsL (L.g K) H a (ns.map V.int)) {Q : VK} {E : XK} (hQ : ∀ H', Q (.bl true) H') : spF (L.g K) (runF T k "law") [.ref a] H Q E := by
  refine ⟨[.val (.kls (ns.map D.int))], ⟨rfl, fun b o hb _ => hb, fun b hb => ?_, fun i d hi => ?_, fun i t ds hi => ?_, fun i t rows hi => ?_, fun i j b hi hj => ?_, fun i C n ds hi => ?_, fun j i id hj => ?_⟩, fun j b hj => ?_, ?_⟩
  · obtain ⟨i, hi⟩ := hb
    rcases hi with ⟨_, t, ds, h2⟩ | ⟨t, rows, p, as, h1, _⟩
    · rcases i with _ | i <;> simp at h2
    · rcases i with _ | i <;> simp at h1
  · rcases i with _ | i
    · simp at hi
      subst hi
      exact ⟨.ref a, rfl, a, _, rfl, hk, Reps.of_ints ns⟩
    · simp at hi
  · rcases i with _ | i <;> simp at hi
  · rcases i with _ | i <;> simp at hi
  · rcases hi with ⟨_, t, ds, h2⟩ | ⟨t, rows, p, as, h1, _⟩
    · rcases i with _ | i <;> simp at h2
    · rcases i with _ | i <;> simp at h1
  · rcases i with _ | i <;> simp at hi
  · rcases j with _ | j <;> simp at hj
  · rcases j with _ | j
    · simp at hj
      subst hj
      exact ⟨rfl, fun t ht => by cases ht⟩
    · simp at hj
  · rw [h]
    intro v H' _ _ hv
    obtain rfl : v = .bl true := hv
    exact hQ H'
end Law

set_option Elab.async false
set_option linter.all false
set_option maxRecDepth 100000
set_option maxHeartbeats 0
namespace Law
open PySem PySem.Spec PyProof.Rows L2 Pw
/-- the end, the exceptions' report by the world -/
theorem walkW {l : PySem.W.OpenLaw} {n k : Nat} {q : Program} {loose : List Str} {XP : (Str → Option Value) → Heap → Prop} {YP : World → Heap → Prop} {d : DefRec} {CX : World → CXT} {x : Str} (hn : l.most = some n) (hn2 : n ≤ sizeLine) (hdf : d.params.defaults = []) (hr : Room k callerA)
    (F : ∀ (w : World) (mg : Str → Option Value) (fa : Addr) (h : Heap), YP w h → h.Ns mainGlobals mg → mg d.name = some (.ref fa) → ∃ (K : PySem.W.Frag) (fd : FuncData) (sp : Sp), K.In h ∧ (∀ (s : Shared) (u : Value), BindsTo s fd ⟨[u], []⟩ [(x, u)]) ∧
        (∀ (H : Hp) (a : Addr) (ns : List Int), ns.length ≤ n → Only H → SqL K H a (ns.map V.int) → sp [.ref a] H (fun v _ => v = .bl true) fun _ _ _ => False) ∧ ∀ base : Heap, K.In base → base.Ns mainGlobals mg → FnOk l.prog w K mg base (CX w) k fa fd [x] sp)
    (hCX : ∀ (w : World) (H : Hp) (s : Shared) (e : Value) (s' : Shared), CX w [] H s (fun _ _ _ => False) e s' → False) : PySem.W.WalkO q loose XP YP l.row.toRowW d [] (fun f vs => PySem.call f vs) := by
  refine Att.attach_call hn hdf fun w s₀ s₁ mg mb fa o pm cd doc a vs ns G Y ho hd hcd hmg hobj hints hlen hg => ?_
  obtain ⟨K, fd, sp, KX, hb, hsp, hF⟩ := F w mg fa _ Y G.T.g hmg
  exact law_call KX G.T.g G.T.b G.T.builtins G.T.nolimit hg hobj hints (Nat.le_trans hlen hn2) hr hF hb (fun H hO hS => hsp H a ns hlen hO hS) fun H e s' => hCX w H s₁ e s'
theorem facts {w : World} {K : PySem.W.Frag} {h : Heap} {mg : Str → Option Value} {f : Addr} {k : Nat} (hk : ∀ ns : List Int, ns.length ≤ 63 → ∃ rs, runF T k "law" [.val (.kls (ns.map D.int))] = .ok (.val (.bl true)) rs)
    (X : K.In h) (G : h.Ns mainGlobals mg) (hfa : mg ("law" : Str) = some (.ref f)) (c : SN.Says w K) :
    ∃ fd : FuncData, (∀ (s : Shared) (v : Value), BindsTo s fd ⟨[v], []⟩ [("script", v)]) ∧ (∀ (H : Hp) (a : Addr) (ns : List Int), ns.length ≤ 63 → Only H → SqL K H a (ns.map V.int) → spF (L.g K) (runF T k "law") [.ref a] H (fun v _ => v = .bl true) fun _ _ _ => False) ∧
      ∀ base : Heap, K.In base → base.Ns mainGlobals mg → FnOk R.prog w K mg base (L2N.CX R.prog w) k f fd ["script"] (spF (L.g K) (runF T k "law")) := by
  obtain ⟨d, hd, e1, e2, e3, e4, S, ⟨n, b1, _⟩, bd⟩ := zf_law K
  obtain ⟨fd, FD⟩ := c.def_ hd
  rw [e1, e2] at FD
  have z1 : d.dvs K = [] := by unfold He5.DefA.dvs; rw [e3]; rfl
  have z2 : d.kws K = [] := by unfold He5.DefA.kws; rw [e4]; rfl
  rw [z1, z2] at FD
  have hga : mg ("law" : Str) = some (.ref (He.ga K "law")) := by
    obtain ⟨_, _, _, _, a, _, _, _, _, _, _, m, _⟩ := (base X G c).fn "law" f_law rfl
    have hb := (base X G c)
    have := (He.ba (He.ba c.all.1).2).1
    have := List.all_eq_true.mp this ("law", f_law) (look_mem (x := ("law" : Str)) (y := f_law) (by rfl))
    exact PySem.W.mg_of X G (He.eqO_ok this)
  obtain rfl : f = He.ga K "law" := by rw [hfa] at hga; cases hga; rfl
  have hF : T.fns "law" = some f_law := by rfl
  refine ⟨fd, fun s v => FunD.bindsA (ps := ["script"]) FD bd s [v] rfl, fun H a ns hl hO hS => ?_, fun bs _ _ => ?_⟩
  · obtain ⟨rs, h⟩ := hk ns hl
    refine sp_law h ?_ fun _ => rfl
    rcases hS with (hS | ⟨o, hS⟩) | hS
    · rcases hO a with q | ⟨o, xs, q⟩
      · rw [q] at hS; cases hS
      · rw [q] at hS; cases hS
    · exact .inl ⟨o, hS⟩
    · exact .inr hS
  · cases k with
    | zero =>
      exact ⟨spF_len hF, fun A outer s H args us vs Q E _ _ _ _ ⟨as, o, _, p⟩ => False.elim p⟩
    | succ k =>
      have ih := glb (base := bs) (base X G c) k
      refine FunD.ok FD S (spF_len hF) fun cdv A outer s H vs Q E hr hsp => ⟨_, pss_w _ d.body, ?_⟩
      have ok : Cok (L.g K) T k f_law.N d.scope false ⟨fun c d _ H => E c d H, noP⟩ (cxOf (L2N.CX R.prog w) R.prog w K mg bs f_law.N d.qual d.scope (He.ga K "law") cdv A outer s H E) :=
        ⟨rfl, rfl, S.nd, rfl, hr.units, ih, L2N.takes_of rfl rfl rfl rfl, L2.passes_of rfl, fun _ => ⟨rfl, hr, rfl, rfl, rfl⟩, (fun z => by cases z), fun _ _ => .inl rfl, fun _ _ _ z => False.elim z⟩
      exact run_F (snd_Ss ok n d.body) (fun as => by rw [← b1]; exact runF_eq hF as) hsp
end Law
open PySem PySem.W PySem.Calls PyProof.Rows
theorem law_join {k : Nat} (hr : L2.Room k callerA) (hk : ∀ ns : List Int, ns.length ≤ 63 → ∃ rs, Pw.runF Law.T k "law" [.val (.kls (ns.map Pw.D.int))] = .ok (.val (.bl true)) rs) : PySem.Challenge.rw_slotlag_k72_apart_events.Holds := by
  w_on; o_law
  refine HandSHeadRun.head_any (r := OpenLaw.row PySem.Challenge.rw_slotlag_k72_apart_events) (q := view (OpenLaw.row PySem.Challenge.rw_slotlag_k72_apart_events).prog [35]) (H := Law.hk) (ob := Law.ob) (M := 20000) (loose := Law.names) (d := HandSHeadRun.topDef (OpenLaw.row PySem.Challenge.rw_slotlag_k72_apart_events).prog 35) (kwd := []) Law.ob_eq
    (by kernel_rfl) (fun s => by kernel_rfl) Law.run (by kernel_rfl) (by kernel_rfl) (by kernel_rfl) (by rfl) (by first | assumption | decide +kernel) (by decide +kernel) ⟨rfl, rfl, rfl, rfl, rfl, by decide +kernel⟩ ?hw ?hc
  case hw => w_witness2
  case hc =>
    refine Law.walkW (l := PySem.Challenge.rw_slotlag_k72_apart_events) (n := 63) (k := k) (x := "script") (CX := fun w => L2N.CX Law.R.prog w) rfl (by decide) (by kernel_rfl) hr ?F (fun _ _ _ _ _ z => by obtain ⟨_, _, _, _, _, _, _, _, _, _, _, _, z⟩ := z; exact z)
    intro w mg fa h Y G hmg0
    obtain ⟨K, KX, c⟩ := Y
    have hmg : mg ("law" : PySem.Str) = some (.ref fa) := by
      have e : (HandSHeadRun.topDef (OpenLaw.row PySem.Challenge.rw_slotlag_k72_apart_events).prog 35).name = ("law" : PySem.Str) := by kernel_rfl
      rw [← e]
      exact hmg0
    obtain ⟨fd, hb, hs, hF⟩ := Law.facts (w := w) hk KX G hmg c
    exact ⟨K, fd, _, KX, hb, hs, hF⟩

theorem PySem.Challenge.cw_slotlag_k72_apart_events_holds : PySem.Challenge.rw_slotlag_k72_apart_events.Holds := by
  exact law_join (k := 20) ⟨rfl, by decide, by decide⟩ fun ns _ => Law.law_true 12 ns
