import PyProof.Rows.All
import HandS.ForMost
import HandS.ForExc
import HandS.Lambda
import HandS.Nested
import HandS.NestedK
import HandS.TryMany
import HandS.IsInst
import HandS.Style
import HandS.WideBits
import HandS.Wide
import HandS.Small
import HandS.ExcInit
import HandS.EndTab
import HandS.ExcField
import KE.KExcNote
import KE.KBools
import KE.RegLcAnyAll
import KE.KCount
import KE.KCallChange
import KE.RegTryLedger
import PyProof.Rows.RegNest
import KE.KExcInit
import HandS.List
import HandS.SortInts
import HandS.TupLen
import HandS.Property
import HandS.OwnEq
import HandS.More
import KE.GoesEnumKw
import PyProof.P3In
import KE.DataEq
import PySem.Challenge.RW_fullestfirst_k70_stairs_bent_at_each_run
set_option autoImplicit false
set_option Elab.async false
set_option linter.all false
set_option maxRecDepth 100000
set_option maxHeartbeats 4000000
namespace Q
open PySem PySem.Spec PyProof.Rows L2 LamX NdefX

/-! ### data, the owned memory -/
inductive D where
  | non | bl (b : Bool) | int (i : Int) | str (x : Str) | lst (xs : List D) | frz (xs : List D) | tup (xs : List D) | oth (v : V)
  /-- a caught exception: its object, its dict, its fields -/
  | exn (a dx : Addr) (ks : List Str) (ds : List D)
  /-- a tuple that is a key -/
  | ktp (ks : List Key)
  /-- an object that changes no more: its class, its fields -/
  | obj (C : Addr) (ks : List Str) (ds : List D)
  /-- a dict that is not changed -/
  | dct (ks : List Key) (ds : List D)
inductive MO where
  | lst (xs : List D) | dK (kvs : List (Key × D)) | dT (kvs : List (List Key × D)) | ins (C : Addr) (fs : List (Str × D))
abbrev Mem := Addr → Option MO
abbrev DEnv := List (Option D)
def mupd (M : Mem) (p : Addr) (m : MO) : Mem := fun a => if a = p then some m else M a
def mdel (M : Mem) (p : Addr) : Mem := fun a => if a = p then none else M a
theorem mupd_same {M : Mem} {p : Addr} {m : MO} : mupd M p m p = some m := by simp [mupd]
theorem mupd_ne {M : Mem} {p a : Addr} {m : MO} (h : a ≠ p) : mupd M p m a = M a := by simp [mupd, h]
theorem mupd_upd {M : Mem} {p : Addr} {m n : MO} : mupd (mupd M p m) p n = mupd M p n := by
  funext a; unfold mupd; split <;> rfl
theorem mupd_comm {M : Mem} {p q : Addr} {m n : MO} (h : p ≠ q) : mupd (mupd M p m) q n = mupd (mupd M q n) p m := by
  funext a; unfold mupd
  by_cases h1 : a = q
  · subst h1; simp [Ne.symm h]
  · simp [h1]
theorem mdel_upd {M : Mem} {p : Addr} {m : MO} (h : M p = none) : mdel (mupd M p m) p = M := by
  funext a; unfold mdel mupd; split
  · rename_i e; subst e; exact h.symm
  · rfl
theorem mdel_comm {M : Mem} {p q : Addr} {m : MO} (h : p ≠ q) : mdel (mupd M p m) q = mupd (mdel M q) p m := by
  funext a; unfold mdel mupd
  by_cases h1 : a = q
  · subst h1; simp [Ne.symm h]
  · simp [h1]
/-- all that is no table -/
def NT (o : HO) : Prop := ∀ ps, o ≠ .tbl ps
def sub (H : Hp) (M : Mem) : Hp := fun a => match M a with
  | none => H a
  | some _ => none
theorem sub_some {H : Hp} {M : Mem} {a : Addr} {o : HO} (h : sub H M a = some o) : M a = none ∧ H a = some o := by
  unfold sub at h
  cases e : M a with
  | none => rw [e] at h; exact ⟨rfl, h⟩
  | some m => rw [e] at h; cases h
theorem sub_of {H : Hp} {M : Mem} {a : Addr} {o : HO} (h : M a = none) (h2 : H a = some o) : sub H M a = some o := by
  unfold sub; rw [h]; exact h2
def Sb (H H' : Hp) : Prop := ∀ b o, NT o → H b = some o → H' b = some o
theorem Sb.refl (H : Hp) : Sb H H := fun _ _ _ h => h
theorem Sb.trans {H H1 H2 : Hp} (a : Sb H H1) (b : Sb H1 H2) : Sb H H2 := fun c o n h => b c o n (a c o n h)
theorem nt_lst {xs} : NT (.lst xs) := fun _ h => nomatch h
theorem nt_tup {xs} : NT (.tup xs) := fun _ h => nomatch h
theorem nt_frz {o u} : NT (.frz o u) := fun _ h => nomatch h
theorem nt_xd {fs} : NT (.xd fs) := fun _ h => nomatch h
theorem nt_dK {fs} : NT (.dK fs) := fun _ h => nomatch h
theorem nt_ins {c d fs} : NT (.ins c d fs) := fun _ h => nomatch h
theorem Sb.sqL {K : PySem.W.Frag} {H H' : Hp} {a : Addr} {xs : List V} (e : Sb H H') (h : SqL K H a xs) : SqL K H' a xs := by
  rcases h with (h | ⟨o, h⟩) | h
  · exact .inl (.inl (e _ _ nt_lst h))
  · exact .inl (.inr ⟨o, e _ _ nt_frz h⟩)
  · exact .inr h
theorem Sb.sqT {K : PySem.W.Frag} {H H' : Hp} {a : Addr} {xs : List V} (e : Sb H H') (h : SqT K H a xs) : SqT K H' a xs := by
  rcases h with (h | ⟨o, h⟩) | h
  · exact .inl (.inl (e _ _ nt_tup h))
  · exact .inl (.inr ⟨o, e _ _ nt_frz h⟩)
  · exact .inr h
/-! ### a value stands for a datum -/
mutual
inductive Rp (K : PySem.W.Frag) (H : Hp) : V → D → Prop
  | non : Rp K H .non .non
  | bl (b : Bool) : Rp K H (.bl b) (.bl b)
  | int (i : Int) : Rp K H (.int i) (.int i)
  | str (x : Str) : Rp K H (.str x) (.str x)
  | oth (v : V) : Rp K H v (.oth v)
  | lst {a : Addr} {xs : List V} {ds : List D} : H a = some (.lst xs) → RpA K H xs ds → Rp K H (.ref a) (.lst ds)
  | frz {a : Addr} {xs : List V} {ds : List D} : SqL K H a xs → RpA K H xs ds → Rp K H (.ref a) (.frz ds)
  | tup {a : Addr} {xs : List V} {ds : List D} : SqT K H a xs → RpA K H xs ds → Rp K H (.ref a) (.tup ds)
  | exn {a dx : Addr} {ks : List Str} {us : List V} {ds : List D} {vs : List (Str × V)} : H dx = some (.xd vs) → vs.map (·.1) = ks → vs.map (·.2) = us → RpA K H us ds → Rp K H (.ref a) (.exn a dx ks ds)
  | ktp {a : Addr} {ks : List Key} : H a = some (.tup (ks.map kV)) → Rp K H (.ref a) (.ktp ks)
  | obj {a C dx : Addr} {ks : List Str} {us : List V} {ds : List D} {vs : List (Str × V)} : H a = some (.ins C dx vs) → vs.map (·.1) = ks → vs.map (·.2) = us → RpA K H us ds → Rp K H (.ref a) (.obj C ks ds)
  | dct {a : Addr} {ks : List Key} {us : List V} {ds : List D} {vs : List (Key × V)} : H a = some (.dK vs) → vs.map (·.1) = ks → vs.map (·.2) = us → RpA K H us ds → Rp K H (.ref a) (.dct ks ds)
inductive RpA (K : PySem.W.Frag) (H : Hp) : List V → List D → Prop
  | nil : RpA K H [] []
  | cons {v : V} {vs : List V} {d : D} {ds : List D} : Rp K H v d → RpA K H vs ds → RpA K H (v :: vs) (d :: ds)
end
mutual
theorem Rp.mono {K : PySem.W.Frag} {H H' : Hp} (e : Sb H H') : ∀ {v : V} {d : D}, Rp K H v d → Rp K H' v d
  | _, _, .non => .non
  | _, _, .bl b => .bl b
  | _, _, .int i => .int i
  | _, _, .str x => .str x
  | _, _, .oth v => .oth v
  | _, _, .lst h r => .lst (e _ _ nt_lst h) (RpA.mono e r)
  | _, _, .frz h r => .frz (e.sqL h) (RpA.mono e r)
  | _, _, .tup h r => .tup (e.sqT h) (RpA.mono e r)
  | _, _, .exn h q q2 r => .exn (e _ _ nt_xd h) q q2 (RpA.mono e r)
  | _, _, .ktp h => .ktp (e _ _ nt_tup h)
  | _, _, .obj h q q2 r => .obj (e _ _ nt_ins h) q q2 (RpA.mono e r)
  | _, _, .dct h q q2 r => .dct (e _ _ nt_dK h) q q2 (RpA.mono e r)
theorem RpA.mono {K : PySem.W.Frag} {H H' : Hp} (e : Sb H H') : ∀ {vs : List V} {ds : List D}, RpA K H vs ds → RpA K H' vs ds
  | _, _, .nil => .nil
  | _, _, .cons r t => .cons (Rp.mono e r) (RpA.mono e t)
end
section
variable {K : PySem.W.Frag} {H : Hp}
theorem RpA.length : ∀ {vs : List V} {ds : List D}, RpA K H vs ds → vs.length = ds.length
  | _, _, .nil => rfl
  | _, _, .cons _ t => by rw [List.length_cons, List.length_cons, RpA.length t]
theorem RpA.get : ∀ {vs : List V} {ds : List D} {i : Nat} {d : D}, RpA K H vs ds → ds[i]? = some d → ∃ v, vs[i]? = some v ∧ Rp K H v d
  | _, _, _, _, .nil, e => by simp at e
  | _, _, 0, _, .cons r _, e => by simp at e; subst e; exact ⟨_, rfl, r⟩
  | _, _, i + 1, d, .cons _ t, e => by
    obtain ⟨u, h1, h2⟩ := RpA.get (i := i) (d := d) t (by simpa using e)
    exact ⟨u, by simpa using h1, h2⟩
theorem RpA.getV : ∀ {vs : List V} {ds : List D} {i : Nat} {v : V}, RpA K H vs ds → vs[i]? = some v → ∃ d, ds[i]? = some d ∧ Rp K H v d
  | _, _, _, _, .nil, e => by simp at e
  | _, _, 0, _, .cons r _, e => by simp at e; subst e; exact ⟨_, rfl, r⟩
  | _, _, i + 1, v, .cons _ t, e => by
    obtain ⟨u, h1, h2⟩ := RpA.getV (i := i) (v := v) t (by simpa using e)
    exact ⟨u, by simpa using h1, h2⟩
theorem RpA.append : ∀ {vs us : List V} {ds es : List D}, RpA K H vs ds → RpA K H us es → RpA K H (vs ++ us) (ds ++ es)
  | _, _, _, _, .nil, s => s
  | _, _, _, _, .cons r t, s => .cons r (RpA.append t s)
theorem RpA.take : ∀ {vs : List V} {ds : List D} (n : Nat), RpA K H vs ds → RpA K H (vs.take n) (ds.take n)
  | _, _, 0, _ => .nil
  | _, _, _ + 1, .nil => .nil
  | _, _, n + 1, .cons r t => .cons r (RpA.take n t)
theorem RpA.drop : ∀ {vs : List V} {ds : List D} (n : Nat), RpA K H vs ds → RpA K H (vs.drop n) (ds.drop n)
  | _, _, 0, r => r
  | _, _, _ + 1, .nil => .nil
  | _, _, n + 1, .cons _ t => RpA.drop n t
theorem RpA.set {v : V} {d : D} (r : Rp K H v d) : ∀ {vs : List V} {ds : List D} (i : Nat), RpA K H vs ds → RpA K H (vs.set i v) (ds.set i d)
  | _, _, _, .nil => .nil
  | _, _, 0, .cons _ t => .cons r t
  | _, _, i + 1, .cons q t => .cons q (RpA.set r i t)
theorem RpA.reverse : ∀ {vs : List V} {ds : List D}, RpA K H vs ds → RpA K H vs.reverse ds.reverse
  | _, _, .nil => .nil
  | _, _, .cons r t => by rw [List.reverse_cons, List.reverse_cons]; exact RpA.append (RpA.reverse t) (.cons r .nil)
theorem RpA.ints : ∀ {vs : List V} {ns : List Int}, RpA K H vs (ns.map D.int) → vs = ns.map V.int
  | _, [], .nil => rfl
  | _, n :: ns, .cons r t => by
    cases r
    rw [RpA.ints t]
    rfl
theorem RpA.of_ints : ∀ (ns : List Int), RpA K H (ns.map V.int) (ns.map D.int)
  | [] => .nil
  | n :: ns => .cons (.int n) (RpA.of_ints ns)
end
/-! ### frames -/
def Fr (M : Mem) (H : Hp) (M' : Mem) (H' : Hp) : Prop := ∀ b o, M b = none → H b = some o → NT o → M' b = none ∧ H' b = some o
theorem Fr.refl (M : Mem) (H : Hp) : Fr M H M H := fun _ _ a b _ => ⟨a, b⟩
theorem Fr.trans {M M1 M2 : Mem} {H H1 H2 : Hp} (a : Fr M H M1 H1) (b : Fr M1 H1 M2 H2) : Fr M H M2 H2 := fun c o n h t =>
  let ⟨h1, h2⟩ := a c o n h t
  b c o h1 h2 t
theorem Fr.sb {M M' : Mem} {H H' : Hp} (f : Fr M H M' H') : Sb (sub H M) (sub H' M') := fun b o n h =>
  let ⟨h1, h2⟩ := sub_some h
  let ⟨h3, h4⟩ := f b o h1 h2 n
  sub_of h3 h4
def MOk (K : PySem.W.Frag) (H : Hp) : HO → MO → Prop
  | .lst vs, .lst ds => RpA K H vs ds
  | .dK kvs, .dK kds => kvs.map (·.1) = kds.map (·.1) ∧ RpA K H (kvs.map (·.2)) (kds.map (·.2))
  | .dT kvs, .dT kds => kvs.map (·.1) = kds.map (·.1) ∧ RpA K H (kvs.map (·.2)) (kds.map (·.2))
  | .ins C _ kvs, .ins C' kds => C = C' ∧ kvs.map (·.1) = kds.map (·.1) ∧ RpA K H (kvs.map (·.2)) (kds.map (·.2))
  | _, _ => False
theorem MOk.mono {K : PySem.W.Frag} {H H' : Hp} (e : Sb H H') {o : HO} {m : MO} (h : MOk K H o m) : MOk K H' o m := by
  cases o <;> cases m <;> first | exact False.elim h | skip
  · exact RpA.mono e h
  · exact ⟨h.1, RpA.mono e h.2⟩
  · exact ⟨h.1, RpA.mono e h.2⟩
  · exact ⟨h.1, h.2.1, RpA.mono e h.2.2⟩
theorem MOk.lst {K : PySem.W.Frag} {H : Hp} {o : HO} {ds : List D} (h : MOk K H o (.lst ds)) : ∃ vs, o = .lst vs ∧ RpA K H vs ds := by
  cases o <;> first | exact False.elim h | skip
  exact ⟨_, rfl, h⟩
theorem MOk.dK {K : PySem.W.Frag} {H : Hp} {o : HO} {ds : List (Key × D)} (h : MOk K H o (.dK ds)) : ∃ vs, o = .dK vs ∧ vs.map (·.1) = ds.map (·.1) ∧ RpA K H (vs.map (·.2)) (ds.map (·.2)) := by
  cases o <;> first | exact False.elim h | skip
  exact ⟨_, rfl, h⟩
theorem MOk.dT {K : PySem.W.Frag} {H : Hp} {o : HO} {ds : List (List Key × D)} (h : MOk K H o (.dT ds)) : ∃ vs, o = .dT vs ∧ vs.map (·.1) = ds.map (·.1) ∧ RpA K H (vs.map (·.2)) (ds.map (·.2)) := by
  cases o <;> first | exact False.elim h | skip
  exact ⟨_, rfl, h⟩
theorem MOk.ins {K : PySem.W.Frag} {H : Hp} {o : HO} {C : Addr} {ds : List (Str × D)} (h : MOk K H o (.ins C ds)) : ∃ dx vs, o = .ins C dx vs ∧ vs.map (·.1) = ds.map (·.1) ∧ RpA K H (vs.map (·.2)) (ds.map (·.2)) := by
  cases o <;> first | exact False.elim h | skip
  obtain ⟨rfl, h⟩ := h
  exact ⟨_, _, rfl, h⟩
/-- no table, no other thing -/
def Pl (o : HO) : Prop := (∀ ps, o ≠ .tbl ps) ∧ ∀ φ, o ≠ .ext φ
theorem MOk.pl {K : PySem.W.Frag} {H : Hp} {o : HO} {m : MO} (h : MOk K H o m) : Pl o := by
  cases o <;> cases m <;> first | exact False.elim h | exact ⟨(fun _ z => nomatch z), (fun _ z => nomatch z)⟩
structure HI (K : PySem.W.Frag) (T : List (Addr × Str)) (M : Mem) (H : Hp) : Prop where
  mem : ∀ p m, M p = some m → ∃ o, H p = some o ∧ MOk K (sub H M) o m
  tab : Tabs T H
theorem TabS.upd {H : Hp} {P : Addr} {nm : Str} {p : Addr} {o o' : HO} (t : TabS H P nm) (hp : H p = some o) (pl : Pl o) : TabS (upd H p o') P nm := by
  obtain ⟨ps, h1, h2, h3⟩ := t
  have ne : ∀ b u, H b = some u → (∃ ps, u = .tbl ps) ∨ (∃ φ, u = .ext φ) → b ≠ p := fun b u e z y => by
    subst y
    rw [hp] at e
    cases e
    rcases z with ⟨ps, z⟩ | ⟨φ, z⟩
    · exact pl.1 _ z
    · exact pl.2 _ z
  refine ⟨ps, by rw [upd_ne (ne P _ h1 (.inl ⟨_, rfl⟩))]; exact h1, h2, fun pos cv hc => ?_⟩
  obtain ⟨c, e1, e2⟩ := h3 pos cv hc
  exact ⟨c, e1, by rw [upd_ne (ne c _ e2 (.inr ⟨_, rfl⟩))]; exact e2⟩
theorem ex_new {H : Hp} {p : Addr} {o : HO} (h : H p = none) : ∀ b u, H b = some u → upd H p o b = some u := fun b u e => by
  rw [upd_ne]
  · exact e
  · intro z; subst z; rw [h] at e; cases e
section
variable {K : PySem.W.Frag} {T : List (Addr × Str)} {M M' : Mem} {H H' : Hp} {p : Addr} {o o' : HO} {m m' : MO}
theorem HI.mnone (h : HI K T M H) (hp : H p = none) : M p = none := by
  cases e : M p with
  | none => rfl
  | some m => obtain ⟨o, h1, _⟩ := h.mem p m e; rw [hp] at h1; cases h1
theorem fr_new (h : HI K T M H) (hp : H p = none) : Fr M H M (upd H p o) := fun b u n e _ => ⟨n, ex_new hp b u e⟩
theorem HI.new (h : HI K T M H) (hp : H p = none) : HI K T M (upd H p o) where
  mem := fun q m e => by
    obtain ⟨u, h1, h2⟩ := h.mem q m e
    exact ⟨u, ex_new hp q u h1, h2.mono (fr_new h hp).sb⟩
  tab := h.tab.ext (ex_new hp)
theorem sub_new (hp : H p = none) : sub (upd H p o) (mupd M p m) = sub H M := by
  funext a
  unfold sub mupd upd
  by_cases e : a = p
  · subst e
    simp only [if_pos]
    cases M a <;> simp [hp]
  · simp [e]
theorem fr_newM (h : HI K T M H) (hp : H p = none) : Fr M H (mupd M p m) (upd H p o) := fun b u n e _ => by
  have ne : b ≠ p := fun z => by subst z; rw [hp] at e; cases e
  exact ⟨by rw [mupd_ne ne]; exact n, by rw [upd_ne ne]; exact e⟩
theorem HI.newM (h : HI K T M H) (hp : H p = none) (r : MOk K (sub H M) o m) : HI K T (mupd M p m) (upd H p o) where
  mem := fun q m' e => by
    rw [sub_new hp]
    by_cases z : q = p
    · subst z
      rw [mupd_same] at e; cases e
      exact ⟨o, upd_same, r⟩
    · rw [mupd_ne z] at e
      obtain ⟨u, h1, h2⟩ := h.mem q m' e
      exact ⟨u, by rw [upd_ne z]; exact h1, h2⟩
  tab := h.tab.ext (ex_new hp)
theorem sub_wr (hm : M p = some m) : sub (upd H p o) (mupd M p m') = sub H M := by
  funext a
  unfold sub mupd upd
  by_cases e : a = p
  · subst e
    simp [hm]
  · simp [e]
theorem fr_wr (hm : M p = some m) : Fr M H (mupd M p m') (upd H p o) := fun b u n e _ => by
  have ne : b ≠ p := fun z => by subst z; rw [hm] at n; cases n
  exact ⟨by rw [mupd_ne ne]; exact n, by rw [upd_ne ne]; exact e⟩
theorem HI.wr (h : HI K T M H) (hm : M p = some m) (r : MOk K (sub H M) o m') : HI K T (mupd M p m') (upd H p o) where
  mem := fun q m2 e => by
    rw [sub_wr hm]
    by_cases z : q = p
    · subst z
      rw [mupd_same] at e; cases e
      exact ⟨o, upd_same, r⟩
    · rw [mupd_ne z] at e
      obtain ⟨u, h1, h2⟩ := h.mem q m2 e
      exact ⟨u, by rw [upd_ne z]; exact h1, h2⟩
  tab := fun q hq => by
    obtain ⟨u, h1, h2⟩ := h.mem p m hm
    exact TabS.upd (h.tab q hq) h1 h2.pl
theorem sb_del : Sb (sub H M) (sub H (mdel M p)) := fun b o _ h => by
  obtain ⟨h1, h2⟩ := sub_some h
  refine sub_of ?_ h2
  unfold mdel
  split
  · rfl
  · exact h1
theorem fr_del : Fr M H (mdel M p) H := fun b o n e _ => ⟨by unfold mdel; split; rfl; exact n, e⟩
theorem HI.del (h : HI K T M H) : HI K T (mdel M p) H where
  mem := fun q m e => by
    unfold mdel at e
    split at e
    · cases e
    · obtain ⟨u, h1, h2⟩ := h.mem q m e
      exact ⟨u, h1, h2.mono sb_del⟩
  tab := h.tab
end
/-! ### the state -/
/-- what is said of the entry, kept by frames -/
structure Anc where
  A : Mem → Hp → Prop
  mono : ∀ {M M' : Mem} {H H' : Hp}, A M H → Fr M H M' H' → A M' H'
def Anc.no : Anc := ⟨fun _ _ => True, fun _ _ => trivial⟩
def Anc.at (M : Mem) (H : Hp) : Anc := ⟨fun M' H' => Fr M H M' H', fun a f => a.trans f⟩
structure SI (K : PySem.W.Frag) (T : List (Addr × Str)) (Z : Anc) (ρ : DEnv) (M : Mem) (σ : L2.St) (H : Hp) : Prop where
  len : σ.length = ρ.length
  slot : ∀ (i : Nat) (d : D), ρ[i]? = some (some d) → ∃ v, σ[i]? = some (some v) ∧ Rp K (sub H M) v d
  hi : HI K T M H
  anc : Z.A M H
section
variable {K : PySem.W.Frag} {T : List (Addr × Str)} {Z : Anc} {M M' : Mem} {H H' : Hp} {ρ : DEnv} {σ : L2.St}
theorem SI.fr (S : SI K T Z ρ M σ H) (f : Fr M H M' H') (h : HI K T M' H') : SI K T Z ρ M' σ H' :=
  ⟨S.len, fun i d e => let ⟨v, h1, h2⟩ := S.slot i d e; ⟨v, h1, h2.mono f.sb⟩, h, Z.mono S.anc f⟩
theorem SI.set (S : SI K T Z ρ M σ H) {v : V} {d : D} (r : Rp K (sub H M) v d) (i : Nat) : SI K T Z (ρ.set i (some d)) M (σ.set i (some v)) H where
  len := by rw [List.length_set, List.length_set]; exact S.len
  slot := fun j e h => by
    by_cases z : i = j
    · subst z
      have hl : i < ρ.length := by
        have := (List.getElem?_eq_some_iff.mp h).1
        simpa using this
      rw [List.getElem?_set_self hl] at h
      cases h
      exact ⟨v, List.getElem?_set_self (by rw [S.len]; exact hl), r⟩
    · rw [List.getElem?_set_ne z] at h
      obtain ⟨u, h1, h2⟩ := S.slot j e h
      exact ⟨u, by rw [List.getElem?_set_ne z]; exact h1, h2⟩
  hi := S.hi
  anc := S.anc
/-- a slot forgotten -/
theorem SI.forget (S : SI K T Z ρ M σ H) (i : Nat) (x : Option V) : SI K T Z (ρ.set i none) M (σ.set i x) H where
  len := by rw [List.length_set, List.length_set]; exact S.len
  slot := fun j e h => by
    by_cases z : i = j
    · subst z
      have hl : i < ρ.length := by
        have := (List.getElem?_eq_some_iff.mp h).1
        simpa using this
      rw [List.getElem?_set_self hl] at h
      cases h
    · rw [List.getElem?_set_ne z] at h
      obtain ⟨u, h1, h2⟩ := S.slot j e h
      exact ⟨u, by rw [List.getElem?_set_ne z]; exact h1, h2⟩
  hi := S.hi
  anc := S.anc
/-- fewer words -/
theorem SI.weak {ρ' : DEnv} (S : SI K T Z ρ M σ H) (hl : ρ'.length = ρ.length) (h : ∀ (i : Nat) (d : D), ρ'[i]? = some (some d) → ρ[i]? = some (some d)) : SI K T Z ρ' M σ H :=
  ⟨S.len.trans hl.symm, fun i d e => S.slot i d (h i d e), S.hi, S.anc⟩
end
end Q
namespace Q
open PySem PySem.Spec PyProof.Rows L2 LamX NdefX

/-- no built-in's name is the module's -/
structure BN (mg : Str → Option Value) : Prop where
  len : mg "len" = none
  int : mg "int" = none
  max : mg "max" = none
  min : mg "min" = none
  bool : mg "bool" = none
  str : mg "str" = none
  tuple : mg "tuple" = none
  list : mg "list" = none
  isinstance : mg "isinstance" = none
  range : mg "range" = none
  sorted : mg "sorted" = none
  enumerate : mg "enumerate" = none
  all : mg "all" = none
  any : mg "any" = none
  dict : mg "dict" = none
  divmod : mg "divmod" = none
  zip : mg "zip" = none
  sum : mg "sum" = none
  ord : mg "ord" = none
abbrev XR := Value → List (Str × D) → DEnv → Mem → Prop
structure Cq where
  X : Cx
  T : List (Addr × Str)
  Z : Anc
  W : WX
  R : XR
  k : Nat
  tk : Takes X W
  own : PassesOwn (model X.prog X.w) X.A X.env X.xe
  nd : X.N.Nodup
  room : X.calm = true → Room k X.A
  bn : BN X.mg
abbrev Cq.K (C : Cq) : PySem.W.Frag := C.X.K
def XDat (K : PySem.W.Frag) (H : Hp) (M : Mem) (d : Option Addr) (fs : List (Str × D)) : Prop :=
  ∃ dx vs, d = some dx ∧ H dx = some (.xd vs) ∧ M dx = none ∧ vs.map (·.1) = fs.map (·.1) ∧ RpA K (sub H M) (vs.map (·.2)) (fs.map (·.2))
def WOk (C : Cq) (M : Mem) (H : Hp) : Prop := ∀ σ' H' M' ρ' cls d fs, SI C.K C.T C.Z ρ' M' σ' H' → Fr M H M' H' → XDat C.K H' M' d fs → C.R cls fs ρ' M' → C.W cls d σ' H'
theorem WOk.fr {C : Cq} {M M' : Mem} {H H' : Hp} (w : WOk C M H) (f : Fr M H M' H') : WOk C M' H' :=
  fun σ' H2 M2 ρ' cls d fs S f2 x r => w σ' H2 M2 ρ' cls d fs S (f.trans f2) x r

/-! ### the whole wishes -/
def WE (X : Cx) (e : Expr) : TE := fun σ H Q => ∀ pins s, Inv X pins σ H s → wpAny (model X.prog X.w) X.A (eval e X.env) (EP X pins σ Q) X.xe s
theorem pe_W {X : Cx} {e : Expr} : PE X e (WE X e) := ⟨fun pins s σ H Q I h => h pins s I⟩
def WT (X : Cx) (e : Expr) : TT := fun σ H Q => ∀ pins s, Inv X pins σ H s → wpAny (model X.prog X.w) X.A (isTrue e X.env (eval e X.env)) (TP X pins σ Q) X.xe s
theorem pt_W {X : Cx} {e : Expr} : PT X e (WT X e) := ⟨fun pins s σ H Q I h => h pins s I⟩
def WA (X : Cx) (es : List Expr) : TA := fun σ H Q => ∀ pos pins s, Inv X pins σ H s → wpAny (model X.prog X.w) X.A (spliced (backTo pos (starEach es X.env))) (AP X pins σ Q) X.xe s
theorem pa_W {X : Cx} {es : List Expr} : PA X es (WA X es) := ⟨fun pos pins s σ H Q I h => h pos pins s I⟩
def WS (X : Cx) (st : Stmt) : TS := fun E σ H => ∀ pins s, Inv X pins σ H s → wpAny (model X.prog X.w) X.A (exec st X.env) (SP X pins E) X.xe s
theorem ps_W {X : Cx} {st : Stmt} : PS X st (WS X st) := ⟨fun pins s σ H E I h => h pins s I⟩
def WSs (X : Cx) (st : List Stmt) : TS := fun E σ H => ∀ pins s, Inv X pins σ H s → wpAny (model X.prog X.w) X.A (execs st X.env) (SP X pins E) X.xe s
theorem pss_W {X : Cx} {st : List Stmt} : PSs X st (WSs X st) := ⟨fun pins s σ H E I h => h pins s I⟩
def WG (X : Cx) (tg : Expr) : TG := fun v σ H Q => ∀ pins s u, Inv X pins σ H s → RelV v u → wpAny (model X.prog X.w) X.A (assign tg X.env u) (fun _ s' => ∃ σ' H', Inv X pins σ' H' s' ∧ Q σ' H') X.xe s
theorem pg_W {X : Cx} {tg : Expr} : PG X tg (WG X tg) := ⟨fun pins s σ H v u Q I r h => h pins s u I r⟩
def WW (X : Cx) (e : Expr) : TT := fun σ H Q => ∀ whole pins s, Inv X pins σ H s → wpAny (model X.prog X.w) X.A (isTrue e X.env whole) (TP X pins σ Q) X.xe s
theorem pw_W {X : Cx} {e : Expr} : PW X e (WW X e) := ⟨fun whole pins s σ H Q I h => h whole pins s I⟩

/-! ### judgements -/
abbrev PD := D → Mem → Prop
def EvQ (C : Cq) (te : TE) (ρ : DEnv) (M : Mem) (P : PD) : Prop := ∀ σ H, SI C.K C.T C.Z ρ M σ H → WOk C M H → ∀ Q : VK,
  (∀ v H' M' d, HI C.K C.T M' H' → Fr M H M' H' → Rp C.K (sub H' M') v d → P d M' → Q v H') → te σ H Q
structure QE (C : Cq) (e : Expr) (ρ : DEnv) (M : Mem) (P : PD) : Prop where
  run : EvQ C (WE C.X e) ρ M P
instance {C : Cq} {e : Expr} {ρ : DEnv} {M : Mem} {P : PD} : CoeFun (QE C e ρ M P) (fun _ => EvQ C (WE C.X e) ρ M P) := ⟨QE.run⟩
def TvQ (C : Cq) (tt : TT) (ρ : DEnv) (M : Mem) (P : Bool → Mem → Prop) : Prop := ∀ σ H, SI C.K C.T C.Z ρ M σ H → WOk C M H → ∀ Q : Bool → Hp → Prop,
  (∀ b H' M', HI C.K C.T M' H' → Fr M H M' H' → P b M' → Q b H') → tt σ H Q
structure QT (C : Cq) (e : Expr) (ρ : DEnv) (M : Mem) (P : Bool → Mem → Prop) : Prop where
  run : TvQ C (WT C.X e) ρ M P
instance {C : Cq} {e : Expr} {ρ : DEnv} {M : Mem} {P : Bool → Mem → Prop} : CoeFun (QT C e ρ M P) (fun _ => TvQ C (WT C.X e) ρ M P) := ⟨QT.run⟩
structure QW (C : Cq) (e : Expr) (ρ : DEnv) (M : Mem) (P : Bool → Mem → Prop) : Prop where
  run : TvQ C (WW C.X e) ρ M P
instance {C : Cq} {e : Expr} {ρ : DEnv} {M : Mem} {P : Bool → Mem → Prop} : CoeFun (QW C e ρ M P) (fun _ => TvQ C (WW C.X e) ρ M P) := ⟨QW.run⟩
def AvQ (C : Cq) (ta : TA) (ρ : DEnv) (M : Mem) (P : List D → Mem → Prop) : Prop := ∀ σ H, SI C.K C.T C.Z ρ M σ H → WOk C M H → ∀ Q : List V → Hp → Prop,
  (∀ vs H' M' ds, HI C.K C.T M' H' → Fr M H M' H' → RpA C.K (sub H' M') vs ds → P ds M' → Q vs H') → ta σ H Q
structure QA (C : Cq) (es : List Expr) (ρ : DEnv) (M : Mem) (P : List D → Mem → Prop) : Prop where
  run : AvQ C (WA C.X es) ρ M P
instance {C : Cq} {es : List Expr} {ρ : DEnv} {M : Mem} {P : List D → Mem → Prop} : CoeFun (QA C es ρ M P) (fun _ => AvQ C (WA C.X es) ρ M P) := ⟨QA.run⟩
structure DE where
  nx : DEnv → Mem → Prop
  rt : D → Mem → Prop
  bk : DEnv → Mem → Prop := fun _ _ => False
  ct : DEnv → Mem → Prop := fun _ _ => False
structure EOk (C : Cq) (E : DE) (M : Mem) (H : Hp) (De : Ends) : Prop where
  nx : ∀ ρ' M' σ' H', SI C.K C.T C.Z ρ' M' σ' H' → Fr M H M' H' → E.nx ρ' M' → De.nx σ' H'
  rt : ∀ v H' M' d, HI C.K C.T M' H' → Fr M H M' H' → Rp C.K (sub H' M') v d → E.rt d M' → De.rt v H'
  bk : ∀ ρ' M' σ' H', SI C.K C.T C.Z ρ' M' σ' H' → Fr M H M' H' → E.bk ρ' M' → De.bk σ' H'
  ct : ∀ ρ' M' σ' H', SI C.K C.T C.Z ρ' M' σ' H' → Fr M H M' H' → E.ct ρ' M' → De.ct σ' H'
theorem EOk.fr {C : Cq} {E : DE} {M M' : Mem} {H H' : Hp} {De : Ends} (e : EOk C E M H De) (f : Fr M H M' H') : EOk C E M' H' De :=
  ⟨fun _ _ _ _ S g q => e.nx _ _ _ _ S (f.trans g) q, fun _ _ _ _ S g r q => e.rt _ _ _ _ S (f.trans g) r q, fun _ _ _ _ S g q => e.bk _ _ _ _ S (f.trans g) q, fun _ _ _ _ S g q => e.ct _ _ _ _ S (f.trans g) q⟩
def StQ (C : Cq) (ts : TS) (ρ : DEnv) (M : Mem) (E : DE) : Prop := ∀ σ H, SI C.K C.T C.Z ρ M σ H → WOk C M H → ∀ De : Ends, EOk C E M H De → ts De σ H
structure QS (C : Cq) (st : Stmt) (ρ : DEnv) (M : Mem) (E : DE) : Prop where
  run : StQ C (WS C.X st) ρ M E
instance {C : Cq} {st : Stmt} {ρ : DEnv} {M : Mem} {E : DE} : CoeFun (QS C st ρ M E) (fun _ => StQ C (WS C.X st) ρ M E) := ⟨QS.run⟩
structure QSs (C : Cq) (st : List Stmt) (ρ : DEnv) (M : Mem) (E : DE) : Prop where
  run : StQ C (WSs C.X st) ρ M E
instance {C : Cq} {st : List Stmt} {ρ : DEnv} {M : Mem} {E : DE} : CoeFun (QSs C st ρ M E) (fun _ => StQ C (WSs C.X st) ρ M E) := ⟨QSs.run⟩
/-- a target takes the datum x -/
def GvQ (C : Cq) (tg : TG) (ρ : DEnv) (M : Mem) (x : D) (N : DEnv → Mem → Prop) : Prop := ∀ σ H v, SI C.K C.T C.Z ρ M σ H → WOk C M H → Rp C.K (sub H M) v x → ∀ Q : L2.St → Hp → Prop,
  (∀ ρ' M' σ' H', SI C.K C.T C.Z ρ' M' σ' H' → Fr M H M' H' → N ρ' M' → Q σ' H') → tg v σ H Q
structure QG (C : Cq) (tg : Expr) (ρ : DEnv) (M : Mem) (x : D) (N : DEnv → Mem → Prop) : Prop where
  run : GvQ C (WG C.X tg) ρ M x N
instance {C : Cq} {tg : Expr} {ρ : DEnv} {M : Mem} {x : D} {N : DEnv → Mem → Prop} : CoeFun (QG C tg ρ M x N) (fun _ => GvQ C (WG C.X tg) ρ M x N) := ⟨QG.run⟩

section
variable {C : Cq} {e a b : Expr} {ρ : DEnv} {M : Mem} {P : PD} {pos : Pos}
theorem QE.of {te : TE} (h : PE C.X e te) (q : EvQ C te ρ M P) : QE C e ρ M P := ⟨fun σ H S w Q k pins s I => h.run pins s σ H Q I (q σ H S w Q k)⟩
theorem QT.of {t : TT} {P : Bool → Mem → Prop} (h : PT C.X e t) (q : TvQ C t ρ M P) : QT C e ρ M P := ⟨fun σ H S w Q k pins s I => h.run pins s σ H Q I (q σ H S w Q k)⟩
theorem QW.of {t : TT} {P : Bool → Mem → Prop} (h : PW C.X e t) (q : TvQ C t ρ M P) : QW C e ρ M P := ⟨fun σ H S w Q k wh pins s I => h.run wh pins s σ H Q I (q σ H S w Q k)⟩
theorem QW.qt {P : Bool → Mem → Prop} (h : QW C e ρ M P) : QT C e ρ M P := ⟨fun σ H S w Q k pins s I => h σ H S w Q k _ pins s I⟩
theorem QA.of {es : List Expr} {t : TA} {P : List D → Mem → Prop} (h : PA C.X es t) (q : AvQ C t ρ M P) : QA C es ρ M P := ⟨fun σ H S w Q k pos pins s I => h.run pos pins s σ H Q I (q σ H S w Q k)⟩
theorem QS.of {st : Stmt} {t : TS} {E : DE} (h : PS C.X st t) (q : StQ C t ρ M E) : QS C st ρ M E := ⟨fun σ H S w De k pins s I => h.run pins s σ H De I (q σ H S w De k)⟩
theorem QSs.of {st : List Stmt} {t : TS} {E : DE} (h : PSs C.X st t) (q : StQ C t ρ M E) : QSs C st ρ M E := ⟨fun σ H S w De k pins s I => h.run pins s σ H De I (q σ H S w De k)⟩
theorem QG.of {tg : Expr} {t : TG} {x : D} {N : DEnv → Mem → Prop} (h : PG C.X tg t) (q : GvQ C t ρ M x N) : QG C tg ρ M x N := ⟨fun σ H v S w r Q k pins s u I ru => h.run pins s σ H v u Q I ru (q σ H v S w r Q k)⟩
/-- monotone -/
theorem QE.imp {P' : PD} (h : QE C e ρ M P) (f : ∀ d M', P d M' → P' d M') : QE C e ρ M P' := ⟨fun σ H S w Q k => h σ H S w Q fun v H' M' d hi fr r p => k v H' M' d hi fr r (f d M' p)⟩
theorem QT.imp {P P' : Bool → Mem → Prop} (h : QT C e ρ M P) (f : ∀ d M', P d M' → P' d M') : QT C e ρ M P' := ⟨fun σ H S w Q k => h σ H S w Q fun v H' M' hi fr p => k v H' M' hi fr (f v M' p)⟩
theorem QSs.imp {st : List Stmt} {E E' : DE} (h : QSs C st ρ M E) (f1 : ∀ d M', E.nx d M' → E'.nx d M') (f2 : ∀ d M', E.rt d M' → E'.rt d M') (f3 : ∀ d M', E.bk d M' → E'.bk d M') (f4 : ∀ d M', E.ct d M' → E'.ct d M') : QSs C st ρ M E' :=
  ⟨fun σ H S w De k => h σ H S w De ⟨fun _ _ _ _ S f q => k.nx _ _ _ _ S f (f1 _ _ q), fun _ _ _ _ S f r q => k.rt _ _ _ _ S f r (f2 _ _ q), fun _ _ _ _ S f q => k.bk _ _ _ _ S f (f3 _ _ q), fun _ _ _ _ S f q => k.ct _ _ _ _ S f (f4 _ _ q)⟩⟩

/-! ### names, constants -/
theorem ev_tC {v : V} {d : D} (r : ∀ H, Rp C.K H v d) (p : P d M) : EvQ C (tC v) ρ M P := fun σ H S w Q k => k v H M d S.hi (.refl _ _) (r _) p
theorem qe_int {i : Int} {j : Nat} (p : P (.int i) M) : QE C (.Constant (.int i) j pos) ρ M P := .of pe_int (ev_tC (fun _ => .int i) p)
theorem qe_bl {i : Bool} {j : Nat} (p : P (.bl i) M) : QE C (.Constant (.bool i) j pos) ρ M P := .of pe_bl (ev_tC (fun _ => .bl i) p)
theorem qe_non {j : Nat} (p : P .non M) : QE C (.Constant .none j pos) ρ M P := .of pe_non (ev_tC (fun _ => .non) p)
theorem qe_str {x : Str} {j : Nat} (p : P (.str x) M) : QE C (.Constant (.str x) j pos) ρ M P := .of pe_str (ev_tC (fun _ => .str x) p)
theorem qe_var {x : Str} {d : D} (i : Nat) (hN : C.X.N[i]? = some x) (hv : Vis C.X.env.scope x) (h : ρ[i]? = some (some d)) (p : P d M)
    (hd : (x == ("__debug__" : Str)) = false := by decide) (hcd : (x == ("__classdict__" : Str)) = false := by decide) : QE C (.Name x pos) ρ M P :=
  .of (pe_var hN hv hd hcd) fun σ H S w Q k => by
    obtain ⟨v, h1, r⟩ := S.slot i d h
    exact ⟨v, h1, k v H M d S.hi (.refl _ _) r p⟩
/-- a module's constant -/
theorem qe_glob {x : Str} {v : V} {u : Value} {d : D} (hm : C.X.mg x = some u) (hg : Gl C.X x) (r : RelV v u) (r2 : ∀ H, Rp C.K H v d) (p : P d M) (hd : (x == ("__debug__" : Str)) = false := by decide) : QE C (.Name x pos) ρ M P :=
  .of (pe_glob hg hm r hd) (ev_tC r2 p)
theorem qe_globI {x : Str} {i : Int} (hm : ∃ t, C.X.mg x = some (.int i t)) (hg : Gl C.X x) (p : P (.int i) M) (hd : (x == ("__debug__" : Str)) = false := by decide) : QE C (.Name x pos) ρ M P := by
  obtain ⟨t, hm⟩ := hm
  exact qe_glob (v := .int i) hm hg ⟨t, rfl⟩ (fun _ => .int i) p hd
/-- a built-in type as a value -/
theorem qe_ty {x : Str} {n : String} (hm : C.X.mg x = none) (hg : Gl C.X x) (hv : bootBuiltins x = some (.type n)) (p : P (.oth (.ty n)) M) (hn : x ≠ "__name__" := by decide) (hd : (x == ("__debug__" : Str)) = false := by decide) : QE C (.Name x pos) ρ M P :=
  .of (pe_bltn (v := .ty n) hg hm hv rfl hn hd) (ev_tC (fun _ => .oth _) p)

/-! ### arguments, displays -/
theorem qa_nil {P : List D → Mem → Prop} (p : P [] M) : QA C [] ρ M P := .of pa_nil fun σ H S w Q k => k [] H M [] S.hi (.refl _ _) .nil p
theorem qa_cons {es : List Expr} {P : List D → Mem → Prop} (h : QE C e ρ M fun d M1 => QA C es ρ M1 fun ds M2 => P (d :: ds) M2)
    (hs : starEach (e :: es) C.X.env = (false, eval e C.X.env) :: starEach es C.X.env := by rfl) : QA C (e :: es) ρ M P :=
  .of (pa_cons pe_W pa_W hs) fun σ H S w Q k => h σ H S w _ fun v H1 M1 d hi f r q =>
    q σ H1 (S.fr f hi) (w.fr f) _ fun vs H2 M2 ds hi2 f2 rs q2 => k (v :: vs) H2 M2 (d :: ds) hi2 (f.trans f2) (.cons (r.mono f2.sb) rs) q2
theorem qe_tup {es : List Expr} {x1 : Nat} (h : QA C es ρ M fun ds M' => ds.length ≤ sizeLine ∧ P (.tup ds) M') : QE C (.Tuple es x1 pos) ρ M P :=
  .of (pe_tup pa_W) fun σ H S w Q k => h σ H S w _ fun vs H1 M1 ds hi f r ⟨hl, q⟩ => ⟨by rw [r.length]; exact hl, fun p hp =>
    k _ _ M1 _ (hi.new hp) (f.trans (fr_new hi hp)) (.tup (SqT.of (sub_of (hi.mnone hp) upd_same)) (r.mono (fr_new hi hp).sb)) q⟩
theorem qe_lst {es : List Expr} (h : QA C es ρ M fun ds M' => ds.length ≤ sizeLine ∧ P (.lst ds) M') : QE C (.List es pos) ρ M P :=
  .of (pe_lst pa_W) fun σ H S w Q k => h σ H S w _ fun vs H1 M1 ds hi f r ⟨hl, q⟩ => ⟨by rw [r.length]; exact hl, fun p hp =>
    k _ _ M1 _ (hi.new hp) (f.trans (fr_new hi hp)) (.lst (sub_of (hi.mnone hp) upd_same) (r.mono (fr_new hi hp).sb)) q⟩
/-- a list that will change -/
theorem qe_lstM {es : List Expr} (h : QA C es ρ M fun ds M' => ds.length ≤ sizeLine ∧ ∀ p, M' p = none → P (.oth (.ref p)) (mupd M' p (.lst ds))) : QE C (.List es pos) ρ M P :=
  .of (pe_lst pa_W) fun σ H S w Q k => h σ H S w _ fun vs H1 M1 ds hi f r ⟨hl, q⟩ => ⟨by rw [r.length]; exact hl, fun p hp =>
    k _ _ _ _ (hi.newM (m := .lst ds) hp r) (f.trans (fr_newM hi hp)) (.oth _) (q p (hi.mnone hp))⟩
/-- what changes no more is a datum -/
theorem qe_frz (h : QE C e ρ M fun d M' => ∃ p ds, d = .oth (.ref p) ∧ M' p = some (.lst ds) ∧ P (.lst ds) (mdel M' p)) : QE C e ρ M P := ⟨fun σ H S w Q k =>
  h σ H S w Q fun v H1 M1 d hi f r ⟨p, ds, e, hp, q⟩ => by
    subst e
    cases r
    obtain ⟨o, h1, h2⟩ := hi.mem p _ hp
    obtain ⟨vs, rfl, h2⟩ := h2.lst
    exact k _ H1 _ _ hi.del (f.trans fr_del) (.lst (sub_of (by unfold mdel; exact if_pos rfl) h1) (h2.mono sb_del)) q⟩

/-! ### operators -/
theorem q2 {R : D → D → Mem → Prop} (h : QE C a ρ M fun x M1 => QE C b ρ M1 fun y M2 => R x y M2) : EvQ C (WE C.X a) ρ M fun x M1 => EvQ C (WE C.X b) ρ M1 fun y M2 => R x y M2 := (h.imp fun _ _ q => q.run).run
def OpD (C : Cq) (r : R2) (rd : D → D → Mem → PD → Prop) : Prop := ∀ (v u : V) (x y : D) (M : Mem) (H : Hp) (P : PD) (Q : VK), HI C.K C.T M H → Rp C.K (sub H M) v x → Rp C.K (sub H M) u y → rd x y M P →
  (∀ v' H' M' d, HI C.K C.T M' H' → Fr M H M' H' → Rp C.K (sub H' M') v' d → P d M' → Q v' H') → r v u H Q
theorem ev_op {ta tb : TE} {r : R2} {rd : D → D → Mem → PD → Prop} (od : OpD C r rd) (h : EvQ C ta ρ M fun x M1 => EvQ C tb ρ M1 fun y M2 => rd x y M2 P) : EvQ C (tOp r ta tb) ρ M P :=
  fun σ H S w Q k => h σ H S w _ fun v H1 M1 x hi f rx q => q σ H1 (S.fr f hi) (w.fr f) _ fun u H2 M2 y hi2 f2 ry q2 =>
    od v u x y M2 H2 P Q hi2 (rx.mono f2.sb) ry q2 fun v' H' M' d hi3 f3 r3 p => k v' H' M' d hi3 ((f.trans f2).trans f3) r3 p
theorem qe_op {op : Operator} {r : R2} {rd : D → D → Mem → PD → Prop} (ho : OpR C.X (binaryOp op) r) (od : OpD C r rd) (h : QE C a ρ M fun x M1 => QE C b ρ M1 fun y M2 => rd x y M2 P) : QE C (.BinOp a op b pos) ρ M P :=
  .of (pe_op ho pe_W pe_W) (ev_op od (q2 h))
theorem qe_cmp {op : CmpOp} {r : R2} {rd : D → D → Mem → PD → Prop} (ho : OpR C.X (compareOp op) r) (od : OpD C r rd) (h : QE C a ρ M fun x M1 => QE C b ρ M1 fun y M2 => rd x y M2 P) (hm : behindInMarks op b = false) : QE C (.Compare a [op] [b] pos) ρ M P :=
  .of (pe_cmpR ho pe_W pe_W hm) (ev_op od (q2 h))
structure isBl (P : Bool → Mem → Prop) (d : D) (M : Mem) : Prop where
  ex : ∃ k, d = .bl k ∧ P k M
theorem tv_test {te : TE} {P : Bool → Mem → Prop} (h : EvQ C te ρ M (isBl P)) : TvQ C (tTest te) ρ M P := fun σ H S w Q k => h σ H S w _ fun v H1 M1 d hi f r ⟨⟨b, e, p⟩⟩ => by
  subst e
  cases r
  exact ⟨b, rfl, k b H1 M1 hi f p⟩
theorem qt_cmp {op : CmpOp} {r : R2} {rd : D → D → Mem → PD → Prop} {P : Bool → Mem → Prop} (ho : OpR C.X (compareOp op) r) (od : OpD C r rd) (h : QE C a ρ M fun x M1 => QE C b ρ M1 fun y M2 => rd x y M2 (isBl P)) (hm : behindInMarks op b = false) : QT C (.Compare a [op] [b] pos) ρ M P :=
  .of (pt_cmpR ho pe_W pe_W hm) (tv_test (ev_op od (q2 h)))
/-- the test of a value that is a bool -/
theorem qt_val {P : Bool → Mem → Prop} (h : QE C e ρ M (isBl P)) (he : ∀ whole, isTrue e C.X.env whole = (do let v ← whole; standAt e.pos; holding [v] (truthy v)) := by intro _; rfl) : QT C e ρ M P :=
  .of (pt_val pe_W he) (fun σ H S w Q k => h σ H S w _ fun v H1 M1 d hi f r ⟨⟨b, e, p⟩⟩ => by
    subst e
    cases r
    exact ⟨b, rfl, k b H1 M1 hi f p⟩)
theorem od_int {g : Int → Int → D} {gv : Int → Int → V} (hg : ∀ i j H, Rp C.K H (gv i j) (g i j)) : OpD C (rI0 gv) (fun x y M P => ∃ i j, x = .int i ∧ y = .int j ∧ P (g i j) M) := by
  intro v u x y M H P Q hi rx ry h k
  obtain ⟨i, j, rfl, rfl, p⟩ := h
  cases rx; cases ry
  exact ⟨i, j, rfl, rfl, k _ H M _ hi (.refl _ _) (hg _ _ _) p⟩
theorem od_intC {c : Int → Int → Prop} {g : Int → Int → D} {gv : Int → Int → V} (hg : ∀ i j H, Rp C.K H (gv i j) (g i j)) : OpD C (rI c gv) (fun x y M P => ∃ i j, x = .int i ∧ y = .int j ∧ c i j ∧ P (g i j) M) := by
  intro v u x y M H P Q hi rx ry h k
  obtain ⟨i, j, rfl, rfl, hc, p⟩ := h
  cases rx; cases ry
  exact ⟨i, j, rfl, rfl, hc, k _ H M _ hi (.refl _ _) (hg _ _ _) p⟩
/-- a list's items: a datum, or one of the memory -/
inductive SeqL (M : Mem) : D → List D → Prop
  | lst (xs : List D) : SeqL M (.lst xs) xs
  | mem {p : Addr} {xs : List D} : M p = some (.lst xs) → SeqL M (.oth (.ref p)) xs
theorem SeqL.at {K : PySem.W.Frag} {T : List (Addr × Str)} {M : Mem} {H : Hp} {v : V} {d : D} {xs : List D} (s : SeqL M d xs) (hi : HI K T M H) (r : Rp K (sub H M) v d) : ∃ l vs, v = .ref l ∧ H l = some (.lst vs) ∧ RpA K (sub H M) vs xs := by
  cases s with
  | lst =>
    cases r with
    | lst h1 h2 => exact ⟨_, _, rfl, (sub_some h1).2, h2⟩
  | mem hp =>
    cases r
    obtain ⟨o, h1, h2⟩ := hi.mem _ _ hp
    obtain ⟨vs, rfl, h2⟩ := h2.lst
    exact ⟨_, vs, rfl, h1, h2⟩
/-- .. read alone -/
inductive SeqR (M : Mem) : D → List D → Prop
  | lst {d : D} {xs : List D} : SeqL M d xs → SeqR M d xs
  | frz (xs : List D) : SeqR M (.frz xs) xs
theorem sqL_sub {K : PySem.W.Frag} {M : Mem} {H : Hp} {a : Addr} {xs : List V} (h : SqL K (sub H M) a xs) : SqL K H a xs := by
  rcases h with (h | ⟨o, h⟩) | h
  · exact .inl (.inl (sub_some h).2)
  · exact .inl (.inr ⟨o, (sub_some h).2⟩)
  · exact .inr h
theorem sqT_sub {K : PySem.W.Frag} {M : Mem} {H : Hp} {a : Addr} {xs : List V} (h : SqT K (sub H M) a xs) : SqT K H a xs := by
  rcases h with (h | ⟨o, h⟩) | h
  · exact .inl (.inl (sub_some h).2)
  · exact .inl (.inr ⟨o, (sub_some h).2⟩)
  · exact .inr h
theorem SeqR.at {K : PySem.W.Frag} {T : List (Addr × Str)} {M : Mem} {H : Hp} {v : V} {d : D} {xs : List D} (s : SeqR M d xs) (hi : HI K T M H) (r : Rp K (sub H M) v d) : ∃ l vs, v = .ref l ∧ SqL K H l vs ∧ RpA K (sub H M) vs xs := by
  cases s with
  | lst s =>
    obtain ⟨l, vs, e, h1, h2⟩ := s.at hi r
    exact ⟨l, vs, e, SqL.of h1, h2⟩
  | frz =>
    cases r with
    | frz h1 h2 => exact ⟨_, _, rfl, sqL_sub h1, h2⟩
@[irreducible] def rdAdd (x y : D) (M : Mem) (P : PD) : Prop := match x, y with
  | .int i, .int j => P (.int (i + j)) M
  | .str s, .str t => s.length + t.length ≤ sizeLine ∧ P (.str (s ++ t)) M
  | x, y => ∃ xs ys, SeqL M x xs ∧ SeqL M y ys ∧ xs.length + ys.length ≤ sizeLine ∧ P (.lst (xs ++ ys)) M
def vAdd : R2 := fun x y H Q => (rI0 fun i j => .int (i + j)) x y H Q ∨ ((fun x y H Q => ∃ i j, x = .str i ∧ y = .str j ∧ i.length + j.length ≤ sizeLine ∧ Q (.str (i ++ j)) H) x y H Q ∨ rCat x y H Q)
theorem op_vAdd : OpR C.X (binaryOp .Add) vAdd := op_add.or (op_add_str.or op_cat)
theorem od_cat {v u : V} {x y : D} {M : Mem} {H : Hp} {P : PD} {Q : VK} (hi : HI C.K C.T M H) (rx : Rp C.K (sub H M) v x) (ry : Rp C.K (sub H M) u y)
    (h : ∃ xs ys, SeqL M x xs ∧ SeqL M y ys ∧ xs.length + ys.length ≤ sizeLine ∧ P (.lst (xs ++ ys)) M) (k : ∀ v' H' M' d, HI C.K C.T M' H' → Fr M H M' H' → Rp C.K (sub H' M') v' d → P d M' → Q v' H') : rCat v u H Q := by
  obtain ⟨xs, ys, s1, s2, hl, p⟩ := h
  obtain ⟨l, vs, rfl, h1, r1⟩ := s1.at hi rx
  obtain ⟨l2, us, rfl, h2, r2⟩ := s2.at hi ry
  exact ⟨l, l2, vs, us, rfl, rfl, h1, h2, by rw [r1.length, r2.length]; exact hl, fun q hq =>
    k _ _ M _ (hi.new hq) (fr_new hi hq) (.lst (sub_of (hi.mnone hq) upd_same) ((r1.append r2).mono (fr_new hi hq).sb)) p⟩
theorem od_add : OpD C vAdd rdAdd := by
  intro v u x y M H P Q hi rx ry h k
  unfold rdAdd at h
  split at h
  · cases rx; cases ry
    exact .inl ⟨_, _, rfl, rfl, k _ H M _ hi (.refl _ _) (.int _) h⟩
  · cases rx; cases ry
    exact .inr (.inl ⟨_, _, rfl, rfl, h.1, k _ H M _ hi (.refl _ _) (.str _) h.2⟩)
  · exact .inr (.inr (od_cat hi rx ry h k))
theorem qe_add (h : QE C a ρ M fun x M1 => QE C b ρ M1 fun y M2 => rdAdd x y M2 P) : QE C (.BinOp a .Add b pos) ρ M P := qe_op op_vAdd od_add h
theorem qe_sub (h : QE C a ρ M fun x M1 => QE C b ρ M1 fun y M2 => ∃ i j, x = .int i ∧ y = .int j ∧ P (.int (i - j)) M2) : QE C (.BinOp a .Sub b pos) ρ M P :=
  qe_op op_sub (od_int (g := fun i j => .int (i - j)) fun _ _ _ => .int _) h
@[irreducible] def rdMul (x y : D) (M : Mem) (P : PD) : Prop := match x, y with
  | .int i, .int j => (CMul i j ∨ CMulW i j) ∧ P (.int (i * j)) M
  | x, .int k => ∃ xs, SeqL M x xs ∧ -(2 ^ 63) ≤ k ∧ k < 2 ^ 63 ∧ xs.length * k.toNat ≤ sizeLine ∧ P (.lst (List.replicate k.toNat xs).flatten) M
  | _, _ => False
theorem RpA.rep {K : PySem.W.Frag} {H : Hp} {vs : List V} {ds : List D} (h : RpA K H vs ds) : ∀ k : Nat, RpA K H (List.replicate k vs).flatten (List.replicate k ds).flatten
  | 0 => .nil
  | k + 1 => by
    rw [List.replicate_succ, List.replicate_succ, List.flatten_cons, List.flatten_cons]
    exact h.append (RpA.rep h k)
theorem qe_mul (h : QE C a ρ M fun x M1 => QE C b ρ M1 fun y M2 => rdMul x y M2 P) : QE C (.BinOp a .Mult b pos) ρ M P := qe_op (op_mul.or (op_mulW.or op_rep)) (by
  intro v u x y M H P Q hi rx ry h k
  unfold rdMul at h
  split at h
  · cases rx; cases ry
    rcases h with ⟨h | h, p⟩
    · exact .inl ⟨_, _, rfl, rfl, h, k _ H M _ hi (.refl _ _) (.int _) p⟩
    · exact .inr (.inl ⟨_, _, rfl, rfl, h, k _ H M _ hi (.refl _ _) (.int _) p⟩)
  · cases ry
    obtain ⟨xs, s1, h1, h2, h3, p⟩ := h
    obtain ⟨l, vs, rfl, e1, r1⟩ := s1.at hi rx
    exact .inr (.inr ⟨l, _, vs, rfl, rfl, e1, h1, h2, by rw [r1.length]; exact h3, fun q hq =>
      k _ _ M _ (hi.new hq) (fr_new hi hq) (.lst (sub_of (hi.mnone hq) upd_same) ((r1.rep _).mono (fr_new hi hq).sb)) p⟩)
  · exact h.elim) h
theorem qe_fdiv (h : QE C a ρ M fun x M1 => QE C b ρ M1 fun y M2 => ∃ i j, x = .int i ∧ y = .int j ∧ CDiv i j ∧ P (.int (i / j)) M2) : QE C (.BinOp a .FloorDiv b pos) ρ M P :=
  qe_op op_fdiv (od_intC (g := fun i j => .int (i / j)) fun _ _ _ => .int _) h
theorem qe_mod (h : QE C a ρ M fun x M1 => QE C b ρ M1 fun y M2 => ∃ i j, x = .int i ∧ y = .int j ∧ 0 < j ∧ P (.int (i % j)) M2) : QE C (.BinOp a .Mod b pos) ρ M P :=
  qe_op op_mod (od_intC (g := fun i j => .int (i % j)) fun _ _ _ => .int _) h
theorem qe_pow (h : QE C a ρ M fun x M1 => QE C b ρ M1 fun y M2 => ∃ i j, x = .int i ∧ y = .int j ∧ CPow i j ∧ P (.int (i ^ j.toNat)) M2) : QE C (.BinOp a .Pow b pos) ρ M P :=
  qe_op op_pow (od_intC (g := fun i j => .int (i ^ j.toNat)) fun _ _ _ => .int _) h
theorem qe_neg (h : QE C a ρ M fun x M1 => ∃ i, x = .int i ∧ P (.int (-i)) M1) : QE C (.UnaryOp .USub a pos) ρ M P :=
  .of (pe_un un_neg pe_W) fun σ H S w Q k => h σ H S w _ fun v H1 M1 x hi f r ⟨i, e, p⟩ => by
    subst e
    cases r
    exact ⟨i, rfl, k _ H1 M1 _ hi f (.int _) p⟩
/-! ### comparisons -/
section
variable {PB : Bool → Mem → Prop}
abbrev rdI (p : Int → Int → Bool) : D → D → Mem → PD → Prop := fun x y M P => ∃ i j, x = .int i ∧ y = .int j ∧ P (.bl (p i j)) M
theorem od_cI {p : Int → Int → Bool} : OpD C (rI0 fun i j => .bl (p i j)) (rdI p) := od_int (g := fun i j => .bl (p i j)) fun _ _ _ => .bl _
theorem qe_lt (h : QE C a ρ M fun x M1 => QE C b ρ M1 fun y M2 => rdI (fun i j => decide (i < j)) x y M2 P) : QE C (.Compare a [.Lt] [b] pos) ρ M P := qe_cmp op_lt od_cI h (nomark _)
theorem qe_le (h : QE C a ρ M fun x M1 => QE C b ρ M1 fun y M2 => rdI (fun i j => decide (i ≤ j)) x y M2 P) : QE C (.Compare a [.LtE] [b] pos) ρ M P := qe_cmp op_le od_cI h (nomark _)
theorem qe_gt (h : QE C a ρ M fun x M1 => QE C b ρ M1 fun y M2 => rdI (fun i j => decide (j < i)) x y M2 P) : QE C (.Compare a [.Gt] [b] pos) ρ M P := qe_cmp op_gt od_cI h (nomark _)
theorem qe_ge (h : QE C a ρ M fun x M1 => QE C b ρ M1 fun y M2 => rdI (fun i j => decide (j ≤ i)) x y M2 P) : QE C (.Compare a [.GtE] [b] pos) ρ M P := qe_cmp op_ge od_cI h (nomark _)
theorem qt_lt (h : QE C a ρ M fun x M1 => QE C b ρ M1 fun y M2 => rdI (fun i j => decide (i < j)) x y M2 (isBl PB)) : QT C (.Compare a [.Lt] [b] pos) ρ M PB := qt_cmp op_lt od_cI h (nomark _)
theorem qt_le (h : QE C a ρ M fun x M1 => QE C b ρ M1 fun y M2 => rdI (fun i j => decide (i ≤ j)) x y M2 (isBl PB)) : QT C (.Compare a [.LtE] [b] pos) ρ M PB := qt_cmp op_le od_cI h (nomark _)
theorem qt_gt (h : QE C a ρ M fun x M1 => QE C b ρ M1 fun y M2 => rdI (fun i j => decide (j < i)) x y M2 (isBl PB)) : QT C (.Compare a [.Gt] [b] pos) ρ M PB := qt_cmp op_gt od_cI h (nomark _)
theorem qt_ge (h : QE C a ρ M fun x M1 => QE C b ρ M1 fun y M2 => rdI (fun i j => decide (j ≤ i)) x y M2 (isBl PB)) : QT C (.Compare a [.GtE] [b] pos) ρ M PB := qt_cmp op_ge od_cI h (nomark _)
/-! == by data -/
mutual
def toPy : D → Option PyData
  | .non => some .none
  | .bl b => some (.bool b)
  | .int i => some (.int i)
  | .str x => some (.str x)
  | .lst xs => (toPys xs).map .list
  | .frz xs => (toPys xs).map .list
  | .tup xs => (toPys xs).map .tuple
  | .oth _ => none
  | .exn _ _ _ _ => none
  | .ktp _ => none
  | .obj _ _ _ => none
  | .dct _ _ => none
def toPys : List D → Option (List PyData)
  | [] => some []
  | x :: xs => match toPy x, toPys xs with
    | some a, some as => some (a :: as)
    | _, _ => none
end
mutual
theorem dp_of {K : PySem.W.Frag} {M : Mem} {H : Hp} : ∀ {v : V} {d : D} {a : PyData}, Rp K (sub H M) v d → toPy d = some a → Dp K H v a
  | _, _, a, .non, e => by simp [toPy] at e; subst e; exact .non
  | _, _, a, .bl b, e => by simp [toPy] at e; subst e; exact .bl b
  | _, _, a, .int i, e => by simp [toPy] at e; subst e; exact .int i
  | _, _, a, .str x, e => by simp [toPy] at e; subst e; exact .str x
  | _, _, a, .oth v, e => by simp [toPy] at e
  | _, _, a, .exn h q q2 r, e => by simp [toPy] at e
  | _, _, a, .ktp h, e => by simp [toPy] at e
  | _, _, a, .obj h q q2 r, e => by simp [toPy] at e
  | _, _, a, .dct h q q2 r, e => by simp [toPy] at e
  | _, _, a, .lst (ds := ds) h r, e => by
    simp only [toPy] at e
    cases q : toPys ds with
    | none => rw [q] at e; simp at e
    | some as => rw [q] at e; simp at e; subst e; exact .lst (SqL.of (sub_some h).2) (dps_of r q)
  | _, _, a, .frz (ds := ds) h r, e => by
    simp only [toPy] at e
    cases q : toPys ds with
    | none => rw [q] at e; simp at e
    | some as => rw [q] at e; simp at e; subst e; exact .lst (sqL_sub h) (dps_of r q)
  | _, _, a, .tup (ds := ds) h r, e => by
    simp only [toPy] at e
    cases q : toPys ds with
    | none => rw [q] at e; simp at e
    | some as => rw [q] at e; simp at e; subst e; exact .tup (sqT_sub h) (dps_of r q)
theorem dps_of {K : PySem.W.Frag} {M : Mem} {H : Hp} : ∀ {vs : List V} {ds : List D} {as : List PyData}, RpA K (sub H M) vs ds → toPys ds = some as → DpAll K H vs as
  | _, _, as, .nil, e => by simp [toPys] at e; subst e; exact .nil
  | _, _, as, .cons (d := d) (ds := ds) r rs, e => by
    simp only [toPys] at e
    cases q : toPy d with
    | none => rw [q] at e; simp at e
    | some a =>
      cases q2 : toPys ds with
      | none => rw [q, q2] at e; simp at e
      | some as2 => rw [q, q2] at e; simp at e; subst e; exact .cons (dp_of r q) (dps_of rs q2)
end
@[irreducible] def rdEq (x y : D) (M : Mem) (P : PD) : Prop := match x, y with
  | .int i, .int j => P (.bl (decide (i = j))) M
  | .str i, .str j => P (.bl (decide (i = j))) M
  | .bl i, .bl j => P (.bl (decide (i = j))) M
  | x, y => ∃ c d, toPy x = some c ∧ toPy y = some d ∧ SeqAt.shaped c = true ∧ SeqAt.shaped d = true ∧ P (.bl (PyData.eqv c d)) M
@[irreducible] def rdNe (x y : D) (M : Mem) (P : PD) : Prop := rdEq x y M fun d M' => ∃ k, d = .bl k ∧ P (.bl (!k)) M'
theorem od_eq : OpD C (fun x y H Q => rEq x y H Q ∨ rEqD C.K x y H Q) rdEq := by
  intro v u x y M H P Q hi rx ry h k
  unfold rdEq at h
  split at h
  · cases rx; cases ry
    refine .inl ⟨rfl, ?_⟩
    rw [dec_int, Bool.beq_eq_decide_eq]
    exact k _ H M _ hi (.refl _ _) (.bl _) h
  · cases rx; cases ry
    refine .inl ⟨rfl, ?_⟩
    rw [dec_str, Bool.beq_eq_decide_eq]
    exact k _ H M _ hi (.refl _ _) (.bl _) h
  · cases rx; cases ry
    refine .inl ⟨rfl, ?_⟩
    rw [dec_bl, Bool.beq_eq_decide_eq]
    exact k _ H M _ hi (.refl _ _) (.bl _) h
  · obtain ⟨c, d, h1, h2, h3, h4, p⟩ := h
    exact .inr ⟨c, d, dp_of rx h1, dp_of ry h2, h3, h4, k _ H M _ hi (.refl _ _) (.bl _) p⟩
theorem od_ne : OpD C (fun x y H Q => rNe x y H Q ∨ rNeD C.K x y H Q) rdNe := by
  intro v u x y M H P Q hi rx ry h k
  unfold rdNe rdEq at h
  split at h
  · cases rx; cases ry
    refine .inl ⟨rfl, ?_⟩
    obtain ⟨b, e, p⟩ := h
    cases e
    rw [dec_int, Bool.beq_eq_decide_eq]
    exact k _ H M _ hi (.refl _ _) (.bl _) p
  · cases rx; cases ry
    refine .inl ⟨rfl, ?_⟩
    obtain ⟨b, e, p⟩ := h
    cases e
    rw [dec_str, Bool.beq_eq_decide_eq]
    exact k _ H M _ hi (.refl _ _) (.bl _) p
  · cases rx; cases ry
    refine .inl ⟨rfl, ?_⟩
    obtain ⟨b, e, p⟩ := h
    cases e
    rw [dec_bl, Bool.beq_eq_decide_eq]
    exact k _ H M _ hi (.refl _ _) (.bl _) p
  · obtain ⟨c, d, h1, h2, h3, h4, b, e, p⟩ := h
    cases e
    exact .inr ⟨c, d, dp_of rx h1, dp_of ry h2, h3, h4, k _ H M _ hi (.refl _ _) (.bl _) p⟩
theorem Cq.un (C : Cq) (hc : C.X.calm = true) : C.X.A.units + 64 < cLine := (C.room hc).units
theorem qe_eq (h : QE C a ρ M fun x M1 => QE C b ρ M1 fun y M2 => rdEq x y M2 P) (hc : C.X.calm = true := by rfl) : QE C (.Compare a [.Eq] [b] pos) ρ M P := qe_cmp (op_eq.or (op_eqD (C.un hc))) od_eq h (nomark _)
theorem qt_eq (h : QE C a ρ M fun x M1 => QE C b ρ M1 fun y M2 => rdEq x y M2 (isBl PB)) (hc : C.X.calm = true := by rfl) : QT C (.Compare a [.Eq] [b] pos) ρ M PB := qt_cmp (op_eq.or (op_eqD (C.un hc))) od_eq h (nomark _)
theorem qe_ne (h : QE C a ρ M fun x M1 => QE C b ρ M1 fun y M2 => rdNe x y M2 P) (hc : C.X.calm = true := by rfl) : QE C (.Compare a [.NotEq] [b] pos) ρ M P := qe_cmp (op_ne.or (op_neD (C.un hc))) od_ne h (nomark _)
theorem qt_ne (h : QE C a ρ M fun x M1 => QE C b ρ M1 fun y M2 => rdNe x y M2 (isBl PB)) (hc : C.X.calm = true := by rfl) : QT C (.Compare a [.NotEq] [b] pos) ρ M PB := qt_cmp (op_ne.or (op_neD (C.un hc))) od_ne h (nomark _)
/-- is None, is True, is False -/
def D.isNon : D → Bool
  | .non => true
  | _ => false
@[irreducible] def rdIs (x y : D) (M : Mem) (P : PD) : Prop := match x, y with
  | .bl i, .bl j => P (.bl (decide (i = j))) M
  | .oth _, .non => False
  | x, .non => P (.bl x.isNon) M
  | _, _ => False
theorem isNon_of {K : PySem.W.Frag} {H : Hp} {v : V} {x : D} (r : Rp K H v x) (h : ∀ v, x ≠ .oth v) : decide (v = .non) = x.isNon := by
  cases r <;> first | rfl | exact absurd rfl (h _)
theorem od_is : OpD C (fun x y H Q => (fun x y H Q => y = .non ∧ Q (.bl (decide (x = .non))) H) x y H Q ∨ rIsB x y H Q) rdIs := by
  intro v u x y M H P Q hi rx ry h k
  unfold rdIs at h
  split at h
  · cases rx; cases ry
    exact .inr ⟨_, _, rfl, rfl, k _ H M _ hi (.refl _ _) (.bl _) h⟩
  · exact h.elim
  · rename_i hne
    cases ry
    refine .inl ⟨rfl, ?_⟩
    rw [isNon_of rx (fun v e => hne v e)]
    exact k _ H M _ hi (.refl _ _) (.bl _) h
  · exact h.elim
theorem od_isnot : OpD C (fun x y H Q => (fun x y H Q => y = .non ∧ Q (.bl (!decide (x = .non))) H) x y H Q ∨ rNotB x y H Q) (fun x y M P => rdIs x y M fun d M' => ∃ k, d = .bl k ∧ P (.bl (!k)) M') := by
  intro v u x y M H P Q hi rx ry h k
  unfold rdIs at h
  split at h
  · cases rx; cases ry
    obtain ⟨b, e, p⟩ := h
    cases e
    exact .inr ⟨_, _, rfl, rfl, k _ H M _ hi (.refl _ _) (.bl _) p⟩
  · exact h.elim
  · rename_i hne
    cases ry
    obtain ⟨b, e, p⟩ := h
    cases e
    refine .inl ⟨rfl, ?_⟩
    rw [isNon_of rx (fun v e => hne v e)]
    exact k _ H M _ hi (.refl _ _) (.bl _) p
  · exact h.elim
theorem qe_is (h : QE C a ρ M fun x M1 => QE C b ρ M1 fun y M2 => rdIs x y M2 P) : QE C (.Compare a [.Is] [b] pos) ρ M P := qe_cmp (op_isN.or op_isBl) od_is h (nomark _)
theorem qt_is (h : QE C a ρ M fun x M1 => QE C b ρ M1 fun y M2 => rdIs x y M2 (isBl PB)) : QT C (.Compare a [.Is] [b] pos) ρ M PB := qt_cmp (op_isN.or op_isBl) od_is h (nomark _)
theorem qe_isnot (h : QE C a ρ M fun x M1 => QE C b ρ M1 fun y M2 => rdIs x y M2 fun d M' => ∃ k, d = .bl k ∧ P (.bl (!k)) M') : QE C (.Compare a [.IsNot] [b] pos) ρ M P := qe_cmp (op_notN.or op_notBl) od_isnot h (nomark _)
theorem qt_isnot (h : QE C a ρ M fun x M1 => QE C b ρ M1 fun y M2 => rdIs x y M2 fun d M' => ∃ k, d = .bl k ∧ isBl PB (.bl (!k)) M') : QT C (.Compare a [.IsNot] [b] pos) ρ M PB := qt_cmp (op_notN.or op_notBl) od_isnot h (nomark _)
/-- a <= b <= c of ints -/
theorem ev_chain {ta tb tc : TE} {p q : Int → Int → Bool} (h : EvQ C ta ρ M fun x M1 => EvQ C tb ρ M1 fun y M2 => ∃ i j, x = .int i ∧ y = .int j ∧ (p i j = true → EvQ C tc ρ M2 fun z M3 => ∃ l, z = .int l ∧ P (.bl (q j l)) M3) ∧ (p i j = false → P (.bl false) M2)) :
    EvQ C (fun σ H Q => tChain (rI0 fun i j => .bl (p i j)) (rI0 fun i j => .bl (q i j)) ta tb tc σ H Q) ρ M P := fun σ H S w Q k => h σ H S w _ fun v H1 M1 x hi f rx h1 => h1 σ H1 (S.fr f hi) (w.fr f) _ fun u H2 M2 y hi2 f2 ry ⟨i, j, ex, ey, ht, hf⟩ => by
  subst ex ey
  cases rx; cases ry
  refine ⟨i, j, rfl, rfl, p i j, rfl, ?_⟩
  cases e : p i j with
  | true =>
    rw [if_pos rfl]
    refine ht e σ H2 ((S.fr f hi).fr f2 hi2) ((w.fr f).fr f2) _ fun t H3 M3 z hi3 f3 rz ⟨l, ez, pl⟩ => ?_
    subst ez
    cases rz
    exact ⟨j, l, rfl, rfl, k _ H3 M3 _ hi3 ((f.trans f2).trans f3) (.bl _) pl⟩
  | false =>
    rw [if_neg Bool.false_ne_true]
    exact k _ H2 M2 _ hi2 (f.trans f2) (.bl _) (hf e)
end
end
end Q
namespace Q
open PySem PySem.Spec PyProof.Rows L2 LamX NdefX
section
variable {C : Cq} {e a b c : Expr} {ρ : DEnv} {M : Mem} {P : PD} {PB : Bool → Mem → Prop} {pos : Pos} {rest : List Expr}
/-! ### chains, and, or, not, if-expressions -/
abbrev chD (C : Cq) (p q : Int → Int → Bool) (a b c : Expr) (ρ : DEnv) (M : Mem) (P : PD) : Prop :=
  QE C a ρ M fun x M1 => QE C b ρ M1 fun y M2 => ∃ i j, x = .int i ∧ y = .int j ∧ (p i j = true → QE C c ρ M2 fun z M3 => ∃ l, z = .int l ∧ P (.bl (q j l)) M3) ∧ (p i j = false → P (.bl false) M2)
theorem ch_run {p q : Int → Int → Bool} (h : chD C p q a b c ρ M P) : EvQ C (WE C.X a) ρ M fun x M1 => EvQ C (WE C.X b) ρ M1 fun y M2 => ∃ i j, x = .int i ∧ y = .int j ∧ (p i j = true → EvQ C (WE C.X c) ρ M2 fun z M3 => ∃ l, z = .int l ∧ P (.bl (q j l)) M3) ∧ (p i j = false → P (.bl false) M2) :=
  q2 (h.imp fun _ _ q => q.imp fun _ _ ⟨i, j, e1, e2, h1, h2⟩ => ⟨i, j, e1, e2, fun z => (h1 z).run, h2⟩)
theorem qe_chain {op op' : CmpOp} {p q : Int → Int → Bool} (ho : OpR C.X (compareOp op) (rI0 fun i j => .bl (p i j))) (ho' : OpR C.X (compareOp op') (rI0 fun i j => .bl (q i j))) (h : chD C p q a b c ρ M P)
    (hm : lastMarks [op, op'] [b, c] = false := by with_unfolding_all rfl) : QE C (.Compare a [op, op'] [b, c] pos) ρ M P := .of (pe_chain ho ho' pe_W pe_W pe_W hm) (ev_chain (ch_run h))
theorem qt_chain {op op' : CmpOp} {p q : Int → Int → Bool} (ho : OpR C.X (compareOp op) (rI0 fun i j => .bl (p i j))) (ho' : OpR C.X (compareOp op') (rI0 fun i j => .bl (q i j))) (h : chD C p q a b c ρ M (isBl PB))
    (hm : lastMarks [op, op'] [b, c] = false := by with_unfolding_all rfl) : QT C (.Compare a [op, op'] [b, c] pos) ρ M PB := .of (pt_chain ho ho' pe_W pe_W pe_W hm) (tv_test (ev_chain (ch_run h)))
theorem qe_lele (h : chD C (fun i j => decide (i ≤ j)) (fun i j => decide (i ≤ j)) a b c ρ M P) (hm : lastMarks [.LtE, .LtE] [b, c] = false := by with_unfolding_all rfl) : QE C (.Compare a [.LtE, .LtE] [b, c] pos) ρ M P := qe_chain op_le op_le h hm
theorem qt_lele (h : chD C (fun i j => decide (i ≤ j)) (fun i j => decide (i ≤ j)) a b c ρ M (isBl PB)) (hm : lastMarks [.LtE, .LtE] [b, c] = false := by with_unfolding_all rfl) : QT C (.Compare a [.LtE, .LtE] [b, c] pos) ρ M PB := qt_chain op_le op_le h hm
theorem qe_lelt (h : chD C (fun i j => decide (i ≤ j)) (fun i j => decide (i < j)) a b c ρ M P) (hm : lastMarks [.LtE, .Lt] [b, c] = false := by with_unfolding_all rfl) : QE C (.Compare a [.LtE, .Lt] [b, c] pos) ρ M P := qe_chain op_le op_lt h hm
theorem qt_lelt (h : chD C (fun i j => decide (i ≤ j)) (fun i j => decide (i < j)) a b c ρ M (isBl PB)) (hm : lastMarks [.LtE, .Lt] [b, c] = false := by with_unfolding_all rfl) : QT C (.Compare a [.LtE, .Lt] [b, c] pos) ρ M PB := qt_chain op_le op_lt h hm
theorem qe_one {op : BoolOp} (h : QE C a ρ M P) : QE C (.BoolOp op [a] pos) ρ M P := .of (pe_one pe_W) h
theorem qe_and (h : QE C a ρ M fun x M1 => ∃ k, x = .bl k ∧ (k = true → QE C (.BoolOp .And (b :: rest) pos) ρ M1 P) ∧ (k = false → P (.bl false) M1)) : QE C (.BoolOp .And (a :: b :: rest) pos) ρ M P :=
  .of (pe_and pe_W pe_W) fun σ H S w Q k => h σ H S w _ fun v H1 M1 d hi f r ⟨b, e, h1, h2⟩ => by
    subst e; cases r
    refine ⟨b, rfl, ?_⟩
    cases b with
    | true => rw [if_pos rfl]; exact h1 rfl σ H1 (S.fr f hi) (w.fr f) _ fun v' H' M' d hi' f' r p => k v' H' M' d hi' (f.trans f') r p
    | false => rw [if_neg Bool.false_ne_true]; exact k _ H1 M1 _ hi f (.bl _) (h2 rfl)
theorem qe_or (h : QE C a ρ M fun x M1 => ∃ k, x = .bl k ∧ (k = true → P (.bl true) M1) ∧ (k = false → QE C (.BoolOp .Or (b :: rest) pos) ρ M1 P)) : QE C (.BoolOp .Or (a :: b :: rest) pos) ρ M P :=
  .of (pe_or pe_W pe_W) fun σ H S w Q k => h σ H S w _ fun v H1 M1 d hi f r ⟨b, e, h1, h2⟩ => by
    subst e; cases r
    refine ⟨b, rfl, ?_⟩
    cases b with
    | true => rw [if_pos rfl]; exact k _ H1 M1 _ hi f (.bl _) (h1 rfl)
    | false => rw [if_neg Bool.false_ne_true]; exact h2 rfl σ H1 (S.fr f hi) (w.fr f) _ fun v' H' M' d hi' f' r p => k v' H' M' d hi' (f.trans f') r p
theorem qe_not (h : QE C a ρ M fun x M1 => ∃ k, x = .bl k ∧ P (.bl (!k)) M1) : QE C (.UnaryOp .Not a pos) ρ M P :=
  .of (pe_not pe_W) fun σ H S w Q k => h σ H S w _ fun v H1 M1 d hi f r ⟨b, e, h1⟩ => by
    subst e; cases r
    exact ⟨b, rfl, k _ H1 M1 _ hi f (.bl _) h1⟩
theorem qw_and1 (h : QT C a ρ M PB) : QW C (.BoolOp .And [a] pos) ρ M PB := .of (pw_and1 pt_W) h
theorem qw_or1 (h : QT C a ρ M PB) : QW C (.BoolOp .Or [a] pos) ρ M PB := .of (pw_or1 pt_W) h
theorem qw_and (h : QT C a ρ M fun k M1 => (k = true → QW C (.BoolOp .And (b :: rest) pos) ρ M1 PB) ∧ (k = false → PB false M1)) : QW C (.BoolOp .And (a :: b :: rest) pos) ρ M PB :=
  .of (pw_and pt_W pw_W) fun σ H S w Q k => h σ H S w _ fun b H1 M1 hi f ⟨h1, h2⟩ => by
    cases b with
    | true => rw [if_pos rfl]; exact h1 rfl σ H1 (S.fr f hi) (w.fr f) _ fun v' H' M' hi' f' p => k v' H' M' hi' (f.trans f') p
    | false => rw [if_neg Bool.false_ne_true]; exact k _ H1 M1 hi f (h2 rfl)
theorem qw_or (h : QT C a ρ M fun k M1 => (k = true → PB true M1) ∧ (k = false → QW C (.BoolOp .Or (b :: rest) pos) ρ M1 PB)) : QW C (.BoolOp .Or (a :: b :: rest) pos) ρ M PB :=
  .of (pw_or pt_W pw_W) fun σ H S w Q k => h σ H S w _ fun b H1 M1 hi f ⟨h1, h2⟩ => by
    cases b with
    | true => rw [if_pos rfl]; exact k _ H1 M1 hi f (h1 rfl)
    | false => rw [if_neg Bool.false_ne_true]; exact h2 rfl σ H1 (S.fr f hi) (w.fr f) _ fun v' H' M' hi' f' p => k v' H' M' hi' (f.trans f') p
theorem qt_and (h : QT C a ρ M fun k M1 => (k = true → QW C (.BoolOp .And (b :: rest) pos) ρ M1 PB) ∧ (k = false → PB false M1)) : QT C (.BoolOp .And (a :: b :: rest) pos) ρ M PB := (qw_and h).qt
theorem qt_or (h : QT C a ρ M fun k M1 => (k = true → PB true M1) ∧ (k = false → QW C (.BoolOp .Or (b :: rest) pos) ρ M1 PB)) : QT C (.BoolOp .Or (a :: b :: rest) pos) ρ M PB := (qw_or h).qt
theorem qt_not (h : QT C a ρ M fun k M1 => PB (!k) M1) : QT C (.UnaryOp .Not a pos) ρ M PB := .of (pt_not pt_W) fun σ H S w Q k => h σ H S w _ fun b H1 M1 hi f p => k _ H1 M1 hi f p
/-- a value's truth -/
def truD (M : Mem) : D → Option Bool
  | .non => some false
  | .bl b => some b
  | .int i => some (i != 0)
  | .lst xs => some (!xs.isEmpty)
  | .frz xs => some (!xs.isEmpty)
  | .tup xs => some (!xs.isEmpty)
  | .oth (.ref p) => match M p with
    | some (.lst xs) => some (!xs.isEmpty)
    | some (.dK xs) => some (!xs.isEmpty)
    | some (.dT _) => none
    | some (.ins _ _) => none
    | none => none
  | _ => none
theorem isEmpty_rp {K : PySem.W.Frag} {H : Hp} {vs : List V} {ds : List D} (h : RpA K H vs ds) : vs.isEmpty = ds.isEmpty := by
  cases h <;> rfl
theorem tru_of {K : PySem.W.Frag} {T : List (Addr × Str)} {H : Hp} {v : V} {d : D} {b : Bool} (hi : HI K T M H) (r : Rp K (sub H M) v d) (h : truD M d = some b) : TruV K v H b := by
  cases r with
  | non => have : b = false := by simpa [truD] using h.symm
           exact this
  | bl x => have : b = x := by simpa [truD] using h.symm
            exact this
  | int i => have : b = (i != 0) := by simpa [truD] using h.symm
             exact this
  | str x => simp [truD] at h
  | exn h1 h2 h3 h4 => simp [truD] at h
  | ktp h1 => simp [truD] at h
  | obj h1 h2 h3 h4 => simp [truD] at h
  | dct h1 h2 h3 h4 => simp [truD] at h
  | lst h1 h2 => exact .inl ⟨_, SqL.of (sub_some h1).2, by rw [isEmpty_rp h2]; simpa [truD] using h.symm⟩
  | frz h1 h2 => exact .inl ⟨_, sqL_sub h1, by rw [isEmpty_rp h2]; simpa [truD] using h.symm⟩
  | tup h1 h2 => exact .inr (.inl ⟨_, sqT_sub h1, by rw [isEmpty_rp h2]; simpa [truD] using h.symm⟩)
  | oth v =>
    cases v with
    | ref p =>
      simp only [truD] at h
      cases e : M p with
      | none => rw [e] at h; cases h
      | some m =>
        rw [e] at h
        obtain ⟨o, h1, h2⟩ := hi.mem p m e
        cases m with
        | lst xs =>
          obtain ⟨vs, rfl, h2⟩ := h2.lst
          exact .inl ⟨_, SqL.of h1, by rw [isEmpty_rp h2]; simpa using h.symm⟩
        | dK xs =>
          obtain ⟨vs, rfl, h2, h3⟩ := h2.dK
          refine .inr (.inr ⟨_, h1, ?_⟩)
          have e2 : vs.isEmpty = xs.isEmpty := by
            have := congrArg List.length h2
            simp only [List.length_map] at this
            cases vs <;> cases xs <;> simp_all
          rw [e2]
          simpa using h.symm
        | dT xs => simp at h
        | ins c xs => simp at h
    | _ => simp [truD] at h
theorem qt_tru (h : QE C e ρ M fun d M1 => ∃ b, truD M1 d = some b ∧ PB b M1) (he : ∀ whole, isTrue e C.X.env whole = (do let v ← whole; standAt e.pos; holding [v] (truthy v)) := by intro _; rfl) : QT C e ρ M PB :=
  .of (pt_truth pe_W he) fun σ H S w Q k => h σ H S w _ fun v H1 M1 d hi f r ⟨b, e, p⟩ => ⟨b, tru_of hi r e, k b H1 M1 hi f p⟩
theorem qe_if (h : QT C c ρ M fun k M1 => (k = true → QE C a ρ M1 P) ∧ (k = false → QE C b ρ M1 P)) : QE C (.IfExp c a b pos) ρ M P :=
  .of (pe_ifExp pt_W pe_W pe_W) fun σ H S w Q k => h σ H S w _ fun t H1 M1 hi f ⟨h1, h2⟩ => by
    cases t with
    | true => rw [if_pos rfl]; exact h1 rfl σ H1 (S.fr f hi) (w.fr f) _ fun v' H' M' d hi' f' r p => k v' H' M' d hi' (f.trans f') r p
    | false => rw [if_neg Bool.false_ne_true]; exact h2 rfl σ H1 (S.fr f hi) (w.fr f) _ fun v' H' M' d hi' f' r p => k v' H' M' d hi' (f.trans f') r p

/-! ### subscripts, slices -/
theorem atI_rp {K : PySem.W.Frag} {H : Hp} {vs : List V} {ds : List D} {i : Int} {d : D} (r : RpA K H vs ds) (h : atI ds i = some d) : ∃ v, atI vs i = some v ∧ Rp K H v d := by
  unfold atI at h ⊢
  rw [r.length]
  cases e : ixN ds.length i with
  | none => rw [e] at h; cases h
  | some j => rw [e] at h; exact r.get h
@[irreducible] def rdIx (x y : D) (M : Mem) (P : PD) : Prop := match x, y with
  | .tup xs, .int i => ∃ d, atI xs i = some d ∧ P d M
  | .str z, .int i => z.length ≤ sizeLine ∧ ∃ c, atI z.cps.toList i = some c ∧ P (.str ⟨#[c]⟩) M
  | x, .int i => ∃ xs, SeqR M x xs ∧ ∃ d, atI xs i = some d ∧ P d M
  | _, _ => False
theorem od_ix : OpD C (rIx C.K) rdIx := by
  intro v u x y M H P Q hi rx ry h k
  unfold rdIx at h
  split at h
  · cases ry
    obtain ⟨d, h1, p⟩ := h
    cases rx with
    | tup h2 h3 =>
      obtain ⟨w, e, r⟩ := atI_rp h3 h1
      exact .inr (.inl ⟨_, _, _, w, rfl, rfl, sqT_sub h2, e, k w H M d hi (.refl _ _) r p⟩)
  · cases rx; cases ry
    obtain ⟨h1, c, h2, p⟩ := h
    exact .inr (.inr ⟨_, _, c, rfl, rfl, h1, h2, k _ H M _ hi (.refl _ _) (.str _) p⟩)
  · cases ry
    obtain ⟨xs, s, d, h1, p⟩ := h
    obtain ⟨l, vs, rfl, h2, h3⟩ := s.at hi rx
    obtain ⟨w, e, r⟩ := atI_rp h3 h1
    exact .inl ⟨_, _, _, w, rfl, rfl, h2, e, k w H M d hi (.refl _ _) r p⟩
  · exact h.elim
theorem qe_ix (h : QE C a ρ M fun x M1 => QE C b ρ M1 fun y M2 => rdIx x y M2 P) (hs : PlainIx b := by exact fun _ _ => rfl) : QE C (.Subscript a b pos) ρ M P :=
  .of (pe_ix ix_seq pe_W pe_W hs) (ev_op od_ix (q2 h))
/-- the items of a slice -/
def cutD {α : Type} (xs : List α) (lo hi : Option Int) : List α := (xs.drop (HT.sIx xs.length 0 lo)).take (HT.sIx xs.length xs.length hi - HT.sIx xs.length 0 lo)
def QP (C : Cq) (e : Option Expr) (ρ : DEnv) (M : Mem) (P : Option Int → Mem → Prop) : Prop := match e with
  | none => P none M
  | some e => QE C e ρ M fun d M1 => ∃ i, d = .int i ∧ P (some i) M1
theorem qe_slice {lo hi : Option Expr} {p2 : Pos} (h : QE C a ρ M fun x M1 => QP C lo ρ M1 fun l M2 => QP C hi ρ M2 fun u M3 => ∃ xs, SeqR M3 x xs ∧ P (.lst (cutD xs l u)) M3) :
    QE C (.Subscript a (.Slice lo hi none p2) pos) ρ M P := by
  have po : ∀ (o : Option Expr), ∃ t, PO C.X o t ∧ ∀ ρ M (P : Option Int → Mem → Prop), QP C o ρ M P → ∀ σ H, SI C.K C.T C.Z ρ M σ H → WOk C M H → ∀ Q : Option Int → Hp → Prop, (∀ i H' M', HI C.K C.T M' H' → Fr M H M' H' → P i M' → Q i H') → t σ H Q := by
    intro o
    cases o with
    | none => exact ⟨_, po_none, fun ρ M P h σ H S w Q k => k none H M S.hi (.refl _ _) h⟩
    | some e => exact ⟨_, po_some pe_W, fun ρ M P h σ H S w Q k => (show QE C e ρ M _ from h).run σ H S w _ fun v H1 M1 d hi f r ⟨i, e, p⟩ => by
        subst e; cases r
        exact ⟨i, rfl, k _ H1 M1 hi f p⟩⟩
  obtain ⟨tl, pl, ql⟩ := po lo
  obtain ⟨th, ph, qh⟩ := po hi
  refine .of (pe_slice sl_list pe_W pl ph) fun σ H S w Q k => h σ H S w _ fun v H1 M1 x hi1 f rx h1 => ql _ _ _ h1 σ H1 (S.fr f hi1) (w.fr f) _ fun l H2 M2 hi2 f2 h2 =>
    qh _ _ _ h2 σ H2 ((S.fr f hi1).fr f2 hi2) ((w.fr f).fr f2) _ fun u H3 M3 hi3 f3 ⟨xs, s, p⟩ => ?_
  obtain ⟨a, vs, rfl, e1, e2⟩ := s.at hi3 (rx.mono (f2.trans f3).sb)
  refine ⟨a, vs, rfl, e1, fun q hq => k _ _ M3 _ (hi3.new hq) (((f.trans f2).trans f3).trans (fr_new hi3 hq)) (.lst (sub_of (hi3.mnone hq) upd_same) ?_) p⟩
  unfold cutV cutD
  rw [e2.length]
  exact ((e2.drop _).take _).mono (fr_new hi3 hq).sb

/-! ### statements -/
variable {E : DE} {st : Stmt} {sts : List Stmt}
theorem qss_nil (h : E.nx ρ M) : QSs C [] ρ M E := .of pss_nil fun σ H S w De k => k.nx ρ M σ H S (.refl _ _) h
theorem qss_cons (h : QS C st ρ M { E with nx := fun ρ' M' => QSs C sts ρ' M' E }) : QSs C (st :: sts) ρ M E :=
  .of (pss_cons ps_W pss_W) fun σ H S w De k => h σ H S w _ ⟨fun ρ' M' σ' H' S' f q => q σ' H' S' (w.fr f) De (k.fr f), k.rt, k.bk, k.ct⟩
theorem qss_one (h : QS C st ρ M E) : QSs C [st] ρ M E := .of (pss_one ps_W) h
theorem qs_ret (h : QE C e ρ M E.rt) : QS C (.Return (some e) pos) ρ M E := .of (ps_ret pe_W) fun σ H S w De k => h σ H S w _ fun v H' M' d hi f r p => k.rt v H' M' d hi f r p
theorem qs_retN (h : E.rt .non M) : QS C (.Return none pos) ρ M E := .of ps_retN fun σ H S w De k => k.rt .non H M .non S.hi (.refl _ _) .non h
theorem qs_pass (h : E.nx ρ M) : QS C (.Pass pos) ρ M E := .of ps_pass fun σ H S w De k => k.nx ρ M σ H S (.refl _ _) h
theorem qs_break (h : E.bk ρ M) : QS C (.Break pos) ρ M E := .of ps_break fun σ H S w De k => k.bk ρ M σ H S (.refl _ _) h
theorem qs_continue (h : E.ct ρ M) : QS C (.Continue pos) ρ M E := .of ps_continue fun σ H S w De k => k.ct ρ M σ H S (.refl _ _) h
theorem qs_expr (h : QE C e ρ M fun _ M' => E.nx ρ M') (hs : swapsWith e none pos.line C.X.env = pure false := by rfl) : QS C (.Expr e pos) ρ M E :=
  .of (ps_expr pe_W hs) fun σ H S w De k => h σ H S w _ fun v H' M' d hi f r p => k.nx ρ M' σ H' (S.fr f hi) f p
theorem qs_if {ss ts : List Stmt} (h : QT C c ρ M fun k M1 => (k = true → QSs C ss ρ M1 E) ∧ (k = false → QSs C ts ρ M1 E)) : QS C (.If c ss ts pos) ρ M E :=
  .of (ps_if pt_W pss_W pss_W) fun σ H S w De k => h σ H S w _ fun t H1 M1 hi f ⟨h1, h2⟩ => by
    cases t with
    | true => rw [if_pos rfl]; exact h1 rfl σ H1 (S.fr f hi) (w.fr f) _ (k.fr f)
    | false => rw [if_neg Bool.false_ne_true]; exact h2 rfl σ H1 (S.fr f hi) (w.fr f) _ (k.fr f)
theorem qs_set {x : Str} {pos' : Pos} (i : Nat) (hi : C.X.N[i]? = some x) (hx : Loc C.X.env.scope x) (h : QE C e ρ M fun d M' => E.nx (ρ.set i (some d)) M')
    (hs : swapsWith e (some (.Name x pos')) pos.line C.X.env = pure false := by rfl) (hf : C.X.fn x = true ∨ C.X.env.scope.names.lookup x = some .local := by first | exact .inl rfl | exact .inr rfl) : QS C (.Assign [.Name x pos'] e pos) ρ M E :=
  .of (ps_set C.nd hi hx pe_W hs hf) fun σ H S w De k => h σ H S w _ fun v H' M' d hi f r p => k.nx _ M' _ H' ((S.fr f hi).set r i) f p
theorem qg_name {x : Str} {d : D} {N : DEnv → Mem → Prop} (i : Nat) (hi : C.X.N[i]? = some x) (hx : Loc C.X.env.scope x) (h : N (ρ.set i (some d)) M)
    (hf : C.X.fn x = true ∨ C.X.env.scope.names.lookup x = some .local := by first | exact .inl rfl | exact .inr rfl) : QG C (.Name x pos) ρ M d N :=
  .of (pg_name C.nd hi hx hf) fun σ H v S w r Q k => k _ M _ H (S.set r i) (.refl _ _) h
/-- several targets -/
structure QGs (C : Cq) (ts : List Expr) (ρ : DEnv) (M : Mem) (xs : List D) (N : DEnv → Mem → Prop) : Prop where
  ex : ∃ t, PGs C.X ts t ∧ ∀ σ H vs, SI C.K C.T C.Z ρ M σ H → WOk C M H → RpA C.K (sub H M) vs xs → ∀ Q : L2.St → Hp → Prop,
  (∀ ρ' M' σ' H', SI C.K C.T C.Z ρ' M' σ' H' → Fr M H M' H' → N ρ' M' → Q σ' H') → t vs σ H Q
theorem qgs_nil {N : DEnv → Mem → Prop} (h : N ρ M) : QGs C [] ρ M [] N := ⟨_, pgs_nil, fun σ H vs S w r Q k => by
  cases r
  exact ⟨rfl, k ρ M σ H S (.refl _ _) h⟩⟩
/-- a name, then the others -/
theorem qgs_name {x : Str} {d : D} {ds : List D} {ts : List Expr} {N : DEnv → Mem → Prop} (i : Nat) (hi : C.X.N[i]? = some x) (hx : Loc C.X.env.scope x) (h : QGs C ts (ρ.set i (some d)) M ds N)
    (hf : C.X.fn x = true ∨ C.X.env.scope.names.lookup x = some .local := by first | exact .inl rfl | exact .inr rfl)
    (hs : (assignEach (.Name x pos :: ts) C.X.env).map (·.2) = assign (.Name x pos) C.X.env :: (assignEach ts C.X.env).map (·.2) := by rfl) : QGs C (.Name x pos :: ts) ρ M (d :: ds) N := by
  obtain ⟨t, h1, h2⟩ := h.ex
  refine ⟨_, pgs_cons (pg_name C.nd hi hx hf) h1 hs, fun σ H vs S w r Q k => ?_⟩
  cases r with
  | cons r rs => exact ⟨_, _, rfl, h2 _ H _ (S.set r i) w rs Q k⟩
theorem qg_tup {es : List Expr} {x : Nat} {ds : List D} {N : DEnv → Mem → Prop} (h : QGs C es ρ M ds N) (hc : C.X.calm = true := by rfl) (hn : (assignEach es C.X.env).length = ds.length := by rfl) (hst : (assignEach es C.X.env).findIdx? (·.1) = none := by rfl) :
    QG C (.Tuple es x pos) ρ M (.tup ds) N := by
  obtain ⟨t, h1, h2⟩ := h.ex
  refine .of (pg_tup hc h1 hn hst) fun σ H v S w r Q k => ?_
  cases r with
  | tup h3 h4 => exact ⟨_, _, rfl, sqT_sub h3, h4.length, h2 σ H _ S w h4 Q k⟩
/-- any target -/
theorem qs_asg {tg : Expr} (h : QE C e ρ M fun d M' => QG C tg ρ M' d E.nx) (hs : swapsWithSole [tg] e pos.line C.X.env = pure false := by rfl) (hw : swappedStores [tg] e C.X.env = pure none := by rfl)
    (h1 : (assignEach [tg] C.X.env).map (·.2) = [assign tg C.X.env] := by rfl) : QS C (.Assign [tg] e pos) ρ M E :=
  .of (ps_asg pe_W pg_W hs hw h1) fun σ H S w De k => h σ H S w _ fun v H' M' d hi f r p => p σ H' v (S.fr f hi) (w.fr f) r _ fun ρ' M2 σ' H2 S2 f2 q => k.nx ρ' M2 σ' H2 S2 (f.trans f2) q
/-- a, b = x, y -/
theorem qs_par {x y : Str} {px py pt : Pos} {kt k2 : Nat} {pt2 : Pos} (i j : Nat) (hi : C.X.N[i]? = some x) (hj : C.X.N[j]? = some y) (hij : i ≠ j) (hx : C.X.env.scope.names.lookup x = some .local) (hy : C.X.env.scope.names.lookup y = some .local)
    (h : QA C [a, b] ρ M fun ds M' => ∃ d1 d2, ds = [d1, d2] ∧ E.nx ((ρ.set i (some d1)).set j (some d2)) M')
    (hc : C.X.calm = true := by rfl) (hw : swappedStores [.Tuple [.Name x px, .Name y py] kt pt] (.Tuple [a, b] k2 pt2) C.X.env = pure (some [x, y]) := by rfl)
    (hs : swapsWithSole [.Tuple [.Name x px, .Name y py] kt pt] (.Tuple [a, b] k2 pt2) pos.line C.X.env = pure false := by rfl) : QS C (.Assign [.Tuple [.Name x px, .Name y py] kt pt] (.Tuple [a, b] k2 pt2) pos) ρ M E :=
  .of (ps_par hc C.nd hi hj hij hx hy pa_W hw hs) fun σ H S w De k => h σ H S w _ fun vs H' M' ds hi f r ⟨d1, d2, e, p⟩ => by
    subst e
    cases r with
    | cons r1 r => cases r with
      | cons r2 r => cases r with
        | nil => exact ⟨_, _, rfl, k.nx _ M' _ H' (((S.fr f hi).set r1 i).set r2 j) f p⟩
/-- xs[i] = v, xs of the memory -/
theorem ixN_rp {K : PySem.W.Frag} {H : Hp} {vs : List V} {ds : List D} (r : RpA K H vs ds) (i : Int) : ixN vs.length i = ixN ds.length i := by rw [r.length]
theorem qg_sub {o i : Expr} {d : D} {N : DEnv → Mem → Prop} (h : QE C o ρ M fun x M1 => QE C i ρ M1 fun y M2 => ∃ p xs k j, x = .oth (.ref p) ∧ y = .int k ∧ M2 p = some (.lst xs) ∧ ixN xs.length k = some j ∧ N ρ (mupd M2 p (.lst (xs.set j d))))
    (ha : ∀ v, assign (.Subscript o i pos) C.X.env v = (do
      let ov ← holding [v] (eval o C.X.env)
      let iv ← holding [v, ov] (eval i C.X.env)
      standAt pos
      holding [v, ov, iv] (setItem ov iv v)
      release [v, ov, iv] []) := by intro _; rfl) : QG C (.Subscript o i pos) ρ M d N :=
  .of (pg_sub pe_W pe_W set_list ha) fun σ H v S w r Q k => h σ H S w _ fun u H1 M1 x hi1 f1 rx h1 => h1 σ H1 (S.fr f1 hi1) (w.fr f1) _ fun t H2 M2 y hi2 f2 ry ⟨p, xs, n, j, ex, ey, hp, hj, q⟩ => by
    subst ex ey
    cases rx; cases ry
    obtain ⟨o, h2, h3⟩ := hi2.mem p _ hp
    obtain ⟨vs, rfl, h3⟩ := h3.lst
    refine ⟨p, vs, n, j, rfl, rfl, h2, by rw [ixN_rp h3]; exact hj, ?_⟩
    have hi3 := hi2.wr (o := .lst (vs.set j v)) (m' := .lst (xs.set j d)) hp (h3.set (r.mono (f1.trans f2).sb) j)
    exact k ρ _ σ _ ((S.fr (f1.trans f2) hi2).fr (fr_wr hp) hi3) ((f1.trans f2).trans (fr_wr hp)) q

/-! ### methods of a list of the memory -/
theorem qe_append {apos : Pos} (h : QE C a ρ M fun x M1 => ∃ p, x = .oth (.ref p) ∧ (∃ xs, M1 p = some (.lst xs)) ∧ QE C b ρ M1 fun d M2 => ∃ xs, M2 p = some (.lst xs) ∧ xs.length < sizeLine ∧ P .non (mupd M2 p (.lst (xs ++ [d]))))
    (hbase : attributeBase a "append" C.X.env (eval a C.X.env) = eval a C.X.env := by rfl)
    (hfew : ((backTo pos (starEach [b] C.X.env)).all (fun x => !x.1) && (backToKw pos (keywordEach [] C.X.env)).all (fun x => x.1.isSome)
      && decide ([b].length + ([] : List Keyword).length + (if ([] : List Keyword).isEmpty then 0 else 1) < 30)) = true := by rfl)
    (hline : (apos.endLine == pos.line) = true := by rfl) (hs : starEach [b] C.X.env = (false, eval b C.X.env) :: starEach [] C.X.env := by rfl) :
    QE C (.Call (.Attribute a "append" apos) [b] [] pos) ρ M P :=
  .of (pe_bm PySem.F.plainAttrs_list PySem.F.slot_list_append PySem.F.type_list_append mt_append pe_W (pa_cons pe_W pa_nil hs) hbase hfew hline hs rfl) fun σ H S w Q k => h σ H S w _ fun u H1 M1 x hi1 f1 rx ⟨p, ex, ⟨xs0, hp0⟩, h1⟩ => by
    subst ex
    cases rx
    obtain ⟨o, g1, g2⟩ := hi1.mem p _ hp0
    obtain ⟨vs0, rfl, _⟩ := g2.lst
    refine ⟨.inl ⟨rfl, _, SqL.of g1⟩, ?_⟩
    refine h1 σ H1 (S.fr f1 hi1) (w.fr f1) _ fun v H2 M2 d hi2 f2 r ⟨xs, hp, hl, q⟩ => ?_
    obtain ⟨o, g3, g4⟩ := hi2.mem p _ hp
    obtain ⟨vs, rfl, g4⟩ := g4.lst
    refine ⟨p, vs, v, rfl, rfl, g3, by rw [g4.length]; exact hl, ?_⟩
    have hi3 := hi2.wr (o := .lst (vs ++ [v])) (m' := .lst (xs ++ [d])) hp (g4.append (.cons r .nil))
    exact k _ _ _ _ hi3 ((f1.trans f2).trans (fr_wr hp)) .non q
theorem RpA.eraseIdx {K : PySem.W.Frag} {H : Hp} : ∀ {vs : List V} {ds : List D} (i : Nat), RpA K H vs ds → RpA K H (vs.eraseIdx i) (ds.eraseIdx i)
  | _, _, _, .nil => .nil
  | _, _, 0, .cons _ t => t
  | _, _, i + 1, .cons r t => .cons r (RpA.eraseIdx i t)
/-- xs.pop(i) -/
theorem qe_popAt {apos : Pos} (h : QE C a ρ M fun x M1 => ∃ p, x = .oth (.ref p) ∧ (∃ xs, M1 p = some (.lst xs)) ∧ QE C b ρ M1 fun y M2 => ∃ xs i d, y = .int i ∧ M2 p = some (.lst xs) ∧ 0 ≤ i ∧ i < 2 ^ 63 ∧ xs[i.toNat]? = some d ∧ P d (mupd M2 p (.lst (xs.eraseIdx i.toNat))))
    (hbase : attributeBase a "pop" C.X.env (eval a C.X.env) = eval a C.X.env := by rfl)
    (hfew : ((backTo pos (starEach [b] C.X.env)).all (fun x => !x.1) && (backToKw pos (keywordEach [] C.X.env)).all (fun x => x.1.isSome)
      && decide ([b].length + ([] : List Keyword).length + (if ([] : List Keyword).isEmpty then 0 else 1) < 30)) = true := by rfl)
    (hline : (apos.endLine == pos.line) = true := by rfl) (hs : starEach [b] C.X.env = (false, eval b C.X.env) :: starEach [] C.X.env := by rfl) :
    QE C (.Call (.Attribute a "pop" apos) [b] [] pos) ρ M P :=
  .of (pe_bm PySem.F.plainAttrs_list PySem.F.slot_list_pop PySem.F.type_list_pop mt_popAt pe_W (pa_cons pe_W pa_nil hs) hbase hfew hline hs rfl) fun σ H S w Q k => h σ H S w _ fun u H1 M1 x hi1 f1 rx ⟨p, ex, ⟨xs0, hp0⟩, h1⟩ => by
    subst ex
    cases rx
    obtain ⟨o, g1, g2⟩ := hi1.mem p _ hp0
    obtain ⟨vs0, rfl, _⟩ := g2.lst
    refine ⟨.inl ⟨rfl, _, SqL.of g1⟩, ?_⟩
    refine h1 σ H1 (S.fr f1 hi1) (w.fr f1) _ fun v H2 M2 y hi2 f2 r ⟨xs, i, d, ey, hp, h0, h63, hd, q⟩ => ?_
    subst ey
    cases r
    obtain ⟨o, g3, g4⟩ := hi2.mem p _ hp
    obtain ⟨vs, rfl, g4⟩ := g4.lst
    obtain ⟨w', e1, r1⟩ := g4.get hd
    have hlt : i.toNat < vs.length := (List.getElem?_eq_some_iff.mp e1).1
    refine ⟨p, vs, i, i.toNat, w', rfl, rfl, g3, by omega, h63, PySem.StrLaws.seqIndex_nonneg h0 (by omega), e1, ?_⟩
    have hi3 := hi2.wr (o := .lst (vs.eraseIdx i.toNat)) (m' := .lst (xs.eraseIdx i.toNat)) hp (g4.eraseIdx _)
    refine k w' _ _ d hi3 ((f1.trans f2).trans (fr_wr hp)) ?_ q
    rw [sub_wr hp]
    exact r1
end
end Q
namespace Q
open PySem PySem.Spec PyProof.Rows L2 LamX NdefX
/-! ### defs: contracts -/
abbrev Con := List D → Mem → PD → (Value → List (Str × D) → Mem → Prop) → Prop
def SpG (K : PySem.W.Frag) (T : List (Addr × Str)) (c : Con) : Sp := fun vs H Q E => ∃ ds M Qd Xd, HI K T M H ∧ RpA K (sub H M) vs ds ∧ c ds M Qd Xd ∧
  (∀ v H' M' d, HI K T M' H' → Fr M H M' H' → Rp K (sub H' M') v d → Qd d M' → Q v H') ∧
  (∀ cls dx H' M' fs, HI K T M' H' → Fr M H M' H' → XDat K H' M' dx fs → Xd cls fs M' → E cls dx H')
structure HasF (P : Program) (w : World) (K : PySem.W.Frag) (mg : Str → Option Value) (base : Heap) (T : List (Addr × Str)) (x : Str) (n k : Nat) (c : Con) : Prop where
  ex : ∃ f fd ps, FnOk P w K mg base (L2.CX P w) k f fd ps (SpG K T c) ∧ ps.length = n ∧ mg x = some (.ref f) ∧ PySem.W.keepIn K (.ref f) = true ∧ Binds K fd ps []
abbrev Cq.Has (C : Cq) (x : Str) (n k : Nat) (c : Con) : Prop := HasF C.X.prog C.X.w C.X.K C.X.mg C.X.base C.T x n k c
section
variable {C : Cq} {e a b : Expr} {es : List Expr} {ρ : DEnv} {M : Mem} {P : PD} {PB : Bool → Mem → Prop} {pos p : Pos} {E : DE}
theorem qe_call {x : Str} {n k : Nat} {c : Con} (F : C.Has x n k c) (hk : k ≤ C.k) (hg : Gl C.X x) (h : QA C (e :: es) ρ M fun ds M1 => c ds M1 P fun cls fs M2 => C.R cls fs ρ M2)
    (hc : C.X.calm = true := by rfl) (hdb : (x == ("__debug__" : Str)) = false := by decide) (he : starEach (e :: es) C.X.env = (false, eval e C.X.env) :: starEach es C.X.env := by rfl) (hpl : (backTo pos (starEach es C.X.env)).any (·.1) = false := by rfl) :
    QE C (.Call (.Name x p) (e :: es) [] pos) ρ M P := by
  obtain ⟨f, fd, ps, Fn, hn, hm, hkp, hb⟩ := F.ex
  refine .of (pe_callS Fn ((C.room hc).mono hk) hg hm hkp hb (fun σ => passAt C.tk σ) pa_W hdb he hpl) fun σ H S w Q kk => h σ H S w _ fun vs H1 M1 ds hi f r q => ?_
  exact ⟨ds, M1, P, _, hi, r, q, fun v H' M' d hi' f' r' p => kk v H' M' d hi' (f.trans f') r' p, fun cls dx H' M' fs hi' f' x' xr => w σ H' M' ρ cls dx fs ((S.fr f hi).fr f' hi') (f.trans f') x' xr⟩
theorem qe_call0 {x : Str} {n k : Nat} {c : Con} (F : C.Has x n k c) (hk : k ≤ C.k) (hg : Gl C.X x) (h : c [] M P fun cls fs M2 => False)
    (hc : C.X.calm = true := by rfl) (hdb : (x == ("__debug__" : Str)) = false := by decide) :
    QE C (.Call (.Name x p) [] [] pos) ρ M P := by
  obtain ⟨f, fd, ps, Fn, hn, hm, hkp, hb⟩ := F.ex
  refine .of (pe_call0 Fn ((C.room hc).mono hk) hg hm hkp hb .nil passL hdb) fun σ H S w Q kk => ?_
  exact ⟨[], M, P, _, S.hi, .nil, h, fun v H' M' d hi' f' r' p => kk v H' M' d hi' f' r' p, fun cls dx H' M' fs hi' f' x' xr => xr.elim⟩

/-! ### built-ins -/
def CbD (C : Cq) (r : List V → Hp → VK → Prop) (rd : List D → Mem → PD → Prop) : Prop := ∀ (vs : List V) (ds : List D) (M : Mem) (H : Hp) (P : PD) (Q : VK), HI C.K C.T M H → RpA C.K (sub H M) vs ds → rd ds M P →
  (∀ v' H' M' d, HI C.K C.T M' H' → Fr M H M' H' → Rp C.K (sub H' M') v' d → P d M' → Q v' H') → r vs H Q
theorem ev_cb {r : List V → Hp → VK → Prop} {rd : List D → Mem → PD → Prop} (od : CbD C r rd) (h : QA C es ρ M fun ds M1 => rd ds M1 P) : EvQ C (tCB r (WA C.X es)) ρ M P :=
  fun σ H S w Q k => h σ H S w _ fun vs H1 M1 ds hi f r q => od vs ds M1 H1 P Q hi r q fun v' H' M' d hi' f' r' p => k v' H' M' d hi' (f.trans f') r' p
theorem qe_bi {x : Str} {id : String} {r : List V → Hp → VK → Prop} {rd : List D → Mem → PD → Prop} (hc : CallR C.X (.builtin id) r) (od : CbD C r rd) (hm : C.X.mg x = none) (hv : bootBuiltins x = some (.builtin id)) (hg : Gl C.X x) (h : QA C (e :: es) ρ M fun ds M1 => rd ds M1 P)
    (hn : x ≠ "__name__" := by decide) (hdb : (x == ("__debug__" : Str)) = false := by decide) (he : starEach (e :: es) C.X.env = (false, eval e C.X.env) :: starEach es C.X.env := by rfl) (hpl : (backTo pos (starEach es C.X.env)).any (·.1) = false := by rfl) : QE C (.Call (.Name x p) (e :: es) [] pos) ρ M P :=
  .of (pe_callB hc hg hm hv pa_W hn hdb he hpl) (ev_cb od h)
theorem qe_bt {x : Str} {T : String} {r : List V → Hp → VK → Prop} {rd : List D → Mem → PD → Prop} (hc : CallR C.X (.type T) r) (od : CbD C r rd) (hm : C.X.mg x = none) (hv : bootBuiltins x = some (.type T)) (hg : Gl C.X x) (h : QA C (e :: es) ρ M fun ds M1 => rd ds M1 P)
    (hn : x ≠ "__name__" := by decide) (hdb : (x == ("__debug__" : Str)) = false := by decide) (he : starEach (e :: es) C.X.env = (false, eval e C.X.env) :: starEach es C.X.env := by rfl) (hpl : (backTo pos (starEach es C.X.env)).any (·.1) = false := by rfl) : QE C (.Call (.Name x p) (e :: es) [] pos) ρ M P :=
  .of (pe_callTy hc hg hm hv pa_W hn hdb he hpl) (ev_cb od h)
variable (hg : True)
/-- len -/
def lenD (M : Mem) : D → Option Nat
  | .lst xs => some xs.length
  | .frz xs => some xs.length
  | .tup xs => some xs.length
  | .str x => if x.length ≤ sizeLine then some x.length else none
  | .oth (.ref p) => match M p with
    | some (.lst xs) => some xs.length
    | _ => none
  | _ => none
theorem cd_len : CbD C (fun xs H Q => ∃ x n, xs = [x] ∧ LenV C.X.K x H n ∧ Q (.int n) H) (fun ds M P => ∃ d n, ds = [d] ∧ lenD M d = some n ∧ P (.int n) M) := by
  intro vs ds M H P Q hi r h k
  obtain ⟨d, n, rfl, e, p⟩ := h
  cases r with
  | cons r r' =>
    cases r'
    refine ⟨_, n, rfl, ?_, k _ H M _ hi (.refl _ _) (.int _) p⟩
    cases r with
    | lst h1 h2 => exact .inl ⟨_, SqL.of (sub_some h1).2, by rw [h2.length]; simpa [lenD] using e.symm⟩
    | frz h1 h2 => exact .inl ⟨_, sqL_sub h1, by rw [h2.length]; simpa [lenD] using e.symm⟩
    | tup h1 h2 => exact .inr ⟨_, sqT_sub h1, by rw [h2.length]; simpa [lenD] using e.symm⟩
    | str x =>
      simp only [lenD] at e
      split at e
      · rename_i hl
        exact ⟨hl, by simpa using e.symm⟩
      · cases e
    | oth =>
      rename_i v
      cases v with
      | ref q =>
        simp only [lenD] at e
        cases e2 : M q with
        | none => rw [e2] at e; cases e
        | some m =>
          obtain ⟨o, h1, h2⟩ := hi.mem q m e2
          cases m with
          | lst xs =>
            rw [e2] at e
            obtain ⟨vs, rfl, h2⟩ := h2.lst
            exact .inl ⟨_, SqL.of h1, by rw [h2.length]; simpa using e.symm⟩
          | dK xs => rw [e2] at e; cases e
          | dT xs => rw [e2] at e; cases e
          | ins c xs => rw [e2] at e; cases e
      | _ => simp [lenD] at e
    | _ => simp [lenD] at e
theorem qe_len (h : QA C [a] ρ M fun ds M1 => ∃ d n, ds = [d] ∧ lenD M1 d = some n ∧ P (.int n) M1) (hg : Gl C.X "len" := by rfl)
    (he : starEach [a] C.X.env = (false, eval a C.X.env) :: starEach [] C.X.env := by rfl) : QE C (.Call (.Name "len" p) [a] [] pos) ρ M P := qe_bi call_len cd_len C.bn.len PySem.boot_len hg h (he := he) (hpl := by rfl)
theorem qe_int1 (h : QA C [a] ρ M fun ds M1 => (∃ i, ds = [.int i] ∧ P (.int i) M1)) (hg : Gl C.X "int" := by rfl)
    (he : starEach [a] C.X.env = (false, eval a C.X.env) :: starEach [] C.X.env := by rfl) : QE C (.Call (.Name "int" p) [a] [] pos) ρ M P :=
  qe_bt call_int1 (rd := fun ds M1 P => ∃ i, ds = [.int i] ∧ P (.int i) M1) (by
    intro vs ds M H P Q hi r h k
    obtain ⟨i, rfl, q⟩ := h
    cases r with
    | cons r r' => cases r'; cases r; exact .inl ⟨i, rfl, k _ H M _ hi (.refl _ _) (.int _) q⟩) C.bn.int (by decide +kernel) hg h (he := he) (hpl := by rfl)
theorem qe_bool1 (h : QA C [a] ρ M fun ds M1 => (∃ i, ds = [.bl i] ∧ P (.bl i) M1)) (hg : Gl C.X "bool" := by rfl)
    (he : starEach [a] C.X.env = (false, eval a C.X.env) :: starEach [] C.X.env := by rfl) : QE C (.Call (.Name "bool" p) [a] [] pos) ρ M P :=
  qe_bt call_bool1 (rd := fun ds M1 P => ∃ i, ds = [.bl i] ∧ P (.bl i) M1) (by
    intro vs ds M H P Q hi r h k
    obtain ⟨i, rfl, q⟩ := h
    cases r with
    | cons r r' => cases r'; cases r; exact .inr ⟨i, rfl, k _ H M _ hi (.refl _ _) (.bl _) q⟩) C.bn.bool (by decide +kernel) hg h (he := he) (hpl := by rfl)
def rd2 (g : Int → Int → Int) : List D → Mem → PD → Prop := fun ds M P => ∃ i j, ds = [.int i, .int j] ∧ P (.int (g i j)) M
theorem cd2 {g : Int → Int → Int} {r : List V → Hp → VK → Prop} (hr : r = fun xs H Q => ∃ i j, xs = [.int i, .int j] ∧ Q (.int (g i j)) H) : CbD C r (rd2 g) := by
  subst hr
  intro vs ds M H P Q hi r h k
  obtain ⟨i, j, rfl, q⟩ := h
  cases r with
  | cons r r' => cases r' with
    | cons r2 r' => cases r'; cases r; cases r2; exact ⟨i, j, rfl, k _ H M _ hi (.refl _ _) (.int _) q⟩
theorem qe_max2 (h : QA C [a, b] ρ M fun ds M1 => ∃ i j, ds = [.int i, .int j] ∧ P (.int (if j > i then j else i)) M1) (hc : C.X.calm = true := by rfl) (hg : Gl C.X "max" := by rfl)
    (he : starEach [a, b] C.X.env = (false, eval a C.X.env) :: starEach [b] C.X.env := by rfl) (hpl : (backTo pos (starEach [b] C.X.env)).any (·.1) = false := by rfl) : QE C (.Call (.Name "max" p) [a, b] [] pos) ρ M P :=
  qe_bi (call_max2 hc) (cd2 (g := fun i j => if j > i then j else i) rfl) C.bn.max (by decide +kernel) hg h (he := he) (hpl := hpl)
theorem qe_min2 (h : QA C [a, b] ρ M fun ds M1 => ∃ i j, ds = [.int i, .int j] ∧ P (.int (if j < i then j else i)) M1) (hc : C.X.calm = true := by rfl) (hg : Gl C.X "min" := by rfl)
    (he : starEach [a, b] C.X.env = (false, eval a C.X.env) :: starEach [b] C.X.env := by rfl) (hpl : (backTo pos (starEach [b] C.X.env)).any (·.1) = false := by rfl) : QE C (.Call (.Name "min" p) [a, b] [] pos) ρ M P :=
  qe_bi (call_min2 hc) (cd2 (g := fun i j => if j < i then j else i) rfl) C.bn.min (by decide +kernel) hg h (he := he) (hpl := hpl)
theorem qe_divmod (h : QA C [a, b] ρ M fun ds M1 => ∃ i j, ds = [.int i, .int j] ∧ CDiv i j ∧ P (.tup [.int (i / j), .int (i % j)]) M1) (hg : Gl C.X "divmod" := by rfl)
    (he : starEach [a, b] C.X.env = (false, eval a C.X.env) :: starEach [b] C.X.env := by rfl) (hpl : (backTo pos (starEach [b] C.X.env)).any (·.1) = false := by rfl) : QE C (.Call (.Name "divmod" p) [a, b] [] pos) ρ M P :=
  qe_bi call_divmod (rd := fun ds M1 P => ∃ i j, ds = [.int i, .int j] ∧ CDiv i j ∧ P (.tup [.int (i / j), .int (i % j)]) M1) (by
    intro vs ds M H P Q hi r h k
    obtain ⟨i, j, rfl, hc, q⟩ := h
    cases r with
    | cons r r' => cases r' with
      | cons r2 r' =>
        cases r'; cases r; cases r2
        exact ⟨i, j, rfl, hc, fun p hp => k _ _ M _ (hi.new hp) (fr_new hi hp) (.tup (SqT.of (sub_of (hi.mnone hp) upd_same)) (.cons (.int _) (.cons (.int _) .nil))) q⟩) C.bn.divmod (by decide +kernel) hg h (he := he) (hpl := hpl)
/-- isinstance -/
def tyD : D → Option String
  | .non => some "NoneType"
  | .bl _ => some "bool"
  | .int _ => some "int"
  | .str _ => some "str"
  | .lst _ => some "list"
  | .tup _ => some "tuple"
  | .dct _ _ => some "dict"
  | _ => none
theorem tyx_of {K : PySem.W.Frag} {M : Mem} {H : Hp} {v : V} {d : D} {n : String} (r : Rp K (sub H M) v d) (h : tyD d = some n) : TyX K H v (.type n) := by
  cases r with
  | non => cases h; exact .base .non
  | bl b => cases h; exact .base (.bl b)
  | int i => cases h; exact .base (.int i)
  | str x => cases h; exact .base (.str x)
  | lst h1 h2 => cases h; exact .base (.lst (sub_some h1).2)
  | frz h1 h2 => cases h
  | tup h1 h2 =>
    cases h
    rcases sqT_sub h1 with (h | ⟨o, h⟩) | ⟨o, its, m, h, hc, _⟩
    · exact .base (.tup h)
    · exact .fTuple h
    · exact .kTuple h hc
  | oth v => cases h
  | exn h1 h2 h3 h4 => cases h
  | ktp h1 => cases h
  | obj h1 h2 h3 h4 => cases h
  | dct h1 h2 h3 h4 => cases h; exact .base (.dK (sub_some h1).2)
theorem qe_isi {ts : D → Prop} (h : QA C [a, b] ρ M fun ds M1 => ∃ d n m r, ds = [d, .oth (.ty m)] ∧ tyD d = some n ∧ kitB n m = some r ∧ P (.bl r) M1) (hg : Gl C.X "isinstance" := by rfl)
    (he : starEach [a, b] C.X.env = (false, eval a C.X.env) :: starEach [b] C.X.env := by rfl) (hpl : (backTo pos (starEach [b] C.X.env)).any (·.1) = false := by rfl) : QE C (.Call (.Name "isinstance" p) [a, b] [] pos) ρ M P :=
  qe_bi call_isi (rd := fun ds M1 P => ∃ d n m r, ds = [d, .oth (.ty m)] ∧ tyD d = some n ∧ kitB n m = some r ∧ P (.bl r) M1) (by
    intro vs ds M H P Q hi r h k
    obtain ⟨d, n, m, b, rfl, h1, h2, q⟩ := h
    cases r with
    | cons r r' => cases r' with
      | cons r2 r' =>
        cases r'; cases r2
        exact ⟨_, _, .type n, .type m, b, rfl, .ty m, tyx_of r h1, kit_ty h2, k _ H M _ hi (.refl _ _) (.bl _) q⟩) C.bn.isinstance (by decide +kernel) hg h (he := he) (hpl := hpl)
/-- list(x) -/
theorem qe_list1 (h : QA C [a] ρ M fun ds M1 => ∃ d xs, ds = [d] ∧ (SeqR M1 d xs ∨ d = .tup xs) ∧ P (.lst xs) M1) (hg : Gl C.X "list" := by rfl)
    (he : starEach [a] C.X.env = (false, eval a C.X.env) :: starEach [] C.X.env := by rfl) : QE C (.Call (.Name "list" p) [a] [] pos) ρ M P :=
  qe_bt call_list_of (rd := fun ds M1 P => ∃ d xs, ds = [d] ∧ (SeqR M1 d xs ∨ d = .tup xs) ∧ P (.lst xs) M1) (by
    intro vs ds M H P Q hi r h k
    obtain ⟨d, xs, rfl, s, q⟩ := h
    cases r with
    | cons r r' =>
      cases r'
      rcases s with s | rfl
      · obtain ⟨l, us, rfl, h1, h2⟩ := s.at hi r
        exact ⟨l, us, rfl, .inl h1, fun p hp => k _ _ M _ (hi.new hp) (fr_new hi hp) (.lst (sub_of (hi.mnone hp) upd_same) (h2.mono (fr_new hi hp).sb)) q⟩
      · cases r with
        | tup h1 h2 => exact ⟨_, _, rfl, .inr (sqT_sub h1), fun p hp => k _ _ M _ (hi.new hp) (fr_new hi hp) (.lst (sub_of (hi.mnone hp) upd_same) (h2.mono (fr_new hi hp).sb)) q⟩) C.bn.list (by decide +kernel) hg h (he := he) (hpl := by rfl)
theorem qe_list1M (h : QA C [a] ρ M fun ds M1 => ∃ d xs, ds = [d] ∧ (SeqR M1 d xs ∨ d = .tup xs) ∧ ∀ q, M1 q = none → P (.oth (.ref q)) (mupd M1 q (.lst xs))) (hg : Gl C.X "list" := by rfl)
    (he : starEach [a] C.X.env = (false, eval a C.X.env) :: starEach [] C.X.env := by rfl) : QE C (.Call (.Name "list" p) [a] [] pos) ρ M P :=
  qe_bt call_list_of (rd := fun ds M1 P => ∃ d xs, ds = [d] ∧ (SeqR M1 d xs ∨ d = .tup xs) ∧ ∀ q, M1 q = none → P (.oth (.ref q)) (mupd M1 q (.lst xs))) (by
    intro vs ds M H P Q hi r h k
    obtain ⟨d, xs, rfl, s, q⟩ := h
    cases r with
    | cons r r' =>
      cases r'
      rcases s with s | rfl
      · obtain ⟨l, us, rfl, h1, h2⟩ := s.at hi r
        exact ⟨l, us, rfl, .inl h1, fun p hp => k _ _ _ _ (hi.newM (m := .lst xs) hp h2) (fr_newM hi hp) (.oth _) (q p (hi.mnone hp))⟩
      · cases r with
        | tup h1 h2 => exact ⟨_, _, rfl, .inr (sqT_sub h1), fun p hp => k _ _ _ _ (hi.newM (m := .lst xs) hp h2) (fr_newM hi hp) (.oth _) (q p (hi.mnone hp))⟩) C.bn.list (by decide +kernel) hg h (he := he) (hpl := by rfl)
/-! ### in, not in, of flat data -/
def flatD : D → Bool
  | .non | .bl _ | .int _ | .str _ => true
  | _ => false
def eqD : D → D → Bool
  | .non, .non => true
  | .bl a, .bl b => a == b
  | .bl a, .int b => (if a then 1 else 0) == b
  | .int a, .bl b => a == (if b then 1 else 0)
  | .int a, .int b => a == b
  | .str a, .str b => a == b
  | _, _ => false
def inD (x : D) (xs : List D) : Bool := xs.any fun y => eqD y x
theorem flat_rp {K : PySem.W.Frag} {H : Hp} {v : V} {d : D} (r : Rp K H v d) (h : flatD d = true) : flatV v = true := by
  cases r <;> first | rfl | cases h
theorem flats_rp {K : PySem.W.Frag} {H : Hp} : ∀ {vs : List V} {ds : List D}, RpA K H vs ds → ds.all flatD = true → vs.all flatV = true
  | _, _, .nil, _ => rfl
  | _, _, .cons r rs, h => by
    rw [List.all_cons, Bool.and_eq_true] at h ⊢
    exact ⟨flat_rp r h.1, flats_rp rs h.2⟩
theorem eq_rp {K : PySem.W.Frag} {H : Hp} {v u : V} {d e : D} (r : Rp K H v d) (q : Rp K H u e) (h : flatD d = true) (h2 : flatD e = true) : eqV v u = eqD d e := by
  cases r <;> cases q <;> first | rfl | exact absurd h Bool.false_ne_true | exact absurd h2 Bool.false_ne_true
theorem in_rp {K : PySem.W.Frag} {H : Hp} {u : V} {e : D} (q : Rp K H u e) (h2 : flatD e = true) : ∀ {vs : List V} {ds : List D}, RpA K H vs ds → ds.all flatD = true → inV u vs = inD e ds
  | _, _, .nil, _ => rfl
  | _, _, .cons r rs, h => by
    rw [List.all_cons, Bool.and_eq_true] at h
    have ih := in_rp q h2 rs h.2
    unfold inV inD at ih ⊢
    rw [List.any_cons, List.any_cons, eq_rp r q h.1 h2, ih]
@[irreducible] def rdIn (neg : Bool) (x y : D) (M : Mem) (P : PD) : Prop := ∃ xs, (SeqR M y xs ∨ y = .tup xs) ∧ flatD x = true ∧ xs.all flatD = true ∧ P (.bl (if neg then !inD x xs else inD x xs)) M
theorem od_in {neg : Bool} : OpD C (rIn C.K neg) (rdIn neg) := by
  intro v u x y M H P Q hi rx ry h k
  unfold rdIn at h
  obtain ⟨xs, s, h1, h2, q⟩ := h
  rcases s with s | rfl
  · obtain ⟨l, vs, rfl, h3, h4⟩ := s.at hi ry
    refine ⟨l, vs, rfl, .inl h3, flat_rp rx h1, flats_rp h4 h2, ?_⟩
    rw [in_rp rx h1 h4 h2]
    exact k _ H M _ hi (.refl _ _) (.bl _) q
  · cases ry with
    | tup h3 h4 =>
      refine ⟨_, _, rfl, .inr (sqT_sub h3), flat_rp rx h1, flats_rp h4 h2, ?_⟩
      rw [in_rp rx h1 h4 h2]
      exact k _ H M _ hi (.refl _ _) (.bl _) q
theorem qe_in (h : QE C a ρ M fun x M1 => QE C b ρ M1 fun y M2 => rdIn false x y M2 P) (hm : behindInMarks .In b = false := by rfl) : QE C (.Compare a [.In] [b] pos) ρ M P := qe_cmp op_in_seq od_in h hm
theorem qe_notin (h : QE C a ρ M fun x M1 => QE C b ρ M1 fun y M2 => rdIn true x y M2 P) (hm : behindInMarks .NotIn b = false := by rfl) : QE C (.Compare a [.NotIn] [b] pos) ρ M P := qe_cmp op_notIn_seq od_in h hm
theorem qt_in (h : QE C a ρ M fun x M1 => QE C b ρ M1 fun y M2 => rdIn false x y M2 (isBl PB)) (hm : behindInMarks .In b = false := by rfl) : QT C (.Compare a [.In] [b] pos) ρ M PB := qt_cmp op_in_seq od_in h hm
theorem qt_notin (h : QE C a ρ M fun x M1 => QE C b ρ M1 fun y M2 => rdIn true x y M2 (isBl PB)) (hm : behindInMarks .NotIn b = false := by rfl) : QT C (.Compare a [.NotIn] [b] pos) ρ M PB := qt_cmp op_notIn_seq od_in h hm

/-! ### what is walked -/
def Walks (C : Cq) (J : It) (M1 : Mem) (H1 : Hp) (xs : List D) : Prop := ∀ M' H', HI C.K C.T M' H' → Fr M1 H1 M' H' →
  (∀ i d, xs[i]? = some d → J.go i H' ∧ ∀ v H2, J.yld i H' v H2 → HI C.K C.T M' H2 ∧ Fr M' H' M' H2 ∧ Rp C.K (sub H2 M') v d) ∧ (∀ i, xs.length ≤ i → J.stop i H')
def IvQ (C : Cq) (wi : TI) (ρ : DEnv) (M : Mem) (P : List D → Mem → Prop) : Prop := ∀ σ H, SI C.K C.T C.Z ρ M σ H → WOk C M H → ∀ R : It → Hp → Prop,
  (∀ J H1 M1 xs, HI C.K C.T M1 H1 → Fr M H M1 H1 → Walks C J M1 H1 xs → P xs M1 → R J H1) → wi σ H R
structure QI (C : Cq) (tg iter : Expr) (ρ : DEnv) (M : Mem) (P : List D → Mem → Prop) : Prop where
  ex : ∃ wi, PI C.X tg iter wi ∧ IvQ C wi ρ M P
theorem walks_list {K : PySem.W.Frag} {T : List (Addr × Str)} {l : Addr} {vs : List V} {xs : List D} {M1 : Mem} {H1 : Hp} (hK : C.K = K) (h : SqL C.K (sub H1 M1) l vs) (r : RpA C.K (sub H1 M1) vs xs) : Walks C (Itl C.K l) M1 H1 xs := by
  intro M' H' hi f
  have h' := sqL_sub (f.sb.sqL h)
  have r' := r.mono f.sb
  refine ⟨fun i d e => ?_, fun i hl => ⟨vs, h', by rw [r.length]; exact hl⟩⟩
  obtain ⟨v, e2, r2⟩ := r'.get e
  refine ⟨⟨vs, v, h', e2⟩, fun u H2 ⟨eH, y⟩ => ?_⟩
  subst eH
  have := y vs h'
  rw [e2] at this
  cases this
  exact ⟨hi, .refl _ _, r2⟩
theorem walks_tup {l : Addr} {vs : List V} {xs : List D} {M1 : Mem} {H1 : Hp} (h : SqT C.K (sub H1 M1) l vs) (r : RpA C.K (sub H1 M1) vs xs) : Walks C (Itt C.K l) M1 H1 xs := by
  intro M' H' hi f
  have h' := sqT_sub (f.sb.sqT h)
  have r' := r.mono f.sb
  refine ⟨fun i d e => ?_, fun i hl => ⟨vs, h', by rw [r.length]; exact hl⟩⟩
  obtain ⟨v, e2, r2⟩ := r'.get e
  refine ⟨⟨vs, v, h', e2⟩, fun u H2 ⟨eH, y⟩ => ?_⟩
  subst eH
  have := y vs h'
  rw [e2] at this
  cases this
  exact ⟨hi, .refl _ _, r2⟩
/-- over a list that is a datum -/
theorem qi_list {tg : Expr} {P : List D → Mem → Prop} (h : QE C a ρ M fun d M1 => ∃ xs, (d = .lst xs ∨ d = .frz xs) ∧ P xs M1) : QI C tg a ρ M P :=
  ⟨_, pi_list pe_W, fun σ H S w R k => h σ H S w _ fun v H1 M1 d hi f r ⟨xs, e, p⟩ => by
    rcases e with rfl | rfl
    · cases r with
      | lst h1 h2 => exact ⟨_, rfl, ⟨_, SqL.of (sub_some h1).2⟩, k _ H1 M1 xs hi f (walks_list (T := C.T) rfl (SqL.of h1) h2) p⟩
    · cases r with
      | frz h1 h2 => exact ⟨_, rfl, ⟨_, sqL_sub h1⟩, k _ H1 M1 xs hi f (walks_list (T := C.T) rfl h1 h2) p⟩⟩
theorem qi_tup {tg : Expr} {P : List D → Mem → Prop} (h : QE C a ρ M fun d M1 => ∃ xs, d = .tup xs ∧ P xs M1) : QI C tg a ρ M P :=
  ⟨_, pi_tup pe_W, fun σ H S w R k => h σ H S w _ fun v H1 M1 d hi f r ⟨xs, e, p⟩ => by
    subst e
    cases r with
    | tup h1 h2 => exact ⟨_, rfl, ⟨_, sqT_sub h1⟩, k _ H1 M1 xs hi f (walks_tup h1 h2) p⟩⟩
def rngD (lo : Int) (n : Nat) : List D := (List.range n).map fun i => .int (lo + (i : Nat))
theorem rngD_length (lo : Int) (n : Nat) : (rngD lo n).length = n := by simp [rngD]
theorem rngD_get {lo : Int} {n i : Nat} {d : D} (h : (rngD lo n)[i]? = some d) : i < n ∧ d = .int (lo + i) := by
  unfold rngD at h
  rw [List.getElem?_map] at h
  cases e : (List.range n)[i]? with
  | none => rw [e] at h; cases h
  | some j =>
    rw [e] at h
    obtain ⟨h1, h2⟩ := List.getElem?_eq_some_iff.mp e
    simp at h1 h2
    subst h2
    simp at h
    exact ⟨h1, h.symm⟩
theorem walks_rng {lo : Int} {n : Nat} {M1 : Mem} {H1 : Hp} : Walks C (Itr lo n) M1 H1 (rngD lo n) := by
  intro M' H' hi f
  refine ⟨fun i d e => ?_, fun i hl => by rw [rngD_length] at hl; exact hl⟩
  obtain ⟨h1, rfl⟩ := rngD_get e
  refine ⟨h1, fun v H2 ⟨eH, ev⟩ => ?_⟩
  subst eH ev
  exact ⟨hi, .refl _ _, .int _⟩
theorem qi_range1 {tg : Expr} {P : List D → Mem → Prop} (h : QA C [a] ρ M fun ds M1 => ∃ j, ds = [.int j] ∧ -(2 ^ 62) ≤ j ∧ j < 2 ^ 62 ∧ P (rngD 0 j.toNat) M1) (hg : Gl C.X "range" := by rfl) (hs : starEach [a] C.X.env = [(false, eval a C.X.env)] := by rfl) :
    QI C tg (.Call (.Name "range" p) [a] [] pos) ρ M P :=
  ⟨_, pi_range1 hg C.bn.range pa_W hs, fun σ H S w R k => h σ H S w _ fun vs H1 M1 ds hi f r ⟨j, e, h1, h2, q⟩ => by
    subst e
    cases r with
    | cons r r' => cases r'; cases r; exact ⟨j, rfl, h1, h2, k _ H1 M1 _ hi f walks_rng q⟩⟩
theorem qi_range2 {tg : Expr} {P : List D → Mem → Prop} (h : QA C [a, b] ρ M fun ds M1 => ∃ i j, ds = [.int i, .int j] ∧ (-(2 ^ 62) ≤ i ∧ i < 2 ^ 62 ∧ -(2 ^ 62) ≤ j ∧ j < 2 ^ 62) ∧ P (rngD i (j - i).toNat) M1) (hg : Gl C.X "range" := by rfl)
    (hs : starEach [a, b] C.X.env = [(false, eval a C.X.env), (false, eval b C.X.env)] := by rfl) (hs2 : starEach [b] C.X.env = [(false, eval b C.X.env)] := by rfl) :
    QI C tg (.Call (.Name "range" p) [a, b] [] pos) ρ M P :=
  ⟨_, pi_range2 hg C.bn.range pa_W hs hs2, fun σ H S w R k => h σ H S w _ fun vs H1 M1 ds hi f r ⟨i, j, e, h1, q⟩ => by
    subst e
    cases r with
    | cons r r' => cases r' with
      | cons r2 r' => cases r'; cases r; cases r2; exact ⟨i, j, rfl, h1, k _ H1 M1 _ hi f walks_rng q⟩⟩
/-! ### for -/
theorem qs_for {tg : Expr} {body : List Stmt} (h : QI C tg a ρ M fun xs M1 => ∃ Iv : Nat → DEnv → Mem → Prop, Iv 0 ρ M1 ∧
      (∀ i x ρ' M', xs[i]? = some x → Iv i ρ' M' → QG C tg ρ' M' x fun ρ2 M2 => QSs C body ρ2 M2 { E with nx := Iv (i + 1), ct := Iv (i + 1), bk := E.nx }) ∧ (∀ ρ' M', Iv xs.length ρ' M' → E.nx ρ' M'))
    (hc : C.X.calm = true := by rfl) (hs : ∀ x, foldedSetIterable a C.X.env x = pure x := by intro _; rfl) : QS C (.For tg a body [] pos) ρ M E := by
  obtain ⟨wi, pi, q⟩ := h.ex
  refine .of (ps_for C.own hc pi pg_W pss_W hs) fun σ H S w De k => q σ H S w _ fun J H1 M1 xs hi f wk ⟨Iv, h0, step, fin⟩ => ?_
  refine ⟨fun i m σ' H' => m = xs.length - i ∧ i ≤ xs.length ∧ ∃ ρ' M', SI C.K C.T C.Z ρ' M' σ' H' ∧ Fr M1 H1 M' H' ∧ Iv i ρ' M', ⟨_, rfl, Nat.zero_le _, ρ, M1, S.fr f hi, .refl _ _, h0⟩, ?_⟩
  rintro i m σ' H' ⟨rfl, hle, ρ', M', S', f', iv⟩
  obtain ⟨w1, w2⟩ := wk M' H' S'.hi f'
  by_cases hlt : i < xs.length
  · obtain ⟨g1, g2⟩ := w1 i xs[i] (by simp [hlt])
    refine .inr ⟨g1, fun σ2 H2 => ∃ ρ2 M2, SI C.K C.T C.Z ρ2 M2 σ2 H2 ∧ Fr M1 H1 M2 H2 ∧ Iv (i + 1) ρ2 M2, fun σ2 H2 ⟨ρ2, M2, S2, f2, iv2⟩ => ⟨xs.length - (i + 1), by omega, rfl, hlt, ρ2, M2, S2, f2, iv2⟩, fun v H2 y => ?_⟩
    obtain ⟨hi2, f2, r2⟩ := g2 v H2 y
    refine step i xs[i] ρ' M' (by simp [hlt]) iv σ' H2 v (S'.fr f2 hi2) (w.fr ((f.trans f').trans f2)) r2 _ fun ρ3 M3 σ3 H3 S3 f3 q3 => ?_
    refine q3 σ3 H3 S3 (w.fr (((f.trans f').trans f2).trans f3)) _ ⟨?_, ?_, ?_, ?_⟩
    · exact fun ρ4 M4 σ4 H4 S4 f4 q4 => ⟨ρ4, M4, S4, ((f'.trans f2).trans f3).trans f4, q4⟩
    · exact fun v H4 M4 d hi4 f4 r4 q4 => k.rt v H4 M4 d hi4 ((((f.trans f').trans f2).trans f3).trans f4) r4 q4
    · exact fun ρ4 M4 σ4 H4 S4 f4 q4 => k.nx ρ4 M4 σ4 H4 S4 ((((f.trans f').trans f2).trans f3).trans f4) q4
    · exact fun ρ4 M4 σ4 H4 S4 f4 q4 => ⟨ρ4, M4, S4, ((f'.trans f2).trans f3).trans f4, q4⟩
  · have e : i = xs.length := by omega
    subst e
    exact .inl ⟨w2 _ (Nat.le_refl _), k.nx ρ' M' σ' H' S' (f.trans f') (fin ρ' M' iv)⟩
/-- while -/
theorem qs_while {t : Expr} {body : List Stmt} (Iv : Nat → DEnv → Mem → Prop) (h0 : ∃ m, Iv m ρ M)
    (step : ∀ m ρ' M', Iv m ρ' M' → QT C t ρ' M' fun b M2 => (b = true → QSs C body ρ' M2 { E with nx := fun ρ3 M3 => ∃ m', m' < m ∧ Iv m' ρ3 M3, ct := fun ρ3 M3 => ∃ m', m' < m ∧ Iv m' ρ3 M3, bk := E.nx }) ∧ (b = false → E.nx ρ' M2)) : QS C (.While t body [] pos) ρ M E :=
  .of (ps_while C.own pt_W pss_W) fun σ H S w De k => by
    obtain ⟨m0, h0⟩ := h0
    refine ⟨fun m σ' H' => ∃ ρ' M', SI C.K C.T C.Z ρ' M' σ' H' ∧ Fr M H M' H' ∧ Iv m ρ' M', ⟨m0, ρ, M, S, .refl _ _, h0⟩, ?_⟩
    rintro m σ' H' ⟨ρ', M', S', f', iv⟩
    refine step m ρ' M' iv σ' H' S' (w.fr f') _ fun b H2 M2 hi2 f2 ⟨h1, h2⟩ => ?_
    cases b with
    | true =>
      rw [if_pos rfl]
      refine ⟨fun σ3 H3 => ∃ ρ3 M3 m', m' < m ∧ SI C.K C.T C.Z ρ3 M3 σ3 H3 ∧ Fr M H M3 H3 ∧ Iv m' ρ3 M3, fun σ3 H3 ⟨ρ3, M3, m', hl, S3, f3, iv3⟩ => ⟨m', hl, ρ3, M3, S3, f3, iv3⟩, ?_⟩
      refine h1 rfl σ' H2 (S'.fr f2 hi2) (w.fr (f'.trans f2)) _ ⟨?_, ?_, ?_, ?_⟩
      · exact fun ρ4 M4 σ4 H4 S4 f4 ⟨m', hl, q4⟩ => ⟨ρ4, M4, m', hl, S4, (f'.trans f2).trans f4, q4⟩
      · exact fun v H4 M4 d hi4 f4 r4 q4 => k.rt v H4 M4 d hi4 ((f'.trans f2).trans f4) r4 q4
      · exact fun ρ4 M4 σ4 H4 S4 f4 q4 => k.nx ρ4 M4 σ4 H4 S4 ((f'.trans f2).trans f4) q4
      · exact fun ρ4 M4 σ4 H4 S4 f4 ⟨m', hl, q4⟩ => ⟨ρ4, M4, m', hl, S4, (f'.trans f2).trans f4, q4⟩
    | false =>
      rw [if_neg Bool.false_ne_true]
      exact k.nx ρ' M2 σ' H2 (S'.fr f2 hi2) (f'.trans f2) (h2 rfl)
end
end Q
namespace Q
open PySem PySem.Spec PyProof.Rows L2 LamX
theorem HI.spi {K : PySem.W.Frag} {T : List (Addr × Str)} {M : Mem} {σ : L2.St} {ρ : DEnv} {H : Hp} (hi : HI K T M H) (hl : σ.length = ρ.length) (h : ∀ (i : Nat) (d : D), ρ[i]? = some (some d) → ∃ v, σ[i]? = some (some v) ∧ Rp K (sub H M) v d) : SI K T .no ρ M σ H := ⟨hl, h, hi, trivial⟩
/-! ### a def by its body -/
section
variable {P : Program} {w : World} {K : PySem.W.Frag} {mg : Str → Option Value} {base : Heap} {T : List (Addr × Str)}
/-- the context of a body that lets nothing out -/
@[reducible] def cqN (P : Program) (w : World) (K : PySem.W.Frag) (mg : Str → Option Value) (base : Heap) (T : List (Addr × Str)) (N : List Str) (x : Str) (sc : Scope) (f : Addr) (k : Nat) (nd : N.Nodup) (bn : BN mg) (cdv : Value) (A : Around) (outer : List Env) (s : Shared) (H : Hp) (E : XK)
    (hr : Room k (A.deeper (envOfC x sc s.heap.objs.size f cdv))) : Cq :=
  { X := (cxOf (L2.CX P w) P w K mg base N x sc f cdv A outer s H E).nox, T := T, Z := .no, W := fun _ _ _ _ => False, R := fun _ _ _ _ => False, k := k, tk := L2.takes0, own := PassesOwn.never, nd := nd, room := fun _ => hr, bn := bn }
/-- .. that may raise what Xd says -/
@[reducible] def cqX (P : Program) (w : World) (K : PySem.W.Frag) (mg : Str → Option Value) (base : Heap) (T : List (Addr × Str)) (N : List Str) (x : Str) (sc : Scope) (f : Addr) (k : Nat) (nd : N.Nodup) (bn : BN mg) (cdv : Value) (A : Around) (outer : List Env) (s : Shared) (H : Hp) (E : XK)
    (hr : Room k (A.deeper (envOfC x sc s.heap.objs.size f cdv))) (Xd : Value → List (Str × D) → Mem → Prop) : Cq :=
  { X := cxOf (L2.CX P w) P w K mg base N x sc f cdv A outer s H E, T := T, Z := .no, W := fun cls d _ H => E cls d H, R := fun cls fs _ M => Xd cls fs M, k := k, tk := takes_of rfl rfl rfl rfl, own := passes_of rfl, nd := nd, room := fun _ => hr, bn := bn }
theorem RpA.start {K : PySem.W.Frag} {H : Hp} {vs : List V} {ds : List D} (r : RpA K H vs ds) (n : Nat) : ∀ (i : Nat) (d : D), (ds.map some ++ List.replicate n none : DEnv)[i]? = some (some d) → ∃ v, (vs.map some ++ List.replicate n none : L2.St)[i]? = some (some v) ∧ Rp K H v d := by
  intro i d e
  by_cases hl : i < ds.length
  · rw [List.getElem?_append_left (by simpa using hl), List.getElem?_map] at e
    cases e2 : ds[i]? with
    | none => rw [e2] at e; cases e
    | some d' =>
      rw [e2] at e
      cases e
      obtain ⟨v, h1, h2⟩ := r.get e2
      exact ⟨v, by rw [List.getElem?_append_left (by rw [List.length_map, r.length]; exact hl), List.getElem?_map, h1]; rfl, h2⟩
  · rw [List.getElem?_append_right (by simpa using hl)] at e
    have := List.mem_of_getElem? e
    have := (List.mem_replicate.mp this).2
    cases this
theorem si_start {M : Mem} {H : Hp} {N : List Str} {vs : List V} {ds : List D} {n : Nat} (hi : HI K T M H) (r : RpA K (sub H M) vs ds) (hn : N.length - ds.length = n) : SI K T .no (ds.map some ++ List.replicate n none) M (L2.start N vs) H := by
  unfold L2.start
  rw [r.length, hn]
  exact hi.spi (by simp [r.length]) (r.start n)
theorem hasF {x : Str} {st : Stmt} {f : Addr} {fd : FuncData} {N ps : List Str} {k n : Nat} {c : Con} (F : Fun K x x st f fd) (S : FnScope N ps (defScope st)) (hm : mg x = some (.ref f)) (hb : Binds K fd ps []) (bn : BN mg)
    (hn : ps.length = n) (len : ∀ ds M Q Xd, c ds M Q Xd → ds.length = n)
    (body : ∀ (cdv : Value) (A : Around) (outer : List Env) (s : Shared) (H : Hp) (E : XK) (hr : Room k (A.deeper (envOfC x (defScope st) s.heap.objs.size f cdv))) (ds : List D) (M : Mem) (Q : PD) (Xd : Value → List (Str × D) → Mem → Prop), c ds M Q Xd →
      QSs (cqN P w K mg base T N x (defScope st) f k S.nd bn cdv A outer s H E hr) (defBody st) (ds.map some ++ List.replicate (N.length - n) none) M { nx := fun _ M' => Q .non M', rt := Q }) : HasF P w K mg base T x n (k + 1) c := by
  refine ⟨f, fd, ps, ?_, hn, hm, F.kp, hb⟩
  refine F.okX S (fun vs H Q E ⟨ds, M, Qd, Xd, hi, r, h, _⟩ => by rw [r.length, len _ _ _ _ h, hn]) fun cdv A outer s H vs Q E hr ⟨ds, M, Qd, Xd, hi, r, h, kq, kx⟩ => ?_
  refine ⟨_, pss_W.nox, ?_⟩
  have hl := len _ _ _ _ h
  exact body cdv A outer s H E hr ds M Qd Xd h (L2.start N vs) H (si_start hi r (by rw [hl])) (fun _ _ _ _ _ _ _ _ _ _ z => z.elim) _
    ⟨fun ρ' M' σ' H' S' f' q => kq .non H' M' .non S'.hi f' .non q, fun v H' M' d hi' f' r' q => kq v H' M' d hi' f' r' q, fun _ _ _ _ _ _ z => z.elim, fun _ _ _ _ _ _ z => z.elim⟩
theorem hasFX {x : Str} {st : Stmt} {f : Addr} {fd : FuncData} {N ps : List Str} {k n : Nat} {c : Con} (F : Fun K x x st f fd) (S : FnScope N ps (defScope st)) (hm : mg x = some (.ref f)) (hb : Binds K fd ps []) (bn : BN mg)
    (hn : ps.length = n) (len : ∀ ds M Q Xd, c ds M Q Xd → ds.length = n)
    (body : ∀ (cdv : Value) (A : Around) (outer : List Env) (s : Shared) (H : Hp) (E : XK) (hr : Room k (A.deeper (envOfC x (defScope st) s.heap.objs.size f cdv))) (ds : List D) (M : Mem) (Q : PD) (Xd : Value → List (Str × D) → Mem → Prop), c ds M Q Xd →
      QSs (cqX P w K mg base T N x (defScope st) f k S.nd bn cdv A outer s H E hr Xd) (defBody st) (ds.map some ++ List.replicate (N.length - n) none) M { nx := fun _ M' => Q .non M', rt := Q }) : HasF P w K mg base T x n (k + 1) c := by
  refine ⟨f, fd, ps, ?_, hn, hm, F.kp, hb⟩
  refine F.okX S (fun vs H Q E ⟨ds, M, Qd, Xd, hi, r, h, _⟩ => by rw [r.length, len _ _ _ _ h, hn]) fun cdv A outer s H vs Q E hr ⟨ds, M, Qd, Xd, hi, r, h, kq, kx⟩ => ?_
  refine ⟨_, pss_W, ?_⟩
  have hl := len _ _ _ _ h
  exact body cdv A outer s H E hr ds M Qd Xd h (L2.start N vs) H (si_start hi r (by rw [hl])) (fun _ H' M' _ cls d fs S' f' x' z => kx cls d H' M' fs S'.hi f' x' z) _
    ⟨fun ρ' M' σ' H' S' f' q => kq .non H' M' .non S'.hi f' .non q, fun v H' M' d hi' f' r' q => kq v H' M' d hi' f' r' q, fun _ _ _ _ _ _ z => z.elim, fun _ _ _ _ _ _ z => z.elim⟩
end
/-! ### comprehensions -/
abbrev Cq.blk (C : Cq) (s : Shared) (H : Hp) (scope : Scope) (cc : Addr) (cl : List (Str × Addr)) (fp : List Addr) : Cq :=
  { X := C.X.blk s H scope (compEnvC scope cl cc C.X.env) fp, T := C.T, Z := C.Z, W := fun _ _ _ _ => False, R := fun _ _ _ _ => False, k := C.k, tk := L2.takes0, own := PassesOwn.never, nd := C.nd, room := C.room, bn := C.bn }
def wipeD (ρ : DEnv) : List Nat → DEnv
  | [] => ρ
  | v :: vs => (wipeD ρ vs).set v none
section
variable {C : Cq} {e elt tg a b : Expr} {es ifs : List Expr} {ρ : DEnv} {M : Mem} {P : PD} {PB : Bool → Mem → Prop} {pos p : Pos} {E : DE}
theorem SI.wipe {K : PySem.W.Frag} {T : List (Addr × Str)} {Z : Anc} {M : Mem} {H : Hp} {ρ : DEnv} {σ : L2.St} (S : SI K T Z ρ M σ H) : ∀ vs : List Nat, SI K T Z (wipeD ρ vs) M (L2.wipe σ vs) H
  | [] => S
  | v :: vs => (SI.wipe S vs).forget v none
theorem wipe_set {σ : L2.St} {i : Nat} {x : Option V} : ∀ {vs : List Nat}, i ∈ vs → L2.wipe (σ.set i x) vs = L2.wipe σ vs
  | v :: vs, h => by
    unfold L2.wipe
    by_cases hv : i ∈ vs
    · rw [wipe_set hv]
    · have e : i = v := by
        rcases List.mem_cons.mp h with e | e
        · exact e
        · exact absurd e hv
      subst e
      have : ∀ vs : List Nat, i ∉ vs → (L2.wipe (σ.set i x) vs).set i none = (L2.wipe σ vs).set i none := by
        intro vs
        induction vs with
        | nil => intro _; show ((σ.set i x).set i none) = σ.set i none; rw [List.set_set]
        | cons u us ih =>
          intro hn
          have h1 : i ≠ u := fun z => hn (by rw [z]; exact List.mem_cons_self)
          have h2 : i ∉ us := fun z => hn (List.mem_cons_of_mem _ z)
          show ((L2.wipe (σ.set i x) us).set u none).set i none = ((L2.wipe σ us).set u none).set i none
          rw [List.set_comm _ _ (Ne.symm h1), ih h2, List.set_comm _ _ h1]
      exact this vs hv
theorem wipe_in {σ : L2.St} {i : Nat} : ∀ {vs : List Nat}, i ∈ vs → i < σ.length → (L2.wipe σ vs)[i]? = some none
  | v :: vs, h, hl => by
    unfold L2.wipe
    by_cases e : v = i
    · subst e
      rw [List.getElem?_set_self (by rw [L2.wipe_length]; exact hl)]
    · rw [List.getElem?_set_ne e]
      rcases List.mem_cons.mp h with z | z
      · exact absurd z.symm e
      · exact wipe_in z hl
theorem wipe_idem {σ : L2.St} {vs : List Nat} : L2.wipe (L2.wipe σ vs) vs = L2.wipe σ vs := by
  apply List.ext_getElem?
  intro i
  by_cases h : i ∈ vs
  · by_cases hl : i < σ.length
    · rw [wipe_in h (by rw [L2.wipe_length]; exact hl), wipe_in h hl]
    · rw [List.getElem?_eq_none (by rw [L2.wipe_length, L2.wipe_length]; omega), List.getElem?_eq_none (by rw [L2.wipe_length]; omega)]
  · rw [L2.wipe_out h]
/-- a target whose names are the block's own -/
structure QGw (C : Cq) (vs : List Nat) (tg : Expr) (ρ : DEnv) (M : Mem) (x : D) (N : DEnv → Mem → Prop) : Prop where
  run : ∀ σ H v, SI C.K C.T C.Z ρ M σ H → Rp C.K (sub H M) v x → ∀ Q : L2.St → Hp → Prop,
  (∀ ρ' σ' H', SI C.K C.T C.Z ρ' M σ' H' → Fr M H M H' → L2.wipe σ' vs = L2.wipe σ vs → N ρ' M → Q σ' H') → WG C.X tg v σ H Q
theorem qgw_name {vs : List Nat} {x : Str} {d : D} {N : DEnv → Mem → Prop} (i : Nat) (hv : i ∈ vs) (hi : C.X.N[i]? = some x) (hx : Loc C.X.env.scope x) (h : N (ρ.set i (some d)) M)
    (hf : C.X.fn x = true ∨ C.X.env.scope.names.lookup x = some .local := by first | exact .inl rfl | exact .inr rfl) : QGw C vs (.Name x pos) ρ M d N :=
  ⟨fun σ H v S r Q k pins s u I ru => (pg_name C.nd hi hx hf).run pins s σ H v u Q I ru (k _ _ H (S.set r i) (.refl _ _) (wipe_set hv) h)⟩
structure QGsw (C : Cq) (ws : List Nat) (ts : List Expr) (ρ : DEnv) (M : Mem) (xs : List D) (N : DEnv → Mem → Prop) : Prop where
  ex : ∃ t, PGs C.X ts t ∧ ∀ σ H vs, SI C.K C.T C.Z ρ M σ H → RpA C.K (sub H M) vs xs → ∀ Q : L2.St → Hp → Prop,
  (∀ ρ' σ' H', SI C.K C.T C.Z ρ' M σ' H' → Fr M H M H' → L2.wipe σ' ws = L2.wipe σ ws → N ρ' M → Q σ' H') → t vs σ H Q
theorem qgsw_nil {ws : List Nat} {N : DEnv → Mem → Prop} (h : N ρ M) : QGsw C ws [] ρ M [] N := ⟨_, pgs_nil, fun σ H vs S r Q k => by
  cases r
  exact ⟨rfl, k ρ σ H S (.refl _ _) rfl h⟩⟩
theorem qgsw_name {ws : List Nat} {x : Str} {d : D} {ds : List D} {ts : List Expr} {N : DEnv → Mem → Prop} (i : Nat) (hv : i ∈ ws) (hi : C.X.N[i]? = some x) (hx : Loc C.X.env.scope x) (h : QGsw C ws ts (ρ.set i (some d)) M ds N)
    (hf : C.X.fn x = true ∨ C.X.env.scope.names.lookup x = some .local := by first | exact .inl rfl | exact .inr rfl)
    (hs : (assignEach (.Name x pos :: ts) C.X.env).map (·.2) = assign (.Name x pos) C.X.env :: (assignEach ts C.X.env).map (·.2) := by rfl) : QGsw C ws (.Name x pos :: ts) ρ M (d :: ds) N := by
  obtain ⟨t, h1, h2⟩ := h.ex
  refine ⟨_, pgs_cons (pg_name C.nd hi hx hf) h1 hs, fun σ H vs S r Q k => ?_⟩
  cases r with
  | cons r rs => exact ⟨_, _, rfl, h2 _ H _ (S.set r i) rs Q fun ρ' σ' H' S' f' e q => k ρ' σ' H' S' f' (e.trans (wipe_set hv)) q⟩
theorem qgw_tup {ws : List Nat} {es : List Expr} {x : Nat} {ds : List D} {N : DEnv → Mem → Prop} (h : QGsw C ws es ρ M ds N) (hc : C.X.calm = true := by rfl) (hn : (assignEach es C.X.env).length = ds.length := by rfl) (hst : (assignEach es C.X.env).findIdx? (·.1) = none := by rfl) :
    QGw C ws (.Tuple es x pos) ρ M (.tup ds) N := by
  obtain ⟨t, h1, h2⟩ := h.ex
  refine ⟨fun σ H v S r Q k pins s u I ru => (pg_tup hc h1 hn hst).run pins s σ H v u Q I ru ?_⟩
  cases r with
  | tup h3 h4 => exact ⟨_, _, rfl, sqT_sub h3, h4.length, h2 σ H _ S h4 Q k⟩
def WTs (X : Cx) (ifs : List Expr) : TT := fun σ H Q => ∀ pins s, L2.Inv X pins σ H s →
    wpAny (model X.prog X.w) X.A (forIn ifs true fun c r => if r = true then do let ok ← isTrue c X.env (eval c X.env); pure (ForInStep.yield ok) else pure (ForInStep.yield r)) (TP X pins σ Q) X.xe s
theorem pts_W {X : Cx} {ifs : List Expr} : PTs X ifs (WTs X ifs) := ⟨fun pins s σ H Q I h => h pins s I⟩
structure QTs (C : Cq) (ifs : List Expr) (ρ : DEnv) (M : Mem) (P : Bool → Mem → Prop) : Prop where
  run : TvQ C (WTs C.X ifs) ρ M P
theorem qts_nil (h : PB true M) : QTs C [] ρ M PB := ⟨fun σ H S w Q k pins s I => pts_nil.run pins s σ H Q I (k true H M S.hi (.refl _ _) h)⟩
theorem qts_one (h : QT C e ρ M PB) : QTs C [e] ρ M PB := ⟨fun σ H S w Q k pins s I => (pts_one pt_W).run pins s σ H Q I (h σ H S w Q k)⟩
def CompH (C : Cq) (scope : Scope) (tg : Expr) (ifs : List Expr) (elt : Expr) (vs : List Nat) (ρ : DEnv) (M1 : Mem) (xs : List D) (P : PD) : Prop :=
  ∀ L, M1 L = none → ∃ Iv : Nat → Mem → Prop, Iv 0 (mupd M1 L (.lst [])) ∧
    (∀ i x M', xs[i]? = some x → Iv i M' → ∀ s H cc cl fp, QGw (C.blk s H scope cc cl fp) vs tg (wipeD ρ vs) M' x fun ρ2 M2 => ∀ s H cc cl fp, QTs (C.blk s H scope cc cl fp) ifs ρ2 M2 fun b M3 =>
      (b = true → ∀ s H cc cl fp, QE (C.blk s H scope cc cl fp) elt ρ2 M3 fun d M4 => ∃ acc, M4 L = some (.lst acc) ∧ acc.length < sizeLine ∧ Iv (i + 1) (mupd M4 L (.lst (acc ++ [d])))) ∧ (b = false → Iv (i + 1) M3)) ∧
    ∀ M', Iv xs.length M' → P (.oth (.ref L)) M'
def gB (C : Cq) (scope : Scope) (tg : Expr) : TG := fun v σ H Q => ∀ s H0 cc cl fp, WG (C.X.blk s H0 scope (compEnvC scope cl cc C.X.env) fp) tg v σ H Q
def ttB (C : Cq) (scope : Scope) (ifs : List Expr) : TT := fun σ H Q => ∀ s H0 cc cl fp, WTs (C.X.blk s H0 scope (compEnvC scope cl cc C.X.env) fp) ifs σ H Q
def teB (C : Cq) (scope : Scope) (elt : Expr) : TE := fun σ H Q => ∀ s H0 cc cl fp, WE (C.X.blk s H0 scope (compEnvC scope cl cc C.X.env) fp) elt σ H Q
theorem pgB {scope : Scope} : ∀ (s : Shared) (H : Hp) (cc : Addr) (cl : List (Str × Addr)) (fp : List Addr), PG (C.X.blk s H scope (compEnvC scope cl cc C.X.env) fp) tg (gB C scope tg) := fun s H0 cc cl fp => ⟨fun pins s' σ H v u Q I r h => h s H0 cc cl fp pins s' u I r⟩
theorem ptsB {scope : Scope} : ∀ (s : Shared) (H : Hp) (cc : Addr) (cl : List (Str × Addr)) (fp : List Addr), PTs (C.X.blk s H scope (compEnvC scope cl cc C.X.env) fp) ifs (ttB C scope ifs) := fun s H0 cc cl fp => ⟨fun pins s' σ H Q I h => h s H0 cc cl fp pins s' I⟩
theorem peB {scope : Scope} : ∀ (s : Shared) (H : Hp) (cc : Addr) (cl : List (Str × Addr)) (fp : List Addr), PE (C.X.blk s H scope (compEnvC scope cl cc C.X.env) fp) elt (teB C scope elt) := fun s H0 cc cl fp => ⟨fun pins s' σ H Q I h => h s H0 cc cl fp pins s' I⟩
theorem ev_comp {scope : Scope} {vs : List Nat} {wi : TI} (q : IvQ C wi ρ M fun xs M1 => CompH C scope tg ifs elt vs ρ M1 xs P) :
    EvQ C (tLc wi (gB C scope tg) (ttB C scope ifs) (teB C scope elt) vs) ρ M P := by
  refine fun σ H S w Q k => q σ H S w _ fun J H1 M1 xs hi f wk cp L hL => ?_
  obtain ⟨Iv, h0, step, fin⟩ := cp L (hi.mnone hL)
  have S1 := S.fr f hi
  have hi1 := hi.newM (m := .lst []) (o := .lst []) hL .nil
  have f1 : Fr M1 H1 (mupd M1 L (.lst [])) (upd H1 L (.lst [])) := fr_newM hi hL
  refine ⟨fun i m H' => m = xs.length - i ∧ i ≤ xs.length ∧ ∃ M', HI C.K C.T M' H' ∧ Fr M1 H1 M' H' ∧ Iv i M', ⟨_, rfl, Nat.zero_le _, _, hi1, f1, h0⟩, ?_⟩
  rintro i m H' ⟨rfl, hle, M', hi', f', iv⟩
  obtain ⟨w1, w2⟩ := wk M' H' hi' f'
  by_cases hlt : i < xs.length
  · obtain ⟨g1, g2⟩ := w1 i xs[i] (by simp [hlt])
    refine .inr ⟨g1, fun H2 => ∃ M2, HI C.K C.T M2 H2 ∧ Fr M1 H1 M2 H2 ∧ Iv (i + 1) M2, fun H2 ⟨M2, hi2, f2, iv2⟩ => ⟨xs.length - (i + 1), by omega, rfl, hlt, M2, hi2, f2, iv2⟩, fun v H2 y => ?_⟩
    obtain ⟨hi2, f2, r2⟩ := g2 v H2 y
    have S2 : SI C.K C.T C.Z (wipeD ρ vs) M' (L2.wipe σ vs) H2 := (S1.fr (f'.trans f2) hi2).wipe vs
    intro s0 H0 cc cl fp
    refine (step i xs[i] M' (by simp [hlt]) iv s0 H0 cc cl fp).run (L2.wipe σ vs) H2 v S2 r2 _ fun ρ3 σ3 H3 S3 f3 e3 q3 => ?_
    refine ⟨e3.trans wipe_idem, fun s1 H01 cc1 cl1 fp1 => ?_⟩
    refine (q3 s1 H01 cc1 cl1 fp1).run σ3 H3 S3 (fun _ _ _ _ _ _ _ _ _ _ z => z.elim) _ fun b H4 M4 hi4 f4 ⟨ht, hf⟩ => ?_
    have f14 := ((f'.trans f2).trans f3).trans f4
    cases b with
    | false =>
      rw [if_neg Bool.false_ne_true]
      exact ⟨M4, hi4, f14, hf rfl⟩
    | true =>
      rw [if_pos rfl]
      intro s2 H02 cc2 cl2 fp2
      refine ht rfl s2 H02 cc2 cl2 fp2 σ3 H4 (S3.fr f4 hi4) (fun _ _ _ _ _ _ _ _ _ _ z => z.elim) _ fun u H5 M5 d hi5 f5 r5 ⟨acc, e5, l5, iv5⟩ => ?_
      obtain ⟨o, g3, g4⟩ := hi5.mem L _ e5
      obtain ⟨us, rfl, g4⟩ := g4.lst
      refine ⟨us, g3, by rw [g4.length]; exact l5, mupd M5 L (.lst (acc ++ [d])), hi5.wr e5 (g4.append (.cons r5 .nil)), (f14.trans f5).trans (fr_wr e5), iv5⟩
  · have e : i = xs.length := by omega
    subst e
    refine .inl ⟨w2 _ (Nat.le_refl _), k (.ref L) H' M' (.oth (.ref L)) hi' (f.trans f') (.oth _) (fin M' iv)⟩
theorem ev_frz {te : TE} (h : EvQ C te ρ M fun d M' => ∃ p ds, d = .oth (.ref p) ∧ M' p = some (.lst ds) ∧ P (.lst ds) (mdel M' p)) : EvQ C te ρ M P := fun σ H S w Q k =>
  h σ H S w Q fun v H1 M1 d hi f r ⟨p, ds, e, hp, q⟩ => by
    subst e
    cases r
    obtain ⟨o, h1, h2⟩ := hi.mem p _ hp
    obtain ⟨vs, rfl, h2⟩ := h2.lst
    exact k _ H1 _ _ hi.del (f.trans fr_del) (.lst (sub_of (by unfold mdel; exact if_pos rfl) h1) (h2.mono sb_del)) q
theorem qe_comp {scope : Scope} (own : List (Str × Nat)) (h : QI C tg a ρ M fun xs M1 => CompH C scope tg ifs elt (own.map (·.2)) ρ M1 xs P) (ok : BlkOk C.X.N C.X.env.scope scope own) (hc : C.X.calm = true := by rfl) (hs : ∀ x, foldedSetIterable a C.X.env x = pure x := by intro _; rfl) :
    QE C (.ListComp elt [⟨tg, a, ifs, 0⟩] scope pos) ρ M P := by
  obtain ⟨wi, pi, q⟩ := h.ex
  refine .of (pe_lc (own := own) hc C.nd pi ok pgB ptsB peB hs) (ev_comp q)
/-- y = [..] -/
theorem qs_setComp {scope : Scope} {y : Str} {py spos : Pos} (i : Nat) (own : List (Str × Nat)) (hy : C.X.N[i]? = some y) (hyl : C.X.env.scope.names.lookup y = some .local)
    (h : QI C tg a ρ M fun xs M1 => CompH C scope tg ifs elt (own.map (·.2)) ρ M1 xs fun d M' => E.nx (ρ.set i (some d)) M') (ok : BlkOk C.X.N C.X.env.scope scope own)
    (hsw : swapsWith (.ListComp elt [⟨tg, a, ifs, 0⟩] scope pos) (some (.Name y py)) spos.line C.X.env = pure true) (hc : C.X.calm = true := by rfl) (hs : ∀ x, foldedSetIterable a C.X.env x = pure x := by intro _; rfl) :
    QS C (.Assign [.Name y py] (.ListComp elt [⟨tg, a, ifs, 0⟩] scope pos) spos) ρ M E := by
  obtain ⟨wi, pi, q⟩ := h.ex
  refine .of (ps_setLc (own := own) hc C.nd hy hyl hsw pi ok pgB ptsB peB hs) ?_
  refine fun σ H S w De k => ev_comp q σ H S w _ fun v H' M' d hi f r p => k.nx _ M' _ H' ((S.fr f hi).set r i) f p
/-- y = [..], frozen -/
theorem qs_setCompF {scope : Scope} {y : Str} {py spos : Pos} (i : Nat) (own : List (Str × Nat)) (hy : C.X.N[i]? = some y) (hyl : C.X.env.scope.names.lookup y = some .local)
    (h : QI C tg a ρ M fun xs M1 => CompH C scope tg ifs elt (own.map (·.2)) ρ M1 xs fun d M' => ∃ p ds, d = .oth (.ref p) ∧ M' p = some (.lst ds) ∧ E.nx (ρ.set i (some (.lst ds))) (mdel M' p)) (ok : BlkOk C.X.N C.X.env.scope scope own)
    (hsw : swapsWith (.ListComp elt [⟨tg, a, ifs, 0⟩] scope pos) (some (.Name y py)) spos.line C.X.env = pure true) (hc : C.X.calm = true := by rfl) (hs : ∀ x, foldedSetIterable a C.X.env x = pure x := by intro _; rfl) :
    QS C (.Assign [.Name y py] (.ListComp elt [⟨tg, a, ifs, 0⟩] scope pos) spos) ρ M E := by
  obtain ⟨wi, pi, q⟩ := h.ex
  refine .of (ps_setLc (own := own) hc C.nd hy hyl hsw pi ok pgB ptsB peB hs) ?_
  refine fun σ H S w De k => ev_frz (P := fun d M' => E.nx (ρ.set i (some d)) M') (ev_comp q) σ H S w _ fun v H' M' d hi f r p => k.nx _ M' _ H' ((S.fr f hi).set r i) f p
end
end Q
namespace PySem.XG
open PySem PySem.W PySem.Calls PyProof.Rows PySem.HandSPX
open Builtin Builtin.ObjectAttr
/-! ### own exception classes over any built-in one -/
/-- what a built-in class must keep -/
structure BaseX (B newId initId : String) (tl : List Value) : Prop where
  base : ExcBaseFacts B newId initId tl
  pass : ∀ self, refuseLoop self "__setattr__" tl = pure ()
  obj : tl.contains (.type "object") = true
  ne : tl.isEmpty = false
theorem bxV : BaseX "ValueError" "ValueError.__new__" "ValueError.__init__" [.type "ValueError", .type "Exception", .type "BaseException", .type "object"] := ⟨F.excBase_ValueError, F.store_ValueError.passes, by decide +kernel, rfl⟩
theorem bxL : BaseX "LookupError" "LookupError.__new__" "LookupError.__init__" [.type "LookupError", .type "Exception", .type "BaseException", .type "object"] := ⟨F.excBase_LookupError, F.store_LookupError.passes, by decide +kernel, rfl⟩
theorem bxR : BaseX "RuntimeError" "RuntimeError.__new__" "RuntimeError.__init__" [.type "RuntimeError", .type "Exception", .type "BaseException", .type "object"] := ⟨F.excBase_RuntimeError, F.store_RuntimeError.passes, by decide +kernel, rfl⟩
theorem bxO : BaseX "OverflowError" "OverflowError.__new__" "OverflowError.__init__" [.type "OverflowError", .type "ArithmeticError", .type "Exception", .type "BaseException", .type "object"] := ⟨F.excBase_OverflowError, F.store_OverflowError.passes, by decide +kernel, rfl⟩
/-- own classes, then the built-in one's line -/
def over (tl : List Value) : List Value → Bool
  | .ref c :: r => over tl r
  | l => l == tl
theorem over_split {tl : List Value} : ∀ l : List Value, over tl l = true → (∃ c r, l = .ref c :: r ∧ over tl r = true) ∨ l = tl := by
  intro l h
  cases l with
  | nil => exact .inr (beq_iff_eq.mp h)
  | cons a r =>
    cases a with
    | ref c => exact .inl ⟨c, r, rfl, h⟩
    | _ => exact .inr (beq_iff_eq.mp h)
section
variable {B newId initId : String} {tl : List Value}
theorem over_pass (b : BaseX B newId initId tl) (self : Value) : ∀ l : List Value, over tl l = true → refuseLoop self "__setattr__" l = pure () := by
  intro l
  induction l with
  | nil =>
    intro h
    rcases over_split [] h with ⟨_, _, e, _⟩ | e
    · cases e
    · rw [e]; exact b.pass self
  | cons a r ih =>
    intro h
    rcases over_split (a :: r) h with ⟨c, r', e, h'⟩ | e
    · cases e
      rw [refuseLoop_ref]
      exact ih h'
    · rw [e]; exact b.pass self
theorem over_has (T : String) : ∀ l : List Value, over tl l = true → l.contains (.type T) = tl.contains (.type T) := by
  intro l
  induction l with
  | nil =>
    intro h
    rcases over_split [] h with ⟨_, _, e, _⟩ | e
    · cases e
    · rw [e]
  | cons a r ih =>
    intro h
    rcases over_split (a :: r) h with ⟨c, r', e, h'⟩ | e
    · cases e
      rw [List.contains_cons, ih h']
      rfl
    · rw [e]
theorem over_ne (b : BaseX B newId initId tl) {l : List Value} (h : over tl l = true) : l.isEmpty = false := by
  cases l with
  | cons a r => rfl
  | nil =>
    rcases over_split [] h with ⟨_, _, e, _⟩ | e
    · cases e
    · rw [e]; exact b.ne
end
section
variable {prog : Program} {w : World} {A : Around} {E : Value → Shared → Prop} {R : Result → Shared → Prop} {hp : Heap} {g : Array GenState} {d : Drawn} {t : Nat} {os : OsState} {B newId initId : String} {tl : List Value}
/-- the first field of such an exception -/
theorem first {K : Frag} {name : Str} {tk : Tok} {v : Value} {x C : Addr} {fv : Array Value} {cd : ClassData} (b : BaseX B newId initId tl) (kin : K.In hp) (hx : hp.get? x = some { cls := .ref C, data := .fields fv }) (hc : clsIn K C = some cd)
    (hm : over tl cd.mro = true) (hd : cd.hasDict = true) (no : findIn K (.ref C) name = some none)
    (q : ∀ g' k' dx, (∀ c o, c ≠ x → hp.get? c = some o → g'.get? c = some o) → hp.objs.size ≤ dx → dx ≠ x → g'.get? x = some { cls := .ref C, dict := some dx, data := .fields fv } → g'.Ns1 dx (fun y => if y = name then some v else none) → R (.ok (.ret .none)) ⟨g', g, d, k', os⟩) :
    codeAny (model prog w) A (.call (.builtin "object.__setattr__") ⟨[.ref x, .str name tk, v], []⟩) R ⟨hp, g, d, t, os⟩ := by
  have J : InstAt hp x { cls := .ref C, data := .fields fv } C none := ⟨hx, rfl, rfl, trivial⟩
  have so := F.store_object
  have ob : cd.mro.contains (.type "object") = true := (over_has "object" _ hm).trans b.obj
  have nx : x ≠ hp.objs.size := Nat.ne_of_lt (Heap.lt_size hx)
  have isO : Looks (model prog w) hp (isInstance (.ref x) (.type "object")) true := J.type.andThen (looks_mroIn kin (by unfold mroIn; rw [hc, Option.bind_some, if_neg (by rw [over_ne b hm]; decide), ob]))
  have lm : Looks (model prog w) hp (mroOf (.ref C)) cd.mro := (looks_clsIn kin hc).andThen .now
  have lc : Looks (model prog w) hp (classData C) cd := looks_clsIn kin hc
  have lt : Looks (model prog w) hp (storeTaker? none) none := .now
  refine codeAny_call_builtin so.slot.plain so.entry (@check_slot (model prog w) _ _ ⟨hp, g, d, t, os⟩ "object.__setattr__" "object" "__setattr__" (.ref x) [.str name tk, v] [] _ so.kind so.split isO (so.args (.ref x) (.str name tk) v) ?_)
  rw [osa_eq, refuse_eq]
  refine wpAny_bind (wpAny_bind (J.type.at (wpAny_bind (lm.at ?_))))
  rw [over_pass b _ _ hm]
  refine wpAny_pure (wpAny_bind (J.type.at (wpAny_bind ((looks_findIn kin no).at (wpAny_bind (lt.at ?_))))))
  show wpAny _ _ (storeInOwnDict (.ref x) (.ref C) (.str name tk) name v false) _ _ _
  obtain ⟨_, _, _, _, _, hd', _, _, _, _, _⟩ := cd
  dsimp only at hd
  subst hd
  unfold storeInOwnDict ownDictForStores
  repeat (first | with_reducible refine store_in_new ?_ ?_ | with_reducible refine wpAny_loadPart_at hx ?_ | with_reducible refine lc.at ?_ | wp_step)
  · exact ⟨_, #[], _, (Heap.get?_update_ne _ _ _ _ nx.symm).trans (Heap.get?_push_at rfl rfl), rfl, (fun e he => absurd he (by simp)), fun _ => rfl⟩
  · intro g' k' ns sb
    have up : (hp.push { cls := .type "dict", data := .dict #[] }).get? x = some { cls := .ref C, data := .fields fv } := Heap.get?_push_of_some _ hx
    refine q g' k' hp.objs.size (fun c o nc ho => ?_) (Nat.le_refl _) nx.symm ?_ ns
    · exact (sb.2 c (Nat.ne_of_lt (Heap.lt_size ho))).trans ((Heap.get?_update_ne _ _ _ _ nc).trans (Heap.get?_push_of_some _ ho))
    · exact (sb.2 x nx).trans (Heap.get?_update_self _ up rfl)
/-- a further field -/
theorem further {K : Frag} {name : Str} {tk : Tok} {v : Value} {x C dx : Addr} {fv : Array Value} {cd : ClassData} {m0 : Str → Option Value} {nl : List Str} (b : BaseX B newId initId tl) (kin : K.In hp) (hx : hp.get? x = some { cls := .ref C, dict := some dx, data := .fields fv })
    (hns : hp.Ns1 dx m0) (hw : Within m0 nl) (hz : nl.length ≤ 1000) (hc : clsIn K C = some cd) (hm : over tl cd.mro = true) (hd : cd.hasDict = true) (no : findIn K (.ref C) name = some none)
    (q : ∀ g' k', (∀ c o, c ≠ dx → hp.get? c = some o → g'.get? c = some o) → g'.Ns1 dx (fun y => if y = name then some v else m0 y) → R (.ok (.ret .none)) ⟨g', g, d, k', os⟩) :
    codeAny (model prog w) A (.call (.builtin "object.__setattr__") ⟨[.ref x, .str name tk, v], []⟩) R ⟨hp, g, d, t, os⟩ := by
  obtain ⟨oD, _, _, hoD, _, _⟩ := hns.count hw
  have J : InstAt hp x { cls := .ref C, dict := some dx, data := .fields fv } C (some oD) := ⟨hx, rfl, rfl, hoD⟩
  have so := F.store_object
  have ob : cd.mro.contains (.type "object") = true := (over_has "object" _ hm).trans b.obj
  have isO : Looks (model prog w) hp (isInstance (.ref x) (.type "object")) true := J.type.andThen (looks_mroIn kin (by unfold mroIn; rw [hc, Option.bind_some, if_neg (by rw [over_ne b hm]; decide), ob]))
  have lm : Looks (model prog w) hp (mroOf (.ref C)) cd.mro := (looks_clsIn kin hc).andThen .now
  have lc : Looks (model prog w) hp (classData C) cd := looks_clsIn kin hc
  have lt : Looks (model prog w) hp (storeTaker? none) none := .now
  refine codeAny_call_builtin so.slot.plain so.entry (@check_slot (model prog w) _ _ ⟨hp, g, d, t, os⟩ "object.__setattr__" "object" "__setattr__" (.ref x) [.str name tk, v] [] _ so.kind so.split isO (so.args (.ref x) (.str name tk) v) ?_)
  rw [osa_eq, refuse_eq]
  refine wpAny_bind (wpAny_bind (J.type.at (wpAny_bind (lm.at ?_))))
  rw [over_pass b _ _ hm]
  refine wpAny_pure (wpAny_bind (J.type.at (wpAny_bind ((looks_findIn kin no).at (wpAny_bind (lt.at ?_))))))
  show wpAny _ _ (storeInOwnDict (.ref x) (.ref C) (.str name tk) name v false) _ _ _
  obtain ⟨_, _, _, _, _, hd', _, _, _, _, _⟩ := cd
  dsimp only at hd
  subst hd
  unfold storeInOwnDict ownDictForStores
  repeat (first | with_reducible refine PySem.OEX.store_in_old hns hw hz ?_ | with_reducible refine wpAny_loadPart_at hx ?_ | with_reducible refine lc.at ?_ | wp_step)
  intro g' k' ns sb
  exact q g' k' (fun c o nc ho => (sb.2 c nc).trans ho) ns
end
end PySem.XG
namespace Q
open PySem PySem.Spec PyProof.Rows L2 LamX PySem.XG
structure OexG (K : PySem.W.Frag) (C : Addr) : Prop where
  cls : ∃ B newId initId tl, BaseX B newId initId tl ∧ ∃ nm q N bs bm sn sub ab col dd k0 k1 k2 k3 k5, K.lookup C = some (excClassObj nm q C N bs bm true sn sub ab col dd k0 k1 k2 k3 k5 newId) ∧ over tl bm = true
  sa : PySem.W.findIn K (.ref C) "__setattr__" = some (some (.builtin "object.__setattr__"))
  exC : PySem.W.subIn K (.ref C) (.type "BaseException") = some true
  tyC : PySem.W.typeIn K (.ref C) = some (.type "type")
  kC : PySem.W.keepIn K (.ref C) = true
section
variable {X : Cx} {pins : List (Addr × Obj)} {σ : L2.St} {H : Hp} {s : Shared} {a C dx : Addr} {f : Str} {y : V} {u : Value} {fs : List (Str × V)} {Q : Unit → Shared → Prop} {E : Value → Shared → Prop} {A : Around}
theorem put_first (T : OexG X.K C) (I : L2.Inv X pins σ H s) (e : H a = some (exo a C none)) (no : PySem.W.findIn X.K (.ref C) f = some none) (ry : RelV y u)
    (h : ∀ dx s', H dx = none → dx ≠ a → L2.Inv X pins σ (upd (upd H dx (exd dx [(f, y)])) a (exo a C (some dx))) s' → Q () s') : wpAny (model X.prog X.w) A (setAttr (.ref a) f u) Q E s := by
  obtain ⟨B, newId, initId, tl, bx, nm, q, N, bs, bm, sn, sub, ab, col, dd, k0, k1, k2, k3, k5, hC, hbm⟩ := T.cls
  have hcl : PySem.W.clsIn X.K C = some { name := nm, bases := bs, mro := .ref C :: bm, ns := N, qualname := q, hasDict := true, slotNames := sn, subclasses := sub, abstract := ab, collection := col, hasDel := false } := by unfold PySem.W.clsIn; rw [hC] <;> rfl
  obtain ⟨t1, ho⟩ := exo_at I.hok e
  obtain ⟨hp, g, d, t, os⟩ := s
  refine PySem.W.set_plain I.kIn (ox := { cls := .ref C, dict := none, data := .fields #[.ref t1, .none, .none, .none, .bool false, .none] }) (od := none) ⟨ho, rfl, rfl, trivial⟩ T.sa ?_
  refine PySem.XG.first bx I.kIn ho hcl (show over tl (.ref C :: bm) = true from hbm) rfl no (fun h' tk' dx k dn dne hx hn => ?_)
  have fresh : H dx = none := I.hok.fresh dn
  have off : ∀ {c : Addr} {o : Obj}, hp.get? c = some o → c ≠ dx := fun {c o} z => Nat.ne_of_lt (Nat.lt_of_lt_of_le (Heap.lt_size z) dn)
  have nota : ∀ {c : Addr}, H c = none → c ≠ a := fun {c} n z => by rw [z, e] at n; cases n
  have un : Un X.fs [] H (upd (upd H dx (exd dx [(f, y)])) a (exo a C (some dx))) hp h' := {
    keep := fun c o z n _ _ => k c o (nota n) z
    slot := fun c o z n _ _ => ⟨o.slots, k c o (nota n) z⟩
    free := fun c o z n _ => by rw [upd_ne (nota n), upd_ne (off z)]; exact n
    there := fun c o z _ => (Decidable.em (c = a)).elim (fun hc => by subst hc; exact ⟨_, hx⟩) fun hc => ⟨o, k c o hc z⟩
    tups := fun c xs z => by rw [upd_ne (at_ne e z exo_tup), upd_ne (ne_of_none z fresh)]; exact z
    frzs := fun c o v z => by rw [upd_ne (at_ne e z exo_frz), upd_ne (ne_of_none z fresh)]; exact z
    tbls := fun c ps z => ⟨#[], by rw [upd_ne (at_ne e z exo_tbl), upd_ne (ne_of_none z fresh), z]; simp⟩ }
  refine h dx _ fresh dne (I.un (t' := tk') un fun c o z => ?_)
  by_cases hc : c = a
  · subst hc
    rw [upd_same] at z; cases z
    exact exo_ok hx
  · rw [upd_ne hc] at z
    by_cases hd : c = dx
    · subst hd
      rw [upd_same] at z; cases z
      exact exd_ok hn (relO_put (fs := []) ry fun g => True.intro)
    · rw [upd_ne hd] at z
      refine (I.hok c o z).stay (fun b v hb zz => k b v ?_ zz) (fun b hb => by rw [upd_ne (at_ne e hb exo_own), upd_ne (ne_of_none hb fresh)]; exact hb) fun b xs hb => by rw [upd_ne (at_ne e hb exo_tup), upd_ne (ne_of_none hb fresh)]; exact hb
      rcases hb with hb | hb
      · rw [hb]; exact hc
      · exact at_ne e hb exo_own
theorem put_more (T : OexG X.K C) (I : L2.Inv X pins σ H s) (e : H a = some (exo a C (some dx))) (ed : H dx = some (exd dx fs)) (hl : fs.length ≤ 900) (no : PySem.W.findIn X.K (.ref C) f = some none) (ry : RelV y u)
    (h : ∀ s', L2.Inv X pins σ (upd H dx (exd dx ((f, y) :: fs))) s' → Q () s') : wpAny (model X.prog X.w) A (setAttr (.ref a) f u) Q E s := by
  obtain ⟨B, newId, initId, tl, bx, nm, q, N, bs, bm, sn, sub, ab, col, dd, k0, k1, k2, k3, k5, hC, hbm⟩ := T.cls
  have hcl : PySem.W.clsIn X.K C = some { name := nm, bases := bs, mro := .ref C :: bm, ns := N, qualname := q, hasDict := true, slotNames := sn, subclasses := sub, abstract := ab, collection := col, hasDel := false } := by unfold PySem.W.clsIn; rw [hC] <;> rfl
  obtain ⟨t1, ho⟩ := exo_at I.hok e
  obtain ⟨mA, hns, rel⟩ := exd_at I.hok ed
  have hw := within_of rel
  obtain ⟨hp, g, d, t, os⟩ := s
  obtain ⟨oD, _, _, hoD, _, _⟩ := hns.count hw
  refine PySem.W.set_plain I.kIn (ox := { cls := .ref C, dict := some dx, data := .fields #[.ref t1, .none, .none, .none, .bool false, .none] }) (od := some oD) ⟨ho, rfl, rfl, hoD⟩ T.sa ?_
  refine PySem.XG.further bx I.kIn ho hns hw (by rw [List.length_map]; omega) hcl (show over tl (.ref C :: bm) = true from hbm) rfl no (fun h' tk' k hn => ?_)
  obtain ⟨oo, _, _, e', hh⟩ := id hn
  exact h _ (I.write (t' := tk') (x := dx) (e := dx) (o := exd dx ((f, y) :: fs)) (by rw [ed]; exact True.intro) (.inl rfl) k ⟨oo, e'⟩ (exd_ok hn (relO_put ry rel)))
end
/-- self.f = e -/
def tPut (K : PySem.W.Frag) (f : Str) (to te : TE) : TS := fun D σ H => te σ H fun y H1 => to σ H1 fun x H2 => ∃ a C : Addr, x = .ref a ∧ OexG K C ∧ PySem.W.findIn K (.ref C) f = some none ∧
  ((H2 a = some (exo a C none) ∧ ∀ dx, H2 dx = none → dx ≠ a → D.nx σ (upd (upd H2 dx (exd dx [(f, y)])) a (exo a C (some dx)))) ∨
    ∃ (dx : Addr) (fs : List (Str × V)), H2 a = some (exo a C (some dx)) ∧ H2 dx = some (exd dx fs) ∧ fs.length ≤ 900 ∧ D.nx σ (upd H2 dx (exd dx ((f, y) :: fs))))
section
variable {X : Cx} {o e : Expr} {es : List Expr} {to te : TE} {ta : TA} {f : Str} {p p' p1 p2 pos : Pos}
theorem ps_put (ho : PE X o to) (he : PE X e te) (hs : swapsWith e (some (.Attribute o f p')) pos.line X.env = pure false := by rfl) : PS X (.Assign [.Attribute o f p'] e pos) (tPut X.K f to te) := by
  refine ⟨fun pins s σ H D I h => plainObj_wpAny_Assign_Attribute (thn (he.run pins s σ H _ I h) fun v s1 ⟨y, H1, I1, r1, q1⟩ => thn (ho.run pins s1 σ H1 _ I1 q1) fun u s2 ⟨x, H2, I2, r2, a, C, ex, T, hno, q⟩ => ?_) hs⟩
  subst ex
  obtain rfl : u = Value.ref a := r2
  rcases q with ⟨ea, q⟩ | ⟨dx, fs, ea, ed, hl, q⟩
  · exact put_first T I2 ea hno r1 fun dx s' n ne J => ⟨σ, _, J, q dx n ne⟩
  · exact put_more T I2 ea ed hl hno r1 fun s' J => ⟨σ, _, J, q⟩
theorem pmk_G {CX : CXT} {x : Str} {C fI : Addr} {k : Nat} {fd : FuncData} {ps : List Str} {sp : Sp} (T : OexG X.K C) (iC : PySem.W.findIn X.K (.ref C) "__init__" = some (some (.ref fI))) (tI : PySem.W.typeIn X.K (.ref fI) = some (.type "function"))
    (F1 : FnOk X.prog X.w X.K X.mg X.base CX k fI fd ps sp) (hr : Room (k + 1) X.A) (hb : Binds X.K fd ps []) (hx : Passes CX X (fun _ _ _ => False)) (hg : Gl X x) (hm : X.mg x = some (.ref C)) (ha : PA X (e :: es) ta)
    (nd : (x == ("__debug__" : Str)) = false := by decide) (he : starEach (e :: es) X.env = (false, eval e X.env) :: starEach es X.env := by rfl) (hpl : (backTo pos (starEach es X.env)).any (·.1) = false := by rfl) :
    PMk X (.Call (.Name x p) (e :: es) [] pos) (tMkO C sp [] ta) := by
  intro pins s σ H Q I h
  obtain ⟨B, newId, initId, tl, bx, nm, q, N, bs, bm, sn, sub, ab, col, dd, k0, k1, k2, k3, k5, hC, hbm⟩ := T.cls
  refine wpAny_Call_Name_kw (ld_glob I hg hm (PySem.W.callWith_K (h₀ := X.base) I.ok.mod.kin T.kC (thn (ha.run pos pins s σ H _ I h) fun us s1 ⟨vs, H1, I1, r1, hz, q1⟩ => ⟨I1.kIn, ?_⟩) he hpl) nd)
  show wpAny _ _ (call (.ref C) us) _ _ _
  obtain ⟨hp, g, dr, tk, os⟩ := s1
  have le1 : hp.objs.size ≤ hp.objs.size + 1 := Nat.le_succ _
  have wish := q1 (hp.objs.size + 1) (I1.hok.fresh le1)
  rw [List.append_nil] at wish
  have up : ∀ b o, hp.get? b = some o → ((hp.push (PySem.W.kdv_tup us)).push (PySem.HandSPX.excO C hp.objs.size)).get? b = some o := fun b o z => Heap.get?_push_of_some _ (Heap.get?_push_of_some _ z)
  have at1 : ((hp.push (PySem.W.kdv_tup us)).push (PySem.HandSPX.excO C hp.objs.size)).get? (hp.objs.size + 1) = some (PySem.HandSPX.excO C hp.objs.size) := by heap_get
  have I2 : L2.Inv X pins σ (upd H1 (hp.objs.size + 1) (exo (hp.objs.size + 1) C none)) ⟨(hp.push (PySem.W.kdv_tup us)).push (PySem.HandSPX.excO C hp.objs.size), g, dr, tk, os⟩ :=
    I1.laid (t' := tk) (a := hp.objs.size + 1) (o := exo (hp.objs.size + 1) C none) (h' := (hp.push (PySem.W.kdv_tup us)).push (PySem.HandSPX.excO C hp.objs.size)) up le1 (exo_ok at1)
  have r2 : Vals (V.ref (hp.objs.size + 1) :: vs) (Value.ref (hp.objs.size + 1) :: us) := .cons rfl r1
  have ln : (Value.ref (hp.objs.size + 1) :: us).length = ps.length := by rw [← F1.len _ _ _ _ wish]; exact r2.length.symm
  have bi := hb _ (Value.ref (hp.objs.size + 1) :: us) I2.kIn (by rw [List.append_nil]; exact ln)
  rw [List.append_nil] at bi
  have few : us.length ≤ sizeLine := by rw [← Paired.length r1, sizeLine_eq]; omega
  refine wpAny_call (PySem.HandSPX.call_own bx.base (fun Y => over_has Y bm hbm) (I1.kIn _ _ hC) (PySem.W.looks_findIn I1.kIn iC) (fun self => PySem.W.bind_fn I1.kIn self tI) few
    (codeAny_mono (F1.run _ X.stack _ _ ⟨Value.ref (hp.objs.size + 1) :: us, []⟩ _ _ _ (fun _ _ _ => False) (hr.make C us []) (I2.env0.make C us []) bi r2 wish) fun r s' got => ?_))
  cases r with
  | error er => exact hx pins σ _ _ er s' I2 got
  | ok fl =>
    cases fl with
    | ret u =>
      obtain ⟨v, H2, os2, bare2, un2, hok2, rv, ev, d, fs, ea, ed, hd1, q2⟩ := got
      subst ev
      obtain ⟨h2, g2, d2, t2, os'⟩ := s'
      exact ⟨rv, mk_end (raises_own T.exC T.tyC) I1 le1 up un2 hok2 os2 bare2 ea ed hd1 q2⟩
    | next => exact got.elim
    | brk => exact got.elim
    | cont => exact got.elim
end
end Q
namespace Q
open PySem PySem.Spec PyProof.Rows L2 LamX
/-! ### own exceptions with fields -/
def spI1 (K : PySem.W.Frag) (f : Str) : Sp := fun vs H Q _ => ∃ (a C : Addr) (v : V), vs = [.ref a, v] ∧ OexG K C ∧ PySem.W.findIn K (.ref C) f = some none ∧ H a = some (exo a C none) ∧
  ∀ dx, H dx = none → dx ≠ a → Q .non (upd (upd H dx (exd dx [(f, v)])) a (exo a C (some dx)))
/-- a class whose __init__ keeps its one argument -/
structure Ex1 (P : Program) (w : World) (K : PySem.W.Frag) (mg : Str → Option Value) (base : Heap) (x f : Str) (C : Addr) : Prop where
  o : OexG K C
  no : PySem.W.findIn K (.ref C) f = some none
  g : mg x = some (.ref C)
  init : ∃ (fI : Addr) (fd : FuncData) (ps : List Str) (k : Nat), k ≤ 1 ∧ PySem.W.findIn K (.ref C) "__init__" = some (some (.ref fI)) ∧ PySem.W.typeIn K (.ref fI) = some (.type "function") ∧ FnOk P w K mg base (L2.CX P w) k fI fd ps (spI1 K f) ∧ Binds K fd ps []
theorem ok_init1 {P : Program} {w : World} {K : PySem.W.Frag} {mg : Str → Option Value} {base : Heap} {q y f : Str} {st : Stmt} {fI : Addr} {fd : FuncData} {p1 p2 p3 p4 : Pos} (F : Fun K "__init__" q st fI fd) (S : FnScope ["self", y] ["self", y] (defScope st))
    (hb : defBody st = [.Assign [.Attribute (.Name "self" p1) f p2] (.Name y p3) p4]) (hy : (y == ("__debug__" : Str)) = false) (hy2 : (y == ("__classdict__" : Str)) = false)
    (hs : ∀ (X : Cx), swapsWith (.Name y p3) (some (.Attribute (.Name "self" p1) f p2)) p4.line X.env = pure false) : FnOk P w K mg base (L2.CX P w) 1 fI fd ["self", y] (spI1 K f) := by
  refine F.okX S (fun vs H Q E ⟨_, _, _, e, _⟩ => by rw [e]; rfl) fun cdv A outer s H vs Q E hr ⟨a, C, v, e, o, no, h, k⟩ => ?_
  subst e
  have l1 : Vis (defScope st) "self" := by
    rcases S.par "self" List.mem_cons_self with z | z
    · exact .inl z
    · exact .inr (.inl z)
  have l2 : Vis (defScope st) y := by
    rcases S.par y (by simp) with z | z
    · exact .inl z
    · exact .inr (.inl z)
  refine ⟨tPut K f (tVar 0) (tVar 1), ?_, ?_⟩
  · rw [hb]
    exact pss_one (ps_put (X := cxOf (L2.CX P w) P w K mg base ["self", y] q (defScope st) fI cdv A outer s H E) (pe_var (i := 0) rfl l1) (pe_var (i := 1) rfl l2 hy hy2) (hs _))
  · exact ⟨v, rfl, .ref a, rfl, a, C, rfl, o, no, .inl ⟨h, k⟩⟩
/-- .. two arguments -/
def spI2 (K : PySem.W.Frag) (f g : Str) : Sp := fun vs H Q _ => ∃ (a C : Addr) (v u : V), vs = [.ref a, v, u] ∧ OexG K C ∧ PySem.W.findIn K (.ref C) f = some none ∧ PySem.W.findIn K (.ref C) g = some none ∧ H a = some (exo a C none) ∧
  ∀ dx, H dx = none → dx ≠ a → Q .non (upd (upd H dx (exd dx [(g, u), (f, v)])) a (exo a C (some dx)))
structure Ex2 (P : Program) (w : World) (K : PySem.W.Frag) (mg : Str → Option Value) (base : Heap) (x f f2 : Str) (C : Addr) : Prop where
  o : OexG K C
  no : PySem.W.findIn K (.ref C) f = some none
  no2 : PySem.W.findIn K (.ref C) f2 = some none
  g : mg x = some (.ref C)
  init : ∃ (fI : Addr) (fd : FuncData) (ps : List Str) (k : Nat), k ≤ 1 ∧ PySem.W.findIn K (.ref C) "__init__" = some (some (.ref fI)) ∧ PySem.W.typeIn K (.ref fI) = some (.type "function") ∧ FnOk P w K mg base (L2.CX P w) k fI fd ps (spI2 K f f2) ∧ Binds K fd ps []
theorem ok_init2 {P : Program} {w : World} {K : PySem.W.Frag} {mg : Str → Option Value} {base : Heap} {q y z f g : Str} {st : Stmt} {fI : Addr} {fd : FuncData} {p1 p2 p3 p4 r1 r2 r3 r4 : Pos} (F : Fun K "__init__" q st fI fd) (S : FnScope ["self", y, z] ["self", y, z] (defScope st))
    (hb : defBody st = [.Assign [.Attribute (.Name "self" p1) f p2] (.Name y p3) p4, .Assign [.Attribute (.Name "self" r1) g r2] (.Name z r3) r4]) (hy : (y == ("__debug__" : Str)) = false) (hy2 : (y == ("__classdict__" : Str)) = false) (hz : (z == ("__debug__" : Str)) = false) (hz2 : (z == ("__classdict__" : Str)) = false)
    (hs : ∀ (X : Cx), swapsWith (.Name y p3) (some (.Attribute (.Name "self" p1) f p2)) p4.line X.env = pure false) (hs2 : ∀ (X : Cx), swapsWith (.Name z r3) (some (.Attribute (.Name "self" r1) g r2)) r4.line X.env = pure false) : FnOk P w K mg base (L2.CX P w) 1 fI fd ["self", y, z] (spI2 K f g) := by
  refine F.okX S (fun vs H Q E ⟨_, _, _, _, e, _⟩ => by rw [e]; rfl) fun cdv A outer s H vs Q E hr ⟨a, C, v, u, e, o, no, no2, h, k⟩ => ?_
  subst e
  have vis : ∀ x ∈ (["self", y, z] : List Str), Vis (defScope st) x := fun x hx => by
    rcases S.par x hx with q | q
    · exact .inl q
    · exact .inr (.inl q)
  refine ⟨tSeq (tPut K f (tVar 0) (tVar 1)) (tPut K g (tVar 0) (tVar 2)), ?_, ?_⟩
  · rw [hb]
    exact pss_cons (ps_put (X := cxOf (L2.CX P w) P w K mg base ["self", y, z] q (defScope st) fI cdv A outer s H E) (pe_var (i := 0) rfl (vis _ (by simp))) (pe_var (i := 1) rfl (vis _ (by simp)) hy hy2) (hs _)) (pss_one (ps_put (pe_var (i := 0) rfl (vis _ (by simp))) (pe_var (i := 2) rfl (vis _ (by simp)) hz hz2) (hs2 _)))
  · refine ⟨v, rfl, .ref a, rfl, a, C, rfl, o, no, .inl ⟨h, fun dx n ne => ?_⟩⟩
    refine ⟨u, rfl, .ref a, rfl, a, C, rfl, o, no2, .inr ⟨dx, _, upd_same, by rw [upd_ne ne, upd_same], by simp, ?_⟩⟩
    have e : upd (upd (upd H dx (exd dx [(f, v)])) a (exo a C (some dx))) dx (exd dx [(g, u), (f, v)]) = upd (upd H dx (exd dx [(g, u), (f, v)])) a (exo a C (some dx)) := by
      funext b
      unfold upd
      by_cases h1 : b = dx
      · subst h1; simp [ne]
      · simp [h1]
    rw [e]
    exact k dx n ne
section
variable {C : Cq} {e a b : Expr} {ρ : DEnv} {M : Mem} {P : PD} {PB : Bool → Mem → Prop} {pos p pos2 : Pos} {E : DE}
theorem qs_raise1 {x f : Str} {Cl : Addr} (X1 : Ex1 C.X.prog C.X.w C.X.K C.X.mg C.X.base x f Cl) (hk : 2 ≤ C.k) (hg : Gl C.X x) (h : QE C e ρ M fun d M' => C.R (.ref Cl) [(f, d)] ρ M') (hc : C.X.calm = true := by rfl)
    (hdb : (x == ("__debug__" : Str)) = false := by decide) (he : starEach [e] C.X.env = (false, eval e C.X.env) :: starEach [] C.X.env := by rfl) : QS C (.Raise (some (.Call (.Name x p) [e] [] pos)) none pos2) ρ M E := by
  obtain ⟨fI, fd, ps, k, hk1, iC, tI, Fn, hb⟩ := X1.init
  refine .of (ps_raise hc C.tk (pmk_G X1.o iC tI Fn ((C.room hc).mono (by omega)) hb passL hg X1.g (pa_cons pe_W pa_nil he) hdb he (by rfl))) fun σ H S w De k => ?_
  refine h σ H S w _ fun v H1 M1 d hi f1 r q => ⟨(by show 1 ≤ 1000; decide), fun a ha => ?_⟩
  refine ⟨a, Cl, v, rfl, X1.o, X1.no, upd_same, fun dx hdx ne => ⟨rfl, dx, [(f, v)], upd_same, ?_, ?_, ?_⟩⟩
  · rw [upd_ne ne, upd_same]
  · rw [upd_ne ne] at hdx
    exact hdx
  · have hdx' : H1 dx = none := by rw [upd_ne ne] at hdx; exact hdx
    have e1 : upd (L2.del (upd (upd (upd H1 a (exo a Cl none)) dx (exd dx [(f, v)])) a (exo a Cl (some dx))) a) dx (.xd [(f, v)]) = upd H1 dx (.xd [(f, v)]) := by
      funext b
      unfold upd L2.del
      by_cases h1 : b = dx
      · simp [h1]
      · by_cases h2 : b = a
        · subst h2; simp [h1, ha]
        · simp [h1, h2]
    rw [e1]
    have hi2 := hi.new (o := .xd [(f, v)]) hdx'
    have f2 := fr_new (o := .xd [(f, v)]) hi hdx'
    exact w σ _ M1 ρ (.ref Cl) (some dx) [(f, d)] ((S.fr f1 hi).fr f2 hi2) (f1.trans f2) ⟨dx, [(f, v)], rfl, upd_same, hi.mnone hdx', rfl, .cons (r.mono f2.sb) .nil⟩ q
theorem qs_raise2 {x f g : Str} {Cl : Addr} (X1 : Ex2 C.X.prog C.X.w C.X.K C.X.mg C.X.base x f g Cl) (hk : 2 ≤ C.k) (hg : Gl C.X x) (h : QE C a ρ M fun d M1 => QE C b ρ M1 fun d2 M' => C.R (.ref Cl) [(g, d2), (f, d)] ρ M') (hc : C.X.calm = true := by rfl)
    (hdb : (x == ("__debug__" : Str)) = false := by decide) (he : starEach [a, b] C.X.env = (false, eval a C.X.env) :: starEach [b] C.X.env := by rfl) (he2 : starEach [b] C.X.env = (false, eval b C.X.env) :: starEach [] C.X.env := by rfl)
    (hpl : (backTo pos (starEach [b] C.X.env)).any (·.1) = false := by rfl) : QS C (.Raise (some (.Call (.Name x p) [a, b] [] pos)) none pos2) ρ M E := by
  obtain ⟨fI, fd, ps, k, hk1, iC, tI, Fn, hb⟩ := X1.init
  refine .of (ps_raise hc C.tk (pmk_G X1.o iC tI Fn ((C.room hc).mono (by omega)) hb passL hg X1.g (pa_cons pe_W (pa_cons pe_W pa_nil he2) he) hdb he hpl)) fun σ H S w De k => ?_
  refine h σ H S w _ fun v H0 M0 d0 hi0 f0 r0 h0 => h0 σ H0 (S.fr f0 hi0) (w.fr f0) _ fun u H1 M1 d hi f1 r q => ⟨(by show 2 ≤ 1000; decide), fun a ha => ?_⟩
  refine ⟨a, Cl, v, u, rfl, X1.o, X1.no, X1.no2, upd_same, fun dx hdx ne => ⟨rfl, dx, [(g, u), (f, v)], upd_same, ?_, ?_, ?_⟩⟩
  · rw [upd_ne ne, upd_same]
  · rw [upd_ne ne] at hdx
    exact hdx
  · have hdx' : H1 dx = none := by rw [upd_ne ne] at hdx; exact hdx
    have e1 : upd (L2.del (upd (upd (upd H1 a (exo a Cl none)) dx (exd dx [(g, u), (f, v)])) a (exo a Cl (some dx))) a) dx (.xd [(g, u), (f, v)]) = upd H1 dx (.xd [(g, u), (f, v)]) := by
      funext b
      unfold upd L2.del
      by_cases h1 : b = dx
      · simp [h1]
      · by_cases h2 : b = a
        · subst h2; simp [h1, ha]
        · simp [h1, h2]
    rw [e1]
    have hi2 := hi.new (o := .xd [(g, u), (f, v)]) hdx'
    have f2 := fr_new (o := .xd [(g, u), (f, v)]) hi hdx'
    have ft := (f0.trans f1).trans f2
    exact w σ _ M1 ρ (.ref Cl) (some dx) [(g, d), (f, d0)] (((S.fr f0 hi0).fr f1 hi).fr f2 hi2) ft ⟨dx, [(g, u), (f, v)], rfl, upd_same, hi.mnone hdx', rfl, .cons (r.mono f2.sb) (.cons (r0.mono (f1.trans f2).sb) .nil)⟩ q
/-! ### try .. except X as n -/
abbrev cqS (C : Cq) (a : Addr) (oe : Obj) (pn : List (Addr × Obj)) : Cq :=
  { X := C.X.suite a ((a, oe) :: pn), T := C.T, Z := C.Z, W := fun _ _ _ _ => False, R := fun _ _ _ _ => False, k := C.k, tk := L2.takes0, own := PassesOwn.never, nd := C.nd, room := fun h => Bool.noConfusion h, bn := C.bn }
abbrev cqT (C : Cq) (W : WX) (pn : List (Addr × Obj)) (xe : Value → Shared → Prop) (tk : Takes (C.X.tr pn xe) W) (own : PassesOwn (model C.X.prog C.X.w) C.X.A C.X.env xe) (R : XR) : Cq :=
  { X := C.X.tr pn xe, T := C.T, Z := C.Z, W := W, R := R, k := C.k, tk := tk, own := own, nd := C.nd, room := C.room, bn := C.bn }
def RTry (C : Cq) (c : Value) (i : Nat) (suite : List Stmt) (E : DE) : XR := fun cls fs ρ' M' => ∃ b, PySem.W.exmOne C.K cls c = some b ∧
  (b = true → ∀ a dx oe pn, Zc cls (some dx) oe → (∃ vs, oe.data = .fields vs) → QSs (cqS C a oe pn) suite (ρ'.set i (some (.exn a dx (fs.map (·.1)) (fs.map (·.2))))) M'
    { nx := fun ρ2 M2 => E.nx (ρ2.set i none) M2, rt := E.rt, bk := fun ρ2 M2 => E.bk (ρ2.set i none) M2, ct := fun ρ2 M2 => E.ct (ρ2.set i none) M2 }) ∧ (b = false → C.R cls fs ρ' M')
theorem qs_try_as {x n : Str} {c : Value} {body suite : List Stmt} {b₀ : Stmt} {np pos' : Pos} (i : Nat) (hs : C.X.stack = C.X.env :: C.X.outer) (hf : C.X.env.frame = some C.X.env.locals) (hi : C.X.N[i]? = some n) (hln : C.X.env.kindOf n = some .local) (hc : Names C.X x c)
    (hb : ∀ W pn xe tk own, QSs (cqT C W pn xe tk own (RTry C c i (b₀ :: suite) E)) body ρ M E) : QS C (.Try body [.ExceptHandler (some (.Name x np)) (some n) (b₀ :: suite) pos'] [] [] pos) ρ M E := by
  refine .of (ps_try_as (i := i) (tb := fun W D σ H => ∀ pn xe, Takes (C.X.tr pn xe) W → PassesOwn (model C.X.prog C.X.w) C.X.A C.X.env xe → WSs (C.X.tr pn xe) body D σ H)
    (ts := fun a cls d D σ H => ∀ oe pn, Zc cls d oe → (∃ vs, oe.data = .fields vs) → WSs (C.X.suite a ((a, oe) :: pn)) (b₀ :: suite) D σ H) (Wout := C.W) hs hf C.nd hi hln hc C.tk
    (fun W pn xe tk own => ⟨fun pins s σ H D I h => h pn xe tk own pins s I⟩) (fun a oe cls d pn hz hv => ⟨fun pins s σ H D I h => h oe pn hz hv pins s I⟩)) fun σ H S w De k => ?_
  intro pn xe tk own
  refine hb _ pn xe tk own σ H S ?_ De ⟨k.nx, k.rt, k.bk, k.ct⟩
  intro σ' H' M' ρ' cls d fs S' f' x' ⟨b, hb1, hy, hn⟩
  refine ⟨b, hb1, fun hb2 a ha => ?_, fun hb2 => w σ' H' M' ρ' cls d fs S' f' x' (hn hb2)⟩
  intro oe pn2 hz hv
  obtain ⟨dx, vs, rfl, hd, hm, hk, hr⟩ := x'
  have r1 : Rp C.K (sub H' M') (.ref a) (.exn a dx (fs.map (·.1)) (fs.map (·.2))) := .exn (sub_of hm hd) hk rfl hr
  refine hy hb2 a dx oe pn2 hz hv _ H' (S'.set r1 i) (fun _ _ _ _ _ _ _ _ _ _ z => z.elim) _ ⟨?_, ?_, ?_, ?_⟩
  · exact fun ρ2 M2 σ2 H2 S2 f2 q => k.nx _ M2 _ H2 (S2.forget i none) (f'.trans f2) q
  · exact fun v H2 M2 d hi2 f2 r2 q => k.rt v H2 M2 d hi2 (f'.trans f2) r2 q
  · exact fun ρ2 M2 σ2 H2 S2 f2 q => k.bk _ M2 _ H2 (S2.forget i none) (f'.trans f2) q
  · exact fun ρ2 M2 σ2 H2 S2 f2 q => k.ct _ M2 _ H2 (S2.forget i none) (f'.trans f2) q
theorem lookup_zip {K : PySem.W.Frag} {H : Hp} {n : Str} : ∀ {vs : List (Str × V)} {ks : List Str} {us : List V} {ds : List D} {d : D}, vs.map (·.1) = ks → vs.map (·.2) = us → RpA K H us ds → (ks.zip ds).lookup n = some d → ∃ v, vs.lookup n = some v ∧ Rp K H v d
  | [], ks, us, ds, d, h1, h2, r, h => by
    subst h1 h2
    simp at h
  | (k, v) :: vs, ks, us, ds, d, h1, h2, r, h => by
    subst h1 h2
    cases r with
    | cons r rs =>
      simp only [List.map_cons, List.zip_cons_cons, List.lookup_cons] at h ⊢
      cases e : n == k with
      | true => rw [e] at h; cases h; exact ⟨v, by simp, r⟩
      | false => rw [e] at h; exact lookup_zip rfl rfl rs h
/-- n.f of the caught one -/
theorem qe_xf {a : Addr} {oe : Obj} {pn : List (Addr × Obj)} {Cl dx : Addr} {n : Str} (T : XfC C.K Cl) (hno : PySem.W.findIn C.K (.ref Cl) n = some none) (hz : Zc (.ref Cl) (some dx) oe) (hf : ∃ vs, oe.data = .fields vs)
    (h : QE (cqS C a oe pn) e ρ M fun x M1 => ∃ ks ds d, x = .exn a dx ks ds ∧ (ks.zip ds).lookup n = some d ∧ P d M1) (hb : attributeBase e n (cqS C a oe pn).X.env (eval e (cqS C a oe pn).X.env) = eval e (cqS C a oe pn).X.env := by rfl) : QE (cqS C a oe pn) (.Attribute e n pos) ρ M P :=
  .of (C := cqS C a oe pn) (pe_xf (X := C.X) T hno hz hf (pe_W (X := C.X.suite a ((a, oe) :: pn))) hb) fun σ H S w Q k => h σ H S w _ fun v H1 M1 x hi f r ⟨ks, ds, d, ex, l, q⟩ => by
    subst ex
    cases r with
    | exn h1 h2 h3 h4 =>
      obtain ⟨v, e1, e2⟩ := lookup_zip h2 h3 h4 l
      exact ⟨rfl, rfl, dx, _, v, rfl, (sub_some h1).2, e1, k v H1 M1 d hi f e2 q⟩
/-! ### a lambda without parameters, handed to a def that calls it -/
abbrev LCon := PD → (Value → List (Str × D) → Mem → Prop) → Mem → PD → Prop
def LamQ (K : PySem.W.Frag) (T : List (Addr × Str)) (tl : XK → Hp → VK → Prop) (M : Mem) (H : Hp) (Pb : PD) (Rb : Value → List (Str × D) → Mem → Prop) : Prop := ∀ H1, HI K T M H1 → Fr M H M H1 → ∀ (E : XK) (Q : VK),
  (∀ v H' M' d, HI K T M' H' → Fr M H1 M' H' → Rp K (sub H' M') v d → Pb d M' → Q v H') → (∀ cls dx H' M' fs, HI K T M' H' → Fr M H1 M' H' → XDat K H' M' dx fs → Rb cls fs M' → E cls dx H') → tl E H1 Q
def TTq (K : PySem.W.Frag) (T : List (Addr × Str)) (cc : LCon) : (XK → Hp → VK → Prop) → Hp → VK → Prop := fun tl H Q => ∃ M Qd Pb Rb, HI K T M H ∧ LamQ K T tl M H Pb Rb ∧ cc Pb Rb M Qd ∧ ∀ v H' M' d, HI K T M' H' → Fr M H M' H' → Rp K (sub H' M') v d → Qd d M' → Q v H'
structure HasL (P : Program) (w : World) (K : PySem.W.Frag) (mg : Str → Option Value) (base : Heap) (T : List (Addr × Str)) (x a : Str) (k : Nat) (cc : LCon) : Prop where
  ex : ∃ (g : Addr) (pg : Arguments) (bg : List Stmt) (sg : Scope) (dV kV doc pm cdv ct oc : Value) (an od : Option Addr) (osl : Array (Option Value)) (Ng : List Str), mg x = some (.ref g) ∧ PySem.W.keepIn K (.ref g) = true ∧
    K.lookup g = some ⟨oc, od, .func (PySem.W.fnOf x x pg bg sg dV kV doc pm an cdv ct), osl⟩ ∧ PySem.W.codeIn K cdv x = true ∧ L2.Binds K (PySem.W.fnOf x x pg bg sg dV kV doc pm an cdv ct) [a] [] ∧ FnScope Ng [a] sg ∧ Ng[0]? = some a ∧ Vis sg a ∧
    ∀ X : Cx, X.prog = P → X.w = w → X.K = K → X.mg = mg → X.base = base → Room (k + 1) X.A → ∀ q, GivesTo X Ng x sg g cdv bg a q (TTq K T cc)
abbrev Cq.HasL (C : Cq) (x a : Str) (k : Nat) (cc : LCon) : Prop := Q.HasL C.X.prog C.X.w C.X.K C.X.mg C.X.base C.T x a k cc
/-- the lambda's context -/
abbrev cqLam (C : Cq) (A : Around) (outer : List Env) (s : Shared) (H : Hp) (E : XK) (scope : Scope) (f c' : Addr) (k : Nat) (hr : Room k (A.deeper (lamEnv C.X scope s.heap.objs.size f c'))) (Rb : Value → List (Str × D) → Mem → Prop) : Cq :=
  { X := lamCx C.X A outer s H E scope f c', T := C.T, Z := .no, W := fun cls d _ H => E cls d H, R := fun cls fs _ M => Rb cls fs M, k := k, tk := takes_of rfl rfl rfl rfl, own := passes_of rfl, nd := C.nd, room := fun _ => hr, bn := C.bn }
theorem qe_lamcall {x a : Str} {k : Nat} {cc : LCon} {params : Arguments} {body : Expr} {scope : Scope} {lpos : Pos} {c Pt : Addr} (F : C.HasL x a k cc) (hk : k + 2 ≤ C.k) (hg : Gl C.X x)
    (TB : TabB C.X.base C.X.mg c Pt) (hcode : C.X.env.code = .ref c) (hmT : (Pt, C.X.env.qual ++ "<lambda>") ∈ C.T) (hu : ∀ p ∈ C.T, p.1 = Pt → p.2 = C.X.env.qual ++ "<lambda>") (L : LamS C.X.env.scope scope)
    (h : ∃ Pb Rb, (∀ A outer s H E f c' hr, QE (cqLam C A outer s H E scope f c' k hr Rb) body ρ M Pb) ∧ cc Pb Rb M P) (hc : C.X.calm = true := by rfl)
    (hdef : defaultsOf params C.X.env = ([], []) := by rfl) (hbind : ∀ (q : Str) (cl : List (Str × Addr)) (pm cv ctv : Value), bindArgs (PySem.W.kla_fn "<lambda>" q params body scope cl pm cv ctv) ⟨[], []⟩ = pure [] := by intros; rfl)
    (hdb : (x == ("__debug__" : Str)) = false := by decide) (hd : (a == ("__debug__" : Str)) = false := by decide) (hcd : (a == ("__classdict__" : Str)) = false := by decide) :
    QE C (.Call (.Name x p) [.Lambda params body scope lpos] [] pos) ρ M P := by
  obtain ⟨g, pg, bg, sg, dV, kV, doc, pm, cdv, ct, oc, an, od, osl, Ng, hm, hkp, lk, hcg, hb, Sg, hNg, hva, hG⟩ := F.ex
  obtain ⟨Pb, Rb, hq, hcc⟩ := h
  have hr := (C.room hc).mono hk
  refine .of (pe_lamcall (T := C.T) (k := k) (t := fun E σ H Q => ∀ A outer s H0 f c' (hr : Room k (A.deeper (lamEnv C.X scope s.heap.objs.size f c'))), WE (lamCx C.X A outer s H0 E scope f c') body σ H Q)
    hg hm hkp lk hcg hb Sg hNg hva (hG C.X rfl rfl rfl rfl rfl (hr.mono (by omega)) _) TB hcode hmT hu hr L hdef hbind
    (fun A outer s H E f c' hr => ⟨fun pins s' σ H' Q I h => h A outer s H f c' hr pins s' I⟩) hdb hd hcd) fun σ H S w Q kk => ?_
  refine ⟨S.hi.tab, fun H1 ex T1 => ?_⟩
  have f1 : Fr M H M H1 := fun b o n e nt => ⟨n, ex b o e nt⟩
  have hi1 : HI C.K C.T M H1 := ⟨fun q m e => by
    obtain ⟨o, h1, h2⟩ := S.hi.mem q m e
    have nt : NT o := fun ps z => by
      have := h2.pl.1 ps
      exact this z
    exact ⟨o, ex q o h1 nt, h2.mono f1.sb⟩, T1⟩
  refine ⟨M, P, Pb, Rb, hi1, ?_, hcc, fun v H' M' d hi' f' r' q => kk v H' M' d hi' (f1.trans f') r' q⟩
  intro H2 hi2 f2 E Q' kq kx A outer s H0 f c' hr'
  exact hq A outer s H0 E f c' hr' σ H2 ((S.fr f1 hi1).fr f2 hi2 |> fun z => ⟨z.len, z.slot, z.hi, trivial⟩) (fun σ' H' M' ρ' cls d fs S' f' x' z => kx cls d H' M' fs S'.hi f' x' z) Q' kq
end
/-! ### the def that calls it -/
section
variable {P : Program} {w : World} {K : PySem.W.Frag} {mg : Str → Option Value} {base : Heap} {T : List (Addr × Str)}
/-- its context: entered with the memory M and the heap H -/
@[reducible] def cqL (P : Program) (w : World) (K : PySem.W.Frag) (mg : Str → Option Value) (base : Heap) (T : List (Addr × Str)) (N : List Str) (x : Str) (sc : Scope) (g : Addr) (k : Nat) (nd : N.Nodup) (bn : BN mg) (cdv : Value) (A : Around) (outer : List Env) (s : Shared) (H : Hp) (M : Mem)
    (hr : Room k (A.deeper (envOfC x sc s.heap.objs.size g cdv))) : Cq :=
  { X := (cxOf C8.CX0 P w K mg base N x sc g cdv A outer s H C8.E0).nox, T := T, Z := .at M H, W := fun _ _ _ _ => False, R := fun _ _ _ _ => False, k := k, tk := L2.takes0, own := PassesOwn.never, nd := nd, room := fun _ => hr, bn := bn }
theorem hasL {x a : Str} {st : Stmt} {g : Addr} {fd : FuncData} {N : List Str} {k : Nat} {cc : LCon} (F : Fun K x x st g fd) (S : FnScope N [a] (defScope st)) (hm : mg x = some (.ref g)) (hb : Binds K fd [a] []) (bn : BN mg) (hN : N[0]? = some a)
    (body : ∀ (cdv : Value) (A : Around) (outer : List Env) (s : Shared) (H : Hp) (M : Mem) (hr : Room k (A.deeper (envOfC x (defScope st) s.heap.objs.size g cdv))) (f : Addr) (Q Pb : PD) (Rb : Value → List (Str × D) → Mem → Prop), cc Pb Rb M Q →
      (∀ W pn xe tk own R p1 p2 ρ P', ρ[0]? = some (some (.oth (.ref f))) → (∀ d M', Pb d M' → P' d M') → (∀ cls fs M', Rb cls fs M' → R cls fs (List.replicate N.length none) M') →
        QE (cqT (cqL P w K mg base T N x (defScope st) g k S.nd bn cdv A outer s H M hr) W pn xe tk own R) (.Call (.Name a p1) [] [] p2) ρ M P') →
      QSs (cqL P w K mg base T N x (defScope st) g k S.nd bn cdv A outer s H M hr) (defBody st) (some (.oth (.ref f)) :: List.replicate (N.length - 1) none) M { nx := fun _ M' => Q .non M', rt := Q }) : HasL P w K mg base T x a k cc := by
  obtain ⟨oc, od, kV, doc, pm, an, cdv, ct, osl, rfl, lk, hcd⟩ := F.ex
  have va : Vis (defScope st) a := by
    rcases S.par a List.mem_cons_self with z | z
    · exact .inl z
    · exact .inr (.inl z)
  refine ⟨g, _, _, _, _, _, _, _, cdv, _, _, _, _, _, N, hm, F.kp, lk, hcd, hb, S, hN, va, ?_⟩
  intro X e1 e2 e3 e4 e5 hr q f c' s H Qv tl act hco ⟨M, Qd, Pb, Rb, hi, lq, hcc, fin⟩
  subst e1 e2 e3 e4 e5
  refine ⟨_, pss_W, ?_⟩
  have hr' : Room k (X.A.deeper (envOfC x (defScope st) s.heap.objs.size g cdv)) := hr.deeper _
  have hN1 : 1 ≤ N.length := by
    have := (List.getElem?_eq_some_iff.mp hN).1
    omega
  have S0 : SI X.K T (.at M H) (some (.oth (.ref f)) :: List.replicate (N.length - 1) none) M (L2.start N [.ref f]) H := by
    have := si_start (N := N) (vs := [.ref f]) (ds := [.oth (.ref f)]) (n := N.length - 1) hi (.cons (.oth _) .nil) rfl
    exact ⟨this.len, this.slot, this.hi, .refl _ _⟩
  refine body cdv X.A X.stack s H M hr' f Qd Pb Rb hcc ?_ (L2.start N [.ref f]) H S0 (fun _ _ _ _ _ _ _ _ _ _ z => z.elim) _
    ⟨fun ρ' M' σ' H' S' f' z => fin .non H' M' .non S'.hi f' .non z, fun v H' M' d hi' f' r' z => fin v H' M' d hi' f' r' z, fun _ _ _ _ _ _ z => z.elim, fun _ _ _ _ _ _ z => z.elim⟩
  intro W pn xe tk own R p1 p2 ρ P' h0 hP hR
  let Z : Cx := cxOf C8.CX0 X.prog X.w X.K X.mg X.base N x (defScope st) g cdv X.A X.stack s H C8.E0
  have tk2 : Takes (Z.tr pn xe) (fun cls d σ' H' => σ'.length = N.length → W cls d σ' H') := fun u s' ⟨a, B, sI, pins, σ, H, cls, d, e, I, nb, up, sky, na, os, ag, z⟩ => tk u s' ⟨a, B, sI, pins, σ, H, cls, d, e, I, nb, up, sky, na, os, ag, z I.len⟩
  refine .of (C := cqT (cqL X.prog X.w X.K X.mg X.base T N x (defScope st) g k S.nd bn cdv X.A X.stack s H M hr') W pn xe tk own R) (act _ pn xe (fun cls d H' => ∀ σ' : L2.St, σ'.length = N.length → W cls d σ' H') p1 p2 tk2 (fun cls d σ' H' z hl => z σ' hl)) fun σ H2 S2 w2 Q2 k2 => ?_
  have f2 : Fr M H M H2 := S2.anc
  obtain ⟨v0, hv0, r0⟩ := S2.slot 0 _ h0
  cases r0
  refine ⟨hv0, ?_, ?_⟩
  · have nm : M c' = none := by
      cases e : M c' with
      | none => rfl
      | some m =>
        obtain ⟨o, h1, h2⟩ := hi.mem c' m e
        rw [hco] at h1
        cases h1
        exact absurd rfl (h2.pl.2 _)
    exact (f2 c' _ nm hco (fun ps => codeO_ne ps)).2
  · refine lq H2 S2.hi f2 _ Q2 (fun v H' M' d hi' f' r' z => k2 v H' M' d hi' f' r' (hP d M' z)) fun cls dx H' M' fs hi' f' x' z σ' hl => ?_
    refine w2 σ' H' M' (List.replicate N.length none) cls dx fs ⟨by rw [List.length_replicate]; exact hl, fun i d e => ?_, hi', f2.trans f'⟩ f' x' (hR cls fs M' z)
    have := List.mem_of_getElem? e
    have := (List.mem_replicate.mp this).2
    cases this
end
end Q
namespace Q
open PySem PySem.Spec PyProof.Rows L2 LamX
section
variable {M : Mem} {P : PD} {PB : Bool → Mem → Prop} {i j : Int} {xs ys : List D} {d : D} {p q : Addr} {b c : Bool} {s t : Str}
theorem add_i (h : P (.int (i + j)) M) : rdAdd (.int i) (.int j) M P := by unfold rdAdd; exact h
theorem add_s (hl : s.length + t.length ≤ sizeLine) (h : P (.str (s ++ t)) M) : rdAdd (.str s) (.str t) M P := by unfold rdAdd; exact ⟨hl, h⟩
theorem add_l (hl : xs.length + ys.length ≤ sizeLine) (h : P (.lst (xs ++ ys)) M) : rdAdd (.lst xs) (.lst ys) M P := by unfold rdAdd; exact ⟨xs, ys, .lst _, .lst _, hl, h⟩
theorem add_ml (e : M p = some (.lst xs)) (hl : xs.length + ys.length ≤ sizeLine) (h : P (.lst (xs ++ ys)) M) : rdAdd (.oth (.ref p)) (.lst ys) M P := by unfold rdAdd; exact ⟨xs, ys, .mem e, .lst _, hl, h⟩
theorem add_lm (e : M p = some (.lst ys)) (hl : xs.length + ys.length ≤ sizeLine) (h : P (.lst (xs ++ ys)) M) : rdAdd (.lst xs) (.oth (.ref p)) M P := by unfold rdAdd; exact ⟨xs, ys, .lst _, .mem e, hl, h⟩
theorem add_mm (e1 : M p = some (.lst xs)) (e2 : M q = some (.lst ys)) (hl : xs.length + ys.length ≤ sizeLine) (h : P (.lst (xs ++ ys)) M) : rdAdd (.oth (.ref p)) (.oth (.ref q)) M P := by unfold rdAdd; exact ⟨xs, ys, .mem e1, .mem e2, hl, h⟩
theorem mul_i (hc : CMul i j) (h : P (.int (i * j)) M) : rdMul (.int i) (.int j) M P := by unfold rdMul; exact ⟨.inl hc, h⟩
theorem mul_w (hc : CMulW i j) (h : P (.int (i * j)) M) : rdMul (.int i) (.int j) M P := by unfold rdMul; exact ⟨.inr hc, h⟩
theorem mul_l (h1 : -(2 ^ 63) ≤ j) (h2 : j < 2 ^ 63) (h3 : xs.length * j.toNat ≤ sizeLine) (h : P (.lst (List.replicate j.toNat xs).flatten) M) : rdMul (.lst xs) (.int j) M P := by unfold rdMul; exact ⟨xs, .lst _, h1, h2, h3, h⟩
theorem ii {R : Int → Int → Prop} {x y : D} (ex : x = .int i) (ey : y = .int j) (h : R i j) : ∃ i j, x = .int i ∧ y = .int j ∧ R i j := ⟨i, j, ex, ey, h⟩
theorem isb (h : PB b M) : isBl PB (.bl b) M := ⟨b, rfl, h⟩
theorem eq_i (h : P (.bl (decide (i = j))) M) : rdEq (.int i) (.int j) M P := by unfold rdEq; exact h
theorem eq_s (h : P (.bl (decide (s = t))) M) : rdEq (.str s) (.str t) M P := by unfold rdEq; exact h
theorem eq_b (h : P (.bl (decide (b = c))) M) : rdEq (.bl b) (.bl c) M P := by unfold rdEq; exact h
theorem ne_i (h : P (.bl (!decide (i = j))) M) : rdNe (.int i) (.int j) M P := by unfold rdNe rdEq; exact ⟨_, rfl, h⟩
theorem ne_s (h : P (.bl (!decide (s = t))) M) : rdNe (.str s) (.str t) M P := by unfold rdNe rdEq; exact ⟨_, rfl, h⟩
theorem ne_b (h : P (.bl (!decide (b = c))) M) : rdNe (.bl b) (.bl c) M P := by unfold rdNe rdEq; exact ⟨_, rfl, h⟩
theorem ix_l (e : atI xs i = some d) (h : P d M) : rdIx (.lst xs) (.int i) M P := by unfold rdIx; exact ⟨xs, .lst (.lst _), d, e, h⟩
theorem ix_f (e : atI xs i = some d) (h : P d M) : rdIx (.frz xs) (.int i) M P := by unfold rdIx; exact ⟨xs, .frz _, d, e, h⟩
theorem ix_t (e : atI xs i = some d) (h : P d M) : rdIx (.tup xs) (.int i) M P := by unfold rdIx; exact ⟨d, e, h⟩
theorem ix_m (hm : M p = some (.lst xs)) (e : atI xs i = some d) (h : P d M) : rdIx (.oth (.ref p)) (.int i) M P := by unfold rdIx; exact ⟨xs, .lst (.mem hm), d, e, h⟩
theorem is_b (h : P (.bl (decide (b = c))) M) : rdIs (.bl b) (.bl c) M P := by unfold rdIs; exact h
theorem is_n (h : P (.bl true) M) : rdIs .non .non M P := by unfold rdIs; exact h
theorem is_i (h : P (.bl false) M) : rdIs (.int i) .non M P := by unfold rdIs; exact h
theorem is_s (h : P (.bl false) M) : rdIs (.str s) .non M P := by unfold rdIs; exact h
theorem is_l (h : P (.bl false) M) : rdIs (.lst xs) .non M P := by unfold rdIs; exact h
theorem is_t (h : P (.bl false) M) : rdIs (.tup xs) .non M P := by unfold rdIs; exact h
theorem is_bn (h : P (.bl false) M) : rdIs (.bl b) .non M P := by unfold rdIs; exact h
end
/-- the draws' jar -/
structure JarOk (d s n : Int) : Prop where
  d0 : 0 ≤ d
  s0 : 0 ≤ s
  s1 : s < 2147483647
  n0 : 0 ≤ n
def jarO (d s n : Int) : MO := .lst [.int d, .int s, .int n]
structure JarAt (M : Mem) (j : Addr) : Prop where
  ex : ∃ d s n, JarOk d s n ∧ M j = some (jarO d s n)
/-- the memory behind draws -/
structure JM (j : Addr) (M M' : Mem) : Prop where
  ex : ∃ d s n, JarOk d s n ∧ M' = mupd M j (jarO d s n)
theorem JM.at {j : Addr} {M M' : Mem} (h : JM j M M') : JarAt M' j := by
  obtain ⟨d, s, n, o, rfl⟩ := h
  exact ⟨d, s, n, o, mupd_same⟩
theorem JM.trans {j : Addr} {M M1 M2 : Mem} (h : JM j M M1) (h2 : JM j M1 M2) : JM j M M2 := by
  obtain ⟨d, s, n, o, rfl⟩ := h
  obtain ⟨d2, s2, n2, o2, rfl⟩ := h2
  exact ⟨d2, s2, n2, o2, mupd_upd⟩
theorem JM.refl {j : Addr} {M : Mem} (h : JarAt M j) : JM j M M := by
  obtain ⟨d, s, n, o, e⟩ := h
  refine ⟨d, s, n, o, ?_⟩
  funext a
  unfold mupd
  split
  · rename_i q; subst q; exact e
  · rfl
theorem JM.ne {j a : Addr} {M M' : Mem} (h : JM j M M') (n : a ≠ j) : M' a = M a := by
  obtain ⟨d, s, n', o, rfl⟩ := h
  exact mupd_ne n
end Q
namespace Q
open PySem PySem.Spec PyProof.Rows L2 LamX
/-! ### isinstance by patterns -/
def isiD (d : D) (m : String) : Option Bool := match d with
  | .non => (match m with | "int" => some false | "bool" => some false | "str" => some false | "list" => some false | "tuple" => some false | _ => none)
  | .bl _ => (match m with | "int" => some true | "bool" => some true | "str" => some false | "list" => some false | "tuple" => some false | _ => none)
  | .int _ => (match m with | "int" => some true | "bool" => some false | "str" => some false | "list" => some false | "tuple" => some false | _ => none)
  | .str _ => (match m with | "int" => some false | "bool" => some false | "str" => some true | "list" => some false | "tuple" => some false | _ => none)
  | .lst _ => (match m with | "int" => some false | "bool" => some false | "str" => some false | "list" => some true | "tuple" => some false | _ => none)
  | .tup _ => (match m with | "int" => some false | "bool" => some false | "str" => some false | "list" => some false | "tuple" => some true | _ => none)
  | .dct _ _ => (match m with | "int" => some false | "bool" => some false | "str" => some false | "list" => some false | "tuple" => some false | _ => none)
  | _ => none
theorem isiD_ok {d : D} {m : String} {r : Bool} (h : isiD d m = some r) : ∃ n, tyD d = some n ∧ kitB n m = some r := by
  unfold isiD at h
  split at h
  all_goals first
    | (split at h
       all_goals first
         | (injection h with h; subst h; exact ⟨_, rfl, by decide +kernel⟩)
         | cases h)
    | cases h
theorem cj_t {A B : Prop} (h : A) : (true = true → A) ∧ (true = false → B) := ⟨fun _ => h, fun z => Bool.noConfusion z⟩
theorem cj_f {A B : Prop} (h : B) : (false = true → A) ∧ (false = false → B) := ⟨fun z => Bool.noConfusion z, fun _ => h⟩
theorem cj_nn {α : Type} [DecidableEq α] {n : α} {A B : Prop} (h : B) : ((!decide (n = n)) = true → A) ∧ ((!decide (n = n)) = false → B) := ⟨fun z => by simp at z, fun _ => h⟩
theorem cj_ee {α : Type} [DecidableEq α] {n : α} {A B : Prop} (h : A) : (decide (n = n) = true → A) ∧ (decide (n = n) = false → B) := ⟨fun _ => h, fun z => by simp at z⟩
theorem sub4 {R : Addr → List D → Int → Nat → Prop} {M : Mem} {p : Addr} {k : Int} {xs : List D} {j : Nat} (hm : M p = some (.lst xs)) (hj : ixN xs.length k = some j) (h : R p xs k j) :
    ∃ p' xs' k' j', D.oth (.ref p) = .oth (.ref p') ∧ D.int k = .int k' ∧ M p' = some (.lst xs') ∧ ixN xs'.length k' = some j' ∧ R p' xs' k' j' := ⟨p, xs, k, j, rfl, rfl, hm, hj, h⟩
theorem len_le {α : Type} {xs : List α} {B : Prop} (h : xs.length ≤ sizeLine) (b : B) : xs.length ≤ sizeLine ∧ B := ⟨h, b⟩
theorem pos_c {n : Int} {B : Prop} (h : 0 < n) (b : B) : 0 < n ∧ B := ⟨h, b⟩
theorem cdiv_c {i j : Int} {B : Prop} (h : CDiv i j) (b : B) : CDiv i j ∧ B := ⟨h, b⟩
theorem cpow_c {i j : Int} {B : Prop} (h : CPow i j) (b : B) : CPow i j ∧ B := ⟨h, b⟩
theorem jar_c {M : Mem} {j : Addr} {B : Prop} (h : JarAt M j) (b : B) : JarAt M j ∧ B := ⟨h, b⟩
/-- data whose kind isinstance knows -/
def isK : D → Bool
  | .non | .bl _ | .int _ | .str _ | .lst _ | .tup _ | .dct _ _ => true
  | _ => false
structure Kn (d : D) : Prop where
  ok : isK d = true
theorem kn_c {d : D} {B : Prop} (h : Kn d) (b : B) : Kn d ∧ B := ⟨h, b⟩
section
variable {C : Cq} {e a b elt tg : Expr} {es ifs : List Expr} {ρ : DEnv} {M : Mem} {P : PD} {PB : Bool → Mem → Prop} {pos p : Pos} {E : DE}
theorem qe_isD (h : QA C [a, b] ρ M fun ds M1 => ∃ d m r, ds = [d, .oth (.ty m)] ∧ isiD d m = some r ∧ P (.bl r) M1) (hg : Gl C.X "isinstance" := by rfl)
    (he : starEach [a, b] C.X.env = (false, eval a C.X.env) :: starEach [b] C.X.env := by rfl) (hpl : (backTo pos (starEach [b] C.X.env)).any (·.1) = false := by rfl) : QE C (.Call (.Name "isinstance" p) [a, b] [] pos) ρ M P :=
  qe_isi (ts := fun _ => True) ⟨fun σ H S w Q k => h σ H S w Q fun vs H' M' ds hi f r ⟨d, m, c, e1, e2, q⟩ => k vs H' M' ds hi f r (by
    obtain ⟨n, h1, h2⟩ := isiD_ok e2
    exact ⟨d, n, m, c, e1, h1, h2, q⟩)⟩ hg he hpl
theorem qe_tyI (p : P (.oth (.ty "int")) M) (hg : Gl C.X "int" := by rfl) : QE C (.Name "int" pos) ρ M P := qe_ty C.bn.int hg (by decide +kernel) p
theorem qe_tyB (p : P (.oth (.ty "bool")) M) (hg : Gl C.X "bool" := by rfl) : QE C (.Name "bool" pos) ρ M P := qe_ty C.bn.bool hg (by decide +kernel) p
theorem qe_tyS (p : P (.oth (.ty "str")) M) (hg : Gl C.X "str" := by rfl) : QE C (.Name "str" pos) ρ M P := qe_ty C.bn.str hg (by decide +kernel) p
theorem qe_tyL (p : P (.oth (.ty "list")) M) (hg : Gl C.X "list" := by rfl) : QE C (.Name "list" pos) ρ M P := qe_ty C.bn.list hg (by decide +kernel) p
theorem qe_tyT (p : P (.oth (.ty "tuple")) M) (hg : Gl C.X "tuple" := by rfl) : QE C (.Name "tuple" pos) ρ M P := qe_ty C.bn.tuple hg (by decide +kernel) p
/-! ### comprehensions by a word over the list so far and the memory without it -/
theorem compR {scope : Scope} {vs : List Nat} {M1 : Mem} {xs : List D} (Rl : Nat → List D → Mem → Prop) (h0 : Rl 0 [] M1)
    (step : ∀ (L : Addr) (i : Nat) (x : D) (acc : List D) (M2 : Mem), xs[i]? = some x → Rl i acc M2 → M2 L = none → M1 L = none → ∀ s H cc cl fp, QGw (C.blk s H scope cc cl fp) vs tg (wipeD ρ vs) (mupd M2 L (.lst acc)) x fun ρ2 M2' => ∀ s H cc cl fp, QTs (C.blk s H scope cc cl fp) ifs ρ2 M2' fun b M3 =>
      (b = true → ∀ s H cc cl fp, QE (C.blk s H scope cc cl fp) elt ρ2 M3 fun d M4 => acc.length < sizeLine ∧ ∃ M5, M4 = mupd M5 L (.lst acc) ∧ M5 L = none ∧ Rl (i + 1) (acc ++ [d]) M5) ∧ (b = false → ∃ M5, M3 = mupd M5 L (.lst acc) ∧ M5 L = none ∧ Rl (i + 1) acc M5))
    (fin : ∀ L acc M2, Rl xs.length acc M2 → M2 L = none → P (.oth (.ref L)) (mupd M2 L (.lst acc))) : CompH C scope tg ifs elt vs ρ M1 xs P := by
  intro L hL
  refine ⟨fun i M' => ∃ acc M2, M' = mupd M2 L (.lst acc) ∧ M2 L = none ∧ Rl i acc M2, ⟨[], M1, rfl, hL, h0⟩, ?_, ?_⟩
  · rintro i x M' hx ⟨acc, M2, rfl, hM, hR⟩ s H cc cl fp
    refine ⟨fun σ Hz v S r Q k => (step L i x acc M2 hx hR hM hL s H cc cl fp).run σ Hz v S r Q fun ρ' σ' H' S' f' e' q => k ρ' σ' H' S' f' e' ?_⟩
    intro s1 H1 cc1 cl1 fp1
    refine ⟨fun σ H S w Q k => (q s1 H1 cc1 cl1 fp1).run σ H S w Q fun b H' M' hi f ⟨h1, h2⟩ => k b H' M' hi f ⟨fun hb s2 H2 cc2 cl2 fp2 => (h1 hb s2 H2 cc2 cl2 fp2).imp ?_, fun hb => ?_⟩⟩
    · rintro d M4 ⟨hl, M5, rfl, h5, hR5⟩
      refine ⟨acc, mupd_same, hl, acc ++ [d], M5, mupd_upd, h5, hR5⟩
    · obtain ⟨M5, e5, h5, hR5⟩ := h2 hb
      exact ⟨acc, M5, e5, h5, hR5⟩
  · rintro M' ⟨acc, M2, rfl, hM, hR⟩
    exact fin L acc M2 hR hM
/-- nothing drawn: the items that pass, turned -/
theorem compP {scope : Scope} {vs : List Nat} {M1 : Mem} {xs : List D} (f : D → Option D) (hl : xs.length < sizeLine)
    (step : ∀ (i : Nat) (x : D), xs[i]? = some x → ∀ M', ∀ s H cc cl fp, QGw (C.blk s H scope cc cl fp) vs tg (wipeD ρ vs) M' x fun ρ2 M2' => ∀ s H cc cl fp, QTs (C.blk s H scope cc cl fp) ifs ρ2 M2' fun b M3 =>
      M3 = M' ∧ (b = true → ∀ s H cc cl fp, QE (C.blk s H scope cc cl fp) elt ρ2 M' fun d M4 => M4 = M' ∧ f x = some d) ∧ (b = false → f x = none))
    (fin : ∀ L, M1 L = none → P (.oth (.ref L)) (mupd M1 L (.lst (xs.filterMap f)))) : CompH C scope tg ifs elt vs ρ M1 xs P := by
  refine compR (fun i acc M2 => M2 = M1 ∧ acc = (xs.take i).filterMap f) ⟨rfl, rfl⟩ ?_ ?_
  · rintro L i x acc M2 hx ⟨rfl, rfl⟩ hM _ s H cc cl fp
    have ht : xs.take (i + 1) = xs.take i ++ [x] := by
      rw [List.take_succ, hx]; rfl
    have hlen : ((xs.take i).filterMap f).length < sizeLine := Nat.lt_of_le_of_lt (Nat.le_trans (List.length_filterMap_le _ _) (by rw [List.length_take]; omega)) hl
    refine ⟨fun σ Hz v S r Q k => (step i x hx _ s H cc cl fp).run σ Hz v S r Q fun ρ' σ' H' S' f' e' q => k ρ' σ' H' S' f' e' ?_⟩
    intro s1 H1 cc1 cl1 fp1
    refine ⟨fun σ H S w Q k => (q s1 H1 cc1 cl1 fp1).run σ H S w Q fun b H' M' hi f ⟨h0, h1, h2⟩ => k b H' M' hi f ⟨fun hb s2 H2 cc2 cl2 fp2 => ?_, fun hb => ?_⟩⟩
    · rw [h0]
      refine (h1 hb s2 H2 cc2 cl2 fp2).imp ?_
      rintro d M4 ⟨rfl, hd⟩
      exact ⟨hlen, M2, rfl, hM, rfl, by rw [ht, List.filterMap_append]; simp [hd]⟩
    · exact ⟨M2, h0, hM, rfl, by rw [ht, List.filterMap_append]; simp [h2 hb]⟩
  · rintro L acc M2 ⟨rfl, rfl⟩ hM
    rw [List.take_length]
    exact fin L hM
theorem qe_compP {scope : Scope} (own : List (Str × Nat)) (f : D → Option D) (h : QI C tg a ρ M fun xs M1 => xs.length < sizeLine ∧
      (∀ (i : Nat) (x : D), xs[i]? = some x → ∀ M', ∀ s H cc cl fp, QGw (C.blk s H scope cc cl fp) (own.map (·.2)) tg (wipeD ρ (own.map (·.2))) M' x fun ρ2 M2' => ∀ s H cc cl fp, QTs (C.blk s H scope cc cl fp) ifs ρ2 M2' fun b M3 =>
        M3 = M' ∧ (b = true → ∀ s H cc cl fp, QE (C.blk s H scope cc cl fp) elt ρ2 M' fun d M4 => M4 = M' ∧ f x = some d) ∧ (b = false → f x = none)) ∧ P (.lst (xs.filterMap f)) M1)
    (ok : BlkOk C.X.N C.X.env.scope scope own) (hc : C.X.calm = true := by rfl) (hs : ∀ x, foldedSetIterable a C.X.env x = pure x := by intro _; rfl) : QE C (.ListComp elt [⟨tg, a, ifs, 0⟩] scope pos) ρ M P := by
  refine qe_frz (qe_comp own ?_ ok hc hs)
  obtain ⟨wi, pi, q⟩ := h.ex
  refine ⟨wi, pi, fun σ H S w R k => q σ H S w R fun J H1 M1 xs hi fr wk ⟨hl, st, hp⟩ => k J H1 M1 xs hi fr wk (compP f hl st fun L hL => ⟨L, _, rfl, mupd_same, ?_⟩)⟩
  rw [mdel_upd hL]
  exact hp
theorem qs_setCompP {scope : Scope} {y : Str} {py spos : Pos} (i : Nat) (own : List (Str × Nat)) (f : D → Option D) (hy : C.X.N[i]? = some y) (hyl : C.X.env.scope.names.lookup y = some .local) (h : QI C tg a ρ M fun xs M1 => xs.length < sizeLine ∧
      (∀ (i : Nat) (x : D), xs[i]? = some x → ∀ M', ∀ s H cc cl fp, QGw (C.blk s H scope cc cl fp) (own.map (·.2)) tg (wipeD ρ (own.map (·.2))) M' x fun ρ2 M2' => ∀ s H cc cl fp, QTs (C.blk s H scope cc cl fp) ifs ρ2 M2' fun b M3 =>
        M3 = M' ∧ (b = true → ∀ s H cc cl fp, QE (C.blk s H scope cc cl fp) elt ρ2 M' fun d M4 => M4 = M' ∧ f x = some d) ∧ (b = false → f x = none)) ∧ E.nx (ρ.set i (some (.lst (xs.filterMap f)))) M1)
    (ok : BlkOk C.X.N C.X.env.scope scope own) (hsw : swapsWith (.ListComp elt [⟨tg, a, ifs, 0⟩] scope pos) (some (.Name y py)) spos.line C.X.env = pure true) (hc : C.X.calm = true := by rfl) (hs : ∀ x, foldedSetIterable a C.X.env x = pure x := by intro _; rfl) :
    QS C (.Assign [.Name y py] (.ListComp elt [⟨tg, a, ifs, 0⟩] scope pos) spos) ρ M E := by
  refine qs_setCompF i own hy hyl ?_ ok hsw hc hs
  obtain ⟨wi, pi, q⟩ := h.ex
  refine ⟨wi, pi, fun σ H S w R k => q σ H S w R fun J H1 M1 xs hi fr wk ⟨hl, st, hp⟩ => k J H1 M1 xs hi fr wk (compP f hl st fun L hL => ⟨L, _, rfl, mupd_same, ?_⟩)⟩
  rw [mdel_upd hL]
  exact hp
/-! ### great products -/
theorem qe_mulW (h : QE C a ρ M fun x M1 => QE C b ρ M1 fun y M2 => ∃ i j, x = .int i ∧ y = .int j ∧ CMulW i j ∧ P (.int (i * j)) M2) : QE C (.BinOp a .Mult b pos) ρ M P :=
  qe_op op_mulW (od_intC (g := fun i j => .int (i * j)) fun _ _ _ => .int _) h
end
end Q
namespace Q
open PySem PySem.Spec PyProof.Rows L2 LamX
section
variable {P : Program} {w : World} {K : PySem.W.Frag} {mg : Str → Option Value} {base : Heap} {T : List (Addr × Str)}
/-- .. its code object told: for defs that make lambdas -/
theorem hasFC {x : Str} {st : Stmt} {f : Addr} {fd : FuncData} {N ps : List Str} {k n : Nat} {c : Con} {cA : Addr} (F : Fun K x x st f fd) (S : FnScope N ps (defScope st)) (hm : mg x = some (.ref f)) (hb : Binds K fd ps []) (bn : BN mg) (hcd : fd.code = .ref cA)
    (hn : ps.length = n) (len : ∀ ds M Q Xd, c ds M Q Xd → ds.length = n)
    (body : ∀ (A : Around) (outer : List Env) (s : Shared) (H : Hp) (E : XK) (hr : Room k (A.deeper (envOfC x (defScope st) s.heap.objs.size f (.ref cA)))) (ds : List D) (M : Mem) (Q : PD) (Xd : Value → List (Str × D) → Mem → Prop), c ds M Q Xd →
      QSs (cqN P w K mg base T N x (defScope st) f k S.nd bn (.ref cA) A outer s H E hr) (defBody st) (ds.map some ++ List.replicate (N.length - n) none) M { nx := fun _ M' => Q .non M', rt := Q }) : HasF P w K mg base T x n (k + 1) c := by
  have F0 := F
  obtain ⟨oc, od, kV, doc, pm, an, cdv, ct, osl, rfl, lk, hcI⟩ := F.ex
  have e : cdv = .ref cA := hcd
  subst e
  refine ⟨f, _, ps, ?_, hn, hm, F0.kp, hb⟩
  refine fn_of lk hcI S (fun vs H Q E ⟨ds, M, Qd, Xd, hi, r, h, _⟩ => by rw [r.length, len _ _ _ _ h, hn]) fun A outer s H vs Q E hr ⟨ds, M, Qd, Xd, hi, r, h, kq, kx⟩ => ?_
  refine ⟨_, pss_W.nox, ?_⟩
  have hl := len _ _ _ _ h
  exact body A outer s H E hr ds M Qd Xd h (L2.start N vs) H (si_start hi r (by rw [hl])) (fun _ _ _ _ _ _ _ _ _ _ z => z.elim) _
    ⟨fun ρ' M' σ' H' S' f' q => kq .non H' M' .non S'.hi f' .non q, fun v H' M' d hi' f' r' q => kq v H' M' d hi' f' r' q, fun _ _ _ _ _ _ z => z.elim, fun _ _ _ _ _ _ z => z.elim⟩
end
/-- the qualified name of the lambdas of a def -/
def lamQ (x : Str) (st : Stmt) : Str := (envOfC x (defScope st) 0 0 .none).qual ++ "<lambda>"
theorem atI_n {α : Type} {xs : List α} {i : Nat} {x : α} (h : xs[i]? = some x) : atI xs (0 + (i : Int)) = some x := by
  have hl := (List.getElem?_eq_some_iff.mp h).1
  unfold atI ixN
  rw [if_pos (by omega), if_pos (by omega)]
  have : (0 + (i : Int)).toNat = i := by omega
  simp only [this, Option.bind_some]
  exact h
theorem atI_i {α : Type} {xs : List α} {i : Int} (h0 : 0 ≤ i) (h1 : i < xs.length) : ∃ x, atI xs i = some x ∧ xs[i.toNat]? = some x := by
  refine ⟨xs[i.toNat]'(by omega), ?_, by simp⟩
  unfold atI ixN
  rw [if_pos h0, if_pos h1]
  simp
end Q
namespace Q
open PySem PySem.Spec PyProof.Rows L2 LamX
section
variable {C : Cq} {e a b elt tg : Expr} {es ifs : List Expr} {ρ : DEnv} {M : Mem} {P : PD} {PB : Bool → Mem → Prop} {pos p : Pos} {E : DE}
theorem qe_sum (h : QA C [a] ρ M fun ds M1 => ∃ (d : D) (ns : List Int), ds = [d] ∧ SeqR M1 d (ns.map .int) ∧ P (.int ns.sum) M1) (hg : Gl C.X "sum" := by rfl) (hc : C.X.calm = true := by rfl)
    (he : starEach [a] C.X.env = (false, eval a C.X.env) :: starEach [] C.X.env := by rfl) : QE C (.Call (.Name "sum" p) [a] [] pos) ρ M P :=
  qe_bi (cr_sum hc) (rd := fun ds M1 P => ∃ (d : D) (ns : List Int), ds = [d] ∧ SeqR M1 d (ns.map .int) ∧ P (.int ns.sum) M1) (by
    intro vs ds M H P Q hi r h k
    obtain ⟨d, ns, rfl, s, q⟩ := h
    cases r with
    | cons r r' =>
      cases r'
      obtain ⟨l, us, rfl, h1, h2⟩ := s.at hi r
      obtain rfl := h2.ints
      exact ⟨l, ns, rfl, h1, k _ H M _ hi (.refl _ _) (.int _) q⟩) C.bn.sum (by decide +kernel) hg h (he := he) (hpl := by rfl)
theorem qe_mulM (h : QE C a ρ M fun x M1 => QE C b ρ M1 fun y M2 => ∃ k xs, y = .int k ∧ SeqL M2 x xs ∧ -(2 ^ 63) ≤ k ∧ k < 2 ^ 63 ∧ xs.length * k.toNat ≤ sizeLine ∧ ∀ q, M2 q = none → P (.oth (.ref q)) (mupd M2 q (.lst (List.replicate k.toNat xs).flatten))) :
    QE C (.BinOp a .Mult b pos) ρ M P := qe_op (rd := fun x y M P => ∃ k xs, y = .int k ∧ SeqL M x xs ∧ -(2 ^ 63) ≤ k ∧ k < 2 ^ 63 ∧ xs.length * k.toNat ≤ sizeLine ∧ ∀ q, M q = none → P (.oth (.ref q)) (mupd M q (.lst (List.replicate k.toNat xs).flatten))) (op_mul.or (op_mulW.or op_rep)) (by
  intro v u x y M H P Q hi rx ry h k
  obtain ⟨n, xs, rfl, s1, h1, h2, h3, p⟩ := h
  cases ry
  obtain ⟨l, vs, rfl, e1, r1⟩ := s1.at hi rx
  exact .inr (.inr ⟨l, _, vs, rfl, rfl, e1, h1, h2, by rw [r1.length]; exact h3, fun q hq =>
      k _ _ _ _ (hi.newM (m := .lst _) hq (r1.rep _)) (fr_newM hi hq) (.oth _) (p q (hi.mnone hq))⟩)) h
end
theorem eq_lst {xs ys : List D} {M : Mem} {P : PD} {c d : PyData} (h1 : toPy (.lst xs) = some c) (h2 : toPy (.lst ys) = some d) (h3 : SeqAt.shaped c = true) (h4 : SeqAt.shaped d = true) (p : P (.bl (PyData.eqv c d)) M) : rdEq (.lst xs) (.lst ys) M P := by
  unfold rdEq; exact ⟨c, d, h1, h2, h3, h4, p⟩
theorem eq_tup {xs ys : List D} {M : Mem} {P : PD} {c d : PyData} (h1 : toPy (.tup xs) = some c) (h2 : toPy (.tup ys) = some d) (h3 : SeqAt.shaped c = true) (h4 : SeqAt.shaped d = true) (p : P (.bl (PyData.eqv c d)) M) : rdEq (.tup xs) (.tup ys) M P := by
  unfold rdEq; exact ⟨c, d, h1, h2, h3, h4, p⟩
theorem JarAt.upd {M : Mem} {j p : Addr} {m : MO} (h : JarAt M j) (n : p ≠ j) : JarAt (mupd M p m) j := by
  obtain ⟨d, s, k, o, e⟩ := h
  exact ⟨d, s, k, o, by rw [mupd_ne (Ne.symm n)]; exact e⟩
theorem JarAt.ne {M : Mem} {j p : Addr} (h : JarAt M j) (n : M p = none) : p ≠ j := by
  obtain ⟨d, s, k, o, e⟩ := h
  rintro rfl
  rw [n] at e; cases e
/-- the list that was made between draws is forgotten -/
theorem JM.drop {j p : Addr} {M M1 : Mem} {m : MO} (h : JM j (mupd M p m) M1) (hp : M p = none) (n : p ≠ j) : ∃ M2, JM j M M2 ∧ M1 = mupd M2 p m ∧ M2 p = none := by
  obtain ⟨d, s, k, o, rfl⟩ := h
  exact ⟨_, ⟨d, s, k, o, rfl⟩, mupd_comm n, by rw [mupd_ne n]; exact hp⟩
theorem qp_none {C : Cq} {ρ : DEnv} {M : Mem} {P : Option Int → Mem → Prop} (h : P none M) : QP C none ρ M P := h
theorem qp_some {C : Cq} {ρ : DEnv} {M : Mem} {e : Expr} {P : Option Int → Mem → Prop} (h : QE C e ρ M fun d M1 => ∃ i, d = .int i ∧ P (some i) M1) : QP C (some e) ρ M P := h
theorem seq_l {M : Mem} {xs : List D} {Q : List D → Prop} (h : Q xs) : ∃ ys, SeqR M (.lst xs) ys ∧ Q ys := ⟨xs, .lst (.lst xs), h⟩
theorem seq_f {M : Mem} {xs : List D} {Q : List D → Prop} (h : Q xs) : ∃ ys, SeqR M (.frz xs) ys ∧ Q ys := ⟨xs, .frz xs, h⟩
theorem in_l {x : D} {xs : List D} {M : Mem} {P : PD} (h1 : flatD x = true) (h2 : xs.all flatD = true) (p : P (.bl (inD x xs)) M) : rdIn false x (.lst xs) M P := by
  unfold rdIn; exact ⟨xs, .inl (.lst (.lst xs)), h1, h2, by rw [if_neg Bool.false_ne_true]; exact p⟩
theorem notin_l {x : D} {xs : List D} {M : Mem} {P : PD} (h1 : flatD x = true) (h2 : xs.all flatD = true) (p : P (.bl (!inD x xs)) M) : rdIn true x (.lst xs) M P := by
  unfold rdIn; exact ⟨xs, .inl (.lst (.lst xs)), h1, h2, by rw [if_pos rfl]; exact p⟩
theorem in_t {x : D} {xs : List D} {M : Mem} {P : PD} (h1 : flatD x = true) (h2 : xs.all flatD = true) (p : P (.bl (inD x xs)) M) : rdIn false x (.tup xs) M P := by
  unfold rdIn; exact ⟨xs, .inr rfl, h1, h2, by rw [if_neg Bool.false_ne_true]; exact p⟩
theorem notin_t {x : D} {xs : List D} {M : Mem} {P : PD} (h1 : flatD x = true) (h2 : xs.all flatD = true) (p : P (.bl (!inD x xs)) M) : rdIn true x (.tup xs) M P := by
  unfold rdIn; exact ⟨xs, .inr rfl, h1, h2, by rw [if_pos rfl]; exact p⟩
theorem cut_to {α : Type} {xs : List α} {m : Int} (h0 : 0 ≤ m) (h1 : m ≤ xs.length) : cutD xs none (some m) = xs.take m.toNat := by
  have e : HT.sIx xs.length xs.length (some m) = m.toNat := by
    show (if m < 0 then (m + (xs.length : Int)).toNat else min m.toNat xs.length) = _
    rw [if_neg (by omega)]; omega
  unfold cutD
  rw [e]
  rfl
/-- data that stand behind a refusal: equal to themselves -/
def Odd (v : D) : Prop := match v with
  | .non | .bl _ | .int _ | .str _ => True
  | .lst xs => ∃ c, toPy (.lst xs) = some c ∧ SeqAt.shaped c = true ∧ PyData.eqv c c = true
  | .tup xs => ∃ c, toPy (.tup xs) = some c ∧ SeqAt.shaped c = true ∧ PyData.eqv c c = true
  | _ => False
section
variable {P : Program} {w : World} {K : PySem.W.Frag} {mg : Str → Option Value} {base : Heap} {T : List (Addr × Str)}
/-- as hasF, the function told -/
theorem okF {x : Str} {st : Stmt} {f : Addr} {fd : FuncData} {N ps : List Str} {k n : Nat} {c : Con} (F : Fun K x x st f fd) (S : FnScope N ps (defScope st)) (bn : BN mg)
    (hn : ps.length = n) (len : ∀ ds M Q Xd, c ds M Q Xd → ds.length = n)
    (body : ∀ (cdv : Value) (A : Around) (outer : List Env) (s : Shared) (H : Hp) (E : XK) (hr : Room k (A.deeper (envOfC x (defScope st) s.heap.objs.size f cdv))) (ds : List D) (M : Mem) (Q : PD) (Xd : Value → List (Str × D) → Mem → Prop), c ds M Q Xd →
      QSs (cqN P w K mg base T N x (defScope st) f k S.nd bn cdv A outer s H E hr) (defBody st) (ds.map some ++ List.replicate (N.length - n) none) M { nx := fun _ M' => Q .non M', rt := Q }) : FnOk P w K mg base (L2.CX P w) (k + 1) f fd ps (SpG K T c) := by
  refine F.okX S (fun vs H Q E ⟨ds, M, Qd, Xd, hi, r, h, _⟩ => by rw [r.length, len _ _ _ _ h, hn]) fun cdv A outer s H vs Q E hr ⟨ds, M, Qd, Xd, hi, r, h, kq, kx⟩ => ?_
  refine ⟨_, pss_W.nox, ?_⟩
  have hl := len _ _ _ _ h
  exact body cdv A outer s H E hr ds M Qd Xd h (L2.start N vs) H (si_start hi r (by rw [hl])) (fun _ _ _ _ _ _ _ _ _ _ z => z.elim) _
    ⟨fun ρ' M' σ' H' S' f' q => kq .non H' M' .non S'.hi f' .non q, fun v H' M' d hi' f' r' q => kq v H' M' d hi' f' r' q, fun _ _ _ _ _ _ z => z.elim, fun _ _ _ _ _ _ z => z.elim⟩
end
/-- the promise of a law, where it is called -/
def cLaw : Con := fun ds M Q _ => ∃ ns : List Int, ds = [.frz (ns.map D.int)] ∧ ns.length ≤ 63 ∧ ∀ M', Q (.bl true) M'
theorem sp_law {K : PySem.W.Frag} {T : List (Addr × Str)} {H : Hp} {a : Addr} {ns : List Int} (hl : ns.length ≤ 63) (hT : ∀ p ∈ T, H p.1 = some (.tbl #[])) (h : SqL K H a (ns.map V.int)) :
    SpG K T cLaw [.ref a] H (fun v _ => v = .bl true) fun _ _ _ => False := by
  have e : sub H (fun _ => none) = H := rfl
  refine ⟨[.frz (ns.map D.int)], fun _ => none, fun d _ => d = .bl true, fun _ _ _ => False, ⟨fun p m z => (nomatch z), fun p hp => TabS.nil (hT p hp)⟩, .cons (.frz (by rw [e]; exact h) ?_) .nil, ⟨ns, rfl, hl, fun _ => rfl⟩, fun v H' M' d _ _ r q => ?_, fun _ _ _ _ _ _ _ _ z => z.elim⟩
  · have : ∀ l : List Int, RpA K (sub H fun _ => none) (l.map V.int) (l.map D.int) := fun l => by
      induction l with
      | nil => exact .nil
      | cons n l ih => exact .cons (.int n) ih
    exact this ns
  · subst q
    cases r
    rfl
/-- an error of the class at S is what «except S» names -/
theorem exm_self {K : PySem.W.Frag} {S : Addr} (h1 : PySem.W.subIn K (.ref S) (.type "BaseException") = some true) (h2 : PySem.W.isClsIn K S = true) (h3 : PySem.W.typeIn K (.ref S) = some (.type "type")) (h4 : PySem.W.subIn K (.ref S) (.ref S) = some true) :
    PySem.W.exmOne K (.ref S) (.ref S) = some true := by
  have e1 : (PySem.W.subIn K (.ref S) (.type "BaseException") == some true) = true := by rw [h1] <;> rfl
  have e2 : ((PySem.W.clsIn K S).isSome && PySem.W.typeIn K (.ref S) == some (.type "type")) = true := by
    have h2' : (PySem.W.clsIn K S).isSome = true := h2
    rw [h2', h3] <;> rfl
  show (if (PySem.W.subIn K (.ref S) (.type "BaseException") == some true) = true then (if ((PySem.W.clsIn K S).isSome && PySem.W.typeIn K (.ref S) == some (.type "type")) = true then PySem.W.subIn K (.ref S) (.ref S) else none) else none) = some true
  rw [if_pos e1, if_pos e2]
  exact h4
theorem cx_none {P : Program} {w : World} (H : Hp) (s : Shared) (e : Value) (s' : Shared) (h : L2.CX P w [] H s (fun _ _ _ => False) e s') : False := by
  obtain ⟨_, _, _, _, _, _, _, _, _, _, _, _, z⟩ := h
  exact z
end Q
namespace Q
open PySem PySem.Spec PyProof.Rows L2 LamX
/-! ### sorted lists of ints -/
def insI (a : Int) : List Int → List Int
  | [] => [a]
  | b :: l => if a ≤ b then a :: b :: l else b :: insI a l
def srt : List Int → List Int
  | [] => []
  | a :: l => insI a (srt l)
theorem insI_perm (a : Int) : ∀ l : List Int, (insI a l).Perm (a :: l)
  | [] => .refl _
  | b :: l => by
    unfold insI
    split
    · exact .refl _
    · exact ((insI_perm a l).cons b).trans (.swap a b l)
theorem srt_perm : ∀ l : List Int, (srt l).Perm l
  | [] => .refl _
  | a :: l => (insI_perm a (srt l)).trans ((srt_perm l).cons a)
theorem insI_sorted (a : Int) : ∀ l : List Int, l.Pairwise (· ≤ ·) → (insI a l).Pairwise (· ≤ ·)
  | [], _ => by simp [insI]
  | b :: l, h => by
    unfold insI
    split
    · rename_i c
      refine List.pairwise_cons.mpr ⟨fun x hx => ?_, h⟩
      rcases List.mem_cons.mp hx with rfl | hx
      · exact c
      · exact Int.le_trans c ((List.pairwise_cons.mp h).1 x hx)
    · rename_i c
      refine List.pairwise_cons.mpr ⟨fun x hx => ?_, insI_sorted a l (List.pairwise_cons.mp h).2⟩
      rcases List.mem_cons.mp ((insI_perm a l).mem_iff.mp hx) with rfl | hx
      · omega
      · exact (List.pairwise_cons.mp h).1 x hx
theorem srt_sorted : ∀ l : List Int, (srt l).Pairwise (· ≤ ·)
  | [] => .nil
  | a :: l => insI_sorted a _ (srt_sorted l)
theorem sorted_eq : ∀ {l m : List Int}, l.Perm m → l.Pairwise (· ≤ ·) → m.Pairwise (· ≤ ·) → l = m
  | [], m, p, _, _ => (List.nil_perm.mp p).symm
  | a :: l, [], p, _, _ => absurd p.length_eq (by simp)
  | a :: l, b :: m, p, h, k => by
    have e : a = b := by
      have h1 : b ∈ a :: l := p.mem_iff.mpr List.mem_cons_self
      have h2 : a ∈ b :: m := p.mem_iff.mp List.mem_cons_self
      rcases List.mem_cons.mp h1 with z | z
      · exact z.symm
      · rcases List.mem_cons.mp h2 with y | y
        · exact y
        · have := (List.pairwise_cons.mp h).1 b z
          have := (List.pairwise_cons.mp k).1 a y
          omega
    subst e
    rw [sorted_eq (List.Perm.cons_inv p) (List.pairwise_cons.mp h).2 (List.pairwise_cons.mp k).2]
theorem srt_unique {l m : List Int} (p : m.Perm l) (s : m.Pairwise (· ≤ ·)) : m = srt l := sorted_eq (p.trans (srt_perm l).symm) s (srt_sorted l)
theorem srt_len (l : List Int) : (srt l).length = l.length := (srt_perm l).length_eq
theorem srt_mem {l : List Int} {x : Int} : x ∈ srt l ↔ x ∈ l := (srt_perm l).mem_iff
theorem srt_of_perm {l m : List Int} (p : l.Perm m) : srt l = srt m := srt_unique ((srt_perm l).trans p) (srt_sorted l)
theorem srt_id {l : List Int} (s : l.Pairwise (· ≤ ·)) : srt l = l := (srt_unique (.refl l) s).symm
section
variable {C : Cq} {e a b c elt tg : Expr} {es ifs : List Expr} {ρ : DEnv} {M : Mem} {P : PD} {PB : Bool → Mem → Prop} {pos p : Pos} {E : DE}
theorem rpa_ints {K : PySem.W.Frag} {H : Hp} (ns : List Int) : RpA K H (ns.map V.int) (ns.map D.int) := by
  induction ns with
  | nil => exact .nil
  | cons n l ih => exact .cons (.int n) ih
/-- sorted(xs), ints -/
theorem qe_sorted (h : QA C [a] ρ M fun ds M1 => ∃ (d : D) (ns : List Int), ds = [d] ∧ SeqR M1 d (ns.map .int) ∧ P (.lst ((srt ns).map .int)) M1) (hg : Gl C.X "sorted" := by rfl)
    (he : starEach [a] C.X.env = (false, eval a C.X.env) :: starEach [] C.X.env := by rfl) : QE C (.Call (.Name "sorted" p) [a] [] pos) ρ M P :=
  qe_bi cr_sortedI (rd := fun ds M1 P => ∃ (d : D) (ns : List Int), ds = [d] ∧ SeqR M1 d (ns.map .int) ∧ P (.lst ((srt ns).map .int)) M1) (by
    intro vs ds M H P Q hi r h k
    obtain ⟨d, ns, rfl, s, q⟩ := h
    cases r with
    | cons r r' =>
      cases r'
      obtain ⟨l, us, rfl, h1, h2⟩ := s.at hi r
      obtain rfl := h2.ints
      refine ⟨l, ns, rfl, h1, fun ns' p hp hs hn => ?_⟩
      obtain rfl := srt_unique hp hs
      exact k _ _ M _ (hi.new hn) (fr_new hi hn) (.lst (sub_of (hi.mnone hn) upd_same) (rpa_ints _)) q) C.bn.sorted (by decide +kernel) hg h (he := he) (hpl := by rfl)
/-- xs[::-1] -/
theorem qe_rev {k : Nat} {p1 p2 p3 : Pos} (h : QE C a ρ M fun x M1 => ∃ xs, SeqR M1 x xs ∧ P (.lst xs.reverse) M1) : QE C (.Subscript a (.Slice none none (some (.UnaryOp .USub (.Constant (.int 1) k p1) p2)) p3) pos) ρ M P :=
  .of (pe_revL pe_W) fun σ H S w Q k => h σ H S w _ fun v H1 M1 d hi f r ⟨xs, s, q⟩ => by
    obtain ⟨l, us, rfl, h1, h2⟩ := s.at hi r
    exact ⟨l, us, rfl, h1, fun p hp => k _ _ M1 _ (hi.new hp) (f.trans (fr_new hi hp)) (.lst (sub_of (hi.mnone hp) upd_same) (h2.reverse.mono (fr_new hi hp).sb)) q⟩
theorem qe_revM {k : Nat} {p1 p2 p3 : Pos} (h : QE C a ρ M fun x M1 => ∃ xs, SeqR M1 x xs ∧ ∀ q, M1 q = none → P (.oth (.ref q)) (mupd M1 q (.lst xs.reverse))) : QE C (.Subscript a (.Slice none none (some (.UnaryOp .USub (.Constant (.int 1) k p1) p2)) p3) pos) ρ M P :=
  .of (pe_revL pe_W) fun σ H S w Q k => h σ H S w _ fun v H1 M1 d hi f r ⟨xs, s, q⟩ => by
    obtain ⟨l, us, rfl, h1, h2⟩ := s.at hi r
    exact ⟨l, us, rfl, h1, fun p hp => k _ _ _ _ (hi.newM (m := .lst xs.reverse) hp h2.reverse) (f.trans (fr_newM hi hp)) (.oth _) (q p (hi.mnone hp))⟩
/-- a, b, c = x, y, z -/
theorem qs_par3 {x y z : Str} {px py pz pt : Pos} {kt k2 : Nat} {pt2 : Pos} (i j l : Nat) (hi : C.X.N[i]? = some x) (hj : C.X.N[j]? = some y) (hl : C.X.N[l]? = some z) (hij : i ≠ j) (hil : i ≠ l) (hjl : j ≠ l) (hx : C.X.env.scope.names.lookup x = some .local) (hy : C.X.env.scope.names.lookup y = some .local) (hz : C.X.env.scope.names.lookup z = some .local)
    (h : QA C [a, b, c] ρ M fun ds M' => ∃ d1 d2 d3, ds = [d1, d2, d3] ∧ E.nx (((ρ.set i (some d1)).set j (some d2)).set l (some d3)) M')
    (hc : C.X.calm = true := by rfl) (hw : swappedStores [.Tuple [.Name x px, .Name y py, .Name z pz] kt pt] (.Tuple [a, b, c] k2 pt2) C.X.env = pure (some [x, y, z]) := by rfl)
    (hs : swapsWithSole [.Tuple [.Name x px, .Name y py, .Name z pz] kt pt] (.Tuple [a, b, c] k2 pt2) pos.line C.X.env = pure false := by rfl) : QS C (.Assign [.Tuple [.Name x px, .Name y py, .Name z pz] kt pt] (.Tuple [a, b, c] k2 pt2) pos) ρ M E :=
  .of (ps_par3 hc C.nd hi hj hl hij hil hjl hx hy hz pa_W hw hs) fun σ H S w De k => h σ H S w _ fun vs H' M' ds hi f r ⟨d1, d2, d3, e, p⟩ => by
    subst e
    cases r with
    | cons r1 r => cases r with
      | cons r2 r => cases r with
        | cons r3 r => cases r with
          | nil => exact ⟨_, _, _, rfl, k.nx _ M' _ H' ((((S.fr f hi).set r1 i).set r2 j).set r3 l) f p⟩
/-- for i, x in enumerate(xs) -/
def enumD (xs : List D) : List D := xs.mapIdx fun i d => .tup [.int (i : Nat), d]
theorem enumD_length (xs : List D) : (enumD xs).length = xs.length := by simp [enumD]
theorem enumD_get {xs : List D} {i : Nat} {d : D} (h : (enumD xs)[i]? = some d) : ∃ x, xs[i]? = some x ∧ d = .tup [.int (i : Nat), x] := by
  unfold enumD at h
  rw [List.getElem?_mapIdx] at h
  cases e : xs[i]? with
  | none => rw [e] at h; cases h
  | some x => rw [e] at h; simp at h; exact ⟨x, rfl, h.symm⟩
theorem walks_enum {l : Addr} {vs : List V} {xs : List D} {M1 : Mem} {H1 : Hp} (h : SqL C.K (sub H1 M1) l vs) (r : RpA C.K (sub H1 M1) vs xs) : Walks C (Ite C.K l) M1 H1 (enumD xs) := by
  intro M' H' hi f
  have h' := sqL_sub (f.sb.sqL h)
  have r' := r.mono f.sb
  refine ⟨fun i d e => ?_, fun i hl => ⟨vs, h', by rw [r.length]; rw [enumD_length] at hl; exact hl⟩⟩
  obtain ⟨x, e1, rfl⟩ := enumD_get e
  obtain ⟨v, e2, r2⟩ := r'.get e1
  refine ⟨⟨vs, v, h', e2⟩, fun u H2 ⟨t, y, eu, ht, eH, hy⟩ => ?_⟩
  subst eu eH
  have := hy vs h'
  rw [e2] at this
  cases this
  exact ⟨hi.new ht, fr_new hi ht, .tup (.inl (.inl (sub_of (hi.mnone ht) upd_same))) (.cons (.int _) (.cons (r2.mono (fr_new hi ht).sb) .nil))⟩
theorem qi_enum {ts : List Expr} {kk : Nat} {tpos : Pos} {P : List D → Mem → Prop} (h : QA C [a] ρ M fun ds M1 => ∃ xs, (ds = [.lst xs] ∨ ds = [.frz xs]) ∧ P (enumD xs) M1) (hg : Gl C.X "enumerate" := by rfl) (hs : starEach [a] C.X.env = [(false, eval a C.X.env)] := by rfl) :
    QI C (.Tuple ts kk tpos) (.Call (.Name "enumerate" p) [a] [] pos) ρ M P :=
  ⟨_, pi_enum hg C.bn.enumerate pa_W hs, fun σ H S w R k => h σ H S w _ fun vs H1 M1 ds hi f r ⟨xs, e, p⟩ => by
    rcases e with rfl | rfl
    · cases r with
      | cons r t =>
        cases t
        cases r with
        | lst h1 h2 => exact ⟨_, _, rfl, SqL.of (sub_some h1).2, k _ H1 M1 _ hi f (walks_enum (SqL.of h1) h2) p⟩
    · cases r with
      | cons r t =>
        cases t
        cases r with
        | frz h1 h2 => exact ⟨_, _, rfl, sqL_sub h1, k _ H1 M1 _ hi f (walks_enum h1 h2) p⟩⟩
/-- xs.extend(ys) -/
theorem qe_extend {apos : Pos} (h : QE C a ρ M fun x M1 => ∃ p, x = .oth (.ref p) ∧ (∃ xs, M1 p = some (.lst xs)) ∧ QE C b ρ M1 fun d M2 => ∃ xs ys, d = .lst ys ∧ M2 p = some (.lst xs) ∧ xs.length + ys.length ≤ sizeLine ∧ P .non (mupd M2 p (.lst (xs ++ ys))))
    (hbase : attributeBase a "extend" C.X.env (eval a C.X.env) = eval a C.X.env := by rfl)
    (hfew : ((backTo pos (starEach [b] C.X.env)).all (fun x => !x.1) && (backToKw pos (keywordEach [] C.X.env)).all (fun x => x.1.isSome)
      && decide ([b].length + ([] : List Keyword).length + (if ([] : List Keyword).isEmpty then 0 else 1) < 30)) = true := by rfl)
    (hline : (apos.endLine == pos.line) = true := by rfl) (hs : starEach [b] C.X.env = (false, eval b C.X.env) :: starEach [] C.X.env := by rfl) :
    QE C (.Call (.Attribute a "extend" apos) [b] [] pos) ρ M P :=
  .of (pe_bm PySem.F.plainAttrs_list PySem.F.slot_list_extend PySem.F.type_list_extend mt_extend pe_W (pa_cons pe_W pa_nil hs) hbase hfew hline hs rfl) fun σ H S w Q k => h σ H S w _ fun u H1 M1 x hi1 f1 rx ⟨p, ex, ⟨xs0, hp0⟩, h1⟩ => by
    subst ex
    cases rx
    obtain ⟨o, g1, g2⟩ := hi1.mem p _ hp0
    obtain ⟨vs0, rfl, _⟩ := g2.lst
    refine ⟨.inl ⟨rfl, _, SqL.of g1⟩, ?_⟩
    refine h1 σ H1 (S.fr f1 hi1) (w.fr f1) _ fun v H2 M2 d hi2 f2 r ⟨xs, ys, ed, hp, hl, q⟩ => ?_
    subst ed
    obtain ⟨o, g3, g4⟩ := hi2.mem p _ hp
    obtain ⟨vs, rfl, g4⟩ := g4.lst
    cases r with
    | lst k1 k2 =>
      refine ⟨p, _, vs, _, rfl, rfl, g3, (sub_some k1).2, by rw [g4.length, k2.length]; exact hl, ?_⟩
      have hi3 := hi2.wr (o := .lst (vs ++ _)) (m' := .lst (xs ++ ys)) hp (g4.append k2)
      exact k _ _ _ _ hi3 ((f1.trans f2).trans (fr_wr hp)) .non q
end
/-! ### == of lists of ints -/
theorem toPys_ints : ∀ ns : List Int, toPys (ns.map .int) = some (ns.map PyData.int)
  | [] => rfl
  | n :: ns => by rw [List.map_cons, toPys, toPys_ints ns]; rfl
theorem eqv_ints : ∀ ns ms : List Int, PyData.eqvAll (ns.map .int) (ms.map .int) = decide (ns = ms)
  | [], [] => rfl
  | [], m :: ms => by rw [List.map_cons, List.map_nil, PyData.eqvAll]; simp
  | n :: ns, [] => by rw [List.map_cons, List.map_nil, PyData.eqvAll]; simp
  | n :: ns, m :: ms => by
    rw [List.map_cons, List.map_cons, PyData.eqvAll, eqv_ints ns ms, PyData.eqv]
    by_cases h : n = m
    · subst h; simp
    · simp [h]
theorem lay_ints : ∀ ns : List Int, PyData.canLayAll0 (ns.map .int) = true
  | [] => rfl
  | n :: ns => by rw [List.map_cons, PyData.canLayAll0, lay_ints ns]; rfl
end Q
namespace Q
open PySem PySem.Spec PyProof.Rows L2 LamX
theorem dep_ints : ∀ ns : List Int, PyData.depthAll (ns.map .int) = 0
  | [] => rfl
  | n :: ns => by rw [List.map_cons, PyData.depthAll, dep_ints ns]; rfl
theorem shaped_ints (ns : List Int) : SeqAt.shaped (.list (ns.map .int)) = true := by
  unfold SeqAt.shaped
  rw [PyData.canLay0, lay_ints, PyData.depth, dep_ints]
  rfl
theorem eq_ints {xs ys : List Int} {M : Mem} {P : PD} (h : P (.bl (decide (xs = ys))) M) : rdEq (.lst (xs.map .int)) (.lst (ys.map .int)) M P :=
  eq_lst (by rw [toPy, toPys_ints]; rfl) (by rw [toPy, toPys_ints]; rfl) (shaped_ints _) (shaped_ints _) (by rw [PyData.eqv, eqv_ints]; exact h)
theorem ne_ints {xs ys : List Int} {M : Mem} {P : PD} (h : P (.bl (!decide (xs = ys))) M) : rdNe (.lst (xs.map .int)) (.lst (ys.map .int)) M P := by
  unfold rdNe
  exact eq_ints ⟨_, rfl, h⟩
/-! ### pouring upon the least -/
/-- one more to the least of a sorted list -/
def st1 : List Int → List Int
  | [] => []
  | x :: l => insI (x + 1) l
def stN : Nat → List Int → List Int
  | 0, l => l
  | n + 1, l => st1 (stN n l)
theorem stN_add (a b : Nat) (l : List Int) : stN (a + b) l = stN b (stN a l) := by
  induction b with
  | zero => rfl
  | succ b ih => rw [Nat.add_succ, stN, stN, ih]
theorem st1_len : ∀ l : List Int, (st1 l).length = l.length
  | [] => rfl
  | x :: l => by rw [st1, (insI_perm _ _).length_eq]; rfl
theorem st1_sorted : ∀ {l : List Int}, l.Pairwise (· ≤ ·) → (st1 l).Pairwise (· ≤ ·)
  | [], _ => .nil
  | x :: l, h => insI_sorted _ _ (List.pairwise_cons.mp h).2
theorem perm_sum {l m : List Int} (p : l.Perm m) : l.sum = m.sum := by
  induction p with
  | nil => rfl
  | cons x _ ih => rw [List.sum_cons, List.sum_cons, ih]
  | swap x y l => rw [List.sum_cons, List.sum_cons, List.sum_cons, List.sum_cons]; omega
  | trans _ _ h1 h2 => exact h1.trans h2
theorem st1_sum : ∀ {l : List Int}, l ≠ [] → (st1 l).sum = l.sum + 1
  | [], h => absurd rfl h
  | x :: l, _ => by rw [st1, perm_sum (insI_perm _ _), List.sum_cons, List.sum_cons]; omega
theorem stN_len (n : Nat) (l : List Int) : (stN n l).length = l.length := by
  induction n with
  | zero => rfl
  | succ n ih => rw [stN, st1_len, ih]
theorem stN_sorted (n : Nat) {l : List Int} (h : l.Pairwise (· ≤ ·)) : (stN n l).Pairwise (· ≤ ·) := by
  induction n with
  | zero => exact h
  | succ n ih => rw [stN]; exact st1_sorted ih
theorem stN_sum (n : Nat) {l : List Int} (h : l ≠ []) : (stN n l).sum = l.sum + n := by
  induction n with
  | zero => simp [stN]
  | succ n ih =>
    rw [stN, st1_sum (by intro z; have := stN_len n l; rw [z] at this; exact h (List.length_eq_zero_iff.mp this.symm)), ih]
    omega
theorem st1_lo : ∀ {l : List Int} {b : Int}, (∀ x ∈ l, b ≤ x) → ∀ x ∈ st1 l, b ≤ x
  | [], _, _, x, hx => by simp [st1] at hx
  | y :: l, b, h, x, hx => by
    rw [st1] at hx
    rcases List.mem_cons.mp ((insI_perm _ _).mem_iff.mp hx) with rfl | hx
    · have := h y List.mem_cons_self; omega
    · exact h x (List.mem_cons_of_mem _ hx)
theorem st1_hi : ∀ {l : List Int} {b : Int}, (∀ x ∈ l, x ≤ b) → ∀ x ∈ st1 l, x ≤ b + 1
  | [], _, _, x, hx => by simp [st1] at hx
  | y :: l, b, h, x, hx => by
    rw [st1] at hx
    rcases List.mem_cons.mp ((insI_perm _ _).mem_iff.mp hx) with rfl | hx
    · have := h y List.mem_cons_self; omega
    · have := h x (List.mem_cons_of_mem _ hx); omega
theorem stN_lo (n : Nat) {l : List Int} {b : Int} (h : ∀ x ∈ l, b ≤ x) : ∀ x ∈ stN n l, b ≤ x := by
  induction n with
  | zero => exact h
  | succ n ih => rw [stN]; exact st1_lo ih
theorem stN_hi (n : Nat) {l : List Int} {b : Int} (h : ∀ x ∈ l, x ≤ b) : ∀ x ∈ stN n l, x ≤ b + n := by
  induction n with
  | zero => simpa [stN] using h
  | succ n ih =>
    rw [stN]
    intro x hx
    have := st1_hi ih x hx
    omega
/-- the pool of many, its height, what is left; the rows above it -/
def blkP (many : Nat) (h left : Int) : List Int := List.replicate (many - (left % many).toNat) (h + left / many) ++ List.replicate (left % many).toNat (h + left / many + 1)
def pin (many : Nat) (h left : Int) : List Int → List Int
  | [] => blkP many h left
  | x :: rest => if left > many * (x - h) then pin (many + 1) x (left - many * (x - h)) rest else blkP many h left ++ x :: rest
theorem insI_rep {a b : Int} (hb : b < a) (n : Nat) (l : List Int) : insI a (List.replicate n b ++ l) = List.replicate n b ++ insI a l := by
  induction n with
  | zero => simp
  | succ n ih =>
    rw [List.replicate_succ, List.cons_append, insI, if_neg (by omega), ih]; rfl
theorem insI_le {a : Int} {l : List Int} (h : ∀ x ∈ l, a ≤ x) : insI a l = a :: l := by
  cases l with
  | nil => rfl
  | cons b l => rw [insI, if_pos (h b List.mem_cons_self)]
theorem blkP_next {many : Nat} {h left : Int} (hm : 1 ≤ many) (hl : 0 ≤ left) {l : List Int} (hx : ∀ x ∈ l, h + left / many + 1 ≤ x) : blkP many h (left + 1) ++ l = st1 (blkP many h left ++ l) := by
  have hm' : (0 : Int) < many := by omega
  have d := Int.mul_ediv_add_emod left many
  have r0 := Int.emod_nonneg left (show (many : Int) ≠ 0 by omega)
  have r1 := Int.emod_lt_of_pos left hm'
  unfold blkP
  generalize left / many = q at *
  generalize left % many = r at *
  obtain ⟨k, rfl⟩ : ∃ k : Nat, r = k := ⟨r.toNat, by omega⟩
  have hk : k < many := by omega
  obtain ⟨g, rfl⟩ : ∃ g : Nat, many = k + 1 + g := ⟨many - k - 1, by omega⟩
  have e1 : List.replicate (k + 1 + g - ((k : Int)).toNat) (h + q) = (h + q) :: List.replicate g (h + q) := by
    rw [show k + 1 + g - ((k : Int)).toNat = g + 1 by omega, List.replicate_succ]
  rw [e1, List.cons_append, List.cons_append, st1, List.append_assoc (List.replicate g _), insI_rep (by omega), Int.toNat_natCast, insI_le]
  · by_cases hg : g = 0
    · subst hg
      have e : left + 1 = ((k + 1 + 0 : Nat) : Int) * (q + 1) := by rw [Int.mul_add, Int.mul_one]; omega
      have e2 : (left + 1) / ((k + 1 + 0 : Nat) : Int) = q + 1 := by rw [e]; exact Int.mul_ediv_cancel_left _ (by omega)
      have e3 : (left + 1) % ((k + 1 + 0 : Nat) : Int) = 0 := by rw [e]; exact Int.mul_emod_right _ _
      rw [e2, e3]
      simp [List.replicate_succ, Int.add_assoc]
    · have e : left + 1 = ((k + 1 : Nat) : Int) + ((k + 1 + g : Nat) : Int) * q := by omega
      have e2 : (left + 1) / ((k + 1 + g : Nat) : Int) = q := by
        rw [e, Int.add_mul_ediv_left _ _ (by omega), Int.ediv_eq_zero_of_lt (by omega) (by omega)]; omega
      have e3 : (left + 1) % ((k + 1 + g : Nat) : Int) = ((k + 1 : Nat) : Int) := by
        rw [e, Int.add_mul_emod_self_left, Int.emod_eq_of_lt (by omega) (by omega)]
      rw [e2, e3, Int.toNat_natCast, show k + 1 + g - (k + 1) = g by omega, List.replicate_succ]
      simp
  · intro x hx'
    rcases List.mem_append.mp hx' with z | z
    · rw [(List.mem_replicate.mp z).2]; omega
    · exact hx x z
theorem pin_one {k : Nat} {x : Int} : ∀ {rest : List Int}, 1 ≤ k → (x :: rest).Pairwise (· ≤ ·) → pin (k + 1) x 1 rest = insI (x + 1) (List.replicate k x ++ rest) := by
  intro rest
  induction rest generalizing k with
  | nil =>
    intro hk _
    have e2 : (1 : Int) / ((k + 1 : Nat) : Int) = 0 := Int.ediv_eq_zero_of_lt (by omega) (by omega)
    have e3 : (1 : Int) % ((k + 1 : Nat) : Int) = 1 := Int.emod_eq_of_lt (by omega) (by omega)
    rw [pin, blkP, e2, e3, insI_rep (by omega)]
    simp [insI]
  | cons y rest ih =>
    intro hk hs
    obtain ⟨h1, h2⟩ := List.pairwise_cons.mp hs
    obtain ⟨h3, h4⟩ := List.pairwise_cons.mp h2
    have hy := h1 y List.mem_cons_self
    rw [pin]
    by_cases c : y = x
    · subst c
      rw [if_pos (by simp), Int.sub_self, Int.mul_zero, Int.sub_zero, ih (by omega) h2]
      congr 1
      rw [List.replicate_succ']
      simp
    · have e2 : (1 : Int) / ((k + 1 : Nat) : Int) = 0 := Int.ediv_eq_zero_of_lt (by omega) (by omega)
      have e3 : (1 : Int) % ((k + 1 : Nat) : Int) = 1 := Int.emod_eq_of_lt (by omega) (by omega)
      have hp : (1 : Int) ≤ ((k + 1 : Nat) : Int) * (y - x) := by
        have := Int.mul_le_mul (show (1 : Int) ≤ ((k + 1 : Nat) : Int) by omega) (show (1 : Int) ≤ y - x by omega) (by omega) (by omega)
        omega
      rw [if_neg (by omega), blkP, e2, e3, insI_rep (by omega), insI, if_pos (by omega)]
      simp
theorem pin_next : ∀ {rest : List Int} {many : Nat} {h left : Int}, 1 ≤ many → 0 ≤ left → (h :: rest).Pairwise (· ≤ ·) → pin many h (left + 1) rest = st1 (pin many h left rest) := by
  intro rest
  induction rest with
  | nil =>
    intro many h left hm hl _
    rw [pin, pin]
    have := blkP_next (h := h) hm hl (l := []) (by simp)
    simpa using this
  | cons x rest ih =>
    intro many h left hm hl hs
    obtain ⟨h1, h2⟩ := List.pairwise_cons.mp hs
    obtain ⟨h3, h4⟩ := List.pairwise_cons.mp h2
    have hx := h1 x List.mem_cons_self
    rw [pin, pin]
    by_cases c : left > many * (x - h)
    · rw [if_pos c, if_pos (by omega), show left + 1 - many * (x - h) = left - many * (x - h) + 1 by omega]
      exact ih (by omega) (by omega) h2
    · rw [if_neg c]
      by_cases c2 : left = many * (x - h)
      · subst c2
        have e1 : (many : Int) * (x - h) / many = x - h := Int.mul_ediv_cancel_left _ (by omega)
        have e2 : (many : Int) * (x - h) % many = 0 := Int.mul_emod_right _ _
        rw [if_pos (by omega), show (many : Int) * (x - h) + 1 - many * (x - h) = 1 by omega, pin_one hm h2, blkP, e1, e2]
        obtain ⟨k, rfl⟩ : ∃ k, many = k + 1 := ⟨many - 1, by omega⟩
        rw [show h + (x - h) = x by omega]
        simp only [Int.toNat_zero, Nat.sub_zero, List.replicate_zero, List.append_nil]
        show _ = insI (x + 1) (List.replicate k x ++ x :: rest)
        congr 1
        rw [List.replicate_succ']
        simp
      · have lt : left < many * (x - h) := by omega
        rw [if_neg (by omega)]
        refine blkP_next hm hl fun y hy => ?_
        have hd : left / many < x - h := Int.ediv_lt_of_lt_mul (by omega) (by rw [Int.mul_comm]; exact lt)
        rcases List.mem_cons.mp hy with rfl | hy
        · omega
        · have := h3 y hy; omega
def pourA (rows : List Int) (w : Int) : List Int := match rows with
  | [] => []
  | x :: rest => pin 1 x w rest
theorem pourA_stN {rows : List Int} (hs : rows.Pairwise (· ≤ ·)) (n : Nat) : pourA rows n = stN n rows := by
  cases rows with
  | nil =>
    induction n with
    | zero => rfl
    | succ n ih => rw [stN, ← ih]; rfl
  | cons x rest =>
    induction n with
    | zero =>
      show pin 1 x 0 rest = x :: rest
      cases rest with
      | nil => simp [pin, blkP]
      | cons y rest =>
        have := (List.pairwise_cons.mp hs).1 y List.mem_cons_self
        rw [pin, if_neg (by omega)]
        simp [blkP]
    | succ n ih =>
      rw [stN, ← ih]
      show pin 1 x ((n + 1 : Nat) : Int) rest = st1 (pin 1 x n rest)
      rw [← pin_next (by omega) (by omega) hs]
      rfl
end Q
namespace Q
open PySem PySem.Spec PyProof.Rows L2 LamX
section
variable {C : Cq} {e a b c elt tg : Expr} {es ifs : List Expr} {ρ : DEnv} {M : Mem} {P : PD} {PB : Bool → Mem → Prop} {pos p : Pos} {E : DE}
theorem qs_cut {st : Stmt} (R : DEnv → Mem → Prop) (h : QS C st ρ M { E with nx := R }) (f : ∀ ρ' M', R ρ' M' → E.nx ρ' M') : QS C st ρ M E :=
  ⟨fun σ H S w De k => h σ H S w De ⟨fun _ _ _ _ S f' q => k.nx _ _ _ _ S f' (f _ _ q), fun _ _ _ _ S f r q => k.rt _ _ _ _ S f r q, fun _ _ _ _ S f q => k.bk _ _ _ _ S f q, fun _ _ _ _ S f q => k.ct _ _ _ _ S f q⟩⟩
theorem qe_cut {P' : PD} (h : QE C e ρ M P') (f : ∀ d M', P' d M' → P d M') : QE C e ρ M P := h.imp f
/-- what is owned may be let go -/
theorem qe_drop (h : QE C e ρ M fun d M' => ∃ p m, M' p = some m ∧ P d (mdel M' p)) : QE C e ρ M P := ⟨fun σ H S w Q k =>
  h σ H S w Q fun v H1 M1 d hi f r ⟨p, m, hp, q⟩ => k v H1 _ _ hi.del (f.trans fr_del) (r.mono sb_del) q⟩
end
section
variable {M : Mem} {P : PD} {xs ys : List Int} {i j : Int} {ds : List D}
theorem add_lI (hl : xs.length + ys.length ≤ sizeLine) (h : P (.lst ((xs ++ ys).map .int)) M) : rdAdd (.lst (xs.map .int)) (.lst (ys.map .int)) M P := by
  refine add_l (by simpa using hl) ?_
  rw [← List.map_append]; exact h
theorem mul_lI (h1 : -(2 ^ 63) ≤ j) (h2 : j < 2 ^ 63) (h3 : j.toNat ≤ sizeLine) (h : P (.lst ((List.replicate j.toNat i).map .int)) M) : rdMul (.lst [.int i]) (.int j) M P := by
  refine mul_l h1 h2 (by simpa using h3) ?_
  rw [List.flatten_replicate_singleton]
  rw [List.map_replicate] at h
  exact h
theorem list1_l {Q : List D → Prop} (h : Q ds) : ∃ d xs, [D.lst ds] = [d] ∧ (SeqR M d xs ∨ d = .tup xs) ∧ Q xs := ⟨_, ds, rfl, .inl (.lst (.lst ds)), h⟩
theorem sort_l {Q : List Int → Prop} (h : Q xs) : ∃ (d : D) (ns : List Int), [D.lst (xs.map .int)] = [d] ∧ SeqR M d (ns.map .int) ∧ Q ns := ⟨_, xs, rfl, .lst (.lst _), h⟩
theorem seq_rev {Q : List D → Prop} (h : Q (xs.reverse.map .int)) : ∃ ys, SeqR M (.lst (xs.map .int)) ys ∧ Q ys.reverse := ⟨_, .lst (.lst _), by rw [← List.map_reverse]; exact h⟩
theorem cutD_map {α β : Type} (f : α → β) (xs : List α) (l u : Option Int) : cutD (xs.map f) l u = (cutD xs l u).map f := by
  unfold cutD; rw [List.length_map, List.map_take, List.map_drop]
theorem cut_from {α : Type} {xs : List α} {m : Int} (h0 : 0 ≤ m) : cutD xs (some m) none = xs.drop m.toNat := by
  have e : HT.sIx xs.length 0 (some m) = min m.toNat xs.length := by
    show (if m < 0 then (m + (xs.length : Int)).toNat else min m.toNat xs.length) = _
    rw [if_neg (by omega)]
  have e2 : HT.sIx xs.length xs.length none = xs.length := rfl
  unfold cutD
  rw [e, e2]
  by_cases h : m.toNat ≤ xs.length
  · rw [Nat.min_eq_left h, List.take_of_length_le (by rw [List.length_drop]; omega)]
  · rw [Nat.min_eq_right (by omega), List.drop_of_length_le (show xs.length ≤ m.toNat by omega)]; simp
theorem ix_lI {x : Int} (h0 : 0 ≤ i) (e : xs[i.toNat]? = some x) (h : P (.int x) M) : rdIx (.lst (xs.map .int)) (.int i) M P := by
  have hl := (List.getElem?_eq_some_iff.mp e).1
  refine ix_l (d := .int x) ?_ h
  unfold atI ixN
  rw [List.length_map, if_pos h0, if_pos (by omega)]
  simp [e]
end
/-- the data of lists of ints -/
def idI : D → Option D
  | .int i => some (.int i)
  | _ => none
theorem idI_map : ∀ ns : List Int, (ns.map D.int).filterMap idI = ns.map D.int
  | [] => rfl
  | n :: ns => by simp only [List.map_cons, List.filterMap_cons, idI, idI_map ns]
theorem int_at {ns : List Int} {i : Nat} {x : D} (h : (ns.map D.int)[i]? = some x) : ∃ n, x = .int n ∧ ns[i]? = some n ∧ n ∈ ns := by
  rw [List.getElem?_map] at h
  cases e : ns[i]? with
  | none => rw [e] at h; cases h
  | some n => rw [e] at h; simp at h; exact ⟨n, h.symm, rfl, List.mem_of_getElem? e⟩
theorem memI {ns : List Int} {x : D} (h : x ∈ ns.map D.int) : ∃ n, x = .int n ∧ n ∈ ns := by
  obtain ⟨n, h1, h2⟩ := List.mem_map.mp h
  exact ⟨n, h2.symm, h1⟩
/-! ### ranked, poured, emptied -/
def rk (l : List Int) : List Int := (srt l).reverse
def po (l : List Int) (w : Int) : List Int := (pourA (srt l) w).reverse
def em (l : List Int) (m : Int) : List Int := (rk l).drop m.toNat ++ List.replicate (min m.toNat l.length) 0
structure Lv (l : List Int) : Prop where
  lo : 1 ≤ l.length
  hi : l.length ≤ 20
  le : ∀ n ∈ l, 0 ≤ n ∧ n ≤ 10000
theorem pourA_nat {rows : List Int} (hs : rows.Pairwise (· ≤ ·)) {w : Int} (h : 0 ≤ w) : pourA rows w = stN w.toNat rows := by
  have := pourA_stN hs w.toNat
  rwa [Int.toNat_of_nonneg h] at this
theorem rk_len (l : List Int) : (rk l).length = l.length := by rw [rk, List.length_reverse, srt_len]
theorem rk_mem {l : List Int} {x : Int} : x ∈ rk l ↔ x ∈ l := by rw [rk, List.mem_reverse, srt_mem]
theorem po_len {l : List Int} {w : Int} (h : 0 ≤ w) : (po l w).length = l.length := by rw [po, pourA_nat (srt_sorted l) h, List.length_reverse, stN_len, srt_len]
theorem po_lo {l : List Int} {w : Int} (h : 0 ≤ w) (hl : ∀ n ∈ l, 0 ≤ n) : ∀ n ∈ po l w, 0 ≤ n := by
  intro n hn
  rw [po, pourA_nat (srt_sorted l) h, List.mem_reverse] at hn
  exact stN_lo _ (fun x hx => hl x (srt_mem.mp hx)) n hn
theorem po_hi {l : List Int} {w b : Int} (h : 0 ≤ w) (hl : ∀ n ∈ l, n ≤ b) : ∀ n ∈ po l w, n ≤ b + w := by
  intro n hn
  rw [po, pourA_nat (srt_sorted l) h, List.mem_reverse] at hn
  have := stN_hi w.toNat (fun x hx => hl x (srt_mem.mp hx)) n hn
  omega
theorem em_len {l : List Int} {m : Int} : (em l m).length = l.length := by rw [em, List.length_append, List.length_drop, List.length_replicate, rk_len]; omega
theorem em_lv {l : List Int} {m : Int} (h : Lv l) : Lv (em l m) := by
  refine ⟨by rw [em_len]; exact h.lo, by rw [em_len]; exact h.hi, fun n hn => ?_⟩
  rcases List.mem_append.mp hn with z | z
  · exact h.le n (rk_mem.mp (List.mem_of_mem_drop z))
  · rw [(List.mem_replicate.mp z).2]; omega
theorem rk_perm {l m : List Int} (h : l.Perm m) : rk l = rk m := by rw [rk, rk, srt_of_perm h]
theorem po_perm {l m : List Int} (h : l.Perm m) (w : Int) : po l w = po m w := by rw [po, po, srt_of_perm h]
theorem em_perm {l m : List Int} (h : l.Perm m) (w : Int) : em l w = em m w := by rw [em, em, rk_perm h, h.length_eq]
theorem srt_po {l : List Int} {w : Int} (h : 0 ≤ w) : srt (po l w) = stN w.toNat (srt l) := by
  rw [po, pourA_nat (srt_sorted l) h]
  exact (srt_unique (List.reverse_perm _).symm (stN_sorted _ (srt_sorted l))).symm
theorem po_po {l : List Int} {v w : Int} (h : 0 ≤ v) (h2 : 0 ≤ w) : po (po l v) w = po l (v + w) := by
  rw [po, srt_po h, pourA_nat (stN_sorted _ (srt_sorted l)) h2, po, pourA_nat (srt_sorted l) (by omega), ← stN_add, show (v + w).toNat = v.toNat + w.toNat by omega]
theorem po_sum {l : List Int} {w : Int} (h : 0 ≤ w) (hl : l ≠ []) : (po l w).sum = l.sum + w := by
  have e : (po l w).sum = (stN w.toNat (srt l)).sum := by
    rw [po, pourA_nat (srt_sorted l) h]; exact perm_sum (List.reverse_perm _)
  rw [e, stN_sum _ (by intro z; have := srt_len l; rw [z] at this; exact hl (List.length_eq_zero_iff.mp this.symm)), perm_sum (srt_perm l)]
  omega
end Q
namespace Q
open PySem PySem.Spec PyProof.Rows L2 LamX
section
variable {C : Cq} {e a b elt tg : Expr} {es ifs : List Expr} {ρ : DEnv} {M : Mem} {P : PD} {PB : Bool → Mem → Prop} {pos p : Pos} {E : DE}
/-- ints drawn one by one, none left out -/
theorem compJ {scope : Scope} {vs : List Nat} {M1 : Mem} {xs : List D} {j : Addr} (hj : JarAt M1 j) (lo hi : Int) (hl : xs.length < sizeLine)
    (step : ∀ (i : Nat) (x : D) (M2 : Mem), xs[i]? = some x → JarAt M2 j → ∀ s H cc cl fp, QGw (C.blk s H scope cc cl fp) vs tg (wipeD ρ vs) M2 x fun ρ2 M2' => ∀ s H cc cl fp, QTs (C.blk s H scope cc cl fp) ifs ρ2 M2' fun b M3 =>
      b = true ∧ ∀ s H cc cl fp, QE (C.blk s H scope cc cl fp) elt ρ2 M3 fun d M4 => ∃ n, d = .int n ∧ lo ≤ n ∧ n ≤ hi ∧ JM j M2 M4)
    (fin : ∀ (ns : List Int) L M2, JM j M1 M2 → M2 L = none → ns.length = xs.length → (∀ n ∈ ns, lo ≤ n ∧ n ≤ hi) → P (.oth (.ref L)) (mupd M2 L (.lst (ns.map .int)))) : CompH C scope tg ifs elt vs ρ M1 xs P := by
  refine compR (fun i acc M2 => JM j M1 M2 ∧ ∃ ns : List Int, acc = ns.map .int ∧ ns.length = i ∧ ∀ n ∈ ns, lo ≤ n ∧ n ≤ hi) ⟨.refl hj, [], rfl, rfl, by simp⟩ ?_ ?_
  · rintro L i x acc M2 hx ⟨jm, ns, rfl, hlen, hall⟩ hM hM1 s H cc cl fp
    have nj := hj.ne hM1
    have hi' := (List.getElem?_eq_some_iff.mp hx).1
    refine ⟨fun σ Hz v S r Q k => (step i x (mupd M2 L (.lst (ns.map .int))) hx (jm.at.upd nj) s H cc cl fp).run σ Hz v S r Q fun ρ' σ' H' S' f' e' q => k ρ' σ' H' S' f' e' ?_⟩
    intro s1 H1 cc1 cl1 fp1
    refine ⟨fun σ H S w Q k => (q s1 H1 cc1 cl1 fp1).run σ H S w Q fun b H' M' hi f ⟨h0, h1⟩ => k b H' M' hi f ⟨fun hb s2 H2 cc2 cl2 fp2 => ?_, fun hb => by rw [h0] at hb; cases hb⟩⟩
    refine (h1 s2 H2 cc2 cl2 fp2).imp ?_
    rintro d M4 ⟨n, rfl, n0, n1, j4⟩
    obtain ⟨M5, j5, e5, m5⟩ := j4.drop hM nj
    refine ⟨by rw [List.length_map, hlen]; exact Nat.lt_trans hi' hl, M5, e5, m5, jm.trans j5, ns ++ [n], by simp, by simp [hlen], fun y hy => ?_⟩
    rcases List.mem_append.mp hy with z | z
    · exact hall y z
    · rw [List.mem_singleton.mp z]; exact ⟨n0, n1⟩
  · rintro L acc M2 ⟨jm, ns, rfl, hlen, hall⟩ hM
    exact fin ns L M2 jm hM hlen hall
/-- .. as a datum -/
theorem qe_compJ {scope : Scope} (own : List (Str × Nat)) (j : Addr) (lo hi : Int) (h : QI C tg a ρ M fun xs M1 => JarAt M1 j ∧ xs.length < sizeLine ∧
      (∀ (i : Nat) (x : D) (M2 : Mem), xs[i]? = some x → JarAt M2 j → ∀ s H cc cl fp, QGw (C.blk s H scope cc cl fp) (own.map (·.2)) tg (wipeD ρ (own.map (·.2))) M2 x fun ρ2 M2' => ∀ s H cc cl fp, QTs (C.blk s H scope cc cl fp) ifs ρ2 M2' fun b M3 =>
        b = true ∧ ∀ s H cc cl fp, QE (C.blk s H scope cc cl fp) elt ρ2 M3 fun d M4 => ∃ n, d = .int n ∧ lo ≤ n ∧ n ≤ hi ∧ JM j M2 M4) ∧
      (∀ (ns : List Int) M2, JM j M1 M2 → ns.length = xs.length → (∀ n ∈ ns, lo ≤ n ∧ n ≤ hi) → P (.lst (ns.map .int)) M2))
    (ok : BlkOk C.X.N C.X.env.scope scope own) (hc : C.X.calm = true := by rfl) (hs : ∀ x, foldedSetIterable a C.X.env x = pure x := by intro _; rfl) : QE C (.ListComp elt [⟨tg, a, ifs, 0⟩] scope pos) ρ M P := by
  refine qe_frz (qe_comp own ?_ ok hc hs)
  obtain ⟨wi, pi, q⟩ := h.ex
  refine ⟨wi, pi, fun σ H S w R k => q σ H S w R fun J H1 M1 xs hi' fr wk ⟨hj, hl, st, hp⟩ => k J H1 M1 xs hi' fr wk (compJ hj lo hi hl st fun ns L M2 jm hM hlen hall => ⟨L, _, rfl, mupd_same, ?_⟩)⟩
  rw [mdel_upd hM]
  exact hp ns M2 jm hlen hall
theorem qs_setCompJ {scope : Scope} {y : Str} {py spos : Pos} (i : Nat) (own : List (Str × Nat)) (j : Addr) (lo hi : Int) (hy : C.X.N[i]? = some y) (hyl : C.X.env.scope.names.lookup y = some .local) (h : QI C tg a ρ M fun xs M1 => JarAt M1 j ∧ xs.length < sizeLine ∧
      (∀ (i : Nat) (x : D) (M2 : Mem), xs[i]? = some x → JarAt M2 j → ∀ s H cc cl fp, QGw (C.blk s H scope cc cl fp) (own.map (·.2)) tg (wipeD ρ (own.map (·.2))) M2 x fun ρ2 M2' => ∀ s H cc cl fp, QTs (C.blk s H scope cc cl fp) ifs ρ2 M2' fun b M3 =>
        b = true ∧ ∀ s H cc cl fp, QE (C.blk s H scope cc cl fp) elt ρ2 M3 fun d M4 => ∃ n, d = .int n ∧ lo ≤ n ∧ n ≤ hi ∧ JM j M2 M4) ∧
      (∀ (ns : List Int) M2, JM j M1 M2 → ns.length = xs.length → (∀ n ∈ ns, lo ≤ n ∧ n ≤ hi) → E.nx (ρ.set i (some (.lst (ns.map .int)))) M2))
    (ok : BlkOk C.X.N C.X.env.scope scope own) (hsw : swapsWith (.ListComp elt [⟨tg, a, ifs, 0⟩] scope pos) (some (.Name y py)) spos.line C.X.env = pure true) (hc : C.X.calm = true := by rfl) (hs : ∀ x, foldedSetIterable a C.X.env x = pure x := by intro _; rfl) :
    QS C (.Assign [.Name y py] (.ListComp elt [⟨tg, a, ifs, 0⟩] scope pos) spos) ρ M E := by
  refine qs_setCompF i own hy hyl ?_ ok hsw hc hs
  obtain ⟨wi, pi, q⟩ := h.ex
  refine ⟨wi, pi, fun σ H S w R k => q σ H S w R fun J H1 M1 xs hi' fr wk ⟨hj, hl, st, hp⟩ => k J H1 M1 xs hi' fr wk (compJ hj lo hi hl st fun ns L M2 jm hM hlen hall => ⟨L, _, rfl, mupd_same, ?_⟩)⟩
  rw [mdel_upd hM]
  exact hp ns M2 jm hlen hall
end
theorem mupd_none {M : Mem} {p q : Addr} {m : MO} (h : mupd M p m q = none) : q ≠ p ∧ M q = none := by
  by_cases e : q = p
  · subst e; rw [mupd_same] at h; cases h
  · exact ⟨e, by rwa [mupd_ne e] at h⟩
end Q
namespace Q
theorem erase_perm {α : Type} : ∀ (l : List α) (i : Nat) (h : i < l.length), (l[i] :: l.eraseIdx i).Perm l
  | a :: l, 0, _ => by simp
  | a :: l, i + 1, h => by
    have h' : i < l.length := by simpa using h
    rw [List.getElem_cons_succ, List.eraseIdx_cons_succ]
    exact (List.Perm.swap a _ _).trans ((erase_perm l i h').cons a)
end Q
namespace Q
open PySem PySem.Spec PyProof.Rows L2 LamX
section
variable {C : Cq} {e a b elt tg : Expr} {es ifs : List Expr} {ρ : DEnv} {M : Mem} {P : PD} {PB : Bool → Mem → Prop} {pos p : Pos} {E : DE}
/-- a comprehension over a list of the memory that stays as it is -/
def CompHM (C : Cq) (scope : Scope) (tg : Expr) (ifs : List Expr) (elt : Expr) (vs : List Nat) (ρ : DEnv) (M1 : Mem) (l : Addr) (xs : List D) (P : PD) : Prop :=
  ∀ L, M1 L = none → ∃ Iv : Nat → Mem → Prop, Iv 0 (mupd M1 L (.lst [])) ∧ (∀ i M', Iv i M' → M' l = some (.lst xs)) ∧
    (∀ i x M', xs[i]? = some x → Iv i M' → ∀ s H cc cl fp, QGw (C.blk s H scope cc cl fp) vs tg (wipeD ρ vs) M' x fun ρ2 M2 => ∀ s H cc cl fp, QTs (C.blk s H scope cc cl fp) ifs ρ2 M2 fun b M3 =>
      (b = true → ∀ s H cc cl fp, QE (C.blk s H scope cc cl fp) elt ρ2 M3 fun d M4 => ∃ acc, M4 L = some (.lst acc) ∧ acc.length < sizeLine ∧ Iv (i + 1) (mupd M4 L (.lst (acc ++ [d])))) ∧ (b = false → Iv (i + 1) M3)) ∧
    ∀ M', Iv xs.length M' → P (.oth (.ref L)) M'
theorem ev_compM {scope : Scope} {vs : List Nat} (q : QE C a ρ M fun d M1 => ∃ l xs, d = .oth (.ref l) ∧ M1 l = some (.lst xs) ∧ CompHM C scope tg ifs elt vs ρ M1 l xs P) :
    EvQ C (tLc (iList C.X.K (WE C.X a)) (gB C scope tg) (ttB C scope ifs) (teB C scope elt) vs) ρ M P := by
  refine fun σ H S w Q k => q σ H S w _ fun v0 H1 M1 d0 hi f r0 ⟨l, xs, ed, hl, cp⟩ => ?_
  subst ed
  cases r0
  have at_l : ∀ M' H', HI C.K C.T M' H' → M' l = some (.lst xs) → ∃ us, H' l = some (.lst us) ∧ RpA C.K (sub H' M') us xs := fun M' H' hi' e => by
    obtain ⟨o, h1, h2⟩ := hi'.mem l _ e
    obtain ⟨us, rfl, h2⟩ := h2.lst
    exact ⟨us, h1, h2⟩
  obtain ⟨us0, hl0, _⟩ := at_l M1 H1 hi hl
  refine ⟨_, rfl, ⟨_, SqL.of hl0⟩, fun L hL => ?_⟩
  obtain ⟨Iv, h0, hIv, step, fin⟩ := cp L (hi.mnone hL)
  have S1 := S.fr f hi
  have hi1 := hi.newM (m := .lst []) (o := .lst []) hL .nil
  have f1 : Fr M1 H1 (mupd M1 L (.lst [])) (upd H1 L (.lst [])) := fr_newM hi hL
  refine ⟨fun i m H' => m = xs.length - i ∧ i ≤ xs.length ∧ ∃ M', HI C.K C.T M' H' ∧ Fr M1 H1 M' H' ∧ Iv i M', ⟨_, rfl, Nat.zero_le _, _, hi1, f1, h0⟩, ?_⟩
  rintro i m H' ⟨rfl, hle, M', hi', f', iv⟩
  obtain ⟨us, hu, ru⟩ := at_l M' H' hi' (hIv i M' iv)
  by_cases hlt : i < xs.length
  · obtain ⟨u, e2, r2⟩ := ru.get (i := i) (d := xs[i]) (by simp [hlt])
    refine .inr ⟨⟨us, u, SqL.of hu, e2⟩, fun H2 => ∃ M2, HI C.K C.T M2 H2 ∧ Fr M1 H1 M2 H2 ∧ Iv (i + 1) M2, fun H2 ⟨M2, hi2, f2, iv2⟩ => ⟨xs.length - (i + 1), by omega, rfl, hlt, M2, hi2, f2, iv2⟩, fun v H2 ⟨eH, y⟩ => ?_⟩
    subst eH
    have ey := y us (SqL.of hu)
    rw [e2] at ey
    cases ey
    have S2 : SI C.K C.T C.Z (wipeD ρ vs) M' (L2.wipe σ vs) H2 := (S1.fr f' hi').wipe vs
    intro s0 H0 cc cl fp
    refine (step i xs[i] M' (by simp [hlt]) iv s0 H0 cc cl fp).run (L2.wipe σ vs) H2 _ S2 r2 _ fun ρ3 σ3 H3 S3 f3 e3 q3 => ?_
    refine ⟨e3.trans wipe_idem, fun s1 H01 cc1 cl1 fp1 => ?_⟩
    refine (q3 s1 H01 cc1 cl1 fp1).run σ3 H3 S3 (fun _ _ _ _ _ _ _ _ _ _ z => z.elim) _ fun b H4 M4 hi4 f4 ⟨ht, hf⟩ => ?_
    have f14 := (f'.trans f3).trans f4
    cases b with
    | false =>
      rw [if_neg Bool.false_ne_true]
      exact ⟨M4, hi4, f14, hf rfl⟩
    | true =>
      rw [if_pos rfl]
      intro s2 H02 cc2 cl2 fp2
      refine ht rfl s2 H02 cc2 cl2 fp2 σ3 H4 (S3.fr f4 hi4) (fun _ _ _ _ _ _ _ _ _ _ z => z.elim) _ fun u H5 M5 d hi5 f5 r5 ⟨acc, e5, l5, iv5⟩ => ?_
      obtain ⟨o, g3, g4⟩ := hi5.mem L _ e5
      obtain ⟨us, rfl, g4⟩ := g4.lst
      refine ⟨us, g3, by rw [g4.length]; exact l5, mupd M5 L (.lst (acc ++ [d])), hi5.wr e5 (g4.append (.cons r5 .nil)), (f14.trans f5).trans (fr_wr e5), iv5⟩
  · have e : i = xs.length := by omega
    subst e
    refine .inl ⟨⟨us, SqL.of hu, by rw [ru.length]; exact Nat.le_refl _⟩, k (.ref L) H' M' (.oth (.ref L)) hi' (f.trans f') (.oth _) (fin M' iv)⟩
/-- [int(x) for x in xs] and the like, xs a list of the memory -/
theorem qe_compPM {scope : Scope} (own : List (Str × Nat)) (f : D → Option D) (h : QE C a ρ M fun d M1 => ∃ l xs, d = .oth (.ref l) ∧ M1 l = some (.lst xs) ∧ xs.length < sizeLine ∧
      (∀ (i : Nat) (x : D), xs[i]? = some x → ∀ M', ∀ s H cc cl fp, QGw (C.blk s H scope cc cl fp) (own.map (·.2)) tg (wipeD ρ (own.map (·.2))) M' x fun ρ2 M2' => ∀ s H cc cl fp, QTs (C.blk s H scope cc cl fp) ifs ρ2 M2' fun b M3 =>
        M3 = M' ∧ (b = true → ∀ s H cc cl fp, QE (C.blk s H scope cc cl fp) elt ρ2 M' fun d M4 => M4 = M' ∧ f x = some d) ∧ (b = false → f x = none)) ∧ P (.lst (xs.filterMap f)) M1)
    (ok : BlkOk C.X.N C.X.env.scope scope own) (hc : C.X.calm = true := by rfl) (hs : ∀ x, foldedSetIterable a C.X.env x = pure x := by intro _; rfl) : QE C (.ListComp elt [⟨tg, a, ifs, 0⟩] scope pos) ρ M P := by
  refine qe_frz (.of (pe_lc (own := own) hc C.nd (pi_list pe_W) ok pgB ptsB peB hs) (ev_compM ?_))
  refine h.imp ?_
  rintro d M1 ⟨l, xs, rfl, hl, hlen, step, hp⟩
  refine ⟨l, xs, rfl, hl, fun L hL => ?_⟩
  have nl : l ≠ L := fun z => by rw [z, hL] at hl; cases hl
  refine ⟨fun i M' => M' = mupd M1 L (.lst ((xs.take i).filterMap f)), rfl, fun i M' z => by rw [z, mupd_ne nl]; exact hl, ?_, ?_⟩
  · rintro i x M' hx rfl s H cc cl fp
    have ht : xs.take (i + 1) = xs.take i ++ [x] := by
      rw [List.take_succ, hx]; rfl
    have hlen2 : ((xs.take i).filterMap f).length < sizeLine := Nat.lt_of_le_of_lt (Nat.le_trans (List.length_filterMap_le _ _) (by rw [List.length_take]; omega)) hlen
    refine ⟨fun σ Hz v S r Q k => (step i x hx _ s H cc cl fp).run σ Hz v S r Q fun ρ' σ' H' S' f' e' q => k ρ' σ' H' S' f' e' ?_⟩
    intro s1 H1 cc1 cl1 fp1
    refine ⟨fun σ H S w Q k => (q s1 H1 cc1 cl1 fp1).run σ H S w Q fun b H' M' hi f ⟨h0, h1, h2⟩ => k b H' M' hi f ⟨fun hb s2 H2 cc2 cl2 fp2 => ?_, fun hb => ?_⟩⟩
    · rw [h0]
      refine (h1 hb s2 H2 cc2 cl2 fp2).imp ?_
      rintro d M4 ⟨rfl, hd⟩
      exact ⟨_, mupd_same, hlen2, by dsimp only; rw [mupd_upd, ht, List.filterMap_append]; simp [hd]⟩
    · dsimp only; rw [h0, ht, List.filterMap_append]; simp [h2 hb]
  · rintro M' rfl
    rw [List.take_length]
    exact ⟨L, _, rfl, mupd_same, by rw [mdel_upd hL]; exact hp⟩
theorem first_at : ∀ {ns : List Int} {z : Int}, z ∈ ns → ∃ j : Nat, ns[j]? = some z ∧ ∀ m : Nat, m < j → ns[m]? ≠ some z
  | n :: ns, z, h => by
    by_cases e : n = z
    · exact ⟨0, by simp [e], fun m hm => by omega⟩
    · have h' : z ∈ ns := by
        rcases List.mem_cons.mp h with y | y
        · exact absurd y.symm e
        · exact y
      obtain ⟨j, j1, j2⟩ := first_at h'
      refine ⟨j + 1, by simpa using j1, fun m hm => ?_⟩
      cases m with
      | zero => simpa using e
      | succ m => simpa using j2 m (by omega)
/-- xs.index(v), ints of the memory -/
theorem qe_indexM {apos : Pos} (h : QE C a ρ M fun x M1 => ∃ p, x = .oth (.ref p) ∧ (∃ xs, M1 p = some (.lst xs)) ∧ QE C b ρ M1 fun y M2 => ∃ (ns : List Int) (v : Int), y = .int v ∧ M2 p = some (.lst (ns.map .int)) ∧ v ∈ ns ∧ ∀ i : Nat, ns[i]? = some v → P (.int (i : Nat)) M2)
    (hbase : attributeBase a "index" C.X.env (eval a C.X.env) = eval a C.X.env := by rfl)
    (hfew : ((backTo pos (starEach [b] C.X.env)).all (fun x => !x.1) && (backToKw pos (keywordEach [] C.X.env)).all (fun x => x.1.isSome)
      && decide ([b].length + ([] : List Keyword).length + (if ([] : List Keyword).isEmpty then 0 else 1) < 30)) = true := by rfl)
    (hline : (apos.endLine == pos.line) = true := by rfl) (hs : starEach [b] C.X.env = (false, eval b C.X.env) :: starEach [] C.X.env := by rfl) :
    QE C (.Call (.Attribute a "index" apos) [b] [] pos) ρ M P :=
  .of (pe_bm PySem.F.plainAttrs_list PySem.F.slot_list_index PySem.F.type_list_index mt_index pe_W (pa_cons pe_W pa_nil hs) hbase hfew hline hs rfl) fun σ H S w Q k => h σ H S w _ fun u H1 M1 x hi1 f1 rx ⟨p, ex, ⟨xs0, hp0⟩, h1⟩ => by
    subst ex
    cases rx
    obtain ⟨o, g1, g2⟩ := hi1.mem p _ hp0
    obtain ⟨vs0, rfl, _⟩ := g2.lst
    refine ⟨.inl ⟨rfl, _, SqL.of g1⟩, ?_⟩
    refine h1 σ H1 (S.fr f1 hi1) (w.fr f1) _ fun v H2 M2 d hi2 f2 r ⟨ns, z, ed, hp, hz, q⟩ => ?_
    subst ed
    cases r
    obtain ⟨o, g3, g4⟩ := hi2.mem p _ hp
    obtain ⟨vs, rfl, g4⟩ := g4.lst
    obtain rfl := g4.ints
    obtain ⟨j, j1, j2⟩ := first_at hz
    refine ⟨p, ns.map V.int, .int z, j, .int z, rfl, rfl, SqL.of g3, rfl, by rw [List.all_eq_true]; intro y hy; obtain ⟨n, _, rfl⟩ := List.mem_map.mp hy; rfl, by rw [List.getElem?_map, j1]; rfl, by simp [eqV], fun m z' hm hz' => ?_, k _ _ _ _ hi2 (f1.trans f2) (.int _) (q j j1)⟩
    rw [List.getElem?_map] at hz'
    cases e : ns[m]? with
    | none => rw [e] at hz'; cases hz'
    | some n =>
      rw [e] at hz'
      simp at hz'
      subst hz'
      have : n ≠ z := fun y => j2 m hm (by rw [e, y])
      simp [eqV, this]
end
/-! ### one more to the least, wherever it stands -/
theorem set_perm : ∀ (l : List Int) (i : Nat) (v x : Int), l[i]? = some x → ((l.set i v).Perm (v :: l.eraseIdx i)) ∧ (l.Perm (x :: l.eraseIdx i))
  | a :: l, 0, v, x, h => by simp at h; subst h; simp
  | a :: l, i + 1, v, x, h => by
    have h' : l[i]? = some x := by simpa using h
    obtain ⟨h1, h2⟩ := set_perm l i v x h'
    rw [List.set_cons_succ, List.eraseIdx_cons_succ]
    exact ⟨(h1.cons a).trans (.swap v a _), (h2.cons a).trans (.swap x a _)⟩
  | [], _, _, _, h => by simp at h
theorem srt_inc {l : List Int} {i : Nat} {x : Int} {rest : List Int} (hs : srt l = x :: rest) (h : l[i]? = some x) : srt (l.set i (x + 1)) = st1 (srt l) := by
  obtain ⟨h1, h2⟩ := set_perm l i (x + 1) x h
  have p : rest.Perm (l.eraseIdx i) := by
    have := (srt_perm l).trans h2
    rw [hs] at this
    exact List.Perm.cons_inv this
  have hss := srt_sorted l
  rw [hs] at hss ⊢
  rw [st1]
  refine (srt_unique ?_ (insI_sorted _ _ (List.pairwise_cons.mp hss).2)).symm
  exact (insI_perm _ _).trans ((p.cons _).trans h1.symm)
end Q
namespace Q
open PySem PySem.Spec PyProof.Rows L2 LamX
section
variable {C : Cq} {e a b c elt tg : Expr} {es ifs : List Expr} {ρ : DEnv} {M : Mem} {P : PD} {PB : Bool → Mem → Prop} {pos p : Pos} {E : DE}
/-- range(i, j, -1) -/
def downD (lo : Int) (n : Nat) : List D := (List.range n).map fun i => .int (lo - (i : Nat))
theorem downD_length (lo : Int) (n : Nat) : (downD lo n).length = n := by simp [downD]
theorem downD_get {lo : Int} {n i : Nat} {d : D} (h : (downD lo n)[i]? = some d) : i < n ∧ d = .int (lo - i) := by
  unfold downD at h
  rw [List.getElem?_map] at h
  cases e : (List.range n)[i]? with
  | none => rw [e] at h; cases h
  | some j =>
    rw [e] at h
    obtain ⟨h1, h2⟩ := List.getElem?_eq_some_iff.mp e
    simp at h1 h2
    subst h2
    simp at h
    exact ⟨h1, h.symm⟩
theorem walks_down {lo : Int} {n : Nat} {M1 : Mem} {H1 : Hp} : Walks C (Itc lo (-1) n) M1 H1 (downD lo n) := by
  intro M' H' hi f
  refine ⟨fun i d e => ?_, fun i hl => by rw [downD_length] at hl; exact hl⟩
  obtain ⟨h1, rfl⟩ := downD_get e
  refine ⟨h1, fun v H2 ⟨eH, ev⟩ => ?_⟩
  subst eH ev
  refine ⟨hi, .refl _ _, ?_⟩
  have e : lo + (i : Nat) * (-1) = lo - (i : Nat) := by omega
  rw [e]
  exact .int _
theorem qi_down {tg : Expr} {P : List D → Mem → Prop} (h : QA C [a, b, c] ρ M fun ds M1 => ∃ i j, ds = [.int i, .int j, .int (-1)] ∧ (-(2 ^ 62) ≤ i ∧ i < 2 ^ 62 ∧ -(2 ^ 62) ≤ j ∧ j < 2 ^ 62) ∧ P (downD i (i - j).toNat) M1) (hg : Gl C.X "range" := by rfl)
    (hs : starEach [a, b, c] C.X.env = (false, eval a C.X.env) :: starEach [b, c] C.X.env := by rfl) (hpl : (backTo pos (starEach [b, c] C.X.env)).any (·.1) = false := by rfl) :
    QI C tg (.Call (.Name "range" p) [a, b, c] [] pos) ρ M P :=
  ⟨_, pi_range3 hg C.bn.range pa_W hs hpl, fun σ H S w R k => h σ H S w _ fun vs H1 M1 ds hi f r ⟨i, j, e, ⟨h1, h2, h3, h4⟩, q⟩ => by
    subst e
    cases r with
    | cons r r' => cases r' with
      | cons r2 r' => cases r' with
        | cons r3 r' =>
          cases r'; cases r; cases r2; cases r3
          exact ⟨i, j, -1, _, rfl, RgC.neg h1 h2 h3 h4, k _ H1 M1 _ hi f walks_down q⟩⟩
/-- max(xs), ints -/
theorem qe_maxL (h : QA C [a] ρ M fun ds M1 => ∃ (d : D) (ns : List Int), ds = [d] ∧ SeqR M1 d (ns.map .int) ∧ 0 < ns.length ∧ ∀ m, m ∈ ns → (∀ y ∈ ns, y ≤ m) → P (.int m) M1) (hg : Gl C.X "max" := by rfl) (hc : C.X.calm = true := by rfl)
    (he : starEach [a] C.X.env = (false, eval a C.X.env) :: starEach [] C.X.env := by rfl) : QE C (.Call (.Name "max" p) [a] [] pos) ρ M P :=
  qe_bi (cr_max hc) (rd := fun ds M1 P => ∃ (d : D) (ns : List Int), ds = [d] ∧ SeqR M1 d (ns.map .int) ∧ 0 < ns.length ∧ ∀ m, m ∈ ns → (∀ y ∈ ns, y ≤ m) → P (.int m) M1) (by
    intro vs ds M H P Q hi r h k
    obtain ⟨d, ns, rfl, s, hl, q⟩ := h
    cases r with
    | cons r r' =>
      cases r'
      obtain ⟨l, us, rfl, h1, h2⟩ := s.at hi r
      obtain rfl := h2.ints
      exact ⟨l, ns, rfl, h1, hl, fun m hm hy => k _ H M _ hi (.refl _ _) (.int _) (q m hm hy)⟩) C.bn.max (by decide +kernel) hg h (he := he) (hpl := by rfl)
end
/-! ### one list under another, place by place -/
inductive Un : List Int → List Int → Prop
  | nil : Un [] []
  | cons {a b : Int} {l m : List Int} : a ≤ b → Un l m → Un (a :: l) (b :: m)
theorem Un.refl : ∀ l : List Int, Un l l
  | [] => .nil
  | _ :: l => .cons (Int.le_refl _) (Un.refl l)
theorem Un.trans : ∀ {l m n : List Int}, Un l m → Un m n → Un l n
  | _, _, _, .nil, .nil => .nil
  | _, _, _, .cons h t, .cons h' t' => .cons (Int.le_trans h h') (t.trans t')
theorem Un.len : ∀ {l m : List Int}, Un l m → l.length = m.length
  | _, _, .nil => rfl
  | _, _, .cons _ t => by rw [List.length_cons, List.length_cons, t.len]
theorem Un.app : ∀ {l m k n : List Int}, Un l m → Un k n → Un (l ++ k) (m ++ n)
  | _, _, _, _, .nil, s => s
  | _, _, _, _, .cons h t, s => .cons h (t.app s)
theorem Un.rev : ∀ {l m : List Int}, Un l m → Un l.reverse m.reverse
  | _, _, .nil => .nil
  | _, _, .cons h t => by
    rw [List.reverse_cons, List.reverse_cons]
    exact t.rev.app (.cons h .nil)
theorem Un.drop : ∀ {l m : List Int} (n : Nat), Un l m → Un (l.drop n) (m.drop n)
  | _, _, 0, h => h
  | _, _, _ + 1, .nil => .nil
  | _, _, n + 1, .cons _ t => t.drop n
theorem Un.take : ∀ {l m : List Int} (n : Nat), Un l m → Un (l.take n) (m.take n)
  | _, _, 0, _ => .nil
  | _, _, _ + 1, .nil => .nil
  | _, _, n + 1, .cons h t => .cons h (t.take n)
theorem un_ins : ∀ {l m : List Int} {a b : Int}, Un l m → l.Pairwise (· ≤ ·) → m.Pairwise (· ≤ ·) → a ≤ b → Un (insI a l) (insI b m)
  | _, _, _, _, .nil, _, _, h => .cons h .nil
  | _, _, a, b, .cons (a := c) (b := d) (l := l) (m := m) hcd t, hl, hm, h => by
    obtain ⟨l1, l2⟩ := List.pairwise_cons.mp hl
    obtain ⟨m1, m2⟩ := List.pairwise_cons.mp hm
    rw [insI, insI]
    by_cases h1 : a ≤ c
    · rw [if_pos h1]
      by_cases h2 : b ≤ d
      · rw [if_pos h2]; exact .cons h (.cons hcd t)
      · rw [if_neg h2]
        refine .cons (by omega) ?_
        have := un_ins (a := c) (b := b) t l2 m2 (by omega)
        rwa [insI_le l1] at this
    · rw [if_neg h1]
      by_cases h2 : b ≤ d
      · rw [if_pos h2]
        refine .cons (by omega) ?_
        have := un_ins (a := a) (b := d) t l2 m2 (by omega)
        rwa [insI_le (l := m) m1] at this
      · rw [if_neg h2]
        exact .cons hcd (un_ins t l2 m2 h)
theorem un_srt : ∀ {l m : List Int}, Un l m → Un (srt l) (srt m)
  | _, _, .nil => .nil
  | _, _, .cons h t => un_ins (un_srt t) (srt_sorted _) (srt_sorted _) h
theorem un_st1 : ∀ {l m : List Int}, Un l m → l.Pairwise (· ≤ ·) → m.Pairwise (· ≤ ·) → Un (st1 l) (st1 m)
  | _, _, .nil, _, _ => .nil
  | _, _, .cons h t, hl, hm => un_ins t (List.pairwise_cons.mp hl).2 (List.pairwise_cons.mp hm).2 (by omega)
theorem un_stN {l m : List Int} (h : Un l m) (hl : l.Pairwise (· ≤ ·)) (hm : m.Pairwise (· ≤ ·)) (n : Nat) : Un (stN n l) (stN n m) := by
  induction n with
  | zero => exact h
  | succ n ih => exact un_st1 ih (stN_sorted n hl) (stN_sorted n hm)
theorem un_up : ∀ {l : List Int}, l.Pairwise (· ≤ ·) → Un l (st1 l)
  | [], _ => .nil
  | x :: l, h => by
    have := un_ins (a := x) (b := x + 1) (Un.refl l) (List.pairwise_cons.mp h).2 (List.pairwise_cons.mp h).2 (by omega)
    rwa [insI_le (List.pairwise_cons.mp h).1] at this
theorem un_upN {l : List Int} (h : l.Pairwise (· ≤ ·)) (n : Nat) : Un l (stN n l) := by
  induction n with
  | zero => exact .refl l
  | succ n ih => exact ih.trans (un_up (stN_sorted n h))
end Q
namespace Q
open PySem PySem.Spec PyProof.Rows L2 LamX
/-! ### falls: rows from low to high -/
structure Up (l : List Int) : Prop where
  so : l.Pairwise (· ≤ ·)
  nn : ∀ x ∈ l, 0 ≤ x
def lvN (many steps r : Nat) : Nat := min many (1 + r * steps)
def cutA (rows : List Int) (steps many : Nat) : List Int := List.replicate (many - (rows.length - steps)) 0 ++ rows.take (rows.length - steps)
def fallA (many pace steps : Nat) : Nat → List Int → List Int
  | 0, rows => rows
  | r + 1, rows => fallA many pace steps r (cutA (stN pace rows) steps (lvN many steps r))
theorem lvN_le {many steps r : Nat} : lvN many steps r ≤ many := Nat.min_le_left _ _
theorem lvN_pos {many steps r : Nat} (h : 1 ≤ many) : 1 ≤ lvN many steps r := by unfold lvN; omega
theorem lvN_next {many steps r : Nat} : lvN many steps (r + 1) - steps ≤ lvN many steps r := by
  unfold lvN
  rw [Nat.add_mul, Nat.one_mul]
  omega
theorem lvN_int {many steps r : Nat} : ((lvN many steps r : Nat) : Int) = if (many : Int) < 1 + (r : Int) * (steps : Int) then (many : Int) else 1 + (r : Int) * (steps : Int) := by
  have e : (r : Int) * (steps : Int) = ((r * steps : Nat) : Int) := by rw [Int.natCast_mul]
  rw [e]
  unfold lvN
  split <;> omega
theorem cutA_len {rows : List Int} {steps many : Nat} (h : rows.length - steps ≤ many) : (cutA rows steps many).length = many := by
  unfold cutA
  rw [List.length_append, List.length_replicate, List.length_take]
  omega
theorem Up.take {l : List Int} (h : Up l) (n : Nat) : Up (l.take n) := ⟨h.so.sublist (List.take_sublist n l), fun x hx => h.nn x (List.mem_of_mem_take hx)⟩
theorem Up.drop {l : List Int} (h : Up l) (n : Nat) : Up (l.drop n) := ⟨h.so.sublist (List.drop_sublist n l), fun x hx => h.nn x (List.mem_of_mem_drop hx)⟩
theorem Up.zeros {l : List Int} (h : Up l) (n : Nat) : Up (List.replicate n 0 ++ l) := by
  refine ⟨List.pairwise_append.mpr ⟨List.pairwise_replicate.mpr (.inr (Int.le_refl 0)), h.so, fun a ha b hb => ?_⟩, fun x hx => ?_⟩
  · rw [(List.mem_replicate.mp ha).2]; exact h.nn b hb
  · rcases List.mem_append.mp hx with z | z
    · rw [(List.mem_replicate.mp z).2]; exact Int.le_refl 0
    · exact h.nn x z
theorem Up.cut {l : List Int} (h : Up l) (s m : Nat) : Up (cutA l s m) := (h.take _).zeros _
theorem Up.pour {l : List Int} (h : Up l) (n : Nat) : Up (stN n l) := ⟨stN_sorted n h.so, stN_lo n h.nn⟩
theorem Up.srt {l : List Int} (h : ∀ x ∈ l, 0 ≤ x) : Up (srt l) := ⟨srt_sorted l, fun x hx => h x (srt_mem.mp hx)⟩
theorem fall_len {many pace steps : Nat} : ∀ {r : Nat} {rows : List Int}, rows.length = lvN many steps r → (fallA many pace steps r rows).length = lvN many steps 0
  | 0, rows, h => h
  | r + 1, rows, h => by
    rw [fallA]
    exact fall_len (cutA_len (by rw [stN_len, h]; exact lvN_next))
theorem fall_one {many pace steps r : Nat} {rows : List Int} (hm : 1 ≤ many) (h : rows.length = lvN many steps r) : ∃ v, fallA many pace steps r rows = [v] := by
  have := fall_len (pace := pace) h
  have e : lvN many steps 0 = 1 := by unfold lvN; omega
  rw [e] at this
  exact List.length_eq_one_iff.mp this
/-! ### monotone -/
theorem Un.zeros {l m : List Int} (h : Un l m) (n : Nat) : Un (List.replicate n 0 ++ l) (List.replicate n 0 ++ m) := (Un.refl _).app h
theorem un_cut {l m : List Int} (h : Un l m) (s n : Nat) : Un (cutA l s n) (cutA m s n) := by
  unfold cutA
  rw [h.len]
  exact (h.take _).zeros _
theorem un_fall {many steps p p' : Nat} (hp : p ≤ p') : ∀ {r : Nat} {l m : List Int}, Un l m → Up l → Up m → Un (fallA many p steps r l) (fallA many p' steps r m)
  | 0, _, _, h, _, _ => h
  | r + 1, l, m, h, hl, hm => by
    rw [fallA, fallA]
    refine un_fall hp (un_cut ?_ _ _) ((hl.pour _).cut _ _) ((hm.pour _).cut _ _)
    obtain ⟨d, rfl⟩ : ∃ d, p' = p + d := ⟨p' - p, by omega⟩
    rw [stN_add]
    exact (un_stN h hl.so hm.so p).trans (un_upN (stN_sorted p hm.so) d)
/-! ### by whole runs -/
/-- one round over all rows -/
def runA (pace steps : Nat) (rows : List Int) : List Int := cutA (stN pace rows) steps rows.length
def runN (pace steps : Nat) : Nat → List Int → List Int
  | 0, l => l
  | n + 1, l => runN pace steps n (runA pace steps l)
theorem runA_len {p s : Nat} {l : List Int} : (runA p s l).length = l.length := cutA_len (by rw [stN_len]; omega)
theorem Up.run {p s : Nat} {l : List Int} (h : Up l) : Up (runA p s l) := (h.pour p).cut _ _
theorem runN_len {p s : Nat} : ∀ {n : Nat} {l : List Int}, (runN p s n l).length = l.length
  | 0, _ => rfl
  | n + 1, l => by rw [runN, runN_len, runA_len]
theorem Up.runN {p s : Nat} : ∀ {n : Nat} {l : List Int}, Up l → Up (runN p s n l)
  | 0, _, h => h
  | n + 1, l, h => by
    show Up (_root_.Q.runN p s n (_root_.Q.runA p s l))
    exact Up.runN h.run
theorem runN_succ {p s : Nat} : ∀ {n : Nat} {l : List Int}, runN p s (n + 1) l = runA p s (runN p s n l)
  | 0, _ => rfl
  | n + 1, l => by rw [runN, runN_succ, runN]
theorem runN_fix {p s : Nat} {l : List Int} (h : runA p s l = l) : ∀ n : Nat, runN p s n l = l
  | 0 => rfl
  | n + 1 => by rw [runN, h, runN_fix h n]
theorem runN_add {p s : Nat} : ∀ {m n : Nat} {l : List Int}, runN p s (m + n) l = runN p s n (runN p s m l)
  | 0, n, l => by rw [Nat.zero_add]; rfl
  | m + 1, n, l => by rw [Nat.succ_add, runN, runN_add, runN]
theorem fall_runs {many pace steps wide : Nat} (hw : many ≤ 1 + wide * steps) : ∀ {n : Nat} {l : List Int}, l.length = many → fallA many pace steps (wide + n) l = fallA many pace steps wide (runN pace steps n l)
  | 0, _, _ => rfl
  | n + 1, l, h => by
    have e : lvN many steps (wide + n) = many := by
      unfold lvN
      rw [Nat.add_mul]
      omega
    show fallA many pace steps (wide + n) (cutA (stN pace l) steps (lvN many steps (wide + n))) = _
    rw [e, runN, ← fall_runs hw (by rw [runA_len]; exact h)]
    unfold runA
    rw [h]
/-! ### from high to low -/
theorem srt_rev {l : List Int} (h : l.Pairwise (· ≤ ·)) : srt l.reverse = l := (srt_unique (List.reverse_perm l).symm h).symm
theorem rk_rev {l : List Int} (h : l.Pairwise (· ≤ ·)) : rk l.reverse = l.reverse := by rw [rk, srt_rev h]
theorem po_rev {l : List Int} (h : l.Pairwise (· ≤ ·)) (n : Nat) : po l.reverse n = (stN n l).reverse := by rw [po, srt_rev h, pourA_stN h]
theorem em_run {l : List Int} (h : Up l) (p s : Nat) : em (po l.reverse p) s = (runA p s l).reverse := by
  have hs := stN_sorted p h.so
  have hl := stN_len p l
  rw [po_rev h.so, em, rk_rev hs, runA, cutA, List.length_reverse, List.reverse_append, List.reverse_replicate, Int.toNat_natCast, List.drop_reverse, hl]
  congr 2
  omega
theorem rk_srt_rev (l : List Int) : rk l = (srt l).reverse := rfl
end Q
namespace Q
open PySem PySem.Spec PyProof.Rows L2 LamX
inductive A2 (R : Int → Int → Prop) : List Int → List Int → Prop
  | nil : A2 R [] []
  | cons {a b : Int} {l m : List Int} : R a b → A2 R l m → A2 R (a :: l) (b :: m)
theorem A2.app {R : Int → Int → Prop} : ∀ {l m k n : List Int}, A2 R l m → A2 R k n → A2 R (l ++ k) (m ++ n)
  | _, _, _, _, .nil, s => s
  | _, _, _, _, .cons h t, s => .cons h (t.app s)
theorem A2.len {R : Int → Int → Prop} : ∀ {l m : List Int}, A2 R l m → l.length = m.length
  | _, _, .nil => rfl
  | _, _, .cons _ t => by rw [List.length_cons, List.length_cons, t.len]
theorem A2.all {R : Int → Int → Prop} {S : Int → Prop} (f : ∀ a b, R a b → S b) : ∀ {l m : List Int}, A2 R l m → ∀ x ∈ m, S x
  | _, _, .nil, x, hx => by simp at hx
  | _, _, .cons h t, x, hx => by
    rcases List.mem_cons.mp hx with rfl | hx
    · exact f _ _ h
    · exact t.all f x hx
theorem A2.un {R : Int → Int → Prop} (f : ∀ a b, R a b → a ≤ b) : ∀ {l m : List Int}, A2 R l m → Un l m
  | _, _, .nil => .nil
  | _, _, .cons h t => .cons (f _ _ h) (t.un f)
theorem A2.nu {R : Int → Int → Prop} (f : ∀ a b, R a b → b ≤ a) : ∀ {l m : List Int}, A2 R l m → Un m l
  | _, _, .nil => .nil
  | _, _, .cons h t => .cons (f _ _ h) (t.nu f)
section
variable {C : Cq} {e a b elt tg : Expr} {es ifs : List Expr} {ρ : DEnv} {M : Mem} {P : PD} {pos p : Pos} {E : DE}
/-- ints drawn beside the ints of a list -/
theorem compJ2 {scope : Scope} {vs : List Nat} {M1 : Mem} {ns : List Int} {j : Addr} (hj : JarAt M1 j) (R : Int → Int → Prop) (hl : ns.length < sizeLine)
    (step : ∀ (x : Int) (M2 : Mem), x ∈ ns → JarAt M2 j → ∀ s H cc cl fp, QGw (C.blk s H scope cc cl fp) vs tg (wipeD ρ vs) M2 (.int x) fun ρ2 M2' => ∀ s H cc cl fp, QTs (C.blk s H scope cc cl fp) ifs ρ2 M2' fun b M3 =>
      b = true ∧ ∀ s H cc cl fp, QE (C.blk s H scope cc cl fp) elt ρ2 M3 fun d M4 => ∃ n, d = .int n ∧ R x n ∧ JM j M2 M4)
    (fin : ∀ (ms : List Int) L M2, JM j M1 M2 → M2 L = none → A2 R ns ms → P (.oth (.ref L)) (mupd M2 L (.lst (ms.map .int)))) : CompH C scope tg ifs elt vs ρ M1 (ns.map .int) P := by
  refine compR (fun i acc M2 => JM j M1 M2 ∧ ∃ ms : List Int, acc = ms.map .int ∧ A2 R (ns.take i) ms) ⟨.refl hj, [], rfl, .nil⟩ ?_ ?_
  · rintro L i x acc M2 hx ⟨jm, ms, rfl, hall⟩ hM hM1 s H cc cl fp
    have nj := hj.ne hM1
    obtain ⟨n0, rfl, hn, hmem⟩ := int_at hx
    have hi' := (List.getElem?_eq_some_iff.mp hn).1
    have hlen := hall.len
    rw [List.length_take, Nat.min_eq_left (by omega)] at hlen
    refine ⟨fun σ Hz v S r Q k => (step n0 (mupd M2 L (.lst (ms.map .int))) hmem (jm.at.upd nj) s H cc cl fp).run σ Hz v S r Q fun ρ' σ' H' S' f' e' q => k ρ' σ' H' S' f' e' ?_⟩
    intro s1 H1 cc1 cl1 fp1
    refine ⟨fun σ H S w Q k => (q s1 H1 cc1 cl1 fp1).run σ H S w Q fun b H' M' hi f ⟨h0, h1⟩ => k b H' M' hi f ⟨fun hb s2 H2 cc2 cl2 fp2 => ?_, fun hb => by rw [h0] at hb; cases hb⟩⟩
    refine (h1 s2 H2 cc2 cl2 fp2).imp ?_
    rintro d M4 ⟨n, rfl, hR, j4⟩
    obtain ⟨M5, j5, e5, m5⟩ := j4.drop hM nj
    have ht : ns.take (i + 1) = ns.take i ++ [n0] := by
      rw [List.take_succ, hn]; rfl
    exact ⟨by rw [List.length_map]; omega, M5, e5, m5, jm.trans j5, ms ++ [n], by simp, by rw [ht]; exact hall.app (.cons hR .nil)⟩
  · rintro L acc M2 ⟨jm, ms, rfl, hall⟩ hM
    rw [List.length_map, List.take_length] at hall
    exact fin ms L M2 jm hM hall
theorem qs_setCompJ2 {scope : Scope} {y : Str} {py spos : Pos} (i : Nat) (own : List (Str × Nat)) (j : Addr) (R : Int → Int → Prop) (hy : C.X.N[i]? = some y) (hyl : C.X.env.scope.names.lookup y = some .local) (h : QI C tg a ρ M fun xs M1 => ∃ ns : List Int, xs = ns.map .int ∧ JarAt M1 j ∧ ns.length < sizeLine ∧
      (∀ (x : Int) (M2 : Mem), x ∈ ns → JarAt M2 j → ∀ s H cc cl fp, QGw (C.blk s H scope cc cl fp) (own.map (·.2)) tg (wipeD ρ (own.map (·.2))) M2 (.int x) fun ρ2 M2' => ∀ s H cc cl fp, QTs (C.blk s H scope cc cl fp) ifs ρ2 M2' fun b M3 =>
        b = true ∧ ∀ s H cc cl fp, QE (C.blk s H scope cc cl fp) elt ρ2 M3 fun d M4 => ∃ n, d = .int n ∧ R x n ∧ JM j M2 M4) ∧
      (∀ (ms : List Int) M2, JM j M1 M2 → A2 R ns ms → E.nx (ρ.set i (some (.lst (ms.map .int)))) M2))
    (ok : BlkOk C.X.N C.X.env.scope scope own) (hsw : swapsWith (.ListComp elt [⟨tg, a, ifs, 0⟩] scope pos) (some (.Name y py)) spos.line C.X.env = pure true) (hc : C.X.calm = true := by rfl) (hs : ∀ x, foldedSetIterable a C.X.env x = pure x := by intro _; rfl) :
    QS C (.Assign [.Name y py] (.ListComp elt [⟨tg, a, ifs, 0⟩] scope pos) spos) ρ M E := by
  refine qs_setCompF i own hy hyl ?_ ok hsw hc hs
  obtain ⟨wi, pi, q⟩ := h.ex
  refine ⟨wi, pi, fun σ H S w R' k => q σ H S w R' fun J H1 M1 xs hi' fr wk ⟨ns, e, hj, hl, st, hp⟩ => k J H1 M1 xs hi' fr wk ?_⟩
  subst e
  refine compJ2 hj R hl st fun ms L M2 jm hM hall => ⟨L, _, rfl, mupd_same, ?_⟩
  rw [mdel_upd hM]
  exact hp ms M2 jm hall
end
end Q
namespace Q
open PySem PySem.Spec PyProof.Rows L2 LamX
/-- xs[lo:hi] as a list of the memory -/
theorem qe_sliceM {C : Cq} {a : Expr} {ρ : DEnv} {M : Mem} {P : PD} {pos : Pos} {lo hi : Option Expr} {p2 : Pos} (h : QE C a ρ M fun x M1 => QP C lo ρ M1 fun l M2 => QP C hi ρ M2 fun u M3 => ∃ xs, SeqR M3 x xs ∧ ∀ q, M3 q = none → P (.oth (.ref q)) (mupd M3 q (.lst (cutD xs l u)))) :
    QE C (.Subscript a (.Slice lo hi none p2) pos) ρ M P := by
  have po : ∀ (o : Option Expr), ∃ t, PO C.X o t ∧ ∀ ρ M (P : Option Int → Mem → Prop), QP C o ρ M P → ∀ σ H, SI C.K C.T C.Z ρ M σ H → WOk C M H → ∀ Q : Option Int → Hp → Prop, (∀ i H' M', HI C.K C.T M' H' → Fr M H M' H' → P i M' → Q i H') → t σ H Q := by
    intro o
    cases o with
    | none => exact ⟨_, po_none, fun ρ M P h σ H S w Q k => k none H M S.hi (.refl _ _) h⟩
    | some e => exact ⟨_, po_some pe_W, fun ρ M P h σ H S w Q k => (show QE C e ρ M _ from h).run σ H S w _ fun v H1 M1 d hi f r ⟨i, e, p⟩ => by
        subst e; cases r
        exact ⟨i, rfl, k _ H1 M1 hi f p⟩⟩
  obtain ⟨tl, pl, ql⟩ := po lo
  obtain ⟨th, ph, qh⟩ := po hi
  refine .of (pe_slice sl_list pe_W pl ph) fun σ H S w Q k => h σ H S w _ fun v H1 M1 x hi1 f rx h1 => ql _ _ _ h1 σ H1 (S.fr f hi1) (w.fr f) _ fun l H2 M2 hi2 f2 h2 =>
    qh _ _ _ h2 σ H2 ((S.fr f hi1).fr f2 hi2) ((w.fr f).fr f2) _ fun u H3 M3 hi3 f3 ⟨xs, s, p⟩ => ?_
  obtain ⟨a, vs, rfl, e1, e2⟩ := s.at hi3 (rx.mono (f2.trans f3).sb)
  refine ⟨a, vs, rfl, e1, fun q hq => ?_⟩
  have e3 : RpA C.K (sub H3 M3) (cutV vs l u) (cutD xs l u) := by
    unfold cutV cutD
    rw [e2.length]
    exact (e2.drop _).take _
  exact k _ _ _ _ (hi3.newM (m := .lst (cutD xs l u)) hq e3) (((f.trans f2).trans f3).trans (fr_newM hi3 hq)) (.oth _) (p q (hi3.mnone hq))
/-- the last of a list that falls, one more -/
theorem rk_last {l : List Int} {x : Int} {rest : List Int} (hs : srt l = x :: rest) : (rk l)[(rk l).length - 1]? = some x ∧ srt ((rk l).set ((rk l).length - 1) (x + 1)) = st1 (srt l) := by
  have e : rk l = rest.reverse ++ [x] := by rw [rk, hs, List.reverse_cons]
  have hl : (rk l).length - 1 = rest.reverse.length := by rw [e, List.length_append]; simp
  rw [hl, e]
  refine ⟨by simp, ?_⟩
  rw [List.set_append_right _ _ (Nat.le_refl _), Nat.sub_self]
  have hss := srt_sorted l
  rw [hs] at hss ⊢
  rw [st1]
  refine (srt_unique ?_ (insI_sorted _ _ (List.pairwise_cons.mp hss).2)).symm
  refine (insI_perm _ _).trans ?_
  show ((x + 1) :: rest).Perm (rest.reverse ++ [x + 1])
  exact ((List.reverse_perm rest).symm.cons (x + 1)).trans (List.perm_append_comm (l₁ := [x + 1]) (l₂ := rest.reverse))
theorem ixN_last {n : Nat} (h : 1 ≤ n) : ixN n (-1) = some (n - 1) := by
  unfold ixN
  rw [if_neg (by omega), if_pos (by omega)]
  congr 1
  omega
end Q
namespace Q
/-! ### a standstill comes -/
def df (h : Int) (l : List Int) : Nat := (l.map fun x => (h - x).toNat).sum
theorem df_perm {h : Int} {l m : List Int} (p : l.Perm m) : df h l = df h m := by
  unfold df
  induction p with
  | nil => rfl
  | cons x _ ih => simp only [List.map_cons, List.sum_cons, ih]
  | swap x y l => simp only [List.map_cons, List.sum_cons]; omega
  | trans _ _ h1 h2 => exact h1.trans h2
theorem df_zero {h : Int} : ∀ {l : List Int}, df h l = 0 → ∀ x ∈ l, h ≤ x
  | [], _, x, hx => by simp at hx
  | y :: l, e, x, hx => by
    simp only [df, List.map_cons, List.sum_cons] at e
    rcases List.mem_cons.mp hx with rfl | hx
    · omega
    · exact df_zero (l := l) (by unfold df; omega) x hx
theorem df_of {h : Int} : ∀ {l : List Int}, (∀ x ∈ l, h ≤ x) → df h l = 0
  | [], _ => rfl
  | y :: l, e => by
    have := df_of (l := l) fun x hx => e x (List.mem_cons_of_mem _ hx)
    have h1 := e y List.mem_cons_self
    simp only [df, List.map_cons, List.sum_cons] at this ⊢
    omega
theorem df_st1 {h : Int} : ∀ {l : List Int}, l.Pairwise (· ≤ ·) → df h (st1 l) = df h l - 1
  | [], _ => rfl
  | x :: l, s => by
    rw [st1, df_perm (insI_perm _ _)]
    have h1 := (List.pairwise_cons.mp s).1
    by_cases hx : x < h
    · simp only [df, List.map_cons, List.sum_cons]; omega
    · have := df_of (h := h) (l := l) fun y hy => by have := h1 y hy; omega
      simp only [df, List.map_cons, List.sum_cons] at this ⊢
      omega
theorem df_stN {h : Int} {l : List Int} (s : l.Pairwise (· ≤ ·)) (n : Nat) : df h (stN n l) = df h l - n := by
  induction n with
  | zero => rfl
  | succ n ih => rw [stN, df_st1 (stN_sorted n s), ih]; omega
theorem df_app {h : Int} (l m : List Int) : df h (l ++ m) = df h l + df h m := by
  simp [df]
theorem df_rep {h : Int} {n : Nat} : df h (List.replicate n 0) = n * h.toNat := by
  induction n with
  | zero => simp [df]
  | succ n ih =>
    rw [List.replicate_succ]
    unfold df at ih ⊢
    rw [List.map_cons, List.sum_cons, ih, Nat.add_mul, Nat.one_mul, Int.sub_zero]; omega
/-- how many are above v -/
def ab (v : Int) (l : List Int) : Nat := l.countP fun x => decide (v < x)
theorem ab_perm {v : Int} {l m : List Int} (p : l.Perm m) : ab v l = ab v m := p.countP_eq _
theorem ab_mono {v w : Int} (h : v ≤ w) : ∀ l : List Int, ab w l ≤ ab v l := fun l =>
  List.countP_mono_left fun x _ hx => by simp only [decide_eq_true_eq] at hx ⊢; omega
theorem ab_stN {v : Int} {l : List Int} (s : l.Pairwise (· ≤ ·)) : ∀ n : Nat, (∃ m ∈ stN n l, m < v) → ab v (stN n l) = ab v l := by
  intro n
  induction n with
  | zero => intro _; rfl
  | succ n ih =>
    rintro ⟨m, hm, hv⟩
    have so := stN_sorted n s
    rw [stN] at hm ⊢
    generalize stN n l = k at hm so ih ⊢
    cases k with
    | nil => simp [st1] at hm
    | cons x k =>
      have h1 := (List.pairwise_cons.mp so).1
      have hx : x ≤ m := by
        refine st1_lo (l := x :: k) (b := x) (fun y hy => ?_) m hm
        rcases List.mem_cons.mp hy with rfl | hy
        · exact Int.le_refl _
        · exact h1 y hy
      rw [← ih ⟨x, List.mem_cons_self, by omega⟩, st1, ab_perm (insI_perm _ _)]
      unfold ab
      rw [List.countP_cons, List.countP_cons, decide_eq_false (by omega : ¬ v < x + 1), decide_eq_false (by omega : ¬ v < x)]
theorem ab_take {v : Int} {l : List Int} (so : l.Pairwise (· ≤ ·)) {s : Nat} (hs : s ≤ l.length) : ab v (l.take (l.length - s)) ≤ ab v l - s := by
  have e := List.take_append_drop (l.length - s) l
  have hd : (l.drop (l.length - s)).length = s := by rw [List.length_drop]; omega
  rw [← e] at so
  have p3 := (List.pairwise_append.mp so).2.2
  have e2 : ab v l = ab v (l.take (l.length - s)) + ab v (l.drop (l.length - s)) := by
    conv => lhs; rw [← e]
    exact List.countP_append
  by_cases z : ab v (l.take (l.length - s)) = 0
  · omega
  · obtain ⟨x, hx, hv⟩ : ∃ x ∈ l.take (l.length - s), v < x := by
      have := List.countP_pos_iff.mp (Nat.pos_of_ne_zero z)
      simpa using this
    have e3 : ab v (l.drop (l.length - s)) = s := by
      refine Eq.trans (List.countP_eq_length.mpr fun y hy => ?_) hd
      have := p3 x hx y hy
      simp only [decide_eq_true_eq]; omega
    omega
/-- rows behind a pour: their least, which the nought ones reach -/
structure Rd (p s n : Nat) (y : List Int) (h : Int) : Prop where
  len : y.length = n
  sn : s < n
  s1 : 1 ≤ s
  up : Up y
  lo : ∀ x ∈ y, h ≤ x
  mem : h ∈ y
  le : s * h.toNat ≤ p
theorem Rd.h0 {p s n : Nat} {y : List Int} {h : Int} (r : Rd p s n y h) : 0 ≤ h := r.up.nn h r.mem
theorem least {l : List Int} (h : l.Pairwise (· ≤ ·)) (hn : 1 ≤ l.length) : ∃ m ∈ l, ∀ x ∈ l, m ≤ x := by
  cases l with
  | nil => simp at hn
  | cons x l => exact ⟨x, List.mem_cons_self, fun y hy => by
      rcases List.mem_cons.mp hy with rfl | hy
      · exact Int.le_refl _
      · exact (List.pairwise_cons.mp h).1 y hy⟩
theorem Rd.start {p s n : Nat} {l : List Int} (u : Up l) (sn : s < n) (s1 : 1 ≤ s) (hl : s + l.length = n) : ∃ h, Rd p s n (stN p (List.replicate s 0 ++ l)) h := by
  have u2 := u.zeros s
  have ln : (stN p (List.replicate s 0 ++ l)).length = n := by rw [stN_len]; simpa using hl
  obtain ⟨h, h1, h2⟩ := least (stN_sorted p u2.so) (by omega)
  refine ⟨h, ln, sn, s1, u2.pour p, h2, h1, ?_⟩
  have e1 := df_stN (h := h) u2.so p
  have e2 := df_of (h := h) h2
  rw [df_app, df_rep] at e1
  omega
theorem cut_eq {y : List Int} {n s : Nat} (hl : y.length = n) (hs : s < n) : cutA y s n = List.replicate s 0 ++ y.take (n - s) := by
  unfold cutA
  rw [hl, show n - (n - s) = s by omega]
theorem Rd.next {p s n : Nat} {y : List Int} {h : Int} (r : Rd p s n y h) : ∃ h1, Rd p s n (stN p (cutA y s n)) h1 ∧ ab (h1 + 1) (stN p (cutA y s n)) ≤ ab (h + 1) y - s := by
  rw [cut_eq r.len r.sn]
  have ut := r.up.take (n - s)
  have hl : s + (y.take (n - s)).length = n := by rw [List.length_take, r.len]; have := r.sn; omega
  obtain ⟨h1, r1⟩ := Rd.start (p := p) ut r.sn r.s1 hl
  refine ⟨h1, r1, ?_⟩
  have u2 := ut.zeros s
  have hh : h ≤ h1 := by
    have e1 := df_stN (h := h) u2.so p
    rw [df_app, df_rep, df_of (l := y.take (n - s)) fun x hx => r.lo x (List.mem_of_mem_take hx)] at e1
    have := r.le
    exact df_zero (by omega) h1 r1.mem
  have e := ab_stN (v := h1 + 1) u2.so p ⟨h1, r1.mem, by omega⟩
  rw [e]
  have e2 : ab (h1 + 1) (List.replicate s 0 ++ y.take (n - s)) = ab (h1 + 1) (y.take (n - s)) := by
    unfold ab
    rw [List.countP_append, List.countP_replicate]
    have := r1.h0
    rw [if_neg (by simp; omega)]; omega
  rw [e2]
  have h3 := ab_mono (v := h + 1) (w := h1 + 1) (by omega) (y.take (n - s))
  have h4 := ab_take (v := h + 1) r.up.so (s := s) (by have := r.len; have := r.sn; omega)
  rw [r.len] at h4
  omega
/-- all alike but for one -/
def lvF (n h r : Nat) : List Int := List.replicate (n - r) ((h : Nat) : Int) ++ List.replicate r (((h + 1 : Nat)) : Int)
theorem flat_form : ∀ {l : List Int} {h : Nat}, l.Pairwise (· ≤ ·) → (∀ x ∈ l, (h : Int) ≤ x ∧ x ≤ h + 1) → l = lvF l.length h (ab h l) ∧ ab h l ≤ l.length
  | [], _, _, _ => ⟨rfl, Nat.le_refl _⟩
  | x :: l, h, so, b => by
    obtain ⟨so1, so2⟩ := List.pairwise_cons.mp so
    obtain ⟨e, le⟩ := flat_form (h := h) so2 fun x hx => b x (List.mem_cons_of_mem _ hx)
    have bx := b x List.mem_cons_self
    by_cases hx : x = h
    · subst hx
      have e2 : ab h ((h : Int) :: l) = ab h l := by unfold ab; rw [List.countP_cons]; simp
      rw [e2]
      refine ⟨?_, by rw [List.length_cons]; omega⟩
      rw [List.length_cons]
      unfold lvF at e ⊢
      rw [show l.length + 1 - ab h l = (l.length - ab h l) + 1 by omega, List.replicate_succ, List.cons_append, ← e]
    · have hx1 : x = h + 1 := by omega
      have e2 : ab h l = l.length := by
        unfold ab
        refine List.countP_eq_length.mpr fun y hy => ?_
        have := so1 y hy
        simp only [decide_eq_true_eq]; omega
      have e3 : ab h (x :: l) = l.length + 1 := by
        unfold ab at e2 ⊢
        rw [List.countP_cons, e2]; simp [hx1]; omega
      rw [e3, List.length_cons]
      refine ⟨?_, Nat.le_refl _⟩
      rw [e2] at e
      unfold lvF at e ⊢
      rw [Nat.sub_self, List.replicate_zero, List.nil_append] at e ⊢
      rw [List.replicate_succ, ← e, hx1]
      rfl
theorem Rd.flat {p s n : Nat} {y : List Int} {h : Int} (r : Rd p s n y h) (z : ab (h + 1) y = 0) : ∃ H k : Nat, k < n ∧ y = lvF n H k ∧ s * H ≤ p := by
  have h0 := r.h0
  obtain ⟨H, rfl⟩ : ∃ H : Nat, h = H := ⟨h.toNat, by omega⟩
  have b : ∀ x ∈ y, (H : Int) ≤ x ∧ x ≤ H + 1 := fun x hx => ⟨r.lo x hx, by
    have := List.countP_eq_zero.mp z x hx
    simpa using this⟩
  obtain ⟨e, le⟩ := flat_form r.up.so b
  rw [r.len] at e le
  refine ⟨H, ab H y, ?_, e, r.le⟩
  have : ab H y ≠ y.length := fun e => by
    have := List.countP_eq_length.mp e H r.mem
    simp at this
  rw [r.len] at this
  omega
theorem sum_rep (n : Nat) (x : Int) : (List.replicate n x).sum = n * x := by
  induction n with
  | zero => simp
  | succ n ih => rw [List.replicate_succ, List.sum_cons, ih, Int.natCast_succ, Int.add_mul]; omega
theorem lvF_sum {n h r : Nat} (hr : r ≤ n) : (lvF n h r).sum = ((n * h + r : Nat) : Int) := by
  unfold lvF
  rw [List.sum_append, sum_rep, sum_rep]
  obtain ⟨m, rfl⟩ : ∃ m, n = m + r := ⟨n - r, by omega⟩
  rw [Nat.add_sub_cancel, ← Int.natCast_mul, ← Int.natCast_mul, ← Int.natCast_add, Nat.mul_add, Nat.mul_one, Nat.add_mul]
  congr 1
  omega
theorem lvF_take {n h r s : Nat} (hr : r ≤ n) (hs : s ≤ n) : ((lvF n h r).take (n - s)).sum + ((s * h + min r s : Nat) : Int) = ((n * h + r : Nat) : Int) := by
  rw [← lvF_sum hr]
  have e := List.take_append_drop (n - s) (lvF n h r)
  have e2 : ((lvF n h r).drop (n - s)).sum = ((s * h + min r s : Nat) : Int) := by
    unfold lvF
    rw [List.drop_append, List.drop_replicate, List.drop_replicate, List.length_replicate, List.sum_append, sum_rep, sum_rep, ← Int.natCast_mul, ← Int.natCast_mul, ← Int.natCast_add]
    congr 1
    by_cases c : r ≤ s
    · rw [show r - (n - s - (n - r)) = r by omega, show n - r - (n - s) = s - r by omega, Nat.min_eq_left c, Nat.mul_add, Nat.mul_one]
      obtain ⟨m, rfl⟩ : ∃ m, s = m + r := ⟨s - r, by omega⟩
      rw [Nat.add_sub_cancel, Nat.add_mul]; omega
    · rw [show r - (n - s - (n - r)) = s by omega, show n - r - (n - s) = 0 by omega, Nat.min_eq_right (by omega)]
      rw [Nat.zero_mul, Nat.mul_add]; omega
  conv => rhs; rw [← e]
  rw [List.sum_append, e2]
theorem lvF_len {n h r : Nat} (hr : r ≤ n) : (lvF n h r).length = n := by
  unfold lvF; rw [List.length_append, List.length_replicate, List.length_replicate]; omega
theorem Rd.one {p s n H k H1 k1 : Nat} (sn : s < n) (hk : k < n) (hk1 : k1 < n) (e : stN p (cutA (lvF n H k) s n) = lvF n H1 k1) : n * H1 + k1 + s * H + min k s = n * H + k + p := by
  have e1 := congrArg List.sum e
  rw [cut_eq (lvF_len (by omega)) sn, stN_sum p (by
    have h0 : (List.replicate s (0 : Int) ++ (lvF n H k).take (n - s)).length = n := by
      rw [List.length_append, List.length_replicate, List.length_take, lvF_len (by omega)]; omega
    intro z
    rw [z] at h0
    simp at h0
    omega), lvF_sum (by omega), List.sum_append, sum_rep, Int.mul_zero] at e1
  have e2 := lvF_take (n := n) (h := H) (r := k) (s := s) (by omega) (by omega)
  omega
/-- how far a flat one is from its standstill -/
def mu (p s n H k : Nat) : Nat := if H < p / s then 100 + (if n * (p / s) - (n * H + k) ≤ 420 then n * (p / s) - (n * H + k) else 420 + (n * (p / s) - (n * H + k) - 420) / 20)
  else if k < p % s then 1 else k - p % s
theorem eq_of_sum {n a b c d : Nat} (hb : b < n) (hd : d < n) (e : n * a + b = n * c + d) : a = c ∧ b = d := by
  have n0 : 0 < n := by omega
  have e1 : (n * a + b) / n = a := by rw [Nat.mul_add_div n0, Nat.div_eq_of_lt hb]; omega
  have e2 : (n * c + d) / n = c := by rw [Nat.mul_add_div n0, Nat.div_eq_of_lt hd]; omega
  have : a = c := by rw [← e1, ← e2, e]
  subst this
  exact ⟨rfl, by omega⟩
theorem mu_dec {p s n H k H1 k1 : Nat} (s1 : 1 ≤ s) (sn : s < n) (n20 : n ≤ 20) (hk : k < n) (hk1 : k1 < n) (hp : s * H ≤ p) (hp1 : s * H1 ≤ p) (e : n * H1 + k1 + s * H + min k s = n * H + k + p) (ne : ¬ (H1 = H ∧ k1 = k)) : mu p s n H1 k1 < mu p s n H k := by
  have dp := Nat.div_add_mod p s
  have hm := Nat.mod_lt p s1
  have c0 : H ≤ p / s := (Nat.le_div_iff_mul_le s1).mpr (by rw [Nat.mul_comm]; exact hp)
  have c1 : H1 ≤ p / s := (Nat.le_div_iff_mul_le s1).mpr (by rw [Nat.mul_comm]; exact hp1)
  unfold mu
  generalize p / s = c at *
  generalize p % s = q at *
  obtain ⟨d, rfl⟩ : ∃ d, c = H + d := ⟨c - H, by omega⟩
  have ne' : n * H1 + k1 ≠ n * H + k := fun z => ne (eq_of_sum hk1 hk z)
  rw [Nat.mul_add] at dp
  by_cases hd : d = 0
  · subst hd
    rw [if_neg (show ¬ H < H + 0 by omega)]
    rw [Nat.mul_zero] at dp
    have hH : H1 = H ∧ k1 + min k s = k + q := by
      by_cases hq : k < s
      · rw [Nat.min_eq_left (by omega)] at e ⊢
        have := eq_of_sum (n := n) (a := H1) (b := k1) (c := H) (d := q) hk1 (by omega) (by omega)
        omega
      · rw [Nat.min_eq_right (by omega)] at e ⊢
        have := eq_of_sum (n := n) (a := H1) (b := k1) (c := H) (d := k + q - s) hk1 (by omega) (by omega)
        omega
    obtain ⟨rfl, e2⟩ := hH
    rw [if_neg (show ¬ H1 < H1 + 0 by omega)]
    by_cases hq : k < s
    · rw [Nat.min_eq_left (by omega)] at e2
      repeat' split
      all_goals omega
    · rw [Nat.min_eq_right (by omega)] at e2
      repeat' split
      all_goals omega
  · rw [if_pos (show H < H + d by omega)]
    have hsd : d ≤ s * d := Nat.le_mul_of_pos_left d s1
    have hs1 : s * 1 ≤ s * d := Nat.mul_le_mul_left s (by omega)
    have hsd2 : d - 1 ≤ s * (d - 1) := Nat.le_mul_of_pos_left _ s1
    have e4 : s * d = s * (d - 1) + s := by
      obtain ⟨g, rfl⟩ : ∃ g, d = g + 1 := ⟨d - 1, by omega⟩
      rw [Nat.add_sub_cancel, Nat.mul_add, Nat.mul_one]
    have hmin : min k s ≤ s := Nat.min_le_right _ _
    have hn : n * (H + d) = n * H + n * d := Nat.mul_add _ _ _
    have hnd : n * d ≤ 20 * d := Nat.mul_le_mul_right d n20
    have hn1 : n * 1 ≤ n * d := Nat.mul_le_mul_left n (by omega)
    have up : n * H + k + (d - 1) ≤ n * H1 + k1 := by omega
    have up1 : n * H + k + 1 ≤ n * H1 + k1 := by omega
    by_cases h1 : H1 < H + d
    · rw [if_pos h1]
      have hlt : n * (H1 + 1) ≤ n * (H + d) := Nat.mul_le_mul_left n h1
      rw [Nat.mul_add] at hlt
      repeat' split
      all_goals omega
    · rw [if_neg h1]
      repeat' split
      all_goals omega
/-- the rows behind pours -/
def nyN (p s n : Nat) : Nat → List Int → List Int
  | 0, y => y
  | t + 1, y => nyN p s n t (stN p (cutA y s n))
theorem mu_le {p s n H k : Nat} (s1 : 1 ≤ s) (n20 : n ≤ 20) (hk : k < n) (hp : p ≤ 1000) : mu p s n H k ≤ 1520 := by
  have c : p / s ≤ 1000 := Nat.le_trans (Nat.div_le_self _ _) hp
  have e : n * (p / s) ≤ 20 * 1000 := Nat.mul_le_mul n20 c
  unfold mu
  repeat' split
  all_goals omega
theorem flat_stop {p s n : Nat} (n20 : n ≤ 20) : ∀ (m : Nat) (y : List Int) (h : Int), Rd p s n y h → ab (h + 1) y = 0 → (∀ H k, k < n → y = lvF n H k → mu p s n H k ≤ m) → ∃ t, t ≤ m ∧ stN p (cutA (nyN p s n t y) s n) = nyN p s n t y := by
  intro m
  induction m with
  | zero =>
    intro y h r z hm
    obtain ⟨H, k, hk, e, hp⟩ := r.flat z
    obtain ⟨h1, r1, z1⟩ := r.next
    obtain ⟨H1, k1, hk1, e1, hp1⟩ := r1.flat (by omega)
    refine ⟨0, Nat.le_refl _, ?_⟩
    show stN p (cutA y s n) = y
    by_cases ne : H1 = H ∧ k1 = k
    · rw [e1, e, ne.1, ne.2]
    · have := mu_dec r.s1 r.sn n20 hk hk1 hp hp1 (Rd.one r.sn hk hk1 (by rw [← e]; exact e1)) ne
      have := hm H k hk e
      omega
  | succ m ih =>
    intro y h r z hm
    obtain ⟨H, k, hk, e, hp⟩ := r.flat z
    obtain ⟨h1, r1, z1⟩ := r.next
    obtain ⟨H1, k1, hk1, e1, hp1⟩ := r1.flat (by omega)
    by_cases ne : H1 = H ∧ k1 = k
    · refine ⟨0, Nat.zero_le _, ?_⟩
      show stN p (cutA y s n) = y
      rw [e1, e, ne.1, ne.2]
    · have d := mu_dec r.s1 r.sn n20 hk hk1 hp hp1 (Rd.one r.sn hk hk1 (by rw [← e]; exact e1)) ne
      have dm := hm H k hk e
      obtain ⟨t, ht, e2⟩ := ih _ h1 r1 (by omega) fun H2 k2 hk2 e3 => by
        have e5 := e1.symm.trans e3
        have e4 : ((n * H1 + k1 : Nat) : Int) = ((n * H2 + k2 : Nat) : Int) := by rw [← lvF_sum (Nat.le_of_lt hk1), ← lvF_sum (Nat.le_of_lt hk2), e5]
        obtain ⟨rfl, rfl⟩ := eq_of_sum hk1 hk2 (Int.ofNat.inj e4)
        omega
      exact ⟨t + 1, by omega, e2⟩
theorem any_stop {p s n : Nat} (n20 : n ≤ 20) (p1 : p ≤ 1000) : ∀ (u : Nat) (y : List Int) (h : Int), Rd p s n y h → ab (h + 1) y ≤ u → ∃ t, t ≤ u + 1520 ∧ stN p (cutA (nyN p s n t y) s n) = nyN p s n t y := by
  intro u
  induction u with
  | zero =>
    intro y h r z
    obtain ⟨t, ht, e⟩ := flat_stop n20 1520 y h r (by omega) fun H k hk _ => mu_le r.s1 n20 hk p1
    exact ⟨t, by omega, e⟩
  | succ u ih =>
    intro y h r z
    obtain ⟨h1, r1, z1⟩ := r.next
    have := r.s1
    obtain ⟨t, ht, e⟩ := ih _ h1 r1 (by omega)
    exact ⟨t + 1, by omega, e⟩
theorem runN_ny {p s n : Nat} : ∀ (t : Nat) (x : List Int), x.length = n → runN p s (t + 1) x = cutA (nyN p s n t (stN p x)) s n
  | 0, x, h => by subst h; rfl
  | t + 1, x, h => by
    rw [runN, runN_ny t _ (runA_len.trans h), runA, h]
    rfl
theorem settles {p s : Nat} {x : List Int} (u : Up x) (n1 : 1 ≤ x.length) (n20 : x.length ≤ 20) (s1 : 1 ≤ s) (p1 : p ≤ 1000) : ∃ t, t ≤ 1600 ∧ runA p s (runN p s t x) = runN p s t x := by
  by_cases sn : s < x.length
  · have ux := u.run (p := p) (s := s)
    have lx := runA_len (p := p) (s := s) (l := x)
    have e0 : runA p s x = List.replicate s 0 ++ (stN p x).take (x.length - s) := by
      unfold runA
      exact cut_eq (stN_len p x) sn
    have ut := (u.pour p).take (x.length - s)
    obtain ⟨h, r⟩ := Rd.start (p := p) (n := x.length) ut sn s1 (by rw [List.length_take, stN_len]; omega)
    have ha : ab (h + 1) (stN p (List.replicate s 0 ++ (stN p x).take (x.length - s))) ≤ 20 := by
      refine Nat.le_trans List.countP_le_length ?_
      rw [r.len]; exact n20
    obtain ⟨t, ht, e⟩ := any_stop n20 p1 20 _ h r ha
    refine ⟨t + 2, by omega, ?_⟩
    have e1 : ∀ t, runN p s (t + 2) x = cutA (nyN p s x.length t (stN p (List.replicate s 0 ++ (stN p x).take (x.length - s)))) s x.length := fun t => by
      show runN p s (t + 1) (runA p s x) = _
      rw [runN_ny t _ lx, e0]
    rw [e1]
    unfold runA
    have e2 : ∀ y, y.length = x.length → (cutA y s x.length).length = x.length := fun y hy => cutA_len (by rw [hy]; omega)
    have l1 : (runN p s (t + 2) x).length = x.length := runN_len
    rw [e1] at l1
    rw [l1, e]
  · refine ⟨1, by omega, ?_⟩
    have z : ∀ l : List Int, l.length = x.length → runA p s l = List.replicate x.length 0 := fun l hl => by
      unfold runA cutA
      rw [stN_len, hl, show x.length - s = 0 by omega]
      simp
    show runA p s (runA p s x) = runA p s x
    rw [z _ runA_len, z x rfl]
end Q
namespace Q
open PySem PySem.Spec PyProof.Rows L2 LamX
/-! ### dicts of the memory -/
def kD : Key → D
  | .inl i => .int i
  | .inr x => .str x
/-- the datum's key: of a dict with plain keys, with tuple keys -/
inductive KeyK : D → Key → Prop
  | int (i : Int) : KeyK (.int i) (.inl i)
  | str (x : Str) : KeyK (.str x) (.inr x)
theorem KeyK.v {K : PySem.W.Frag} {H : Hp} {v : V} {d : D} {k : Key} (h : KeyK d k) (r : Rp K H v d) : v = kV k := by
  cases h <;> cases r <;> rfl
theorem kds_rp {K : PySem.W.Frag} {H : Hp} : ∀ {vs : List V} {ks : List Key}, RpA K H vs (ks.map kD) → vs = ks.map kV
  | _, [], .nil => rfl
  | _, k :: ks, .cons r t => by
    rw [kds_rp t, List.map_cons]
    congr 1
    cases k <;> (cases r; rfl)
def valD {κ : Type} [DecidableEq κ] (kvs : List (κ × D)) (k : κ) : Option D := (kvs.find? fun kv => decide (kv.1 = k)).map (·.2)
def putD {κ : Type} [DecidableEq κ] (kvs : List (κ × D)) (k : κ) (d : D) : List (κ × D) :=
  if kvs.any (fun kv => decide (kv.1 = k)) then kvs.map fun kv => if kv.1 = k then (kv.1, d) else kv else kvs ++ [(k, d)]
/-- a dict's rows and their data -/
structure KR {κ : Type} (K : PySem.W.Frag) (H : Hp) (vs : List (κ × V)) (ds : List (κ × D)) : Prop where
  ks : vs.map (·.1) = ds.map (·.1)
  rs : RpA K H (vs.map (·.2)) (ds.map (·.2))
section
variable {κ : Type} [DecidableEq κ] {K : PySem.W.Frag} {H : Hp}
theorem KR.cases {vs : List (κ × V)} {ds : List (κ × D)} (h : KR K H vs ds) : (vs = [] ∧ ds = []) ∨ ∃ k v d vs' ds', vs = (k, v) :: vs' ∧ ds = (k, d) :: ds' ∧ Rp K H v d ∧ KR K H vs' ds' := by
  obtain ⟨h1, h2⟩ := h
  cases vs with
  | nil => cases ds with
    | nil => exact .inl ⟨rfl, rfl⟩
    | cons d ds => simp at h1
  | cons v vs => cases ds with
    | nil => simp at h1
    | cons d ds =>
      obtain ⟨k, v⟩ := v
      obtain ⟨k', d⟩ := d
      simp only [List.map_cons, List.cons.injEq] at h1 h2
      obtain ⟨rfl, h1⟩ := h1
      cases h2 with
      | cons r rs => exact .inr ⟨_, _, _, _, _, rfl, rfl, r, ⟨h1, rs⟩⟩
theorem KR.len {vs : List (κ × V)} {ds : List (κ × D)} (h : KR K H vs ds) : vs.length = ds.length := by
  have := congrArg List.length h.ks
  simpa using this
theorem KR.cons {vs : List (κ × V)} {ds : List (κ × D)} {k : κ} {v : V} {d : D} (r : Rp K H v d) (h : KR K H vs ds) : KR K H ((k, v) :: vs) ((k, d) :: ds) := ⟨by simp [h.ks], .cons r h.rs⟩
theorem KR.val : ∀ {vs : List (κ × V)} {ds : List (κ × D)}, KR K H vs ds → ∀ k, (valD ds k = none ∧ valV vs k = none) ∨ ∃ v d, valV vs k = some v ∧ valD ds k = some d ∧ Rp K H v d := by
  intro vs
  induction vs with
  | nil =>
    intro ds h k
    rcases h.cases with ⟨_, rfl⟩ | ⟨_, _, _, _, _, e, _⟩
    · exact .inl ⟨rfl, rfl⟩
    · cases e
  | cons p vs ih =>
    intro ds h k
    rcases h.cases with ⟨e, _⟩ | ⟨k', v, d, vs', ds', e, rfl, r, h'⟩
    · cases e
    · cases e
      by_cases e : k' = k
      · subst e
        exact .inr ⟨v, d, by rw [valV_pos rfl], by simp [valD], r⟩
      · rw [valV_neg (p := (k', v)) e]
        have e2 : valD ((k', d) :: ds') k = valD ds' k := by simp [valD, e]
        rw [e2]
        exact ih h' k
theorem KR.some_iff {vs : List (κ × V)} {ds : List (κ × D)} (h : KR K H vs ds) (k : κ) : (valV vs k).isSome = (valD ds k).isSome := by
  rcases h.val k with ⟨h1, h2⟩ | ⟨v, d, h1, h2, _⟩ <;> rw [h1, h2] <;> rfl
theorem any_keys : ∀ {vs : List (κ × V)} {ds : List (κ × D)}, KR K H vs ds → ∀ k, (vs.any fun kv => decide (kv.1 = k)) = ds.any fun kv => decide (kv.1 = k) := by
  intro vs
  induction vs with
  | nil =>
    intro ds h k
    rcases h.cases with ⟨_, rfl⟩ | ⟨_, _, _, _, _, e, _⟩
    · rfl
    · cases e
  | cons p vs ih =>
    intro ds h k
    rcases h.cases with ⟨e, _⟩ | ⟨k', v, d, vs', ds', e, rfl, r, h'⟩
    · cases e
    · cases e
      rw [List.any_cons, List.any_cons, ih h' k]
theorem KR.app {vs us : List (κ × V)} {ds es : List (κ × D)} (h : KR K H vs ds) (g : KR K H us es) : KR K H (vs ++ us) (ds ++ es) :=
  ⟨by rw [List.map_append, List.map_append, h.ks, g.ks], by rw [List.map_append, List.map_append]; exact h.rs.append g.rs⟩
theorem KR.one {k : κ} {v : V} {d : D} (r : Rp K H v d) : KR K H [(k, v)] [(k, d)] := ⟨rfl, .cons r .nil⟩
theorem KR.repl {k : κ} {v : V} {d : D} (r : Rp K H v d) : ∀ {vs : List (κ × V)} {ds : List (κ × D)}, KR K H vs ds → KR K H (vs.map fun kv => if kv.1 = k then (kv.1, v) else kv) (ds.map fun kv => if kv.1 = k then (kv.1, d) else kv) := by
  intro vs
  induction vs with
  | nil =>
    intro ds h
    rcases h.cases with ⟨_, rfl⟩ | ⟨_, _, _, _, _, e, _⟩
    · exact ⟨rfl, .nil⟩
    · cases e
  | cons p vs ih =>
    intro ds h
    rcases h.cases with ⟨e, _⟩ | ⟨k', v', d', vs', ds', e, rfl, r', h'⟩
    · cases e
    · cases e
      rw [List.map_cons, List.map_cons]
      by_cases e : k' = k
      · simp only [if_pos e]; exact .cons r (ih h')
      · simp only [if_neg e]; exact .cons r' (ih h')
theorem KR.put {vs : List (κ × V)} {ds : List (κ × D)} (h : KR K H vs ds) (k : κ) {v : V} {d : D} (r : Rp K H v d) : KR K H (putK vs k v) (putD ds k d) := by
  unfold putK putD
  rw [any_keys h k]
  split
  · exact h.repl r
  · exact h.app (.one r)
end
/-- the dict behind p, the key's look-up, the dict with the key put -/
inductive DM (M : Mem) (p : Addr) (y : D) : Option D → (D → MO) → Nat → Prop
  | k {kvs : List (Key × D)} {k : Key} : M p = some (.dK kvs) → KeyK y k → DM M p y (valD kvs k) (fun d => .dK (putD kvs k d)) kvs.length
  | t {kvs : List (List Key × D)} {ks : List Key} : M p = some (.dT kvs) → y = .ktp ks → DM M p y (valD kvs ks) (fun d => .dT (putD kvs ks d)) kvs.length
theorem DM.get {K : PySem.W.Frag} {T : List (Addr × Str)} {M : Mem} {H : Hp} {p : Addr} {y : D} {u : V} {o : Option D} {f : D → MO} {n : Nat} (h : DM M p y o f n) (hi : HI K T M H) (r : Rp K (sub H M) u y) :
    ∃ ov, DGet H p u ov ∧ ((o = none ∧ ov = none) ∨ ∃ v d, ov = some v ∧ o = some d ∧ Rp K (sub H M) v d) := by
  cases h with
  | k hm hk =>
    obtain ⟨o, h1, h2⟩ := hi.mem p _ hm
    obtain ⟨vs, rfl, h3, h4⟩ := h2.dK
    have := hk.v r
    subst this
    refine ⟨_, .k h1, ?_⟩
    rcases KR.val ⟨h3, h4⟩ _ with ⟨e1, e2⟩ | ⟨v, d, e1, e2, r2⟩
    · exact .inl ⟨e1, e2⟩
    · exact .inr ⟨v, d, e1, e2, r2⟩
  | t hm hk =>
    obtain ⟨o, h1, h2⟩ := hi.mem p _ hm
    obtain ⟨vs, rfl, h3, h4⟩ := h2.dT
    subst hk
    cases r with
    | ktp h5 =>
      refine ⟨_, .t h1 (sub_some h5).2, ?_⟩
      rcases KR.val ⟨h3, h4⟩ _ with ⟨e1, e2⟩ | ⟨v, d, e1, e2, r2⟩
      · exact .inl ⟨e1, e2⟩
      · exact .inr ⟨v, d, e1, e2, r2⟩
theorem DM.set {K : PySem.W.Frag} {T : List (Addr × Str)} {M : Mem} {H : Hp} {p : Addr} {y d : D} {u v : V} {o : Option D} {f : D → MO} {n : Nat} (h : DM M p y o f n) (hi : HI K T M H) (r : Rp K (sub H M) u y) (rv : Rp K (sub H M) v d) (hl : n < sizeLine) :
    ∃ H', DPut H p u v H' ∧ HI K T (mupd M p (f d)) H' ∧ Fr M H (mupd M p (f d)) H' := by
  cases h with
  | k hm hk =>
    obtain ⟨o, h1, h2⟩ := hi.mem p _ hm
    obtain ⟨vs, rfl, h3, h4⟩ := h2.dK
    have := hk.v r
    subst this
    have kr : KR K (sub H M) vs _ := ⟨h3, h4⟩
    rename_i kvs k
    have kp := kr.put k rv
    exact ⟨_, .k h1 (by rw [kr.len]; exact hl), hi.wr hm ⟨kp.ks, kp.rs⟩, fr_wr hm⟩
  | t hm hk =>
    obtain ⟨o, h1, h2⟩ := hi.mem p _ hm
    obtain ⟨vs, rfl, h3, h4⟩ := h2.dT
    subst hk
    cases r with
    | ktp h5 =>
      have kr : KR K (sub H M) vs _ := ⟨h3, h4⟩
      have kp := KR.put kr (by assumption) rv
      exact ⟨_, .t h1 (sub_some h5).2 (by rw [kr.len]; exact hl), hi.wr hm ⟨kp.ks, kp.rs⟩, fr_wr hm⟩
theorem op_in_dict {X : Cx} (hu : X.A.units + 1 < cLine) : OpR X (compareOp .In) (fun x y H Q => ∃ a ov, y = .ref a ∧ DGet H a x ov ∧ Q (.bl ov.isSome) H) := by
  intro pins s σ H x y u v Q I rx ry h
  obtain ⟨a, ov, rfl, g, q⟩ := h
  obtain rfl : v = Value.ref a := ry
  exact d_in hu I g rx fun s3 I3 => ⟨.bl ov.isSome, H, I3, rfl, q⟩
theorem op_notIn_dict {X : Cx} (hu : X.A.units + 1 < cLine) : OpR X (compareOp .NotIn) (fun x y H Q => ∃ a ov, y = .ref a ∧ DGet H a x ov ∧ Q (.bl (!ov.isSome)) H) := by
  intro pins s σ H x y u v Q I rx ry h
  obtain ⟨a, ov, rfl, g, q⟩ := h
  obtain rfl : v = Value.ref a := ry
  exact d_notIn hu I g rx fun s3 I3 => ⟨.bl (!ov.isSome), H, I3, rfl, q⟩
theorem ix_dict {X : Cx} (hu : X.A.units + 1 < cLine) : IxR X (fun x y H Q => ∃ a v, x = .ref a ∧ DGet H a y (some v) ∧ Q v H) := by
  intro value slice pins s σ H x y v u Q I rx ry h hs
  obtain ⟨a, w, rfl, g, q⟩ := h
  obtain rfl : v = Value.ref a := rx
  exact tail_any (dict_typeIs I g) PySem.F.slot_dict_getitem.lookup (d_getItem hu I g ry fun w' s3 I3 rw' => ⟨w, H, I3, rw', q⟩) hs
section
variable {C : Cq} {e a b c elt tg : Expr} {es ifs : List Expr} {ρ : DEnv} {M : Mem} {P : PD} {PB : Bool → Mem → Prop} {pos p : Pos} {E : DE}
theorem Cq.un1 (C : Cq) (hc : C.X.calm = true) : C.X.A.units + 1 < cLine := by have := (C.room hc).units; omega
theorem qe_dnewK (h : ∀ q, M q = none → P (.oth (.ref q)) (mupd M q (.dK []))) : QE C (.Dict [] [] pos) ρ M P :=
  .of pe_dnewK fun σ H S w Q k q hq => k _ _ _ _ (S.hi.newM (m := .dK []) hq ⟨rfl, .nil⟩) (fr_newM S.hi hq) (.oth _) (h q (S.hi.mnone hq))
theorem qe_dnewT (h : ∀ q, M q = none → P (.oth (.ref q)) (mupd M q (.dT []))) : QE C (.Dict [] [] pos) ρ M P :=
  .of pe_dnewT fun σ H S w Q k q hq => k _ _ _ _ (S.hi.newM (m := .dT []) hq ⟨rfl, .nil⟩) (fr_newM S.hi hq) (.oth _) (h q (S.hi.mnone hq))
@[irreducible] def rdInD (neg : Bool) (x y : D) (M : Mem) (P : PD) : Prop := ∃ q o f n, y = .oth (.ref q) ∧ DM M q x o f n ∧ P (.bl (if neg then !o.isSome else o.isSome)) M
theorem od_inD : OpD C (fun x y H Q => ∃ a ov, y = .ref a ∧ DGet H a x ov ∧ Q (.bl ov.isSome) H) (rdInD false) := by
  intro v u x y M H P Q hi rx ry h k
  unfold rdInD at h
  obtain ⟨q, o, f, n, rfl, dm, h⟩ := h
  cases ry
  obtain ⟨ov, g, z⟩ := dm.get hi rx
  refine ⟨q, ov, rfl, g, ?_⟩
  have e : ov.isSome = o.isSome := by
    rcases z with ⟨rfl, rfl⟩ | ⟨_, _, rfl, rfl, _⟩ <;> rfl
  rw [e]
  exact k _ H M _ hi (.refl _ _) (.bl _) h
theorem od_notInD : OpD C (fun x y H Q => ∃ a ov, y = .ref a ∧ DGet H a x ov ∧ Q (.bl (!ov.isSome)) H) (rdInD true) := by
  intro v u x y M H P Q hi rx ry h k
  unfold rdInD at h
  obtain ⟨q, o, f, n, rfl, dm, h⟩ := h
  cases ry
  obtain ⟨ov, g, z⟩ := dm.get hi rx
  refine ⟨q, ov, rfl, g, ?_⟩
  have e : ov.isSome = o.isSome := by
    rcases z with ⟨rfl, rfl⟩ | ⟨_, _, rfl, rfl, _⟩ <;> rfl
  rw [e]
  exact k _ H M _ hi (.refl _ _) (.bl _) h
theorem qe_inD (h : QE C a ρ M fun x M1 => QE C b ρ M1 fun y M2 => rdInD false x y M2 P) (hc : C.X.calm = true := by rfl) (hm : behindInMarks .In b = false := by rfl) : QE C (.Compare a [.In] [b] pos) ρ M P := qe_cmp (op_in_dict (C.un1 hc)) od_inD h hm
theorem qe_notinD (h : QE C a ρ M fun x M1 => QE C b ρ M1 fun y M2 => rdInD true x y M2 P) (hc : C.X.calm = true := by rfl) (hm : behindInMarks .NotIn b = false := by rfl) : QE C (.Compare a [.NotIn] [b] pos) ρ M P := qe_cmp (op_notIn_dict (C.un1 hc)) od_notInD h hm
theorem qt_inD (h : QE C a ρ M fun x M1 => QE C b ρ M1 fun y M2 => rdInD false x y M2 (isBl PB)) (hc : C.X.calm = true := by rfl) (hm : behindInMarks .In b = false := by rfl) : QT C (.Compare a [.In] [b] pos) ρ M PB := qt_cmp (op_in_dict (C.un1 hc)) od_inD h hm
theorem qt_notinD (h : QE C a ρ M fun x M1 => QE C b ρ M1 fun y M2 => rdInD true x y M2 (isBl PB)) (hc : C.X.calm = true := by rfl) (hm : behindInMarks .NotIn b = false := by rfl) : QT C (.Compare a [.NotIn] [b] pos) ρ M PB := qt_cmp (op_notIn_dict (C.un1 hc)) od_notInD h hm
/-- d[k] -/
@[irreducible] def rdIxD (x y : D) (M : Mem) (P : PD) : Prop := ∃ q d f n, x = .oth (.ref q) ∧ DM M q y (some d) f n ∧ P d M
theorem od_ixD : OpD C (fun x y H Q => ∃ a v, x = .ref a ∧ DGet H a y (some v) ∧ Q v H) rdIxD := by
  intro v u x y M H P Q hi rx ry h k
  unfold rdIxD at h
  obtain ⟨q, d, f, n, rfl, dm, h⟩ := h
  cases rx
  obtain ⟨ov, g, z⟩ := dm.get hi ry
  rcases z with ⟨e, _⟩ | ⟨v, d', rfl, e, r⟩
  · cases e
  · cases e
    exact ⟨q, v, rfl, g, k v H M d hi (.refl _ _) r h⟩
theorem qe_ixD (h : QE C a ρ M fun x M1 => QE C b ρ M1 fun y M2 => rdIxD x y M2 P) (hc : C.X.calm = true := by rfl) (hs : PlainIx b := by exact fun _ _ => rfl) : QE C (.Subscript a b pos) ρ M P :=
  .of (pe_ix (ix_dict (C.un1 hc)) pe_W pe_W hs) (ev_op od_ixD (q2 h))
/-- d[k] = v -/
theorem qg_subD {o i : Expr} {d : D} {N : DEnv → Mem → Prop} (h : QE C o ρ M fun x M1 => QE C i ρ M1 fun y M2 => ∃ q ov f n, x = .oth (.ref q) ∧ DM M2 q y ov f n ∧ n < sizeLine ∧ N ρ (mupd M2 q (f d))) (hc : C.X.calm = true := by rfl)
    (ha : ∀ v, assign (.Subscript o i pos) C.X.env v = (do
      let ov ← holding [v] (eval o C.X.env)
      let iv ← holding [v, ov] (eval i C.X.env)
      standAt pos
      holding [v, ov, iv] (setItem ov iv v)
      release [v, ov, iv] []) := by intro _; rfl) : QG C (.Subscript o i pos) ρ M d N :=
  .of (pg_sub pe_W pe_W (set_dict (C.un1 hc)) ha) fun σ H v S w r Q k => h σ H S w _ fun u H1 M1 x hi1 f1 rx h1 => h1 σ H1 (S.fr f1 hi1) (w.fr f1) _ fun t H2 M2 y hi2 f2 ry ⟨q, ov, f, n, ex, dm, hl, g⟩ => by
    subst ex
    cases rx
    obtain ⟨H', dp, hi3, f3⟩ := dm.set hi2 ry (r.mono (f1.trans f2).sb) hl
    exact ⟨q, H', rfl, dp, k ρ _ σ _ ((S.fr (f1.trans f2) hi2).fr f3 hi3) ((f1.trans f2).trans f3) g⟩
/-- tuple(a list) as a key -/
theorem qe_tupK (h : QA C [a] ρ M fun ds M1 => ∃ d ks, ds = [d] ∧ SeqR M1 d (ks.map kD) ∧ P (.ktp ks) M1) (hg : Gl C.X "tuple" := by rfl)
    (he : starEach [a] C.X.env = (false, eval a C.X.env) :: starEach [] C.X.env := by rfl) : QE C (.Call (.Name "tuple" p) [a] [] pos) ρ M P :=
  qe_bt call_tuple_of (rd := fun ds M1 P => ∃ d ks, ds = [d] ∧ SeqR M1 d (ks.map kD) ∧ P (.ktp ks) M1) (by
    intro vs ds M H P Q hi r h k
    obtain ⟨d, ks, rfl, s, q⟩ := h
    cases r with
    | cons r r' =>
      cases r'
      obtain ⟨l, us, rfl, h1, h2⟩ := s.at hi r
      have := kds_rp h2
      subst this
      exact ⟨l, _, rfl, .inl ⟨h1, fun p hp => k _ _ M _ (hi.new hp) (fr_new hi hp) (.ktp (sub_of (hi.mnone hp) upd_same)) q⟩⟩) C.bn.tuple (by decide +kernel) hg h (he := he) (hpl := by rfl)
/-- len of a dict -/
theorem qe_lenD (h : QA C [a] ρ M fun ds M1 => ∃ q kvs, ds = [.oth (.ref q)] ∧ M1 q = some (.dK kvs) ∧ P (.int kvs.length) M1) (hg : Gl C.X "len" := by rfl)
    (he : starEach [a] C.X.env = (false, eval a C.X.env) :: starEach [] C.X.env := by rfl) : QE C (.Call (.Name "len" p) [a] [] pos) ρ M P :=
  qe_bi call_lenD (rd := fun ds M1 P => ∃ q kvs, ds = [.oth (.ref q)] ∧ M1 q = some (.dK kvs) ∧ P (.int kvs.length) M1) (by
    intro vs ds M H P Q hi r h k
    obtain ⟨q, kvs, rfl, hm, hP⟩ := h
    cases r with
    | cons r r' =>
      cases r'; cases r
      obtain ⟨o, h1, h2⟩ := hi.mem q _ hm
      obtain ⟨vs, rfl, h3, h4⟩ := h2.dK
      refine ⟨q, vs, rfl, h1, ?_⟩
      rw [KR.len (K := C.K) (H := sub H M) ⟨h3, h4⟩]
      exact k _ H M _ hi (.refl _ _) (.int _) hP) C.bn.len PySem.boot_len hg h (he := he) (hpl := by rfl)
end
end Q
namespace Q
open PySem PySem.Spec PyProof.Rows L2 LamX
/-! ### try with several clauses 'except X as n' -/
abbrev Cls1 := Value × (Addr → Value → Option Addr → TS)
def shut (i : Nat) (D : Ends) : Ends := { nx := fun τ G => D.nx (τ.set i none) G, rt := D.rt, bk := fun τ G => D.bk (τ.set i none) G, ct := fun τ G => D.ct (τ.set i none) G }
def wAsN (K : PySem.W.Frag) (Wout : WX) (D : Ends) (i : Nat) : List Cls1 → WX
  | [] => Wout
  | (c, ts) :: r => fun cls d τ G => ∃ b, PySem.W.exmOne K cls c = some b ∧ (b = true → ∀ z, G z = none → ts z cls d (shut i D) (τ.set i (some (.ref z))) G) ∧ (b = false → wAsN K Wout D i r cls d τ G)
/-- the clauses and what their suites promise -/
inductive ClsOk (X : Cx) (n : Str) : List ExceptHandler → List Cls1 → Prop
  | nil : ClsOk X n [] []
  | cons {x : Str} {c : Value} {ts : Addr → Value → Option Addr → TS} {b1 : Stmt} {su : List Stmt} {q1 q2 : Pos} {hs : List ExceptHandler} {l : List Cls1} (nm : Names X x c)
      (run : ∀ (z : Addr) (ob : Obj) (cls : Value) (d : Option Addr) (pn : List (Addr × Obj)), Zc cls d ob → (∃ vs, ob.data = .fields vs) → PSs (X.suite z ((z, ob) :: pn)) (b1 :: su) (ts z cls d)) (more : ClsOk X n hs l) :
      ClsOk X n (.ExceptHandler (some (.Name x q1)) (some n) (b1 :: su) q2 :: hs) ((c, ts) :: l)
section
variable {X : Cx} {n : Str} {i : Nat} {body : List Stmt} {c0 : ExceptHandler} {cs : List ExceptHandler} {l : List Cls1} {pos : Pos} {tb : WX → TS} {Wo : WX}
theorem ps_try_asN (st : X.stack = X.env :: X.outer) (fr : X.env.frame = some X.env.locals) (nd : X.N.Nodup) (at_ : X.N[i]? = some n) (kn : X.env.kindOf n = some .local) (tk : Takes X Wo)
    (hb : ∀ (W : WX) (pn : List (Addr × Obj)) (xe : Value → Shared → Prop), Takes (X.tr pn xe) W → PassesOwn (model X.prog X.w) X.A X.env xe → PSs (X.tr pn xe) body (tb W))
    (ck : ClsOk X n (c0 :: cs) l) : PS X (.Try body (c0 :: cs) [] [] pos) (fun D σ H => tb (wAsN X.K Wo D i l) D σ H) := by
  refine ⟨fun pins s σ H D I wish => wpAny_Try_except ?_⟩
  have okX := I.ok
  have afr : X.A.frames = some (X.env :: X.outer) := by rw [okX.frames, st]
  have lo : Loc X.env.scope n := .inl kn
  let xe' : Value → Shared → Prop := fun u r1 => wpAny (model X.prog X.w) X.A (noteFrame u X.env) (fun _ r2 => wpAny (model X.prog X.w) X.A (setFlight u none) (fun _ r3 => wpAny (model X.prog X.w) X.A (handleBy u X.env (c0 :: cs)) (SP X pins D) X.xe r3) X.xe r2) X.xe r1
  refine wpAny_mono ((hb (wAsN X.K Wo D i l) (X.pn ++ pins) xe' (fun u t xx => ?_) PassesOwn.looking).run [] s σ H D (I.toTry _) wish) (fun fl r1 got => ?_) (fun u r1 he => he)
  · obtain ⟨z, B, sB, pins2, τ, G, cls, d, rfl, JT, nb, up, sk, zn, os, ag, wl⟩ := xx
    have JB : Inv X pins τ G sB := JT.ofTry okX
    have sk2 : Sky B (X.env :: X.outer) z (Zc cls d) X.env.locals t.heap := by rw [← st]; exact sk
    show wpAny (model X.prog X.w) X.A (noteFrame (.ref z) X.env) _ _ _
    refine Sky.land Zc.steady afr fr sk2 fun g3 land3 up3 => ?_
    have J3 : Inv X pins τ G { t with heap := g3 } := JB.landed nb land3.1 (up.trans up3) os ag
    obtain ⟨ob3, us3, at3, z3, d3⟩ := land3.there
    have off : z ∉ frs (X.env :: X.outer) := fun mem => by
      obtain ⟨_, ob', at', no⟩ := land3.2.2.1.mem mem
      rw [at3] at at'; cases at'
      exact no _ d3
    have offL : z ≠ X.env.locals := fun e => off (List.mem_filterMap.mpr ⟨X.env, by simp, by rw [fr, e]⟩)
    have offF : z ∉ X.fs := fun mem => by
      obtain ⟨e, he, q⟩ := List.mem_filterMap.mp mem
      exact off (List.mem_filterMap.mpr ⟨e, by simp [he], q⟩)
    have SU := J3.suite at3 d3 zn offL offF
    have each : ∀ {cs' : List ExceptHandler} {l' : List Cls1}, ClsOk X n cs' l' → wAsN X.K Wo D i l' cls d τ G → wpAny (model X.prog X.w) X.A (handleBy (.ref z) X.env cs') (SP X pins D) X.xe { t with heap := g3 } := by
      intro cs' l' ck'
      induction ck' with
      | nil =>
        intro wl'
        obtain ⟨_, _, _, ob, us, Tt, _, _, hat, _, hdt, hf0, _⟩ := id land3
        refine wpAny_handleBy_nil ?_
        unfold PySem.passOn
        refine wpAny_bind (wpAny_field hat hdt hf0 ?_)
        rw [if_neg (by simp : ¬ ((Value.ref Tt == Value.none) = true))]
        have last : wpAny (model X.prog X.w) X.A (setFlight (.ref z) X.env.frame) (fun _ r4 => wpAny (model X.prog X.w) X.A (throw (.ref z) : Sem Flow) (SP X pins D) X.xe r4) X.xe { t with heap := g3 } := by
          rw [fr]
          refine HandSPX.setFlight_upZ land3 fun g4 fly4 up4 => wpAny_throw (tk _ _ ⟨z, B, sB, pins, τ, G, cls, d, rfl, JB, nb, (up.trans up3).trans up4, .inr (.inr (by rw [st]; exact fly4)), zn, os, ag, wl'⟩)
        first | exact wpAny_bind (wpAny_pure (wpAny_bind last)) | exact wpAny_bind last
      | @cons x c ts b1 su q1 q2 cs2 l2 nm run more ih =>
        intro wl'
        obtain ⟨b, eb, yes, no⟩ := wl'
        refine wpAny_handleBy_cons (codeAny_handlers_test ?_) (by intro q; cases q)
        have looks : PySem.W.Looks (model X.prog X.w) g3 (typeOf (.ref z)) cls := fun A Q E s k q => wpAny_typeOf_ref (k _ _ at3) (by rw [z3.1]; exact q)
        have one := PySem.W.exm_one (M := model X.prog X.w) (J3.kIn) looks eb
        have named : ∀ {Q : Value → Shared → Prop} {E : Value → Shared → Prop}, Q c { t with heap := g3 } → wpAny (model X.prog X.w) (X.A.mark (some (.ref z))) (eval (.Name x q1) X.env) Q E { t with heap := g3 } := fun {Q E} q => by
          obtain ⟨gl, ndb, hm | ⟨hm, hv, nn⟩⟩ := nm
          · exact ld_glob (X := X.suite z ((z, ob3) :: (X.pn ++ pins))) SU gl hm q ndb
          · exact ld_blt (X := X.suite z ((z, ob3) :: (X.pn ++ pins))) SU gl hm hv q nn ndb
        refine named (one.here ?_)
        cases b with
        | false => exact ih (no rfl)
        | true =>
          refine codeAny_handlers_suite_as (HandSPX.lands_againZ land3 fun g4 land4 up4 => ?_)
          have J4 : Inv X pins τ G { t with heap := g4 } := JB.landed nb land4.1 ((up.trans up3).trans up4) os ag
          obtain ⟨ob4, us4, at4, z4, d4⟩ := land4.there
          refine store_ok (X := X.suite z ((z, ob4) :: (X.pn ++ pins))) (v := .ref z) (J4.suite at4 d4 zn offL offF) nd at_ lo rfl (fun r5 S5 => ?_) (.inr kn)
          refine wpAny_mono ((run z ob4 cls d (X.pn ++ pins) z4 ⟨_, d4⟩).run [] r5 _ G _ S5 (yes rfl z zn)) (fun fl r6 got => ?_) (fun _ _ no => no.elim)
          cases fl with
          | ret u =>
            obtain ⟨v6, τ6, G6, S6, rv, w6⟩ := got
            exact gone_ok (S6.unsuite okX) nd at_ kn fun r7 J7 => ⟨_, _, _, J7, rv, w6⟩
          | next =>
            obtain ⟨τ6, G6, S6, w6⟩ := got
            exact gone_ok (S6.unsuite okX) nd at_ kn fun r7 J7 => ⟨_, _, J7, w6⟩
          | brk =>
            obtain ⟨τ6, G6, S6, w6⟩ := got
            exact gone_ok (S6.unsuite okX) nd at_ kn fun r7 J7 => ⟨_, _, J7, w6⟩
          | cont =>
            obtain ⟨τ6, G6, S6, w6⟩ := got
            exact gone_ok (S6.unsuite okX) nd at_ kn fun r7 J7 => ⟨_, _, J7, w6⟩
    exact each ck wl
  · cases fl with
    | ret u =>
      obtain ⟨v, τ, G, JT, rv, w⟩ := got
      exact ⟨v, τ, G, JT.ofTry okX, rv, w⟩
    | next =>
      obtain ⟨τ, G, JT, w⟩ := got
      exact wpAny_execs_nil ⟨τ, G, JT.ofTry okX, w⟩
    | brk =>
      obtain ⟨τ, G, JT, w⟩ := got
      exact ⟨τ, G, JT.ofTry okX, w⟩
    | cont =>
      obtain ⟨τ, G, JT, w⟩ := got
      exact ⟨τ, G, JT.ofTry okX, w⟩
end
/-! ### by data -/
/-- one clause: its class, its suite -/
structure ACl where
  x : Str
  c : Value
  b1 : Stmt
  su : List Stmt
  q1 : Pos
  q2 : Pos
def ACl.hd (n : Str) (a : ACl) : ExceptHandler := .ExceptHandler (some (.Name a.x a.q1)) (some n) (a.b1 :: a.su) a.q2
def DE.shut (E : DE) (i : Nat) : DE := { nx := fun ρ2 M2 => E.nx (ρ2.set i none) M2, rt := E.rt, bk := fun ρ2 M2 => E.bk (ρ2.set i none) M2, ct := fun ρ2 M2 => E.ct (ρ2.set i none) M2 }
def RTrys (C : Cq) (i : Nat) (E : DE) : List ACl → XR
  | [] => C.R
  | a :: r => fun cls fs ρ' M' => ∃ b, PySem.W.exmOne C.K cls a.c = some b ∧
    (b = true → ∀ z dx oe pn, Zc cls (some dx) oe → (∃ vs, oe.data = .fields vs) → QSs (cqS C z oe pn) (a.b1 :: a.su) (ρ'.set i (some (.exn z dx (fs.map (·.1)) (fs.map (·.2))))) M' (E.shut i)) ∧ (b = false → RTrys C i E r cls fs ρ' M')
theorem qs_try_asN {C : Cq} {ρ : DEnv} {M : Mem} {E : DE} {n : Str} {body : List Stmt} {pos : Pos} (i : Nat) (a0 : ACl) (as_ : List ACl) (hs : C.X.stack = C.X.env :: C.X.outer) (hf : C.X.env.frame = some C.X.env.locals) (hi : C.X.N[i]? = some n) (hln : C.X.env.kindOf n = some .local)
    (hc : ∀ a ∈ a0 :: as_, Names C.X a.x a.c)
    (hb : ∀ W pn xe tk own, QSs (cqT C W pn xe tk own (RTrys C i E (a0 :: as_))) body ρ M E) : QS C (.Try body ((a0 :: as_).map (ACl.hd n)) [] [] pos) ρ M E := by
  let tsOf : ACl → Addr → Value → Option Addr → TS := fun a z cls d D σ H => ∀ oe pn, Zc cls d oe → (∃ vs, oe.data = .fields vs) → WSs (C.X.suite z ((z, oe) :: pn)) (a.b1 :: a.su) D σ H
  have ck : ∀ l : List ACl, (∀ a ∈ l, Names C.X a.x a.c) → ClsOk C.X n (l.map (ACl.hd n)) (l.map fun a => (a.c, tsOf a)) := by
    intro l
    induction l with
    | nil => intro _; exact .nil
    | cons a l ih =>
      intro h
      exact .cons (h a List.mem_cons_self) (fun z ob cls d pn hz hv => ⟨fun pins s σ H D I h => h ob pn hz hv pins s I⟩) (ih fun b hb => h b (List.mem_cons_of_mem _ hb))
  refine .of (ps_try_asN (i := i) (tb := fun W D σ H => ∀ pn xe, Takes (C.X.tr pn xe) W → PassesOwn (model C.X.prog C.X.w) C.X.A C.X.env xe → WSs (C.X.tr pn xe) body D σ H) (Wo := C.W) hs hf C.nd hi hln C.tk
    (fun W pn xe tk own => ⟨fun pins s σ H D I h => h pn xe tk own pins s I⟩) (ck (a0 :: as_) hc)) fun σ H S w De k => ?_
  intro pn xe tk own
  refine hb _ pn xe tk own σ H S ?_ De ⟨k.nx, k.rt, k.bk, k.ct⟩
  intro σ' H' M' ρ' cls d fs S' f' x'
  have go : ∀ l : List ACl, RTrys C i E l cls fs ρ' M' → wAsN C.X.K C.W De i (l.map fun a => (a.c, tsOf a)) cls d σ' H' := by
    intro l
    induction l with
    | nil => exact fun r => w σ' H' M' ρ' cls d fs S' f' x' r
    | cons a l ih =>
      rintro ⟨b, e, hy, hn⟩
      refine ⟨b, e, fun hb2 z hz => ?_, fun hb2 => ih (hn hb2)⟩
      intro oe pn2 hzc hv
      obtain ⟨dx, vs, rfl, hd, hm, hk, hr⟩ := x'
      have r1 : Rp C.K (sub H' M') (.ref z) (.exn z dx (fs.map (·.1)) (fs.map (·.2))) := .exn (sub_of hm hd) hk rfl hr
      refine hy hb2 z dx oe pn2 hzc hv _ H' (S'.set r1 i) (fun _ _ _ _ _ _ _ _ _ _ z => z.elim) _ ⟨?_, ?_, ?_, ?_⟩
      · exact fun ρ2 M2 σ2 H2 S2 f2 q => k.nx _ M2 _ H2 (S2.forget i none) (f'.trans f2) q
      · exact fun v H2 M2 d hi2 f2 r2 q => k.rt v H2 M2 d hi2 (f'.trans f2) r2 q
      · exact fun ρ2 M2 σ2 H2 S2 f2 q => k.bk _ M2 _ H2 (S2.forget i none) (f'.trans f2) q
      · exact fun ρ2 M2 σ2 H2 S2 f2 q => k.ct _ M2 _ H2 (S2.forget i none) (f'.trans f2) q
  exact go (a0 :: as_)
end Q
namespace Q
open PySem PySem.Spec PyProof.Rows L2 LamX
/-! ### objects of own classes -/
/-- a class: plain, its fields no attributes of the class -/
structure Ob (K : PySem.W.Frag) (Cl : Addr) (fs : List Str) : Prop where
  cls : Cls K Cl
  na : ∀ f ∈ fs, NoAttr K Cl f
/-- the object behind a datum: its class, its fields -/
inductive OAt (M : Mem) : D → Addr → List (Str × D) → Prop
  | mem {p C : Addr} {fs : List (Str × D)} : M p = some (.ins C fs) → OAt M (.oth (.ref p)) C fs
  | obj (C : Addr) (ks : List Str) (ds : List D) : ks.length = ds.length → OAt M (.obj C ks ds) C (ks.zip ds)
/-- fields as the heap has them -/
structure FR (K : PySem.W.Frag) (H : Hp) (vs : List (Str × V)) (ds : List (Str × D)) : Prop where
  ks : vs.map (·.1) = ds.map (·.1)
  rs : RpA K H (vs.map (·.2)) (ds.map (·.2))
theorem zip_maps : ∀ {ks : List Str} {ds : List D}, ks.length = ds.length → (ks.zip ds).map (·.1) = ks ∧ (ks.zip ds).map (·.2) = ds
  | [], [], _ => ⟨rfl, rfl⟩
  | k :: ks, d :: ds, h => by
    obtain ⟨h1, h2⟩ := zip_maps (ks := ks) (ds := ds) (by simpa using h)
    exact ⟨by rw [List.zip_cons_cons, List.map_cons, h1], by rw [List.zip_cons_cons, List.map_cons, h2]⟩
  | [], _ :: _, h => by simp at h
  | _ :: _, [], h => by simp at h
theorem OAt.at {K : PySem.W.Frag} {T : List (Addr × Str)} {M : Mem} {H : Hp} {v : V} {d : D} {C : Addr} {fs : List (Str × D)} (o : OAt M d C fs) (hi : HI K T M H) (r : Rp K (sub H M) v d) :
    ∃ a dx vs, v = .ref a ∧ H a = some (.ins C dx vs) ∧ FR K (sub H M) vs fs := by
  cases o with
  | mem h =>
    cases r
    obtain ⟨o, h1, h2⟩ := hi.mem _ _ h
    obtain ⟨dx, vs, rfl, h3, h4⟩ := h2.ins
    exact ⟨_, dx, vs, rfl, h1, h3, h4⟩
  | obj _ _ _ hl =>
    cases r with
    | obj h1 h2 h3 h4 =>
      obtain ⟨z1, z2⟩ := zip_maps hl
      exact ⟨_, _, _, rfl, (sub_some h1).2, by rw [z1, h2], by rw [z2, h3]; exact h4⟩
theorem FR.look {K : PySem.W.Frag} {H : Hp} {f : Str} : ∀ {vs : List (Str × V)} {ds : List (Str × D)}, FR K H vs ds → (ds.lookup f = none ∧ vs.lookup f = none) ∨ ∃ v d, vs.lookup f = some v ∧ ds.lookup f = some d ∧ Rp K H v d
  | [], [], _ => .inl ⟨rfl, rfl⟩
  | [], _ :: _, h => by have := h.ks; simp at this
  | _ :: _, [], h => by have := h.ks; simp at this
  | (k, v) :: vs, (k', d) :: ds, ⟨h1, h2⟩ => by
    simp only [List.map_cons, List.cons.injEq] at h1 h2
    obtain ⟨rfl, h1⟩ := h1
    cases h2 with
    | cons r rs =>
      cases e : f == k with
      | true => exact .inr ⟨v, d, by simp [List.lookup, e], by simp [List.lookup, e], r⟩
      | false =>
        rcases FR.look (f := f) ⟨h1, rs⟩ with ⟨a, b⟩ | ⟨v', d', a, b, c⟩
        · exact .inl ⟨by simp [List.lookup, e, a], by simp [List.lookup, e, b]⟩
        · exact .inr ⟨v', d', by simp [List.lookup, e, a], by simp [List.lookup, e, b], c⟩
def setF (f : Str) (d : D) : List (Str × D) → List (Str × D)
  | [] => [(f, d)]
  | (g, x) :: r => if g = f then (g, d) :: r else (g, x) :: setF f d r
theorem FR.put {K : PySem.W.Frag} {H : Hp} {f : Str} {v : V} {d : D} (r : Rp K H v d) : ∀ {vs : List (Str × V)} {ds : List (Str × D)}, FR K H vs ds → FR K H (putF f v vs) (setF f d ds)
  | [], [], _ => ⟨rfl, .cons r .nil⟩
  | [], _ :: _, h => by have := h.ks; simp at this
  | _ :: _, [], h => by have := h.ks; simp at this
  | (k, v') :: vs, (k', d') :: ds, ⟨h1, h2⟩ => by
    simp only [List.map_cons, List.cons.injEq] at h1 h2
    obtain ⟨rfl, h1⟩ := h1
    cases h2 with
    | cons r1 rs =>
      unfold putF setF
      by_cases e : k = f
      · rw [if_pos e, if_pos e]; exact ⟨by simp [h1], .cons r rs⟩
      · rw [if_neg e, if_neg e]
        obtain ⟨g1, g2⟩ := FR.put r (f := f) ⟨h1, rs⟩
        exact ⟨by simp [g1], .cons r1 g2⟩
theorem FR.len {K : PySem.W.Frag} {H : Hp} {vs : List (Str × V)} {ds : List (Str × D)} (h : FR K H vs ds) : vs.length = ds.length := by
  have := congrArg List.length h.ks
  simpa using this
theorem FR.mono {K : PySem.W.Frag} {H H' : Hp} (e : Sb H H') {vs : List (Str × V)} {ds : List (Str × D)} (h : FR K H vs ds) : FR K H' vs ds := ⟨h.ks, h.rs.mono e⟩
section
variable {C : Cq} {e a b o value : Expr} {es : List Expr} {ρ : DEnv} {M : Mem} {P : PD} {PB : Bool → Mem → Prop} {pos p pos' apos : Pos} {E : DE}
/-- e.f, a field -/
theorem qe_fld {f : Str} {Cl : Addr} {fl : List Str} (O : Ob C.K Cl fl) (hf : f ∈ fl) (h : QE C e ρ M fun x M1 => ∃ fs d, OAt M1 x Cl fs ∧ fs.lookup f = some d ∧ P d M1) (hb : attributeBase e f C.X.env (eval e C.X.env) = eval e C.X.env := by rfl) :
    QE C (.Attribute e f pos) ρ M P :=
  .of (pe_fld pe_W hb) fun σ H S w Q k => h σ H S w _ fun v H1 M1 x hi f1 r ⟨fs, d, oa, l, q⟩ => by
    obtain ⟨a, dx, vs, rfl, h1, fr⟩ := oa.at hi r
    rcases fr.look (f := f) with ⟨z, _⟩ | ⟨v, d', e1, e2, r2⟩
    · rw [z] at l; cases l
    · rw [e2] at l; cases l
      exact ⟨a, Cl, dx, vs, v, rfl, h1, O.cls, O.na f hf, e1, k v H1 M1 d hi f1 r2 q⟩
/-- o.f = value, o of the memory -/
theorem qs_fld {f : Str} {Cl : Addr} {fl : List Str} (O : Ob C.K Cl fl) (hf : f ∈ fl) (h : QE C value ρ M fun d M1 => QE C o ρ M1 fun x M2 => ∃ q fs, x = .oth (.ref q) ∧ M2 q = some (.ins Cl fs) ∧ fs.length < 1000 ∧ E.nx ρ (mupd M2 q (.ins Cl (setF f d fs))))
    (hs : swapsWith value (some (.Attribute o f pos')) pos.line C.X.env = pure false := by rfl) : QS C (.Assign [.Attribute o f pos'] value pos) ρ M E :=
  .of (ps_fld pe_W pe_W hs) fun σ H S w De k => h σ H S w _ fun y H1 M1 d hi1 f1 r h1 => h1 σ H1 (S.fr f1 hi1) (w.fr f1) _ fun x H2 M2 z hi2 f2 rx ⟨q, fs, ex, hm, hl, g⟩ => by
    subst ex
    cases rx
    obtain ⟨ob, e1, e2⟩ := hi2.mem q _ hm
    obtain ⟨dx, vs, rfl, e3, e4⟩ := e2.ins
    have fr : FR C.K (sub H2 M2) vs fs := ⟨e3, e4⟩
    have fp := fr.put (f := f) (r.mono f2.sb)
    refine ⟨q, Cl, dx, vs, rfl, e1, O.cls, O.na f hf, by rw [fr.len]; exact hl, ?_⟩
    have hi3 := hi2.wr (o := .ins Cl dx (putF f y vs)) (m' := .ins Cl (setF f d fs)) hm ⟨rfl, fp.ks, fp.rs⟩
    exact k.nx ρ _ σ _ ((S.fr (f1.trans f2) hi2).fr (fr_wr hm) hi3) ((f1.trans f2).trans (fr_wr hm)) g
end
/-! ### methods -/
structure HasM (P : Program) (w : World) (K : PySem.W.Frag) (mg : Str → Option Value) (base : Heap) (T : List (Addr × Str)) (Cl : Addr) (m : Str) (n k : Nat) (c : Con) : Prop where
  ex : ∃ f fd ps, FnOk P w K mg base (L2.CX P w) k f fd ps (SpG K T c) ∧ ps.length = n ∧ Cls K Cl ∧ Meth K Cl m f ∧ Binds K fd ps []
/-- a property -/
structure HasP (P : Program) (w : World) (K : PySem.W.Frag) (mg : Str → Option Value) (base : Heap) (T : List (Addr × Str)) (Cl : Addr) (m : Str) (k : Nat) (c : Con) : Prop where
  ex : ∃ p f fd ps, FnOk P w K mg base (L2.CX P w) k f fd ps (SpG K T c) ∧ ps.length = 1 ∧ Cls K Cl ∧ PropOf K Cl m p f ∧ Binds K fd ps []
/-- a class made by its __init__; c speaks of the new object, too -/
structure HasC (P : Program) (w : World) (K : PySem.W.Frag) (mg : Str → Option Value) (base : Heap) (T : List (Addr × Str)) (Cl : Addr) (x : Str) (n k : Nat) (c : Con) : Prop where
  ex : ∃ f fd ps, FnOk P w K mg base (L2.CX P w) k f fd ps (SpG K T c) ∧ ps.length = n ∧ Mk K Cl f ∧ mg x = some (.ref Cl) ∧ Binds K fd ps []
abbrev Cq.HasM (C : Cq) := Q.HasM C.X.prog C.X.w C.X.K C.X.mg C.X.base C.T
abbrev Cq.HasP (C : Cq) := Q.HasP C.X.prog C.X.w C.X.K C.X.mg C.X.base C.T
abbrev Cq.HasC (C : Cq) := Q.HasC C.X.prog C.X.w C.X.K C.X.mg C.X.base C.T
section
variable {X : Cx} {CX : CXT} {k : Nat} {Cl f : Addr} {fd : FuncData} {ps : List Str} {sp : Sp} {EE : L2.St → XK} {m : Str} {ob e : Expr} {es : List Expr} {tr : TE} {ta : TA} {apos cpos p : Pos} {pl : Sem Bool}
def tMethS (Cl : Addr) (m : Str) (sp : Sp) (EE : L2.St → XK) (tr : TE) (ta : TA) : TE := fun τ G Q => tr τ G fun x G1 => ∃ z dx fs, x = .ref z ∧ G1 z = some (.ins Cl dx fs) ∧ fs.lookup m = none ∧ ta τ G1 fun vs G2 => sp (x :: vs) G2 Q (EE τ)
theorem pe_methE (hr0 : PE X ob tr) (cl : Cls X.K Cl) (me : Meth X.K Cl m f) (F : FnOk X.prog X.w X.K X.mg X.base CX k f fd ps sp) (ro : Room k X.A) (bi : Binds X.K fd ps []) (pa : ∀ τ, PassesAt CX X τ (EE τ)) (ha : PA X (e :: es) ta)
    (hst : starEach (e :: es) X.env = (false, eval e X.env) :: starEach es X.env := by rfl) (hpl : (backTo cpos (starEach es X.env)).any (·.1) = false := by rfl)
    (ht : eval (.Call (.Attribute ob m apos) (e :: es) [] cpos) X.env = (do
      let ov ← eval ob X.env
      standAt apos.atName
      let (f, first) ← holding [ov] (getMethod ov m pl)
      callWith cpos f first (backTo cpos (starEach (e :: es) X.env)) (backToKw cpos (keywordEach [] X.env))) := by rfl) : PE X (.Call (.Attribute ob m apos) (e :: es) [] cpos) (tMethS Cl m sp EE tr ta) := by
  refine ⟨fun pins s τ G Q I wish => PySem.W.methodCall_KW (pl := pl) (thn (hr0.run pins s τ G _ I wish) fun u s1 ⟨x, G1, I1, rx, z, dx, fs, ex, hz, hn, w1⟩ => ?_) ht⟩
  subst ex
  obtain rfl : u = Value.ref z := rx
  refine getmeth_ok I1 hz cl me hn (PySem.W.callWith_K (first := [.ref z]) (h₀ := X.base) I.ok.mod.kin me.kp (thn (ha.run cpos pins s1 τ G1 _ I1 w1) fun us s2 ⟨vs, G2, I2, rs, w2⟩ => ⟨I2.kIn, ?_⟩) hst hpl)
  exact run_fnS (us := .ref z :: us) (vs := .ref z :: vs) F ro bi (pa τ) I2 (.cons rfl rs) w2
theorem pe_methE0 (hr0 : PE X ob tr) (cl : Cls X.K Cl) (me : Meth X.K Cl m f) (F : FnOk X.prog X.w X.K X.mg X.base CX k f fd ps sp) (ro : Room k X.A) (bi : Binds X.K fd ps []) (pa : ∀ τ, PassesAt CX X τ (EE τ))
    (ht : eval (.Call (.Attribute ob m apos) [] [] cpos) X.env = (do
      let ov ← eval ob X.env
      standAt apos.atName
      let (f, first) ← holding [ov] (getMethod ov m pl)
      callWith cpos f first (backTo cpos (starEach [] X.env)) (backToKw cpos (keywordEach [] X.env))) := by rfl) : PE X (.Call (.Attribute ob m apos) [] [] cpos) (tMethS Cl m sp EE tr tNil) := by
  refine ⟨fun pins s τ G Q I wish => PySem.W.methodCall_KW (pl := pl) (thn (hr0.run pins s τ G _ I wish) fun u s1 ⟨x, G1, I1, rx, z, dx, fs, ex, hz, hn, w1⟩ => ?_) ht⟩
  subst ex
  obtain rfl : u = Value.ref z := rx
  exact getmeth_ok I1 hz cl me hn (PySem.W.callWith_K0 (first := [.ref z]) I1.kIn me.kp (run_fnS (us := [.ref z]) (vs := [.ref z]) F ro bi (pa τ) I1 (.cons rfl .nil) w1))
def tMakeS (Cl : Addr) (sp : Sp) (EE : L2.St → XK) (ta : TA) : TE := fun τ G Q => ta τ G fun vs G1 => ∀ z dx, G1 z = none → G1 dx = none → dx ≠ z → sp (.ref z :: vs) (upd (upd G1 dx (.own z)) z (.ins Cl dx [])) (fun v G2 => v = .non ∧ Q (.ref z) G2) (EE τ)
theorem run_makeE {pins : List (Addr × Obj)} {τ : L2.St} {G : Hp} {s : Shared} {Q : VK} {us : List Value} {vs : List V} (mk : Mk X.K Cl f) (F : FnOk X.prog X.w X.K X.mg X.base CX k f fd ps sp) (ro : Room (k + 1) X.A) (bi : Binds X.K fd ps [])
    (pa : PassesAt CX X τ (EE τ)) (I : Inv X pins τ G s) (rs : Vals vs us) (h : ∀ z dx, G z = none → G dx = none → dx ≠ z → sp (.ref z :: vs) (upd (upd G dx (.own z)) z (.ins Cl dx [])) (fun v G2 => v = .non ∧ Q (.ref z) G2) (EE τ)) :
    wpAny (model X.prog X.w) X.A (call (.ref Cl) us) (EP X pins τ Q) X.xe s := by
  have wish := h (s.heap.objs.size + 1) s.heap.objs.size (I.hok.fresh (Nat.le_succ _)) (I.hok.fresh (Nat.le_refl _)) (Nat.ne_of_lt (Nat.lt_succ_self _))
  have I2 := Inv.made (C := Cl) I
  have r2 : Vals (V.ref (s.heap.objs.size + 1) :: vs) (Value.ref (s.heap.objs.size + 1) :: us) := .cons rfl rs
  have hl : (Value.ref (s.heap.objs.size + 1) :: us).length = ps.length := by rw [← F.len _ _ _ _ wish]; exact r2.length.symm
  have b := bi _ (Value.ref (s.heap.objs.size + 1) :: us) I2.kIn (by rw [List.append_nil]; exact hl)
  rw [List.append_nil] at b
  refine wpAny_call (make_map (f := f) I.kIn mk.makes mk.init (beq_iff_eq.mp mk.fn) (codeAny_mono (F.run _ X.stack _ _ ⟨Value.ref (s.heap.objs.size + 1) :: us, []⟩ _ _ _ (EE τ) (ro.make Cl us []) (I2.env0.make Cl us []) b r2 wish) fun r s' got => ?_))
  cases r with
  | error u => exact pa pins _ _ u s' I2 got
  | ok fl =>
    cases fl with
    | ret u =>
      obtain ⟨v, G', I3, rv, ev, w3⟩ := I2.after got
      subst ev
      exact ⟨rv, ⟨V.ref (s.heap.objs.size + 1), G', I3, rfl, w3⟩⟩
    | next => exact got.elim
    | brk => exact got.elim
    | cont => exact got.elim
theorem pe_makeE {x : Str} (mk : Mk X.K Cl f) (F : FnOk X.prog X.w X.K X.mg X.base CX k f fd ps sp) (ro : Room (k + 1) X.A) (gl : Gl X x) (hm : X.mg x = some (.ref Cl)) (bi : Binds X.K fd ps []) (pa : ∀ τ, PassesAt CX X τ (EE τ))
    (ha : PA X (e :: es) ta) (nd : (x == ("__debug__" : Str)) = false := by decide) (he : starEach (e :: es) X.env = (false, eval e X.env) :: starEach es X.env := by rfl) (hpl : (backTo cpos (starEach es X.env)).any (·.1) = false := by rfl) :
    PE X (.Call (.Name x p) (e :: es) [] cpos) (tMakeS Cl sp EE ta) :=
  ⟨fun pins s τ G Q I wish => wpAny_Call_Name_kw (ld_glob I gl hm (PySem.W.callWith_K (h₀ := X.base) I.ok.mod.kin mk.kp (thn (ha.run cpos pins s τ G _ I wish) fun us s1 ⟨vs, G1, I1, rs, w1⟩ => ⟨I1.kIn, run_makeE mk F ro bi (pa τ) I1 rs w1⟩) he hpl) nd)⟩
end
section
variable {C : Cq} {e a b o value : Expr} {es : List Expr} {ρ : DEnv} {M : Mem} {P : PD} {PB : Bool → Mem → Prop} {pos p pos' apos : Pos} {E : DE}
theorem spg_in {C : Cq} {c : Con} {σ : L2.St} {H H1 : Hp} {M M1 : Mem} {ρ : DEnv} {vs : List V} {ds : List D} {P : PD} {Q : VK} (S : SI C.K C.T C.Z ρ M σ H) (w : WOk C M H) (f : Fr M H M1 H1) (hi : HI C.K C.T M1 H1) (r : RpA C.K (sub H1 M1) vs ds)
    (q : c ds M1 P fun cls fs M2 => C.R cls fs ρ M2) (k : ∀ v H' M' d, HI C.K C.T M' H' → Fr M H M' H' → Rp C.K (sub H' M') v d → P d M' → Q v H') : SpG C.K C.T c vs H1 Q (L2.WE C.W σ) :=
  ⟨ds, M1, P, _, hi, r, q, fun v H' M' d hi' f' r' p => k v H' M' d hi' (f.trans f') r' p, fun cls dx H' M' fs hi' f' x' xr => w σ H' M' ρ cls dx fs ((S.fr f hi).fr f' hi') (f.trans f') x' xr⟩
/-- o.m(..) -/
theorem qe_meth {m : Str} {Cl : Addr} {n k : Nat} {c : Con} {pl : Sem Bool} (F : C.HasM Cl m n k c) (hk : k ≤ C.k) (h : QE C o ρ M fun x M1 => ∃ fs, OAt M1 x Cl fs ∧ fs.lookup m = none ∧ QA C (e :: es) ρ M1 fun ds M2 => c (x :: ds) M2 P fun cls fs M3 => C.R cls fs ρ M3)
    (hc : C.X.calm = true := by rfl) (hst : starEach (e :: es) C.X.env = (false, eval e C.X.env) :: starEach es C.X.env := by rfl) (hpl : (backTo pos (starEach es C.X.env)).any (·.1) = false := by rfl)
    (ht : eval (.Call (.Attribute o m apos) (e :: es) [] pos) C.X.env = (do
      let ov ← eval o C.X.env
      standAt apos.atName
      let (f, first) ← holding [ov] (getMethod ov m pl)
      callWith pos f first (backTo pos (starEach (e :: es) C.X.env)) (backToKw pos (keywordEach [] C.X.env))) := by rfl) : QE C (.Call (.Attribute o m apos) (e :: es) [] pos) ρ M P := by
  obtain ⟨f, fd, ps, Fn, hn, cl, me, bi⟩ := F.ex
  refine .of (pe_methE pe_W cl me Fn ((C.room hc).mono hk) bi (fun σ => passAt C.tk σ) pa_W hst hpl ht) fun σ H S w Q kk => h σ H S w _ fun v H1 M1 x hi f1 r ⟨fs, oa, l, h1⟩ => ?_
  obtain ⟨z, dx, vs, rfl, h2, fr⟩ := oa.at hi r
  refine ⟨z, dx, vs, rfl, h2, ?_, ?_⟩
  · rcases fr.look (f := m) with ⟨_, e2⟩ | ⟨_, _, _, e2, _⟩
    · exact e2
    · rw [e2] at l; cases l
  · exact h1 σ H1 (S.fr f1 hi) (w.fr f1) _ fun us H2 M2 ds hi2 f2 rs q => spg_in S w (f1.trans f2) hi2 (.cons (r.mono f2.sb) rs) q kk
/-- o.m() -/
theorem qe_meth0 {m : Str} {Cl : Addr} {n k : Nat} {c : Con} {pl : Sem Bool} (F : C.HasM Cl m n k c) (hk : k ≤ C.k) (h : QE C o ρ M fun x M1 => ∃ fs, OAt M1 x Cl fs ∧ fs.lookup m = none ∧ c [x] M1 P fun cls fs M3 => C.R cls fs ρ M3)
    (hc : C.X.calm = true := by rfl)
    (ht : eval (.Call (.Attribute o m apos) [] [] pos) C.X.env = (do
      let ov ← eval o C.X.env
      standAt apos.atName
      let (f, first) ← holding [ov] (getMethod ov m pl)
      callWith pos f first (backTo pos (starEach [] C.X.env)) (backToKw pos (keywordEach [] C.X.env))) := by rfl) : QE C (.Call (.Attribute o m apos) [] [] pos) ρ M P := by
  obtain ⟨f, fd, ps, Fn, hn, cl, me, bi⟩ := F.ex
  refine .of (pe_methE0 pe_W cl me Fn ((C.room hc).mono hk) bi (fun σ => passAt C.tk σ) ht) fun σ H S w Q kk => h σ H S w _ fun v H1 M1 x hi f1 r ⟨fs, oa, l, h1⟩ => ?_
  obtain ⟨z, dx, vs, rfl, h2, fr⟩ := oa.at hi r
  refine ⟨z, dx, vs, rfl, h2, ?_, spg_in S w f1 hi (.cons r .nil) h1 kk⟩
  rcases fr.look (f := m) with ⟨_, e2⟩ | ⟨_, _, _, e2, _⟩
  · exact e2
  · rw [e2] at l; cases l
/-- e.m, a property -/
theorem qe_prop {m : Str} {Cl : Addr} {k : Nat} {c : Con} (F : C.HasP Cl m k c) (hk : k + 1 ≤ C.k) (h : QE C e ρ M fun x M1 => ∃ fs, OAt M1 x Cl fs ∧ c [x] M1 P fun _ _ _ => False) (hc : C.X.calm = true := by rfl)
    (hb : attributeBase e m C.X.env (eval e C.X.env) = eval e C.X.env := by rfl) : QE C (.Attribute e m pos) ρ M P := by
  obtain ⟨pA, f, fd, ps, Fn, hn, cl, pr, bi⟩ := F.ex
  refine .of (pe_prop (dvs := []) pe_W cl pr Fn ((C.room hc).mono hk) bi .nil (L2.passL (X := C.X.nox)) hb) fun σ H S w Q kk => h σ H S w _ fun v H1 M1 x hi f1 r ⟨fs, oa, h1⟩ => ?_
  obtain ⟨z, dx, vs, rfl, h2, fr⟩ := oa.at hi r
  exact ⟨z, dx, vs, rfl, h2, [x], M1, P, _, hi, .cons r .nil, h1, fun v H' M' d hi' f' r' p => kk v H' M' d hi' (f1.trans f') r' p, fun cls dx H' M' fs hi' f' x' xr => xr.elim⟩
/-- X(..) -/
theorem qe_make {x : Str} {Cl : Addr} {n k : Nat} {c : Con} (F : C.HasC Cl x n k c) (hk : k + 1 ≤ C.k) (hg : Gl C.X x)
    (h : QA C (e :: es) ρ M fun ds M1 => ∀ q, M1 q = none → c (.oth (.ref q) :: ds) (mupd M1 q (.ins Cl [])) (fun d M2 => d = .non ∧ P (.oth (.ref q)) M2) fun cls fs M2 => C.R cls fs ρ M2)
    (hc : C.X.calm = true := by rfl) (hdb : (x == ("__debug__" : Str)) = false := by decide) (he : starEach (e :: es) C.X.env = (false, eval e C.X.env) :: starEach es C.X.env := by rfl) (hpl : (backTo pos (starEach es C.X.env)).any (·.1) = false := by rfl) :
    QE C (.Call (.Name x p) (e :: es) [] pos) ρ M P := by
  obtain ⟨f, fd, ps, Fn, hn, mk, hm, bi⟩ := F.ex
  refine .of (pe_makeE mk Fn ((C.room hc).mono hk) hg hm bi (fun σ => passAt C.tk σ) pa_W hdb he hpl) fun σ H S w Q kk => h σ H S w _ fun vs H1 M1 ds hi f1 rs q z dx hz hdx ne => ?_
  have hi1 := hi.new (o := .own z) hdx
  have f2 := fr_new (o := .own z) hi hdx
  have hz1 : upd H1 dx (.own z) z = none := by rw [upd_ne (Ne.symm ne)]; exact hz
  have hi2 := hi1.newM (o := .ins Cl dx []) (m := .ins Cl []) hz1 ⟨rfl, rfl, .nil⟩
  have f3 := fr_newM (o := .ins Cl dx []) (m := .ins Cl []) hi1 hz1
  have ft := (f1.trans f2).trans f3
  exact spg_in (Q := fun v G => v = .non ∧ Q (.ref z) G) S w ft hi2 (.cons (.oth _) (rs.mono (f2.trans f3).sb)) (q z (hi.mnone hz)) fun v H' M' d hi' f' r' ⟨ed, p⟩ => by
    subst ed
    cases r'
    exact ⟨rfl, kk _ H' M' _ hi' f' (.oth _) p⟩
/-- an object that changes no more is a datum -/
theorem qe_frzO (h : QE C e ρ M fun d M' => ∃ p Cl fs, d = .oth (.ref p) ∧ M' p = some (.ins Cl fs) ∧ P (.obj Cl (fs.map (·.1)) (fs.map (·.2))) (mdel M' p)) : QE C e ρ M P := ⟨fun σ H S w Q k =>
  h σ H S w Q fun v H1 M1 d hi f r ⟨p, Cl, fs, e, hp, q⟩ => by
    subst e
    cases r
    obtain ⟨o, h1, h2⟩ := hi.mem p _ hp
    obtain ⟨dx, vs, rfl, h3, h4⟩ := h2.ins
    exact k _ H1 _ _ hi.del (f.trans fr_del) (.obj (sub_of (by unfold mdel; exact if_pos rfl) h1) h3 rfl (h4.mono sb_del)) q⟩
/-- a dict as a datum -/
theorem qe_frzD (h : QE C e ρ M fun d M' => ∃ p fs, d = .oth (.ref p) ∧ M' p = some (.dK fs) ∧ P (.dct (fs.map (·.1)) (fs.map (·.2))) (mdel M' p)) : QE C e ρ M P := ⟨fun σ H S w Q k =>
  h σ H S w Q fun v H1 M1 d hi f r ⟨p, fs, e, hp, q⟩ => by
    subst e
    cases r
    obtain ⟨o, h1, h2⟩ := hi.mem p _ hp
    obtain ⟨vs, rfl, h3, h4⟩ := h2.dK
    exact k _ H1 _ _ hi.del (f.trans fr_del) (.dct (sub_of (by unfold mdel; exact if_pos rfl) h1) h3 rfl (h4.mono sb_del)) q⟩
end
/-! ### makers -/
section
variable {P : Program} {w : World} {K : PySem.W.Frag} {mg : Str → Option Value} {base : Heap} {T : List (Addr × Str)}
/-- a def by its body, whatever its qualified name: raises nothing -/
theorem okQ {x q : Str} {st : Stmt} {f : Addr} {fd : FuncData} {N ps : List Str} {k n : Nat} {c : Con} (F : Fun K x q st f fd) (S : FnScope N ps (defScope st)) (bn : BN mg)
    (hn : ps.length = n) (len : ∀ ds M Q Xd, c ds M Q Xd → ds.length = n)
    (body : ∀ (cdv : Value) (A : Around) (outer : List Env) (s : Shared) (H : Hp) (E : XK) (hr : Room k (A.deeper (envOfC q (defScope st) s.heap.objs.size f cdv))) (ds : List D) (M : Mem) (Q : PD) (Xd : Value → List (Str × D) → Mem → Prop), c ds M Q Xd →
      QSs (cqN P w K mg base T N q (defScope st) f k S.nd bn cdv A outer s H E hr) (defBody st) (ds.map some ++ List.replicate (N.length - n) none) M { nx := fun _ M' => Q .non M', rt := Q }) : FnOk P w K mg base (L2.CX P w) (k + 1) f fd ps (SpG K T c) := by
  refine F.okX S (fun vs H Q E ⟨ds, M, Qd, Xd, hi, r, h, _⟩ => by rw [r.length, len _ _ _ _ h, hn]) fun cdv A outer s H vs Q E hr ⟨ds, M, Qd, Xd, hi, r, h, kq, kx⟩ => ?_
  refine ⟨_, pss_W.nox, ?_⟩
  have hl := len _ _ _ _ h
  exact body cdv A outer s H E hr ds M Qd Xd h (L2.start N vs) H (si_start hi r (by rw [hl])) (fun _ _ _ _ _ _ _ _ _ _ z => z.elim) _
    ⟨fun ρ' M' σ' H' S' f' q => kq .non H' M' .non S'.hi f' .non q, fun v H' M' d hi' f' r' q => kq v H' M' d hi' f' r' q, fun _ _ _ _ _ _ z => z.elim, fun _ _ _ _ _ _ z => z.elim⟩
/-- .. that may raise -/
theorem okQX {x q : Str} {st : Stmt} {f : Addr} {fd : FuncData} {N ps : List Str} {k n : Nat} {c : Con} (F : Fun K x q st f fd) (S : FnScope N ps (defScope st)) (bn : BN mg)
    (hn : ps.length = n) (len : ∀ ds M Q Xd, c ds M Q Xd → ds.length = n)
    (body : ∀ (cdv : Value) (A : Around) (outer : List Env) (s : Shared) (H : Hp) (E : XK) (hr : Room k (A.deeper (envOfC q (defScope st) s.heap.objs.size f cdv))) (ds : List D) (M : Mem) (Q : PD) (Xd : Value → List (Str × D) → Mem → Prop), c ds M Q Xd →
      QSs (cqX P w K mg base T N q (defScope st) f k S.nd bn cdv A outer s H E hr Xd) (defBody st) (ds.map some ++ List.replicate (N.length - n) none) M { nx := fun _ M' => Q .non M', rt := Q }) : FnOk P w K mg base (L2.CX P w) (k + 1) f fd ps (SpG K T c) := by
  refine F.okX S (fun vs H Q E ⟨ds, M, Qd, Xd, hi, r, h, _⟩ => by rw [r.length, len _ _ _ _ h, hn]) fun cdv A outer s H vs Q E hr ⟨ds, M, Qd, Xd, hi, r, h, kq, kx⟩ => ?_
  refine ⟨_, pss_W, ?_⟩
  have hl := len _ _ _ _ h
  exact body cdv A outer s H E hr ds M Qd Xd h (L2.start N vs) H (si_start hi r (by rw [hl])) (fun _ H' M' _ cls d fs S' f' x' z => kx cls d H' M' fs S'.hi f' x' z) _
    ⟨fun ρ' M' σ' H' S' f' q => kq .non H' M' .non S'.hi f' .non q, fun v H' M' d hi' f' r' q => kq v H' M' d hi' f' r' q, fun _ _ _ _ _ _ z => z.elim, fun _ _ _ _ _ _ z => z.elim⟩
/-- the getter of a field -/
def cGet (Cl : Addr) (f : Str) : Con := fun ds M Q _ => ∃ x fs d, ds = [x] ∧ OAt M x Cl fs ∧ fs.lookup f = some d ∧ Q d M
end
end Q
namespace Q
open PySem PySem.Spec PyProof.Rows L2 LamX
/-! ### == and != by an own __eq__, len by an own __len__ -/
def tys : List String := ["NoneType", "bool", "int", "str", "list", "tuple", "dict"]
theorem sub_plain {K : PySem.W.Frag} {C : Addr} {t : String} (h : t ∈ tys) : PySem.W.notFirst K C (.type t) = true := by
  have e : ∀ t ∈ tys, ((fastBuiltinMro t).map fun l => l.all fun v => match v with | .type _ => true | _ => false) = some true := by decide +kernel
  have := e t h
  obtain ⟨l, h1, h2⟩ := Option.map_eq_some_iff.mp this
  unfold PySem.W.notFirst
  have h3 : PySem.W.subIn K (.type t) (.ref C) = some false := by
    show (fastBuiltinMro t).map (·.contains (.ref C)) = some false
    rw [h1]
    simp only [Option.map_some, Option.some.injEq]
    rw [List.contains_eq_any_beq, List.any_eq_false]
    intro v hv
    have := List.all_eq_true.mp h2 v hv
    cases v <;> simp at this
    simp
  rw [h3]
  simp
/-- the type of the other side -/
inductive TyO (K : PySem.W.Frag) (H : Hp) : V → Value → Prop
  | base {v : V} {t : String} : TyB K H v t → t ∈ tys → TyO K H v (.type t)
  | ins {a C dx : Addr} {fs : List (Str × V)} : H a = some (.ins C dx fs) → TyO K H (.ref a) (.ref C)
section
variable {X : Cx} {pins : List (Addr × Obj)} {σ : L2.St} {H : Hp} {s : Shared}
theorem inst_of {a C dx : Addr} {fs : List (Str × V)} (I : Inv X pins σ H s) (h : H a = some (.ins C dx fs)) : ∃ od, PySem.W.InstAt s.heap a (PySem.W.instObj C dx) C (some od) := by
  obtain ⟨mA, O, _⟩ := ins_get I.hok h
  obtain ⟨od, J, _⟩ := O.look
  exact ⟨od, J⟩
theorem TyO.looks {v : V} {u t : Value} (I : Inv X pins σ H s) (r : RelV v u) (ty : TyO X.K H v t) : PySem.W.Looks (model X.prog X.w) s.heap (typeOf u) t := by
  cases ty with
  | base b _ =>
    have := b.is I r
    intro A Q E s' k q
    refine wpAny_typeOf ?_ q
    cases u with
    | ref a =>
      obtain ⟨o, h1, h2⟩ := this
      exact ⟨o, k _ _ h1, h2⟩
    | _ => exact this
  | ins h =>
    obtain rfl : u = Value.ref _ := r
    obtain ⟨od, J⟩ := inst_of I h
    exact J.type
/-- an own def is called with values -/
theorem run_own {A : Around} {n : Nat} {f : Addr} {fd : FuncData} {ps : List Str} {sp : Sp} {R : VK} {vs : List V} {us : List Value} (F : FnOk X.prog X.w X.K X.mg X.base (L2.CX X.prog X.w) n f fd ps sp) (hb : Binds X.K fd ps []) (hr : Room n A)
    (e0 : Env0 X.prog X.w X.K X.mg X.base A X.stack s H) (I : Inv X pins σ H s) (rs : Vals vs us) (h : sp vs H R E0) {xe : Value → Shared → Prop} :
    wpAny (model X.prog X.w) A (call (.ref f) us) (fun w s' => ∃ z H', Inv X pins σ H' s' ∧ RelV z w ∧ R z H') xe s := by
  have hl : us.length = ps.length := by rw [← F.len _ _ _ _ h]; exact rs.length.symm
  have b := hb s us I.kIn (by rw [List.append_nil]; exact hl)
  rw [List.append_nil] at b
  refine wpAny_call (codeAny_mono (F.run A X.stack s H ⟨us, []⟩ us vs R E0 hr e0 b rs h) fun r s' hq => ?_)
  cases r with
  | error e => exact (L2.passL (X := X.nox) pins σ H s e s' (I.wish _) hq).elim
  | ok fl =>
    cases fl with
    | ret w =>
      obtain ⟨z, H', I', rz, k⟩ := I.after hq
      exact ⟨z, H', I', rz, k⟩
    | next => exact hq.elim
    | brk => exact hq.elim
    | cont => exact hq.elim
def rOwnEq (K : PySem.W.Frag) (Cl : Addr) (sp : Sp) (neg : Bool) : R2 := fun x y H Q => ∃ a dx fs t, x = .ref a ∧ H a = some (.ins Cl dx fs) ∧ TyO K H y t ∧ PySem.W.notFirst K Cl t = true ∧ sp [x, y] H (fun z H' => ∃ b, z = .bl b ∧ Q (.bl (if neg then !b else b)) H') E0
theorem op_ownEq {n : Nat} {Cl f : Addr} {fd : FuncData} {ps : List Str} {sp : Sp} (F : FnOk X.prog X.w X.K X.mg X.base (L2.CX X.prog X.w) n f fd ps sp) (hb : Binds X.K fd ps []) (hr : Room n X.A)
    (he : PySem.W.findIn X.K (.ref Cl) "__eq__" = some (some (.ref f))) (hf : PySem.W.isFn X.K (.ref f) = true) : OpR X (compareOp .Eq) (rOwnEq X.K Cl sp false) := by
  intro pins s σ H x y u v Q I rx ry h
  obtain ⟨a, dx, fs, t, rfl, ha, ty, nf, q⟩ := h
  obtain ⟨od, J⟩ := inst_of I ha
  obtain ⟨m, fr⟩ := I.fr
  obtain rfl : u = Value.ref a := rx
  show wpAny (model X.prog X.w) X.A (richCompare .Eq (.ref a) v) (EP X pins σ Q) X.xe s
  refine PySem.W.cmp_K (op := .Eq) hr.units0 fr I.ok.mod.kin J (ty.looks I ry) nf he hf ?_
  refine wpAny_mono (run_own (us := [.ref a, v]) (vs := [.ref a, y]) F hb hr I.env0 I (.cons rfl (.cons ry .nil)) q) (fun r s' z => ?_) fun _ _ e => e
  obtain ⟨z, H', I', rz, b, ez, k⟩ := z
  subst ez
  cases rz
  exact ⟨.bl b, H', I', rfl, k⟩
theorem ne_bound {M : Model} {A : Around} {E : Value → Shared → Prop} {s : Shared} {K : PySem.W.Frag} {x C : Addr} {ox : Obj} {od : Option Obj} {args : List Value} {R : Option Value → Shared → Prop} (kin : K.In s.heap) (J : PySem.W.InstAt s.heap x ox C od)
    (at_ : PySem.W.findIn K (.ref C) "__ne__" = some (some (.builtin "object.__ne__"))) (h : wpAny M A (call (.builtin "object.__ne__") (.ref x :: args)) (fun v => R (some v)) E s) : wpAny M A (callSpecialIfBound? (.ref x) "__ne__" args) R E s := by
  have run : wpAny M A (call (.builtin "object.__ne__") ([.ref x] ++ args) >>= fun v => pure (some v)) R E s := wpAny_bind (wpAny_mono h (fun _ _ z => wpAny_pure z) fun _ _ z => z)
  simp only [callSpecialIfBound?, bindSpecialIfBound?]
  refine wpAny_holding (wpAny_bind (wpAny_bind (wpAny_bind (J.type.here ((PySem.W.looks_findIn kin at_).here (wpAny_bind (wpAny_askSetting (wpAny_ite ?_))))))))
  split
  · exact wpAny_bind (wpAny_of_eq (PySem.F.cmp_object.ne.bind _) (wpAny_pure (by exact run)))
  · exact wpAny_tryCatch (wpAny_bind (wpAny_of_eq (PySem.F.cmp_object.ne.bind _) (wpAny_pure (by exact run))))
theorem ne_entry {prog : Program} {w : World} {A : Around} {E : Value → Shared → Prop} {s : Shared} {K : PySem.W.Frag} {x C f : Addr} {ox : Obj} {od : Option Obj} {b : Value} {R : Fin → Shared → Prop} (kin : K.In s.heap) (J : PySem.W.InstAt s.heap x ox C od) (hu : A.units < cLine)
    (he : PySem.W.findIn K (.ref C) "__eq__" = some (some (.ref f))) (hf : PySem.W.isFn K (.ref f) = true) (h : wpAny (model prog w) A (call (.ref f) [.ref x, b]) (fun v s' => ∃ k, v = .bool k ∧ R (.done (.ret (.bool (!k)))) s') E s) :
    wpAny (model prog w) A (Builtin.«object.__ne__» ⟨[.ref x, b], []⟩) R E s := by
  unfold Builtin.«object.__ne__»
  repeat (first
    | with_reducible refine wpAny_cRoomFor hu ?_
    | (refine wpAny_bind (m := callSpecialIfBound? (.ref x) (Str.ofString "__eq__") [b]) (PySem.W.ifBound_K kin J he hf (wpAny_mono h (fun r s' z => by
          obtain ⟨k, rfl, q⟩ := z
          repeat (first | exact q | exact wpAny_pure q | exact wpAny_truthy_bool q | (refine wpAny_bind (m := truthy (.bool _)) (wpAny_truthy_bool ?_)) | wp_step)) fun _ _ e => e)))
    | wp_step)
theorem op_neOwn {n : Nat} {Cl f : Addr} {fd : FuncData} {ps : List Str} {sp : Sp} (F : FnOk X.prog X.w X.K X.mg X.base (L2.CX X.prog X.w) n f fd ps sp) (hb : Binds X.K fd ps []) (hr : Room (n + 1) X.A)
    (he : PySem.W.findIn X.K (.ref Cl) "__eq__" = some (some (.ref f))) (hf : PySem.W.isFn X.K (.ref f) = true) (hn : PySem.W.findIn X.K (.ref Cl) "__ne__" = some (some (.builtin "object.__ne__")))
    (hm : PySem.W.mroIn X.K Cl (.type "object") = some true) : OpR X (compareOp .NotEq) (rOwnEq X.K Cl sp true) := by
  intro pins s σ H x y u v Q I rx ry h
  obtain ⟨a, dx, fs, t, rfl, ha, ty, nf, q⟩ := h
  obtain ⟨od, J⟩ := inst_of I ha
  obtain rfl : u = Value.ref a := rx
  have tl := ty.looks I ry
  have hr' : Room n X.A.in1 := Room.in1 hr
  show wpAny (model X.prog X.w) X.A (richCompare .NotEq (.ref a) v) (EP X pins σ Q) X.xe s
  have one : wpAny (model X.prog X.w) X.A (tryCompare (.ref a) "__ne__" v) (fun r s' => ∃ k, r = some (.bool k) ∧ EP X pins σ Q (.bool k) s') X.xe s := by
    unfold tryCompare
    refine wpAny_bind (ne_bound I.kIn J hn (wpAny_call (codeAny_call_builtin PySem.F.cmp_object.ne.plain PySem.F.cmpEntry_ne (PySem.W.check_slot PySem.F.cmpKind_ne PySem.F.cmpSplit_ne (J.type.andThen (PySem.W.looks_mroIn I.kIn hm)) (PySem.F.cmpArgs_ne _ _)
      (ne_entry (A := X.A.in1) I.kIn J hr'.units0 he hf (wpAny_mono (run_own (us := [.ref a, v]) (vs := [.ref a, y]) F hb hr' I.env0.in1 I (.cons rfl (.cons ry .nil)) q) (fun r s' z => ?_) fun _ _ e => e))))))
    obtain ⟨z, H', I', rz, b, ez, k⟩ := z
    subst ez
    cases rz
    first
      | exact ⟨b, rfl, wpAny_pure ⟨!b, rfl, .bl (!b), H', I', rfl, k⟩⟩
      | exact ⟨b, rfl, wpAny_pure (wpAny_pure ⟨!b, rfl, .bl (!b), H', I', rfl, k⟩)⟩
      | exact ⟨b, rfl, ⟨!b, rfl, .bl (!b), H', I', rfl, k⟩⟩
  simp only [richCompare, cmpInfo_NotEq, oneThing_ref]
  refine wpAny_holding (wpAny_bind (wpAny_cRoomFor (Room.units0 hr) (wpAny_bind (J.type.here (wpAny_bind (tl.here ?_))))))
  split
  · rename_i c
    have e : PySem.W.subIn X.K t (.ref Cl) = some false := by
      rcases Bool.or_eq_true_iff.mp nf with e | e
      · rw [beq_iff_eq.mp e] at c; simp at c
      · exact beq_iff_eq.mp e
    refine wpAny_bind ((PySem.W.looks_subIn I.kIn e).here ?_)
    simp only [Bool.false_eq_true, if_false]
    refine wpAny_bind (wpAny_mono one (fun r s' z => ?_) fun _ _ e => e)
    obtain ⟨k, rfl, z⟩ := z
    exact wpAny_pure z
  · refine wpAny_bind (wpAny_pure ?_)
    simp only [Bool.false_eq_true, if_false]
    refine wpAny_bind (wpAny_mono one (fun r s' z => ?_) fun _ _ e => e)
    obtain ⟨k, rfl, z⟩ := z
    exact wpAny_pure z
end
/-! ### by data -/
/-- what the class at Cl is for isinstance -/
structure IsC (K : PySem.W.Frag) (Cl : Addr) : Prop where
  cls : Cls K Cl
  ca : PySem.W.findIn K (.ref Cl) "__class__" = some (some (.builtin "object.__class__"))
  cn : PySem.W.specialIn K (.builtin "object.__class__") "__get__" = some (some (.builtin "getset_descriptor.__get__"))
  ct : PySem.W.takesIn K (.builtin "object.__class__") = some true
  cm : PySem.W.mroIn K Cl (.type "object") = some true
  no : ∀ t ∈ tys, PySem.W.kitOne K (.type t) (.ref Cl) = some false
theorem IsC.self {K : PySem.W.Frag} {Cl : Addr} : PySem.W.kitOne K (.ref Cl) (.ref Cl) = some true := by
  unfold PySem.W.kitOne; simp
/-- the kind of the other side -/
inductive TyD (K : PySem.W.Frag) (M : Mem) : D → Value → Prop
  | base {d : D} {t : String} : tyD d = some t → t ∈ tys → TyD K M d (.type t)
  | lm {p : Addr} {xs : List D} : M p = some (.lst xs) → TyD K M (.oth (.ref p)) (.type "list")
  | ins {d : D} {C : Addr} {fs : List (Str × D)} : OAt M d C fs → TyD K M d (.ref C)
theorem tyb_of {K : PySem.W.Frag} {M : Mem} {H : Hp} {v : V} {d : D} {n : String} (r : Rp K (sub H M) v d) (h : tyD d = some n) : TyB K H v n := by
  cases r with
  | non => cases h; exact .non
  | bl b => cases h; exact .bl b
  | int i => cases h; exact .int i
  | str x => cases h; exact .str x
  | lst h1 h2 => cases h; exact .lst (SqL.of (sub_some h1).2)
  | frz h1 h2 => cases h
  | tup h1 h2 => cases h; exact .tup (sqT_sub h1)
  | oth v => cases h
  | exn h1 h2 h3 h4 => cases h
  | ktp h1 => cases h
  | obj h1 h2 h3 h4 => cases h
  | dct h1 h2 h3 h4 => cases h; exact .dK (sub_some h1).2
theorem TyD.o {K : PySem.W.Frag} {T : List (Addr × Str)} {M : Mem} {H : Hp} {v : V} {d : D} {t : Value} (h : TyD K M d t) (hi : HI K T M H) (r : Rp K (sub H M) v d) : TyO K H v t := by
  cases h with
  | base h1 h2 => exact .base (tyb_of r h1) h2
  | lm h =>
    cases r
    obtain ⟨o, h1, h2⟩ := hi.mem _ _ h
    obtain ⟨vs, rfl, _⟩ := h2.lst
    exact .base (.lst (SqL.of h1)) (by decide)
  | ins h =>
    obtain ⟨a, dx, vs, rfl, h1, _⟩ := h.at hi r
    exact .ins h1
theorem TyD.x {K : PySem.W.Frag} {T : List (Addr × Str)} {M : Mem} {H : Hp} {v : V} {d : D} {t : Value} (h : TyD K M d t) (hi : HI K T M H) (r : Rp K (sub H M) v d) (ic : ∀ C, t = .ref C → IsC K C) : TyX K H v t := by
  cases h with
  | base h1 h2 => exact tyx_of r h1
  | lm h =>
    cases r
    obtain ⟨o, h1, h2⟩ := hi.mem _ _ h
    obtain ⟨vs, rfl, _⟩ := h2.lst
    exact .base (.lst h1)
  | ins h =>
    obtain ⟨a, dx, vs, rfl, h1, _⟩ := h.at hi r
    have i := ic _ rfl
    exact .base (.ins h1 i.cls i.ca i.cn i.ct i.cm)
section
variable {C : Cq} {e a b : Expr} {ρ : DEnv} {M : Mem} {P : PD} {PB : Bool → Mem → Prop} {pos p : Pos}
@[irreducible] def rdOwn (Cl : Addr) (K : PySem.W.Frag) (c : Con) (neg : Bool) (x y : D) (M : Mem) (P : PD) : Prop := ∃ fs t, OAt M x Cl fs ∧ TyD K M y t ∧ PySem.W.notFirst K Cl t = true ∧ c [x, y] M (fun d M' => ∃ b, d = .bl b ∧ P (.bl (if neg then !b else b)) M') fun _ _ _ => False
theorem od_own {Cl : Addr} {c : Con} {neg : Bool} : OpD C (rOwnEq C.K Cl (SpG C.K C.T c) neg) (rdOwn Cl C.K c neg) := by
  intro v u x y M H P Q hi rx ry h k
  unfold rdOwn at h
  obtain ⟨fs, t, oa, ty, nf, q⟩ := h
  have ty' := ty.o hi ry
  obtain ⟨z, dx, vs, rfl, h1, fr⟩ := oa.at hi rx
  refine ⟨z, dx, vs, t, rfl, h1, ty', nf, [x, y], M, _, _, hi, .cons rx (.cons ry .nil), q, fun v' H' M' d hi' f' r' ⟨b, e, p⟩ => ?_, fun _ _ _ _ _ _ _ _ z => z.elim⟩
  subst e
  cases r'
  exact ⟨b, rfl, k _ H' M' _ hi' f' (.bl _) p⟩
theorem qe_eqO {Cl : Addr} {k : Nat} {c : Con} (F : C.HasM Cl "__eq__" 2 k c) (hk : k ≤ C.k) (h : QE C a ρ M fun x M1 => QE C b ρ M1 fun y M2 => rdOwn Cl C.K c false x y M2 P) (hc : C.X.calm = true := by rfl) : QE C (.Compare a [.Eq] [b] pos) ρ M P := by
  obtain ⟨f, fd, ps, Fn, hn, cl, me, bi⟩ := F.ex
  exact qe_cmp (op_ownEq Fn bi ((C.room hc).mono hk) me.at_ me.fn) od_own h (nomark _)
theorem qt_eqO {Cl : Addr} {k : Nat} {c : Con} (F : C.HasM Cl "__eq__" 2 k c) (hk : k ≤ C.k) (h : QE C a ρ M fun x M1 => QE C b ρ M1 fun y M2 => rdOwn Cl C.K c false x y M2 (isBl PB)) (hc : C.X.calm = true := by rfl) : QT C (.Compare a [.Eq] [b] pos) ρ M PB := by
  obtain ⟨f, fd, ps, Fn, hn, cl, me, bi⟩ := F.ex
  exact qt_cmp (op_ownEq Fn bi ((C.room hc).mono hk) me.at_ me.fn) od_own h (nomark _)
theorem qe_neO {Cl : Addr} {k : Nat} {c : Con} (F : C.HasM Cl "__eq__" 2 k c) (hk : k + 1 ≤ C.k) (hn : PySem.W.findIn C.K (.ref Cl) "__ne__" = some (some (.builtin "object.__ne__"))) (hm : PySem.W.mroIn C.K Cl (.type "object") = some true)
    (h : QE C a ρ M fun x M1 => QE C b ρ M1 fun y M2 => rdOwn Cl C.K c true x y M2 P) (hc : C.X.calm = true := by rfl) : QE C (.Compare a [.NotEq] [b] pos) ρ M P := by
  obtain ⟨f, fd, ps, Fn, hl, cl, me, bi⟩ := F.ex
  exact qe_cmp (op_neOwn Fn bi ((C.room hc).mono hk) me.at_ me.fn hn hm) od_own h (nomark _)
theorem qt_neO {Cl : Addr} {k : Nat} {c : Con} (F : C.HasM Cl "__eq__" 2 k c) (hk : k + 1 ≤ C.k) (hn : PySem.W.findIn C.K (.ref Cl) "__ne__" = some (some (.builtin "object.__ne__"))) (hm : PySem.W.mroIn C.K Cl (.type "object") = some true)
    (h : QE C a ρ M fun x M1 => QE C b ρ M1 fun y M2 => rdOwn Cl C.K c true x y M2 (isBl PB)) (hc : C.X.calm = true := by rfl) : QT C (.Compare a [.NotEq] [b] pos) ρ M PB := by
  obtain ⟨f, fd, ps, Fn, hl, cl, me, bi⟩ := F.ex
  exact qt_cmp (op_neOwn Fn bi ((C.room hc).mono hk) me.at_ me.fn hn hm) od_own h (nomark _)
/-- len of an own object -/
theorem call_lenOwn {X : Cx} {n : Nat} {Cl f : Addr} {fd : FuncData} {ps : List Str} {sp : Sp} (F : FnOk X.prog X.w X.K X.mg X.base (L2.CX X.prog X.w) n f fd ps sp) (hb : Binds X.K fd ps []) (hr : Room (n + 1) X.A)
    (he : PySem.W.findIn X.K (.ref Cl) "__len__" = some (some (.ref f))) (hf : PySem.W.isFn X.K (.ref f) = true) :
    CallR X (.builtin "len") (fun xs H Q => ∃ a dx fs, xs = [.ref a] ∧ H a = some (.ins Cl dx fs) ∧ sp [.ref a] H (fun z H' => ∃ n : Int, z = .int n ∧ 0 ≤ n ∧ n < 2 ^ 63 ∧ Q (.int n) H') E0) := by
  intro pins s σ H xs us Q I r h
  obtain ⟨a, dx, fs, rfl, ha, q⟩ := h
  obtain rfl := Vals.ref1 r
  obtain ⟨od, J⟩ := inst_of I ha
  obtain ⟨m, fr⟩ := I.fr
  refine PySem.W.len_K fr I.ok.mod.kin J he hf (wpAny_mono (run_own (us := [.ref a]) (vs := [.ref a]) F hb (Room.in1 hr) I.env0.in1 I (.cons rfl .nil) q) (fun w s' z => ?_) fun _ _ e => e)
  obtain ⟨z, H', I', rz, n, ez, n0, n1, k⟩ := z
  subst ez
  obtain ⟨t, rfl⟩ := rz
  exact ⟨⟨n0, n1⟩, .int n, H', I'.tok _, ⟨_, rfl⟩, k⟩
theorem qe_lenO {Cl : Addr} {k : Nat} {c : Con} (F : C.HasM Cl "__len__" 1 k c) (hk : k + 1 ≤ C.k) (h : QA C [a] ρ M fun ds M1 => ∃ x fs, ds = [x] ∧ OAt M1 x Cl fs ∧ c [x] M1 (fun d M' => ∃ n : Int, d = .int n ∧ 0 ≤ n ∧ n < 2 ^ 63 ∧ P (.int n) M') fun _ _ _ => False)
    (hc : C.X.calm = true := by rfl) (hg : Gl C.X "len" := by rfl) (he : starEach [a] C.X.env = (false, eval a C.X.env) :: starEach [] C.X.env := by rfl) : QE C (.Call (.Name "len" p) [a] [] pos) ρ M P := by
  obtain ⟨f, fd, ps, Fn, hl, cl, me, bi⟩ := F.ex
  refine qe_bi (call_lenOwn Fn bi ((C.room hc).mono hk) me.at_ me.fn) (rd := fun ds M1 P => ∃ x fs, ds = [x] ∧ OAt M1 x Cl fs ∧ c [x] M1 (fun d M' => ∃ n : Int, d = .int n ∧ 0 ≤ n ∧ n < 2 ^ 63 ∧ P (.int n) M') fun _ _ _ => False) ?_ C.bn.len PySem.boot_len hg h (he := he) (hpl := by rfl)
  intro vs ds M H P Q hi r h k
  obtain ⟨x, fs, rfl, oa, q⟩ := h
  cases r with
  | cons r r' =>
    cases r'
    obtain ⟨z, dx, us, rfl, h1, _⟩ := oa.at hi r
    refine ⟨z, dx, us, rfl, h1, [x], M, _, _, hi, .cons r .nil, q, fun v' H' M' d hi' f' r' ⟨n, e, n0, n1, p⟩ => ?_, fun _ _ _ _ _ _ _ _ z => z.elim⟩
    subst e
    cases r'
    exact ⟨n, rfl, n0, n1, k _ H' M' _ hi' f' (.int _) p⟩
/-- isinstance(x, an own class) -/
theorem qe_isC {Cl : Addr} (h : QA C [a, b] ρ M fun ds M1 => ∃ d t r, ds = [d, .oth (.ref Cl)] ∧ TyD C.K M1 d t ∧ (∀ C', t = .ref C' → IsC C.K C') ∧ PySem.W.kitOne C.K t (.ref Cl) = some r ∧ P (.bl r) M1) (hg : Gl C.X "isinstance" := by rfl)
    (he : starEach [a, b] C.X.env = (false, eval a C.X.env) :: starEach [b] C.X.env := by rfl) (hpl : (backTo pos (starEach [b] C.X.env)).any (·.1) = false := by rfl) : QE C (.Call (.Name "isinstance" p) [a, b] [] pos) ρ M P :=
  qe_bi call_isi (rd := fun ds M1 P => ∃ d t r, ds = [d, .oth (.ref Cl)] ∧ TyD C.K M1 d t ∧ (∀ C', t = .ref C' → IsC C.K C') ∧ PySem.W.kitOne C.K t (.ref Cl) = some r ∧ P (.bl r) M1) (by
    intro vs ds M H P Q hi r h k
    obtain ⟨d, t, b, rfl, h1, ic, h2, q⟩ := h
    cases r with
    | cons r r' => cases r' with
      | cons r2 r' =>
        cases r'; cases r2
        exact ⟨_, _, t, .ref Cl, b, rfl, .own Cl, h1.x hi r ic, h2, k _ H M _ hi (.refl _ _) (.bl _) q⟩) C.bn.isinstance (by decide +kernel) hg h (he := he) (hpl := hpl)
/-- the name of an own class -/
theorem qe_clsN {x : Str} {Cl : Addr} (hm : C.X.mg x = some (.ref Cl)) (hg : Gl C.X x) (q : P (.oth (.ref Cl)) M) (hd : (x == ("__debug__" : Str)) = false := by decide) : QE C (.Name x pos) ρ M P := qe_glob (v := .ref Cl) hm hg rfl (fun _ => .oth _) q hd
end
end Q
namespace PySem.ZS
open PySem PySem.Builtin.SmallTypes
abbrev sk : Str := Str.ofString "strict"
theorem tc (a b v : Value) : checkTypeCall "zip" ⟨[a, b], [(sk, v)]⟩ = pure () := by kernel_rfl
theorem nc (a b v : Value) : checkBuiltinCall "zip.__new__" ⟨[.type "zip", a, b], [(sk, v)]⟩ = pure () := by kernel_rfl
theorem oi (o a b v : Value) : argsOk "object.__init__" ⟨[o, a, b], [(sk, v)]⟩ := by
  unfold argsOk; kernel_rfl
/-- a strict zip at z over the iterators of TI -/
abbrev Zs (h : Heap) (z TI TO : Addr) (f0 : Value) : Prop := h.get? z = some { cls := .type "zip", dict := none, data := .fields #[f0, .bool false, .bool true, .ref TI, .ref TO], slots := #[] }
section
variable {prog : Program} {w : World} {A : Around} {E : Value → Shared → Prop} {s : Shared}
theorem draw_item {it l : Addr} {k : Nat} {xs : Array Value} {x : Value} {Q : Option Value → Shared → Prop} (hi : s.heap.IsListIter it l k) (hl : s.heap.IsList l xs) (hx : xs[k]? = some x)
    (q : ∀ h', h'.IsListIter it l (k + 1) → Heap.SameBut it s.heap h' → Q (some x) { s with heap := h' }) : wpAny (model prog w) A (nextOrEnd (.ref it)) Q E s := by
  unfold nextOrEnd
  exact wpAny_bind (wpAny_attempt (wpAny_nextOf_list_item hi hl hx fun h' a b => wpAny_pure (q h' a b)))
theorem draw_end {it l : Addr} {k : Nat} {xs : Array Value} {Q : Option Value → Shared → Prop} (hh : A.handled = none) (hi : s.heap.IsListIter it l k) (hl : s.heap.IsList l xs) (hx : xs[k]? = none)
    (q : ∀ h', Heap.ExtBut it s.heap h' → Q none { s with heap := h' }) : wpAny (model prog w) A (nextOrEnd (.ref it)) Q E s := by
  unfold nextOrEnd
  refine wpAny_bind (wpAny_attempt (wpAny_nextOf_list_end hh hi hl hx fun h' e k he => ?_))
  obtain ⟨o, ho, hc⟩ := he
  exact wpAny_bind (wpAny_isInstance (T := "StopIteration") (b := true) ⟨o, ho, hc⟩ isSubtype_stop (wpAny_pure (q h' k)))
theorem item {z TI TO i1 i2 l1 l2 : Addr} {k1 k2 : Nat} {xs ys : Array Value} {x y a b : Value} {Q : Value → Shared → Prop} (D : ZipApart z TI TO i1 i2 l1 l2) (Z0 : Zs s.heap z TI TO .none) (P1 : IsPair s.heap TI (.ref i1) (.ref i2)) (P2 : IsPair s.heap TO a b)
    (I1 : s.heap.IsListIter i1 l1 k1) (I2 : s.heap.IsListIter i2 l2 k2) (L1 : s.heap.IsList l1 xs) (L2 : s.heap.IsList l2 ys) (hx : xs[k1]? = some x) (hy : ys[k2]? = some y)
    (hQ : ∀ g, Zs g z TI TO (rawInt s.heap.objs.size) → IsPair g TO x y → g.IsListIter i1 l1 (k1 + 1) → g.IsListIter i2 l2 (k2 + 1) → IsPair g s.heap.objs.size x y → g.objs.size = s.heap.objs.size + 1 →
      (∀ c o, c ≠ z → c ≠ TO → c ≠ i1 → c ≠ i2 → s.heap.get? c = some o → g.get? c = some o) → Q (.ref s.heap.objs.size) { s with heap := g }) :
    wpAny (model prog w) A (Builtin.«zip.__next__» ⟨[.ref z], []⟩) (fun fin r => ∃ v, fin = .done (.ret v) ∧ Q v r) E s := by
  show wpAny _ _ (field (.ref z) 2 >>= _) _ _ _
  refine wpAny_bind (wpAny_field Z0 rfl (x := .bool true) rfl ?_)
  show wpAny _ _ (field (.ref z) 3 >>= _) _ _ _
  refine wpAny_bind (wpAny_field Z0 rfl (x := .ref TI) rfl (wpAny_bind (wpAny_seqItems P1 rfl ?_)))
  show wpAny _ _ (ownedTupleIsFree (.ref z) >>= _) _ _ _
  refine wpAny_bind ?_
  unfold ownedTupleIsFree
  refine wpAny_bind (wpAny_field Z0 rfl (x := .none) rfl (wpAny_pure ?_))
  simp only [if_true]
  refine wpAny_bind (wpAny_rule (wpAny_bind (wpAny_field Z0 rfl (x := .ref TO) rfl (wpAny_bind (wpAny_setField_rec Z0 (by simp) fun g1 Z1 S1 => ?_)))))
  replace Z1 : Zs g1 z TI TO .ellipsis := Z1
  refine wpAny_bind ?_
  simp only [List.zipIdx_cons, List.zipIdx_nil, List.forIn_cons, List.forIn_nil]
  refine wpAny_bind (wpAny_bind (wpAny_onRaise ?_))
  show wpAny _ _ (nextOrEnd (.ref i1)) _ _ _
  refine draw_item (I1.extBut S1.extBut D.i1z) (L1.extBut S1.extBut D.l1z) hx fun g2 J1 S2 => ?_
  have T2 : IsPair g2 TO a b := S2.extBut _ _ D.TOi1 (S1.extBut _ _ D.TOz P2)
  refine wpAny_bind (wpAny_seqItems T2 rfl (wpAny_bind (wpAny_updateSeq_pair T2 fun g3 T3 S3 => ?_)))
  replace T3 : IsPair g3 TO x b := T3
  refine wpAny_bind (wpAny_letGo (wpAny_pure (wpAny_bind (wpAny_bind (wpAny_onRaise ?_)))))
  show wpAny _ _ (nextOrEnd (.ref i2)) _ _ _
  refine draw_item (((I2.extBut S1.extBut D.i2z).extBut S2.extBut D.i12.symm).extBut S3.extBut D.TOi2.symm) (((L2.extBut S1.extBut D.l2z).extBut S2.extBut D.l2i1).extBut S3.extBut D.l2TO) hy fun g4 J2 S4 => ?_
  have T4 : IsPair g4 TO x b := S4.extBut _ _ D.TOi2 T3
  refine wpAny_bind (wpAny_seqItems T4 rfl (wpAny_bind (wpAny_updateSeq_pair T4 fun g5 T5 S5 => ?_)))
  replace T5 : IsPair g5 TO x y := T5
  refine wpAny_bind (wpAny_letGo (wpAny_pure (wpAny_pure (wpAny_bind (wpAny_seqItems T5 rfl (wpAny_bind (wpAny_newTuple ?_)))))))
  have n5 : g5.objs.size = s.heap.objs.size := by rw [S5.1, S4.1, S3.1, S2.1, S1.1]
  have Z5 : Zs g5 z TI TO .ellipsis := S5.extBut _ _ D.TOz.symm (S4.extBut _ _ D.i2z.symm (S3.extBut _ _ D.TOz.symm (S2.extBut _ _ D.i1z.symm Z1)))
  have K5 : ∀ c o, c ≠ z → c ≠ TO → c ≠ i1 → c ≠ i2 → s.heap.get? c = some o → g5.get? c = some o := fun c o n1 n2 n3 n4 e => S5.extBut _ _ n2 (S4.extBut _ _ n4 (S3.extBut _ _ n2 (S2.extBut _ _ n3 (S1.extBut _ _ n1 e))))
  have A1 : g5.IsListIter i1 l1 (k1 + 1) := ((J1.extBut S3.extBut D.TOi1.symm).extBut S4.extBut D.i12).extBut S5.extBut D.TOi1.symm
  have A2 : g5.IsListIter i2 l2 (k2 + 1) := J2.extBut S5.extBut D.TOi2.symm
  have zl : z < g5.objs.size := Heap.lt_size Z5
  show wpAny _ _ (ownedTupleHandOut (.ref z) (.ref g5.objs.size) >>= _) _ _ _
  refine wpAny_bind ?_
  unfold ownedTupleHandOut
  have Z6 : Zs (g5.push { cls := .type "tuple", data := .seq #[x, y] }) z TI TO .ellipsis := Heap.get?_push_of_some _ Z5
  refine wpAny_bind (wpAny_setField_rec Z6 (by simp) fun g7 Z7 S7 => ?_)
  replace Z7 : Zs g7 z TI TO (rawInt g5.objs.size) := Z7
  refine wpAny_setField_rec Z7 (by simp) fun g8 Z8 S8 => ?_
  replace Z8 : Zs g8 z TI TO (rawInt g5.objs.size) := Z8
  have up : ∀ c o, c ≠ z → g5.get? c = some o → g8.get? c = some o := fun c o n e => S8.extBut _ _ n (S7.extBut _ _ n (Heap.get?_push_of_some _ e))
  have T8 : IsPair g8 g5.objs.size x y := S8.extBut _ _ (Nat.ne_of_gt zl) (S7.extBut _ _ (Nat.ne_of_gt zl) (Heap.get?_push_size _ rfl))
  have n8 : g8.objs.size = g5.objs.size + 1 := by rw [S8.1, S7.1, Heap.size_push]
  rw [n5] at Z8 T8 n8
  refine wpAny_pure ⟨_, rfl, ?_⟩
  show Q (.ref g5.objs.size) _
  rw [n5]
  exact hQ g8 Z8 (up _ _ D.TOz T5) (A1.at fun o e => up _ o D.i1z e) (A2.at fun o e => up _ o D.i2z e) T8 n8 fun c o n1 n2 n3 n4 e => up c o n1 (K5 c o n1 n2 n3 n4 e)
theorem stop_here {Q : Fin → Shared → Prop} (hh : A.handled = none) (q : ∀ g e, (∀ c o, s.heap.get? c = some o → g.get? c = some o) → (∃ o, g.get? e = some o ∧ o.cls = .type "StopIteration") → E (.ref e) { s with heap := g }) :
    wpAny (model prog w) A (stopIteration : Sem Fin) Q E s := by
  unfold stopIteration
  refine wpAny_bind ?_
  simp only [newExc, newTuple]
  refine wpAny_bind (wpAny_newObj_type (wpAny_bind (m := firstArgMember _ _) (wpAny_of_eq (a := Value.none) (by first | rfl | (simp only [firstArgMember]; rfl)) (wpAny_newObj_type ?_ (by size_fits)))) (by size_fits))
  simp only [raiseNew]
  refine wpAny_bind (wpAny_handled ?_)
  rw [hh]
  exact wpAny_bind (wpAny_pure (wpAny_throw (q _ _ (fun c o e => Heap.get?_push_of_some _ (Heap.get?_push_of_some _ e)) ⟨_, Heap.get?_push_size _ rfl, rfl⟩)))
theorem ended {z TI TO i1 i2 l1 l2 : Addr} {k1 k2 : Nat} {xs ys : Array Value} {a b : Value} {Q : Fin → Shared → Prop} (hh : A.handled = none) (D : ZipApart z TI TO i1 i2 l1 l2) (Z0 : Zs s.heap z TI TO .none) (P1 : IsPair s.heap TI (.ref i1) (.ref i2)) (P2 : IsPair s.heap TO a b)
    (I1 : s.heap.IsListIter i1 l1 k1) (I2 : s.heap.IsListIter i2 l2 k2) (L1 : s.heap.IsList l1 xs) (L2 : s.heap.IsList l2 ys) (hx : xs[k1]? = none) (hy : ys[k2]? = none)
    (hE : ∀ g e, (∀ c o, c ≠ z → c ≠ TO → c ≠ i1 → c ≠ i2 → s.heap.get? c = some o → g.get? c = some o) → (∃ o, g.get? e = some o ∧ o.cls = .type "StopIteration") → E (.ref e) { s with heap := g }) :
    wpAny (model prog w) A (Builtin.«zip.__next__» ⟨[.ref z], []⟩) Q E s := by
  show wpAny _ _ (field (.ref z) 2 >>= _) _ _ _
  refine wpAny_bind (wpAny_field Z0 rfl (x := .bool true) rfl ?_)
  show wpAny _ _ (field (.ref z) 3 >>= _) _ _ _
  refine wpAny_bind (wpAny_field Z0 rfl (x := .ref TI) rfl (wpAny_bind (wpAny_seqItems P1 rfl ?_)))
  show wpAny _ _ (ownedTupleIsFree (.ref z) >>= _) _ _ _
  refine wpAny_bind ?_
  unfold ownedTupleIsFree
  refine wpAny_bind (wpAny_field Z0 rfl (x := .none) rfl (wpAny_pure ?_))
  simp only [if_true]
  refine wpAny_bind (wpAny_rule (wpAny_bind (wpAny_field Z0 rfl (x := .ref TO) rfl (wpAny_bind (wpAny_setField_rec Z0 (by simp) fun g1 Z1 S1 => ?_)))))
  replace Z1 : Zs g1 z TI TO .ellipsis := Z1
  refine wpAny_bind ?_
  simp only [List.zipIdx_cons, List.zipIdx_nil, List.forIn_cons, List.forIn_nil]
  refine wpAny_bind (wpAny_bind (wpAny_onRaise ?_))
  show wpAny _ _ (nextOrEnd (.ref i1)) _ _ _
  refine draw_end hh (I1.extBut S1.extBut D.i1z) (L1.extBut S1.extBut D.l1z) hx fun g2 S2 => ?_
  have Z2 : Zs g2 z TI TO .ellipsis := S2 _ _ D.i1z.symm Z1
  show wpAny _ _ (setField (.ref z) 0 .none >>= _) _ _ _
  refine wpAny_bind (wpAny_setField_rec Z2 (by simp) fun g3 Z3 S3 => wpAny_bind ?_)
  show wpAny _ _ (forIn ((([Value.ref i1, Value.ref i2] : List Value).drop 1).zipIdx 1) PUnit.unit _ >>= _) _ _ _
  refine wpAny_bind ?_
  simp only [List.drop_succ_cons, List.drop_zero, List.zipIdx_cons, List.zipIdx_nil, List.forIn_cons, List.forIn_nil]
  refine wpAny_bind (wpAny_bind (draw_end hh (((I2.extBut S1.extBut D.i2z).extBut S2 D.i12.symm).extBut S3.extBut D.i2z) (((L2.extBut S1.extBut D.l2z).extBut S2 D.l2i1).extBut S3.extBut D.l2z) hy fun g4 S4 => ?_))
  simp only [Option.isSome_none, Bool.false_eq_true, if_false]
  refine wpAny_pure (wpAny_pure ?_)
  refine wpAny_bind (wpAny_rule (stop_here hh fun g e up he => hE g e (fun c o n1 n2 n3 n4 q => up c o (S4 _ _ n4 (S3.extBut _ _ n1 (S2 _ _ n3 (S1.extBut _ _ n1 q))))) he))
theorem next_item {z TI TO i1 i2 l1 l2 : Addr} {k1 k2 : Nat} {xs ys : Array Value} {x y a b : Value} {Q : Option Value → Shared → Prop} (D : ZipApart z TI TO i1 i2 l1 l2) (Z0 : Zs s.heap z TI TO .none) (P1 : IsPair s.heap TI (.ref i1) (.ref i2)) (P2 : IsPair s.heap TO a b)
    (I1 : s.heap.IsListIter i1 l1 k1) (I2 : s.heap.IsListIter i2 l2 k2) (L1 : s.heap.IsList l1 xs) (L2 : s.heap.IsList l2 ys) (hx : xs[k1]? = some x) (hy : ys[k2]? = some y)
    (hQ : ∀ g, Zs g z TI TO (rawInt s.heap.objs.size) → IsPair g TO x y → g.IsListIter i1 l1 (k1 + 1) → g.IsListIter i2 l2 (k2 + 1) → IsPair g s.heap.objs.size x y → g.objs.size = s.heap.objs.size + 1 →
      (∀ c o, c ≠ z → c ≠ TO → c ≠ i1 → c ≠ i2 → s.heap.get? c = some o → g.get? c = some o) → Q (some (.ref s.heap.objs.size)) { s with heap := g }) : wpAny (model prog w) A (pyNext (.ref z)) Q E s := by
  have ty : s.TypeIs (.ref z) "zip" := ⟨_, Z0, rfl⟩
  unfold pyNext
  exact wpAny_bind (wpAny_attempt (wpAny_callSpecial?_slot (name := Str.ofString "__next__") ty F.slot_zip_next (wpAny_call_entry F.slot_zip_next ty F.entry_zip_next (item D Z0 P1 P2 I1 I2 L1 L2 hx hy fun g b1 b2 b3 b4 b5 b6 b7 => wpAny_pure (hQ g b1 b2 b3 b4 b5 b6 b7)) (F.args_zip_next_1 _))))
theorem next_end {z TI TO i1 i2 l1 l2 : Addr} {k1 k2 : Nat} {xs ys : Array Value} {a b : Value} {Q : Option Value → Shared → Prop} (hh : A.handled = none) (D : ZipApart z TI TO i1 i2 l1 l2) (Z0 : Zs s.heap z TI TO .none) (P1 : IsPair s.heap TI (.ref i1) (.ref i2)) (P2 : IsPair s.heap TO a b)
    (I1 : s.heap.IsListIter i1 l1 k1) (I2 : s.heap.IsListIter i2 l2 k2) (L1 : s.heap.IsList l1 xs) (L2 : s.heap.IsList l2 ys) (hx : xs[k1]? = none) (hy : ys[k2]? = none)
    (hQ : ∀ g, (∀ c o, c ≠ z → c ≠ TO → c ≠ i1 → c ≠ i2 → s.heap.get? c = some o → g.get? c = some o) → Q none { s with heap := g }) : wpAny (model prog w) A (pyNext (.ref z)) Q E s := by
  have ty : s.TypeIs (.ref z) "zip" := ⟨_, Z0, rfl⟩
  unfold pyNext
  refine wpAny_bind (wpAny_attempt (wpAny_callSpecial?_slot (name := Str.ofString "__next__") ty F.slot_zip_next (wpAny_call_entry F.slot_zip_next ty F.entry_zip_next (ended hh D Z0 P1 P2 I1 I2 L1 L2 hx hy fun g e k he => ?_) (F.args_zip_next_1 _))))
  obtain ⟨o, h1, h2⟩ := he
  exact wpAny_bind (wpAny_isInstance (T := "StopIteration") (b := true) ⟨o, h1, h2⟩ isSubtype_stop (wpAny_pure (hQ _ k)))
theorem let_go {elts : List Expr} {x1} {pos : Pos} {z TI TO T : Addr} {Q : Unit → Shared → Prop} (Z0 : Zs s.heap z TI TO (rawInt T)) (hQ : ∀ g, Zs g z TI TO .none → Heap.SameBut z s.heap g → Q () { s with heap := g }) :
    wpAny (model prog w) A (letOwnedTupleGo (.Tuple elts x1 pos) (.ref z) (.ref T)) Q E s := by
  unfold letOwnedTupleGo
  refine wpAny_bind (wpAny_load Z0 ?_)
  show wpAny _ _ (if (["enumerate", "zip", "dict_itemiterator", "dict_reverseitemiterator", "odict_iterator", "itertools.zip_longest", "itertools.pairwise"].contains "zip" && (#[rawInt T, .bool false, .bool true, .ref TI, .ref TO] : Array Value)[0]? == some (rawInt T)) = true then _ else _) Q E s
  rw [if_pos (by simp)]
  refine wpAny_bind (wpAny_rule ?_)
  show wpAny _ _ (setField (.ref z) 0 .none) Q E s
  exact wpAny_setField_rec Z0 (by simp) hQ
theorem iter {z TI TO : Addr} {f0 : Value} {Q : Value → Shared → Prop} (Z0 : Zs s.heap z TI TO f0) (h : Q (.ref z) s) : wpAny (model prog w) A (pyIter (.ref z)) Q E s := by
  have ty : s.TypeIs (.ref z) "zip" := ⟨_, Z0, rfl⟩
  refine wpAny_pyIter_slot ty F.slot_zip_iter (wpAny_call_entry F.slot_zip_iter ty F.entry_zip_iter ?_ (F.args_zip_iter_1 _))
  show wpAny _ _ (ret (.ref z)) _ _ s
  exact wpAny_pure ⟨_, rfl, "zip", _, ty, F.slot_zip_next.lookup, h⟩
end
abbrev lastH (h : Heap) (l1 l2 : Addr) : Heap := (zipH4 h l1 l2).push { cls := .type "zip", data := .fields #[.none, .bool false, .bool true, .ref (zipH2 h l1 l2).objs.size, .ref (zipH3 h l1 l2).objs.size] }
theorem made (l1 l2 : Addr) (xs ys : Array Value) : Meets (Builtin.«zip.__new__» ⟨[.type "zip", .ref l1, .ref l2], [(sk, .bool true)]⟩) (fun _ R s => s.heap.IsList l1 xs ∧ s.heap.IsList l2 ys ∧ R (.ok (.ret (.ref (zipH4 s.heap l1 l2).objs.size))) { s with heap := lastH s.heap l1 l2 }) :=
  .of_wp fun prog w A R s h => by
    obtain ⟨hp, g, d, tk, os⟩ := s
    obtain ⟨L1, L2, h⟩ := h
    have sb := sub_zip
    have e1 : (sk == ("strict" : Str)) = true := by decide +kernel
    have e2 : (sk != ("strict" : Str)) = false := by decide +kernel
    have M1 : Heap.IsList (Shared.heap ⟨hp, g, d, tk, os⟩) l1 xs := L1
    have M2 : Heap.IsList (Shared.heap ⟨hp.push { cls := .type "list_iterator", data := .fields #[.ref l1, .int 0 0] }, g, d, tk, os⟩) l2 ys := Heap.IsList.push L2 _
    wp_walk using wpAny_pyIter_list M1, wpAny_pyIter_list M2
    all_goals exact ⟨_, rfl, h⟩
end PySem.ZS
namespace PySem.ZS
open PySem PySem.Builtin.SmallTypes
section
variable {prog : Program} {w : World} {A : Around} {E : Value → Shared → Prop} {s : Shared}
theorem call_strict {l1 l2 : Addr} {xs ys : Array Value} {Q : Value → Shared → Prop} (L1 : s.heap.IsList l1 xs) (L2 : s.heap.IsList l2 ys)
    (h : ∀ g, Zs g (s.heap.objs.size + 4) (s.heap.objs.size + 2) (s.heap.objs.size + 3) .none → IsPair g (s.heap.objs.size + 2) (.ref s.heap.objs.size) (.ref (s.heap.objs.size + 1)) → IsPair g (s.heap.objs.size + 3) .none .none →
      g.IsListIter s.heap.objs.size l1 0 → g.IsListIter (s.heap.objs.size + 1) l2 0 → g.objs.size = s.heap.objs.size + 5 → (∀ c o, s.heap.get? c = some o → g.get? c = some o) → Q (.ref (s.heap.objs.size + 4)) { s with heap := g }) :
    wpAny (model prog w) A (call (.type "zip") [.ref l1, .ref l2] [(sk, .bool true)]) Q E s := by
  refine callType_newKw F.called_zip (by decide) (tc _ _ _) (nc _ _ _) (fun o => oi o _ _ _) F.entry_zip_new (made l1 l2 xs ys) ⟨L1, L2, ?_⟩
  have n1 : (zipH1 s.heap l1).objs.size = s.heap.objs.size + 1 := Heap.size_push ..
  have n2 : (zipH2 s.heap l1 l2).objs.size = s.heap.objs.size + 2 := by rw [Heap.size_push, n1]
  have n3 : (zipH3 s.heap l1 l2).objs.size = s.heap.objs.size + 3 := by rw [Heap.size_push, n2]
  have n4 : (zipH4 s.heap l1 l2).objs.size = s.heap.objs.size + 4 := by rw [Heap.size_push, n3]
  have n5 : (lastH s.heap l1 l2).objs.size = s.heap.objs.size + 5 := by rw [Heap.size_push, n4]
  have up1 : ∀ {c : Addr} {o : Obj}, (zipH4 s.heap l1 l2).get? c = some o → (lastH s.heap l1 l2).get? c = some o := fun q => Heap.get?_push_of_some _ q
  have up2 : ∀ {c : Addr} {o : Obj}, (zipH3 s.heap l1 l2).get? c = some o → (lastH s.heap l1 l2).get? c = some o := fun q => up1 (Heap.get?_push_of_some _ q)
  have up3 : ∀ {c : Addr} {o : Obj}, (zipH2 s.heap l1 l2).get? c = some o → (lastH s.heap l1 l2).get? c = some o := fun q => up2 (Heap.get?_push_of_some _ q)
  have up4 : ∀ {c : Addr} {o : Obj}, (zipH1 s.heap l1).get? c = some o → (lastH s.heap l1 l2).get? c = some o := fun q => up3 (Heap.get?_push_of_some _ q)
  have a5 : (lastH s.heap l1 l2).get? (zipH4 s.heap l1 l2).objs.size = some _ := Heap.get?_push_size _ rfl
  have a4 : (lastH s.heap l1 l2).get? (zipH3 s.heap l1 l2).objs.size = some _ := up1 (Heap.get?_push_size _ rfl)
  have a3 : (lastH s.heap l1 l2).get? (zipH2 s.heap l1 l2).objs.size = some _ := up2 (Heap.get?_push_size _ rfl)
  have a2 : (lastH s.heap l1 l2).get? (zipH1 s.heap l1).objs.size = some _ := up3 (Heap.get?_push_size _ rfl)
  have a1 : (lastH s.heap l1 l2).get? s.heap.objs.size = some _ := up4 (Heap.get?_push_size _ rfl)
  show _ ∧ _
  rw [n2, n3, n4] at a5
  rw [n1, n2] at a3
  rw [n3] at a4
  rw [n1] at a2
  rw [n4]
  exact ⟨⟨_, a5, rfl⟩, h _ a5 a3 a4 ⟨_, a1, rfl, rfl⟩ ⟨_, a2, rfl, rfl⟩ n5 fun c o q => up4 (Heap.get?_push_of_some _ q)⟩
end
end PySem.ZS
namespace Q
open PySem PySem.Spec PyProof.Rows L2 LamX
theorem callWith_tyKw {M : Model} {A : Around} {E : Value → Shared → Prop} {s : Shared} {pos : Pos} {t : String} {args : List (Bool × Sem Value)} {kws : List (Option Str × Sem Value)} {Q : Value → Shared → Prop} (h1 : args.any (·.1) = false) (h2 : kws.any (·.1.isNone) = false)
    (h : wpAny M A (evalArgs (.type t) true args kws) (fun a s1 => wpAny M A (call (.type t) ([] ++ a.pos) a.kw) Q E s1) E s) : wpAny M A (callWith pos (.type t) [] args kws) Q E s := by
  unfold callWith
  refine wpAny_bind (wpAny_holding (wpAny_mono h (fun a s1 q => wpAny_bind (wpAny_standAt ?_)) fun _ _ x => x))
  simp only [h1, h2, Bool.or_false]
  refine wpAny_bind (wpAny_pure (wpAny_bind (wpAny_mono q (fun r s2 z => wpAny_bind (wpAny_holding (wpAny_point (wpAny_pure z)))) fun _ _ x => x)))
/-- two lists walked side by side to their common end -/
def Itzs (K : PySem.W.Frag) (a b : Addr) : It :=
  ⟨fun i H => ∃ (xs ys : List V) (x y : V), SqL K H a xs ∧ SqL K H b ys ∧ xs[i]? = some x ∧ ys[i]? = some y,
    fun i H v H' => ∃ T x y, v = .ref T ∧ H T = none ∧ H' = upd H T (.tup [x, y]) ∧ (∀ xs, SqL K H a xs → xs[i]? = some x) ∧ ∀ ys, SqL K H b ys → ys[i]? = some y,
    fun i H => ∃ xs ys : List V, SqL K H a xs ∧ SqL K H b ys ∧ xs.length ≤ i ∧ ys.length ≤ i⟩
theorem turn_zipS {P : Program} {w : World} {K : PySem.W.Frag} {elts : List Expr} {kk : Nat} {tpos : Pos} {a b z TI TO i1 i2 : Addr} (D : ZipApart z TI TO i1 i2 a b) :
    Turn P w K (.Tuple elts kk tpos) (Itzs K a b) [z, TI, TO, i1, i2] z (fun i h => PySem.ZS.Zs h z TI TO .none ∧ IsPair h TI (.ref i1) (.ref i2) ∧ (∃ x y, IsPair h TO x y) ∧ h.IsListIter i1 a i ∧ h.IsListIter i2 b i) where
  mem := by simp
  obj := fun i h st c hc => by
    obtain ⟨hz, hTI, ⟨x, y, hTO⟩, ⟨o1, e1, _, d1⟩, ⟨o2, e2, _, d2⟩⟩ := st
    rcases (by simpa using hc : c = z ∨ c = TI ∨ c = TO ∨ c = i1 ∨ c = i2) with rfl | rfl | rfl | rfl | rfl
    · exact ⟨_, hz, fun v q => nomatch q⟩
    · exact ⟨_, hTI, fun v q => nomatch q⟩
    · exact ⟨_, hTO, fun v q => nomatch q⟩
    · exact ⟨o1, e1, fun v q => by rw [d1] at q; cases q⟩
    · exact ⟨o2, e2, fun v q => by rw [d2] at q; cases q⟩
  keep := fun i h h' st k => let ⟨hz, hTI, ⟨x, y, hTO⟩, h1, h2⟩ := st
    ⟨k z (by simp) _ hz, k TI (by simp) _ hTI, ⟨x, y, k TO (by simp) _ hTO⟩, h1.at fun o q => k i1 (by simp) o q, h2.at fun o q => k i2 (by simp) o q⟩
  item := by
    intro X hP hw hK hc i pins s σ H E I fp st go
    subst hP hw hK
    obtain ⟨hz, hTI, ⟨x0, y0, hTO⟩, h1, h2⟩ := st
    obtain ⟨xs, ys, x, y, qx, qy, ex, ey⟩ := go
    obtain ⟨us, ru, pu, _⟩ := I.list qx
    obtain ⟨ws, rw', pw, _⟩ := I.list qy
    obtain ⟨u, eu, ru1⟩ := ru.get ex
    obtain ⟨v, ev, rv1⟩ := rw'.get ey
    have zl : z < s.heap.objs.size := Heap.lt_size hz
    refine PySem.ZS.next_item D hz hTI hTO h1 h2 pu.isList pw.isList (x := u) (y := v) (by simpa using eu) (by simpa using ev) fun g Z1 T1 J1 J2 N1 sz kp => ⟨_, rfl, PySem.ZS.let_go (s := { s with heap := g }) Z1 fun g2 Z2 sb => ?_⟩
    have N2 : g2.get? s.heap.objs.size = some { cls := .type "tuple", data := .seq #[u, v] } := (sb.2 _ (Nat.ne_of_gt zl)).trans N1
    have nw : ObjOk X.prog X.w (upd H s.heap.objs.size (.tup [x, y])) g2 s.heap.objs.size (.tup [x, y]) := ⟨by show 2 ≤ sizeLine; decide, [u, v], .cons ru1 (.cons rv1 .nil), ⟨_, N2, rfl, _, rfl⟩⟩
    have Inw : Inv X pins σ (upd H s.heap.objs.size (.tup [x, y])) { s with heap := g2 } := I.turnedNew (t' := s.toks) (ch := [z, TI, TO, i1, i2])
      (fun c o nb q => (sb.2 c (fun e => nb (by simp [e]))).trans (kp c o (fun e => nb (by simp [e])) (fun e => nb (by simp [e])) (fun e => nb (by simp [e])) (fun e => nb (by simp [e])) q)) fp (Nat.le_refl _) nw
    refine ⟨.ref s.heap.objs.size, _, Inw, rfl, ⟨_, x, y, rfl, I.hok.fresh (Nat.le_refl _), rfl, fun l hl => by rw [I.list_inj hl qx]; exact ex, fun l hl => by rw [I.list_inj hl qy]; exact ey⟩,
      ⟨Z2, (sb.2 _ D.TIz).trans (kp _ _ D.TIz D.TITO D.TIi1 D.TIi2 hTI), ⟨u, v, (sb.2 _ D.TOz).trans T1⟩, J1.at fun o q => (sb.2 _ D.i1z).trans q, J2.at fun o q => (sb.2 _ D.i2z).trans q⟩, fun c hm => ?_⟩
    have lt : c < s.heap.objs.size := by
      rcases (by simpa using hm : c = z ∨ c = TI ∨ c = TO ∨ c = i1 ∨ c = i2) with rfl | rfl | rfl | rfl | rfl
      · exact zl
      · exact Heap.lt_size hTI
      · exact Heap.lt_size hTO
      · obtain ⟨_, e1, _⟩ := h1; exact Heap.lt_size e1
      · obtain ⟨_, e2, _⟩ := h2; exact Heap.lt_size e2
    rw [upd_ne (Nat.ne_of_lt lt)]
    exact (fp c hm).1
  done := by
    intro X hP hw hK hc i pins s σ H E I fp st go
    subst hP hw hK
    obtain ⟨hz, hTI, ⟨x0, y0, hTO⟩, h1, h2⟩ := st
    obtain ⟨xs, ys, qx, qy, e1, e2⟩ := go
    obtain ⟨us, ru, pu, _⟩ := I.list qx
    obtain ⟨ws, rw', pw, _⟩ := I.list qy
    have l1 := ru.length
    have l2 := rw'.length
    exact PySem.ZS.next_end (I.ok.hd hc) D hz hTI hTO h1 h2 pu.isList pw.isList (by simp; omega) (by simp; omega) fun g kp => ⟨rfl, I.turnedL (t' := s.toks) (ch := [z, TI, TO, i1, i2])
      (fun c o nb q => kp c o (fun e => nb (by simp [e])) (fun e => nb (by simp [e])) (fun e => nb (by simp [e])) (fun e => nb (by simp [e])) q) fp⟩
  self := fun A i s Q E st h => PySem.ZS.iter st.1 h
def iZipS (K : PySem.W.Frag) (ta : TA) : TI := fun σ H R => ta σ H fun vs H1 => ∃ a b xs ys, vs = [.ref a, .ref b] ∧ SqL K H1 a xs ∧ SqL K H1 b ys ∧ R (Itzs K a b) H1
theorem pi_zipS {X : Cx} {e e2 : Expr} {ta : TA} {p pos tpos kp cp : Pos} {elts : List Expr} {kk j : Nat} (hg : Gl X "zip") (hm : X.mg "zip" = none) (ha : PA X [e, e2] ta)
    (hs : backTo pos (starEach [e, e2] X.env) = (false, eval e X.env) :: backTo pos (starEach [e2] X.env) := by rfl) (hpl : (backTo pos (starEach [e, e2] X.env)).any (·.1) = false := by rfl) :
    PI X (.Tuple elts kk tpos) (.Call (.Name "zip" p) [e, e2] [⟨some "strict", .Constant (.bool true) j cp, kp⟩] pos) (iZipS X.K ta) := by
  refine ⟨fun pins s σ H R I h => ?_⟩
  refine wpAny_Call_Name_kw (ld_blt I hg hm PyProof.Rows.boot_zip (callWith_tyKw hpl (by rfl) ?_))
  have hr := ha.run pos pins s σ H _ I h
  rw [hs] at hr ⊢
  refine evalArgs_kwB (by rfl) (thn hr fun us s1 ⟨vs, H1, I1, r1, q1⟩ => kws_cons ?_)
  refine (pe_bl (X := X) (b := true)).run pins s1 σ H1 (fun v H2 => v = .bl true ∧ H2 = H1) I1 ⟨rfl, rfl⟩ |> fun z => wpAny_mono z (fun u s2 q2 => ?_) fun _ _ x => x
  obtain ⟨v, H2, I2, rv, rfl, rfl⟩ := q2
  cases rv
  refine kws_nil ?_
  obtain ⟨a, b, xs, ys, ex, qx, qy, q⟩ := q1
  subst ex
  cases r1 with
  | cons r rr => cases rr with
    | cons r' rr =>
      cases rr; cases r; cases r'
      obtain ⟨us, ru, pu, _⟩ := I2.list qx
      obtain ⟨ws, rw', pw, _⟩ := I2.list qy
      refine PySem.ZS.call_strict pu.isList pw.isList fun g hz hTI hTO h1 h2 sz kp => PySem.ZS.iter hz ?_
      have I3 : Inv X pins σ H2 { s2 with heap := g } := I2.kept (t' := s2.toks) kp
      refine ⟨s2.heap.objs.size + 4, [s2.heap.objs.size + 4, s2.heap.objs.size + 2, s2.heap.objs.size + 3, s2.heap.objs.size, s2.heap.objs.size + 1], _, _, H2, rfl, I3, turn_zipS (PySem.W.ktu_apart s2.heap.objs.size a b pu.lt pw.lt), ⟨hz, hTI, ⟨_, _, hTO⟩, h1, h2⟩, fun c hm => ?_, q⟩
      have le : s2.heap.objs.size ≤ c := by
        rcases (by simpa using hm : c = s2.heap.objs.size + 4 ∨ c = s2.heap.objs.size + 2 ∨ c = s2.heap.objs.size + 3 ∨ c = s2.heap.objs.size ∨ c = s2.heap.objs.size + 1) with z | z | z | z | z <;> (rw [z]; simp)
      exact I2.fpOk le (I2.hok.fresh le)
/-! ### by data -/
def zipD : List D → List D → List D
  | x :: xs, y :: ys => .tup [x, y] :: zipD xs ys
  | _, _ => []
theorem zipD_len : ∀ xs ys : List D, (zipD xs ys).length = min xs.length ys.length
  | [], _ => by simp [zipD]
  | _ :: _, [] => by simp [zipD]
  | x :: xs, y :: ys => by rw [zipD, List.length_cons, List.length_cons, List.length_cons, zipD_len xs ys]; omega
theorem zipD_get : ∀ {xs ys : List D} {i : Nat} {d : D}, (zipD xs ys)[i]? = some d → ∃ x y, xs[i]? = some x ∧ ys[i]? = some y ∧ d = .tup [x, y]
  | [], _, _, _, h => by simp [zipD] at h
  | _ :: _, [], _, _, h => by simp [zipD] at h
  | x :: xs, y :: ys, 0, d, h => by simp [zipD] at h; exact ⟨x, y, rfl, rfl, h.symm⟩
  | x :: xs, y :: ys, i + 1, d, h => by
    obtain ⟨a, b, h1, h2, h3⟩ := zipD_get (xs := xs) (ys := ys) (i := i) (by simpa [zipD] using h)
    exact ⟨a, b, by simpa using h1, by simpa using h2, h3⟩
section
variable {C : Cq} {e a b : Expr} {ρ : DEnv} {M : Mem} {pos p tpos kp cp : Pos} {elts : List Expr} {kk j : Nat}
theorem SqL.sub1 {K : PySem.W.Frag} {M : Mem} {H : Hp} {v : V} {xs : List D} {d : D} (h : d = .lst xs ∨ d = .frz xs) (r : Rp K (sub H M) v d) : ∃ l us, v = .ref l ∧ SqL K (sub H M) l us ∧ RpA K (sub H M) us xs := by
  rcases h with rfl | rfl
  · cases r with
    | lst h1 h2 => exact ⟨_, _, rfl, SqL.of h1, h2⟩
  · cases r with
    | frz h1 h2 => exact ⟨_, _, rfl, h1, h2⟩
theorem walks_zip {T : List (Addr × Str)} {l1 l2 : Addr} {us ws : List V} {xs ys : List D} {M1 : Mem} {H1 : Hp} (h1 : SqL C.K (sub H1 M1) l1 us) (h2 : SqL C.K (sub H1 M1) l2 ws) (r1 : RpA C.K (sub H1 M1) us xs) (r2 : RpA C.K (sub H1 M1) ws ys) : Walks C (Itz C.K l1 l2) M1 H1 (zipD xs ys) := by
  intro M' H' hi f
  have g1 := sqL_sub (f.sb.sqL h1)
  have g2 := sqL_sub (f.sb.sqL h2)
  have s1 := r1.mono f.sb
  have s2 := r2.mono f.sb
  refine ⟨fun i d e => ?_, fun i hl => ⟨us, ws, g1, g2, by rw [zipD_len] at hl; rw [r1.length, r2.length]; omega⟩⟩
  obtain ⟨x, y, ex, ey, rfl⟩ := zipD_get e
  obtain ⟨u, eu, ru⟩ := s1.get ex
  obtain ⟨v, ev, rv⟩ := s2.get ey
  refine ⟨⟨us, ws, u, v, g1, g2, eu, ev⟩, fun t H2 ⟨Tt, x1, y1, et, hn, eH, k1, k2⟩ => ?_⟩
  have e1 := k1 us g1
  have e2 := k2 ws g2
  rw [eu] at e1; cases e1
  rw [ev] at e2; cases e2
  subst et eH
  refine ⟨hi.new hn, fr_new hi hn, .tup (SqT.of (sub_of (hi.mnone hn) upd_same)) (.cons (ru.mono (fr_new hi hn).sb) (.cons (rv.mono (fr_new hi hn).sb) .nil))⟩
theorem walks_zipS {T : List (Addr × Str)} {l1 l2 : Addr} {us ws : List V} {xs ys : List D} {M1 : Mem} {H1 : Hp} (hl : xs.length = ys.length) (h1 : SqL C.K (sub H1 M1) l1 us) (h2 : SqL C.K (sub H1 M1) l2 ws) (r1 : RpA C.K (sub H1 M1) us xs) (r2 : RpA C.K (sub H1 M1) ws ys) : Walks C (Itzs C.K l1 l2) M1 H1 (zipD xs ys) := by
  intro M' H' hi f
  obtain ⟨w1, w2⟩ := walks_zip (T := T) h1 h2 r1 r2 M' H' hi f
  refine ⟨w1, fun i hi2 => ?_⟩
  rw [zipD_len] at hi2
  exact ⟨us, ws, sqL_sub (f.sb.sqL h1), sqL_sub (f.sb.sqL h2), by rw [r1.length]; omega, by rw [r2.length]; omega⟩
theorem qi_zip {P : List D → Mem → Prop} (h : QA C [a, b] ρ M fun ds M1 => ∃ d1 d2 xs ys, ds = [d1, d2] ∧ (d1 = .lst xs ∨ d1 = .frz xs) ∧ (d2 = .lst ys ∨ d2 = .frz ys) ∧ P (zipD xs ys) M1) (hg : Gl C.X "zip" := by rfl)
    (hs : starEach [a, b] C.X.env = (false, eval a C.X.env) :: starEach [b] C.X.env := by rfl) (hpl : (backTo pos (starEach [b] C.X.env)).any (·.1) = false := by rfl) : QI C (.Tuple elts kk tpos) (.Call (.Name "zip" p) [a, b] [] pos) ρ M P :=
  ⟨_, pi_zip hg C.bn.zip pa_W hs hpl, fun σ H S w R k => h σ H S w _ fun vs H1 M1 ds hi f r ⟨d1, d2, xs, ys, e, c1, c2, q⟩ => by
    subst e
    cases r with
    | cons r r' => cases r' with
      | cons r2 r' =>
        cases r'
        obtain ⟨l1, us, rfl, a1, b1⟩ := SqL.sub1 c1 r
        obtain ⟨l2, ws, rfl, a2, b2⟩ := SqL.sub1 c2 r2
        exact ⟨l1, l2, us, ws, rfl, sqL_sub a1, sqL_sub a2, k _ H1 M1 _ hi f (walks_zip (T := C.T) a1 a2 b1 b2) q⟩⟩
theorem qi_zipS {P : List D → Mem → Prop} (h : QA C [a, b] ρ M fun ds M1 => ∃ d1 d2 xs ys, ds = [d1, d2] ∧ (d1 = .lst xs ∨ d1 = .frz xs) ∧ (d2 = .lst ys ∨ d2 = .frz ys) ∧ xs.length = ys.length ∧ P (zipD xs ys) M1) (hg : Gl C.X "zip" := by rfl)
    (hs : backTo pos (starEach [a, b] C.X.env) = (false, eval a C.X.env) :: backTo pos (starEach [b] C.X.env) := by rfl) (hpl : (backTo pos (starEach [a, b] C.X.env)).any (·.1) = false := by rfl) :
    QI C (.Tuple elts kk tpos) (.Call (.Name "zip" p) [a, b] [⟨some "strict", .Constant (.bool true) j cp, kp⟩] pos) ρ M P :=
  ⟨_, pi_zipS hg C.bn.zip pa_W hs hpl, fun σ H S w R k => h σ H S w _ fun vs H1 M1 ds hi f r ⟨d1, d2, xs, ys, e, c1, c2, hl, q⟩ => by
    subst e
    cases r with
    | cons r r' => cases r' with
      | cons r2 r' =>
        cases r'
        obtain ⟨l1, us, rfl, a1, b1⟩ := SqL.sub1 c1 r
        obtain ⟨l2, ws, rfl, a2, b2⟩ := SqL.sub1 c2 r2
        exact ⟨l1, l2, us, ws, rfl, sqL_sub a1, sqL_sub a2, k _ H1 M1 _ hi f (walks_zipS (T := C.T) hl a1 a2 b1 b2) q⟩⟩
end
end Q
namespace Q
open PySem PySem.Spec PyProof.Rows L2 LamX
section
variable {C : Cq} {e a b o i elt tg : Expr} {es ifs : List Expr} {ρ : DEnv} {M : Mem} {P : PD} {PB : Bool → Mem → Prop} {pos p : Pos} {E : DE} {sts : List Stmt} {st : Stmt}
/-- a list of the memory that a name holds becomes a datum -/
theorem SI.frz {K : PySem.W.Frag} {T : List (Addr × Str)} {Z : Anc} {σ : L2.St} {H : Hp} {q : Addr} {xs : List D} {n : Nat} (S : SI K T Z ρ M σ H) (hn : ρ[n]? = some (some (.oth (.ref q)))) (hq : M q = some (.lst xs)) : SI K T Z (ρ.set n (some (.lst xs))) (mdel M q) σ H := by
  obtain ⟨v, h1, r⟩ := S.slot n _ hn
  cases r
  obtain ⟨o, h2, h3⟩ := S.hi.mem q _ hq
  obtain ⟨vs, rfl, h3⟩ := h3.lst
  have S1 := S.fr (fr_del (p := q)) S.hi.del
  refine ⟨by rw [List.length_set]; exact S1.len, fun j d e => ?_, S1.hi, S1.anc⟩
  by_cases z : n = j
  · subst z
    rw [List.getElem?_set_self (List.getElem?_eq_some_iff.mp hn).1] at e
    cases e
    exact ⟨_, h1, .lst (sub_of (by unfold mdel; exact if_pos rfl) h2) (h3.mono sb_del)⟩
  · rw [List.getElem?_set_ne z] at e
    exact S1.slot j d e
theorem qss_frz {q : Addr} {xs : List D} (n : Nat) (hn : ρ[n]? = some (some (.oth (.ref q)))) (hq : M q = some (.lst xs)) (h : QSs C sts (ρ.set n (some (.lst xs))) (mdel M q) E) : QSs C sts ρ M E :=
  ⟨fun σ H S w De k => h σ H (S.frz hn hq) (w.fr fr_del) De (k.fr fr_del)⟩
/-- a[i], .. among several targets -/
def WGs (X : Cx) (ts : List Expr) : TGs := fun vs σ H Q => ∀ pins s us, L2.Inv X pins σ H s → Vals vs us → wpAny (model X.prog X.w) X.A (assignInOrder ((assignEach ts X.env).map (·.2)) us) (fun _ s' => ∃ σ' H', L2.Inv X pins σ' H' s' ∧ Q σ' H') X.xe s
theorem pgs_W {X : Cx} {ts : List Expr} : PGs X ts (WGs X ts) := ⟨fun pins s σ H vs us Q I r h => h pins s us I r⟩
theorem qgs_sub {d : D} {ds : List D} {ts : List Expr} {N : DEnv → Mem → Prop} (h : QE C o ρ M fun x M1 => QE C i ρ M1 fun y M2 => ∃ q xs k j, x = .oth (.ref q) ∧ y = .int k ∧ M2 q = some (.lst xs) ∧ ixN xs.length k = some j ∧ QGs C ts ρ (mupd M2 q (.lst (xs.set j d))) ds N)
    (ha : ∀ v, assign (.Subscript o i pos) C.X.env v = (do
      let ov ← holding [v] (eval o C.X.env)
      let iv ← holding [v, ov] (eval i C.X.env)
      standAt pos
      holding [v, ov, iv] (setItem ov iv v)
      release [v, ov, iv] []) := by intro _; rfl)
    (hs : (assignEach (.Subscript o i pos :: ts) C.X.env).map (·.2) = assign (.Subscript o i pos) C.X.env :: (assignEach ts C.X.env).map (·.2) := by rfl) : QGs C (.Subscript o i pos :: ts) ρ M (d :: ds) N := by
  refine ⟨_, pgs_cons (pg_sub pe_W pe_W set_list ha) pgs_W hs, fun σ H vs S w r Q kk => ?_⟩
  cases r with
  | @cons v0 vs0 _ _ r rs =>
    refine ⟨_, _, rfl, ?_⟩
    refine h σ H S w _ fun u H1 M1 x hi1 f1 rx h1 => h1 σ H1 (S.fr f1 hi1) (w.fr f1) _ fun t H2 M2 y hi2 f2 ry ⟨q, xs, n, j, ex, ey, hp, hj, g⟩ => ?_
    subst ex ey
    cases rx; cases ry
    obtain ⟨ob, h2, h3⟩ := hi2.mem q _ hp
    obtain ⟨us, rfl, h3⟩ := h3.lst
    refine ⟨q, us, n, j, rfl, rfl, h2, by rw [ixN_rp h3]; exact hj, ?_⟩
    have f12 := f1.trans f2
    have hi3 := hi2.wr (o := .lst (us.set j v0)) (m' := .lst (xs.set j d)) hp (h3.set (r.mono f12.sb) j)
    have f3 : Fr M2 H2 (mupd M2 q (.lst (xs.set j d))) (upd H2 q (.lst (us.set j v0))) := fr_wr hp
    have ft := f12.trans f3
    intro pins s us2 I2 rv
    obtain ⟨t2, p1, p2⟩ := g.ex
    exact p1.run pins s σ _ _ us2 Q I2 rv (p2 σ _ _ (S.fr ft hi3) (w.fr ft) (rs.mono ft.sb) Q fun ρ' M' σ' H' S' f' z => kk ρ' M' σ' H' S' (ft.trans f') z)
/-- all, any of a list of truths -/
theorem rpa_bls {K : PySem.W.Frag} {H : Hp} : ∀ {vs : List V} {bs : List Bool}, RpA K H vs (bs.map D.bl) → vs = bs.map V.bl
  | _, [], .nil => rfl
  | _, b :: bs, .cons r t => by
    cases r
    rw [rpa_bls t]
    rfl
theorem qe_all (h : QA C [a] ρ M fun ds M1 => ∃ (d : D) (bs : List Bool), ds = [d] ∧ SeqR M1 d (bs.map .bl) ∧ P (.bl (bs.all id)) M1) (hc : C.X.calm = true := by rfl) (hg : Gl C.X "all" := by rfl)
    (he : starEach [a] C.X.env = (false, eval a C.X.env) :: starEach [] C.X.env := by rfl) : QE C (.Call (.Name "all" p) [a] [] pos) ρ M P :=
  qe_bi (cr_all hc) (rd := fun ds M1 P => ∃ (d : D) (bs : List Bool), ds = [d] ∧ SeqR M1 d (bs.map .bl) ∧ P (.bl (bs.all id)) M1) (by
    intro vs ds M H P Q hi r h k
    obtain ⟨d, bs, rfl, s, q⟩ := h
    cases r with
    | cons r r' =>
      cases r'
      obtain ⟨l, us, rfl, h1, h2⟩ := s.at hi r
      have := rpa_bls h2
      subst this
      exact ⟨l, bs, rfl, h1, k _ H M _ hi (.refl _ _) (.bl _) q⟩) C.bn.all (by decide +kernel) hg h (he := he) (hpl := by rfl)
theorem qe_any (h : QA C [a] ρ M fun ds M1 => ∃ (d : D) (bs : List Bool), ds = [d] ∧ SeqR M1 d (bs.map .bl) ∧ P (.bl (bs.any id)) M1) (hc : C.X.calm = true := by rfl) (hg : Gl C.X "any" := by rfl)
    (he : starEach [a] C.X.env = (false, eval a C.X.env) :: starEach [] C.X.env := by rfl) : QE C (.Call (.Name "any" p) [a] [] pos) ρ M P :=
  qe_bi (cr_any hc) (rd := fun ds M1 P => ∃ (d : D) (bs : List Bool), ds = [d] ∧ SeqR M1 d (bs.map .bl) ∧ P (.bl (bs.any id)) M1) (by
    intro vs ds M H P Q hi r h k
    obtain ⟨d, bs, rfl, s, q⟩ := h
    cases r with
    | cons r r' =>
      cases r'
      obtain ⟨l, us, rfl, h1, h2⟩ := s.at hi r
      have := rpa_bls h2
      subst this
      exact ⟨l, bs, rfl, h1, k _ H M _ hi (.refl _ _) (.bl _) q⟩) C.bn.any (by decide +kernel) hg h (he := he) (hpl := by rfl)
end
end Q
namespace Q
open PySem PySem.Spec PyProof.Rows L2 LamX
section
variable {C : Cq} {e a b o i elt tg : Expr} {es ifs : List Expr} {ρ : DEnv} {M : Mem} {P : PD} {PB : Bool → Mem → Prop} {pos p : Pos} {E : DE}
theorem qe_compJ2 {scope : Scope} (own : List (Str × Nat)) (j : Addr) (R : Int → Int → Prop) (h : QI C tg a ρ M fun xs M1 => ∃ ns : List Int, xs = ns.map .int ∧ JarAt M1 j ∧ ns.length < sizeLine ∧
      (∀ (x : Int) (M2 : Mem), x ∈ ns → JarAt M2 j → ∀ s H cc cl fp, QGw (C.blk s H scope cc cl fp) (own.map (·.2)) tg (wipeD ρ (own.map (·.2))) M2 (.int x) fun ρ2 M2' => ∀ s H cc cl fp, QTs (C.blk s H scope cc cl fp) ifs ρ2 M2' fun b M3 =>
        b = true ∧ ∀ s H cc cl fp, QE (C.blk s H scope cc cl fp) elt ρ2 M3 fun d M4 => ∃ n, d = .int n ∧ R x n ∧ JM j M2 M4) ∧
      (∀ (ms : List Int) M2, JM j M1 M2 → A2 R ns ms → P (.lst (ms.map .int)) M2))
    (ok : BlkOk C.X.N C.X.env.scope scope own) (hc : C.X.calm = true := by rfl) (hs : ∀ x, foldedSetIterable a C.X.env x = pure x := by intro _; rfl) : QE C (.ListComp elt [⟨tg, a, ifs, 0⟩] scope pos) ρ M P := by
  refine qe_frz (qe_comp own ?_ ok hc hs)
  obtain ⟨wi, pi, q⟩ := h.ex
  refine ⟨wi, pi, fun σ H S w R' k => q σ H S w R' fun J H1 M1 xs hi' fr wk ⟨ns, e, hj, hl, st, hp⟩ => k J H1 M1 xs hi' fr wk ?_⟩
  subst e
  refine compJ2 hj R hl st fun ms L M2 jm hM hall => ⟨L, _, rfl, mupd_same, ?_⟩
  rw [mdel_upd hM]
  exact hp ms M2 jm hall
end
theorem A2.un_map {R : Int → Int → Prop} {f : Int → Int} (h : ∀ a b, R a b → f a ≤ b) : ∀ {l m : List Int}, A2 R l m → Un (l.map f) m
  | _, _, .nil => .nil
  | _, _, .cons r t => .cons (h _ _ r) (t.un_map h)
theorem un_of : ∀ {a b : List Int}, a.length = b.length → (∀ (i : Nat) (x y : Int), a[i]? = some x → b[i]? = some y → x ≤ y) → Un a b
  | [], [], _, _ => .nil
  | [], _ :: _, h, _ => by simp at h
  | _ :: _, [], h, _ => by simp at h
  | x :: a, y :: b, h, f => .cons (f 0 x y rfl rfl) (un_of (by simpa using h) fun i u v h1 h2 => f (i + 1) u v (by simpa using h1) (by simpa using h2))
theorem un_drop0 {l : List Int} (u : Up l) (k : Nat) : Un (cutA l k l.length) l := by
  have e : l.length - (l.length - k) ≤ l.length := by omega
  refine un_of (cutA_len (by omega)) fun i x y h1 h2 => ?_
  have hy : y ∈ l := List.mem_of_getElem? h2
  unfold cutA at h1
  by_cases c : i < l.length - (l.length - k)
  · rw [List.getElem?_append_left (by simpa using c), List.getElem?_replicate, if_pos c] at h1
    cases h1
    exact u.nn y hy
  · rw [List.getElem?_append_right (by simpa using c), List.length_replicate, List.getElem?_take] at h1
    split at h1
    · rename_i c2
      obtain ⟨i1, e1⟩ := List.getElem?_eq_some_iff.mp h1
      obtain ⟨i2, e2⟩ := List.getElem?_eq_some_iff.mp h2
      by_cases c3 : i - (l.length - (l.length - k)) = i
      · simp only [c3] at e1
        omega
      · have := List.pairwise_iff_getElem.mp u.so _ _ i1 i2 (by omega)
        omega
    · cases h1
theorem srt_rk (l : List Int) : srt (rk l) = srt l := srt_of_perm (((List.reverse_perm _).trans (srt_perm l)))
theorem srt_em {l : List Int} (h : ∀ x ∈ l, 0 ≤ x) (m : Nat) : srt (em l m) = cutA (srt l) m l.length := by
  have u := (Up.srt h).cut m l.length
  have e : em l m = (cutA (srt l) m l.length).reverse := by
    rw [em, rk, cutA, List.reverse_append, List.reverse_replicate, Int.toNat_natCast, List.drop_reverse, srt_len]
    congr 2
    omega
  rw [e, srt_rev u.so]
end Q
namespace Q
theorem A2.nn {R : Int → Int → Prop} {T S : Int → Prop} : ∀ {l m : List Int}, A2 R l m → (∀ a ∈ l, T a) → (∀ a b, R a b → T a → S b) → ∀ x ∈ m, S x
  | _, _, .nil, _, _, x, hx => by simp at hx
  | _, _, .cons r t, h, f, x, hx => by
    rcases List.mem_cons.mp hx with rfl | hx
    · exact f _ _ r (h _ List.mem_cons_self)
    · exact A2.nn t (fun a ha => h a (List.mem_cons_of_mem _ ha)) f x hx
end Q
namespace Q
open PySem PySem.Spec PyProof.Rows L2 LamX
/-! ### in over data -/
def rInP (K : PySem.W.Frag) (neg : Bool) : R2 := fun x y H Q => ∃ xs d, (Dp K H y (.list xs) ∨ Dp K H y (.tuple xs)) ∧ Dp K H x d ∧ SeqAt.shaped (.list xs) = true ∧ SeqAt.shaped d = true ∧ Q (.bl (if neg then !(xs.any fun y => PyData.eqv y d) else xs.any fun y => PyData.eqv y d)) H
theorem shaped_of {xs : List PyData} (h : SeqAt.shaped (.list xs) = true) : PyData.canLayAll0 xs = true ∧ PyData.depthAll xs ≤ 63 := by
  unfold SeqAt.shaped at h
  rw [Bool.and_eq_true, decide_eq_true_eq] at h
  obtain ⟨h1, h2⟩ := h
  rw [PyData.canLay0] at h1
  rw [PyData.depth] at h2
  exact ⟨h1, by omega⟩
section
variable {X : Cx}
theorem op_inP (hu : X.A.units + 64 < cLine) : OpR X (compareOp .In) (rInP X.K false) := by
  intro pins s σ H x y v u Q I rx ry h
  obtain ⟨xs, d, hy, hx, s1, s2, q⟩ := h
  obtain ⟨c1, c2⟩ := shaped_of s1
  have c3 : d.canLay0 = true := by unfold SeqAt.shaped at s2; rw [Bool.and_eq_true] at s2; exact s2.1
  obtain ⟨as, r1⟩ := Dp.reads I d x v hx rx
  have hm := Nat.min_le_left (PyData.depthAll xs) d.depth
  rcases hy with hy | hy
  · obtain ⟨bs, r2⟩ := Dp.reads I _ y u hy ry
    exact SeqAt.in_list_reads r2 r1 c1 c3 (by omega) ⟨.bl _, H, I, rfl, q⟩
  · obtain ⟨bs, r2⟩ := Dp.reads I _ y u hy ry
    exact SeqAt.in_tuple_reads r2 r1 c1 c3 (by omega) ⟨.bl _, H, I, rfl, q⟩
theorem op_notInP (hu : X.A.units + 64 < cLine) : OpR X (compareOp .NotIn) (rInP X.K true) := by
  intro pins s σ H x y v u Q I rx ry h
  obtain ⟨xs, d, hy, hx, s1, s2, q⟩ := h
  obtain ⟨c1, c2⟩ := shaped_of s1
  have c3 : d.canLay0 = true := by unfold SeqAt.shaped at s2; rw [Bool.and_eq_true] at s2; exact s2.1
  obtain ⟨as, r1⟩ := Dp.reads I d x v hx rx
  have hm := Nat.min_le_left (PyData.depthAll xs) d.depth
  rcases hy with hy | hy
  · obtain ⟨bs, r2⟩ := Dp.reads I _ y u hy ry
    exact SeqAt.notIn_list_reads r2 r1 c1 c3 (by omega) ⟨.bl _, H, I, rfl, q⟩
  · obtain ⟨bs, r2⟩ := Dp.reads I _ y u hy ry
    exact SeqAt.notIn_tuple_reads r2 r1 c1 c3 (by omega) ⟨.bl _, H, I, rfl, q⟩
end
section
variable {C : Cq} {e a b : Expr} {ρ : DEnv} {M : Mem} {P : PD} {PB : Bool → Mem → Prop} {pos p : Pos}
@[irreducible] def rdInP (neg : Bool) (x y : D) (M : Mem) (P : PD) : Prop := ∃ xs d, (toPy y = some (.list xs) ∨ toPy y = some (.tuple xs)) ∧ toPy x = some d ∧ SeqAt.shaped (.list xs) = true ∧ SeqAt.shaped d = true ∧ P (.bl (if neg then !(xs.any fun y => PyData.eqv y d) else xs.any fun y => PyData.eqv y d)) M
theorem od_inP {neg : Bool} : OpD C (rInP C.K neg) (rdInP neg) := by
  intro v u x y M H P Q hi rx ry h k
  unfold rdInP at h
  obtain ⟨xs, d, hy, hx, s1, s2, p⟩ := h
  exact ⟨xs, d, hy.imp (dp_of ry) (dp_of ry), dp_of rx hx, s1, s2, k _ H M _ hi (.refl _ _) (.bl _) p⟩
theorem qe_inP (h : QE C a ρ M fun x M1 => QE C b ρ M1 fun y M2 => rdInP false x y M2 P) (hc : C.X.calm = true := by rfl) (hm : behindInMarks .In b = false := by rfl) : QE C (.Compare a [.In] [b] pos) ρ M P := qe_cmp (op_inP (C.un hc)) od_inP h hm
theorem qe_notinP (h : QE C a ρ M fun x M1 => QE C b ρ M1 fun y M2 => rdInP true x y M2 P) (hc : C.X.calm = true := by rfl) (hm : behindInMarks .NotIn b = false := by rfl) : QE C (.Compare a [.NotIn] [b] pos) ρ M P := qe_cmp (op_notInP (C.un hc)) od_inP h hm
theorem qt_inP (h : QE C a ρ M fun x M1 => QE C b ρ M1 fun y M2 => rdInP false x y M2 (isBl PB)) (hc : C.X.calm = true := by rfl) (hm : behindInMarks .In b = false := by rfl) : QT C (.Compare a [.In] [b] pos) ρ M PB := qt_cmp (op_inP (C.un hc)) od_inP h hm
theorem qt_notinP (h : QE C a ρ M fun x M1 => QE C b ρ M1 fun y M2 => rdInP true x y M2 (isBl PB)) (hc : C.X.calm = true := by rfl) (hm : behindInMarks .NotIn b = false := by rfl) : QT C (.Compare a [.NotIn] [b] pos) ρ M PB := qt_cmp (op_notInP (C.un hc)) od_inP h hm
end
/-! ### data that are equal to themselves -/
def Eqs (n : Nat) (d : D) : Prop := ∃ c, toPy d = some c ∧ c.canLay0 = true ∧ c.depth ≤ n ∧ PyData.eqv c c = true
theorem Eqs.non {n : Nat} : Eqs n .non := ⟨.none, rfl, by rw [PyData.canLay0], by rw [PyData.depth]; omega, by rw [PyData.eqv]⟩
theorem Eqs.bl {n : Nat} {b : Bool} : Eqs n (.bl b) := ⟨.bool b, rfl, by rw [PyData.canLay0], by rw [PyData.depth]; omega, by rw [PyData.eqv]; simp⟩
theorem Eqs.int {n : Nat} {i : Int} : Eqs n (.int i) := ⟨.int i, rfl, by rw [PyData.canLay0], by rw [PyData.depth]; omega, by rw [PyData.eqv]; simp⟩
theorem Eqs.str {n : Nat} {x : Str} (h : PyData.strOk x = true) : Eqs n (.str x) := ⟨.str x, rfl, by rw [PyData.canLay0]; exact h, by rw [PyData.depth]; omega, by rw [PyData.eqv]; simp⟩
theorem Eqs.all {n : Nat} : ∀ {xs : List D}, (∀ x ∈ xs, Eqs n x) → ∃ cs, toPys xs = some cs ∧ PyData.canLayAll0 cs = true ∧ PyData.depthAll cs ≤ n ∧ PyData.eqvAll cs cs = true
  | [], _ => ⟨[], rfl, by rw [PyData.canLayAll0], by rw [PyData.depthAll]; omega, by rw [PyData.eqvAll]⟩
  | x :: xs, h => by
    obtain ⟨c, h1, h2, h3, h4⟩ := h x List.mem_cons_self
    obtain ⟨cs, g1, g2, g3, g4⟩ := Eqs.all (xs := xs) fun y hy => h y (List.mem_cons_of_mem _ hy)
    refine ⟨c :: cs, by rw [toPys, h1, g1], by rw [PyData.canLayAll0, h2, g2]; rfl, by rw [PyData.depthAll]; omega, by rw [PyData.eqvAll, h4, g4]; rfl⟩
theorem Eqs.lst {n : Nat} {xs : List D} (h : ∀ x ∈ xs, Eqs n x) : Eqs (n + 1) (.lst xs) := by
  obtain ⟨cs, g1, g2, g3, g4⟩ := Eqs.all h
  exact ⟨.list cs, by rw [toPy, g1]; rfl, by rw [PyData.canLay0]; exact g2, by rw [PyData.depth]; omega, by rw [PyData.eqv]; exact g4⟩
theorem Eqs.tup {n : Nat} {xs : List D} (h : ∀ x ∈ xs, Eqs n x) : Eqs (n + 1) (.tup xs) := by
  obtain ⟨cs, g1, g2, g3, g4⟩ := Eqs.all h
  exact ⟨.tuple cs, by rw [toPy, g1]; rfl, by rw [PyData.canLay0]; exact g2, by rw [PyData.depth]; omega, by rw [PyData.eqv]; exact g4⟩
theorem shaped_eqs {n : Nat} {c : PyData} (h1 : c.canLay0 = true) (h2 : c.depth ≤ n) (hn : n ≤ 64) : SeqAt.shaped c = true := by
  unfold SeqAt.shaped
  rw [h1, Bool.true_and, decide_eq_true_eq]
  omega
theorem eq_self_l {n : Nat} {xs : List D} {M : Mem} {P : PD} (h : Eqs n (.lst xs)) (hn : n ≤ 64) (p : P (.bl true) M) : rdEq (.lst xs) (.lst xs) M P := by
  obtain ⟨c, h1, h2, h3, h4⟩ := h
  exact eq_lst h1 h1 (shaped_eqs h2 h3 hn) (shaped_eqs h2 h3 hn) (by rw [h4]; exact p)
theorem eq_self_t {n : Nat} {xs : List D} {M : Mem} {P : PD} (h : Eqs n (.tup xs)) (hn : n ≤ 64) (p : P (.bl true) M) : rdEq (.tup xs) (.tup xs) M P := by
  obtain ⟨c, h1, h2, h3, h4⟩ := h
  exact eq_tup h1 h1 (shaped_eqs h2 h3 hn) (shaped_eqs h2 h3 hn) (by rw [h4]; exact p)
/-- in or not: whatever the answer -/
theorem inP_any {neg : Bool} {n : Nat} {x : D} {xs : List D} {M : Mem} {P : PD} (h1 : Eqs n x) (h2 : Eqs n (.lst xs)) (hn : n ≤ 64) (p : ∀ b, P (.bl b) M) : rdInP neg x (.lst xs) M P := by
  obtain ⟨c, g1, g2, g3, g4⟩ := h1
  obtain ⟨e, k1, k2, k3, k4⟩ := h2
  rw [toPy] at k1
  cases q : toPys xs with
  | none => rw [q] at k1; cases k1
  | some cs =>
    rw [q] at k1
    cases k1
    unfold rdInP
    exact ⟨cs, c, .inl (by rw [toPy, q]; rfl), g1, shaped_eqs k2 k3 hn, shaped_eqs g2 g3 hn, p _⟩
end Q
namespace Q
open PySem PySem.Spec PyProof.Rows L2 LamX
section
variable {C : Cq} {e a b elt tg : Expr} {es ifs : List Expr} {ρ : DEnv} {M : Mem} {P : PD} {pos p : Pos} {E : DE}
/-! ### [.. for .. if ..] with draws anywhere: what all its items keep -/
theorem compG {scope : Scope} {vs : List Nat} {M1 : Mem} {xs : List D} {j : Addr} (hj : JarAt M1 j) (G : D → Prop) (hl : xs.length < sizeLine)
    (step : ∀ (i : Nat) (x : D) (M2 : Mem), xs[i]? = some x → JarAt M2 j → ∀ s H cc cl fp, QGw (C.blk s H scope cc cl fp) vs tg (wipeD ρ vs) M2 x fun ρ2 M2' => ∀ s H cc cl fp, QTs (C.blk s H scope cc cl fp) ifs ρ2 M2' fun b M3 =>
      (b = true → ∀ s H cc cl fp, QE (C.blk s H scope cc cl fp) elt ρ2 M3 fun d M4 => G d ∧ JM j M2 M4) ∧ (b = false → JM j M2 M3))
    (fin : ∀ (ys : List D) L M2, JM j M1 M2 → M2 L = none → ys.length ≤ xs.length → (∀ y ∈ ys, G y) → P (.oth (.ref L)) (mupd M2 L (.lst ys))) : CompH C scope tg ifs elt vs ρ M1 xs P := by
  refine compR (fun i acc M2 => JM j M1 M2 ∧ acc.length ≤ i ∧ i ≤ xs.length ∧ ∀ y ∈ acc, G y) ⟨.refl hj, by simp, by omega, by simp⟩ ?_ ?_
  · rintro L i x acc M2 hx ⟨jm, hlen, hle, hall⟩ hM hM1 s H cc cl fp
    have nj := hj.ne hM1
    have hi' := (List.getElem?_eq_some_iff.mp hx).1
    refine ⟨fun σ Hz v S r Q k => (step i x (mupd M2 L (.lst acc)) hx (jm.at.upd nj) s H cc cl fp).run σ Hz v S r Q fun ρ' σ' H' S' f' e' q => k ρ' σ' H' S' f' e' ?_⟩
    intro s1 H1 cc1 cl1 fp1
    refine ⟨fun σ H S w Q k => (q s1 H1 cc1 cl1 fp1).run σ H S w Q fun b H' M' hi f ⟨h1, h2⟩ => k b H' M' hi f ⟨fun hb s2 H2 cc2 cl2 fp2 => ?_, fun hb => ?_⟩⟩
    · refine (h1 hb s2 H2 cc2 cl2 fp2).imp ?_
      rintro d M4 ⟨gd, j4⟩
      obtain ⟨M5, j5, e5, m5⟩ := j4.drop hM nj
      refine ⟨by omega, M5, e5, m5, jm.trans j5, by simp; omega, by omega, fun y hy => ?_⟩
      rcases List.mem_append.mp hy with z | z
      · exact hall y z
      · rw [List.mem_singleton.mp z]; exact gd
    · obtain ⟨M5, j5, e5, m5⟩ := (h2 hb).drop hM nj
      exact ⟨M5, e5, m5, jm.trans j5, by omega, by omega, hall⟩
  · rintro L acc M2 ⟨jm, hlen, _, hall⟩ hM
    exact fin acc L M2 jm hM hlen hall
theorem qe_compG {scope : Scope} (own : List (Str × Nat)) (j : Addr) (G : D → Prop) (h : QI C tg a ρ M fun xs M1 => JarAt M1 j ∧ xs.length < sizeLine ∧
      (∀ (i : Nat) (x : D) (M2 : Mem), xs[i]? = some x → JarAt M2 j → ∀ s H cc cl fp, QGw (C.blk s H scope cc cl fp) (own.map (·.2)) tg (wipeD ρ (own.map (·.2))) M2 x fun ρ2 M2' => ∀ s H cc cl fp, QTs (C.blk s H scope cc cl fp) ifs ρ2 M2' fun b M3 =>
        (b = true → ∀ s H cc cl fp, QE (C.blk s H scope cc cl fp) elt ρ2 M3 fun d M4 => G d ∧ JM j M2 M4) ∧ (b = false → JM j M2 M3)) ∧
      (∀ (ys : List D) M2, JM j M1 M2 → ys.length ≤ xs.length → (∀ y ∈ ys, G y) → P (.lst ys) M2))
    (ok : BlkOk C.X.N C.X.env.scope scope own) (hc : C.X.calm = true := by rfl) (hs : ∀ x, foldedSetIterable a C.X.env x = pure x := by intro _; rfl) : QE C (.ListComp elt [⟨tg, a, ifs, 0⟩] scope pos) ρ M P := by
  refine qe_frz (qe_comp own ?_ ok hc hs)
  obtain ⟨wi, pi, q⟩ := h.ex
  refine ⟨wi, pi, fun σ H S w R k => q σ H S w R fun J H1 M1 xs hi' fr wk ⟨hj, hl, st, hp⟩ => k J H1 M1 xs hi' fr wk (compG hj G hl st fun ys L M2 jm hM hlen hall => ⟨L, _, rfl, mupd_same, ?_⟩)⟩
  rw [mdel_upd hM]
  exact hp ys M2 jm hlen hall
end
end Q
namespace Law
open PySem PySem.Spec PyProof.Rows L2 LamX Q
abbrev pw : Program := PySem.Challenge.pw_fullestfirst_k70_stairs_bent_at_each_run
def top (i : Nat) : Stmt := pw.main.body.getD i (.Pass ⟨0, 0, 0, 0⟩)
abbrev s_is_integer : Stmt := top 5
abbrev n_is_integer : List Str := ["value"]
theorem sc_is_integer : FnScope n_is_integer ["value"] (defScope s_is_integer) := ⟨rfl, rfl, rfl, by decide +kernel, rfl, by decide +kernel, by decide +kernel⟩
theorem bd_is_integer {K : PySem.W.Frag} {f : Addr} {fd : FuncData} (F : Fun K "is_integer" "is_integer" s_is_integer f fd) : L2.Binds K fd ["value"] [] := F.binds fun _ _ _ _ _ _ us hl => match us, hl with | [_], _ => rfl
abbrev s_in_range : Stmt := top 6
abbrev n_in_range : List Str := ["value", "least", "most"]
theorem sc_in_range : FnScope n_in_range ["value", "least", "most"] (defScope s_in_range) := ⟨rfl, rfl, rfl, by decide +kernel, rfl, by decide +kernel, by decide +kernel⟩
theorem bd_in_range {K : PySem.W.Frag} {f : Addr} {fd : FuncData} (F : Fun K "in_range" "in_range" s_in_range f fd) : L2.Binds K fd ["value", "least", "most"] [] := F.binds fun _ _ _ _ _ _ us hl => match us, hl with | [_, _, _], _ => rfl
abbrev s_wrong_level : Stmt := top 12
abbrev n_wrong_level : List Str := ["value", "index", "level"]
theorem sc_wrong_level : FnScope n_wrong_level ["value"] (defScope s_wrong_level) := ⟨rfl, rfl, rfl, by decide +kernel, rfl, by decide +kernel, by decide +kernel⟩
theorem bd_wrong_level {K : PySem.W.Frag} {f : Addr} {fd : FuncData} (F : Fun K "wrong_level" "wrong_level" s_wrong_level f fd) : L2.Binds K fd ["value"] [] := F.binds fun _ _ _ _ _ _ us hl => match us, hl with | [_], _ => rfl
abbrev s_has_length : Stmt := top 13
abbrev n_has_length : List Str := ["value"]
theorem sc_has_length : FnScope n_has_length ["value"] (defScope s_has_length) := ⟨rfl, rfl, rfl, by decide +kernel, rfl, by decide +kernel, by decide +kernel⟩
theorem bd_has_length {K : PySem.W.Frag} {f : Addr} {fd : FuncData} (F : Fun K "has_length" "has_length" s_has_length f fd) : L2.Binds K fd ["value"] [] := F.binds fun _ _ _ _ _ _ us hl => match us, hl with | [_], _ => rfl
abbrev s_is_rate : Stmt := top 14
abbrev n_is_rate : List Str := ["value"]
theorem sc_is_rate : FnScope n_is_rate ["value"] (defScope s_is_rate) := ⟨rfl, rfl, rfl, by decide +kernel, rfl, by decide +kernel, by decide +kernel⟩
theorem bd_is_rate {K : PySem.W.Frag} {f : Addr} {fd : FuncData} (F : Fun K "is_rate" "is_rate" s_is_rate f fd) : L2.Binds K fd ["value"] [] := F.binds fun _ _ _ _ _ _ us hl => match us, hl with | [_], _ => rfl
abbrev s_check_levels : Stmt := top 15
abbrev n_check_levels : List Str := ["value", "wrong"]
theorem sc_check_levels : FnScope n_check_levels ["value"] (defScope s_check_levels) := ⟨rfl, rfl, rfl, by decide +kernel, rfl, by decide +kernel, by decide +kernel⟩
theorem bd_check_levels {K : PySem.W.Frag} {f : Addr} {fd : FuncData} (F : Fun K "check_levels" "check_levels" s_check_levels f fd) : L2.Binds K fd ["value"] [] := F.binds fun _ _ _ _ _ _ us hl => match us, hl with | [_], _ => rfl
abbrev s_check_rate : Stmt := top 16
abbrev n_check_rate : List Str := ["value"]
theorem sc_check_rate : FnScope n_check_rate ["value"] (defScope s_check_rate) := ⟨rfl, rfl, rfl, by decide +kernel, rfl, by decide +kernel, by decide +kernel⟩
theorem bd_check_rate {K : PySem.W.Frag} {f : Addr} {fd : FuncData} (F : Fun K "check_rate" "check_rate" s_check_rate f fd) : L2.Binds K fd ["value"] [] := F.binds fun _ _ _ _ _ _ us hl => match us, hl with | [_], _ => rfl
abbrev s_even_share_inner : Stmt := top 17
abbrev n_even_share_inner : List Str := ["total", "among", "many", "share", "more", "above"]
theorem sc_even_share_inner : FnScope n_even_share_inner ["total", "among", "many"] (defScope s_even_share_inner) := ⟨rfl, rfl, rfl, by decide +kernel, rfl, by decide +kernel, by decide +kernel⟩
theorem bd_even_share_inner {K : PySem.W.Frag} {f : Addr} {fd : FuncData} (F : Fun K "even_share_inner" "even_share_inner" s_even_share_inner f fd) : L2.Binds K fd ["total", "among", "many"] [] := F.binds fun _ _ _ _ _ _ us hl => match us, hl with | [_, _, _], _ => rfl
abbrev s_live : Stmt := top 19
abbrev n_live : List Str := ["many", "steps", "rounds"]
theorem sc_live : FnScope n_live ["many", "steps", "rounds"] (defScope s_live) := ⟨rfl, rfl, rfl, by decide +kernel, rfl, by decide +kernel, by decide +kernel⟩
theorem bd_live {K : PySem.W.Frag} {f : Addr} {fd : FuncData} (F : Fun K "live" "live" s_live f fd) : L2.Binds K fd ["many", "steps", "rounds"] [] := F.binds fun _ _ _ _ _ _ us hl => match us, hl with | [_, _, _], _ => rfl
abbrev s_need_of : Stmt := top 22
abbrev n_need_of : List Str := ["many", "steps", "rounds", "want"]
theorem sc_need_of : FnScope n_need_of ["many", "steps", "rounds", "want"] (defScope s_need_of) := ⟨rfl, rfl, rfl, by decide +kernel, rfl, by decide +kernel, by decide +kernel⟩
theorem bd_need_of {K : PySem.W.Frag} {f : Addr} {fd : FuncData} (F : Fun K "need_of" "need_of" s_need_of f fd) : L2.Binds K fd ["many", "steps", "rounds", "want"] [] := F.binds fun _ _ _ _ _ _ us hl => match us, hl with | [_, _, _, _], _ => rfl
abbrev s_is_rung : Stmt := top 23
abbrev n_is_rung : List Str := ["rung", "need", "most"]
theorem sc_is_rung : FnScope n_is_rung ["rung", "need", "most"] (defScope s_is_rung) := ⟨rfl, rfl, rfl, by decide +kernel, rfl, by decide +kernel, by decide +kernel⟩
theorem bd_is_rung {K : PySem.W.Frag} {f : Addr} {fd : FuncData} (F : Fun K "is_rung" "is_rung" s_is_rung f fd) : L2.Binds K fd ["rung", "need", "most"] [] := F.binds fun _ _ _ _ _ _ us hl => match us, hl with | [_, _, _], _ => rfl
abbrev s_check_length : Stmt := top 24
abbrev n_check_length : List Str := ["stair"]
theorem sc_check_length : FnScope n_check_length ["stair"] (defScope s_check_length) := ⟨rfl, rfl, rfl, by decide +kernel, rfl, by decide +kernel, by decide +kernel⟩
theorem bd_check_length {K : PySem.W.Frag} {f : Addr} {fd : FuncData} (F : Fun K "check_length" "check_length" s_check_length f fd) : L2.Binds K fd ["stair"] [] := F.binds fun _ _ _ _ _ _ us hl => match us, hl with | [_], _ => rfl
abbrev s_needs_of : Stmt := top 25
abbrev n_needs_of : List Str := ["many", "steps", "stair", "found", "want", "is_grounded", "index", "rounds", "need"]
theorem sc_needs_of : FnScope n_needs_of ["many", "steps", "stair"] (defScope s_needs_of) := ⟨rfl, rfl, rfl, by decide +kernel, rfl, by decide +kernel, by decide +kernel⟩
theorem bd_needs_of {K : PySem.W.Frag} {f : Addr} {fd : FuncData} (F : Fun K "needs_of" "needs_of" s_needs_of f fd) : L2.Binds K fd ["many", "steps", "stair"] [] := F.binds fun _ _ _ _ _ _ us hl => match us, hl with | [_, _, _], _ => rfl
abbrev s_lowest_sum : Stmt := top 26
abbrev n_lowest_sum : List Str := ["rows", "many"]
theorem sc_lowest_sum : FnScope n_lowest_sum ["rows", "many"] (defScope s_lowest_sum) := ⟨rfl, rfl, rfl, by decide +kernel, rfl, by decide +kernel, by decide +kernel⟩
theorem bd_lowest_sum {K : PySem.W.Frag} {f : Addr} {fd : FuncData} (F : Fun K "lowest_sum" "lowest_sum" s_lowest_sum f fd) : L2.Binds K fd ["rows", "many"] [] := F.binds fun _ _ _ _ _ _ us hl => match us, hl with | [_, _], _ => rfl
abbrev s_live_rows : Stmt := top 27
abbrev n_live_rows : List Str := ["levels", "steps", "rounds"]
theorem sc_live_rows : FnScope n_live_rows ["levels", "steps", "rounds"] (defScope s_live_rows) := ⟨rfl, rfl, rfl, by decide +kernel, rfl, by decide +kernel, by decide +kernel⟩
theorem bd_live_rows {K : PySem.W.Frag} {f : Addr} {fd : FuncData} (F : Fun K "live_rows" "live_rows" s_live_rows f fd) : L2.Binds K fd ["levels", "steps", "rounds"] [] := F.binds fun _ _ _ _ _ _ us hl => match us, hl with | [_, _, _], _ => rfl
abbrev s_stair_value : Stmt := top 28
abbrev n_stair_value : List Str := ["levels", "rate", "stair", "pace", "steps", "needs", "first", "total", "rung", "need"]
theorem sc_stair_value : FnScope n_stair_value ["levels", "rate", "stair"] (defScope s_stair_value) := ⟨rfl, rfl, rfl, by decide +kernel, rfl, by decide +kernel, by decide +kernel⟩
theorem bd_stair_value {K : PySem.W.Frag} {f : Addr} {fd : FuncData} (F : Fun K "stair_value" "stair_value" s_stair_value f fd) : L2.Binds K fd ["levels", "rate", "stair"] [] := F.binds fun _ _ _ _ _ _ us hl => match us, hl with | [_, _, _], _ => rfl
abbrev s_law_pool : Stmt := top 30
abbrev n_law_pool : List Str := ["script", "digits", "stirred", "at", "cell"]
theorem sc_law_pool : FnScope n_law_pool ["script"] (defScope s_law_pool) := ⟨rfl, rfl, rfl, by decide +kernel, rfl, by decide +kernel, by decide +kernel⟩
theorem bd_law_pool {K : PySem.W.Frag} {f : Addr} {fd : FuncData} (F : Fun K "_law_pool" "_law_pool" s_law_pool f fd) : L2.Binds K fd ["script"] [] := F.binds fun _ _ _ _ _ _ us hl => match us, hl with | [_], _ => rfl
abbrev s_law_take : Stmt := top 31
abbrev n_law_take : List Str := ["jar", "many", "found"]
theorem sc_law_take : FnScope n_law_take ["jar", "many"] (defScope s_law_take) := ⟨rfl, rfl, rfl, by decide +kernel, rfl, by decide +kernel, by decide +kernel⟩
theorem bd_law_take {K : PySem.W.Frag} {f : Addr} {fd : FuncData} (F : Fun K "_law_take" "_law_take" s_law_take f fd) : L2.Binds K fd ["jar", "many"] [] := F.binds fun _ _ _ _ _ _ us hl => match us, hl with | [_, _], _ => rfl
abbrev s_law_one : Stmt := top 32
abbrev n_law_one : List Str := ["jar", "things"]
theorem sc_law_one : FnScope n_law_one ["jar", "things"] (defScope s_law_one) := ⟨rfl, rfl, rfl, by decide +kernel, rfl, by decide +kernel, by decide +kernel⟩
theorem bd_law_one {K : PySem.W.Frag} {f : Addr} {fd : FuncData} (F : Fun K "_law_one" "_law_one" s_law_one f fd) : L2.Binds K fd ["jar", "things"] [] := F.binds fun _ _ _ _ _ _ us hl => match us, hl with | [_, _], _ => rfl
abbrev s_law_mixed : Stmt := top 33
abbrev n_law_mixed : List Str := ["jar", "things", "spare", "found", "go"]
theorem sc_law_mixed : FnScope n_law_mixed ["jar", "things"] (defScope s_law_mixed) := ⟨rfl, rfl, rfl, by decide +kernel, rfl, by decide +kernel, by decide +kernel⟩
theorem bd_law_mixed {K : PySem.W.Frag} {f : Addr} {fd : FuncData} (F : Fun K "_law_mixed" "_law_mixed" s_law_mixed f fd) : L2.Binds K fd ["jar", "things"] [] := F.binds fun _ _ _ _ _ _ us hl => match us, hl with | [_, _], _ => rfl
abbrev s_law_yq_is_whole : Stmt := top 34
abbrev n_law_yq_is_whole : List Str := ["thing"]
theorem sc_law_yq_is_whole : FnScope n_law_yq_is_whole ["thing"] (defScope s_law_yq_is_whole) := ⟨rfl, rfl, rfl, by decide +kernel, rfl, by decide +kernel, by decide +kernel⟩
theorem bd_law_yq_is_whole {K : PySem.W.Frag} {f : Addr} {fd : FuncData} (F : Fun K "_law_yq_is_whole" "_law_yq_is_whole" s_law_yq_is_whole f fd) : L2.Binds K fd ["thing"] [] := F.binds fun _ _ _ _ _ _ us hl => match us, hl with | [_], _ => rfl
abbrev s_law_yq_same : Stmt := top 35
abbrev n_law_yq_same : List Str := ["heard_one", "owed", "at"]
theorem sc_law_yq_same : FnScope n_law_yq_same ["heard_one", "owed"] (defScope s_law_yq_same) := ⟨rfl, rfl, rfl, by decide +kernel, rfl, by decide +kernel, by decide +kernel⟩
theorem bd_law_yq_same {K : PySem.W.Frag} {f : Addr} {fd : FuncData} (F : Fun K "_law_yq_same" "_law_yq_same" s_law_yq_same f fd) : L2.Binds K fd ["heard_one", "owed"] [] := F.binds fun _ _ _ _ _ _ us hl => match us, hl with | [_, _], _ => rfl
abbrev s_law_fv_is_whole : Stmt := top 36
abbrev n_law_fv_is_whole : List Str := ["thing", "low", "high"]
theorem sc_law_fv_is_whole : FnScope n_law_fv_is_whole ["thing", "low", "high"] (defScope s_law_fv_is_whole) := ⟨rfl, rfl, rfl, by decide +kernel, rfl, by decide +kernel, by decide +kernel⟩
theorem bd_law_fv_is_whole {K : PySem.W.Frag} {f : Addr} {fd : FuncData} (F : Fun K "_law_fv_is_whole" "_law_fv_is_whole" s_law_fv_is_whole f fd) : L2.Binds K fd ["thing", "low", "high"] [] := F.binds fun _ _ _ _ _ _ us hl => match us, hl with | [_, _, _], _ => rfl
abbrev s_law_fv_ranked : Stmt := top 37
abbrev n_law_fv_ranked : List Str := ["levels", "x"]
theorem sc_law_fv_ranked : FnScope n_law_fv_ranked ["levels"] (defScope s_law_fv_ranked) := ⟨rfl, rfl, rfl, by decide +kernel, rfl, by decide +kernel, by decide +kernel⟩
theorem bd_law_fv_ranked {K : PySem.W.Frag} {f : Addr} {fd : FuncData} (F : Fun K "_law_fv_ranked" "_law_fv_ranked" s_law_fv_ranked f fd) : L2.Binds K fd ["levels"] [] := F.binds fun _ _ _ _ _ _ us hl => match us, hl with | [_], _ => rfl
abbrev s_law_fv_poured : Stmt := top 38
abbrev n_law_fv_poured : List Str := ["levels", "writes", "low", "x", "many", "total", "even", "more"]
theorem sc_law_fv_poured : FnScope n_law_fv_poured ["levels", "writes"] (defScope s_law_fv_poured) := ⟨rfl, rfl, rfl, by decide +kernel, rfl, by decide +kernel, by decide +kernel⟩
theorem bd_law_fv_poured {K : PySem.W.Frag} {f : Addr} {fd : FuncData} (F : Fun K "_law_fv_poured" "_law_fv_poured" s_law_fv_poured f fd) : L2.Binds K fd ["levels", "writes"] [] := F.binds fun _ _ _ _ _ _ us hl => match us, hl with | [_, _], _ => rfl
abbrev s_law_fv_emptied : Stmt := top 39
abbrev n_law_fv_emptied : List Str := ["levels", "many", "line", "gone"]
theorem sc_law_fv_emptied : FnScope n_law_fv_emptied ["levels", "many"] (defScope s_law_fv_emptied) := ⟨rfl, rfl, rfl, by decide +kernel, rfl, by decide +kernel, by decide +kernel⟩
theorem bd_law_fv_emptied {K : PySem.W.Frag} {f : Addr} {fd : FuncData} (F : Fun K "_law_fv_emptied" "_law_fv_emptied" s_law_fv_emptied f fd) : L2.Binds K fd ["levels", "many"] [] := F.binds fun _ _ _ _ _ _ us hl => match us, hl with | [_, _], _ => rfl
abbrev s_law_fv_share : Stmt := top 40
abbrev n_law_fv_share : List Str := ["total", "among", "many", "even", "more"]
theorem sc_law_fv_share : FnScope n_law_fv_share ["total", "among", "many"] (defScope s_law_fv_share) := ⟨rfl, rfl, rfl, by decide +kernel, rfl, by decide +kernel, by decide +kernel⟩
theorem bd_law_fv_share {K : PySem.W.Frag} {f : Addr} {fd : FuncData} (F : Fun K "_law_fv_share" "_law_fv_share" s_law_fv_share f fd) : L2.Binds K fd ["total", "among", "many"] [] := F.binds fun _ _ _ _ _ _ us hl => match us, hl with | [_, _, _], _ => rfl
abbrev s_law_fv_live : Stmt := top 41
abbrev n_law_fv_live : List Str := ["many", "steps", "rounds"]
theorem sc_law_fv_live : FnScope n_law_fv_live ["many", "steps", "rounds"] (defScope s_law_fv_live) := ⟨rfl, rfl, rfl, by decide +kernel, rfl, by decide +kernel, by decide +kernel⟩
theorem bd_law_fv_live {K : PySem.W.Frag} {f : Addr} {fd : FuncData} (F : Fun K "_law_fv_live" "_law_fv_live" s_law_fv_live f fd) : L2.Binds K fd ["many", "steps", "rounds"] [] := F.binds fun _ _ _ _ _ _ us hl => match us, hl with | [_, _, _], _ => rfl
abbrev s_law_fv_fallen : Stmt := top 42
abbrev n_law_fv_fallen : List Str := ["live_v", "many", "rate", "rounds", "pace", "steps", "left"]
theorem sc_law_fv_fallen : FnScope n_law_fv_fallen ["live_v", "many", "rate", "rounds"] (defScope s_law_fv_fallen) := ⟨rfl, rfl, rfl, by decide +kernel, rfl, by decide +kernel, by decide +kernel⟩
theorem bd_law_fv_fallen {K : PySem.W.Frag} {f : Addr} {fd : FuncData} (F : Fun K "_law_fv_fallen" "_law_fv_fallen" s_law_fv_fallen f fd) : L2.Binds K fd ["live_v", "many", "rate", "rounds"] [] := F.binds fun _ _ _ _ _ _ us hl => match us, hl with | [_, _, _, _], _ => rfl
abbrev s_law_fv_forced : Stmt := top 43
abbrev n_law_fv_forced : List Str := ["levels", "rate", "rounds", "many", "line", "wide", "go", "later", "few"]
theorem sc_law_fv_forced : FnScope n_law_fv_forced ["levels", "rate", "rounds"] (defScope s_law_fv_forced) := ⟨rfl, rfl, rfl, by decide +kernel, rfl, by decide +kernel, by decide +kernel⟩
theorem bd_law_fv_forced {K : PySem.W.Frag} {f : Addr} {fd : FuncData} (F : Fun K "_law_fv_forced" "_law_fv_forced" s_law_fv_forced f fd) : L2.Binds K fd ["levels", "rate", "rounds"] [] := F.binds fun _ _ _ _ _ _ us hl => match us, hl with | [_, _, _], _ => rfl
abbrev s_law_fv_wide : Stmt := top 44
abbrev n_law_fv_wide : List Str := ["many", "rate"]
theorem sc_law_fv_wide : FnScope n_law_fv_wide ["many", "rate"] (defScope s_law_fv_wide) := ⟨rfl, rfl, rfl, by decide +kernel, rfl, by decide +kernel, by decide +kernel⟩
theorem bd_law_fv_wide {K : PySem.W.Frag} {f : Addr} {fd : FuncData} (F : Fun K "_law_fv_wide" "_law_fv_wide" s_law_fv_wide f fd) : L2.Binds K fd ["many", "rate"] [] := F.binds fun _ _ _ _ _ _ us hl => match us, hl with | [_, _], _ => rfl
abbrev s_law_fv_run : Stmt := top 45
abbrev n_law_fv_run : List Str := ["line", "rate"]
theorem sc_law_fv_run : FnScope n_law_fv_run ["line", "rate"] (defScope s_law_fv_run) := ⟨rfl, rfl, rfl, by decide +kernel, rfl, by decide +kernel, by decide +kernel⟩
theorem bd_law_fv_run {K : PySem.W.Frag} {f : Addr} {fd : FuncData} (F : Fun K "_law_fv_run" "_law_fv_run" s_law_fv_run f fd) : L2.Binds K fd ["line", "rate"] [] := F.binds fun _ _ _ _ _ _ us hl => match us, hl with | [_, _], _ => rfl
abbrev s_law_fv_wrong_rung : Stmt := top 46
abbrev n_law_fv_wrong_rung : List Str := ["many", "rate", "stair", "want", "is_grounded", "at", "rounds", "high", "need", "low", "top"]
theorem sc_law_fv_wrong_rung : FnScope n_law_fv_wrong_rung ["many", "rate", "stair"] (defScope s_law_fv_wrong_rung) := ⟨rfl, rfl, rfl, by decide +kernel, rfl, by decide +kernel, by decide +kernel⟩
theorem bd_law_fv_wrong_rung {K : PySem.W.Frag} {f : Addr} {fd : FuncData} (F : Fun K "_law_fv_wrong_rung" "_law_fv_wrong_rung" s_law_fv_wrong_rung f fd) : L2.Binds K fd ["many", "rate", "stair"] [] := F.binds fun _ _ _ _ _ _ us hl => match us, hl with | [_, _, _], _ => rfl
abbrev s_law_fv_stair : Stmt := top 47
abbrev n_law_fv_stair : List Str := ["levels", "rate", "stair", "many", "rounds", "line", "needs", "want", "at", "left", "ahead", "total", "live_v"]
theorem sc_law_fv_stair : FnScope n_law_fv_stair ["levels", "rate", "stair"] (defScope s_law_fv_stair) := ⟨rfl, rfl, rfl, by decide +kernel, rfl, by decide +kernel, by decide +kernel⟩
theorem bd_law_fv_stair {K : PySem.W.Frag} {f : Addr} {fd : FuncData} (F : Fun K "_law_fv_stair" "_law_fv_stair" s_law_fv_stair f fd) : L2.Binds K fd ["levels", "rate", "stair"] [] := F.binds fun _ _ _ _ _ _ us hl => match us, hl with | [_, _, _], _ => rfl
abbrev s_law_fv_drawn_stair : Stmt := top 48
abbrev n_law_fv_drawn_stair : List Str := ["jar", "many", "rate", "rounds", "made", "want", "is_grounded", "left", "high", "need"]
theorem sc_law_fv_drawn_stair : FnScope n_law_fv_drawn_stair ["jar", "many", "rate", "rounds"] (defScope s_law_fv_drawn_stair) := ⟨rfl, rfl, rfl, by decide +kernel, rfl, by decide +kernel, by decide +kernel⟩
theorem bd_law_fv_drawn_stair {K : PySem.W.Frag} {f : Addr} {fd : FuncData} (F : Fun K "_law_fv_drawn_stair" "_law_fv_drawn_stair" s_law_fv_drawn_stair f fd) : L2.Binds K fd ["jar", "many", "rate", "rounds"] [] := F.binds fun _ _ _ _ _ _ us hl => match us, hl with | [_, _, _, _], _ => rfl
abbrev s_law_fv_drawn_levels : Stmt := top 49
abbrev n_law_fv_drawn_levels : List Str := ["jar", "many", "sort", "at", "go"]
theorem sc_law_fv_drawn_levels : FnScope n_law_fv_drawn_levels ["jar", "many"] (defScope s_law_fv_drawn_levels) := ⟨rfl, rfl, rfl, by decide +kernel, rfl, by decide +kernel, by decide +kernel⟩
theorem bd_law_fv_drawn_levels {K : PySem.W.Frag} {f : Addr} {fd : FuncData} (F : Fun K "_law_fv_drawn_levels" "_law_fv_drawn_levels" s_law_fv_drawn_levels f fd) : L2.Binds K fd ["jar", "many"] [] := F.binds fun _ _ _ _ _ _ us hl => match us, hl with | [_, _], _ => rfl
abbrev s_law_fv_drawn_rate : Stmt := top 50
abbrev n_law_fv_drawn_rate : List Str := ["jar", "pace"]
theorem sc_law_fv_drawn_rate : FnScope n_law_fv_drawn_rate ["jar"] (defScope s_law_fv_drawn_rate) := ⟨rfl, rfl, rfl, by decide +kernel, rfl, by decide +kernel, by decide +kernel⟩
theorem bd_law_fv_drawn_rate {K : PySem.W.Frag} {f : Addr} {fd : FuncData} (F : Fun K "_law_fv_drawn_rate" "_law_fv_drawn_rate" s_law_fv_drawn_rate f fd) : L2.Binds K fd ["jar"] [] := F.binds fun _ _ _ _ _ _ us hl => match us, hl with | [_], _ => rfl
abbrev s_law_heard : Stmt := top 51
abbrev n_law_heard : List Str := ["asked_now", "error_one"]
theorem sc_law_heard : FnScope n_law_heard ["asked_now"] (defScope s_law_heard) := ⟨rfl, rfl, rfl, by decide +kernel, rfl, by decide +kernel, by decide +kernel⟩
theorem bd_law_heard {K : PySem.W.Frag} {f : Addr} {fd : FuncData} (F : Fun K "_law_heard" "_law_heard" s_law_heard f fd) : L2.Binds K fd ["asked_now"] [] := F.binds fun _ _ _ _ _ _ us hl => match us, hl with | [_], _ => rfl
abbrev s_law_heard_value : Stmt := top 52
abbrev n_law_heard_value : List Str := ["levels", "rate", "stair"]
theorem sc_law_heard_value : FnScope n_law_heard_value ["levels", "rate", "stair"] (defScope s_law_heard_value) := ⟨rfl, rfl, rfl, by decide +kernel, rfl, by decide +kernel, by decide +kernel⟩
theorem bd_law_heard_value {K : PySem.W.Frag} {f : Addr} {fd : FuncData} (F : Fun K "_law_heard_value" "_law_heard_value" s_law_heard_value f fd) : L2.Binds K fd ["levels", "rate", "stair"] [] := F.binds fun _ _ _ _ _ _ us hl => match us, hl with | [_, _, _], _ => rfl
abbrev s_law_owed : Stmt := top 53
abbrev n_law_owed : List Str := ["levels", "rate", "stair", "wrong"]
theorem sc_law_owed : FnScope n_law_owed ["levels", "rate", "stair"] (defScope s_law_owed) := ⟨rfl, rfl, rfl, by decide +kernel, rfl, by decide +kernel, by decide +kernel⟩
theorem bd_law_owed {K : PySem.W.Frag} {f : Addr} {fd : FuncData} (F : Fun K "_law_owed" "_law_owed" s_law_owed f fd) : L2.Binds K fd ["levels", "rate", "stair"] [] := F.binds fun _ _ _ _ _ _ us hl => match us, hl with | [_, _, _], _ => rfl
abbrev s_law_is_right : Stmt := top 54
abbrev n_law_is_right : List Str := ["jar", "levels", "rate", "stair", "handed", "owed"]
theorem sc_law_is_right : FnScope n_law_is_right ["jar", "levels", "rate", "stair"] (defScope s_law_is_right) := ⟨rfl, rfl, rfl, by decide +kernel, rfl, by decide +kernel, by decide +kernel⟩
theorem bd_law_is_right {K : PySem.W.Frag} {f : Addr} {fd : FuncData} (F : Fun K "_law_is_right" "_law_is_right" s_law_is_right f fd) : L2.Binds K fd ["jar", "levels", "rate", "stair"] [] := F.binds fun _ _ _ _ _ _ us hl => match us, hl with | [_, _, _, _], _ => rfl
abbrev s_law_bent : Stmt := top 55
abbrev n_law_bent : List Str := ["jar", "stair", "many", "rate", "made", "go", "at", "left", "high", "want", "need", "some"]
theorem sc_law_bent : FnScope n_law_bent ["jar", "stair", "many", "rate"] (defScope s_law_bent) := ⟨rfl, rfl, rfl, by decide +kernel, rfl, by decide +kernel, by decide +kernel⟩
theorem bd_law_bent {K : PySem.W.Frag} {f : Addr} {fd : FuncData} (F : Fun K "_law_bent" "_law_bent" s_law_bent f fd) : L2.Binds K fd ["jar", "stair", "many", "rate"] [] := F.binds fun _ _ _ _ _ _ us hl => match us, hl with | [_, _, _, _], _ => rfl
abbrev s_law_levels_right : Stmt := top 56
abbrev n_law_levels_right : List Str := ["jar", "levels", "rate", "many", "rounds", "stair", "go", "other", "odd"]
theorem sc_law_levels_right : FnScope n_law_levels_right ["jar", "levels", "rate"] (defScope s_law_levels_right) := ⟨rfl, rfl, rfl, by decide +kernel, rfl, by decide +kernel, by decide +kernel⟩
theorem bd_law_levels_right {K : PySem.W.Frag} {f : Addr} {fd : FuncData} (F : Fun K "_law_levels_right" "_law_levels_right" s_law_levels_right f fd) : L2.Binds K fd ["jar", "levels", "rate"] [] := F.binds fun _ _ _ _ _ _ us hl => match us, hl with | [_, _, _], _ => rfl
abbrev s_law_all_right : Stmt := top 57
abbrev n_law_all_right : List Str := ["jar", "levels", "go", "rate", "lists", "longer", "one", "x"]
theorem sc_law_all_right : FnScope n_law_all_right ["jar"] (defScope s_law_all_right) := ⟨rfl, rfl, rfl, by decide +kernel, rfl, by decide +kernel, by decide +kernel⟩
theorem bd_law_all_right {K : PySem.W.Frag} {f : Addr} {fd : FuncData} (F : Fun K "_law_all_right" "_law_all_right" s_law_all_right f fd) : L2.Binds K fd ["jar"] [] := F.binds fun _ _ _ _ _ _ us hl => match us, hl with | [_], _ => rfl
abbrev s_law : Stmt := top 58
abbrev n_law : List Str := ["script", "jar", "many", "go", "asks", "said", "stair", "owed"]
theorem sc_law : FnScope n_law ["script"] (defScope s_law) := ⟨rfl, rfl, rfl, by decide +kernel, rfl, by decide +kernel, by decide +kernel⟩
theorem bd_law {K : PySem.W.Frag} {f : Addr} {fd : FuncData} (F : Fun K "law" "law" s_law f fd) : L2.Binds K fd ["script"] [] := F.binds fun _ _ _ _ _ _ us hl => match us, hl with | [_], _ => rfl
abbrev s_InvalidLevels_init : Stmt := inClass (top 1) 0
theorem sc_InvalidLevels_init : FnScope ["self", "position"] ["self", "position"] (defScope s_InvalidLevels_init) := ⟨rfl, rfl, rfl, by decide +kernel, rfl, by decide +kernel, by decide +kernel⟩
theorem bd_InvalidLevels_init {K : PySem.W.Frag} {f : Addr} {fd : FuncData} (F : Fun K "__init__" "InvalidLevels.__init__" s_InvalidLevels_init f fd) : L2.Binds K fd ["self", "position"] [] := F.binds fun _ _ _ _ _ _ us hl => match us, hl with | [_, _], _ => rfl
abbrev s_InvalidRate_init : Stmt := inClass (top 2) 0
theorem sc_InvalidRate_init : FnScope ["self", "value"] ["self", "value"] (defScope s_InvalidRate_init) := ⟨rfl, rfl, rfl, by decide +kernel, rfl, by decide +kernel, by decide +kernel⟩
theorem bd_InvalidRate_init {K : PySem.W.Frag} {f : Addr} {fd : FuncData} (F : Fun K "__init__" "InvalidRate.__init__" s_InvalidRate_init f fd) : L2.Binds K fd ["self", "value"] [] := F.binds fun _ _ _ _ _ _ us hl => match us, hl with | [_, _], _ => rfl
abbrev s_InvalidStair_init : Stmt := inClass (top 3) 0
theorem sc_InvalidStair_init : FnScope ["self", "position"] ["self", "position"] (defScope s_InvalidStair_init) := ⟨rfl, rfl, rfl, by decide +kernel, rfl, by decide +kernel, by decide +kernel⟩
theorem bd_InvalidStair_init {K : PySem.W.Frag} {f : Addr} {fd : FuncData} (F : Fun K "__init__" "InvalidStair.__init__" s_InvalidStair_init f fd) : L2.Binds K fd ["self", "position"] [] := F.binds fun _ _ _ _ _ _ us hl => match us, hl with | [_, _], _ => rfl
local macro_rules | `(tactic| kx_without3) => `(tactic| first | exact Or.inl rfl | exact Or.inr (Or.inl rfl) | exact Or.inr (Or.inr rfl))
local macro_rules | `(tactic| kbo_bools) => `(tactic| first | exact Or.inl rfl | exact Or.inr rfl)
local macro_rules | `(tactic| lsm_bools) => `(tactic| first
  | refine qe_var 0 rfl (by kx_without3) rfl ?_ | refine qe_var 1 rfl (by kx_without3) rfl ?_ | refine qe_var 2 rfl (by kx_without3) rfl ?_ | refine qe_var 3 rfl (by kx_without3) rfl ?_
  | refine qe_var 4 rfl (by kx_without3) rfl ?_ | refine qe_var 5 rfl (by kx_without3) rfl ?_ | refine qe_var 6 rfl (by kx_without3) rfl ?_ | refine qe_var 7 rfl (by kx_without3) rfl ?_
  | refine qe_var 8 rfl (by kx_without3) rfl ?_ | refine qe_var 9 rfl (by kx_without3) rfl ?_ | refine qe_var 10 rfl (by kx_without3) rfl ?_ | refine qe_var 11 rfl (by kx_without3) rfl ?_ | refine qe_var 12 rfl (by kx_without3) rfl ?_ | refine qe_var 13 rfl (by kx_without3) rfl ?_
  | refine qe_tyI ?_ | refine qe_tyB ?_ | refine qe_tyS ?_ | refine qe_tyL ?_ | refine qe_tyT ?_ | refine qe_globI (by assumption) rfl ?_)
local macro_rules | `(tactic| kct_strs) => `(tactic| first
  | refine qs_set 0 rfl (by kbo_bools) ?_ | refine qs_set 1 rfl (by kbo_bools) ?_ | refine qs_set 2 rfl (by kbo_bools) ?_ | refine qs_set 3 rfl (by kbo_bools) ?_
  | refine qs_set 4 rfl (by kbo_bools) ?_ | refine qs_set 5 rfl (by kbo_bools) ?_ | refine qs_set 6 rfl (by kbo_bools) ?_ | refine qs_set 7 rfl (by kbo_bools) ?_
  | refine qs_set 8 rfl (by kbo_bools) ?_ | refine qs_set 9 rfl (by kbo_bools) ?_ | refine qs_set 10 rfl (by kbo_bools) ?_ | refine qs_set 11 rfl (by kbo_bools) ?_ | refine qs_set 12 rfl (by kbo_bools) ?_ | refine qs_set 13 rfl (by kbo_bools) ?_)
local macro_rules | `(tactic| cc_are) => `(tactic| first
  | (show QE _ (Expr.Name _ _) _ _ _; lsm_bools)
  | (show QE _ (Expr.Constant _ _ _) _ _ _; first | refine qe_int ?_ | refine qe_str ?_ | refine qe_non ?_ | refine qe_bl ?_)
  | (show QE _ (Expr.BinOp _ _ _ _) _ _ _; first | refine qe_add ?_ | refine qe_sub ?_ | refine qe_mul ?_ | refine qe_fdiv ?_ | refine qe_mod ?_ | refine qe_pow ?_)
  | (show QE _ (Expr.Compare _ _ _ _) _ _ _; first | refine qe_eq ?_ | refine qe_ne ?_ | refine qe_lt ?_ | refine qe_le ?_ | refine qe_gt ?_ | refine qe_ge ?_ | refine qe_is ?_ | refine qe_lele ?_ | refine qe_lelt ?_ | refine qe_in ?_ | refine qe_notin ?_ | refine qe_isnot ?_)
  | (show QE _ (Expr.Call _ _ _ _) _ _ _; first | refine qe_int1 ?_ | refine qe_len ?_ | refine qe_max2 ?_ | refine qe_min2 ?_ | refine qe_divmod ?_ | refine qe_isD ?_ | refine qe_bool1 ?_ | refine qe_sum ?_ | refine qe_sorted ?_ | refine qe_list1 ?_ | refine qe_all ?_ | refine qe_any ?_ | refine qe_call (by assumption) (by exact Nat.le_of_ble_eq_true rfl) rfl ?_)
  | (show QE _ _ _ _ _; first | refine qe_rev ?_ | refine qe_ix ?_ | refine qe_slice ?_ | refine qe_and ?_ | refine qe_or ?_ | refine qe_not ?_ | refine qe_one ?_ | refine qe_if ?_ | refine qe_tup ?_ | refine qe_lst ?_ | refine qe_neg ?_)
  | (show QT _ _ _ _ _; first | refine qt_gt ?_ | refine qt_lt ?_ | refine qt_le ?_ | refine qt_ge ?_ | refine qt_eq ?_ | refine qt_ne ?_ | refine qt_and ?_ | refine qt_or ?_ | refine qt_not ?_ | refine qt_lele ?_ | refine qt_lelt ?_ | refine qt_is ?_ | refine qt_isnot ?_ | refine qt_in ?_ | refine qt_notin ?_)
  | (show QT _ (Expr.Call _ _ _ _) _ _ _; refine qt_val ?_) | (show QT _ (Expr.Name _ _) _ _ _; refine qt_tru ?_)
  | (show QW _ _ _ _ _; first | refine qw_and ?_ | refine qw_and1 ?_ | refine qw_or ?_ | refine qw_or1 ?_)
  | (show QP _ _ _ _ _; first | refine qp_none ?_ | refine qp_some ?_)
  | (show QA _ _ _ _ _; first | refine qa_cons ?_ | refine qa_nil ?_)
  | (show rdAdd _ _ _ _; refine add_i ?_)
  | refine ii rfl rfl ?_ | refine isb ?_ | refine eq_i ?_ | refine eq_s ?_ | refine eq_b ?_ | refine ne_i ?_ | refine ne_s ?_ | refine ne_b ?_
  | refine is_b ?_ | refine is_n ?_ | refine is_i ?_ | refine is_s ?_ | refine is_l ?_ | refine is_t ?_ | refine is_bn ?_)
local macro_rules | `(tactic| cc_off) => `(tactic| first
  | refine qss_one ?_ | refine qss_cons ?_ | refine qss_nil ?_
  | (show QS _ (Stmt.If _ _ _ _) _ _ _; refine qs_if ?_) | (show QS _ (Stmt.Return _ _) _ _ _; refine qs_ret ?_) | (show QS _ (Stmt.Assign [Expr.Name _ _] _ _) _ _ _; kct_strs) | (show QS _ (Stmt.Expr _ _) _ _ _; refine qs_expr ?_) | (show QS _ (Stmt.Assign [Expr.Subscript _ _ _] _ _) _ _ _; refine qs_asg ?_)
  | (show QG _ (Expr.Subscript _ _ _) _ _ _ _; refine qg_sub ?_))
/-- side questions of the data -/
local macro_rules | `(tactic| nest_cls) => `(tactic| first
  | ((with_reducible refine kn_c ?_ ?_); first | assumption | exact ⟨rfl⟩) | ((with_reducible refine jar_c ?_ ?_); first | assumption | exact JM.at (by assumption))
  | ((with_reducible refine pos_c ?_ ?_); omega) | ((with_reducible refine cdiv_c ?_ ?_); exact ⟨by omega, by omega⟩) | ((with_reducible refine cpow_c ?_ ?_); exact ⟨by decide, by decide, by decide⟩)
  | ((with_reducible refine len_le ?_ ?_); first | decide | (simp only [List.length_cons, List.length_nil]; decide))
  | refine sub4 mupd_same rfl ?_ | refine sub4 (by assumption) rfl ?_
  | refine cj_t ?_ | refine cj_f ?_ | refine ⟨fun h => absurd h (by decide), fun _ => ?_⟩ | refine ⟨fun _ => ?_, fun h => absurd h (by decide)⟩ | refine cj_nn ?_ | refine cj_ee ?_
  | refine ⟨_, rfl, ?_⟩ | refine ⟨_, _, rfl, ?_⟩ | refine ⟨_, _, rfl, rfl, ?_⟩ | refine ⟨_, _, _, rfl, rfl, ?_⟩ | refine ⟨_, _, _, rfl, ?_⟩ | refine ⟨_, _, _, _, rfl, ?_⟩
  | refine mul_i (by first | exact Or.inl ⟨by omega, by omega⟩ | exact Or.inr ⟨by omega, by omega⟩) ?_
  | refine sort_l ?_ | refine list1_l ?_ | refine seq_rev ?_ | refine seq_l ?_ | refine seq_f ?_ | refine ix_m (by assumption) rfl ?_ | refine ix_m mupd_same rfl ?_)
local macro_rules | `(tactic| tlg_ne) => `(tactic| repeat (first | cc_off | cc_are | nest_cls))
section
variable {P : Program} {w : World} {K : PySem.W.Frag} {mg : Str → Option Value} {base : Heap} {T : List (Addr × Str)} {f : Addr} {fd : FuncData}
/-! ### the words -/
def isInt : D → Bool
  | .int _ => true
  | _ => false
def cIsInt : Con := fun ds M Q _ => ∃ v, ds = [v] ∧ Kn v ∧ Q (.bl (isInt v)) M
theorem has_is_integer (F : Fun K "is_integer" "is_integer" s_is_integer f fd) (bn : BN mg) (hm : mg "is_integer" = some (.ref f)) : HasF P w K mg base T "is_integer" 1 1 cIsInt := by
  refine hasF F sc_is_integer hm (bd_is_integer F) bn rfl (fun _ _ _ _ ⟨_, e, _⟩ => by rw [e]; rfl) fun cdv A outer s H E hr ds M Q Xd h => ?_
  obtain ⟨v, rfl, kn, hQ⟩ := h
  conv => arg 2; whnf
  cases v <;> first | exact absurd kn.ok Bool.false_ne_true | (tlg_ne; exact hQ)
/-- an int from lo to hi -/
def inR : D → Int → Int → Bool
  | .int i, lo, hi => decide (lo ≤ i) && decide (i ≤ hi)
  | _, _, _ => false
def cInR : Con := fun ds M Q _ => ∃ v lo hi, ds = [v, .int lo, .int hi] ∧ Kn v ∧ Q (.bl (inR v lo hi)) M
theorem has_in_range (F : Fun K "in_range" "in_range" s_in_range f fd) (bn : BN mg) (hm : mg "in_range" = some (.ref f)) (h1 : HasF P w K mg base T "is_integer" 1 1 cIsInt) : HasF P w K mg base T "in_range" 3 2 cInR := by
  refine hasF F sc_in_range hm (bd_in_range F) bn rfl (fun _ _ _ _ ⟨_, _, _, e, _⟩ => by rw [e]; rfl) fun cdv A outer s H E hr ds M Q Xd h => ?_
  obtain ⟨v, lo, hi, rfl, kn, hQ⟩ := h
  conv => arg 2; whnf
  tlg_ne
  cases v <;> first | exact absurd kn.ok Bool.false_ne_true | (tlg_ne; exact hQ) | skip
  rename_i i
  tlg_ne
  refine ⟨fun h => ?_, fun h => ?_⟩
  · have e : decide (lo ≤ i) = true := h
    tlg_ne
    simpa [inR, e] using hQ
  · have e : decide (lo ≤ i) = false := h
    simpa [inR, e] using hQ
/-! ### draws -/
def cTake : Con := fun ds M Q _ => ∃ (j : Addr) (n : Int), ds = [.oth (.ref j), .int n] ∧ JarAt M j ∧ 1 ≤ n ∧ n < 1073741824 ∧ ∀ r M', 0 ≤ r → r < n → JM j M M' → Q (.int r) M'
theorem has_law_take (F : Fun K "_law_take" "_law_take" s_law_take f fd) (bn : BN mg) (hm : mg "_law_take" = some (.ref f)) : HasF P w K mg base T "_law_take" 2 1 cTake := by
  refine hasF F sc_law_take hm (bd_law_take F) bn rfl (fun _ _ _ _ ⟨_, _, e, _⟩ => by rw [e]; rfl) fun cdv A outer s H E hr ds M Q Xd h => ?_
  obtain ⟨j, n, rfl, ⟨d, st, k, o, hj⟩, h1, h2, hQ⟩ := h
  unfold jarO at hj
  conv => arg 2; whnf
  have ho := o.d0
  have hs0 := o.s0
  have hs1 := o.s1
  have hn0 := o.n0
  tlg_ne
  refine ⟨fun c => ?_, fun c => ?_⟩
  · tlg_ne
    refine hQ _ _ (Int.emod_nonneg _ (by omega)) (Int.emod_lt_of_pos _ (by omega)) ⟨d / n, st, k, ⟨Int.ediv_nonneg ho (by omega), hs0, hs1, hn0⟩, rfl⟩
  · tlg_ne
    rw [mupd_upd]
    exact hQ _ _ (Int.emod_nonneg _ (by omega)) (Int.emod_lt_of_pos _ (by omega)) ⟨d, _, k + 1, ⟨ho, Int.emod_nonneg _ (by omega), Int.emod_lt_of_pos _ (by omega), by omega⟩, rfl⟩
def cOne : Con := fun ds M Q _ => ∃ (j : Addr) (xs : List D), ds = [.oth (.ref j), .lst xs] ∧ JarAt M j ∧ xs ≠ [] ∧ xs.length < 1073741824 ∧ ∀ (i : Nat) x M', xs[i]? = some x → JM j M M' → Q x M'
theorem has_law_one (F : Fun K "_law_one" "_law_one" s_law_one f fd) (bn : BN mg) (hm : mg "_law_one" = some (.ref f)) (h1 : HasF P w K mg base T "_law_take" 2 1 cTake) : HasF P w K mg base T "_law_one" 2 2 cOne := by
  refine hasF F sc_law_one hm (bd_law_one F) bn rfl (fun _ _ _ _ ⟨_, _, e, _⟩ => by rw [e]; rfl) fun cdv A outer s H E hr ds M Q Xd h => ?_
  obtain ⟨j, xs, rfl, hj, hne, hlen, hQ⟩ := h
  have hpos : 0 < xs.length := List.length_pos_iff.mpr hne
  conv => arg 2; whnf
  tlg_ne
  refine ⟨by omega, by omega, fun r M' r0 r1 jm => ?_⟩
  obtain ⟨x, e1, e2⟩ := atI_i (xs := xs) r0 r1
  exact ix_l e1 (hQ _ _ _ e2 jm)
def cPool : Con := fun ds M Q _ => ∃ ns : List Int, ds = [.frz (ns.map D.int)] ∧ ns.length ≤ 63 ∧ ∀ p d s, M p = none → JarOk d s 0 → Q (.oth (.ref p)) (mupd M p (jarO d s 0))
theorem has_law_pool (F : Fun K "_law_pool" "_law_pool" s_law_pool f fd) (bn : BN mg) (hm : mg "_law_pool" = some (.ref f)) : HasF P w K mg base T "_law_pool" 1 1 cPool := by
  refine hasF F sc_law_pool hm (bd_law_pool F) bn rfl (fun _ _ _ _ ⟨_, e, _⟩ => by rw [e]; rfl) fun cdv A outer s H E hr ds M Q Xd h => ?_
  obtain ⟨ns, rfl, hlen, hQ⟩ := h
  conv => arg 2; whnf
  refine qss_cons (qs_asg ?_)
  tlg_ne
  refine qg_tup (qgs_name 1 rfl (by kbo_bools) (qgs_name 2 rfl (by kbo_bools) (qgs_nil ?_)))
  refine qss_cons (qs_for (qi_range1 ?_))
  tlg_ne
  refine ⟨by rw [List.length_map]; omega, by rw [List.length_map]; omega, fun i ρ' M' => M' = M ∧ ∃ d st x y, 0 ≤ d ∧ d < 10 ^ 120 ∧ 0 ≤ st ∧ st < 2147483647 ∧ ρ' = [some (.frz (ns.map D.int)), some (.int d), some (.int st), x, y], ⟨rfl, 0, 7, none, none, by omega, by decide, by omega, by omega, rfl⟩, ?_, ?_⟩
  · rintro i x ρ' M' hx ⟨rfl, d, st, x0, y0, d0, d1, s0, s1, rfl⟩
    obtain ⟨hi, rfl⟩ := rngD_get hx
    have hi' : i < ns.length := by simpa using hi
    refine qg_name 3 rfl (by kbo_bools) ?_
    have hat : atI (ns.map D.int) (0 + (i : Int)) = some (.int ns[i]) := atI_n (by simp [hi'])
    generalize ns[i] = v at hat
    tlg_ne
    refine ix_f hat ?_
    tlg_ne
    refine ix_f hat ?_
    tlg_ne
    generalize hc : (if -1 - v > v then -1 - v else v) = c
    have c0 : 0 ≤ c := by subst hc; split <;> omega
    have m1 := Int.emod_nonneg c (show (2147483629 : Int) ≠ 0 by decide)
    have p60 : ((10 : Int) ^ Int.toNat 60) = 1000000000000000000000000000000000000000000000000000000000000 := by decide +kernel
    have p120 : ((10 : Int) ^ 120) = 1000000000000000000000000000000000000000000000000000000000000 * 1000000000000000000000000000000000000000000000000000000000000 := by decide +kernel
    have st0 := Int.emod_nonneg (st * 48271 + c % 2147483629 + 11) (show (2147483647 : Int) ≠ 0 by decide)
    have st1 := Int.emod_lt_of_pos (st * 48271 + c % 2147483629 + 11) (show (0 : Int) < 2147483647 by decide)
    refine ⟨fun h1 => ?_, fun h1 => ?_⟩
    · tlg_ne
      refine ⟨fun h2 => ?_, fun h2 => ?_⟩
      · have h3 : d < 10 ^ Int.toNat 60 := of_decide_eq_true h2
        tlg_ne
        refine mul_w ?_ ?_
        · refine wide_mul (a := 200) (b := 200) ?_ ?_ (by decide) (by decide) (by decide)
          · have q : d < 2 ^ 200 := Int.lt_of_lt_of_le h3 (by decide +kernel)
            have := Int.toNat_of_nonneg d0
            have e : d.natAbs = d.toNat := by omega
            rw [e]
            have q2 : ((d.toNat : Nat) : Int) < ((2 ^ 200 : Nat) : Int) := by rw [this]; exact q
            exact_mod_cast q2
          · decide +kernel
        · tlg_ne
          have p2 : (10 : Int) ^ 120 = 10 ^ Int.toNat 60 * 10 ^ Int.toNat 60 := by rw [p120, p60]
          have hB : (1 : Int) ≤ 10 ^ Int.toNat 60 := by rw [p60]; decide
          clear p60 p120
          rw [p2] at d1
          have key : 0 ≤ d * 10 ^ Int.toNat 60 + c % 10 ^ Int.toNat 60 ∧ d * 10 ^ Int.toNat 60 + c % 10 ^ Int.toNat 60 < 10 ^ 120 := by
            rw [p2]
            generalize (10 : Int) ^ Int.toNat 60 = B at h3 hB ⊢
            have c1 := Int.emod_nonneg c (show B ≠ 0 by omega)
            have c2 := Int.emod_lt_of_pos c (show 0 < B by omega)
            have m1 : d * B ≤ (B - 1) * B := Int.mul_le_mul_of_nonneg_right (by omega) (by omega)
            have m2 : 0 ≤ d * B := Int.mul_nonneg d0 (by omega)
            rw [Int.sub_mul, Int.one_mul] at m1
            constructor <;> omega
          exact ⟨rfl, _, _, _, _, key.1, key.2, st0, st1, rfl⟩
      · tlg_ne
        exact ⟨rfl, d, _, _, _, d0, d1, st0, st1, rfl⟩
    · tlg_ne
      exact ⟨rfl, d, _, _, _, d0, d1, st0, st1, rfl⟩
  · rintro ρ' M' ⟨rfl, d, st, x0, y0, d0, d1, s0, s1, rfl⟩
    refine qss_one (qs_ret (qe_lstM ?_))
    tlg_ne
    intro p hp
    exact hQ p d st hp ⟨d0, s0, s1, by omega⟩
def cMixed : Con := fun ds M Q _ => ∃ (j : Addr) (xs : List D), ds = [.oth (.ref j), .lst xs] ∧ JarAt M j ∧ xs.length < 1000 ∧ ∀ ys M', ys.Perm xs → JM j M M' → Q (.lst ys) M'
theorem has_law_mixed (F : Fun K "_law_mixed" "_law_mixed" s_law_mixed f fd) (bn : BN mg) (hm : mg "_law_mixed" = some (.ref f)) (h1 : HasF P w K mg base T "_law_take" 2 1 cTake) : HasF P w K mg base T "_law_mixed" 2 2 cMixed := by
  refine hasF (k := 1) F sc_law_mixed hm (bd_law_mixed F) bn rfl (fun _ _ _ _ ⟨_, _, e, _⟩ => by rw [e]; rfl) fun cdv A outer s H E hr ds M Q Xd h => ?_
  obtain ⟨j, xs, rfl, hj, hl, hQ⟩ := h
  conv => arg 2; whnf
  refine qss_cons (qs_par 2 3 rfl rfl (by decide) rfl rfl (qa_cons (qe_list1M ?_)))
  tlg_ne
  intro pS hS
  refine qa_cons (qe_lstM ?_)
  tlg_ne
  intro pF hF
  obtain ⟨nFS, hF2⟩ := mupd_none hF
  have nS := hj.ne hS
  have nF := hj.ne hF2
  have nSF := Ne.symm nFS
  tlg_ne
  refine qs_for (qi_range1 ?_)
  tlg_ne
  refine ⟨by omega, by omega, fun i ρ' M' => ∃ (ss fs : List D) (Mj : Mem) (x : Option D), M' = mupd (mupd Mj pS (.lst ss)) pF (.lst fs) ∧ JM j M Mj ∧ Mj pS = none ∧ Mj pF = none ∧ (ss ++ fs).Perm xs ∧ ss.length + i = xs.length ∧ ρ' = [some (.oth (.ref j)), some (.lst xs), some (.oth (.ref pS)), some (.oth (.ref pF)), x], ⟨xs, [], M, none, rfl, .refl hj, hS, hF2, by simp, by simp, rfl⟩, ?_, ?_⟩
  · rintro i x ρ' M' hx ⟨ss, fs, Mj, x0, rfl, jm, mS, mF, hp, hlen, rfl⟩
    obtain ⟨hi, rfl⟩ := rngD_get hx
    have hi' : i < xs.length := by simpa using hi
    have hfl : fs.length = i := by have := hp.length_eq; rw [List.length_append] at this; omega
    refine qg_name 4 rfl (by kbo_bools) ?_
    refine qss_one (qs_expr (qe_append ?_))
    tlg_ne
    refine ⟨⟨_, mupd_same⟩, ?_⟩
    refine qe_popAt ?_
    tlg_ne
    refine ⟨⟨_, (mupd_ne nSF).trans mupd_same⟩, ?_⟩
    tlg_ne
    refine ⟨_, ss.length, rfl, by simp only [lenD, mupd_ne nSF, mupd_same], ?_⟩
    tlg_ne
    refine ⟨(jm.at.upd nS).upd nF, by omega, by omega, fun r M2 r0 r1 jm2 => ?_⟩
    obtain ⟨M3, j3, rfl, f3⟩ := jm2.drop (by rw [mupd_ne nFS]; exact mF) nF
    obtain ⟨M4, j4, rfl, f4⟩ := j3.drop mS nS
    have hrl : r.toNat < ss.length := by omega
    refine ⟨ss, r, ss[r.toNat], rfl, (mupd_ne nSF).trans mupd_same, r0, by omega, by simp [hrl], ?_⟩
    have m4F : M4 pF = none := by rw [mupd_ne nFS] at f3; exact f3
    refine ⟨fs, (mupd_ne nFS).trans mupd_same, by simp only [sizeLine]; omega, ss.eraseIdx r.toNat, fs ++ [ss[r.toNat]], M4, _, ?_, jm.trans j4, f4, m4F, ?_, ?_, rfl⟩
    · rw [mupd_comm nFS, mupd_upd, mupd_upd]
    · refine List.Perm.trans ?_ hp
      have p1 := erase_perm ss r.toNat hrl
      refine List.Perm.trans ?_ (List.Perm.append_right fs p1)
      rw [← List.append_assoc]
      exact List.perm_append_comm
    · rw [List.length_eraseIdx, if_pos hrl]; omega
  · rintro ρ' M' ⟨ss, fs, Mj, x0, rfl, jm, mS, mF, hp, hlen, rfl⟩
    rw [rngD_length] at hlen
    obtain rfl : ss = [] := List.length_eq_zero_iff.mp (by omega)
    refine qss_one (qs_ret (qe_drop (qe_frz ?_)))
    tlg_ne
    refine ⟨pF, fs, rfl, mupd_same, ?_⟩
    rw [mdel_upd (by rw [mupd_ne nFS]; exact mF)]
    refine ⟨pS, _, mupd_same, ?_⟩
    rw [mdel_upd mS]
    exact hQ fs Mj (by simpa using hp) jm

end
section
variable {P : Program} {w : World} {K : PySem.W.Frag} {mg : Str → Option Value} {base : Heap} {T : List (Addr × Str)} {f : Addr} {fd : FuncData}
theorem bt_ee {α : Type} [DecidableEq α] {n : α} {P : PD} {M : Mem} (h : P (.bl true) M) : P (.bl (decide (n = n))) M := by
  rw [decide_eq_true rfl]; exact h
theorem has_law_yq_is_whole (F : Fun K "_law_yq_is_whole" "_law_yq_is_whole" s_law_yq_is_whole f fd) (bn : BN mg) (hm : mg "_law_yq_is_whole" = some (.ref f)) : HasF P w K mg base T "_law_yq_is_whole" 1 1 cIsInt := by
  refine hasF F sc_law_yq_is_whole hm (bd_law_yq_is_whole F) bn rfl (fun _ _ _ _ ⟨_, e, _⟩ => by rw [e]; rfl) fun cdv A outer s H E hr ds M Q Xd h => ?_
  obtain ⟨v, rfl, kn, hQ⟩ := h
  conv => arg 2; whnf
  cases v <;> first | exact absurd kn.ok Bool.false_ne_true | (tlg_ne; exact hQ)
/-- plain data of depth n -/
def Sm : Nat → D → Prop
  | 0, d => match d with
    | .non | .bl _ | .int _ | .str _ => True
    | _ => False
  | n + 1, d => match d with
    | .non | .bl _ | .int _ | .str _ => True
    | .lst xs => xs.length < 1073741824 ∧ ∀ x ∈ xs, Sm n x
    | .tup xs => xs.length < 1073741824 ∧ ∀ x ∈ xs, Sm n x
    | _ => False
def cSame (n : Nat) : Con := fun ds M Q _ => ∃ d, ds = [d, d] ∧ Sm n d ∧ Q (.bl true) M
theorem has_law_yq_same : ∀ (n : Nat) (F : Fun K "_law_yq_same" "_law_yq_same" s_law_yq_same f fd) (bn : BN mg) (hm : mg "_law_yq_same" = some (.ref f)) (h1 : HasF P w K mg base T "_law_yq_is_whole" 1 1 cIsInt), HasF P w K mg base T "_law_yq_same" 2 (n + 2) (cSame n) := by
  intro n
  induction n with
  | zero =>
    intro F bn hm h1
    refine hasF (k := 1) F sc_law_yq_same hm (bd_law_yq_same F) bn rfl (fun _ _ _ _ ⟨_, e, _⟩ => by rw [e]; rfl) fun cdv A outer s H E hr ds M Q Xd h => ?_
    obtain ⟨d, rfl, sm, hQ⟩ := h
    conv => arg 2; whnf
    cases d <;> first | exact False.elim sm | skip
    · tlg_ne
      exact hQ
    · rename_i b
      cases b <;> (tlg_ne; exact hQ)
    · tlg_ne
      exact bt_ee (P := Q) hQ
    · tlg_ne
      exact bt_ee (P := Q) hQ
  | succ n ih =>
    intro F bn hm h1
    have h2 := ih F bn hm h1
    refine hasF (k := n + 2) F sc_law_yq_same hm (bd_law_yq_same F) bn rfl (fun _ _ _ _ ⟨_, e, _⟩ => by rw [e]; rfl) fun cdv A outer s H E hr ds M Q Xd h => ?_
    obtain ⟨d, rfl, sm, hQ⟩ := h
    conv => arg 2; whnf
    cases d <;> first | exact False.elim sm | skip
    · tlg_ne
      exact hQ
    · rename_i b
      cases b <;> (tlg_ne; exact hQ)
    · tlg_ne
      exact bt_ee (P := Q) hQ
    · tlg_ne
      exact bt_ee (P := Q) hQ
    · rename_i xs
      tlg_ne
      refine qs_for (qi_range1 ?_)
      tlg_ne
      refine ⟨by have := sm.1; omega, by have := sm.1; omega, fun i ρ' M' => M' = M ∧ ∃ x, ρ' = [some (.lst xs), some (.lst xs), x], ⟨rfl, none, rfl⟩, ?_, ?_⟩
      · rintro i x ρ' M' hx ⟨rfl, x0, rfl⟩
        obtain ⟨hi, rfl⟩ := rngD_get hx
        have hi' : i < xs.length := by simpa using hi
        refine qg_name 2 rfl (by kbo_bools) ?_
        have hat : atI xs (0 + (i : Int)) = some xs[i] := atI_n (by simp [hi'])
        have hs : Sm n xs[i] := sm.2 _ (List.getElem_mem hi')
        generalize xs[i] = v at hat hs
        tlg_ne
        refine qe_call h2 (by exact Nat.le_refl _) rfl ?_
        tlg_ne
        refine ix_l hat ?_
        tlg_ne
        refine ix_l hat ?_
        tlg_ne
        refine ⟨hs, ?_⟩
        tlg_ne
        exact ⟨rfl, _, rfl⟩
      · rintro ρ' M' ⟨rfl, x0, rfl⟩
        tlg_ne
        exact hQ
    · rename_i xs
      tlg_ne
      refine qs_for (qi_range1 ?_)
      tlg_ne
      refine ⟨by have := sm.1; omega, by have := sm.1; omega, fun i ρ' M' => M' = M ∧ ∃ x, ρ' = [some (.tup xs), some (.tup xs), x], ⟨rfl, none, rfl⟩, ?_, ?_⟩
      · rintro i x ρ' M' hx ⟨rfl, x0, rfl⟩
        obtain ⟨hi, rfl⟩ := rngD_get hx
        have hi' : i < xs.length := by simpa using hi
        refine qg_name 2 rfl (by kbo_bools) ?_
        have hat : atI xs (0 + (i : Int)) = some xs[i] := atI_n (by simp [hi'])
        have hs : Sm n xs[i] := sm.2 _ (List.getElem_mem hi')
        generalize xs[i] = v at hat hs
        tlg_ne
        refine qe_call h2 (by exact Nat.le_refl _) rfl ?_
        tlg_ne
        refine ix_t hat ?_
        tlg_ne
        refine ix_t hat ?_
        tlg_ne
        refine ⟨hs, ?_⟩
        tlg_ne
        exact ⟨rfl, _, rfl⟩
      · rintro ρ' M' ⟨rfl, x0, rfl⟩
        tlg_ne
        exact hQ
theorem sm_ints (n : Nat) {ns : List Int} (h : ns.length < 1073741824) : Sm (n + 1) (.lst (ns.map .int)) := by
  refine ⟨by rw [List.length_map]; exact h, fun x hx => ?_⟩
  obtain ⟨i, rfl, _⟩ := memI hx
  cases n <;> trivial
theorem sm_tup2 {n : Nat} {a b : D} (h1 : Sm n a) (h2 : Sm n b) : Sm (n + 1) (.tup [a, b]) := ⟨by simp, fun x hx => by
  simp at hx
  rcases hx with rfl | rfl
  · exact h1
  · exact h2⟩
theorem sm_tup3 {n : Nat} {a b c : D} (h1 : Sm n a) (h2 : Sm n b) (h3 : Sm n c) : Sm (n + 1) (.tup [a, b, c]) := ⟨by simp, fun x hx => by
  simp at hx
  rcases hx with rfl | rfl | rfl
  · exact h1
  · exact h2
  · exact h3⟩
theorem sm_lst2 {n : Nat} {a b : D} (h1 : Sm n a) (h2 : Sm n b) : Sm (n + 1) (.lst [a, b]) := ⟨by simp, fun x hx => by
  simp at hx
  rcases hx with rfl | rfl
  · exact h1
  · exact h2⟩
theorem sm_str {n : Nat} {x : Str} : Sm n (.str x) := by cases n <;> trivial

end
section
variable {P : Program} {w : World} {K : PySem.W.Frag} {mg : Str → Option Value} {base : Heap} {T : List (Addr × Str)} {f : Addr} {fd : FuncData}
/-! ### levels -/
def cGood (r : D) : Con := fun ds M Q _ => ∃ ns : List Int, ds = [.lst (ns.map .int)] ∧ Lv ns ∧ Q r M
theorem has_wrong_level (F : Fun K "wrong_level" "wrong_level" s_wrong_level f fd) (bn : BN mg) (hm : mg "wrong_level" = some (.ref f)) (h1 : HasF P w K mg base T "in_range" 3 2 cInR) (g1 : ∃ t, mg "MAX_LEVEL" = some (.int 10000 t)) : HasF P w K mg base T "wrong_level" 1 3 (cGood (.int (-1))) := by
  refine hasF (k := 2) F sc_wrong_level hm (bd_wrong_level F) bn rfl (fun _ _ _ _ ⟨_, e, _⟩ => by rw [e]; rfl) fun cdv A outer s H E hr ds M Q Xd h => ?_
  obtain ⟨ns, rfl, lv, hQ⟩ := h
  conv => arg 2; whnf
  refine qss_cons (qs_for (qi_enum ?_))
  tlg_ne
  refine ⟨_, .inl rfl, fun i ρ' M' => M' = M ∧ ∃ x y, ρ' = [some (.lst (ns.map .int)), x, y], ⟨rfl, none, none, rfl⟩, ?_, ?_⟩
  · rintro i x ρ' M' hx ⟨rfl, x1, x2, rfl⟩
    obtain ⟨y, e1, rfl⟩ := enumD_get hx
    obtain ⟨n, rfl, _, hn⟩ := int_at e1
    refine qg_tup (qgs_name 1 rfl (by kbo_bools) (qgs_name 2 rfl (by kbo_bools) (qgs_nil ?_)))
    have e : inR (.int n) 0 10000 = true := by
      have := lv.le n hn
      simp [inR, this.1, this.2]
    tlg_ne
    rw [e]
    tlg_ne
    exact ⟨rfl, _, _, rfl⟩
  · rintro ρ' M' ⟨rfl, x1, x2, rfl⟩
    tlg_ne
    exact hQ
theorem has_has_length (F : Fun K "has_length" "has_length" s_has_length f fd) (bn : BN mg) (hm : mg "has_length" = some (.ref f)) (g1 : ∃ t, mg "MAX_LEVELS" = some (.int 20 t)) : HasF P w K mg base T "has_length" 1 1 (cGood (.bl true)) := by
  refine hasF F sc_has_length hm (bd_has_length F) bn rfl (fun _ _ _ _ ⟨_, e, _⟩ => by rw [e]; rfl) fun cdv A outer s H E hr ds M Q Xd h => ?_
  obtain ⟨ns, rfl, lv, hQ⟩ := h
  conv => arg 2; whnf
  tlg_ne
  have l1 := lv.lo
  have l2 := lv.hi
  rw [List.length_map]
  refine ⟨fun c => ?_, fun c => ?_⟩
  · tlg_ne
    show Q (.bl (decide ((ns.length : Int) ≤ 20))) M
    rw [decide_eq_true (by omega)]
    exact hQ
  · have c : decide ((1 : Int) ≤ (ns.length : Int)) = false := c
    rw [decide_eq_true (by omega)] at c
    cases c
theorem has_check_levels (F : Fun K "check_levels" "check_levels" s_check_levels f fd) (bn : BN mg) (hm : mg "check_levels" = some (.ref f)) (h1 : HasF P w K mg base T "wrong_level" 1 3 (cGood (.int (-1)))) (h2 : HasF P w K mg base T "has_length" 1 1 (cGood (.bl true))) : HasF P w K mg base T "check_levels" 1 4 (cGood .non) := by
  refine hasF (k := 3) F sc_check_levels hm (bd_check_levels F) bn rfl (fun _ _ _ _ ⟨_, e, _⟩ => by rw [e]; rfl) fun cdv A outer s H E hr ds M Q Xd h => ?_
  obtain ⟨ns, rfl, lv, hQ⟩ := h
  conv => arg 2; whnf
  tlg_ne
  refine ⟨lv, ?_⟩
  tlg_ne
  refine ⟨lv, ?_⟩
  tlg_ne
  exact hQ
/-! ### the same by the law's own words -/
def cFrk : Con := fun ds M Q _ => ∃ ns : List Int, ds = [.lst (ns.map .int)] ∧ ns.length < 1000 ∧ Q (.lst ((rk ns).map .int)) M
theorem has_law_fv_ranked (F : Fun K "_law_fv_ranked" "_law_fv_ranked" s_law_fv_ranked f fd) (bn : BN mg) (hm : mg "_law_fv_ranked" = some (.ref f)) : HasF P w K mg base T "_law_fv_ranked" 1 1 cFrk := by
  refine hasF F sc_law_fv_ranked hm (bd_law_fv_ranked F) bn rfl (fun _ _ _ _ ⟨_, e, _⟩ => by rw [e]; rfl) fun cdv A outer s H E hr ds M Q Xd h => ?_
  obtain ⟨ns, rfl, hl, hQ⟩ := h
  conv => arg 2; whnf
  tlg_ne
  refine qe_compP [("x", 1)] idI (qi_list ?_) (by exact blkOk_by (N := n_law_fv_ranked) (sc := defScope s_law_fv_ranked) (by decide +kernel))
  tlg_ne
  refine ⟨_, .inl rfl, by rw [List.length_map]; exact Nat.lt_trans hl (by decide), ?_, ?_⟩
  · intro i x hx M' s H cc cl fp
    obtain ⟨n, rfl, _, _⟩ := int_at hx
    refine qgw_name 1 (by decide) rfl (by kbo_bools) ?_
    intro s2 H2 cc2 cl2 fp2
    refine qts_nil ⟨rfl, fun _ s H cc cl fp => ?_, fun z => Bool.noConfusion z⟩
    tlg_ne
    exact ⟨rfl, rfl⟩
  rw [idI_map]
  tlg_ne
  unfold rk at hQ
  rw [List.map_reverse] at hQ
  exact hQ
def shareV (t a m : Int) : Int := t / a * m + (if t % a - (a - m) > 0 then t % a - (a - m) else 0)
def cInner : Con := fun ds M Q _ => ∃ t a m, ds = [.int t, .int a, .int m] ∧ 1 ≤ a ∧ a ≤ 100000 ∧ 0 ≤ m ∧ m ≤ a ∧ Q (.int (shareV t a m)) M
theorem has_even_share_inner (F : Fun K "even_share_inner" "even_share_inner" s_even_share_inner f fd) (bn : BN mg) (hm : mg "even_share_inner" = some (.ref f)) : HasF P w K mg base T "even_share_inner" 3 1 cInner := by
  refine hasF F sc_even_share_inner hm (bd_even_share_inner F) bn rfl (fun _ _ _ _ ⟨_, _, _, e, _⟩ => by rw [e]; rfl) fun cdv A outer s H E hr ds M Q Xd h => ?_
  obtain ⟨t, a, m, rfl, h1, h2, h3, h4, hQ⟩ := h
  conv => arg 2; whnf
  refine qss_cons (qs_asg ?_)
  tlg_ne
  refine qg_tup (qgs_name 3 rfl (by kbo_bools) (qgs_name 4 rfl (by kbo_bools) (qgs_nil ?_)))
  tlg_ne
  unfold shareV at hQ
  refine ⟨fun h => ?_, fun h => ?_⟩
  · have e : t % a - (a - m) > 0 := by simpa using h
    rw [if_pos e] at hQ
    tlg_ne
    exact hQ
  · have e : ¬ t % a - (a - m) > 0 := by simpa using h
    rw [if_neg e] at hQ
    tlg_ne
    exact hQ
def cShare : Con := fun ds M Q _ => ∃ t a m, ds = [.int t, .int a, .int m] ∧ 1 ≤ a ∧ a ≤ 100000 ∧ 0 ≤ m ∧ m ≤ a ∧ Q (.int (shareV t a m)) M
theorem has_law_fv_share (F : Fun K "_law_fv_share" "_law_fv_share" s_law_fv_share f fd) (bn : BN mg) (hm : mg "_law_fv_share" = some (.ref f)) : HasF P w K mg base T "_law_fv_share" 3 1 cShare := by
  refine hasF F sc_law_fv_share hm (bd_law_fv_share F) bn rfl (fun _ _ _ _ ⟨_, _, _, e, _⟩ => by rw [e]; rfl) fun cdv A outer s H E hr ds M Q Xd h => ?_
  obtain ⟨t, a, m, rfl, h1, h2, h3, h4, hQ⟩ := h
  conv => arg 2; whnf
  refine qss_cons (qs_par 3 4 rfl rfl (by decide) rfl rfl ?_)
  tlg_ne
  have e : (if m - (a - t % a) > 0 then m - (a - t % a) else 0) = (if t % a - (a - m) > 0 then t % a - (a - m) else 0) := by
    split <;> split <;> omega
  unfold shareV at hQ
  rw [e]
  exact hQ

end
section
variable {P : Program} {w : World} {K : PySem.W.Frag} {mg : Str → Option Value} {base : Heap} {T : List (Addr × Str)} {f : Addr} {fd : FuncData}
theorem blk_total {k : Nat} {h left : Int} (hk : 1 ≤ k) : ((k : Int) * h + left) / k = h + left / k ∧ ((k : Int) * h + left) % k = left % k := by
  constructor
  · rw [Int.add_comm, Int.add_mul_ediv_left _ _ (by omega)]; omega
  · rw [Int.add_comm, Int.add_mul_emod_self_left]
def cFpo : Con := fun ds M Q _ => ∃ (ns : List Int) (m : Int), ds = [.lst (ns.map .int), .int m] ∧ 1 ≤ ns.length ∧ ns.length ≤ 20 ∧ 0 ≤ m ∧ Q (.lst ((po ns m).map .int)) M
theorem has_law_fv_poured (F : Fun K "_law_fv_poured" "_law_fv_poured" s_law_fv_poured f fd) (bn : BN mg) (hm : mg "_law_fv_poured" = some (.ref f)) : HasF P w K mg base T "_law_fv_poured" 2 1 cFpo := by
  refine hasF F sc_law_fv_poured hm (bd_law_fv_poured F) bn rfl (fun _ _ _ _ ⟨_, _, e, _⟩ => by rw [e]; rfl) fun cdv A outer s H E hr ds M Q Xd h => ?_
  obtain ⟨ns, wr, rfl, hlo, hl, w0, hQ⟩ := h
  conv => arg 2; whnf
  tlg_ne
  refine qe_compP [("x", 3)] idI (qi_list ?_) (by exact blkOk_by (N := n_law_fv_poured) (sc := defScope s_law_fv_poured) (by decide +kernel))
  tlg_ne
  refine ⟨_, .inl rfl, by rw [List.length_map]; exact Nat.lt_of_le_of_lt hl (by decide), ?_, ?_⟩
  · intro i x hx M' s H cc cl fp
    obtain ⟨n, rfl, _, _⟩ := int_at hx
    refine qgw_name 3 (by decide) rfl (by kbo_bools) ?_
    intro s2 H2 cc2 cl2 fp2
    refine qts_nil ⟨rfl, fun _ s H cc cl fp => ?_, fun z => Bool.noConfusion z⟩
    tlg_ne
    exact ⟨rfl, rfl⟩
  rw [idI_map]
  iterate 2 (first | cc_off | cc_are | nest_cls)
  have hs := srt_sorted ns
  have hsl := srt_len ns
  have hpo : po ns wr = (pourA (srt ns) wr).reverse := rfl
  have hso : (pourA (srt ns) wr).Pairwise (· ≤ ·) := by rw [pourA_nat hs w0]; exact stN_sorted _ hs
  rw [hpo] at hQ
  clear hpo
  generalize srt ns = low at hs hsl hQ hso ⊢
  obtain ⟨x0, rest0, rfl⟩ : ∃ a l, low = a :: l := by
    cases low with
    | nil => simp at hsl; omega
    | cons a l => exact ⟨a, l, rfl⟩
  refine qss_cons (qs_par 4 5 rfl rfl (by decide) rfl rfl ?_)
  tlg_ne
  refine ix_lI (x := x0) (by decide) rfl ?_
  tlg_ne
  refine qs_cut (fun ρ' M' => M' = M ∧ ∃ (k : Nat) (h left : Int) (rest : List Int) (d3 : Option D), 1 ≤ k ∧ k ≤ 20 ∧ 0 ≤ left ∧ (x0 :: rest0).drop k = rest ∧ rest.length ≤ 20 ∧ pourA (x0 :: rest0) wr = blkP k h left ++ rest ∧ ρ' = [some (.lst (ns.map .int)), some (.int wr), some (.lst ((x0 :: rest0).map .int)), d3, some (.int k), some (.int (k * h + left)), none, none]) (qs_while (fun m ρ' M' => M' = M ∧ ∃ (k : Nat) (h left : Int) (rest : List Int) (d3 : Option D), m = rest.length ∧ 1 ≤ k ∧ k + rest.length ≤ 20 ∧ 0 ≤ left ∧ (x0 :: rest0).drop k = rest ∧ (x0 :: rest0).length = k + rest.length ∧ (h :: rest).Pairwise (· ≤ ·) ∧ pourA (x0 :: rest0) wr = pin k h left rest ∧ ρ' = [some (.lst (ns.map .int)), some (.int wr), some (.lst ((x0 :: rest0).map .int)), d3, some (.int k), some (.int (k * h + left)), none, none]) ⟨_, rfl, 1, x0, wr, rest0, none, rfl, by omega, by simp at hsl; omega, w0, rfl, by simp; omega, hs, rfl, by simp⟩ ?_) ?_
  · rintro m ρ' M' ⟨rfl, k, h, left, rest, d3, rfl, k1, k2, l0, hd, hk, hs, hp, rfl⟩
    tlg_ne
    rw [List.length_map, hk]
    refine ⟨fun c => ?_, fun c => ?_⟩
    · have c : (k : Int) < ((k + rest.length : Nat) : Int) := of_decide_eq_true c
      obtain ⟨y, rest', rfl⟩ : ∃ y r, rest = y :: r := by
        cases rest with
        | nil => simp at c
        | cons y r => exact ⟨y, r, rfl⟩
      have hy : (x0 :: rest0)[((k : Nat) : Int).toNat]? = some y := by
        have e : ((x0 :: rest0).drop k)[0]? = some y := by rw [hd]; rfl
        rw [List.getElem?_drop] at e
        simpa using e
      have kl : k ≤ 20 := by omega
      have hs2 := (List.pairwise_cons.mp hs).2
      have hd2 : (x0 :: rest0).drop (k + 1) = rest' := by
        rw [← List.drop_drop, hd]; rfl
      tlg_ne
      refine ix_lI (x := y) (by omega) hy ?_
      tlg_ne
      have key : (y * k < k * h + left) ↔ left > k * (y - h) := by
        rw [Int.mul_sub, Int.mul_comm y k]; omega
      refine ⟨fun c2 => ?_, fun c2 => ?_⟩
      · have c2 : left > k * (y - h) := key.mp (of_decide_eq_true c2)
        tlg_ne
        refine ix_lI (x := y) (by omega) hy ?_
        tlg_ne
        refine ⟨rest'.length, by simp, rfl, k + 1, y, left - k * (y - h), rest', d3, rfl, by omega, by simp at k2; omega, by omega, hd2, by simp at hk ⊢; omega, hs2, ?_, ?_⟩
        · rw [hp, pin, if_pos c2]
        · have e : (k : Int) * h + left + y = ((k + 1 : Nat) : Int) * y + (left - k * (y - h)) := by
            rw [Int.mul_sub, Int.natCast_succ, Int.add_mul]; omega
          rw [← e]
          rfl
      · have c2 : ¬ left > k * (y - h) := fun z => of_decide_eq_false c2 (key.mpr z)
        tlg_ne
        refine ⟨rfl, k, h, left, y :: rest', d3, k1, kl, l0, hd, by omega, ?_, rfl⟩
        rw [hp, pin, if_neg c2]
    · have c : ¬ (k : Int) < ((k + rest.length : Nat) : Int) := of_decide_eq_false c
      obtain rfl : rest = [] := by
        cases rest with
        | nil => rfl
        | cons y r => rw [List.length_cons] at c; omega
      tlg_ne
      refine ⟨rfl, k, h, left, [], d3, k1, by omega, l0, hd, by simp, ?_, rfl⟩
      rw [hp, pin]; simp
  · rintro ρ' M' ⟨rfl, k, h, left, rest, d3, k1, k2, l0, hd, hr', hp, rfl⟩
    have r0 := Int.emod_nonneg left (show (k : Int) ≠ 0 by omega)
    have r1 := Int.emod_lt_of_pos left (show (0 : Int) < k by omega)
    obtain ⟨t1, t2⟩ := blk_total (h := h) (left := left) k1
    refine qss_cons (qs_par 6 7 rfl rfl (by decide) rfl rfl ?_)
    tlg_ne
    rw [t1, t2]
    tlg_ne
    refine mul_lI (by omega) (by omega) (by simp only [sizeLine]; omega) ?_
    tlg_ne
    refine mul_lI (by omega) (by omega) (by simp only [sizeLine]; omega) ?_
    refine add_lI (by simp only [List.length_replicate, sizeLine]; omega) ?_
    tlg_ne
    rw [cutD_map, cut_from (by omega), Int.toNat_natCast, hd]
    refine add_lI (by simp only [List.length_append, List.length_replicate, sizeLine]; omega) ?_
    tlg_ne
    have e : (k - (left % k).toNat : Nat) = ((k : Int) - left % k).toNat := by omega
    have e2 : srt (List.replicate (left % k).toNat (h + left / k + 1) ++ List.replicate ((k : Int) - left % k).toNat (h + left / k) ++ rest) = pourA (x0 :: rest0) wr := by
      refine (srt_unique ?_ hso).symm
      rw [hp, blkP, e]
      exact List.Perm.append_right _ List.perm_append_comm
    rw [e2, ← List.map_reverse]
    exact hQ
def cFem : Con := fun ds M Q _ => ∃ (ns : List Int) (m : Int), ds = [.lst (ns.map .int), .int m] ∧ ns.length ≤ 20 ∧ 0 ≤ m ∧ Q (.lst ((em ns m).map .int)) M
theorem has_law_fv_emptied (F : Fun K "_law_fv_emptied" "_law_fv_emptied" s_law_fv_emptied f fd) (bn : BN mg) (hm : mg "_law_fv_emptied" = some (.ref f)) (h1 : HasF P w K mg base T "_law_fv_ranked" 1 1 cFrk) : HasF P w K mg base T "_law_fv_emptied" 2 2 cFem := by
  refine hasF (k := 1) F sc_law_fv_emptied hm (bd_law_fv_emptied F) bn rfl (fun _ _ _ _ ⟨_, _, e, _⟩ => by rw [e]; rfl) fun cdv A outer s H E hr ds M Q Xd h => ?_
  obtain ⟨ns, m, rfl, hl, m0, hQ⟩ := h
  conv => arg 2; whnf
  tlg_ne
  refine ⟨by omega, ?_⟩
  tlg_ne
  rw [List.length_map, rk_len]
  have e : (if ((ns.length : Nat) : Int) < m then ((ns.length : Nat) : Int) else m) = ((min m.toNat ns.length : Nat) : Int) := by
    split <;> omega
  rw [e]
  tlg_ne
  rw [cutD_map, cut_from (by omega), Int.toNat_natCast]
  refine mul_lI (by omega) (by omega) (by simp only [sizeLine]; omega) ?_
  refine add_lI (by simp only [List.length_drop, List.length_replicate, rk_len, sizeLine]; omega) ?_
  have e3 : (rk ns).drop (min m.toNat ns.length) = (rk ns).drop m.toNat := by
    have := rk_len ns
    by_cases c : m.toNat ≤ ns.length
    · rw [Nat.min_eq_left c]
    · rw [Nat.min_eq_right (by omega), List.drop_of_length_le (by omega), List.drop_of_length_le (show (rk ns).length ≤ m.toNat by omega)]
  rw [Int.toNat_natCast, e3]
  exact hQ
/-! ### what is heard -/

end
section
variable {P : Program} {w : World} {K : PySem.W.Frag} {mg : Str → Option Value} {base : Heap} {T : List (Addr × Str)} {f : Addr} {fd : FuncData}
theorem perm_ints {ys : List D} {ns : List Int} (h : ys.Perm (ns.map D.int)) : ∃ ns' : List Int, ys = ns'.map D.int := by
  have all : ∀ y ∈ ys, ∃ n, y = D.int n := fun y hy => by
    obtain ⟨n, e, _⟩ := memI (h.mem_iff.mp hy)
    exact ⟨n, e⟩
  clear h
  induction ys with
  | nil => exact ⟨[], rfl⟩
  | cons y ys ih =>
    obtain ⟨n, rfl⟩ := all y List.mem_cons_self
    obtain ⟨ns', rfl⟩ := ih fun z hz => all z (List.mem_cons_of_mem _ hz)
    exact ⟨n :: ns', rfl⟩
def unI : D → Int
  | .int i => i
  | _ => 0
theorem unI_map : ∀ ns : List Int, (ns.map D.int).map unI = ns
  | [] => rfl
  | n :: ns => by rw [List.map_cons, List.map_cons, unI_map ns]; rfl
theorem perm_ints2 {ms ns : List Int} (h : (ms.map D.int).Perm (ns.map D.int)) : ms.Perm ns := by
  have := h.map unI
  rwa [unI_map, unI_map] at this
def cDrawn : Con := fun ds M Q _ => ∃ (j : Addr) (m : Int), ds = [.oth (.ref j), .int m] ∧ JarAt M j ∧ 1 ≤ m ∧ m ≤ 20 ∧ ∀ (ns : List Int) M', Lv ns → JM j M M' → Q (.lst (ns.map .int)) M'
theorem lv_of {ns : List Int} {m : Int} (h1 : 1 ≤ m) (h2 : m ≤ 20) (hl : ns.length = m.toNat) (h : ∀ n ∈ ns, 0 ≤ n ∧ n ≤ 10000) : Lv ns := ⟨by omega, by omega, h⟩
theorem has_law_fv_drawn_levels (F : Fun K "_law_fv_drawn_levels" "_law_fv_drawn_levels" s_law_fv_drawn_levels f fd) (bn : BN mg) (hm : mg "_law_fv_drawn_levels" = some (.ref f)) (h1 : HasF P w K mg base T "_law_take" 2 1 cTake) (h2 : HasF P w K mg base T "_law_one" 2 2 cOne) (h3 : HasF P w K mg base T "_law_mixed" 2 2 cMixed) : HasF P w K mg base T "_law_fv_drawn_levels" 2 3 cDrawn := by
  refine hasF (k := 2) F sc_law_fv_drawn_levels hm (bd_law_fv_drawn_levels F) bn rfl (fun _ _ _ _ ⟨_, _, e, _⟩ => by rw [e]; rfl) fun cdv A outer s H E hr ds M Q Xd h => ?_
  obtain ⟨j, m, rfl, hj, m1, m2, hQ⟩ := h
  conv => arg 2; whnf
  tlg_ne
  refine ⟨by omega, by omega, fun r M1 r0 r1 jm => ?_⟩
  have hj1 := jm.at
  tlg_ne
  refine ⟨fun c => ?_, fun _ => ?_⟩
  · tlg_ne
    refine mul_lI (by omega) (by omega) (by simp only [sizeLine]; omega) ?_
    exact hQ _ _ (lv_of m1 m2 (by simp) (fun n hn => by rw [(List.mem_replicate.mp hn).2]; omega)) jm
  tlg_ne
  refine ⟨fun c => ?_, fun _ => ?_⟩
  · tlg_ne
    refine ⟨by simp, by simp, fun i x M2 hx jm2 => ?_⟩
    obtain ⟨n, rfl, n1, n2⟩ : ∃ n, x = .int n ∧ 0 ≤ n ∧ n ≤ 10000 := by
      have h := List.mem_of_getElem? hx
      simp at h
      rcases h with rfl | rfl | rfl <;> exact ⟨_, rfl, by omega, by omega⟩
    tlg_ne
    refine mul_lI (by omega) (by omega) (by simp only [sizeLine]; omega) ?_
    exact hQ _ _ (lv_of m1 m2 (by simp) (fun n' hn => by rw [(List.mem_replicate.mp hn).2]; exact ⟨n1, n2⟩)) (jm.trans jm2)
  tlg_ne
  refine ⟨fun c => ?_, fun _ => ?_⟩
  · tlg_ne
    refine qe_compJ [("at", 3)] j 0 10000 (qi_range1 ?_) (by exact blkOk_by (N := n_law_fv_drawn_levels) (sc := defScope s_law_fv_drawn_levels) (by decide +kernel))
    tlg_ne
    refine ⟨by omega, by omega, hj1, by rw [rngD_length]; simp only [sizeLine]; omega, ?_, ?_⟩
    · intro i x M2 hx hj2 s H cc cl fp
      obtain ⟨hi, rfl⟩ := rngD_get hx
      refine qgw_name 3 (by decide) rfl (by kbo_bools) ?_
      intro s2 H2 cc2 cl2 fp2
      refine qts_nil ⟨rfl, fun s H cc cl fp => ?_⟩
      tlg_ne
      refine ⟨by simp, by simp, fun i1 x1 M3 hx1 jm1 => ?_⟩
      obtain ⟨n, rfl, n1, n2⟩ : ∃ n, x1 = .int n ∧ 0 ≤ n ∧ n ≤ 7 := by
        have h := List.mem_of_getElem? hx1
        simp at h
        rcases h with rfl | rfl | rfl <;> exact ⟨_, rfl, by omega, by omega⟩
      tlg_ne
      have b0 : 0 ≤ (0 + (i : Int)) * n := Int.mul_nonneg (by omega) n1
      have b1 : (0 + (i : Int)) * n ≤ 20 * 7 := Int.mul_le_mul (by omega) n2 n1 (by omega)
      exact ⟨b0, by omega, jm1⟩
    · intro ns M2 jm2 hlen hall
      tlg_ne
      rw [List.length_map]
      rw [rngD_length] at hlen
      refine ⟨by omega, fun ys M3 hp jm3 => ?_⟩
      obtain ⟨ns', rfl⟩ : ∃ ns' : List Int, ys = ns'.map D.int := perm_ints hp
      have hp' := perm_ints2 hp
      refine hQ _ _ (lv_of m1 m2 (by rw [hp'.length_eq]; exact hlen) (fun n hn => hall n (hp'.mem_iff.mp hn))) ((jm.trans jm2).trans jm3)
  tlg_ne
  refine ⟨fun c => ?_, fun _ => ?_⟩
  · tlg_ne
    refine qe_compJ [("go", 4)] j 0 10000 (qi_range1 ?_) (by exact blkOk_by (N := n_law_fv_drawn_levels) (sc := defScope s_law_fv_drawn_levels) (by decide +kernel))
    tlg_ne
    refine ⟨by omega, by omega, hj1, by rw [rngD_length]; simp only [sizeLine]; omega, ?_, ?_⟩
    · intro i x M2 hx hj2 s H cc cl fp
      obtain ⟨hi, rfl⟩ := rngD_get hx
      refine qgw_name 4 (by decide) rfl (by kbo_bools) ?_
      intro s2 H2 cc2 cl2 fp2
      refine qts_nil ⟨rfl, fun s H cc cl fp => ?_⟩
      tlg_ne
      refine ⟨by omega, by omega, fun q M3 q0 q1 jm3 => ?_⟩
      tlg_ne
      refine ⟨by simp, by simp, fun i1 x1 M4 hx1 jm4 => ?_⟩
      have h := List.mem_of_getElem? hx1
      simp at h
      rcases h with rfl | rfl | rfl | rfl | rfl <;> exact ⟨_, rfl, by omega, by omega, jm3.trans jm4⟩
    · intro ns M2 jm2 hlen hall
      rw [rngD_length] at hlen
      exact hQ _ _ (lv_of m1 m2 hlen hall) (jm.trans jm2)
  tlg_ne
  refine ⟨fun c => ?_, fun _ => ?_⟩
  · tlg_ne
    refine qe_compJ [("go", 4)] j 0 10000 (qi_range1 ?_) (by exact blkOk_by (N := n_law_fv_drawn_levels) (sc := defScope s_law_fv_drawn_levels) (by decide +kernel))
    tlg_ne
    refine ⟨by omega, by omega, hj1, by rw [rngD_length]; simp only [sizeLine]; omega, ?_, ?_⟩
    · intro i x M2 hx hj2 s H cc cl fp
      obtain ⟨hi, rfl⟩ := rngD_get hx
      refine qgw_name 4 (by decide) rfl (by kbo_bools) ?_
      intro s2 H2 cc2 cl2 fp2
      refine qts_nil ⟨rfl, fun s H cc cl fp => ?_⟩
      tlg_ne
      refine ⟨by omega, by omega, fun q M3 q0 q1 jm3 => ?_⟩
      tlg_ne
      refine ⟨by simp, by simp, fun i1 x1 M4 hx1 jm4 => ?_⟩
      have h := List.mem_of_getElem? hx1
      simp at h
      rcases h with rfl | rfl | rfl | rfl <;> exact ⟨_, rfl, by omega, by omega, jm3.trans jm4⟩
    · intro ns M2 jm2 hlen hall
      rw [rngD_length] at hlen
      exact hQ _ _ (lv_of m1 m2 hlen hall) (jm.trans jm2)
  tlg_ne
  refine qe_compJ [("go", 4)] j 0 10000 (qi_range1 ?_) (by exact blkOk_by (N := n_law_fv_drawn_levels) (sc := defScope s_law_fv_drawn_levels) (by decide +kernel))
  tlg_ne
  refine ⟨by omega, by omega, hj1, by rw [rngD_length]; simp only [sizeLine]; omega, ?_, ?_⟩
  · intro i x M2 hx hj2 s H cc cl fp
    obtain ⟨hi, rfl⟩ := rngD_get hx
    refine qgw_name 4 (by decide) rfl (by kbo_bools) ?_
    intro s2 H2 cc2 cl2 fp2
    refine qts_nil ⟨rfl, fun s H cc cl fp => ?_⟩
    tlg_ne
    refine ⟨by simp, by simp, fun i1 x1 M4 hx1 jm4 => ?_⟩
    obtain ⟨n, rfl, n1, n2⟩ : ∃ n, x1 = .int n ∧ 1 ≤ n ∧ n ≤ 30 := by
      have h := List.mem_of_getElem? hx1
      simp at h
      rcases h with rfl | rfl | rfl <;> exact ⟨_, rfl, by omega, by omega⟩
    tlg_ne
    refine ⟨by omega, by omega, fun q M3 q0 q1 jm3 => ?_⟩
    exact ⟨_, rfl, by omega, by omega, jm4.trans jm3⟩
  · intro ns M2 jm2 hlen hall
    rw [rngD_length] at hlen
    exact hQ _ _ (lv_of m1 m2 hlen hall) (jm.trans jm2)

end
section
variable {P : Program} {w : World} {K : PySem.W.Frag} {mg : Str → Option Value} {base : Heap} {T : List (Addr × Str)} {f : Addr} {fd : FuncData}
/-! ### rates, falls -/
def rateD (p s : Nat) : D := .tup [.int (p : Nat), .int (s : Nat)]
structure Rt (p s : Nat) : Prop where
  p1 : 1 ≤ p
  p2 : p ≤ 1000
  s1 : 1 ≤ s
  s2 : s ≤ 20
def cRate (r : D) : Con := fun ds M Q _ => ∃ p s : Nat, ds = [.tup [.int (p : Nat), .int (s : Nat)]] ∧ Rt p s ∧ Q r M
theorem has_is_rate (F : Fun K "is_rate" "is_rate" s_is_rate f fd) (bn : BN mg) (hm : mg "is_rate" = some (.ref f)) (h1 : HasF P w K mg base T "in_range" 3 2 cInR) (g1 : ∃ t, mg "MAX_PACE" = some (.int 1000 t)) (g2 : ∃ t, mg "MAX_STEPS" = some (.int 20 t)) : HasF P w K mg base T "is_rate" 1 3 (cRate (.bl true)) := by
  refine hasF (k := 2) F sc_is_rate hm (bd_is_rate F) bn rfl (fun _ _ _ _ ⟨_, _, e, _⟩ => by rw [e]; rfl) fun cdv A outer s H E hr ds M Q Xd h => ?_
  obtain ⟨p, s, rfl, rt, hQ⟩ := h
  obtain ⟨p1, p2, s1, s2⟩ := rt
  conv => arg 2; whnf
  have e1 : inR (.int (p : Nat)) 1 1000 = true := by simp [inR]; omega
  have e2 : inR (.int (s : Nat)) 1 20 = true := by simp [inR]; omega
  tlg_ne
  refine ix_t rfl ?_
  tlg_ne
  rw [e1]
  tlg_ne
  refine ix_t rfl ?_
  tlg_ne
  rw [e2]
  exact hQ
theorem has_check_rate (F : Fun K "check_rate" "check_rate" s_check_rate f fd) (bn : BN mg) (hm : mg "check_rate" = some (.ref f)) (h1 : HasF P w K mg base T "is_rate" 1 3 (cRate (.bl true))) : HasF P w K mg base T "check_rate" 1 4 (cRate .non) := by
  refine hasF (k := 3) F sc_check_rate hm (bd_check_rate F) bn rfl (fun _ _ _ _ ⟨_, _, e, _⟩ => by rw [e]; rfl) fun cdv A outer s H E hr ds M Q Xd h => ?_
  obtain ⟨p, s, rfl, rt, hQ⟩ := h
  conv => arg 2; whnf
  tlg_ne
  refine ⟨rt, ?_⟩
  tlg_ne
  exact hQ
def cLive : Con := fun ds M Q _ => ∃ m s r : Nat, ds = [.int (m : Nat), .int (s : Nat), .int (r : Nat)] ∧ s ≤ 20 ∧ Q (.int (lvN m s r : Nat)) M
theorem has_live (F : Fun K "live" "live" s_live f fd) (bn : BN mg) (hm : mg "live" = some (.ref f)) : HasF P w K mg base T "live" 3 1 cLive := by
  refine hasF F sc_live hm (bd_live F) bn rfl (fun _ _ _ _ ⟨_, _, _, e, _⟩ => by rw [e]; rfl) fun cdv A outer s H E hr ds M Q Xd h => ?_
  obtain ⟨m, s, r, rfl, s2, hQ⟩ := h
  conv => arg 2; whnf
  tlg_ne
  rw [lvN_int] at hQ
  refine ⟨fun c => ?_, fun c => ?_⟩
  · have c : (m : Int) < 1 + (r : Int) * (s : Int) := of_decide_eq_true c
    rw [if_pos c] at hQ
    tlg_ne
    exact hQ
  · have c : ¬ (m : Int) < 1 + (r : Int) * (s : Int) := of_decide_eq_false c
    rw [if_neg c] at hQ
    tlg_ne
    exact hQ

end
section
variable {P : Program} {w : World} {K : PySem.W.Frag} {mg : Str → Option Value} {base : Heap} {T : List (Addr × Str)} {f : Addr} {fd : FuncData}
theorem has_law_fv_live (F : Fun K "_law_fv_live" "_law_fv_live" s_law_fv_live f fd) (bn : BN mg) (hm : mg "_law_fv_live" = some (.ref f)) : HasF P w K mg base T "_law_fv_live" 3 1 cLive := by
  refine hasF F sc_law_fv_live hm (bd_law_fv_live F) bn rfl (fun _ _ _ _ ⟨_, _, _, e, _⟩ => by rw [e]; rfl) fun cdv A outer s H E hr ds M Q Xd h => ?_
  obtain ⟨m, s, r, rfl, s2, hQ⟩ := h
  conv => arg 2; whnf
  tlg_ne
  rw [lvN_int] at hQ
  have e : (if 1 + (r : Int) * (s : Int) < (m : Int) then 1 + (r : Int) * (s : Int) else (m : Int)) = (if (m : Int) < 1 + (r : Int) * (s : Int) then (m : Int) else 1 + (r : Int) * (s : Int)) := by
    split <;> split <;> omega
  rw [e]
  exact hQ
def wideN (m s : Nat) : Nat := (m - 1 + s - 1) / s
theorem wide_ok {m s : Nat} (h : 1 ≤ s) : m ≤ 1 + wideN m s * s := by
  have d := Nat.div_add_mod (m - 1 + s - 1) s
  have r := Nat.mod_lt (m - 1 + s - 1) (show 0 < s by omega)
  unfold wideN
  rw [Nat.mul_comm] at d
  omega
theorem wide_le {m s : Nat} (h : 1 ≤ s) (h2 : m ≤ 20) (h3 : s ≤ 20) : wideN m s ≤ 39 := by
  unfold wideN
  exact Nat.le_trans (Nat.div_le_self _ _) (by omega)
def cWide : Con := fun ds M Q _ => ∃ m p s : Nat, ds = [.int (m : Nat), .tup [.int (p : Nat), .int (s : Nat)]] ∧ 1 ≤ m ∧ m ≤ 20 ∧ Rt p s ∧ Q (.int (wideN m s : Nat)) M
theorem has_law_fv_wide (F : Fun K "_law_fv_wide" "_law_fv_wide" s_law_fv_wide f fd) (bn : BN mg) (hm : mg "_law_fv_wide" = some (.ref f)) : HasF P w K mg base T "_law_fv_wide" 2 1 cWide := by
  refine hasF F sc_law_fv_wide hm (bd_law_fv_wide F) bn rfl (fun _ _ _ _ ⟨_, _, _, e, _⟩ => by rw [e]; rfl) fun cdv A outer s H E hr ds M Q Xd h => ?_
  obtain ⟨m, p, s, rfl, m1, m2, rt, hQ⟩ := h
  obtain ⟨p1, p2, s1, s2⟩ := rt
  conv => arg 2; whnf
  tlg_ne
  refine ix_t rfl ?_
  tlg_ne
  refine ix_t rfl ?_
  tlg_ne
  have e : ((m : Int) - 1 + (s : Int) - 1) / (s : Int) = ((wideN m s : Nat) : Int) := by
    unfold wideN
    rw [show (m : Int) - 1 + (s : Int) - 1 = ((m - 1 + s - 1 : Nat) : Int) by omega, Int.natCast_ediv]
  rw [e]
  exact hQ
def cRun : Con := fun ds M Q _ => ∃ (l : List Int) (p s : Nat), ds = [.lst (l.map .int), .tup [.int (p : Nat), .int (s : Nat)]] ∧ 1 ≤ l.length ∧ l.length ≤ 20 ∧ Q (.lst ((em (po l p) s).map .int)) M
theorem has_law_fv_run (F : Fun K "_law_fv_run" "_law_fv_run" s_law_fv_run f fd) (bn : BN mg) (hm : mg "_law_fv_run" = some (.ref f)) (h1 : HasF P w K mg base T "_law_fv_poured" 2 1 cFpo) (h2 : HasF P w K mg base T "_law_fv_emptied" 2 2 cFem) : HasF P w K mg base T "_law_fv_run" 2 3 cRun := by
  refine hasF (k := 2) F sc_law_fv_run hm (bd_law_fv_run F) bn rfl (fun _ _ _ _ ⟨_, _, _, e, _⟩ => by rw [e]; rfl) fun cdv A outer s H E hr ds M Q Xd h => ?_
  obtain ⟨l, p, s, rfl, l1, l2, hQ⟩ := h
  conv => arg 2; whnf
  tlg_ne
  refine ix_t rfl ?_
  tlg_ne
  refine ⟨l1, l2, by omega, ?_⟩
  tlg_ne
  refine ix_t rfl ?_
  tlg_ne
  exact ⟨by rw [po_len (by omega)]; exact l2, by omega, hQ⟩
def cFallen : Con := fun ds M Q _ => ∃ (rows : List Int) (m p s r : Nat), ds = [.lst (rows.reverse.map .int), .int (m : Nat), .tup [.int (p : Nat), .int (s : Nat)], .int (r : Nat)] ∧ 1 ≤ m ∧ m ≤ 20 ∧ Rt p s ∧ r ≤ 1000 ∧ Up rows ∧ rows.length = lvN m s r ∧ ∀ v, fallA m p s r rows = [v] → Q (.int (v + (p : Nat))) M
theorem has_law_fv_fallen (F : Fun K "_law_fv_fallen" "_law_fv_fallen" s_law_fv_fallen f fd) (bn : BN mg) (hm : mg "_law_fv_fallen" = some (.ref f)) (h1 : HasF P w K mg base T "_law_fv_poured" 2 1 cFpo) (h2 : HasF P w K mg base T "_law_fv_live" 3 1 cLive) : HasF P w K mg base T "_law_fv_fallen" 4 2 cFallen := by
  refine hasF (k := 1) F sc_law_fv_fallen hm (bd_law_fv_fallen F) bn rfl (fun _ _ _ _ ⟨_, _, _, _, _, e, _⟩ => by rw [e]; rfl) fun cdv A outer s H E hr ds M Q Xd h => ?_
  obtain ⟨rows, m, p, s, r, rfl, m1, m2, rt, r2, up, hl, hQ⟩ := h
  obtain ⟨p1, p2, s1, s2⟩ := rt
  conv => arg 2; whnf
  refine qss_cons (qs_asg ?_)
  tlg_ne
  refine qg_tup (qgs_name 4 rfl (by kbo_bools) (qgs_name 5 rfl (by kbo_bools) (qgs_nil ?_)))
  refine qss_cons (qs_for (qi_down ?_))
  tlg_ne
  rw [show ((r : Int) - 0).toNat = r by omega]
  refine ⟨⟨by omega, by omega, by decide, by decide⟩, fun i ρ' M' => M' = M ∧ ∃ (rs : List Int) (x : Option D), Up rs ∧ rs.length = lvN m s (r - i) ∧ i ≤ r ∧ fallA m p s (r - i) rs = fallA m p s r rows ∧ ρ' = [some (.lst (rs.reverse.map .int)), some (.int m), some (.tup [.int (p : Nat), .int (s : Nat)]), some (.int r), some (.int p), some (.int s), x], ⟨rfl, rows, none, up, hl, by omega, rfl, rfl⟩, ?_, ?_⟩
  · rintro i x ρ' M' hx ⟨rfl, rs, x0, up', hl', hi, hf, rfl⟩
    obtain ⟨hi', rfl⟩ := downD_get hx
    obtain ⟨k, hk⟩ : ∃ k, r - i = k + 1 := ⟨r - i - 1, by omega⟩
    rw [hk] at hl' hf
    have lp := lvN_pos (steps := s) (r := k + 1) m1
    have ll := lvN_le (many := m) (steps := s) (r := k + 1)
    have ll2 := lvN_le (many := m) (steps := s) (r := k)
    have ln := lvN_next (many := m) (steps := s) (r := k)
    have sl := stN_len p rs
    refine qg_name 6 rfl (by kbo_bools) ?_
    refine qss_cons (qs_set 0 rfl (by kbo_bools) (qe_slice ?_))
    tlg_ne
    refine ⟨by rw [List.length_reverse]; omega, by rw [List.length_reverse]; omega, by omega, ?_⟩
    rw [po_rev up'.so]
    tlg_ne
    rw [cutD_map, cut_from (by omega), Int.toNat_natCast, List.drop_reverse, sl]
    rw [show (r : Int) - (i : Int) - 1 = ((k : Nat) : Int) by omega]
    refine ⟨m, s, k, rfl, s2, ?_⟩
    tlg_ne
    rw [List.length_map, List.length_reverse, List.length_take, sl, Nat.min_eq_left (Nat.sub_le _ _)]
    refine mul_lI (by omega) (by omega) (by simp only [sizeLine]; omega) ?_
    refine add_lI (by simp only [List.length_replicate, List.length_reverse, List.length_take, sizeLine]; omega) ?_
    refine ⟨rfl, cutA (stN p rs) s (lvN m s k), some (.int ((r : Int) - (i : Int))), (up'.pour p).cut s _, ?_, by omega, ?_, ?_⟩
    · rw [cutA_len (by rw [stN_len, hl']; exact ln), show r - (i + 1) = k by omega]
    · rw [show r - (i + 1) = k by omega, ← hf, fallA]
    · rw [cutA, List.reverse_append, List.reverse_replicate, sl, show (((lvN m s k : Nat) : Int) - ((rs.length - s : Nat) : Int)).toNat = lvN m s k - (rs.length - s) by omega]
      rfl
  · rintro ρ' M' ⟨rfl, rs, x0, up', hl', hi, hf, rfl⟩
    rw [downD_length] at hl' hf
    obtain ⟨v, hv⟩ := fall_one (pace := p) m1 hl
    rw [Nat.sub_self, fallA, hv] at hf
    subst hf
    tlg_ne
    refine ix_lI (x := v) (by decide) rfl ?_
    tlg_ne
    exact hQ v hv

end
section
variable {P : Program} {w : World} {K : PySem.W.Frag} {mg : Str → Option Value} {base : Heap} {T : List (Addr × Str)} {f : Addr} {fd : FuncData}
/-- top rows of the whole line, after the rounds that are too many -/
theorem forced_eq {ns : List Int} {p s r : Nat} (hn : ∀ x ∈ ns, 0 ≤ x) (h : wideN ns.length s ≤ r) (hs : 1 ≤ s) :
    fallA ns.length p s (min r (wideN ns.length s)) ((runN p s (r - wideN ns.length s) (srt ns)).drop (ns.length - lvN ns.length s (min r (wideN ns.length s)))) = fallA ns.length p s r ((srt ns).drop (ns.length - lvN ns.length s r)) := by
  have hw := wide_ok (m := ns.length) hs
  have e1 : lvN ns.length s (wideN ns.length s) = ns.length := by unfold lvN; omega
  have e2 : lvN ns.length s r = ns.length := by
    obtain ⟨d, rfl⟩ : ∃ d, r = wideN ns.length s + d := ⟨r - wideN ns.length s, by omega⟩
    unfold lvN
    rw [Nat.add_mul]
    omega
  rw [Nat.min_eq_right h, e1, e2, Nat.sub_self, List.drop_zero, List.drop_zero, ← fall_runs hw (srt_len ns), show wideN ns.length s + (r - wideN ns.length s) = r by omega]
def cFfor : Con := fun ds M Q _ => ∃ (ns : List Int) (p s r : Nat), ds = [.lst (ns.map .int), .tup [.int (p : Nat), .int (s : Nat)], .int (r : Nat)] ∧ Lv ns ∧ Rt p s ∧ r ≤ 1000 ∧ ∀ v, fallA ns.length p s r ((srt ns).drop (ns.length - lvN ns.length s r)) = [v] → Q (.int (v + (p : Nat))) M
theorem has_law_fv_forced (F : Fun K "_law_fv_forced" "_law_fv_forced" s_law_fv_forced f fd) (bn : BN mg) (hm : mg "_law_fv_forced" = some (.ref f)) (h1 : HasF P w K mg base T "_law_fv_ranked" 1 1 cFrk) (h2 : HasF P w K mg base T "_law_fv_live" 3 1 cLive) (h3 : HasF P w K mg base T "_law_fv_wide" 2 1 cWide)
    (h4 : HasF P w K mg base T "_law_fv_run" 2 3 cRun) (h5 : HasF P w K mg base T "_law_fv_fallen" 4 2 cFallen) : HasF P w K mg base T "_law_fv_forced" 3 4 cFfor := by
  refine hasF (k := 3) F sc_law_fv_forced hm (bd_law_fv_forced F) bn rfl (fun _ _ _ _ ⟨_, _, _, _, e, _⟩ => by rw [e]; rfl) fun cdv A outer s H E hr ds M Q Xd h => ?_
  obtain ⟨ns, p, s, r, rfl, lv, rt, r2, hQ⟩ := h
  have hl := lv.hi
  have hlo := lv.lo
  have hnn : ∀ x ∈ ns, 0 ≤ x := fun x hx => (lv.le x hx).1
  have up0 := Up.srt hnn
  have sl0 := srt_len ns
  have hw := wide_ok (m := ns.length) rt.s1
  have hwl := wide_le rt.s1 hl rt.s2
  conv => arg 2; whnf
  refine qss_cons (qs_par 3 4 rfl rfl (by decide) rfl rfl ?_)
  tlg_ne
  rw [List.length_map]
  refine ⟨by omega, ?_⟩
  tlg_ne
  refine ⟨hlo, hl, rt, ?_⟩
  tlg_ne
  refine qs_cut (fun ρ' M' => M' = M ∧ ∃ x6 x7, ρ' = [some (.lst (ns.map .int)), some (.tup [.int (p : Nat), .int (s : Nat)]), some (.int (r : Nat)), some (.int (ns.length : Nat)), some (.lst ((runN p s (r - wideN ns.length s) (srt ns)).reverse.map .int)), some (.int (wideN ns.length s : Nat)), x6, x7, none]) (qs_for (qi_range1 ?_)) ?_
  · tlg_ne
    rw [show (if (r : Int) - ((wideN ns.length s : Nat) : Int) > 0 then (r : Int) - ((wideN ns.length s : Nat) : Int) else 0) = ((r - wideN ns.length s : Nat) : Int) by split <;> omega]
    refine ⟨by omega, by omega, fun i ρ' M' => M' = M ∧ i ≤ r - wideN ns.length s ∧ ∃ x6 x7, ρ' = [some (.lst (ns.map .int)), some (.tup [.int (p : Nat), .int (s : Nat)]), some (.int (r : Nat)), some (.int (ns.length : Nat)), some (.lst ((runN p s i (srt ns)).reverse.map .int)), some (.int (wideN ns.length s : Nat)), x6, x7, none], ⟨rfl, Nat.zero_le _, none, none, rfl⟩, ?_, ?_⟩
    · rintro i x ρ' M' hx ⟨rfl, hi0, x6, x7, rfl⟩
      obtain ⟨hi, rfl⟩ := rngD_get hx
      have hi' : i < r - wideN ns.length s := by simpa using hi
      have upi : Up (runN p s i (srt ns)) := up0.runN
      have len_i : (runN p s i (srt ns)).length = ns.length := by rw [runN_len, sl0]
      have sc := runN_succ (p := p) (s := s) (n := i) (l := srt ns)
      refine qg_name 6 rfl (by kbo_bools) ?_
      tlg_ne
      refine ⟨by rw [List.length_reverse]; omega, by rw [List.length_reverse]; omega, ?_⟩
      rw [em_run upi, ← sc]
      tlg_ne
      refine eq_ints ?_
      tlg_ne
      refine ⟨fun c => ?_, fun c => ?_⟩
      · have c := of_decide_eq_true c
        have c : runA p s (runN p s i (srt ns)) = runN p s i (srt ns) := by
          rw [← sc]; exact List.reverse_inj.mp c
        refine qss_one (qs_break ?_)
        have e : runN p s (r - wideN ns.length s) (srt ns) = runN p s i (srt ns) := by
          obtain ⟨d, hd⟩ : ∃ d, r - wideN ns.length s = i + d := ⟨r - wideN ns.length s - i, by omega⟩
          rw [hd, runN_add, runN_fix c]
        rw [e]
        exact ⟨rfl, _, _, rfl⟩
      · tlg_ne
        exact ⟨rfl, by omega, _, _, rfl⟩
    · rintro ρ' M' ⟨rfl, hi0, x6, x7, rfl⟩
      rw [rngD_length, Int.toNat_natCast]
      exact ⟨rfl, _, _, rfl⟩
  · rintro ρ' M' ⟨rfl, x6, x7, rfl⟩
    have upx : Up (runN p s (r - wideN ns.length s) (srt ns)) := up0.runN
    have lenx : (runN p s (r - wideN ns.length s) (srt ns)).length = ns.length := by rw [runN_len, sl0]
    tlg_ne
    rw [show (if ((wideN ns.length s : Nat) : Int) < (r : Int) then ((wideN ns.length s : Nat) : Int) else (r : Int)) = ((min r (wideN ns.length s) : Nat) : Int) by split <;> omega]
    have ml := lvN_le (many := ns.length) (steps := s) (r := min r (wideN ns.length s))
    tlg_ne
    refine ix_t rfl ?_
    tlg_ne
    refine ⟨rt.s2, ?_⟩
    tlg_ne
    rw [cutD_map, cut_to (by omega) (by rw [List.length_reverse, lenx]; omega), Int.toNat_natCast, List.take_reverse, lenx]
    refine ⟨(runN p s (r - wideN ns.length s) (srt ns)).drop (ns.length - lvN ns.length s (min r (wideN ns.length s))), ns.length, p, s, min r (wideN ns.length s), rfl, hlo, hl, rt, by omega, upx.drop _, by rw [List.length_drop, lenx]; omega, fun v hv => hQ v ?_⟩
    by_cases c : wideN ns.length s ≤ r
    · rw [forced_eq hnn c rt.s1] at hv
      exact hv
    · rw [Nat.min_eq_left (by omega), show r - wideN ns.length s = 0 by omega] at hv
      exact hv

end
section
variable {P : Program} {w : World} {K : PySem.W.Frag} {mg : Str → Option Value} {base : Heap} {T : List (Addr × Str)} {f : Addr} {fd : FuncData}
def cDrawnRate : Con := fun ds M Q _ => ∃ j : Addr, ds = [.oth (.ref j)] ∧ JarAt M j ∧ ∀ (p s : Nat) M', Rt p s → JM j M M' → Q (.tup [.int (p : Nat), .int (s : Nat)]) M'
theorem nat_of {n : Int} (h : 0 ≤ n) : ∃ k : Nat, n = (k : Nat) := ⟨n.toNat, by omega⟩
theorem has_law_fv_drawn_rate (F : Fun K "_law_fv_drawn_rate" "_law_fv_drawn_rate" s_law_fv_drawn_rate f fd) (bn : BN mg) (hm : mg "_law_fv_drawn_rate" = some (.ref f)) (h1 : HasF P w K mg base T "_law_take" 2 1 cTake) (h2 : HasF P w K mg base T "_law_one" 2 2 cOne) : HasF P w K mg base T "_law_fv_drawn_rate" 1 3 cDrawnRate := by
  refine hasF (k := 2) F sc_law_fv_drawn_rate hm (bd_law_fv_drawn_rate F) bn rfl (fun _ _ _ _ ⟨_, e, _⟩ => by rw [e]; rfl) fun cdv A outer s H E hr ds M Q Xd h => ?_
  obtain ⟨j, rfl, hj, hQ⟩ := h
  conv => arg 2; whnf
  tlg_ne
  refine ⟨by omega, by omega, fun a M1 a0 a1 jm1 => ?_⟩
  tlg_ne
  refine ⟨by omega, by omega, fun b M2 b0 b1 jm2 => ?_⟩
  tlg_ne
  refine ⟨by simp, by simp, fun i x M3 hx jm3 => ?_⟩
  obtain ⟨n, rfl, n0, n1⟩ : ∃ n, x = .int n ∧ 1 ≤ n ∧ n ≤ 1000 := by
    have h := List.mem_of_getElem? hx
    simp at h
    rcases h with rfl | rfl | rfl | rfl | rfl | rfl | rfl <;> exact ⟨_, rfl, by omega, by omega⟩
  tlg_ne
  refine ⟨by omega, by omega, fun c M4 c0 c1 jm4 => ?_⟩
  tlg_ne
  refine ⟨by simp, by simp, fun i y M5 hy jm5 => ?_⟩
  obtain ⟨m, rfl, m0, m1⟩ : ∃ n, y = .int n ∧ 1 ≤ n ∧ n ≤ 20 := by
    have h := List.mem_of_getElem? hy
    simp at h
    rcases h with rfl | rfl | rfl | rfl | rfl <;> exact ⟨_, rfl, by omega, by omega⟩
  tlg_ne
  obtain ⟨p, rfl⟩ := nat_of (show 0 ≤ n by omega)
  obtain ⟨s, rfl⟩ := nat_of (show 0 ≤ m by omega)
  exact hQ p s M5 ⟨by omega, by omega, by omega, by omega⟩ ((((jm1.trans jm2).trans jm3).trans jm4).trans jm5)
def fv (ns : List Int) (p s r : Nat) : Int := (fallA ns.length p s r ((srt ns).drop (ns.length - lvN ns.length s r))).headD 0 + (p : Nat)
theorem fv_eq {ns : List Int} {p s r : Nat} {v : Int} (h : fallA ns.length p s r ((srt ns).drop (ns.length - lvN ns.length s r)) = [v]) : v + (p : Nat) = fv ns p s r := by
  unfold fv; rw [h]; rfl
theorem cut_mem {xs : List Int} {l u : Option Int} {x : Int} (h : x ∈ Q.cutD xs l u) : x ∈ xs := List.mem_of_mem_drop (List.mem_of_mem_take h)
theorem cut_len {α : Type} {xs : List α} {l u : Option Int} : (Q.cutD xs l u).length ≤ xs.length := by
  unfold Q.cutD; rw [List.length_take, List.length_drop]; omega

end
section
variable {P : Program} {w : World} {K : PySem.W.Frag} {mg : Str → Option Value} {base : Heap} {T : List (Addr × Str)} {f : Addr} {fd : FuncData}
/-! ### stairs: plain -/
def hdI (l : List Int) : Int := l.headD 1
def needV (m s r : Nat) (w : Int) : Int := w - (lvN m s r : Nat) + (lvN m s (r + 1) : Nat) - (s : Nat)
/-- grounded at the first rung or behind -/
def grF (m s : Nat) : List Int → Bool
  | [] => false
  | _ :: rest => grF m s rest || decide (needV m s rest.length (hdI rest) < 1)
def rgB (m s : Nat) (g : Bool) (nd top : Int) (v : D) : Bool := if g = true then inR v 0 0 else inR v nd top
/-- the greatest wrong index, or -1 -/
def wrD (m s : Nat) : List D → Int
  | [] => -1
  | v :: rest => if 0 ≤ wrD m s rest then wrD m s rest + 1 else
    if rgB m s (grF m s (unI v :: rest.map unI)) (needV m s rest.length (hdI (rest.map unI))) (lvN m s (rest.length + 1) : Nat) v = true then -1 else 0
/-- the needs, nought from the ground on -/
def ndC (m s : Nat) : List Int → List Int
  | [] => []
  | v :: rest => (if grF m s (v :: rest) = true then 0 else needV m s rest.length (hdI rest)) :: ndC m s rest
/-- .. as they are -/
def ndU (m s : Nat) : List Int → List Int
  | [] => []
  | _ :: rest => needV m s rest.length (hdI rest) :: ndU m s rest
/-- the shares from rung to rung -/
def stV (p m s : Nat) : List Int → Int → Int
  | [], t => t
  | v :: rest, t => stV p m s rest (if v > 0 then shareV (t + (p : Nat)) v (needV m s rest.length (hdI rest)) else t)
theorem wrD_lo (m s : Nat) : ∀ st : List D, -1 ≤ wrD m s st
  | [] => by rw [wrD]; omega
  | v :: rest => by
    have := wrD_lo m s rest
    rw [wrD]
    split
    · omega
    · split <;> omega
theorem wrD_hi (m s : Nat) : ∀ st : List D, wrD m s st < st.length
  | [] => by rw [wrD]; simp
  | v :: rest => by
    have := wrD_hi m s rest
    rw [wrD, List.length_cons]
    split
    · omega
    · split <;> omega
theorem wrD_app (m s : Nat) {sf : List D} (h : 0 ≤ wrD m s sf) : ∀ pre : List D, wrD m s (pre ++ sf) = pre.length + wrD m s sf
  | [] => by simp
  | v :: pre => by
    have ih := wrD_app m s h pre
    rw [List.cons_append, wrD, ih, if_pos (by omega), List.length_cons]
    omega
theorem inR_int {v : D} {lo hi : Int} (h : inR v lo hi = true) : ∃ i, v = .int i ∧ lo ≤ i ∧ i ≤ hi := by
  cases v with
  | int i =>
    refine ⟨i, rfl, ?_⟩
    simpa [inR] using h
  | _ => cases h
theorem wrD_tail {m s : Nat} {v : D} {rest : List D} (h : wrD m s (v :: rest) = -1) : wrD m s rest = -1 ∧ rgB m s (grF m s (unI v :: rest.map unI)) (needV m s rest.length (hdI (rest.map unI))) (lvN m s (rest.length + 1) : Nat) v = true := by
  have lo := wrD_lo m s rest
  rw [wrD] at h
  split at h
  · omega
  · split at h
    · rename_i h1 h2
      exact ⟨by omega, h2⟩
    · omega
theorem wrD_int {m s : Nat} : ∀ {st : List D}, wrD m s st = -1 → ∃ ns : List Int, st = ns.map .int
  | [], _ => ⟨[], rfl⟩
  | v :: rest, h => by
    obtain ⟨h1, h2⟩ := wrD_tail h
    obtain ⟨ns, e⟩ := wrD_int h1
    unfold rgB at h2
    split at h2
    · obtain ⟨i, rfl, _⟩ := inR_int h2
      exact ⟨i :: ns, by rw [e]; rfl⟩
    · obtain ⟨i, rfl, _⟩ := inR_int h2
      exact ⟨i :: ns, by rw [e]; rfl⟩
theorem map_unI (ns : List Int) : (ns.map D.int).map unI = ns := unI_map ns
/-- a right stair of ints: what each rung keeps -/
inductive Rst (m s : Nat) : List Int → Prop
  | nil : Rst m s []
  | zero {rest : List Int} : Rst m s rest → grF m s (0 :: rest) = true → Rst m s (0 :: rest)
  | rung {v : Int} {rest : List Int} : Rst m s rest → grF m s (v :: rest) = false → 1 ≤ needV m s rest.length (hdI rest) → needV m s rest.length (hdI rest) ≤ v → v ≤ (lvN m s (rest.length + 1) : Nat) → Rst m s (v :: rest)
theorem Rst.of {m s : Nat} : ∀ {ns : List Int}, wrD m s (ns.map .int) = -1 → Rst m s ns
  | [], _ => .nil
  | v :: rest, h => by
    obtain ⟨h1, h2⟩ := wrD_tail (v := .int v) (rest := rest.map .int) h
    have r := Rst.of h1
    rw [map_unI, List.length_map] at h2
    unfold rgB at h2
    have e : unI (.int v) = v := rfl
    rw [e] at h2
    split at h2
    · rename_i g
      obtain ⟨i, ei, a, b⟩ := inR_int h2
      cases ei
      obtain rfl : v = 0 := by omega
      exact .zero r g
    · rename_i g
      obtain ⟨i, ei, a, b⟩ := inR_int h2
      cases ei
      have g' : grF m s (v :: rest) = false := by simpa using g
      refine .rung r g' ?_ a b
      rw [grF, Bool.or_eq_false_iff, decide_eq_false_iff_not] at g'
      omega
theorem Rst.wr {m s : Nat} : ∀ {ns : List Int}, Rst m s ns → wrD m s (ns.map .int) = -1
  | [], _ => rfl
  | v :: rest, h => by
    have e : unI (.int v) = v := rfl
    cases h with
    | zero r g =>
      rw [List.map_cons, wrD, r.wr, if_neg (by omega), map_unI, e, if_pos]
      rw [rgB, if_pos g]; rfl
    | rung r g a b c =>
      rw [List.map_cons, wrD, r.wr, if_neg (by omega), map_unI, e, List.length_map, if_pos]
      rw [rgB, if_neg (by rw [g]; decide)]
      simp [inR, b, c]
theorem Rst.tail {m s : Nat} {v : Int} {rest : List Int} (h : Rst m s (v :: rest)) : Rst m s rest := by
  cases h with
  | zero r _ => exact r
  | rung r _ _ _ _ => exact r
theorem Rst.nn {m s : Nat} {v : Int} {rest : List Int} (h : Rst m s (v :: rest)) : 0 ≤ v := by
  cases h with
  | zero r _ => exact Int.le_refl 0
  | rung r _ a b _ => omega
theorem Rst.drop {m s : Nat} : ∀ {ns : List Int} (k : Nat), Rst m s ns → Rst m s (ns.drop k)
  | _, 0, h => h
  | [], _ + 1, _ => .nil
  | _ :: _, k + 1, h => Rst.drop k h.tail
theorem Rst.hd {m s : Nat} {ns : List Int} (hm : 1 ≤ m) (h : Rst m s ns) : hdI ns ≤ (lvN m s ns.length : Nat) ∧ 0 ≤ hdI ns := by
  have lp := lvN_pos (steps := s) (r := ns.length) hm
  cases h with
  | nil => unfold hdI; simp only [List.headD_nil]; exact ⟨by omega, by omega⟩
  | zero r g => exact ⟨by show (0 : Int) ≤ _; omega, Int.le_refl 0⟩
  | rung r g a b c =>
    rename_i v rest
    exact ⟨c, (by omega : (0 : Int) ≤ v)⟩
theorem Rst.ground {m s : Nat} {ns : List Int} (h : Rst m s ns) (g : grF m s ns = true) : hdI ns = 0 := by
  cases h with
  | nil => cases g
  | zero r _ => rfl
  | rung r g' _ _ _ => rw [g'] at g; cases g
/-! ### no less than the fall -/
theorem sum_nn : ∀ {l : List Int}, (∀ x ∈ l, 0 ≤ x) → 0 ≤ l.sum
  | [], _ => by simp
  | x :: l, h => by
    have := sum_nn (l := l) fun y hy => h y (List.mem_cons_of_mem _ hy)
    have := h x List.mem_cons_self
    rw [List.sum_cons]; omega
theorem sum_un : ∀ {l m : List Int}, Un l m → l.sum ≤ m.sum
  | _, _, .nil => Int.le_refl _
  | _, _, .cons h t => by
    have := sum_un t
    rw [List.sum_cons, List.sum_cons]; omega
theorem sum_ge : ∀ {l : List Int} {x : Int}, (∀ y ∈ l, x ≤ y) → (l.length : Int) * x ≤ l.sum
  | [], _, _ => by simp
  | y :: l, x, h => by
    have := sum_ge (l := l) fun z hz => h z (List.mem_cons_of_mem _ hz)
    have := h y List.mem_cons_self
    rw [List.sum_cons, List.length_cons]
    have e : ((l.length + 1 : Nat) : Int) * x = (l.length : Int) * x + x := by rw [Int.natCast_add, Int.add_mul]; simp
    omega
theorem sum_le : ∀ {l : List Int} {x : Int}, (∀ y ∈ l, y ≤ x) → l.sum ≤ (l.length : Int) * x
  | [], _, _ => by simp
  | y :: l, x, h => by
    have := sum_le (l := l) fun z hz => h z (List.mem_cons_of_mem _ hz)
    have := h y List.mem_cons_self
    rw [List.sum_cons, List.length_cons]
    have e : ((l.length + 1 : Nat) : Int) * x = (l.length : Int) * x + x := by rw [Int.natCast_add, Int.add_mul]; simp
    omega
theorem sum_td (l : List Int) (k : Nat) : (l.take k).sum + (l.drop k).sum = l.sum := by
  rw [← List.sum_append, List.take_append_drop]
theorem low_arith {S R t n K q e x : Int} (nk : K ≤ n) (k0 : 0 ≤ K) (a1 : S ≤ K * x) (a2 : (n - K) * x ≤ R) (a3 : S + R ≤ t) (d1 : n * q + e = t) (d2 : 0 ≤ e) : S ≤ q * K + (if e - (n - K) > 0 then e - (n - K) else 0) := by
  by_cases c : x ≤ q
  · have m1 : K * x ≤ K * q := Int.mul_le_mul_of_nonneg_left c k0
    rw [Int.mul_comm q K]
    split <;> omega
  · have m1 : (n - K) * (q + 1) ≤ (n - K) * x := Int.mul_le_mul_of_nonneg_left (by omega) (by omega)
    rw [Int.mul_add, Int.sub_mul, Int.mul_one] at m1
    rw [Int.mul_comm q K]
    split <;> omega
/-- the m lowest of a sorted line hold no more than their even share -/
theorem low_share {l : List Int} {t : Int} {k : Nat} (so : l.Pairwise (· ≤ ·)) (hs : l.sum ≤ t) (h1 : 1 ≤ k) (h2 : k ≤ l.length) : (l.take k).sum ≤ shareV t l.length k := by
  have hx : k - 1 < l.length := by omega
  have lo : ∀ y ∈ l.take k, y ≤ l[k - 1] := by
    intro y hy
    obtain ⟨i, hi, rfl⟩ := List.mem_iff_getElem.mp hy
    rw [List.getElem_take]
    rw [List.length_take] at hi
    by_cases e : i = k - 1
    · subst e; exact Int.le_refl _
    · exact List.pairwise_iff_getElem.mp so i (k - 1) (by omega) hx (by omega)
  have hi : ∀ y ∈ l.drop k, l[k - 1] ≤ y := by
    intro y hy
    obtain ⟨i, hi, rfl⟩ := List.mem_iff_getElem.mp hy
    rw [List.getElem_drop]
    rw [List.length_drop] at hi
    exact List.pairwise_iff_getElem.mp so (k - 1) (k + i) hx (by omega) (by omega)
  generalize l[k - 1] = x at lo hi
  have a1 := sum_le lo
  have a2 := sum_ge hi
  have a3 := sum_td l k
  rw [List.length_take, Nat.min_eq_left h2] at a1
  rw [List.length_drop] at a2
  have ck : ((l.length - k : Nat) : Int) = (l.length : Int) - (k : Int) := by omega
  rw [ck] at a2
  exact low_arith (by omega) (by omega) a1 a2 (by omega) (Int.mul_ediv_add_emod t (l.length : Int)) (Int.emod_nonneg t (show (l.length : Int) ≠ 0 by omega))
theorem take_sum_mono {l : List Int} (h : ∀ x ∈ l, 0 ≤ x) (k : Nat) : 0 ≤ (l.take k).sum := sum_nn fun x hx => h x (List.mem_of_mem_take hx)
theorem st_fall {p m s : Nat} (hm : 1 ≤ m) : ∀ {st rows : List Int} {t v : Int}, Rst m s st → Up rows → rows.length = lvN m s st.length → (rows.take (hdI st).toNat).sum ≤ t → fallA m p s st.length rows = [v] → v ≤ stV p m s st t
  | [], rows, t, v, _, up, hl, ht, hv => by
    rw [List.length_nil, fallA] at hv
    subst hv
    rw [stV]
    simpa [hdI] using ht
  | u :: rest, rows, t, v, hst, up, hl, ht, hv => by
    rw [List.length_cons] at hl hv
    rw [fallA] at hv
    have ln := lvN_next (many := m) (steps := s) (r := rest.length)
    have upP := up.pour p
    have hlP : (stN p rows).length = lvN m s (rest.length + 1) := by rw [stN_len, hl]
    have upC : Up (cutA (stN p rows) s (lvN m s rest.length)) := upP.cut _ _
    have hlC : (cutA (stN p rows) s (lvN m s rest.length)).length = lvN m s rest.length := cutA_len (by rw [hlP]; exact ln)
    rw [stV]
    refine st_fall hm hst.tail upC hlC ?_ hv
    have t0 : 0 ≤ t := Int.le_trans (take_sum_mono up.nn _) ht
    obtain ⟨w1, w0⟩ := hst.tail.hd hm
    -- the lowest of the next line are noughts and the lowest of the poured one
    have key : ((cutA (stN p rows) s (lvN m s rest.length)).take (hdI rest).toNat).sum = ((stN p rows).take (needV m s rest.length (hdI rest)).toNat).sum := by
      unfold cutA
      rw [hlP, List.take_append, List.sum_append, List.length_replicate, List.take_replicate, List.sum_replicate_int, Int.mul_zero, Int.zero_add, List.take_take]
      unfold needV
      congr 2
      omega
    rw [key]
    cases hst with
    | zero r g =>
      rw [if_neg (by omega)]
      rw [grF, Bool.or_eq_true] at g
      have z : (needV m s rest.length (hdI rest)).toNat = 0 := by
        rcases g with g | g
        · have := r.ground g
          rw [this]
          unfold needV
          omega
        · have := of_decide_eq_true g
          omega
      rw [z, List.take_zero, List.sum_nil]
      exact t0
    | rung r g a b c =>
      rw [if_pos (by omega)]
      have eu : ((u.toNat : Nat) : Int) = u := by omega
      have en : (((needV m s rest.length (hdI rest)).toNat : Nat) : Int) = needV m s rest.length (hdI rest) := by omega
      have hu : u.toNat ≤ rows.length := by omega
      have l1 : ((stN p rows).take u.toNat).length = u.toNat := by rw [List.length_take, stN_len]; omega
      have s1 : ((stN p rows).take u.toNat).sum ≤ t + (p : Nat) := by
        have h1 := sum_td (stN p rows) u.toNat
        have h2 := sum_td rows u.toNat
        have h3 := sum_un ((un_upN up.so p).drop u.toNat)
        have h4 := stN_sum p (l := rows) (by intro z; rw [z] at hu; simp at hu; omega)
        have h5 : (rows.take u.toNat).sum ≤ t := ht
        omega
      have := low_share (l := (stN p rows).take u.toNat) (t := t + (p : Nat)) (k := (needV m s rest.length (hdI rest)).toNat) (upP.take _).so s1 (by omega) (by omega)
      rw [l1, eu, en, List.take_take, Nat.min_eq_left (by omega)] at this
      exact this
/-- what a right stair tells -/
def sv0 (ns : List Int) (m s : Nat) (st : List Int) : Int := (((srt ns).drop (m - lvN m s st.length)).take (hdI st).toNat).sum
def sv (ns : List Int) (p s : Nat) (st : List Int) : Int := stV p ns.length s st (sv0 ns ns.length s st) + (p : Nat)
theorem fv_sv {ns st : List Int} {p s : Nat} (lv : Lv ns) (h : Rst ns.length s st) : fv ns p s st.length ≤ sv ns p s st := by
  have up : Up ((srt ns).drop (ns.length - lvN ns.length s st.length)) := (Up.srt fun x hx => (lv.le x hx).1).drop _
  have ll := lvN_le (many := ns.length) (steps := s) (r := st.length)
  have hl : ((srt ns).drop (ns.length - lvN ns.length s st.length)).length = lvN ns.length s st.length := by rw [List.length_drop, srt_len]; omega
  obtain ⟨v, hv⟩ := fall_one (pace := p) lv.lo hl
  rw [← fv_eq hv]
  have := st_fall (p := p) lv.lo h up hl (Int.le_refl _) hv
  unfold sv sv0
  omega

end
section
variable {P : Program} {w : World} {K : PySem.W.Frag} {mg : Str → Option Value} {base : Heap} {T : List (Addr × Str)} {f : Addr} {fd : FuncData}
/-! ### stairs: the code -/
def cNeed : Con := fun ds M Q _ => ∃ (m s r : Nat) (w rr : Int), ds = [.int (m : Nat), .int (s : Nat), .int rr, .int w] ∧ rr = (r : Int) + 1 ∧ s ≤ 20 ∧ Q (.int (needV m s r w)) M
theorem has_need_of (F : Fun K "need_of" "need_of" s_need_of f fd) (bn : BN mg) (hm : mg "need_of" = some (.ref f)) (h_live : HasF P w K mg base T "live" 3 1 cLive) : HasF P w K mg base T "need_of" 4 2 cNeed := by
  refine hasF (k := 1) F sc_need_of hm (bd_need_of F) bn rfl (fun _ _ _ _ ⟨_, _, _, _, _, e, _⟩ => by rw [e]; rfl) fun cdv A outer s H E hr ds M Q Xd h => ?_
  obtain ⟨m, s, r, w, rr, rfl, rfl, s2, hQ⟩ := h
  conv => arg 2; whnf
  tlg_ne
  refine ⟨m, s, r, by rw [show (r : Int) + 1 - 1 = (r : Nat) by omega], s2, ?_⟩
  tlg_ne
  refine ⟨s2, ?_⟩
  tlg_ne
  exact hQ
def rgL (v : D) (nd top : Int) : Bool := if 1 ≤ nd then inR v nd top else inR v 0 0
def cRung : Con := fun ds M Q _ => ∃ v nd top, ds = [v, .int nd, .int top] ∧ Kn v ∧ Q (.bl (rgL v nd top)) M
theorem has_is_rung (F : Fun K "is_rung" "is_rung" s_is_rung f fd) (bn : BN mg) (hm : mg "is_rung" = some (.ref f)) (h_in_range : HasF P w K mg base T "in_range" 3 2 cInR) (h_is_integer : HasF P w K mg base T "is_integer" 1 1 cIsInt) : HasF P w K mg base T "is_rung" 3 3 cRung := by
  refine hasF (k := 2) F sc_is_rung hm (bd_is_rung F) bn rfl (fun _ _ _ _ ⟨_, _, _, e, _⟩ => by rw [e]; rfl) fun cdv A outer s H E hr ds M Q Xd h => ?_
  obtain ⟨v, nd, top, rfl, kn, hQ⟩ := h
  conv => arg 2; whnf
  tlg_ne
  refine ⟨fun c => ?_, fun c => ?_⟩
  · have c : 1 ≤ nd := of_decide_eq_true c
    rw [rgL, if_pos c] at hQ
    tlg_ne
    exact hQ
  · have c : ¬ 1 ≤ nd := of_decide_eq_false c
    rw [rgL, if_neg c] at hQ
    tlg_ne
    cases v <;> first | exact absurd kn.ok Bool.false_ne_true | (tlg_ne; exact hQ) | skip
    rename_i i
    tlg_ne
    have e : inR (.int i) 0 0 = decide (i = 0) := by
      by_cases z : i = 0
      · subst z; rfl
      · simp [inR, z]; omega
    rw [e] at hQ
    exact hQ
def lenOk : D → Bool
  | .lst xs => decide (xs.length ≤ 1000)
  | _ => false
def cLenS (Cl : Addr) : Con := fun ds M Q Xd => ∃ v, ds = [v] ∧ Kn v ∧ (lenOk v = true → Q .non M) ∧ (lenOk v = false → Xd (.ref Cl) [("position", .non)] M)
theorem has_check_length {C_InvalidStair : Addr} (F : Fun K "check_length" "check_length" s_check_length f fd) (bn : BN mg) (hm : mg "check_length" = some (.ref f)) (X_InvalidStair : Ex1 P w K mg base "InvalidStair" "position" C_InvalidStair) (g_MAX_ROUNDS : ∃ t, mg "MAX_ROUNDS" = some (.int 1000 t)) : HasF P w K mg base T "check_length" 1 4 (cLenS C_InvalidStair) := by
  refine hasFX (k := 3) F sc_check_length hm (bd_check_length F) bn rfl (fun _ _ _ _ ⟨_, e, _⟩ => by rw [e]; rfl) fun cdv A outer s H E hr ds M Q Xd h => ?_
  obtain ⟨v, rfl, kn, hQ, hX⟩ := h
  conv => arg 2; whnf
  tlg_ne
  cases v <;> first | exact absurd kn.ok Bool.false_ne_true | skip
  all_goals tlg_ne
  case lst xs =>
    refine ⟨fun c => ?_, fun c => ?_⟩
    · have c : ¬ xs.length ≤ 1000 := by have := of_decide_eq_true c; omega
      refine qss_one (qs_raise1 X_InvalidStair (by exact Nat.le_of_ble_eq_true rfl) rfl ?_)
      tlg_ne
      exact hX (decide_eq_false c)
    · have c : xs.length ≤ 1000 := by have := of_decide_eq_false c; omega
      tlg_ne
      exact hQ (decide_eq_true c)
  all_goals
    refine qs_raise1 X_InvalidStair (by exact Nat.le_of_ble_eq_true rfl) rfl ?_
    tlg_ne
    exact hX rfl

end
section
variable {P : Program} {w : World} {K : PySem.W.Frag} {mg : Str → Option Value} {base : Heap} {T : List (Addr × Str)} {f : Addr} {fd : FuncData}
theorem grF_hd (m s : Nat) (x y : Int) (ns : List Int) : grF m s (x :: ns) = grF m s (y :: ns) := rfl
theorem Rst.yes {m s : Nat} {ns : List Int} {v : D} (r : Rst m s ns) (h : rgB m s (grF m s (0 :: ns)) (needV m s ns.length (hdI ns)) (lvN m s (ns.length + 1) : Nat) v = true) : ∃ u, v = .int u ∧ Rst m s (u :: ns) := by
  unfold rgB at h
  split at h
  · rename_i g
    obtain ⟨i, rfl, a, b⟩ := inR_int h
    obtain rfl : i = 0 := by omega
    exact ⟨0, rfl, .zero r g⟩
  · rename_i g
    obtain ⟨i, rfl, a, b⟩ := inR_int h
    have g' : grF m s (0 :: ns) = false := by simpa using g
    refine ⟨i, rfl, .rung r g' ?_ a b⟩
    rw [grF, Bool.or_eq_false_iff, decide_eq_false_iff_not] at g'
    omega
theorem Rst.no {m s : Nat} {ns : List Int} {v : D} (r : Rst m s ns) (h : rgB m s (grF m s (0 :: ns)) (needV m s ns.length (hdI ns)) (lvN m s (ns.length + 1) : Nat) v = false) : wrD m s (v :: ns.map .int) = 0 := by
  rw [wrD, r.wr, if_neg (by omega), map_unI, List.length_map, grF_hd m s (unI v) 0, h, if_neg (by decide)]
/-- the next rung to the front -/
theorem drop_next {α : Type} {st : List α} {i n : Nat} (hn : st.length = n) (hi : i < n) : ∃ v, st[n - 1 - i]? = some v ∧ st.drop (n - (i + 1)) = v :: st.drop (n - i) := by
  have h : n - (i + 1) < st.length := by omega
  refine ⟨st[n - (i + 1)], ?_, ?_⟩
  · rw [show n - 1 - i = n - (i + 1) by omega, List.getElem?_eq_getElem h]
  · rw [List.drop_eq_getElem_cons h, show n - (i + 1) + 1 = n - i by omega]
theorem at_down {xs : List D} {n i : Nat} {v : D} (hn : xs.length = n) (hi : i < n) (h : xs[n - 1 - i]? = some v) : atI xs ((n : Int) - 1 - (i : Int)) = some v := by
  rw [show (n : Int) - 1 - (i : Int) = ((n - 1 - i : Nat) : Int) by omega]
  have := atI_n h
  rwa [Int.zero_add] at this
theorem ix_down {n i : Nat} (hi : i < n) : ixN n ((n : Int) - 1 - (i : Int)) = some (n - 1 - i) := by
  unfold ixN
  rw [if_pos (by omega), if_pos (by omega)]
  congr 1
  omega
theorem set_rep {n i : Nat} {x y : D} {ys : List D} (hi : i < n) : (List.replicate (n - i) x ++ ys).set (n - 1 - i) y = List.replicate (n - (i + 1)) x ++ y :: ys := by
  rw [show n - i = (n - (i + 1)) + 1 by omega, List.replicate_succ', List.append_assoc, List.set_append_right _ _ (by rw [List.length_replicate]; omega), List.length_replicate]
  rw [show n - 1 - i - (n - (i + 1)) = 0 by omega]
  rfl
theorem ndC_len (m s : Nat) : ∀ ns : List Int, (ndC m s ns).length = ns.length
  | [] => rfl
  | _ :: ns => by rw [ndC, List.length_cons, List.length_cons, ndC_len m s ns]
def cNeeds (Cl : Addr) : Con := fun ds M Q Xd => ∃ (m s : Nat) (st : List D), ds = [.int (m : Nat), .int (s : Nat), .lst st] ∧ s ≤ 20 ∧ (∀ x ∈ st, Kn x) ∧ st.length ≤ 1000 ∧ (wrD m s st = -1 → Q (.lst ((ndC m s (st.map unI)).map .int)) M) ∧ (0 ≤ wrD m s st → Xd (.ref Cl) [("position", .int (wrD m s st))] M)
theorem has_needs_of {C_InvalidStair : Addr} (F : Fun K "needs_of" "needs_of" s_needs_of f fd) (bn : BN mg) (hm : mg "needs_of" = some (.ref f)) (h_need_of : HasF P w K mg base T "need_of" 4 2 cNeed) (h_is_rung : HasF P w K mg base T "is_rung" 3 3 cRung) (h_live : HasF P w K mg base T "live" 3 1 cLive) (X_InvalidStair : Ex1 P w K mg base "InvalidStair" "position" C_InvalidStair) : HasF P w K mg base T "needs_of" 3 4 (cNeeds C_InvalidStair) := by
  refine hasFX (k := 3) F sc_needs_of hm (bd_needs_of F) bn rfl (fun _ _ _ _ ⟨_, _, _, e, _⟩ => by rw [e]; rfl) fun cdv A outer s H E hr ds M Q Xd h => ?_
  obtain ⟨m, s, st, rfl, s2, hk, hl, hQ, hX⟩ := h
  conv => arg 2; whnf
  refine qss_cons (qs_set 3 rfl (by kbo_bools) (qe_mulM ?_))
  tlg_ne
  refine ⟨_, _, rfl, .lst _, by omega, by omega, by simp only [List.length_cons, List.length_nil, sizeLine]; omega, fun q hq => ?_⟩
  rw [Int.toNat_natCast, List.flatten_replicate_singleton]
  refine qss_cons (qs_asg ?_)
  tlg_ne
  refine qg_tup (qgs_name 4 rfl (by kbo_bools) (qgs_name 5 rfl (by kbo_bools) (qgs_nil ?_)))
  obtain ⟨n, hn⟩ : ∃ n, st.length = n := ⟨_, rfl⟩
  rw [hn] at hl ⊢
  refine qss_cons (qs_for (qi_down ?_))
  tlg_ne
  rw [hn, show ((n : Int) - 1 - -1).toNat = n by omega]
  refine ⟨⟨by omega, by omega, by decide, by decide⟩, fun i ρ' M' => ∃ (ns : List Int) (x6 x7 x8 : Option D), st.drop (n - i) = ns.map .int ∧ ns.length = i ∧ Rst m s ns ∧ i ≤ n ∧ M' = mupd M q (.lst (List.replicate (n - i) (.int 0) ++ (ndC m s ns).map .int)) ∧
    ρ' = [some (.int m), some (.int s), some (.lst st), some (.oth (.ref q)), some (.int (hdI ns)), some (.bl (grF m s ns)), x6, x7, x8], ⟨[], none, none, none, by rw [Nat.sub_zero, ← hn, List.drop_length]; rfl, rfl, .nil, by omega, by simp [ndC], rfl⟩, ?_, ?_⟩
  · rintro i x ρ' M' hx ⟨ns, x6, x7, x8, hd, hni, hr, hi', rfl, rfl⟩
    obtain ⟨hi, rfl⟩ := downD_get hx
    obtain ⟨v, hv, hdn⟩ := drop_next hn hi
    have hav := at_down hn hi hv
    have kv : Kn v := hk v (List.mem_of_getElem? hv)
    have hxi := ix_down hi
    subst hni
    refine qg_name 6 rfl (by kbo_bools) ?_
    refine qss_cons (qs_set 7 rfl (by kbo_bools) (QE.imp (P := fun d M1 => M1 = mupd M q (.lst (List.replicate (n - ns.length) (.int 0) ++ (ndC m s ns).map .int)) ∧ d = .int ((ns.length : Nat) + 1)) ?_ ?_))
    · tlg_ne
      rw [hn]
      exact ⟨rfl, by congr 1; omega⟩
    rintro d M1 ⟨rfl, rfl⟩
    refine qss_cons (qs_set 8 rfl (by kbo_bools) (QE.imp (P := fun d M1 => M1 = mupd M q (.lst (List.replicate (n - ns.length) (.int 0) ++ (ndC m s ns).map .int)) ∧ d = .int (if grF m s ns = true then 0 else needV m s ns.length (hdI ns))) ?_ ?_))
    · cases hg : grF m s ns
      · tlg_ne
        refine ⟨m, s, ns.length, _, _, rfl, by omega, s2, ?_⟩
        tlg_ne
        exact ⟨rfl, by simp⟩
      · tlg_ne
        exact ⟨rfl, by simp⟩
    rintro d M1 ⟨rfl, rfl⟩
    obtain ⟨nd, end_⟩ : ∃ nd, nd = (if grF m s ns = true then 0 else needV m s ns.length (hdI ns)) := ⟨_, rfl⟩
    rw [← end_]
    have e1 : ∀ top, rgL v nd top = rgB m s (grF m s (0 :: ns)) (needV m s ns.length (hdI ns)) top v := by
      intro top
      rw [end_]
      unfold rgL rgB
      rw [grF]
      cases grF m s ns
      · by_cases c : needV m s ns.length (hdI ns) < 1
        · first | (simp [c]; done) | (simp [c]; omega)
        · first | (simp [c]; done) | (simp [c]; omega)
      · simp
    have e2 : decide (nd < 1) = grF m s (0 :: ns) := by
      rw [end_, grF]
      cases grF m s ns <;> simp
    tlg_ne
    refine ix_l hav ?_
    tlg_ne
    refine ⟨s2, ?_⟩
    tlg_ne
    rw [e1]
    cases hb : rgB m s (grF m s (0 :: ns)) (needV m s ns.length (hdI ns)) (lvN m s (ns.length + 1) : Nat) v
    · have w0 := hr.no hb
      tlg_ne
      refine qs_raise1 X_InvalidStair (by exact Nat.le_of_ble_eq_true rfl) rfl (qe_drop ?_)
      tlg_ne
      refine ⟨q, _, mupd_same, ?_⟩
      rw [mdel_upd hq]
      have e := wrD_app m s (sf := v :: ns.map .int) (by rw [w0]; omega) (st.take (n - (ns.length + 1)))
      rw [← hd, ← hdn, List.take_append_drop, hdn, hd, w0, List.length_take, Nat.min_eq_left (by omega)] at e
      rw [show (n : Int) - 1 - (ns.length : Int) = wrD m s st by rw [e]; omega]
      exact hX (by rw [e]; omega)
    · obtain ⟨u, rfl, hr2⟩ := hr.yes hb
      refine ⟨fun h => absurd h (by decide), fun _ => qss_nil ?_⟩
      refine qss_cons (qs_set 5 rfl (by kbo_bools) (QE.imp (P := fun d M1 => M1 = mupd M q (.lst (List.replicate (n - ns.length) (.int 0) ++ (ndC m s ns).map .int)) ∧ d = .bl (grF m s (u :: ns))) ?_ ?_))
      · tlg_ne
        exact ⟨rfl, by rw [grF_hd m s u 0, ← e2]⟩
      rintro d M1 ⟨rfl, rfl⟩
      refine qss_cons (qs_asg (QE.imp (P := fun d M1 => M1 = mupd M q (.lst (List.replicate (n - ns.length) (.int 0) ++ (ndC m s ns).map .int)) ∧ d = .int (if grF m s (u :: ns) = true then 0 else needV m s ns.length (hdI ns))) ?_ ?_))
      · rw [grF_hd m s u 0]
        cases hg : grF m s (0 :: ns)
        · tlg_ne
          refine ⟨rfl, ?_⟩
          rw [end_]
          have : grF m s ns = false := by rw [grF, Bool.or_eq_false_iff] at hg; exact hg.1
          simp [this]
        · tlg_ne
          exact ⟨rfl, by simp⟩
      rintro d M1 ⟨rfl, rfl⟩
      refine qg_sub ?_
      tlg_ne
      refine ⟨q, _, _, _, rfl, rfl, mupd_same, by rw [List.length_append, List.length_replicate, List.length_map, ndC_len, show n - ns.length + ns.length = n by omega]; exact hxi, ?_⟩
      tlg_ne
      refine ix_l hav ?_
      tlg_ne
      refine ⟨u :: ns, _, _, _, by rw [hdn, hd]; rfl, rfl, hr2, by omega, ?_, rfl⟩
      rw [mupd_upd, set_rep hi, ndC]
      rfl
  · rintro ρ' M' ⟨ns, x6, x7, x8, hd, hni, hr, hi', rfl, rfl⟩
    rw [downD_length] at hd hni hi' ⊢
    rw [Nat.sub_self, List.drop_zero] at hd
    subst hd
    refine qss_one (qs_ret (qe_frz ?_))
    tlg_ne
    refine ⟨q, _, rfl, mupd_same, ?_⟩
    rw [mdel_upd hq, Nat.sub_self, List.replicate_zero, List.nil_append]
    rw [map_unI] at hQ
    exact hQ hr.wr

end
section
variable {P : Program} {w : World} {K : PySem.W.Frag} {mg : Str → Option Value} {base : Heap} {T : List (Addr × Str)} {f : Addr} {fd : FuncData}
def cLow : Con := fun ds M Q _ => ∃ (rows : List Int) (k : Int), ds = [.lst (rows.map .int), .int k] ∧ rows.length ≤ 20 ∧ 0 ≤ k ∧ k ≤ rows.length ∧ Q (.int ((srt rows).take k.toNat).sum) M
theorem has_lowest_sum (F : Fun K "lowest_sum" "lowest_sum" s_lowest_sum f fd) (bn : BN mg) (hm : mg "lowest_sum" = some (.ref f)) : HasF P w K mg base T "lowest_sum" 2 2 cLow := by
  refine hasF (k := 1) F sc_lowest_sum hm (bd_lowest_sum F) bn rfl (fun _ _ _ _ ⟨_, _, e, _⟩ => by rw [e]; rfl) fun cdv A outer s H E hr ds M Q Xd h => ?_
  obtain ⟨rows, k, rfl, hl, k0, k1, hQ⟩ := h
  conv => arg 2; whnf
  refine qss_one (qs_ret (qe_sum (qa_cons (qe_slice ?_))))
  tlg_ne
  rw [cutD_map, cut_to k0 (by rw [srt_len]; exact k1)]
  exact ⟨_, _, rfl, .lst (.lst _), hQ⟩
def cLiveR : Con := fun ds M Q _ => ∃ (ns : List Int) (s r : Nat), ds = [.lst (ns.map .int), .int (s : Nat), .int (r : Nat)] ∧ Lv ns ∧ s ≤ 20 ∧ Q (.lst (((srt ns).drop (ns.length - lvN ns.length s r)).map .int)) M
theorem has_live_rows (F : Fun K "live_rows" "live_rows" s_live_rows f fd) (bn : BN mg) (hm : mg "live_rows" = some (.ref f)) (h_live : HasF P w K mg base T "live" 3 1 cLive) : HasF P w K mg base T "live_rows" 3 2 cLiveR := by
  refine hasF (k := 1) F sc_live_rows hm (bd_live_rows F) bn rfl (fun _ _ _ _ ⟨_, _, _, e, _⟩ => by rw [e]; rfl) fun cdv A outer s H E hr ds M Q Xd h => ?_
  obtain ⟨ns, s, r, rfl, lv, s2, hQ⟩ := h
  conv => arg 2; whnf
  have h2 := lv.hi
  refine qss_one (qs_ret (qe_slice ?_))
  tlg_ne
  refine ⟨s2, ?_⟩
  tlg_ne
  rw [List.length_map]
  have ll := lvN_le (many := ns.length) (steps := s) (r := r)
  rw [cutD_map, cut_from (by omega), show ((ns.length : Int) - (lvN ns.length s r : Nat)).toNat = ns.length - lvN ns.length s r by omega]
  exact hQ
theorem ndC_drop (m s : Nat) : ∀ (i : Nat) (ns : List Int), (ndC m s ns).drop i = ndC m s (ns.drop i)
  | 0, _ => rfl
  | _ + 1, [] => rfl
  | i + 1, _ :: ns => by rw [ndC, List.drop_succ_cons, List.drop_succ_cons, ndC_drop m s i ns]
def cSv (Cl : Addr) : Con := fun ds M Q Xd => ∃ (ns : List Int) (p s : Nat) (d : D), ds = [.lst (ns.map .int), .tup [.int (p : Nat), .int (s : Nat)], d] ∧ Lv ns ∧ Rt p s ∧ Kn d ∧ (∀ xs, d = .lst xs → ∀ x ∈ xs, Kn x) ∧ (lenOk d = false → Xd (.ref Cl) [("position", .non)] M) ∧
  (∀ st, d = .lst st → st.length ≤ 1000 → 0 ≤ wrD ns.length s st → Xd (.ref Cl) [("position", .int (wrD ns.length s st))] M) ∧ (∀ st : List Int, d = .lst (st.map .int) → st.length ≤ 1000 → Rst ns.length s st → Q (.int (sv ns p s st)) M)
theorem has_stair_value {C_InvalidStair : Addr} (F : Fun K "stair_value" "stair_value" s_stair_value f fd) (bn : BN mg) (hm : mg "stair_value" = some (.ref f)) (h_check_levels : HasF P w K mg base T "check_levels" 1 4 (cGood .non)) (h_check_rate : HasF P w K mg base T "check_rate" 1 4 (cRate .non)) (h_check_length : HasF P w K mg base T "check_length" 1 4 (cLenS C_InvalidStair)) (h_needs_of : HasF P w K mg base T "needs_of" 3 4 (cNeeds C_InvalidStair)) (h_live_rows : HasF P w K mg base T "live_rows" 3 2 cLiveR) (h_lowest_sum : HasF P w K mg base T "lowest_sum" 2 2 cLow) (h_even_share_inner : HasF P w K mg base T "even_share_inner" 3 1 cInner) (X_InvalidStair : Ex1 P w K mg base "InvalidStair" "position" C_InvalidStair) : HasF P w K mg base T "stair_value" 3 5 (cSv C_InvalidStair) := by
  refine hasFX (k := 4) F sc_stair_value hm (bd_stair_value F) bn rfl (fun _ _ _ _ ⟨_, _, _, _, e, _⟩ => by rw [e]; rfl) fun cdv A outer s H E hr ds M Q Xd h => ?_
  obtain ⟨ns, p, s, d, rfl, lv, rt, kn, kns, hX1, hX2, hQ⟩ := h
  conv => arg 2; whnf
  tlg_ne
  refine ⟨lv, ?_⟩
  tlg_ne
  refine ⟨rt, ?_⟩
  tlg_ne
  refine ⟨fun h => ?_, fun h => hX1 h⟩
  cases d <;> first | exact absurd (show false = true from h) Bool.false_ne_true | skip
  rename_i st
  have hl : st.length ≤ 1000 := of_decide_eq_true h
  have h2 := lv.hi
  have s2 := rt.s2
  refine qss_cons (qs_asg ?_)
  tlg_ne
  refine qg_tup (qgs_name 3 rfl (by kbo_bools) (qgs_name 4 rfl (by kbo_bools) (qgs_nil ?_)))
  refine qss_cons ?_
  tlg_ne
  rw [List.length_map]
  refine ⟨s2, kns st rfl, hl, fun hw => ?_, fun hw => hX2 st rfl hl hw⟩
  obtain ⟨ws, rfl⟩ := wrD_int hw
  have hr := Rst.of hw
  rw [map_unI]
  rw [List.length_map] at hl
  refine qss_cons (qs_set 6 rfl (by kbo_bools) (QE.imp (P := fun d M1 => M1 = M ∧ d = .int (hdI ws)) ?_ ?_))
  · tlg_ne
    refine ne_ints (xs := ws) (ys := []) ⟨_, rfl, ?_⟩
    cases ws with
    | nil =>
      refine ⟨fun h => absurd h (by decide), fun _ => ?_⟩
      tlg_ne
      exact ⟨rfl, rfl⟩
    | cons u ws =>
      refine ⟨fun _ => ?_, fun h => absurd h (by simp)⟩
      tlg_ne
      refine ix_lI (x := u) (by decide) rfl ?_
      exact ⟨rfl, rfl⟩
  rintro d M1 ⟨rfl, rfl⟩
  obtain ⟨f1, f0⟩ := hr.hd lv.lo
  refine qss_cons (qs_set 7 rfl (by kbo_bools) (QE.imp (P := fun d M2 => M2 = M1 ∧ d = .int (sv0 ns ns.length s ws)) ?_ ?_))
  · tlg_ne
    refine ⟨fun c => ?_, fun c => ?_⟩
    · have c : hdI ws = 0 := of_decide_eq_true c
      tlg_ne
      refine ⟨rfl, ?_⟩
      unfold sv0
      rw [c]
      rfl
    · tlg_ne
      refine ⟨lv, s2, ?_⟩
      rw [List.length_map]
      have ll := lvN_le (many := ns.length) (steps := s) (r := ws.length)
      have e : ((srt ns).drop (ns.length - lvN ns.length s ws.length)).length = lvN ns.length s ws.length := by rw [List.length_drop, srt_len]; omega
      tlg_ne
      refine ⟨by rw [e]; omega, f0, by rw [e]; exact f1, ?_⟩
      rw [srt_id ((srt_sorted ns).sublist (List.drop_sublist _ _))]
      exact ⟨rfl, rfl⟩
  rintro d M2 ⟨rfl, rfl⟩
  refine qss_cons (qs_for (qi_zipS ?_))
  tlg_ne
  refine ⟨_, _, _, _, rfl, .inl rfl, .inl rfl, by rw [List.length_map, List.length_map, ndC_len], fun i ρ' M' => ∃ (t : Int) (x8 x9 : Option D), M' = M2 ∧ i ≤ ws.length ∧ stV p ns.length s (ws.drop i) t = stV p ns.length s ws (sv0 ns ns.length s ws) ∧
    ρ' = [some (.lst (ns.map .int)), some (.tup [.int (p : Nat), .int (s : Nat)]), some (.lst (ws.map .int)), some (.int (p : Nat)), some (.int (s : Nat)), some (.lst ((ndC ns.length s ws).map .int)), some (.int (hdI ws)), some (.int t), x8, x9], ⟨_, none, none, rfl, by omega, by rw [List.drop_zero], rfl⟩, ?_, ?_⟩
  · rintro i x ρ' M' hx ⟨t, x8, x9, rfl, hi, he, rfl⟩
    obtain ⟨d1, d2, g1, g2, rfl⟩ := zipD_get hx
    obtain ⟨u, rfl, g1, _⟩ := int_at g1
    obtain ⟨nd, rfl, g2, _⟩ := int_at g2
    obtain ⟨hil, gu⟩ := List.getElem?_eq_some_iff.mp g1
    have gd : ws.drop i = u :: ws.drop (i + 1) := by rw [List.drop_eq_getElem_cons hil, gu]
    have hr2 : Rst ns.length s (u :: ws.drop (i + 1)) := by rw [← gd]; exact hr.drop i
    have gn : nd = if grF ns.length s (u :: ws.drop (i + 1)) = true then 0 else needV ns.length s (ws.drop (i + 1)).length (hdI (ws.drop (i + 1))) := by
      have e := ndC_drop ns.length s i ws
      rw [gd, ndC] at e
      have q2 : ((ndC ns.length s ws).drop i)[0]? = some nd := by rw [List.getElem?_drop, Nat.add_zero]; exact g2
      rw [e] at q2
      simpa using q2.symm
    rw [gd, stV] at he
    refine qg_tup (qgs_name 8 rfl (by kbo_bools) (qgs_name 9 rfl (by kbo_bools) (qgs_nil ?_)))
    tlg_ne
    refine ⟨fun c => ?_, fun c => ?_⟩
    · have c : u > 0 := of_decide_eq_true c
      rw [if_pos c] at he
      cases hr2 with
      | zero r g => omega
      | rung r g a b c2 =>
        rw [if_neg (by rw [g]; decide)] at gn
        subst gn
        have ll := lvN_le (many := ns.length) (steps := s) (r := (ws.drop (i + 1)).length + 1)
        tlg_ne
        refine ⟨by omega, by omega, by omega, by omega, ?_⟩
        tlg_ne
        exact ⟨_, _, _, rfl, by omega, he, rfl⟩
    · have c : ¬ u > 0 := of_decide_eq_false c
      rw [if_neg c] at he
      tlg_ne
      exact ⟨_, _, _, rfl, by omega, he, rfl⟩
  · rintro ρ' M' ⟨t, x8, x9, rfl, hi, he, rfl⟩
    rw [zipD_len, List.length_map, List.length_map, ndC_len, Nat.min_self, List.drop_length, stV] at he
    tlg_ne
    have := hQ ws rfl hl hr
    rw [sv, ← he] at this
    exact this

end
section
variable {P : Program} {w : World} {K : PySem.W.Frag} {mg : Str → Option Value} {base : Heap} {T : List (Addr × Str)} {f : Addr} {fd : FuncData}
theorem has_law_fv_is_whole (F : Fun K "_law_fv_is_whole" "_law_fv_is_whole" s_law_fv_is_whole f fd) (bn : BN mg) (hm : mg "_law_fv_is_whole" = some (.ref f)) : HasF P w K mg base T "_law_fv_is_whole" 3 1 cInR := by
  refine hasF (k := 0) F sc_law_fv_is_whole hm (bd_law_fv_is_whole F) bn rfl (fun _ _ _ _ ⟨_, _, _, e, _⟩ => by rw [e]; rfl) fun cdv A outer s H E hr ds M Q Xd h => ?_
  obtain ⟨v, lo, hi, rfl, kn, hQ⟩ := h
  conv => arg 2; whnf
  cases v <;> first | exact absurd kn.ok Bool.false_ne_true | (tlg_ne; exact hQ) | skip
  rename_i i
  tlg_ne
  refine ⟨fun h => ?_, fun h => ?_⟩
  · have e : decide (lo ≤ i) = true := h
    tlg_ne
    simpa [inR, e] using hQ
  · have e : decide (lo ≤ i) = false := h
    simpa [inR, e] using hQ
def cWr : Con := fun ds M Q _ => ∃ (m p s : Nat) (st : List D), ds = [.int (m : Nat), .tup [.int (p : Nat), .int (s : Nat)], .lst st] ∧ s ≤ 20 ∧ (∀ x ∈ st, Kn x) ∧ st.length ≤ 1000 ∧ Q (.int (wrD m s st)) M
theorem has_law_fv_wrong_rung (F : Fun K "_law_fv_wrong_rung" "_law_fv_wrong_rung" s_law_fv_wrong_rung f fd) (bn : BN mg) (hm : mg "_law_fv_wrong_rung" = some (.ref f)) (h_law_fv_live : HasF P w K mg base T "_law_fv_live" 3 1 cLive) (h_law_fv_is_whole : HasF P w K mg base T "_law_fv_is_whole" 3 1 cInR) : HasF P w K mg base T "_law_fv_wrong_rung" 3 2 cWr := by
  refine hasF (k := 1) F sc_law_fv_wrong_rung hm (bd_law_fv_wrong_rung F) bn rfl (fun _ _ _ _ ⟨_, _, _, _, e, _⟩ => by rw [e]; rfl) fun cdv A outer s H E hr ds M Q Xd h => ?_
  obtain ⟨m, p, s, st, rfl, s2, hk, hl, hQ⟩ := h
  conv => arg 2; whnf
  tlg_ne
  refine ⟨fun c => absurd (of_decide_eq_true c) (by omega), fun _ => qss_nil ?_⟩
  refine qss_cons (qs_asg ?_)
  tlg_ne
  refine qg_tup (qgs_name 3 rfl (by kbo_bools) (qgs_name 4 rfl (by kbo_bools) (qgs_nil ?_)))
  obtain ⟨n, hn⟩ : ∃ n, st.length = n := ⟨_, rfl⟩
  rw [hn] at hl
  refine qss_cons (qs_for (qi_down ?_))
  tlg_ne
  rw [hn, show ((n : Int) - 1 - -1).toNat = n by omega]
  refine ⟨⟨by omega, by omega, by decide, by decide⟩, fun i ρ' M' => ∃ (ns : List Int) (x5 x6 x7 x8 x9 x10 : Option D), M' = M ∧ st.drop (n - i) = ns.map .int ∧ ns.length = i ∧ Rst m s ns ∧ i ≤ n ∧
    ρ' = [some (.int m), some (.tup [.int (p : Nat), .int (s : Nat)]), some (.lst st), some (.int (hdI ns)), some (.bl (grF m s ns)), x5, x6, x7, x8, x9, x10], ⟨[], none, none, none, none, none, none, rfl, by rw [Nat.sub_zero, ← hn, List.drop_length]; rfl, rfl, .nil, by omega, rfl⟩, ?_, ?_⟩
  · rintro i x ρ' M' hx ⟨ns, x5, x6, x7, x8, x9, x10, rfl, hd, hni, hr, hi', rfl⟩
    obtain ⟨hi, rfl⟩ := downD_get hx
    obtain ⟨v, hv, hdn⟩ := drop_next hn hi
    have hav := at_down hn hi hv
    have kv : Kn v := hk v (List.mem_of_getElem? hv)
    subst hni
    refine qg_name 5 rfl (by kbo_bools) ?_
    refine qss_cons (qs_set 6 rfl (by kbo_bools) (QE.imp (P := fun d M1 => M1 = M' ∧ d = .int ((ns.length : Nat) + 1)) ?_ ?_))
    · tlg_ne
      rw [hn]
      exact ⟨rfl, by congr 1; omega⟩
    rintro d M1 ⟨rfl, rfl⟩
    refine qss_cons (qs_set 7 rfl (by kbo_bools) (QE.imp (P := fun d M2 => M2 = M1 ∧ d = .int (lvN m s (ns.length + 1) : Nat)) ?_ ?_))
    · tlg_ne
      refine ix_t rfl ?_
      tlg_ne
      refine ⟨s2, ?_⟩
      exact ⟨rfl, rfl⟩
    rintro d M2 ⟨rfl, rfl⟩
    refine qss_cons (qs_set 8 rfl (by kbo_bools) (QE.imp (P := fun d M3 => M3 = M2 ∧ d = .int (needV m s ns.length (hdI ns))) ?_ ?_))
    · tlg_ne
      refine ix_t rfl ?_
      tlg_ne
      refine ⟨m, s, ns.length, by rw [show ((ns.length : Nat) : Int) + 1 - 1 = (ns.length : Nat) by omega], s2, ?_⟩
      tlg_ne
      refine ix_t rfl ?_
      tlg_ne
      exact ⟨rfl, rfl⟩
    rintro d M3 ⟨rfl, rfl⟩
    refine qss_cons (qs_set 4 rfl (by kbo_bools) (QE.imp (P := fun d M4 => M4 = M3 ∧ d = .bl (grF m s (0 :: ns))) ?_ ?_))
    · rw [grF]
      cases hg : grF m s ns
      · tlg_ne
        exact ⟨rfl, rfl⟩
      · tlg_ne
        exact ⟨rfl, rfl⟩
    rintro d M4 ⟨rfl, rfl⟩
    refine qss_cons (qs_asg (QE.imp (P := fun d M5 => M5 = M4 ∧ d = .tup [.int (if grF m s (0 :: ns) = true then 0 else needV m s ns.length (hdI ns)), .int (if grF m s (0 :: ns) = true then 0 else (lvN m s (ns.length + 1) : Nat))]) ?_ ?_))
    · cases hg : grF m s (0 :: ns)
      · tlg_ne
        exact ⟨rfl, rfl⟩
      · tlg_ne
        exact ⟨rfl, rfl⟩
    rintro d M5 ⟨rfl, rfl⟩
    refine qg_tup (qgs_name 9 rfl (by kbo_bools) (qgs_name 10 rfl (by kbo_bools) (qgs_nil ?_)))
    have e1 : inR v (if grF m s (0 :: ns) = true then 0 else needV m s ns.length (hdI ns)) (if grF m s (0 :: ns) = true then 0 else (lvN m s (ns.length + 1) : Nat)) = rgB m s (grF m s (0 :: ns)) (needV m s ns.length (hdI ns)) (lvN m s (ns.length + 1) : Nat) v := by
      unfold rgB
      cases grF m s (0 :: ns) <;> rfl
    tlg_ne
    refine ix_l hav ?_
    tlg_ne
    rw [e1]
    cases hb : rgB m s (grF m s (0 :: ns)) (needV m s ns.length (hdI ns)) (lvN m s (ns.length + 1) : Nat) v
    · have w0 := hr.no hb
      have e := wrD_app m s (sf := v :: ns.map .int) (by rw [w0]; omega) (st.take (n - (ns.length + 1)))
      rw [← hd, ← hdn, List.take_append_drop, hdn, hd, w0, List.length_take, Nat.min_eq_left (by omega)] at e
      tlg_ne
      rw [show (n : Int) - 1 - (ns.length : Int) = wrD m s st by rw [e]; omega]
      exact hQ
    · obtain ⟨u, rfl, hr2⟩ := hr.yes hb
      tlg_ne
      refine ix_l hav ?_
      tlg_ne
      exact ⟨u :: ns, _, _, _, _, _, _, rfl, by rw [hdn, hd]; rfl, rfl, hr2, by omega, rfl⟩
  · rintro ρ' M' ⟨ns, x5, x6, x7, x8, x9, x10, rfl, hd, hni, hr, hi', rfl⟩
    rw [downD_length] at hd hni hi'
    rw [Nat.sub_self, List.drop_zero] at hd
    subst hd
    rw [hr.wr] at hQ
    tlg_ne
    exact hQ

end
section
variable {P : Program} {w : World} {K : PySem.W.Frag} {mg : Str → Option Value} {base : Heap} {T : List (Addr × Str)} {f : Addr} {fd : FuncData}
theorem ndU_len (m s : Nat) : ∀ ns : List Int, (ndU m s ns).length = ns.length
  | [] => rfl
  | _ :: ns => by rw [ndU, List.length_cons, List.length_cons, ndU_len m s ns]
theorem ndU_drop (m s : Nat) : ∀ (i : Nat) (ns : List Int), (ndU m s ns).drop i = ndU m s (ns.drop i)
  | 0, _ => rfl
  | _ + 1, [] => rfl
  | i + 1, _ :: ns => by rw [ndU, List.drop_succ_cons, List.drop_succ_cons, ndU_drop m s i ns]
theorem low_rev {l : List Int} {k f : Nat} (hk : k ≤ l.length) (hf : f ≤ k) : ((l.reverse.take k).drop (k - f)).sum = ((l.drop (l.length - k)).take f).sum := by
  have e : (l.reverse.take k).drop (k - f) = ((l.drop (l.length - k)).take f).reverse := by
    rw [List.take_reverse, List.drop_reverse, List.length_drop]
    congr 2
    omega
  rw [e, List.sum_reverse]
def cSt : Con := fun ds M Q _ => ∃ (ns : List Int) (p s : Nat) (ws : List Int), ds = [.lst (ns.map .int), .tup [.int (p : Nat), .int (s : Nat)], .lst (ws.map .int)] ∧ Lv ns ∧ Rt p s ∧ ws.length ≤ 1000 ∧ Rst ns.length s ws ∧ Q (.int (sv ns p s ws)) M
theorem has_law_fv_stair (F : Fun K "_law_fv_stair" "_law_fv_stair" s_law_fv_stair f fd) (bn : BN mg) (hm : mg "_law_fv_stair" = some (.ref f)) (h_law_fv_ranked : HasF P w K mg base T "_law_fv_ranked" 1 1 cFrk) (h_law_fv_live : HasF P w K mg base T "_law_fv_live" 3 1 cLive) (h_law_fv_share : HasF P w K mg base T "_law_fv_share" 3 1 cShare) : HasF P w K mg base T "_law_fv_stair" 3 2 cSt := by
  refine hasF (k := 1) F sc_law_fv_stair hm (bd_law_fv_stair F) bn rfl (fun _ _ _ _ ⟨_, _, _, _, e, _⟩ => by rw [e]; rfl) fun cdv A outer s H E hr ds M Q Xd h => ?_
  obtain ⟨ns, p, s, ws, rfl, lv, rt, hl, hr, hQ⟩ := h
  conv => arg 2; whnf
  have h2 := lv.hi
  have h1 := lv.lo
  have s2 := rt.s2
  refine qss_cons (qs_par 3 4 rfl rfl (by decide) rfl rfl ?_)
  tlg_ne
  refine qs_par3 5 6 7 rfl rfl rfl (by decide) (by decide) (by decide) rfl rfl rfl ?_
  refine qa_cons ?_
  tlg_ne
  refine ⟨by omega, ?_⟩
  refine qa_cons (qe_lstM ?_)
  tlg_ne
  refine fun q hq => ?_
  tlg_ne
  rw [List.length_map, List.length_map]
  obtain ⟨n, hn⟩ : ∃ n, ws.length = n := ⟨_, rfl⟩
  obtain ⟨m, hm⟩ : ∃ m, ns.length = m := ⟨_, rfl⟩
  rw [hn] at hl ⊢
  rw [hm] at h1 h2 hr ⊢
  refine qs_for (qi_down ?_)
  tlg_ne
  rw [show ((n : Int) - 1 - -1).toNat = n by omega]
  refine ⟨⟨by omega, by omega, by decide, by decide⟩, fun i ρ' M' => ∃ (sf : List Int) (x8 x9 x10 : Option D), M' = mupd M q (.lst ((ndU m s sf).reverse.map .int)) ∧ ws.drop (n - i) = sf ∧ sf.length = i ∧ i ≤ n ∧
    ρ' = [some (.lst (ns.map .int)), some (.tup [.int (p : Nat), .int (s : Nat)]), some (.lst (ws.map .int)), some (.int (m : Nat)), some (.int (n : Nat)), some (.lst ((rk ns).map .int)), some (.oth (.ref q)), some (.int (hdI sf)), x8, x9, x10, none, none], ⟨[], none, none, none, rfl, by rw [Nat.sub_zero, ← hn, List.drop_length], rfl, by omega, rfl⟩, ?_, ?_⟩
  · rintro i x ρ' M' hx ⟨sf, x8, x9, x10, rfl, hd, hni, hi', rfl⟩
    obtain ⟨hi, rfl⟩ := downD_get hx
    obtain ⟨v, hv, hdn⟩ := drop_next hn hi
    have hav := at_down (xs := ws.map D.int) (v := .int v) (by rw [List.length_map]; exact hn) hi (by rw [List.getElem?_map, hv]; rfl)
    subst hni
    refine qg_name 8 rfl (by kbo_bools) ?_
    refine qss_cons (qs_set 9 rfl (by kbo_bools) (QE.imp (P := fun d M1 => M1 = mupd M q (.lst ((ndU m s sf).reverse.map .int)) ∧ d = .int ((sf.length : Nat) + 1)) ?_ ?_))
    · tlg_ne
      exact ⟨rfl, by congr 1; omega⟩
    rintro d M1 ⟨rfl, rfl⟩
    refine qss_cons (qs_set 10 rfl (by kbo_bools) (QE.imp (P := fun d M1 => M1 = mupd M q (.lst ((ndU m s sf).reverse.map .int)) ∧ d = .int (lvN m s (sf.length + 1) : Nat)) ?_ ?_))
    · tlg_ne
      refine ix_t rfl ?_
      tlg_ne
      refine ⟨s2, ?_⟩
      exact ⟨rfl, rfl⟩
    rintro d M1 ⟨rfl, rfl⟩
    refine qss_cons (qs_expr (qe_append ?_))
    tlg_ne
    refine ⟨⟨_, mupd_same⟩, ?_⟩
    tlg_ne
    refine ix_t rfl ?_
    tlg_ne
    refine ⟨m, s, sf.length, by rw [show ((sf.length : Nat) : Int) + 1 - 1 = (sf.length : Nat) by omega], s2, ?_⟩
    tlg_ne
    refine ix_t rfl ?_
    tlg_ne
    refine ⟨_, mupd_same, by rw [List.length_map, List.length_reverse, ndU_len]; simp only [sizeLine]; omega, ?_⟩
    tlg_ne
    refine ix_l hav ?_
    tlg_ne
    refine ⟨v :: sf, _, _, _, ?_, by rw [hdn, hd], rfl, by omega, rfl⟩
    rw [mupd_upd, ndU, List.reverse_cons, List.map_append]
    rfl
  · rintro ρ' M' ⟨sf, x8, x9, x10, rfl, hd, hni, hi', rfl⟩
    rw [downD_length] at hd hni hi'
    rw [Nat.sub_self, List.drop_zero] at hd
    subst hd
    refine qss_cons (qs_set 6 rfl (by kbo_bools) (qe_drop (qe_rev ?_)))
    tlg_ne
    refine ⟨_, .lst (.mem mupd_same), q, _, mupd_same, ?_⟩
    rw [mdel_upd hq, ← List.map_reverse, List.reverse_reverse]
    obtain ⟨a, l, ha⟩ : ∃ a l, rk ns = a :: l := by
      have := rk_len ns
      cases e : rk ns with
      | nil => rw [e] at this; simp at this; omega
      | cons a l => exact ⟨a, l, rfl⟩
    have ll := lvN_le (many := m) (steps := s) (r := n)
    have lp := lvN_pos (steps := s) (r := n) h1
    refine qss_cons (qs_set 11 rfl (by kbo_bools) (QE.imp (P := fun d M1 => M1 = M ∧ d = .int a) ?_ ?_))
    · tlg_ne
      refine ix_lI (x := a) (by decide) (by rw [ha]; rfl) ?_
      exact ⟨rfl, rfl⟩
    rintro d M1 ⟨rfl, rfl⟩
    refine qss_cons (qs_if (qt_gt ?_))
    tlg_ne
    refine ⟨fun c => ?gA, fun c => qss_nil ?gB⟩
    case' gA =>
      have c : (n : Int) > 0 := of_decide_eq_true c
      obtain ⟨u, rest, hws⟩ : ∃ u rest, ws = u :: rest := by
        cases ws with
        | nil => rw [List.length_nil] at hn; omega
        | cons u rest => exact ⟨u, rest, rfl⟩
      have eu : hdI ws = u := by rw [hws]; rfl
      obtain ⟨f1, f0⟩ := hr.hd h1
      rw [hn, eu] at f1
      rw [eu] at f0
      refine qss_cons (qs_set 12 rfl (by kbo_bools) (QE.imp (P := fun d M2 => M2 = M1 ∧ d = .lst (((rk ns).take (lvN m s n)).map .int)) ?_ ?_))
      · refine qe_slice ?_
        tlg_ne
        refine ix_t rfl ?_
        tlg_ne
        refine ⟨s2, ?_⟩
        tlg_ne
        rw [cutD_map, cut_to (by omega) (by rw [rk_len]; omega), Int.toNat_natCast]
        exact ⟨rfl, rfl⟩
      rintro d M2 ⟨rfl, rfl⟩
      refine qss_one (qs_set 11 rfl (by kbo_bools) (QE.imp (P := fun d M3 => M3 = M2 ∧ d = .int (sv0 ns m s ws)) ?_ ?_))
      · tlg_ne
        refine ix_lI (x := u) (by decide) (by rw [hws]; rfl) ?_
        tlg_ne
        refine ⟨fun c => ?_, fun c => ?_⟩
        · have c : u > 0 := of_decide_eq_true c
          refine qe_sum (qa_cons (qe_slice ?_))
          tlg_ne
          refine ix_lI (x := u) (by decide) (by rw [hws]; rfl) ?_
          tlg_ne
          have lt : ((rk ns).take (lvN m s n)).length = lvN m s n := by rw [List.length_take, rk_len]; omega
          rw [List.length_map, lt, cutD_map, cut_from (by omega), show ((lvN m s n : Nat) - u : Int).toNat = lvN m s n - u.toNat by omega]
          refine ⟨_, _, rfl, .lst (.lst _), rfl, ?_⟩
          rw [rk, low_rev (by rw [srt_len]; omega) (by omega), srt_len, sv0, hm, hn, eu]
        · have c : ¬ u > 0 := of_decide_eq_false c
          tlg_ne
          refine ⟨rfl, ?_⟩
          rw [sv0, eu, show u.toNat = 0 by omega]
          rfl
      rintro d M3 ⟨rfl, rfl⟩
    case' gB =>
      have c : ¬ (n : Int) > 0 := of_decide_eq_false c
      have e : a = sv0 ns m s ws := by
        have n0 : n = 0 := by omega
        have w0 : ws = [] := List.length_eq_zero_iff.mp (by omega)
        have e0 : lvN m s 0 = 1 := by unfold lvN; omega
        have e1 : (srt ns).drop (m - 1) = [a] := by
          have e2 : srt ns = l.reverse ++ [a] := by
            have := congrArg List.reverse ha
            rw [rk, List.reverse_reverse, List.reverse_cons] at this
            exact this
          have e3 : l.length = m - 1 := by
            have := congrArg List.length e2
            rw [srt_len, List.length_append, List.length_reverse, hm] at this
            simp at this
            omega
          rw [e2, List.drop_append_of_le_length (by rw [List.length_reverse]; omega), ← e3, ← List.length_reverse, List.drop_length]
          rfl
        rw [w0, sv0, List.length_nil, e0, e1]
        simp [hdI]
      rw [e]
      obtain ⟨M3, eM⟩ : ∃ M3, M3 = M1 := ⟨_, rfl⟩
      subst eM
    all_goals
      refine qss_cons (qs_for (qi_range1 ?_))
      tlg_ne
      rw [Int.toNat_natCast]
      refine ⟨by omega, by omega, fun i ρ' M' => ∃ (t : Int) (y8 y9 y10 y12 : Option D), M' = M3 ∧ i ≤ ws.length ∧ stV p ns.length s (ws.drop i) t = stV p ns.length s ws (sv0 ns ns.length s ws) ∧
        ρ' = [some (.lst (ns.map .int)), some (.tup [.int (p : Nat), .int (s : Nat)]), some (.lst (ws.map .int)), some (.int (m : Nat)), some (.int (n : Nat)), some (.lst ((rk ns).map .int)), some (.lst ((ndU m s ws).map .int)), some (.int (hdI ws)), y8, y9, y10, some (.int t), y12], ⟨_, _, _, _, _, rfl, by omega, by rw [List.drop_zero, hm], rfl⟩, ?_, ?_⟩
      · rintro i x ρ' M' hx ⟨t, y8, y9, y10, y12, rfl, hi, he, rfl⟩
        obtain ⟨hil, rfl⟩ := rngD_get hx
        obtain ⟨u, hu⟩ : ∃ u, ws[i]? = some u := ⟨_, List.getElem?_eq_getElem (by omega)⟩
        obtain ⟨hil2, gu⟩ := List.getElem?_eq_some_iff.mp hu
        have gd : ws.drop i = u :: ws.drop (i + 1) := by rw [List.drop_eq_getElem_cons hil2, gu]
        have hr2 : Rst m s (u :: ws.drop (i + 1)) := by rw [← gd]; exact hr.drop i
        have gn : (ndU m s ws)[i]? = some (needV m s (ws.drop (i + 1)).length (hdI (ws.drop (i + 1)))) := by
          have e := ndU_drop m s i ws
          rw [gd, ndU] at e
          have q2 : ((ndU m s ws).drop i)[0]? = some (needV m s (ws.drop (i + 1)).length (hdI (ws.drop (i + 1)))) := by rw [e]; rfl
          rw [List.getElem?_drop, Nat.add_zero] at q2
          exact q2
        have a1 : atI (ws.map D.int) (0 + (i : Int)) = some (.int u) := atI_n (by rw [List.getElem?_map, hu]; rfl)
        have a2 : atI ((ndU m s ws).map D.int) (0 + (i : Int)) = some (.int (needV m s (ws.drop (i + 1)).length (hdI (ws.drop (i + 1))))) := atI_n (by rw [List.getElem?_map, gn]; rfl)
        rw [gd, stV, hm] at he
        refine qg_name 8 rfl (by kbo_bools) ?_
        tlg_ne
        refine ix_l a1 ?_
        tlg_ne
        refine ⟨fun c => ?_, fun c => ?_⟩
        · have c : u > 0 := of_decide_eq_true c
          rw [if_pos c] at he
          cases hr2 with
          | zero r g => omega
          | rung r g a b c2 =>
            have ll := lvN_le (many := m) (steps := s) (r := (ws.drop (i + 1)).length + 1)
            tlg_ne
            refine ix_t rfl ?_
            tlg_ne
            refine ix_l a1 ?_
            tlg_ne
            refine ix_l a2 ?_
            tlg_ne
            refine ⟨by omega, by omega, by omega, by omega, ?_⟩
            tlg_ne
            rw [← hm] at he
            exact ⟨_, _, _, _, _, rfl, by omega, by rw [← hm]; exact he, rfl⟩
        · have c : ¬ u > 0 := of_decide_eq_false c
          rw [if_neg c] at he
          tlg_ne
          exact ⟨_, _, _, _, _, rfl, by omega, by rw [hm]; exact he, rfl⟩
      · rintro ρ' M' ⟨t, y8, y9, y10, y12, rfl, hi, he, rfl⟩
        rw [rngD_length] at he
        rw [List.drop_of_length_le (by omega), stV] at he
        tlg_ne
        refine ix_t rfl ?_
        tlg_ne
        rw [sv, ← he] at hQ
        exact hQ

end
section
variable {P : Program} {w : World} {K : PySem.W.Frag} {mg : Str → Option Value} {base : Heap} {T : List (Addr × Str)} {f : Addr} {fd : FuncData}
def cDst : Con := fun ds M Q _ => ∃ (j : Addr) (m p s r : Nat), ds = [.oth (.ref j), .int (m : Nat), .tup [.int (p : Nat), .int (s : Nat)], .int (r : Nat)] ∧ JarAt M j ∧ 1 ≤ m ∧ m ≤ 20 ∧ s ≤ 20 ∧ r ≤ 100 ∧ ∀ (ws : List Int) M', ws.length = r → Rst m s ws → JM j M M' → Q (.lst (ws.map .int)) M'
theorem has_law_fv_drawn_stair (F : Fun K "_law_fv_drawn_stair" "_law_fv_drawn_stair" s_law_fv_drawn_stair f fd) (bn : BN mg) (hm : mg "_law_fv_drawn_stair" = some (.ref f)) (h_law_take : HasF P w K mg base T "_law_take" 2 1 cTake) (h_law_one : HasF P w K mg base T "_law_one" 2 2 cOne) (h_law_fv_live : HasF P w K mg base T "_law_fv_live" 3 1 cLive) : HasF P w K mg base T "_law_fv_drawn_stair" 4 3 cDst := by
  refine hasF (k := 2) F sc_law_fv_drawn_stair hm (bd_law_fv_drawn_stair F) bn rfl (fun _ _ _ _ ⟨_, _, _, _, _, e, _⟩ => by rw [e]; rfl) fun cdv A outer s H E hr ds M Q Xd h => ?_
  obtain ⟨j, m, p, s, r, rfl, hj, h1, h2, s2, hr, hQ⟩ := h
  conv => arg 2; whnf
  refine qss_cons (qs_par3 4 5 6 rfl rfl rfl (by decide) (by decide) (by decide) rfl rfl rfl ?_)
  tlg_ne
  refine qs_for (qi_range2 ?_)
  tlg_ne
  rw [show ((r : Int) + 1 - 1).toNat = r by omega]
  refine ⟨⟨by omega, by omega, by omega, by omega⟩, fun i ρ' M' => ∃ (ws : List Int) (x7 x8 x9 : Option D), JM j M M' ∧ ws.length = i ∧ Rst m s ws ∧ i ≤ r ∧
    ρ' = [some (.oth (.ref j)), some (.int (m : Nat)), some (.tup [.int (p : Nat), .int (s : Nat)]), some (.int (r : Nat)), some (.lst (ws.map .int)), some (.int (hdI ws)), some (.bl (grF m s ws)), x7, x8, x9], ⟨[], none, none, none, .refl hj, rfl, .nil, by omega, rfl⟩, ?_, ?_⟩
  · rintro i x ρ' M' hx ⟨ws, x7, x8, x9, jm, hl, hr', hi', rfl⟩
    obtain ⟨hi, rfl⟩ := rngD_get hx
    subst hl
    obtain ⟨f1, f0⟩ := hr'.hd h1
    have ll := lvN_le (many := m) (steps := s) (r := ws.length + 1)
    have hj' := jm.at
    refine qg_name 7 rfl (by kbo_bools) ?_
    refine qss_cons (qs_set 8 rfl (by kbo_bools) (QE.imp (P := fun d M1 => M1 = M' ∧ d = .int (lvN m s (ws.length + 1) : Nat)) ?_ ?_))
    · tlg_ne
      refine ix_t rfl ?_
      tlg_ne
      exact ⟨s2, rfl, by rw [Nat.add_comm 1]⟩
    rintro d M1 ⟨rfl, rfl⟩
    refine qss_cons (qs_set 9 rfl (by kbo_bools) (QE.imp (P := fun d M2 => M2 = M1 ∧ d = .int (needV m s ws.length (hdI ws))) ?_ ?_))
    · tlg_ne
      refine ix_t rfl ?_
      tlg_ne
      refine ⟨m, s, ws.length, by rw [show (1 : Int) + (ws.length : Nat) - 1 = (ws.length : Nat) by omega], s2, ?_⟩
      tlg_ne
      refine ix_t rfl ?_
      tlg_ne
      exact ⟨rfl, rfl⟩
    rintro d M2 ⟨rfl, rfl⟩
    refine qss_cons (qs_set 6 rfl (by kbo_bools) (QE.imp (P := fun d M4 => M4 = M2 ∧ d = .bl (grF m s (0 :: ws))) ?_ ?_))
    · rw [grF]
      cases hg : grF m s ws
      · tlg_ne
        exact ⟨rfl, rfl⟩
      · tlg_ne
        exact ⟨rfl, rfl⟩
    rintro d M4 ⟨rfl, rfl⟩
    refine qss_cons (qs_set 5 rfl (by kbo_bools) (qe_int ?_))
    cases hg : grF m s (0 :: ws)
    · have nd : needV m s ws.length (hdI ws) ≤ (lvN m s (ws.length + 1) : Nat) := by unfold needV; omega
      have nd1 : 1 ≤ needV m s ws.length (hdI ws) := by
        rw [grF, Bool.or_eq_false_iff, decide_eq_false_iff_not] at hg
        omega
      have one : ∀ (u : Int) (M5 : Mem), needV m s ws.length (hdI ws) ≤ u → u ≤ (lvN m s (ws.length + 1) : Nat) → Rst m s (u :: ws) := fun u M5 a b => .rung hr' hg nd1 a b
      tlg_ne
      refine ⟨by omega, by omega, fun a M5 a0 a1 jm5 => ?_⟩
      have hj5 := jm5.at
      tlg_ne
      refine ⟨by simp, by simp, fun i x M6 hx jm6 => ?_⟩
      obtain ⟨u, rfl, b0, b1⟩ : ∃ u, x = .int u ∧ needV m s ws.length (hdI ws) ≤ u ∧ u ≤ (lvN m s (ws.length + 1) : Nat) := by
        rcases i with _ | _ | _ | i
        · cases hx; exact ⟨_, rfl, Int.le_refl _, nd⟩
        · cases hx; exact ⟨_, rfl, nd, Int.le_refl _⟩
        · cases hx; exact ⟨_, rfl, by omega, by omega⟩
        · simp at hx
      have jm7 := (jm.trans jm5).trans jm6
      tlg_ne
      refine add_l (by simp only [List.length_cons, List.length_nil, List.length_map, sizeLine]; omega) ?_
      exact ⟨u :: ws, _, _, _, jm7, rfl, one u M6 b0 b1, by omega, by rw [grF_hd m s u 0, hg]; rfl⟩
    · tlg_ne
      refine add_l (by simp only [List.length_cons, List.length_nil, List.length_map, sizeLine]; omega) ?_
      exact ⟨0 :: ws, _, _, _, jm, rfl, .zero hr' hg, by omega, by rw [hg]; rfl⟩
  · rintro ρ' M' ⟨ws, x7, x8, x9, jm, hl, hr', hi', rfl⟩
    rw [rngD_length] at hl
    tlg_ne
    exact hQ ws M' hl hr' jm

end
section
variable {P : Program} {w : World} {K : PySem.W.Frag} {mg : Str → Option Value} {base : Heap} {T : List (Addr × Str)} {f : Addr} {fd : FuncData}
/-! ### what is heard -/
def ccHeard (Cl : Addr) : LCon := fun Pb Rb M Q => (∀ d M', Pb d M' → Q (.tup [.str "told", d]) M') ∧ (∀ cls fs M', Rb cls fs M' → cls = .ref Cl ∧ ∃ d, fs = [(("position" : Str), d)] ∧ Q (.tup [.str "InvalidStair", d]) M')
theorem has_law_heard {C_InvalidStair : Addr} {k : Nat} (F : Fun K "_law_heard" "_law_heard" s_law_heard f fd) (bn : BN mg) (hm : mg "_law_heard" = some (.ref f)) (X1 : Ex1 P w K mg base "InvalidStair" "position" C_InvalidStair) (xf : XfC K C_InvalidStair) (em : PySem.W.exmOne K (.ref C_InvalidStair) (.ref C_InvalidStair) = some true) : HasL P w K mg base T "_law_heard" "asked_now" k (ccHeard C_InvalidStair) := by
  refine hasL F sc_law_heard hm (bd_law_heard F) bn rfl fun cdv A outer s H M hr fl Q Pb Rb ⟨c1, c2⟩ act => ?_
  conv => arg 2; whnf
  refine qss_one (qs_try_as (c := .ref C_InvalidStair) 1 rfl rfl rfl rfl ⟨rfl, by decide, .inl X1.g⟩ fun W pn xe tk own => ?_)
  tlg_ne
  refine act _ _ _ _ _ _ _ _ _ _ rfl (fun d M' p => ?_) (fun cls fs M' p => ?_)
  · tlg_ne
    exact c1 d M' p
  · obtain ⟨rfl, d, rfl, q⟩ := c2 cls fs M' p
    refine ⟨true, em, fun _ a dx oe pn hz hv => ?_, fun z => Bool.noConfusion z⟩
    tlg_ne
    refine qe_xf xf X1.no hz hv ?_
    tlg_ne
    exact q
def svO (ns : List Int) (p s : Nat) : D → D
  | .lst st => if st.length ≤ 1000 then (if wrD ns.length s st = -1 then .tup [.str "told", .int (sv ns p s (st.map unI))] else .tup [.str "InvalidStair", .int (wrD ns.length s st)]) else .tup [.str "InvalidStair", .non]
  | _ => .tup [.str "InvalidStair", .non]
theorem svO_bad {ns : List Int} {p s : Nat} {d : D} (h : lenOk d = false) : svO ns p s d = .tup [.str "InvalidStair", .non] := by
  cases d with
  | lst st => rw [svO, if_neg (of_decide_eq_false h)]
  | _ => rfl
theorem svO_wrong {ns : List Int} {p s : Nat} {st : List D} (h : st.length ≤ 1000) (hw : 0 ≤ wrD ns.length s st) : svO ns p s (.lst st) = .tup [.str "InvalidStair", .int (wrD ns.length s st)] := by
  rw [svO, if_pos h, if_neg (by omega)]
theorem svO_told {ns : List Int} {p s : Nat} {ws : List Int} (h : ws.length ≤ 1000) (hr : Rst ns.length s ws) : svO ns p s (.lst (ws.map .int)) = .tup [.str "told", .int (sv ns p s ws)] := by
  rw [svO, List.length_map, if_pos h, if_pos hr.wr, map_unI]
theorem svO_perm {ns ms : List Int} {p s : Nat} {d : D} (h : ms.Perm ns) : svO ms p s d = svO ns p s d := by
  have e1 := srt_of_perm h
  have e2 := h.length_eq
  unfold svO sv sv0
  rw [e1, e2]
theorem sm_svO {ns : List Int} {p s : Nat} {d : D} : Sm 1 (svO ns p s d) := by
  unfold svO
  split
  · split
    · split
      · exact sm_tup2 sm_str (by trivial)
      · exact sm_tup2 sm_str (by trivial)
    · exact sm_tup2 sm_str (by trivial)
  · exact sm_tup2 sm_str (by trivial)
def cHv : Con := fun ds M Q _ => ∃ (ns : List Int) (p s : Nat) (d : D), ds = [.lst (ns.map .int), .tup [.int (p : Nat), .int (s : Nat)], d] ∧ Lv ns ∧ Rt p s ∧ Kn d ∧ (∀ xs, d = .lst xs → ∀ x ∈ xs, Kn x) ∧ Q (svO ns p s d) M
theorem has_law_heard_value {C_InvalidStair : Addr} {cA Pt : Addr} (F : Fun K "_law_heard_value" "_law_heard_value" s_law_heard_value f fd) (bn : BN mg) (hm : mg "_law_heard_value" = some (.ref f)) (hcd : fd.code = .ref cA) (hL : HasL P w K mg base T "_law_heard" "asked_now" 5 (ccHeard C_InvalidStair)) (h_stair_value : HasF P w K mg base T "stair_value" 3 5 (cSv C_InvalidStair)) (X_InvalidStair : Ex1 P w K mg base "InvalidStair" "position" C_InvalidStair) (TB : TabB base mg cA Pt) (hT : (Pt, lamQ "_law_heard_value" s_law_heard_value) ∈ T) (hU : ∀ p ∈ T, p.1 = Pt → p.2 = lamQ "_law_heard_value" s_law_heard_value) : HasF P w K mg base T "_law_heard_value" 3 8 cHv := by
  refine hasFC (k := 7) F sc_law_heard_value hm (bd_law_heard_value F) bn hcd rfl (fun _ _ _ _ ⟨_, _, _, _, e, _⟩ => by rw [e]; rfl) fun A outer s H E hr ds M Q Xd h => ?_
  obtain ⟨ns, p, s, d, rfl, lv, rt, kn, kns, hQ⟩ := h
  conv => arg 2; whnf
  refine qss_one (qs_ret (qe_lamcall hL (by exact Nat.le_of_ble_eq_true rfl) rfl TB rfl hT hU (by exact lamS_by (sc := defScope s_law_heard_value) (by decide +kernel)) ?_))
  refine ⟨fun e M' => M' = M ∧ svO ns p s d = .tup [.str "told", e], fun cls fs M' => M' = M ∧ cls = .ref C_InvalidStair ∧ ∃ e, fs = [(("position" : Str), e)] ∧ svO ns p s d = .tup [.str "InvalidStair", e], ?_, ?_, ?_⟩
  · intro A outer s H E f c' hr
    tlg_ne
    refine ⟨lv, rt, kn, kns, fun h => ⟨rfl, rfl, _, rfl, svO_bad h⟩, ?_, ?_⟩
    · rintro st rfl h hw
      exact ⟨rfl, rfl, _, rfl, svO_wrong h hw⟩
    · rintro ws rfl h hr
      exact ⟨rfl, svO_told h hr⟩
  · rintro e M' ⟨rfl, h⟩
    rw [← h]
    exact hQ
  · rintro cls fs M' ⟨rfl, rfl, e, rfl, h⟩
    refine ⟨rfl, e, rfl, ?_⟩
    rw [← h]
    exact hQ
def cOw : Con := fun ds M Q _ => ∃ (ns : List Int) (p s : Nat) (st : List D), ds = [.lst (ns.map .int), .tup [.int (p : Nat), .int (s : Nat)], .lst st] ∧ Lv ns ∧ Rt p s ∧ (∀ x ∈ st, Kn x) ∧ st.length ≤ 1000 ∧ Q (svO ns p s (.lst st)) M
theorem has_law_owed (F : Fun K "_law_owed" "_law_owed" s_law_owed f fd) (bn : BN mg) (hm : mg "_law_owed" = some (.ref f)) (h_law_fv_wrong_rung : HasF P w K mg base T "_law_fv_wrong_rung" 3 2 cWr) (h_law_fv_stair : HasF P w K mg base T "_law_fv_stair" 3 2 cSt) : HasF P w K mg base T "_law_owed" 3 3 cOw := by
  refine hasF (k := 2) F sc_law_owed hm (bd_law_owed F) bn rfl (fun _ _ _ _ ⟨_, _, _, _, e, _⟩ => by rw [e]; rfl) fun cdv A outer s H E hr ds M Q Xd h => ?_
  obtain ⟨ns, p, s, st, rfl, lv, rt, kns, hl, hQ⟩ := h
  conv => arg 2; whnf
  refine qss_cons (qs_set 3 rfl (by kbo_bools) (QE.imp (P := fun d M1 => M1 = M ∧ d = .int (wrD ns.length s st)) ?_ ?_))
  · tlg_ne
    rw [List.length_map]
    exact ⟨rt.s2, kns, hl, rfl, rfl⟩
  rintro d M1 ⟨rfl, rfl⟩
  have lo := wrD_lo ns.length s st
  tlg_ne
  refine ⟨fun c => ?_, fun c => ?_⟩
  · have c : wrD ns.length s st = -1 := of_decide_eq_true c
    obtain ⟨ws, rfl⟩ := wrD_int c
    have hr := Rst.of c
    rw [List.length_map] at hl
    rw [svO_told hl hr] at hQ
    tlg_ne
    refine ⟨lv, rt, hl, hr, ?_⟩
    tlg_ne
    exact hQ
  · have c : ¬ wrD ns.length s st = -1 := of_decide_eq_false c
    rw [svO_wrong hl (by omega)] at hQ
    tlg_ne
    exact hQ
def cIr : Con := fun ds M Q _ => ∃ (j : Addr) (ns : List Int) (p s : Nat) (st : List D), ds = [.oth (.ref j), .lst (ns.map .int), .tup [.int (p : Nat), .int (s : Nat)], .lst st] ∧ JarAt M j ∧ Lv ns ∧ Rt p s ∧ (∀ x ∈ st, Kn x) ∧ st.length ≤ 1000 ∧ Eqs 5 (.lst st) ∧ ∀ M', JM j M M' → Q (.bl true) M'
theorem has_law_is_right (F : Fun K "_law_is_right" "_law_is_right" s_law_is_right f fd) (bn : BN mg) (hm : mg "_law_is_right" = some (.ref f)) (h_law_owed : HasF P w K mg base T "_law_owed" 3 3 cOw) (h_law_mixed : HasF P w K mg base T "_law_mixed" 2 2 cMixed) (h_law_heard_value : HasF P w K mg base T "_law_heard_value" 3 8 cHv) (h_law_yq_same : HasF P w K mg base T "_law_yq_same" 2 3 (cSame 1)) : HasF P w K mg base T "_law_is_right" 4 9 cIr := by
  refine hasF (k := 8) F sc_law_is_right hm (bd_law_is_right F) bn rfl (fun _ _ _ _ ⟨_, _, _, _, _, e, _⟩ => by rw [e]; rfl) fun cdv A outer s H E hr ds M Q Xd h => ?_
  obtain ⟨j, ns, p, s, st, rfl, hj, lv, rt, kns, hl, eqs, hQ⟩ := h
  conv => arg 2; whnf
  refine qss_cons (qs_par 4 5 rfl rfl (by decide) rfl rfl ?_)
  tlg_ne
  refine ⟨lv, rt, kns, hl, ?_⟩
  tlg_ne
  refine ⟨by rw [List.length_map]; have := lv.hi; omega, fun ys M1 hp jm => ?_⟩
  obtain ⟨ms, rfl⟩ := perm_ints hp
  have hp2 := perm_ints2 hp
  tlg_ne
  refine ⟨⟨by rw [hp2.length_eq]; exact lv.lo, by rw [hp2.length_eq]; exact lv.hi, fun n hn => lv.le n (hp2.mem_iff.mp hn)⟩, rt, ⟨rfl⟩, fun xs e => by cases e; exact kns, ?_⟩
  tlg_ne
  rw [svO_perm hp2]
  refine ⟨_, rfl, sm_svO, ?_⟩
  tlg_ne
  exact eq_self_l eqs (by decide) (hQ M1 jm)

end
section
variable {P : Program} {w : World} {K : PySem.W.Frag} {mg : Str → Option Value} {base : Heap} {T : List (Addr × Str)} {f : Addr} {fd : FuncData}
/-- what the bent stairs hold -/
def Bx (x : D) : Prop := Kn x ∧ Eqs 1 x
theorem Bx.int (i : Int) : Bx (.int i) := ⟨⟨rfl⟩, .int⟩
theorem bx_ints {ws : List Int} : ∀ x ∈ ws.map D.int, Bx x := fun x hx => by
  obtain ⟨i, rfl, _⟩ := memI hx
  exact .int i
theorem bx_eqs {st : List D} (h : ∀ x ∈ st, Bx x) : Eqs 5 (.lst st) := by
  have h2 : Eqs 2 (.lst st) := Eqs.lst fun x hx => (h x hx).2
  obtain ⟨c, h3, h4, h5, h6⟩ := h2
  exact ⟨c, h3, h4, by omega, h6⟩
def cBent : Con := fun ds M Q _ => ∃ (j : Addr) (ws : List Int) (m p s : Nat), ds = [.oth (.ref j), .lst (ws.map .int), .int (m : Nat), .tup [.int (p : Nat), .int (s : Nat)]] ∧ JarAt M j ∧ 1 ≤ ws.length ∧ ws.length ≤ 100 ∧ s ≤ 20 ∧ ∀ st M', st.length = ws.length → (∀ x ∈ st, Bx x) → JM j M M' → Q (.lst st) M'
theorem has_law_bent (F : Fun K "_law_bent" "_law_bent" s_law_bent f fd) (bn : BN mg) (hm : mg "_law_bent" = some (.ref f)) (h_law_one : HasF P w K mg base T "_law_one" 2 2 cOne) (h_law_take : HasF P w K mg base T "_law_take" 2 1 cTake) (h_law_fv_live : HasF P w K mg base T "_law_fv_live" 3 1 cLive) : HasF P w K mg base T "_law_bent" 4 3 cBent := by
  refine hasF (k := 2) F sc_law_bent hm (bd_law_bent F) bn rfl (fun _ _ _ _ ⟨_, _, _, _, _, e, _⟩ => by rw [e]; rfl) fun cdv A outer s H E hr ds M Q Xd h => ?_
  obtain ⟨j, ws, m, p, s, rfl, hj, l1, l2, s2, hQ⟩ := h
  conv => arg 2; whnf
  refine qss_cons (qs_set 4 rfl (by kbo_bools) (qe_list1M ?_))
  tlg_ne
  refine fun q hq => ?_
  have qj := hj.ne hq
  refine qss_cons (qs_for (qi_range1 ?_))
  tlg_ne
  refine ⟨hj.upd qj, by simp, by simp, fun i0 x0 M1 hx0 jm1 => ?_⟩
  obtain ⟨k, rfl, k1, k2⟩ : ∃ k : Int, x0 = .int k ∧ 1 ≤ k ∧ k ≤ 2 := by
    have h := List.mem_of_getElem? hx0
    simp at h
    rcases h with rfl | rfl <;> exact ⟨_, rfl, by omega, by omega⟩
  obtain ⟨M0, j0, rfl, m0⟩ := jm1.drop hq qj
  tlg_ne
  refine ⟨by omega, by omega, fun i ρ' M' => ∃ (st : List D) (Mj : Mem) (x5 x6 x7 x8 x9 x10 x11 : Option D), M' = mupd Mj q (.lst st) ∧ JM j M Mj ∧ Mj q = none ∧ st.length = ws.length ∧ (∀ x ∈ st, Bx x) ∧
    ρ' = [some (.oth (.ref j)), some (.lst (ws.map .int)), some (.int (m : Nat)), some (.tup [.int (p : Nat), .int (s : Nat)]), some (.oth (.ref q)), x5, x6, x7, x8, x9, x10, x11], ⟨_, M0, none, none, none, none, none, none, none, rfl, j0, m0, by rw [List.length_map], bx_ints, rfl⟩, ?_, ?_⟩
  · rintro i x ρ' M' hx ⟨st, Mj, x5, x6, x7, x8, x9, x10, x11, rfl, jm, mq, hl, hb, rfl⟩
    obtain ⟨hi, rfl⟩ := rngD_get hx
    have hjj := jm.at.upd (m := .lst st) qj
    refine qg_name 5 rfl (by kbo_bools) ?_
    tlg_ne
    refine ⟨_, st.length, rfl, by simp only [lenD, mupd_same], ?_⟩
    tlg_ne
    refine ⟨by omega, by omega, fun a M2 a0 a1 jm2 => ?_⟩
    obtain ⟨M3, j3, rfl, m3⟩ := jm2.drop mq qj
    have hj3 := j3.at.upd (m := .lst st) qj
    obtain ⟨b, rfl⟩ := nat_of a0
    refine qss_cons (qs_set 7 rfl (by kbo_bools) (QE.imp (P := fun d M1 => M1 = mupd M3 q (.lst st) ∧ d = .int ((st.length - b : Nat) : Int)) ?_ ?_))
    · tlg_ne
      refine ⟨_, st.length, rfl, by simp only [lenD, mupd_same], ?_⟩
      tlg_ne
      exact ⟨rfl, by congr 1; omega⟩
    rintro d M1 ⟨rfl, rfl⟩
    refine qss_cons (qs_set 8 rfl (by kbo_bools) (QE.imp (P := fun d M1 => M1 = mupd M3 q (.lst st) ∧ ∃ hi : Int, d = .int hi) ?_ ?_))
    · tlg_ne
      refine ix_t rfl ?_
      tlg_ne
      exact ⟨s2, rfl, _, rfl⟩
    rintro d M1 ⟨rfl, hi1, rfl⟩
    refine qss_cons (qs_set 9 rfl (by kbo_bools) (QE.imp (P := fun d M1 => M1 = mupd M3 q (.lst st) ∧ ∃ hi : Int, d = .int hi) ?_ ?_))
    · tlg_ne
      rw [List.length_map]
      refine ⟨fun c => ?_, fun c => ?_⟩
      · have c : (b : Int) + 1 < (ws.length : Int) := of_decide_eq_true c
        obtain ⟨u, hu⟩ : ∃ u, ws[b + 1]? = some u := ⟨_, List.getElem?_eq_getElem (by omega)⟩
        tlg_ne
        refine ix_lI (x := u) (by omega) (by rw [show ((b : Int) + 1).toNat = b + 1 by omega]; exact hu) ?_
        exact ⟨rfl, _, rfl⟩
      · tlg_ne
        exact ⟨rfl, _, rfl⟩
    rintro d M1 ⟨rfl, wa, rfl⟩
    refine qss_cons (qs_set 10 rfl (by kbo_bools) (QE.imp (P := fun d M1 => M1 = mupd M3 q (.lst st) ∧ ∃ hi : Int, d = .int hi) ?_ ?_))
    · tlg_ne
      refine ix_t rfl ?_
      tlg_ne
      refine ⟨m, s, st.length - b - 1, by rw [show ((st.length - b : Nat) : Int) - 1 = ((st.length - b - 1 : Nat) : Int) by omega], s2, ?_⟩
      tlg_ne
      refine ix_t rfl ?_
      tlg_ne
      exact ⟨rfl, _, rfl⟩
    rintro d M1 ⟨rfl, nd, rfl⟩
    tlg_ne
    refine ⟨by simp, by simp, fun ix x M4 hx jm4 => ?_⟩
    have bx : Bx x := by
      have h := List.mem_of_getElem? hx
      simp only [List.mem_cons, List.not_mem_nil, or_false] at h
      rcases h with rfl | rfl | rfl | rfl | rfl | rfl | rfl | rfl | rfl | rfl | rfl | rfl | rfl | rfl
      all_goals first | exact Bx.int _ | exact ⟨⟨rfl⟩, .bl⟩ | exact ⟨⟨rfl⟩, .non⟩ | exact ⟨⟨rfl⟩, .str (by decide +kernel)⟩ | exact ⟨⟨rfl⟩, Eqs.tup fun y hy => by rw [List.mem_singleton.mp hy]; exact Eqs.int⟩ | exact ⟨⟨rfl⟩, Eqs.lst fun y hy => by rw [List.mem_singleton.mp hy]; exact Eqs.int⟩
    obtain ⟨M5, j5, rfl, m5⟩ := jm4.drop m3 qj
    refine qg_sub ?_
    tlg_ne
    refine ⟨q, _, _, b, rfl, rfl, mupd_same, ?_, ?_⟩
    · unfold ixN
      rw [if_pos (by omega), if_pos a1, Int.toNat_natCast]
    · refine ⟨st.set b x, M5, _, _, _, _, _, _, _, mupd_upd, (jm.trans j3).trans j5, m5, by rw [List.length_set]; exact hl, fun y hy => ?_, rfl⟩
      rcases List.mem_or_eq_of_mem_set hy with z | z
      · exact hb y z
      · rw [z]; exact bx
  · rintro ρ' M' ⟨st, Mj, x5, x6, x7, x8, x9, x10, x11, rfl, jm, mq, hl, hb, rfl⟩
    refine qss_one (qs_ret (qe_frz ?_))
    tlg_ne
    refine ⟨q, _, rfl, mupd_same, ?_⟩
    rw [mdel_upd mq]
    exact hQ st Mj hl hb jm

end
section
variable {P : Program} {w : World} {K : PySem.W.Frag} {mg : Str → Option Value} {base : Heap} {T : List (Addr × Str)} {f : Addr} {fd : FuncData}
def cLr : Con := fun ds M Q _ => ∃ (j : Addr) (ns : List Int) (p s : Nat), ds = [.oth (.ref j), .lst (ns.map .int), .tup [.int (p : Nat), .int (s : Nat)]] ∧ JarAt M j ∧ Lv ns ∧ Rt p s ∧ ∀ M', JM j M M' → Q (.bl true) M'
theorem has_law_levels_right (F : Fun K "_law_levels_right" "_law_levels_right" s_law_levels_right f fd) (bn : BN mg) (hm : mg "_law_levels_right" = some (.ref f)) (h_law_take : HasF P w K mg base T "_law_take" 2 1 cTake) (h_law_fv_drawn_stair : HasF P w K mg base T "_law_fv_drawn_stair" 4 3 cDst) (h_law_fv_wrong_rung : HasF P w K mg base T "_law_fv_wrong_rung" 3 2 cWr) (h_law_is_right : HasF P w K mg base T "_law_is_right" 4 9 cIr) (h_law_fv_stair : HasF P w K mg base T "_law_fv_stair" 3 2 cSt) (h_law_fv_forced : HasF P w K mg base T "_law_fv_forced" 3 4 cFfor) (h_law_bent : HasF P w K mg base T "_law_bent" 4 3 cBent) (h_law_heard_value : HasF P w K mg base T "_law_heard_value" 3 8 cHv) (h_law_yq_same : HasF P w K mg base T "_law_yq_same" 2 3 (cSame 1)) : HasF P w K mg base T "_law_levels_right" 3 10 cLr := by
  refine hasF (k := 9) F sc_law_levels_right hm (bd_law_levels_right F) bn rfl (fun _ _ _ _ ⟨_, _, _, _, e, _⟩ => by rw [e]; rfl) fun cdv A outer s H E hr ds M Q Xd h => ?_
  obtain ⟨j, ns, p, s, rfl, hj, lv, rt, hQ⟩ := h
  conv => arg 2; whnf
  have h1 := lv.lo
  have h2 := lv.hi
  have s2 := rt.s2
  refine qss_cons (qs_set 3 rfl (by kbo_bools) (QE.imp (P := fun d M1 => M1 = M ∧ d = .int (ns.length : Nat)) ?_ ?_))
  · tlg_ne
    rw [List.length_map]
    exact ⟨rfl, rfl⟩
  rintro d M1 ⟨rfl, rfl⟩
  refine qss_cons (qs_for (qi_list ?_))
  tlg_ne
  refine ⟨by omega, by omega, fun a M2 a0 a1 jm2 => ?_⟩
  tlg_ne
  refine ⟨_, .inl rfl, fun i ρ' M' => ∃ (x4 x5 x6 x7 : Option D), JM j M1 M' ∧ ρ' = [some (.oth (.ref j)), some (.lst (ns.map .int)), some (.tup [.int (p : Nat), .int (s : Nat)]), some (.int (ns.length : Nat)), x4, x5, x6, x7, none], ⟨none, none, none, none, jm2, rfl⟩, ?_, ?_⟩
  · rintro i x ρ' M' hx ⟨x4, x5, x6, x7, jm, rfl⟩
    obtain ⟨r, rfl, r1⟩ : ∃ r : Nat, x = .int (r : Nat) ∧ r ≤ 100 := by
      have h := List.mem_of_getElem? hx
      simp at h
      rcases h with rfl | rfl | rfl | rfl | rfl | rfl | rfl
      · exact ⟨0, rfl, by omega⟩
      · exact ⟨1, rfl, by omega⟩
      · exact ⟨2, rfl, by omega⟩
      · exact ⟨3, rfl, by omega⟩
      · exact ⟨5, rfl, by omega⟩
      · exact ⟨12, rfl, by omega⟩
      · exact ⟨a.toNat, by rw [show ((a.toNat : Nat) : Int) = a by omega], by omega⟩
    have hj' := jm.at
    refine qg_name 4 rfl (by kbo_bools) ?_
    tlg_ne
    refine ⟨_, _, _, _, _, rfl, hj', h1, h2, s2, r1, fun ws M3 hl hr jm3 => ?_⟩
    have hj3 := jm3.at
    have lr : ∀ vs : List Int, vs.length ≤ 1000 → ∀ x ∈ vs.map D.int, Kn x := fun vs _ x hx => (bx_ints x hx).1
    tlg_ne
    refine ⟨s2, lr ws (by omega), by rw [List.length_map]; omega, ?_⟩
    tlg_ne
    rw [hr.wr]
    tlg_ne
    refine ⟨_, _, _, _, _, rfl, hj3, lv, rt, lr ws (by omega), by rw [List.length_map]; omega, bx_eqs bx_ints, fun M4 jm4 => ?_⟩
    have hj4 := jm4.at
    tlg_ne
    refine ⟨lv, rt, by omega, hr, ?_⟩
    tlg_ne
    refine ⟨lv, rt, by omega, fun v hv => ?_⟩
    have fs := fv_sv (p := p) lv hr
    rw [hl] at fs
    rw [fv_eq hv]
    tlg_ne
    refine ⟨fun c => absurd (of_decide_eq_true c) (by omega), fun _ => qss_nil ?_⟩
    refine qss_cons (qs_for (qi_range1 ?_))
    refine qa_cons (QE.imp (P := fun d M1 => M1 = M4 ∧ d = .int (if r = 0 then 0 else 6)) ?_ ?_)
    · tlg_ne
      refine ⟨fun c => ?_, fun c => ?_⟩
      · have c : (r : Int) > 0 := of_decide_eq_true c
        tlg_ne
        exact ⟨rfl, by rw [if_neg (by omega)]⟩
      · have c : ¬ (r : Int) > 0 := of_decide_eq_false c
        tlg_ne
        exact ⟨rfl, by rw [if_pos (by omega)]⟩
    rintro d M5 ⟨rfl, rfl⟩
    tlg_ne
    refine ⟨by split <;> decide, by split <;> decide, fun i ρ' M6 => ∃ (y6 : Option D), JM j M1 M6 ∧ ρ' = [some (.oth (.ref j)), some (.lst (ns.map .int)), some (.tup [.int (p : Nat), .int (s : Nat)]), some (.int (ns.length : Nat)), some (.int (r : Nat)), some (.lst (ws.map .int)), y6, x7, none], ⟨_, (jm.trans jm3).trans jm4, rfl⟩, ?_, ?_⟩
    · rintro i x ρ' M6 hx ⟨y6, jm6, rfl⟩
      have hj6 := jm6.at
      have r0 : 1 ≤ r := by
        by_cases z : r = 0
        · rw [if_pos z] at hx
          cases hx
        · omega
      obtain ⟨_, rfl⟩ := rngD_get hx
      refine qg_name 6 rfl (by kbo_bools) ?_
      tlg_ne
      refine ⟨_, _, _, _, _, rfl, hj6, by omega, by omega, s2, fun st M7 hst hb jm7 => ?_⟩
      have hj7 := jm7.at
      tlg_ne
      refine ⟨_, _, _, _, _, rfl, hj7, lv, rt, fun x hx => (hb x hx).1, by omega, bx_eqs hb, fun M8 jm8 => ?_⟩
      tlg_ne
      exact ⟨_, (jm6.trans jm7).trans jm8, rfl⟩
    · rintro ρ' M6 ⟨y6, jm6, rfl⟩
      refine qss_one (qs_for (qi_list ?_))
      tlg_ne
      refine add_l (by simp only [List.length_cons, List.length_nil, List.length_map, sizeLine]; omega) ?_
      tlg_ne
      refine add_l (by simp only [List.length_cons, List.length_nil, List.length_map, sizeLine]; omega) ?_
      tlg_ne
      refine ⟨_, .inl rfl, fun i ρ' M' => ∃ (y7 : Option D), JM j M1 M' ∧ ρ' = [some (.oth (.ref j)), some (.lst (ns.map .int)), some (.tup [.int (p : Nat), .int (s : Nat)]), some (.int (ns.length : Nat)), some (.int (r : Nat)), some (.lst (ws.map .int)), y6, y7, none], ⟨_, jm6, rfl⟩, ?_, ?_⟩
      · rintro i x ρ' M7 hx ⟨y7, jm7, rfl⟩
        have hj7 := jm7.at
        obtain ⟨vs, rfl, lv7⟩ : ∃ vs : List Int, x = .lst (vs.map .int) ∧ vs.length ≤ 1000 := by
          have c1 := cut_len (xs := ws) (l := some 1) (u := none)
          have c2 := cut_len (xs := ws) (l := none) (u := some (-1))
          have h := List.mem_of_getElem? hx
          simp only [List.mem_cons, List.not_mem_nil, or_false] at h
          rcases h with rfl | rfl | rfl | rfl | rfl
          · exact ⟨1 :: ws, rfl, by simp; omega⟩
          · exact ⟨_, by rw [cutD_map], by omega⟩
          · exact ⟨_, by rw [cutD_map], by omega⟩
          · exact ⟨ws.reverse, by rw [List.map_reverse], by rw [List.length_reverse]; omega⟩
          · exact ⟨0 :: ws, rfl, by simp; omega⟩
        refine qg_name 7 rfl (by kbo_bools) ?_
        tlg_ne
        refine ⟨_, _, _, _, _, rfl, hj7, lv, rt, lr vs lv7, by rw [List.length_map]; exact lv7, bx_eqs bx_ints, fun M8 jm8 => ?_⟩
        tlg_ne
        exact ⟨_, jm7.trans jm8, rfl⟩
      · rintro ρ' M7 ⟨y7, jm7, rfl⟩
        exact ⟨_, _, _, _, jm7, rfl⟩
  · rintro ρ' M' ⟨x4, x5, x6, x7, jm, rfl⟩
    refine qss_cons (qs_for (qi_list ?_))
    tlg_ne
    refine qe_frzD (qe_dnewK fun q hq => ?_)
    refine ⟨q, _, rfl, mupd_same, ?_⟩
    rw [mdel_upd hq]
    tlg_ne
    refine mul_lI (by omega) (by omega) (by simp only [sizeLine]; omega) ?_
    tlg_ne
    refine mul_lI (by omega) (by omega) (by simp only [sizeLine]; omega) ?_
    tlg_ne
    refine ⟨_, .inl rfl, fun i ρ' M2 => M2 = M' ∧ ∃ (y8 : Option D), ρ' = [some (.oth (.ref j)), some (.lst (ns.map .int)), some (.tup [.int (p : Nat), .int (s : Nat)]), some (.int (ns.length : Nat)), x4, x5, x6, x7, y8], ⟨rfl, _, rfl⟩, ?_, ?_⟩
    · rintro i x ρ' M2 hx ⟨rfl, y8, rfl⟩
      obtain ⟨kx, ksx, e⟩ : Kn x ∧ (∀ xs, x = .lst xs → ∀ y ∈ xs, Kn y) ∧ lenOk x = false := by
        have h := List.mem_of_getElem? hx
        simp only [List.mem_cons, List.not_mem_nil, or_false] at h
        rcases h with rfl | rfl | rfl | rfl | rfl | rfl | rfl | rfl | rfl
        · exact ⟨⟨rfl⟩, fun _ z => (by cases z), rfl⟩
        · exact ⟨⟨rfl⟩, fun _ z => (by cases z), rfl⟩
        · exact ⟨⟨rfl⟩, fun _ z => (by cases z), rfl⟩
        · exact ⟨⟨rfl⟩, fun _ z => (by cases z), rfl⟩
        · exact ⟨⟨rfl⟩, fun _ z => (by cases z), rfl⟩
        · exact ⟨⟨rfl⟩, fun _ z => (by cases z), rfl⟩
        · exact ⟨⟨rfl⟩, fun _ z => (by cases z), rfl⟩
        · exact ⟨⟨rfl⟩, fun xs z => (by cases z; exact fun y hy => (bx_ints y hy).1), (by rw [lenOk, List.length_map, List.length_replicate]; decide)⟩
        · exact ⟨⟨rfl⟩, fun xs z => (by cases z; exact fun y hy => (bx_ints y hy).1), (by rw [lenOk, List.length_map, List.length_replicate]; decide)⟩
      refine qg_name 8 rfl (by kbo_bools) ?_
      tlg_ne
      refine ⟨lv, rt, kx, ksx, ?_⟩
      rw [svO_bad e]
      tlg_ne
      refine ⟨sm_tup2 sm_str (by trivial), ?_⟩
      tlg_ne
      exact ⟨rfl, _, rfl⟩
    · rintro ρ' M2 ⟨rfl, y8, rfl⟩
      tlg_ne
      exact hQ M2 jm

end
section
variable {P : Program} {w : World} {K : PySem.W.Frag} {mg : Str → Option Value} {base : Heap} {T : List (Addr × Str)} {f : Addr} {fd : FuncData}
def LL (ls : List (List Int)) : List D := ls.map fun l => .lst (l.map .int)
theorem Eqs.mono {n m : Nat} {d : D} (h : Eqs n d) (hm : n ≤ m) : Eqs m d := by
  obtain ⟨c, h1, h2, h3, h4⟩ := h
  exact ⟨c, h1, h2, by omega, h4⟩
theorem LL_at {ls : List (List Int)} {i : Nat} {d : D} (h : (LL ls)[i]? = some d) : ∃ l, d = .lst (l.map .int) ∧ l ∈ ls := by
  obtain ⟨l, h1, h2⟩ := List.mem_map.mp (List.mem_of_getElem? h)
  exact ⟨l, h2.symm, h1⟩
theorem eqs_ints (l : List Int) : Eqs 1 (.lst (l.map .int)) := Eqs.lst fun x hx => by
  obtain ⟨i, rfl, _⟩ := memI hx
  exact .int
theorem eqs_LL (ls : List (List Int)) : Eqs 2 (.lst (LL ls)) := Eqs.lst fun x hx => by
  obtain ⟨l, _, rfl⟩ := List.mem_map.mp hx
  exact eqs_ints l
def adF (l : List Int) : D → Option D
  | .int k => some (.lst ((l ++ [k]).map .int))
  | _ => none
theorem adF_rng (l : List Int) (b : Nat) : (rngD 0 b).filterMap (adF l) = LL ((List.range b).map fun k => l ++ [((k : Nat) : Int)]) := by
  unfold rngD LL
  rw [List.filterMap_map, List.map_map, ← List.filterMap_eq_map]
  congr 1
  funext k
  simp [adF]
theorem LL_of {ys : List D} {n : Nat} (h : ∀ y ∈ ys, ∃ l : List Int, y = .lst (l.map .int) ∧ l.length ≤ n) : ∃ ls : List (List Int), ys = LL ls ∧ ∀ l ∈ ls, l.length ≤ n := by
  induction ys with
  | nil => exact ⟨[], rfl, by simp⟩
  | cons y ys ih =>
    obtain ⟨l, rfl, hl⟩ := h y List.mem_cons_self
    obtain ⟨ls, rfl, hls⟩ := ih fun z hz => h z (List.mem_cons_of_mem _ hz)
    exact ⟨l :: ls, rfl, fun z hz => by
      rcases List.mem_cons.mp hz with rfl | hz
      · exact hl
      · exact hls z hz⟩
def cAll : Con := fun ds M Q _ => ∃ j : Addr, ds = [.oth (.ref j)] ∧ JarAt M j ∧ ∀ M', JM j M M' → Q (.bl true) M'
theorem has_law_all_right (F : Fun K "_law_all_right" "_law_all_right" s_law_all_right f fd) (bn : BN mg) (hm : mg "_law_all_right" = some (.ref f)) (h_law_take : HasF P w K mg base T "_law_take" 2 1 cTake) (h_law_is_right : HasF P w K mg base T "_law_is_right" 4 9 cIr) : HasF P w K mg base T "_law_all_right" 1 10 cAll := by
  refine hasF (k := 9) F sc_law_all_right hm (bd_law_all_right F) bn rfl (fun _ _ _ _ ⟨_, e, _⟩ => by rw [e]; rfl) fun cdv A outer s H E hr ds M Q Xd h => ?_
  obtain ⟨j, rfl, hj, hQ⟩ := h
  conv => arg 2; whnf
  refine qss_cons (qs_set 1 rfl (by kbo_bools) (qe_compJ [("go", 2)] j 0 6 (qi_range1 ?_) (by exact blkOk_by (N := n_law_all_right) (sc := defScope s_law_all_right) (by decide +kernel))))
  tlg_ne
  refine ⟨by omega, by omega, fun a M1 a0 a1 jm1 => ?_⟩
  have hj1 := jm1.at
  tlg_ne
  refine ⟨by omega, by omega, hj1, by rw [rngD_length]; simp only [sizeLine]; omega, ?_, ?_⟩
  · intro i x M2 hx hj2 s H cc cl fp
    obtain ⟨hi, rfl⟩ := rngD_get hx
    refine qgw_name 2 (by decide) rfl (by kbo_bools) ?_
    intro s2 H2 cc2 cl2 fp2
    refine qts_nil ⟨rfl, fun s H cc cl fp => ?_⟩
    tlg_ne
    exact ⟨by omega, by omega, fun q M3 q0 q1 jm3 => ⟨_, rfl, by omega, by omega, jm3⟩⟩
  intro ns M2 jm2 hlen hall
  rw [rngD_length] at hlen
  have hj2 := jm2.at
  have lv : Lv ns := ⟨by omega, by omega, fun n hn => by have := hall n hn; omega⟩
  refine qss_cons (qs_asg ?_)
  tlg_ne
  refine ⟨by omega, by omega, fun b M3 b0 b1 jm3 => ?_⟩
  have hj3 := jm3.at
  tlg_ne
  refine ⟨by omega, by omega, fun c M4 c0 c1 jm4 => ?_⟩
  have jm := ((jm1.trans jm2).trans jm3).trans jm4
  have hj4 := jm4.at
  obtain ⟨p, hp⟩ := nat_of (show 0 ≤ 1 + b by omega)
  obtain ⟨st, hst⟩ := nat_of (show 0 ≤ 1 + c by omega)
  have rt : Rt p st := ⟨by omega, by omega, by omega, by omega⟩
  rw [hp]
  tlg_ne
  rw [hst]
  refine qg_tup (qgs_name 3 rfl (by kbo_bools) (qgs_name 4 rfl (by kbo_bools) (qgs_nil ?_)))
  refine qss_cons (qs_for (qi_range1 ?_))
  tlg_ne
  refine ⟨by omega, by omega, fun i ρ' M' => JM j M4 M' ∧ ∃ (ls : List (List Int)) (x2 x5 x6 x7 : Option D), (∀ l ∈ ls, l.length ≤ i) ∧ ls.length ≤ 5 ^ i ∧ ρ' = [some (.oth (.ref j)), some (.lst (ns.map .int)), x2, some (.tup [.int (p : Nat), .int (st : Nat)]), some (.lst (LL ls)), x5, x6, x7], ⟨.refl hj4, [[]], _, _, _, _, by simp, by decide, rfl⟩, ?_, ?_⟩
  · rintro i x ρ' M' hx ⟨jmq, ls, x2, x5, x6, x7, hls, hll, rfl⟩
    have hjq := jmq.at
    obtain ⟨hi, rfl⟩ := rngD_get hx
    have hi3 : i < 3 := hi
    have hl25 : ls.length ≤ 25 ∧ (5 : Nat) ^ (i + 1) = 5 * 5 ^ i := by
      rcases (by omega : i = 0 ∨ i = 1 ∨ i = 2) with rfl | rfl | rfl
      · exact ⟨by omega, rfl⟩
      · exact ⟨by omega, rfl⟩
      · exact ⟨by omega, rfl⟩
    refine qg_name 2 rfl (by kbo_bools) ?_
    refine qss_cons (qs_set 5 rfl (by kbo_bools) ?_)
    refine qe_lstM ?_
    tlg_ne
    intro q hq
    have qj := hjq.ne hq
    refine qss_cons (qs_for (qi_list ?_))
    tlg_ne
    refine ⟨_, .inl rfl, fun k ρ' M2 => ∃ acc x6 x7, M2 = mupd M' q (.lst (LL acc)) ∧ (∀ l ∈ acc, l.length ≤ i + 1) ∧ acc.length = 4 * k ∧
      ρ' = [some (.oth (.ref j)), some (.lst (ns.map .int)), some (.int (0 + (i : Nat))), some (.tup [.int (p : Nat), .int (st : Nat)]), some (.lst (LL ls)), some (.oth (.ref q)), x6, x7], ⟨[], _, _, rfl, by simp, by simp, rfl⟩, ?_, ?_⟩
    · rintro k x ρ' M2 hx ⟨acc, x6, x7, rfl, a1, a3, rfl⟩
      obtain ⟨l, rfl, hl⟩ := LL_at hx
      have hk : k < ls.length := by
        have := (List.getElem?_eq_some_iff.mp hx).1
        simpa [LL] using this
      have l1 := hls l hl
      refine qg_name 6 rfl (by kbo_bools) ?_
      refine qss_one (qs_expr (qe_extend ?_))
      tlg_ne
      refine ⟨⟨_, mupd_same⟩, ?_⟩
      refine qe_compP [("x", 7)] (adF l) (qi_range1 ?_) (by exact blkOk_by (N := n_law_all_right) (sc := defScope s_law_all_right) (by decide +kernel))
      tlg_ne
      refine ⟨by omega, by omega, ?_⟩
      refine ⟨by rw [rngD_length]; simp only [sizeLine]; omega, ?_, ?_⟩
      · intro m x hx M3 s H cc cl fp
        obtain ⟨hm, rfl⟩ := rngD_get hx
        refine qgw_name 7 (by decide) rfl (by kbo_bools) ?_
        intro s2 H2 cc2 cl2 fp2
        refine qts_nil ⟨rfl, fun _ s H cc cl fp => ?_, fun z => Bool.noConfusion z⟩
        tlg_ne
        refine add_lI (ys := [0 + (m : Nat)]) (by simp only [List.length_cons, List.length_nil, sizeLine]; omega) ?_
        exact ⟨rfl, rfl⟩
      rw [adF_rng]
      refine ⟨_, _, rfl, mupd_same, by simp only [LL, List.length_map, List.length_range, sizeLine]; omega, ?_⟩
      rw [mupd_upd]
      tlg_ne
      refine ⟨acc ++ (List.range (Int.toNat 4)).map fun k => l ++ [((k : Nat) : Int)], _, _, by simp [LL], ?_, by simp [a3, Nat.mul_add], rfl⟩
      intro z hz
      rcases List.mem_append.mp hz with h | h
      · exact a1 z h
      · obtain ⟨k, _, rfl⟩ := List.mem_map.mp h
        simp; omega
    · rintro ρ' M2 ⟨acc, x6, x7, rfl, a1, a3, rfl⟩
      rw [LL, List.length_map] at a3
      refine qss_frz (q := q) 5 rfl mupd_same ?_
      rw [mdel_upd hq]
      refine qss_one (qs_set 4 rfl (by kbo_bools) (qe_add ?_))
      tlg_ne
      refine qe_compG [("one", 6)] j (fun d => ∃ l : List Int, d = .lst (l.map .int) ∧ l.length ≤ i + 1) (qi_list ?_) (by exact blkOk_by (N := n_law_all_right) (sc := defScope s_law_all_right) (by decide +kernel))
      tlg_ne
      refine ⟨_, .inl rfl, hjq, by rw [LL, List.length_map]; simp only [sizeLine]; omega, ?_, ?_⟩
      · intro k x M2 hx hj2 s H cc cl fp
        obtain ⟨l, rfl, hl⟩ := LL_at hx
        refine qgw_name 6 (by decide) rfl (by kbo_bools) ?_
        intro s2 H2 cc2 cl2 fp2
        refine qts_one (qt_notinP ?_)
        tlg_ne
        refine inP_any (Eqs.mono (eqs_ints l) (show 1 ≤ 2 by decide)) (eqs_LL ls) (by decide) fun b => ⟨b, rfl, fun _ s H cc cl fp => ?_, fun _ => .refl hj2⟩
        tlg_ne
        exact ⟨⟨l, rfl, a1 l hl⟩, .refl hj2⟩
      intro ys M2 jm2 hly hys
      obtain ⟨ms, rfl, hms⟩ := LL_of hys
      rw [LL, LL, List.length_map, List.length_map] at hly
      refine add_l (by rw [LL, LL, List.length_map, List.length_map]; simp only [sizeLine]; omega) ?_
      refine ⟨jmq.trans jm2, ls ++ ms, _, _, _, _, fun l hl => ?_, by rw [List.length_append, hl25.2]; omega, by rw [show LL ls ++ LL ms = LL (ls ++ ms) by rw [LL, LL, LL, List.map_append]]; rfl⟩
      rcases List.mem_append.mp hl with h | h
      · have := hls l h; omega
      · exact hms l h
  · rintro ρ' M' ⟨jmq, ls, x2, x5, x6, x7, hls, hll, rfl⟩
    have hjq := jmq.at
    have hl3 : ∀ l ∈ ls, l.length ≤ 3 := hls
    have hl125 : ls.length ≤ 125 := hll
    refine qss_one (qs_ret (qe_eq ?_))
    refine qe_compG [("one", 6)] j (fun d => False) (qi_list ?_) (by exact blkOk_by (N := n_law_all_right) (sc := defScope s_law_all_right) (by decide +kernel))
    tlg_ne
    refine ⟨_, .inl rfl, hjq, by rw [LL, List.length_map]; simp only [sizeLine]; omega, ?_, ?_⟩
    · intro k x M2 hx hj2 s H cc cl fp
      obtain ⟨l, rfl, hl⟩ := LL_at hx
      have h3 := hl3 l hl
      refine qgw_name 6 (by decide) rfl (by kbo_bools) ?_
      intro s2 H2 cc2 cl2 fp2
      refine qts_one ?_
      tlg_ne
      refine ⟨_, _, _, _, _, rfl, hj2, lv, rt, fun x hx => (bx_ints x hx).1, by rw [List.length_map]; omega, bx_eqs bx_ints, fun M8 jm8 => ?_⟩
      exact ⟨true, rfl, fun h => absurd h (by decide), fun _ => jm8⟩
    intro ys M2 jm2 hly hys
    obtain rfl : ys = [] := by
      cases ys with
      | nil => rfl
      | cons y ys => exact (hys y List.mem_cons_self).elim
    tlg_ne
    refine eq_ints (xs := []) (ys := []) ?_
    exact hQ _ ((jm.trans jmq).trans jm2)

end
section
variable {P : Program} {w : World} {K : PySem.W.Frag} {mg : Str → Option Value} {base : Heap} {T : List (Addr × Str)} {f : Addr} {fd : FuncData}
theorem told_at {ns ws : List Int} {p s : Nat} {v : Int} (h1 : ws.length ≤ 1000) (h2 : wrD ns.length s (ws.map .int) = -1) (h3 : sv ns p s ws = v) : svO ns p s (.lst (ws.map .int)) = .tup [.str "told", .int v] := by
  rw [svO_told h1 (Rst.of h2), h3]
theorem wrong_at {ns ws : List Int} {p s : Nat} {v : Int} (h1 : ws.length ≤ 1000) (h2 : wrD ns.length s (ws.map .int) = v) (h3 : 0 ≤ v) : svO ns p s (.lst (ws.map .int)) = .tup [.str "InvalidStair", .int v] := by
  rw [svO_wrong (by rw [List.length_map]; exact h1) (by omega), h2]
def svF : D → Option D
  | .tup [d, _] => some (svO [4, 3, 1] 3 1 d)
  | _ => none
def owF : D → Option D
  | .tup [_, o] => some o
  | _ => none
/-- an ask of the law's own -/
def Ask (x : D) : Prop := ∃ (ws : List Int) (o : D), x = .tup [.lst (ws.map .int), o] ∧ svO [4, 3, 1] 3 1 (.lst (ws.map .int)) = o
theorem ask_eq : ∀ {xs : List D}, (∀ x ∈ xs, Ask x) → xs.filterMap owF = xs.filterMap svF ∧ ∀ y ∈ xs.filterMap svF, Sm 1 y
  | [], _ => ⟨rfl, by simp⟩
  | x :: xs, h => by
    obtain ⟨ws, o, rfl, e⟩ := h x List.mem_cons_self
    obtain ⟨h1, h2⟩ := ask_eq (xs := xs) fun y hy => h y (List.mem_cons_of_mem _ hy)
    rw [List.filterMap_cons_some (f := owF) rfl, List.filterMap_cons_some (f := svF) rfl, h1, e]
    refine ⟨rfl, fun y hy => ?_⟩
    rcases List.mem_cons.mp hy with rfl | hy
    · rw [← e]; exact sm_svO
    · exact h2 y hy
def asksD : List D := [.tup [.lst [.int 1], .tup [.str "told", .int 9]], .tup [.lst [.int 2], .tup [.str "told", .int 8]], .tup [.lst [.int 1, .int 1], .tup [.str "told", .int 10]], .tup [.lst [.int 2, .int 1], .tup [.str "told", .int 9]]] ++ [.tup [.lst [.int 3, .int 1], .tup [.str "told", .int 9]]] ++ [.tup [.lst [.int 2, .int 2], .tup [.str "told", .int 8]], .tup [.lst [.int 3, .int 2], .tup [.str "told", .int 8]], .tup [.lst [.int 0, .int 1, .int 1], .tup [.str "told", .int 9]], .tup [.lst [.int 2, .int 2, .int 2], .tup [.str "told", .int 7]]] ++ [.tup [.lst [.int 3], .tup [.str "InvalidStair", .int 0]], .tup [.lst [.int 1, .int 2], .tup [.str "InvalidStair", .int 0]], .tup [.lst [.int 2, .int 0], .tup [.str "InvalidStair", .int 1]]] ++ [.tup [.lst [], .tup [.str "told", .int 7]]]
theorem asks_ok : ∀ x ∈ asksD, Ask x := by
  intro x h
  simp only [asksD, List.mem_append, List.mem_cons, List.not_mem_nil, or_false] at h
  rcases h with (((((rfl | rfl | rfl | rfl) | rfl) | rfl | rfl | rfl | rfl) | rfl | rfl | rfl) | rfl)
  · exact ⟨[1], _, rfl, told_at (by decide) (by decide +kernel) (by decide +kernel)⟩
  · exact ⟨[2], _, rfl, told_at (by decide) (by decide +kernel) (by decide +kernel)⟩
  · exact ⟨[1, 1], _, rfl, told_at (by decide) (by decide +kernel) (by decide +kernel)⟩
  · exact ⟨[2, 1], _, rfl, told_at (by decide) (by decide +kernel) (by decide +kernel)⟩
  · exact ⟨[3, 1], _, rfl, told_at (by decide) (by decide +kernel) (by decide +kernel)⟩
  · exact ⟨[2, 2], _, rfl, told_at (by decide) (by decide +kernel) (by decide +kernel)⟩
  · exact ⟨[3, 2], _, rfl, told_at (by decide) (by decide +kernel) (by decide +kernel)⟩
  · exact ⟨[0, 1, 1], _, rfl, told_at (by decide) (by decide +kernel) (by decide +kernel)⟩
  · exact ⟨[2, 2, 2], _, rfl, told_at (by decide) (by decide +kernel) (by decide +kernel)⟩
  · exact ⟨[3], _, rfl, wrong_at (by decide) (by decide +kernel) (by decide)⟩
  · exact ⟨[1, 2], _, rfl, wrong_at (by decide) (by decide +kernel) (by decide)⟩
  · exact ⟨[2, 0], _, rfl, wrong_at (by decide) (by decide +kernel) (by decide)⟩
  · exact ⟨[], _, rfl, told_at (by decide) (by decide +kernel) (by decide +kernel)⟩
theorem ok_law (F : Fun K "law" "law" s_law f fd) (bn : BN mg) (h0 : HasF P w K mg base T "_law_pool" 1 1 cPool) (h1 : HasF P w K mg base T "_law_take" 2 1 cTake) (h2 : HasF P w K mg base T "_law_fv_drawn_levels" 2 3 cDrawn) (h3 : HasF P w K mg base T "_law_fv_drawn_rate" 1 3 cDrawnRate)
    (h4 : HasF P w K mg base T "_law_levels_right" 3 10 cLr) (h5 : HasF P w K mg base T "_law_all_right" 1 10 cAll) (h6 : HasF P w K mg base T "_law_heard_value" 3 8 cHv) (h7 : HasF P w K mg base T "_law_yq_same" 2 4 (cSame 2)) : FnOk P w K mg base (L2.CX P w) 11 f fd ["script"] (SpG K T cLaw) := by
  refine okF (k := 10) (n := 1) F sc_law bn rfl (fun _ _ _ _ ⟨_, e, _⟩ => by rw [e]; rfl) fun cdv A outer s H E hr ds M Q Xd h => ?_
  obtain ⟨ns0, rfl, hl0, hQ⟩ := h
  conv => arg 2; whnf
  tlg_ne
  refine ⟨hl0, fun j d0 s0 hj o => ?_⟩
  have hjar : JarAt (mupd M j (jarO d0 s0 0)) j := ⟨_, _, _, o, mupd_same⟩
  generalize mupd M j (jarO d0 s0 0) = M1 at hjar
  refine qss_cons (qs_for (qi_list (qe_add ?_)))
  tlg_ne
  refine qe_compJ [("go", 3)] j 1 20 (qi_range1 ?_) (by exact blkOk_by (N := n_law) (sc := defScope s_law) (by decide +kernel))
  tlg_ne
  refine ⟨by decide, by decide, hjar, by decide, ?_, ?_⟩
  · intro i x M2 hx hj2 s H cc cl fp
    obtain ⟨hi, rfl⟩ := rngD_get hx
    refine qgw_name 3 (by decide) rfl (by kbo_bools) ?_
    intro s2 H2 cc2 cl2 fp2
    refine qts_nil ⟨rfl, fun s H cc cl fp => ?_⟩
    tlg_ne
    refine ⟨by omega, by omega, fun q M3 q0 q1 jm3 => ?_⟩
    tlg_ne
    exact ⟨by omega, by omega, jm3⟩
  intro ms M2 jm hlen hall
  rw [rngD_length] at hlen
  have hj2 := jm.at
  clear jm hjar
  refine add_l (by rw [List.length_map, hlen]; decide) ?_
  refine ⟨_, .inl rfl, fun i ρ' M' => JarAt M' j ∧ ∃ x2 x3, ρ' = [some (.frz (ns0.map .int)), some (.oth (.ref j)), x2, x3, none, none, none, none], ⟨hj2, _, _, rfl⟩, ?_, ?_⟩
  · rintro i x ρ' M' hx ⟨hj3, x2, x3, rfl⟩
    obtain ⟨m, rfl, m1, m2⟩ : ∃ n, x = .int n ∧ 1 ≤ n ∧ n ≤ 20 := by
      rcases List.mem_append.mp (List.mem_of_getElem? hx) with h | h
      · simp at h
        rcases h with rfl | rfl | rfl <;> exact ⟨_, rfl, by omega, by omega⟩
      · obtain ⟨n, rfl, hn⟩ := memI h
        exact ⟨n, rfl, hall n hn⟩
    clear hx hj2
    refine qg_name 2 rfl (by kbo_bools) ?_
    tlg_ne
    refine ⟨m1, m2, fun ns M3 lv jm3 => ?_⟩
    have hj4 := jm3.at
    tlg_ne
    intro p st M4 rt jm4
    have hj5 := jm4.at
    tlg_ne
    refine ⟨lv, rt, fun M5 jm5 => ?_⟩
    have hj6 := jm5.at
    tlg_ne
    exact ⟨_, _, rfl⟩
  rintro ρ' M3 ⟨hj3, x2, x3, rfl⟩
  clear hj2
  tlg_ne
  intro M4 jm4
  have hj4 := jm4.at
  refine ⟨true, rfl, fun h => absurd h (by decide), fun _ => qss_nil ?_⟩
  refine qss_cons (qs_set 4 rfl (by kbo_bools) (qe_lstM ?_))
  tlg_ne
  intro q hq
  refine qss_cons (qs_expr (qe_append ?_))
  tlg_ne
  refine ⟨⟨_, mupd_same⟩, ?_⟩
  tlg_ne
  refine ⟨_, mupd_same, by decide, ?_⟩
  rw [mupd_upd]
  refine qss_cons (qs_expr (qe_extend ?_))
  tlg_ne
  refine ⟨⟨_, mupd_same⟩, ?_⟩
  tlg_ne
  refine ⟨_, _, rfl, mupd_same, by decide, ?_⟩
  rw [mupd_upd]
  refine qss_cons (qs_expr (qe_extend ?_))
  tlg_ne
  refine ⟨⟨_, mupd_same⟩, ?_⟩
  tlg_ne
  refine ⟨_, _, rfl, mupd_same, by decide, ?_⟩
  rw [mupd_upd]
  refine qss_cons (qs_expr (qe_append ?_))
  tlg_ne
  refine ⟨⟨_, mupd_same⟩, ?_⟩
  tlg_ne
  refine ⟨_, mupd_same, by decide, ?_⟩
  rw [mupd_upd]
  refine qss_frz (q := q) 4 rfl mupd_same ?_
  rw [mdel_upd hq]
  change QSs _ _ (List.set _ 4 (some (D.lst asksD))) _ _
  obtain ⟨e1, e2⟩ := ask_eq asks_ok
  have hlen : asksD.length = 13 := rfl
  have hall2 := asks_ok
  generalize asksD = xs at e1 e2 hlen hall2
  refine qss_cons (qs_setCompP 5 [("stair", 6), ("owed", 7)] svF rfl rfl (qi_list ?_) (by exact blkOk_by (N := n_law) (sc := defScope s_law) (by decide +kernel)) rfl)
  tlg_ne
  refine ⟨_, .inl rfl, by rw [hlen]; decide, ?_, ?_⟩
  · intro i x hx M' s H cc cl fp
    obtain ⟨ws, o, rfl, e⟩ := hall2 x (List.mem_of_getElem? hx)
    refine qgw_tup (qgsw_name 6 (by decide) rfl (by kbo_bools) (qgsw_name 7 (by decide) rfl (by kbo_bools) (qgsw_nil ?_)))
    intro s2 H2 cc2 cl2 fp2
    refine qts_nil ⟨rfl, fun _ s H cc cl fp => ?_, fun z => Bool.noConfusion z⟩
    tlg_ne
    exact ⟨[4, 3, 1], 3, 1, _, rfl, ⟨by decide, by decide, by decide⟩, ⟨by decide, by decide, by decide, by decide⟩, ⟨rfl⟩, fun ys z => (by cases z; exact fun y hy => (bx_ints y hy).1), rfl, rfl⟩
  tlg_ne
  refine qe_compP [("stair", 6), ("owed", 7)] owF (qi_list ?_) (by exact blkOk_by (N := n_law) (sc := defScope s_law) (by decide +kernel))
  tlg_ne
  refine ⟨_, .inl rfl, by rw [hlen]; decide, ?_, ?_⟩
  · intro i x hx M' s H cc cl fp
    obtain ⟨ws, o, rfl, e⟩ := hall2 x (List.mem_of_getElem? hx)
    refine qgw_tup (qgsw_name 6 (by decide) rfl (by kbo_bools) (qgsw_name 7 (by decide) rfl (by kbo_bools) (qgsw_nil ?_)))
    intro s2 H2 cc2 cl2 fp2
    refine qts_nil ⟨rfl, fun _ s H cc cl fp => ?_, fun z => Bool.noConfusion z⟩
    tlg_ne
    exact ⟨rfl, rfl⟩
  rw [e1]
  tlg_ne
  have hf := List.length_filterMap_le svF xs
  refine ⟨⟨by omega, e2⟩, ?_⟩
  exact hQ _

end
theorem end_mk {w : World} {K : PySem.W.Frag} {mg : Str → Option Value} {h : Heap} {fa : Addr}
    {f_is_integer : Addr} {od_is_integer an_is_integer : Option Addr} {sl_is_integer : Array (Option Value)} {oc_is_integer kV_is_integer dc_is_integer pm_is_integer cd_is_integer ct_is_integer : Value}
    {f_in_range : Addr} {od_in_range an_in_range : Option Addr} {sl_in_range : Array (Option Value)} {oc_in_range kV_in_range dc_in_range pm_in_range cd_in_range ct_in_range : Value}
    {f_wrong_level : Addr} {od_wrong_level an_wrong_level : Option Addr} {sl_wrong_level : Array (Option Value)} {oc_wrong_level kV_wrong_level dc_wrong_level pm_wrong_level cd_wrong_level ct_wrong_level : Value}
    {f_has_length : Addr} {od_has_length an_has_length : Option Addr} {sl_has_length : Array (Option Value)} {oc_has_length kV_has_length dc_has_length pm_has_length cd_has_length ct_has_length : Value}
    {f_is_rate : Addr} {od_is_rate an_is_rate : Option Addr} {sl_is_rate : Array (Option Value)} {oc_is_rate kV_is_rate dc_is_rate pm_is_rate cd_is_rate ct_is_rate : Value}
    {f_check_levels : Addr} {od_check_levels an_check_levels : Option Addr} {sl_check_levels : Array (Option Value)} {oc_check_levels kV_check_levels dc_check_levels pm_check_levels cd_check_levels ct_check_levels : Value}
    {f_check_rate : Addr} {od_check_rate an_check_rate : Option Addr} {sl_check_rate : Array (Option Value)} {oc_check_rate kV_check_rate dc_check_rate pm_check_rate cd_check_rate ct_check_rate : Value}
    {f_even_share_inner : Addr} {od_even_share_inner an_even_share_inner : Option Addr} {sl_even_share_inner : Array (Option Value)} {oc_even_share_inner kV_even_share_inner dc_even_share_inner pm_even_share_inner cd_even_share_inner ct_even_share_inner : Value}
    {f_live : Addr} {od_live an_live : Option Addr} {sl_live : Array (Option Value)} {oc_live kV_live dc_live pm_live cd_live ct_live : Value}
    {f_need_of : Addr} {od_need_of an_need_of : Option Addr} {sl_need_of : Array (Option Value)} {oc_need_of kV_need_of dc_need_of pm_need_of cd_need_of ct_need_of : Value}
    {f_is_rung : Addr} {od_is_rung an_is_rung : Option Addr} {sl_is_rung : Array (Option Value)} {oc_is_rung kV_is_rung dc_is_rung pm_is_rung cd_is_rung ct_is_rung : Value}
    {f_check_length : Addr} {od_check_length an_check_length : Option Addr} {sl_check_length : Array (Option Value)} {oc_check_length kV_check_length dc_check_length pm_check_length cd_check_length ct_check_length : Value}
    {f_needs_of : Addr} {od_needs_of an_needs_of : Option Addr} {sl_needs_of : Array (Option Value)} {oc_needs_of kV_needs_of dc_needs_of pm_needs_of cd_needs_of ct_needs_of : Value}
    {f_lowest_sum : Addr} {od_lowest_sum an_lowest_sum : Option Addr} {sl_lowest_sum : Array (Option Value)} {oc_lowest_sum kV_lowest_sum dc_lowest_sum pm_lowest_sum cd_lowest_sum ct_lowest_sum : Value}
    {f_live_rows : Addr} {od_live_rows an_live_rows : Option Addr} {sl_live_rows : Array (Option Value)} {oc_live_rows kV_live_rows dc_live_rows pm_live_rows cd_live_rows ct_live_rows : Value}
    {f_stair_value : Addr} {od_stair_value an_stair_value : Option Addr} {sl_stair_value : Array (Option Value)} {oc_stair_value kV_stair_value dc_stair_value pm_stair_value cd_stair_value ct_stair_value : Value}
    {f_law_pool : Addr} {od_law_pool an_law_pool : Option Addr} {sl_law_pool : Array (Option Value)} {oc_law_pool kV_law_pool dc_law_pool pm_law_pool cd_law_pool ct_law_pool : Value}
    {f_law_take : Addr} {od_law_take an_law_take : Option Addr} {sl_law_take : Array (Option Value)} {oc_law_take kV_law_take dc_law_take pm_law_take cd_law_take ct_law_take : Value}
    {f_law_one : Addr} {od_law_one an_law_one : Option Addr} {sl_law_one : Array (Option Value)} {oc_law_one kV_law_one dc_law_one pm_law_one cd_law_one ct_law_one : Value}
    {f_law_mixed : Addr} {od_law_mixed an_law_mixed : Option Addr} {sl_law_mixed : Array (Option Value)} {oc_law_mixed kV_law_mixed dc_law_mixed pm_law_mixed cd_law_mixed ct_law_mixed : Value}
    {f_law_yq_is_whole : Addr} {od_law_yq_is_whole an_law_yq_is_whole : Option Addr} {sl_law_yq_is_whole : Array (Option Value)} {oc_law_yq_is_whole kV_law_yq_is_whole dc_law_yq_is_whole pm_law_yq_is_whole cd_law_yq_is_whole ct_law_yq_is_whole : Value}
    {f_law_yq_same : Addr} {od_law_yq_same an_law_yq_same : Option Addr} {sl_law_yq_same : Array (Option Value)} {oc_law_yq_same kV_law_yq_same dc_law_yq_same pm_law_yq_same cd_law_yq_same ct_law_yq_same : Value}
    {f_law_fv_is_whole : Addr} {od_law_fv_is_whole an_law_fv_is_whole : Option Addr} {sl_law_fv_is_whole : Array (Option Value)} {oc_law_fv_is_whole kV_law_fv_is_whole dc_law_fv_is_whole pm_law_fv_is_whole cd_law_fv_is_whole ct_law_fv_is_whole : Value}
    {f_law_fv_ranked : Addr} {od_law_fv_ranked an_law_fv_ranked : Option Addr} {sl_law_fv_ranked : Array (Option Value)} {oc_law_fv_ranked kV_law_fv_ranked dc_law_fv_ranked pm_law_fv_ranked cd_law_fv_ranked ct_law_fv_ranked : Value}
    {f_law_fv_poured : Addr} {od_law_fv_poured an_law_fv_poured : Option Addr} {sl_law_fv_poured : Array (Option Value)} {oc_law_fv_poured kV_law_fv_poured dc_law_fv_poured pm_law_fv_poured cd_law_fv_poured ct_law_fv_poured : Value}
    {f_law_fv_emptied : Addr} {od_law_fv_emptied an_law_fv_emptied : Option Addr} {sl_law_fv_emptied : Array (Option Value)} {oc_law_fv_emptied kV_law_fv_emptied dc_law_fv_emptied pm_law_fv_emptied cd_law_fv_emptied ct_law_fv_emptied : Value}
    {f_law_fv_share : Addr} {od_law_fv_share an_law_fv_share : Option Addr} {sl_law_fv_share : Array (Option Value)} {oc_law_fv_share kV_law_fv_share dc_law_fv_share pm_law_fv_share cd_law_fv_share ct_law_fv_share : Value}
    {f_law_fv_live : Addr} {od_law_fv_live an_law_fv_live : Option Addr} {sl_law_fv_live : Array (Option Value)} {oc_law_fv_live kV_law_fv_live dc_law_fv_live pm_law_fv_live cd_law_fv_live ct_law_fv_live : Value}
    {f_law_fv_fallen : Addr} {od_law_fv_fallen an_law_fv_fallen : Option Addr} {sl_law_fv_fallen : Array (Option Value)} {oc_law_fv_fallen kV_law_fv_fallen dc_law_fv_fallen pm_law_fv_fallen cd_law_fv_fallen ct_law_fv_fallen : Value}
    {f_law_fv_forced : Addr} {od_law_fv_forced an_law_fv_forced : Option Addr} {sl_law_fv_forced : Array (Option Value)} {oc_law_fv_forced kV_law_fv_forced dc_law_fv_forced pm_law_fv_forced cd_law_fv_forced ct_law_fv_forced : Value}
    {f_law_fv_wide : Addr} {od_law_fv_wide an_law_fv_wide : Option Addr} {sl_law_fv_wide : Array (Option Value)} {oc_law_fv_wide kV_law_fv_wide dc_law_fv_wide pm_law_fv_wide cd_law_fv_wide ct_law_fv_wide : Value}
    {f_law_fv_run : Addr} {od_law_fv_run an_law_fv_run : Option Addr} {sl_law_fv_run : Array (Option Value)} {oc_law_fv_run kV_law_fv_run dc_law_fv_run pm_law_fv_run cd_law_fv_run ct_law_fv_run : Value}
    {f_law_fv_wrong_rung : Addr} {od_law_fv_wrong_rung an_law_fv_wrong_rung : Option Addr} {sl_law_fv_wrong_rung : Array (Option Value)} {oc_law_fv_wrong_rung kV_law_fv_wrong_rung dc_law_fv_wrong_rung pm_law_fv_wrong_rung cd_law_fv_wrong_rung ct_law_fv_wrong_rung : Value}
    {f_law_fv_stair : Addr} {od_law_fv_stair an_law_fv_stair : Option Addr} {sl_law_fv_stair : Array (Option Value)} {oc_law_fv_stair kV_law_fv_stair dc_law_fv_stair pm_law_fv_stair cd_law_fv_stair ct_law_fv_stair : Value}
    {f_law_fv_drawn_stair : Addr} {od_law_fv_drawn_stair an_law_fv_drawn_stair : Option Addr} {sl_law_fv_drawn_stair : Array (Option Value)} {oc_law_fv_drawn_stair kV_law_fv_drawn_stair dc_law_fv_drawn_stair pm_law_fv_drawn_stair cd_law_fv_drawn_stair ct_law_fv_drawn_stair : Value}
    {f_law_fv_drawn_levels : Addr} {od_law_fv_drawn_levels an_law_fv_drawn_levels : Option Addr} {sl_law_fv_drawn_levels : Array (Option Value)} {oc_law_fv_drawn_levels kV_law_fv_drawn_levels dc_law_fv_drawn_levels pm_law_fv_drawn_levels cd_law_fv_drawn_levels ct_law_fv_drawn_levels : Value}
    {f_law_fv_drawn_rate : Addr} {od_law_fv_drawn_rate an_law_fv_drawn_rate : Option Addr} {sl_law_fv_drawn_rate : Array (Option Value)} {oc_law_fv_drawn_rate kV_law_fv_drawn_rate dc_law_fv_drawn_rate pm_law_fv_drawn_rate cd_law_fv_drawn_rate ct_law_fv_drawn_rate : Value}
    {f_law_heard : Addr} {od_law_heard an_law_heard : Option Addr} {sl_law_heard : Array (Option Value)} {oc_law_heard kV_law_heard dc_law_heard pm_law_heard cd_law_heard ct_law_heard : Value}
    {f_law_heard_value cA_law_heard_value Pt_law_heard_value : Addr} {od_law_heard_value an_law_heard_value : Option Addr} {sl_law_heard_value : Array (Option Value)} {oc_law_heard_value kV_law_heard_value dc_law_heard_value pm_law_heard_value ct_law_heard_value : Value}
    {f_law_owed : Addr} {od_law_owed an_law_owed : Option Addr} {sl_law_owed : Array (Option Value)} {oc_law_owed kV_law_owed dc_law_owed pm_law_owed cd_law_owed ct_law_owed : Value}
    {f_law_is_right : Addr} {od_law_is_right an_law_is_right : Option Addr} {sl_law_is_right : Array (Option Value)} {oc_law_is_right kV_law_is_right dc_law_is_right pm_law_is_right cd_law_is_right ct_law_is_right : Value}
    {f_law_bent : Addr} {od_law_bent an_law_bent : Option Addr} {sl_law_bent : Array (Option Value)} {oc_law_bent kV_law_bent dc_law_bent pm_law_bent cd_law_bent ct_law_bent : Value}
    {f_law_levels_right : Addr} {od_law_levels_right an_law_levels_right : Option Addr} {sl_law_levels_right : Array (Option Value)} {oc_law_levels_right kV_law_levels_right dc_law_levels_right pm_law_levels_right cd_law_levels_right ct_law_levels_right : Value}
    {f_law_all_right : Addr} {od_law_all_right an_law_all_right : Option Addr} {sl_law_all_right : Array (Option Value)} {oc_law_all_right kV_law_all_right dc_law_all_right pm_law_all_right cd_law_all_right ct_law_all_right : Value}
    {f_law : Addr} {od_law an_law : Option Addr} {sl_law : Array (Option Value)} {oc_law kV_law dc_law pm_law cd_law ct_law : Value}
    {nm_InvalidLevels q_InvalidLevels : Str} {C_InvalidLevels N_InvalidLevels fI_InvalidLevels : Addr} {bs_InvalidLevels sub_InvalidLevels bm_InvalidLevels : List Value} {sn_InvalidLevels : List Str} {ab_InvalidLevels : Bool} {col_InvalidLevels : Option Bool} {dd_InvalidLevels od_InvalidLevels an_InvalidLevels : Option Addr} {m0_InvalidLevels m1_InvalidLevels m2_InvalidLevels m3_InvalidLevels m5_InvalidLevels : Option Value} {sl_InvalidLevels : Array (Option Value)} {oc_InvalidLevels kV_InvalidLevels dc_InvalidLevels pm_InvalidLevels cd_InvalidLevels ct_InvalidLevels : Value}
    {nm_InvalidRate q_InvalidRate : Str} {C_InvalidRate N_InvalidRate fI_InvalidRate : Addr} {bs_InvalidRate sub_InvalidRate bm_InvalidRate : List Value} {sn_InvalidRate : List Str} {ab_InvalidRate : Bool} {col_InvalidRate : Option Bool} {dd_InvalidRate od_InvalidRate an_InvalidRate : Option Addr} {m0_InvalidRate m1_InvalidRate m2_InvalidRate m3_InvalidRate m5_InvalidRate : Option Value} {sl_InvalidRate : Array (Option Value)} {oc_InvalidRate kV_InvalidRate dc_InvalidRate pm_InvalidRate cd_InvalidRate ct_InvalidRate : Value}
    {nm_InvalidStair q_InvalidStair : Str} {C_InvalidStair N_InvalidStair fI_InvalidStair : Addr} {bs_InvalidStair sub_InvalidStair bm_InvalidStair : List Value} {sn_InvalidStair : List Str} {ab_InvalidStair : Bool} {col_InvalidStair : Option Bool} {dd_InvalidStair od_InvalidStair an_InvalidStair : Option Addr} {m0_InvalidStair m1_InvalidStair m2_InvalidStair m3_InvalidStair m5_InvalidStair : Option Value} {sl_InvalidStair : Array (Option Value)} {oc_InvalidStair kV_InvalidStair dc_InvalidStair pm_InvalidStair cd_InvalidStair ct_InvalidStair : Value}
    {t_MAX_LEVELS : Tok}
    {t_MAX_LEVEL : Tok}
    {t_MAX_PACE : Tok}
    {t_MAX_STEPS : Tok}
    {t_MAX_ROUNDS : Tok}
    (X : K.In h) (G : h.Ns mainGlobals mg) (hfa : mg "law" = some (.ref fa)) (Y2 : ∀ P ∈ [Pt_law_heard_value], h.get? P = some (PySem.W.tabObj #[]))
    (b_len : PySem.W.nsIn K mainGlobals "len" = some none)
    (b_int : PySem.W.nsIn K mainGlobals "int" = some none)
    (b_max : PySem.W.nsIn K mainGlobals "max" = some none)
    (b_min : PySem.W.nsIn K mainGlobals "min" = some none)
    (b_bool : PySem.W.nsIn K mainGlobals "bool" = some none)
    (b_str : PySem.W.nsIn K mainGlobals "str" = some none)
    (b_tuple : PySem.W.nsIn K mainGlobals "tuple" = some none)
    (b_list : PySem.W.nsIn K mainGlobals "list" = some none)
    (b_isinstance : PySem.W.nsIn K mainGlobals "isinstance" = some none)
    (b_range : PySem.W.nsIn K mainGlobals "range" = some none)
    (b_sorted : PySem.W.nsIn K mainGlobals "sorted" = some none)
    (b_enumerate : PySem.W.nsIn K mainGlobals "enumerate" = some none)
    (b_all : PySem.W.nsIn K mainGlobals "all" = some none)
    (b_any : PySem.W.nsIn K mainGlobals "any" = some none)
    (b_dict : PySem.W.nsIn K mainGlobals "dict" = some none)
    (b_divmod : PySem.W.nsIn K mainGlobals "divmod" = some none)
    (b_zip : PySem.W.nsIn K mainGlobals "zip" = some none)
    (b_sum : PySem.W.nsIn K mainGlobals "sum" = some none)
    (b_ord : PySem.W.nsIn K mainGlobals "ord" = some none)
    (a_is_integer : PySem.W.nsIn K mainGlobals "is_integer" = some (some (.ref f_is_integer)))
    (l_is_integer : K.lookup f_is_integer = some ⟨oc_is_integer, od_is_integer, .func (PySem.W.fnOf "is_integer" "is_integer" (defArgs s_is_integer) (defBody s_is_integer) (defScope s_is_integer) .none kV_is_integer dc_is_integer pm_is_integer an_is_integer cd_is_integer ct_is_integer), sl_is_integer⟩)
    (c_is_integer : PySem.W.codeIn K cd_is_integer "is_integer" = true)
    (k_is_integer : PySem.W.keepIn K (.ref f_is_integer) = true)
    (a_in_range : PySem.W.nsIn K mainGlobals "in_range" = some (some (.ref f_in_range)))
    (l_in_range : K.lookup f_in_range = some ⟨oc_in_range, od_in_range, .func (PySem.W.fnOf "in_range" "in_range" (defArgs s_in_range) (defBody s_in_range) (defScope s_in_range) .none kV_in_range dc_in_range pm_in_range an_in_range cd_in_range ct_in_range), sl_in_range⟩)
    (c_in_range : PySem.W.codeIn K cd_in_range "in_range" = true)
    (k_in_range : PySem.W.keepIn K (.ref f_in_range) = true)
    (a_wrong_level : PySem.W.nsIn K mainGlobals "wrong_level" = some (some (.ref f_wrong_level)))
    (l_wrong_level : K.lookup f_wrong_level = some ⟨oc_wrong_level, od_wrong_level, .func (PySem.W.fnOf "wrong_level" "wrong_level" (defArgs s_wrong_level) (defBody s_wrong_level) (defScope s_wrong_level) .none kV_wrong_level dc_wrong_level pm_wrong_level an_wrong_level cd_wrong_level ct_wrong_level), sl_wrong_level⟩)
    (c_wrong_level : PySem.W.codeIn K cd_wrong_level "wrong_level" = true)
    (k_wrong_level : PySem.W.keepIn K (.ref f_wrong_level) = true)
    (a_has_length : PySem.W.nsIn K mainGlobals "has_length" = some (some (.ref f_has_length)))
    (l_has_length : K.lookup f_has_length = some ⟨oc_has_length, od_has_length, .func (PySem.W.fnOf "has_length" "has_length" (defArgs s_has_length) (defBody s_has_length) (defScope s_has_length) .none kV_has_length dc_has_length pm_has_length an_has_length cd_has_length ct_has_length), sl_has_length⟩)
    (c_has_length : PySem.W.codeIn K cd_has_length "has_length" = true)
    (k_has_length : PySem.W.keepIn K (.ref f_has_length) = true)
    (a_is_rate : PySem.W.nsIn K mainGlobals "is_rate" = some (some (.ref f_is_rate)))
    (l_is_rate : K.lookup f_is_rate = some ⟨oc_is_rate, od_is_rate, .func (PySem.W.fnOf "is_rate" "is_rate" (defArgs s_is_rate) (defBody s_is_rate) (defScope s_is_rate) .none kV_is_rate dc_is_rate pm_is_rate an_is_rate cd_is_rate ct_is_rate), sl_is_rate⟩)
    (c_is_rate : PySem.W.codeIn K cd_is_rate "is_rate" = true)
    (k_is_rate : PySem.W.keepIn K (.ref f_is_rate) = true)
    (a_check_levels : PySem.W.nsIn K mainGlobals "check_levels" = some (some (.ref f_check_levels)))
    (l_check_levels : K.lookup f_check_levels = some ⟨oc_check_levels, od_check_levels, .func (PySem.W.fnOf "check_levels" "check_levels" (defArgs s_check_levels) (defBody s_check_levels) (defScope s_check_levels) .none kV_check_levels dc_check_levels pm_check_levels an_check_levels cd_check_levels ct_check_levels), sl_check_levels⟩)
    (c_check_levels : PySem.W.codeIn K cd_check_levels "check_levels" = true)
    (k_check_levels : PySem.W.keepIn K (.ref f_check_levels) = true)
    (a_check_rate : PySem.W.nsIn K mainGlobals "check_rate" = some (some (.ref f_check_rate)))
    (l_check_rate : K.lookup f_check_rate = some ⟨oc_check_rate, od_check_rate, .func (PySem.W.fnOf "check_rate" "check_rate" (defArgs s_check_rate) (defBody s_check_rate) (defScope s_check_rate) .none kV_check_rate dc_check_rate pm_check_rate an_check_rate cd_check_rate ct_check_rate), sl_check_rate⟩)
    (c_check_rate : PySem.W.codeIn K cd_check_rate "check_rate" = true)
    (k_check_rate : PySem.W.keepIn K (.ref f_check_rate) = true)
    (a_even_share_inner : PySem.W.nsIn K mainGlobals "even_share_inner" = some (some (.ref f_even_share_inner)))
    (l_even_share_inner : K.lookup f_even_share_inner = some ⟨oc_even_share_inner, od_even_share_inner, .func (PySem.W.fnOf "even_share_inner" "even_share_inner" (defArgs s_even_share_inner) (defBody s_even_share_inner) (defScope s_even_share_inner) .none kV_even_share_inner dc_even_share_inner pm_even_share_inner an_even_share_inner cd_even_share_inner ct_even_share_inner), sl_even_share_inner⟩)
    (c_even_share_inner : PySem.W.codeIn K cd_even_share_inner "even_share_inner" = true)
    (k_even_share_inner : PySem.W.keepIn K (.ref f_even_share_inner) = true)
    (a_live : PySem.W.nsIn K mainGlobals "live" = some (some (.ref f_live)))
    (l_live : K.lookup f_live = some ⟨oc_live, od_live, .func (PySem.W.fnOf "live" "live" (defArgs s_live) (defBody s_live) (defScope s_live) .none kV_live dc_live pm_live an_live cd_live ct_live), sl_live⟩)
    (c_live : PySem.W.codeIn K cd_live "live" = true)
    (k_live : PySem.W.keepIn K (.ref f_live) = true)
    (a_need_of : PySem.W.nsIn K mainGlobals "need_of" = some (some (.ref f_need_of)))
    (l_need_of : K.lookup f_need_of = some ⟨oc_need_of, od_need_of, .func (PySem.W.fnOf "need_of" "need_of" (defArgs s_need_of) (defBody s_need_of) (defScope s_need_of) .none kV_need_of dc_need_of pm_need_of an_need_of cd_need_of ct_need_of), sl_need_of⟩)
    (c_need_of : PySem.W.codeIn K cd_need_of "need_of" = true)
    (k_need_of : PySem.W.keepIn K (.ref f_need_of) = true)
    (a_is_rung : PySem.W.nsIn K mainGlobals "is_rung" = some (some (.ref f_is_rung)))
    (l_is_rung : K.lookup f_is_rung = some ⟨oc_is_rung, od_is_rung, .func (PySem.W.fnOf "is_rung" "is_rung" (defArgs s_is_rung) (defBody s_is_rung) (defScope s_is_rung) .none kV_is_rung dc_is_rung pm_is_rung an_is_rung cd_is_rung ct_is_rung), sl_is_rung⟩)
    (c_is_rung : PySem.W.codeIn K cd_is_rung "is_rung" = true)
    (k_is_rung : PySem.W.keepIn K (.ref f_is_rung) = true)
    (a_check_length : PySem.W.nsIn K mainGlobals "check_length" = some (some (.ref f_check_length)))
    (l_check_length : K.lookup f_check_length = some ⟨oc_check_length, od_check_length, .func (PySem.W.fnOf "check_length" "check_length" (defArgs s_check_length) (defBody s_check_length) (defScope s_check_length) .none kV_check_length dc_check_length pm_check_length an_check_length cd_check_length ct_check_length), sl_check_length⟩)
    (c_check_length : PySem.W.codeIn K cd_check_length "check_length" = true)
    (k_check_length : PySem.W.keepIn K (.ref f_check_length) = true)
    (a_needs_of : PySem.W.nsIn K mainGlobals "needs_of" = some (some (.ref f_needs_of)))
    (l_needs_of : K.lookup f_needs_of = some ⟨oc_needs_of, od_needs_of, .func (PySem.W.fnOf "needs_of" "needs_of" (defArgs s_needs_of) (defBody s_needs_of) (defScope s_needs_of) .none kV_needs_of dc_needs_of pm_needs_of an_needs_of cd_needs_of ct_needs_of), sl_needs_of⟩)
    (c_needs_of : PySem.W.codeIn K cd_needs_of "needs_of" = true)
    (k_needs_of : PySem.W.keepIn K (.ref f_needs_of) = true)
    (a_lowest_sum : PySem.W.nsIn K mainGlobals "lowest_sum" = some (some (.ref f_lowest_sum)))
    (l_lowest_sum : K.lookup f_lowest_sum = some ⟨oc_lowest_sum, od_lowest_sum, .func (PySem.W.fnOf "lowest_sum" "lowest_sum" (defArgs s_lowest_sum) (defBody s_lowest_sum) (defScope s_lowest_sum) .none kV_lowest_sum dc_lowest_sum pm_lowest_sum an_lowest_sum cd_lowest_sum ct_lowest_sum), sl_lowest_sum⟩)
    (c_lowest_sum : PySem.W.codeIn K cd_lowest_sum "lowest_sum" = true)
    (k_lowest_sum : PySem.W.keepIn K (.ref f_lowest_sum) = true)
    (a_live_rows : PySem.W.nsIn K mainGlobals "live_rows" = some (some (.ref f_live_rows)))
    (l_live_rows : K.lookup f_live_rows = some ⟨oc_live_rows, od_live_rows, .func (PySem.W.fnOf "live_rows" "live_rows" (defArgs s_live_rows) (defBody s_live_rows) (defScope s_live_rows) .none kV_live_rows dc_live_rows pm_live_rows an_live_rows cd_live_rows ct_live_rows), sl_live_rows⟩)
    (c_live_rows : PySem.W.codeIn K cd_live_rows "live_rows" = true)
    (k_live_rows : PySem.W.keepIn K (.ref f_live_rows) = true)
    (a_stair_value : PySem.W.nsIn K mainGlobals "stair_value" = some (some (.ref f_stair_value)))
    (l_stair_value : K.lookup f_stair_value = some ⟨oc_stair_value, od_stair_value, .func (PySem.W.fnOf "stair_value" "stair_value" (defArgs s_stair_value) (defBody s_stair_value) (defScope s_stair_value) .none kV_stair_value dc_stair_value pm_stair_value an_stair_value cd_stair_value ct_stair_value), sl_stair_value⟩)
    (c_stair_value : PySem.W.codeIn K cd_stair_value "stair_value" = true)
    (k_stair_value : PySem.W.keepIn K (.ref f_stair_value) = true)
    (a_law_pool : PySem.W.nsIn K mainGlobals "_law_pool" = some (some (.ref f_law_pool)))
    (l_law_pool : K.lookup f_law_pool = some ⟨oc_law_pool, od_law_pool, .func (PySem.W.fnOf "_law_pool" "_law_pool" (defArgs s_law_pool) (defBody s_law_pool) (defScope s_law_pool) .none kV_law_pool dc_law_pool pm_law_pool an_law_pool cd_law_pool ct_law_pool), sl_law_pool⟩)
    (c_law_pool : PySem.W.codeIn K cd_law_pool "_law_pool" = true)
    (k_law_pool : PySem.W.keepIn K (.ref f_law_pool) = true)
    (a_law_take : PySem.W.nsIn K mainGlobals "_law_take" = some (some (.ref f_law_take)))
    (l_law_take : K.lookup f_law_take = some ⟨oc_law_take, od_law_take, .func (PySem.W.fnOf "_law_take" "_law_take" (defArgs s_law_take) (defBody s_law_take) (defScope s_law_take) .none kV_law_take dc_law_take pm_law_take an_law_take cd_law_take ct_law_take), sl_law_take⟩)
    (c_law_take : PySem.W.codeIn K cd_law_take "_law_take" = true)
    (k_law_take : PySem.W.keepIn K (.ref f_law_take) = true)
    (a_law_one : PySem.W.nsIn K mainGlobals "_law_one" = some (some (.ref f_law_one)))
    (l_law_one : K.lookup f_law_one = some ⟨oc_law_one, od_law_one, .func (PySem.W.fnOf "_law_one" "_law_one" (defArgs s_law_one) (defBody s_law_one) (defScope s_law_one) .none kV_law_one dc_law_one pm_law_one an_law_one cd_law_one ct_law_one), sl_law_one⟩)
    (c_law_one : PySem.W.codeIn K cd_law_one "_law_one" = true)
    (k_law_one : PySem.W.keepIn K (.ref f_law_one) = true)
    (a_law_mixed : PySem.W.nsIn K mainGlobals "_law_mixed" = some (some (.ref f_law_mixed)))
    (l_law_mixed : K.lookup f_law_mixed = some ⟨oc_law_mixed, od_law_mixed, .func (PySem.W.fnOf "_law_mixed" "_law_mixed" (defArgs s_law_mixed) (defBody s_law_mixed) (defScope s_law_mixed) .none kV_law_mixed dc_law_mixed pm_law_mixed an_law_mixed cd_law_mixed ct_law_mixed), sl_law_mixed⟩)
    (c_law_mixed : PySem.W.codeIn K cd_law_mixed "_law_mixed" = true)
    (k_law_mixed : PySem.W.keepIn K (.ref f_law_mixed) = true)
    (a_law_yq_is_whole : PySem.W.nsIn K mainGlobals "_law_yq_is_whole" = some (some (.ref f_law_yq_is_whole)))
    (l_law_yq_is_whole : K.lookup f_law_yq_is_whole = some ⟨oc_law_yq_is_whole, od_law_yq_is_whole, .func (PySem.W.fnOf "_law_yq_is_whole" "_law_yq_is_whole" (defArgs s_law_yq_is_whole) (defBody s_law_yq_is_whole) (defScope s_law_yq_is_whole) .none kV_law_yq_is_whole dc_law_yq_is_whole pm_law_yq_is_whole an_law_yq_is_whole cd_law_yq_is_whole ct_law_yq_is_whole), sl_law_yq_is_whole⟩)
    (c_law_yq_is_whole : PySem.W.codeIn K cd_law_yq_is_whole "_law_yq_is_whole" = true)
    (k_law_yq_is_whole : PySem.W.keepIn K (.ref f_law_yq_is_whole) = true)
    (a_law_yq_same : PySem.W.nsIn K mainGlobals "_law_yq_same" = some (some (.ref f_law_yq_same)))
    (l_law_yq_same : K.lookup f_law_yq_same = some ⟨oc_law_yq_same, od_law_yq_same, .func (PySem.W.fnOf "_law_yq_same" "_law_yq_same" (defArgs s_law_yq_same) (defBody s_law_yq_same) (defScope s_law_yq_same) .none kV_law_yq_same dc_law_yq_same pm_law_yq_same an_law_yq_same cd_law_yq_same ct_law_yq_same), sl_law_yq_same⟩)
    (c_law_yq_same : PySem.W.codeIn K cd_law_yq_same "_law_yq_same" = true)
    (k_law_yq_same : PySem.W.keepIn K (.ref f_law_yq_same) = true)
    (a_law_fv_is_whole : PySem.W.nsIn K mainGlobals "_law_fv_is_whole" = some (some (.ref f_law_fv_is_whole)))
    (l_law_fv_is_whole : K.lookup f_law_fv_is_whole = some ⟨oc_law_fv_is_whole, od_law_fv_is_whole, .func (PySem.W.fnOf "_law_fv_is_whole" "_law_fv_is_whole" (defArgs s_law_fv_is_whole) (defBody s_law_fv_is_whole) (defScope s_law_fv_is_whole) .none kV_law_fv_is_whole dc_law_fv_is_whole pm_law_fv_is_whole an_law_fv_is_whole cd_law_fv_is_whole ct_law_fv_is_whole), sl_law_fv_is_whole⟩)
    (c_law_fv_is_whole : PySem.W.codeIn K cd_law_fv_is_whole "_law_fv_is_whole" = true)
    (k_law_fv_is_whole : PySem.W.keepIn K (.ref f_law_fv_is_whole) = true)
    (a_law_fv_ranked : PySem.W.nsIn K mainGlobals "_law_fv_ranked" = some (some (.ref f_law_fv_ranked)))
    (l_law_fv_ranked : K.lookup f_law_fv_ranked = some ⟨oc_law_fv_ranked, od_law_fv_ranked, .func (PySem.W.fnOf "_law_fv_ranked" "_law_fv_ranked" (defArgs s_law_fv_ranked) (defBody s_law_fv_ranked) (defScope s_law_fv_ranked) .none kV_law_fv_ranked dc_law_fv_ranked pm_law_fv_ranked an_law_fv_ranked cd_law_fv_ranked ct_law_fv_ranked), sl_law_fv_ranked⟩)
    (c_law_fv_ranked : PySem.W.codeIn K cd_law_fv_ranked "_law_fv_ranked" = true)
    (k_law_fv_ranked : PySem.W.keepIn K (.ref f_law_fv_ranked) = true)
    (a_law_fv_poured : PySem.W.nsIn K mainGlobals "_law_fv_poured" = some (some (.ref f_law_fv_poured)))
    (l_law_fv_poured : K.lookup f_law_fv_poured = some ⟨oc_law_fv_poured, od_law_fv_poured, .func (PySem.W.fnOf "_law_fv_poured" "_law_fv_poured" (defArgs s_law_fv_poured) (defBody s_law_fv_poured) (defScope s_law_fv_poured) .none kV_law_fv_poured dc_law_fv_poured pm_law_fv_poured an_law_fv_poured cd_law_fv_poured ct_law_fv_poured), sl_law_fv_poured⟩)
    (c_law_fv_poured : PySem.W.codeIn K cd_law_fv_poured "_law_fv_poured" = true)
    (k_law_fv_poured : PySem.W.keepIn K (.ref f_law_fv_poured) = true)
    (a_law_fv_emptied : PySem.W.nsIn K mainGlobals "_law_fv_emptied" = some (some (.ref f_law_fv_emptied)))
    (l_law_fv_emptied : K.lookup f_law_fv_emptied = some ⟨oc_law_fv_emptied, od_law_fv_emptied, .func (PySem.W.fnOf "_law_fv_emptied" "_law_fv_emptied" (defArgs s_law_fv_emptied) (defBody s_law_fv_emptied) (defScope s_law_fv_emptied) .none kV_law_fv_emptied dc_law_fv_emptied pm_law_fv_emptied an_law_fv_emptied cd_law_fv_emptied ct_law_fv_emptied), sl_law_fv_emptied⟩)
    (c_law_fv_emptied : PySem.W.codeIn K cd_law_fv_emptied "_law_fv_emptied" = true)
    (k_law_fv_emptied : PySem.W.keepIn K (.ref f_law_fv_emptied) = true)
    (a_law_fv_share : PySem.W.nsIn K mainGlobals "_law_fv_share" = some (some (.ref f_law_fv_share)))
    (l_law_fv_share : K.lookup f_law_fv_share = some ⟨oc_law_fv_share, od_law_fv_share, .func (PySem.W.fnOf "_law_fv_share" "_law_fv_share" (defArgs s_law_fv_share) (defBody s_law_fv_share) (defScope s_law_fv_share) .none kV_law_fv_share dc_law_fv_share pm_law_fv_share an_law_fv_share cd_law_fv_share ct_law_fv_share), sl_law_fv_share⟩)
    (c_law_fv_share : PySem.W.codeIn K cd_law_fv_share "_law_fv_share" = true)
    (k_law_fv_share : PySem.W.keepIn K (.ref f_law_fv_share) = true)
    (a_law_fv_live : PySem.W.nsIn K mainGlobals "_law_fv_live" = some (some (.ref f_law_fv_live)))
    (l_law_fv_live : K.lookup f_law_fv_live = some ⟨oc_law_fv_live, od_law_fv_live, .func (PySem.W.fnOf "_law_fv_live" "_law_fv_live" (defArgs s_law_fv_live) (defBody s_law_fv_live) (defScope s_law_fv_live) .none kV_law_fv_live dc_law_fv_live pm_law_fv_live an_law_fv_live cd_law_fv_live ct_law_fv_live), sl_law_fv_live⟩)
    (c_law_fv_live : PySem.W.codeIn K cd_law_fv_live "_law_fv_live" = true)
    (k_law_fv_live : PySem.W.keepIn K (.ref f_law_fv_live) = true)
    (a_law_fv_fallen : PySem.W.nsIn K mainGlobals "_law_fv_fallen" = some (some (.ref f_law_fv_fallen)))
    (l_law_fv_fallen : K.lookup f_law_fv_fallen = some ⟨oc_law_fv_fallen, od_law_fv_fallen, .func (PySem.W.fnOf "_law_fv_fallen" "_law_fv_fallen" (defArgs s_law_fv_fallen) (defBody s_law_fv_fallen) (defScope s_law_fv_fallen) .none kV_law_fv_fallen dc_law_fv_fallen pm_law_fv_fallen an_law_fv_fallen cd_law_fv_fallen ct_law_fv_fallen), sl_law_fv_fallen⟩)
    (c_law_fv_fallen : PySem.W.codeIn K cd_law_fv_fallen "_law_fv_fallen" = true)
    (k_law_fv_fallen : PySem.W.keepIn K (.ref f_law_fv_fallen) = true)
    (a_law_fv_forced : PySem.W.nsIn K mainGlobals "_law_fv_forced" = some (some (.ref f_law_fv_forced)))
    (l_law_fv_forced : K.lookup f_law_fv_forced = some ⟨oc_law_fv_forced, od_law_fv_forced, .func (PySem.W.fnOf "_law_fv_forced" "_law_fv_forced" (defArgs s_law_fv_forced) (defBody s_law_fv_forced) (defScope s_law_fv_forced) .none kV_law_fv_forced dc_law_fv_forced pm_law_fv_forced an_law_fv_forced cd_law_fv_forced ct_law_fv_forced), sl_law_fv_forced⟩)
    (c_law_fv_forced : PySem.W.codeIn K cd_law_fv_forced "_law_fv_forced" = true)
    (k_law_fv_forced : PySem.W.keepIn K (.ref f_law_fv_forced) = true)
    (a_law_fv_wide : PySem.W.nsIn K mainGlobals "_law_fv_wide" = some (some (.ref f_law_fv_wide)))
    (l_law_fv_wide : K.lookup f_law_fv_wide = some ⟨oc_law_fv_wide, od_law_fv_wide, .func (PySem.W.fnOf "_law_fv_wide" "_law_fv_wide" (defArgs s_law_fv_wide) (defBody s_law_fv_wide) (defScope s_law_fv_wide) .none kV_law_fv_wide dc_law_fv_wide pm_law_fv_wide an_law_fv_wide cd_law_fv_wide ct_law_fv_wide), sl_law_fv_wide⟩)
    (c_law_fv_wide : PySem.W.codeIn K cd_law_fv_wide "_law_fv_wide" = true)
    (k_law_fv_wide : PySem.W.keepIn K (.ref f_law_fv_wide) = true)
    (a_law_fv_run : PySem.W.nsIn K mainGlobals "_law_fv_run" = some (some (.ref f_law_fv_run)))
    (l_law_fv_run : K.lookup f_law_fv_run = some ⟨oc_law_fv_run, od_law_fv_run, .func (PySem.W.fnOf "_law_fv_run" "_law_fv_run" (defArgs s_law_fv_run) (defBody s_law_fv_run) (defScope s_law_fv_run) .none kV_law_fv_run dc_law_fv_run pm_law_fv_run an_law_fv_run cd_law_fv_run ct_law_fv_run), sl_law_fv_run⟩)
    (c_law_fv_run : PySem.W.codeIn K cd_law_fv_run "_law_fv_run" = true)
    (k_law_fv_run : PySem.W.keepIn K (.ref f_law_fv_run) = true)
    (a_law_fv_wrong_rung : PySem.W.nsIn K mainGlobals "_law_fv_wrong_rung" = some (some (.ref f_law_fv_wrong_rung)))
    (l_law_fv_wrong_rung : K.lookup f_law_fv_wrong_rung = some ⟨oc_law_fv_wrong_rung, od_law_fv_wrong_rung, .func (PySem.W.fnOf "_law_fv_wrong_rung" "_law_fv_wrong_rung" (defArgs s_law_fv_wrong_rung) (defBody s_law_fv_wrong_rung) (defScope s_law_fv_wrong_rung) .none kV_law_fv_wrong_rung dc_law_fv_wrong_rung pm_law_fv_wrong_rung an_law_fv_wrong_rung cd_law_fv_wrong_rung ct_law_fv_wrong_rung), sl_law_fv_wrong_rung⟩)
    (c_law_fv_wrong_rung : PySem.W.codeIn K cd_law_fv_wrong_rung "_law_fv_wrong_rung" = true)
    (k_law_fv_wrong_rung : PySem.W.keepIn K (.ref f_law_fv_wrong_rung) = true)
    (a_law_fv_stair : PySem.W.nsIn K mainGlobals "_law_fv_stair" = some (some (.ref f_law_fv_stair)))
    (l_law_fv_stair : K.lookup f_law_fv_stair = some ⟨oc_law_fv_stair, od_law_fv_stair, .func (PySem.W.fnOf "_law_fv_stair" "_law_fv_stair" (defArgs s_law_fv_stair) (defBody s_law_fv_stair) (defScope s_law_fv_stair) .none kV_law_fv_stair dc_law_fv_stair pm_law_fv_stair an_law_fv_stair cd_law_fv_stair ct_law_fv_stair), sl_law_fv_stair⟩)
    (c_law_fv_stair : PySem.W.codeIn K cd_law_fv_stair "_law_fv_stair" = true)
    (k_law_fv_stair : PySem.W.keepIn K (.ref f_law_fv_stair) = true)
    (a_law_fv_drawn_stair : PySem.W.nsIn K mainGlobals "_law_fv_drawn_stair" = some (some (.ref f_law_fv_drawn_stair)))
    (l_law_fv_drawn_stair : K.lookup f_law_fv_drawn_stair = some ⟨oc_law_fv_drawn_stair, od_law_fv_drawn_stair, .func (PySem.W.fnOf "_law_fv_drawn_stair" "_law_fv_drawn_stair" (defArgs s_law_fv_drawn_stair) (defBody s_law_fv_drawn_stair) (defScope s_law_fv_drawn_stair) .none kV_law_fv_drawn_stair dc_law_fv_drawn_stair pm_law_fv_drawn_stair an_law_fv_drawn_stair cd_law_fv_drawn_stair ct_law_fv_drawn_stair), sl_law_fv_drawn_stair⟩)
    (c_law_fv_drawn_stair : PySem.W.codeIn K cd_law_fv_drawn_stair "_law_fv_drawn_stair" = true)
    (k_law_fv_drawn_stair : PySem.W.keepIn K (.ref f_law_fv_drawn_stair) = true)
    (a_law_fv_drawn_levels : PySem.W.nsIn K mainGlobals "_law_fv_drawn_levels" = some (some (.ref f_law_fv_drawn_levels)))
    (l_law_fv_drawn_levels : K.lookup f_law_fv_drawn_levels = some ⟨oc_law_fv_drawn_levels, od_law_fv_drawn_levels, .func (PySem.W.fnOf "_law_fv_drawn_levels" "_law_fv_drawn_levels" (defArgs s_law_fv_drawn_levels) (defBody s_law_fv_drawn_levels) (defScope s_law_fv_drawn_levels) .none kV_law_fv_drawn_levels dc_law_fv_drawn_levels pm_law_fv_drawn_levels an_law_fv_drawn_levels cd_law_fv_drawn_levels ct_law_fv_drawn_levels), sl_law_fv_drawn_levels⟩)
    (c_law_fv_drawn_levels : PySem.W.codeIn K cd_law_fv_drawn_levels "_law_fv_drawn_levels" = true)
    (k_law_fv_drawn_levels : PySem.W.keepIn K (.ref f_law_fv_drawn_levels) = true)
    (a_law_fv_drawn_rate : PySem.W.nsIn K mainGlobals "_law_fv_drawn_rate" = some (some (.ref f_law_fv_drawn_rate)))
    (l_law_fv_drawn_rate : K.lookup f_law_fv_drawn_rate = some ⟨oc_law_fv_drawn_rate, od_law_fv_drawn_rate, .func (PySem.W.fnOf "_law_fv_drawn_rate" "_law_fv_drawn_rate" (defArgs s_law_fv_drawn_rate) (defBody s_law_fv_drawn_rate) (defScope s_law_fv_drawn_rate) .none kV_law_fv_drawn_rate dc_law_fv_drawn_rate pm_law_fv_drawn_rate an_law_fv_drawn_rate cd_law_fv_drawn_rate ct_law_fv_drawn_rate), sl_law_fv_drawn_rate⟩)
    (c_law_fv_drawn_rate : PySem.W.codeIn K cd_law_fv_drawn_rate "_law_fv_drawn_rate" = true)
    (k_law_fv_drawn_rate : PySem.W.keepIn K (.ref f_law_fv_drawn_rate) = true)
    (a_law_heard : PySem.W.nsIn K mainGlobals "_law_heard" = some (some (.ref f_law_heard)))
    (l_law_heard : K.lookup f_law_heard = some ⟨oc_law_heard, od_law_heard, .func (PySem.W.fnOf "_law_heard" "_law_heard" (defArgs s_law_heard) (defBody s_law_heard) (defScope s_law_heard) .none kV_law_heard dc_law_heard pm_law_heard an_law_heard cd_law_heard ct_law_heard), sl_law_heard⟩)
    (c_law_heard : PySem.W.codeIn K cd_law_heard "_law_heard" = true)
    (k_law_heard : PySem.W.keepIn K (.ref f_law_heard) = true)
    (a_law_heard_value : PySem.W.nsIn K mainGlobals "_law_heard_value" = some (some (.ref f_law_heard_value)))
    (l_law_heard_value : K.lookup f_law_heard_value = some ⟨oc_law_heard_value, od_law_heard_value, .func (PySem.W.fnOf "_law_heard_value" "_law_heard_value" (defArgs s_law_heard_value) (defBody s_law_heard_value) (defScope s_law_heard_value) .none kV_law_heard_value dc_law_heard_value pm_law_heard_value an_law_heard_value (.ref cA_law_heard_value) ct_law_heard_value), sl_law_heard_value⟩)
    (c_law_heard_value : PySem.W.codeIn K (.ref cA_law_heard_value) "_law_heard_value" = true)
    (k_law_heard_value : PySem.W.keepIn K (.ref f_law_heard_value) = true)
    (nT_law_heard_value : K.lookup Pt_law_heard_value = none)
    (hd_law_heard_value : PySem.W.codeHdIn K cA_law_heard_value Pt_law_heard_value = true)
    (a_law_owed : PySem.W.nsIn K mainGlobals "_law_owed" = some (some (.ref f_law_owed)))
    (l_law_owed : K.lookup f_law_owed = some ⟨oc_law_owed, od_law_owed, .func (PySem.W.fnOf "_law_owed" "_law_owed" (defArgs s_law_owed) (defBody s_law_owed) (defScope s_law_owed) .none kV_law_owed dc_law_owed pm_law_owed an_law_owed cd_law_owed ct_law_owed), sl_law_owed⟩)
    (c_law_owed : PySem.W.codeIn K cd_law_owed "_law_owed" = true)
    (k_law_owed : PySem.W.keepIn K (.ref f_law_owed) = true)
    (a_law_is_right : PySem.W.nsIn K mainGlobals "_law_is_right" = some (some (.ref f_law_is_right)))
    (l_law_is_right : K.lookup f_law_is_right = some ⟨oc_law_is_right, od_law_is_right, .func (PySem.W.fnOf "_law_is_right" "_law_is_right" (defArgs s_law_is_right) (defBody s_law_is_right) (defScope s_law_is_right) .none kV_law_is_right dc_law_is_right pm_law_is_right an_law_is_right cd_law_is_right ct_law_is_right), sl_law_is_right⟩)
    (c_law_is_right : PySem.W.codeIn K cd_law_is_right "_law_is_right" = true)
    (k_law_is_right : PySem.W.keepIn K (.ref f_law_is_right) = true)
    (a_law_bent : PySem.W.nsIn K mainGlobals "_law_bent" = some (some (.ref f_law_bent)))
    (l_law_bent : K.lookup f_law_bent = some ⟨oc_law_bent, od_law_bent, .func (PySem.W.fnOf "_law_bent" "_law_bent" (defArgs s_law_bent) (defBody s_law_bent) (defScope s_law_bent) .none kV_law_bent dc_law_bent pm_law_bent an_law_bent cd_law_bent ct_law_bent), sl_law_bent⟩)
    (c_law_bent : PySem.W.codeIn K cd_law_bent "_law_bent" = true)
    (k_law_bent : PySem.W.keepIn K (.ref f_law_bent) = true)
    (a_law_levels_right : PySem.W.nsIn K mainGlobals "_law_levels_right" = some (some (.ref f_law_levels_right)))
    (l_law_levels_right : K.lookup f_law_levels_right = some ⟨oc_law_levels_right, od_law_levels_right, .func (PySem.W.fnOf "_law_levels_right" "_law_levels_right" (defArgs s_law_levels_right) (defBody s_law_levels_right) (defScope s_law_levels_right) .none kV_law_levels_right dc_law_levels_right pm_law_levels_right an_law_levels_right cd_law_levels_right ct_law_levels_right), sl_law_levels_right⟩)
    (c_law_levels_right : PySem.W.codeIn K cd_law_levels_right "_law_levels_right" = true)
    (k_law_levels_right : PySem.W.keepIn K (.ref f_law_levels_right) = true)
    (a_law_all_right : PySem.W.nsIn K mainGlobals "_law_all_right" = some (some (.ref f_law_all_right)))
    (l_law_all_right : K.lookup f_law_all_right = some ⟨oc_law_all_right, od_law_all_right, .func (PySem.W.fnOf "_law_all_right" "_law_all_right" (defArgs s_law_all_right) (defBody s_law_all_right) (defScope s_law_all_right) .none kV_law_all_right dc_law_all_right pm_law_all_right an_law_all_right cd_law_all_right ct_law_all_right), sl_law_all_right⟩)
    (c_law_all_right : PySem.W.codeIn K cd_law_all_right "_law_all_right" = true)
    (k_law_all_right : PySem.W.keepIn K (.ref f_law_all_right) = true)
    (a_law : PySem.W.nsIn K mainGlobals "law" = some (some (.ref f_law)))
    (l_law : K.lookup f_law = some ⟨oc_law, od_law, .func (PySem.W.fnOf "law" "law" (defArgs s_law) (defBody s_law) (defScope s_law) .none kV_law dc_law pm_law an_law cd_law ct_law), sl_law⟩)
    (c_law : PySem.W.codeIn K cd_law "law" = true)
    (k_law : PySem.W.keepIn K (.ref f_law) = true)
    (aC_InvalidLevels : PySem.W.nsIn K mainGlobals "InvalidLevels" = some (some (.ref C_InvalidLevels)))
    (xL_InvalidLevels : K.lookup C_InvalidLevels = some (excClassObj nm_InvalidLevels q_InvalidLevels C_InvalidLevels N_InvalidLevels bs_InvalidLevels bm_InvalidLevels true sn_InvalidLevels sub_InvalidLevels ab_InvalidLevels col_InvalidLevels dd_InvalidLevels m0_InvalidLevels m1_InvalidLevels m2_InvalidLevels m3_InvalidLevels m5_InvalidLevels "ValueError.__new__"))
    (ve_InvalidLevels : PySem.XG.over [.type "ValueError", .type "Exception", .type "BaseException", .type "object"] bm_InvalidLevels = true)
    (sa_InvalidLevels : PySem.W.findIn K (.ref C_InvalidLevels) "__setattr__" = some (some (.builtin "object.__setattr__")))
    (ga_InvalidLevels : PySem.W.findIn K (.ref C_InvalidLevels) "__getattribute__" = some (some (.builtin "BaseException.__getattribute__")))
    (gg_InvalidLevels : PySem.W.findIn K (.ref C_InvalidLevels) "__getattr__" = some none)
    (nb_InvalidLevels_position : PySem.W.findIn K (.ref C_InvalidLevels) "position" = some none)
    (a1_InvalidLevels : PySem.W.findIn K (.ref C_InvalidLevels) "__init__" = some (some (.ref fI_InvalidLevels)))
    (t1_InvalidLevels : PySem.W.typeIn K (.ref fI_InvalidLevels) = some (.type "function"))
    (l1_InvalidLevels : K.lookup fI_InvalidLevels = some ⟨oc_InvalidLevels, od_InvalidLevels, .func (PySem.W.fnOf "__init__" "InvalidLevels.__init__" (defArgs s_InvalidLevels_init) (defBody s_InvalidLevels_init) (defScope s_InvalidLevels_init) .none kV_InvalidLevels dc_InvalidLevels pm_InvalidLevels an_InvalidLevels cd_InvalidLevels ct_InvalidLevels), sl_InvalidLevels⟩)
    (c1_InvalidLevels : PySem.W.codeIn K cd_InvalidLevels "InvalidLevels.__init__" = true)
    (k1_InvalidLevels : PySem.W.keepIn K (.ref fI_InvalidLevels) = true)
    (kC_InvalidLevels : PySem.W.keepIn K (.ref C_InvalidLevels) = true)
    (eC_InvalidLevels : PySem.W.subIn K (.ref C_InvalidLevels) (.type "BaseException") = some true)
    (tC_InvalidLevels : PySem.W.typeIn K (.ref C_InvalidLevels) = some (.type "type"))
    (hC_InvalidLevels : PySem.W.hasDictIn K C_InvalidLevels = true)
    (iC_InvalidLevels : PySem.W.isClsIn K C_InvalidLevels = true)
    (sC_InvalidLevels : PySem.W.subIn K (.ref C_InvalidLevels) (.ref C_InvalidLevels) = some true)
    (aC_InvalidRate : PySem.W.nsIn K mainGlobals "InvalidRate" = some (some (.ref C_InvalidRate)))
    (xL_InvalidRate : K.lookup C_InvalidRate = some (excClassObj nm_InvalidRate q_InvalidRate C_InvalidRate N_InvalidRate bs_InvalidRate bm_InvalidRate true sn_InvalidRate sub_InvalidRate ab_InvalidRate col_InvalidRate dd_InvalidRate m0_InvalidRate m1_InvalidRate m2_InvalidRate m3_InvalidRate m5_InvalidRate "ValueError.__new__"))
    (ve_InvalidRate : PySem.XG.over [.type "ValueError", .type "Exception", .type "BaseException", .type "object"] bm_InvalidRate = true)
    (sa_InvalidRate : PySem.W.findIn K (.ref C_InvalidRate) "__setattr__" = some (some (.builtin "object.__setattr__")))
    (ga_InvalidRate : PySem.W.findIn K (.ref C_InvalidRate) "__getattribute__" = some (some (.builtin "BaseException.__getattribute__")))
    (gg_InvalidRate : PySem.W.findIn K (.ref C_InvalidRate) "__getattr__" = some none)
    (nb_InvalidRate_value : PySem.W.findIn K (.ref C_InvalidRate) "value" = some none)
    (a1_InvalidRate : PySem.W.findIn K (.ref C_InvalidRate) "__init__" = some (some (.ref fI_InvalidRate)))
    (t1_InvalidRate : PySem.W.typeIn K (.ref fI_InvalidRate) = some (.type "function"))
    (l1_InvalidRate : K.lookup fI_InvalidRate = some ⟨oc_InvalidRate, od_InvalidRate, .func (PySem.W.fnOf "__init__" "InvalidRate.__init__" (defArgs s_InvalidRate_init) (defBody s_InvalidRate_init) (defScope s_InvalidRate_init) .none kV_InvalidRate dc_InvalidRate pm_InvalidRate an_InvalidRate cd_InvalidRate ct_InvalidRate), sl_InvalidRate⟩)
    (c1_InvalidRate : PySem.W.codeIn K cd_InvalidRate "InvalidRate.__init__" = true)
    (k1_InvalidRate : PySem.W.keepIn K (.ref fI_InvalidRate) = true)
    (kC_InvalidRate : PySem.W.keepIn K (.ref C_InvalidRate) = true)
    (eC_InvalidRate : PySem.W.subIn K (.ref C_InvalidRate) (.type "BaseException") = some true)
    (tC_InvalidRate : PySem.W.typeIn K (.ref C_InvalidRate) = some (.type "type"))
    (hC_InvalidRate : PySem.W.hasDictIn K C_InvalidRate = true)
    (iC_InvalidRate : PySem.W.isClsIn K C_InvalidRate = true)
    (sC_InvalidRate : PySem.W.subIn K (.ref C_InvalidRate) (.ref C_InvalidRate) = some true)
    (aC_InvalidStair : PySem.W.nsIn K mainGlobals "InvalidStair" = some (some (.ref C_InvalidStair)))
    (xL_InvalidStair : K.lookup C_InvalidStair = some (excClassObj nm_InvalidStair q_InvalidStair C_InvalidStair N_InvalidStair bs_InvalidStair bm_InvalidStair true sn_InvalidStair sub_InvalidStair ab_InvalidStair col_InvalidStair dd_InvalidStair m0_InvalidStair m1_InvalidStair m2_InvalidStair m3_InvalidStair m5_InvalidStair "ValueError.__new__"))
    (ve_InvalidStair : PySem.XG.over [.type "ValueError", .type "Exception", .type "BaseException", .type "object"] bm_InvalidStair = true)
    (sa_InvalidStair : PySem.W.findIn K (.ref C_InvalidStair) "__setattr__" = some (some (.builtin "object.__setattr__")))
    (ga_InvalidStair : PySem.W.findIn K (.ref C_InvalidStair) "__getattribute__" = some (some (.builtin "BaseException.__getattribute__")))
    (gg_InvalidStair : PySem.W.findIn K (.ref C_InvalidStair) "__getattr__" = some none)
    (nb_InvalidStair_position : PySem.W.findIn K (.ref C_InvalidStair) "position" = some none)
    (a1_InvalidStair : PySem.W.findIn K (.ref C_InvalidStair) "__init__" = some (some (.ref fI_InvalidStair)))
    (t1_InvalidStair : PySem.W.typeIn K (.ref fI_InvalidStair) = some (.type "function"))
    (l1_InvalidStair : K.lookup fI_InvalidStair = some ⟨oc_InvalidStair, od_InvalidStair, .func (PySem.W.fnOf "__init__" "InvalidStair.__init__" (defArgs s_InvalidStair_init) (defBody s_InvalidStair_init) (defScope s_InvalidStair_init) .none kV_InvalidStair dc_InvalidStair pm_InvalidStair an_InvalidStair cd_InvalidStair ct_InvalidStair), sl_InvalidStair⟩)
    (c1_InvalidStair : PySem.W.codeIn K cd_InvalidStair "InvalidStair.__init__" = true)
    (k1_InvalidStair : PySem.W.keepIn K (.ref fI_InvalidStair) = true)
    (kC_InvalidStair : PySem.W.keepIn K (.ref C_InvalidStair) = true)
    (eC_InvalidStair : PySem.W.subIn K (.ref C_InvalidStair) (.type "BaseException") = some true)
    (tC_InvalidStair : PySem.W.typeIn K (.ref C_InvalidStair) = some (.type "type"))
    (hC_InvalidStair : PySem.W.hasDictIn K C_InvalidStair = true)
    (iC_InvalidStair : PySem.W.isClsIn K C_InvalidStair = true)
    (sC_InvalidStair : PySem.W.subIn K (.ref C_InvalidStair) (.ref C_InvalidStair) = some true)
    (v_MAX_LEVELS : PySem.W.nsIn K mainGlobals "MAX_LEVELS" = some (some (.int 20 t_MAX_LEVELS)))
    (v_MAX_LEVEL : PySem.W.nsIn K mainGlobals "MAX_LEVEL" = some (some (.int 10000 t_MAX_LEVEL)))
    (v_MAX_PACE : PySem.W.nsIn K mainGlobals "MAX_PACE" = some (some (.int 1000 t_MAX_PACE)))
    (v_MAX_STEPS : PySem.W.nsIn K mainGlobals "MAX_STEPS" = some (some (.int 20 t_MAX_STEPS)))
    (v_MAX_ROUNDS : PySem.W.nsIn K mainGlobals "MAX_ROUNDS" = some (some (.int 1000 t_MAX_ROUNDS)))
    : LawAtS PySem.Challenge.rw_fullestfirst_k70_stairs_bent_at_each_run w K (L2.CX PySem.Challenge.rw_fullestfirst_k70_stairs_bent_at_each_run.prog w) 11 63 "script" mg fa h := by
  have e := hfa.symm.trans (PySem.W.mg_of X G a_law)
  cases e
  have bn : BN mg := ⟨PySem.W.mg_none_of X G b_len, PySem.W.mg_none_of X G b_int, PySem.W.mg_none_of X G b_max, PySem.W.mg_none_of X G b_min, PySem.W.mg_none_of X G b_bool, PySem.W.mg_none_of X G b_str, PySem.W.mg_none_of X G b_tuple, PySem.W.mg_none_of X G b_list, PySem.W.mg_none_of X G b_isinstance, PySem.W.mg_none_of X G b_range, PySem.W.mg_none_of X G b_sorted, PySem.W.mg_none_of X G b_enumerate, PySem.W.mg_none_of X G b_all, PySem.W.mg_none_of X G b_any, PySem.W.mg_none_of X G b_dict, PySem.W.mg_none_of X G b_divmod, PySem.W.mg_none_of X G b_zip, PySem.W.mg_none_of X G b_sum, PySem.W.mg_none_of X G b_ord⟩
  have F_is_integer := fun_mk (st := s_is_integer) l_is_integer c_is_integer k_is_integer
  have m_is_integer := PySem.W.mg_of X G a_is_integer
  have F_in_range := fun_mk (st := s_in_range) l_in_range c_in_range k_in_range
  have m_in_range := PySem.W.mg_of X G a_in_range
  have F_wrong_level := fun_mk (st := s_wrong_level) l_wrong_level c_wrong_level k_wrong_level
  have m_wrong_level := PySem.W.mg_of X G a_wrong_level
  have F_has_length := fun_mk (st := s_has_length) l_has_length c_has_length k_has_length
  have m_has_length := PySem.W.mg_of X G a_has_length
  have F_is_rate := fun_mk (st := s_is_rate) l_is_rate c_is_rate k_is_rate
  have m_is_rate := PySem.W.mg_of X G a_is_rate
  have F_check_levels := fun_mk (st := s_check_levels) l_check_levels c_check_levels k_check_levels
  have m_check_levels := PySem.W.mg_of X G a_check_levels
  have F_check_rate := fun_mk (st := s_check_rate) l_check_rate c_check_rate k_check_rate
  have m_check_rate := PySem.W.mg_of X G a_check_rate
  have F_even_share_inner := fun_mk (st := s_even_share_inner) l_even_share_inner c_even_share_inner k_even_share_inner
  have m_even_share_inner := PySem.W.mg_of X G a_even_share_inner
  have F_live := fun_mk (st := s_live) l_live c_live k_live
  have m_live := PySem.W.mg_of X G a_live
  have F_need_of := fun_mk (st := s_need_of) l_need_of c_need_of k_need_of
  have m_need_of := PySem.W.mg_of X G a_need_of
  have F_is_rung := fun_mk (st := s_is_rung) l_is_rung c_is_rung k_is_rung
  have m_is_rung := PySem.W.mg_of X G a_is_rung
  have F_check_length := fun_mk (st := s_check_length) l_check_length c_check_length k_check_length
  have m_check_length := PySem.W.mg_of X G a_check_length
  have F_needs_of := fun_mk (st := s_needs_of) l_needs_of c_needs_of k_needs_of
  have m_needs_of := PySem.W.mg_of X G a_needs_of
  have F_lowest_sum := fun_mk (st := s_lowest_sum) l_lowest_sum c_lowest_sum k_lowest_sum
  have m_lowest_sum := PySem.W.mg_of X G a_lowest_sum
  have F_live_rows := fun_mk (st := s_live_rows) l_live_rows c_live_rows k_live_rows
  have m_live_rows := PySem.W.mg_of X G a_live_rows
  have F_stair_value := fun_mk (st := s_stair_value) l_stair_value c_stair_value k_stair_value
  have m_stair_value := PySem.W.mg_of X G a_stair_value
  have F_law_pool := fun_mk (st := s_law_pool) l_law_pool c_law_pool k_law_pool
  have m_law_pool := PySem.W.mg_of X G a_law_pool
  have F_law_take := fun_mk (st := s_law_take) l_law_take c_law_take k_law_take
  have m_law_take := PySem.W.mg_of X G a_law_take
  have F_law_one := fun_mk (st := s_law_one) l_law_one c_law_one k_law_one
  have m_law_one := PySem.W.mg_of X G a_law_one
  have F_law_mixed := fun_mk (st := s_law_mixed) l_law_mixed c_law_mixed k_law_mixed
  have m_law_mixed := PySem.W.mg_of X G a_law_mixed
  have F_law_yq_is_whole := fun_mk (st := s_law_yq_is_whole) l_law_yq_is_whole c_law_yq_is_whole k_law_yq_is_whole
  have m_law_yq_is_whole := PySem.W.mg_of X G a_law_yq_is_whole
  have F_law_yq_same := fun_mk (st := s_law_yq_same) l_law_yq_same c_law_yq_same k_law_yq_same
  have m_law_yq_same := PySem.W.mg_of X G a_law_yq_same
  have F_law_fv_is_whole := fun_mk (st := s_law_fv_is_whole) l_law_fv_is_whole c_law_fv_is_whole k_law_fv_is_whole
  have m_law_fv_is_whole := PySem.W.mg_of X G a_law_fv_is_whole
  have F_law_fv_ranked := fun_mk (st := s_law_fv_ranked) l_law_fv_ranked c_law_fv_ranked k_law_fv_ranked
  have m_law_fv_ranked := PySem.W.mg_of X G a_law_fv_ranked
  have F_law_fv_poured := fun_mk (st := s_law_fv_poured) l_law_fv_poured c_law_fv_poured k_law_fv_poured
  have m_law_fv_poured := PySem.W.mg_of X G a_law_fv_poured
  have F_law_fv_emptied := fun_mk (st := s_law_fv_emptied) l_law_fv_emptied c_law_fv_emptied k_law_fv_emptied
  have m_law_fv_emptied := PySem.W.mg_of X G a_law_fv_emptied
  have F_law_fv_share := fun_mk (st := s_law_fv_share) l_law_fv_share c_law_fv_share k_law_fv_share
  have m_law_fv_share := PySem.W.mg_of X G a_law_fv_share
  have F_law_fv_live := fun_mk (st := s_law_fv_live) l_law_fv_live c_law_fv_live k_law_fv_live
  have m_law_fv_live := PySem.W.mg_of X G a_law_fv_live
  have F_law_fv_fallen := fun_mk (st := s_law_fv_fallen) l_law_fv_fallen c_law_fv_fallen k_law_fv_fallen
  have m_law_fv_fallen := PySem.W.mg_of X G a_law_fv_fallen
  have F_law_fv_forced := fun_mk (st := s_law_fv_forced) l_law_fv_forced c_law_fv_forced k_law_fv_forced
  have m_law_fv_forced := PySem.W.mg_of X G a_law_fv_forced
  have F_law_fv_wide := fun_mk (st := s_law_fv_wide) l_law_fv_wide c_law_fv_wide k_law_fv_wide
  have m_law_fv_wide := PySem.W.mg_of X G a_law_fv_wide
  have F_law_fv_run := fun_mk (st := s_law_fv_run) l_law_fv_run c_law_fv_run k_law_fv_run
  have m_law_fv_run := PySem.W.mg_of X G a_law_fv_run
  have F_law_fv_wrong_rung := fun_mk (st := s_law_fv_wrong_rung) l_law_fv_wrong_rung c_law_fv_wrong_rung k_law_fv_wrong_rung
  have m_law_fv_wrong_rung := PySem.W.mg_of X G a_law_fv_wrong_rung
  have F_law_fv_stair := fun_mk (st := s_law_fv_stair) l_law_fv_stair c_law_fv_stair k_law_fv_stair
  have m_law_fv_stair := PySem.W.mg_of X G a_law_fv_stair
  have F_law_fv_drawn_stair := fun_mk (st := s_law_fv_drawn_stair) l_law_fv_drawn_stair c_law_fv_drawn_stair k_law_fv_drawn_stair
  have m_law_fv_drawn_stair := PySem.W.mg_of X G a_law_fv_drawn_stair
  have F_law_fv_drawn_levels := fun_mk (st := s_law_fv_drawn_levels) l_law_fv_drawn_levels c_law_fv_drawn_levels k_law_fv_drawn_levels
  have m_law_fv_drawn_levels := PySem.W.mg_of X G a_law_fv_drawn_levels
  have F_law_fv_drawn_rate := fun_mk (st := s_law_fv_drawn_rate) l_law_fv_drawn_rate c_law_fv_drawn_rate k_law_fv_drawn_rate
  have m_law_fv_drawn_rate := PySem.W.mg_of X G a_law_fv_drawn_rate
  have F_law_heard := fun_mk (st := s_law_heard) l_law_heard c_law_heard k_law_heard
  have m_law_heard := PySem.W.mg_of X G a_law_heard
  have F_law_heard_value := fun_mk (st := s_law_heard_value) l_law_heard_value c_law_heard_value k_law_heard_value
  have m_law_heard_value := PySem.W.mg_of X G a_law_heard_value
  have F_law_owed := fun_mk (st := s_law_owed) l_law_owed c_law_owed k_law_owed
  have m_law_owed := PySem.W.mg_of X G a_law_owed
  have F_law_is_right := fun_mk (st := s_law_is_right) l_law_is_right c_law_is_right k_law_is_right
  have m_law_is_right := PySem.W.mg_of X G a_law_is_right
  have F_law_bent := fun_mk (st := s_law_bent) l_law_bent c_law_bent k_law_bent
  have m_law_bent := PySem.W.mg_of X G a_law_bent
  have F_law_levels_right := fun_mk (st := s_law_levels_right) l_law_levels_right c_law_levels_right k_law_levels_right
  have m_law_levels_right := PySem.W.mg_of X G a_law_levels_right
  have F_law_all_right := fun_mk (st := s_law_all_right) l_law_all_right c_law_all_right k_law_all_right
  have m_law_all_right := PySem.W.mg_of X G a_law_all_right
  have F_law := fun_mk (st := s_law) l_law c_law k_law
  have m_law := PySem.W.mg_of X G a_law
  have o_InvalidLevels : OexG K C_InvalidLevels := ⟨⟨_, _, _, _, PySem.XG.bxV, _, _, _, _, _, _, _, _, _, _, _, _, _, _, _, xL_InvalidLevels, ve_InvalidLevels⟩, sa_InvalidLevels, eC_InvalidLevels, tC_InvalidLevels, kC_InvalidLevels⟩
  have xf_InvalidLevels : XfC K C_InvalidLevels := ⟨ga_InvalidLevels, gg_InvalidLevels, eC_InvalidLevels, hC_InvalidLevels⟩
  have em_InvalidLevels := exm_self eC_InvalidLevels iC_InvalidLevels tC_InvalidLevels sC_InvalidLevels
  have g_InvalidLevels := PySem.W.mg_of X G aC_InvalidLevels
  have FI_InvalidLevels := fun_mk (st := s_InvalidLevels_init) l1_InvalidLevels c1_InvalidLevels k1_InvalidLevels
  have o_InvalidRate : OexG K C_InvalidRate := ⟨⟨_, _, _, _, PySem.XG.bxV, _, _, _, _, _, _, _, _, _, _, _, _, _, _, _, xL_InvalidRate, ve_InvalidRate⟩, sa_InvalidRate, eC_InvalidRate, tC_InvalidRate, kC_InvalidRate⟩
  have xf_InvalidRate : XfC K C_InvalidRate := ⟨ga_InvalidRate, gg_InvalidRate, eC_InvalidRate, hC_InvalidRate⟩
  have em_InvalidRate := exm_self eC_InvalidRate iC_InvalidRate tC_InvalidRate sC_InvalidRate
  have g_InvalidRate := PySem.W.mg_of X G aC_InvalidRate
  have FI_InvalidRate := fun_mk (st := s_InvalidRate_init) l1_InvalidRate c1_InvalidRate k1_InvalidRate
  have o_InvalidStair : OexG K C_InvalidStair := ⟨⟨_, _, _, _, PySem.XG.bxV, _, _, _, _, _, _, _, _, _, _, _, _, _, _, _, xL_InvalidStair, ve_InvalidStair⟩, sa_InvalidStair, eC_InvalidStair, tC_InvalidStair, kC_InvalidStair⟩
  have xf_InvalidStair : XfC K C_InvalidStair := ⟨ga_InvalidStair, gg_InvalidStair, eC_InvalidStair, hC_InvalidStair⟩
  have em_InvalidStair := exm_self eC_InvalidStair iC_InvalidStair tC_InvalidStair sC_InvalidStair
  have g_InvalidStair := PySem.W.mg_of X G aC_InvalidStair
  have FI_InvalidStair := fun_mk (st := s_InvalidStair_init) l1_InvalidStair c1_InvalidStair k1_InvalidStair
  have n_MAX_LEVELS : ∃ t, mg "MAX_LEVELS" = some (.int 20 t) := ⟨_, PySem.W.mg_of X G v_MAX_LEVELS⟩
  have n_MAX_LEVEL : ∃ t, mg "MAX_LEVEL" = some (.int 10000 t) := ⟨_, PySem.W.mg_of X G v_MAX_LEVEL⟩
  have n_MAX_PACE : ∃ t, mg "MAX_PACE" = some (.int 1000 t) := ⟨_, PySem.W.mg_of X G v_MAX_PACE⟩
  have n_MAX_STEPS : ∃ t, mg "MAX_STEPS" = some (.int 20 t) := ⟨_, PySem.W.mg_of X G v_MAX_STEPS⟩
  have n_MAX_ROUNDS : ∃ t, mg "MAX_ROUNDS" = some (.int 1000 t) := ⟨_, PySem.W.mg_of X G v_MAX_ROUNDS⟩
  refine ⟨PySem.W.fnOf "law" "law" (defArgs s_law) (defBody s_law) (defScope s_law) .none kV_law dc_law pm_law an_law cd_law ct_law, [(cA_law_heard_value, Pt_law_heard_value)], SpG K [(Pt_law_heard_value, lamQ "_law_heard_value" s_law_heard_value)] cLaw, ?_, ?_, ?_, fun s u => .of_eq rfl, fun H a ns hl _ hT hS => sp_law hl ?_ hS, fun base KB GB TB => ?_⟩
  · exact fun p hp => by simp only [List.mem_cons, List.not_mem_nil, or_false] at hp; rcases hp with rfl <;> exact Y2 _ (by simp)
  · exact fun p hp => by simp only [List.mem_cons, List.not_mem_nil, or_false] at hp; rcases hp with rfl <;> first | exact nT_law_heard_value
  · exact fun p hp => by simp only [List.mem_cons, List.not_mem_nil, or_false] at hp; rcases hp with rfl <;> first | exact PySem.W.codeHd_of_K X hd_law_heard_value
  · exact fun p hp => by simp only [List.mem_cons, List.not_mem_nil, or_false] at hp; rcases hp with rfl <;> first | exact hT (cA_law_heard_value, Pt_law_heard_value) (by simp)
  have TB_law_heard_value := TB (cA_law_heard_value, Pt_law_heard_value) (by simp)
  have hT_law_heard_value : (Pt_law_heard_value, lamQ "_law_heard_value" s_law_heard_value) ∈ [(Pt_law_heard_value, lamQ "_law_heard_value" s_law_heard_value)] := by simp
  have hU_law_heard_value : ∀ p ∈ [(Pt_law_heard_value, lamQ "_law_heard_value" s_law_heard_value)], p.1 = Pt_law_heard_value → p.2 = lamQ "_law_heard_value" s_law_heard_value := by intro p hp e; simp only [List.mem_cons, List.not_mem_nil, or_false] at hp; rcases hp with rfl <;> first | exact absurd e (by assumption) | exact absurd e.symm (by assumption) | rfl
  generalize [(Pt_law_heard_value, lamQ "_law_heard_value" s_law_heard_value)] = T at *
  have X_InvalidLevels : Ex1 PySem.Challenge.rw_fullestfirst_k70_stairs_bent_at_each_run.prog w K mg base "InvalidLevels" "position" C_InvalidLevels := ⟨o_InvalidLevels, nb_InvalidLevels_position, g_InvalidLevels, fI_InvalidLevels, _, _, 1, Nat.le_refl _, a1_InvalidLevels, t1_InvalidLevels, ok_init1 FI_InvalidLevels sc_InvalidLevels_init rfl rfl rfl (fun _ => rfl), bd_InvalidLevels_init FI_InvalidLevels⟩
  have X_InvalidRate : Ex1 PySem.Challenge.rw_fullestfirst_k70_stairs_bent_at_each_run.prog w K mg base "InvalidRate" "value" C_InvalidRate := ⟨o_InvalidRate, nb_InvalidRate_value, g_InvalidRate, fI_InvalidRate, _, _, 1, Nat.le_refl _, a1_InvalidRate, t1_InvalidRate, ok_init1 FI_InvalidRate sc_InvalidRate_init rfl rfl rfl (fun _ => rfl), bd_InvalidRate_init FI_InvalidRate⟩
  have X_InvalidStair : Ex1 PySem.Challenge.rw_fullestfirst_k70_stairs_bent_at_each_run.prog w K mg base "InvalidStair" "position" C_InvalidStair := ⟨o_InvalidStair, nb_InvalidStair_position, g_InvalidStair, fI_InvalidStair, _, _, 1, Nat.le_refl _, a1_InvalidStair, t1_InvalidStair, ok_init1 FI_InvalidStair sc_InvalidStair_init rfl rfl rfl (fun _ => rfl), bd_InvalidStair_init FI_InvalidStair⟩
  have h_is_integer := has_is_integer (P := PySem.Challenge.rw_fullestfirst_k70_stairs_bent_at_each_run.prog) (w := w) (base := base) (T := T) F_is_integer bn m_is_integer
  have h_in_range := has_in_range F_in_range bn m_in_range h_is_integer
  have h_law_take := has_law_take (P := PySem.Challenge.rw_fullestfirst_k70_stairs_bent_at_each_run.prog) (w := w) (base := base) (T := T) F_law_take bn m_law_take
  have h_law_one := has_law_one F_law_one bn m_law_one h_law_take
  have h_law_pool := has_law_pool (P := PySem.Challenge.rw_fullestfirst_k70_stairs_bent_at_each_run.prog) (w := w) (base := base) (T := T) F_law_pool bn m_law_pool
  have h_law_mixed := has_law_mixed F_law_mixed bn m_law_mixed h_law_take
  have h_law_yq_is_whole := has_law_yq_is_whole (P := PySem.Challenge.rw_fullestfirst_k70_stairs_bent_at_each_run.prog) (w := w) (base := base) (T := T) F_law_yq_is_whole bn m_law_yq_is_whole
  have h_wrong_level := has_wrong_level F_wrong_level bn m_wrong_level h_in_range n_MAX_LEVEL
  have h_has_length := has_has_length (P := PySem.Challenge.rw_fullestfirst_k70_stairs_bent_at_each_run.prog) (w := w) (base := base) (T := T) F_has_length bn m_has_length n_MAX_LEVELS
  have h_check_levels := has_check_levels F_check_levels bn m_check_levels h_wrong_level h_has_length
  have h_law_fv_ranked := has_law_fv_ranked (P := PySem.Challenge.rw_fullestfirst_k70_stairs_bent_at_each_run.prog) (w := w) (base := base) (T := T) F_law_fv_ranked bn m_law_fv_ranked
  have h_even_share_inner := has_even_share_inner (P := PySem.Challenge.rw_fullestfirst_k70_stairs_bent_at_each_run.prog) (w := w) (base := base) (T := T) F_even_share_inner bn m_even_share_inner
  have h_law_fv_share := has_law_fv_share (P := PySem.Challenge.rw_fullestfirst_k70_stairs_bent_at_each_run.prog) (w := w) (base := base) (T := T) F_law_fv_share bn m_law_fv_share
  have h_law_fv_poured := has_law_fv_poured (P := PySem.Challenge.rw_fullestfirst_k70_stairs_bent_at_each_run.prog) (w := w) (base := base) (T := T) F_law_fv_poured bn m_law_fv_poured
  have h_law_fv_emptied := has_law_fv_emptied F_law_fv_emptied bn m_law_fv_emptied h_law_fv_ranked
  have h_law_fv_drawn_levels := has_law_fv_drawn_levels F_law_fv_drawn_levels bn m_law_fv_drawn_levels h_law_take h_law_one h_law_mixed
  have h_is_rate := has_is_rate F_is_rate bn m_is_rate h_in_range n_MAX_PACE n_MAX_STEPS
  have h_check_rate := has_check_rate F_check_rate bn m_check_rate h_is_rate
  have h_live := has_live (P := PySem.Challenge.rw_fullestfirst_k70_stairs_bent_at_each_run.prog) (w := w) (base := base) (T := T) F_live bn m_live
  have h_law_fv_live := has_law_fv_live (P := PySem.Challenge.rw_fullestfirst_k70_stairs_bent_at_each_run.prog) (w := w) (base := base) (T := T) F_law_fv_live bn m_law_fv_live
  have h_law_fv_wide := has_law_fv_wide (P := PySem.Challenge.rw_fullestfirst_k70_stairs_bent_at_each_run.prog) (w := w) (base := base) (T := T) F_law_fv_wide bn m_law_fv_wide
  have h_law_fv_run := has_law_fv_run F_law_fv_run bn m_law_fv_run h_law_fv_poured h_law_fv_emptied
  have h_law_fv_fallen := has_law_fv_fallen F_law_fv_fallen bn m_law_fv_fallen h_law_fv_poured h_law_fv_live
  have h_law_fv_forced := has_law_fv_forced F_law_fv_forced bn m_law_fv_forced h_law_fv_ranked h_law_fv_live h_law_fv_wide h_law_fv_run h_law_fv_fallen
  have h_law_fv_drawn_rate := has_law_fv_drawn_rate F_law_fv_drawn_rate bn m_law_fv_drawn_rate h_law_take h_law_one
  have h_need_of := has_need_of F_need_of bn m_need_of h_live
  have h_is_rung := has_is_rung F_is_rung bn m_is_rung h_in_range h_is_integer
  have h_check_length := has_check_length (P := PySem.Challenge.rw_fullestfirst_k70_stairs_bent_at_each_run.prog) (w := w) (base := base) (T := T) F_check_length bn m_check_length X_InvalidStair n_MAX_ROUNDS
  have h_needs_of := has_needs_of F_needs_of bn m_needs_of h_need_of h_is_rung h_live X_InvalidStair
  have h_lowest_sum := has_lowest_sum (P := PySem.Challenge.rw_fullestfirst_k70_stairs_bent_at_each_run.prog) (w := w) (base := base) (T := T) F_lowest_sum bn m_lowest_sum
  have h_live_rows := has_live_rows F_live_rows bn m_live_rows h_live
  have h_stair_value := has_stair_value F_stair_value bn m_stair_value h_check_levels h_check_rate h_check_length h_needs_of h_live_rows h_lowest_sum h_even_share_inner X_InvalidStair
  have h_law_fv_is_whole := has_law_fv_is_whole (P := PySem.Challenge.rw_fullestfirst_k70_stairs_bent_at_each_run.prog) (w := w) (base := base) (T := T) F_law_fv_is_whole bn m_law_fv_is_whole
  have h_law_fv_wrong_rung := has_law_fv_wrong_rung F_law_fv_wrong_rung bn m_law_fv_wrong_rung h_law_fv_live h_law_fv_is_whole
  have h_law_fv_stair := has_law_fv_stair F_law_fv_stair bn m_law_fv_stair h_law_fv_ranked h_law_fv_live h_law_fv_share
  have h_law_fv_drawn_stair := has_law_fv_drawn_stair F_law_fv_drawn_stair bn m_law_fv_drawn_stair h_law_take h_law_one h_law_fv_live
  have h_law_heard_5 := has_law_heard (P := PySem.Challenge.rw_fullestfirst_k70_stairs_bent_at_each_run.prog) (w := w) (base := base) (T := T) (k := 5) F_law_heard bn m_law_heard X_InvalidStair xf_InvalidStair em_InvalidStair
  have h_law_heard_value := has_law_heard_value F_law_heard_value bn m_law_heard_value rfl h_law_heard_5 h_stair_value X_InvalidStair TB_law_heard_value hT_law_heard_value hU_law_heard_value
  have h_law_owed := has_law_owed F_law_owed bn m_law_owed h_law_fv_wrong_rung h_law_fv_stair
  have h_same_1 := has_law_yq_same 1 F_law_yq_same bn m_law_yq_same h_law_yq_is_whole
  have h_law_is_right := has_law_is_right F_law_is_right bn m_law_is_right h_law_owed h_law_mixed h_law_heard_value h_same_1
  have h_law_bent := has_law_bent F_law_bent bn m_law_bent h_law_one h_law_take h_law_fv_live
  have h_law_levels_right := has_law_levels_right F_law_levels_right bn m_law_levels_right h_law_take h_law_fv_drawn_stair h_law_fv_wrong_rung h_law_is_right h_law_fv_stair h_law_fv_forced h_law_bent h_law_heard_value h_same_1
  have h_law_all_right := has_law_all_right F_law_all_right bn m_law_all_right h_law_take h_law_is_right
  have h_same_2 := has_law_yq_same 2 F_law_yq_same bn m_law_yq_same h_law_yq_is_whole
  exact ok_law F_law bn h_law_pool h_law_take h_law_fv_drawn_levels h_law_fv_drawn_rate h_law_levels_right h_law_all_right h_law_heard_value h_same_2
end Law
open PySem PySem.W PyProof.Rows
theorem PySem.Challenge.cw_fullestfirst_k70_stairs_bent_at_each_run_holds : PySem.Challenge.rw_fullestfirst_k70_stairs_bent_at_each_run.Holds := by
  w_on; o_law; k_head; (case hw => w_witness2)
  k_fill
  refine LamX.walk_ofTs (l := PySem.Challenge.rw_fullestfirst_k70_stairs_bent_at_each_run) (n := 63) (k := 11) (x := "script") (CX := fun w => L2.CX PySem.Challenge.rw_fullestfirst_k70_stairs_bent_at_each_run.prog w) rfl (by decide) rfl ⟨rfl, by decide, by decide⟩ (fun w h Y => PySem.W.km_in_of Y) ?F (fun w H s e s' z => Q.cx_none H s e s' z)
  case F =>
    intro w mg fa h Y KX G hmg
    refine' Law.end_mk KX G hmg (PySem.W.km_tabs_of Y) ?b_len ?b_int ?b_max ?b_min ?b_bool ?b_str ?b_tuple ?b_list ?b_isinstance ?b_range ?b_sorted ?b_enumerate ?b_all ?b_any ?b_dict ?b_divmod ?b_zip ?b_sum ?b_ord ?a_is_integer ?l_is_integer ?c_is_integer ?k_is_integer ?a_in_range ?l_in_range ?c_in_range ?k_in_range ?a_wrong_level ?l_wrong_level ?c_wrong_level ?k_wrong_level ?a_has_length ?l_has_length ?c_has_length ?k_has_length ?a_is_rate ?l_is_rate ?c_is_rate ?k_is_rate ?a_check_levels ?l_check_levels ?c_check_levels ?k_check_levels ?a_check_rate ?l_check_rate ?c_check_rate ?k_check_rate ?a_even_share_inner ?l_even_share_inner ?c_even_share_inner ?k_even_share_inner ?a_live ?l_live ?c_live ?k_live ?a_need_of ?l_need_of ?c_need_of ?k_need_of ?a_is_rung ?l_is_rung ?c_is_rung ?k_is_rung ?a_check_length ?l_check_length ?c_check_length ?k_check_length ?a_needs_of ?l_needs_of ?c_needs_of ?k_needs_of ?a_lowest_sum ?l_lowest_sum ?c_lowest_sum ?k_lowest_sum ?a_live_rows ?l_live_rows ?c_live_rows ?k_live_rows ?a_stair_value ?l_stair_value ?c_stair_value ?k_stair_value ?a_law_pool ?l_law_pool ?c_law_pool ?k_law_pool ?a_law_take ?l_law_take ?c_law_take ?k_law_take ?a_law_one ?l_law_one ?c_law_one ?k_law_one ?a_law_mixed ?l_law_mixed ?c_law_mixed ?k_law_mixed ?a_law_yq_is_whole ?l_law_yq_is_whole ?c_law_yq_is_whole ?k_law_yq_is_whole ?a_law_yq_same ?l_law_yq_same ?c_law_yq_same ?k_law_yq_same ?a_law_fv_is_whole ?l_law_fv_is_whole ?c_law_fv_is_whole ?k_law_fv_is_whole ?a_law_fv_ranked ?l_law_fv_ranked ?c_law_fv_ranked ?k_law_fv_ranked ?a_law_fv_poured ?l_law_fv_poured ?c_law_fv_poured ?k_law_fv_poured ?a_law_fv_emptied ?l_law_fv_emptied ?c_law_fv_emptied ?k_law_fv_emptied ?a_law_fv_share ?l_law_fv_share ?c_law_fv_share ?k_law_fv_share ?a_law_fv_live ?l_law_fv_live ?c_law_fv_live ?k_law_fv_live ?a_law_fv_fallen ?l_law_fv_fallen ?c_law_fv_fallen ?k_law_fv_fallen ?a_law_fv_forced ?l_law_fv_forced ?c_law_fv_forced ?k_law_fv_forced ?a_law_fv_wide ?l_law_fv_wide ?c_law_fv_wide ?k_law_fv_wide ?a_law_fv_run ?l_law_fv_run ?c_law_fv_run ?k_law_fv_run ?a_law_fv_wrong_rung ?l_law_fv_wrong_rung ?c_law_fv_wrong_rung ?k_law_fv_wrong_rung ?a_law_fv_stair ?l_law_fv_stair ?c_law_fv_stair ?k_law_fv_stair ?a_law_fv_drawn_stair ?l_law_fv_drawn_stair ?c_law_fv_drawn_stair ?k_law_fv_drawn_stair ?a_law_fv_drawn_levels ?l_law_fv_drawn_levels ?c_law_fv_drawn_levels ?k_law_fv_drawn_levels ?a_law_fv_drawn_rate ?l_law_fv_drawn_rate ?c_law_fv_drawn_rate ?k_law_fv_drawn_rate ?a_law_heard ?l_law_heard ?c_law_heard ?k_law_heard ?a_law_heard_value ?l_law_heard_value ?c_law_heard_value ?k_law_heard_value ?nT_law_heard_value ?hd_law_heard_value ?a_law_owed ?l_law_owed ?c_law_owed ?k_law_owed ?a_law_is_right ?l_law_is_right ?c_law_is_right ?k_law_is_right ?a_law_bent ?l_law_bent ?c_law_bent ?k_law_bent ?a_law_levels_right ?l_law_levels_right ?c_law_levels_right ?k_law_levels_right ?a_law_all_right ?l_law_all_right ?c_law_all_right ?k_law_all_right ?a_law ?l_law ?c_law ?k_law ?aC_InvalidLevels ?xL_InvalidLevels ?ve_InvalidLevels ?sa_InvalidLevels ?ga_InvalidLevels ?gg_InvalidLevels ?nb_InvalidLevels_position ?a1_InvalidLevels ?t1_InvalidLevels ?l1_InvalidLevels ?c1_InvalidLevels ?k1_InvalidLevels ?kC_InvalidLevels ?eC_InvalidLevels ?tC_InvalidLevels ?hC_InvalidLevels ?iC_InvalidLevels ?sC_InvalidLevels ?aC_InvalidRate ?xL_InvalidRate ?ve_InvalidRate ?sa_InvalidRate ?ga_InvalidRate ?gg_InvalidRate ?nb_InvalidRate_value ?a1_InvalidRate ?t1_InvalidRate ?l1_InvalidRate ?c1_InvalidRate ?k1_InvalidRate ?kC_InvalidRate ?eC_InvalidRate ?tC_InvalidRate ?hC_InvalidRate ?iC_InvalidRate ?sC_InvalidRate ?aC_InvalidStair ?xL_InvalidStair ?ve_InvalidStair ?sa_InvalidStair ?ga_InvalidStair ?gg_InvalidStair ?nb_InvalidStair_position ?a1_InvalidStair ?t1_InvalidStair ?l1_InvalidStair ?c1_InvalidStair ?k1_InvalidStair ?kC_InvalidStair ?eC_InvalidStair ?tC_InvalidStair ?hC_InvalidStair ?iC_InvalidStair ?sC_InvalidStair ?v_MAX_LEVELS ?v_MAX_LEVEL ?v_MAX_PACE ?v_MAX_STEPS ?v_MAX_ROUNDS
    (case b_len => k_is); (case b_int => k_is); (case b_max => k_is); (case b_min => k_is)
    (case b_bool => k_is); (case b_str => k_is); (case b_tuple => k_is); (case b_list => k_is)
    (case b_isinstance => k_is); (case b_range => k_is); (case b_sorted => k_is); (case b_enumerate => k_is)
    (case b_all => k_is); (case b_any => k_is); (case b_dict => k_is); (case b_divmod => k_is)
    (case b_zip => k_is); (case b_sum => k_is); (case b_ord => k_is); (case a_is_integer => k_is)
    (case l_is_integer => k_is); (case c_is_integer => k_is); (case k_is_integer => k_is); (case a_in_range => k_is)
    (case l_in_range => k_is); (case c_in_range => k_is); (case k_in_range => k_is); (case a_wrong_level => k_is)
    (case l_wrong_level => k_is); (case c_wrong_level => k_is); (case k_wrong_level => k_is); (case a_has_length => k_is)
    (case l_has_length => k_is); (case c_has_length => k_is); (case k_has_length => k_is); (case a_is_rate => k_is)
    (case l_is_rate => k_is); (case c_is_rate => k_is); (case k_is_rate => k_is); (case a_check_levels => k_is)
    (case l_check_levels => k_is); (case c_check_levels => k_is); (case k_check_levels => k_is); (case a_check_rate => k_is)
    (case l_check_rate => k_is); (case c_check_rate => k_is); (case k_check_rate => k_is); (case a_even_share_inner => k_is)
    (case l_even_share_inner => k_is); (case c_even_share_inner => k_is); (case k_even_share_inner => k_is); (case a_live => k_is)
    (case l_live => k_is); (case c_live => k_is); (case k_live => k_is); (case a_need_of => k_is)
    (case l_need_of => k_is); (case c_need_of => k_is); (case k_need_of => k_is); (case a_is_rung => k_is)
    (case l_is_rung => k_is); (case c_is_rung => k_is); (case k_is_rung => k_is); (case a_check_length => k_is)
    (case l_check_length => k_is); (case c_check_length => k_is); (case k_check_length => k_is); (case a_needs_of => k_is)
    (case l_needs_of => k_is); (case c_needs_of => k_is); (case k_needs_of => k_is); (case a_lowest_sum => k_is)
    (case l_lowest_sum => k_is); (case c_lowest_sum => k_is); (case k_lowest_sum => k_is); (case a_live_rows => k_is)
    (case l_live_rows => k_is); (case c_live_rows => k_is); (case k_live_rows => k_is); (case a_stair_value => k_is)
    (case l_stair_value => k_is); (case c_stair_value => k_is); (case k_stair_value => k_is); (case a_law_pool => k_is)
    (case l_law_pool => k_is); (case c_law_pool => k_is); (case k_law_pool => k_is); (case a_law_take => k_is)
    (case l_law_take => k_is); (case c_law_take => k_is); (case k_law_take => k_is); (case a_law_one => k_is)
    (case l_law_one => k_is); (case c_law_one => k_is); (case k_law_one => k_is); (case a_law_mixed => k_is)
    (case l_law_mixed => k_is); (case c_law_mixed => k_is); (case k_law_mixed => k_is); (case a_law_yq_is_whole => k_is)
    (case l_law_yq_is_whole => k_is); (case c_law_yq_is_whole => k_is); (case k_law_yq_is_whole => k_is); (case a_law_yq_same => k_is)
    (case l_law_yq_same => k_is); (case c_law_yq_same => k_is); (case k_law_yq_same => k_is); (case a_law_fv_is_whole => k_is)
    (case l_law_fv_is_whole => k_is); (case c_law_fv_is_whole => k_is); (case k_law_fv_is_whole => k_is); (case a_law_fv_ranked => k_is)
    (case l_law_fv_ranked => k_is); (case c_law_fv_ranked => k_is); (case k_law_fv_ranked => k_is); (case a_law_fv_poured => k_is)
    (case l_law_fv_poured => k_is); (case c_law_fv_poured => k_is); (case k_law_fv_poured => k_is); (case a_law_fv_emptied => k_is)
    (case l_law_fv_emptied => k_is); (case c_law_fv_emptied => k_is); (case k_law_fv_emptied => k_is); (case a_law_fv_share => k_is)
    (case l_law_fv_share => k_is); (case c_law_fv_share => k_is); (case k_law_fv_share => k_is); (case a_law_fv_live => k_is)
    (case l_law_fv_live => k_is); (case c_law_fv_live => k_is); (case k_law_fv_live => k_is); (case a_law_fv_fallen => k_is)
    (case l_law_fv_fallen => k_is); (case c_law_fv_fallen => k_is); (case k_law_fv_fallen => k_is); (case a_law_fv_forced => k_is)
    (case l_law_fv_forced => k_is); (case c_law_fv_forced => k_is); (case k_law_fv_forced => k_is); (case a_law_fv_wide => k_is)
    (case l_law_fv_wide => k_is); (case c_law_fv_wide => k_is); (case k_law_fv_wide => k_is); (case a_law_fv_run => k_is)
    (case l_law_fv_run => k_is); (case c_law_fv_run => k_is); (case k_law_fv_run => k_is); (case a_law_fv_wrong_rung => k_is)
    (case l_law_fv_wrong_rung => k_is); (case c_law_fv_wrong_rung => k_is); (case k_law_fv_wrong_rung => k_is); (case a_law_fv_stair => k_is)
    (case l_law_fv_stair => k_is); (case c_law_fv_stair => k_is); (case k_law_fv_stair => k_is); (case a_law_fv_drawn_stair => k_is)
    (case l_law_fv_drawn_stair => k_is); (case c_law_fv_drawn_stair => k_is); (case k_law_fv_drawn_stair => k_is); (case a_law_fv_drawn_levels => k_is)
    (case l_law_fv_drawn_levels => k_is); (case c_law_fv_drawn_levels => k_is); (case k_law_fv_drawn_levels => k_is); (case a_law_fv_drawn_rate => k_is)
    (case l_law_fv_drawn_rate => k_is); (case c_law_fv_drawn_rate => k_is); (case k_law_fv_drawn_rate => k_is); (case a_law_heard => k_is)
    (case l_law_heard => k_is); (case c_law_heard => k_is); (case k_law_heard => k_is); (case a_law_heard_value => k_is)
    (case l_law_heard_value => k_is); (case c_law_heard_value => k_is); (case k_law_heard_value => k_is); (case nT_law_heard_value => first | rfl | decide +kernel | k_is)
    (case hd_law_heard_value => first | rfl | decide +kernel | k_is); (case a_law_owed => k_is); (case l_law_owed => k_is); (case c_law_owed => k_is)
    (case k_law_owed => k_is); (case a_law_is_right => k_is); (case l_law_is_right => k_is); (case c_law_is_right => k_is)
    (case k_law_is_right => k_is); (case a_law_bent => k_is); (case l_law_bent => k_is); (case c_law_bent => k_is)
    (case k_law_bent => k_is); (case a_law_levels_right => k_is); (case l_law_levels_right => k_is); (case c_law_levels_right => k_is)
    (case k_law_levels_right => k_is); (case a_law_all_right => k_is); (case l_law_all_right => k_is); (case c_law_all_right => k_is)
    (case k_law_all_right => k_is); (case a_law => k_is); (case l_law => k_is); (case c_law => k_is)
    (case k_law => k_is); (case aC_InvalidLevels => k_is); (case xL_InvalidLevels => k_is); (case ve_InvalidLevels => decide +kernel)
    (case sa_InvalidLevels => k_is); (case ga_InvalidLevels => k_is); (case gg_InvalidLevels => k_is); (case nb_InvalidLevels_position => k_is)
    (case a1_InvalidLevels => k_is); (case t1_InvalidLevels => k_is); (case l1_InvalidLevels => k_is); (case c1_InvalidLevels => k_is)
    (case k1_InvalidLevels => k_is); (case kC_InvalidLevels => k_is); (case eC_InvalidLevels => k_is); (case tC_InvalidLevels => k_is)
    (case hC_InvalidLevels => k_is); (case iC_InvalidLevels => k_is); (case sC_InvalidLevels => first | rfl | k_is); (case aC_InvalidRate => k_is)
    (case xL_InvalidRate => k_is); (case ve_InvalidRate => decide +kernel); (case sa_InvalidRate => k_is); (case ga_InvalidRate => k_is)
    (case gg_InvalidRate => k_is); (case nb_InvalidRate_value => k_is); (case a1_InvalidRate => k_is); (case t1_InvalidRate => k_is)
    (case l1_InvalidRate => k_is); (case c1_InvalidRate => k_is); (case k1_InvalidRate => k_is); (case kC_InvalidRate => k_is)
    (case eC_InvalidRate => k_is); (case tC_InvalidRate => k_is); (case hC_InvalidRate => k_is); (case iC_InvalidRate => k_is)
    (case sC_InvalidRate => first | rfl | k_is); (case aC_InvalidStair => k_is); (case xL_InvalidStair => k_is); (case ve_InvalidStair => decide +kernel)
    (case sa_InvalidStair => k_is); (case ga_InvalidStair => k_is); (case gg_InvalidStair => k_is); (case nb_InvalidStair_position => k_is)
    (case a1_InvalidStair => k_is); (case t1_InvalidStair => k_is); (case l1_InvalidStair => k_is); (case c1_InvalidStair => k_is)
    (case k1_InvalidStair => k_is); (case kC_InvalidStair => k_is); (case eC_InvalidStair => k_is); (case tC_InvalidStair => k_is)
    (case hC_InvalidStair => k_is); (case iC_InvalidStair => k_is); (case sC_InvalidStair => first | rfl | k_is); (case v_MAX_LEVELS => k_is)
    (case v_MAX_LEVEL => k_is); (case v_MAX_PACE => k_is); (case v_MAX_STEPS => k_is); (case v_MAX_ROUNDS => k_is)
