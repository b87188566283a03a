import PyProof.Rows.All
import Wide.All
import OpenK.AllK
import Wide.FinOn
import HandS.ForMost
import HandS.WordsExc
import HandS.TupAny
import HandS.IsInst
import HandS.DictComp
import HandS.DictTup
import HandS.Style
import KE.KRevSl
import PyProof.AutoSeq1
import HandS.Deep
import HandS.ExcIs
import HandS.Small
import HandS.Conv
import PySem.Challenge.RW_tertium_k01_places_of_terms
set_option Elab.async false
set_option linter.all false
set_option maxRecDepth 100000
/-! ## DL1 -/
namespace DL
open PySem PySem.Spec PyProof.Rows L2

/-- immutable data (a list or dict in it is locked) -/
inductive Py where
  | non | bl (b : Bool) | int (i : Int) | str (x : Str) | tup (ds : List Py) | lst (ds : List Py) | dic (kvs : List (Py × Py)) | obj (a : Addr)
/-- what a slot holds: data, or an object of its own that may change -/
inductive Sv where
  | val (d : Py) | lst (ds : List Py) | dic (kvs : List (Py × Py)) | ins (C : Addr) (fs : List (Str × Sv))
abbrev DS := List (Option Sv)

def keyP : Key → Py
  | .inl i => .int i
  | .inr x => .str x
def SqF (K : PySem.W.Frag) (H : Hp) (a : Addr) (xs : List V) : Prop := (∃ o, H a = some (.frz o (.lst xs))) ∨
  ∃ (o : Obj) (its : Array Value) (n : Nat), K.lookup a = some o ∧ o.cls = .type "list" ∧ o.dict = none ∧ o.data = .seq its n ∧ its.size ≤ sizeLine ∧ Vals xs its.toList
mutual
inductive R (K : PySem.W.Frag) (H : Hp) : V → Py → Prop
  | non : R K H .non .non
  | bl (b : Bool) : R K H (.bl b) (.bl b)
  | int (i : Int) : R K H (.int i) (.int i)
  | str (x : Str) : R K H (.str x) (.str x)
  | tup {a : Addr} {xs : List V} {ds : List Py} : H a = some (.tup xs) → RA K H xs ds → R K H (.ref a) (.tup ds)
  | lst {a : Addr} {xs : List V} {ds : List Py} : SqF K H a xs → RA K H xs ds → R K H (.ref a) (.lst ds)
  | dicK {a : Addr} {o : Obj} {ks : List (Key × V)} {kvs : List (Py × Py)} : H a = some (.frz o (.dK ks)) → RK K H ks kvs → R K H (.ref a) (.dic kvs)
  | dicT {a : Addr} {o : Obj} {ks : List (List Key × V)} {kvs : List (Py × Py)} : H a = some (.frz o (.dT ks)) → RT K H ks kvs → R K H (.ref a) (.dic kvs)
  | obj (a : Addr) : R K H (.ref a) (.obj a)
inductive RA (K : PySem.W.Frag) (H : Hp) : List V → List Py → Prop
  | nil : RA K H [] []
  | cons {v : V} {vs : List V} {d : Py} {ds : List Py} : R K H v d → RA K H vs ds → RA K H (v :: vs) (d :: ds)
inductive RK (K : PySem.W.Frag) (H : Hp) : List (Key × V) → List (Py × Py) → Prop
  | nil : RK K H [] []
  | cons {k : Key} {v : V} {d : Py} {ks : List (Key × V)} {kvs : List (Py × Py)} : R K H v d → RK K H ks kvs → RK K H ((k, v) :: ks) ((keyP k, d) :: kvs)
inductive RT (K : PySem.W.Frag) (H : Hp) : List (List Key × V) → List (Py × Py) → Prop
  | nil : RT K H [] []
  | cons {k : List Key} {v : V} {d : Py} {ks : List (List Key × V)} {kvs : List (Py × Py)} : R K H v d → RT K H ks kvs → RT K H ((k, v) :: ks) ((.tup (k.map keyP), d) :: kvs)
end

structure Gr (H H' : Hp) : Prop where
  tup : ∀ b xs, H b = some (.tup xs) → H' b = some (.tup xs)
  frz : ∀ b o u, H b = some (.frz o u) → H' b = some (.frz o u)
theorem Gr.refl (H : Hp) : Gr H H := ⟨fun _ _ h => h, fun _ _ _ h => h⟩
theorem Gr.trans {H H1 H2 : Hp} (a : Gr H H1) (b : Gr H1 H2) : Gr H H2 := ⟨fun c xs h => b.tup c xs (a.tup c xs h), fun c o u h => b.frz c o u (a.frz c o u h)⟩
theorem Gr.sqT {K : PySem.W.Frag} {H H' : Hp} {a : Addr} {xs : List V} (g : Gr H H') (h : SqT K H a xs) : SqT K H' a xs := by
  rcases h with (h | ⟨o, h⟩) | h
  · exact .inl (.inl (g.tup _ _ h))
  · exact .inl (.inr ⟨o, g.frz _ _ _ h⟩)
  · exact .inr h
theorem Gr.sqF {K : PySem.W.Frag} {H H' : Hp} {a : Addr} {xs : List V} (g : Gr H H') (h : SqF K H a xs) : SqF K H' a xs := by
  rcases h with ⟨o, h⟩ | h
  · exact .inl ⟨o, g.frz _ _ _ h⟩
  · exact .inr h
theorem SqF.l {K : PySem.W.Frag} {H : Hp} {a : Addr} {xs : List V} (h : SqF K H a xs) : SqL K H a xs := by
  rcases h with ⟨o, h⟩ | h
  · exact .inl (.inr ⟨o, h⟩)
  · exact .inr h
/-- a is tracked, and it is neither a tuple nor locked -/
def Own (H : Hp) (a : Addr) : Prop := ∃ o, H a = some o ∧ (∀ xs, o ≠ .tup xs) ∧ ∀ ob u, o ≠ .frz ob u
theorem Gr.own {H : Hp} {a : Addr} {o : HO} (h : Own H a) : Gr H (upd H a o) := by
  obtain ⟨o1, e, n1, n2⟩ := h
  refine ⟨fun b xs q => ?_, fun b ob u q => ?_⟩
  · rw [upd_ne]
    · exact q
    · rintro rfl; rw [e] at q; exact n1 _ (Option.some.inj q)
  · rw [upd_ne]
    · exact q
    · rintro rfl; rw [e] at q; exact n2 _ _ (Option.some.inj q)
theorem Gr.new {H : Hp} {a : Addr} {o : HO} (h : H a = none) : Gr H (upd H a o) := by
  refine ⟨fun b xs q => ?_, fun b ob u q => ?_⟩
  · rw [upd_ne (ne_of_none q h)]; exact q
  · rw [upd_ne (ne_of_none q h)]; exact q

mutual
theorem R.mono {K : PySem.W.Frag} {H H' : Hp} (g : Gr H H') : ∀ {v : V} {d : Py}, R K H v d → R K H' v d
  | _, _, .non => .non
  | _, _, .bl b => .bl b
  | _, _, .int i => .int i
  | _, _, .str x => .str x
  | _, _, .tup h r => .tup (g.tup _ _ h) (RA.mono g r)
  | _, _, .lst h r => .lst (g.sqF h) (RA.mono g r)
  | _, _, .dicK h r => .dicK (g.frz _ _ _ h) (RK.mono g r)
  | _, _, .dicT h r => .dicT (g.frz _ _ _ h) (RT.mono g r)
  | _, _, .obj a => .obj a
theorem RA.mono {K : PySem.W.Frag} {H H' : Hp} (g : Gr H H') : ∀ {v : List V} {d : List Py}, RA K H v d → RA K H' v d
  | _, _, .nil => .nil
  | _, _, .cons h r => .cons (R.mono g h) (RA.mono g r)
theorem RK.mono {K : PySem.W.Frag} {H H' : Hp} (g : Gr H H') : ∀ {v : List (Key × V)} {d : List (Py × Py)}, RK K H v d → RK K H' v d
  | _, _, .nil => .nil
  | _, _, .cons h r => .cons (R.mono g h) (RK.mono g r)
theorem RT.mono {K : PySem.W.Frag} {H H' : Hp} (g : Gr H H') : ∀ {v : List (List Key × V)} {d : List (Py × Py)}, RT K H v d → RT K H' v d
  | _, _, .nil => .nil
  | _, _, .cons h r => .cons (R.mono g h) (RT.mono g r)
end
section
variable {K : PySem.W.Frag} {H H' : Hp}
theorem RA.length {vs : List V} {ds : List Py} (h : RA K H vs ds) : vs.length = ds.length := by
  match h with
  | .nil => rfl
  | .cons _ t => exact congrArg Nat.succ (RA.length t)
theorem RA.get : ∀ {vs : List V} {ds : List Py} {i : Nat} {d : Py}, RA K H vs ds → ds[i]? = some d → ∃ v, vs[i]? = some v ∧ R K H v d
  | _, _, _, _, .nil, e => by simp at e
  | _, _, 0, _, .cons h _, e => by simp at e; subst e; exact ⟨_, rfl, h⟩
  | _, _, i + 1, d, .cons _ t, e => by
    obtain ⟨v, h1, h2⟩ := RA.get (i := i) (d := d) t (by simpa using e)
    exact ⟨v, by simpa using h1, h2⟩
theorem RA.get' : ∀ {vs : List V} {ds : List Py} {i : Nat} {v : V}, RA K H vs ds → vs[i]? = some v → ∃ d, ds[i]? = some d ∧ R K H v d
  | _, _, _, _, .nil, e => by simp at e
  | _, _, 0, _, .cons h _, e => by simp at e; subst e; exact ⟨_, rfl, h⟩
  | _, _, i + 1, d, .cons _ t, e => by
    obtain ⟨v, h1, h2⟩ := RA.get' (i := i) (v := d) t (by simpa using e)
    exact ⟨v, by simpa using h1, h2⟩
theorem RA.append : ∀ {vs ws : List V} {ds es : List Py}, RA K H vs ds → RA K H ws es → RA K H (vs ++ ws) (ds ++ es)
  | _, _, _, _, .nil, s => s
  | _, _, _, _, .cons h t, s => .cons h (RA.append t s)
theorem RA.take : ∀ {vs : List V} {ds : List Py} (n : Nat), RA K H vs ds → RA K H (vs.take n) (ds.take n)
  | _, _, 0, _ => .nil
  | _, _, _ + 1, .nil => .nil
  | _, _, n + 1, .cons h t => .cons h (RA.take n t)
theorem RA.drop : ∀ {vs : List V} {ds : List Py} (n : Nat), RA K H vs ds → RA K H (vs.drop n) (ds.drop n)
  | _, _, 0, r => r
  | _, _, _ + 1, .nil => .nil
  | _, _, n + 1, .cons _ t => RA.drop n t
theorem RA.set : ∀ {vs : List V} {ds : List Py} (n : Nat) {v : V} {d : Py}, RA K H vs ds → R K H v d → RA K H (vs.set n v) (ds.set n d)
  | _, _, _, _, _, .nil, _ => .nil
  | _, _, 0, _, _, .cons _ t, h => .cons h t
  | _, _, n + 1, _, _, .cons h t, q => .cons h (RA.set n t q)
theorem RA.reverse {vs : List V} {ds : List Py} (h : RA K H vs ds) : RA K H vs.reverse ds.reverse := by
  match h with
  | .nil => exact .nil
  | .cons h t =>
    rw [List.reverse_cons, List.reverse_cons]
    exact RA.append (RA.reverse t) (.cons h .nil)
theorem RA.eraseIdx : ∀ {vs : List V} {ds : List Py} (n : Nat), RA K H vs ds → RA K H (vs.eraseIdx n) (ds.eraseIdx n)
  | _, _, _, .nil => .nil
  | _, _, 0, .cons _ t => t
  | _, _, n + 1, .cons h t => .cons h (RA.eraseIdx n t)
theorem RA.dropLast {vs : List V} {ds : List Py} (h : RA K H vs ds) : RA K H vs.dropLast ds.dropLast := by
  rw [List.dropLast_eq_take, List.dropLast_eq_take, h.length]
  exact h.take _
end

/-! ### slots -/
mutual
inductive RS (K : PySem.W.Frag) (H : Hp) : V → Sv → List Addr → Prop
  | val {v : V} {d : Py} : R K H v d → RS K H v (.val d) []
  | lst {a : Addr} {xs : List V} {ds : List Py} : H a = some (.lst xs) → RA K H xs ds → RS K H (.ref a) (.lst ds) [a]
  | dK {a : Addr} {ks : List (Key × V)} {kvs : List (Py × Py)} : H a = some (.dK ks) → RK K H ks kvs → RS K H (.ref a) (.dic kvs) [a]
  | dT {a : Addr} {ks : List (List Key × V)} {kvs : List (Py × Py)} : H a = some (.dT ks) → RT K H ks kvs → RS K H (.ref a) (.dic kvs) [a]
  | ins {a C dx : Addr} {fs : List (Str × V)} {ws : List (Str × Sv)} {fp : List Addr} : H a = some (.ins C dx fs) → RF K H fs ws fp → RS K H (.ref a) (.ins C ws) (a :: fp)
inductive RF (K : PySem.W.Frag) (H : Hp) : List (Str × V) → List (Str × Sv) → List Addr → Prop
  | nil : RF K H [] [] []
  | cons {f : Str} {v : V} {w : Sv} {fp1 fp2 : List Addr} {fs : List (Str × V)} {ws : List (Str × Sv)} : RS K H v w fp1 → RF K H fs ws fp2 → RF K H ((f, v) :: fs) ((f, w) :: ws) (fp1 ++ fp2)
end
mutual
theorem RS.frame {K : PySem.W.Frag} {H H' : Hp} (g : Gr H H') : ∀ {v : V} {w : Sv} {fp : List Addr}, RS K H v w fp → (∀ b ∈ fp, H' b = H b) → RS K H' v w fp
  | _, _, _, .val h, _ => .val (h.mono g)
  | _, _, _, .lst h r, k => .lst ((k _ (by simp)).trans h) (r.mono g)
  | _, _, _, .dK h r, k => .dK ((k _ (by simp)).trans h) (r.mono g)
  | _, _, _, .dT h r, k => .dT ((k _ (by simp)).trans h) (r.mono g)
  | _, _, _, .ins h r, k => .ins ((k _ (by simp)).trans h) (RF.frame g r fun b hb => k b (List.mem_cons_of_mem _ hb))
theorem RF.frame {K : PySem.W.Frag} {H H' : Hp} (g : Gr H H') : ∀ {v : List (Str × V)} {w : List (Str × Sv)} {fp : List Addr}, RF K H v w fp → (∀ b ∈ fp, H' b = H b) → RF K H' v w fp
  | _, _, _, .nil, _ => .nil
  | _, _, _, .cons h r, k => .cons (RS.frame g h fun b hb => k b (List.mem_append_left _ hb)) (RF.frame g r fun b hb => k b (List.mem_append_right _ hb))
end
mutual
theorem RS.own {K : PySem.W.Frag} {H : Hp} : ∀ {v : V} {w : Sv} {fp : List Addr}, RS K H v w fp → ∀ b ∈ fp, Own H b
  | _, _, _, .val _, b, hb => by cases hb
  | _, _, _, .lst h _, b, hb => by
    have e := List.mem_singleton.mp hb
    subst e
    exact ⟨_, h, fun _ => nofun, fun _ _ => nofun⟩
  | _, _, _, .dK h _, b, hb => by
    have e := List.mem_singleton.mp hb
    subst e
    exact ⟨_, h, fun _ => nofun, fun _ _ => nofun⟩
  | _, _, _, .dT h _, b, hb => by
    have e := List.mem_singleton.mp hb
    subst e
    exact ⟨_, h, fun _ => nofun, fun _ _ => nofun⟩
  | _, _, _, .ins h r, b, hb => by
    rcases List.mem_cons.mp hb with e | hb
    · subst e
      exact ⟨_, h, fun _ => nofun, fun _ _ => nofun⟩
    · exact RF.own r b hb
theorem RF.own {K : PySem.W.Frag} {H : Hp} : ∀ {v : List (Str × V)} {w : List (Str × Sv)} {fp : List Addr}, RF K H v w fp → ∀ b ∈ fp, Own H b
  | _, _, _, .nil, b, hb => by cases hb
  | _, _, _, .cons h r, b, hb => by
    rcases List.mem_append.mp hb with hb | hb
    · exact RS.own h b hb
    · exact RF.own r b hb
end
inductive SR (K : PySem.W.Frag) (H : Hp) : L2.St → DS → List Addr → Prop
  | nil : SR K H [] [] []
  | no {o : Option V} {σ : L2.St} {st : DS} {fp : List Addr} : SR K H σ st fp → SR K H (o :: σ) (none :: st) fp
  | yes {v : V} {w : Sv} {σ : L2.St} {st : DS} {fp1 fp2 : List Addr} : RS K H v w fp1 → SR K H σ st fp2 → SR K H (some v :: σ) (some w :: st) (fp1 ++ fp2)
section
variable {K : PySem.W.Frag} {H H' : Hp}
theorem SR.frame (g : Gr H H') : ∀ {σ : L2.St} {st : DS} {fp : List Addr}, SR K H σ st fp → (∀ b ∈ fp, H' b = H b) → SR K H' σ st fp
  | _, _, _, .nil, _ => .nil
  | _, _, _, .no h, k => .no (SR.frame g h k)
  | _, _, _, .yes h r, k => .yes (h.frame g fun b hb => k b (List.mem_append_left _ hb)) (SR.frame g r fun b hb => k b (List.mem_append_right _ hb))
theorem SR.own : ∀ {σ : L2.St} {st : DS} {fp : List Addr}, SR K H σ st fp → ∀ b ∈ fp, Own H b
  | _, _, _, .nil, b, hb => by cases hb
  | _, _, _, .no h, b, hb => SR.own h b hb
  | _, _, _, .yes h r, b, hb => by
    rcases List.mem_append.mp hb with hb | hb
    · exact h.own b hb
    · exact SR.own r b hb
theorem SR.length : ∀ {σ : L2.St} {st : DS} {fp : List Addr}, SR K H σ st fp → σ.length = st.length
  | _, _, _, .nil => rfl
  | _, _, _, .no h => congrArg Nat.succ (SR.length h)
  | _, _, _, .yes _ r => congrArg Nat.succ (SR.length r)
/-- an optional slot's content -/
inductive RO (K : PySem.W.Frag) (H : Hp) : Option V → Option Sv → List Addr → Prop
  | no {o : Option V} : RO K H o none []
  | yes {v : V} {w : Sv} {fp : List Addr} : RS K H v w fp → RO K H (some v) (some w) fp
theorem SR.cons {o : Option V} {ow : Option Sv} {σ : L2.St} {st : DS} {fp1 fp2 : List Addr} (h : RO K H o ow fp1) (r : SR K H σ st fp2) : SR K H (o :: σ) (ow :: st) (fp1 ++ fp2) := by
  cases h with
  | no => exact .no r
  | yes h => exact .yes h r
theorem SR.head {o : Option V} {ow : Option Sv} {σ : L2.St} {st : DS} {fp : List Addr} (h : SR K H (o :: σ) (ow :: st) fp) : ∃ fp1 fp2, fp = fp1 ++ fp2 ∧ RO K H o ow fp1 ∧ SR K H σ st fp2 := by
  cases h with
  | no h => exact ⟨[], _, rfl, .no, h⟩
  | yes h r => exact ⟨_, _, rfl, .yes h, r⟩
/-- one slot and the rest -/
theorem SR.split : ∀ {σ : L2.St} {st : DS} {fp : List Addr} {i : Nat}, SR K H σ st fp → i < st.length →
    ∃ o ow fpi fpr, σ[i]? = some o ∧ st[i]? = some ow ∧ fp.Perm (fpi ++ fpr) ∧ RO K H o ow fpi ∧
      ∀ {H' : Hp} {o' : Option V} {ow' : Option Sv} {fpw : List Addr}, Gr H H' → (∀ b ∈ fpr, H' b = H b) → RO K H' o' ow' fpw → ∃ fp', SR K H' (σ.set i o') (st.set i ow') fp' ∧ fp'.Perm (fpw ++ fpr)
  | [], [], _, i, _, hi => absurd hi (Nat.not_lt_zero _)
  | o :: σ, ow :: st, fp, 0, h, _ => by
    obtain ⟨fp1, fp2, rfl, h1, h2⟩ := h.head
    exact ⟨o, ow, fp1, fp2, rfl, rfl, .refl _, h1, fun g k w => ⟨_, SR.cons w (h2.frame g k), .refl _⟩⟩
  | o :: σ, ow :: st, fp, i + 1, h, hi => by
    obtain ⟨fp1, fp2, rfl, h1, h2⟩ := h.head
    obtain ⟨o', ow', fpi, fpr, e1, e2, p, hr, k⟩ := SR.split (i := i) h2 (Nat.lt_of_succ_lt_succ hi)
    refine ⟨o', ow', fpi, fp1 ++ fpr, by simpa using e1, by simpa using e2, ?_, hr, fun {H'} {p1} {p2} {fpw} g kk w => ?_⟩
    · refine (List.Perm.append_left fp1 p).trans ?_
      rw [← List.append_assoc, ← List.append_assoc]
      exact List.Perm.append_right fpr List.perm_append_comm
    · obtain ⟨fp', q, pm⟩ := k g (fun b hb => kk b (List.mem_append_right _ hb)) w
      have h1' : RO K H' o ow fp1 := by
        cases h1 with
        | no => exact .no
        | yes h1 => exact .yes (h1.frame g fun b hb => kk b (List.mem_append_left _ hb))
      refine ⟨fp1 ++ fp', SR.cons h1' q, (List.Perm.append_left fp1 pm).trans ?_⟩
      rw [← List.append_assoc, ← List.append_assoc]
      exact List.Perm.append_right fpr List.perm_append_comm
end
end DL

/-! ## DL2 -/
namespace DL
open PySem PySem.Spec PyProof.Rows L2

structure Fr where
  H0 : Hp
  fp0 : List Addr
  pin : List (Nat × V)
def Fr.mine (Γ : Fr) (b : Addr) : Prop := Γ.H0 b = none ∨ b ∈ Γ.fp0
structure Rel (K : PySem.W.Frag) (Γ : Fr) (st : DS) (σ : L2.St) (H : Hp) (fx : List Addr) : Prop where
  ex : ∃ fp, SR K H σ st fp ∧ (fx ++ fp).Nodup ∧ ∀ b ∈ fx ++ fp, Γ.mine b
  fxo : ∀ b ∈ fx, Own H b
  same : ∀ b o, Γ.H0 b = some o → b ∉ Γ.fp0 → H b = some o
  pin : ∀ p ∈ Γ.pin, σ[p.1]? = some (some p.2)
theorem Same.gr {H H' : Hp} (s : Same H H') : Gr H H' := ⟨fun _ _ h => s _ _ h, fun _ _ _ h => s _ _ h⟩
theorem Own.same {H H' : Hp} {b : Addr} (s : Same H H') (h : Own H b) : H' b = H b := by
  obtain ⟨o, e, _⟩ := h
  rw [e, s _ _ e]
theorem Own.ext {H H' : Hp} {b : Addr} (e : H' b = H b) (h : Own H b) : Own H' b := by
  obtain ⟨o, q, r⟩ := h
  exact ⟨o, e.trans q, r⟩
theorem Same.new {H : Hp} {p : Addr} {o : HO} (h : H p = none) : Same H (upd H p o) := fun b u q => by
  rw [upd_ne (ne_of_none q h)]; exact q
theorem getset {α : Type} {l : List α} {i : Nat} {a : α} (h : l[i]? = some a) : l.set i a = l := by
  apply List.ext_getElem?
  intro j
  by_cases hj : i = j
  · subst hj
    have := (List.getElem?_eq_some_iff.mp h).1
    rw [List.getElem?_set_self this, h]
  · rw [List.getElem?_set_ne hj]
section
variable {K : PySem.W.Frag} {Γ : Fr} {st : DS} {σ : L2.St} {H H' : Hp} {fx : List Addr}
theorem Rel.ext (r : Rel K Γ st σ H fx) (s : Same H H') : Rel K Γ st σ H' fx := by
  obtain ⟨⟨fp, h, nd, mi⟩, fo, sm, pn⟩ := r
  refine ⟨⟨fp, h.frame (Same.gr s) fun b hb => (h.own b hb).same s, nd, mi⟩, fun b hb => (fo b hb).ext ((fo b hb).same s), fun b o e n => s _ _ (sm b o e n), pn⟩
theorem Rel.mineNew (r : Rel K Γ st σ H fx) {p : Addr} (h : H p = none) : Γ.mine p := by
  by_cases hp : p ∈ Γ.fp0
  · exact .inr hp
  · cases e : Γ.H0 p with
    | none => exact .inl e
    | some o =>
      have := r.same p o e hp
      rw [h] at this; cases this
/-- new objects that a value owns -/
theorem Rel.owned (r : Rel K Γ st σ H []) (s : Same H H') {fw : List Addr} (nd : fw.Nodup) (hn : ∀ b ∈ fw, H b = none) (ho : ∀ b ∈ fw, Own H' b) : Rel K Γ st σ H' fw := by
  have r' := r.ext s
  obtain ⟨⟨fp, h, nd0, mi⟩, fo, sm, pn⟩ := r
  obtain ⟨_, _, sm', pn'⟩ := r'
  refine ⟨⟨fp, h.frame (Same.gr s) fun b hb => (h.own b hb).same s, ?_, ?_⟩, ho, sm', pn'⟩
  · refine List.nodup_append.mpr ⟨nd, by simpa using nd0, fun a ha b hb e => ?_⟩
    subst e
    obtain ⟨o, q, _⟩ := h.own a hb
    rw [hn a ha] at q; cases q
  · intro b hb
    rcases List.mem_append.mp hb with hb | hb
    · exact Rel.mineNew ⟨⟨fp, h, nd0, mi⟩, fo, sm, pn⟩ (hn b hb)
    · exact mi b (by simpa using hb)
theorem Rel.get (r : Rel K Γ st σ H fx) {i : Nat} {w : Sv} (e : st[i]? = some (some w)) : ∃ v fp, σ[i]? = some (some v) ∧ RS K H v w fp := by
  obtain ⟨⟨fp, h, _, _⟩, _, _, _⟩ := r
  obtain ⟨o, ow, fpi, fpr, e1, e2, _, ro, _⟩ := h.split (List.getElem?_eq_some_iff.mp e).1
  rw [e] at e2
  have e3 := Option.some.inj e2
  subst e3
  cases ro with
  | yes q => exact ⟨_, _, e1, q⟩
/-- the content of slot i is changed at its place (or the slot is stored anew) -/
theorem Rel.put (r : Rel K Γ st σ H []) {i : Nat} {w : Sv} (e : st[i]? = some (some w)) : ∃ v fpi, σ[i]? = some (some v) ∧ RS K H v w fpi ∧ fpi.Nodup ∧ (∀ b ∈ fpi, Γ.mine b) ∧
    ∀ {H' : Hp} {w' : Sv} {fw fx : List Addr}, Gr H H' → (∀ b o, b ∉ fpi → H b = some o → H' b = some o) → RS K H' v w' fw → (fx ++ fw).Nodup → (∀ b ∈ fx ++ fw, b ∈ fpi ∨ H b = none) → (∀ b ∈ fx, Own H' b) → Rel K Γ (st.set i (some w')) σ H' fx := by
  have hr := r
  obtain ⟨⟨fp, h, nd, mi⟩, _, sm, pn⟩ := r
  obtain ⟨o, ow, fpi, fpr, e1, e2, pm, ro, k⟩ := h.split (List.getElem?_eq_some_iff.mp e).1
  rw [e] at e2
  have e3 := Option.some.inj e2
  subst e3
  have nd' : (fpi ++ fpr).Nodup := pm.nodup_iff.mp (by simpa using nd)
  have nda := List.nodup_append.mp nd'
  cases ro with
  | @yes v _ _ q =>
    refine ⟨v, fpi, e1, q, nda.1, fun b hb => mi b (by simpa using pm.mem_iff.mpr (List.mem_append_left _ hb)), fun {H' w' fw fx} g fr rs ndw hw hox => ?_⟩
    have ownr : ∀ b ∈ fpr, Own H b := fun b hb => h.own b (pm.mem_iff.mpr (List.mem_append_right _ hb))
    have disj : ∀ b ∈ fpr, b ∉ fpi := fun b hb hb' => nda.2.2 b hb' b hb rfl
    have keep : ∀ b ∈ fpr, H' b = H b := fun b hb => by
      obtain ⟨o, q, _⟩ := ownr b hb
      rw [q, fr b o (disj b hb) q]
    obtain ⟨fp', sr', pm'⟩ := k (H' := H') (o' := some v) (ow' := some w') (fpw := fw) g keep (.yes rs)
    rw [getset e1] at sr'
    have ndf : (fx ++ (fw ++ fpr)).Nodup := by
      rw [← List.append_assoc]
      refine List.nodup_append.mpr ⟨ndw, nda.2.1, fun a ha b hb e => ?_⟩
      subst e
      rcases hw a ha with z | z
      · exact disj a hb z
      · obtain ⟨o, q, _⟩ := ownr a hb
        rw [z] at q; cases q
    refine ⟨⟨fp', sr', (List.Perm.append_left fx pm').nodup_iff.mpr ndf, fun b hb => ?_⟩, hox, fun b o e n => ?_, pn⟩
    · have hb' := (List.Perm.append_left fx pm').mem_iff.mp hb
      rw [← List.append_assoc] at hb'
      rcases List.mem_append.mp hb' with hb | hb
      · rcases hw b hb with z | z
        · exact mi b (by simpa using pm.mem_iff.mpr (List.mem_append_left _ z))
        · exact hr.mineNew z
      · exact mi b (by simpa using pm.mem_iff.mpr (List.mem_append_right _ hb))
    · refine fr b o (fun z => ?_) (sm b o e n)
      rcases mi b (by simpa using pm.mem_iff.mpr (List.mem_append_left _ z)) with m | m
      · rw [m] at e; cases e
      · exact n m
/-- slot i is stored: what it held is let go -/
theorem Rel.set (r : Rel K Γ st σ H fx) {i : Nat} {v : V} {w : Sv} (hi : i < st.length) (rs : RS K H v w fx) (np : ∀ p ∈ Γ.pin, p.1 ≠ i) : Rel K Γ (st.set i (some w)) (σ.set i (some v)) H [] := by
  obtain ⟨⟨fp, h, nd, mi⟩, fo, sm, pn⟩ := r
  obtain ⟨o, ow, fpi, fpr, e1, e2, pm, ro, k⟩ := h.split hi
  obtain ⟨fp', sr', pm'⟩ := k (H' := H) (o' := some v) (ow' := some w) (fpw := fx) (Gr.refl H) (fun _ _ => rfl) (.yes rs)
  have nd1 := List.nodup_append.mp nd
  have nd2 : (fpi ++ fpr).Nodup := pm.nodup_iff.mp nd1.2.1
  have sub : ∀ b ∈ fpr, b ∈ fp := fun b hb => pm.mem_iff.mpr (List.mem_append_right _ hb)
  refine ⟨⟨fp', sr', ?_, ?_⟩, (fun b hb => by cases hb), sm, fun p hp => ?_⟩
  · show fp'.Nodup
    refine pm'.nodup_iff.mpr (List.nodup_append.mpr ⟨nd1.1, (List.nodup_append.mp nd2).2.1, fun a ha b hb e => nd1.2.2 a ha b (sub b hb) e⟩)
  · intro b hb
    have hb' : b ∈ fp' := hb
    rcases List.mem_append.mp (pm'.mem_iff.mp hb') with z | z
    · exact mi b (List.mem_append_left _ z)
    · exact mi b (List.mem_append_right _ (sub b z))
  · rw [List.getElem?_set_ne (Ne.symm (np p hp))]; exact pn p hp
/-- slots are forgotten -/
theorem Rel.gone (r : Rel K Γ st σ H []) {i : Nat} {o' : Option V} (np : ∀ p ∈ Γ.pin, p.1 ≠ i) : Rel K Γ (st.set i none) (σ.set i o') H [] := by
  by_cases hi : i < st.length
  · obtain ⟨⟨fp, h, nd, mi⟩, fo, sm, pn⟩ := r
    obtain ⟨o, ow, fpi, fpr, e1, e2, pm, ro, k⟩ := h.split hi
    obtain ⟨fp', sr', pm'⟩ := k (H' := H) (o' := o') (ow' := none) (fpw := []) (Gr.refl H) (fun _ _ => rfl) .no
    have nd2 : (fpi ++ fpr).Nodup := pm.nodup_iff.mp (by simpa using nd)
    have sub : ∀ b ∈ fpr, b ∈ fp := fun b hb => pm.mem_iff.mpr (List.mem_append_right _ hb)
    refine ⟨⟨fp', sr', ?_, fun b hb => ?_⟩, (fun b hb => by cases hb), sm, fun p hp => ?_⟩
    · show fp'.Nodup
      exact pm'.nodup_iff.mpr (by simpa using (List.nodup_append.mp nd2).2.1)
    · have hb' : b ∈ fp' := hb
      have z := pm'.mem_iff.mp hb'
      exact mi b (by simpa using sub b (by simpa using z))
    · rw [List.getElem?_set_ne (Ne.symm (np p hp))]; exact pn p hp
  · have h1 : st.set i none = st := List.set_eq_of_length_le (by omega)
    have h2 : σ.set i o' = σ := by
      obtain ⟨⟨fp, h, _⟩, _⟩ := r
      exact List.set_eq_of_length_le (by rw [h.length]; omega)
    rw [h1, h2]; exact r
/-- slot i of the model is forgotten, the machine's stays -/
theorem Rel.weak (r : Rel K Γ st σ H []) {i : Nat} (np : ∀ p ∈ Γ.pin, p.1 ≠ i) : Rel K Γ (st.set i none) σ H [] := by
  by_cases hi : i < st.length
  · have hl : i < σ.length := by
      obtain ⟨⟨fp, h, _⟩, _⟩ := r
      rw [h.length]; exact hi
    have := r.gone (i := i) (o' := σ[i]) np
    rw [getset (List.getElem?_eq_getElem hl)] at this
    exact this
  · have h1 : st.set i none = st := List.set_eq_of_length_le (by omega)
    rw [h1]; exact r
end

/-! ### exceptions, results -/
structure Exn where
  name : Str
  arg : Option (Str × Py)
def XR (mg : Str → Option Value) (K : PySem.W.Frag) (x : Exn) (cls : Value) (d : Option Addr) (H : Hp) : Prop :=
  mg x.name = some cls ∧ match x.arg with
    | none => d = none
    | some (f, y) => ∃ dx v, d = some dx ∧ H dx = some (.xd [(f, v)]) ∧ R K H v y
inductive ER (α : Type) where
  | ok (a : α) (st : DS) | ex (x : Exn) (st : DS) | stuck
def ER.bind {α β : Type} (r : ER α) (f : α → DS → ER β) : ER β := match r with
  | .ok a st => f a st
  | .ex x st => .ex x st
  | .stuck => .stuck
@[simp] theorem ER.bind_ok {α β : Type} {a : α} {st : DS} {f : α → DS → ER β} : (ER.ok a st).bind f = f a st := rfl
@[simp] theorem ER.bind_ex {α β : Type} {x : Exn} {st : DS} {f : α → DS → ER β} : (ER.ex x st : ER α).bind f = .ex x st := rfl
@[simp] theorem ER.bind_stuck {α β : Type} {f : α → DS → ER β} : (ER.stuck : ER α).bind f = .stuck := rfl
/-- how a wish about a result reads; G: what is wanted of a value, W: of an exception -/
def fin {α : Type} (X : Cx) (Wx : WX) (Γ : Fr) (σ : L2.St) (H : Hp) (r : ER α) (G : α → DS → Prop) : Prop := match r with
  | .ok a st' => G a st'
  | .ex x st' => ∀ cls d σ' H', Rel X.K Γ st' σ' H' [] → Gr H H' → XR X.mg X.K x cls d H' → Wx cls d σ' H'
  | .stuck => False
theorem fin.imp {α : Type} {X : Cx} {Wx : WX} {Γ : Fr} {σ : L2.St} {H : Hp} {r : ER α} {G G' : α → DS → Prop} (h : fin X Wx Γ σ H r G) (k : ∀ a st, G a st → G' a st) : fin X Wx Γ σ H r G' := by
  cases r with
  | ok a st => exact k a st h
  | ex x st => exact h
  | stuck => exact h
theorem fin.gr {α : Type} {X : Cx} {Wx : WX} {Γ : Fr} {σ σ' : L2.St} {H H' : Hp} {r : ER α} {G : α → DS → Prop} (g : Gr H H') (h : fin X Wx Γ σ H r G) : fin X Wx Γ σ' H' r G := by
  cases r with
  | ok a st => exact h
  | ex x st => exact fun cls d σ1 H1 r1 g1 x1 => h cls d σ1 H1 r1 (g.trans g1) x1
  | stuck => exact h
theorem fin.bind {α β : Type} {X : Cx} {Wx : WX} {Γ : Fr} {σ : L2.St} {H : Hp} {r : ER α} {f : α → DS → ER β} {G : β → DS → Prop} (h : fin X Wx Γ σ H (r.bind f) G) : fin X Wx Γ σ H r fun a st => fin X Wx Γ σ H (f a st) G := by
  cases r with
  | ok a st => exact h
  | ex x st => exact h
  | stuck => exact h
/-- an operand: data, or the object of a slot -/
inductive Ar where
  | v (d : Py) | s (i : Nat)
def ARep (K : PySem.W.Frag) (H : Hp) (σ : L2.St) (v : V) : Ar → Prop
  | .v d => R K H v d
  | .s i => σ[i]? = some (some v)
inductive ARs (K : PySem.W.Frag) (H : Hp) (σ : L2.St) : List V → List Ar → Prop
  | nil : ARs K H σ [] []
  | cons {v : V} {a : Ar} {vs : List V} {as : List Ar} : ARep K H σ v a → ARs K H σ vs as → ARs K H σ (v :: vs) (a :: as)
theorem ARep.mono {K : PySem.W.Frag} {H H' : Hp} {σ : L2.St} {v : V} {a : Ar} (g : Gr H H') (h : ARep K H σ v a) : ARep K H' σ v a := by
  cases a with
  | v d => exact R.mono g h
  | s i => exact h
def lookA (st : DS) : Ar → Option Sv
  | .v d => some (.val d)
  | .s i => (st[i]?).join
theorem join_some {st : DS} {i : Nat} {w : Sv} (h : (st[i]?).join = some w) : st[i]? = some (some w) := by
  cases e : st[i]? with
  | none => rw [e] at h; cases h
  | some o => rw [e] at h; simpa using h
theorem Rel.look {K : PySem.W.Frag} {Γ : Fr} {st : DS} {σ : L2.St} {H : Hp} {v : V} {a : Ar} {w : Sv} (r : Rel K Γ st σ H []) (h : ARep K H σ v a) (e : lookA st a = some w) : ∃ fp, RS K H v w fp := by
  cases a with
  | v d => cases e; exact ⟨[], .val h⟩
  | s i =>
    have h' : σ[i]? = some (some v) := h
    obtain ⟨v', fp, e1, q⟩ := r.get (join_some e)
    rw [h'] at e1
    cases e1
    exact ⟨fp, q⟩

/-! ### the judgements -/
def tE (X : Cx) (Wx : WX) (m : DS → ER Py) : TE := fun σ H Q => ∃ Γ st, Rel X.K Γ st σ H [] ∧ fin X Wx Γ σ H (m st) fun d st' => ∀ v H', Rel X.K Γ st' σ H' [] → Gr H H' → R X.K H' v d → Q v H'
def tX (X : Cx) (Wx : WX) (m : DS → ER Ar) : TE := fun σ H Q => ∃ Γ st, Rel X.K Γ st σ H [] ∧ fin X Wx Γ σ H (m st) fun d st' => ∀ v H', Rel X.K Γ st' σ H' [] → Gr H H' → ARep X.K H' σ v d → Q v H'
def tO (X : Cx) (Wx : WX) (m : DS → ER Sv) : TE := fun σ H Q => ∃ Γ st, Rel X.K Γ st σ H [] ∧ fin X Wx Γ σ H (m st) fun w st' => ∀ v H' fw, Rel X.K Γ st' σ H' fw → Gr H H' → RS X.K H' v w fw → Q v H'
def tT (X : Cx) (Wx : WX) (m : DS → ER Bool) : TT := fun σ H Q => ∃ Γ st, Rel X.K Γ st σ H [] ∧ fin X Wx Γ σ H (m st) fun b st' => ∀ H', Rel X.K Γ st' σ H' [] → Gr H H' → Q b H'
def tAs (X : Cx) (Wx : WX) (n : Nat) (m : DS → ER (List Ar)) : TA := fun σ H Q => ∃ Γ st, Rel X.K Γ st σ H [] ∧ fin X Wx Γ σ H (m st) fun rs st' => ∀ vs H', Rel X.K Γ st' σ H' [] → Gr H H' → ARs X.K H' σ vs rs → vs.length = n → Q vs H'
/-- the value is data -/
structure DE (X : Cx) (e : Expr) (m : DS → ER Py) : Prop where
  pe : ∀ Wx, Takes X Wx → PE X e (tE X Wx m)
/-- .. data or the object of a slot -/
structure DX (X : Cx) (e : Expr) (m : DS → ER Ar) : Prop where
  pe : ∀ Wx, Takes X Wx → PE X e (tX X Wx m)
/-- .. data or a new object -/
structure DO (X : Cx) (e : Expr) (m : DS → ER Sv) : Prop where
  pe : ∀ Wx, Takes X Wx → PE X e (tO X Wx m)
structure DT (X : Cx) (e : Expr) (m : DS → ER Bool) : Prop where
  pt : ∀ Wx, Takes X Wx → PT X e (tT X Wx m)
structure DW (X : Cx) (e : Expr) (m : DS → ER Bool) : Prop where
  pw : ∀ Wx, Takes X Wx → PW X e (tT X Wx m)
structure DA (X : Cx) (es : List Expr) (m : DS → ER (List Ar)) : Prop where
  pa : ∀ Wx, Takes X Wx → PA X es (tAs X Wx es.length m)
theorem pe_imp {X : Cx} {e : Expr} {t t' : TE} (h : PE X e t) (k : ∀ σ H Q, t' σ H Q → t σ H Q) : PE X e t' := ⟨fun pins s σ H Q I q => h.run pins s σ H Q I (k _ _ _ q)⟩
theorem pt_imp {X : Cx} {e : Expr} {t t' : TT} (h : PT X e t) (k : ∀ σ H Q, t' σ H Q → t σ H Q) : PT X e t' := ⟨fun pins s σ H Q I q => h.run pins s σ H Q I (k _ _ _ q)⟩
theorem pw_imp {X : Cx} {e : Expr} {t t' : TT} (h : PW X e t) (k : ∀ σ H Q, t' σ H Q → t σ H Q) : PW X e t' := ⟨fun wh pins s σ H Q I q => h.run wh pins s σ H Q I (k _ _ _ q)⟩
theorem pa_imp {X : Cx} {e : List Expr} {t t' : TA} (h : PA X e t) (k : ∀ σ H Q, t' σ H Q → t σ H Q) : PA X e t' := ⟨fun p pins s σ H Q I q => h.run p pins s σ H Q I (k _ _ _ q)⟩

/-! ### locking -/
def lockable : HO → Prop
  | .lst _ => True
  | .dK _ => True
  | .dT _ => True
  | _ => False
theorem inv_frz {X : Cx} {pins : List (Addr × Obj)} {σ : L2.St} {H : Hp} {s : Shared} {a : Addr} {u : HO} (I : Inv X pins σ H s) (h : H a = some u) (l : lockable u) : ∃ o, Inv X pins σ (upd H a (.frz o u)) s := by
  obtain ⟨o, ho⟩ : ∃ o, s.heap.get? a = some o := by
    have k := I.hok a u h
    cases u with
    | lst xs => obtain ⟨_, _, _, _, e⟩ := k; exact ⟨_, e⟩
    | dK xs => obtain ⟨_, _, _, _, o, _, _, e, _⟩ := k; exact ⟨_, e⟩
    | dT xs => obtain ⟨_, _, _, _, o, _, _, e, _⟩ := k; exact ⟨_, e⟩
    | _ => exact absurd l id
  have na : ∀ b xs, H b = some (.tup xs) → b ≠ a := fun b xs e z => by subst z; rw [h] at e; cases e; exact l
  have no : ∀ b y, H b = some (.own y) → b ≠ a := fun b y e z => by subst z; rw [h] at e; cases e; exact l
  have nf : ∀ b y z, H b = some (.frz y z) → b ≠ a := fun b y z e q => by subst q; rw [h] at e; cases e; exact l
  have nt : ∀ b y, H b = some (.tbl y) → b ≠ a := fun b y e q => by subst q; rw [h] at e; cases e; exact l
  have okA : ∀ b v, H b = some v → ObjOk X.prog X.w (upd H a (.frz o u)) s.heap b v := fun b v e =>
    (I.hok b v e).stay (fun c w _ q => q) (fun c q => by rw [upd_ne (no c b q)]; exact q) (fun c xs q => by rw [upd_ne (na c xs q)]; exact q)
  have hok : HOk X.prog X.w (upd H a (.frz o u)) s.heap := fun b v e => by
    by_cases hb : b = a
    · subst hb
      rw [upd_same] at e
      cases e
      exact ⟨ho, okA b u h⟩
    · rw [upd_ne hb] at e
      exact okA b v e
  refine ⟨o, ?_⟩
  have U : Un X.fs [] H (upd H a (.frz o u)) s.heap s.heap := by
    refine ⟨fun b v e n _ _ => e, fun b v e n _ _ => ⟨v.slots, e⟩, fun b v e n _ => ?_, fun b v e _ => ⟨v, e⟩, fun b xs e => ?_, fun b y z e => ?_, fun b ps e => ⟨#[], ?_⟩⟩
    · rw [upd_ne (fun z => by subst z; rw [h] at n; cases n)]; exact n
    · rw [upd_ne (na b xs e)]; exact e
    · rw [upd_ne (nf b y z e)]; exact e
    · rw [upd_ne (nt b ps e), e]; simp
  have := I.un (t' := s.toks) U hok
  exact this
/-- an expression whose value may be locked -/
def tFrz (t : TE) : TE := fun σ H Q => t σ H fun v H1 => Q v H1 ∨ ∃ a u, v = .ref a ∧ H1 a = some u ∧ lockable u ∧ ∀ o, Q v (upd H1 a (.frz o u))
theorem pe_frz {X : Cx} {e : Expr} {t : TE} (h : PE X e t) : PE X e (tFrz t) := by
  refine ⟨fun pins s σ H Q I q => ?_⟩
  refine thn (h.run pins s σ H _ I q) fun u s1 ⟨v, H1, I1, r1, q1⟩ => ?_
  rcases q1 with q1 | ⟨a, w, rfl, ha, l, q1⟩
  · exact ⟨v, H1, I1, r1, q1⟩
  · obtain ⟨o, I2⟩ := inv_frz I1 ha l
    exact ⟨_, _, I2, r1, q1 o⟩
def frzS : Sv → Option Py
  | .val d => some d
  | .lst ds => some (.lst ds)
  | .dic kvs => some (.dic kvs)
  | .ins _ _ => none
def optE {α : Type} (o : Option α) (st : DS) : ER α := match o with
  | some a => .ok a st
  | none => .stuck
@[simp] theorem optE_some {α : Type} {a : α} {st : DS} : optE (some a) st = .ok a st := rfl
@[simp] theorem optE_none {α : Type} {st : DS} : optE (none : Option α) st = .stuck := rfl
theorem fin_opt {α : Type} {X : Cx} {Wx : WX} {Γ : Fr} {σ : L2.St} {H : Hp} {o : Option α} {st : DS} {G : α → DS → Prop} (h : fin X Wx Γ σ H (optE o st) G) : ∃ a, o = some a ∧ G a st := by
  cases o with
  | none => exact absurd h id
  | some a => exact ⟨a, rfl, h⟩
theorem Rel.lock {K : PySem.W.Frag} {Γ : Fr} {st : DS} {σ : L2.St} {H : Hp} {fw : List Addr} {a : Addr} {o : Obj} {u : HO} (r : Rel K Γ st σ H fw) (ha : a ∈ fw) : Rel K Γ st σ (upd H a (.frz o u)) [] := by
  obtain ⟨⟨fp, h, nd, mi⟩, fo, sm, pn⟩ := r
  have ndp := List.nodup_append.mp nd
  refine ⟨⟨fp, h.frame (Gr.own (fo a ha)) fun b hb => upd_ne fun z => ndp.2.2 a ha b hb z.symm, by simpa using ndp.2.1, fun b hb => mi b (List.mem_append_right _ (by simpa using hb))⟩, (fun b hb => by cases hb), fun b v e n => ?_, pn⟩
  rw [upd_ne]
  · exact sm b v e n
  · rintro rfl
    rcases mi b (List.mem_append_left _ ha) with m | m
    · rw [m] at e; cases e
    · exact n m
/-- an object that is new, taken as data: it is locked -/
theorem DO.frz {X : Cx} {e : Expr} {m : DS → ER Sv} (h : DO X e m) : DE X e fun st => (m st).bind fun w st' => optE (frzS w) st' := by
  refine ⟨fun Wx tk => pe_imp (pe_frz (h.pe Wx tk)) fun σ H Q ⟨Γ, st, r, q⟩ => ⟨Γ, st, r, ?_⟩⟩
  refine fin.imp (fin.bind q) fun w st' q1 v H' fw r1 g1 rs => ?_
  obtain ⟨d, e1, q1⟩ := fin_opt q1
  cases rs with
  | val rv => cases e1; exact .inl (q1 v H' r1 g1 rv)
  | @lst a xs ds ha ra =>
    cases e1
    refine .inr ⟨_, _, rfl, ha, trivial, fun o => ?_⟩
    have g2 : Gr H' (upd H' a (.frz o (.lst xs))) := Gr.own (r1.fxo _ List.mem_cons_self)
    exact q1 _ _ (r1.lock (o := o) (u := _) List.mem_cons_self) (g1.trans g2) (.lst (.inl ⟨o, upd_same⟩) (ra.mono g2))
  | @dK a xs ds ha ra =>
    cases e1
    refine .inr ⟨_, _, rfl, ha, trivial, fun o => ?_⟩
    have g2 : Gr H' (upd H' a (.frz o (.dK xs))) := Gr.own (r1.fxo _ List.mem_cons_self)
    exact q1 _ _ (r1.lock (o := o) (u := _) List.mem_cons_self) (g1.trans g2) (.dicK upd_same (ra.mono g2))
  | @dT a xs ds ha ra =>
    cases e1
    refine .inr ⟨_, _, rfl, ha, trivial, fun o => ?_⟩
    have g2 : Gr H' (upd H' a (.frz o (.dT xs))) := Gr.own (r1.fxo _ List.mem_cons_self)
    exact q1 _ _ (r1.lock (o := o) (u := _) List.mem_cons_self) (g1.trans g2) (.dicT upd_same (ra.mono g2))
  | ins ha ra => cases e1
/-- data as a value of any kind -/
theorem DE.val {X : Cx} {e : Expr} {m : DS → ER Py} (h : DE X e m) : DO X e fun st => (m st).bind fun d st' => .ok (.val d) st' := by
  refine ⟨fun Wx tk => pe_imp (h.pe Wx tk) fun σ H Q ⟨Γ, st, r, q⟩ => ⟨Γ, st, r, ?_⟩⟩
  exact fin.imp (fin.bind q) fun d st' q1 v H' r1 g1 rv => q1 v H' [] r1 g1 (.val rv)
theorem DE.x {X : Cx} {e : Expr} {m : DS → ER Py} (h : DE X e m) : DX X e fun st => (m st).bind fun d st' => .ok (.v d) st' := by
  refine ⟨fun Wx tk => pe_imp (h.pe Wx tk) fun σ H Q ⟨Γ, st, r, q⟩ => ⟨Γ, st, r, ?_⟩⟩
  exact fin.imp (fin.bind q) fun d st' q1 v H' r1 g1 rv => q1 v H' r1 g1 rv
end DL

/-! ## DL3 -/
namespace DL
open PySem PySem.Spec PyProof.Rows L2 HT

/-! ### t[::-1] of a tuple -/
theorem cut_rev {prog : Program} {w : World} {A : Around} {s : Shared} {sl : Addr} {vl vu vs : Value} {n : Nat} {E : Value → Shared → Prop} {Q : Int × Int × Nat → Shared → Prop} (hs : s.heap.IsSliceOf sl vl vu vs) (pl : IsPart vl none) (pu : IsPart vu none) (ps : IsPart vs (some (-1)))
    (h : Q ((n : Int) - 1, -1, n) s) : wpAny (model prog w) A (Builtin.Slice.sliceApplied (.ref sl) (pure (n : Int))) Q E s := by
  obtain ⟨os, hos, hcs, hds⟩ := id hs
  unfold Builtin.Slice.sliceApplied Builtin.Slice.sliceFields
  refine wpAny_bind (wpAny_bind (wpAny_field hos hds (x := vl) rfl (wpAny_bind (wpAny_field hos hds (x := vu) rfl (wpAny_bind (wpAny_field hos hds (x := vs) rfl (wpAny_pure ?_)))))))
  refine wpAny_bind (HT.slicePart_ ps ?_)
  show wpAny _ _ (if ((-1 : Int) == 0) = true then _ else _) _ _ s
  rw [if_neg (by decide)]
  refine wpAny_bind (HT.slicePart_ pl (wpAny_bind (HT.slicePart_ pu (wpAny_bind (wpAny_pure ?_)))))
  show wpAny _ _ (pure (((n : Int) - 1), (-1 : Int), Builtin.Slice.slicePlaces ((n : Int) - 1) (-1) (-1))) _ _ s
  have e : Builtin.Slice.slicePlaces ((n : Int) - 1) (-1) (-1) = n := by
    unfold Builtin.Slice.slicePlaces
    have h1 : ¬ ((-1 : Int) > 0) := by omega
    simp only [h1, if_false]
    split
    · simp only [Int.neg_neg, Int.ediv_one]; omega
    · simp; omega
  rw [e]
  exact wpAny_pure h
theorem fm_map {α β : Type} {f : α → Option β} {g : α → β} : ∀ {l : List α}, (∀ x ∈ l, f x = some (g x)) → l.filterMap f = l.map g
  | [], _ => rfl
  | a :: l, h => by
    rw [List.filterMap_cons, h a List.mem_cons_self, List.map_cons, fm_map fun x hx => h x (List.mem_cons_of_mem _ hx)]
theorem pick_rev (xs : Array Value) : ((List.range xs.size).filterMap fun (m : Nat) => xs[(((xs.size : Int) - 1) + (m : Int) * -1).toNat]?).toArray = xs.toList.reverse.toArray := by
  congr 1
  apply List.ext_getElem?
  intro j
  have e : ((List.range xs.size).filterMap fun (m : Nat) => xs[(((xs.size : Int) - 1) + (m : Int) * -1).toNat]?) = (List.range xs.size).map fun m => xs[xs.size - 1 - m]! := by
    apply fm_map
    intro m hm
    have hm' := List.mem_range.mp hm
    have q : (((xs.size : Int) - 1) + (m : Int) * -1).toNat = xs.size - 1 - m := by omega
    rw [q]
    have hlt : xs.size - 1 - m < xs.size := by omega
    simp [hlt]
  rw [e]
  by_cases hj : j < xs.size
  · rw [List.getElem?_map, List.getElem?_range hj, List.getElem?_reverse (by simpa using hj)]
    have hlt : xs.size - 1 - j < xs.size := by omega
    simp [hlt]
  · rw [List.getElem?_eq_none (by simpa using hj), List.getElem?_eq_none (by simpa using hj)]
theorem getItem_tuple_rev {X : Cx} {s : Shared} {t sl : Addr} {items : Array Value} {vl vu vs : Value} {E : Value → Shared → Prop} {Q : Value → Shared → Prop} (ht : IsTup s.heap t items) (hs : s.heap.IsSliceOf sl vl vu vs) (pl : IsPart vl none) (pu : IsPart vu none)
    (ps : IsPart vs (some (-1))) (h : Q (.ref s.heap.objs.size) { s with heap := s.heap.push { cls := .type "tuple", data := .seq items.toList.reverse.toArray } })
    (hsz : items.size ≤ sizeLine) : wpAny (model X.prog X.w) X.A (getItem (.ref t) (.ref sl)) Q E s := by
  have htake : sizeOk (.seq items.toList.reverse.toArray) := by
    show items.toList.reverse.toArray.size ≤ sizeLine
    rw [List.size_toArray, List.length_reverse, Array.length_toList]
    exact hsz
  obtain ⟨os, hos, hcs, hds⟩ := id hs
  have hTs : s.TypeIs (.ref sl) "slice" := ⟨os, hos, hcs⟩
  unfold getItem
  try with_reducible refine wpAny_holding ?_
  first | refine wpAny_bind (wpAny_pure ?_) | skip
  refine wpAny_bind (wpAny_sequenceKey ht.typeIs (by decide) ?_)
  refine wpAny_bind (wpAny_callSpecial?_slot (name := Str.ofString "__getitem__") ht.typeIs PyProof.Rows.slot_tuple_getitem
    (wpAny_call_entry PyProof.Rows.slot_tuple_getitem ht.typeIs entry_tuple_getitem ?_ (args_tuple_getitem _ _)))
  show wpAny _ _ (Builtin.Tuple.tupleItemsOf (.ref t) >>= _) _ _ s
  refine wpAny_bind (tupleItemsOf_ ht ?_)
  refine wpAny_bind (wpAny_typeOf hTs ?_)
  rw [if_pos (by decide)]
  refine wpAny_bind (cut_rev (n := items.size) hs pl pu ps ?_)
  show wpAny _ _ (if ((((items.size : Nat) : Int) - 1) == 0 && (-1 : Int) == 1 && items.size == items.size) = true then _ else _) _ _ s
  rw [if_neg (by rw [show ((-1 : Int) == 1) = false from rfl, Bool.and_false, Bool.false_and]; exact Bool.false_ne_true), pick_rev]
  first
    | exact wpAny_bind (m := Builtin.Tuple.tupleExact _) (wpAny_newObj_type (wpAny_pure ⟨_, rfl, wpAny_pure h⟩) htake)
    | exact wpAny_bind (m := Builtin.Tuple.tupleExact _) (wpAny_newObj_type (wpAny_bind (wpAny_pure (wpAny_pure ⟨_, rfl, wpAny_pure h⟩))) htake)
    | exact wpAny_bind (wpAny_bind (m := Builtin.Tuple.tupleExact _) (wpAny_newObj_type (wpAny_pure (wpAny_pure ⟨_, rfl, wpAny_pure h⟩)) htake))
    | exact wpAny_bind (wpAny_bind (m := Builtin.Tuple.tupleExact _) (wpAny_newObj_type (wpAny_pure ⟨_, rfl, wpAny_pure h⟩) htake))
def tRevA (K : PySem.W.Frag) (te : TE) : TE := fun σ H Q => te σ H fun x H1 => ∃ a xs, x = .ref a ∧ ((SqL K H1 a xs ∧ ∀ p, H1 p = none → Q (.ref p) (upd H1 p (.lst xs.reverse))) ∨ (SqT K H1 a xs ∧ ∀ p, H1 p = none → Q (.ref p) (upd H1 p (.tup xs.reverse))))
theorem pe_revA {X : Cx} {e : Expr} {te : TE} {k : Nat} {p1 p2 p3 pos : Pos} (he : PE X e te) : PE X (.Subscript e (.Slice none none (some (.UnaryOp .USub (.Constant (.int 1) k p1) p2)) p3) pos) (tRevA X.K te) := by
  refine ⟨fun pins s σ H Q I h => ?_⟩
  refine Subscript_ (thn (he.run pins s σ H _ I h) fun v s1 ⟨x, H1, I1, r1, q1⟩ => ?_)
  obtain ⟨a, xs, ex, hx⟩ := q1
  subst ex
  cases r1
  have hst : PO X (some (.UnaryOp .USub (.Constant (.int 1) k p1) p2)) (tPart (tUn (rU fun i => .int (-i)) (tC (.int 1)))) := po_some (pe_un un_neg pe_int)
  refine wpAny_Slice (thn (po_none.run pins s1 σ H1 (fun o H2 => o = none ∧ H2 = H1) I1 ⟨rfl, rfl⟩) fun vl s2 ⟨l, H2, I2, pl, el, e2⟩ => ?_)
  subst el e2
  refine thn (po_none.run pins s2 σ H2 (fun o H3 => o = none ∧ H3 = H2) I2 ⟨rfl, rfl⟩) fun vu s3 ⟨u, H3, I3, pu, eu, e3⟩ => ?_
  subst eu e3
  refine thn (hst.run pins s3 σ H3 (fun o H4 => o = some (-1) ∧ H4 = H3) I3 ⟨1, rfl, -1, rfl, rfl, rfl⟩) fun vs s4 ⟨o, H4, I4, ps, eo, e4⟩ => ?_
  subst eo e4
  have I5 : Inv X pins σ H4 { s4 with heap := s4.heap.push { cls := .type "slice", data := .fields #[vl, vu, vs] } } := I4.kept (t' := s4.toks) fun b ob q => Heap.get?_push_of_some _ q
  rcases hx with ⟨hx, q⟩ | ⟨hx, q⟩
  · obtain ⟨its, r, ht, hz⟩ := I5.list hx
    have hlen := r.length
    show wpAny (model X.prog X.w) X.A (subscriptTail e (.Slice none none (some (.UnaryOp .USub (.Constant (.int 1) k p1) p2)) p3) (.ref a) (.ref s4.heap.objs.size)) (EP X pins σ Q) X.xe { s4 with heap := s4.heap.push { cls := .type "slice", data := .fields #[vl, vu, vs] } }
    refine tail_any (ops := [.ref a, .ref s4.heap.objs.size]) ht.isList.typeIs (PySem.slot_list_getitem.lookup) ?_ (by with_unfolding_all rfl)
    refine wpAny_getItem_list_slice ht.isList (Heap.IsSliceOf.new _ vl vu vs) pl pu ps (by decide) ?_ (by rw [List.size_toArray]; omega)
    rw [PySem.W.krv_pick]
    refine ⟨.ref _, _, I5.laid (t' := s4.toks) (o := .lst xs.reverse) (fun b ob q => Heap.get?_push_of_some _ q) (Nat.le_refl _) ?_, rfl, q _ (I5.hok.fresh (Nat.le_refl _))⟩
    exact ⟨by rw [List.length_reverse]; exact hz, _, 0, r.reverse, Heap.get?_push_size _ rfl⟩
  · obtain ⟨its, r, ht, hz⟩ := I5.tuple hx
    have hlen := r.length
    show wpAny (model X.prog X.w) X.A (subscriptTail e (.Slice none none (some (.UnaryOp .USub (.Constant (.int 1) k p1) p2)) p3) (.ref a) (.ref s4.heap.objs.size)) (EP X pins σ Q) X.xe { s4 with heap := s4.heap.push { cls := .type "slice", data := .fields #[vl, vu, vs] } }
    refine tail_any (ops := [.ref a, .ref s4.heap.objs.size]) ht.typeIs (PyProof.Rows.slot_tuple_getitem.lookup) ?_ (by with_unfolding_all rfl)
    refine getItem_tuple_rev ht (Heap.IsSliceOf.new _ vl vu vs) pl pu ps ?_ (by rw [List.size_toArray]; omega)
    refine ⟨.ref _, _, I5.laid (t' := s4.toks) (o := .tup xs.reverse) (fun b ob q => Heap.get?_push_of_some _ q) (Nat.le_refl _) ?_, rfl, q _ (I5.hok.fresh (Nat.le_refl _))⟩
    exact ⟨by rw [List.length_reverse]; exact hz, _, r.reverse, IsTup.new _ _⟩

/-! ### xs.extend(ys), ys any list or tuple -/
section
open PySem.AutoSeq1
set_option maxRecDepth 8000 in
theorem ext_tup (l : Addr) (items : Array Value) (n : Nat) (b : Addr) (items2 : Array Value) (n2 : Nat) (dd : Option Addr) (sl : Array (Option Value)) (hs0 : ¬(!items.isEmpty && Builtin.List.listTooLong (items.size + items2.size)) = true) (hs1 : items.size ≤ sizeLine) (hs2 : items.size + items2.size ≤ sizeLine + 1) :
    Meets (Builtin.«list.extend» ⟨[.ref l, .ref b], []⟩) (fun _ R s => s.heap.get? l = some { cls := .type "list", dict := none, data := .seq items n, slots := #[] } ∧ s.heap.get? b = some { cls := .type "tuple", dict := dd, data := .seq items2 n2, slots := sl } ∧ R (.ok (.ret Value.none)) { s with heap := s.heap.update l (Obj.mapSeq fun x => x ++ items2), toks := s.toks }) :=
  .of_wp fun prog w A R s h => by
    obtain ⟨hp, g, d, tk, os⟩ := s; obtain ⟨hl, hb, h⟩ := h; have f1 := idx_int; have f2 := AutoSeq1.sub_tuple_tuple; have f3 := AutoSeq1.sub_list_list; have f4 := AutoSeq1.sub_tuple_list; have f5 := AutoSeq1.sub_list_tuple;
    have hz' : (items ++ items2).size ≤ sizeLine + 1 := by rw [Array.size_append]; exact hs2
    wp_walk using (wpAny_updateSeq hl rfl (hz := hs1) (_hz' := hz')), wpAny_loadPart' hl, wpAny_loadPart' hb; exact ⟨_, rfl, h⟩
set_option maxRecDepth 8000 in
theorem ext_lst (l : Addr) (items : Array Value) (n : Nat) (b : Addr) (items2 : Array Value) (n2 : Nat) (dd : Option Addr) (sl : Array (Option Value)) (hs0 : ¬(!items.isEmpty && Builtin.List.listTooLong (items.size + items2.size)) = true) (hs1 : items.size ≤ sizeLine) (hs2 : items.size + items2.size ≤ sizeLine + 1) :
    Meets (Builtin.«list.extend» ⟨[.ref l, .ref b], []⟩) (fun _ R s => s.heap.get? l = some { cls := .type "list", dict := none, data := .seq items n, slots := #[] } ∧ s.heap.get? b = some { cls := .type "list", dict := dd, data := .seq items2 n2, slots := sl } ∧ R (.ok (.ret Value.none)) { s with heap := s.heap.update l (Obj.mapSeq fun x => x ++ items2), toks := s.toks }) :=
  .of_wp fun prog w A R s h => by
    obtain ⟨hp, g, d, tk, os⟩ := s; obtain ⟨hl, hb, h⟩ := h; have f1 := idx_int; have f2 := AutoSeq1.sub_tuple_tuple; have f3 := AutoSeq1.sub_list_list; have f4 := AutoSeq1.sub_tuple_list; have f5 := AutoSeq1.sub_list_tuple;
    have hz' : (items ++ items2).size ≤ sizeLine + 1 := by rw [Array.size_append]; exact hs2
    wp_walk using (wpAny_updateSeq hl rfl (hz := hs1) (_hz' := hz')), wpAny_loadPart' hl, wpAny_loadPart' hb; exact ⟨_, rfl, h⟩
end
def rExtA (K : PySem.W.Frag) : V → List V → Hp → VK → Prop := fun x vs H Q => ∃ l b xs zs, x = .ref l ∧ vs = [.ref b] ∧ H l = some (.lst xs) ∧ (SqL K H b zs ∨ SqT K H b zs) ∧ xs.length + zs.length ≤ sizeLine ∧ Q .non (upd H l (.lst (xs ++ zs)))
theorem mt_extA {X : Cx} : MtM X "list.extend" (rExtA X.K) := by
  intro pins s σ H x vs v us Q I rx rv h
  obtain ⟨l, b, xs, zs, rfl, rfl, hH, hB, hz, q⟩ := h
  cases rx
  obtain ⟨u, rfl, ru⟩ := rv.one
  cases ru
  obtain ⟨z, its, n, r, hl, e⟩ := I.lstM hH
  rcases hB with hB | hB
  · obtain ⟨its2, r2, ⟨⟨oc, od, dt, sl⟩, n2, e2, hc, hd, hs⟩, _⟩ := I.list hB
    simp only at hc hd hs
    subst hc hd hs
    have hl2 := r2.length
    have hsz : its.toArray.size + its2.toArray.size ≤ sizeLine := by rw [List.size_toArray, List.size_toArray]; omega
    have hlong : ¬ (!its.toArray.isEmpty && Builtin.List.listTooLong (its.toArray.size + its2.toArray.size)) = true := by
      rw [notLongL hsz, Bool.and_false]
      exact Bool.false_ne_true
    refine call_meets F.slot_list_extend ⟨_, e, rfl⟩ F.entry_list_extend (F.args_list_extend_2 _ _)
      (ext_lst l its.toArray n b its2.toArray n2 _ _ hlong (by rw [List.size_toArray]; omega) (by omega)) ⟨e, e2, ?_⟩
    refine ⟨.non, _, I.lset (its' := its ++ its2) hH e (by simp) (r.append r2) ?_, rfl, q⟩
    rw [List.length_append]
    omega
  · obtain ⟨its2, r2, ⟨⟨oc, od, dt, sl⟩, e2, hc, n2, hs⟩, _⟩ := I.tuple hB
    simp only at hc hs
    subst hc hs
    have hl2 := r2.length
    have hsz : its.toArray.size + its2.toArray.size ≤ sizeLine := by rw [List.size_toArray, List.size_toArray]; omega
    have hlong : ¬ (!its.toArray.isEmpty && Builtin.List.listTooLong (its.toArray.size + its2.toArray.size)) = true := by
      rw [notLongL hsz, Bool.and_false]
      exact Bool.false_ne_true
    refine call_meets F.slot_list_extend ⟨_, e, rfl⟩ F.entry_list_extend (F.args_list_extend_2 _ _)
      (ext_tup l its.toArray n b its2.toArray n2 _ _ hlong (by rw [List.size_toArray]; omega) (by omega)) ⟨e, e2, ?_⟩
    refine ⟨.non, _, I.lset (its' := its ++ its2) hH e (by simp) (r.append r2) ?_, rfl, q⟩
    rw [List.length_append]
    omega
end DL

/-! ## DL4 -/
namespace DL
open PySem PySem.Spec PyProof.Rows L2

/-! ### moving a slot's object in and out -/
theorem Own.of_nodup_ne {H : Hp} {a b : Addr} (h : Own H a) (n : H b = none) : a ≠ b := by
  rintro rfl
  obtain ⟨o, e, _⟩ := h
  rw [n] at e; cases e
section
variable {K : PySem.W.Frag} {Γ : Fr} {st : DS} {σ : L2.St} {H H' : Hp} {fx : List Addr}
theorem Rel.perm {fy : List Addr} (r : Rel K Γ st σ H fx) (p : fx.Perm fy) : Rel K Γ st σ H fy := by
  obtain ⟨⟨fp, h, nd, mi⟩, fo, sm, pn⟩ := r
  exact ⟨⟨fp, h, (List.Perm.append_right fp p).nodup_iff.mp nd, fun b hb => mi b ((List.Perm.append_right fp p).mem_iff.mpr hb)⟩, fun b hb => fo b (p.mem_iff.mpr hb), sm, pn⟩
theorem Rel.pull {i : Nat} {w : Sv} (r : Rel K Γ st σ H fx) (e : st[i]? = some (some w)) : ∃ v fpi, σ[i]? = some (some v) ∧ RS K H v w fpi ∧ Rel K Γ (st.set i none) σ H (fpi ++ fx) := by
  obtain ⟨⟨fp, h, nd, mi⟩, fo, sm, pn⟩ := r
  obtain ⟨o, ow, fpi, fpr, e1, e2, pm, ro, k⟩ := h.split (List.getElem?_eq_some_iff.mp e).1
  rw [e] at e2
  have e3 := Option.some.inj e2
  subst e3
  cases ro with
  | @yes v _ _ q =>
    obtain ⟨fp', sr', pm'⟩ := k (H' := H) (o' := some v) (ow' := none) (fpw := []) (Gr.refl H) (fun _ _ => rfl) .no
    rw [getset e1] at sr'
    have pp : (fx ++ fp).Perm (fpi ++ fx ++ fp') := by
      refine (List.Perm.append_left fx pm).trans ?_
      rw [← List.append_assoc]
      exact List.Perm.append List.perm_append_comm (by simpa using pm'.symm)
    refine ⟨v, fpi, e1, q, ⟨fp', sr', pp.nodup_iff.mp nd, fun b hb => mi b (pp.mem_iff.mpr hb)⟩, fun b hb => ?_, sm, pn⟩
    rcases List.mem_append.mp hb with hb | hb
    · exact q.own b hb
    · exact fo b hb
theorem Rel.push {i : Nat} {v : V} {w : Sv} {fo : List Addr} (r : Rel K Γ st σ H (fo ++ fx)) (e : σ[i]? = some (some v)) (q : RS K H v w fo) : Rel K Γ (st.set i (some w)) σ H fx := by
  obtain ⟨⟨fp, h, nd, mi⟩, fw, sm, pn⟩ := r
  have hi : i < st.length := by rw [← h.length]; exact (List.getElem?_eq_some_iff.mp e).1
  obtain ⟨o, ow, fpi, fpr, e1, e2, pm, ro, k⟩ := h.split hi
  obtain ⟨fp', sr', pm'⟩ := k (H' := H) (o' := some v) (ow' := some w) (fpw := fo) (Gr.refl H) (fun _ _ => rfl) (.yes q)
  rw [getset e] at sr'
  have pp : (fo ++ fx ++ fp).Perm (fpi ++ (fx ++ fp')) := by
    refine (List.Perm.append_left (fo ++ fx) pm).trans ?_
    have p1 : (fo ++ fx ++ (fpi ++ fpr)).Perm (fpi ++ (fo ++ fx) ++ fpr) := by
      rw [← List.append_assoc]
      exact List.Perm.append_right fpr List.perm_append_comm
    refine p1.trans ?_
    rw [List.append_assoc]
    refine List.Perm.append_left fpi ?_
    have p2 : (fo ++ fx ++ fpr).Perm (fx ++ fo ++ fpr) := List.Perm.append_right fpr List.perm_append_comm
    refine p2.trans ?_
    rw [List.append_assoc]
    exact List.Perm.append_left fx pm'.symm
  have nd' := (List.nodup_append.mp (pp.nodup_iff.mp nd)).2.1
  refine ⟨⟨fp', sr', nd', fun b hb => mi b (pp.mem_iff.mpr (List.mem_append_right _ hb))⟩, fun b hb => fw b (List.mem_append_right _ hb), sm, pn⟩
theorem Rel.forget {i : Nat} (r : Rel K Γ st σ H fx) : Rel K Γ (st.set i none) σ H fx := by
  cases e : st[i]? with
  | none => 
    have h1 : st.set i none = st := List.set_eq_of_length_le (by simpa using e)
    rw [h1]; exact r
  | some ow =>
    cases ow with
    | none => rw [getset e]; exact r
    | some w =>
      obtain ⟨v, fpi, _, _, r'⟩ := r.pull e
      obtain ⟨⟨fp, h, nd, mi⟩, fo, sm, pn⟩ := r'
      rw [List.append_assoc] at nd
      exact ⟨⟨fp, h, (List.nodup_append.mp nd).2.1, fun b hb => mi b (by rw [List.append_assoc]; exact List.mem_append_right _ hb)⟩, fun b hb => fo b (List.mem_append_right _ hb), sm, pn⟩
def SameBut (fp : List Addr) (H H' : Hp) : Prop := ∀ b o, H b = some o → b ∉ fp → H' b = some o
theorem SameBut.gr {fp : List Addr} (s : SameBut fp H H') (ho : ∀ b ∈ fp, Own H b) : Gr H H' := by
  refine ⟨fun b xs e => s b _ e fun hb => ?_, fun b o u e => s b _ e fun hb => ?_⟩
  · obtain ⟨o, q, n1, _⟩ := ho b hb
    rw [e] at q; exact n1 xs (Option.some.inj q).symm
  · obtain ⟨o, q, _, n2⟩ := ho b hb
    rw [e] at q; exact n2 _ _ (Option.some.inj q).symm
/-- the objects at fp are handed out, come back as nf -/
theorem Rel.after {fp nf : List Addr} (r : Rel K Γ st σ H (fp ++ fx)) (s : SameBut fp H H') (nd : nf.Nodup) (hn : ∀ b ∈ nf, H b = none ∨ b ∈ fp) (ho : ∀ b ∈ nf, Own H' b) : Rel K Γ st σ H' (nf ++ fx) := by
  have hr := r
  obtain ⟨⟨fq, h, nd0, mi⟩, fo, sm, pn⟩ := r
  have nd0' : (fp ++ (fx ++ fq)).Nodup := by rw [← List.append_assoc]; exact nd0
  have nda := List.nodup_append.mp nd0'
  have g : Gr H H' := s.gr fun b hb => fo b (List.mem_append_left _ hb)
  have keep : ∀ b, b ∈ fx ++ fq → Own H b → H' b = H b := fun b hb ow => by
    obtain ⟨o, q, _⟩ := ow
    rw [q]
    exact s b o q fun z => nda.2.2 b z b hb rfl
  have ownq : ∀ b ∈ fx ++ fq, Own H b := fun b hb => by
    rcases List.mem_append.mp hb with hb | hb
    · exact fo b (List.mem_append_right _ hb)
    · exact h.own b hb
  refine ⟨⟨fq, h.frame g fun b hb => keep b (List.mem_append_right _ hb) (h.own b hb), ?_, fun b hb => ?_⟩, fun b hb => ?_, fun b o e n => ?_, pn⟩
  · rw [List.append_assoc]
    refine List.nodup_append.mpr ⟨nd, nda.2.1, fun a ha b hb e => ?_⟩
    subst e
    rcases hn a ha with z | z
    · exact (ownq a hb).of_nodup_ne z rfl
    · exact nda.2.2 a z a hb rfl
  · rw [List.append_assoc] at hb
    rcases List.mem_append.mp hb with hb | hb
    · rcases hn b hb with z | z
      · exact hr.mineNew z
      · exact mi b (List.mem_append_left _ (List.mem_append_left _ z))
    · exact mi b (by rw [List.append_assoc]; exact List.mem_append_right _ hb)
  · rcases List.mem_append.mp hb with hb | hb
    · exact ho b hb
    · exact (fo b (List.mem_append_right _ hb)).ext (keep b (List.mem_append_left _ hb) (fo b (List.mem_append_right _ hb)))
  · refine s b o (sm b o e n) fun z => ?_
    rcases mi b (List.mem_append_left _ (List.mem_append_left _ z)) with m | m
    · rw [m] at e; cases e
    · exact n m
end

/-! ### one and two operands -/
def bindO {α : Type} (st : DS) (a : Ar) (f : Sv → Option α) : Option α := (lookA st a).bind f
def e1 {α : Type} (ma : DS → ER Ar) (f : Sv → Option α) : DS → ER α := fun st => (ma st).bind fun a st1 => optE (bindO st1 a f) st1
def e2 {α : Type} (ma mb : DS → ER Ar) (f : Sv → Sv → Option α) : DS → ER α := fun st => (ma st).bind fun a st1 => (mb st1).bind fun b st2 => optE (bindO st2 a fun x => bindO st2 b fun y => f x y) st2
theorem bindO_some {α : Type} {st : DS} {a : Ar} {f : Sv → Option α} {d : α} (h : bindO st a f = some d) : ∃ w, lookA st a = some w ∧ f w = some d := by
  unfold bindO at h
  cases e : lookA st a with
  | none => rw [e] at h; cases h
  | some w => rw [e] at h; exact ⟨w, rfl, h⟩
section
variable {X : Cx} {a b c e : Expr} {ma mb : DS → ER Ar}
theorem de1 {r : V → Hp → VK → Prop} {f : Sv → Option Py} (hx : DX X a ma) (P : ∀ {ta : TE}, PE X a ta → PE X e (fun σ H Q => ta σ H fun x H1 => r x H1 Q))
    (hr : ∀ v w fp H d Q, RS X.K H v w fp → f w = some d → (∀ v' H', Same H H' → R X.K H' v' d → Q v' H') → r v H Q) : DE X e (e1 ma f) := by
  refine ⟨fun Wx tk => pe_imp (P (hx.pe Wx tk)) fun σ H Q ⟨Γ, st, rl, q⟩ => ⟨Γ, st, rl, ?_⟩⟩
  refine fin.imp (fin.bind q) fun a st1 q1 v H1 r1 g1 ar => ?_
  obtain ⟨d, ed, q1⟩ := fin_opt q1
  obtain ⟨w, ew, fw⟩ := bindO_some ed
  obtain ⟨fp, rs⟩ := r1.look ar ew
  exact hr v w fp H1 d Q rs fw fun v' H' s rd => q1 v' H' (r1.ext s) (g1.trans (Same.gr s)) rd
theorem de2 {r : R2} {f : Sv → Sv → Option Py} (hx : DX X a ma) (hy : DX X b mb) (P : ∀ {ta tb : TE}, PE X a ta → PE X b tb → PE X e (tOp r ta tb))
    (hr : ∀ v w v2 w2 fp fp2 H d Q, RS X.K H v w fp → RS X.K H v2 w2 fp2 → f w w2 = some d → (∀ v' H', Same H H' → R X.K H' v' d → Q v' H') → r v v2 H Q) : DE X e (e2 ma mb f) := by
  refine ⟨fun Wx tk => pe_imp (P (hx.pe Wx tk) (hy.pe Wx tk)) fun σ H Q ⟨Γ, st, rl, q⟩ => ⟨Γ, st, rl, ?_⟩⟩
  refine fin.imp (fin.bind q) fun a st1 q1 v H1 r1 g1 ar => ⟨Γ, st1, r1, ?_⟩
  refine fin.imp (fin.bind (fin.gr (H' := H1) g1 q1)) fun b st2 q2 v2 H2 r2 g2 ar2 => ?_
  obtain ⟨d, ed, q2⟩ := fin_opt q2
  obtain ⟨w, ew, ed⟩ := bindO_some ed
  obtain ⟨w2, ew2, fw⟩ := bindO_some ed
  obtain ⟨fp, rs⟩ := r2.look (ar.mono g2) ew
  obtain ⟨fp2, rs2⟩ := r2.look ar2 ew2
  exact hr v w v2 w2 fp fp2 H2 d Q rs rs2 fw fun v' H' s rd => q2 v' H' (r2.ext s) (g1.trans (g2.trans (Same.gr s))) rd
theorem do1 {r : V → Hp → VK → Prop} {f : Sv → Option Sv} (hx : DX X a ma) (P : ∀ {ta : TE}, PE X a ta → PE X e (fun σ H Q => ta σ H fun x H1 => r x H1 Q))
    (hr : ∀ v w fp H d Q, RS X.K H v w fp → f w = some d → (∀ v' H' fw, Same H H' → RS X.K H' v' d fw → fw.Nodup → (∀ b ∈ fw, H b = none) → Q v' H') → r v H Q) : DO X e (e1 ma f) := by
  refine ⟨fun Wx tk => pe_imp (P (hx.pe Wx tk)) fun σ H Q ⟨Γ, st, rl, q⟩ => ⟨Γ, st, rl, ?_⟩⟩
  refine fin.imp (fin.bind q) fun a st1 q1 v H1 r1 g1 ar => ?_
  obtain ⟨d, ed, q1⟩ := fin_opt q1
  obtain ⟨w, ew, fw⟩ := bindO_some ed
  obtain ⟨fp, rs⟩ := r1.look ar ew
  exact hr v w fp H1 d Q rs fw fun v' H' fw s rd nd hn => q1 v' H' fw (r1.owned s nd hn rd.own) (g1.trans (Same.gr s)) rd
theorem do2 {r : R2} {f : Sv → Sv → Option Sv} (hx : DX X a ma) (hy : DX X b mb) (P : ∀ {ta tb : TE}, PE X a ta → PE X b tb → PE X e (tOp r ta tb))
    (hr : ∀ v w v2 w2 fp fp2 H d Q, RS X.K H v w fp → RS X.K H v2 w2 fp2 → f w w2 = some d → (∀ v' H' fw, Same H H' → RS X.K H' v' d fw → fw.Nodup → (∀ b ∈ fw, H b = none) → Q v' H') → r v v2 H Q) : DO X e (e2 ma mb f) := by
  refine ⟨fun Wx tk => pe_imp (P (hx.pe Wx tk) (hy.pe Wx tk)) fun σ H Q ⟨Γ, st, rl, q⟩ => ⟨Γ, st, rl, ?_⟩⟩
  refine fin.imp (fin.bind q) fun a st1 q1 v H1 r1 g1 ar => ⟨Γ, st1, r1, ?_⟩
  refine fin.imp (fin.bind (fin.gr (H' := H1) g1 q1)) fun b st2 q2 v2 H2 r2 g2 ar2 => ?_
  obtain ⟨d, ed, q2⟩ := fin_opt q2
  obtain ⟨w, ew, ed⟩ := bindO_some ed
  obtain ⟨w2, ew2, fw⟩ := bindO_some ed
  obtain ⟨fp, rs⟩ := r2.look (ar.mono g2) ew
  obtain ⟨fp2, rs2⟩ := r2.look ar2 ew2
  exact hr v w v2 w2 fp fp2 H2 d Q rs rs2 fw fun v' H' fw s rd nd hn => q2 v' H' fw (r2.owned s nd hn rd.own) (g1.trans (g2.trans (Same.gr s))) rd

/-! ### constants, names -/
theorem de_int {i j pos} : DE X (.Constant (.int i) j pos) fun st => .ok (.int i) st := ⟨fun _ _ => pe_imp pe_int fun σ H Q ⟨Γ, st, r, q⟩ => q _ _ r (Gr.refl H) (.int i)⟩
theorem de_bl {i j pos} : DE X (.Constant (.bool i) j pos) fun st => .ok (.bl i) st := ⟨fun _ _ => pe_imp pe_bl fun σ H Q ⟨Γ, st, r, q⟩ => q _ _ r (Gr.refl H) (.bl i)⟩
theorem de_non {j pos} : DE X (.Constant .none j pos) fun st => .ok .non st := ⟨fun _ _ => pe_imp pe_non fun σ H Q ⟨Γ, st, r, q⟩ => q _ _ r (Gr.refl H) .non⟩
theorem de_str {i j pos} : DE X (.Constant (.str i) j pos) fun st => .ok (.str i) st := ⟨fun _ _ => pe_imp pe_str fun σ H Q ⟨Γ, st, r, q⟩ => q _ _ r (Gr.refl H) (.str i)⟩
def nameE (i : Nat) : DS → ER Py := fun st => match st[i]? with
  | some (some (.val d)) => .ok d st
  | _ => .stuck
theorem tVarE {i : Nat} {σ : L2.St} {H : Hp} {Q : VK} {v : V} (h : σ[i]? = some (some v)) (q : Q v H) : tVar i σ H Q := ⟨v, h, q⟩
theorem de_name {i : Nat} (h : PE X e (tVar i)) : DE X e (nameE i) := by
  refine ⟨fun Wx tk => pe_imp h fun σ H Q ⟨Γ, st, r, q⟩ => ?_⟩
  unfold nameE at q
  split at q
  · rename_i d hd
    obtain ⟨v, fp, e1, rs⟩ := r.get hd
    cases rs with
    | val rv => exact ⟨v, e1, q v H r (Gr.refl H) rv⟩
  · exact absurd q id
def nameX (i : Nat) : DS → ER Ar := fun st => match st[i]? with
  | some (some _) => .ok (.s i) st
  | _ => .stuck
theorem dx_name {i : Nat} (h : PE X e (tVar i)) : DX X e (nameX i) := by
  refine ⟨fun Wx tk => pe_imp h fun σ H Q ⟨Γ, st, r, q⟩ => ?_⟩
  unfold nameX at q
  split at q
  · rename_i w hd
    obtain ⟨v, fp, e1, rs⟩ := r.get hd
    exact ⟨v, e1, q v H r (Gr.refl H) e1⟩
  · exact absurd q id
/-- the object of a slot is handed on -/
def moveO (i : Nat) : DS → ER Sv := fun st => match st[i]? with
  | some (some w) => .ok w (st.set i none)
  | _ => .stuck
theorem do_move {i : Nat} (h : PE X e (tVar i)) : DO X e (moveO i) := by
  refine ⟨fun Wx tk => pe_imp h fun σ H Q ⟨Γ, st, r, q⟩ => ?_⟩
  unfold moveO at q
  split at q
  · rename_i w hd
    obtain ⟨v, fp, e1, rs, r'⟩ := r.pull hd
    exact ⟨v, e1, q v H fp (by simpa using r') (Gr.refl H) rs⟩
  · exact absurd q id
/-- the object of a slot is locked, and taken as data -/
def lockE (i : Nat) : DS → ER Py := fun st => match st[i]? with
  | some (some w) => match frzS w with
    | some d => .ok d (st.set i (some (.val d)))
    | none => .stuck
  | _ => .stuck
theorem de_lock {i : Nat} (h : PE X e (tVar i)) : DE X e (lockE i) := by
  refine ⟨fun Wx tk => pe_imp (pe_frz h) fun σ H Q ⟨Γ, st, r, q⟩ => ?_⟩
  unfold lockE at q
  split at q
  · rename_i w hd
    split at q
    · rename_i d hf
      obtain ⟨v, fp, e1, rs, r'⟩ := r.pull hd
      rw [List.append_nil] at r'
      refine ⟨v, e1, ?_⟩
      have back : ∀ (H' : Hp), Rel X.K Γ (st.set i none) σ H' [] → R X.K H' v d → Rel X.K Γ (st.set i (some (.val d))) σ H' [] := fun H' r2 rd => by
        have := r2.push (fo := []) (w := .val d) e1 (.val rd)
        rw [List.set_set] at this
        exact this
      cases rs with
      | val rv => cases hf; exact .inl (q v H (back H r' rv) (Gr.refl H) rv)
      | @lst a xs ds ha ra =>
        cases hf
        refine .inr ⟨_, _, rfl, ha, trivial, fun o => ?_⟩
        have g2 : Gr H (upd H a (.frz o (.lst xs))) := Gr.own (r'.fxo _ List.mem_cons_self)
        have rd : R X.K (upd H a (.frz o (.lst xs))) (.ref a) (.lst ds) := .lst (.inl ⟨o, upd_same⟩) (ra.mono g2)
        exact q _ _ (back _ (r'.lock List.mem_cons_self) rd) g2 rd
      | @dK a xs ds ha ra =>
        cases hf
        refine .inr ⟨_, _, rfl, ha, trivial, fun o => ?_⟩
        have g2 : Gr H (upd H a (.frz o (.dK xs))) := Gr.own (r'.fxo _ List.mem_cons_self)
        have rd : R X.K (upd H a (.frz o (.dK xs))) (.ref a) (.dic ds) := .dicK upd_same (ra.mono g2)
        exact q _ _ (back _ (r'.lock List.mem_cons_self) rd) g2 rd
      | @dT a xs ds ha ra =>
        cases hf
        refine .inr ⟨_, _, rfl, ha, trivial, fun o => ?_⟩
        have g2 : Gr H (upd H a (.frz o (.dT xs))) := Gr.own (r'.fxo _ List.mem_cons_self)
        have rd : R X.K (upd H a (.frz o (.dT xs))) (.ref a) (.dic ds) := .dicT upd_same (ra.mono g2)
        exact q _ _ (back _ (r'.lock List.mem_cons_self) rd) g2 rd
      | ins ha ra => cases hf
    · exact absurd q id
  · exact absurd q id
theorem de_globI {x : Str} {i : Int} {t : Tok} {pos : Pos} (hg : Gl X x) (hm : X.mg x = some (.int i t)) (hd : (x == ("__debug__" : Str)) = false := by decide) : DE X (.Name x pos) fun st => .ok (.int i) st :=
  ⟨fun _ _ => pe_imp (pe_glob (v := .int i) hg hm ⟨t, rfl⟩ hd) fun σ H Q ⟨Γ, st, r, q⟩ => q _ _ r (Gr.refl H) (.int i)⟩
theorem de_globS {x : Str} {i : Str} {t : Tok} {pos : Pos} (hg : Gl X x) (hm : X.mg x = some (.str i t)) (hd : (x == ("__debug__" : Str)) = false := by decide) : DE X (.Name x pos) fun st => .ok (.str i) st :=
  ⟨fun _ _ => pe_imp (pe_glob (v := .str i) hg hm ⟨t, rfl⟩ hd) fun σ H Q ⟨Γ, st, r, q⟩ => q _ _ r (Gr.refl H) (.str i)⟩
end

/-! ### argument lists, displays -/
def tVs (X : Cx) (Wx : WX) (n : Nat) (m : DS → ER (List Py)) : TA := fun σ H Q => ∃ Γ st, Rel X.K Γ st σ H [] ∧ fin X Wx Γ σ H (m st) fun ds st' => ∀ vs H', Rel X.K Γ st' σ H' [] → Gr H H' → RA X.K H' vs ds → vs.length = n → Q vs H'
structure DV (X : Cx) (es : List Expr) (m : DS → ER (List Py)) : Prop where
  pa : ∀ Wx, Takes X Wx → PA X es (tVs X Wx es.length m)
section
variable {X : Cx} {e : Expr} {es : List Expr} {pos : Pos}
theorem dv_nil : DV X [] fun st => .ok [] st := ⟨fun _ _ => pa_imp pa_nil fun σ H Q ⟨Γ, st, r, q⟩ => q [] H r (Gr.refl H) .nil rfl⟩
theorem dv_cons {m : DS → ER Py} {ms : DS → ER (List Py)} (h : DE X e m) (hs : DV X es ms) (hst : starEach (e :: es) X.env = (false, eval e X.env) :: starEach es X.env := by rfl) :
    DV X (e :: es) fun st => (m st).bind fun d st1 => (ms st1).bind fun ds st2 => .ok (d :: ds) st2 := by
  refine ⟨fun Wx tk => pa_imp (pa_cons (h.pe Wx tk) (hs.pa Wx tk) hst) fun σ H Q ⟨Γ, st, r, q⟩ => ⟨Γ, st, r, ?_⟩⟩
  refine fin.imp (fin.bind q) fun d st1 q1 v H1 r1 g1 rd => ⟨Γ, st1, r1, ?_⟩
  refine fin.imp (fin.bind (fin.gr (H' := H1) g1 q1)) fun ds st2 q2 vs H2 r2 g2 rds hl => ?_
  exact q2 (v :: vs) H2 r2 (g1.trans g2) (.cons (rd.mono g2) rds) (by simp [hl])
theorem da_nil : DA X [] fun st => .ok [] st := ⟨fun _ _ => pa_imp pa_nil fun σ H Q ⟨Γ, st, r, q⟩ => q [] H r (Gr.refl H) .nil rfl⟩
theorem ARs.mono {K : PySem.W.Frag} {H H' : Hp} {σ : L2.St} (g : Gr H H') : ∀ {vs : List V} {as : List Ar}, ARs K H σ vs as → ARs K H' σ vs as
  | _, _, .nil => .nil
  | _, _, .cons h t => .cons (h.mono g) (ARs.mono g t)
theorem da_cons {m : DS → ER Ar} {ms : DS → ER (List Ar)} (h : DX X e m) (hs : DA X es ms) (hst : starEach (e :: es) X.env = (false, eval e X.env) :: starEach es X.env := by rfl) :
    DA X (e :: es) fun st => (m st).bind fun d st1 => (ms st1).bind fun ds st2 => .ok (d :: ds) st2 := by
  refine ⟨fun Wx tk => pa_imp (pa_cons (h.pe Wx tk) (hs.pa Wx tk) hst) fun σ H Q ⟨Γ, st, r, q⟩ => ⟨Γ, st, r, ?_⟩⟩
  refine fin.imp (fin.bind q) fun d st1 q1 v H1 r1 g1 rd => ⟨Γ, st1, r1, ?_⟩
  refine fin.imp (fin.bind (fin.gr (H' := H1) g1 q1)) fun ds st2 q2 vs H2 r2 g2 rds hl => ?_
  exact q2 (v :: vs) H2 r2 (g1.trans g2) (.cons (rd.mono g2) rds) (by simp [hl])
theorem de_tup {x1} {m : DS → ER (List Py)} (h : DV X es m) (hz : es.length ≤ sizeLine := by decide) : DE X (.Tuple es x1 pos) fun st => (m st).bind fun ds st1 => .ok (.tup ds) st1 := by
  refine ⟨fun Wx tk => pe_imp (pe_tup (h.pa Wx tk)) fun σ H Q ⟨Γ, st, r, q⟩ => ⟨Γ, st, r, ?_⟩⟩
  refine fin.imp (fin.bind q) fun ds st1 q1 vs H1 r1 g1 rd hl => ⟨by omega, fun p hp => ?_⟩
  have s : Same H1 (upd H1 p (.tup vs)) := Same.new hp
  exact q1 _ _ (r1.ext s) (g1.trans (Same.gr s)) (.tup upd_same (rd.mono (Same.gr s)))
theorem do_lst {m : DS → ER (List Py)} (h : DV X es m) (hz : es.length ≤ sizeLine := by decide) : DO X (.List es pos) fun st => (m st).bind fun ds st1 => .ok (.lst ds) st1 := by
  refine ⟨fun Wx tk => pe_imp (pe_lst (h.pa Wx tk)) fun σ H Q ⟨Γ, st, r, q⟩ => ⟨Γ, st, r, ?_⟩⟩
  refine fin.imp (fin.bind q) fun ds st1 q1 vs H1 r1 g1 rd hl => ⟨by omega, fun p hp => ?_⟩
  have s : Same H1 (upd H1 p (.lst vs)) := Same.new hp
  have rs : RS X.K (upd H1 p (.lst vs)) (.ref p) (.lst ds) [p] := .lst upd_same (rd.mono (Same.gr s))
  exact q1 _ _ [p] (r1.owned s (by simp) (fun b hb => by rw [List.mem_singleton.mp hb]; exact hp) rs.own) (g1.trans (Same.gr s)) rs
end

/-! ### tests -/
def asBl : Py → Option Bool
  | .bl b => some b
  | _ => none
def truS : Sv → Option Bool
  | .val .non => some false
  | .val (.bl b) => some b
  | .val (.int i) => some (i != 0)
  | .val (.str y) => if y.length ≤ sizeLine then some ((y.length : Int) != 0) else none
  | .val (.tup ds) => some (!ds.isEmpty)
  | .val (.lst ds) => some (!ds.isEmpty)
  | .lst ds => some (!ds.isEmpty)
  | _ => none
theorem RA.isEmpty {K : PySem.W.Frag} {H : Hp} {vs : List V} {ds : List Py} (h : RA K H vs ds) : vs.isEmpty = ds.isEmpty := by
  cases h <;> rfl
section
variable {X : Cx} {a b c e : Expr} {ma mb : DS → ER Py} {mt mu : DS → ER Bool} {rest : List Expr} {pos : Pos}
theorem dt_e {m : DS → ER Py} (h : DE X e m) (he : ∀ whole, isTrue e X.env whole = (do let v ← whole; standAt e.pos; holding [v] (truthy v)) := by intro _; rfl) : DT X e fun st => (m st).bind fun d st1 => optE (asBl d) st1 := by
  refine ⟨fun Wx tk => pt_imp (pt_val (h.pe Wx tk) he) fun σ H Q ⟨Γ, st, r, q⟩ => ⟨Γ, st, r, ?_⟩⟩
  refine fin.imp (fin.bind q) fun d st1 q1 v H1 r1 g1 rd => ?_
  obtain ⟨b, eb, q1⟩ := fin_opt q1
  cases d <;> cases eb
  cases rd
  exact ⟨_, rfl, q1 H1 r1 g1⟩
theorem dt_tr {m : DS → ER Ar} (h : DX X e m) (he : ∀ whole, isTrue e X.env whole = (do let v ← whole; standAt e.pos; holding [v] (truthy v)) := by intro _; rfl) : DT X e (e1 m truS) := by
  refine ⟨fun Wx tk => pt_imp (pt_truth (h.pe Wx tk) he) fun σ H Q ⟨Γ, st, r, q⟩ => ⟨Γ, st, r, ?_⟩⟩
  refine fin.imp (fin.bind q) fun d st1 q1 v H1 r1 g1 rd => ?_
  obtain ⟨b, eb, q1⟩ := fin_opt q1
  obtain ⟨w, ew, fw⟩ := bindO_some eb
  obtain ⟨fp, rs⟩ := r1.look rd ew
  refine ⟨b, ?_, q1 H1 r1 g1⟩
  cases rs with
  | val rv =>
    cases rv with
    | non => cases fw; rfl
    | bl k => cases fw; rfl
    | int i => cases fw; rfl
    | str x =>
      have fw' : (if x.length ≤ sizeLine then some ((x.length : Int) != 0) else none) = some b := fw
      by_cases hz : x.length ≤ sizeLine
      · rw [if_pos hz] at fw'; cases fw'; exact ⟨hz, rfl⟩
      · rw [if_neg hz] at fw'; cases fw'
    | tup hs ra => cases fw; exact .inr (.inl ⟨_, SqT.of hs, by rw [ra.isEmpty]⟩)
    | lst hs ra => cases fw; exact .inl ⟨_, hs.l, by rw [ra.isEmpty]⟩
    | dicK _ _ => cases fw
    | dicT _ _ => cases fw
    | obj _ => cases fw
  | lst ha ra => cases fw; exact .inl ⟨_, SqL.of ha, by rw [ra.isEmpty]⟩
  | dK _ _ => cases fw
  | dT _ _ => cases fw
  | ins _ _ => cases fw
theorem DW.t (h : DW X e mt) : DT X e mt := ⟨fun Wx tk => PW.pt (h.pw Wx tk)⟩
theorem dw_and1 (h : DT X a mt) : DW X (.BoolOp .And [a] pos) mt := ⟨fun Wx tk => pw_and1 (h.pt Wx tk)⟩
theorem dw_or1 (h : DT X a mt) : DW X (.BoolOp .Or [a] pos) mt := ⟨fun Wx tk => pw_or1 (h.pt Wx tk)⟩
theorem dw_and (h : DT X a mt) (hr : DW X (.BoolOp .And (b :: rest) pos) mu) : DW X (.BoolOp .And (a :: b :: rest) pos) fun st => (mt st).bind fun k st1 => if k then mu st1 else .ok false st1 := by
  refine ⟨fun Wx tk => pw_imp (pw_and (h.pt Wx tk) (hr.pw Wx tk)) fun σ H Q ⟨Γ, st, r, q⟩ => ⟨Γ, st, r, ?_⟩⟩
  refine fin.imp (fin.bind q) fun k st1 q1 H1 r1 g1 => ?_
  cases k with
  | true =>
    rw [if_pos rfl]
    have q3 : fin X Wx Γ σ H (mu st1) (fun k2 st' => ∀ (H2 : Hp), Rel X.K Γ st' σ H2 [] → Gr H H2 → Q k2 H2) := q1
    exact ⟨Γ, st1, r1, fin.imp (fin.gr (H' := H1) g1 q3) fun k2 st2 q2 H2 r2 g2 => q2 H2 r2 (g1.trans g2)⟩
  | false =>
    rw [if_neg Bool.false_ne_true]
    exact q1 H1 r1 g1
theorem dw_or (h : DT X a mt) (hr : DW X (.BoolOp .Or (b :: rest) pos) mu) : DW X (.BoolOp .Or (a :: b :: rest) pos) fun st => (mt st).bind fun k st1 => if k then .ok true st1 else mu st1 := by
  refine ⟨fun Wx tk => pw_imp (pw_or (h.pt Wx tk) (hr.pw Wx tk)) fun σ H Q ⟨Γ, st, r, q⟩ => ⟨Γ, st, r, ?_⟩⟩
  refine fin.imp (fin.bind q) fun k st1 q1 H1 r1 g1 => ?_
  cases k with
  | false =>
    rw [if_neg Bool.false_ne_true]
    have q3 : fin X Wx Γ σ H (mu st1) (fun k2 st' => ∀ (H2 : Hp), Rel X.K Γ st' σ H2 [] → Gr H H2 → Q k2 H2) := q1
    exact ⟨Γ, st1, r1, fin.imp (fin.gr (H' := H1) g1 q3) fun k2 st2 q2 H2 r2 g2 => q2 H2 r2 (g1.trans g2)⟩
  | true =>
    rw [if_pos rfl]
    exact q1 H1 r1 g1
theorem dt_not (h : DT X a mt) : DT X (.UnaryOp .Not a pos) fun st => (mt st).bind fun k st1 => .ok (!k) st1 := by
  refine ⟨fun Wx tk => pt_imp (pt_not (h.pt Wx tk)) fun σ H Q ⟨Γ, st, r, q⟩ => ⟨Γ, st, r, ?_⟩⟩
  exact fin.imp (fin.bind q) fun k st1 q1 H1 r1 g1 => q1 H1 r1 g1
theorem de_if (hc : DT X c mt) (ha : DE X a ma) (hb : DE X b mb) : DE X (.IfExp c a b pos) fun st => (mt st).bind fun k st1 => if k then ma st1 else mb st1 := by
  refine ⟨fun Wx tk => pe_imp (pe_ifExp (hc.pt Wx tk) (ha.pe Wx tk) (hb.pe Wx tk)) fun σ H Q ⟨Γ, st, r, q⟩ => ⟨Γ, st, r, ?_⟩⟩
  refine fin.imp (fin.bind q) fun k st1 q1 H1 r1 g1 => ?_
  cases k with
  | true =>
    rw [if_pos rfl]
    have q3 : fin X Wx Γ σ H (ma st1) (fun d st' => ∀ (v : V) (H2 : Hp), Rel X.K Γ st' σ H2 [] → Gr H H2 → R X.K H2 v d → Q v H2) := q1
    exact ⟨Γ, st1, r1, fin.imp (fin.gr (H' := H1) g1 q3) fun k2 st2 q2 v H2 r2 g2 rd => q2 v H2 r2 (g1.trans g2) rd⟩
  | false =>
    rw [if_neg Bool.false_ne_true]
    have q3 : fin X Wx Γ σ H (mb st1) (fun d st' => ∀ (v : V) (H2 : Hp), Rel X.K Γ st' σ H2 [] → Gr H H2 → R X.K H2 v d → Q v H2) := q1
    exact ⟨Γ, st1, r1, fin.imp (fin.gr (H' := H1) g1 q3) fun k2 st2 q2 v H2 r2 g2 rd => q2 v H2 r2 (g1.trans g2) rd⟩
theorem de_one {op} (h : DE X a ma) : DE X (.BoolOp op [a] pos) ma := ⟨fun Wx tk => pe_one (h.pe Wx tk)⟩
theorem de_and (ha : DE X a ma) (hb : DE X (.BoolOp .And (b :: rest) pos) mb) : DE X (.BoolOp .And (a :: b :: rest) pos) fun st => (ma st).bind fun d st1 => (optE (asBl d) st1).bind fun k st1 => if k then mb st1 else .ok (.bl false) st1 := by
  refine ⟨fun Wx tk => pe_imp (pe_and (ha.pe Wx tk) (hb.pe Wx tk)) fun σ H Q ⟨Γ, st, r, q⟩ => ⟨Γ, st, r, ?_⟩⟩
  refine fin.imp (fin.bind q) fun d st1 q1 v H1 r1 g1 rd => ?_
  obtain ⟨k, ek, q1⟩ := fin_opt (fin.bind q1)
  cases d <;> cases ek
  cases rd
  refine ⟨k, rfl, ?_⟩
  cases k with
  | true =>
    rw [if_pos rfl]
    have q3 : fin X Wx Γ σ H (mb st1) (fun d st' => ∀ (v : V) (H2 : Hp), Rel X.K Γ st' σ H2 [] → Gr H H2 → R X.K H2 v d → Q v H2) := q1
    exact ⟨Γ, st1, r1, fin.imp (fin.gr (H' := H1) g1 q3) fun k2 st2 q2 v H2 r2 g2 rd => q2 v H2 r2 (g1.trans g2) rd⟩
  | false =>
    rw [if_neg Bool.false_ne_true]
    exact q1 _ H1 r1 g1 (.bl false)
theorem de_or (ha : DE X a ma) (hb : DE X (.BoolOp .Or (b :: rest) pos) mb) : DE X (.BoolOp .Or (a :: b :: rest) pos) fun st => (ma st).bind fun d st1 => (optE (asBl d) st1).bind fun k st1 => if k then .ok (.bl true) st1 else mb st1 := by
  refine ⟨fun Wx tk => pe_imp (pe_or (ha.pe Wx tk) (hb.pe Wx tk)) fun σ H Q ⟨Γ, st, r, q⟩ => ⟨Γ, st, r, ?_⟩⟩
  refine fin.imp (fin.bind q) fun d st1 q1 v H1 r1 g1 rd => ?_
  obtain ⟨k, ek, q1⟩ := fin_opt (fin.bind q1)
  cases d <;> cases ek
  cases rd
  refine ⟨k, rfl, ?_⟩
  cases k with
  | false =>
    rw [if_neg Bool.false_ne_true]
    have q3 : fin X Wx Γ σ H (mb st1) (fun d st' => ∀ (v : V) (H2 : Hp), Rel X.K Γ st' σ H2 [] → Gr H H2 → R X.K H2 v d → Q v H2) := q1
    exact ⟨Γ, st1, r1, fin.imp (fin.gr (H' := H1) g1 q3) fun k2 st2 q2 v H2 r2 g2 rd => q2 v H2 r2 (g1.trans g2) rd⟩
  | true =>
    rw [if_pos rfl]
    exact q1 _ H1 r1 g1 (.bl true)
theorem de_not (ha : DE X a ma) : DE X (.UnaryOp .Not a pos) fun st => (ma st).bind fun d st1 => (optE (asBl d) st1).bind fun k st1 => .ok (.bl (!k)) st1 := by
  refine ⟨fun Wx tk => pe_imp (pe_not (ha.pe Wx tk)) fun σ H Q ⟨Γ, st, r, q⟩ => ⟨Γ, st, r, ?_⟩⟩
  refine fin.imp (fin.bind q) fun d st1 q1 v H1 r1 g1 rd => ?_
  obtain ⟨k, ek, q1⟩ := fin_opt (fin.bind q1)
  cases d <;> cases ek
  cases rd
  exact ⟨k, rfl, q1 _ H1 r1 g1 (.bl _)⟩
end
end DL

/-! ## DL5 -/
namespace DL
open PySem PySem.Spec PyProof.Rows L2

/-! ### what an operand is -/
def itemsS : Sv → Option (List Py)
  | .val (.tup ds) => some ds
  | .val (.lst ds) => some ds
  | .lst ds => some ds
  | _ => none
theorem RS.seq {K : PySem.W.Frag} {H : Hp} {v : V} {w : Sv} {fp : List Addr} {ds : List Py} (h : RS K H v w fp) (e : itemsS w = some ds) : ∃ a xs, v = .ref a ∧ (SqL K H a xs ∨ H a = some (.tup xs)) ∧ RA K H xs ds := by
  cases h with
  | val r =>
    cases r <;> cases e
    · rename_i a xs hs ra; exact ⟨_, _, rfl, .inr hs, ra⟩
    · rename_i a xs hs ra; exact ⟨_, _, rfl, .inl hs.l, ra⟩
  | lst ha ra => cases e; exact ⟨_, _, rfl, .inl (SqL.of ha), ra⟩
  | dK _ _ => cases e
  | dT _ _ => cases e
  | ins _ _ => cases e
def listS : Sv → Option (List Py)
  | .val (.lst ds) => some ds
  | .lst ds => some ds
  | _ => none
theorem RS.list {K : PySem.W.Frag} {H : Hp} {v : V} {w : Sv} {fp : List Addr} {ds : List Py} (h : RS K H v w fp) (e : listS w = some ds) : ∃ a xs, v = .ref a ∧ SqL K H a xs ∧ RA K H xs ds := by
  cases h with
  | val r =>
    cases r <;> cases e
    rename_i a xs hs ra; exact ⟨_, _, rfl, hs.l, ra⟩
  | lst ha ra => cases e; exact ⟨_, _, rfl, SqL.of ha, ra⟩
  | dK _ _ => cases e
  | dT _ _ => cases e
  | ins _ _ => cases e
def asInt : Py → Option Int
  | .int i => some i
  | _ => none
def intS : Sv → Option Int
  | .val (.int i) => some i
  | _ => none
theorem RS.int {K : PySem.W.Frag} {H : Hp} {v : V} {w : Sv} {fp : List Addr} {i : Int} (h : RS K H v w fp) (e : intS w = some i) : v = .int i := by
  cases h with
  | val r => cases r <;> cases e; rfl
  | lst ha ra => cases e
  | dK _ _ => cases e
  | dT _ _ => cases e
  | ins _ _ => cases e
def valS : Sv → Option Py
  | .val d => some d
  | _ => none
theorem RS.data {K : PySem.W.Frag} {H : Hp} {v : V} {w : Sv} {fp : List Addr} {d : Py} (h : RS K H v w fp) (e : valS w = some d) : R K H v d := by
  cases h with
  | val r => cases e; exact r
  | lst ha ra => cases e
  | dK _ _ => cases e
  | dT _ _ => cases e
  | ins _ _ => cases e
def allM {α : Type} (f : Py → Option α) : List Py → Option (List α)
  | [] => some []
  | d :: ds => match f d, allM f ds with
    | some a, some as => some (a :: as)
    | _, _ => none
theorem RA.ints {K : PySem.W.Frag} {H : Hp} : ∀ {vs : List V} {ds : List Py} {ns : List Int}, RA K H vs ds → allM asInt ds = some ns → vs = ns.map V.int
  | _, _, _, .nil, e => by cases e; rfl
  | v :: vs, d :: ds, ns, .cons h t, e => by
    simp only [allM] at e
    split at e
    · rename_i a as e1 e2
      cases e
      cases d <;> cases e1
      cases h
      rw [RA.ints t e2]; rfl
    · cases e
theorem RA.bls {K : PySem.W.Frag} {H : Hp} : ∀ {vs : List V} {ds : List Py} {ns : List Bool}, RA K H vs ds → allM asBl ds = some ns → vs = ns.map V.bl
  | _, _, _, .nil, e => by cases e; rfl
  | v :: vs, d :: ds, ns, .cons h t, e => by
    simp only [allM] at e
    split at e
    · rename_i a as e1 e2
      cases e
      cases d <;> cases e1
      cases h
      rw [RA.bls t e2]; rfl
    · cases e

/-! ### ints -/
def binI {α : Type} (c : Int → Int → Prop) [∀ i j, Decidable (c i j)] (g : Int → Int → α) : Sv → Sv → Option α
  | .val (.int i), .val (.int j) => if c i j then some (g i j) else none
  | _, _ => none
def binI0 {α : Type} (g : Int → Int → α) : Sv → Sv → Option α
  | .val (.int i), .val (.int j) => some (g i j)
  | _, _ => none
theorem binI_some {α : Type} {c : Int → Int → Prop} [∀ i j, Decidable (c i j)] {g : Int → Int → α} {x y : Sv} {d : α} (h : binI c g x y = some d) : ∃ i j, x = .val (.int i) ∧ y = .val (.int j) ∧ c i j ∧ g i j = d := by
  unfold binI at h
  split at h
  · rename_i i j
    by_cases hc : c i j
    · rw [if_pos hc] at h; cases h; exact ⟨i, j, rfl, rfl, hc, rfl⟩
    · rw [if_neg hc] at h; cases h
  · cases h
theorem binI0_some {α : Type} {g : Int → Int → α} {x y : Sv} {d : α} (h : binI0 g x y = some d) : ∃ i j, x = .val (.int i) ∧ y = .val (.int j) ∧ g i j = d := by
  unfold binI0 at h
  split at h
  · cases h; exact ⟨_, _, rfl, rfl, rfl⟩
  · cases h
instance : ∀ i j, Decidable (CMul i j) := fun i j => by unfold CMul; infer_instance
instance : ∀ i j, Decidable (CDiv i j) := fun i j => by unfold CDiv; infer_instance
instance : ∀ i j, Decidable (CDivN i j) := fun i j => by unfold CDivN; infer_instance
instance : ∀ i j, Decidable (CPow i j) := fun i j => by unfold CPow; infer_instance
section
variable {X : Cx} {a b c e : Expr} {ma mb mc : DS → ER Ar} {pos : Pos}
theorem de_opI {op : Operator} {C : Int → Int → Prop} [∀ i j, Decidable (C i j)] {g : Int → Int → Int} (ho : OpR X (binaryOp op) (rI C fun i j => .int (g i j))) (ha : DX X a ma) (hb : DX X b mb) :
    DE X (.BinOp a op b pos) (e2 ma mb (binI C fun i j => .int (g i j))) :=
  de2 ha hb (pe_op ho) fun v w v2 w2 fp fp2 H d Q r1 r2 hf q => by
    obtain ⟨i, j, rfl, rfl, hc, rfl⟩ := binI_some hf
    exact ⟨i, j, r1.int rfl, r2.int rfl, hc, q _ _ (Same.refl H) (.int _)⟩
theorem de_opI0 {op : Operator} {g : Int → Int → Int} (ho : OpR X (binaryOp op) (rI0 fun i j => .int (g i j))) (ha : DX X a ma) (hb : DX X b mb) :
    DE X (.BinOp a op b pos) (e2 ma mb (binI0 fun i j => .int (g i j))) :=
  de2 ha hb (pe_op ho) fun v w v2 w2 fp fp2 H d Q r1 r2 hf q => by
    obtain ⟨i, j, rfl, rfl, rfl⟩ := binI0_some hf
    exact ⟨i, j, r1.int rfl, r2.int rfl, q _ _ (Same.refl H) (.int _)⟩
theorem de_add (ha : DX X a ma) (hb : DX X b mb) : DE X (.BinOp a .Add b pos) (e2 ma mb (binI0 fun i j => .int (i + j))) := de_opI0 op_add ha hb
theorem de_sub (ha : DX X a ma) (hb : DX X b mb) : DE X (.BinOp a .Sub b pos) (e2 ma mb (binI0 fun i j => .int (i - j))) := de_opI0 op_sub ha hb
theorem de_mul (ha : DX X a ma) (hb : DX X b mb) : DE X (.BinOp a .Mult b pos) (e2 ma mb (binI CMul fun i j => .int (i * j))) := de_opI op_mul ha hb
theorem de_fdiv (ha : DX X a ma) (hb : DX X b mb) : DE X (.BinOp a .FloorDiv b pos) (e2 ma mb (binI CDiv fun i j => .int (i / j))) := de_opI op_fdiv ha hb
theorem de_mod (ha : DX X a ma) (hb : DX X b mb) : DE X (.BinOp a .Mod b pos) (e2 ma mb (binI (fun _ j => 0 < j) fun i j => .int (i % j))) := de_opI op_mod ha hb
theorem de_pow (ha : DX X a ma) (hb : DX X b mb) : DE X (.BinOp a .Pow b pos) (e2 ma mb (binI CPow fun i j => .int (i ^ j.toNat))) := de_opI op_pow ha hb
theorem de_cmpI {op : CmpOp} {g : Int → Int → Bool} (ho : OpR X (compareOp op) (rI0 fun i j => .bl (g i j))) (h1 : behindInMarks op b = false) (ha : DX X a ma) (hb : DX X b mb) :
    DE X (.Compare a [op] [b] pos) (e2 ma mb (binI0 fun i j => .bl (g i j))) :=
  de2 ha hb (fun h k => pe_cmpR ho h k h1) fun v w v2 w2 fp fp2 H d Q r1 r2 hf q => by
    obtain ⟨i, j, rfl, rfl, rfl⟩ := binI0_some hf
    exact ⟨i, j, r1.int rfl, r2.int rfl, q _ _ (Same.refl H) (.bl _)⟩
theorem de_lt (ha : DX X a ma) (hb : DX X b mb) : DE X (.Compare a [.Lt] [b] pos) (e2 ma mb (binI0 fun i j => .bl (decide (i < j)))) := de_cmpI op_lt (nomark _) ha hb
theorem de_le (ha : DX X a ma) (hb : DX X b mb) : DE X (.Compare a [.LtE] [b] pos) (e2 ma mb (binI0 fun i j => .bl (decide (i ≤ j)))) := de_cmpI op_le (nomark _) ha hb
theorem de_gt (ha : DX X a ma) (hb : DX X b mb) : DE X (.Compare a [.Gt] [b] pos) (e2 ma mb (binI0 fun i j => .bl (decide (j < i)))) := de_cmpI op_gt (nomark _) ha hb
theorem de_ge (ha : DX X a ma) (hb : DX X b mb) : DE X (.Compare a [.GtE] [b] pos) (e2 ma mb (binI0 fun i j => .bl (decide (j ≤ i)))) := de_cmpI op_ge (nomark _) ha hb
theorem de_neg (ha : DX X a ma) : DE X (.UnaryOp .USub a pos) (e1 ma fun w => (intS w).map fun i => .int (-i)) :=
  de1 ha (pe_un un_neg) fun v w fp H d Q r1 hf q => by
    cases e : intS w with
    | none => rw [e] at hf; cases hf
    | some i => rw [e] at hf; cases hf; exact ⟨i, r1.int e, q _ _ (Same.refl H) (.int _)⟩
/-- i <= j < k -/
def chainT (p q : Int → Int → Bool) (ma mb mc : DS → ER Ar) : DS → ER Bool := fun st => (ma st).bind fun a st1 => (mb st1).bind fun b st2 => (optE (bindO st2 a fun x => bindO st2 b fun y => binI0 (fun i j => (p i j, j)) x y) st2).bind fun k st2 =>
  if k.1 then (mc st2).bind fun c st3 => optE (bindO st3 c fun z => (intS z).map fun l => q k.2 l) st3 else .ok false st2
theorem dt_chain {op op' : CmpOp} {p q : Int → Int → Bool} (ho : OpR X (compareOp op) (rI0 fun i j => .bl (p i j))) (ho' : OpR X (compareOp op') (rI0 fun i j => .bl (q i j))) (ha : DX X a ma) (hb : DX X b mb) (hc : DX X c mc)
    (hm : lastMarks [op, op'] [b, c] = false := by with_unfolding_all rfl) : DT X (.Compare a [op, op'] [b, c] pos) (chainT p q ma mb mc) := by
  refine ⟨fun Wx tk => pt_imp (pt_chain ho ho' (ha.pe Wx tk) (hb.pe Wx tk) (hc.pe Wx tk) hm) fun σ H Q ⟨Γ, st, r, h⟩ => ⟨Γ, st, r, ?_⟩⟩
  refine fin.imp (fin.bind h) fun a st1 q1 v H1 r1 g1 ar => ⟨Γ, st1, r1, ?_⟩
  refine fin.imp (fin.bind (fin.gr (H' := H1) g1 q1)) fun b st2 q2 v2 H2 r2 g2 ar2 => ?_
  obtain ⟨k, ek, q3⟩ := fin_opt (fin.bind q2)
  obtain ⟨w, ew, ek⟩ := bindO_some ek
  obtain ⟨w2, ew2, ek⟩ := bindO_some ek
  obtain ⟨i, j, rfl, rfl, rfl⟩ := binI0_some ek
  obtain ⟨fp, rs⟩ := r2.look (ar.mono g2) ew
  obtain ⟨fp2, rs2⟩ := r2.look ar2 ew2
  refine ⟨i, j, rs.int rfl, rs2.int rfl, p i j, rfl, ?_⟩
  cases hp : p i j with
  | false =>
    rw [if_neg Bool.false_ne_true]
    have q4 : fin X Wx Γ σ H1 (if p i j = true then (mc st2).bind fun c st3 => optE (bindO st3 c fun z => (intS z).map fun l => q j l) st3 else .ok false st2) _ := q3
    rw [hp, if_neg Bool.false_ne_true] at q4
    exact ⟨false, rfl, q4 H2 r2 (g1.trans g2)⟩
  | true =>
    rw [if_pos rfl]
    have q4 : fin X Wx Γ σ H1 (if p i j = true then (mc st2).bind fun c st3 => optE (bindO st3 c fun z => (intS z).map fun l => q j l) st3 else .ok false st2) _ := q3
    rw [hp, if_pos rfl] at q4
    refine ⟨Γ, st2, r2, fin.imp (fin.bind (fin.gr (H' := H2) g2 q4)) fun c st3 q5 v3 H3 r3 g3 ar3 => ?_⟩
    obtain ⟨t, et, q6⟩ := fin_opt q5
    obtain ⟨w3, ew3, et⟩ := bindO_some et
    obtain ⟨fp3, rs3⟩ := r3.look ar3 ew3
    cases ez : intS w3 with
    | none => rw [ez] at et; cases et
    | some l =>
      rw [ez] at et
      cases et
      exact ⟨j, l, rs2.int rfl, rs3.int ez, _, rfl, q6 H3 r3 (g1.trans (g2.trans g3))⟩

/-! ### is None -/
def isNonS : Sv → Bool
  | .val .non => true
  | _ => false
theorem RS.isNon {K : PySem.W.Frag} {H : Hp} {v : V} {w : Sv} {fp : List Addr} (h : RS K H v w fp) : decide (v = .non) = isNonS w := by
  cases h with
  | val r => cases r <;> rfl
  | lst _ _ => rfl
  | dK _ _ => rfl
  | dT _ _ => rfl
  | ins _ _ => rfl
theorem de_isN {j pos'} (ha : DX X a ma) : DE X (.Compare a [.Is] [.Constant .none j pos'] pos) (e1 ma fun w => some (.bl (isNonS w))) :=
  de1 (r := fun x H1 Q => Q (.bl (decide (x = .non))) H1) ha (fun h => pe_cmp (pc_isN h) rfl) fun v w fp H d Q r1 hf q => by
    cases hf
    exact q _ _ (Same.refl H) (by rw [r1.isNon]; exact .bl _)
theorem de_notN {j pos'} (ha : DX X a ma) : DE X (.Compare a [.IsNot] [.Constant .none j pos'] pos) (e1 ma fun w => some (.bl (!isNonS w))) :=
  de1 (r := fun x H1 Q => Q (.bl (!decide (x = .non))) H1) ha (fun h => pe_cmp (pc_notN h) rfl) fun v w fp H d Q r1 hf q => by
    cases hf
    exact q _ _ (Same.refl H) (by rw [r1.isNon]; exact .bl _)
end

/-! ### == of data -/
mutual
def toD : Py → PyData
  | .non => .none
  | .bl b => .bool b
  | .int i => .int i
  | .str x => .str x
  | .tup ds => .tuple (toDs ds)
  | .lst ds => .list (toDs ds)
  | .dic _ => .dict []
  | .obj _ => .dict []
def toDs : List Py → List PyData
  | [] => []
  | d :: ds => toD d :: toDs ds
end
def toDS : Sv → PyData
  | .val d => toD d
  | .lst ds => .list (toDs ds)
  | _ => .dict []
mutual
theorem R.dp {K : PySem.W.Frag} {H : Hp} : ∀ {v : V} {d : Py}, R K H v d → (toD d).canLay0 = true → Dp K H v (toD d)
  | _, _, .non, _ => .non
  | _, _, .bl b, _ => .bl b
  | _, _, .int i, _ => .int i
  | _, _, .str x, _ => .str x
  | _, _, .tup h r, e => .tup (SqT.of h) (RA.dp r e)
  | _, _, .lst h r, e => .lst h.l (RA.dp r e)
  | _, _, .dicK h r, e => absurd e (by simp [toD, PyData.canLay0])
  | _, _, .dicT h r, e => absurd e (by simp [toD, PyData.canLay0])
  | _, _, .obj a, e => absurd e (by simp [toD, PyData.canLay0])
theorem RA.dp {K : PySem.W.Frag} {H : Hp} : ∀ {v : List V} {d : List Py}, RA K H v d → PyData.canLayAll0 (toDs d) = true → DpAll K H v (toDs d)
  | _, _, .nil, _ => .nil
  | _, _, .cons h r, e => by
    simp only [toDs, PyData.canLayAll0, Bool.and_eq_true] at e
    exact .cons (R.dp h e.1) (RA.dp r e.2)
end
theorem RS.dp {K : PySem.W.Frag} {H : Hp} {v : V} {w : Sv} {fp : List Addr} (h : RS K H v w fp) (e : (toDS w).canLay0 = true) : Dp K H v (toDS w) := by
  cases h with
  | val r => exact r.dp e
  | lst ha ra => exact .lst (SqL.of ha) (ra.dp e)
  | dK _ _ => exact absurd e (by simp [toDS, PyData.canLay0])
  | dT _ _ => exact absurd e (by simp [toDS, PyData.canLay0])
  | ins _ _ => exact absurd e (by simp [toDS, PyData.canLay0])
def eqS : Sv → Sv → Option Bool
  | .val (.str x), .val (.str y) => some (decide (x = y))
  | .val (.int x), .val (.int y) => some (decide (x = y))
  | .val (.bl x), .val (.bl y) => some (decide (x = y))
  | x, y => if SeqAt.shaped (toDS x) = true ∧ SeqAt.shaped (toDS y) = true then some (PyData.eqv (toDS x) (toDS y)) else none
theorem eqS_cases {x y : Sv} {b : Bool} (h : eqS x y = some b) : (∃ s t, x = .val (.str s) ∧ y = .val (.str t) ∧ b = decide (s = t)) ∨ (∃ s t, x = .val (.int s) ∧ y = .val (.int t) ∧ b = decide (s = t)) ∨
    (∃ s t, x = .val (.bl s) ∧ y = .val (.bl t) ∧ b = decide (s = t)) ∨ (SeqAt.shaped (toDS x) = true ∧ SeqAt.shaped (toDS y) = true ∧ b = PyData.eqv (toDS x) (toDS y)) := by
  unfold eqS at h
  split at h
  · cases h; exact .inl ⟨_, _, rfl, rfl, rfl⟩
  · cases h; exact .inr (.inl ⟨_, _, rfl, rfl, rfl⟩)
  · cases h; exact .inr (.inr (.inl ⟨_, _, rfl, rfl, rfl⟩))
  · split at h
    · rename_i hc; cases h; exact .inr (.inr (.inr ⟨hc.1, hc.2, rfl⟩))
    · cases h
section
variable {X : Cx} {a b c e : Expr} {ma mb mc : DS → ER Ar} {pos : Pos}
theorem dec_vstr {x y : Str} : decide (V.str x = V.str y) = decide (x = y) := by
  rw [Bool.eq_iff_iff]; simp
theorem dec_vint {x y : Int} : decide (V.int x = V.int y) = decide (x = y) := by
  rw [Bool.eq_iff_iff]; simp
theorem dec_vbl {x y : Bool} : decide (V.bl x = V.bl y) = decide (x = y) := by
  rw [Bool.eq_iff_iff]; simp
theorem RS.str {K : PySem.W.Frag} {H : Hp} {v : V} {fp : List Addr} {x : Str} (h : RS K H v (.val (.str x)) fp) : v = .str x := by
  cases h with
  | val r => cases r; rfl
theorem RS.bl {K : PySem.W.Frag} {H : Hp} {v : V} {fp : List Addr} {x : Bool} (h : RS K H v (.val (.bl x)) fp) : v = .bl x := by
  cases h with
  | val r => cases r; rfl
theorem eq_rule {v v2 : V} {w w2 : Sv} {fp fp2 : List Addr} {H : Hp} {k : Bool} {Q : VK} (r1 : RS X.K H v w fp) (r2 : RS X.K H v2 w2 fp2) (h : eqS w w2 = some k) (q : Q (.bl k) H) : rEq v v2 H Q ∨ rEqD X.K v v2 H Q := by
  rcases eqS_cases h with ⟨s, t, rfl, rfl, rfl⟩ | ⟨s, t, rfl, rfl, rfl⟩ | ⟨s, t, rfl, rfl, rfl⟩ | ⟨h1, h2, rfl⟩
  · cases r1.str; cases r2.str; exact .inl ⟨rfl, by rw [dec_vstr]; exact q⟩
  · cases r1.int rfl; cases r2.int rfl; exact .inl ⟨rfl, by rw [dec_vint]; exact q⟩
  · cases r1.bl; cases r2.bl; exact .inl ⟨rfl, by rw [dec_vbl]; exact q⟩
  · exact .inr ⟨_, _, r1.dp (SeqAt.canLay_of_shaped h1), r2.dp (SeqAt.canLay_of_shaped h2), h1, h2, q⟩
theorem ne_rule {v v2 : V} {w w2 : Sv} {fp fp2 : List Addr} {H : Hp} {k : Bool} {Q : VK} (r1 : RS X.K H v w fp) (r2 : RS X.K H v2 w2 fp2) (h : eqS w w2 = some k) (q : Q (.bl (!k)) H) : rNe v v2 H Q ∨ rNeD X.K v v2 H Q := by
  rcases eqS_cases h with ⟨s, t, rfl, rfl, rfl⟩ | ⟨s, t, rfl, rfl, rfl⟩ | ⟨s, t, rfl, rfl, rfl⟩ | ⟨h1, h2, rfl⟩
  · cases r1.str; cases r2.str; exact .inl ⟨rfl, by rw [dec_vstr]; exact q⟩
  · cases r1.int rfl; cases r2.int rfl; exact .inl ⟨rfl, by rw [dec_vint]; exact q⟩
  · cases r1.bl; cases r2.bl; exact .inl ⟨rfl, by rw [dec_vbl]; exact q⟩
  · exact .inr ⟨_, _, r1.dp (SeqAt.canLay_of_shaped h1), r2.dp (SeqAt.canLay_of_shaped h2), h1, h2, q⟩
theorem de_eq (hu : X.A.units + 64 < cLine) (ha : DX X a ma) (hb : DX X b mb) : DE X (.Compare a [.Eq] [b] pos) (e2 ma mb fun x y => (eqS x y).map .bl) :=
  de2 ha hb (fun h k => pe_cmpR (op_eq.or (op_eqD hu)) h k (nomark _)) fun v w v2 w2 fp fp2 H d Q r1 r2 hf q => by
    cases e : eqS w w2 with
    | none => rw [e] at hf; cases hf
    | some k => rw [e] at hf; cases hf; exact eq_rule r1 r2 e (q _ _ (Same.refl H) (.bl _))
theorem de_ne (hu : X.A.units + 64 < cLine) (ha : DX X a ma) (hb : DX X b mb) : DE X (.Compare a [.NotEq] [b] pos) (e2 ma mb fun x y => (eqS x y).map fun k => .bl (!k)) :=
  de2 ha hb (fun h k => pe_cmpR (op_ne.or (op_neD hu)) h k (nomark _)) fun v w v2 w2 fp fp2 H d Q r1 r2 hf q => by
    cases e : eqS w w2 with
    | none => rw [e] at hf; cases hf
    | some k => rw [e] at hf; cases hf; exact ne_rule r1 r2 e (q _ _ (Same.refl H) (.bl _))

/-! ### in, not in -/
def flatP : Py → Bool
  | .non => true
  | .bl _ => true
  | .int _ => true
  | .str _ => true
  | _ => false
theorem R.flat {K : PySem.W.Frag} {H : Hp} {v : V} {d : Py} (h : R K H v d) : flatV v = flatP d := by cases h <;> rfl
theorem R.eqV {K : PySem.W.Frag} {H : Hp} {v v2 : V} {d d2 : Py} (h : R K H v d) (h2 : R K H v2 d2) (f : flatP d = true) (f2 : flatP d2 = true) : L2.eqV v v2 = PyData.eqv (toD d) (toD d2) := by
  cases h <;> first
    | (cases h2 <;> first
        | (simp [L2.eqV, toD, PyData.eqv]; done)
        | exact absurd f2 Bool.false_ne_true)
    | exact absurd f Bool.false_ne_true
theorem RA.flat {K : PySem.W.Frag} {H : Hp} : ∀ {vs : List V} {ds : List Py}, RA K H vs ds → vs.all flatV = ds.all flatP
  | _, _, .nil => rfl
  | _, _, .cons h t => by rw [List.all_cons, List.all_cons, R.flat h, RA.flat t]
theorem RA.inV {K : PySem.W.Frag} {H : Hp} {v2 : V} {d2 : Py} (h2 : R K H v2 d2) (f2 : flatP d2 = true) : ∀ {vs : List V} {ds : List Py}, RA K H vs ds → ds.all flatP = true → L2.inV v2 vs = ds.any fun z => PyData.eqv (toD z) (toD d2)
  | _, _, .nil, _ => rfl
  | v :: vs, d :: ds, .cons h t, f => by
    simp only [List.all_cons, Bool.and_eq_true] at f
    unfold L2.inV
    rw [List.any_cons, List.any_cons, R.eqV h h2 f.1 f2]
    congr 1
    exact RA.inV h2 f2 t f.2
theorem any_toDs (x : PyData) : ∀ ds : List Py, (toDs ds).any (fun z => PyData.eqv z x) = ds.any fun z => PyData.eqv (toD z) x
  | [] => rfl
  | d :: ds => by simp only [toDs, List.any_cons, any_toDs x ds]
/-- a value in a list or tuple -/
def inS (x y : Sv) : Option Bool := (valS x).bind fun d => (itemsS y).bind fun ds =>
  if flatP d = true ∧ ds.all flatP = true then some (ds.any fun z => PyData.eqv (toD z) (toD d))
  else if (listS y).isSome = true ∧ SeqAt.shaped (toD d) = true ∧ SeqAt.shaped (.list (toDs ds)) = true then some (ds.any fun z => PyData.eqv (toD z) (toD d))
  else none
theorem listS_items {y : Sv} {ds : List Py} (h : itemsS y = some ds) (e : (listS y).isSome = true) : listS y = some ds := by
  unfold itemsS at h
  split at h <;> first | (cases h; first | rfl | (simp [listS] at e)) | cases h
theorem in_rule {v v2 : V} {w w2 : Sv} {fp fp2 : List Addr} {H : Hp} {k : Bool} {Q : VK} {neg : Bool} (r1 : RS X.K H v w fp) (r2 : RS X.K H v2 w2 fp2) (h : inS w w2 = some k) (q : Q (.bl (if neg then !k else k)) H) :
    rIn X.K neg v v2 H Q ∨ ∃ d ds, Dp X.K H v d ∧ Dp X.K H v2 (.list ds) ∧ SeqAt.shaped d = true ∧ SeqAt.shaped (.list ds) = true ∧ Q (.bl (if neg then !(ds.any fun z => PyData.eqv z d) else ds.any fun z => PyData.eqv z d)) H := by
  unfold inS at h
  cases ev : valS w with
  | none => rw [ev] at h; cases h
  | some d =>
    rw [ev] at h
    cases ei : itemsS w2 with
    | none => rw [ei] at h; cases h
    | some ds =>
      rw [ei] at h
      simp only [Option.bind_some] at h
      have rd := r1.data ev
      by_cases h1 : flatP d = true ∧ ds.all flatP = true
      · rw [if_pos h1] at h
        cases h
        obtain ⟨a, xs, rfl, hs, ra⟩ := r2.seq ei
        refine .inl ⟨a, xs, rfl, hs.imp id SqT.of, by rw [rd.flat]; exact h1.1, by rw [ra.flat]; exact h1.2, ?_⟩
        rw [RA.inV rd h1.1 ra h1.2]
        exact q
      · rw [if_neg h1] at h
        by_cases h2 : (listS w2).isSome = true ∧ SeqAt.shaped (toD d) = true ∧ SeqAt.shaped (.list (toDs ds)) = true
        · rw [if_pos h2] at h
          cases h
          obtain ⟨a, xs, rfl, hs, ra⟩ := r2.list (listS_items ei h2.1)
          have hc := SeqAt.canLay_of_shaped h2.2.2
          refine .inr ⟨toD d, toDs ds, rd.dp (SeqAt.canLay_of_shaped h2.2.1), .lst hs (ra.dp hc), h2.2.1, h2.2.2, ?_⟩
          rw [any_toDs]
          exact q
        · rw [if_neg h2] at h; cases h
theorem de_in (hu : X.A.units + 65 < cLine) (hm : behindInMarks .In b = false) (ha : DX X a ma) (hb : DX X b mb) : DE X (.Compare a [.In] [b] pos) (e2 ma mb fun x y => (inS x y).map .bl) :=
  de2 ha hb (fun h k => pe_cmpR (op_in_seq.or (op_inD hu)) h k hm) fun v w v2 w2 fp fp2 H d Q r1 r2 hf q => by
    cases e : inS w w2 with
    | none => rw [e] at hf; cases hf
    | some k => rw [e] at hf; cases hf; exact in_rule (neg := false) r1 r2 e (q _ _ (Same.refl H) (.bl _))
theorem de_notIn (hu : X.A.units + 65 < cLine) (hm : behindInMarks .NotIn b = false) (ha : DX X a ma) (hb : DX X b mb) : DE X (.Compare a [.NotIn] [b] pos) (e2 ma mb fun x y => (inS x y).map fun k => .bl (!k)) :=
  de2 ha hb (fun h k => pe_cmpR (op_notIn_seq.or (op_notInD hu)) h k hm) fun v w v2 w2 fp fp2 H d Q r1 r2 hf q => by
    cases e : inS w w2 with
    | none => rw [e] at hf; cases hf
    | some k => rw [e] at hf; cases hf; exact in_rule (neg := true) r1 r2 e (q _ _ (Same.refl H) (.bl _))
end
end DL

/-! ## DL6 -/
namespace DL
open PySem PySem.Spec PyProof.Rows L2

/-! ### types -/
inductive Tn where
  | non | bool | int | str | tuple | list | dict
  deriving DecidableEq
def Tn.name : Tn → String
  | .non => "NoneType" | .bool => "bool" | .int => "int" | .str => "str" | .tuple => "tuple" | .list => "list" | .dict => "dict"
def tyS : Sv → Option Tn
  | .val .non => some .non
  | .val (.bl _) => some .bool
  | .val (.int _) => some .int
  | .val (.str _) => some .str
  | .val (.tup _) => some .tuple
  | .val (.lst _) => some .list
  | .lst _ => some .list
  | .dic _ => some .dict
  | _ => none
def isiT (c n : Tn) : Bool := n == c || (c == .int && n == .bool)
theorem kit_all : ∀ c n : Tn, c ≠ .non → kitB n.name c.name = some (isiT c n) := by
  intro c n h
  cases c <;> cases n <;> first
    | exact absurd rfl h
    | decide +kernel
theorem R.ty {K : PySem.W.Frag} {H : Hp} {v : V} {d : Py} {t : Tn} (h : R K H v d) (e : tyS (.val d) = some t) : TyX K H v (.type t.name) := by
  cases h with
  | non => cases e; exact .base .non
  | bl b => cases e; exact .base (.bl b)
  | int i => cases e; exact .base (.int i)
  | str x => cases e; exact .base (.str x)
  | tup hs ra =>
    cases e
    exact .base (.tup hs)
  | lst hs ra =>
    cases e
    rcases hs with ⟨o, h⟩ | ⟨o, its, n, h, hc, _⟩
    · exact .base (.frz h)
    · exact .kList h hc
  | dicK _ _ => cases e
  | dicT _ _ => cases e
  | obj _ => cases e
theorem RS.ty {K : PySem.W.Frag} {H : Hp} {v : V} {w : Sv} {fp : List Addr} {t : Tn} (h : RS K H v w fp) (e : tyS w = some t) : TyX K H v (.type t.name) := by
  cases h with
  | val r => exact r.ty e
  | lst ha ra => cases e; exact .base (.lst ha)
  | dK ha _ => cases e; exact .base (.dK ha)
  | dT ha _ => cases e; exact .base (.dT ha)
  | ins _ _ => cases e
def isiS (c : Tn) (w : Sv) : Option Bool := (tyS w).map (isiT c)
def isiS2 (c c2 : Tn) (w : Sv) : Option Bool := (tyS w).map fun n => isiT c n || isiT c2 n

/-- the built-in names that the program doesn't hide -/
structure Bt (mg : Str → Option Value) : Prop where
  isinstance : mg "isinstance" = none
  len : mg "len" = none
  tuple : mg "tuple" = none
  list : mg "list" = none
  int : mg "int" = none
  str : mg "str" = none
  bool : mg "bool" = none
  dict : mg "dict" = none
  range : mg "range" = none
  max : mg "max" = none
  min : mg "min" = none
  all : mg "all" = none
  any : mg "any" = none
  sum : mg "sum" = none
  sorted : mg "sorted" = none
  enumerate : mg "enumerate" = none
  zip : mg "zip" = none
  abs : mg "abs" = none
  valueError : mg "ValueError" = none
theorem Bt.cls {mg : Str → Option Value} (T : Bt mg) (c : Tn) (h : c ≠ .non) : mg c.name = none := by
  cases c with
  | non => exact absurd rfl h
  | bool => exact T.bool
  | int => exact T.int
  | str => exact T.str
  | tuple => exact T.tuple
  | list => exact T.list
  | dict => exact T.dict
theorem boot_cls (c : Tn) (h : c ≠ .non) : bootBuiltins c.name = some (.type c.name) := by
  cases c <;> first | exact absurd rfl h | decide +kernel
section
variable {X : Cx} {a b c e : Expr} {ma mb mc : DS → ER Ar} {pos p p1 p2 p3 : Pos}
theorem pe_cls {x : Str} (t : Tn) (hx : x = Str.ofString t.name) (T : Bt X.mg) (ht : t ≠ .non) (hg : Gl X x) (hn : x ≠ "__name__" := by decide) (hd : (x == ("__debug__" : Str)) = false := by decide) : PE X (.Name x p) (tC (V.ty t.name)) := by
  subst hx
  exact pe_bltn hg (T.cls t ht) (boot_cls t ht) rfl hn hd
theorem de_isi {x : Str} (t : Tn) (T : Bt X.mg) (hg : Gl X "isinstance") (hg2 : Gl X x) (ha : DX X a ma) (hx : x = Str.ofString t.name := by rfl) (ht : t ≠ .non := by decide) (hn : x ≠ "__name__" := by decide) (hd : (x == ("__debug__" : Str)) = false := by decide)
    (he : starEach [a, .Name x p2] X.env = (false, eval a X.env) :: starEach [.Name x p2] X.env := by rfl) (he2 : starEach [.Name x p2] X.env = (false, eval (.Name x p2) X.env) :: starEach [] X.env := by rfl)
    (hpl : (backTo pos (starEach [.Name x p2] X.env)).any (·.1) = false := by rfl) :
    DE X (.Call (.Name "isinstance" p) [a, .Name x p2] [] pos) (e1 ma fun w => (isiS t w).map .bl) :=
  de1 (r := fun x H Q => rIsi X.K [x, .ty t.name] H Q) ha (fun h => pe_callB call_isi hg T.isinstance boot_isinstance (pa_cons h (pa_cons (pe_cls t hx T ht hg2 hn hd) pa_nil he2) he) (by decide) (by decide) he hpl) fun v w fp H d Q r1 hf q => by
    unfold isiS at hf
    cases ty : tyS w with
    | none => rw [ty] at hf; cases hf
    | some n =>
      rw [ty] at hf
      cases hf
      exact ⟨v, .ty t.name, _, _, _, rfl, .ty _, r1.ty ty, kit_ty (kit_all t n ht), q _ _ (Same.refl H) (.bl _)⟩
theorem de_isi2 {x y : Str} {k : Nat} (t u : Tn) (T : Bt X.mg) (hg : Gl X "isinstance") (hg2 : Gl X x) (hg3 : Gl X y) (ha : DX X a ma) (hx : x = Str.ofString t.name := by rfl) (hy : y = Str.ofString u.name := by rfl) (ht : t ≠ .non := by decide) (hu : u ≠ .non := by decide)
    (hn : x ≠ "__name__" := by decide) (hd : (x == ("__debug__" : Str)) = false := by decide) (hn' : y ≠ "__name__" := by decide) (hd' : (y == ("__debug__" : Str)) = false := by decide)
    (he : starEach [a, .Tuple [.Name x p2, .Name y p3] k p1] X.env = (false, eval a X.env) :: starEach [.Tuple [.Name x p2, .Name y p3] k p1] X.env := by rfl)
    (he2 : starEach [.Tuple [.Name x p2, .Name y p3] k p1] X.env = (false, eval (.Tuple [.Name x p2, .Name y p3] k p1) X.env) :: starEach [] X.env := by rfl)
    (he3 : starEach [.Name x p2, .Name y p3] X.env = (false, eval (.Name x p2) X.env) :: starEach [.Name y p3] X.env := by rfl)
    (he4 : starEach [.Name y p3] X.env = (false, eval (.Name y p3) X.env) :: starEach [] X.env := by rfl)
    (hpl : (backTo pos (starEach [.Tuple [.Name x p2, .Name y p3] k p1] X.env)).any (·.1) = false := by rfl) :
    DE X (.Call (.Name "isinstance" p) [a, .Tuple [.Name x p2, .Name y p3] k p1] [] pos) (e1 ma fun w => (isiS2 t u w).map .bl) :=
  de1 (r := fun x H Q => 2 ≤ sizeLine ∧ ∀ p, H p = none → rIsiT X.K [x, .ref p] (upd H p (.tup [.ty t.name, .ty u.name])) Q) ha
    (fun h => pe_callB call_isiT hg T.isinstance boot_isinstance (pa_cons h (pa_cons (pe_tup (pa_cons (pe_cls t hx T ht hg2 hn hd) (pa_cons (pe_cls u hy T hu hg3 hn' hd') pa_nil he4) he3)) pa_nil he2) he) (by decide) (by decide) he hpl) fun v w fp H d Q r1 hf q => by
    unfold isiS2 at hf
    cases ty : tyS w with
    | none => rw [ty] at hf; cases hf
    | some n =>
      rw [ty] at hf
      cases hf
      refine ⟨by decide, fun p hp => ?_⟩
      have s : Same H (upd H p (.tup [.ty t.name, .ty u.name])) := Same.new hp
      have r2 : RS X.K (upd H p (.tup [.ty t.name, .ty u.name])) v w fp := r1.frame (Same.gr s) fun b hb => (r1.own b hb).same s
      refine ⟨v, p, _, _, _, _, rfl, upd_same, .cons (.ty _) (.cons (.ty _) .nil), r2.ty ty, kitAny_cons (kit_ty (kit_all t n ht)) (fun h1 => kitAny_cons (r := isiT u n) (kit_ty (kit_all u n hu)) (fun h2 => by rw [h2]; exact kitAny_nil) (fun h2 => h2) |>.trans ?_) (fun h1 => by show (isiT t n || isiT u n) = true; rw [h1]; rfl), q _ _ s (.bl _)⟩
      show some (isiT u n) = some (isiT t n || isiT u n)
      rw [h1]; rfl

/-! ### subscripts, slices, + -/
def ixS (x y : Sv) : Option Py := (intS y).bind fun i => match x with
  | .val (.str z) => if z.length ≤ sizeLine then (atI z.cps.toList i).map fun c => .str ⟨#[c]⟩ else none
  | x => (itemsS x).bind fun ds => atI ds i
theorem RA.atI {K : PySem.W.Frag} {H : Hp} {vs : List V} {ds : List Py} {i : Int} {d : Py} (h : RA K H vs ds) (e : L2.atI ds i = some d) : ∃ v, L2.atI vs i = some v ∧ R K H v d := by
  unfold L2.atI at e ⊢
  rw [h.length]
  cases q : ixN ds.length i with
  | none => rw [q] at e; cases e
  | some j => rw [q] at e; exact h.get e
theorem de_ix (hs : PlainIx b) (ha : DX X a ma) (hb : DX X b mb) : DE X (.Subscript a b pos) (e2 ma mb ixS) :=
  de2 ha hb (fun h k => pe_ix ix_seq h k hs) fun v w v2 w2 fp fp2 H d Q r1 r2 hf q => by
    unfold ixS at hf
    cases ei : intS w2 with
    | none => rw [ei] at hf; cases hf
    | some i =>
      rw [ei] at hf
      have e2 := r2.int ei
      subst e2
      simp only [Option.bind_some] at hf
      split at hf
      · rename_i z
        have e1 := r1.str
        subst e1
        by_cases hz : z.length ≤ sizeLine
        · rw [if_pos hz] at hf
          cases ec : atI z.cps.toList i with
          | none => rw [ec] at hf; cases hf
          | some c =>
            rw [ec] at hf
            cases hf
            exact .inr (.inr ⟨z, i, c, rfl, rfl, hz, ec, q _ _ (Same.refl H) (.str _)⟩)
        · rw [if_neg hz] at hf; cases hf
      · cases es : itemsS w with
        | none => rw [es] at hf; cases hf
        | some ds =>
          rw [es] at hf
          obtain ⟨a, xs, rfl, hq, ra⟩ := r1.seq es
          obtain ⟨y, hy, ry⟩ := ra.atI hf
          rcases hq with hq | hq
          · exact .inl ⟨a, xs, i, y, rfl, rfl, hq, hy, q _ _ (Same.refl H) ry⟩
          · exact .inr (.inl ⟨a, xs, i, y, rfl, rfl, SqT.of hq, hy, q _ _ (Same.refl H) ry⟩)
def cutP {α : Type} (xs : List α) (lo hi : Option Int) : List α := (xs.drop (HT.sIx xs.length 0 lo)).take (HT.sIx xs.length xs.length hi - HT.sIx xs.length 0 lo)
theorem RA.cut {K : PySem.W.Frag} {H : Hp} {vs : List V} {ds : List Py} (h : RA K H vs ds) (lo hi : Option Int) : RA K H (cutV vs lo hi) (cutP ds lo hi) := by
  unfold cutV cutP
  rw [h.length]
  exact (h.drop _).take _
theorem cutP_whole {α : Type} {xs : List α} {lo hi : Option Int} (h : HT.sIx xs.length 0 lo = 0 ∧ HT.sIx xs.length xs.length hi = xs.length) : cutP xs lo hi = xs := by
  unfold cutP
  rw [h.1, h.2, List.drop_zero, Nat.sub_zero, List.take_length]
def tP (X : Cx) (Wx : WX) (m : DS → ER (Option Int)) : TO := fun σ H Q => ∃ Γ st, Rel X.K Γ st σ H [] ∧ fin X Wx Γ σ H (m st) fun o st' => ∀ H', Rel X.K Γ st' σ H' [] → Gr H H' → Q o H'
structure DP (X : Cx) (e : Option Expr) (m : DS → ER (Option Int)) : Prop where
  po : ∀ Wx, Takes X Wx → PO X e (tP X Wx m)
theorem po_imp {e : Option Expr} {t t' : TO} (h : PO X e t) (k : ∀ σ H Q, t' σ H Q → t σ H Q) : PO X e t' := ⟨fun pins s σ H Q I q => h.run pins s σ H Q I (k _ _ _ q)⟩
theorem dp_none : DP X none fun st => .ok none st := ⟨fun _ _ => po_imp po_none fun σ H Q ⟨Γ, st, r, q⟩ => q H r (Gr.refl H)⟩
theorem dp_some {m : DS → ER Py} (h : DE X e m) : DP X (some e) fun st => (m st).bind fun d st1 => (optE (asInt d) st1).bind fun i st1 => .ok (some i) st1 := by
  refine ⟨fun Wx tk => po_imp (po_some (h.pe Wx tk)) fun σ H Q ⟨Γ, st, r, q⟩ => ⟨Γ, st, r, ?_⟩⟩
  refine fin.imp (fin.bind q) fun d st1 q1 v H1 r1 g1 rd => ?_
  obtain ⟨i, ei, q2⟩ := fin_opt (fin.bind q1)
  cases d <;> cases ei
  cases rd
  exact ⟨i, rfl, q2 H1 r1 g1⟩
def sliceS (x : Sv) (lo hi : Option Int) : Option Sv := match x with
  | .val (.tup ds) => some (.val (.tup (cutP ds lo hi)))
  | .val (.lst ds) => some (.lst (cutP ds lo hi))
  | .lst ds => some (.lst (cutP ds lo hi))
  | .val (.str z) => if z.length ≤ sizeLine then some (.val (.str (cutS z lo hi))) else none
  | _ => none
theorem do_slice {lo hi : Option Expr} {ml mh : DS → ER (Option Int)} (ha : DX X a ma) (hl : DP X lo ml) (hh : DP X hi mh) :
    DO X (.Subscript a (.Slice lo hi none p2) pos) fun st => (ma st).bind fun a st1 => (ml st1).bind fun l st2 => (mh st2).bind fun u st3 => optE (bindO st3 a fun x => sliceS x l u) st3 := by
  refine ⟨fun Wx tk => pe_imp (pe_slice (sl_tupA.or (sl_list.or sl_str)) (ha.pe Wx tk) (hl.po Wx tk) (hh.po Wx tk)) fun σ H Q ⟨Γ, st, rl, q⟩ => ⟨Γ, st, rl, ?_⟩⟩
  refine fin.imp (fin.bind q) fun a st1 q1 v H1 r1 g1 ar => ⟨Γ, st1, r1, ?_⟩
  refine fin.imp (fin.bind (fin.gr (H' := H1) g1 q1)) fun l st2 q2 H2 r2 g2 => ⟨Γ, st2, r2, ?_⟩
  refine fin.imp (fin.bind (fin.gr (H' := H2) g2 q2)) fun u st3 q3 H3 r3 g3 => ?_
  obtain ⟨d, ed, q3⟩ := fin_opt q3
  obtain ⟨w, ew, fw⟩ := bindO_some ed
  obtain ⟨fp, rs⟩ := r3.look ((ar.mono g2).mono g3) ew
  have g4 := g1.trans (g2.trans g3)
  have list : ∀ (p0 : Addr) (xs : List V) (ds : List Py), v = .ref p0 → SqL X.K H3 p0 xs → RA X.K H3 xs ds → d = .lst (cutP ds l u) → rSlL X.K v l u H3 Q := by
    intro p0 xs ds hv hs ra hd
    subst hv hd
    refine ⟨p0, xs, rfl, hs, fun p hp => ?_⟩
    have s : Same H3 (upd H3 p (.lst (cutV xs l u))) := Same.new hp
    have rs' : RS X.K (upd H3 p (.lst (cutV xs l u))) (.ref p) (.lst (cutP ds l u)) [p] := .lst upd_same ((ra.cut l u).mono (Same.gr s))
    exact q3 _ _ [p] (r3.owned s (by simp) (fun b hb => by rw [List.mem_singleton.mp hb]; exact hp) rs'.own) (g4.trans (Same.gr s)) rs'
  cases rs with
  | val rv =>
    cases rv with
    | @tup p0 xs ds hs ra =>
      cases fw
      refine .inl ⟨_, _, rfl, SqT.of hs, fun hw => ?_, fun hw p hp => ?_⟩
      · rw [ra.length] at hw
        have hw' : cutP ds l u = ds := cutP_whole hw
        exact q3 _ _ [] r3 g4 (by rw [hw']; exact .val (.tup hs ra))
      · have s : Same H3 (upd H3 p (.tup (cutV xs l u))) := Same.new hp
        exact q3 _ _ [] (r3.ext s) (g4.trans (Same.gr s)) (.val (.tup upd_same ((ra.cut l u).mono (Same.gr s))))
    | lst hs ra => cases fw; exact .inr (.inl (list _ _ _ rfl hs.l ra rfl))
    | str z =>
      have fw' : (if z.length ≤ sizeLine then some (Sv.val (.str (cutS z l u))) else none) = some d := fw
      by_cases hz : z.length ≤ sizeLine
      · rw [if_pos hz] at fw'
        cases fw'
        exact .inr (.inr ⟨z, rfl, hz, q3 _ _ [] r3 g4 (.val (.str _))⟩)
      · rw [if_neg hz] at fw'; cases fw'
    | _ => cases fw
  | lst ha ra => cases fw; exact .inr (.inl (list _ _ _ rfl (SqL.of ha) ra rfl))
  | dK _ _ => cases fw
  | dT _ _ => cases fw
  | ins _ _ => cases fw
def revS (x : Sv) : Option Sv := match x with
  | .val (.tup ds) => some (.val (.tup ds.reverse))
  | .val (.lst ds) => some (.lst ds.reverse)
  | .lst ds => some (.lst ds.reverse)
  | _ => none
theorem do_rev {k : Nat} (ha : DX X a ma) : DO X (.Subscript a (.Slice none none (some (.UnaryOp .USub (.Constant (.int 1) k p1) p2)) p3) pos) (e1 ma revS) :=
  do1 ha pe_revA fun v w fp H d Q rs fw q => by
    have list : ∀ (p0 : Addr) (xs : List V) (ds : List Py), v = .ref p0 → SqL X.K H p0 xs → RA X.K H xs ds → d = .lst ds.reverse → ∃ a xs, v = .ref a ∧ ((SqL X.K H a xs ∧ ∀ p, H p = none → Q (.ref p) (upd H p (.lst xs.reverse))) ∨ (SqT X.K H a xs ∧ ∀ p, H p = none → Q (.ref p) (upd H p (.tup xs.reverse)))) := by
      intro p0 xs ds hv hs ra hd
      subst hv hd
      refine ⟨p0, xs, rfl, .inl ⟨hs, fun p hp => ?_⟩⟩
      have s : Same H (upd H p (.lst xs.reverse)) := Same.new hp
      exact q _ _ [p] s (.lst upd_same (ra.reverse.mono (Same.gr s))) (by simp) (fun b hb => by rw [List.mem_singleton.mp hb]; exact hp)
    cases rs with
    | val rv =>
      cases rv with
      | @tup p0 xs ds hs ra =>
        cases fw
        refine ⟨_, _, rfl, .inr ⟨SqT.of hs, fun p hp => ?_⟩⟩
        have s : Same H (upd H p (.tup xs.reverse)) := Same.new hp
        exact q _ _ [] s (.val (.tup upd_same (ra.reverse.mono (Same.gr s)))) List.nodup_nil nofun
      | lst hs ra => cases fw; exact list _ _ _ rfl hs.l ra rfl
      | _ => cases fw
    | lst ha ra => cases fw; exact list _ _ _ rfl (SqL.of ha) ra rfl
    | dK _ _ => cases fw
    | dT _ _ => cases fw
    | ins _ _ => cases fw
set_option maxRecDepth 8000 in
theorem cat_lst (l : Addr) (items : Array Value) (n : Nat) (sl : Array (Option Value)) (b : Addr) (items2 : Array Value) (n2 : Nat) (sl2 : Array (Option Value)) (hc0 : items.size + items2.size ≤ sizeLine) :
    Meets (Builtin.«list.__add__» ⟨[.ref l, .ref b], []⟩) (fun _ R s => s.heap.get? l = some { cls := .type "list", dict := none, data := .seq items n, slots := sl } ∧ s.heap.get? b = some { cls := .type "list", dict := none, data := .seq items2 n2, slots := sl2 } ∧ R (.ok (.ret (Value.ref s.heap.objs.size))) { s with heap := s.heap.push { cls := Value.type "list", data := Data.seq (items ++ items2) }, toks := s.toks }) :=
  .of_wp fun prog w A R s h => by obtain ⟨hp, g, d, tk, os⟩ := s; obtain ⟨hl, hb, h⟩ := h; have f1 := PySem.AutoSeq1.idx_int; have f2 := PySem.AutoSeq1.sub_tuple_tuple; have f3 := PySem.AutoSeq1.sub_list_list; have f4 := PySem.AutoSeq1.sub_tuple_list; have f5 := PySem.AutoSeq1.sub_list_tuple; wp_walk using wpAny_loadPart' hl, wpAny_loadPart' hb; exact ⟨_, rfl, h⟩
theorem op_catL : OpR X (binaryOp .Add) (fun x y H Q => ∃ l b xs zs, x = .ref l ∧ y = .ref b ∧ SqL X.K H l xs ∧ SqL X.K H b zs ∧ xs.length + zs.length ≤ sizeLine ∧ ∀ p, H p = none → Q (.ref p) (upd H p (.lst (xs ++ zs)))) := by
  intro pins s σ H x y v u Q I rx ry h
  obtain ⟨l, b, xs, zs, rfl, rfl, hH, hB, hz, q⟩ := h
  cases rx
  cases ry
  obtain ⟨its, r, ⟨⟨oc, od, dt, sl⟩, n, e, hc, hd, hs⟩, _⟩ := I.list hH
  simp only at hc hd hs
  subst hc hd hs
  obtain ⟨its2, r2, ⟨⟨oc, od, dt, sl2⟩, n2, e2, hc, hd, hs⟩, _⟩ := I.list hB
  simp only at hc hd hs
  subst hc hd hs
  have hl := r.length
  have hl2 := r2.length
  have hsz : its.toArray.size + its2.toArray.size ≤ sizeLine := by rw [List.size_toArray, List.size_toArray]; omega
  refine concat_meets ⟨_, e, rfl⟩ ⟨_, e2, rfl⟩ noFill_list_add seq_list_add F.slot_list_add F.entry_list_add (F.args_list_add_2 _ _) (cat_lst l its.toArray n sl b its2.toArray n2 sl2 hsz) ⟨e, e2, ?_⟩
  have ea : its.toArray ++ its2.toArray = (its ++ its2).toArray := by simp
  rw [ea]
  exact ⟨.ref _, _, I.lnew (t' := s.toks) (r.append r2) (by rw [List.length_append]; omega), rfl, q _ I.fresh⟩
theorem RS.lx {K : PySem.W.Frag} {H : Hp} {v : V} {w : Sv} {fp : List Addr} {ds : List Py} (h : RS K H v w fp) (e : listS w = some ds) : ∃ a xs, v = .ref a ∧ SqL K H a xs ∧ RA K H xs ds := h.list e
/-- + of ints, texts, tuples, lists -/
def addS (x y : Sv) : Option Sv := match x, y with
  | .val (.int i), .val (.int j) => some (.val (.int (i + j)))
  | .val (.str s), .val (.str t) => if s.length + t.length ≤ sizeLine then some (.val (.str (s ++ t))) else none
  | .val (.tup a), .val (.tup b) => if a.length + b.length ≤ sizeLine then some (.val (.tup (a ++ b))) else none
  | x, y => (listS x).bind fun a => (listS y).bind fun b => if a.length + b.length ≤ sizeLine then some (.lst (a ++ b)) else none
theorem addS_cases {x y d : Sv} (h : addS x y = some d) : (∃ i j, x = .val (.int i) ∧ y = .val (.int j) ∧ d = .val (.int (i + j))) ∨ (∃ s t, x = .val (.str s) ∧ y = .val (.str t) ∧ s.length + t.length ≤ sizeLine ∧ d = .val (.str (s ++ t))) ∨
    (∃ a b, x = .val (.tup a) ∧ y = .val (.tup b) ∧ a.length + b.length ≤ sizeLine ∧ d = .val (.tup (a ++ b))) ∨ ∃ a b, listS x = some a ∧ listS y = some b ∧ a.length + b.length ≤ sizeLine ∧ d = .lst (a ++ b) := by
  unfold addS at h
  split at h
  · cases h; exact .inl ⟨_, _, rfl, rfl, rfl⟩
  · split at h
    · rename_i hz; cases h; exact .inr (.inl ⟨_, _, rfl, rfl, hz, rfl⟩)
    · cases h
  · split at h
    · rename_i hz; cases h; exact .inr (.inr (.inl ⟨_, _, rfl, rfl, hz, rfl⟩))
    · cases h
  · obtain ⟨a, ha, h⟩ := Option.bind_eq_some_iff.mp h
    obtain ⟨b, hb, h⟩ := Option.bind_eq_some_iff.mp h
    split at h
    · rename_i hz; cases h; exact .inr (.inr (.inr ⟨a, b, ha, hb, hz, rfl⟩))
    · cases h
theorem do_add (ha : DX X a ma) (hb : DX X b mb) : DO X (.BinOp a .Add b pos) (e2 ma mb addS) :=
  do2 ha hb (pe_op (op_add.or (op_add_str.or (op_catA.or op_catL)))) fun v w v2 w2 fp fp2 H d Q r1 r2 hf q => by
    rcases addS_cases hf with ⟨i, j, rfl, rfl, rfl⟩ | ⟨s, t, rfl, rfl, hz, rfl⟩ | ⟨a, b, rfl, rfl, hz, rfl⟩ | ⟨a, b, h1, h2, hz, rfl⟩
    · exact .inl ⟨i, j, r1.int rfl, r2.int rfl, q _ _ [] (Same.refl H) (.val (.int _)) List.nodup_nil nofun⟩
    · exact .inr (.inl ⟨s, t, r1.str, r2.str, hz, q _ _ [] (Same.refl H) (.val (.str _)) List.nodup_nil nofun⟩)
    · have d1 := r1.data rfl
      have d2 := r2.data rfl
      cases d1 with
      | @tup _ xs1 _ h1 ra1 =>
        cases d2 with
        | @tup _ xs2 _ h2 ra2 =>
          refine .inr (.inr (.inl ⟨_, _, _, _, rfl, rfl, SqT.of h1, SqT.of h2, by rw [ra1.length, ra2.length]; exact hz, fun e => ?_, fun n e => ?_, fun n1 n2 p hp => ?_⟩))
          · subst e
            cases ra1
            exact q _ _ [] (Same.refl H) (.val (.tup h2 ra2)) List.nodup_nil nofun
          · subst e
            cases ra2
            exact q _ _ [] (Same.refl H) (.val (by rw [List.append_nil]; exact .tup h1 ra1)) List.nodup_nil nofun
          · have s : Same H (upd H p (.tup (xs1 ++ xs2))) := Same.new hp
            exact q _ _ [] s (.val (.tup upd_same ((ra1.append ra2).mono (Same.gr s)))) List.nodup_nil nofun
    · obtain ⟨p1, xs, rfl, l1, ra1⟩ := r1.lx h1
      obtain ⟨p2, ys, rfl, l2, ra2⟩ := r2.lx h2
      refine .inr (.inr (.inr ⟨p1, p2, xs, ys, rfl, rfl, l1, l2, by rw [ra1.length, ra2.length]; exact hz, fun p hp => ?_⟩))
      have s : Same H (upd H p (.lst (xs ++ ys))) := Same.new hp
      exact q _ _ [p] s (.lst upd_same ((ra1.append ra2).mono (Same.gr s))) (by simp) (fun b hb => by rw [List.mem_singleton.mp hb]; exact hp)
end
end DL

/-! ## DL7 -/
namespace DL
open PySem PySem.Spec PyProof.Rows L2

/-! ### calls of built-ins with one argument -/
section
variable {X : Cx} {a b c e : Expr} {ma mb mc : DS → ER Ar} {pos p p1 p2 p3 : Pos} {x : Str} {id T : String} {r : List V → Hp → VK → Prop}
theorem de_b1 {f : Sv → Option Py} (hc : CallR X (.builtin id) r) (hg : Gl X x) (hm : X.mg x = none) (hv : bootBuiltins x = some (.builtin id)) (ha : DX X a ma)
    (hr : ∀ v w fp H d Q, RS X.K H v w fp → f w = some d → (∀ v' H', Same H H' → R X.K H' v' d → Q v' H') → r [v] H Q) (hn : x ≠ "__name__" := by decide) (hd : (x == ("__debug__" : Str)) = false := by decide)
    (he : starEach [a] X.env = (false, eval a X.env) :: starEach [] X.env := by rfl) (hpl : (backTo pos (starEach [] X.env)).any (·.1) = false := by rfl) : DE X (.Call (.Name x p) [a] [] pos) (e1 ma f) :=
  de1 (r := fun x H Q => r [x] H Q) ha (fun h => pe_callB hc hg hm hv (pa_cons h pa_nil he) hn hd he hpl) hr
theorem de_t1 {f : Sv → Option Py} (hc : CallR X (.type T) r) (hg : Gl X x) (hm : X.mg x = none) (hv : bootBuiltins x = some (.type T)) (ha : DX X a ma)
    (hr : ∀ v w fp H d Q, RS X.K H v w fp → f w = some d → (∀ v' H', Same H H' → R X.K H' v' d → Q v' H') → r [v] H Q) (hn : x ≠ "__name__" := by decide) (hd : (x == ("__debug__" : Str)) = false := by decide)
    (he : starEach [a] X.env = (false, eval a X.env) :: starEach [] X.env := by rfl) (hpl : (backTo pos (starEach [] X.env)).any (·.1) = false := by rfl) : DE X (.Call (.Name x p) [a] [] pos) (e1 ma f) :=
  de1 (r := fun x H Q => r [x] H Q) ha (fun h => pe_callTy hc hg hm hv (pa_cons h pa_nil he) hn hd he hpl) hr
theorem do_b1 {f : Sv → Option Sv} (hc : CallR X (.builtin id) r) (hg : Gl X x) (hm : X.mg x = none) (hv : bootBuiltins x = some (.builtin id)) (ha : DX X a ma)
    (hr : ∀ v w fp H d Q, RS X.K H v w fp → f w = some d → (∀ v' H' fw, Same H H' → RS X.K H' v' d fw → fw.Nodup → (∀ b ∈ fw, H b = none) → Q v' H') → r [v] H Q) (hn : x ≠ "__name__" := by decide) (hd : (x == ("__debug__" : Str)) = false := by decide)
    (he : starEach [a] X.env = (false, eval a X.env) :: starEach [] X.env := by rfl) (hpl : (backTo pos (starEach [] X.env)).any (·.1) = false := by rfl) : DO X (.Call (.Name x p) [a] [] pos) (e1 ma f) :=
  do1 (r := fun x H Q => r [x] H Q) ha (fun h => pe_callB hc hg hm hv (pa_cons h pa_nil he) hn hd he hpl) hr
theorem do_t1 {f : Sv → Option Sv} (hc : CallR X (.type T) r) (hg : Gl X x) (hm : X.mg x = none) (hv : bootBuiltins x = some (.type T)) (ha : DX X a ma)
    (hr : ∀ v w fp H d Q, RS X.K H v w fp → f w = some d → (∀ v' H' fw, Same H H' → RS X.K H' v' d fw → fw.Nodup → (∀ b ∈ fw, H b = none) → Q v' H') → r [v] H Q) (hn : x ≠ "__name__" := by decide) (hd : (x == ("__debug__" : Str)) = false := by decide)
    (he : starEach [a] X.env = (false, eval a X.env) :: starEach [] X.env := by rfl) (hpl : (backTo pos (starEach [] X.env)).any (·.1) = false := by rfl) : DO X (.Call (.Name x p) [a] [] pos) (e1 ma f) :=
  do1 (r := fun x H Q => r [x] H Q) ha (fun h => pe_callTy hc hg hm hv (pa_cons h pa_nil he) hn hd he hpl) hr
end
theorem map_some {α β : Type} {o : Option α} {f : α → β} {d : β} (h : o.map f = some d) : ∃ a, o = some a ∧ f a = d := Option.map_eq_some_iff.mp h
def lenS (w : Sv) : Option Py := match w with
  | .val (.str z) => if z.length ≤ sizeLine then some (.int z.length) else none
  | w => (itemsS w).map fun ds => .int ds.length
def intOf : Sv → Option Py
  | .val (.int i) => some (.int i)
  | .val (.bl b) => some (.int (if b then 1 else 0))
  | _ => none
def maxS (w : Sv) : Option Py := (listS w).bind fun ds => (allM asInt ds).bind fun ns => (ns.max?).map .int
def minS (w : Sv) : Option Py := (listS w).bind fun ds => (allM asInt ds).bind fun ns => (ns.min?).map .int
def sumS (w : Sv) : Option Py := (listS w).bind fun ds => (allM asInt ds).map fun ns => .int ns.sum
def allS (w : Sv) : Option Py := (listS w).bind fun ds => (allM asBl ds).map fun bs => .bl (bs.all id)
def anyS (w : Sv) : Option Py := (listS w).bind fun ds => (allM asBl ds).map fun bs => .bl (bs.any id)
section
variable {X : Cx} {a b c e : Expr} {ma mb mc : DS → ER Ar} {pos p p1 p2 p3 : Pos}
theorem de_len (T : Bt X.mg) (hg : Gl X "len") (ha : DX X a ma) (he : starEach [a] X.env = (false, eval a X.env) :: starEach [] X.env := by rfl) (hpl : (backTo pos (starEach [] X.env)).any (·.1) = false := by rfl) :
    DE X (.Call (.Name "len" p) [a] [] pos) (e1 ma lenS) :=
  de_b1 (call_len_seq.or call_len_str) hg T.len PySem.boot_len ha (fun v w fp H d Q rs hf q => by
    unfold lenS at hf
    split at hf
    · rename_i z
      split at hf
      · rename_i hz
        cases hf
        exact .inr ⟨z, by rw [rs.str], hz, q _ _ (Same.refl H) (.int _)⟩
      · cases hf
    · obtain ⟨ds, hi, rfl⟩ := map_some hf
      obtain ⟨l, xs, rfl, hs, ra⟩ := rs.seq hi
      exact .inl ⟨l, xs, rfl, hs.imp id SqT.of, q _ _ (Same.refl H) (by rw [ra.length]; exact .int _)⟩) (by decide) (by decide) he hpl
theorem de_tuple (T : Bt X.mg) (hg : Gl X "tuple") (ha : DX X a ma) (he : starEach [a] X.env = (false, eval a X.env) :: starEach [] X.env := by rfl) (hpl : (backTo pos (starEach [] X.env)).any (·.1) = false := by rfl) :
    DE X (.Call (.Name "tuple" p) [a] [] pos) (e1 ma fun w => (itemsS w).map .tup) :=
  de_t1 call_tuple_of hg T.tuple (boot_cls .tuple (by decide)) ha (fun v w fp H d Q rs hf q => by
    obtain ⟨ds, hi, rfl⟩ := map_some hf
    obtain ⟨l, xs, rfl, hs, ra⟩ := rs.seq hi
    refine ⟨l, xs, rfl, ?_⟩
    rcases hs with hs | hs
    · refine .inl ⟨hs, fun p hp => ?_⟩
      have s : Same H (upd H p (.tup xs)) := Same.new hp
      exact q _ _ s (.tup upd_same (ra.mono (Same.gr s)))
    · exact .inr ⟨SqT.of hs, q _ _ (Same.refl H) (.tup hs ra)⟩) (by decide) (by decide) he hpl
theorem do_list (T : Bt X.mg) (hg : Gl X "list") (ha : DX X a ma) (he : starEach [a] X.env = (false, eval a X.env) :: starEach [] X.env := by rfl) (hpl : (backTo pos (starEach [] X.env)).any (·.1) = false := by rfl) :
    DO X (.Call (.Name "list" p) [a] [] pos) (e1 ma fun w => (itemsS w).map .lst) :=
  do_t1 call_list_of hg T.list (boot_cls .list (by decide)) ha (fun v w fp H d Q rs hf q => by
    obtain ⟨ds, hi, rfl⟩ := map_some hf
    obtain ⟨l, xs, rfl, hs, ra⟩ := rs.seq hi
    refine ⟨l, xs, rfl, hs.imp id SqT.of, fun p hp => ?_⟩
    have s : Same H (upd H p (.lst xs)) := Same.new hp
    exact q _ _ [p] s (.lst upd_same (ra.mono (Same.gr s))) (by simp) (fun b hb => by rw [List.mem_singleton.mp hb]; exact hp)) (by decide) (by decide) he hpl
theorem de_intOf (T : Bt X.mg) (hg : Gl X "int") (ha : DX X a ma) (he : starEach [a] X.env = (false, eval a X.env) :: starEach [] X.env := by rfl) (hpl : (backTo pos (starEach [] X.env)).any (·.1) = false := by rfl) :
    DE X (.Call (.Name "int" p) [a] [] pos) (e1 ma intOf) :=
  de_t1 call_int1 hg T.int (boot_cls .int (by decide)) ha (fun v w fp H d Q rs hf q => by
    unfold intOf at hf
    split at hf
    · cases hf; exact .inl ⟨_, by rw [rs.int rfl], q _ _ (Same.refl H) (.int _)⟩
    · cases hf; exact .inr ⟨_, by rw [rs.bl], q _ _ (Same.refl H) (.int _)⟩
    · cases hf) (by decide) (by decide) he hpl
theorem ints_of {v : V} {w : Sv} {fp : List Addr} {H : Hp} {α : Type} {g : List Int → Option α} {d : α} (rs : RS X.K H v w fp) (h : ((listS w).bind fun ds => (allM asInt ds).bind g) = some d) : ∃ a ns, v = .ref a ∧ SqL X.K H a (ns.map V.int) ∧ g ns = some d := by
  obtain ⟨ds, hl, h⟩ := Option.bind_eq_some_iff.mp h
  obtain ⟨ns, hn, h⟩ := Option.bind_eq_some_iff.mp h
  obtain ⟨l, xs, rfl, hs, ra⟩ := rs.list hl
  exact ⟨l, ns, rfl, by rw [← ra.ints hn]; exact hs, h⟩
theorem bls_of {v : V} {w : Sv} {fp : List Addr} {H : Hp} {α : Type} {g : List Bool → α} {d : α} (rs : RS X.K H v w fp) (h : ((listS w).bind fun ds => (allM asBl ds).map g) = some d) : ∃ a ns, v = .ref a ∧ SqL X.K H a (ns.map V.bl) ∧ g ns = d := by
  obtain ⟨ds, hl, h⟩ := Option.bind_eq_some_iff.mp h
  obtain ⟨ns, hn, h⟩ := map_some h
  obtain ⟨l, xs, rfl, hs, ra⟩ := rs.list hl
  exact ⟨l, ns, rfl, by rw [← ra.bls hn]; exact hs, h⟩
theorem de_max (hcalm : X.calm = true) (T : Bt X.mg) (hg : Gl X "max") (ha : DX X a ma) (he : starEach [a] X.env = (false, eval a X.env) :: starEach [] X.env := by rfl) (hpl : (backTo pos (starEach [] X.env)).any (·.1) = false := by rfl) :
    DE X (.Call (.Name "max" p) [a] [] pos) (e1 ma maxS) :=
  de_b1 (cr_max hcalm) hg T.max boot_max ha (fun v w fp H d Q rs hf q => by
    obtain ⟨l, ns, rfl, hs, hm⟩ := ints_of rs hf
    obtain ⟨m, hm1, rfl⟩ := map_some hm
    have hm' := List.max?_eq_some_iff.mp hm1
    refine ⟨l, ns, rfl, hs, List.length_pos_of_mem hm'.1, fun m' h1 h2 => ?_⟩
    have e : m' = m := by
      have a1 := h2 m hm'.1
      have a2 := hm'.2 m' h1
      omega
    subst e
    exact q _ _ (Same.refl H) (.int _)) (by decide) (by decide) he hpl
theorem de_min (hcalm : X.calm = true) (T : Bt X.mg) (hg : Gl X "min") (ha : DX X a ma) (he : starEach [a] X.env = (false, eval a X.env) :: starEach [] X.env := by rfl) (hpl : (backTo pos (starEach [] X.env)).any (·.1) = false := by rfl) :
    DE X (.Call (.Name "min" p) [a] [] pos) (e1 ma minS) :=
  de_b1 (cr_min hcalm) hg T.min boot_min ha (fun v w fp H d Q rs hf q => by
    obtain ⟨l, ns, rfl, hs, hm⟩ := ints_of rs hf
    obtain ⟨m, hm1, rfl⟩ := map_some hm
    have hm' := List.min?_eq_some_iff.mp hm1
    refine ⟨l, ns, rfl, hs, List.length_pos_of_mem hm'.1, fun m' h1 h2 => ?_⟩
    have e : m' = m := by
      have a1 := h2 m hm'.1
      have a2 := hm'.2 m' h1
      omega
    subst e
    exact q _ _ (Same.refl H) (.int _)) (by decide) (by decide) he hpl
theorem de_sum (hcalm : X.calm = true) (T : Bt X.mg) (hg : Gl X "sum") (ha : DX X a ma) (he : starEach [a] X.env = (false, eval a X.env) :: starEach [] X.env := by rfl) (hpl : (backTo pos (starEach [] X.env)).any (·.1) = false := by rfl) :
    DE X (.Call (.Name "sum" p) [a] [] pos) (e1 ma sumS) :=
  de_b1 (cr_sum hcalm) hg T.sum boot_sum ha (fun v w fp H d Q rs hf q => by
    unfold sumS at hf
    obtain ⟨ds, hl, h⟩ := Option.bind_eq_some_iff.mp hf
    obtain ⟨ns, hn, rfl⟩ := map_some h
    obtain ⟨l, xs, rfl, hs, ra⟩ := rs.list hl
    exact ⟨l, ns, rfl, by rw [← ra.ints hn]; exact hs, q _ _ (Same.refl H) (.int _)⟩) (by decide) (by decide) he hpl
theorem de_all (hcalm : X.calm = true) (T : Bt X.mg) (hg : Gl X "all") (ha : DX X a ma) (he : starEach [a] X.env = (false, eval a X.env) :: starEach [] X.env := by rfl) (hpl : (backTo pos (starEach [] X.env)).any (·.1) = false := by rfl) :
    DE X (.Call (.Name "all" p) [a] [] pos) (e1 ma allS) :=
  de_b1 (cr_all hcalm) hg T.all boot_all ha (fun v w fp H d Q rs hf q => by
    obtain ⟨l, ns, rfl, hs, rfl⟩ := bls_of rs hf
    exact ⟨l, ns, rfl, hs, q _ _ (Same.refl H) (.bl _)⟩) (by decide) (by decide) he hpl
theorem de_any (hcalm : X.calm = true) (T : Bt X.mg) (hg : Gl X "any") (ha : DX X a ma) (he : starEach [a] X.env = (false, eval a X.env) :: starEach [] X.env := by rfl) (hpl : (backTo pos (starEach [] X.env)).any (·.1) = false := by rfl) :
    DE X (.Call (.Name "any" p) [a] [] pos) (e1 ma anyS) :=
  de_b1 (cr_any hcalm) hg T.any boot_any ha (fun v w fp H d Q rs hf q => by
    obtain ⟨l, ns, rfl, hs, rfl⟩ := bls_of rs hf
    exact ⟨l, ns, rfl, hs, q _ _ (Same.refl H) (.bl _)⟩) (by decide) (by decide) he hpl
end

/-! ### functions -/
inductive FR where
  | ret (w : Sv) (outs : DS) | ex (x : Exn) (outs : DS) | stuck
abbrev FM := List Sv → FR
def spD (mg : Str → Option Value) (K : PySem.W.Frag) (n : Nat) (m : FM) : Sp := fun vs H Q E => vs.length = n ∧ ∃ ws fp, SR K H (vs.map some) (ws.map some) fp ∧ fp.Nodup ∧ match m ws with
  | .ret w outs => ∀ v H' fw fo, RS K H' v w fw → SR K H' (vs.map some) outs fo → (fw ++ fo).Nodup → (∀ b ∈ fw ++ fo, H b = none ∨ b ∈ fp) → SameBut fp H H' → Q v H'
  | .ex x outs => ∀ cls d H' fo, XR mg K x cls d H' → SR K H' (vs.map some) outs fo → fo.Nodup → (∀ b ∈ fo, H b = none ∨ b ∈ fp) → SameBut fp H H' → E cls d H'
  | .stuck => False
/-- the def called x keeps: it does what m says -/
structure DFn (P : Program) (w : World) (K : PySem.W.Frag) (mg : Str → Option Value) (base : Heap) (k : Nat) (x : Str) (n : Nat) (m : FM) : Prop where
  ex : ∃ f fd ps, mg x = some (.ref f) ∧ PySem.W.keepIn K (.ref f) = true ∧ Binds K fd ps [] ∧ ps.length = n ∧ FnOk P w K mg base (L2.CX P w) k f fd ps (spD mg K n m)
theorem DFn.mono {P : Program} {w : World} {K : PySem.W.Frag} {mg : Str → Option Value} {base : Heap} {j k : Nat} {x : Str} {n : Nat} {m : FM} (h : DFn P w K mg base j x n m) (hk : j ≤ k) : DFn P w K mg base k x n m := by
  obtain ⟨f, fd, ps, h1, h2, h3, h4, h5⟩ := h.ex
  exact ⟨f, fd, ps, h1, h2, h3, h4, h5.mono hk⟩
def takeA : List Ar → DS → Option (List Sv × DS)
  | [], st => some ([], st)
  | .v d :: as, st => (takeA as st).map fun r => (.val d :: r.1, r.2)
  | .s i :: as, st => match (st[i]?).join with
    | some w => (takeA as (st.set i none)).map fun r => (w :: r.1, r.2)
    | none => none
def giveA : List Ar → DS → DS → DS
  | .s i :: as, some w :: os, st => giveA as os (st.set i (some w))
  | _ :: as, _ :: os, st => giveA as os st
  | _, _, st => st
def callM (m : FM) (margs : DS → ER (List Ar)) : DS → ER Sv := fun st => (margs st).bind fun as st1 => match takeA as st1 with
  | some (ws, st2) => match m ws with
    | .ret w outs => .ok w (giveA as outs st2)
    | .ex x outs => .ex x (giveA as outs st2)
    | .stuck => .stuck
  | none => .stuck
theorem take_ok {K : PySem.W.Frag} {Γ : Fr} {σ : L2.St} {H : Hp} : ∀ {as : List Ar} {vs : List V} {st : DS} {ws : List Sv} {st2 : DS} {fx : List Addr}, Rel K Γ st σ H fx → ARs K H σ vs as → takeA as st = some (ws, st2) →
    ∃ fp, SR K H (vs.map some) (ws.map some) fp ∧ Rel K Γ st2 σ H (fp ++ fx)
  | [], [], st, ws, st2, fx, r, _, e => by cases e; exact ⟨[], .nil, r⟩
  | .v d :: as, v :: vs, st, ws, st2, fx, r, .cons ha hs, e => by
    obtain ⟨⟨ws', st'⟩, e1, e2⟩ := map_some e
    cases e2
    obtain ⟨fp, h1, h2⟩ := take_ok r hs e1
    exact ⟨fp, .yes (fp1 := []) (.val ha) h1, h2⟩
  | .s i :: as, v :: vs, st, ws, st2, fx, r, .cons ha hs, e => by
    simp only [takeA] at e
    cases q : (st[i]?).join with
    | none => rw [q] at e; cases e
    | some w =>
      rw [q] at e
      obtain ⟨⟨ws', st'⟩, e1, e2⟩ := map_some e
      cases e2
      obtain ⟨v', fpi, g1, g2, g3⟩ := r.pull (join_some q)
      have ha' : σ[i]? = some (some v) := ha
      rw [ha'] at g1
      cases g1
      obtain ⟨fp, h1, h2⟩ := take_ok g3 hs e1
      refine ⟨fpi ++ fp, .yes g2 h1, h2.perm ?_⟩
      rw [← List.append_assoc]
      exact List.Perm.append_right fx List.perm_append_comm
theorem give_ok {K : PySem.W.Frag} {Γ : Fr} {σ : L2.St} {H : Hp} : ∀ {as : List Ar} {vs : List V} {outs st : DS} {fo fx : List Addr}, Rel K Γ st σ H (fo ++ fx) → (∀ (j i : Nat) (v : V), as[j]? = some (Ar.s i) → vs[j]? = some v → σ[i]? = some (some v)) → SR K H (vs.map some) outs fo → Rel K Γ (giveA as outs st) σ H fx
  | [], vs, outs, st, fo, fx, r, _, s => by
    have r' := Rel.after r (H' := H) (fun _ _ h _ => h) (nf := []) List.nodup_nil nofun nofun
    simpa [giveA] using r'
  | .v d :: as, [], outs, st, fo, fx, r, ha, s => by
    cases s
    simpa [giveA] using r
  | .v d :: as, v :: vs, outs, st, fo, fx, r, ha, s => by
    cases outs with
    | nil => cases s
    | cons o os =>
      obtain ⟨f1, f2, rfl, h1, h2⟩ := SR.head (o := some v) s
      have r' : Rel K Γ st σ H (f2 ++ fx) := Rel.after (fp := f1) (fx := f2 ++ fx) (by rw [← List.append_assoc]; exact r) (H' := H) (fun _ _ h _ => h) (nf := []) List.nodup_nil nofun nofun
      have := give_ok (as := as) r' (fun j i w e1 e2 => ha (j + 1) i w e1 e2) h2
      cases o <;> simpa [giveA] using this
  | .s i :: as, [], outs, st, fo, fx, r, ha, s => by
    cases s
    simpa [giveA] using r
  | .s i :: as, v :: vs, outs, st, fo, fx, r, ha, s => by
    cases outs with
    | nil => cases s
    | cons o os =>
      obtain ⟨f1, f2, rfl, h1, h2⟩ := SR.head (o := some v) s
      cases o with
      | none =>
        have r' : Rel K Γ st σ H (f2 ++ fx) := Rel.after (fp := f1) (fx := f2 ++ fx) (by rw [← List.append_assoc]; exact r) (H' := H) (fun _ _ h _ => h) (nf := []) List.nodup_nil nofun nofun
        have := give_ok (as := as) r' (fun j i w e1 e2 => ha (j + 1) i w e1 e2) h2
        simpa [giveA] using this
      | some w =>
        cases h1 with
        | yes h1 =>
          have e : σ[i]? = some (some v) := ha 0 i v rfl rfl
          have r' := Rel.push (fo := f1) (fx := f2 ++ fx) (by rw [← List.append_assoc]; exact r) e h1
          have := give_ok (as := as) r' (fun j i w e1 e2 => ha (j + 1) i w e1 e2) h2
          simpa [giveA] using this
theorem ARs.at {K : PySem.W.Frag} {H : Hp} {σ : L2.St} : ∀ {vs : List V} {as : List Ar}, ARs K H σ vs as → ∀ (j i : Nat) (v : V), as[j]? = some (Ar.s i) → vs[j]? = some v → σ[i]? = some (some v)
  | _, _, .nil, j, i, v, e, _ => by simp at e
  | _, _, .cons h t, 0, i, v, e1, e2 => by
    simp only [List.getElem?_cons_zero, Option.some.injEq] at e1 e2
    subst e1 e2
    exact h
  | _, _, .cons h t, j + 1, i, v, e1, e2 => ARs.at t j i v (by simpa using e1) (by simpa using e2)
theorem ARs.length {K : PySem.W.Frag} {H : Hp} {σ : L2.St} : ∀ {vs : List V} {as : List Ar}, ARs K H σ vs as → vs.length = as.length
  | _, _, .nil => rfl
  | _, _, .cons _ t => congrArg Nat.succ (ARs.length t)
theorem takeA_len : ∀ {as : List Ar} {st : DS} {ws : List Sv} {st2 : DS}, takeA as st = some (ws, st2) → ws.length = as.length
  | [], _, _, _, e => by cases e; rfl
  | .v d :: as, st, ws, st2, e => by
    obtain ⟨⟨ws', st'⟩, e1, e2⟩ := map_some e
    cases e2
    exact congrArg Nat.succ (takeA_len e1)
  | .s i :: as, st, ws, st2, e => by
    simp only [takeA] at e
    cases q : (st[i]?).join with
    | none => rw [q] at e; cases e
    | some w =>
      rw [q] at e
      obtain ⟨⟨ws', st'⟩, e1, e2⟩ := map_some e
      cases e2
      exact congrArg Nat.succ (takeA_len e1)
theorem SR.nodup_of_rel {K : PySem.W.Frag} {Γ : Fr} {st : DS} {σ : L2.St} {H : Hp} {fp fx : List Addr} (r : Rel K Γ st σ H (fp ++ fx)) : fp.Nodup := by
  obtain ⟨⟨fq, h, nd, mi⟩, _⟩ := r
  rw [List.append_assoc] at nd
  exact (List.nodup_append.mp nd).1
theorem do_call {X : Cx} {k : Nat} {x : Str} {n : Nat} {m : FM} {e : Expr} {es : List Expr} {margs : DS → ER (List Ar)} {p pos : Pos} (F : DFn X.prog X.w X.K X.mg X.base k x n m) (hr : Room k X.A) (hg : Gl X x) (ha : DA X (e :: es) margs) (hn : (e :: es).length = n := by rfl)
    (hdb : (x == ("__debug__" : Str)) = false := by decide) (he : starEach (e :: es) X.env = (false, eval e X.env) :: starEach es X.env := by rfl) (hpl : (backTo pos (starEach es X.env)).any (·.1) = false := by rfl) :
    DO X (.Call (.Name x p) (e :: es) [] pos) (callM m margs) := by
  obtain ⟨f, fd, ps, h1, h2, h3, h4, h5⟩ := F.ex
  refine ⟨fun Wx tk => pe_imp (pe_callS h5 hr hg h1 h2 h3 (fun σ => passAt tk σ) (ha.pa Wx tk) hdb he hpl) fun σ H Q ⟨Γ, st, r, q⟩ => ⟨Γ, st, r, ?_⟩⟩
  refine fin.imp (fin.bind q) fun as st1 q1 vs H1 r1 g1 ar hl => ?_
  cases et : takeA as st1 with
  | none => rw [et] at q1; exact q1.elim
  | some p0 =>
    obtain ⟨ws, st2⟩ := p0
    rw [et] at q1
    obtain ⟨fp, s1, r2⟩ := take_ok r1 ar et
    have r2' : Rel X.K Γ st2 σ H1 (fp ++ []) := r2
    have ndf := SR.nodup_of_rel r2'
    have ownf : ∀ b ∈ fp, Own H1 b := s1.own
    refine ⟨?_, ws, fp, s1, ndf, ?_⟩
    · rw [hl]; exact hn
    · cases em : m ws with
      | stuck => simp only [em] at q1; exact q1.elim
      | ret w outs =>
        simp only [em] at q1 ⊢
        intro v H2 fw fo hv ho nd hn sb
        have own2 : ∀ b ∈ fw ++ fo, Own H2 b := fun b hb => (List.mem_append.mp hb).elim (hv.own b) (ho.own b)
        have r3 := r2'.after sb nd hn own2
        rw [List.append_nil] at r3
        have r4 : Rel X.K Γ st2 σ H2 (fo ++ fw) := r3.perm List.perm_append_comm
        exact q1 v H2 fw (give_ok r4 ar.at ho) (g1.trans (sb.gr ownf)) hv
      | ex x outs =>
        simp only [em] at q1 ⊢
        intro cls d H2 fo hx ho nd hn sb
        have r3 := r2'.after sb nd hn ho.own
        exact q1 cls d σ H2 (give_ok r3 ar.at ho) (g1.trans (sb.gr ownf)) hx
end DL

/-! ## DL8 -/
namespace DL
open PySem PySem.Spec PyProof.Rows L2

inductive SO where
  | nx (st : DS) | rt (w : Sv) (st : DS) | bk (st : DS) | ct (st : DS) | ex (x : Exn) (st : DS) | stuck
def ER.s {α : Type} (r : ER α) (f : α → DS → SO) : SO := match r with
  | .ok a st => f a st
  | .ex x st => .ex x st
  | .stuck => .stuck
@[simp] theorem ER.s_ok {α : Type} {a : α} {st : DS} {f : α → DS → SO} : (ER.ok a st).s f = f a st := rfl
@[simp] theorem ER.s_ex {α : Type} {x : Exn} {st : DS} {f : α → DS → SO} : (ER.ex x st : ER α).s f = .ex x st := rfl
@[simp] theorem ER.s_stuck {α : Type} {f : α → DS → SO} : (ER.stuck : ER α).s f = .stuck := rfl
def seqS (r : SO) (f : DS → SO) : SO := match r with
  | .nx st => f st
  | r => r
@[simp] theorem seqS_nx {st : DS} {f : DS → SO} : seqS (.nx st) f = f st := rfl
@[simp] theorem seqS_rt {w : Sv} {st : DS} {f : DS → SO} : seqS (.rt w st) f = .rt w st := rfl
@[simp] theorem seqS_bk {st : DS} {f : DS → SO} : seqS (.bk st) f = .bk st := rfl
@[simp] theorem seqS_ct {st : DS} {f : DS → SO} : seqS (.ct st) f = .ct st := rfl
@[simp] theorem seqS_ex {x : Exn} {st : DS} {f : DS → SO} : seqS (.ex x st) f = .ex x st := rfl
@[simp] theorem seqS_stuck {f : DS → SO} : seqS .stuck f = .stuck := rfl
def finS (X : Cx) (Wx : WX) (Γ : Fr) (H : Hp) (r : SO) (D : Ends) : Prop := match r with
  | .nx st' => ∀ σ' H', Rel X.K Γ st' σ' H' [] → Gr H H' → D.nx σ' H'
  | .bk st' => ∀ σ' H', Rel X.K Γ st' σ' H' [] → Gr H H' → D.bk σ' H'
  | .ct st' => ∀ σ' H', Rel X.K Γ st' σ' H' [] → Gr H H' → D.ct σ' H'
  | .rt w st' => ∀ v σ' H' fw, Rel X.K Γ st' σ' H' fw → Gr H H' → RS X.K H' v w fw → D.rt v H'
  | .ex x st' => ∀ cls d σ' H', Rel X.K Γ st' σ' H' [] → Gr H H' → XR X.mg X.K x cls d H' → Wx cls d σ' H'
  | .stuck => False
theorem finS.gr {X : Cx} {Wx : WX} {Γ : Fr} {H H1 : Hp} {r : SO} {D : Ends} (g : Gr H H1) (h : finS X Wx Γ H r D) : finS X Wx Γ H1 r D := by
  cases r with
  | nx st => exact fun σ' H' r q => h σ' H' r (g.trans q)
  | bk st => exact fun σ' H' r q => h σ' H' r (g.trans q)
  | ct st => exact fun σ' H' r q => h σ' H' r (g.trans q)
  | rt w st => exact fun v σ' H' fw r q => h v σ' H' fw r (g.trans q)
  | ex x st => exact fun c d σ' H' r q => h c d σ' H' r (g.trans q)
  | stuck => exact h
/-- an expression's result inside a statement -/
theorem finS.e {α : Type} {X : Cx} {Wx : WX} {Γ : Fr} {σ : L2.St} {H : Hp} {r : ER α} {f : α → DS → SO} {D : Ends} (h : finS X Wx Γ H (r.s f) D) : fin X Wx Γ σ H r fun a st => finS X Wx Γ H (f a st) D := by
  cases r with
  | ok a st => exact h
  | ex x st => exact h
  | stuck => exact h
def tS (X : Cx) (pn : List Nat) (Wx : WX) (m : DS → SO) : TS := fun D σ H => ∃ Γ st, (∀ i, i ∉ pn → ∀ p ∈ Γ.pin, p.1 ≠ i) ∧ Rel X.K Γ st σ H [] ∧ finS X Wx Γ H (m st) D
structure DSt (X : Cx) (pn : List Nat) (s : Stmt) (m : DS → SO) : Prop where
  ps : ∀ Wx, Takes X Wx → PS X s (tS X pn Wx m)
structure DSs (X : Cx) (pn : List Nat) (s : List Stmt) (m : DS → SO) : Prop where
  ps : ∀ Wx, Takes X Wx → PSs X s (tS X pn Wx m)
theorem ps_imp {X : Cx} {e : Stmt} {t t' : TS} (h : PS X e t) (k : ∀ D σ H, t' D σ H → t D σ H) : PS X e t' := ⟨fun pins s σ H D I q => h.run pins s σ H D I (k _ _ _ q)⟩
theorem pss_imp {X : Cx} {e : List Stmt} {t t' : TS} (h : PSs X e t) (k : ∀ D σ H, t' D σ H → t D σ H) : PSs X e t' := ⟨fun pins s σ H D I q => h.run pins s σ H D I (k _ _ _ q)⟩
section
variable {X : Cx} {pn : List Nat} {s : Stmt} {ss a b : List Stmt} {e c : Expr} {m ma mb : DS → SO} {pos : Pos}
theorem dss_nil : DSs X pn [] fun st => .nx st := ⟨fun Wx tk => pss_imp pss_nil fun D σ H ⟨Γ, st, np, r, q⟩ => q σ H r (Gr.refl H)⟩
theorem dss_cons (h : DSt X pn s ma) (hs : DSs X pn ss mb) : DSs X pn (s :: ss) fun st => seqS (ma st) mb := by
  refine ⟨fun Wx tk => pss_imp (pss_cons (h.ps Wx tk) (hs.ps Wx tk)) fun D σ H ⟨Γ, st, np, r, q⟩ => ⟨Γ, st, np, r, ?_⟩⟩
  cases e : ma st with
  | nx st1 =>
    have q' : finS X Wx Γ H (mb st1) D := by
      have q1 : finS X Wx Γ H (seqS (ma st) mb) D := q
      rw [e] at q1; exact q1
    exact fun σ' H' r' g' => ⟨Γ, st1, np, r', q'.gr g'⟩
  | bk st1 => have q1 : finS X Wx Γ H (seqS (ma st) mb) D := q; rw [e] at q1; exact q1
  | ct st1 => have q1 : finS X Wx Γ H (seqS (ma st) mb) D := q; rw [e] at q1; exact q1
  | rt w st1 => have q1 : finS X Wx Γ H (seqS (ma st) mb) D := q; rw [e] at q1; exact q1
  | ex x st1 => have q1 : finS X Wx Γ H (seqS (ma st) mb) D := q; rw [e] at q1; exact q1
  | stuck => have q1 : finS X Wx Γ H (seqS (ma st) mb) D := q; rw [e] at q1; exact q1
theorem dss_one (h : DSt X pn s ma) : DSs X pn [s] ma := ⟨fun Wx tk => pss_one (h.ps Wx tk)⟩
theorem ds_pass : DSt X pn (.Pass pos) fun st => .nx st := ⟨fun Wx tk => ps_imp ps_pass fun D σ H ⟨Γ, st, np, r, q⟩ => q σ H r (Gr.refl H)⟩
theorem ds_break : DSt X pn (.Break pos) fun st => .bk st := ⟨fun Wx tk => ps_imp ps_break fun D σ H ⟨Γ, st, np, r, q⟩ => q σ H r (Gr.refl H)⟩
theorem ds_continue : DSt X pn (.Continue pos) fun st => .ct st := ⟨fun Wx tk => ps_imp ps_continue fun D σ H ⟨Γ, st, np, r, q⟩ => q σ H r (Gr.refl H)⟩
theorem Rel.drop {K : PySem.W.Frag} {Γ : Fr} {st : DS} {σ : L2.St} {H : Hp} {fx : List Addr} (r : Rel K Γ st σ H fx) : Rel K Γ st σ H [] := by
  have r' : Rel K Γ st σ H (fx ++ []) := by rw [List.append_nil]; exact r
  simpa using Rel.after r' (H' := H) (fun _ _ h _ => h) (nf := []) List.nodup_nil nofun nofun
theorem ds_expr {me : DS → ER Sv} (h : DO X e me) (hs : swapsWith e none pos.line X.env = pure false := by rfl) : DSt X pn (.Expr e pos) fun st => (me st).s fun _ st1 => .nx st1 := by
  refine ⟨fun Wx tk => ps_imp (ps_expr (h.pe Wx tk) hs) fun D σ H ⟨Γ, st, np, r, q⟩ => ⟨Γ, st, r, ?_⟩⟩
  exact fin.imp (finS.e q) fun w st1 q1 v H1 fw r1 g1 _ => q1 σ H1 r1.drop g1
theorem ds_ret {me : DS → ER Sv} (h : DO X e me) : DSt X pn (.Return (some e) pos) fun st => (me st).s fun w st1 => .rt w st1 := by
  refine ⟨fun Wx tk => ps_imp (ps_ret (h.pe Wx tk)) fun D σ H ⟨Γ, st, np, r, q⟩ => ⟨Γ, st, r, ?_⟩⟩
  exact fin.imp (finS.e q) fun w st1 q1 v H1 fw r1 g1 rs => q1 v σ H1 fw r1 g1 rs
theorem ds_retD {me : DS → ER Py} (h : DE X e me) : DSt X pn (.Return (some e) pos) fun st => (me st).s fun d st1 => .rt (.val d) st1 := by
  refine ⟨fun Wx tk => ps_imp (ps_ret (h.pe Wx tk)) fun D σ H ⟨Γ, st, np, r, q⟩ => ⟨Γ, st, r, ?_⟩⟩
  exact fin.imp (finS.e q) fun w st1 q1 v H1 r1 g1 rd => q1 v σ H1 [] r1 g1 (.val rd)
theorem ds_retN : DSt X pn (.Return none pos) fun st => .rt (.val .non) st := ⟨fun Wx tk => ps_imp ps_retN fun D σ H ⟨Γ, st, np, r, q⟩ => q .non σ H [] r (Gr.refl H) (.val .non)⟩
def putO (i : Nat) (w : Sv) (st : DS) : SO := if i < st.length then .nx (st.set i (some w)) else .stuck
theorem ds_set {i : Nat} {x : Str} {pos' : Pos} {me : DS → ER Sv} (hN : X.N.Nodup) (hi : X.N[i]? = some x) (hx : Loc X.env.scope x) (h : DO X e me) (hp : i ∉ pn) (hs : swapsWith e (some (.Name x pos')) pos.line X.env = pure false := by rfl) (hf : X.fn x = true ∨ X.env.scope.names.lookup x = some .local := by first | exact .inl rfl | exact .inr rfl | assumption) :
    DSt X pn (.Assign [.Name x pos'] e pos) fun st => (me st).s fun w st1 => putO i w st1 := by
  refine ⟨fun Wx tk => ps_imp (ps_set hN hi hx (h.pe Wx tk) hs hf) fun D σ H ⟨Γ, st, np, r, q⟩ => ⟨Γ, st, r, ?_⟩⟩
  refine fin.imp (finS.e q) fun w st1 q1 v H1 fw r1 g1 rs => ?_
  unfold putO at q1
  split at q1
  · rename_i hl
    exact q1 _ H1 (r1.set hl rs (np i hp)) g1
  · exact q1.elim
theorem ds_setD {i : Nat} {x : Str} {pos' : Pos} {me : DS → ER Py} (hN : X.N.Nodup) (hi : X.N[i]? = some x) (hx : Loc X.env.scope x) (h : DE X e me) (hp : i ∉ pn) (hs : swapsWith e (some (.Name x pos')) pos.line X.env = pure false := by rfl) (hf : X.fn x = true ∨ X.env.scope.names.lookup x = some .local := by first | exact .inl rfl | exact .inr rfl | assumption) :
    DSt X pn (.Assign [.Name x pos'] e pos) fun st => (me st).s fun d st1 => putO i (.val d) st1 := by
  refine ⟨fun Wx tk => ps_imp (ps_set hN hi hx (h.pe Wx tk) hs hf) fun D σ H ⟨Γ, st, np, r, q⟩ => ⟨Γ, st, r, ?_⟩⟩
  refine fin.imp (finS.e q) fun w st1 q1 v H1 r1 g1 rs => ?_
  unfold putO at q1
  split at q1
  · rename_i hl
    exact q1 _ H1 (r1.set (fx := []) hl (.val rs) (np i hp)) g1
  · exact q1.elim

/-! ### targets -/
def OnlyAt (ts : List Nat) (σ σ' : L2.St) : Prop := σ'.length = σ.length ∧ ∀ j, j ∉ ts → σ'[j]? = σ[j]?
def tG (X : Cx) (pn ts : List Nat) (f : Py → DS → Option DS) : TG := fun v σ H Q => ∃ Γ st d, (∀ i, i ∉ pn → ∀ p ∈ Γ.pin, p.1 ≠ i) ∧ Rel X.K Γ st σ H [] ∧ R X.K H v d ∧ ∃ st', f d st = some st' ∧ ∀ σ', OnlyAt ts σ σ' → Rel X.K Γ st' σ' H [] → Q σ' H
def tGs (X : Cx) (pn ts : List Nat) (f : List Py → DS → Option DS) : TGs := fun vs σ H Q => ∃ Γ st ds, (∀ i, i ∉ pn → ∀ p ∈ Γ.pin, p.1 ≠ i) ∧ Rel X.K Γ st σ H [] ∧ RA X.K H vs ds ∧ ∃ st', f ds st = some st' ∧ ∀ σ', OnlyAt ts σ σ' → Rel X.K Γ st' σ' H [] → Q σ' H
structure DG (X : Cx) (pn ts : List Nat) (tg : Expr) (f : Py → DS → Option DS) : Prop where
  pg : PG X tg (tG X pn ts f)
structure DGs (X : Cx) (pn ts : List Nat) (tg : List Expr) (f : List Py → DS → Option DS) : Prop where
  pg : PGs X tg (tGs X pn ts f)
theorem pg_imp {tg : Expr} {t t' : TG} (h : PG X tg t) (k : ∀ v σ H Q, t' v σ H Q → t v σ H Q) : PG X tg t' := ⟨fun pins s σ H v u Q I r q => h.run pins s σ H v u Q I r (k _ _ _ _ q)⟩
theorem pgs_imp {tg : List Expr} {t t' : TGs} (h : PGs X tg t) (k : ∀ v σ H Q, t' v σ H Q → t v σ H Q) : PGs X tg t' := ⟨fun pins s σ H v u Q I r q => h.run pins s σ H v u Q I r (k _ _ _ _ q)⟩
def gNameS (i : Nat) (d : Py) (st : DS) : Option DS := if i < st.length then some (st.set i (some (.val d))) else none
theorem dg_name {i : Nat} {x : Str} (hN : X.N.Nodup) (hi : X.N[i]? = some x) (hx : Loc X.env.scope x) (hp : i ∉ pn) (hf : X.fn x = true ∨ X.env.scope.names.lookup x = some .local := by first | exact .inl rfl | exact .inr rfl | assumption) : DG X pn [i] (.Name x pos) (gNameS i) := by
  refine ⟨pg_imp (pg_name hN hi hx hf) fun v σ H Q ⟨Γ, st, d, np, r, rd, st', e, q⟩ => ?_⟩
  unfold gNameS at e
  split at e
  · rename_i hl
    cases e
    exact q _ ⟨by simp, fun j hj => List.getElem?_set_ne (fun z => hj (by simp [z]))⟩ (r.set (fx := []) hl (.val rd) (np i hp))
  · cases e
def gNilS : List Py → DS → Option DS
  | [], st => some st
  | _, _ => none
def gConsS (f : Py → DS → Option DS) (g : List Py → DS → Option DS) : List Py → DS → Option DS
  | d :: ds, st => (f d st).bind (g ds)
  | [], _ => none
theorem dgs_nil : DGs X pn [] [] gNilS := ⟨pgs_imp pgs_nil fun v σ H Q ⟨Γ, st, ds, np, r, rd, st', e, q⟩ => by
  cases ds with
  | nil => cases e; cases rd; exact ⟨rfl, q _ ⟨rfl, fun _ _ => rfl⟩ r⟩
  | cons _ _ => cases e⟩
theorem OnlyAt.trans {t1 t2 : List Nat} {σ σ1 σ2 : L2.St} (h : OnlyAt t1 σ σ1) (k : OnlyAt t2 σ1 σ2) : OnlyAt (t1 ++ t2) σ σ2 :=
  ⟨k.1.trans h.1, fun j hj => (k.2 j fun z => hj (List.mem_append_right _ z)).trans (h.2 j fun z => hj (List.mem_append_left _ z))⟩
theorem dgs_cons {e : Expr} {es : List Expr} {t1 t2 : List Nat} {f : Py → DS → Option DS} {g : List Py → DS → Option DS} (h : DG X pn t1 e f) (hr : DGs X pn t2 es g) (hs : (assignEach (e :: es) X.env).map (·.2) = assign e X.env :: (assignEach es X.env).map (·.2) := by rfl) : DGs X pn (t1 ++ t2) (e :: es) (gConsS f g) := by
  refine ⟨pgs_imp (pgs_cons h.pg hr.pg hs) fun v σ H Q ⟨Γ, st, ds, np, r, rd, st', e, q⟩ => ?_⟩
  cases ds with
  | nil => cases e
  | cons d ds =>
    cases rd with
    | cons h1 h2 =>
      obtain ⟨st1, e1, e2⟩ := Option.bind_eq_some_iff.mp e
      exact ⟨_, _, rfl, Γ, st, d, np, r, h1, st1, e1, fun σ' o1 r1 => ⟨Γ, st1, ds, np, r1, h2, st', e2, fun σ2 o2 r2 => q σ2 (o1.trans o2) r2⟩⟩
def gTupS (n : Nat) (g : List Py → DS → Option DS) : Py → DS → Option DS
  | .tup ds, st => if ds.length = n then g ds st else none
  | _, _ => none
theorem dg_tup {es : List Expr} {k n : Nat} {ts : List Nat} {g : List Py → DS → Option DS} (hc : X.calm = true) (h : DGs X pn ts es g) (hn : (assignEach es X.env).length = n := by rfl) (hst : (assignEach es X.env).findIdx? (·.1) = none := by rfl) : DG X pn ts (.Tuple es k pos) (gTupS n g) := by
  refine ⟨pg_imp (pg_tup hc h.pg hn hst) fun v σ H Q ⟨Γ, st, d, np, r, rd, st', e, q⟩ => ?_⟩
  cases d <;> try cases e
  rename_i ds
  have e' : (if ds.length = n then g ds st else none) = some st' := e
  split at e'
  · rename_i hl
    cases rd with
    | tup hs ra => exact ⟨_, _, rfl, SqT.of hs, by rw [ra.length]; exact hl, Γ, st, ds, np, r, ra, st', e', q⟩
  · cases e'
def tgtO (o : Option DS) : SO := match o with
  | some st => .nx st
  | none => .stuck
theorem ds_asg {tg : Expr} {ts : List Nat} {me : DS → ER Py} {f : Py → DS → Option DS} (he : DE X e me) (hg : DG X pn ts tg f) (hs : swapsWithSole [tg] e pos.line X.env = pure false := by rfl) (hw : swappedStores [tg] e X.env = pure none := by rfl) (h1 : (assignEach [tg] X.env).map (·.2) = [assign tg X.env] := by rfl) :
    DSt X pn (.Assign [tg] e pos) fun st => (me st).s fun d st1 => tgtO (f d st1) := by
  refine ⟨fun Wx tk => ps_imp (ps_asg (he.pe Wx tk) hg.pg hs hw h1) fun D σ H ⟨Γ, st, np, r, q⟩ => ⟨Γ, st, r, ?_⟩⟩
  refine fin.imp (finS.e q) fun d st1 q1 v H1 r1 g1 rd => ?_
  cases ef : f d st1 with
  | none => rw [ef] at q1; exact q1.elim
  | some st' =>
    rw [ef] at q1
    exact ⟨Γ, st1, d, np, r1, rd, st', ef, fun σ' _ r2 => q1 σ' H1 r2 g1⟩

/-! ### if -/
theorem ds_if {mc : DS → ER Bool} (hc : DT X c mc) (ha : DSs X pn a ma) (hb : DSs X pn b mb) : DSt X pn (.If c a b pos) fun st => (mc st).s fun k st1 => if k then ma st1 else mb st1 := by
  refine ⟨fun Wx tk => ps_imp (ps_if (hc.pt Wx tk) (ha.ps Wx tk) (hb.ps Wx tk)) fun D σ H ⟨Γ, st, np, r, q⟩ => ⟨Γ, st, r, ?_⟩⟩
  refine fin.imp (finS.e q) fun k st1 q1 H1 r1 g1 => ?_
  cases k with
  | true =>
    rw [if_pos rfl]
    have q2 : finS X Wx Γ H (ma st1) D := q1
    exact ⟨Γ, st1, np, r1, q2.gr g1⟩
  | false =>
    rw [if_neg Bool.false_ne_true]
    have q2 : finS X Wx Γ H (mb st1) D := q1
    exact ⟨Γ, st1, np, r1, q2.gr g1⟩

/-! ### loops -/
def loopS (r : SO) (f : DS → SO) : SO := match r with
  | .nx st => f st
  | .ct st => f st
  | .bk st => .nx st
  | .rt w st => .rt w st
  | .ex x st => .ex x st
  | .stuck => .stuck
@[simp] theorem loopS_nx {st : DS} {f : DS → SO} : loopS (.nx st) f = f st := rfl
@[simp] theorem loopS_ct {st : DS} {f : DS → SO} : loopS (.ct st) f = f st := rfl
@[simp] theorem loopS_bk {st : DS} {f : DS → SO} : loopS (.bk st) f = .nx st := rfl
@[simp] theorem loopS_rt {w : Sv} {st : DS} {f : DS → SO} : loopS (.rt w st) f = .rt w st := rfl
@[simp] theorem loopS_ex {x : Exn} {st : DS} {f : DS → SO} : loopS (.ex x st) f = .ex x st := rfl
@[simp] theorem loopS_stuck {f : DS → SO} : loopS .stuck f = .stuck := rfl
theorem loop_fin {Wx : WX} {Γ : Fr} {H : Hp} {r : SO} {f : DS → SO} {D : Ends} {Nx : L2.St → Hp → Prop} (h : finS X Wx Γ H (loopS r f) D) (hn : ∀ st σ' H', finS X Wx Γ H (f st) D → Rel X.K Γ st σ' H' [] → Gr H H' → Nx σ' H') :
    finS X Wx Γ H r { D with nx := Nx, ct := Nx, bk := D.nx } := by
  cases r with
  | nx st => exact fun σ' H' r g => hn st σ' H' h r g
  | ct st => exact fun σ' H' r g => hn st σ' H' h r g
  | bk st => exact h
  | rt w st => exact h
  | ex x st => exact h
  | stuck => exact h
def whileN (c : DS → ER Bool) (b : DS → SO) : Nat → DS → SO
  | 0, _ => .stuck
  | n + 1, st => (c st).s fun k st1 => if k then loopS (b st1) (whileN c b n) else .nx st1
theorem whileN_succ {c : DS → ER Bool} {b : DS → SO} : ∀ (n : Nat) (st : DS), whileN c b n st ≠ .stuck → whileN c b (n + 1) st = whileN c b n st
  | 0, st, h => absurd rfl h
  | n + 1, st, h => by
    show ((c st).s fun k st1 => if k then loopS (b st1) (whileN c b (n + 1)) else .nx st1) = ((c st).s fun k st1 => if k then loopS (b st1) (whileN c b n) else .nx st1)
    have h' : ((c st).s fun k st1 => if k then loopS (b st1) (whileN c b n) else .nx st1) ≠ .stuck := h
    cases e : c st with
    | ok k st1 =>
      rw [e] at h'
      simp only [ER.s_ok] at h' ⊢
      cases k with
      | false => rfl
      | true =>
        simp only [if_true] at h' ⊢
        cases e2 : b st1 with
        | nx st2 => rw [e2] at h'; simp only [loopS_nx] at h' ⊢; exact whileN_succ n st2 h'
        | ct st2 => rw [e2] at h'; simp only [loopS_ct] at h' ⊢; exact whileN_succ n st2 h'
        | bk st2 => rfl
        | rt w st2 => rfl
        | ex x st2 => rfl
        | stuck => rfl
    | ex x st1 => rfl
    | stuck => rfl
theorem whileN_le {c : DS → ER Bool} {b : DS → SO} {n m : Nat} {st : DS} (h : whileN c b n st ≠ .stuck) (hm : n ≤ m) : whileN c b m st = whileN c b n st := by
  obtain ⟨k, rfl⟩ := Nat.le.dest hm
  clear hm
  induction k with
  | zero => rfl
  | succ k ih => rw [← Nat.add_assoc, whileN_succ _ _ (by rw [ih]; exact h), ih]
open Classical in
noncomputable def whileS (c : DS → ER Bool) (b : DS → SO) (st : DS) : SO := if h : ∃ n, whileN c b n st ≠ .stuck then whileN c b h.choose st else .stuck
theorem whileS_of {c : DS → ER Bool} {b : DS → SO} {n : Nat} {st : DS} (h : whileN c b n st ≠ .stuck) : whileS c b st = whileN c b n st := by
  unfold whileS
  rw [dif_pos ⟨n, h⟩]
  have hs := Exists.choose_spec (p := fun n => whileN c b n st ≠ .stuck) ⟨n, h⟩
  rcases Nat.le_total n (Exists.choose (p := fun n => whileN c b n st ≠ .stuck) ⟨n, h⟩) with z | z
  · exact whileN_le h z
  · exact (whileN_le hs z).symm
/-- one turn -/
theorem whileS_eq (c : DS → ER Bool) (b : DS → SO) (st : DS) : whileS c b st = (c st).s fun k st1 => if k then loopS (b st1) (whileS c b) else .nx st1 := by
  by_cases h : ∃ n, whileN c b n st ≠ .stuck
  · obtain ⟨n, h⟩ := h
    have h1 : whileN c b (n + 1) st ≠ .stuck := by rw [whileN_succ n st h]; exact h
    rw [whileS_of h1]
    have h' : ((c st).s fun k st1 => if k then loopS (b st1) (whileN c b n) else .nx st1) ≠ .stuck := h1
    show ((c st).s fun k st1 => if k then loopS (b st1) (whileN c b n) else .nx st1) = _
    cases e : c st with
    | ok k st1 =>
      rw [e] at h'
      simp only [ER.s_ok] at h' ⊢
      cases k with
      | false => rfl
      | true =>
        simp only [if_true] at h' ⊢
        cases e2 : b st1 with
        | nx st2 => rw [e2] at h'; simp only [loopS_nx] at h' ⊢; exact (whileS_of h').symm
        | ct st2 => rw [e2] at h'; simp only [loopS_ct] at h' ⊢; exact (whileS_of h').symm
        | bk st2 => rfl
        | rt w st2 => rfl
        | ex x st2 => rfl
        | stuck => rfl
    | ex x st1 => rfl
    | stuck => rfl
  · have e0 : whileS c b st = .stuck := by unfold whileS; rw [dif_neg h]
    have all : ∀ n, whileN c b n st = .stuck := fun n => Classical.byContradiction fun z => h ⟨n, z⟩
    rw [e0]
    cases e : c st with
    | ok k st1 =>
      simp only [ER.s_ok]
      cases k with
      | false =>
        have := all 1
        simp [whileN, e] at this
      | true =>
        simp only [if_true]
        have all' : ∀ n, loopS (b st1) (whileN c b n) = .stuck := fun n => by
          have := all (n + 1)
          simpa [whileN, e] using this
        cases e2 : b st1 with
        | nx st2 =>
          simp only [loopS_nx]
          have a2 : ∀ n, whileN c b n st2 = .stuck := fun n => by simpa [e2] using all' n
          unfold whileS
          rw [dif_neg (fun ⟨n, z⟩ => z (a2 n))]
        | ct st2 =>
          simp only [loopS_ct]
          have a2 : ∀ n, whileN c b n st2 = .stuck := fun n => by simpa [e2] using all' n
          unfold whileS
          rw [dif_neg (fun ⟨n, z⟩ => z (a2 n))]
        | bk st2 => have := all' 0; rw [e2] at this; cases this
        | rt w st2 => have := all' 0; rw [e2] at this; cases this
        | ex x st2 => have := all' 0; rw [e2] at this; cases this
        | stuck => rfl
    | ex x st1 =>
      have := all 1
      simp [whileN, e] at this
    | stuck => rfl
theorem ds_while {mc : DS → ER Bool} (hp : PassesOwn (model X.prog X.w) X.A X.env X.xe) (hc : DT X c mc) (hb : DSs X pn b mb) : DSt X pn (.While c b [] pos) (whileS mc mb) := by
  refine ⟨fun Wx tk => ps_imp (ps_while hp (hc.pt Wx tk) (hb.ps Wx tk)) fun D σ H ⟨Γ, st, np, r, q⟩ => ?_⟩
  have q0 : finS X Wx Γ H (whileS mc mb st) D := q
  have hne : whileS mc mb st ≠ .stuck := fun e => by rw [e] at q0; exact q0
  obtain ⟨n, hn⟩ : ∃ n, whileN mc mb n st ≠ .stuck := Classical.byContradiction fun z => hne (by unfold whileS; rw [dif_neg z])
  rw [whileS_of hn] at q0
  refine ⟨fun m σ' H' => ∃ st', Rel X.K Γ st' σ' H' [] ∧ finS X Wx Γ H' (whileN mc mb m st') D, ⟨n, st, r, q0⟩, ?_⟩
  rintro m σ1 H1 ⟨st1, r1, q1⟩
  cases m with
  | zero => exact q1.elim
  | succ m =>
    refine ⟨Γ, st1, r1, ?_⟩
    refine fin.imp (finS.e q1) fun k st2 q2 H2 r2 g2 => ?_
    cases k with
    | false =>
      rw [if_neg Bool.false_ne_true]
      have q3 : finS X Wx Γ H1 (.nx st2) D := q2
      exact q3 σ1 H2 r2 g2
    | true =>
      rw [if_pos rfl]
      have q3 : finS X Wx Γ H1 (loopS (mb st2) (whileN mc mb m)) D := q2
      exact ⟨fun σ' H' => ∃ st', Rel X.K Γ st' σ' H' [] ∧ finS X Wx Γ H' (whileN mc mb m st') D, fun σ' H' z => ⟨m, Nat.lt_succ_self m, z⟩, Γ, st2, np, r2, loop_fin (q3.gr g2) fun st' σ' H' a1 a2 a3 => ⟨st', a2, a1.gr a3⟩⟩

/-! ### for -/
structure Src (K : PySem.W.Frag) (H0 : Hp) (J : It) (ds : List Py) : Prop where
  go : ∀ i H, Gr H0 H → i < ds.length → J.go i H
  yld : ∀ i H x H', Gr H0 H → i < ds.length → J.yld i H x H' → Same H H' ∧ ∃ d, ds[i]? = some d ∧ R K H' x d
  stop : ∀ i H, Gr H0 H → i = ds.length → J.stop i H
def tI (X : Cx) (Wx : WX) (m : DS → ER (List Py)) : TI := fun σ H Q => ∃ Γ st, Rel X.K Γ st σ H [] ∧ fin X Wx Γ σ H (m st) fun ds st' => ∀ J H', Rel X.K Γ st' σ H' [] → Gr H H' → Src X.K H' J ds → Q J H'
structure DI (X : Cx) (tg e : Expr) (m : DS → ER (List Py)) : Prop where
  pi : ∀ Wx, Takes X Wx → PI X tg e (tI X Wx m)
theorem pi_imp {tg e : Expr} {t t' : TI} (h : PI X tg e t) (k : ∀ σ H Q, t' σ H Q → t σ H Q) : PI X tg e t' := ⟨fun pins s σ H R I q => h.run pins s σ H R I (k _ _ _ q)⟩
def forS (tg : Py → DS → Option DS) (b : DS → SO) : List Py → DS → SO
  | [], st => .nx st
  | d :: ds, st => match tg d st with
    | some st1 => loopS (b st1) (forS tg b ds)
    | none => .stuck
theorem ds_for {tg it : Expr} {ts : List Nat} {mi : DS → ER (List Py)} {f : Py → DS → Option DS} (hp : PassesOwn (model X.prog X.w) X.A X.env X.xe) (hc : X.calm = true) (hi : DI X tg it mi) (hg : DG X pn ts tg f) (hb : DSs X pn b mb) (hs : ∀ x, foldedSetIterable it X.env x = pure x := by intro _; rfl) :
    DSt X pn (.For tg it b [] pos) fun st => (mi st).s fun ds st1 => forS f mb ds st1 := by
  refine ⟨fun Wx tk => ps_imp (ps_for hp hc (hi.pi Wx tk) hg.pg (hb.ps Wx tk) hs) fun D σ H ⟨Γ, st, np, r, q⟩ => ⟨Γ, st, r, ?_⟩⟩
  refine fin.imp (finS.e q) fun ds st1 q1 J H1 r1 g1 src => ?_
  refine ⟨fun i m σ' H' => ∃ st', m = ds.length - i ∧ i ≤ ds.length ∧ Rel X.K Γ st' σ' H' [] ∧ Gr H1 H' ∧ finS X Wx Γ H' (forS f mb (ds.drop i) st') D, ⟨ds.length, st1, by simp, Nat.zero_le _, r1, Gr.refl _, by rw [List.drop_zero]; exact q1.gr g1⟩, ?_⟩
  rintro i m σ2 H2 ⟨st2, rfl, hi, r2, g2, q2⟩
  by_cases hlt : i < ds.length
  · have ed : ds.drop i = ds[i] :: ds.drop (i + 1) := List.drop_eq_getElem_cons hlt
    rw [ed] at q2
    refine .inr ⟨src.go i H2 g2 hlt, fun σ' H' => ∃ st', Rel X.K Γ st' σ' H' [] ∧ Gr H1 H' ∧ finS X Wx Γ H' (forS f mb (ds.drop (i + 1)) st') D, fun σ' H' ⟨st', a1, a2, a3⟩ => ⟨ds.length - (i + 1), by omega, st', rfl, hlt, a1, a2, a3⟩, fun x H3 y => ?_⟩
    obtain ⟨sm, d, hd, rd⟩ := src.yld i H2 x H3 g2 hlt y
    have e0 : ds[i] = d := by rw [List.getElem?_eq_getElem hlt] at hd; exact Option.some.inj hd
    rw [e0] at q2
    have q2' : finS X Wx Γ H2 (match f d st2 with | some st1 => loopS (mb st1) (forS f mb (ds.drop (i + 1))) | none => .stuck) D := q2
    cases ef : f d st2 with
    | none => rw [ef] at q2'; exact q2'.elim
    | some st3 =>
      rw [ef] at q2'
      have q3 : finS X Wx Γ H2 (loopS (mb st3) (forS f mb (ds.drop (i + 1)))) D := q2'
      have g3 := Same.gr sm
      exact ⟨Γ, st2, d, np, r2.ext sm, rd, st3, ef, fun σ' _ r4 => ⟨Γ, st3, np, r4, loop_fin (q3.gr g3) fun st' σ' H' a1 a2 a3 => ⟨st', a2, (g2.trans g3).trans a3, a1.gr a3⟩⟩⟩
  · have e : i = ds.length := by omega
    subst e
    rw [List.drop_length] at q2
    exact .inl ⟨src.stop _ H2 g2 rfl, q2 σ2 H2 r2 (Gr.refl _)⟩
end
end DL

/-! ## DL9 -/
namespace DL
open PySem PySem.Spec PyProof.Rows L2

/-! ### a list of a slot -/
def lstAt (st : DS) (i : Nat) : Option (List Py) := match st[i]? with
  | some (some (.lst ds)) => some ds
  | _ => none
theorem lstAt_some {st : DS} {i : Nat} {ds : List Py} (h : lstAt st i = some ds) : st[i]? = some (some (.lst ds)) := by
  unfold lstAt at h
  split at h
  · rename_i e; cases h; exact e
  · cases h
theorem Rel.lst {K : PySem.W.Frag} {Γ : Fr} {st : DS} {σ : L2.St} {H : Hp} {i : Nat} {ds : List Py} (r : Rel K Γ st σ H []) (h : lstAt st i = some ds) :
    ∃ a xs, σ[i]? = some (some (.ref a)) ∧ H a = some (.lst xs) ∧ RA K H xs ds ∧ Own H a ∧ ∀ xs' ds', RA K (upd H a (.lst xs')) xs' ds' → Rel K Γ (st.set i (some (.lst ds'))) σ (upd H a (.lst xs')) [] := by
  obtain ⟨v, fpi, e1, rs, r1⟩ := r.pull (lstAt_some h)
  cases rs with
  | @lst a xs ds ha ra =>
    have ow : Own H a := r1.fxo a List.mem_cons_self
    refine ⟨a, xs, e1, ha, ra, ow, fun xs' ds' rd => ?_⟩
    have r2 : Rel K Γ (st.set i none) σ (upd H a (.lst xs')) ([a] ++ []) := Rel.after r1 (fun b o e n => by rw [upd_ne (by simpa using n)]; exact e) (by simp) (fun b hb => .inr hb) fun b hb => by
      have e := List.mem_singleton.mp hb
      subst e
      exact ⟨_, upd_same, fun _ => nofun, fun _ _ => nofun⟩
    have r3 := r2.push (w := .lst ds') e1 (.lst upd_same rd)
    rw [List.set_set] at r3
    exact r3
section
variable {X : Cx} {o e : Expr} {i : Nat} {pos apos cpos p p1 p2 p3 : Pos}
def appendE (i : Nat) (me : DS → ER Py) : DS → ER Py := fun st => (optE (lstAt st i) st).bind fun _ st => (me st).bind fun d st1 => (optE (lstAt st1 i) st1).bind fun ds st1 => if ds.length < sizeLine then .ok .non (st1.set i (some (.lst (ds ++ [d])))) else .stuck
theorem de_append {me : DS → ER Py} (ho : PE X o (tVar i)) (he : DE X e me) (hbase : attributeBase o "append" X.env (eval o X.env) = eval o X.env := by rfl)
    (hfew : ((backTo cpos (starEach [e] X.env)).all (fun x => !x.1) && (backToKw cpos (keywordEach [] X.env)).all (fun x => x.1.isSome) && decide ([e].length + ([] : List Keyword).length + (if ([] : List Keyword).isEmpty then 0 else 1) < 30)) = true := by rfl)
    (hline : (apos.endLine == cpos.line) = true := by rfl) (hs : starEach [e] X.env = (false, eval e X.env) :: starEach [] X.env := by rfl) (hplain : (backTo cpos (starEach [] X.env)).any (·.1) = false := by rfl) :
    DE X (.Call (.Attribute o "append" apos) [e] [] cpos) (appendE i me) := by
  refine ⟨fun Wx tk => pe_imp (pe_bm PySem.F.plainAttrs_list PySem.F.slot_list_append PySem.F.type_list_append mt_append ho (pa_cons (he.pe Wx tk) pa_nil hs) hbase hfew hline hs hplain) fun σ H Q ⟨Γ, st, r, q⟩ => ?_⟩
  obtain ⟨ds0, e0, q1⟩ := fin_opt (fin.bind q)
  obtain ⟨a, xs, e1, ha, ra, ow, _⟩ := r.lst e0
  refine ⟨_, e1, .inl ⟨rfl, xs, SqL.of ha⟩, Γ, st, r, ?_⟩
  refine fin.imp (fin.bind q1) fun d st1 q2 v H1 r1 g1 rd => ?_
  obtain ⟨ds, e2, q3⟩ := fin_opt (fin.bind q2)
  obtain ⟨a2, xs2, e3, ha2, ra2, ow2, k⟩ := r1.lst e2
  rw [e1] at e3
  cases e3
  split at q3
  · rename_i hl
    have g2 : Gr H1 (upd H1 a (.lst (xs2 ++ [v]))) := Gr.own ow2
    refine ⟨a, xs2, v, rfl, rfl, ha2, by rw [ra2.length]; exact hl, ?_⟩
    exact q3 .non _ (k _ _ ((ra2.append (.cons rd .nil)).mono g2)) (g1.trans g2) .non
  · exact q3.elim
def extendE (i : Nat) (me : DS → ER Ar) : DS → ER Py := fun st => (optE (lstAt st i) st).bind fun _ st => (me st).bind fun d st1 => (optE (lstAt st1 i) st1).bind fun ds st1 => (optE (bindO st1 d itemsS) st1).bind fun es st1 =>
  if ds.length + es.length ≤ sizeLine then .ok .non (st1.set i (some (.lst (ds ++ es)))) else .stuck
theorem de_extend {me : DS → ER Ar} (ho : PE X o (tVar i)) (he : DX X e me) (hbase : attributeBase o "extend" X.env (eval o X.env) = eval o X.env := by rfl)
    (hfew : ((backTo cpos (starEach [e] X.env)).all (fun x => !x.1) && (backToKw cpos (keywordEach [] X.env)).all (fun x => x.1.isSome) && decide ([e].length + ([] : List Keyword).length + (if ([] : List Keyword).isEmpty then 0 else 1) < 30)) = true := by rfl)
    (hline : (apos.endLine == cpos.line) = true := by rfl) (hs : starEach [e] X.env = (false, eval e X.env) :: starEach [] X.env := by rfl) (hplain : (backTo cpos (starEach [] X.env)).any (·.1) = false := by rfl) :
    DE X (.Call (.Attribute o "extend" apos) [e] [] cpos) (extendE i me) := by
  refine ⟨fun Wx tk => pe_imp (pe_bm PySem.F.plainAttrs_list PySem.F.slot_list_extend PySem.F.type_list_extend mt_extA ho (pa_cons (he.pe Wx tk) pa_nil hs) hbase hfew hline hs hplain) fun σ H Q ⟨Γ, st, r, q⟩ => ?_⟩
  obtain ⟨ds0, e0, q1⟩ := fin_opt (fin.bind q)
  obtain ⟨a, xs, e1, ha, ra, ow, _⟩ := r.lst e0
  refine ⟨_, e1, .inl ⟨rfl, xs, SqL.of ha⟩, Γ, st, r, ?_⟩
  refine fin.imp (fin.bind q1) fun d st1 q2 v H1 r1 g1 rd => ?_
  obtain ⟨ds, e2, q3⟩ := fin_opt (fin.bind q2)
  obtain ⟨es, e4, q4⟩ := fin_opt (fin.bind q3)
  obtain ⟨w, ew, fw⟩ := bindO_some e4
  obtain ⟨fp, rs⟩ := r1.look rd ew
  obtain ⟨b, zs, rfl, hz, rz⟩ := rs.seq fw
  obtain ⟨a2, xs2, e3, ha2, ra2, ow2, k⟩ := r1.lst e2
  rw [e1] at e3
  cases e3
  split at q4
  · rename_i hl
    have g2 : Gr H1 (upd H1 a (.lst (xs2 ++ zs))) := Gr.own ow2
    refine ⟨a, b, xs2, zs, rfl, rfl, ha2, hz.imp id SqT.of, by rw [ra2.length, rz.length]; exact hl, ?_⟩
    exact q4 .non _ (k _ _ ((ra2.append rz).mono g2)) (g1.trans g2) .non
  · exact q4.elim
def popE (i : Nat) : DS → ER Py := fun st => (optE (lstAt st i) st).bind fun ds st => match ds.getLast? with
  | some d => .ok d (st.set i (some (.lst ds.dropLast)))
  | none => .stuck
theorem de_pop (ho : PE X o (tVar i)) (hbase : attributeBase o "pop" X.env (eval o X.env) = eval o X.env := by rfl) (hline : (apos.endLine == cpos.line) = true := by rfl) :
    DE X (.Call (.Attribute o "pop" apos) [] [] cpos) (popE i) := by
  refine ⟨fun Wx tk => pe_imp (pe_bm0 PySem.F.plainAttrs_list PySem.F.slot_list_pop PySem.F.type_list_pop mt_pop ho hbase hline) fun σ H Q ⟨Γ, st, r, q⟩ => ?_⟩
  obtain ⟨ds, e0, q1⟩ := fin_opt (fin.bind q)
  obtain ⟨a, xs, e1, ha, ra, ow, k⟩ := r.lst e0
  cases el : ds.getLast? with
  | none => rw [el] at q1; exact q1.elim
  | some d =>
    rw [el] at q1
    rw [List.getLast?_eq_getElem?] at el
    obtain ⟨v, hv, rv⟩ := ra.get el
    have g2 : Gr H (upd H a (.lst xs.dropLast)) := Gr.own ow
    refine ⟨_, e1, .inl ⟨rfl, xs, SqL.of ha⟩, a, xs, v, rfl, rfl, ha, by rw [ra.length]; exact hv, ?_⟩
    exact q1 v _ (k _ _ (ra.dropLast.mono g2)) g2 (rv.mono g2)
/-- xs[k] = e -/
def setLS (i : Nat) (me mk : DS → ER Py) : DS → SO := fun st => (me st).s fun d st1 => (optE (lstAt st1 i) st1).s fun _ st1 => (mk st1).s fun k st2 => (optE (lstAt st2 i) st2).s fun ds st2 => (optE ((asInt k).bind fun k => ixN ds.length k) st2).s fun j st2 => .nx (st2.set i (some (.lst (ds.set j d))))
theorem finS_o {α : Type} {X : Cx} {Wx : WX} {Γ : Fr} {H : Hp} {r : Option α} {f : α → DS → SO} {st : DS} {D : Ends} (h : finS X Wx Γ H ((optE r st).s f) D) : ∃ a, r = some a ∧ finS X Wx Γ H (f a st) D := by
  cases r with
  | none => exact h.elim
  | some a => exact ⟨a, rfl, h⟩
theorem ds_setL {k : Expr} {pn : List Nat} {me mk : DS → ER Py} (ho : PE X o (tVar i)) (hk : DE X k mk) (he : DE X e me)
    (ha : ∀ v, assign (.Subscript o k p) X.env v = (do
      let ov ← holding [v] (eval o X.env)
      let iv ← holding [v, ov] (eval k X.env)
      standAt p
      holding [v, ov, iv] (setItem ov iv v)
      release [v, ov, iv] []) := by intro _; rfl)
    (hs : swapsWithSole [.Subscript o k p] e pos.line X.env = pure false := by rfl) (hw : swappedStores [.Subscript o k p] e X.env = pure none := by rfl) (h1 : (assignEach [.Subscript o k p] X.env).map (·.2) = [assign (.Subscript o k p) X.env] := by rfl) :
    DSt X pn (.Assign [.Subscript o k p] e pos) (setLS i me mk) := by
  refine ⟨fun Wx tk => ps_imp (ps_asg (he.pe Wx tk) (pg_sub ho (hk.pe Wx tk) set_list ha) hs hw h1) fun D σ H ⟨Γ, st, np, r, q⟩ => ⟨Γ, st, r, ?_⟩⟩
  refine fin.imp (finS.e q) fun d st1 q1 v H1 r1 g1 rd => ?_
  obtain ⟨ds0, e0, q2⟩ := finS_o q1
  obtain ⟨a, xs, e1, hx, ra, ow, _⟩ := r1.lst e0
  refine ⟨_, e1, Γ, st1, r1, ?_⟩
  refine fin.imp (finS.e (finS.gr g1 q2)) fun kd st2 q3 kv H2 r2 g2 rk => ?_
  obtain ⟨ds, e2, q4⟩ := finS_o q3
  obtain ⟨j, ej, q5⟩ := finS_o q4
  obtain ⟨n, en, ej⟩ := Option.bind_eq_some_iff.mp ej
  cases kd <;> cases en
  cases rk
  obtain ⟨a2, xs2, e3, ha2, ra2, ow2, kk⟩ := r2.lst e2
  rw [e1] at e3
  cases e3
  have g3 : Gr H2 (upd H2 a (.lst (xs2.set j v))) := Gr.own ow2
  refine ⟨a, xs2, n, j, rfl, rfl, ha2, by rw [ra2.length]; exact ej, ?_⟩
  have q6 : finS X Wx Γ H1 (.nx (st2.set i (some (.lst (ds.set j d))))) D := q5
  exact q6 σ _ (kk _ _ ((ra2.set j (rd.mono g2)).mono g3)) (g2.trans g3)
/-- n += e -/
def augI (i : Nat) (g : Int → Int → Int) (me : DS → ER Py) : DS → SO := fun st => (optE (((st[i]?).join).bind intS) st).s fun a st => (me st).s fun d st1 => (optE (asInt d) st1).s fun b st1 => putO i (.val (.int (g a b))) st1
theorem ds_augI {x : Str} {op : Operator} {g : Int → Int → Int} {pn : List Nat} {me : DS → ER Py} {pos' : Pos} (ho : PIp X op (ipI g)) (hN : X.N.Nodup) (hi : X.N[i]? = some x) (hx : Loc X.env.scope x) (he : DE X e me) (hp : i ∉ pn) (hf : X.fn x = true ∨ X.env.scope.names.lookup x = some .local := by first | exact .inl rfl | exact .inr rfl | assumption) :
    DSt X pn (.AugAssign (.Name x pos') op e pos) (augI i g me) := by
  refine ⟨fun Wx tk => ps_imp (ps_aug hN hi hx (he.pe Wx tk) ho hf) fun D σ H ⟨Γ, st, np, r, q⟩ => ?_⟩
  obtain ⟨a, ea, q1⟩ := finS_o q
  obtain ⟨w, ew, ea⟩ := Option.bind_eq_some_iff.mp ea
  obtain ⟨v, fp, e1, rs⟩ := r.get (join_some ew)
  have ev := rs.int ea
  subst ev
  refine ⟨_, e1, Γ, st, r, ?_⟩
  refine fin.imp (finS.e q1) fun d st1 q2 v H1 r1 g1 rd => ?_
  obtain ⟨b, eb, q3⟩ := finS_o q2
  cases d <;> cases eb
  cases rd
  refine ⟨a, b, rfl, rfl, ?_⟩
  unfold putO at q3
  split at q3
  · rename_i hl
    exact q3 _ H1 (r1.set (fx := []) hl (.val (.int _)) (np i hp)) g1
  · exact q3.elim
end

/-! ### what a for walks -/
section
variable {X : Cx} {tg : Expr}
def iSeq (K : PySem.W.Frag) (tl : TE) : TI := fun σ H R => tl σ H fun x H1 => ∃ a, x = .ref a ∧ (((∃ xs, SqL K H1 a xs) ∧ R (Itl K a) H1) ∨ ((∃ xs, SqT K H1 a xs) ∧ R (Itt K a) H1))
theorem pi_seq {l : Expr} {tl : TE} (hl : PE X l tl) : PI X tg l (iSeq X.K tl) := by
  refine ⟨fun pins s σ H R I h => ?_⟩
  refine thn (hl.run pins s σ H _ I h) fun v s1 ⟨x, H1, I1, r1, q1⟩ => ?_
  obtain ⟨a, e, q⟩ := q1
  subst e
  cases r1
  rcases q with ⟨⟨xs, hq⟩, q⟩ | ⟨⟨xs, hq⟩, q⟩
  · obtain ⟨its, rv, p, hz⟩ := I1.list hq
    refine wpAny_pyIter_list p.isList ?_
    refine ⟨s1.heap.objs.size, [s1.heap.objs.size], _, _, H1, rfl, I1.kept (t' := s1.toks) fun b o e => Heap.get?_push_of_some _ e, turn_list a _, ⟨_, Heap.get?_push_size _ rfl, rfl, rfl⟩, fun b hb => ?_, q⟩
    have e : b = s1.heap.objs.size := by simpa using hb
    subst e
    exact I1.fpOk (Nat.le_refl _) (I1.hok.fresh (Nat.le_refl _))
  · obtain ⟨its, rv, p, hz⟩ := I1.tuple hq
    refine wpAny_pyIter_tuple (show s1.heap.IsTuple a its.toArray from p) ?_
    refine ⟨s1.heap.objs.size, [s1.heap.objs.size], _, _, H1, rfl, I1.kept (t' := s1.toks) fun b o e => Heap.get?_push_of_some _ e, turn_tuple a _, ⟨_, Heap.get?_push_size _ rfl, rfl, rfl⟩, fun b hb => ?_, q⟩
    have e : b = s1.heap.objs.size := by simpa using hb
    subst e
    exact I1.fpOk (Nat.le_refl _) (I1.hok.fresh (Nat.le_refl _))
theorem di_seq {l : Expr} {m : DS → ER Py} (h : DE X l m) : DI X tg l fun st => (m st).bind fun d st1 => optE (itemsS (.val d)) st1 := by
  refine ⟨fun Wx tk => pi_imp (pi_seq (h.pe Wx tk)) fun σ H Q ⟨Γ, st, r, q⟩ => ⟨Γ, st, r, ?_⟩⟩
  refine fin.imp (fin.bind q) fun d st1 q1 v H1 r1 g1 rd => ?_
  obtain ⟨ds, ed, q2⟩ := fin_opt q1
  cases rd <;> cases ed
  · rename_i a xs hs ra
    refine ⟨a, rfl, .inr ⟨⟨xs, SqT.of hs⟩, q2 _ H1 r1 g1 ⟨fun i H2 g hi => ?_, fun i H2 x H3 g hi y => ?_, fun i H2 g hi => ⟨xs, g.sqT (SqT.of hs), by rw [ra.length, hi]; exact Nat.le_refl _⟩⟩⟩⟩
    · obtain ⟨v, hv, _⟩ := ra.get (List.getElem?_eq_getElem hi)
      exact ⟨xs, v, g.sqT (SqT.of hs), hv⟩
    · obtain ⟨rfl, y⟩ := y
      obtain ⟨d, hd, rd⟩ := ra.get' (y xs (g.sqT (SqT.of hs)))
      exact ⟨fun _ _ h => h, d, hd, rd.mono g⟩
  · rename_i a xs hs ra
    refine ⟨a, rfl, .inl ⟨⟨xs, hs.l⟩, q2 _ H1 r1 g1 ⟨fun i H2 g hi => ?_, fun i H2 x H3 g hi y => ?_, fun i H2 g hi => ⟨xs, (g.sqF hs).l, by rw [ra.length, hi]; exact Nat.le_refl _⟩⟩⟩⟩
    · obtain ⟨v, hv, _⟩ := ra.get (List.getElem?_eq_getElem hi)
      exact ⟨xs, v, (g.sqF hs).l, hv⟩
    · obtain ⟨rfl, y⟩ := y
      obtain ⟨d, hd, rd⟩ := ra.get' (y xs (g.sqF hs).l)
      exact ⟨fun _ _ h => h, d, hd, rd.mono g⟩
def rangeL (lo c : Int) (n : Nat) : List Py := (List.range n).map fun k => .int (lo + (k : Nat) * c)
theorem rangeL_length (lo c : Int) (n : Nat) : (rangeL lo c n).length = n := by unfold rangeL; rw [List.length_map, List.length_range]
theorem rangeL_get {lo c : Int} {n i : Nat} (h : i < n) : (rangeL lo c n)[i]? = some (.int (lo + (i : Nat) * c)) := by
  unfold rangeL
  rw [List.getElem?_map, List.getElem?_range h]; rfl
def inB (i : Int) : Bool := decide (-(2 ^ 62) ≤ i ∧ i < 2 ^ 62)
theorem inB_ok {i : Int} (h : inB i = true) : -(2 ^ 62) ≤ i ∧ i < 2 ^ 62 := of_decide_eq_true h
def range1 : List Py → Option (List Py)
  | [.int n] => if inB n then some (rangeL 0 1 n.toNat) else none
  | _ => none
def range2 : List Py → Option (List Py)
  | [.int a, .int b] => if inB a && inB b then some (rangeL a 1 (b - a).toNat) else none
  | _ => none
/-- range(a, b, -1) -/
def range3 : List Py → Option (List Py)
  | [.int a, .int b, .int c] => if inB a && inB b && decide (c = -1) then some (rangeL a (-1) (a - b).toNat) else none
  | _ => none
variable {a b c : Expr} {p pos : Pos}
theorem src_r {K : PySem.W.Frag} {H : Hp} {lo : Int} {n : Nat} : Src K H (Itr lo n) (rangeL lo 1 n) :=
  ⟨fun i H g hi => by rw [rangeL_length] at hi; exact hi, fun i H x H' g hi y => by
    rw [rangeL_length] at hi
    obtain ⟨rfl, rfl⟩ := y
    exact ⟨fun _ _ h => h, _, rangeL_get hi, by rw [Int.mul_one]; exact .int _⟩, fun i H g hi => by rw [rangeL_length] at hi; exact Nat.le_of_eq hi.symm⟩
theorem src_c {K : PySem.W.Frag} {H : Hp} {lo c : Int} {n : Nat} : Src K H (Itc lo c n) (rangeL lo c n) :=
  ⟨fun i H g hi => by rw [rangeL_length] at hi; exact hi, fun i H x H' g hi y => by
    rw [rangeL_length] at hi
    obtain ⟨rfl, rfl⟩ := y
    exact ⟨fun _ _ h => h, _, rangeL_get hi, .int _⟩, fun i H g hi => by rw [rangeL_length] at hi; exact Nat.le_of_eq hi.symm⟩
theorem di_range1 {m : DS → ER (List Py)} (T : Bt X.mg) (hg : Gl X "range") (h : DV X [a] m) (hs : starEach [a] X.env = [(false, eval a X.env)] := by rfl) : DI X tg (.Call (.Name "range" p) [a] [] pos) fun st => (m st).bind fun ds st1 => optE (range1 ds) st1 := by
  refine ⟨fun Wx tk => pi_imp (pi_range1 hg T.range (h.pa Wx tk) hs) fun σ H Q ⟨Γ, st, r, q⟩ => ⟨Γ, st, r, ?_⟩⟩
  refine fin.imp (fin.bind q) fun ds st1 q1 vs H1 r1 g1 rd hl => ?_
  obtain ⟨es, ee, q2⟩ := fin_opt q1
  unfold range1 at ee
  split at ee
  · rename_i n
    split at ee
    · rename_i hb
      cases ee
      have hb' := inB_ok hb
      cases rd with
      | cons h1 h2 =>
        cases h2
        cases h1
        exact ⟨n, rfl, hb'.1, hb'.2, q2 _ H1 r1 g1 src_r⟩
    · cases ee
  · cases ee
theorem di_range2 {m : DS → ER (List Py)} (T : Bt X.mg) (hg : Gl X "range") (h : DV X [a, b] m) (hs : starEach [a, b] X.env = [(false, eval a X.env), (false, eval b X.env)] := by rfl) (hs2 : starEach [b] X.env = [(false, eval b X.env)] := by rfl) : DI X tg (.Call (.Name "range" p) [a, b] [] pos) fun st => (m st).bind fun ds st1 => optE (range2 ds) st1 := by
  refine ⟨fun Wx tk => pi_imp (pi_range2 hg T.range (h.pa Wx tk) hs hs2) fun σ H Q ⟨Γ, st, r, q⟩ => ⟨Γ, st, r, ?_⟩⟩
  refine fin.imp (fin.bind q) fun ds st1 q1 vs H1 r1 g1 rd hl => ?_
  obtain ⟨es, ee, q2⟩ := fin_opt q1
  unfold range2 at ee
  split at ee
  · rename_i i j
    split at ee
    · rename_i hb
      cases ee
      rw [Bool.and_eq_true] at hb
      have hb1 := inB_ok hb.1
      have hb2 := inB_ok hb.2
      cases rd with
      | cons h1 h2 =>
        cases h2 with
        | cons h2 h3 =>
          cases h3
          cases h1
          cases h2
          exact ⟨i, j, rfl, ⟨hb1.1, hb1.2, hb2.1, hb2.2⟩, q2 _ H1 r1 g1 src_r⟩
    · cases ee
  · cases ee
theorem di_range3 {m : DS → ER (List Py)} (T : Bt X.mg) (hg : Gl X "range") (h : DV X [a, b, c] m) (hs : starEach [a, b, c] X.env = (false, eval a X.env) :: starEach [b, c] X.env := by rfl) (hpl : (backTo pos (starEach [b, c] X.env)).any (·.1) = false := by rfl) :
    DI X tg (.Call (.Name "range" p) [a, b, c] [] pos) fun st => (m st).bind fun ds st1 => optE (range3 ds) st1 := by
  refine ⟨fun Wx tk => pi_imp (pi_range3 hg T.range (h.pa Wx tk) hs hpl) fun σ H Q ⟨Γ, st, r, q⟩ => ⟨Γ, st, r, ?_⟩⟩
  refine fin.imp (fin.bind q) fun ds st1 q1 vs H1 r1 g1 rd hl => ?_
  obtain ⟨es, ee, q2⟩ := fin_opt q1
  unfold range3 at ee
  split at ee
  · rename_i i j k
    split at ee
    · rename_i hb
      cases ee
      rw [Bool.and_eq_true, Bool.and_eq_true] at hb
      have hb1 := inB_ok hb.1.1
      have hb2 := inB_ok hb.1.2
      have hk := of_decide_eq_true hb.2
      subst hk
      cases rd with
      | cons h1 h2 =>
        cases h2 with
        | cons h2 h3 =>
          cases h3 with
          | cons h3 h4 =>
            cases h4
            cases h1
            cases h2
            cases h3
            exact ⟨i, j, -1, _, rfl, RgC.neg hb1.1 hb1.2 hb2.1 hb2.2, q2 _ H1 r1 g1 src_c⟩
    · cases ee
  · cases ee
end
end DL

/-! ## DL10 -/
namespace DL
open PySem PySem.Spec PyProof.Rows L2

/-! ### parts of a state -/
theorem SR.sub {K : PySem.W.Frag} {H : Hp} : ∀ {σ : L2.St} {st : DS} {fp : List Addr}, SR K H σ st fp → ∀ {σ' : L2.St} {st' : DS}, σ'.length = st'.length → st'.length ≤ st.length →
    (∀ (i : Nat) (w : Sv), st'[i]? = some (some w) → st[i]? = some (some w) ∧ σ'[i]? = σ[i]?) → ∃ fo, SR K H σ' st' fo ∧ fo.Sublist fp
  | _, _, _, _, [], [], _, _, _ => ⟨[], .nil, List.nil_sublist _⟩
  | _, _, _, h, o' :: σ', ow' :: st', hl, hle, k => by
    match h with
    | .nil => simp at hle
    | @SR.no _ _ o σ st fp h2 =>
      obtain ⟨fo, s2, sub⟩ := SR.sub h2 (σ' := σ') (st' := st') (by simpa using hl) (by simpa using hle) fun i w e => by
        have := k (i + 1) w (by simpa using e)
        simpa using this
      cases ow' with
      | none => exact ⟨fo, .no s2, sub⟩
      | some w =>
        have := (k 0 w rfl).1
        simp at this
    | @SR.yes _ _ v w σ st fp1 fp2 h1 h2 =>
      obtain ⟨fo, s2, sub⟩ := SR.sub h2 (σ' := σ') (st' := st') (by simpa using hl) (by simpa using hle) fun i w e => by
        have := k (i + 1) w (by simpa using e)
        simpa using this
      cases ow' with
      | none => exact ⟨fo, .no s2, sub.trans (List.sublist_append_right _ _)⟩
      | some w' =>
        have q := k 0 w' rfl
        simp only [List.getElem?_cons_zero, Option.some.injEq] at q
        obtain ⟨q1, q2⟩ := q
        subst q1 q2
        exact ⟨fp1 ++ fo, .yes h1 s2, List.Sublist.append (List.Sublist.refl _) sub⟩
section
variable {K : PySem.W.Frag} {Γ : Fr} {st st' : DS} {σ σ' : L2.St} {H H' : Hp} {fx : List Addr}
/-- other slots of the machine, where the model says nothing -/
theorem Rel.resl (r : Rel K Γ st σ H fx) (hl : σ'.length = σ.length) (h : ∀ (i : Nat) (w : Sv), st[i]? = some (some w) → σ'[i]? = σ[i]?) (hp : ∀ p ∈ Γ.pin, σ'[p.1]? = σ[p.1]?) : Rel K Γ st σ' H fx := by
  obtain ⟨⟨fp, hs, nd, mi⟩, fo, sm, pn⟩ := r
  obtain ⟨fq, h2, sub⟩ := hs.sub (σ' := σ') (st' := st) (hl.trans hs.length) (Nat.le_refl _) fun i w e => ⟨e, h i w e⟩
  have sub' : (fx ++ fq).Sublist (fx ++ fp) := List.Sublist.append (List.Sublist.refl _) sub
  exact ⟨⟨fq, h2, nd.sublist sub', fun b hb => mi b (sub'.subset hb)⟩, fo, sm, fun p hq => (hp p hq).trans (pn p hq)⟩
/-- the frame rule: what is not handed on stays -/
theorem Rel.rebase (r : Rel K Γ st σ H fx) : ∃ Γ' : Fr, Γ'.pin = Γ.pin ∧ Rel K Γ' st σ H [] ∧
    ∀ {st' : DS} {σ' : L2.St} {H' : Hp} {fy : List Addr}, Rel K Γ' st' σ' H' fy → (∀ b ∈ fx, H' b = H b) ∧ Rel K Γ st' σ' H' (fx ++ fy) := by
  have hr := r
  obtain ⟨⟨fp, hs, nd, mi⟩, fo, sm, pn⟩ := r
  have nda := List.nodup_append.mp nd
  refine ⟨⟨H, fp, Γ.pin⟩, rfl, ⟨⟨fp, hs, by simpa using nda.2.1, fun b hb => .inr (by simpa using hb)⟩, nofun, fun b o e _ => e, pn⟩, fun {st' σ' H' fy} r' => ?_⟩
  obtain ⟨⟨fp', hs', nd', mi'⟩, fo', sm', pn'⟩ := r'
  have keep : ∀ b ∈ fx, H' b = H b := fun b hb => by
    obtain ⟨o, e, _⟩ := fo b hb
    rw [e]
    exact sm' b o e fun z => nda.2.2 b hb b z rfl
  have notx : ∀ b ∈ fy ++ fp', b ∉ fx := fun b hb hx => by
    rcases mi' b hb with z | z
    · obtain ⟨o, e, _⟩ := fo b hx
      have z' : H b = none := z
      rw [z'] at e; cases e
    · exact nda.2.2 b hx b z rfl
  refine ⟨keep, ⟨fp', hs', ?_, fun b hb => ?_⟩, fun b hb => ?_, fun b o e n => ?_, pn'⟩
  · rw [List.append_assoc]
    exact List.nodup_append.mpr ⟨nda.1, nd', fun a ha b hb e => notx b hb (e ▸ ha)⟩
  · rw [List.append_assoc] at hb
    rcases List.mem_append.mp hb with hb | hb
    · exact mi b (List.mem_append_left _ hb)
    · rcases mi' b hb with z | z
      · exact hr.mineNew z
      · exact mi b (List.mem_append_right _ z)
  · rcases List.mem_append.mp hb with hb | hb
    · exact (fo b hb).ext (keep b hb)
    · exact fo' b hb
  · have e1 := sm b o e n
    refine sm' b o e1 fun z => ?_
    rcases mi b (List.mem_append_right _ z) with m | m
    · rw [m] at e; cases e
    · exact n m
end

/-! ### list comprehensions -/
def wipeS (st : DS) : List Nat → DS
  | [] => st
  | v :: vs => (wipeS st vs).set v none
theorem wipeS_length (st : DS) : ∀ vs : List Nat, (wipeS st vs).length = st.length
  | [] => rfl
  | v :: vs => by unfold wipeS; rw [List.length_set, wipeS_length st vs]
theorem wipeS_none {st : DS} {w : Sv} {i : Nat} : ∀ {vs : List Nat}, (wipeS st vs)[i]? = some (some w) → i ∉ vs
  | [], _ => by simp
  | v :: vs, h => by
    unfold wipeS at h
    by_cases hi : v = i
    · subst hi
      by_cases hv : v < (wipeS st vs).length
      · rw [List.getElem?_set_self hv] at h; cases h
      · rw [List.getElem?_eq_none (by simpa using hv)] at h; cases h
    · rw [List.getElem?_set_ne hi] at h
      have := wipeS_none h
      simp only [List.mem_cons, not_or]
      exact ⟨fun e => hi e.symm, this⟩
theorem Rel.wipe {K : PySem.W.Frag} {Γ : Fr} {st : DS} {σ : L2.St} {H : Hp} {fx : List Addr} (r : Rel K Γ st σ H fx) : ∀ vs : List Nat, Rel K Γ (wipeS st vs) σ H fx
  | [] => r
  | v :: vs => (Rel.wipe r vs).forget
theorem wipe_get {σ : L2.St} {i : Nat} : ∀ {vs : List Nat}, i ∉ vs → (L2.wipe σ vs)[i]? = σ[i]?
  | [], _ => rfl
  | v :: vs, h => by
    simp only [List.mem_cons, not_or] at h
    show ((L2.wipe σ vs).set v none)[i]? = _
    rw [List.getElem?_set_ne (fun e => h.1 e.symm)]
    exact wipe_get h.2
theorem wipe_in {σ : L2.St} {i : Nat} : ∀ {vs : List Nat}, i ∈ vs → i < σ.length → (L2.wipe σ vs)[i]? = some none
  | v :: vs, h, hl => by
    show ((L2.wipe σ vs).set v none)[i]? = _
    by_cases hv : v = i
    · subst hv; rw [List.getElem?_set_self (by rw [L2.wipe_length]; exact hl)]
    · rw [List.getElem?_set_ne hv]
      exact wipe_in (by simpa [Ne.symm hv] using h) hl
theorem wipe_only {σ σ2 : L2.St} {vs ts : List Nat} (h : OnlyAt ts (L2.wipe σ vs) σ2) (hs : ∀ i ∈ ts, i ∈ vs) : L2.wipe σ2 vs = L2.wipe σ vs := by
  have hl : σ2.length = σ.length := by rw [h.1, L2.wipe_length]
  apply List.ext_getElem?
  intro i
  by_cases hi : i ∈ vs
  · by_cases hb : i < σ.length
    · rw [wipe_in hi hb, wipe_in hi (by rw [hl]; exact hb)]
    · rw [List.getElem?_eq_none (by rw [L2.wipe_length]; omega), List.getElem?_eq_none (by rw [L2.wipe_length]; omega)]
  · rw [wipe_get hi, h.2 i fun z => hi (hs i z)]
def ER.nb {α β : Type} (r : ER α) (f : α → DS → ER β) : ER β := match r with
  | .ok a st => f a st
  | .ex _ _ => .stuck
  | .stuck => .stuck
@[simp] theorem ER.nb_ok {α β : Type} {a : α} {st : DS} {f : α → DS → ER β} : (ER.ok a st).nb f = f a st := rfl
def lcS (tg : Py → DS → Option DS) (mt : DS → ER Bool) (me : DS → ER Py) (vs : List Nat) : List Py → List Py → DS → ER Sv
  | [], acc, st => .ok (.lst acc) st
  | d :: ds, acc, st => match tg d st with
    | some st1 => (mt st1).nb fun b st2 => if b then (me st2).nb fun y st3 => if acc.length < sizeLine then lcS tg mt me vs ds (acc ++ [y]) (wipeS st3 vs) else .stuck else lcS tg mt me vs ds acc (wipeS st2 vs)
    | none => .stuck
def lcM (mi : DS → ER (List Py)) (tg : Py → DS → Option DS) (mt : DS → ER Bool) (me : DS → ER Py) (vs : List Nat) : DS → ER Sv := fun st => (mi st).bind fun ds st1 => lcS tg mt me vs ds [] (wipeS st1 vs)
abbrev W0 : WX := fun _ _ _ _ => False
theorem fin_nb {α β : Type} {X : Cx} {Wx : WX} {Γ Γ' : Fr} {σ σ' : L2.St} {H H' : Hp} {r : ER α} {f : α → DS → ER β} {G : β → DS → Prop} (h : fin X Wx Γ σ H (r.nb f) G) : fin X W0 Γ' σ' H' r fun a st => fin X Wx Γ σ H (f a st) G := by
  cases r with
  | ok a st => exact h
  | ex x st => exact h.elim
  | stuck => exact h
structure DTs (X : Cx) (ifs : List Expr) (m : DS → ER Bool) : Prop where
  pt : ∀ Wx, Takes X Wx → PTs X ifs (tT X Wx m)
theorem pts_imp {X : Cx} {e : List Expr} {t t' : TT} (h : PTs X e t) (k : ∀ σ H Q, t' σ H Q → t σ H Q) : PTs X e t' := ⟨fun pins s σ H Q I q => h.run pins s σ H Q I (k _ _ _ q)⟩
theorem dts_nil {X : Cx} : DTs X [] fun st => .ok true st := ⟨fun Wx tk => pts_imp pts_nil fun σ H Q ⟨Γ, st, r, q⟩ => q H r (Gr.refl H)⟩
theorem dts_one {X : Cx} {c : Expr} {m : DS → ER Bool} (h : DT X c m) : DTs X [c] m := ⟨fun Wx tk => pts_one (h.pt Wx tk)⟩
section
variable {X : Cx} {pn ts : List Nat} {elt tg iter : Expr} {ifs : List Expr} {scope : Scope} {own : List (Str × Nat)} {pos : Pos} {mi : DS → ER (List Py)} {f : Py → DS → Option DS} {mt : DS → ER Bool} {me : DS → ER Py}
theorem lc_read {vs : List Nat} {Wx : WX} {σ : L2.St} {H : Hp} {Q : VK} {Γ : Fr} {st : DS} (hts : ∀ i ∈ ts, i ∈ vs) (r : Rel X.K Γ st σ H [])
    (q : fin X Wx Γ σ H (lcM mi f mt me vs st) fun w st' => ∀ v H' fw, Rel X.K Γ st' σ H' fw → Gr H H' → RS X.K H' v w fw → Q v H') :
    tLc (tI X Wx mi) (tG X pn ts f) (tT X W0 mt) (tE X W0 me) vs σ H Q := by
  refine ⟨Γ, st, r, ?_⟩
  refine fin.imp (fin.bind q) fun ds st1 q1 J H1 r1 g1 src D hD => ?_
  have pins := r.pin
  generalize eΓ : ({ Γ with pin := [] } : Fr) = Γ1
  have restore : ∀ {st' : DS} {H' : Hp} {fw : List Addr}, Rel X.K Γ1 st' σ H' fw → Rel X.K Γ st' σ H' fw := fun {st' H' fw} rr => by
    subst eΓ
    obtain ⟨x1, x2, x3, _⟩ := rr
    exact ⟨x1, x2, x3, pins⟩
  have r1 : Rel X.K Γ1 st1 σ H1 [] := by
    subst eΓ
    obtain ⟨x1, x2, x3, _⟩ := r1
    exact ⟨x1, x2, x3, nofun⟩
  have vpin : ∀ p ∈ Γ1.pin, p.1 ∉ vs := by subst eΓ; exact nofun
  have np : ∀ i, i ∉ pn → ∀ p ∈ Γ1.pin, p.1 ≠ i := by subst eΓ; exact fun _ _ => nofun
  have s0 : Same H1 (upd H1 D (.lst [])) := Same.new hD
  have hDo : Own (upd H1 D (.lst [])) D := ⟨_, upd_same, fun _ => nofun, fun _ _ => nofun⟩
  have rw1 : Rel X.K Γ1 (wipeS st1 vs) (L2.wipe σ vs) (upd H1 D (.lst [])) [D] := by
    have a := (r1.wipe vs).resl (σ' := L2.wipe σ vs) (L2.wipe_length _ _) (fun i w e => wipe_get (wipeS_none e)) fun p hp => wipe_get (vpin p hp)
    exact a.owned s0 (by simp) (fun b hb => by rw [List.mem_singleton.mp hb]; exact hD) fun b hb => by rw [List.mem_singleton.mp hb]; exact hDo
  refine ⟨fun i m H2 => ∃ acc av st2, m = ds.length - i ∧ i ≤ ds.length ∧ Rel X.K Γ1 (wipeS st2 vs) (L2.wipe σ vs) H2 [D] ∧ H2 D = some (.lst av) ∧ RA X.K H2 av acc ∧ Gr (upd H1 D (.lst [])) H2 ∧
    fin X Wx Γ σ H (lcS f mt me vs (ds.drop i) acc (wipeS st2 vs)) fun w st' => ∀ v H' fw, Rel X.K Γ st' σ H' fw → Gr H H' → RS X.K H' v w fw → Q v H', ⟨ds.length, [], [], st1, by simp, Nat.zero_le _, rw1, upd_same, .nil, Gr.refl _, by rw [List.drop_zero]; exact q1⟩, ?_⟩
  rintro i m H2 ⟨acc, av, st2, rfl, hi, r2, hD2, ra2, g2, q2⟩
  have gt := g1.trans ((Same.gr s0).trans g2)
  have src2 : Gr H1 H2 := (Same.gr s0).trans g2
  by_cases hlt : i < ds.length
  · have ed : ds.drop i = ds[i] :: ds.drop (i + 1) := List.drop_eq_getElem_cons hlt
    rw [ed] at q2
    refine .inr ⟨src.go i H2 src2 hlt, fun H' => ∃ acc av st2, Rel X.K Γ1 (wipeS st2 vs) (L2.wipe σ vs) H' [D] ∧ H' D = some (.lst av) ∧ RA X.K H' av acc ∧ Gr (upd H1 D (.lst [])) H' ∧
      fin X Wx Γ σ H (lcS f mt me vs (ds.drop (i + 1)) acc (wipeS st2 vs)) fun w st' => ∀ v H' fw, Rel X.K Γ st' σ H' fw → Gr H H' → RS X.K H' v w fw → Q v H', fun H' ⟨acc', av', st3, a1, a2, a3, a4, a5⟩ => ⟨ds.length - (i + 1), by omega, acc', av', st3, rfl, hlt, a1, a2, a3, a4, a5⟩, fun x H3 y => ?_⟩
    obtain ⟨sm, d, hd, rd⟩ := src.yld i H2 x H3 src2 hlt y
    have e0 : ds[i] = d := by rw [List.getElem?_eq_getElem hlt] at hd; exact Option.some.inj hd
    rw [e0] at q2
    have g3 := Same.gr sm
    have r3 : Rel X.K Γ1 (wipeS st2 vs) (L2.wipe σ vs) H3 [D] := r2.ext sm
    have hD3 : H3 D = some (.lst av) := sm _ _ hD2
    obtain ⟨Γ', ep, rb, back⟩ := r3.rebase
    have np' : ∀ i, i ∉ pn → ∀ p ∈ Γ'.pin, p.1 ≠ i := by rw [ep]; exact np
    cases ef : f d (wipeS st2 vs) with
    | none =>
      have q3 : fin X Wx Γ σ H (match f d (wipeS st2 vs) with | some st1 => (mt st1).nb fun b st2 => if b then (me st2).nb fun y st3 => if acc.length < sizeLine then lcS f mt me vs (ds.drop (i + 1)) (acc ++ [y]) (wipeS st3 vs) else .stuck else lcS f mt me vs (ds.drop (i + 1)) acc (wipeS st2 vs) | none => .stuck) _ := q2
      rw [ef] at q3
      exact q3.elim
    | some st3 =>
      have q3 : fin X Wx Γ σ H (match f d (wipeS st2 vs) with | some st1 => (mt st1).nb fun b st2 => if b then (me st2).nb fun y st3 => if acc.length < sizeLine then lcS f mt me vs (ds.drop (i + 1)) (acc ++ [y]) (wipeS st3 vs) else .stuck else lcS f mt me vs (ds.drop (i + 1)) acc (wipeS st2 vs) | none => .stuck) _ := q2
      rw [ef] at q3
      refine ⟨Γ', wipeS st2 vs, d, np', rb, rd, st3, ef, fun σ3 on r4 => ⟨wipe_only on hts, Γ', st3, r4, ?_⟩⟩
      have back2 : ∀ {st' : DS} {H' : Hp}, Rel X.K Γ' st' σ3 H' [] → Rel X.K Γ1 (wipeS st' vs) (L2.wipe σ vs) H' [D] ∧ H' D = some (.lst av) := fun {st' H'} rr => by
        obtain ⟨kp, rr2⟩ := back rr
        refine ⟨?_, (kp D List.mem_cons_self).trans hD3⟩
        have rr3 : Rel X.K Γ1 (wipeS st' vs) σ3 H' [D] := by simpa using rr2.wipe vs
        have hl3 : (L2.wipe σ vs).length = σ3.length := on.1.symm
        refine rr3.resl hl3 (fun i w e => ?_) fun p hp => ?_
        · exact (on.2 i fun z => wipeS_none e (hts i z)).symm
        · exact (on.2 p.1 fun z => vpin p hp (hts p.1 z)).symm
      refine fin.imp (fin_nb q3) fun b st4 q4 H4 r5 g4 => ?_
      have gt4 := gt.trans (g3.trans g4)
      cases b with
      | false =>
        refine iteF ?_
        have q5 : fin X Wx Γ σ H (lcS f mt me vs (ds.drop (i + 1)) acc (wipeS st4 vs)) _ := q4
        obtain ⟨b1, b2⟩ := back2 r5
        exact ⟨acc, av, st4, b1, b2, (ra2.mono g3).mono g4, g2.trans (g3.trans g4), q5⟩
      | true =>
        refine iteT ?_
        have q5 : fin X Wx Γ σ H ((me st4).nb fun y st3 => if acc.length < sizeLine then lcS f mt me vs (ds.drop (i + 1)) (acc ++ [y]) (wipeS st3 vs) else .stuck) _ := q4
        refine ⟨Γ', st4, r5, ?_⟩
        refine fin.imp (fin_nb q5) fun y st5 q6 yv H5 r6 g5 ry => ?_
        obtain ⟨b1, b2⟩ := back2 r6
        split at q6
        · rename_i hz
          have ra5 : RA X.K H5 av acc := ((ra2.mono g3).mono g4).mono g5
          refine ⟨av, b2, by rw [ra5.length]; exact hz, acc ++ [y], av ++ [yv], st5, ?_, upd_same, ?_, ?_, q6⟩
          · have g6 : SameBut [D] H5 (upd H5 D (.lst (av ++ [yv]))) := fun b o e n => by rw [upd_ne (by simpa using n)]; exact e
            have b1' : Rel X.K Γ1 (wipeS st5 vs) (L2.wipe σ vs) H5 ([D] ++ []) := by simpa using b1
            have := Rel.after b1' g6 (nf := [D]) (by simp) (fun b hb => .inr hb) fun b hb => by
              rw [List.mem_singleton.mp hb]
              exact ⟨_, upd_same, fun _ => nofun, fun _ _ => nofun⟩
            simpa using this
          · have g6 : Gr H5 (upd H5 D (.lst (av ++ [yv]))) := Gr.own (b1.fxo D List.mem_cons_self)
            exact (ra5.append (.cons ry .nil)).mono g6
          · exact (g2.trans (g3.trans (g4.trans g5))).trans (Gr.own (b1.fxo D List.mem_cons_self))
        · exact q6.elim
  · have e : i = ds.length := by omega
    subst e
    rw [List.drop_length] at q2
    refine .inl ⟨src.stop _ H2 src2 rfl, ?_⟩
    have q3 : ∀ v H' fw, Rel X.K Γ (wipeS st2 vs) σ H' fw → Gr H H' → RS X.K H' v (.lst acc) fw → Q v H' := q2
    refine q3 _ H2 [D] (restore (r2.resl (L2.wipe_length σ vs).symm (fun i w e => (wipe_get (wipeS_none e)).symm) fun p hp => (wipe_get (vpin p hp)).symm)) gt (.lst hD2 ra2)
end
end DL

/-! ## DL11 -/
namespace DL
open PySem PySem.Spec PyProof.Rows L2

section
variable {X : Cx} {pn ts : List Nat} {elt tg iter : Expr} {ifs : List Expr} {scope : Scope} {own : List (Str × Nat)} {pos : Pos} {mi : DS → ER (List Py)} {f : Py → DS → Option DS} {mt : DS → ER Bool} {me : DS → ER Py}
theorem takesB {X : Cx} : Takes X W0 := takes0
theorem do_lc (hc : X.calm = true) (hN : X.N.Nodup) (hi : DI X tg iter mi) (ok : BlkOk X.N X.env.scope scope own)
    (hg : ∀ (s : Shared) (H : Hp) (C : Addr) (cl : List (Str × Addr)) (fp : List Addr), DG (X.blk s H scope (compEnvC scope cl C X.env) fp) pn ts tg f) (ht : ∀ (s : Shared) (H : Hp) (C : Addr) (cl : List (Str × Addr)) (fp : List Addr), DTs (X.blk s H scope (compEnvC scope cl C X.env) fp) ifs mt)
    (he : ∀ (s : Shared) (H : Hp) (C : Addr) (cl : List (Str × Addr)) (fp : List Addr), DE (X.blk s H scope (compEnvC scope cl C X.env) fp) elt me) (hts : ∀ i ∈ ts, i ∈ own.map (·.2) := by decide) (hs : ∀ x, foldedSetIterable iter X.env x = pure x := by intro _; rfl) :
    DO X (.ListComp elt [⟨tg, iter, ifs, 0⟩] scope pos) (lcM mi f mt me (own.map (·.2))) := by
  refine ⟨fun Wx tk => pe_imp (pe_lc (g := tG X pn ts f) (tt := tT X W0 mt) (te := tE X W0 me) hc hN (hi.pi Wx tk) ok (fun s H C cl fp => (hg s H C cl fp).pg) (fun s H C cl fp => (ht s H C cl fp).pt W0 takes0) (fun s H C cl fp => (he s H C cl fp).pe W0 takes0) hs) fun σ H Q ⟨Γ, st, r, q⟩ => ?_⟩
  exact lc_read (pn := pn) hts r q
theorem ds_setLc {pnn : List Nat} {i : Nat} {y : Str} {py spos : Pos} (hc : X.calm = true) (hN : X.N.Nodup) (hy : X.N[i]? = some y) (hyl : X.env.scope.names.lookup y = some .local)
    (hsw : swapsWith (.ListComp elt [⟨tg, iter, ifs, 0⟩] scope pos) (some (.Name y py)) spos.line X.env = pure true) (hi : DI X tg iter mi) (ok : BlkOk X.N X.env.scope scope own)
    (hg : ∀ (s : Shared) (H : Hp) (C : Addr) (cl : List (Str × Addr)) (fp : List Addr), DG (X.blk s H scope (compEnvC scope cl C X.env) fp) pn ts tg f) (ht : ∀ (s : Shared) (H : Hp) (C : Addr) (cl : List (Str × Addr)) (fp : List Addr), DTs (X.blk s H scope (compEnvC scope cl C X.env) fp) ifs mt)
    (he : ∀ (s : Shared) (H : Hp) (C : Addr) (cl : List (Str × Addr)) (fp : List Addr), DE (X.blk s H scope (compEnvC scope cl C X.env) fp) elt me) (hp : i ∉ pnn) (hts : ∀ i ∈ ts, i ∈ own.map (·.2) := by decide) (hs : ∀ x, foldedSetIterable iter X.env x = pure x := by intro _; rfl) :
    DSt X pnn (.Assign [.Name y py] (.ListComp elt [⟨tg, iter, ifs, 0⟩] scope pos) spos) fun st => (lcM mi f mt me (own.map (·.2)) st).s fun w st1 => putO i w st1 := by
  refine ⟨fun Wx tk => ps_imp (ps_setLc (g := tG X pn ts f) (tt := tT X W0 mt) (te := tE X W0 me) hc hN hy hyl hsw (hi.pi Wx tk) ok (fun s H C cl fp => (hg s H C cl fp).pg) (fun s H C cl fp => (ht s H C cl fp).pt W0 takes0) (fun s H C cl fp => (he s H C cl fp).pe W0 takes0) hs) fun D σ H ⟨Γ, st, np, r, q⟩ => ?_⟩
  refine lc_read (pn := pn) hts r (fin.imp (finS.e q) fun w st1 q1 v H1 fw r1 g1 rs => ?_)
  unfold putO at q1
  split at q1
  · rename_i hl
    exact q1 _ H1 (r1.set hl rs (np i hp)) g1
  · exact q1.elim
end

/-! ### raise -/
/-- an own class of exceptions without an __init__ -/
structure XCls (K : PySem.W.Frag) (mg : Str → Option Value) (x : Str) (C : Addr) : Prop where
  g : mg x = some (.ref C)
  x : PySem.W.excIn K C [.type "ValueError", .type "Exception", .type "BaseException", .type "object"] "ValueError.__new__" = true
  k : PySem.W.keepIn K (.ref C) = true
  b : PySem.W.subIn K (.ref C) (.type "BaseException") = some true
  t : PySem.W.typeIn K (.ref C) = some (.type "type")
section
variable {X : Cx} {pn : List Nat} {x : Str} {C : Addr} {p pos pos' : Pos}
theorem pmk_own0 (xc : XCls X.K X.mg x C) (hg : Gl X x) (hdb : (x == ("__debug__" : Str)) = false := by decide) : PMk X (.Call (.Name x p) [] [] pos) (fun _ H Q => Q (.ref C) none H) := by
  intro pins s σ H Q I h
  refine wpAny_Call_Name_kw (ld_glob I hg xc.g ?_ hdb)
  refine PySem.W.callWith_K0 I.kIn xc.k ?_
  show wpAny _ _ (call (.ref C) []) _ _ _
  obtain ⟨bm, N, nm, qn, bs, hdct, sn, sub, ab, col, dd, k0, k1, k2, k3, k5, mN, hC, hN, hni, T⟩ := exc_obj I.kIn xc.x
  obtain ⟨hp1, g1, d1, tk1, os1⟩ := s
  refine wpAny_call_exc_subT PySem.F.excBase_ValueError T hC hN hni (fun h' e hm => ?_) (Nat.zero_le _)
  exact mk_of I hm (raises_own xc.b xc.t) h (I.hok.gone hm.new)
theorem ds_raise0 (hc : X.calm = true) (xc : XCls X.K X.mg x C) (hg : Gl X x) (hdb : (x == ("__debug__" : Str)) = false := by decide) : DSt X pn (.Raise (some (.Call (.Name x p) [] [] pos)) none pos') fun st => .ex ⟨x, none⟩ st :=
  ⟨fun Wx tk => ps_imp (ps_raise hc tk (pmk_own0 xc hg hdb)) fun D σ H ⟨Γ, st, np, r, q⟩ => q (.ref C) none σ H r (Gr.refl H) ⟨xc.g, rfl⟩⟩
end

/-! ### try .. except X as n -/
/-- a suite's end, slot i unbound -/
def clrS (i : Nat) : SO → SO
  | .nx st => .nx (st.set i none)
  | .rt w st => .rt w (st.set i none)
  | .bk st => .bk (st.set i none)
  | .ct st => .ct (st.set i none)
  | _ => .stuck
noncomputable def tryS (mb : DS → SO) (cx : Str → Option Bool) (i : Nat) (ms : Exn → Addr → DS → SO) (st : DS) : SO := match mb st with
  | .ex x st1 => match cx x.name with
    | some true => by
        classical
        exact if h : ∃ r, r ≠ SO.stuck ∧ ∀ a, clrS i (ms x a (st1.set i (some (.val (.obj a))))) = r then h.choose else .stuck
    | some false => .ex x st1
    | none => .stuck
  | r => r
theorem tryS_ok {mb : DS → SO} {cx : Str → Option Bool} {i : Nat} {ms : Exn → Addr → DS → SO} {st : DS} (h : ∀ x st1, mb st ≠ .ex x st1) : tryS mb cx i ms st = mb st := by
  unfold tryS
  split
  · rename_i e; exact absurd e (h _ _)
  · rfl
theorem choose_eq {r : SO} {p : Addr → SO} (hr : r ≠ .stuck) (h : ∀ a, p a = r) (z : ∃ r, r ≠ SO.stuck ∧ ∀ a, p a = r) : z.choose = r := by
  have := z.choose_spec.2 0
  rw [← this, h 0]
theorem tryS_ex {mb : DS → SO} {cx : Str → Option Bool} {i : Nat} {ms : Exn → Addr → DS → SO} {st st1 : DS} {r : SO} {x : Exn} (h : mb st = .ex x st1) (hc : cx x.name = some true) (hne : r ≠ .stuck) (k : ∀ a, clrS i (ms x a (st1.set i (some (.val (.obj a))))) = r) : tryS mb cx i ms st = r := by
  unfold tryS
  rw [h]
  simp only [hc]
  have z : ∃ r, r ≠ SO.stuck ∧ ∀ a, clrS i (ms x a (st1.set i (some (.val (.obj a))))) = r := ⟨_, hne, k⟩
  rw [dif_pos z, choose_eq hne k z]
section
variable {X : Cx} {pn : List Nat} {x n : Str} {C : Addr} {i : Nat} {b : List Stmt} {b0 : Stmt} {suite : List Stmt} {np pos pos' : Pos} {mb : DS → SO} {cx : Str → Option Bool} {ms : Exn → Addr → DS → SO}
theorem ds_try_as (hs : X.stack = X.env :: X.outer) (hf : X.env.frame = some X.env.locals) (hN : X.N.Nodup) (hi : X.N[i]? = some n) (hln : X.env.kindOf n = some .local) (hc : Names X x (.ref C)) (hp : i ∉ pn)
    (hcx : ∀ y b cls, cx y = some b → X.mg y = some cls → PySem.W.exmOne X.K cls (.ref C) = some b)
    (hb : ∀ (pl : List (Addr × Obj)) (xe : Value → Shared → Prop), PassesOwn (model X.prog X.w) X.A X.env xe → DSs (X.tr pl xe) pn b mb)
    (hsu : ∀ (y : Exn) (a : Addr) (oe : Obj) (cls : Value) (d : Option Addr) (pl : List (Addr × Obj)), Zc cls d oe → (∃ vs, oe.data = .fields vs) → X.mg y.name = some cls → (y.arg = none → d = none) → cx y.name = some true → DSs (X.suite a ((a, oe) :: pl)) (i :: pn) (b0 :: suite) (ms y a)) :
    DSt X pn (.Try b [.ExceptHandler (some (.Name x np)) (some n) (b0 :: suite) pos'] [] [] pos) (tryS mb cx i ms) := by
  refine ⟨fun Wx tk => ps_imp (ps_try_as (tb := fun W => tS X pn W mb) (ts := fun a cls d D σ H => ∃ y, XR X.mg X.K y cls d H ∧ cx y.name = some true ∧ tS X (i :: pn) W0 (ms y a) D σ H) hs hf hN hi hln hc tk (fun W pl xe tkW po => (hb pl xe po).ps W tkW) (fun a oe cls d pl hz hv => ⟨fun pins s σ H D I ⟨y, hx, hy, q⟩ => ?_⟩)) fun D σ H ⟨Γ, st, hnp, r, q⟩ => ?_⟩
  · have hd : y.arg = none → d = none := fun e => by
      have := hx.2
      rw [e] at this; exact this
    exact ((hsu y a oe cls d pl hz hv hx.1 hd hy).ps W0 takes0).run pins s σ H D I q
  · refine ⟨Γ, st, hnp, r, ?_⟩
    have q0 : finS X Wx Γ H (tryS mb cx i ms st) D := q
    unfold tryS at q0
    cases e : mb st with
    | nx st1 => rw [e] at q0; exact q0
    | rt w st1 => rw [e] at q0; exact q0
    | bk st1 => rw [e] at q0; exact q0
    | ct st1 => rw [e] at q0; exact q0
    | stuck => rw [e] at q0; exact q0
    | ex y st1 =>
      rw [e] at q0
      intro cls d σ1 H1 r1 g1 hx
      cases hy : cx y.name with
      | none => simp only [hy] at q0; exact q0.elim
      | some k =>
        refine ⟨k, hcx y.name k cls hy hx.1, fun hk a ha => ?_, fun hk => ?_⟩
        · subst hk
          simp only [hy] at q0
          refine ⟨y, hx, hy, ?_⟩
          by_cases z : ∃ r, r ≠ SO.stuck ∧ ∀ a, clrS i (ms y a (st1.set i (some (.val (.obj a))))) = r
          · rw [dif_pos z] at q0
            have hi1 : i < σ1.length ∨ ¬ i < st1.length := by
              obtain ⟨⟨fp, hsr, _⟩, _⟩ := r1
              rw [hsr.length]; exact Nat.lt_or_ge i st1.length |>.imp id (fun h => by omega)
            have hset : Rel X.K Γ (st1.set i (some (.val (.obj a)))) (σ1.set i (some (.ref a))) H1 [] := by
              by_cases hl : i < st1.length
              · exact r1.set (fx := []) hl (.val (.obj a)) (hnp i hp)
              · obtain ⟨⟨fp, hsr, _⟩, _⟩ := id r1
                have h1 : st1.set i (some (.val (.obj a))) = st1 := List.set_eq_of_length_le (by omega)
                have h2 : σ1.set i (some (V.ref a)) = σ1 := List.set_eq_of_length_le (by rw [hsr.length]; omega)
                rw [h1, h2]; exact r1
            refine ⟨Γ, st1.set i (some (.val (.obj a))), fun j hj p hp' => hnp j (fun zz => hj (List.mem_cons_of_mem _ zz)) p hp', hset, ?_⟩
            have es := z.choose_spec.2 a
            rw [← es] at q0
            cases ec : ms y a (st1.set i (some (.val (.obj a)))) with
            | nx st2 =>
              rw [ec] at q0
              exact fun σ' H' r' g' => q0 _ H' (r'.gone (hnp i hp)) (g1.trans g')
            | bk st2 =>
              rw [ec] at q0
              exact fun σ' H' r' g' => q0 _ H' (r'.gone (hnp i hp)) (g1.trans g')
            | ct st2 =>
              rw [ec] at q0
              exact fun σ' H' r' g' => q0 _ H' (r'.gone (hnp i hp)) (g1.trans g')
            | rt w st2 =>
              rw [ec] at q0
              exact fun v σ' H' fw r' g' rs => q0 v σ' H' fw r'.forget (g1.trans g') rs
            | ex x2 st2 => rw [ec] at q0; exact q0.elim
            | stuck => rw [ec] at q0; exact q0.elim
          · rw [dif_neg z] at q0; exact q0.elim
        · subst hk
          simp only [hy] at q0
          exact q0 cls d σ1 H1 r1 g1 hx
def objAt (st : DS) (i : Nat) (a : Addr) : Bool := match st[i]? with
  | some (some (.val (.obj b))) => b == a
  | _ => false
theorem objAt_ok {st : DS} {i : Nat} {a : Addr} (h : objAt st i a = true) : st[i]? = some (some (.val (.obj a))) := by
  unfold objAt at h
  split at h
  · rename_i b e
    rw [e, beq_iff_eq.mp h]
  · cases h
/-- isinstance(e, c) in an except suite -/
theorem de_isE {k : Nat} {n : Nat} {D2 : Addr} {y : Str} {a D : Addr} {oe : Obj} {pl : List (Addr × Obj)} {e : Expr} {p p2 : Pos} {bb : Bool} (T : Bt X.mg) (hE : ExcC X.K D) (hz : Zc (.ref D) none oe) (hv : ∃ vs, oe.data = .fields vs) (hg : Gl (X.suite a ((a, oe) :: pl)) "isinstance")
    (hy : PE (X.suite a ((a, oe) :: pl)) (.Name y p2) (tC (.ref D2))) (hk : PySem.W.kitOne X.K (.ref D) (.ref D2) = some bb) (he : PE (X.suite a ((a, oe) :: pl)) e (tVar i))
    (hst : starEach [e, .Name y p2] X.env = (false, eval e X.env) :: starEach [.Name y p2] X.env := by rfl) (hst2 : starEach [.Name y p2] X.env = (false, eval (.Name y p2) X.env) :: starEach [] X.env := by rfl)
    (hpl : (backTo pos (starEach [.Name y p2] X.env)).any (·.1) = false := by rfl) :
    DE (X.suite a ((a, oe) :: pl)) (.Call (.Name "isinstance" p) [e, .Name y p2] [] pos) fun st => if objAt st i a then .ok (.bl bb) st else .stuck := by
  refine ⟨fun Wx tk => pe_imp (pe_callB (call_isE hE hz hv) hg T.isinstance boot_isinstance (pa_cons he (pa_cons hy pa_nil hst2) hst) (by decide) (by decide) hst hpl) fun σ H Q ⟨Γ, st, r, q⟩ => ?_⟩
  by_cases hc : objAt st i a = true
  · have q' : fin (X.suite a ((a, oe) :: pl)) Wx Γ σ H (if objAt st i a = true then .ok (Py.bl bb) st else .stuck) _ := q
    rw [if_pos hc] at q'
    obtain ⟨v, fp, e1, rs⟩ := r.get (objAt_ok hc)
    have rd := rs.data rfl
    cases rd
    exact ⟨_, e1, .ref D2, _, bb, rfl, fun u hu => hu, hk, q' _ H r (Gr.refl H) (.bl _)⟩
  · have q' : fin (X.suite a ((a, oe) :: pl)) Wx Γ σ H (if objAt st i a = true then .ok (Py.bl bb) st else .stuck) _ := q
    rw [if_neg hc] at q'
    exact q'.elim
end

/-! ### a def -/
def outsOf (n : Nat) (pn : List Nat) (st : DS) : DS := (List.range n).map fun i => if i ∈ pn then (st[i]?).join else none
/-- a def of n parameters, N names; the objects of the parameters pn come back -/
def runF (n N : Nat) (pn : List Nat) (mb : DS → SO) : FM := fun ws => match mb (ws.map some ++ List.replicate (N - n) none) with
  | .nx st => .ret (.val .non) (outsOf n pn st)
  | .rt w st => .ret w (outsOf n pn st)
  | .ex x st => .ex x (outsOf n pn st)
  | _ => .stuck
theorem SR.pad {K : PySem.W.Frag} {H : Hp} : ∀ {σ : L2.St} {st : DS} {fp : List Addr} (k : Nat), SR K H σ st fp → SR K H (σ ++ List.replicate k none) (st ++ List.replicate k none) fp
  | _, _, _, 0, .nil => .nil
  | _, _, _, k + 1, .nil => .no (SR.pad k .nil)
  | _, _, _, k, .no h => .no (SR.pad k h)
  | _, _, _, k, .yes h t => .yes h (SR.pad k t)
theorem outs_ok {K : PySem.W.Frag} {H : Hp} {σ' : L2.St} {st' : DS} {fp : List Addr} {n : Nat} {pn : List Nat} {vs : List V} (h : SR K H σ' st' fp) (hl : vs.length = n) (hpin : ∀ i v, i ∈ pn → vs[i]? = some v → σ'[i]? = some (some v)) :
    ∃ fo, SR K H (vs.map some) (outsOf n pn st') fo ∧ fo.Sublist fp := by
  have len : (outsOf n pn st').length = n := by unfold outsOf; simp
  have at_ : ∀ (i : Nat) (w : Sv), (outsOf n pn st')[i]? = some (some w) → i < n ∧ i ∈ pn ∧ st'[i]? = some (some w) := by
    intro i w e
    have hi : i < n := by rw [← len]; exact (List.getElem?_eq_some_iff.mp e).1
    unfold outsOf at e
    rw [List.getElem?_map, List.getElem?_range hi] at e
    simp only [Option.map_some, Option.some.injEq] at e
    split at e
    · rename_i hm; exact ⟨hi, hm, join_some e⟩
    · cases e
  by_cases hle : n ≤ st'.length
  · refine h.sub (by rw [List.length_map, len, hl]) (by rw [len]; exact hle) fun i w e => ?_
    obtain ⟨h1, h2, h3⟩ := at_ i w e
    refine ⟨h3, ?_⟩
    have hv : vs[i]? = some (vs[i]'(by omega)) := List.getElem?_eq_getElem (by omega)
    rw [hpin i _ h2 hv, List.getElem?_map, hv]; rfl
  · -- the state has always n slots; pad it
    have h2 := h.pad (n - st'.length)
    refine h2.sub (by rw [List.length_map, len, hl]) (by rw [len, List.length_append, List.length_replicate]; omega) fun i w e => ?_
    obtain ⟨h1, h2', h3⟩ := at_ i w e
    have hi : i < st'.length := (List.getElem?_eq_some_iff.mp h3).1
    refine ⟨by rw [List.getElem?_append_left hi]; exact h3, ?_⟩
    have hv : vs[i]? = some (vs[i]'(by omega)) := List.getElem?_eq_getElem (by omega)
    rw [List.getElem?_append_left (by rw [h.length]; exact hi), hpin i _ h2' hv, List.getElem?_map, hv]; rfl
section
variable {P : Program} {w : World} {K : PySem.W.Frag} {mg : Str → Option Value} {base : Heap}
theorem fnok_mk {x qual : Str} {st : Stmt} {f : Addr} {fd : FuncData} {N ps : List Str} {k n : Nat} {pn : List Nat} {mb : DS → SO} (F : Fun K x qual st f fd) (S : FnScope N ps (defScope st)) (hn : ps.length = n) (hnN : n ≤ N.length)
    (body : ∀ (cdv : Value) (A : Around) (outer : List Env) (s : Shared) (H : Hp) (E : XK), Room k (A.deeper (envOfC qual (defScope st) s.heap.objs.size f cdv)) → DSs (cxOf (L2.CX P w) P w K mg base N qual (defScope st) f cdv A outer s H E) pn (defBody st) mb) :
    FnOk P w K mg base (L2.CX P w) (k + 1) f fd ps (spD mg K n (runF n N.length pn mb)) := by
  refine F.okX S (fun vs H Q E h => h.1.trans hn.symm) fun cdv A outer s H vs Q E hr h => ?_
  obtain ⟨hl, ws, fp, sr, nd, q⟩ := h
  have tk : Takes (cxOf (L2.CX P w) P w K mg base N qual (defScope st) f cdv A outer s H E) (fun cls d _ H => E cls d H) := takes_of rfl rfl rfl rfl
  refine ⟨_, (body cdv A outer s H E hr).ps _ tk, ?_⟩
  have hpin : ∀ p ∈ (pn.filterMap fun i => vs[i]?.map fun v => (i, v)), p.1 ∈ pn ∧ vs[p.1]? = some p.2 := fun p hp => by
    obtain ⟨i, hi, e⟩ := List.mem_filterMap.mp hp
    obtain ⟨v, e1, e2⟩ := map_some e
    subst e2
    exact ⟨hi, e1⟩
  have hst : L2.start N vs = vs.map some ++ List.replicate (N.length - n) none := by unfold L2.start; rw [hl]
  have hrel : Rel K ⟨H, fp, pn.filterMap fun i => vs[i]?.map fun v => (i, v)⟩ (ws.map some ++ List.replicate (N.length - n) none) (L2.start N vs) H [] := by
    refine ⟨⟨fp, by rw [hst]; exact sr.pad _, by simpa using nd, fun b hb => .inr (by simpa using hb)⟩, nofun, fun b o e _ => e, fun p hp => ?_⟩
    obtain ⟨_, e⟩ := hpin p hp
    have hi : p.1 < vs.length := (List.getElem?_eq_some_iff.mp e).1
    rw [hst, List.getElem?_append_left (by simpa using hi), List.getElem?_map, e]; rfl
  refine ⟨⟨H, fp, pn.filterMap fun i => vs[i]?.map fun v => (i, v)⟩, _, fun i hi p hp e => hi (e ▸ (hpin p hp).1), hrel, ?_⟩
  have pins : ∀ {st' : DS} {σ' : L2.St} {H' : Hp} {fx : List Addr}, Rel K ⟨H, fp, pn.filterMap fun i => vs[i]?.map fun v => (i, v)⟩ st' σ' H' fx → ∃ fo, SR K H' (vs.map some) (outsOf n pn st') fo ∧ (fx ++ fo).Nodup ∧ (∀ b ∈ fx ++ fo, H b = none ∨ b ∈ fp) ∧ SameBut fp H H' := fun {st' σ' H' fx} r => by
    obtain ⟨⟨fq, hs, nd2, mi⟩, fo0, sm, pp⟩ := r
    obtain ⟨fo, h1, h2⟩ := outs_ok (pn := pn) hs hl fun i v hi hv => pp (i, v) (List.mem_filterMap.mpr ⟨i, hi, by rw [hv]; rfl⟩)
    have sub : (fx ++ fo).Sublist (fx ++ fq) := List.Sublist.append (List.Sublist.refl _) h2
    exact ⟨fo, h1, nd2.sublist sub, fun b hb => mi b (sub.subset hb), fun b o e n => sm b o e n⟩
  unfold runF at q
  cases e : mb (ws.map some ++ List.replicate (N.length - n) none) with
  | nx st' =>
    rw [e] at q
    intro σ' H' r' g'
    obtain ⟨fo, h1, h2, h3, h4⟩ := pins r'
    exact q .non H' [] fo (.val .non) h1 h2 h3 h4
  | rt w' st' =>
    rw [e] at q
    intro v σ' H' fw r' g' rs
    obtain ⟨fo, h1, h2, h3, h4⟩ := pins r'
    exact q v H' fw fo rs h1 h2 h3 h4
  | ex x' st' =>
    rw [e] at q
    intro cls d σ' H' r' g' hx
    obtain ⟨fo, h1, h2, h3, h4⟩ := pins r'
    exact q cls d H' fo hx h1 (by simpa using h2) (fun b hb => h3 b (by simpa using hb)) h4
  | bk st' => rw [e] at q; exact q.elim
  | ct st' => rw [e] at q; exact q.elim
  | stuck => rw [e] at q; exact q.elim
theorem dfn_mk {x qual : Str} {st : Stmt} {f : Addr} {fd : FuncData} {N ps : List Str} {k n : Nat} {pn : List Nat} {mb : DS → SO} (F : Fun K x qual st f fd) (S : FnScope N ps (defScope st)) (hm : mg x = some (.ref f)) (hb : Binds K fd ps []) (hn : ps.length = n) (hnN : n ≤ N.length)
    (body : ∀ (cdv : Value) (A : Around) (outer : List Env) (s : Shared) (H : Hp) (E : XK), Room k (A.deeper (envOfC qual (defScope st) s.heap.objs.size f cdv)) → DSs (cxOf (L2.CX P w) P w K mg base N qual (defScope st) f cdv A outer s H E) pn (defBody st) mb) :
    DFn P w K mg base (k + 1) x n (runF n N.length pn mb) := ⟨f, fd, ps, hm, F.kp, hb, hn, fnok_mk F S hn hnN body⟩

end
end DL

/-! ## DL12 -/
namespace DL
open PySem PySem.Spec PyProof.Rows L2

/-! ### tuple(d), by what list(d) has -/
section
variable {prog : Program} {w : World} {A : Around} {E : Value → Shared → Prop} {s : Shared} {T : String} {r d : Addr} {n : Nat} {P : Nat → Value → Prop} {OK : Heap → Prop}
theorem collect_src {Q : List Value → Shared → Prop} (K : PySem.W.KdlSrc prog w T r d n P OK) (hh : A.handled = none) (hok : OK s.heap) (hn : n ≤ sizeLine)
    (hQ : ∀ (h' : Heap) (tk : Nat) (acc : Array Value), (∀ b o, s.heap.get? b = some o → h'.get? b = some o) → ItemsOf P acc n → Q acc.toList { s with heap := h', toks := tk }) :
    wpAny (model prog w) A (collect (.ref r)) Q E s := by
  unfold collect
  refine wpAny_bind (wpAny_runValue (codeAny_builtin F.entry_proto_collect ?_))
  rw [Around.under_plainId F.plain_proto_collect _]
  show wpAny _ A.in1 (newList [] >>= fun l => again (.builtin "list.__iadd__" ⟨[l, .ref r], []⟩)) _ _ s
  refine wpAny_bind (wpAny_newObj_type (wpAny_pure ⟨plainId_quiet F.plain_list_iadd _, codeAny_builtin F.entry_list_iadd ?_⟩))
  rw [Around.under_plainId F.plain_list_iadd _]
  have there := K.there _ hok
  have fresh : ∀ (l : List Value), (s.heap.push { cls := .type "list", data := .seq l.toArray }).get? s.heap.objs.size = some { cls := .type "list", data := .seq l.toArray } := fun l => Heap.get?_push_size _ rfl
  have grown := PySem.W.kdl_extend (A := A) (s := { s with heap := s.heap.push { cls := .type "list", data := .seq ([] : List Value).toArray } })
    (R := fun rr s' => rr = .ok (.ret (.ref s.heap.objs.size)) ∧ ∃ (h' : Heap) (tk : Nat) (acc : Array Value) (c' : Nat), s' = { s with heap := h', toks := tk } ∧ (∀ b o, s.heap.get? b = some o → h'.get? b = some o) ∧
      h'.get? s.heap.objs.size = some { cls := .type "list", dict := none, data := .seq acc c', slots := #[] } ∧ ItemsOf P acc n)
    K hh (K.keep _ _ hok fun b _ o e => Heap.get?_push_of_some _ e) s.heap.objs.size (Nat.ne_of_gt there.1) (Nat.ne_of_gt there.2) (.ref s.heap.objs.size) 0 (fresh [])
    (fun h' tk acc c' hk e hi => ⟨rfl, h', tk, acc, c', rfl, fun b o q => hk b o (Nat.ne_of_lt (Heap.lt_size q)) (Heap.get?_push_of_some _ q), e, hi⟩) hn
  have landed : ∀ {rr : Result} {s' : Shared}, (rr = .ok (.ret (.ref s.heap.objs.size)) ∧ ∃ (h' : Heap) (tk : Nat) (acc : Array Value) (c' : Nat), s' = { s with heap := h', toks := tk } ∧ (∀ b o, s.heap.get? b = some o → h'.get? b = some o) ∧
      h'.get? s.heap.objs.size = some { cls := .type "list", dict := none, data := .seq acc c', slots := #[] } ∧ ItemsOf P acc n) → ∃ (h' : Heap) (tk : Nat) (acc : Array Value), rr = .ok (.ret (.ref s.heap.objs.size)) ∧ s' = { s with heap := h', toks := tk } ∧
      (∃ c', h'.get? s.heap.objs.size = some { cls := .type "list", dict := none, data := .seq acc c', slots := #[] }) ∧ (∀ b o, s.heap.get? b = some o → h'.get? b = some o) ∧ ItemsOf P acc n :=
    fun ⟨e, h', tk, acc, c', es, hk, hS, hi⟩ => ⟨h', tk, acc, e, es, ⟨c', hS⟩, hk, hi⟩
  refine wpAny_mono grown (fun fin s' h => ?_) fun e s' h => absurd h.1 (by simp)
  cases fin with
  | done f =>
    obtain ⟨h', tk, acc, e, rfl, ⟨c', hS⟩, hk, hi⟩ := landed h
    cases e
    show wpAny _ A (load s.heap.objs.size >>= _) _ _ _
    exact wpAny_bind (wpAny_load hS (wpAny_pure (hQ h' tk acc hk hi)))
  | again c1 =>
    refine ⟨h.1, codeAny_mono h.2 fun rr s2 h2 => ?_⟩
    obtain ⟨h', tk, acc, rfl, rfl, ⟨c', hS⟩, hk, hi⟩ := landed h2
    show wpAny _ A (load s.heap.objs.size >>= _) _ _ _
    exact wpAny_bind (wpAny_load hS (wpAny_pure (hQ h' tk acc hk hi)))
theorem tuple_src {Q : Value → Shared → Prop} (K : PySem.W.KdlSrc prog w "dict" r d n P OK) (hh : A.handled = none) (hok : OK s.heap) (hn : n ≤ sizeLine)
    (hQ : ∀ (h' : Heap) (tk : Nat) (acc : Array Value), (∀ b o, s.heap.get? b = some o → h'.get? b = some o) → ItemsOf P acc n → Q (.ref h'.objs.size) { s with heap := h'.push { cls := .type "tuple", data := .seq acc }, toks := tk }) :
    wpAny (model prog w) A (call (.type "tuple") [.ref r]) Q E s := by
  have code : codeAny (model prog w) A.in1 (.call (.builtin "tuple.__new__") ⟨[.type "tuple", .ref r], []⟩) (wants (fun obj s1 => s1.TypeIs obj "tuple" ∧ Q obj s1) E) s := by
    refine codeAny_of_tree ?_
    show wpAny _ A.in1.in1 (do checkBuiltinCall "tuple.__new__" ⟨[.type "tuple", .ref r], []⟩; again (.builtin "tuple.__new__" ⟨[.type "tuple", .ref r], []⟩)) _ _ s
    refine wpAny_bind (wpAny_of_eq (F.newCall_tuple_1 _) (wpAny_pure ⟨plainId_quiet F.plain_tuple_new _, codeAny_builtin F.entry_tuple_new ?_⟩))
    rw [Around.under_plainId F.plain_tuple_new _]
    have k1 := sub_tuple_self
    have k2 := init_tuple_lookup
    have k3 := madeHere_tuple
    have k4 := K.type s hok
    have k6 : A.in1.in1.handled = none := hh
    wp_walk using wpAny_typeOf k4, collect_src (A := A.in1.in1) K k6 hok hn
    intro h' tk acc hk hacc
    show wpAny _ _ (Builtin.Tuple.tupleExact acc.toList.toArray >>= fun v => ret v) _ _ _
    unfold Builtin.Tuple.tupleExact
    refine wpAny_bind (wpAny_newObj_type (wpAny_pure ?_) (by show acc.toList.toArray.size ≤ sizeLine; simp only [Array.toArray_toList]; rw [hacc.1]; exact hn))
    rw [show acc.toList.toArray = acc by simp]
    exact ⟨⟨_, Heap.get?_push_size _ rfl, rfl⟩, hQ h' tk acc hk hacc⟩
  refine callType_codes (Q₁ := fun obj s₁ => s₁.TypeIs obj "tuple" ∧ Q obj s₁) F.called_tuple (F.typeCall_tuple_1 _) F.entry_object_init code fun obj s1 h1 => ?_
  exact ⟨h1.1, F.args_object_init_2 obj _, object_init_meets F.called_tuple.init.lookup F.called_tuple.made (by decide) prog w A.in1 _ s1 ⟨h1.1, rfl, h1.2⟩⟩
end
section
variable {X : Cx}
theorem call_tuple_dK (hc : X.calm = true) : CallR X (.type "tuple") (fun xs H Q => ∃ d kvs, xs = [.ref d] ∧ Rd H d (.dK kvs) ∧ ∀ p, H p = none → Q (.ref p) (upd H p (.tup (kvs.map fun kv => kV kv.1)))) := by
  intro pins s σ H xs us Q I r h
  obtain ⟨p, kvs, rfl, hk, q⟩ := h
  obtain ⟨u, rfl, rx⟩ := vals1 r
  obtain rfl : u = Value.ref p := rx
  obtain ⟨z, lo, vs, rk, hd⟩ := dk_rd I.hok hk
  obtain ⟨ep, hat⟩ := hd.dictAt
  have hl : kvs.length = vs.length := Paired.length rk
  refine tuple_src (PySem.W.kdl_dict (knd := mixKind X.prog X.w) (kvs := vs) (ep := ep) lo) (I.ok.hd hc) hat (by rw [← hl]; exact z) fun h' tk acc hkeep hacc => ?_
  have I' : Inv X pins σ H { s with heap := h', toks := tk } := I.kept hkeep
  refine ⟨.ref h'.objs.size, upd H h'.objs.size (.tup (kvs.map fun kv => kV kv.1)), I'.laid (t' := tk) (fun b o e => Heap.get?_push_of_some _ e) (Nat.le_refl _) ?_, rfl, q _ (I'.hok.fresh (Nat.le_refl _))⟩
  refine ⟨by rw [List.length_map]; exact z, acc.toList, vals_of_at (by have e0 := hacc.1; rw [List.length_map, hl, ← e0]; simp) fun j x w h1 h2 => ?_, _, Heap.get?_push_size _ rfl, rfl, 0, by simp⟩
  obtain ⟨k, y, hky, hi⟩ := hacc.2 j w (by rw [← Array.getElem?_toList]; exact h2)
  have e1 : (kvs.map (·.1))[j]? = some k := by rw [KV.keys rk, List.getElem?_map, hky]; rfl
  have e2 : (kvs.map fun kv => kV kv.1)[j]? = some (kV k) := by
    rw [show (kvs.map fun kv => kV kv.1) = (kvs.map (·.1)).map kV by rw [List.map_map]; rfl, List.getElem?_map, e1]; rfl
  rw [e2] at h1
  cases h1
  exact keyIs_rel hi
theorem call_tuple_dT (hc : X.calm = true) : CallR X (.type "tuple") (fun xs H Q => ∃ d kvs, xs = [.ref d] ∧ Rd H d (.dT kvs) ∧ ∀ p bs, H p = none → IsKeys H kvs bs → Q (.ref p) (upd H p (.tup (bs.map V.ref)))) := by
  intro pins s σ H xs us Q I r h
  obtain ⟨d, kvs, rfl, hd, q⟩ := h
  obtain ⟨u, rfl, rx⟩ := r.one
  cases rx
  obtain ⟨z, hs, ks, pr, o, es, ep, ho, hx, hdt, he, hn⟩ := (show ObjOk X.prog X.w H s.heap d (.dT kvs) from hd.ok I.hok)
  have l1 : es.size = ks.length := size_of_entries he
  have l2 : kvs.length = ks.length := Paired.length pr
  refine tuple_src (kdl_raw hs hx hdt) (I.ok.hd hc) ho (by omega) fun h' tk acc kp it => ?_
  have I' : Inv X pins σ H { s with heap := h', toks := tk } := I.kept kp
  refine ⟨.ref h'.objs.size, upd H h'.objs.size (.tup ((ks.map fun x => x.2.1).map V.ref)), I'.laid (t' := tk) (fun b o e => Heap.get?_push_of_some _ e) (Nat.le_refl _) ?_, rfl, q _ _ (I'.hok.fresh (Nat.le_refl _)) (isKeys_of pr)⟩
  have len : acc.toList.length = ks.length := by rw [Array.length_toList, it.1]; exact l1
  refine ⟨by rw [List.length_map, List.length_map]; omega, acc.toList, vals_of_at (by rw [List.length_map, List.length_map, len]) fun j x w h1 h2 => ?_, _, Heap.get?_push_size _ rfl, rfl, 0, by simp⟩
  obtain ⟨en, hen, hv⟩ := it.2 j w (by rw [← Array.getElem?_toList]; exact h2)
  have qe := entry_at he j
  rw [hen] at qe
  cases hb : ks[j]? with
  | none => rw [hb] at qe; exact nomatch (show some en = none from qe)
  | some b =>
    rw [hb] at qe
    have ee : en = entryOfKey (tupleKind (mixKind X.prog X.w)) b := Option.some.inj qe
    rw [List.getElem?_map, List.getElem?_map, hb] at h1
    have ex : x = V.ref b.2.1 := (Option.some.inj h1).symm
    rw [ex, hv, ee]
    rfl
end
/-- the keys of a dict that a slot or a value holds -/
def keysS : Sv → Option (List Py)
  | .dic kvs => some (kvs.map (·.1))
  | .val (.dic kvs) => some (kvs.map (·.1))
  | _ => none
def tupS (w : Sv) : Option Py := match w with
  | .dic kvs => some (.tup (kvs.map (·.1)))
  | .val (.dic kvs) => some (.tup (kvs.map (·.1)))
  | w => (itemsS w).map .tup
theorem RK.keys {K : PySem.W.Frag} {H : Hp} : ∀ {ks : List (Key × V)} {kvs : List (Py × Py)}, RK K H ks kvs → RA K H (ks.map fun kv => kV kv.1) (kvs.map (·.1))
  | _, _, .nil => .nil
  | _, _, @RK.cons _ _ k v d ks kvs h t => .cons (by cases k <;> constructor) (RK.keys t)
theorem RA.keyPs {K : PySem.W.Frag} {H : Hp} : ∀ ks : List Key, RA K H (ks.map kV) (ks.map keyP)
  | [] => .nil
  | k :: ks => .cons (by cases k <;> constructor) (RA.keyPs ks)
theorem RT.keys {K : PySem.W.Frag} {H : Hp} : ∀ {ks : List (List Key × V)} {kvs : List (Py × Py)} {bs : List Addr}, RT K H ks kvs → IsKeys H ks bs → RA K H (bs.map V.ref) (kvs.map (·.1))
  | _, _, [], .nil, _ => .nil
  | _, _, b :: bs, .cons h t, k => by
    cases k with
    | cons k1 k2 => exact .cons (.tup k1 (RA.keyPs _)) (RT.keys t k2)
section
variable {X : Cx} {a : Expr} {ma : DS → ER Ar} {p pos : Pos}
theorem de_tup1 (hc : X.calm = true) (T : Bt X.mg) (hg : Gl X "tuple") (ha : DX X a ma) (he : starEach [a] X.env = (false, eval a X.env) :: starEach [] X.env := by rfl) (hpl : (backTo pos (starEach [] X.env)).any (·.1) = false := by rfl) :
    DE X (.Call (.Name "tuple" p) [a] [] pos) (e1 ma tupS) :=
  de_t1 (call_tuple_of.or ((call_tuple_dK hc).or (call_tuple_dT hc))) hg T.tuple (boot_cls .tuple (by decide)) ha (fun v w fp H d Q rs hf q => by
    have dK : ∀ (a : Addr) (ks : List (Key × V)) (kvs : List (Py × Py)), v = .ref a → Rd H a (.dK ks) → RK X.K H ks kvs → d = .tup (kvs.map (·.1)) → ∃ d kvs, [v] = [.ref d] ∧ Rd H d (.dK kvs) ∧ ∀ p, H p = none → Q (.ref p) (upd H p (.tup (kvs.map fun kv => kV kv.1))) := by
      intro a ks kvs hv hr hk hd
      subst hv hd
      refine ⟨a, ks, rfl, hr, fun p hp => ?_⟩
      have s : Same H (upd H p (.tup (ks.map fun kv => kV kv.1))) := Same.new hp
      exact q _ _ s (.tup upd_same (hk.keys.mono (Same.gr s)))
    have dT : ∀ (a : Addr) (ks : List (List Key × V)) (kvs : List (Py × Py)), v = .ref a → Rd H a (.dT ks) → RT X.K H ks kvs → d = .tup (kvs.map (·.1)) → ∃ d kvs, [v] = [V.ref d] ∧ Rd H d (.dT kvs) ∧ ∀ p bs, H p = none → IsKeys H kvs bs → Q (.ref p) (upd H p (.tup (bs.map V.ref))) := by
      intro a ks kvs hv hr hk hd
      subst hv hd
      refine ⟨a, ks, rfl, hr, fun p bs hp ik => ?_⟩
      have s : Same H (upd H p (.tup (bs.map V.ref))) := Same.new hp
      exact q _ _ s (.tup upd_same ((hk.keys ik).mono (Same.gr s)))
    have seq : ∀ ds, itemsS w = some ds → d = .tup ds → ∃ p ys, [v] = [.ref p] ∧ ((SqL X.K H p ys ∧ ∀ l, H l = none → Q (.ref l) (upd H l (.tup ys))) ∨ (SqT X.K H p ys ∧ Q (.ref p) H)) := by
      intro ds hi hd
      subst hd
      obtain ⟨l, xs, rfl, hs, ra⟩ := rs.seq hi
      refine ⟨l, xs, rfl, ?_⟩
      rcases hs with hs | hs
      · refine .inl ⟨hs, fun p hp => ?_⟩
        have s : Same H (upd H p (.tup xs)) := Same.new hp
        exact q _ _ s (.tup upd_same (ra.mono (Same.gr s)))
      · exact .inr ⟨SqT.of hs, q _ _ (Same.refl H) (.tup hs ra)⟩
    unfold tupS at hf
    split at hf
    · cases hf
      cases rs with
      | dK ha hk => exact .inr (.inl (dK _ _ _ rfl (.inl ha) hk rfl))
      | dT ha hk => exact .inr (.inr (dT _ _ _ rfl (.inl ha) hk rfl))
    · cases hf
      cases rs with
      | val rv =>
        cases rv with
        | dicK ha hk => exact .inr (.inl (dK _ _ _ rfl (.inr ⟨_, ha⟩) hk rfl))
        | dicT ha hk => exact .inr (.inr (dT _ _ _ rfl (.inr ⟨_, ha⟩) hk rfl))
    · obtain ⟨ds, hi, rfl⟩ := map_some hf
      exact .inl (seq ds hi rfl)) (by decide) (by decide) he hpl
end
end DL

/-! ## DL13 -/
namespace DL
open PySem PySem.Spec PyProof.Rows L2

/-! ### dict comprehensions, with keys of both kinds -/
theorem dictSet_put {X : Cx} {pins : List (Addr × Obj)} {σ : L2.St} {H H' : Hp} {s : Shared} {E : Value → Shared → Prop} {a : Addr} {y v : V} {u r : Value} {Q : Unit → Shared → Prop} (hu : X.A.units + 1 < cLine) (I : Inv X pins σ H s) (g : DPut H a y v H') (ry : RelV y u) (rv : RelV v r)
    (h : ∀ s', Inv X pins σ H' s' → Q () s') : wpAny (model X.prog X.w) X.A (dictSet a u r) Q E s := by
  rcases g with ⟨kvs, k, e, rfl, l, rfl⟩ | ⟨kvs, k, b, e, rfl, eb, l, rfl⟩
  · exact d_dictSet I e l ry rv h
  · cases (show u = Value.ref b from ry)
    obtain ⟨z, hd, xs, rel, dd⟩ := dt_of I.hok e
    have hl : (putK kvs k v).length ≤ sizeLine := by have := length_putK kvs k v; omega
    refine wpAny_dictSet_heap (hsz := by rw [← Paired.length rel]; exact z) (show X.A.units < cLine by omega) (key_of I.hok eb) dd fun h' dd' hs => h _ ?_
    obtain ⟨q, es, ep, hq, h2, h3, h4, _, h5⟩ := dd'
    refine d_write I (by rw [e]; exact True.intro) hs ⟨q, hq⟩ ⟨hl, hd, _, (rel.put k eb rv).keeps fun c ys ec => ?_, q, es, ep, hq, h2, h3, h4, h5⟩
    rw [upd_ne (ne_of ec e (fun z => nomatch z))]
    exact ec
section
variable {X : Cx}
def tDcA (e0 : HO) (wi : TI) (g : TG) (tt : TT) (tk tv : TE) (vs : List Nat) : TE := fun σ H Q => wi σ H fun J H1 => ∀ D, H1 D = none → ∃ W : Nat → Nat → Hp → Prop, (∃ m, W 0 m (upd H1 D e0)) ∧ ∀ i m H, W i m H →
  (J.stop i H ∧ Q (.ref D) H) ∨ (J.go i H ∧ ∃ Nx : Hp → Prop, (∀ H', Nx H' → ∃ m', m' < m ∧ W (i + 1) m' H') ∧ ∀ x H', J.yld i H x H' → g x (L2.wipe σ vs) H' fun σ2 H2 => L2.wipe σ2 vs = L2.wipe σ vs ∧ tt σ2 H2 fun b H3 =>
    if b = true then tk σ2 H3 fun y H4 => tv σ2 H4 fun z H5 => ∃ Hn, DPut H5 D y z Hn ∧ Nx Hn else Nx H3)
theorem dcA_core {pins : List (Addr × Obj)} {s : Shared} {σ : L2.St} {H : Hp} {Q : VK} {kx vx tg iter : Expr} {ifs : List Expr} {scope : Scope} {own : List (Str × Nat)} {pos pos' : Pos} {e0 : HO} {wi : TI} {g : TG} {tt : TT} {tk tv : TE} {use : Option (Value → Sem Unit)} {Qf : Value → Shared → Prop}
    (he0 : e0 = .dK [] ∨ e0 = .dT []) (hu : X.A.units + 1 < cLine) (hc : X.calm = true) (hN : X.N.Nodup) (I : Inv X pins σ H s) (hi : PI X tg iter wi) (ok : BlkOk X.N X.env.scope scope own)
    (hg : ∀ (s : Shared) (H : Hp) (C : Addr) (cl : List (Str × Addr)) (fq : List Addr), PG (X.blk s H scope (compEnvC scope cl C X.env) fq) tg g) (ht : ∀ (s : Shared) (H : Hp) (C : Addr) (cl : List (Str × Addr)) (fq : List Addr), PTs (X.blk s H scope (compEnvC scope cl C X.env) fq) ifs tt)
    (hk : ∀ (s : Shared) (H : Hp) (C : Addr) (cl : List (Str × Addr)) (fq : List Addr), PE (X.blk s H scope (compEnvC scope cl C X.env) fq) kx tk)
    (he : ∀ (s : Shared) (H : Hp) (C : Addr) (cl : List (Str × Addr)) (fq : List Addr), PE (X.blk s H scope (compEnvC scope cl C X.env) fq) vx tv) (hs : ∀ x, foldedSetIterable iter X.env x = pure x)
    (h : tDcA e0 wi g tt tk tv (own.map (·.2)) σ H Q)
    (hRR : ∀ D C s' m H', Inv X pins σ H' s' → Q (.ref D) H' → s'.heap.Ns C m → FpOk X pins H' C → compPost (model X.prog X.w) X.A X.xe use Qf (.ref D) C (.ok .next) s') :
    wpAny (model X.prog X.w) X.A (comprehension (.DictComp kx vx [⟨tg, iter, ifs, 0⟩] scope pos) scope X.env pos' newDict false (eval iter X.env) use) Qf X.xe s := by
  have hfree : ∀ y ∈ scope.names, y.2 = .free → ∃ c, X.env.cells.lookup y.1 = some c := fun y hy e => by
    rcases ok.free y hy e with k | k
    · exact I.ok.has _ (.inl k)
    · exact I.ok.has _ (.inr k)
  refine wpAny_comprehension_free (use := use) rfl hs (closure_ok hfree) ok.kind (fun y hy e => by rw [ok.uniq y hy, e])
    (thn (hi.run pins s σ H _ I h) fun xv s1 hx => thn hx fun itv s2 h2 => ?_)
  obtain ⟨it, fq, tn, J, H2, e, I2, T, st2, f2, q⟩ := h2
  subst e
  refine wpAny_newObj_type (newEnv_comp ?_)
  generalize hD : s2.heap.objs.size = D
  have hDn : H2 D = none := I2.hok.fresh (Nat.le_of_eq hD)
  obtain ⟨W, ⟨m0, w0⟩, turn⟩ := q D hDn
  -- the new list
  generalize ht3 : ({ s2 with heap := s2.heap.push { cls := .type "dict", data := .dict #[] } } : Shared) = t3
  have I3 : Inv X pins σ (upd H2 D e0) t3 := by
    rw [← ht3]
    refine I2.laid (t' := s2.toks) (fun b o e => Heap.get?_push_of_some _ e) (Nat.le_of_eq hD) ?_
    rw [← hD]
    rcases he0 with z | z <;> subst z
    · exact dk_empty s2.heap I2.big
    · exact dt_empty s2.heap I2.big
  have h3 : t3.heap = s2.heap.push { cls := .type "dict", data := .dict #[] } := by rw [← ht3]
  have sz : ∀ b ∈ fq, b < s2.heap.objs.size := fun b hb => by
    obtain ⟨o, e, _⟩ := T.obj _ _ st2 b hb
    exact Heap.lt_size e
  have f3 : ∀ b ∈ fq, FpOk X pins (upd H2 D e0) b ∧ b < t3.heap.objs.size := fun b hb => by
    have hlt := sz b hb
    refine ⟨⟨?_, (f2 b hb).2⟩, by rw [h3, Heap.size_push]; exact Nat.lt_succ_of_lt hlt⟩
    rw [upd_ne (by rw [← hD]; exact Nat.ne_of_lt hlt)]
    exact (f2 b hb).1
  have sa3 : tn 0 t3.heap := T.keep _ _ _ st2 fun b _ o e => by rw [h3]; exact Heap.get?_push_of_some _ e
  have I4 := block_start I3 ok hN f3
  have pg := hg t3 (upd H2 D e0) t3.heap.objs.size (cellsFrom (t3.heap.objs.size + 1) scope.names (cloFrom X.env.cells scope.names [])) fq
  have pt := ht t3 (upd H2 D e0) t3.heap.objs.size (cellsFrom (t3.heap.objs.size + 1) scope.names (cloFrom X.env.cells scope.names [])) fq
  have pk := hk t3 (upd H2 D e0) t3.heap.objs.size (cellsFrom (t3.heap.objs.size + 1) scope.names (cloFrom X.env.cells scope.names [])) fq
  have pe := he t3 (upd H2 D e0) t3.heap.objs.size (cellsFrom (t3.heap.objs.size + 1) scope.names (cloFrom X.env.cells scope.names [])) fq
  show codeAny _ _ (.compStart (.DictComp kx vx [⟨tg, iter, ifs, 0⟩] scope pos) 0 (.ref it) (.ref D) (compEnvC scope (cellsFrom (t3.heap.objs.size + 1) scope.names (cloFrom X.env.cells scope.names [])) t3.heap.objs.size X.env)) (compPost (model X.prog X.w) X.A X.xe use Qf (.ref D) t3.heap.objs.size) { t3 with heap := pushCells (t3.heap.push { cls := .type "dict", data := .dict #[] }) scope.names }
  have nfp : ∀ b ∈ fq, (upd H2 D e0) b = none := fun b hb => (f3 b hb).1.1
  generalize hcx : compEnvC scope (cellsFrom (t3.heap.objs.size + 1) scope.names (cloFrom X.env.cells scope.names [])) t3.heap.objs.size X.env = cx at I4 pg pt pk pe ⊢
  have cL : cx.locals = t3.heap.objs.size := by subst hcx; rfl
  generalize hG3 : upd H2 D e0 = G3 at I3 I4 pg pt pk pe w0 nfp f3
  generalize ht4 : ({ t3 with heap := pushCells (t3.heap.push { cls := .type "dict", data := .dict #[] }) scope.names } : Shared) = t4 at I4 ⊢
  have sa4 : tn 0 t4.heap := T.keep _ _ _ sa3 fun b _ o e => by rw [← ht4]; exact pushCells_keeps _ _ _ _ (Heap.get?_push_of_some _ e)
  have stat : ∀ {σ' : L2.St} {H' : Hp} {s' : Shared}, Inv (X.blk t3 G3 scope cx fq) [] σ' H' s' → (∀ b ∈ fq, H' b = none) → ∀ b ∈ fq, FpOk (X.blk t3 G3 scope cx fq) [] H' b := fun {σ' H' s'} I' hn b hb =>
    ⟨hn b hb, (I'.ok.exf b hb).1, I'.ok.exfs b hb, .inl hb, fun x c e => (I'.ok.exf b hb).2 x c e, fun p hp => absurd (show p ∈ ([] : List (Addr × Obj)) ++ [] from hp) (by simp)⟩
  have loop : codeAny (model X.prog X.w) X.A (.compLoop (.DictComp kx vx [⟨tg, iter, ifs, 0⟩] scope pos) 0 (.ref it) (.ref D) cx) (compPost (model X.prog X.w) X.A X.xe use Qf (.ref D) t3.heap.objs.size) t4 := by
    refine compLoop_anyD (fun n s' => ∃ i H', Inv (X.blk t3 G3 scope cx fq) [] (L2.wipe σ (own.map (·.2))) H' s' ∧ tn i s'.heap ∧ (∀ b ∈ fq, H' b = none) ∧ W i n H') ?_ m0 ⟨0, G3, I4, sa4, nfp, w0⟩
    rintro n s5 ⟨i, H5, I5, st5, n5, w5⟩
    rcases turn i n H5 w5 with ⟨stop, qq⟩ | ⟨go, Nx, hNx, step⟩
    · have td := T.done (X.blk t3 G3 scope cx fq) rfl rfl rfl hc i [] s5 _ H5 (fun _ _ => False) I5 (stat I5 n5) st5 stop
      refine thnF td fun r s6 ⟨hr, I6⟩ => ?_
      subst hr
      -- back in the def's context
      have I7 : Inv X pins σ H5 s6 := I3.call' (ch := fq) I6.os I6.base I6.hok I6.bare fun b hb => ⟨(f3 b hb).1.2.2.2.1, (f3 b hb).1.2.1, (f3 b hb).1.2.2.2.2.1, (f3 b hb).1.2.2.2.2.2⟩
      have nC : H5 t3.heap.objs.size = none := by
        have z : H5 cx.locals = none := I6.free
        rw [cL] at z
        exact z
      obtain ⟨m, hn, _⟩ := I6.loc
      have hn : s6.heap.Ns cx.locals m := hn
      rw [cL] at hn
      exact hRR D t3.heap.objs.size s6 m H5 I7 qq hn (I3.fpOk (Nat.le_refl _) nC)
    · have ti := T.item (X.blk t3 G3 scope cx fq) rfl rfl rfl hc i [] s5 _ H5 (fun _ _ => False) I5 (stat I5 n5) st5 go
      refine thnF ti fun r s6 ⟨u, hr, h6⟩ => ?_
      subst hr
      refine thnF h6 fun _ s7 ⟨x, H7, I7, r7, y7, st7, n7⟩ => ?_
      have I7' := I7.pinned (stat I7 n7) (T.obj _ _ st7)
      refine thnF (pg.run _ s7 _ H7 x u _ I7' r7 (step x H7 y7)) fun _ s8 ⟨σ8, H8, I8, hw8, q8⟩ => ?_
      refine thnF (pt.run _ s8 σ8 H8 _ I8 q8) fun b s9 ⟨H9, I9, q9⟩ => ?_
      -- the turn's end
      have fin : ∀ {s' : Shared} {H' : Hp}, Inv (X.blk t3 G3 scope cx fq) ([] ++ pinsAt fq s7.heap) σ8 H' s' → Nx H' → ∃ m, m < n ∧ ∃ i H', Inv (X.blk t3 G3 scope cx fq) [] (L2.wipe σ (own.map (·.2))) H' s' ∧ tn i s'.heap ∧ (∀ b ∈ fq, H' b = none) ∧ W i m H' := fun {s' H'} I' nx => by
        obtain ⟨m', hm, w'⟩ := hNx H' nx
        have pin' : ∀ b ∈ fq, ∀ o, s7.heap.get? b = some o → s'.heap.get? b = some o ∧ H' b = none := fun b hb o e =>
          let z := I'.pin (b, o) (List.mem_append_right _ (List.mem_append_right _ (mem_pinsAt hb e)))
          ⟨z.1, z.2.1⟩
        have hl : (L2.wipe σ (own.map (·.2))).length = σ8.length := by rw [← hw8, L2.wipe_length]
        refine ⟨m', hm, i + 1, H', (I'.unpinned (pins := [])).weak hl (fun j v e => ?_), T.keep _ _ _ st7 fun b hb o e => (pin' b hb o e).1, fun b hb => ?_, w'⟩
        · rw [← hw8] at e
          exact (L2.wipe_some e).1
        · obtain ⟨o, e, _⟩ := T.obj _ _ st7 b hb
          exact (pin' b hb o e).2
      cases b with
      | false =>
        simp only [Bool.false_eq_true, if_false] at q9 ⊢
        exact fin I9 q9
      | true =>
        simp only [if_true] at q9 ⊢
        refine thnF (pk.run _ s9 σ8 H9 _ I9 q9) fun z s10 ⟨yk, H10, I10, r10, q10⟩ => ?_
        refine thnF (pe.run _ s10 σ8 H10 _ I10 q10) fun z2 s11 ⟨yv, H11, I11, r11, Hn, put, nx⟩ => ?_
        exact dictSet_put (X := X.blk t3 G3 scope cx fq) hu I11 put r10 r11 fun s12 I12 => fin I12 nx
  exact codeAny_compStart_dict loop (T.self X.A 0 _ _ _ sa4 loop)

theorem pe_dcA {kx vx tg iter : Expr} {ifs : List Expr} {scope : Scope} {own : List (Str × Nat)} {pos : Pos} {e0 : HO} {wi : TI} {g : TG} {tt : TT} {tk tv : TE} (he0 : e0 = .dK [] ∨ e0 = .dT []) (hu : X.A.units + 1 < cLine) (hc : X.calm = true) (hN : X.N.Nodup) (hi : PI X tg iter wi) (ok : BlkOk X.N X.env.scope scope own)
    (hg : ∀ (s : Shared) (H : Hp) (C : Addr) (cl : List (Str × Addr)) (fp : List Addr), PG (X.blk s H scope (compEnvC scope cl C X.env) fp) tg g) (ht : ∀ (s : Shared) (H : Hp) (C : Addr) (cl : List (Str × Addr)) (fp : List Addr), PTs (X.blk s H scope (compEnvC scope cl C X.env) fp) ifs tt)
    (hk : ∀ (s : Shared) (H : Hp) (C : Addr) (cl : List (Str × Addr)) (fp : List Addr), PE (X.blk s H scope (compEnvC scope cl C X.env) fp) kx tk) (he : ∀ (s : Shared) (H : Hp) (C : Addr) (cl : List (Str × Addr)) (fp : List Addr), PE (X.blk s H scope (compEnvC scope cl C X.env) fp) vx tv)
    (hs : ∀ x, foldedSetIterable iter X.env x = pure x := by intro _; rfl) : PE X (.DictComp kx vx [⟨tg, iter, ifs, 0⟩] scope pos) (tDcA e0 wi g tt tk tv (own.map (·.2))) := by
  refine ⟨fun pins s σ H Q I h => ?_⟩
  rw [arm_eval_DictComp]
  refine dcA_core he0 hu hc hN I hi ok hg ht hk he hs h fun D C s' m H' I' q hn f => ⟨m, hn, fun h2 sb => ⟨.ref D, H', I'.turned (t' := s'.toks) (fun b o hb e => (sb.2 b hb).trans e) f.1 f.2.1 f.2.2.2.1 f.2.2.2.2.1 f.2.2.2.2.2, rfl, q⟩⟩
end

/-! ### dicts in the model -/
open Classical in
noncomputable def getP (kvs : List (Py × Py)) (k : Py) : Option Py := (kvs.find? fun kv => decide (kv.1 = k)).map (·.2)
open Classical in
noncomputable def putP (kvs : List (Py × Py)) (k v : Py) : List (Py × Py) := if (kvs.any fun kv => decide (kv.1 = k)) = true then kvs.map (fun kv => if kv.1 = k then (kv.1, v) else kv) else kvs ++ [(k, v)]
theorem keyP_inj {a b : Key} (h : keyP a = keyP b) : a = b := by
  cases a <;> cases b <;> cases h <;> rfl
theorem keyPs_inj : ∀ {a b : List Key}, a.map keyP = b.map keyP → a = b
  | [], [], _ => rfl
  | [], _ :: _, h => by cases h
  | _ :: _, [], h => by cases h
  | x :: a, y :: b, h => by
    simp only [List.map_cons, List.cons.injEq] at h
    rw [keyP_inj h.1, keyPs_inj h.2]
/-- dicts of one kind of keys: how the model's keys stand for the machine's -/
inductive RD (K : PySem.W.Frag) (H : Hp) {κ : Type} (f : κ → Py) : List (κ × V) → List (Py × Py) → Prop
  | nil : RD K H f [] []
  | cons {k : κ} {v : V} {d : Py} {ks : List (κ × V)} {kvs : List (Py × Py)} : R K H v d → RD K H f ks kvs → RD K H f ((k, v) :: ks) ((f k, d) :: kvs)
theorem RK.rd {K : PySem.W.Frag} {H : Hp} : ∀ {ks : List (Key × V)} {kvs : List (Py × Py)}, RK K H ks kvs → RD K H keyP ks kvs
  | _, _, .nil => .nil
  | _, _, .cons h t => .cons h (RK.rd t)
theorem RD.rk {K : PySem.W.Frag} {H : Hp} : ∀ {ks : List (Key × V)} {kvs : List (Py × Py)}, RD K H keyP ks kvs → RK K H ks kvs
  | _, _, .nil => .nil
  | _, _, .cons h t => .cons h (RD.rk t)
abbrev keysP (k : List Key) : Py := .tup (k.map keyP)
theorem RT.rd {K : PySem.W.Frag} {H : Hp} : ∀ {ks : List (List Key × V)} {kvs : List (Py × Py)}, RT K H ks kvs → RD K H keysP ks kvs
  | _, _, .nil => .nil
  | _, _, .cons h t => .cons h (RT.rd t)
theorem RD.rt {K : PySem.W.Frag} {H : Hp} : ∀ {ks : List (List Key × V)} {kvs : List (Py × Py)}, RD K H keysP ks kvs → RT K H ks kvs
  | _, _, .nil => .nil
  | _, _, .cons h t => .cons h (RD.rt t)
theorem keysP_inj {a b : List Key} (h : keysP a = keysP b) : a = b := keyPs_inj (Py.tup.inj h)
section
variable {K : PySem.W.Frag} {H : Hp} {κ : Type} [DecidableEq κ] {f : κ → Py}
theorem RD.get (inj : ∀ {a b}, f a = f b → a = b) {k : κ} : ∀ {ks : List (κ × V)} {kvs : List (Py × Py)}, RD K H f ks kvs → (valV ks k = none ∧ getP kvs (f k) = none) ∨ ∃ v d, valV ks k = some v ∧ getP kvs (f k) = some d ∧ R K H v d
  | _, _, .nil => .inl ⟨rfl, rfl⟩
  | _, _, @RD.cons _ _ _ _ k' v d ks kvs h t => by
    by_cases e : k' = k
    · subst e
      exact .inr ⟨v, d, valV_pos rfl, by simp [getP, List.find?_cons], h⟩
    · have e' : ¬ f k' = f k := fun z => e (inj z)
      rw [valV_neg (p := (k', v)) e]
      have : getP ((f k', d) :: kvs) (f k) = getP kvs (f k) := by simp [getP, List.find?_cons, e']
      rw [this]
      exact RD.get inj t
theorem RD.length {ks : List (κ × V)} {kvs : List (Py × Py)} (h : RD K H f ks kvs) : ks.length = kvs.length := by
  induction h with
  | nil => rfl
  | cons _ _ ih => exact congrArg Nat.succ ih
theorem RD.any (inj : ∀ {a b}, f a = f b → a = b) {k : κ} {ks : List (κ × V)} {kvs : List (Py × Py)} (h : RD K H f ks kvs) : (ks.any fun kv => decide (kv.1 = k)) = (kvs.any fun kv => @decide (kv.1 = f k) (Classical.propDecidable _)) := by
  induction h with
  | nil => rfl
  | @cons k' v d ks kvs _ _ ih =>
    simp only [List.any_cons, ih]
    congr 1
    by_cases e : k' = k
    · subst e; simp
    · have e' : ¬ f k' = f k := fun z => e (inj z)
      simp [e, e']
theorem RD.snoc {k : κ} {v : V} {d : Py} {ks : List (κ × V)} {kvs : List (Py × Py)} (h : RD K H f ks kvs) (r : R K H v d) : RD K H f (ks ++ [(k, v)]) (kvs ++ [(f k, d)]) := by
  induction h with
  | nil => exact .cons r .nil
  | cons h t ih => exact .cons h ih
theorem RD.repl (inj : ∀ {a b}, f a = f b → a = b) {k : κ} {v : V} {d : Py} {ks : List (κ × V)} {kvs : List (Py × Py)} (h : RD K H f ks kvs) (r : R K H v d) :
    RD K H f (ks.map fun kv => if kv.1 = k then (kv.1, v) else kv) (kvs.map fun kv => @ite _ (kv.1 = f k) (Classical.propDecidable _) (kv.1, d) kv) := by
  induction h with
  | nil => exact .nil
  | @cons k' v' d' ks kvs h t ih =>
    simp only [List.map_cons]
    by_cases e : k' = k
    · subst e; simp only [if_true]; exact .cons r ih
    · have e' : ¬ f k' = f k := fun z => e (inj z)
      simp only [e, e', if_false]; exact .cons h ih
theorem RD.put (inj : ∀ {a b}, f a = f b → a = b) {k : κ} {v : V} {d : Py} {ks : List (κ × V)} {kvs : List (Py × Py)} (h : RD K H f ks kvs) (r : R K H v d) : RD K H f (putK ks k v) (putP kvs (f k) d) := by
  unfold putK putP
  rw [← h.any inj]
  split
  · exact h.repl inj r
  · exact h.snoc r
theorem RD.mono {H' : Hp} (g : Gr H H') {ks : List (κ × V)} {kvs : List (Py × Py)} (h : RD K H f ks kvs) : RD K H' f ks kvs := by
  induction h with
  | nil => exact .nil
  | cons h t ih => exact .cons (h.mono g) ih
end
end DL

/-! ## DL14 -/
namespace DL
open PySem PySem.Spec PyProof.Rows L2

/-! ### dict comprehensions -/
def pkK : Py → Option Key
  | .int i => some (.inl i)
  | .str x => some (.inr x)
  | _ => none
def pkT : Py → Option (List Key)
  | .tup ds => allM pkK ds
  | _ => none
theorem R.pkK {K : PySem.W.Frag} {H : Hp} {v : V} {d : Py} {k : Key} (h : R K H v d) (e : pkK d = some k) : v = kV k ∧ d = keyP k := by
  cases h <;> cases e <;> exact ⟨rfl, rfl⟩
theorem RA.pkK {K : PySem.W.Frag} {H : Hp} : ∀ {vs : List V} {ds : List Py} {ks : List Key}, RA K H vs ds → allM DL.pkK ds = some ks → vs = ks.map kV ∧ ds = ks.map keyP
  | _, _, _, .nil, e => by cases e; exact ⟨rfl, rfl⟩
  | v :: vs, d :: ds, ks, .cons h t, e => by
    simp only [allM] at e
    split at e
    · rename_i a as e1 e2
      cases e
      obtain ⟨h1, h2⟩ := h.pkK e1
      obtain ⟨h3, h4⟩ := RA.pkK t e2
      subst h1 h2 h3 h4
      exact ⟨rfl, rfl⟩
    · cases e
structure DAcc (K : PySem.W.Frag) (e0 : HO) (ok : Py → Bool) (Acc : Hp → Addr → List (Py × Py) → Prop) : Prop where
  em : e0 = .dK [] ∨ e0 = .dT []
  new : ∀ H D, Acc (upd H D e0) D []
  keep : ∀ {H H' D acc}, Gr H H' → H' D = H D → Acc H D acc → Acc H' D acc
  put : ∀ {H D acc vy y vz z}, Acc H D acc → R K H vy y → ok y = true → R K H vz z → acc.length < sizeLine → Own H D → ∃ Hn, DPut H D vy vz Hn ∧ SameBut [D] H Hn ∧ Own Hn D ∧ Gr H Hn ∧ Acc Hn D (putP acc y z)
  rs : ∀ {H D acc}, Acc H D acc → RS K H (.ref D) (.dic acc) [D]
theorem daccK {K : PySem.W.Frag} : DAcc K (.dK []) (fun d => (pkK d).isSome) (fun H D acc => ∃ ks, H D = some (.dK ks) ∧ RK K H ks acc) where
  em := .inl rfl
  new := fun H D => ⟨[], upd_same, .nil⟩
  keep := fun g e ⟨ks, h, r⟩ => ⟨ks, e.trans h, r.mono g⟩
  put := fun {H D acc vy y vz z} ⟨ks, h, r⟩ ry hy rz hl ow => by
    obtain ⟨k, hk⟩ := Option.isSome_iff_exists.mp hy
    obtain ⟨h1, h2⟩ := ry.pkK hk
    subst h1 h2
    have g : Gr H (upd H D (.dK (putK ks k vz))) := Gr.own ow
    refine ⟨_, DPut.k h (by rw [r.rd.length]; exact hl), fun b o e n => by rw [upd_ne (by simpa using n)]; exact e, ⟨_, upd_same, fun _ => nofun, fun _ _ => nofun⟩, g, _, upd_same, ?_⟩
    exact ((r.rd.put keyP_inj rz).rk).mono g
  rs := fun ⟨ks, h, r⟩ => .dK h r
theorem daccT {K : PySem.W.Frag} : DAcc K (.dT []) (fun d => (pkT d).isSome) (fun H D acc => ∃ ks, H D = some (.dT ks) ∧ RT K H ks acc) where
  em := .inr rfl
  new := fun H D => ⟨[], upd_same, .nil⟩
  keep := fun g e ⟨ks, h, r⟩ => ⟨ks, e.trans h, r.mono g⟩
  put := fun {H D acc vy y vz z} ⟨ks, h, r⟩ ry hy rz hl ow => by
    obtain ⟨k, hk⟩ := Option.isSome_iff_exists.mp hy
    cases ry with
    | @tup b xs ds hb ra =>
      obtain ⟨h1, h2⟩ := ra.pkK hk
      subst h1 h2
      have g : Gr H (upd H D (.dT (putK ks k vz))) := Gr.own ow
      refine ⟨_, DPut.t h hb (by rw [r.rd.length]; exact hl), fun b o e n => by rw [upd_ne (by simpa using n)]; exact e, ⟨_, upd_same, fun _ => nofun, fun _ _ => nofun⟩, g, _, upd_same, ?_⟩
      exact ((r.rd.put keysP_inj rz).rt).mono g
    | _ => cases hk
  rs := fun ⟨ks, h, r⟩ => .dT h r
noncomputable def dcS (ok : Py → Bool) (tg : Py → DS → Option DS) (mt : DS → ER Bool) (mk mv : DS → ER Py) (vs : List Nat) : List Py → List (Py × Py) → DS → ER Sv
  | [], acc, st => .ok (.dic acc) st
  | d :: ds, acc, st => match tg d st with
    | some st1 => (mt st1).nb fun b st2 => if b then (mk st2).nb fun y st3 => (mv st3).nb fun z st4 => if ok y = true ∧ acc.length < sizeLine then dcS ok tg mt mk mv vs ds (putP acc y z) (wipeS st4 vs) else .stuck else dcS ok tg mt mk mv vs ds acc (wipeS st2 vs)
    | none => .stuck
noncomputable def dcM (ok : Py → Bool) (mi : DS → ER (List Py)) (tg : Py → DS → Option DS) (mt : DS → ER Bool) (mk mv : DS → ER Py) (vs : List Nat) : DS → ER Sv := fun st => (mi st).bind fun ds st1 => dcS ok tg mt mk mv vs ds [] (wipeS st1 vs)
section
variable {X : Cx} {pn ts : List Nat} {kx vx tg iter : Expr} {ifs : List Expr} {scope : Scope} {own : List (Str × Nat)} {pos : Pos} {mi : DS → ER (List Py)} {f : Py → DS → Option DS} {mt : DS → ER Bool} {mk mv : DS → ER Py}
theorem dc_read {e0 : HO} {ok : Py → Bool} {Acc : Hp → Addr → List (Py × Py) → Prop} (da : DAcc X.K e0 ok Acc) {vs : List Nat} {Wx : WX} {σ : L2.St} {H : Hp} {Q : VK} {Γ : Fr} {st : DS} (hts : ∀ i ∈ ts, i ∈ vs) (r : Rel X.K Γ st σ H [])
    (q : fin X Wx Γ σ H (dcM ok mi f mt mk mv vs st) fun w st' => ∀ v H' fw, Rel X.K Γ st' σ H' fw → Gr H H' → RS X.K H' v w fw → Q v H') :
    tDcA e0 (tI X Wx mi) (tG X pn ts f) (tT X W0 mt) (tE X W0 mk) (tE X W0 mv) vs σ H Q := by
  refine ⟨Γ, st, r, ?_⟩
  refine fin.imp (fin.bind q) fun ds st1 q1 J H1 r1 g1 src D hD => ?_
  have pins := r.pin
  generalize eΓ : ({ Γ with pin := [] } : Fr) = Γ1
  have restore : ∀ {st' : DS} {H' : Hp} {fw : List Addr}, Rel X.K Γ1 st' σ H' fw → Rel X.K Γ st' σ H' fw := fun {st' H' fw} rr => by
    subst eΓ
    obtain ⟨x1, x2, x3, _⟩ := rr
    exact ⟨x1, x2, x3, pins⟩
  have r1 : Rel X.K Γ1 st1 σ H1 [] := by
    subst eΓ
    obtain ⟨x1, x2, x3, _⟩ := r1
    exact ⟨x1, x2, x3, nofun⟩
  have vpin : ∀ p ∈ Γ1.pin, p.1 ∉ vs := by subst eΓ; exact nofun
  have np : ∀ i, i ∉ pn → ∀ p ∈ Γ1.pin, p.1 ≠ i := by subst eΓ; exact fun _ _ => nofun
  have s0 : Same H1 (upd H1 D e0) := Same.new hD
  have hDo : Own (upd H1 D e0) D := by
    refine ⟨_, upd_same, ?_⟩
    rcases da.em with z | z <;> subst z <;> exact ⟨fun _ => nofun, fun _ _ => nofun⟩
  have rw1 : Rel X.K Γ1 (wipeS st1 vs) (L2.wipe σ vs) (upd H1 D e0) [D] := by
    have a := (r1.wipe vs).resl (σ' := L2.wipe σ vs) (L2.wipe_length _ _) (fun i w e => wipe_get (wipeS_none e)) fun p hp => wipe_get (vpin p hp)
    exact a.owned s0 (by simp) (fun b hb => by rw [List.mem_singleton.mp hb]; exact hD) fun b hb => by rw [List.mem_singleton.mp hb]; exact hDo
  refine ⟨fun i m H2 => ∃ acc st2, m = ds.length - i ∧ i ≤ ds.length ∧ Rel X.K Γ1 (wipeS st2 vs) (L2.wipe σ vs) H2 [D] ∧ Acc H2 D acc ∧ Gr (upd H1 D e0) H2 ∧
    fin X Wx Γ σ H (dcS ok f mt mk mv vs (ds.drop i) acc (wipeS st2 vs)) fun w st' => ∀ v H' fw, Rel X.K Γ st' σ H' fw → Gr H H' → RS X.K H' v w fw → Q v H', ⟨ds.length, [], st1, by simp, Nat.zero_le _, rw1, da.new _ _, Gr.refl _, by rw [List.drop_zero]; exact q1⟩, ?_⟩
  rintro i m H2 ⟨acc, st2, rfl, hi, r2, ac2, g2, q2⟩
  have gt := g1.trans ((Same.gr s0).trans g2)
  have src2 : Gr H1 H2 := (Same.gr s0).trans g2
  by_cases hlt : i < ds.length
  · have ed : ds.drop i = ds[i] :: ds.drop (i + 1) := List.drop_eq_getElem_cons hlt
    rw [ed] at q2
    refine .inr ⟨src.go i H2 src2 hlt, fun H' => ∃ acc st2, Rel X.K Γ1 (wipeS st2 vs) (L2.wipe σ vs) H' [D] ∧ Acc H' D acc ∧ Gr (upd H1 D e0) H' ∧
      fin X Wx Γ σ H (dcS ok f mt mk mv vs (ds.drop (i + 1)) acc (wipeS st2 vs)) fun w st' => ∀ v H' fw, Rel X.K Γ st' σ H' fw → Gr H H' → RS X.K H' v w fw → Q v H', fun H' ⟨acc', st3, a1, a2, a4, a5⟩ => ⟨ds.length - (i + 1), by omega, acc', st3, rfl, hlt, a1, a2, a4, a5⟩, fun x H3 y => ?_⟩
    obtain ⟨sm, d, hd, rd⟩ := src.yld i H2 x H3 src2 hlt y
    have e0' : ds[i] = d := by rw [List.getElem?_eq_getElem hlt] at hd; exact Option.some.inj hd
    rw [e0'] at q2
    have g3 := Same.gr sm
    have r3 : Rel X.K Γ1 (wipeS st2 vs) (L2.wipe σ vs) H3 [D] := r2.ext sm
    have hD3 : H3 D = H2 D := by
      obtain ⟨o, e, _⟩ := r2.fxo D List.mem_cons_self
      rw [e]; exact sm _ _ e
    obtain ⟨Γ', ep, rb, back⟩ := r3.rebase
    have np' : ∀ i, i ∉ pn → ∀ p ∈ Γ'.pin, p.1 ≠ i := by rw [ep]; exact np
    cases ef : f d (wipeS st2 vs) with
    | none =>
      have q3 : fin X Wx Γ σ H (match f d (wipeS st2 vs) with | some st1 => (mt st1).nb fun b st2 => if b then (mk st2).nb fun y st3 => (mv st3).nb fun z st4 => if ok y = true ∧ acc.length < sizeLine then dcS ok f mt mk mv vs (ds.drop (i + 1)) (putP acc y z) (wipeS st4 vs) else .stuck else dcS ok f mt mk mv vs (ds.drop (i + 1)) acc (wipeS st2 vs) | none => .stuck) _ := q2
      rw [ef] at q3
      exact q3.elim
    | some st3 =>
      have q3 : fin X Wx Γ σ H (match f d (wipeS st2 vs) with | some st1 => (mt st1).nb fun b st2 => if b then (mk st2).nb fun y st3 => (mv st3).nb fun z st4 => if ok y = true ∧ acc.length < sizeLine then dcS ok f mt mk mv vs (ds.drop (i + 1)) (putP acc y z) (wipeS st4 vs) else .stuck else dcS ok f mt mk mv vs (ds.drop (i + 1)) acc (wipeS st2 vs) | none => .stuck) _ := q2
      rw [ef] at q3
      refine ⟨Γ', wipeS st2 vs, d, np', rb, rd, st3, ef, fun σ3 on r4 => ⟨wipe_only on hts, Γ', st3, r4, ?_⟩⟩
      have back2 : ∀ {st' : DS} {H' : Hp}, Rel X.K Γ' st' σ3 H' [] → Rel X.K Γ1 (wipeS st' vs) (L2.wipe σ vs) H' [D] ∧ H' D = H2 D := fun {st' H'} rr => by
        obtain ⟨kp, rr2⟩ := back rr
        refine ⟨?_, (kp D List.mem_cons_self).trans hD3⟩
        have rr3 : Rel X.K Γ1 (wipeS st' vs) σ3 H' [D] := by simpa using rr2.wipe vs
        have hl3 : (L2.wipe σ vs).length = σ3.length := on.1.symm
        refine rr3.resl hl3 (fun i w e => ?_) fun p hp => ?_
        · exact (on.2 i fun z => wipeS_none e (hts i z)).symm
        · exact (on.2 p.1 fun z => vpin p hp (hts p.1 z)).symm
      refine fin.imp (fin_nb q3) fun b st4 q4 H4 r5 g4 => ?_
      have gt4 := gt.trans (g3.trans g4)
      cases b with
      | false =>
        refine iteF ?_
        have q5 : fin X Wx Γ σ H (dcS ok f mt mk mv vs (ds.drop (i + 1)) acc (wipeS st4 vs)) _ := q4
        obtain ⟨b1, b2⟩ := back2 r5
        exact ⟨acc, st4, b1, da.keep (g3.trans g4) b2 ac2, g2.trans (g3.trans g4), q5⟩
      | true =>
        refine iteT ?_
        have q5 : fin X Wx Γ σ H ((mk st4).nb fun y st3 => (mv st3).nb fun z st4 => if ok y = true ∧ acc.length < sizeLine then dcS ok f mt mk mv vs (ds.drop (i + 1)) (putP acc y z) (wipeS st4 vs) else .stuck) _ := q4
        refine ⟨Γ', st4, r5, ?_⟩
        refine fin.imp (fin_nb q5) fun y st5 q6 yv H5 r6 g5 ry => ?_
        refine ⟨Γ', st5, r6, ?_⟩
        refine fin.imp (fin_nb q6) fun z st6 q7 zv H6 r7 g6 rz => ?_
        obtain ⟨b1, b2⟩ := back2 r7
        split at q7
        · rename_i hz
          have ac6 := da.keep (g3.trans (g4.trans (g5.trans g6))) b2 ac2
          obtain ⟨Hn, p1, p2, p3, p4, p5⟩ := da.put ac6 (ry.mono g6) hz.1 rz hz.2 (b1.fxo D List.mem_cons_self)
          refine ⟨Hn, p1, putP acc y z, st6, ?_, p5, ?_, q7⟩
          · have b1' : Rel X.K Γ1 (wipeS st6 vs) (L2.wipe σ vs) H6 ([D] ++ []) := by simpa using b1
            have := Rel.after b1' p2 (nf := [D]) (by simp) (fun b hb => .inr hb) fun b hb => by
              rw [List.mem_singleton.mp hb]
              exact p3
            simpa using this
          · exact (g2.trans (g3.trans (g4.trans (g5.trans g6)))).trans p4
        · exact q7.elim
  · have e : i = ds.length := by omega
    subst e
    rw [List.drop_length] at q2
    refine .inl ⟨src.stop _ H2 src2 rfl, ?_⟩
    have q3 : ∀ v H' fw, Rel X.K Γ (wipeS st2 vs) σ H' fw → Gr H H' → RS X.K H' v (.dic acc) fw → Q v H' := q2
    refine q3 _ H2 [D] (restore (r2.resl (L2.wipe_length σ vs).symm (fun i w e => (wipe_get (wipeS_none e)).symm) fun p hp => (wipe_get (vpin p hp)).symm)) gt (da.rs ac2)
theorem do_dc {e0 : HO} {okk : Py → Bool} {Acc : Hp → Addr → List (Py × Py) → Prop} (da : DAcc X.K e0 okk Acc) (hu : X.A.units + 1 < cLine) (hc : X.calm = true) (hN : X.N.Nodup) (hi : DI X tg iter mi) (ok : BlkOk X.N X.env.scope scope own)
    (hg : ∀ (s : Shared) (H : Hp) (C : Addr) (cl : List (Str × Addr)) (fp : List Addr), DG (X.blk s H scope (compEnvC scope cl C X.env) fp) pn ts tg f) (ht : ∀ (s : Shared) (H : Hp) (C : Addr) (cl : List (Str × Addr)) (fp : List Addr), DTs (X.blk s H scope (compEnvC scope cl C X.env) fp) ifs mt)
    (hk : ∀ (s : Shared) (H : Hp) (C : Addr) (cl : List (Str × Addr)) (fp : List Addr), DE (X.blk s H scope (compEnvC scope cl C X.env) fp) kx mk)
    (he : ∀ (s : Shared) (H : Hp) (C : Addr) (cl : List (Str × Addr)) (fp : List Addr), DE (X.blk s H scope (compEnvC scope cl C X.env) fp) vx mv) (hts : ∀ i ∈ ts, i ∈ own.map (·.2) := by decide) (hs : ∀ x, foldedSetIterable iter X.env x = pure x := by intro _; rfl) :
    DO X (.DictComp kx vx [⟨tg, iter, ifs, 0⟩] scope pos) (dcM okk mi f mt mk mv (own.map (·.2))) := by
  refine ⟨fun Wx tk => pe_imp (pe_dcA (g := tG X pn ts f) (tt := tT X W0 mt) (tk := tE X W0 mk) (tv := tE X W0 mv) da.em hu hc hN (hi.pi Wx tk) ok (fun s H C cl fp => (hg s H C cl fp).pg) (fun s H C cl fp => (ht s H C cl fp).pt W0 takes0) (fun s H C cl fp => (hk s H C cl fp).pe W0 takes0) (fun s H C cl fp => (he s H C cl fp).pe W0 takes0) hs) fun σ H Q ⟨Γ, st, r, q⟩ => ?_⟩
  exact dc_read (pn := pn) da hts r q
end
end DL

/-! ## DL15 -/
namespace DL
open PySem PySem.Spec PyProof.Rows L2

/-! ### the parts of a mirror, by name -/
def kI (i : Int) : DS → ER Py := fun st => .ok (.int i) st
def kB (b : Bool) : DS → ER Py := fun st => .ok (.bl b) st
def kN : DS → ER Py := fun st => .ok .non st
def kS (x : Str) : DS → ER Py := fun st => .ok (.str x) st
def frzM (m : DS → ER Sv) : DS → ER Py := fun st => (m st).bind fun w st' => optE (frzS w) st'
def valM (m : DS → ER Py) : DS → ER Sv := fun st => (m st).bind fun d st' => .ok (.val d) st'
def xM (m : DS → ER Py) : DS → ER Ar := fun st => (m st).bind fun d st' => .ok (.v d) st'
/-- an operand's slot: data are taken now -/
def varX (i : Nat) : DS → ER Ar := fun st => match st[i]? with
  | some (some (.val d)) => .ok (.v d) st
  | some (some _) => .ok (.s i) st
  | _ => .stuck
/-- a slot taken: data are copied, an object is handed on -/
def takeO (i : Nat) : DS → ER Sv := fun st => match st[i]? with
  | some (some (.val d)) => .ok (.val d) st
  | some (some w) => .ok w (st.set i none)
  | _ => .stuck
def nilV : DS → ER (List Py) := fun st => .ok [] st
def consV (m : DS → ER Py) (ms : DS → ER (List Py)) : DS → ER (List Py) := fun st => (m st).bind fun d st1 => (ms st1).bind fun ds st2 => .ok (d :: ds) st2
def nilA : DS → ER (List Ar) := fun st => .ok [] st
def consA (m : DS → ER Ar) (ms : DS → ER (List Ar)) : DS → ER (List Ar) := fun st => (m st).bind fun d st1 => (ms st1).bind fun ds st2 => .ok (d :: ds) st2
def tupM (m : DS → ER (List Py)) : DS → ER Py := fun st => (m st).bind fun ds st1 => .ok (.tup ds) st1
def lstM (m : DS → ER (List Py)) : DS → ER Sv := fun st => (m st).bind fun ds st1 => .ok (.lst ds) st1
def eT (m : DS → ER Py) : DS → ER Bool := fun st => (m st).bind fun d st1 => optE (asBl d) st1
def andT (a b : DS → ER Bool) : DS → ER Bool := fun st => (a st).bind fun k st1 => if k then b st1 else .ok false st1
def orT (a b : DS → ER Bool) : DS → ER Bool := fun st => (a st).bind fun k st1 => if k then .ok true st1 else b st1
def notT (a : DS → ER Bool) : DS → ER Bool := fun st => (a st).bind fun k st1 => .ok (!k) st1
def ifE (c : DS → ER Bool) (a b : DS → ER Py) : DS → ER Py := fun st => (c st).bind fun k st1 => if k then a st1 else b st1
def andE (a b : DS → ER Py) : DS → ER Py := fun st => (a st).bind fun d st1 => (optE (asBl d) st1).bind fun k st1 => if k then b st1 else .ok (.bl false) st1
def orE (a b : DS → ER Py) : DS → ER Py := fun st => (a st).bind fun d st1 => (optE (asBl d) st1).bind fun k st1 => if k then .ok (.bl true) st1 else b st1
def notE (a : DS → ER Py) : DS → ER Py := fun st => (a st).bind fun d st1 => (optE (asBl d) st1).bind fun k st1 => .ok (.bl (!k)) st1
def pN : DS → ER (Option Int) := fun st => .ok none st
def pS (m : DS → ER Py) : DS → ER (Option Int) := fun st => (m st).bind fun d st1 => (optE (asInt d) st1).bind fun i st1 => .ok (some i) st1
def slM (a : DS → ER Ar) (l h : DS → ER (Option Int)) : DS → ER Sv := fun st => (a st).bind fun a st1 => (l st1).bind fun l st2 => (h st2).bind fun u st3 => optE (bindO st3 a fun x => sliceS x l u) st3
def seqM (a b : DS → SO) : DS → SO := fun st => seqS (a st) b
def exM (m : DS → ER Sv) : DS → SO := fun st => (m st).s fun _ st1 => .nx st1
def rtM (m : DS → ER Sv) : DS → SO := fun st => (m st).s fun w st1 => .rt w st1
def stM (i : Nat) (m : DS → ER Sv) : DS → SO := fun st => (m st).s fun w st1 => putO i w st1
def asM (f : Py → DS → Option DS) (m : DS → ER Py) : DS → SO := fun st => (m st).s fun d st1 => tgtO (f d st1)
def ifM (c : DS → ER Bool) (a b : DS → SO) : DS → SO := fun st => (c st).s fun k st1 => if k then a st1 else b st1
def forM (m : DS → ER (List Py)) (f : Py → DS → Option DS) (b : DS → SO) : DS → SO := fun st => (m st).s fun ds st1 => forS f b ds st1
def nxM : DS → SO := fun st => .nx st
def bkM : DS → SO := fun st => .bk st
def ctM : DS → SO := fun st => .ct st
def rnM : DS → SO := fun st => .rt (.val .non) st
def rsM (x : Str) : DS → SO := fun st => .ex ⟨x, none⟩ st
def sqI (m : DS → ER Py) : DS → ER (List Py) := fun st => (m st).bind fun d st1 => optE (itemsS (.val d)) st1
def rg1 (m : DS → ER (List Py)) : DS → ER (List Py) := fun st => (m st).bind fun ds st1 => optE (range1 ds) st1
def rg2 (m : DS → ER (List Py)) : DS → ER (List Py) := fun st => (m st).bind fun ds st1 => optE (range2 ds) st1
def rg3 (m : DS → ER (List Py)) : DS → ER (List Py) := fun st => (m st).bind fun ds st1 => optE (range3 ds) st1
def yesT : DS → ER Bool := fun st => .ok true st
section
variable {X : Cx} {a b c e : Expr} {pos : Pos}
theorem yI {i j pos} : DE X (.Constant (.int i) j pos) (kI i) := de_int
theorem yB {i j pos} : DE X (.Constant (.bool i) j pos) (kB i) := de_bl
theorem yN {j pos} : DE X (.Constant .none j pos) kN := de_non
theorem yS {i j pos} : DE X (.Constant (.str i) j pos) (kS i) := de_str
theorem yG {x : Str} {i : Int} {t : Tok} {pos : Pos} (hg : Gl X x) (hm : X.mg x = some (.int i t)) (hd : (x == ("__debug__" : Str)) = false := by decide) : DE X (.Name x pos) (kI i) := de_globI hg hm hd
theorem DO.z {m : DS → ER Sv} (h : DO X e m) : DE X e (frzM m) := h.frz
theorem DE.o {m : DS → ER Py} (h : DE X e m) : DO X e (valM m) := h.val
theorem DE.y {m : DS → ER Py} (h : DE X e m) : DX X e (xM m) := h.x
theorem yV {i : Nat} (h : PE X e (tVar i)) : DX X e (varX i) := by
  refine ⟨fun Wx tk => pe_imp h fun σ H Q ⟨Γ, st, r, q⟩ => ?_⟩
  unfold varX at q
  split at q
  · rename_i d hd
    obtain ⟨v, fp, e1, rs⟩ := r.get hd
    exact ⟨v, e1, q v H r (Gr.refl H) (rs.data rfl)⟩
  · rename_i w _ hd
    obtain ⟨v, fp, e1, rs⟩ := r.get hd
    exact ⟨v, e1, q v H r (Gr.refl H) e1⟩
  · exact absurd q id
theorem yT {i : Nat} (h : PE X e (tVar i)) : DO X e (takeO i) := by
  refine ⟨fun Wx tk => pe_imp h fun σ H Q ⟨Γ, st, r, q⟩ => ?_⟩
  unfold takeO at q
  split at q
  · rename_i d hd
    obtain ⟨v, fp, e1, rs⟩ := r.get hd
    exact ⟨v, e1, q v H [] r (Gr.refl H) (.val (rs.data rfl))⟩
  · rename_i w _ hd
    obtain ⟨v, fp, e1, rs, r'⟩ := r.pull hd
    exact ⟨v, e1, q v H fp (by simpa using r') (Gr.refl H) rs⟩
  · exact absurd q id
theorem yL {i : Nat} (h : PE X e (tVar i)) : DE X e (lockE i) := de_lock h
theorem v0 : DV X [] nilV := dv_nil
theorem v1 {es : List Expr} {m : DS → ER Py} {ms : DS → ER (List Py)} (h : DE X e m) (hs : DV X es ms) (hst : starEach (e :: es) X.env = (false, eval e X.env) :: starEach es X.env := by rfl) : DV X (e :: es) (consV m ms) := dv_cons h hs hst
theorem a0 : DA X [] nilA := da_nil
theorem a1 {es : List Expr} {m : DS → ER Ar} {ms : DS → ER (List Ar)} (h : DX X e m) (hs : DA X es ms) (hst : starEach (e :: es) X.env = (false, eval e X.env) :: starEach es X.env := by rfl) : DA X (e :: es) (consA m ms) := da_cons h hs hst
theorem yU {x1 : Nat} {es : List Expr} {m : DS → ER (List Py)} (h : DV X es m) (hz : es.length ≤ sizeLine := by decide) : DE X (.Tuple es x1 pos) (tupM m) := de_tup h hz
theorem oL {es : List Expr} {m : DS → ER (List Py)} (h : DV X es m) (hz : es.length ≤ sizeLine := by decide) : DO X (.List es pos) (lstM m) := do_lst h hz
theorem tBe {m : DS → ER Py} (h : DE X e m) (he : ∀ whole, isTrue e X.env whole = (do let v ← whole; standAt e.pos; holding [v] (truthy v)) := by intro _; rfl) : DT X e (eT m) := dt_e h he
theorem wA {rest : List Expr} {mt mu : DS → ER Bool} (h : DT X a mt) (hr : DW X (.BoolOp .And (b :: rest) pos) mu) : DW X (.BoolOp .And (a :: b :: rest) pos) (andT mt mu) := dw_and h hr
theorem wO {rest : List Expr} {mt mu : DS → ER Bool} (h : DT X a mt) (hr : DW X (.BoolOp .Or (b :: rest) pos) mu) : DW X (.BoolOp .Or (a :: b :: rest) pos) (orT mt mu) := dw_or h hr
theorem tN {mt : DS → ER Bool} (h : DT X a mt) : DT X (.UnaryOp .Not a pos) (notT mt) := dt_not h
theorem yIf {mt : DS → ER Bool} {ma mb : DS → ER Py} (hc : DT X c mt) (ha : DE X a ma) (hb : DE X b mb) : DE X (.IfExp c a b pos) (ifE mt ma mb) := de_if hc ha hb
theorem yAnd {rest : List Expr} {ma mb : DS → ER Py} (ha : DE X a ma) (hb : DE X (.BoolOp .And (b :: rest) pos) mb) : DE X (.BoolOp .And (a :: b :: rest) pos) (andE ma mb) := de_and ha hb
theorem yOr {rest : List Expr} {ma mb : DS → ER Py} (ha : DE X a ma) (hb : DE X (.BoolOp .Or (b :: rest) pos) mb) : DE X (.BoolOp .Or (a :: b :: rest) pos) (orE ma mb) := de_or ha hb
theorem yNot {ma : DS → ER Py} (ha : DE X a ma) : DE X (.UnaryOp .Not a pos) (notE ma) := de_not ha
theorem p0 : DP X none pN := dp_none
theorem p1 {m : DS → ER Py} (h : DE X e m) : DP X (some e) (pS m) := dp_some h
theorem oSl {p2 : Pos} {ma : DS → ER Ar} {lo hi : Option Expr} {ml mh : DS → ER (Option Int)} (ha : DX X a ma) (hl : DP X lo ml) (hh : DP X hi mh) : DO X (.Subscript a (.Slice lo hi none p2) pos) (slM ma ml mh) := do_slice ha hl hh
variable {pn : List Nat} {s : Stmt} {ss : List Stmt} {ma mb : DS → SO}
theorem s1 (h : DSt X pn s ma) (hs : DSs X pn ss mb) : DSs X pn (s :: ss) (seqM ma mb) := dss_cons h hs
theorem s0 : DSs X pn [] nxM := dss_nil
theorem sE {me : DS → ER Sv} (h : DO X e me) (hs : swapsWith e none pos.line X.env = pure false := by rfl) : DSt X pn (.Expr e pos) (exM me) := ds_expr h hs
theorem sR {me : DS → ER Sv} (h : DO X e me) : DSt X pn (.Return (some e) pos) (rtM me) := ds_ret h
theorem sRN : DSt X pn (.Return none pos) rnM := ds_retN
theorem sP : DSt X pn (.Pass pos) nxM := ds_pass
theorem sB : DSt X pn (.Break pos) bkM := ds_break
theorem sC : DSt X pn (.Continue pos) ctM := ds_continue
theorem sS {i : Nat} {x : Str} {pos' : Pos} {me : DS → ER Sv} (hN : X.N.Nodup) (hi : X.N[i]? = some x) (hx : Loc X.env.scope x) (h : DO X e me) (hp : i ∉ pn) (hs : swapsWith e (some (.Name x pos')) pos.line X.env = pure false := by rfl) (hf : X.fn x = true ∨ X.env.scope.names.lookup x = some .local := by first | exact .inl rfl | exact .inr rfl | assumption) :
    DSt X pn (.Assign [.Name x pos'] e pos) (stM i me) := ds_set hN hi hx h hp hs hf
theorem sA {tg : Expr} {ts : List Nat} {me : DS → ER Py} {f : Py → DS → Option DS} (he : DE X e me) (hg : DG X pn ts tg f) (hs : swapsWithSole [tg] e pos.line X.env = pure false := by rfl) (hw : swappedStores [tg] e X.env = pure none := by rfl) (h1 : (assignEach [tg] X.env).map (·.2) = [assign tg X.env] := by rfl) :
    DSt X pn (.Assign [tg] e pos) (asM f me) := ds_asg he hg hs hw h1
theorem sI {a b : List Stmt} {mc : DS → ER Bool} (hc : DT X c mc) (ha : DSs X pn a ma) (hb : DSs X pn b mb) : DSt X pn (.If c a b pos) (ifM mc ma mb) := ds_if hc ha hb
theorem sF {b : List Stmt} {tg it : Expr} {ts : List Nat} {mi : DS → ER (List Py)} {f : Py → DS → Option DS} (hp : PassesOwn (model X.prog X.w) X.A X.env X.xe) (hc : X.calm = true) (hi : DI X tg it mi) (hg : DG X pn ts tg f) (hb : DSs X pn b mb) (hs : ∀ x, foldedSetIterable it X.env x = pure x := by intro _; rfl) :
    DSt X pn (.For tg it b [] pos) (forM mi f mb) := ds_for hp hc hi hg hb hs
theorem sX {C : Addr} {x : Str} {p pos' : Pos} (hc : X.calm = true) (xc : XCls X.K X.mg x C) (hg : Gl X x) (hdb : (x == ("__debug__" : Str)) = false := by decide) : DSt X pn (.Raise (some (.Call (.Name x p) [] [] pos)) none pos') (rsM x) := ds_raise0 hc xc hg hdb
variable {tg : Expr} {p : Pos}
theorem iS {m : DS → ER Py} (h : DE X a m) : DI X tg a (sqI m) := di_seq h
theorem iR1 {m : DS → ER (List Py)} (T : Bt X.mg) (hg : Gl X "range") (h : DV X [a] m) (hs : starEach [a] X.env = [(false, eval a X.env)] := by rfl) : DI X tg (.Call (.Name "range" p) [a] [] pos) (rg1 m) := di_range1 T hg h hs
theorem iR2 {m : DS → ER (List Py)} (T : Bt X.mg) (hg : Gl X "range") (h : DV X [a, b] m) (hs : starEach [a, b] X.env = [(false, eval a X.env), (false, eval b X.env)] := by rfl) (hs2 : starEach [b] X.env = [(false, eval b X.env)] := by rfl) : DI X tg (.Call (.Name "range" p) [a, b] [] pos) (rg2 m) := di_range2 T hg h hs hs2
theorem iR3 {m : DS → ER (List Py)} (T : Bt X.mg) (hg : Gl X "range") (h : DV X [a, b, c] m) (hs : starEach [a, b, c] X.env = (false, eval a X.env) :: starEach [b, c] X.env := by rfl) (hpl : (backTo pos (starEach [b, c] X.env)).any (·.1) = false := by rfl) :
    DI X tg (.Call (.Name "range" p) [a, b, c] [] pos) (rg3 m) := di_range3 T hg h hs hpl
theorem q0 : DTs X [] yesT := dts_nil
end

/-! ### comparisons as tests -/
section
variable {X : Cx} {a b e : Expr} {ma mb : DS → ER Ar} {pos : Pos}
theorem dt_cmpR {op : CmpOp} {r : R2} {f : Sv → Sv → Option Py} (ho : OpR X (compareOp op) r) (hm : behindInMarks op b = false) (hx : DX X a ma) (hy : DX X b mb)
    (hr : ∀ v w v2 w2 fp fp2 H d Q, RS X.K H v w fp → RS X.K H v2 w2 fp2 → f w w2 = some d → (∀ v' H', Same H H' → R X.K H' v' d → Q v' H') → r v v2 H Q) : DT X (.Compare a [op] [b] pos) (eT (e2 ma mb f)) := by
  refine ⟨fun Wx tk => pt_imp (pt_cmpR ho (hx.pe Wx tk) (hy.pe Wx tk) hm) fun σ H Q ⟨Γ, st, rl, q⟩ => ⟨Γ, st, rl, ?_⟩⟩
  refine fin.imp (fin.bind (fin.bind q)) fun a st1 q1 v H1 r1 g1 ar => ⟨Γ, st1, r1, ?_⟩
  refine fin.imp (fin.bind (fin.gr (H' := H1) g1 q1)) fun b st2 q2 v2 H2 r2 g2 ar2 => ?_
  obtain ⟨d, ed, q3⟩ := fin_opt q2
  obtain ⟨w, ew, ed⟩ := bindO_some ed
  obtain ⟨w2, ew2, fw⟩ := bindO_some ed
  obtain ⟨fp, rs⟩ := r2.look (ar.mono g2) ew
  obtain ⟨fp2, rs2⟩ := r2.look ar2 ew2
  obtain ⟨k, ek, q4⟩ := fin_opt q3
  refine hr v w v2 w2 fp fp2 H2 d _ rs rs2 fw fun v' H' s rd => ?_
  cases d <;> cases ek
  cases rd
  exact ⟨_, rfl, q4 H' (r2.ext s) (g1.trans (g2.trans (Same.gr s)))⟩
theorem dt_cmpI {op : CmpOp} {g : Int → Int → Bool} (ho : OpR X (compareOp op) (rI0 fun i j => .bl (g i j))) (h1 : behindInMarks op b = false) (ha : DX X a ma) (hb : DX X b mb) :
    DT X (.Compare a [op] [b] pos) (eT (e2 ma mb (binI0 fun i j => .bl (g i j)))) :=
  dt_cmpR ho h1 ha hb fun v w v2 w2 fp fp2 H d Q r1 r2 hf q => by
    obtain ⟨i, j, rfl, rfl, rfl⟩ := binI0_some hf
    exact ⟨i, j, r1.int rfl, r2.int rfl, q _ _ (Same.refl H) (.bl _)⟩
theorem dt_lt (ha : DX X a ma) (hb : DX X b mb) : DT X (.Compare a [.Lt] [b] pos) (eT (e2 ma mb (binI0 fun i j => .bl (decide (i < j))))) := dt_cmpI op_lt (nomark _) ha hb
theorem dt_le (ha : DX X a ma) (hb : DX X b mb) : DT X (.Compare a [.LtE] [b] pos) (eT (e2 ma mb (binI0 fun i j => .bl (decide (i ≤ j))))) := dt_cmpI op_le (nomark _) ha hb
theorem dt_gt (ha : DX X a ma) (hb : DX X b mb) : DT X (.Compare a [.Gt] [b] pos) (eT (e2 ma mb (binI0 fun i j => .bl (decide (j < i))))) := dt_cmpI op_gt (nomark _) ha hb
theorem dt_ge (ha : DX X a ma) (hb : DX X b mb) : DT X (.Compare a [.GtE] [b] pos) (eT (e2 ma mb (binI0 fun i j => .bl (decide (j ≤ i))))) := dt_cmpI op_ge (nomark _) ha hb
theorem dt_eq (hu : X.A.units + 64 < cLine) (ha : DX X a ma) (hb : DX X b mb) : DT X (.Compare a [.Eq] [b] pos) (eT (e2 ma mb fun x y => (eqS x y).map .bl)) :=
  dt_cmpR (op_eq.or (op_eqD hu)) (nomark _) ha hb fun v w v2 w2 fp fp2 H d Q r1 r2 hf q => by
    cases e : eqS w w2 with
    | none => rw [e] at hf; cases hf
    | some k => rw [e] at hf; cases hf; exact eq_rule r1 r2 e (q _ _ (Same.refl H) (.bl _))
theorem dt_ne (hu : X.A.units + 64 < cLine) (ha : DX X a ma) (hb : DX X b mb) : DT X (.Compare a [.NotEq] [b] pos) (eT (e2 ma mb fun x y => (eqS x y).map fun k => .bl (!k))) :=
  dt_cmpR (op_ne.or (op_neD hu)) (nomark _) ha hb fun v w v2 w2 fp fp2 H d Q r1 r2 hf q => by
    cases e : eqS w w2 with
    | none => rw [e] at hf; cases hf
    | some k => rw [e] at hf; cases hf; exact ne_rule r1 r2 e (q _ _ (Same.refl H) (.bl _))
theorem dt_in (hu : X.A.units + 65 < cLine) (hm : behindInMarks .In b = false) (ha : DX X a ma) (hb : DX X b mb) : DT X (.Compare a [.In] [b] pos) (eT (e2 ma mb fun x y => (inS x y).map .bl)) :=
  dt_cmpR (op_in_seq.or (op_inD hu)) hm ha hb fun v w v2 w2 fp fp2 H d Q r1 r2 hf q => by
    cases e : inS w w2 with
    | none => rw [e] at hf; cases hf
    | some k => rw [e] at hf; cases hf; exact in_rule (neg := false) r1 r2 e (q _ _ (Same.refl H) (.bl _))
theorem dt_notIn (hu : X.A.units + 65 < cLine) (hm : behindInMarks .NotIn b = false) (ha : DX X a ma) (hb : DX X b mb) : DT X (.Compare a [.NotIn] [b] pos) (eT (e2 ma mb fun x y => (inS x y).map fun k => .bl (!k))) :=
  dt_cmpR (op_notIn_seq.or (op_notInD hu)) hm ha hb fun v w v2 w2 fp fp2 H d Q r1 r2 hf q => by
    cases e : inS w w2 with
    | none => rw [e] at hf; cases hf
    | some k => rw [e] at hf; cases hf; exact in_rule (neg := true) r1 r2 e (q _ _ (Same.refl H) (.bl _))
theorem dt_isN {j pos'} (ha : DX X a ma) : DT X (.Compare a [.Is] [.Constant .none j pos'] pos) (eT (e1 ma fun w => some (.bl (isNonS w)))) := by
  refine ⟨fun Wx tk => pt_imp (pt_cmp (pc_isN (ha.pe Wx tk)) rfl) fun σ H Q ⟨Γ, st, rl, q⟩ => ⟨Γ, st, rl, ?_⟩⟩
  refine fin.imp (fin.bind (fin.bind q)) fun a st1 q1 v H1 r1 g1 ar => ?_
  obtain ⟨d, ed, q3⟩ := fin_opt q1
  obtain ⟨w, ew, ed⟩ := bindO_some ed
  obtain ⟨fp, rs⟩ := r1.look ar ew
  cases ed
  exact ⟨_, rfl, by rw [rs.isNon]; exact q3 H1 r1 g1⟩
theorem dt_notN {j pos'} (ha : DX X a ma) : DT X (.Compare a [.IsNot] [.Constant .none j pos'] pos) (eT (e1 ma fun w => some (.bl (!isNonS w)))) := by
  refine ⟨fun Wx tk => pt_imp (pt_cmp (pc_notN (ha.pe Wx tk)) rfl) fun σ H Q ⟨Γ, st, rl, q⟩ => ⟨Γ, st, rl, ?_⟩⟩
  refine fin.imp (fin.bind (fin.bind q)) fun a st1 q1 v H1 r1 g1 ar => ?_
  obtain ⟨d, ed, q3⟩ := fin_opt q1
  obtain ⟨w, ew, ed⟩ := bindO_some ed
  obtain ⟨fp, rs⟩ := r1.look ar ew
  cases ed
  exact ⟨_, rfl, by rw [rs.isNon]; exact q3 H1 r1 g1⟩
end

/-! ### a def of the program -/
structure FN (K : PySem.W.Frag) (mg : Str → Option Value) (x qual : Str) (st : Stmt) (ps : List Str) : Prop where
  ex : ∃ f fd, mg x = some (.ref f) ∧ Fun K x qual st f fd ∧ Binds K fd ps []
section
variable {P : Program} {w : World} {K : PySem.W.Frag} {mg : Str → Option Value} {base : Heap}
theorem dfn_of {x qual : Str} {st : Stmt} {N ps : List Str} {k n : Nat} {pn : List Nat} {mb : DS → SO} (F : FN K mg x qual st ps) (S : FnScope N ps (defScope st)) (hn : ps.length = n) (hnN : n ≤ N.length)
    (body : ∀ (f : Addr) (cdv : Value) (A : Around) (outer : List Env) (s : Shared) (H : Hp) (E : XK), Room k (A.deeper (envOfC qual (defScope st) s.heap.objs.size f cdv)) → DSs (cxOf (L2.CX P w) P w K mg base N qual (defScope st) f cdv A outer s H E) pn (defBody st) mb) :
    DFn P w K mg base (k + 1) x n (runF n N.length pn mb) := by
  obtain ⟨f, fd, hm, F, hb⟩ := F.ex
  exact dfn_mk F S hm hb hn hnN (body f)
theorem hu65 {A : Around} {k : Nat} (hr : Room k A) : A.units + 65 < cLine := by have := hr.un; omega
/-- no promise -/
theorem dfn_no {x qual : Str} {st : Stmt} {N ps : List Str} {k n : Nat} (F : FN K mg x qual st ps) (S : FnScope N ps (defScope st)) (hn : ps.length = n) : DFn P w K mg base (k + 1) x n (fun _ => .stuck) := by
  obtain ⟨f, fd, hm, F, hb⟩ := F.ex
  refine ⟨f, fd, ps, hm, F.kp, hb, hn, F.okX S (fun vs H Q E h => h.1.trans hn.symm) fun cdv A outer s H vs Q E hr h => ?_⟩
  obtain ⟨_, ws, fp, _, _, q⟩ := h
  exact q.elim
end
end DL

/-! ## DL16 -/
namespace DL
open PySem PySem.Spec PyProof.Rows L2

def objE (i : Nat) (a : Addr) (b : Bool) : DS → ER Py := fun st => if objAt st i a then .ok (.bl b) st else .stuck
def cxC (x : Str) (ps : List Str) (y : Str) : Option Bool := if y = x then some true else if y ∈ ps then some false else none
def msC (ms : Addr → DS → SO) (y : Exn) (a : Addr) : DS → SO := match y.arg with
  | none => ms a
  | some _ => fun _ => .stuck
noncomputable def tryM (mb : DS → SO) (x : Str) (ps : List Str) (i : Nat) (ms : Addr → DS → SO) : DS → SO := tryS mb (cxC x ps) i (msC ms)
/-- try .. except x as n, x an own class without an __init__; ps: own classes that pass -/
theorem sT {X : Cx} {pn : List Nat} {x n : Str} {C : Addr} {i : Nat} {b : List Stmt} {b0 : Stmt} {suite : List Stmt} {np pos pos' : Pos} {mb : DS → SO} {ms : Addr → DS → SO} (ps : List Str)
    (hs : X.stack = X.env :: X.outer) (hf : X.env.frame = some X.env.locals) (hN : X.N.Nodup) (hi : X.N[i]? = some n) (hln : X.env.kindOf n = some .local) (hg : Gl X x) (hm : X.mg x = some (.ref C)) (hp : i ∉ pn) (hex : PySem.W.exmOne X.K (.ref C) (.ref C) = some true)
    (hps : ∀ y ∈ ps, ∃ D, X.mg y = some (.ref D) ∧ PySem.W.exmOne X.K (.ref D) (.ref C) = some false)
    (hb : ∀ (pl : List (Addr × Obj)) (xe : Value → Shared → Prop), PassesOwn (model X.prog X.w) X.A X.env xe → DSs (X.tr pl xe) pn b mb)
    (hsu : ∀ (a : Addr) (oe : Obj) (pl : List (Addr × Obj)), Zc (.ref C) none oe → (∃ vs, oe.data = .fields vs) → DSs (X.suite a ((a, oe) :: pl)) (i :: pn) (b0 :: suite) (ms a)) (hdb : (x == ("__debug__" : Str)) = false := by decide) :
    DSt X pn (.Try b [.ExceptHandler (some (.Name x np)) (some n) (b0 :: suite) pos'] [] [] pos) (tryM mb x ps i ms) := by
  refine ds_try_as (C := C) hs hf hN hi hln ⟨hg, hdb, .inl hm⟩ hp (fun y bb cls hc hy => ?_) hb fun y a oe cls d pl hz hv hy hd hc => ?_
  · unfold cxC at hc
    split at hc
    · rename_i e
      cases hc
      subst e
      rw [hm] at hy
      cases hy
      exact hex
    · split at hc
      · rename_i e
        cases hc
        obtain ⟨D, h1, h2⟩ := hps y e
        rw [h1] at hy
        cases hy
        exact h2
      · cases hc
  · unfold cxC at hc
    split at hc
    · rename_i e
      unfold msC
      cases ea : y.arg with
      | none =>
        have := hd ea
        subst this
        rw [e, hm] at hy
        cases hy
        exact hsu a oe pl hz hv
      | some _ => exact ⟨fun Wx tk => ⟨fun pins s σ H D I ⟨Γ, st, np, r, q⟩ => q.elim⟩⟩
    · split at hc <;> cases hc
end DL

/-! ## DL17 -/
namespace DL
open PySem PySem.Spec PyProof.Rows L2

/-! ### mirrors, evaluated -/
section
variable {st : DS} {i : Nat} {a b : DS → SO} {mp mp2 : DS → ER Py} {mo : DS → ER Sv} {ml : DS → ER (List Py)} {mt mt2 : DS → ER Bool} {mx mx2 : DS → ER Ar} {mxs : DS → ER (List Ar)} {α : Type}
@[simp] theorem kI_ap {i : Int} : kI i st = .ok (.int i) st := rfl
@[simp] theorem kB_ap {i : Bool} : kB i st = .ok (.bl i) st := rfl
@[simp] theorem kN_ap : kN st = .ok .non st := rfl
@[simp] theorem kS_ap {x : Str} : kS x st = .ok (.str x) st := rfl
@[simp] theorem frzM_ap : frzM mo st = (mo st).bind fun w st' => optE (frzS w) st' := rfl
@[simp] theorem valM_ap : valM mp st = (mp st).bind fun d st' => .ok (.val d) st' := rfl
@[simp] theorem xM_ap : xM mp st = (mp st).bind fun d st' => .ok (.v d) st' := rfl
@[simp] theorem frzS_val {d : Py} : frzS (.val d) = some d := rfl
@[simp] theorem frzS_lst {d : List Py} : frzS (.lst d) = some (.lst d) := rfl
@[simp] theorem frzS_dic {d : List (Py × Py)} : frzS (.dic d) = some (.dic d) := rfl
theorem varX_v {d : Py} (h : st[i]? = some (some (.val d))) : varX i st = .ok (.v d) st := by unfold varX; rw [h]
theorem varX_l {d : List Py} (h : st[i]? = some (some (.lst d))) : varX i st = .ok (.s i) st := by unfold varX; rw [h]
theorem takeO_v {d : Py} (h : st[i]? = some (some (.val d))) : takeO i st = .ok (.val d) st := by unfold takeO; rw [h]
theorem takeO_l {d : List Py} (h : st[i]? = some (some (.lst d))) : takeO i st = .ok (.lst d) (st.set i none) := by unfold takeO; rw [h]
theorem lockE_v {d : Py} (h : st[i]? = some (some (.val d))) : lockE i st = .ok d (st.set i (some (.val d))) := by unfold lockE; rw [h]; rfl
theorem lockE_l {d : List Py} (h : st[i]? = some (some (.lst d))) : lockE i st = .ok (.lst d) (st.set i (some (.val (.lst d)))) := by unfold lockE; rw [h]; rfl
@[simp] theorem nilV_ap : nilV st = .ok [] st := rfl
@[simp] theorem consV_ap : consV mp ml st = (mp st).bind fun d st1 => (ml st1).bind fun ds st2 => .ok (d :: ds) st2 := rfl
@[simp] theorem nilA_ap : nilA st = .ok [] st := rfl
@[simp] theorem consA_ap : consA mx mxs st = (mx st).bind fun d st1 => (mxs st1).bind fun ds st2 => .ok (d :: ds) st2 := rfl
@[simp] theorem tupM_ap : tupM ml st = (ml st).bind fun ds st1 => .ok (.tup ds) st1 := rfl
@[simp] theorem lstM_ap : lstM ml st = (ml st).bind fun ds st1 => .ok (.lst ds) st1 := rfl
@[simp] theorem eT_ap : eT mp st = (mp st).bind fun d st1 => optE (asBl d) st1 := rfl
@[simp] theorem asBl_bl {b : Bool} : asBl (.bl b) = some b := rfl
@[simp] theorem asInt_int {b : Int} : asInt (.int b) = some b := rfl
@[simp] theorem andT_ap : andT mt mt2 st = (mt st).bind fun k st1 => if k then mt2 st1 else .ok false st1 := rfl
@[simp] theorem orT_ap : orT mt mt2 st = (mt st).bind fun k st1 => if k then .ok true st1 else mt2 st1 := rfl
@[simp] theorem notT_ap : notT mt st = (mt st).bind fun k st1 => .ok (!k) st1 := rfl
@[simp] theorem ifE_ap : ifE mt mp mp2 st = (mt st).bind fun k st1 => if k then mp st1 else mp2 st1 := rfl
@[simp] theorem andE_ap : andE mp mp2 st = (mp st).bind fun d st1 => (optE (asBl d) st1).bind fun k st1 => if k then mp2 st1 else .ok (.bl false) st1 := rfl
@[simp] theorem orE_ap : orE mp mp2 st = (mp st).bind fun d st1 => (optE (asBl d) st1).bind fun k st1 => if k then .ok (.bl true) st1 else mp2 st1 := rfl
@[simp] theorem notE_ap : notE mp st = (mp st).bind fun d st1 => (optE (asBl d) st1).bind fun k st1 => .ok (.bl (!k)) st1 := rfl
@[simp] theorem pN_ap : pN st = .ok none st := rfl
@[simp] theorem pS_ap : pS mp st = (mp st).bind fun d st1 => (optE (asInt d) st1).bind fun i st1 => .ok (some i) st1 := rfl
@[simp] theorem slM_ap {l h : DS → ER (Option Int)} : slM mx l h st = (mx st).bind fun a st1 => (l st1).bind fun l st2 => (h st2).bind fun u st3 => optE (bindO st3 a fun x => sliceS x l u) st3 := rfl
@[simp] theorem seqM_ap : seqM a b st = seqS (a st) b := rfl
@[simp] theorem exM_ap : exM mo st = (mo st).s fun _ st1 => .nx st1 := rfl
@[simp] theorem rtM_ap : rtM mo st = (mo st).s fun w st1 => .rt w st1 := rfl
@[simp] theorem stM_ap : stM i mo st = (mo st).s fun w st1 => putO i w st1 := rfl
@[simp] theorem asM_ap {f : Py → DS → Option DS} : asM f mp st = (mp st).s fun d st1 => tgtO (f d st1) := rfl
@[simp] theorem tgtO_some : tgtO (some st) = .nx st := rfl
@[simp] theorem ifM_ap : ifM mt a b st = (mt st).s fun k st1 => if k then a st1 else b st1 := rfl
@[simp] theorem forM_ap {f : Py → DS → Option DS} : forM ml f b st = (ml st).s fun ds st1 => forS f b ds st1 := rfl
@[simp] theorem nxM_ap : nxM st = .nx st := rfl
@[simp] theorem bkM_ap : bkM st = .bk st := rfl
@[simp] theorem ctM_ap : ctM st = .ct st := rfl
@[simp] theorem rnM_ap : rnM st = .rt (.val .non) st := rfl
@[simp] theorem rsM_ap {x : Str} : rsM x st = .ex ⟨x, none⟩ st := rfl
@[simp] theorem sqI_ap : sqI mp st = (mp st).bind fun d st1 => optE (itemsS (.val d)) st1 := rfl
@[simp] theorem rg1_ap : rg1 ml st = (ml st).bind fun ds st1 => optE (range1 ds) st1 := rfl
@[simp] theorem rg2_ap : rg2 ml st = (ml st).bind fun ds st1 => optE (range2 ds) st1 := rfl
@[simp] theorem rg3_ap : rg3 ml st = (ml st).bind fun ds st1 => optE (range3 ds) st1 := rfl
@[simp] theorem yesT_ap : yesT st = .ok true st := rfl
@[simp] theorem e1_ap {f : Sv → Option α} : e1 mx f st = (mx st).bind fun a st1 => optE (bindO st1 a f) st1 := rfl
@[simp] theorem e2_ap {f : Sv → Sv → Option α} : e2 mx mx2 f st = (mx st).bind fun a st1 => (mx2 st1).bind fun b st2 => optE (bindO st2 a fun x => bindO st2 b fun y => f x y) st2 := rfl
@[simp] theorem bindO_v {d : Py} {f : Sv → Option α} : bindO st (.v d) f = f (.val d) := rfl
@[simp] theorem bindO_s {f : Sv → Option α} : bindO st (.s i) f = (st[i]?).join.bind f := rfl
@[simp] theorem binI0_v {i j : Int} {g : Int → Int → α} : binI0 g (.val (.int i)) (.val (.int j)) = some (g i j) := rfl
@[simp] theorem binI_v {c : Int → Int → Prop} [∀ i j, Decidable (c i j)] {i j : Int} {g : Int → Int → α} : binI c g (.val (.int i)) (.val (.int j)) = if c i j then some (g i j) else none := rfl
@[simp] theorem itemsS_tup {ds : List Py} : itemsS (.val (.tup ds)) = some ds := rfl
@[simp] theorem itemsS_lst {ds : List Py} : itemsS (.val (.lst ds)) = some ds := rfl
@[simp] theorem itemsS_l {ds : List Py} : itemsS (.lst ds) = some ds := rfl
@[simp] theorem listS_lst {ds : List Py} : listS (.val (.lst ds)) = some ds := rfl
@[simp] theorem listS_l {ds : List Py} : listS (.lst ds) = some ds := rfl
@[simp] theorem intS_v {i : Int} : intS (.val (.int i)) = some i := rfl
@[simp] theorem intOf_i {i : Int} : intOf (.val (.int i)) = some (.int i) := rfl
@[simp] theorem intOf_b {i : Bool} : intOf (.val (.bl i)) = some (.int (if i then 1 else 0)) := rfl
@[simp] theorem truS_n : truS (.val .non) = some false := rfl
@[simp] theorem truS_b {b : Bool} : truS (.val (.bl b)) = some b := rfl
@[simp] theorem truS_t {ds : List Py} : truS (.val (.tup ds)) = some (!ds.isEmpty) := rfl
@[simp] theorem truS_l {ds : List Py} : truS (.lst ds) = some (!ds.isEmpty) := rfl
@[simp] theorem truS_ll {ds : List Py} : truS (.val (.lst ds)) = some (!ds.isEmpty) := rfl
@[simp] theorem lenS_t {ds : List Py} : lenS (.val (.tup ds)) = some (.int ds.length) := rfl
@[simp] theorem lenS_ll {ds : List Py} : lenS (.val (.lst ds)) = some (.int ds.length) := rfl
@[simp] theorem lenS_l {ds : List Py} : lenS (.lst ds) = some (.int ds.length) := rfl
@[simp] theorem isNonS_n : isNonS (.val .non) = true := rfl
@[simp] theorem isNonS_i {i : Int} : isNonS (.val (.int i)) = false := rfl
@[simp] theorem isNonS_b {i : Bool} : isNonS (.val (.bl i)) = false := rfl
@[simp] theorem isNonS_s {i : Str} : isNonS (.val (.str i)) = false := rfl
@[simp] theorem isNonS_t {i : List Py} : isNonS (.val (.tup i)) = false := rfl
@[simp] theorem isNonS_ll {i : List Py} : isNonS (.val (.lst i)) = false := rfl
@[simp] theorem isNonS_l {i : List Py} : isNonS (.lst i) = false := rfl
@[simp] theorem tyS_n : tyS (.val .non) = some .non := rfl
@[simp] theorem tyS_i {i : Int} : tyS (.val (.int i)) = some .int := rfl
@[simp] theorem tyS_b {i : Bool} : tyS (.val (.bl i)) = some .bool := rfl
@[simp] theorem tyS_s {i : Str} : tyS (.val (.str i)) = some .str := rfl
@[simp] theorem tyS_t {i : List Py} : tyS (.val (.tup i)) = some .tuple := rfl
@[simp] theorem tyS_ll {i : List Py} : tyS (.val (.lst i)) = some .list := rfl
@[simp] theorem tyS_l {i : List Py} : tyS (.lst i) = some .list := rfl
@[simp] theorem isiS_ap {c : Tn} {w : Sv} : isiS c w = (tyS w).map (isiT c) := rfl
@[simp] theorem isiS2_ap {c c2 : Tn} {w : Sv} : isiS2 c c2 w = (tyS w).map fun n => isiT c n || isiT c2 n := rfl
@[simp] theorem eqS_i {x y : Int} : eqS (.val (.int x)) (.val (.int y)) = some (decide (x = y)) := rfl
@[simp] theorem eqS_s {x y : Str} : eqS (.val (.str x)) (.val (.str y)) = some (decide (x = y)) := rfl
@[simp] theorem eqS_b {x y : Bool} : eqS (.val (.bl x)) (.val (.bl y)) = some (decide (x = y)) := rfl
@[simp] theorem ixS_t {ds : List Py} {i : Int} : ixS (.val (.tup ds)) (.val (.int i)) = atI ds i := rfl
@[simp] theorem ixS_ll {ds : List Py} {i : Int} : ixS (.val (.lst ds)) (.val (.int i)) = atI ds i := rfl
@[simp] theorem ixS_l {ds : List Py} {i : Int} : ixS (.lst ds) (.val (.int i)) = atI ds i := rfl
theorem atI_nat {xs : List α} {i : Nat} (h : i < xs.length) : atI xs (i : Int) = some xs[i] := by simp [atI, ixN, h]
@[simp] theorem atI_0 {x : α} {xs : List α} : atI (x :: xs) 0 = some x := atI_nat (i := 0) (by simp)
@[simp] theorem atI_1 {x y : α} {xs : List α} : atI (x :: y :: xs) 1 = some y := atI_nat (i := 1) (by simp)
@[simp] theorem atI_2 {x y z : α} {xs : List α} : atI (x :: y :: z :: xs) 2 = some z := atI_nat (i := 2) (by simp)
@[simp] theorem atI_3 {x y z u : α} {xs : List α} : atI (x :: y :: z :: u :: xs) 3 = some u := atI_nat (i := 3) (by simp)
@[simp] theorem atI_4 {x y z u w : α} {xs : List α} : atI (x :: y :: z :: u :: w :: xs) 4 = some w := atI_nat (i := 4) (by simp)
@[simp] theorem ixN_0 {n : Nat} (h : 0 < n) : ixN n 0 = some 0 := by simp [ixN]; omega
@[simp] theorem ixN_1 {n : Nat} (h : 1 < n) : ixN n 1 = some 1 := by simp [ixN]; omega
@[simp] theorem ixN_2 {n : Nat} (h : 2 < n) : ixN n 2 = some 2 := by simp [ixN]; omega
@[simp] theorem ixN_3 {n : Nat} (h : 3 < n) : ixN n 3 = some 3 := by simp [ixN]; omega
@[simp] theorem ixN_4 {n : Nat} (h : 4 < n) : ixN n 4 = some 4 := by simp [ixN]; omega
@[simp] theorem revS_t {ds : List Py} : revS (.val (.tup ds)) = some (.val (.tup ds.reverse)) := rfl
@[simp] theorem revS_ll {ds : List Py} : revS (.val (.lst ds)) = some (.lst ds.reverse) := rfl
@[simp] theorem revS_l {ds : List Py} : revS (.lst ds) = some (.lst ds.reverse) := rfl
@[simp] theorem addS_t {a b : List Py} : addS (.val (.tup a)) (.val (.tup b)) = if a.length + b.length ≤ sizeLine then some (.val (.tup (a ++ b))) else none := rfl
@[simp] theorem addS_ll {a b : List Py} : addS (.val (.lst a)) (.val (.lst b)) = if a.length + b.length ≤ sizeLine then some (.lst (a ++ b)) else none := rfl
@[simp] theorem addS_l1 {a b : List Py} : addS (.lst a) (.val (.lst b)) = if a.length + b.length ≤ sizeLine then some (.lst (a ++ b)) else none := rfl
@[simp] theorem addS_l2 {a b : List Py} : addS (.val (.lst a)) (.lst b) = if a.length + b.length ≤ sizeLine then some (.lst (a ++ b)) else none := rfl
@[simp] theorem addS_l {a b : List Py} : addS (.lst a) (.lst b) = if a.length + b.length ≤ sizeLine then some (.lst (a ++ b)) else none := rfl
@[simp] theorem addS_i {a b : Int} : addS (.val (.int a)) (.val (.int b)) = some (.val (.int (a + b))) := rfl
@[simp] theorem sliceS_t {ds : List Py} {l h : Option Int} : sliceS (.val (.tup ds)) l h = some (.val (.tup (cutP ds l h))) := rfl
@[simp] theorem sliceS_ll {ds : List Py} {l h : Option Int} : sliceS (.val (.lst ds)) l h = some (.lst (cutP ds l h)) := rfl
@[simp] theorem sliceS_l {ds : List Py} {l h : Option Int} : sliceS (.lst ds) l h = some (.lst (cutP ds l h)) := rfl
@[simp] theorem tupS_t {ds : List Py} : tupS (.val (.tup ds)) = some (.tup ds) := rfl
@[simp] theorem tupS_ll {ds : List Py} : tupS (.val (.lst ds)) = some (.tup ds) := rfl
@[simp] theorem tupS_l {ds : List Py} : tupS (.lst ds) = some (.tup ds) := rfl
@[simp] theorem tupS_d {ds : List (Py × Py)} : tupS (.val (.dic ds)) = some (.tup (ds.map (·.1))) := rfl
@[simp] theorem range1_ap {n : Int} : range1 [.int n] = if inB n then some (rangeL 0 1 n.toNat) else none := rfl
@[simp] theorem range2_ap {a b : Int} : range2 [.int a, .int b] = if inB a && inB b then some (rangeL a 1 (b - a).toNat) else none := rfl
@[simp] theorem range3_ap {a b c : Int} : range3 [.int a, .int b, .int c] = if inB a && inB b && decide (c = -1) then some (rangeL a (-1) (a - b).toNat) else none := rfl
@[simp] theorem forS_nil {f : Py → DS → Option DS} : forS f b [] st = .nx st := rfl
theorem forS_cons {f : Py → DS → Option DS} {d : Py} {ds : List Py} {st1 : DS} (h : f d st = some st1) : forS f b (d :: ds) st = loopS (b st1) (forS f b ds) := by simp only [forS, h]
@[simp] theorem gNameS_ap {d : Py} : gNameS i d st = if i < st.length then some (st.set i (some (.val d))) else none := rfl
@[simp] theorem gNilS_ap : gNilS [] st = some st := rfl
@[simp] theorem gConsS_ap {f : Py → DS → Option DS} {g : List Py → DS → Option DS} {d : Py} {ds : List Py} : gConsS f g (d :: ds) st = (f d st).bind (g ds) := rfl
@[simp] theorem gTupS_ap {n : Nat} {g : List Py → DS → Option DS} {ds : List Py} : gTupS n g (.tup ds) st = if ds.length = n then g ds st else none := rfl
@[simp] theorem putO_ap {w : Sv} : putO i w st = if i < st.length then .nx (st.set i (some w)) else .stuck := rfl
theorem lstAt_ap {ds : List Py} (h : st[i]? = some (some (.lst ds))) : lstAt st i = some ds := by unfold lstAt; rw [h]
@[simp] theorem appendE_ap : appendE i mp st = (optE (lstAt st i) st).bind fun _ st => (mp st).bind fun d st1 => (optE (lstAt st1 i) st1).bind fun ds st1 => if ds.length < sizeLine then .ok .non (st1.set i (some (.lst (ds ++ [d])))) else .stuck := rfl
theorem popE_ap {ds : List Py} {d : Py} (h : lstAt st i = some (ds ++ [d])) : popE i st = .ok d (st.set i (some (.lst ds))) := by
  unfold popE; rw [h]; simp
@[simp] theorem setLS_ap : setLS i mp mp2 st = (mp st).s fun d st1 => (optE (lstAt st1 i) st1).s fun _ st1 => (mp2 st1).s fun k st2 => (optE (lstAt st2 i) st2).s fun ds st2 => (optE ((asInt k).bind fun k => ixN ds.length k) st2).s fun j st2 => .nx (st2.set i (some (.lst (ds.set j d)))) := rfl
@[simp] theorem augI_ap {g : Int → Int → Int} : augI i g mp st = (optE (((st[i]?).join).bind intS) st).s fun a st => (mp st).s fun d st1 => (optE (asInt d) st1).s fun b st1 => putO i (.val (.int (g a b))) st1 := rfl
@[simp] theorem chainT_ap {p q : Int → Int → Bool} {ma mb mc : DS → ER Ar} : chainT p q ma mb mc st = (ma st).bind fun a st1 => (mb st1).bind fun b st2 => (optE (bindO st2 a fun x => bindO st2 b fun y => binI0 (fun i j => (p i j, j)) x y) st2).bind fun k st2 =>
  if k.1 then (mc st2).bind fun c st3 => optE (bindO st3 c fun z => (intS z).map fun l => q k.2 l) st3 else .ok false st2 := rfl
@[simp] theorem lcM_ap {mi : DS → ER (List Py)} {f : Py → DS → Option DS} {me : DS → ER Py} {vs : List Nat} : lcM mi f mt me vs st = (mi st).bind fun ds st1 => lcS f mt me vs ds [] (wipeS st1 vs) := rfl
@[simp] theorem lcS_nil {f : Py → DS → Option DS} {me : DS → ER Py} {vs : List Nat} {acc : List Py} : lcS f mt me vs [] acc st = .ok (.lst acc) st := rfl
theorem lcS_cons {f : Py → DS → Option DS} {me : DS → ER Py} {vs : List Nat} {acc : List Py} {d : Py} {ds : List Py} {st1 : DS} (h : f d st = some st1) : lcS f mt me vs (d :: ds) acc st = (mt st1).nb fun b st2 => if b then (me st2).nb fun y st3 => if acc.length < sizeLine then lcS f mt me vs ds (acc ++ [y]) (wipeS st3 vs) else .stuck else lcS f mt me vs ds acc (wipeS st2 vs) := by simp only [lcS, h]
@[simp] theorem wipeS_nil : wipeS st [] = st := rfl
@[simp] theorem wipeS_cons {v : Nat} {vs : List Nat} : wipeS st (v :: vs) = (wipeS st vs).set v none := rfl
end
/-- a call's end -/
def callR (r : FR) (as : List Ar) (st : DS) : ER Sv := match r with
  | .ret w outs => .ok w (giveA as outs st)
  | .ex x outs => .ex x (giveA as outs st)
  | .stuck => .stuck
@[simp] theorem callR_ret {w : Sv} {outs st : DS} {as : List Ar} : callR (.ret w outs) as st = .ok w (giveA as outs st) := rfl
@[simp] theorem callR_ex {w : Exn} {outs st : DS} {as : List Ar} : callR (.ex w outs) as st = .ex w (giveA as outs st) := rfl
@[simp] theorem callM_ap {m : FM} {margs : DS → ER (List Ar)} {st : DS} : callM m margs st = (margs st).bind fun as st1 => (optE (takeA as st1) st1).bind fun r st2 => callR (m r.1) as r.2 := by
  unfold callM
  cases margs st with
  | ok as st1 =>
    simp only [ER.bind_ok]
    cases takeA as st1 with
    | none => rfl
    | some r =>
      obtain ⟨ws, st2⟩ := r
      simp only [optE_some, ER.bind_ok]
      cases m ws <;> rfl
  | ex x st1 => rfl
  | stuck => rfl
@[simp] theorem takeA_nil {st : DS} : takeA [] st = some ([], st) := rfl
@[simp] theorem takeA_v {d : Py} {as : List Ar} {st : DS} : takeA (.v d :: as) st = (takeA as st).map fun r => (.val d :: r.1, r.2) := rfl
theorem takeA_s {i : Nat} {w : Sv} {as : List Ar} {st : DS} (h : st[i]? = some (some w)) : takeA (.s i :: as) st = (takeA as (st.set i none)).map fun r => (w :: r.1, r.2) := by
  simp only [takeA, h, Option.join]
  rfl
@[simp] theorem giveA_nil {outs st : DS} : giveA [] outs st = st := by cases outs <;> rfl
@[simp] theorem giveA_v {d : Py} {as : List Ar} {o : Option Sv} {os st : DS} : giveA (.v d :: as) (o :: os) st = giveA as os st := by cases o <;> rfl
@[simp] theorem giveA_s {i : Nat} {w : Sv} {as : List Ar} {os st : DS} : giveA (.s i :: as) (some w :: os) st = giveA as os (st.set i (some w)) := rfl
def outsG (pn : List Nat) (st : DS) : Nat → Nat → DS
  | _, 0 => []
  | i, n + 1 => (if i ∈ pn then (st[i]?).join else none) :: outsG pn st (i + 1) n
theorem outsG_eq {pn : List Nat} {st : DS} : ∀ (n i : Nat), outsG pn st i n = (List.range' i n).map fun i => if i ∈ pn then (st[i]?).join else none
  | 0, i => rfl
  | n + 1, i => by rw [List.range'_succ, List.map_cons, ← outsG_eq n (i + 1)]; rfl
@[simp] theorem outsOf_eq {n : Nat} {pn : List Nat} {st : DS} : outsOf n pn st = outsG pn st 0 n := by rw [outsG_eq, ← List.range_eq_range']; rfl
@[simp] theorem outsG_0 {pn : List Nat} {st : DS} {i : Nat} : outsG pn st i 0 = [] := rfl
@[simp] theorem outsG_1 {pn : List Nat} {st : DS} {i n : Nat} : outsG pn st i (n + 1) = (if i ∈ pn then (st[i]?).join else none) :: outsG pn st (i + 1) n := rfl
/-- a def's end -/
def endF (n : Nat) (pn : List Nat) : SO → FR
  | .nx st => .ret (.val .non) (outsOf n pn st)
  | .rt w st => .ret w (outsOf n pn st)
  | .ex x st => .ex x (outsOf n pn st)
  | _ => .stuck
theorem runF_eq {n N : Nat} {pn : List Nat} {mb : DS → SO} {ws : List Sv} : runF n N pn mb ws = endF n pn (mb (ws.map some ++ List.replicate (N - n) none)) := by
  unfold runF endF
  cases mb (ws.map some ++ List.replicate (N - n) none) <;> rfl
@[simp] theorem endF_nx {n : Nat} {pn : List Nat} {st : DS} : endF n pn (.nx st) = .ret (.val .non) (outsOf n pn st) := rfl
@[simp] theorem endF_rt {n : Nat} {pn : List Nat} {st : DS} {w : Sv} : endF n pn (.rt w st) = .ret w (outsOf n pn st) := rfl
@[simp] theorem endF_ex {n : Nat} {pn : List Nat} {st : DS} {w : Exn} : endF n pn (.ex w st) = .ex w (outsOf n pn st) := rfl
end DL
namespace DL
open PySem PySem.Spec PyProof.Rows L2
@[simp] theorem cmul_r {i j : Int} (h1 : -(2 ^ 64) < j) (h2 : j < 2 ^ 64) : CMul i j := .inr ⟨h1, h2⟩
@[simp] theorem cmul_l {i j : Int} (h1 : -(2 ^ 64) < i) (h2 : i < 2 ^ 64) : CMul i j := .inl ⟨h1, h2⟩
@[simp] theorem cdiv_r {i j : Int} (h1 : 0 < j) (h2 : j < 1073741824) : CDiv i j := ⟨h1, h2⟩
@[simp] theorem cpow_r {i j : Int} (h1 : 0 ≤ j) (h2 : j ≤ 1000000) (h3 : i.natAbs < 2 ^ 64) : CPow i j := ⟨h1, h2, h3⟩
theorem atI_last {α : Type} {xs : List α} {x : α} (h : xs.getLast? = some x) : atI xs (-1) = some x := by
  have hl : xs.length ≠ 0 := fun e => by rw [List.length_eq_zero_iff.mp e] at h; cases h
  rw [List.getLast?_eq_getElem?] at h
  have h1 : ixN xs.length (-1) = some (xs.length - 1) := by
    unfold ixN
    rw [if_neg (by decide), if_pos (by omega)]
    congr 1
    omega
  unfold atI
  rw [h1]
  exact h
end DL
namespace DL
open PySem PySem.Spec PyProof.Rows L2
@[simp] theorem cmul_mod {x y : Int} : CMul (x % 2147483647) y := by
  refine .inl ⟨?_, ?_⟩ <;> omega
@[simp] theorem isiT_1 : isiT .str .str = true := rfl
@[simp] theorem isiT_eq {a b : Tn} : isiT a b = (b == a || (a == .int && b == .bool)) := rfl
end DL
namespace DL
open PySem PySem.Spec PyProof.Rows L2
@[simp] theorem extendE_ap {i : Nat} {me : DS → ER Ar} {st : DS} : extendE i me st = (optE (lstAt st i) st).bind fun _ st => (me st).bind fun d st1 => (optE (lstAt st1 i) st1).bind fun ds st1 => (optE (bindO st1 d itemsS) st1).bind fun es st1 =>
  if ds.length + es.length ≤ sizeLine then .ok .non (st1.set i (some (.lst (ds ++ es)))) else .stuck := rfl
@[simp] theorem popE_ap' {i : Nat} {st : DS} : popE i st = (optE (lstAt st i) st).bind fun ds st => match ds.getLast? with
  | some d => .ok d (st.set i (some (.lst ds.dropLast)))
  | none => .stuck := rfl
end DL

/-! ## DL18 -/
namespace DL
open PySem PySem.Spec PyProof.Rows L2
/-! ### the end of a law -/
theorem fnm {K : PySem.W.Frag} {h : Heap} {mg : Str → Option Value} (X : K.In h) (G : h.Ns mainGlobals mg) {x qual : Str} {st : Stmt} {f : Addr} {oc : Value} {od an : Option Addr} {osl : Array (Option Value)} {kV doc pm cdv ct : Value} {ps : List Str}
    (a : PySem.W.nsIn K mainGlobals x = some (some (.ref f))) (l : K.lookup f = some ⟨oc, od, .func (PySem.W.fnOf x qual (defArgs st) (defBody st) (defScope st) .none kV doc pm an cdv ct), osl⟩) (c : PySem.W.codeIn K cdv qual = true) (k : PySem.W.keepIn K (.ref f) = true)
    (hb : ∀ (kV doc pm : Value) (an : Option Addr) (cdv ct : Value) (us : List Value), us.length = ps.length → bindArgs (PySem.W.fnOf x qual (defArgs st) (defBody st) (defScope st) .none kV doc pm an cdv ct) ⟨us, []⟩ = pure (ps.zip us)) : FN K mg x qual st ps :=
  ⟨f, _, PySem.W.mg_of X G a, fun_mk l c k, (fun_mk l c k).binds hb⟩
def spScript (K : PySem.W.Frag) : Sp := fun vs H Q _ => ∃ (a : Addr) (ns : List Int), vs = [.ref a] ∧ SqF K H a (ns.map V.int) ∧ ∀ H', Q (.bl true) H'
theorem RA.ofInts {K : PySem.W.Frag} {H : Hp} : ∀ ns : List Int, RA K H (ns.map V.int) (ns.map Py.int)
  | [] => .nil
  | n :: ns => .cons (.int n) (RA.ofInts ns)
theorem law_fn {P : Program} {w : World} {K : PySem.W.Frag} {mg : Str → Option Value} {base : Heap} {k : Nat} {f : Addr} {fd : FuncData} {ps : List Str} {m : FM} (h : FnOk P w K mg base (L2.CX P w) k f fd ps (spD mg K 1 m))
    (hm : ∀ ns : List Int, ∃ outs, m [.val (.lst (ns.map .int))] = .ret (.val (.bl true)) outs) : FnOk P w K mg base (L2.CX P w) k f fd ps (spScript K) :=
  h.imp fun vs H Q E ⟨a, ns, e, hs, q⟩ => by
    subst e
    obtain ⟨outs, e⟩ := hm ns
    refine ⟨rfl, [.val (.lst (ns.map .int))], [], .yes (fp1 := []) (.val (.lst hs (RA.ofInts ns))) .nil, List.nodup_nil, ?_⟩
    rw [e]
    intro v H' fw fo rs _ _ _ _
    have rd := rs.data rfl
    cases rd
    exact q H'
theorem sqF_of {K : PySem.W.Frag} {H : Hp} {a : Addr} {xs : List V} (hO : Only H) (hS : SqL K H a xs) : SqF K H a xs := by
  rcases hS with (h | h) | h
  · rcases hO a with z | ⟨o, ys, z⟩ <;> rw [h] at z <;> cases z
  · exact .inl h
  · exact .inr h
theorem walk_law {l : PySem.W.OpenLaw} {n k : Nat} {q : Program} {loose : List Str} {XP : (Str → Option Value) → Heap → Prop} {YP : World → Heap → Prop} {d : DefRec} {K : Params → PySem.W.Frag} (hn : l.most = some n) (hn2 : n ≤ sizeLine) (hdf : d.params.defaults = []) (hr : Room k callerA)
    (hY : ∀ (w : World) (h : Heap), YP w h → (K w.params).In h)
    (F : ∀ (w : World) (mg : Str → Option Value) (fa : Addr) (h : Heap), (K w.params).In h → h.Ns mainGlobals mg → mg d.name = some (.ref fa) →
      ∃ fd : FuncData, (∀ (s : Shared) (u : Value), BindsTo s fd ⟨[u], []⟩ [("script", u)]) ∧ ∀ base : Heap, (K w.params).In base → base.Ns mainGlobals mg → FnOk l.prog w (K w.params) mg base (L2.CX l.prog w) k fa fd ["script"] (spScript (K w.params))) :
    PySem.W.WalkO q loose XP YP l.row.toRowW d [] (fun f vs => PySem.call f vs) :=
  L2.walk_of (n := n) (k := k) (x := "script") (CX := fun w => L2.CX l.prog w) (sp := fun w => spScript (K w.params)) hn hn2 hdf hr hY F (fun _ _ a ns _ hO hS => ⟨a, ns, rfl, sqF_of hO hS, fun _ => rfl⟩) fun _ _ _ _ _ z => by
    obtain ⟨_, _, _, _, _, _, _, _, _, _, _, _, z⟩ := z
    exact z
end DL
namespace DL
open PySem PySem.Spec PyProof.Rows L2
theorem kit_ref {K : PySem.W.Frag} {C D : Addr} {b : Bool} (hdct : PySem.W.hasDictIn K C = true) (ht : PySem.W.typeIn K (.ref C) = some (.type "type")) (h4 : PySem.W.subIn K (.ref D) (.ref C) = some b) (hs : PySem.W.subIn K (.ref C) (.ref C) = some true) : PySem.W.kitOne K (.ref D) (.ref C) = some b := by
  by_cases e : D = C
  · subst e
    rw [h4] at hs
    cases hs
    show (if ((Value.ref D) == (Value.ref D)) = true then some true else _) = some true
    rw [if_pos (beq_self_eq_true _)]
  · have h0 : ¬ ((Value.ref D) == (Value.ref C)) = true := fun z => e (Value.ref.inj (beq_iff_eq.mp z))
    obtain ⟨cd, hc, _⟩ : ∃ cd, PySem.W.clsIn K C = some cd ∧ True := by
      unfold PySem.W.hasDictIn at hdct
      cases z : PySem.W.clsIn K C with
      | none => rw [z] at hdct; cases hdct
      | some cd => exact ⟨cd, rfl, trivial⟩
    have e2 : ((PySem.W.clsIn K C).isSome && PySem.W.typeIn K (.ref C) == some (.type "type")) = true := by rw [hc, ht] <;> rfl
    show (if ((Value.ref D) == (Value.ref C)) = true then some true else (if ((PySem.W.clsIn K C).isSome && PySem.W.typeIn K (.ref C) == some (.type "type")) = true then PySem.W.subIn K (.ref D) (.ref C) else none)) = some b
    rw [if_neg h0, if_pos e2]
    exact h4
end DL

/-! ## B01 -/
namespace K01
open PySem PySem.Spec PyProof.Rows L2 DL
def top (i : Nat) : Stmt := PySem.Challenge.pw_tertium_k01_places_of_terms.main.body.getD i (.Pass ⟨0, 0, 0, 0⟩)
abbrev st__law_start : Stmt := top 20
theorem sc__law_start : FnScope ["script", "cell"] ["script"] (defScope st__law_start) := ⟨rfl, rfl, rfl, by decide +kernel, rfl, by decide +kernel, by decide +kernel⟩
abbrev st__law_fill : Stmt := top 21
theorem sc__law_fill : FnScope ["c", "number"] ["c"] (defScope st__law_fill) := ⟨rfl, rfl, rfl, by decide +kernel, rfl, by decide +kernel, by decide +kernel⟩
abbrev st__law_take : Stmt := top 22
theorem sc__law_take : FnScope ["c", "many", "digit"] ["c", "many"] (defScope st__law_take) := ⟨rfl, rfl, rfl, by decide +kernel, rfl, by decide +kernel, by decide +kernel⟩
abbrev st__law_signature : Stmt := top 23
theorem sc__law_signature : FnScope ["c", "found"] ["c"] (defScope st__law_signature) := ⟨rfl, rfl, rfl, by decide +kernel, rfl, by decide +kernel, by decide +kernel⟩
abbrev st__law_term : Stmt := top 24
theorem sc__law_term : FnScope ["c", "sig", "names", "deep", "flat", "name", "many", "k"] ["c", "sig", "names", "deep"] (defScope st__law_term) := ⟨rfl, rfl, rfl, by decide +kernel, rfl, by decide +kernel, by decide +kernel⟩
abbrev st__law_places : Stmt := top 25
theorem sc__law_places : FnScope ["t", "found", "k", "p"] ["t"] (defScope st__law_places) := ⟨rfl, rfl, rfl, by decide +kernel, rfl, by decide +kernel, by decide +kernel⟩
abbrev st__law_same : Stmt := top 33
theorem sc__law_same : FnScope ["told", "due", "k"] ["told", "due"] (defScope st__law_same) := ⟨rfl, rfl, rfl, by decide +kernel, rfl, by decide +kernel, by decide +kernel⟩
abbrev st__law_at : Stmt := top 26
theorem sc__law_at : FnScope ["t", "p", "k"] ["t", "p"] (defScope st__law_at) := ⟨rfl, rfl, rfl, by decide +kernel, rfl, by decide +kernel, by decide +kernel⟩
abbrev st_is_variable : Stmt := top 8
theorem sc_is_variable : FnScope ["t"] ["t"] (defScope st_is_variable) := ⟨rfl, rfl, rfl, by decide +kernel, rfl, by decide +kernel, by decide +kernel⟩
abbrev st_inner : Stmt := top 9
theorem sc_inner : FnScope ["t"] ["t"] (defScope st_inner) := ⟨rfl, rfl, rfl, by decide +kernel, rfl, by decide +kernel, by decide +kernel⟩
abbrev st_at : Stmt := top 14
theorem sc_at : FnScope ["t", "p", "k", "arguments"] ["t", "p"] (defScope st_at) := ⟨rfl, rfl, rfl, by decide +kernel, rfl, by decide +kernel, by decide +kernel⟩
abbrev st_need_small : Stmt := top 16
theorem sc_need_small : FnScope ["nodes", "deep"] ["nodes", "deep"] (defScope st_need_small) := ⟨rfl, rfl, rfl, by decide +kernel, rfl, by decide +kernel, by decide +kernel⟩
abbrev st_parts : Stmt := top 10
theorem sc_parts : FnScope ["t", "found", "left", "one"] ["t"] (defScope st_parts) := ⟨rfl, rfl, rfl, by decide +kernel, rfl, by decide +kernel, by decide +kernel⟩
abbrev st_size : Stmt := top 11
theorem sc_size : FnScope ["t"] ["t"] (defScope st_size) := ⟨rfl, rfl, rfl, by decide +kernel, rfl, by decide +kernel, by decide +kernel⟩
abbrev st_depth : Stmt := top 12
theorem sc_depth : FnScope ["t", "level", "count", "below", "one"] ["t"] (defScope st_depth) := ⟨rfl, rfl, rfl, by decide +kernel, rfl, by decide +kernel, by decide +kernel⟩
abbrev st_put : Stmt := top 15
theorem sc_put : FnScope ["t", "p", "s", "way", "k", "arguments", "one"] ["t", "p", "s"] (defScope st_put) := ⟨rfl, rfl, rfl, by decide +kernel, rfl, by decide +kernel, by decide +kernel⟩
abbrev st__law_told : Stmt := top 32
theorem sc__law_told : FnScope ["t", "p", "s", "found", "k", "e"] ["t", "p", "s"] (defScope st__law_told) := ⟨rfl, rfl, rfl, by decide +kernel, rfl, by decide +kernel, by decide +kernel⟩
abbrev st__law_put : Stmt := top 27
theorem sc__law_put : FnScope ["t", "p", "s"] ["t", "p", "s"] (defScope st__law_put) := ⟨rfl, rfl, rfl, by decide +kernel, rfl, by decide +kernel, by decide +kernel⟩
abbrev st_positions : Stmt := top 13
theorem sc_positions : FnScope ["t", "found", "left", "place", "one", "arguments", "k"] ["t"] (defScope st_positions) := ⟨rfl, rfl, rfl, by decide +kernel, rfl, by decide +kernel, by decide +kernel⟩
abbrev st__law_depth : Stmt := top 31
theorem sc__law_depth : FnScope ["t", "part"] ["t"] (defScope st__law_depth) := ⟨rfl, rfl, rfl, by decide +kernel, rfl, by decide +kernel, by decide +kernel⟩
abbrev st_variables : Stmt := top 17
theorem sc_variables : FnScope ["t", "one"] ["t"] (defScope st_variables) := ⟨rfl, rfl, rfl, by decide +kernel, rfl, by decide +kernel, by decide +kernel⟩
abbrev st_symbols : Stmt := top 18
theorem sc_symbols : FnScope ["t", "one"] ["t"] (defScope st_symbols) := ⟨rfl, rfl, rfl, by decide +kernel, rfl, by decide +kernel, by decide +kernel⟩
abbrev st__law_names : Stmt := top 28
theorem sc__law_names : FnScope ["t", "found", "p", "one"] ["t"] (defScope st__law_names) := ⟨rfl, rfl, rfl, by decide +kernel, rfl, by decide +kernel, by decide +kernel⟩
abbrev st_law : Stmt := top 34
theorem sc_law : FnScope ["script", "c", "sig", "names", "t", "s", "places", "heads", "p", "one", "k"] ["script"] (defScope st_law) := ⟨rfl, rfl, rfl, by decide +kernel, rfl, by decide +kernel, by decide +kernel⟩
structure Fc (K : PySem.W.Frag) (mg : Str → Option Value) (C_LimitError C_StepError C_TertiumError C_TextError : Addr) : Prop where
  T : Bt mg
  f__law_start : FN K mg "_law_start" "_law_start" st__law_start ["script"]
  f__law_fill : FN K mg "_law_fill" "_law_fill" st__law_fill ["c"]
  f__law_take : FN K mg "_law_take" "_law_take" st__law_take ["c", "many"]
  f__law_signature : FN K mg "_law_signature" "_law_signature" st__law_signature ["c"]
  f__law_term : FN K mg "_law_term" "_law_term" st__law_term ["c", "sig", "names", "deep"]
  f__law_places : FN K mg "_law_places" "_law_places" st__law_places ["t"]
  f__law_same : FN K mg "_law_same" "_law_same" st__law_same ["told", "due"]
  f__law_at : FN K mg "_law_at" "_law_at" st__law_at ["t", "p"]
  f_is_variable : FN K mg "is_variable" "is_variable" st_is_variable ["t"]
  f_inner : FN K mg "inner" "inner" st_inner ["t"]
  f_at : FN K mg "at" "at" st_at ["t", "p"]
  f_need_small : FN K mg "need_small" "need_small" st_need_small ["nodes", "deep"]
  f_parts : FN K mg "parts" "parts" st_parts ["t"]
  f_size : FN K mg "size" "size" st_size ["t"]
  f_depth : FN K mg "depth" "depth" st_depth ["t"]
  f_put : FN K mg "put" "put" st_put ["t", "p", "s"]
  f__law_told : FN K mg "_law_told" "_law_told" st__law_told ["t", "p", "s"]
  f__law_put : FN K mg "_law_put" "_law_put" st__law_put ["t", "p", "s"]
  f_positions : FN K mg "positions" "positions" st_positions ["t"]
  f__law_depth : FN K mg "_law_depth" "_law_depth" st__law_depth ["t"]
  f_variables : FN K mg "variables" "variables" st_variables ["t"]
  f_symbols : FN K mg "symbols" "symbols" st_symbols ["t"]
  f__law_names : FN K mg "_law_names" "_law_names" st__law_names ["t"]
  g_MOST_DEPTH : ∃ t, mg "MOST_DEPTH" = some (.int 40 t)
  g_MOST_NODES : ∃ t, mg "MOST_NODES" = some (.int 400 t)
  m_LimitError : mg "LimitError" = some (.ref C_LimitError)
  m_StepError : mg "StepError" = some (.ref C_StepError)
  m_TertiumError : mg "TertiumError" = some (.ref C_TertiumError)
  m_TextError : mg "TextError" = some (.ref C_TextError)
  x_LimitError : XCls K mg "LimitError" C_LimitError
  x_StepError : XCls K mg "StepError" C_StepError
  e_StepError : ExcC K C_StepError
  exm_StepError_StepError : PySem.W.exmOne K (.ref C_StepError) (.ref C_StepError) = some true
  kit_StepError_LimitError : PySem.W.kitOne K (.ref C_StepError) (.ref C_LimitError) = some false
  kit_StepError_TertiumError : PySem.W.kitOne K (.ref C_StepError) (.ref C_TertiumError) = some true
  kit_StepError_TextError : PySem.W.kitOne K (.ref C_StepError) (.ref C_TextError) = some false
section
variable {P : Program} {w : World} {K : PySem.W.Frag} {mg : Str → Option Value} {base : Heap} {C_LimitError C_StepError C_TertiumError C_TextError : Addr}
noncomputable def M__law_start : FM := runF 1 2 [0] ((seqM (rtM (lstM (consV (frzM (lcM (sqI (frzM (slM (varX 0) pN (pS (kI 63))))) (gNameS 1) yesT (e1 (varX 1) intOf) [1])) (consV (kI 0) (consV (kI 0) (consV (kI 0) (consV (kI 14) nilV)))))))
    nxM))
theorem D__law_start (Y : Fc K mg C_LimitError C_StepError C_TertiumError C_TextError) : DFn P w K mg base 1 "_law_start" 1 M__law_start := dfn_of Y.f__law_start sc__law_start rfl (by decide) fun f cdv A outer s H E hr =>
    (s1 (sR (oL (v1 (DO.z (do_lc (pn := []) (own := [((PySem.Str.ofString "cell"), 1)]) rfl sc__law_start.nd (iS (DO.z (oSl (yV (pv 0)) p0 (p1 yI)))) (blkOk_by (N := ["script", "cell"]) (sc := (defScope st__law_start)) (by decide +kernel)) (fun _ _ _ _ _ => (dg_name (i := 1) sc__law_start.nd rfl (by first | exact Or.inl rfl | exact Or.inr rfl) (by decide))) (fun _ _ _ _ _ => q0) (fun _ _ _ _ _ => (de_intOf Y.T rfl (yV (pv 1)))))) (v1 yI (v1 yI (v1 yI (v1 yI v0)))))))
    s0)
noncomputable def M__law_fill : FM := runF 1 2 [0] ((seqM (setLS 0 (e2 (xM (e2 (varX 0) (xM (kI 3)) ixS)) (xM (kI 1)) (binI0 fun i j => .int (i + j))) (kI 3))
    (seqM (stM 1 (valM (e2 (xM (e2 (xM (e2 (varX 0) (xM (kI 3)) ixS)) (xM (kI 69621)) (binI CMul fun i j => .int (i * j)))) (xM (kI 12345)) (binI0 fun i j => .int (i + j)))))
    (seqM (ifM (eT (e2 (xM (e2 (varX 0) (xM (kI 1)) ixS)) (xM (e1 (xM (e2 (varX 0) (xM (kI 0)) ixS)) lenS)) (binI0 fun i j => .bl (decide (i < j)))))
    (seqM (stM 1 (valM (e2 (xM (e2 (varX 0) (xM (kI 0)) ixS)) (xM (e2 (varX 0) (xM (kI 1)) ixS)) ixS)))
    (seqM (setLS 0 (e2 (xM (e2 (varX 0) (xM (kI 1)) ixS)) (xM (kI 1)) (binI0 fun i j => .int (i + j))) (kI 1))
    (seqM (ifM (eT (e2 (varX 1) (xM (kI 0)) (binI0 fun i j => .bl (decide (i < j)))))
    (seqM (stM 1 (valM (e2 (xM (e2 (xM (kI 0)) (xM (kI 1)) (binI0 fun i j => .int (i - j)))) (varX 1) (binI0 fun i j => .int (i - j)))))
    nxM)
    nxM)
    (seqM (ifM (eT (e2 (varX 1) (xM (e2 (xM (kI 10)) (xM (kI 18)) (binI CPow fun i j => .int (i ^ j.toNat)))) (binI0 fun i j => .bl (decide (j ≤ i)))))
    (seqM (rtM (takeO 1))
    nxM)
    nxM)
    nxM))))
    nxM)
    (seqM (ifM (andT (e1 (xM (e2 (varX 0) (xM (kI 0)) ixS)) truS) (eT (e2 (xM (e2 (varX 0) (xM (kI 1)) ixS)) (xM (e1 (xM (e2 (varX 0) (xM (kI 0)) ixS)) lenS)) (binI0 fun i j => .bl (decide (j ≤ i))))))
    (seqM (stM 1 (valM (e2 (varX 1) (xM (e2 (xM (e1 (xM (e2 (xM (e2 (varX 0) (xM (kI 0)) ixS)) (xM (e1 (xM (kI 1)) fun w => (intS w).map fun i => .int (-i))) ixS)) intOf)) (xM (kI 1000003)) (binI (fun _ j => 0 < j) fun i j => .int (i % j)))) (binI0 fun i j => .int (i + j)))))
    nxM)
    nxM)
    (seqM (stM 1 (valM (e2 (xM (e1 (xM (e2 (xM (e2 (varX 1) (xM (kI 48271)) (binI CMul fun i j => .int (i * j)))) (xM (e2 (xM (e2 (varX 0) (xM (kI 3)) ixS)) (xM (kI 69621)) (binI CMul fun i j => .int (i * j)))) (binI0 fun i j => .int (i + j)))) intOf)) (xM (kI 2147483647)) (binI (fun _ j => 0 < j) fun i j => .int (i % j)))))
    (seqM (rtM (valM (e2 (xM (e2 (xM (e1 (xM (e2 (xM (e2 (xM (e2 (varX 1) (varX 1) (binI CMul fun i j => .int (i * j)))) (xM (e2 (xM (e2 (varX 0) (xM (kI 3)) ixS)) (xM (kI 7919)) (binI CMul fun i j => .int (i * j)))) (binI0 fun i j => .int (i + j)))) (xM (kI 11)) (binI0 fun i j => .int (i + j)))) intOf)) (xM (kI 64)) (binI CDiv fun i j => .int (i / j)))) (xM (kI 36028797018963968)) (binI0 fun i j => .int (i + j)))))
    nxM)))))))
theorem D__law_fill (Y : Fc K mg C_LimitError C_StepError C_TertiumError C_TextError) : DFn P w K mg base 1 "_law_fill" 1 M__law_fill := dfn_of Y.f__law_fill sc__law_fill rfl (by decide) fun f cdv A outer s H E hr =>
    (s1 (ds_setL (pv 0) yI (de_add (DE.y (de_ix (by intro _ _; rfl) (yV (pv 0)) (DE.y yI))) (DE.y yI)))
    (s1 (sS (i := 1) sc__law_fill.nd rfl (by first | exact Or.inl rfl | exact Or.inr rfl) (DE.o (de_add (DE.y (de_mul (DE.y (de_ix (by intro _ _; rfl) (yV (pv 0)) (DE.y yI))) (DE.y yI))) (DE.y yI))) (by decide))
    (s1 (sI (dt_lt (DE.y (de_ix (by intro _ _; rfl) (yV (pv 0)) (DE.y yI))) (DE.y (de_len Y.T rfl (DE.y (de_ix (by intro _ _; rfl) (yV (pv 0)) (DE.y yI))))))
    (s1 (sS (i := 1) sc__law_fill.nd rfl (by first | exact Or.inl rfl | exact Or.inr rfl) (DE.o (de_ix (by intro _ _; rfl) (DE.y (de_ix (by intro _ _; rfl) (yV (pv 0)) (DE.y yI))) (DE.y (de_ix (by intro _ _; rfl) (yV (pv 0)) (DE.y yI))))) (by decide))
    (s1 (ds_setL (pv 0) yI (de_add (DE.y (de_ix (by intro _ _; rfl) (yV (pv 0)) (DE.y yI))) (DE.y yI)))
    (s1 (sI (dt_lt (yV (pv 1)) (DE.y yI))
    (s1 (sS (i := 1) sc__law_fill.nd rfl (by first | exact Or.inl rfl | exact Or.inr rfl) (DE.o (de_sub (DE.y (de_sub (DE.y yI) (DE.y yI))) (yV (pv 1)))) (by decide))
    s0)
    s0)
    (s1 (sI (dt_ge (yV (pv 1)) (DE.y (de_pow (DE.y yI) (DE.y yI))))
    (s1 (sR (yT (pv 1)))
    s0)
    s0)
    s0))))
    s0)
    (s1 (sI (DW.t (wA (dt_tr (DE.y (de_ix (by intro _ _; rfl) (yV (pv 0)) (DE.y yI)))) (dw_and1 (dt_ge (DE.y (de_ix (by intro _ _; rfl) (yV (pv 0)) (DE.y yI))) (DE.y (de_len Y.T rfl (DE.y (de_ix (by intro _ _; rfl) (yV (pv 0)) (DE.y yI)))))))))
    (s1 (sS (i := 1) sc__law_fill.nd rfl (by first | exact Or.inl rfl | exact Or.inr rfl) (DE.o (de_add (yV (pv 1)) (DE.y (de_mod (DE.y (de_intOf Y.T rfl (DE.y (de_ix (by intro _ _; rfl) (DE.y (de_ix (by intro _ _; rfl) (yV (pv 0)) (DE.y yI))) (DE.y (de_neg (DE.y yI))))))) (DE.y yI))))) (by decide))
    s0)
    s0)
    (s1 (sS (i := 1) sc__law_fill.nd rfl (by first | exact Or.inl rfl | exact Or.inr rfl) (DE.o (de_mod (DE.y (de_intOf Y.T rfl (DE.y (de_add (DE.y (de_mul (yV (pv 1)) (DE.y yI))) (DE.y (de_mul (DE.y (de_ix (by intro _ _; rfl) (yV (pv 0)) (DE.y yI))) (DE.y yI))))))) (DE.y yI))) (by decide))
    (s1 (sR (DE.o (de_add (DE.y (de_fdiv (DE.y (de_intOf Y.T rfl (DE.y (de_add (DE.y (de_add (DE.y (de_mul (yV (pv 1)) (yV (pv 1)))) (DE.y (de_mul (DE.y (de_ix (by intro _ _; rfl) (yV (pv 0)) (DE.y yI))) (DE.y yI))))) (DE.y yI))))) (DE.y yI))) (DE.y yI))))
    s0))))))
noncomputable def M__law_take : FM := runF 2 3 [0, 1] ((seqM (ifM (eT (e2 (xM (e2 (varX 0) (xM (kI 2)) ixS)) (varX 1) (binI0 fun i j => .bl (decide (i < j)))))
    (seqM (setLS 0 (frzM (callM M__law_fill (consA (varX 0) nilA))) (kI 2))
    nxM)
    nxM)
    (seqM (stM 2 (valM (e2 (xM (e1 (xM (e2 (varX 0) (xM (kI 2)) ixS)) intOf)) (varX 1) (binI (fun _ j => 0 < j) fun i j => .int (i % j)))))
    (seqM (setLS 0 (e2 (xM (e2 (varX 0) (xM (kI 2)) ixS)) (varX 1) (binI CDiv fun i j => .int (i / j))) (kI 2))
    (seqM (rtM (takeO 2))
    nxM)))))
theorem D__law_take (Y : Fc K mg C_LimitError C_StepError C_TertiumError C_TextError) : DFn P w K mg base 2 "_law_take" 2 M__law_take := dfn_of Y.f__law_take sc__law_take rfl (by decide) fun f cdv A outer s H E hr =>
    (s1 (sI (dt_lt (DE.y (de_ix (by intro _ _; rfl) (yV (pv 0)) (DE.y yI))) (yV (pv 1)))
    (s1 (ds_setL (pv 0) yI (DO.z (do_call (D__law_fill Y) (hr.mono (by decide)) rfl (a1 (yV (pv 0)) a0))))
    s0)
    s0)
    (s1 (sS (i := 2) sc__law_take.nd rfl (by first | exact Or.inl rfl | exact Or.inr rfl) (DE.o (de_mod (DE.y (de_intOf Y.T rfl (DE.y (de_ix (by intro _ _; rfl) (yV (pv 0)) (DE.y yI))))) (yV (pv 1)))) (by decide))
    (s1 (ds_setL (pv 0) yI (de_fdiv (DE.y (de_ix (by intro _ _; rfl) (yV (pv 0)) (DE.y yI))) (yV (pv 1))))
    (s1 (sR (yT (pv 2)))
    s0))))
noncomputable def M__law_signature : FM := runF 1 2 [0] ((seqM (stM 1 (lstM (consV (tupM (consV (kS (PySem.Str.ofString "a")) (consV (kI 0) nilV))) (consV (tupM (consV (kS (PySem.Str.ofString "f")) (consV (kI 1) nilV))) (consV (tupM (consV (kS (PySem.Str.ofString "g")) (consV (kI 2) nilV))) nilV)))))
    (seqM (ifM (eT (e2 (xM (frzM (callM M__law_take (consA (varX 0) (consA (xM (kI 2)) nilA))))) (xM (kI 0)) fun x y => (eqS x y).map .bl))
    (seqM (exM (valM (appendE 1 (tupM (consV (kS (PySem.Str.ofString "b")) (consV (kI 0) nilV))))))
    nxM)
    nxM)
    (seqM (ifM (eT (e2 (xM (frzM (callM M__law_take (consA (varX 0) (consA (xM (kI 3)) nilA))))) (xM (kI 0)) fun x y => (eqS x y).map .bl))
    (seqM (exM (valM (appendE 1 (tupM (consV (kS (PySem.Str.ofString "h")) (consV (e2 (xM (frzM (lstM (consV (kI 1) (consV (kI 1) (consV (kI 2) (consV (kI 3) nilV))))))) (xM (frzM (callM M__law_take (consA (varX 0) (consA (xM (kI 4)) nilA))))) ixS) nilV))))))
    nxM)
    nxM)
    (seqM (ifM (eT (e2 (xM (frzM (callM M__law_take (consA (varX 0) (consA (xM (kI 4)) nilA))))) (xM (kI 0)) fun x y => (eqS x y).map .bl))
    (seqM (exM (valM (appendE 1 (tupM (consV (kS (PySem.Str.ofString "k")) (consV (e2 (xM (kI 3)) (xM (e1 (xM (e2 (xM (frzM (callM M__law_take (consA (varX 0) (consA (xM (kI 3)) nilA))))) (xM (kI 0)) fun x y => (eqS x y).map .bl)) intOf)) (binI0 fun i j => .int (i + j))) nilV))))))
    nxM)
    nxM)
    (seqM (rtM (takeO 1))
    nxM))))))
theorem D__law_signature (Y : Fc K mg C_LimitError C_StepError C_TertiumError C_TextError) : DFn P w K mg base 3 "_law_signature" 1 M__law_signature := dfn_of Y.f__law_signature sc__law_signature rfl (by decide) fun f cdv A outer s H E hr =>
    (s1 (sS (i := 1) sc__law_signature.nd rfl (by first | exact Or.inl rfl | exact Or.inr rfl) (oL (v1 (yU (v1 yS (v1 yI v0))) (v1 (yU (v1 yS (v1 yI v0))) (v1 (yU (v1 yS (v1 yI v0))) v0)))) (by decide))
    (s1 (sI (dt_eq hr.units (DE.y (DO.z (do_call (D__law_take Y) (hr.mono (by decide)) rfl (a1 (yV (pv 0)) (a1 (DE.y yI) a0))))) (DE.y yI))
    (s1 (sE (DE.o (de_append (pv 1) (yU (v1 yS (v1 yI v0))))))
    s0)
    s0)
    (s1 (sI (dt_eq hr.units (DE.y (DO.z (do_call (D__law_take Y) (hr.mono (by decide)) rfl (a1 (yV (pv 0)) (a1 (DE.y yI) a0))))) (DE.y yI))
    (s1 (sE (DE.o (de_append (pv 1) (yU (v1 yS (v1 (de_ix (by intro _ _; rfl) (DE.y (DO.z (oL (v1 yI (v1 yI (v1 yI (v1 yI v0))))))) (DE.y (DO.z (do_call (D__law_take Y) (hr.mono (by decide)) rfl (a1 (yV (pv 0)) (a1 (DE.y yI) a0)))))) v0))))))
    s0)
    s0)
    (s1 (sI (dt_eq hr.units (DE.y (DO.z (do_call (D__law_take Y) (hr.mono (by decide)) rfl (a1 (yV (pv 0)) (a1 (DE.y yI) a0))))) (DE.y yI))
    (s1 (sE (DE.o (de_append (pv 1) (yU (v1 yS (v1 (de_add (DE.y yI) (DE.y (de_intOf Y.T rfl (DE.y (de_eq hr.units (DE.y (DO.z (do_call (D__law_take Y) (hr.mono (by decide)) rfl (a1 (yV (pv 0)) (a1 (DE.y yI) a0))))) (DE.y yI)))))) v0))))))
    s0)
    s0)
    (s1 (sR (yT (pv 1)))
    s0)))))
noncomputable def M__law_term : Nat → FM
  | 0 => fun _ => .stuck
  | n + 1 => runF 4 8 [0, 1, 2, 3] ((seqM (setLS 0 (e2 (xM (e2 (varX 0) (xM (kI 4)) ixS)) (xM (kI 1)) (binI0 fun i j => .int (i - j))) (kI 4))
    (seqM (ifM (orT (andT (e1 (varX 2) truS) (eT (e2 (xM (frzM (callM M__law_take (consA (varX 0) (consA (xM (kI 4)) nilA))))) (xM (kI 0)) fun x y => (eqS x y).map .bl))) (orT (eT (e2 (varX 3) (xM (kI 0)) fun x y => (eqS x y).map .bl)) (eT (e2 (xM (e2 (varX 0) (xM (kI 4)) ixS)) (xM (kI 1)) (binI0 fun i j => .bl (decide (i < j)))))))
    (seqM (stM 4 (e2 (xM (frzM (e1 (varX 2) fun w => (itemsS w).map .lst))) (xM (frzM (lcM (sqI (lockE 1)) (gTupS 2 (gConsS (gNameS 5) (gConsS (gNameS 6) gNilS))) (eT (e2 (varX 6) (xM (kI 0)) fun x y => (eqS x y).map .bl)) (tupM (consV (lockE 5) (consV (tupM nilV) nilV))) [5, 6]))) addS))
    (seqM (rtM (valM (e2 (varX 4) (xM (frzM (callM M__law_take (consA (varX 0) (consA (xM (e1 (varX 4) lenS)) nilA))))) ixS)))
    nxM))
    nxM)
    (seqM (asM (gTupS 2 (gConsS (gNameS 5) (gConsS (gNameS 6) gNilS))) (e2 (varX 1) (xM (frzM (callM M__law_take (consA (varX 0) (consA (xM (e1 (varX 1) lenS)) nilA))))) ixS))
    (seqM (rtM (valM (tupM (consV (lockE 5) (consV (e1 (xM (frzM (lcM (rg1 (consV (lockE 6) nilV)) (gNameS 7) yesT (frzM (callM (M__law_term n) (consA (varX 0) (consA (varX 1) (consA (varX 2) (consA (xM (e2 (varX 3) (xM (kI 1)) (binI0 fun i j => .int (i - j)))) nilA)))))) [7]))) tupS) nilV)))))
    nxM)))))
theorem D__law_term (Y : Fc K mg C_LimitError C_StepError C_TertiumError C_TextError) : ∀ n : Nat, DFn P w K mg base (2 + n + 1) "_law_term" 4 (M__law_term n)
  | 0 => dfn_no Y.f__law_term sc__law_term rfl
  | n + 1 => dfn_of Y.f__law_term sc__law_term rfl (by decide) fun f cdv A outer s H E hr =>
    (s1 (ds_setL (pv 0) yI (de_sub (DE.y (de_ix (by intro _ _; rfl) (yV (pv 0)) (DE.y yI))) (DE.y yI)))
    (s1 (sI (DW.t (wO (DW.t (wA (dt_tr (yV (pv 2))) (dw_and1 (dt_eq hr.units (DE.y (DO.z (do_call (D__law_take Y) (hr.mono (by omega)) rfl (a1 (yV (pv 0)) (a1 (DE.y yI) a0))))) (DE.y yI))))) (wO (dt_eq hr.units (yV (pv 3)) (DE.y yI)) (dw_or1 (dt_lt (DE.y (de_ix (by intro _ _; rfl) (yV (pv 0)) (DE.y yI))) (DE.y yI))))))
    (s1 (sS (i := 4) sc__law_term.nd rfl (by first | exact Or.inl rfl | exact Or.inr rfl) (do_add (DE.y (DO.z (do_list Y.T rfl (yV (pv 2))))) (DE.y (DO.z (do_lc (pn := []) (own := [((PySem.Str.ofString "name"), 5), ((PySem.Str.ofString "many"), 6)]) rfl sc__law_term.nd (iS (yL (pv 1))) (blkOk_by (N := ["c", "sig", "names", "deep", "flat", "name", "many", "k"]) (sc := (defScope st__law_term)) (by decide +kernel)) (fun _ _ _ _ _ => (dg_tup rfl (dgs_cons (dg_name (i := 5) sc__law_term.nd rfl (by first | exact Or.inl rfl | exact Or.inr rfl) (by decide)) (dgs_cons (dg_name (i := 6) sc__law_term.nd rfl (by first | exact Or.inl rfl | exact Or.inr rfl) (by decide)) dgs_nil)))) (fun _ _ _ _ _ => (dts_one (dt_eq hr.units (yV (pv 6)) (DE.y yI)))) (fun _ _ _ _ _ => (yU (v1 (yL (pv 5)) (v1 (yU v0) v0)))))))) (by decide))
    (s1 (sR (DE.o (de_ix (by intro _ _; rfl) (yV (pv 4)) (DE.y (DO.z (do_call (D__law_take Y) (hr.mono (by omega)) rfl (a1 (yV (pv 0)) (a1 (DE.y (de_len Y.T rfl (yV (pv 4)))) a0))))))))
    s0))
    s0)
    (s1 (sA (de_ix (by intro _ _; rfl) (yV (pv 1)) (DE.y (DO.z (do_call (D__law_take Y) (hr.mono (by omega)) rfl (a1 (yV (pv 0)) (a1 (DE.y (de_len Y.T rfl (yV (pv 1)))) a0)))))) (dg_tup rfl (dgs_cons (dg_name (i := 5) sc__law_term.nd rfl (by first | exact Or.inl rfl | exact Or.inr rfl) (by decide)) (dgs_cons (dg_name (i := 6) sc__law_term.nd rfl (by first | exact Or.inl rfl | exact Or.inr rfl) (by decide)) dgs_nil))))
    (s1 (sR (DE.o (yU (v1 (yL (pv 5)) (v1 (de_tup1 rfl Y.T rfl (DE.y (DO.z (do_lc (pn := []) (own := [((PySem.Str.ofString "k"), 7)]) rfl sc__law_term.nd (iR1 Y.T rfl (v1 (yL (pv 6)) v0)) (blkOk_by (N := ["c", "sig", "names", "deep", "flat", "name", "many", "k"]) (sc := (defScope st__law_term)) (by decide +kernel)) (fun _ _ _ _ _ => (dg_name (i := 7) sc__law_term.nd rfl (by first | exact Or.inl rfl | exact Or.inr rfl) (by decide))) (fun _ _ _ _ _ => q0) (fun _ _ _ _ _ => (DO.z (do_call (D__law_term Y n) (hr.mono (by omega)) rfl (a1 (yV (pv 0)) (a1 (yV (pv 1)) (a1 (yV (pv 2)) (a1 (DE.y (de_sub (yV (pv 3)) (DE.y yI))) a0))))))))))) v0)))))
    s0))))
noncomputable def C__law_places_1 : DS → ER Py := (frzM (e2 (xM (tupM (consV (lockE 2) nilV))) (varX 3) addS))
noncomputable def B__law_places_2 (R : FM) : DS → SO := (seqM (stM 1 (e2 (varX 1) (xM (frzM (lcM (sqI (frzM (callM R (consA (xM (e2 (xM (e2 (varX 0) (xM (kI 1)) ixS)) (varX 2) ixS)) nilA)))) (gNameS 3) yesT C__law_places_1 [3]))) addS))
    nxM)
noncomputable def M__law_places : Nat → FM
  | 0 => fun _ => .stuck
  | n + 1 => runF 1 4 [0] ((seqM (stM 1 (lstM (consV (tupM nilV) nilV)))
    (seqM (ifM (eT (e1 (varX 0) fun w => (isiS .tuple w).map .bl))
    (seqM (forM (rg1 (consV (e1 (xM (e2 (varX 0) (xM (kI 1)) ixS)) lenS) nilV)) (gNameS 2)
    (B__law_places_2 (M__law_places n)))
    nxM)
    nxM)
    (seqM (rtM (takeO 1))
    nxM))))
theorem D__law_places (Y : Fc K mg C_LimitError C_StepError C_TertiumError C_TextError) : ∀ n : Nat, DFn P w K mg base (0 + n + 1) "_law_places" 1 (M__law_places n)
  | 0 => dfn_no Y.f__law_places sc__law_places rfl
  | n + 1 => dfn_of Y.f__law_places sc__law_places rfl (by decide) fun f cdv A outer s H E hr =>
    (s1 (sS (i := 1) sc__law_places.nd rfl (by first | exact Or.inl rfl | exact Or.inr rfl) (oL (v1 (yU v0) v0)) (by decide))
    (s1 (sI (tBe (de_isi .tuple Y.T rfl rfl (yV (pv 0))))
    (s1 (sF (passes_of rfl) rfl (iR1 Y.T rfl (v1 (de_len Y.T rfl (DE.y (de_ix (by intro _ _; rfl) (yV (pv 0)) (DE.y yI)))) v0)) (dg_name (i := 2) sc__law_places.nd rfl (by first | exact Or.inl rfl | exact Or.inr rfl) (by decide))
    (s1 (sS (i := 1) sc__law_places.nd rfl (by first | exact Or.inl rfl | exact Or.inr rfl) (do_add (yV (pv 1)) (DE.y (DO.z (do_lc (pn := []) (own := [((PySem.Str.ofString "p"), 3)]) rfl sc__law_places.nd (iS (DO.z (do_call (D__law_places Y n) (hr.mono (by omega)) rfl (a1 (DE.y (de_ix (by intro _ _; rfl) (DE.y (de_ix (by intro _ _; rfl) (yV (pv 0)) (DE.y yI))) (yV (pv 2)))) a0)))) (blkOk_by (N := ["t", "found", "k", "p"]) (sc := (defScope st__law_places)) (by decide +kernel)) (fun _ _ _ _ _ => (dg_name (i := 3) sc__law_places.nd rfl (by first | exact Or.inl rfl | exact Or.inr rfl) (by decide))) (fun _ _ _ _ _ => q0) (fun _ _ _ _ _ => (DO.z (do_add (DE.y (yU (v1 (yL (pv 2)) v0))) (yV (pv 3))))))))) (by decide))
    s0))
    s0)
    s0)
    (s1 (sR (yT (pv 1)))
    s0)))
noncomputable def C__law_same_1 (R : FM) : DS → ER Py := (frzM (callM R (consA (xM (e2 (varX 0) (varX 2) ixS)) (consA (xM (e2 (varX 1) (varX 2) ixS)) nilA))))
noncomputable def M__law_same : Nat → FM
  | 0 => fun _ => .stuck
  | n + 1 => runF 2 3 [0, 1] ((seqM (ifM (eT (e1 (varX 1) fun w => some (.bl (isNonS w))))
    (seqM (rtM (valM (e1 (varX 0) fun w => some (.bl (isNonS w)))))
    nxM)
    nxM)
    (seqM (ifM (eT (e1 (varX 1) fun w => (isiS2 .tuple .list w).map .bl))
    (seqM (ifM (orT (notT (eT (e1 (varX 0) fun w => (isiS2 .tuple .list w).map .bl))) (orT (eT (e2 (xM (e1 (varX 0) fun w => (isiS .list w).map .bl)) (xM (e1 (varX 1) fun w => (isiS .list w).map .bl)) fun x y => (eqS x y).map fun k => .bl (!k))) (eT (e2 (xM (e1 (varX 0) lenS)) (xM (e1 (varX 1) lenS)) fun x y => (eqS x y).map fun k => .bl (!k)))))
    (seqM (rtM (valM (kB false)))
    nxM)
    nxM)
    (seqM (rtM (valM (e1 (xM (frzM (lcM (rg1 (consV (e1 (varX 1) lenS) nilV)) (gNameS 2) yesT (C__law_same_1 (M__law_same n)) [2]))) allS)))
    nxM))
    nxM)
    (seqM (ifM (eT (e1 (varX 1) fun w => (isiS .str w).map .bl))
    (seqM (rtM (valM (andE (e1 (varX 0) fun w => (isiS .str w).map .bl) (e2 (varX 0) (varX 1) fun x y => (eqS x y).map .bl))))
    nxM)
    nxM)
    (seqM (rtM (valM (andE (e1 (varX 0) fun w => (isiS .int w).map .bl) (andE (e2 (xM (e1 (varX 0) fun w => (isiS .bool w).map .bl)) (xM (e1 (varX 1) fun w => (isiS .bool w).map .bl)) fun x y => (eqS x y).map .bl) (e2 (varX 0) (varX 1) fun x y => (eqS x y).map .bl)))))
    nxM)))))
theorem D__law_same (Y : Fc K mg C_LimitError C_StepError C_TertiumError C_TextError) : ∀ n : Nat, DFn P w K mg base (0 + n + 1) "_law_same" 2 (M__law_same n)
  | 0 => dfn_no Y.f__law_same sc__law_same rfl
  | n + 1 => dfn_of Y.f__law_same sc__law_same rfl (by decide) fun f cdv A outer s H E hr =>
    (s1 (sI (dt_isN (yV (pv 1)))
    (s1 (sR (DE.o (de_isN (yV (pv 0)))))
    s0)
    s0)
    (s1 (sI (tBe (de_isi2 .tuple .list Y.T rfl rfl rfl (yV (pv 1))))
    (s1 (sI (DW.t (wO (tN (tBe (de_isi2 .tuple .list Y.T rfl rfl rfl (yV (pv 0))))) (wO (dt_ne hr.units (DE.y (de_isi .list Y.T rfl rfl (yV (pv 0)))) (DE.y (de_isi .list Y.T rfl rfl (yV (pv 1))))) (dw_or1 (dt_ne hr.units (DE.y (de_len Y.T rfl (yV (pv 0)))) (DE.y (de_len Y.T rfl (yV (pv 1)))))))))
    (s1 (sR (DE.o yB))
    s0)
    s0)
    (s1 (sR (DE.o (de_all rfl Y.T rfl (DE.y (DO.z (do_lc (pn := []) (own := [((PySem.Str.ofString "k"), 2)]) rfl sc__law_same.nd (iR1 Y.T rfl (v1 (de_len Y.T rfl (yV (pv 1))) v0)) (blkOk_by (N := ["told", "due", "k"]) (sc := (defScope st__law_same)) (by decide +kernel)) (fun _ _ _ _ _ => (dg_name (i := 2) sc__law_same.nd rfl (by first | exact Or.inl rfl | exact Or.inr rfl) (by decide))) (fun _ _ _ _ _ => q0) (fun _ _ _ _ _ => (DO.z (do_call (D__law_same Y n) (hr.mono (by omega)) rfl (a1 (DE.y (de_ix (by intro _ _; rfl) (yV (pv 0)) (yV (pv 2)))) (a1 (DE.y (de_ix (by intro _ _; rfl) (yV (pv 1)) (yV (pv 2)))) a0)))))))))))
    s0))
    s0)
    (s1 (sI (tBe (de_isi .str Y.T rfl rfl (yV (pv 1))))
    (s1 (sR (DE.o (yAnd (de_isi .str Y.T rfl rfl (yV (pv 0))) (de_one (de_eq hr.units (yV (pv 0)) (yV (pv 1)))))))
    s0)
    s0)
    (s1 (sR (DE.o (yAnd (de_isi .int Y.T rfl rfl (yV (pv 0))) (yAnd (de_eq hr.units (DE.y (de_isi .bool Y.T rfl rfl (yV (pv 0)))) (DE.y (de_isi .bool Y.T rfl rfl (yV (pv 1))))) (de_one (de_eq hr.units (yV (pv 0)) (yV (pv 1))))))))
    s0))))
noncomputable def B__law_at_1 : DS → SO := (seqM (ifM (orT (eT (e1 (varX 0) fun w => (isiS .str w).map .bl)) (orT (notT (eT (e1 (varX 2) fun w => (isiS .int w).map .bl))) (orT (eT (e2 (varX 2) (xM (kI 0)) (binI0 fun i j => .bl (decide (i < j))))) (eT (e2 (varX 2) (xM (e1 (xM (e2 (varX 0) (xM (kI 1)) ixS)) lenS)) (binI0 fun i j => .bl (decide (j ≤ i))))))))
    (seqM (rtM (valM kN))
    nxM)
    nxM)
    (seqM (stM 0 (valM (e2 (xM (e2 (varX 0) (xM (kI 1)) ixS)) (varX 2) ixS)))
    nxM))
noncomputable def M__law_at : FM := runF 2 3 [1] ((seqM (forM (sqI (lockE 1)) (gNameS 2)
    B__law_at_1)
    (seqM (rtM (takeO 0))
    nxM)))
theorem D__law_at (Y : Fc K mg C_LimitError C_StepError C_TertiumError C_TextError) : DFn P w K mg base 1 "_law_at" 2 M__law_at := dfn_of Y.f__law_at sc__law_at rfl (by decide) fun f cdv A outer s H E hr =>
    (s1 (sF (passes_of rfl) rfl (iS (yL (pv 1))) (dg_name (i := 2) sc__law_at.nd rfl (by first | exact Or.inl rfl | exact Or.inr rfl) (by decide))
    (s1 (sI (DW.t (wO (tBe (de_isi .str Y.T rfl rfl (yV (pv 0)))) (wO (tN (tBe (de_isi .int Y.T rfl rfl (yV (pv 2))))) (wO (dt_lt (yV (pv 2)) (DE.y yI)) (dw_or1 (dt_ge (yV (pv 2)) (DE.y (de_len Y.T rfl (DE.y (de_ix (by intro _ _; rfl) (yV (pv 0)) (DE.y yI)))))))))))
    (s1 (sR (DE.o yN))
    s0)
    s0)
    (s1 (sS (i := 0) sc__law_at.nd rfl (by first | exact Or.inl rfl | exact Or.inr rfl) (DE.o (de_ix (by intro _ _; rfl) (DE.y (de_ix (by intro _ _; rfl) (yV (pv 0)) (DE.y yI))) (yV (pv 2)))) (by decide))
    s0)))
    (s1 (sR (yT (pv 0)))
    s0))
noncomputable def M_is_variable : FM := runF 1 1 [0] ((seqM (rtM (valM (e1 (varX 0) fun w => (isiS .str w).map .bl)))
    nxM))
theorem D_is_variable (Y : Fc K mg C_LimitError C_StepError C_TertiumError C_TextError) : DFn P w K mg base 1 "is_variable" 1 M_is_variable := dfn_of Y.f_is_variable sc_is_variable rfl (by decide) fun f cdv A outer s H E hr =>
    (s1 (sR (DE.o (de_isi .str Y.T rfl rfl (yV (pv 0)))))
    s0)
noncomputable def M_inner : FM := runF 1 1 [0] ((seqM (rtM (valM (ifE (e1 (xM (frzM (callM M_is_variable (consA (varX 0) nilA)))) truS) (tupM nilV) (e2 (varX 0) (xM (kI 1)) ixS))))
    nxM))
theorem D_inner (Y : Fc K mg C_LimitError C_StepError C_TertiumError C_TextError) : DFn P w K mg base 2 "inner" 1 M_inner := dfn_of Y.f_inner sc_inner rfl (by decide) fun f cdv A outer s H E hr =>
    (s1 (sR (DE.o (yIf (dt_tr (DE.y (DO.z (do_call (D_is_variable Y) (hr.mono (by decide)) rfl (a1 (yV (pv 0)) a0))))) (yU v0) (de_ix (by intro _ _; rfl) (yV (pv 0)) (DE.y yI)))))
    s0)
noncomputable def B_at_1 : DS → SO := (seqM (stM 3 (callM M_inner (consA (varX 0) nilA)))
    (seqM (ifM (notT (chainT (fun i j => decide (i ≤ j)) (fun i j => decide (i < j)) (xM (kI 0)) (varX 2) (xM (e1 (varX 3) lenS))))
    (seqM (rsM (PySem.Str.ofString "StepError"))
    nxM)
    nxM)
    (seqM (stM 0 (valM (e2 (varX 3) (varX 2) ixS)))
    nxM)))
noncomputable def M_at : FM := runF 2 4 [1] ((seqM (forM (sqI (lockE 1)) (gNameS 2)
    B_at_1)
    (seqM (rtM (takeO 0))
    nxM)))
theorem D_at (Y : Fc K mg C_LimitError C_StepError C_TertiumError C_TextError) : DFn P w K mg base 3 "at" 2 M_at := dfn_of Y.f_at sc_at rfl (by decide) fun f cdv A outer s H E hr =>
    (s1 (sF (passes_of rfl) rfl (iS (yL (pv 1))) (dg_name (i := 2) sc_at.nd rfl (by first | exact Or.inl rfl | exact Or.inr rfl) (by decide))
    (s1 (sS (i := 3) sc_at.nd rfl (by first | exact Or.inl rfl | exact Or.inr rfl) (do_call (D_inner Y) (hr.mono (by decide)) rfl (a1 (yV (pv 0)) a0)) (by decide))
    (s1 (sI (tN (dt_chain op_le op_lt (DE.y yI) (yV (pv 2)) (DE.y (de_len Y.T rfl (yV (pv 3))))))
    (s1 (sX rfl Y.x_StepError rfl)
    s0)
    s0)
    (s1 (sS (i := 0) sc_at.nd rfl (by first | exact Or.inl rfl | exact Or.inr rfl) (DE.o (de_ix (by intro _ _; rfl) (yV (pv 3)) (yV (pv 2)))) (by decide))
    s0))))
    (s1 (sR (yT (pv 0)))
    s0))
noncomputable def M_need_small : FM := runF 2 2 [0, 1] ((seqM (ifM (orT (eT (e2 (varX 0) (xM (kI 400)) (binI0 fun i j => .bl (decide (j < i))))) (eT (e2 (varX 1) (xM (kI 40)) (binI0 fun i j => .bl (decide (j < i))))))
    (seqM (rsM (PySem.Str.ofString "LimitError"))
    nxM)
    nxM)
    nxM))
theorem D_need_small (Y : Fc K mg C_LimitError C_StepError C_TertiumError C_TextError) : DFn P w K mg base 1 "need_small" 2 M_need_small := dfn_of Y.f_need_small sc_need_small rfl (by decide) fun f cdv A outer s H E hr =>
    (s1 (sI (DW.t (wO (dt_gt (yV (pv 0)) (DE.y (yG rfl Y.g_MOST_NODES.choose_spec))) (dw_or1 (dt_gt (yV (pv 1)) (DE.y (yG rfl Y.g_MOST_DEPTH.choose_spec))))))
    (s1 (sX rfl Y.x_LimitError rfl)
    s0)
    s0)
    s0)
noncomputable def B_parts_1 : DS → SO := (seqM (stM 3 (valM (popE 2)))
    (seqM (exM (valM (appendE 1 (lockE 3))))
    (seqM (exM (valM (extendE 2 (xM (frzM (e1 (xM (frzM (callM M_inner (consA (varX 3) nilA)))) revS))))))
    nxM)))
noncomputable def M_parts : FM := runF 1 4 [0] ((seqM (stM 1 (lstM nilV))
    (seqM (stM 2 (lstM (consV (lockE 0) nilV)))
    (seqM (whileS (e1 (varX 2) truS)
    B_parts_1)
    (seqM (rtM (takeO 1))
    nxM)))))
theorem D_parts (Y : Fc K mg C_LimitError C_StepError C_TertiumError C_TextError) : DFn P w K mg base 3 "parts" 1 M_parts := dfn_of Y.f_parts sc_parts rfl (by decide) fun f cdv A outer s H E hr =>
    (s1 (sS (i := 1) sc_parts.nd rfl (by first | exact Or.inl rfl | exact Or.inr rfl) (oL v0) (by decide))
    (s1 (sS (i := 2) sc_parts.nd rfl (by first | exact Or.inl rfl | exact Or.inr rfl) (oL (v1 (yL (pv 0)) v0)) (by decide))
    (s1 (ds_while (passes_of rfl) (dt_tr (yV (pv 2)))
    (s1 (sS (i := 3) sc_parts.nd rfl (by first | exact Or.inl rfl | exact Or.inr rfl) (DE.o (de_pop (pv 2))) (by decide))
    (s1 (sE (DE.o (de_append (pv 1) (yL (pv 3)))))
    (s1 (sE (DE.o (de_extend (pv 2) (DE.y (DO.z (do_rev (DE.y (DO.z (do_call (D_inner Y) (hr.mono (by decide)) rfl (a1 (yV (pv 3)) a0))))))))))
    s0))))
    (s1 (sR (yT (pv 1)))
    s0))))
noncomputable def M_size : FM := runF 1 1 [0] ((seqM (rtM (valM (e1 (xM (frzM (callM M_parts (consA (varX 0) nilA)))) lenS)))
    nxM))
theorem D_size (Y : Fc K mg C_LimitError C_StepError C_TertiumError C_TextError) : DFn P w K mg base 4 "size" 1 M_size := dfn_of Y.f_size sc_size rfl (by decide) fun f cdv A outer s H E hr =>
    (s1 (sR (DE.o (de_len Y.T rfl (DE.y (DO.z (do_call (D_parts Y) (hr.mono (by decide)) rfl (a1 (yV (pv 0)) a0)))))))
    s0)
noncomputable def B_depth_1 : DS → SO := (seqM (exM (valM (extendE 3 (xM (frzM (callM M_inner (consA (varX 4) nilA)))))))
    nxM)
noncomputable def B_depth_2 : DS → SO := (seqM (augI 2 (fun a b => a + b) (kI 1))
    (seqM (stM 3 (lstM nilV))
    (seqM (forM (sqI (lockE 1)) (gNameS 4)
    B_depth_1)
    (seqM (stM 1 (takeO 3))
    nxM))))
noncomputable def M_depth : FM := runF 1 5 [0] ((seqM (stM 1 (lstM (consV (lockE 0) nilV)))
    (seqM (stM 2 (valM (kI 0)))
    (seqM (whileS (e1 (varX 1) truS)
    B_depth_2)
    (seqM (rtM (takeO 2))
    nxM)))))
theorem D_depth (Y : Fc K mg C_LimitError C_StepError C_TertiumError C_TextError) : DFn P w K mg base 3 "depth" 1 M_depth := dfn_of Y.f_depth sc_depth rfl (by decide) fun f cdv A outer s H E hr =>
    (s1 (sS (i := 1) sc_depth.nd rfl (by first | exact Or.inl rfl | exact Or.inr rfl) (oL (v1 (yL (pv 0)) v0)) (by decide))
    (s1 (sS (i := 2) sc_depth.nd rfl (by first | exact Or.inl rfl | exact Or.inr rfl) (DE.o yI) (by decide))
    (s1 (ds_while (passes_of rfl) (dt_tr (yV (pv 1)))
    (s1 (ds_augI (i := 2) ip_add sc_depth.nd rfl (by first | exact Or.inl rfl | exact Or.inr rfl) yI (by decide))
    (s1 (sS (i := 3) sc_depth.nd rfl (by first | exact Or.inl rfl | exact Or.inr rfl) (oL v0) (by decide))
    (s1 (sF (passes_of rfl) rfl (iS (yL (pv 1))) (dg_name (i := 4) sc_depth.nd rfl (by first | exact Or.inl rfl | exact Or.inr rfl) (by decide))
    (s1 (sE (DE.o (de_extend (pv 3) (DE.y (DO.z (do_call (D_inner Y) (hr.mono (by decide)) rfl (a1 (yV (pv 4)) a0)))))))
    s0))
    (s1 (sS (i := 1) sc_depth.nd rfl (by first | exact Or.inl rfl | exact Or.inr rfl) (yT (pv 3)) (by decide))
    s0)))))
    (s1 (sR (yT (pv 2)))
    s0))))
noncomputable def B_put_1 : DS → SO := (seqM (stM 5 (callM M_inner (consA (varX 0) nilA)))
    (seqM (ifM (notT (chainT (fun i j => decide (i ≤ j)) (fun i j => decide (i < j)) (xM (kI 0)) (varX 4) (xM (e1 (varX 5) lenS))))
    (seqM (rsM (PySem.Str.ofString "StepError"))
    nxM)
    nxM)
    (seqM (exM (valM (appendE 3 (tupM (consV (lockE 0) (consV (lockE 4) nilV))))))
    (seqM (stM 0 (valM (e2 (varX 5) (varX 4) ixS)))
    nxM))))
noncomputable def B_put_2 : DS → SO := (seqM (stM 2 (valM (tupM (consV (e2 (varX 6) (xM (kI 0)) ixS) (consV (frzM (e2 (xM (frzM (e2 (xM (frzM (slM (xM (e2 (varX 6) (xM (kI 1)) ixS)) pN (pS (lockE 4))))) (xM (tupM (consV (lockE 2) nilV))) addS))) (xM (frzM (slM (xM (e2 (varX 6) (xM (kI 1)) ixS)) (pS (e2 (varX 4) (xM (kI 1)) (binI0 fun i j => .int (i + j)))) pN))) addS)) nilV)))))
    nxM)
noncomputable def M_put : FM := runF 3 7 [1] ((seqM (stM 3 (lstM nilV))
    (seqM (forM (sqI (lockE 1)) (gNameS 4)
    B_put_1)
    (seqM (forM (sqI (frzM (e1 (varX 3) revS))) (gTupS 2 (gConsS (gNameS 6) (gConsS (gNameS 4) gNilS)))
    B_put_2)
    (seqM (exM (callM M_need_small (consA (xM (frzM (callM M_size (consA (varX 2) nilA)))) (consA (xM (frzM (callM M_depth (consA (varX 2) nilA)))) nilA))))
    (seqM (rtM (takeO 2))
    nxM))))))
theorem D_put (Y : Fc K mg C_LimitError C_StepError C_TertiumError C_TextError) : DFn P w K mg base 5 "put" 3 M_put := dfn_of Y.f_put sc_put rfl (by decide) fun f cdv A outer s H E hr =>
    (s1 (sS (i := 3) sc_put.nd rfl (by first | exact Or.inl rfl | exact Or.inr rfl) (oL v0) (by decide))
    (s1 (sF (passes_of rfl) rfl (iS (yL (pv 1))) (dg_name (i := 4) sc_put.nd rfl (by first | exact Or.inl rfl | exact Or.inr rfl) (by decide))
    (s1 (sS (i := 5) sc_put.nd rfl (by first | exact Or.inl rfl | exact Or.inr rfl) (do_call (D_inner Y) (hr.mono (by decide)) rfl (a1 (yV (pv 0)) a0)) (by decide))
    (s1 (sI (tN (dt_chain op_le op_lt (DE.y yI) (yV (pv 4)) (DE.y (de_len Y.T rfl (yV (pv 5))))))
    (s1 (sX rfl Y.x_StepError rfl)
    s0)
    s0)
    (s1 (sE (DE.o (de_append (pv 3) (yU (v1 (yL (pv 0)) (v1 (yL (pv 4)) v0))))))
    (s1 (sS (i := 0) sc_put.nd rfl (by first | exact Or.inl rfl | exact Or.inr rfl) (DE.o (de_ix (by intro _ _; rfl) (yV (pv 5)) (yV (pv 4)))) (by decide))
    s0)))))
    (s1 (sF (passes_of rfl) rfl (iS (DO.z (do_rev (yV (pv 3))))) (dg_tup rfl (dgs_cons (dg_name (i := 6) sc_put.nd rfl (by first | exact Or.inl rfl | exact Or.inr rfl) (by decide)) (dgs_cons (dg_name (i := 4) sc_put.nd rfl (by first | exact Or.inl rfl | exact Or.inr rfl) (by decide)) dgs_nil)))
    (s1 (sS (i := 2) sc_put.nd rfl (by first | exact Or.inl rfl | exact Or.inr rfl) (DE.o (yU (v1 (de_ix (by intro _ _; rfl) (yV (pv 6)) (DE.y yI)) (v1 (DO.z (do_add (DE.y (DO.z (do_add (DE.y (DO.z (oSl (DE.y (de_ix (by intro _ _; rfl) (yV (pv 6)) (DE.y yI))) p0 (p1 (yL (pv 4)))))) (DE.y (yU (v1 (yL (pv 2)) v0)))))) (DE.y (DO.z (oSl (DE.y (de_ix (by intro _ _; rfl) (yV (pv 6)) (DE.y yI))) (p1 (de_add (yV (pv 4)) (DE.y yI))) p0))))) v0)))) (by decide))
    s0))
    (s1 (sE (do_call (D_need_small Y) (hr.mono (by decide)) rfl (a1 (DE.y (DO.z (do_call (D_size Y) (hr.mono (by decide)) rfl (a1 (yV (pv 2)) a0)))) (a1 (DE.y (DO.z (do_call (D_depth Y) (hr.mono (by decide)) rfl (a1 (yV (pv 2)) a0)))) a0))))
    (s1 (sR (yT (pv 2)))
    s0)))))
noncomputable def B__law_told_1 : DS → SO := (seqM (ifM (eT (e2 (varX 4) (xM (kI 0)) fun x y => (eqS x y).map .bl))
    (seqM (exM (valM (appendE 3 (frzM (callM M_at (consA (varX 0) (consA (varX 1) nilA)))))))
    nxM)
    (seqM (exM (valM (appendE 3 (frzM (callM M_put (consA (varX 0) (consA (varX 1) (consA (varX 2) nilA))))))))
    nxM))
    nxM)
noncomputable def A__law_told_2 : Addr → DS → SO := (fun a =>
    (seqM (exM (valM (appendE 3 (frzM (lstM (consV (kS (PySem.Str.ofString "refused")) (consV (andE (objE 5 a true) (andE (notE (objE 5 a false)) (notE (objE 5 a false)))) nilV)))))))
    nxM))
noncomputable def B__law_told_3 : DS → SO := (seqM (tryM B__law_told_1 (PySem.Str.ofString "StepError") [] 5 A__law_told_2)
    nxM)
noncomputable def M__law_told : FM := runF 3 6 [0, 1, 2] ((seqM (stM 3 (lstM nilV))
    (seqM (forM (rg1 (consV (kI 2) nilV)) (gNameS 4)
    B__law_told_3)
    (seqM (rtM (takeO 3))
    nxM))))
theorem D__law_told (Y : Fc K mg C_LimitError C_StepError C_TertiumError C_TextError) : DFn P w K mg base 6 "_law_told" 3 M__law_told := dfn_of Y.f__law_told sc__law_told rfl (by decide) fun f cdv A outer s H E hr =>
    (s1 (sS (i := 3) sc__law_told.nd rfl (by first | exact Or.inl rfl | exact Or.inr rfl) (oL v0) (by decide))
    (s1 (sF (passes_of rfl) rfl (iR1 Y.T rfl (v1 yI v0)) (dg_name (i := 4) sc__law_told.nd rfl (by first | exact Or.inl rfl | exact Or.inr rfl) (by decide))
    (s1 (sT (i := 5) [] rfl rfl sc__law_told.nd rfl rfl rfl Y.m_StepError (by decide) Y.exm_StepError_StepError nofun (fun pl xe hpo =>
    (s1 (sI (dt_eq hr.units (yV (pv 4)) (DE.y yI))
    (s1 (sE (DE.o (de_append (pv 3) (DO.z (do_call (D_at Y) (hr.mono (by decide)) rfl (a1 (yV (pv 0)) (a1 (yV (pv 1)) a0)))))))
    s0)
    (s1 (sE (DE.o (de_append (pv 3) (DO.z (do_call (D_put Y) (hr.mono (by decide)) rfl (a1 (yV (pv 0)) (a1 (yV (pv 1)) (a1 (yV (pv 2)) a0))))))))
    s0))
    s0)) (fun a oe pl hz hv =>
    (s1 (sE (DE.o (de_append (pv 3) (DO.z (oL (v1 yS (v1 (yAnd (de_isE (k := 0) (n := 0) Y.T Y.e_StepError hz hv rfl (pe_glob rfl Y.m_TertiumError rfl) Y.kit_StepError_TertiumError (pv 5)) (yAnd (yNot (de_isE (k := 0) (n := 0) Y.T Y.e_StepError hz hv rfl (pe_glob rfl Y.m_LimitError rfl) Y.kit_StepError_LimitError (pv 5))) (de_one (yNot (de_isE (k := 0) (n := 0) Y.T Y.e_StepError hz hv rfl (pe_glob rfl Y.m_TextError rfl) Y.kit_StepError_TextError (pv 5)))))) v0)))))))
    s0)))
    s0))
    (s1 (sR (yT (pv 3)))
    s0)))
noncomputable def M__law_put : Nat → FM
  | 0 => fun _ => .stuck
  | n + 1 => runF 3 3 [0, 1, 2] ((seqM (ifM (eT (e2 (varX 1) (xM (tupM nilV)) fun x y => (eqS x y).map .bl))
    (seqM (rtM (takeO 2))
    nxM)
    nxM)
    (seqM (rtM (valM (tupM (consV (e2 (varX 0) (xM (kI 0)) ixS) (consV (frzM (e2 (xM (frzM (e2 (xM (frzM (slM (xM (e2 (varX 0) (xM (kI 1)) ixS)) pN (pS (e2 (varX 1) (xM (kI 0)) ixS))))) (xM (tupM (consV (frzM (callM (M__law_put n) (consA (xM (e2 (xM (e2 (varX 0) (xM (kI 1)) ixS)) (xM (e2 (varX 1) (xM (kI 0)) ixS)) ixS)) (consA (xM (frzM (slM (varX 1) (pS (kI 1)) pN))) (consA (varX 2) nilA))))) nilV))) addS))) (xM (frzM (slM (xM (e2 (varX 0) (xM (kI 1)) ixS)) (pS (e2 (xM (e2 (varX 1) (xM (kI 0)) ixS)) (xM (kI 1)) (binI0 fun i j => .int (i + j)))) pN))) addS)) nilV)))))
    nxM)))
theorem D__law_put (Y : Fc K mg C_LimitError C_StepError C_TertiumError C_TextError) : ∀ n : Nat, DFn P w K mg base (0 + n + 1) "_law_put" 3 (M__law_put n)
  | 0 => dfn_no Y.f__law_put sc__law_put rfl
  | n + 1 => dfn_of Y.f__law_put sc__law_put rfl (by decide) fun f cdv A outer s H E hr =>
    (s1 (sI (dt_eq hr.units (yV (pv 1)) (DE.y (yU v0)))
    (s1 (sR (yT (pv 2)))
    s0)
    s0)
    (s1 (sR (DE.o (yU (v1 (de_ix (by intro _ _; rfl) (yV (pv 0)) (DE.y yI)) (v1 (DO.z (do_add (DE.y (DO.z (do_add (DE.y (DO.z (oSl (DE.y (de_ix (by intro _ _; rfl) (yV (pv 0)) (DE.y yI))) p0 (p1 (de_ix (by intro _ _; rfl) (yV (pv 1)) (DE.y yI)))))) (DE.y (yU (v1 (DO.z (do_call (D__law_put Y n) (hr.mono (by omega)) rfl (a1 (DE.y (de_ix (by intro _ _; rfl) (DE.y (de_ix (by intro _ _; rfl) (yV (pv 0)) (DE.y yI))) (DE.y (de_ix (by intro _ _; rfl) (yV (pv 1)) (DE.y yI))))) (a1 (DE.y (DO.z (oSl (yV (pv 1)) (p1 yI) p0))) (a1 (yV (pv 2)) a0))))) v0)))))) (DE.y (DO.z (oSl (DE.y (de_ix (by intro _ _; rfl) (yV (pv 0)) (DE.y yI))) (p1 (de_add (DE.y (de_ix (by intro _ _; rfl) (yV (pv 1)) (DE.y yI))) (DE.y yI))) p0))))) v0)))))
    s0))
noncomputable def B_positions_1 : DS → SO := (seqM (exM (valM (appendE 2 (tupM (consV (frzM (e2 (varX 3) (xM (tupM (consV (lockE 6) nilV))) addS)) (consV (e2 (varX 5) (varX 6) ixS) nilV))))))
    nxM)
noncomputable def B_positions_2 : DS → SO := (seqM (asM (gTupS 2 (gConsS (gNameS 3) (gConsS (gNameS 4) gNilS))) (popE 2))
    (seqM (exM (valM (appendE 1 (lockE 3))))
    (seqM (stM 5 (callM M_inner (consA (varX 4) nilA)))
    (seqM (forM (rg3 (consV (e2 (xM (e1 (varX 5) lenS)) (xM (kI 1)) (binI0 fun i j => .int (i - j))) (consV (e1 (xM (kI 1)) fun w => (intS w).map fun i => .int (-i)) (consV (e1 (xM (kI 1)) fun w => (intS w).map fun i => .int (-i)) nilV)))) (gNameS 6)
    B_positions_1)
    nxM))))
noncomputable def M_positions : FM := runF 1 7 [0] ((seqM (stM 1 (lstM nilV))
    (seqM (stM 2 (lstM (consV (tupM (consV (tupM nilV) (consV (lockE 0) nilV))) nilV)))
    (seqM (whileS (e1 (varX 2) truS)
    B_positions_2)
    (seqM (rtM (takeO 1))
    nxM)))))
theorem D_positions (Y : Fc K mg C_LimitError C_StepError C_TertiumError C_TextError) : DFn P w K mg base 3 "positions" 1 M_positions := dfn_of Y.f_positions sc_positions rfl (by decide) fun f cdv A outer s H E hr =>
    (s1 (sS (i := 1) sc_positions.nd rfl (by first | exact Or.inl rfl | exact Or.inr rfl) (oL v0) (by decide))
    (s1 (sS (i := 2) sc_positions.nd rfl (by first | exact Or.inl rfl | exact Or.inr rfl) (oL (v1 (yU (v1 (yU v0) (v1 (yL (pv 0)) v0))) v0)) (by decide))
    (s1 (ds_while (passes_of rfl) (dt_tr (yV (pv 2)))
    (s1 (sA (de_pop (pv 2)) (dg_tup rfl (dgs_cons (dg_name (i := 3) sc_positions.nd rfl (by first | exact Or.inl rfl | exact Or.inr rfl) (by decide)) (dgs_cons (dg_name (i := 4) sc_positions.nd rfl (by first | exact Or.inl rfl | exact Or.inr rfl) (by decide)) dgs_nil))))
    (s1 (sE (DE.o (de_append (pv 1) (yL (pv 3)))))
    (s1 (sS (i := 5) sc_positions.nd rfl (by first | exact Or.inl rfl | exact Or.inr rfl) (do_call (D_inner Y) (hr.mono (by decide)) rfl (a1 (yV (pv 4)) a0)) (by decide))
    (s1 (sF (passes_of rfl) rfl (iR3 Y.T rfl (v1 (de_sub (DE.y (de_len Y.T rfl (yV (pv 5)))) (DE.y yI)) (v1 (de_neg (DE.y yI)) (v1 (de_neg (DE.y yI)) v0)))) (dg_name (i := 6) sc_positions.nd rfl (by first | exact Or.inl rfl | exact Or.inr rfl) (by decide))
    (s1 (sE (DE.o (de_append (pv 2) (yU (v1 (DO.z (do_add (yV (pv 3)) (DE.y (yU (v1 (yL (pv 6)) v0))))) (v1 (de_ix (by intro _ _; rfl) (yV (pv 5)) (yV (pv 6))) v0))))))
    s0))
    s0)))))
    (s1 (sR (yT (pv 1)))
    s0))))
noncomputable def C__law_depth_1 (R : FM) : DS → ER Py := (frzM (callM R (consA (varX 1) nilA)))
noncomputable def M__law_depth : Nat → FM
  | 0 => fun _ => .stuck
  | n + 1 => runF 1 2 [0] ((seqM (ifM (eT (e1 (varX 0) fun w => (isiS .str w).map .bl))
    (seqM (rtM (valM (kI 1)))
    nxM)
    nxM)
    (seqM (rtM (valM (e2 (xM (kI 1)) (xM (e1 (xM (frzM (e2 (xM (frzM (lstM (consV (kI 0) nilV)))) (xM (frzM (lcM (sqI (e2 (varX 0) (xM (kI 1)) ixS)) (gNameS 1) yesT (C__law_depth_1 (M__law_depth n)) [1]))) addS))) maxS)) (binI0 fun i j => .int (i + j)))))
    nxM)))
theorem D__law_depth (Y : Fc K mg C_LimitError C_StepError C_TertiumError C_TextError) : ∀ n : Nat, DFn P w K mg base (0 + n + 1) "_law_depth" 1 (M__law_depth n)
  | 0 => dfn_no Y.f__law_depth sc__law_depth rfl
  | n + 1 => dfn_of Y.f__law_depth sc__law_depth rfl (by decide) fun f cdv A outer s H E hr =>
    (s1 (sI (tBe (de_isi .str Y.T rfl rfl (yV (pv 0))))
    (s1 (sR (DE.o yI))
    s0)
    s0)
    (s1 (sR (DE.o (de_add (DE.y yI) (DE.y (de_max rfl Y.T rfl (DE.y (DO.z (do_add (DE.y (DO.z (oL (v1 yI v0)))) (DE.y (DO.z (do_lc (pn := []) (own := [((PySem.Str.ofString "part"), 1)]) rfl sc__law_depth.nd (iS (de_ix (by intro _ _; rfl) (yV (pv 0)) (DE.y yI))) (blkOk_by (N := ["t", "part"]) (sc := (defScope st__law_depth)) (by decide +kernel)) (fun _ _ _ _ _ => (dg_name (i := 1) sc__law_depth.nd rfl (by first | exact Or.inl rfl | exact Or.inr rfl) (by decide))) (fun _ _ _ _ _ => q0) (fun _ _ _ _ _ => (DO.z (do_call (D__law_depth Y n) (hr.mono (by omega)) rfl (a1 (yV (pv 1)) a0)))))))))))))))
    s0))
noncomputable def Q_variables_1 : DS → ER Bool := (e1 (xM (frzM (callM M_is_variable (consA (varX 1) nilA)))) truS)
noncomputable def C_variables_2 : DS → ER Py := (lockE 1)
noncomputable def C_variables_3 : DS → ER Py := (kB true)
noncomputable def M_variables : FM := runF 1 2 [0] ((seqM (rtM (valM (e1 (xM (frzM (dcM (fun d => (pkK d).isSome) (sqI (frzM (callM M_parts (consA (varX 0) nilA)))) (gNameS 1) Q_variables_1 C_variables_2 C_variables_3 [1]))) tupS)))
    nxM))
theorem D_variables (Y : Fc K mg C_LimitError C_StepError C_TertiumError C_TextError) : DFn P w K mg base 4 "variables" 1 M_variables := dfn_of Y.f_variables sc_variables rfl (by decide) fun f cdv A outer s H E hr =>
    (s1 (sR (DE.o (de_tup1 rfl Y.T rfl (DE.y (DO.z (do_dc (pn := []) (own := [((PySem.Str.ofString "one"), 1)]) daccK (hu_of hr) rfl sc_variables.nd (iS (DO.z (do_call (D_parts Y) (hr.mono (by decide)) rfl (a1 (yV (pv 0)) a0)))) (blkOk_by (N := ["t", "one"]) (sc := (defScope st_variables)) (by decide +kernel)) (fun _ _ _ _ _ => (dg_name (i := 1) sc_variables.nd rfl (by first | exact Or.inl rfl | exact Or.inr rfl) (by decide))) (fun _ _ _ _ _ => (dts_one (dt_tr (DE.y (DO.z (do_call (D_is_variable Y) (hr.mono (by decide)) rfl (a1 (yV (pv 1)) a0))))))) (fun _ _ _ _ _ => (yL (pv 1))) (fun _ _ _ _ _ => yB)))))))
    s0)
noncomputable def Q_symbols_1 : DS → ER Bool := (notT (e1 (xM (frzM (callM M_is_variable (consA (varX 1) nilA)))) truS))
noncomputable def C_symbols_2 : DS → ER Py := (tupM (consV (e2 (varX 1) (xM (kI 0)) ixS) (consV (e1 (xM (e2 (varX 1) (xM (kI 1)) ixS)) lenS) nilV)))
noncomputable def C_symbols_3 : DS → ER Py := (kB true)
noncomputable def M_symbols : FM := runF 1 2 [0] ((seqM (rtM (valM (e1 (xM (frzM (dcM (fun d => (pkT d).isSome) (sqI (frzM (callM M_parts (consA (varX 0) nilA)))) (gNameS 1) Q_symbols_1 C_symbols_2 C_symbols_3 [1]))) tupS)))
    nxM))
theorem D_symbols (Y : Fc K mg C_LimitError C_StepError C_TertiumError C_TextError) : DFn P w K mg base 4 "symbols" 1 M_symbols := dfn_of Y.f_symbols sc_symbols rfl (by decide) fun f cdv A outer s H E hr =>
    (s1 (sR (DE.o (de_tup1 rfl Y.T rfl (DE.y (DO.z (do_dc (pn := []) (own := [((PySem.Str.ofString "one"), 1)]) daccT (hu_of hr) rfl sc_symbols.nd (iS (DO.z (do_call (D_parts Y) (hr.mono (by decide)) rfl (a1 (yV (pv 0)) a0)))) (blkOk_by (N := ["t", "one"]) (sc := (defScope st_symbols)) (by decide +kernel)) (fun _ _ _ _ _ => (dg_name (i := 1) sc_symbols.nd rfl (by first | exact Or.inl rfl | exact Or.inr rfl) (by decide))) (fun _ _ _ _ _ => (dts_one (tN (dt_tr (DE.y (DO.z (do_call (D_is_variable Y) (hr.mono (by decide)) rfl (a1 (yV (pv 1)) a0)))))))) (fun _ _ _ _ _ => (yU (v1 (de_ix (by intro _ _; rfl) (yV (pv 1)) (DE.y yI)) (v1 (de_len Y.T rfl (DE.y (de_ix (by intro _ _; rfl) (yV (pv 1)) (DE.y yI)))) v0)))) (fun _ _ _ _ _ => yB)))))))
    s0)
noncomputable def B__law_names_1 : DS → SO := (seqM (stM 3 (callM M__law_at (consA (varX 0) (consA (varX 2) nilA))))
    (seqM (ifM (andT (eT (e1 (varX 3) fun w => (isiS .str w).map .bl)) (eT (e2 (varX 3) (varX 1) fun x y => (inS x y).map fun k => .bl (!k))))
    (seqM (exM (valM (appendE 1 (lockE 3))))
    nxM)
    nxM)
    nxM))
noncomputable def M__law_names : FM := runF 1 4 [0] ((seqM (stM 1 (lstM nilV))
    (seqM (forM (sqI (frzM (callM (M__law_places 12) (consA (varX 0) nilA)))) (gNameS 2)
    B__law_names_1)
    (seqM (rtM (valM (e1 (varX 1) tupS)))
    nxM))))
theorem D__law_names (Y : Fc K mg C_LimitError C_StepError C_TertiumError C_TextError) : DFn P w K mg base 14 "_law_names" 1 M__law_names := dfn_of Y.f__law_names sc__law_names rfl (by decide) fun f cdv A outer s H E hr =>
    (s1 (sS (i := 1) sc__law_names.nd rfl (by first | exact Or.inl rfl | exact Or.inr rfl) (oL v0) (by decide))
    (s1 (sF (passes_of rfl) rfl (iS (DO.z (do_call (D__law_places Y 12) (hr.mono (by decide)) rfl (a1 (yV (pv 0)) a0)))) (dg_name (i := 2) sc__law_names.nd rfl (by first | exact Or.inl rfl | exact Or.inr rfl) (by decide))
    (s1 (sS (i := 3) sc__law_names.nd rfl (by first | exact Or.inl rfl | exact Or.inr rfl) (do_call (D__law_at Y) (hr.mono (by decide)) rfl (a1 (yV (pv 0)) (a1 (yV (pv 2)) a0))) (by decide))
    (s1 (sI (DW.t (wA (tBe (de_isi .str Y.T rfl rfl (yV (pv 3)))) (dw_and1 (dt_notIn (hu65 hr) (by rfl) (yV (pv 3)) (yV (pv 1))))))
    (s1 (sE (DE.o (de_append (pv 1) (yL (pv 3)))))
    s0)
    s0)
    s0)))
    (s1 (sR (DE.o (de_tup1 rfl Y.T rfl (yV (pv 1)))))
    s0)))
noncomputable def B_law_1 : DS → SO := (seqM (stM 9 (valM (frzM (callM M__law_at (consA (varX 4) (consA (varX 8) nilA))))))
    (seqM (ifM (andT (eT (e1 (varX 9) fun w => (isiS .tuple w).map .bl)) (eT (e2 (xM (tupM (consV (e2 (varX 9) (xM (kI 0)) ixS) (consV (e1 (xM (e2 (varX 9) (xM (kI 1)) ixS)) lenS) nilV)))) (varX 7) fun x y => (inS x y).map fun k => .bl (!k))))
    (seqM (exM (valM (appendE 7 (tupM (consV (e2 (varX 9) (xM (kI 0)) ixS) (consV (e1 (xM (e2 (varX 9) (xM (kI 1)) ixS)) lenS) nilV))))))
    nxM)
    nxM)
    nxM))
noncomputable def B_law_2 : DS → SO := (seqM (ifM (eT (e1 (xM (frzM (callM M__law_at (consA (varX 4) (consA (varX 8) nilA))))) fun w => some (.bl (isNonS w))))
    (seqM (rtM (callM (M__law_same 60) (consA (xM (frzM (callM M__law_told (consA (varX 4) (consA (varX 8) (consA (varX 5) nilA)))))) (consA (xM (frzM (lstM (consV (frzM (lstM (consV (kS (PySem.Str.ofString "refused")) (consV (kB true) nilV)))) (consV (frzM (lstM (consV (kS (PySem.Str.ofString "refused")) (consV (kB true) nilV)))) nilV))))) nilA))))
    nxM)
    nxM)
    (seqM (rtM (callM (M__law_same 60) (consA (xM (frzM (callM M__law_told (consA (varX 4) (consA (varX 8) (consA (varX 5) nilA)))))) (consA (xM (frzM (lstM (consV (frzM (callM M__law_at (consA (varX 4) (consA (varX 8) nilA)))) (consV (frzM (callM (M__law_put 12) (consA (varX 4) (consA (varX 8) (consA (varX 5) nilA))))) nilV))))) nilA))))
    nxM))
noncomputable def B_law_3 : DS → SO := (seqM (stM 8 (valM (e2 (varX 6) (xM (frzM (callM M__law_take (consA (varX 1) (consA (xM (e1 (varX 6) lenS)) nilA))))) ixS)))
    (seqM (ifM (eT (e2 (xM (frzM (callM M__law_take (consA (varX 1) (consA (xM (kI 2)) nilA))))) (xM (kI 0)) fun x y => (eqS x y).map .bl))
    (seqM (stM 10 (callM M__law_take (consA (varX 1) (consA (xM (e2 (xM (e1 (varX 8) lenS)) (xM (kI 1)) (binI0 fun i j => .int (i + j)))) nilA))))
    (seqM (stM 8 (e2 (xM (frzM (e2 (xM (frzM (slM (varX 8) pN (pS (lockE 10))))) (xM (tupM (consV (e2 (xM (frzM (lstM (consV (kI 0) (consV (kI 1) (consV (kI 3) (consV (e2 (xM (kI 0)) (xM (kI 1)) (binI0 fun i j => .int (i - j))) (consV (e2 (xM (kI 0)) (xM (kI 2)) (binI0 fun i j => .int (i - j))) nilV)))))))) (xM (frzM (callM M__law_take (consA (varX 1) (consA (xM (kI 5)) nilA))))) ixS) nilV))) addS))) (xM (frzM (slM (varX 8) (pS (e2 (varX 10) (xM (frzM (callM M__law_take (consA (varX 1) (consA (xM (kI 2)) nilA))))) (binI0 fun i j => .int (i + j)))) pN))) addS))
    nxM))
    nxM)
    B_law_2))
noncomputable def B_law_4 : DS → SO := (seqM (ifM (notT (e1 (xM (frzM (callM (M__law_same 60) (consA (xM (frzM (lstM (consV (frzM (callM M_size (consA (varX 4) nilA))) (consV (frzM (callM M_depth (consA (varX 4) nilA))) (consV (frzM (callM M_positions (consA (varX 4) nilA))) nilV)))))) (consA (xM (frzM (lstM (consV (e1 (varX 6) lenS) (consV (frzM (callM (M__law_depth 12) (consA (varX 4) nilA))) (consV (lockE 6) nilV)))))) nilA))))) truS))
    (seqM (rtM (valM (kB false)))
    nxM)
    nxM)
    (seqM (ifM (notT (e1 (xM (frzM (callM (M__law_same 60) (consA (xM (frzM (lstM (consV (frzM (callM M_variables (consA (varX 4) nilA))) (consV (frzM (callM M_symbols (consA (varX 4) nilA))) nilV))))) (consA (xM (frzM (lstM (consV (frzM (callM M__law_names (consA (varX 4) nilA))) (consV (e1 (varX 7) tupS) nilV))))) nilA))))) truS))
    (seqM (rtM (valM (kB false)))
    nxM)
    nxM)
    B_law_3))
noncomputable def B_law_5 : DS → SO := (seqM (stM 6 (valM (frzM (callM (M__law_places 12) (consA (varX 4) nilA)))))
    (seqM (stM 7 (lstM nilV))
    (seqM (forM (sqI (lockE 6)) (gNameS 8)
    B_law_1)
    B_law_4)))
noncomputable def B_law_6 : DS → SO := (seqM (stM 4 (valM (frzM (callM (M__law_term 8) (consA (varX 1) (consA (varX 2) (consA (varX 3) (consA (xM (kI 5)) nilA))))))))
    (seqM (setLS 1 (kI 8) (kI 4))
    (seqM (stM 5 (valM (frzM (callM (M__law_term 8) (consA (varX 1) (consA (varX 2) (consA (varX 3) (consA (xM (kI 3)) nilA))))))))
    B_law_5)))
noncomputable def M_law : FM := runF 1 11 [0] ((seqM (stM 1 (callM M__law_start (consA (varX 0) nilA)))
    (seqM (stM 2 (valM (frzM (callM M__law_signature (consA (varX 1) nilA)))))
    (seqM (stM 3 (valM (frzM (slM (xM (frzM (lstM (consV (kS (PySem.Str.ofString "x")) (consV (kS (PySem.Str.ofString "y")) (consV (kS (PySem.Str.ofString "z")) (consV (kS (PySem.Str.ofString "u1")) nilV))))))) pN (pS (frzM (callM M__law_take (consA (varX 1) (consA (xM (kI 5)) nilA)))))))))
    B_law_6))))
theorem D_law (Y : Fc K mg C_LimitError C_StepError C_TertiumError C_TextError) {f : Addr} {fd : FuncData} (F : Fun K "law" "law" st_law f fd) : FnOk P w K mg base (L2.CX P w) 62 f fd ["script"] (spD mg K 1 M_law) := fnok_mk F sc_law rfl (by decide) fun cdv A outer s H E hr =>
    (s1 (sS (i := 1) sc_law.nd rfl (by first | exact Or.inl rfl | exact Or.inr rfl) (do_call (D__law_start Y) (hr.mono (by decide)) rfl (a1 (yV (pv 0)) a0)) (by decide))
    (s1 (sS (i := 2) sc_law.nd rfl (by first | exact Or.inl rfl | exact Or.inr rfl) (DE.o (DO.z (do_call (D__law_signature Y) (hr.mono (by decide)) rfl (a1 (yV (pv 1)) a0)))) (by decide))
    (s1 (sS (i := 3) sc_law.nd rfl (by first | exact Or.inl rfl | exact Or.inr rfl) (DE.o (DO.z (oSl (DE.y (DO.z (oL (v1 yS (v1 yS (v1 yS (v1 yS v0))))))) p0 (p1 (DO.z (do_call (D__law_take Y) (hr.mono (by decide)) rfl (a1 (yV (pv 1)) (a1 (DE.y yI) a0)))))))) (by decide))
    (s1 (sS (i := 4) sc_law.nd rfl (by first | exact Or.inl rfl | exact Or.inr rfl) (DE.o (DO.z (do_call (D__law_term Y 8) (hr.mono (by decide)) rfl (a1 (yV (pv 1)) (a1 (yV (pv 2)) (a1 (yV (pv 3)) (a1 (DE.y yI) a0))))))) (by decide))
    (s1 (ds_setL (pv 1) yI yI)
    (s1 (sS (i := 5) sc_law.nd rfl (by first | exact Or.inl rfl | exact Or.inr rfl) (DE.o (DO.z (do_call (D__law_term Y 8) (hr.mono (by decide)) rfl (a1 (yV (pv 1)) (a1 (yV (pv 2)) (a1 (yV (pv 3)) (a1 (DE.y yI) a0))))))) (by decide))
    (s1 (sS (i := 6) sc_law.nd rfl (by first | exact Or.inl rfl | exact Or.inr rfl) (DE.o (DO.z (do_call (D__law_places Y 12) (hr.mono (by decide)) rfl (a1 (yV (pv 4)) a0)))) (by decide))
    (s1 (sS (i := 7) sc_law.nd rfl (by first | exact Or.inl rfl | exact Or.inr rfl) (oL v0) (by decide))
    (s1 (sF (passes_of rfl) rfl (iS (yL (pv 6))) (dg_name (i := 8) sc_law.nd rfl (by first | exact Or.inl rfl | exact Or.inr rfl) (by decide))
    (s1 (sS (i := 9) sc_law.nd rfl (by first | exact Or.inl rfl | exact Or.inr rfl) (DE.o (DO.z (do_call (D__law_at Y) (hr.mono (by decide)) rfl (a1 (yV (pv 4)) (a1 (yV (pv 8)) a0))))) (by decide))
    (s1 (sI (DW.t (wA (tBe (de_isi .tuple Y.T rfl rfl (yV (pv 9)))) (dw_and1 (dt_notIn (hu65 hr) (by rfl) (DE.y (yU (v1 (de_ix (by intro _ _; rfl) (yV (pv 9)) (DE.y yI)) (v1 (de_len Y.T rfl (DE.y (de_ix (by intro _ _; rfl) (yV (pv 9)) (DE.y yI)))) v0)))) (yV (pv 7))))))
    (s1 (sE (DE.o (de_append (pv 7) (yU (v1 (de_ix (by intro _ _; rfl) (yV (pv 9)) (DE.y yI)) (v1 (de_len Y.T rfl (DE.y (de_ix (by intro _ _; rfl) (yV (pv 9)) (DE.y yI)))) v0))))))
    s0)
    s0)
    s0)))
    (s1 (sI (tN (dt_tr (DE.y (DO.z (do_call (D__law_same Y 60) (hr.mono (by decide)) rfl (a1 (DE.y (DO.z (oL (v1 (DO.z (do_call (D_size Y) (hr.mono (by decide)) rfl (a1 (yV (pv 4)) a0))) (v1 (DO.z (do_call (D_depth Y) (hr.mono (by decide)) rfl (a1 (yV (pv 4)) a0))) (v1 (DO.z (do_call (D_positions Y) (hr.mono (by decide)) rfl (a1 (yV (pv 4)) a0))) v0)))))) (a1 (DE.y (DO.z (oL (v1 (de_len Y.T rfl (yV (pv 6))) (v1 (DO.z (do_call (D__law_depth Y 12) (hr.mono (by decide)) rfl (a1 (yV (pv 4)) a0))) (v1 (yL (pv 6)) v0)))))) a0)))))))
    (s1 (sR (DE.o yB))
    s0)
    s0)
    (s1 (sI (tN (dt_tr (DE.y (DO.z (do_call (D__law_same Y 60) (hr.mono (by decide)) rfl (a1 (DE.y (DO.z (oL (v1 (DO.z (do_call (D_variables Y) (hr.mono (by decide)) rfl (a1 (yV (pv 4)) a0))) (v1 (DO.z (do_call (D_symbols Y) (hr.mono (by decide)) rfl (a1 (yV (pv 4)) a0))) v0))))) (a1 (DE.y (DO.z (oL (v1 (DO.z (do_call (D__law_names Y) (hr.mono (by decide)) rfl (a1 (yV (pv 4)) a0))) (v1 (de_tup1 rfl Y.T rfl (yV (pv 7))) v0))))) a0)))))))
    (s1 (sR (DE.o yB))
    s0)
    s0)
    (s1 (sS (i := 8) sc_law.nd rfl (by first | exact Or.inl rfl | exact Or.inr rfl) (DE.o (de_ix (by intro _ _; rfl) (yV (pv 6)) (DE.y (DO.z (do_call (D__law_take Y) (hr.mono (by decide)) rfl (a1 (yV (pv 1)) (a1 (DE.y (de_len Y.T rfl (yV (pv 6)))) a0))))))) (by decide))
    (s1 (sI (dt_eq hr.units (DE.y (DO.z (do_call (D__law_take Y) (hr.mono (by decide)) rfl (a1 (yV (pv 1)) (a1 (DE.y yI) a0))))) (DE.y yI))
    (s1 (sS (i := 10) sc_law.nd rfl (by first | exact Or.inl rfl | exact Or.inr rfl) (do_call (D__law_take Y) (hr.mono (by decide)) rfl (a1 (yV (pv 1)) (a1 (DE.y (de_add (DE.y (de_len Y.T rfl (yV (pv 8)))) (DE.y yI))) a0))) (by decide))
    (s1 (sS (i := 8) sc_law.nd rfl (by first | exact Or.inl rfl | exact Or.inr rfl) (do_add (DE.y (DO.z (do_add (DE.y (DO.z (oSl (yV (pv 8)) p0 (p1 (yL (pv 10)))))) (DE.y (yU (v1 (de_ix (by intro _ _; rfl) (DE.y (DO.z (oL (v1 yI (v1 yI (v1 yI (v1 (de_sub (DE.y yI) (DE.y yI)) (v1 (de_sub (DE.y yI) (DE.y yI)) v0)))))))) (DE.y (DO.z (do_call (D__law_take Y) (hr.mono (by decide)) rfl (a1 (yV (pv 1)) (a1 (DE.y yI) a0)))))) v0)))))) (DE.y (DO.z (oSl (yV (pv 8)) (p1 (de_add (yV (pv 10)) (DE.y (DO.z (do_call (D__law_take Y) (hr.mono (by decide)) rfl (a1 (yV (pv 1)) (a1 (DE.y yI) a0))))))) p0)))) (by decide))
    s0))
    s0)
    (s1 (sI (dt_isN (DE.y (DO.z (do_call (D__law_at Y) (hr.mono (by decide)) rfl (a1 (yV (pv 4)) (a1 (yV (pv 8)) a0))))))
    (s1 (sR (do_call (D__law_same Y 60) (hr.mono (by decide)) rfl (a1 (DE.y (DO.z (do_call (D__law_told Y) (hr.mono (by decide)) rfl (a1 (yV (pv 4)) (a1 (yV (pv 8)) (a1 (yV (pv 5)) a0)))))) (a1 (DE.y (DO.z (oL (v1 (DO.z (oL (v1 yS (v1 yB v0)))) (v1 (DO.z (oL (v1 yS (v1 yB v0)))) v0))))) a0))))
    s0)
    s0)
    (s1 (sR (do_call (D__law_same Y 60) (hr.mono (by decide)) rfl (a1 (DE.y (DO.z (do_call (D__law_told Y) (hr.mono (by decide)) rfl (a1 (yV (pv 4)) (a1 (yV (pv 8)) (a1 (yV (pv 5)) a0)))))) (a1 (DE.y (DO.z (oL (v1 (DO.z (do_call (D__law_at Y) (hr.mono (by decide)) rfl (a1 (yV (pv 4)) (a1 (yV (pv 8)) a0)))) (v1 (DO.z (do_call (D__law_put Y 12) (hr.mono (by decide)) rfl (a1 (yV (pv 4)) (a1 (yV (pv 8)) (a1 (yV (pv 5)) a0))))) v0))))) a0))))
    s0)))))))))))))))
end
end K01

/-! ## S1 -/
namespace K01
open PySem L2 DL
def cst (ns : List Int) (i : Nat) (r k b : Int) : List Py := [.lst (ns.map .int), .int i, .int r, .int k, .int b]
theorem fill_ok (ns : List Int) (i : Nat) (r k b : Int) : ∃ n j, M__law_fill [.lst (cst ns i r k b)] = .ret (.val (.int n)) [some (.lst (cst ns j r (k+1) b))] := by
  unfold M__law_fill
  rw [runF_eq]
  have ej0 : ∃ x : Nat, (i : Int) = x := ⟨i, rfl⟩
  by_cases hn : ns = []
  · subst hn
    have hi : ¬ (i : Int) < 0 := by omega
    simp [varX, takeO, lockE, lstAt, cst, hi, ej0]
  have e : ∃ z, (ns.map Py.int).getLast? = some (.int z) := by
    rw [List.getLast?_map]
    cases e : ns.getLast? with
    | none => exact absurd (List.getLast?_eq_none_iff.mp e) hn
    | some z => exact ⟨z, rfl⟩
  obtain ⟨z, e⟩ := e
  have e := atI_last e
  have ej : ∃ x : Nat, (i : Int) + 1 = x := ⟨i + 1, rfl⟩
  by_cases h : i < ns.length
  · have e1 : atI (ns.map Py.int) (i : Int) = some (.int ns[i]) := by rw [atI_nat (by simpa using h)]; simp
    by_cases h2 : (ns.length : Int) ≤ (i : Int) + 1
    · simp [varX, takeO, lockE, lstAt, cst, h, e1, hn]
      repeat' split
      all_goals simp [varX, takeO, lockE, lstAt, cst, h, hn, e, h2, ej]
      all_goals repeat' split
      all_goals simp [varX, takeO, lockE, lstAt, cst, h, hn, e, h2, ej]
    · simp [varX, takeO, lockE, lstAt, cst, h, e1, hn]
      repeat' split
      all_goals simp [varX, takeO, lockE, lstAt, cst, h, hn, e, h2, ej]
      all_goals repeat' split
      all_goals simp [varX, takeO, lockE, lstAt, cst, h, hn, e, h2, ej]
  · simp [varX, takeO, lockE, lstAt, cst, h, hn, e, Nat.le_of_not_lt h, ej0]
def CS (b : Int) (c : List Py) : Prop := ∃ ns i r k, c = cst ns i r k b
theorem take_ok {b : Int} {c : List Py} (h : CS b c) {m : Int} (h1 : 0 < m) (h2 : m < 1073741824) : ∃ d c', 0 ≤ d ∧ d < m ∧ CS b c' ∧ M__law_take [.lst c, .val (.int m)] = .ret (.val (.int d)) [some (.lst c'), some (.val (.int m))] := by
  obtain ⟨ns, i, r, k, rfl⟩ := h
  obtain ⟨n, j, e⟩ := fill_ok ns i r k b
  unfold M__law_take
  rw [runF_eq]
  unfold cst at e ⊢
  by_cases hr : r < m
  · refine ⟨n % m, cst ns j (n / m) (k + 1) b, Int.emod_nonneg _ (by omega), Int.emod_lt_of_pos _ h1, ⟨_, _, _, _, rfl⟩, ?_⟩
    simp [varX, takeO, lockE, lstAt, takeA_s, e, hr, h1, h2, cst]
  · refine ⟨r % m, cst ns i (r / m) k b, Int.emod_nonneg _ (by omega), Int.emod_lt_of_pos _ h1, ⟨_, _, _, _, rfl⟩, ?_⟩
    simp [varX, takeO, lockE, lstAt, takeA_s, e, hr, h1, h2, cst]
theorem start_ok (ns : List Int) : CS 14 (cst (ns.take 63) 0 0 0 14) ∧ M__law_start [.val (.lst (ns.map .int))] = .ret (.lst (cst (ns.take 63) 0 0 0 14)) [some (.val (.lst (ns.map .int)))] := by
  refine ⟨⟨_, _, _, _, rfl⟩, ?_⟩
  unfold M__law_start
  rw [runF_eq]
  have loop : ∀ (l : List Int) (acc : List Py) (o : Option Sv), acc.length + l.length ≤ 1000 → lcS (gNameS 1) yesT (e1 (varX 1) intOf) [1] (l.map .int) acc [some (.val (.lst (ns.map .int))), none] = .ok (.lst (acc ++ l.map .int)) [some (.val (.lst (ns.map .int))), none] := by
    intro l
    induction l with
    | nil => intro acc o _; simp
    | cons x l ih =>
      intro acc o hl
      rw [List.map_cons, lcS_cons (st1 := [some (.val (.lst (ns.map .int))), some (.val (.int x))]) (by simp)]
      have hz : acc.length < sizeLine := by simp at hl; have : (1000 : Nat) < sizeLine := by decide
                                            omega
      simp [varX, hz]
      rw [ih (acc ++ [Py.int x]) none (by simp at hl ⊢; omega)]
      simp
  have hc : cutP (ns.map Py.int) none (some 63) = (ns.take 63).map .int := by
    simp [cutP, HT.sIx]
  simp [varX, hc, cst]
  rw [← List.map_take, loop _ [] none (by simp; omega)]
  simp
end K01

/-! ## S2 -/
namespace K01
open PySem L2 DL
abbrev Sg := List (Str × Nat)
abbrev sA : Str := PySem.Str.ofString "a"
abbrev sB : Str := PySem.Str.ofString "b"
abbrev sF : Str := PySem.Str.ofString "f"
abbrev sG : Str := PySem.Str.ofString "g"
abbrev sH : Str := PySem.Str.ofString "h"
abbrev sK : Str := PySem.Str.ofString "k"
def sgP (p : Str × Nat) : Py := .tup [.str p.1, .int p.2]
def SigOk (sg : Sg) : Prop := ∃ sb sh sk : Sg, (sb = [] ∨ sb = [(sB, 0)]) ∧ (sh = [] ∨ ∃ m, 1 ≤ m ∧ m ≤ 3 ∧ sh = [(sH, m)]) ∧ (sk = [] ∨ ∃ m, 3 ≤ m ∧ m ≤ 4 ∧ sk = [(sK, m)]) ∧ sg = [(sA, 0), (sF, 1), (sG, 2)] ++ sb ++ sh ++ sk
theorem atI4 {d : Int} (h : 0 ≤ d) (h2 : d < 4) : ∃ m : Nat, 1 ≤ m ∧ m ≤ 3 ∧ atI [Py.int 1, Py.int 1, Py.int 2, Py.int 3] d = some (.int m) := by
  have : d = 0 ∨ d = 1 ∨ d = 2 ∨ d = 3 := by omega
  rcases this with rfl | rfl | rfl | rfl
  · exact ⟨1, by simp, by simp, by simp⟩
  · exact ⟨1, by simp, by simp, by simp⟩
  · exact ⟨2, by simp, by simp, by simp⟩
  · exact ⟨3, by simp, by simp, by simp⟩
theorem sL {n : Nat} (h : n < 1000) : n < sizeLine := Nat.lt_trans h (by decide)
theorem sLe {n : Nat} (h : n < 1000) : n ≤ sizeLine := Nat.le_of_lt (sL h)
theorem sig_ok {b : Int} {c : List Py} (h : CS b c) : ∃ sg c', SigOk sg ∧ CS b c' ∧ M__law_signature [.lst c] = .ret (.lst (sg.map sgP)) [some (.lst c')] := by
  obtain ⟨d1, c1, _, _, h1, q1⟩ := take_ok h (m := 2) (by decide) (by decide)
  obtain ⟨d2, c2, _, _, h2, q2⟩ := take_ok h1 (m := 3) (by decide) (by decide)
  have hz : ∀ n : Nat, n < 1000 → n < sizeLine := fun n h => sL h
  have lz : ∀ n : Nat, n < 1000 → n ≤ sizeLine := fun n h => sLe h
  unfold M__law_signature
  rw [runF_eq]
  by_cases z1 : d1 = 0
  · by_cases z2 : d2 = 0
    · obtain ⟨d3, c3, a3, b3, h3, q3⟩ := take_ok h2 (m := 4) (by decide) (by decide)
      obtain ⟨m, m1, m2, hm⟩ := atI4 a3 b3
      obtain ⟨d5, c5, _, _, h5, q5⟩ := take_ok h3 (m := 4) (by decide) (by decide)
      by_cases z5 : d5 = 0
      · obtain ⟨d6, c6, _, _, h6, q6⟩ := take_ok h5 (m := 3) (by decide) (by decide)
        by_cases z6 : d6 = 0
        · refine ⟨_, c6, ⟨[(sB, 0)], [(sH, m)], [(sK, 4)], .inr rfl, .inr ⟨m, m1, m2, rfl⟩, .inr ⟨4, by decide, by decide, rfl⟩, rfl⟩, h6, ?_⟩
          simp [varX, takeO, lockE, lstAt, takeA_s, sgP, q1, q2, z1, z2, q5, z5, q3, hm, q6, z6, hz, lz]
        · refine ⟨_, c6, ⟨[(sB, 0)], [(sH, m)], [(sK, 3)], .inr rfl, .inr ⟨m, m1, m2, rfl⟩, .inr ⟨3, by decide, by decide, rfl⟩, rfl⟩, h6, ?_⟩
          simp [varX, takeO, lockE, lstAt, takeA_s, sgP, q1, q2, z1, z2, q5, z5, q3, hm, q6, z6, hz, lz]
      · refine ⟨_, c5, ⟨[(sB, 0)], [(sH, m)], [], .inr rfl, .inr ⟨m, m1, m2, rfl⟩, .inl rfl, rfl⟩, h5, ?_⟩
        simp [varX, takeO, lockE, lstAt, takeA_s, sgP, q1, q2, z1, z2, q5, z5, q3, hm, hz, lz]
    · skip
      obtain ⟨d5, c5, _, _, h5, q5⟩ := take_ok h2 (m := 4) (by decide) (by decide)
      by_cases z5 : d5 = 0
      · obtain ⟨d6, c6, _, _, h6, q6⟩ := take_ok h5 (m := 3) (by decide) (by decide)
        by_cases z6 : d6 = 0
        · refine ⟨_, c6, ⟨[(sB, 0)], [], [(sK, 4)], .inr rfl, .inl rfl, .inr ⟨4, by decide, by decide, rfl⟩, rfl⟩, h6, ?_⟩
          simp [varX, takeO, lockE, lstAt, takeA_s, sgP, q1, q2, z1, z2, q5, z5, q6, z6, hz, lz]
        · refine ⟨_, c6, ⟨[(sB, 0)], [], [(sK, 3)], .inr rfl, .inl rfl, .inr ⟨3, by decide, by decide, rfl⟩, rfl⟩, h6, ?_⟩
          simp [varX, takeO, lockE, lstAt, takeA_s, sgP, q1, q2, z1, z2, q5, z5, q6, z6, hz, lz]
      · refine ⟨_, c5, ⟨[(sB, 0)], [], [], .inr rfl, .inl rfl, .inl rfl, rfl⟩, h5, ?_⟩
        simp [varX, takeO, lockE, lstAt, takeA_s, sgP, q1, q2, z1, z2, q5, z5, hz, lz]
  · by_cases z2 : d2 = 0
    · obtain ⟨d3, c3, a3, b3, h3, q3⟩ := take_ok h2 (m := 4) (by decide) (by decide)
      obtain ⟨m, m1, m2, hm⟩ := atI4 a3 b3
      obtain ⟨d5, c5, _, _, h5, q5⟩ := take_ok h3 (m := 4) (by decide) (by decide)
      by_cases z5 : d5 = 0
      · obtain ⟨d6, c6, _, _, h6, q6⟩ := take_ok h5 (m := 3) (by decide) (by decide)
        by_cases z6 : d6 = 0
        · refine ⟨_, c6, ⟨[], [(sH, m)], [(sK, 4)], .inl rfl, .inr ⟨m, m1, m2, rfl⟩, .inr ⟨4, by decide, by decide, rfl⟩, rfl⟩, h6, ?_⟩
          simp [varX, takeO, lockE, lstAt, takeA_s, sgP, q1, q2, z1, z2, q5, z5, q3, hm, q6, z6, hz, lz]
        · refine ⟨_, c6, ⟨[], [(sH, m)], [(sK, 3)], .inl rfl, .inr ⟨m, m1, m2, rfl⟩, .inr ⟨3, by decide, by decide, rfl⟩, rfl⟩, h6, ?_⟩
          simp [varX, takeO, lockE, lstAt, takeA_s, sgP, q1, q2, z1, z2, q5, z5, q3, hm, q6, z6, hz, lz]
      · refine ⟨_, c5, ⟨[], [(sH, m)], [], .inl rfl, .inr ⟨m, m1, m2, rfl⟩, .inl rfl, rfl⟩, h5, ?_⟩
        simp [varX, takeO, lockE, lstAt, takeA_s, sgP, q1, q2, z1, z2, q5, z5, q3, hm, hz, lz]
    · skip
      obtain ⟨d5, c5, _, _, h5, q5⟩ := take_ok h2 (m := 4) (by decide) (by decide)
      by_cases z5 : d5 = 0
      · obtain ⟨d6, c6, _, _, h6, q6⟩ := take_ok h5 (m := 3) (by decide) (by decide)
        by_cases z6 : d6 = 0
        · refine ⟨_, c6, ⟨[], [], [(sK, 4)], .inl rfl, .inl rfl, .inr ⟨4, by decide, by decide, rfl⟩, rfl⟩, h6, ?_⟩
          simp [varX, takeO, lockE, lstAt, takeA_s, sgP, q1, q2, z1, z2, q5, z5, q6, z6, hz, lz]
        · refine ⟨_, c6, ⟨[], [], [(sK, 3)], .inl rfl, .inl rfl, .inr ⟨3, by decide, by decide, rfl⟩, rfl⟩, h6, ?_⟩
          simp [varX, takeO, lockE, lstAt, takeA_s, sgP, q1, q2, z1, z2, q5, z5, q6, z6, hz, lz]
      · refine ⟨_, c5, ⟨[], [], [], .inl rfl, .inl rfl, .inl rfl, rfl⟩, h5, ?_⟩
        simp [varX, takeO, lockE, lstAt, takeA_s, sgP, q1, q2, z1, z2, q5, z5, hz, lz]
end K01

/-! ## S3 -/
namespace K01
open PySem L2 DL
/-! ### terms -/
inductive Tm where
  | v (x : Str) | f (n : Str) (ts : List Tm)
mutual
def Tm.py : Tm → Py
  | .v x => .str x
  | .f n ts => .tup [.str n, .tup (pys ts)]
def pys : List Tm → List Py
  | [] => []
  | t :: ts => t.py :: pys ts
end
theorem pys_eq : ∀ ts : List Tm, pys ts = ts.map Tm.py
  | [] => rfl
  | t :: ts => by rw [pys, pys_eq ts]; rfl
theorem py_f (n : Str) (ts : List Tm) : (Tm.f n ts).py = .tup [.str n, .tup (ts.map Tm.py)] := by rw [Tm.py, pys_eq]
theorem py_v (x : Str) : (Tm.v x).py = .str x := by rw [Tm.py]
mutual
def Tm.sz : Tm → Nat
  | .v _ => 1
  | .f _ ts => 1 + szs ts
def szs : List Tm → Nat
  | [] => 0
  | t :: ts => t.sz + szs ts
end
mutual
def Tm.dp : Tm → Nat
  | .v _ => 1
  | .f _ ts => 1 + dps ts
def dps : List Tm → Nat
  | [] => 0
  | t :: ts => max t.dp (dps ts)
end
mutual
def Tm.ins : Tm → Nat
  | .v _ => 0
  | .f _ ts => (if ts.isEmpty then 0 else 1) + inss ts
def inss : List Tm → Nat
  | [] => 0
  | t :: ts => t.ins + inss ts
end
inductive TIn (sg : Sg) (vs : List Str) : Tm → Prop
  | v {x : Str} : x ∈ vs → TIn sg vs (.v x)
  | f {n : Str} {ts : List Tm} : (n, ts.length) ∈ sg → (∀ t ∈ ts, TIn sg vs t) → TIn sg vs (.f n ts)
theorem dps_le {k : Nat} : ∀ {ts : List Tm}, (∀ t ∈ ts, t.dp ≤ k) → dps ts ≤ k
  | [], _ => Nat.zero_le _
  | t :: ts, h => by
    rw [dps]
    exact Nat.max_le.mpr ⟨h t List.mem_cons_self, dps_le fun t ht => h t (List.mem_cons_of_mem _ ht)⟩
theorem inss_append : ∀ (a b : List Tm), inss (a ++ b) = inss a + inss b
  | [], b => by simp [inss]
  | t :: a, b => by rw [List.cons_append, inss, inss, inss_append a b, Nat.add_assoc]
theorem szs_append : ∀ (a b : List Tm), szs (a ++ b) = szs a + szs b
  | [], b => by simp [szs]
  | t :: a, b => by rw [List.cons_append, szs, szs, szs_append a b, Nat.add_assoc]
structure SgFit (sg : Sg) : Prop where
  len : sg.length ≤ 6
  zero : (sA, 0) ∈ sg
  ar : ∀ p ∈ sg, p.2 ≤ 4
  ok : ∀ p ∈ sg, PyData.strOk p.1 = true
theorem SigOk.fit {sg : Sg} (h : SigOk sg) : SgFit sg := by
  obtain ⟨sb, sh, sk, hb, hh, hk, rfl⟩ := h
  refine ⟨?_, by simp, fun p hp => ?_, fun p hp => ?_⟩
  · rcases hb with rfl | rfl <;> rcases hh with rfl | ⟨m, _, _, rfl⟩ <;> rcases hk with rfl | ⟨m, _, _, rfl⟩ <;> simp
  · simp only [List.mem_append, List.mem_cons, List.not_mem_nil, or_false] at hp
    rcases hp with ((hp | hp) | hp) | hp
    · rcases hp with rfl | rfl | rfl <;> simp
    · rcases hb with rfl | rfl
      · cases hp
      · simp only [List.mem_cons, List.not_mem_nil, or_false] at hp; subst hp; simp
    · rcases hh with rfl | ⟨m, _, _, rfl⟩
      · cases hp
      · simp only [List.mem_cons, List.not_mem_nil, or_false] at hp; subst hp; simp; omega
    · rcases hk with rfl | ⟨m, _, _, rfl⟩
      · cases hp
      · simp only [List.mem_cons, List.not_mem_nil, or_false] at hp; subst hp; simp; omega
  · simp only [List.mem_append, List.mem_cons, List.not_mem_nil, or_false] at hp
    rcases hp with ((hp | hp) | hp) | hp
    · rcases hp with rfl | rfl | rfl <;> decide +kernel
    · rcases hb with rfl | rfl
      · cases hp
      · simp only [List.mem_cons, List.not_mem_nil, or_false] at hp; subst hp; show PyData.strOk sB = true; decide +kernel
    · rcases hh with rfl | ⟨m, _, _, rfl⟩
      · cases hp
      · simp only [List.mem_cons, List.not_mem_nil, or_false] at hp; subst hp; show PyData.strOk sH = true; decide +kernel
    · rcases hk with rfl | ⟨m, _, _, rfl⟩
      · cases hp
      · simp only [List.mem_cons, List.not_mem_nil, or_false] at hp; subst hp; show PyData.strOk sK = true; decide +kernel
theorem sz_le {sg : Sg} {vs : List Str} (hs : ∀ p ∈ sg, p.2 ≤ 4) {t : Tm} (h : TIn sg vs t) : t.sz ≤ 4 * t.ins + 1 := by
  induction h with
  | v _ => simp [Tm.sz, Tm.ins]
  | @f n ts hm _ ih =>
    have hl := hs _ hm
    simp only at hl
    have all : ∀ l : List Tm, (∀ t ∈ l, t.sz ≤ 4 * t.ins + 1) → szs l ≤ 4 * inss l + l.length := by
      intro l
      induction l with
      | nil => intro _; simp [szs]
      | cons t l ih =>
        intro h
        have h1 := h t List.mem_cons_self
        have h2 := ih fun t ht => h t (List.mem_cons_of_mem _ ht)
        simp only [szs, inss, List.length_cons]
        omega
    have := all ts ih
    simp only [Tm.sz, Tm.ins]
    cases ts with
    | nil => simp [szs, inss]
    | cons t ts => simp only [List.isEmpty_cons, Bool.false_eq_true, if_false]; omega
/-- the flat terms of a signature -/
def flats (sg : Sg) : List Py := (sg.filter fun p => p.2 = 0).map fun p => (Tm.f p.1 []).py
theorem flats_loop (c : List Py) (S N D : Py) (f : Option Sv) : ∀ (l : Sg) (acc : List Py), acc.length + l.length ≤ 500 →
    lcS (gTupS 2 (gConsS (gNameS 5) (gConsS (gNameS 6) gNilS))) (eT (DL.e2 (varX 6) (xM (kI 0)) fun x y => (eqS x y).map .bl)) (tupM (consV (lockE 5) (consV (tupM nilV) nilV))) [5, 6] (l.map sgP) acc
      [some (.lst c), some (.val S), some (.val N), some (.val D), f, none, none, none] = .ok (.lst (acc ++ flats l)) [some (.lst c), some (.val S), some (.val N), some (.val D), f, none, none, none]
  | [], acc, _ => by simp [flats]
  | (x, 0) :: l, acc, h => by
    have hz : acc.length < sizeLine := sL (by omega)
    rw [List.map_cons, lcS_cons (st1 := [some (.lst c), some (.val S), some (.val N), some (.val D), f, some (.val (.str x)), some (.val (.int 0)), none]) (by simp [sgP])]
    simp [varX, lockE, hz]
    rw [flats_loop c S N D f l _ (by simp at h ⊢; omega)]
    simp [flats, py_f]
  | (x, k + 1) :: l, acc, h => by
    rw [List.map_cons, lcS_cons (st1 := [some (.lst c), some (.val S), some (.val N), some (.val D), f, some (.val (.str x)), some (.val (.int ((k + 1 : Nat) : Int))), none]) (by simp [sgP])]
    have hk : ¬ ((k : Int) + 1 = 0) := by omega
    simp [varX, lockE, hk]
    rw [flats_loop c S N D f l _ (by simp at h ⊢; omega)]
    simp [flats]
end K01

/-! ## S4 -/
namespace K01
open PySem L2 DL
theorem flats_mem {sg : Sg} {names : List Str} {d : Py} (h : d ∈ flats sg) : ∃ t, TIn sg names t ∧ t.py = d ∧ t.dp = 1 ∧ t.ins = 0 := by
  unfold flats at h
  obtain ⟨⟨x, k⟩, hp, rfl⟩ := List.mem_map.mp h
  obtain ⟨hp, hk⟩ := List.mem_filter.mp hp
  simp only [decide_eq_true_eq] at hk
  subst hk
  exact ⟨.f x [], .f hp nofun, rfl, by simp [Tm.dp, dps], by simp [Tm.ins, inss]⟩
def tSt (c : List Py) (sg : Sg) (names : List Str) (deep : Nat) (r : DS) : DS := some (.lst c) :: some (.val (.lst (sg.map sgP))) :: some (.val (.lst (names.map .str))) :: some (.val (.int deep)) :: r
def TermAt (n : Nat) (sg : Sg) (names : List Str) (deep : Nat) (b : Int) (c : List Py) : Prop := ∃ t c' b', CS b' c' ∧ b' ≤ b - 1 ∧ TIn sg names t ∧ t.dp ≤ deep + 1 ∧ t.ins + b'.toNat ≤ (b - 1).toNat ∧
  M__law_term n [.lst c, .val (.lst (sg.map sgP)), .val (.lst (names.map .str)), .val (.int deep)] = .ret (.val t.py) (tSt c' sg names deep [])
theorem kids_loop {n deep : Nat} {sg : Sg} {names : List Str} {nm many : Py} (ih : ∀ b c, CS b c → TermAt n sg names deep b c) : ∀ (m : Nat) (l : List Py) (acc : List Py) (b : Int) (c : List Py), l.length = m → CS b c → acc.length + m ≤ 500 →
    ∃ ts c' b', ts.length = m ∧ CS b' c' ∧ b' ≤ b ∧ (∀ t ∈ ts, TIn sg names t ∧ t.dp ≤ deep + 1) ∧ inss ts + b'.toNat ≤ (if m = 0 then b else b - 1).toNat ∧ 
    lcS (gNameS 7) yesT (frzM (callM (M__law_term n) (consA (varX 0) (consA (varX 1) (consA (varX 2) (consA (xM (DL.e2 (varX 3) (xM (kI 1)) (binI0 fun i j => .int (i - j)))) nilA)))))) [7] l acc (tSt c sg names (deep + 1) [none, some (.val nm), some (.val many), none]) =
      .ok (.lst (acc ++ ts.map Tm.py)) (tSt c' sg names (deep + 1) [none, some (.val nm), some (.val many), none])
  | 0, l, acc, b, c, hl, h, _ => by
    cases List.length_eq_zero_iff.mp hl
    exact ⟨[], c, b, rfl, h, Int.le_refl _, nofun, by simp [inss], by simp⟩
  | m + 1, l, acc, b, c, hl, h, hz => by
    cases l with
    | nil => cases hl
    | cons d l =>
      obtain ⟨t, c1, b1, h1, lb1, it, dt, nt, e1⟩ := ih b c h
      obtain ⟨ts, c2, b2, l2, h2, lb2, it2, nt2, e2⟩ := kids_loop (nm := nm) (many := many) ih m l (acc ++ [t.py]) b1 c1 (by simpa using hl) h1 (by simp; omega)
      refine ⟨t :: ts, c2, b2, by simp [l2], h2, by omega, fun u hu => ?_, ?_, ?_⟩
      · rcases List.mem_cons.mp hu with rfl | hu
        · exact ⟨it, dt⟩
        · exact it2 u hu
      · simp only [inss, Nat.add_eq_zero_iff, Nat.succ_ne_self, and_false, if_false]
        split at nt2 <;> omega
      · have ha : acc.length < sizeLine := sL (by omega)
        have hd : ((deep + 1 : Nat) : Int) - 1 = deep := by omega
        rw [lcS_cons (st1 := tSt c sg names (deep + 1) [none, some (.val nm), some (.val many), some (.val d)]) (by simp [tSt])]
        unfold tSt at e1 e2 ⊢
        simp [varX, takeA_s, hd, e1, ha]
        simpa using e2
theorem leaf_pick {sg : Sg} {names : List Str} {d : Int} (h : 0 ≤ d) (h2 : d < ((names.map Py.str ++ flats sg).length : Int)) : ∃ t, TIn sg names t ∧ t.dp = 1 ∧ t.ins = 0 ∧ atI (names.map Py.str ++ flats sg) d = some t.py := by
  obtain ⟨i, rfl⟩ := Int.eq_ofNat_of_zero_le h
  have hi : i < (names.map Py.str ++ flats sg).length := by omega
  rw [atI_nat hi]
  have hm := List.getElem_mem hi
  generalize (names.map Py.str ++ flats sg)[i] = x at hm
  rcases List.mem_append.mp hm with hm | hm
  · obtain ⟨y, hy, rfl⟩ := List.mem_map.mp hm
    exact ⟨.v y, .v hy, rfl, rfl, by rw [py_v]⟩
  · obtain ⟨t, h1, h2, h3, h4⟩ := flats_mem (names := names) hm
    exact ⟨t, h1, h3, h4, by rw [h2]⟩
noncomputable def leafM : DS → SO :=     (seqM (DL.stM 4 (DL.e2 (xM (frzM (DL.e1 (varX 2) fun w => (itemsS w).map .lst))) (xM (frzM (lcM (sqI (lockE 1)) (gTupS 2 (gConsS (gNameS 5) (gConsS (gNameS 6) gNilS))) (eT (DL.e2 (varX 6) (xM (kI 0)) fun x y => (eqS x y).map .bl)) (tupM (consV (lockE 5) (consV (tupM nilV) nilV))) [5, 6]))) addS))
    (seqM (rtM (valM (DL.e2 (varX 4) (xM (frzM (callM M__law_take (consA (varX 0) (consA (xM (DL.e1 (varX 4) lenS)) nilA))))) ixS)))
    nxM))
noncomputable def innM (n : Nat) : DS → SO :=     (seqM (asM (gTupS 2 (gConsS (gNameS 5) (gConsS (gNameS 6) gNilS))) (DL.e2 (varX 1) (xM (frzM (callM M__law_take (consA (varX 0) (consA (xM (DL.e1 (varX 1) lenS)) nilA))))) ixS))
    (seqM (rtM (valM (tupM (consV (lockE 5) (consV (DL.e1 (xM (frzM (lcM (rg1 (consV (lockE 6) nilV)) (gNameS 7) yesT (frzM (callM (M__law_term n) (consA (varX 0) (consA (varX 1) (consA (varX 2) (consA (xM (DL.e2 (varX 3) (xM (kI 1)) (binI0 fun i j => .int (i - j)))) nilA)))))) [7]))) tupS) nilV)))))
    nxM))
theorem term_eq (n : Nat) : M__law_term (n + 1) = runF 4 8 [0, 1, 2, 3] (seqM (setLS 0 (DL.e2 (xM (DL.e2 (varX 0) (xM (kI 4)) ixS)) (xM (kI 1)) (binI0 fun i j => .int (i - j))) (kI 4)) (seqM (ifM (orT (andT (DL.e1 (varX 2) truS) (eT (DL.e2 (xM (frzM (callM M__law_take (consA (varX 0) (consA (xM (kI 4)) nilA))))) (xM (kI 0)) fun x y => (eqS x y).map .bl))) (orT (eT (DL.e2 (varX 3) (xM (kI 0)) fun x y => (eqS x y).map .bl)) (eT (DL.e2 (xM (DL.e2 (varX 0) (xM (kI 4)) ixS)) (xM (kI 1)) (binI0 fun i j => .bl (decide (i < j))))))) leafM nxM) (innM n))) := by
  rw [M__law_term]
  unfold leafM innM
  exact Eq.refl _
theorem leaf_ok {sg : Sg} {names : List Str} (hs : SgFit sg) (hn : names.length ≤ 20) {deep : Nat} {b : Int} {c1 : List Py} (h1 : CS b c1) : ∃ t c', CS b c' ∧ TIn sg names t ∧ t.dp = 1 ∧ t.ins = 0 ∧
    leafM (tSt c1 sg names deep [none, none, none, none]) = .rt (.val t.py) (tSt c' sg names deep [some (.lst (names.map Py.str ++ flats sg)), none, none, none]) := by
  have flen : 0 < (names.map Py.str ++ flats sg).length := by
    have : (Tm.f sA []).py ∈ flats sg := List.mem_map.mpr ⟨(sA, 0), List.mem_filter.mpr ⟨hs.zero, by simp⟩, rfl⟩
    rw [List.length_append]
    have := List.length_pos_of_mem this
    omega
  have flen2 : (names.map Py.str ++ flats sg).length ≤ 26 := by
    have h1 := hs.len
    have h2 := List.length_filter_le (fun p : Str × Nat => decide (p.2 = 0)) sg
    rw [List.length_append]
    unfold flats
    simp only [List.length_map]
    omega
  obtain ⟨d, c2, d0, d1, h2, e⟩ := take_ok h1 (m := ((names.map Py.str ++ flats sg).length : Int)) (by omega) (by omega)
  obtain ⟨t, it, dt, nt, et⟩ := leaf_pick d0 d1
  refine ⟨t, c2, h2, it, dt, nt, ?_⟩
  have h1 := hs.len
  have lz : names.length + (flats sg).length ≤ sizeLine := sLe (by simp only [List.length_append, List.length_map] at flen2; omega)
  have lp := flats_loop c1 (.lst (sg.map sgP)) (.lst (names.map .str)) (.int deep) none sg [] (by simp; omega)
  unfold tSt leafM
  rw [List.nil_append] at lp
  simp only [List.length_append, List.length_map, Int.natCast_add] at e
  simp [varX, lockE, lp, lz, takeA_s, e, et]
theorem inn_ok {sg : Sg} {names : List Str} (hs : SgFit sg) {n deep : Nat} {b : Int} {c1 : List Py} (h1 : CS b c1) (hb : 1 ≤ b) (ih : ∀ b c, CS b c → TermAt n sg names deep b c) : ∃ t c' b' r, CS b' c' ∧ b' ≤ b ∧ TIn sg names t ∧ t.dp ≤ deep + 2 ∧ t.ins + b'.toNat ≤ b.toNat ∧
    innM n (tSt c1 sg names (deep + 1) [none, none, none, none]) = .rt (.val t.py) (tSt c' sg names (deep + 1) r) := by
  have hlen := hs.len
  have hpos : 0 < sg.length := List.length_pos_of_mem hs.zero
  obtain ⟨d, c2, d0, d1, h2, e⟩ := take_ok h1 (m := (sg.length : Int)) (by omega) (by omega)
  obtain ⟨i, rfl⟩ := Int.eq_ofNat_of_zero_le d0
  have hi : i < sg.length := by omega
  have ei : atI (sg.map sgP) (i : Int) = some (sgP sg[i]) := by rw [atI_nat (by simpa using hi)]; simp
  have hm := List.getElem_mem hi
  generalize sg[i] = p at ei hm
  obtain ⟨nm, many⟩ := p
  have h4 := hs.ar _ hm
  simp only at h4
  have hin : inB (many : Int) = true := by unfold inB; simp only [decide_eq_true_eq]; omega
  obtain ⟨ts, c3, b3, l3, h3, lb3, it3, nt3, e3⟩ := kids_loop (nm := .str nm) (many := .int many) ih many (rangeL 0 1 many) [] b c2 (rangeL_length _ _ _) h2 (by simp; omega)
  refine ⟨.f nm ts, c3, b3, [none, some (.val (.str nm)), some (.val (.int many)), none], h3, lb3, .f (by rw [l3]; exact hm) (fun t ht => (it3 t ht).1), ?_, ?_, ?_⟩
  · rw [Tm.dp]
    have := dps_le (k := deep + 1) fun t ht => (it3 t ht).2
    omega
  · rw [Tm.ins]
    cases ts with
    | nil =>
      simp only [List.length_nil] at l3
      subst l3
      simp only [List.isEmpty_nil, if_true]
      simp only [if_true] at nt3
      omega
    | cons u us =>
      have : many ≠ 0 := by rw [← l3]; simp
      rw [if_neg this] at nt3
      simp only [List.isEmpty_cons, Bool.false_eq_true, if_false]
      omega
  · have hc : ((deep + 1 : Nat) : Int) = (deep : Int) + 1 := rfl
    unfold tSt innM at *
    rw [hc] at e3 ⊢
    simp -implicitDefEqProofs [varX, lockE, takeA_s, e, ei, sgP, hin, e3, py_f]
theorem term_ok {sg : Sg} {names : List Str} (hs : SgFit sg) (hn : names.length ≤ 20) : ∀ (n deep : Nat) (b : Int) (c : List Py), deep < n → CS b c → TermAt n sg names deep b c
  | 0, deep, b, c, h, _ => absurd h (Nat.not_lt_zero _)
  | n + 1, deep, b, c, hd, h => by
    obtain ⟨ns, i, r, k, rfl⟩ := h
    have h0 : CS (b - 1) (cst ns i r k (b - 1)) := ⟨_, _, _, _, rfl⟩
    obtain ⟨d, c1, d0, d1, h1, e1⟩ := take_ok h0 (m := 4) (by decide) (by decide)
    -- the end
    have atLeaf : ∀ c2, CS (b - 1) c2 → ∃ t c' r, CS (b - 1) c' ∧ TIn sg names t ∧ t.dp = 1 ∧ t.ins = 0 ∧ leafM (tSt c2 sg names deep [none, none, none, none]) = .rt (.val t.py) (tSt c' sg names deep r) := fun c2 h2 => by
      obtain ⟨t, c3, h3, it, dt, nt, e⟩ := leaf_ok hs hn (deep := deep) h2
      exact ⟨t, c3, _, h3, it, dt, nt, e⟩
    have key : ∀ (c2 : List Py), CS (b - 1) c2 → ∃ t c' b' r, CS b' c' ∧ b' ≤ b - 1 ∧ TIn sg names t ∧ t.dp ≤ deep + 1 ∧ t.ins + b'.toNat ≤ (b - 1).toNat ∧
        (if deep = 0 ∨ b - 1 < 1 then leafM (tSt c2 sg names deep [none, none, none, none]) else innM n (tSt c2 sg names deep [none, none, none, none])) = .rt (.val t.py) (tSt c' sg names deep r) := fun c2 h2 => by
      by_cases hc : deep = 0 ∨ b - 1 < 1
      · rw [if_pos hc]
        obtain ⟨t, c3, r, h3, it, dt, nt, e⟩ := atLeaf c2 h2
        exact ⟨t, c3, b - 1, r, h3, Int.le_refl _, it, by omega, by omega, e⟩
      · rw [if_neg hc]
        obtain ⟨deep, rfl⟩ : ∃ m, deep = m + 1 := ⟨deep - 1, by omega⟩
        obtain ⟨t, c3, b3, r, h3, l3, it, dt, nt, e⟩ := inn_ok hs (n := n) (deep := deep) h2 (by omega) (fun b c h => term_ok hs hn n deep b c (by omega) h)
        exact ⟨t, c3, b3, r, h3, l3, it, dt, nt, e⟩
    unfold TermAt
    rw [term_eq]
    simp only [runF_eq]
    have z0 : ((0 : Nat) : Int) = 0 := rfl
    by_cases hnm : names = []
    · obtain ⟨t, c3, b3, r, h3, l3, it, dt, nt, e⟩ := key _ h0
      refine ⟨t, c3, b3, h3, l3, it, dt, nt, ?_⟩
      subst hnm
      unfold tSt cst at *
      by_cases hc : deep = 0 ∨ b - 1 < 1
      · rw [if_pos hc] at e
        by_cases hc0 : deep = 0
        · subst hc0
          try simp at e
          simp [varX, lockE, lstAt, e]
        · have hc1 : b - 1 < 1 := by omega
          try simp at e
          simp [varX, lockE, lstAt, hc0, hc1, e]
      · rw [if_neg hc] at e
        have hc0 : ¬ deep = 0 := by omega
        have hc1 : ¬ b - 1 < 1 := by omega
        try simp at e
        simp [varX, lockE, lstAt, hc0, hc1, e]
    · have hne : names.isEmpty = false := by cases names <;> simp_all
      by_cases hd0 : d = 0
      · obtain ⟨t, c3, r, h3, it, dt, nt, e⟩ := atLeaf c1 h1
        refine ⟨t, c3, b - 1, h3, Int.le_refl _, it, by omega, by omega, ?_⟩
        unfold tSt cst at *
        try simp at e
        simp [varX, lockE, lstAt, takeA_s, hnm, e1, hd0, e]
      · obtain ⟨t, c3, b3, r, h3, l3, it, dt, nt, e⟩ := key _ h1
        refine ⟨t, c3, b3, h3, l3, it, dt, nt, ?_⟩
        obtain ⟨ns', i', r', k', rfl⟩ := h1
        unfold tSt cst at *
        by_cases hc : deep = 0 ∨ b - 1 < 1
        · rw [if_pos hc] at e
          by_cases hc0 : deep = 0
          · subst hc0
            try simp at e
            simp [varX, lockE, lstAt, takeA_s, hnm, e1, hd0, e]
          · have hc1 : b - 1 < 1 := by omega
            try simp at e
            simp [varX, lockE, lstAt, takeA_s, hnm, e1, hd0, hc0, hc1, e]
        · rw [if_neg hc] at e
          have hc0 : ¬ deep = 0 := by omega
          have hc1 : ¬ b - 1 < 1 := by omega
          try simp at e
          simp [varX, lockE, lstAt, takeA_s, hnm, e1, hd0, hc0, hc1, e]
end K01

/-! ## S5 -/
namespace K01
open PySem L2 DL
/-! ### parts, size, depth -/
def Tm.kids : Tm → List Tm
  | .v _ => []
  | .f _ ts => ts
def Tm.isV : Tm → Bool
  | .v _ => true
  | .f _ _ => false
mutual
def Tm.subs : Tm → List Tm
  | .v x => [.v x]
  | .f n ts => .f n ts :: subss ts
def subss : List Tm → List Tm
  | [] => []
  | t :: ts => t.subs ++ subss ts
end
theorem subs_eq (t : Tm) : t.subs = t :: subss t.kids := by cases t <;> rfl
theorem sz_eq (t : Tm) : t.sz = 1 + szs t.kids := by cases t <;> simp [Tm.sz, Tm.kids, szs]
theorem dp_eq (t : Tm) : t.dp = 1 + dps t.kids := by cases t <;> simp [Tm.dp, Tm.kids, dps]
theorem subss_append : ∀ (a b : List Tm), subss (a ++ b) = subss a ++ subss b
  | [], b => by simp [subss]
  | t :: a, b => by rw [List.cons_append, subss, subss, subss_append a b, List.append_assoc]
mutual
theorem subs_len : ∀ t : Tm, t.subs.length = t.sz
  | .v x => rfl
  | .f n ts => by rw [Tm.subs, Tm.sz, List.length_cons, subss_len ts, Nat.add_comm]
theorem subss_len : ∀ ts : List Tm, (subss ts).length = szs ts
  | [] => rfl
  | t :: ts => by rw [subss, szs, List.length_append, subs_len t, subss_len ts]
end
theorem isvar_ok (t : Tm) : M_is_variable [.val t.py] = .ret (.val (.bl t.isV)) [some (.val t.py)] := by
  unfold M_is_variable
  rw [runF_eq]
  cases t <;> simp -implicitDefEqProofs [varX, py_v, py_f, Tm.isV]
theorem inner_ok (t : Tm) : M_inner [.val t.py] = .ret (.val (.tup (t.kids.map Tm.py))) [some (.val t.py)] := by
  unfold M_inner
  rw [runF_eq]
  cases t with
  | v x =>
    have := isvar_ok (.v x)
    simp -implicitDefEqProofs [varX, this, Tm.isV, Tm.kids]
  | f n ts =>
    have := isvar_ok (.f n ts)
    rw [py_f] at this ⊢
    simp -implicitDefEqProofs [varX, this, Tm.isV, Tm.kids]
theorem parts_loop (t : Option Sv) : ∀ (m : Nat) (L : List Tm) (found : List Py) (o : Option Sv), szs L ≤ m → found.length + szs L ≤ 900 →
    ∃ o', whileS (DL.e1 (varX 2) truS) B_parts_1 [t, some (.lst found), some (.lst (L.map Tm.py).reverse), o] = .nx [t, some (.lst (found ++ (subss L).map Tm.py)), some (.lst []), o']
  | _, [], found, o, _, _ => ⟨o, by rw [whileS_eq]; simp [varX, subss]⟩
  | 0, u :: L, found, o, hm, _ => by rw [szs, sz_eq] at hm; omega
  | m + 1, u :: L, found, o, hm, hz => by
    rw [szs, sz_eq] at hm hz
    obtain ⟨o', e⟩ := parts_loop t m (u.kids ++ L) (found ++ [u.py]) (some (.val u.py)) (by rw [szs_append]; omega) (by rw [szs_append]; simp; omega)
    have l1 : found.length < sizeLine := sL (by omega)
    have kl : u.kids.length ≤ szs u.kids := by
      generalize u.kids = l
      induction l with
      | nil => simp
      | cons t l ih => rw [szs, sz_eq, List.length_cons]; omega
    have Ll : L.length ≤ szs L := by
      clear hm hz e
      induction L with
      | nil => simp
      | cons t l ih => rw [szs, sz_eq, List.length_cons]; omega
    have l2 : L.length + u.kids.length ≤ sizeLine := sLe (by omega)
    refine ⟨o', ?_⟩
    rw [whileS_eq]
    unfold B_parts_1 at e ⊢
    simp -implicitDefEqProofs [varX, lockE, lstAt, inner_ok, l1, l2]
    simp at e
    rw [e, subss_append, subss, subs_eq]
    simp
theorem parts_ok {t : Tm} (h : t.sz ≤ 800) : M_parts [.val t.py] = .ret (.lst (t.subs.map Tm.py)) [some (.val t.py)] := by
  obtain ⟨o', e⟩ := parts_loop (some (.val t.py)) t.sz [t] [] none (by simp [szs]) (by simp [szs]; omega)
  unfold M_parts
  rw [runF_eq]
  simp [subss] at e
  simp -implicitDefEqProofs [varX, lockE, takeO, e]
theorem size_ok {t : Tm} (h : t.sz ≤ 800) : M_size [.val t.py] = .ret (.val (.int t.sz)) [some (.val t.py)] := by
  unfold M_size
  rw [runF_eq]
  simp -implicitDefEqProofs [varX, parts_ok h, subs_len]
theorem dp_sz : ∀ t : Tm, t.dp ≤ t.sz := by
  have : (∀ t : Tm, t.dp ≤ t.sz) ∧ ∀ ts : List Tm, dps ts ≤ szs ts := by
    refine ⟨fun t => ?_, fun ts => ?_⟩
    · exact (Tm.rec (motive_1 := fun t => t.dp ≤ t.sz) (motive_2 := fun ts => dps ts ≤ szs ts) (fun x => Nat.le_refl _) (fun n ts ih => by rw [Tm.dp, Tm.sz]; omega) (Nat.le_refl _) (fun t ts h1 h2 => by rw [dps, szs]; omega) t)
    · exact (Tm.rec_1 (motive_1 := fun t => t.dp ≤ t.sz) (motive_2 := fun ts => dps ts ≤ szs ts) (fun x => Nat.le_refl _) (fun n ts ih => by rw [Tm.dp, Tm.sz]; omega) (Nat.le_refl _) (fun t ts h1 h2 => by rw [dps, szs]; omega) ts)
  exact this.1
theorem len_szs (l : List Tm) : l.length ≤ szs l := by
  induction l with
  | nil => simp
  | cons t l ih => rw [szs, sz_eq, List.length_cons]; omega
theorem szs_kids : ∀ l : List Tm, szs (l.flatMap Tm.kids) + l.length = szs l
  | [] => by simp [szs]
  | t :: l => by
    have := szs_kids l
    rw [List.flatMap_cons, szs_append, szs, sz_eq t, List.length_cons]
    omega
theorem dps_append : ∀ (a b : List Tm), dps (a ++ b) = max (dps a) (dps b)
  | [], b => by simp [dps]
  | t :: a, b => by rw [List.cons_append, dps, dps, dps_append a b, Nat.max_assoc]
theorem dps_kids : ∀ l : List Tm, l ≠ [] → dps l = 1 + dps (l.flatMap Tm.kids)
  | [], h => absurd rfl h
  | [t], _ => by simp [dps, dp_eq t]
  | t :: u :: l, _ => by
    have := dps_kids (u :: l) (by simp)
    have e : (t :: u :: l).flatMap Tm.kids = t.kids ++ (u :: l).flatMap Tm.kids := rfl
    rw [e, dps_append, dps, this, dp_eq t]
    omega
theorem depth_in (t : Option Sv) (o lv : Option Sv) (c : Int) : ∀ (L : List Tm) (below : List Py), below.length + szs L ≤ 900 → ∃ o', forS (gNameS 4) B_depth_1 (L.map Tm.py) [t, lv, some (.val (.int c)), some (.lst below), o] = .nx [t, lv, some (.val (.int c)), some (.lst (below ++ (L.flatMap Tm.kids).map Tm.py)), o']
  | [], below, _ => ⟨o, by simp⟩
  | u :: L, below, h => by
    have hk := len_szs u.kids
    rw [szs, sz_eq] at h
    obtain ⟨o', e⟩ := depth_in t (some (.val u.py)) lv c L (below ++ u.kids.map Tm.py) (by simp; omega)
    refine ⟨o', ?_⟩
    have l1 : below.length + u.kids.length ≤ sizeLine := sLe (by omega)
    rw [List.map_cons, forS_cons (st1 := [t, lv, some (.val (.int c)), some (.lst below), some (.val u.py)]) (by simp)]
    unfold B_depth_1 at e ⊢
    simp -implicitDefEqProofs [varX, lstAt, inner_ok, l1]
    simp at e
    rw [e]
theorem depth_loop (t : Option Sv) : ∀ (m : Nat) (L : List Tm) (c : Int) (b o : Option Sv), szs L ≤ m → szs L ≤ 800 →
    ∃ lv b' o', whileS (DL.e1 (varX 1) truS) B_depth_2 [t, some (.lst (L.map Tm.py)), some (.val (.int c)), b, o] = .nx [t, lv, some (.val (.int (c + dps L))), b', o']
  | _, [], c, b, o, _, _ => ⟨some (.lst []), b, o, by rw [whileS_eq]; simp [varX, dps]⟩
  | 0, u :: L, c, b, o, hm, _ => by rw [szs, sz_eq] at hm; omega
  | m + 1, u :: L, c, b, o, hm, hz => by
    have hk := szs_kids (u :: L)
    rw [List.length_cons] at hk
    obtain ⟨o1, e1⟩ := depth_in t o (some (.val (.lst ((u :: L).map Tm.py)))) (c + 1) (u :: L) [] (by simp; omega)
    obtain ⟨lv, b', o', e⟩ := depth_loop t m ((u :: L).flatMap Tm.kids) (c + 1) none o1 (by omega) (by omega)
    have hd := dps_kids (u :: L) (by simp)
    have hc : (c + 1 + (dps ((u :: L).flatMap Tm.kids) : Int)) = c + (dps (u :: L) : Nat) := by rw [hd]; omega
    rw [hc] at e
    refine ⟨lv, b', o', ?_⟩
    rw [whileS_eq]
    unfold B_depth_2 at e ⊢
    simp at e1
    simp at e
    simp -implicitDefEqProofs [varX, lockE, takeO, e1, e]
theorem depth_ok {t : Tm} (h : t.sz ≤ 800) : M_depth [.val t.py] = .ret (.val (.int t.dp)) [some (.val t.py)] := by
  obtain ⟨lv, b, o, e⟩ := depth_loop (some (.val t.py)) t.sz [t] 0 none none (by simp [szs]) (by simp [szs]; omega)
  unfold M_depth
  rw [runF_eq]
  simp [dps] at e
  simp -implicitDefEqProofs [varX, lockE, takeO, e]
end K01

/-! ## S6 -/
namespace K01
open PySem L2 DL
/-! ### places -/
theorem rangeL_0 (lo c : Int) : rangeL lo c 0 = [] := rfl
theorem rangeL_s (lo c : Int) (n : Nat) : rangeL lo c (n + 1) = .int lo :: rangeL (lo + c) c n := by
  unfold rangeL
  rw [List.range_succ_eq_map, List.map_cons, List.map_map]
  have e : (fun k : Nat => Py.int (lo + (k : Int) * c)) ∘ Nat.succ = fun k : Nat => Py.int (lo + c + (k : Int) * c) := by
    funext k
    simp only [Function.comp, Nat.succ_eq_add_one, Int.natCast_add, Int.add_mul]
    congr 1
    omega
  rw [e]
  simp
theorem cutP_take {α : Type} (xs : List α) (k : Nat) : cutP xs none (some (k : Int)) = xs.take k := by
  simp only [cutP, HT.sIx_none, HT.sIx_nat, List.drop_zero, Nat.sub_zero]
  exact (List.take_eq_take_min (l := xs) (i := k)).symm
theorem cutP_drop {α : Type} (xs : List α) (k : Nat) : cutP xs (some (k : Int)) none = xs.drop k := by
  simp only [cutP, HT.sIx_none, HT.sIx_nat]
  by_cases h : k ≤ xs.length
  · rw [Nat.min_eq_left h, List.take_of_length_le (by simp)]
  · rw [Nat.min_eq_right (by omega), List.drop_length, List.drop_of_length_le (by omega)]; simp
mutual
def Tm.pl : Tm → List (List Nat)
  | .v _ => [[]]
  | .f _ ts => [] :: pls 0 ts
def pls (i : Nat) : List Tm → List (List Nat)
  | [] => []
  | t :: ts => t.pl.map (i :: ·) ++ pls (i + 1) ts
end
def plP (p : List Nat) : Py := .tup (p.map fun i : Nat => .int i)
theorem pl_eq (t : Tm) : t.pl = [] :: pls 0 t.kids := by cases t <;> rfl
mutual
theorem pl_len : ∀ t : Tm, t.pl.length = t.sz
  | .v x => rfl
  | .f n ts => by rw [Tm.pl, Tm.sz, List.length_cons, pls_len ts 0, Nat.add_comm]
theorem pls_len : ∀ (ts : List Tm) (i : Nat), (pls i ts).length = szs ts
  | [], i => rfl
  | t :: ts, i => by rw [pls, szs, List.length_append, List.length_map, pl_len t, pls_len ts (i + 1)]
end
mutual
theorem pl_lt : ∀ (t : Tm) (p : List Nat), p ∈ t.pl → p.length < t.dp
  | .v x, p, h => by simp only [Tm.pl, List.mem_singleton] at h; subst h; simp [Tm.dp]
  | .f n ts, p, h => by
    rw [Tm.pl, List.mem_cons] at h
    rw [Tm.dp]
    rcases h with rfl | h
    · simp; omega
    · have := pls_lt ts 0 p h; omega
theorem pls_lt : ∀ (ts : List Tm) (i : Nat) (p : List Nat), p ∈ pls i ts → p.length ≤ dps ts
  | [], i, p, h => by cases h
  | t :: ts, i, p, h => by
    rw [pls, List.mem_append, List.mem_map] at h
    rw [dps]
    rcases h with ⟨q, hq, rfl⟩ | h
    · have := pl_lt t q hq
      rw [List.length_cons]
      omega
    · have := pls_lt ts (i + 1) p h; omega
end
theorem places_in (t f : Option Sv) (k : Nat) : ∀ (ps : List (List Nat)) (acc : List Py), (∀ p ∈ ps, p.length ≤ 900) → acc.length + ps.length ≤ 900 →
    lcS (gNameS 3) yesT C__law_places_1 [3] (ps.map plP) acc [t, f, some (.val (.int k)), none] = .ok (.lst (acc ++ (ps.map (k :: ·)).map plP)) [t, f, some (.val (.int k)), none]
  | [], acc, _, _ => by simp
  | p :: ps, acc, hp, hz => by
    have l1 : acc.length < sizeLine := sL (by simp at hz; omega)
    have l2 : 1 + p.length ≤ sizeLine := sLe (by have := hp p List.mem_cons_self; omega)
    have l3 : p.length + 1 ≤ sizeLine := by omega
    have e := places_in t f k ps (acc ++ [plP (k :: p)]) (fun q hq => hp q (List.mem_cons_of_mem _ hq)) (by simp at hz ⊢; omega)
    rw [List.map_cons, lcS_cons (st1 := [t, f, some (.val (.int k)), some (.val (plP p))]) (by simp)]
    unfold C__law_places_1 plP at e ⊢
    simp at e
    simp -implicitDefEqProofs [varX, lockE, l1, l2, l3, e]
theorem places_loop {R : FM} {n : Str} {ts : List Tm} (hR : ∀ t ∈ ts, R [.val t.py] = .ret (.lst (t.pl.map plP)) [some (.val t.py)]) (hz : szs ts ≤ 800) : ∀ (m i : Nat) (found : List Py) (k p : Option Sv), i + m = ts.length → found.length + szs (ts.drop i) ≤ 900 →
    ∃ k' p', forS (gNameS 2) (B__law_places_2 R) (rangeL i 1 m) [some (.val (Tm.f n ts).py), some (.lst found), k, p] = .nx [some (.val (Tm.f n ts).py), some (.lst (found ++ (pls i (ts.drop i)).map plP)), k', p']
  | 0, i, found, k, p, hi, _ => by
    refine ⟨k, p, ?_⟩
    rw [rangeL_0, List.drop_of_length_le (by omega)]
    simp [pls]
  | m + 1, i, found, k, p, hi, hf => by
    have hlt : i < ts.length := by omega
    have ed : ts.drop i = ts[i] :: ts.drop (i + 1) := List.drop_eq_getElem_cons hlt
    have hmem : ts[i] ∈ ts := List.getElem_mem hlt
    have hR1 := hR _ hmem
    rw [ed, szs] at hf
    have szi : ts[i].sz ≤ 900 := by omega
    have dpi : ∀ q ∈ ts[i].pl, q.length ≤ 900 := fun q hq => by
      have := pl_lt _ q hq
      have := dp_sz ts[i]
      omega
    have li := pl_len ts[i]
    have e1 := places_in (some (.val (Tm.f n ts).py)) (some (.lst found)) i ts[i].pl [] dpi (by simp; omega)
    obtain ⟨k', p', e2⟩ := places_loop (n := n) hR hz m (i + 1) (found ++ (ts[i].pl.map (i :: ·)).map plP) (some (.val (.int i))) none (by omega) (by simp [li]; omega)
    refine ⟨k', p', ?_⟩
    have ix : atI (ts.map Tm.py) (i : Int) = some ts[i].py := by rw [DL.atI_nat (by simpa using hlt)]; simp
    have l1 : found.length + ts[i].pl.length ≤ sizeLine := sLe (by omega)
    rw [rangeL_s, forS_cons (st1 := [some (.val (Tm.f n ts).py), some (.lst found), some (.val (.int i)), p]) (by simp), ed, pls]
    have hi1 : ((i : Int) + 1) = ((i + 1 : Nat) : Int) := rfl
    rw [hi1]
    unfold B__law_places_2 at e2 ⊢
    rw [py_f] at e1 e2 ⊢
    simp at e1 e2
    simp -implicitDefEqProofs [varX, lockE, ix, hR1, e1, l1, e2]
theorem places_ok : ∀ (n : Nat) (t : Tm), t.dp ≤ n → t.sz ≤ 800 → M__law_places n [.val t.py] = .ret (.lst (t.pl.map plP)) [some (.val t.py)]
  | 0, t, h, _ => by rw [dp_eq] at h; omega
  | n + 1, .v x, h, _ => by
    rw [M__law_places, runF_eq]
    simp -implicitDefEqProofs [varX, takeO, py_v, Tm.pl, plP]
  | n + 1, .f x ts, h, hz => by
    rw [Tm.dp] at h
    rw [Tm.sz] at hz
    have hR : ∀ t ∈ ts, M__law_places n [.val t.py] = .ret (.lst (t.pl.map plP)) [some (.val t.py)] := fun t ht => by
      have h1 : t.dp ≤ dps ts ∧ t.sz ≤ szs ts := by
        clear h hz
        induction ts with
        | nil => cases ht
        | cons u us ih =>
          rw [dps, szs]
          rcases List.mem_cons.mp ht with rfl | ht
          · omega
          · have := ih ht; omega
      exact places_ok n t (by omega) (by omega)
    obtain ⟨k', p', e⟩ := places_loop (n := x) hR (by omega) ts.length 0 [.tup []] none none (by simp) (by simp; omega)
    have hl := len_szs ts
    have hin : inB (ts.length : Int) = true := by unfold inB; simp only [decide_eq_true_eq]; omega
    rw [M__law_places, runF_eq]
    rw [py_f] at e ⊢
    simp at e
    simp -implicitDefEqProofs [varX, takeO, hin, e, Tm.pl, plP]
/-! ### positions -/
def ppP (q : List Nat × Tm) : Py := .tup [plP q.1, q.2.py]
def posL (L : List (List Nat × Tm)) : List (List Nat) := L.flatMap fun q => q.2.pl.map (q.1 ++ ·)
def kidP (p : List Nat) (i : Nat) : List Tm → List (List Nat × Tm)
  | [] => []
  | t :: ts => (p ++ [i], t) :: kidP p (i + 1) ts
theorem posL_kid (p : List Nat) : ∀ (ts : List Tm) (i : Nat), posL (kidP p i ts) = (pls i ts).map (p ++ ·)
  | [], i => rfl
  | t :: ts, i => by
    have ih := posL_kid p ts (i + 1)
    unfold posL at ih ⊢
    rw [kidP, List.flatMap_cons, ih, pls, List.map_append, List.map_map]
    congr 1
    apply List.map_congr_left
    intro q _
    simp
theorem kidP_len (p : List Nat) : ∀ (ts : List Tm) (i : Nat), (kidP p i ts).length = ts.length
  | [], i => rfl
  | t :: ts, i => by rw [kidP, List.length_cons, List.length_cons, kidP_len p ts (i + 1)]
theorem kidP_get (p : List Nat) : ∀ (ts : List Tm) (i j : Nat) (h : j < ts.length), (kidP p i ts)[j]'(by rw [kidP_len]; exact h) = (p ++ [i + j], ts[j])
  | t :: ts, i, 0, h => rfl
  | t :: ts, i, j + 1, h => by
    have := kidP_get p ts (i + 1) j (by simpa using h)
    simp only [kidP, List.getElem_cons_succ]
    rw [this]
    congr 2
    congr 1
    omega
def szL (L : List (List Nat × Tm)) : Nat := szs (L.map (·.2))
theorem kidP_sz (p : List Nat) : ∀ (ts : List Tm) (i : Nat), (kidP p i ts).map (·.2) = ts
  | [], i => rfl
  | t :: ts, i => by rw [kidP, List.map_cons, kidP_sz p ts (i + 1)]
theorem pos_in (t f : Option Sv) (p : List Nat) (u : Tm) (hp : p.length ≤ 900) (hk : u.kids.length ≤ 900) : ∀ (m : Nat) (left : List Py) (o : Option Sv), m ≤ u.kids.length → left.length + m ≤ 1800 →
    ∃ o', forS (gNameS 6) B_positions_1 (rangeL ((m : Int) - 1) (-1) m) [t, f, some (.lst left), some (.val (plP p)), some (.val u.py), some (.val (.tup (u.kids.map Tm.py))), o] =
      .nx [t, f, some (.lst (left ++ (((kidP p 0 u.kids).take m).map ppP).reverse)), some (.val (plP p)), some (.val u.py), some (.val (.tup (u.kids.map Tm.py))), o']
  | 0, left, o, _, _ => ⟨o, by simp [rangeL_0]⟩
  | m + 1, left, o, hm, hz => by
    obtain ⟨o', e⟩ := pos_in t f p u hp hk m (left ++ [ppP (p ++ [m], u.kids[m])]) (some (.val (.int m))) (by omega) (by simp; omega)
    refine ⟨o', ?_⟩
    have hm1 : ((m + 1 : Nat) : Int) - 1 = m := by omega
    have hm2 : (m : Int) + -1 = (m : Int) - 1 := by omega
    have ix : atI (u.kids.map Tm.py) (m : Int) = some u.kids[m].py := by rw [DL.atI_nat (by simp; omega)]; simp
    have l1 : left.length < sizeLine := Nat.lt_of_lt_of_le (show left.length < 2000 by omega) (by decide)
    have l2 : p.length + 1 ≤ sizeLine := sLe (by omega)
    have et : (kidP p 0 u.kids).take (m + 1) = (kidP p 0 u.kids).take m ++ [(p ++ [m], u.kids[m])] := by
      rw [List.take_succ_eq_append_getElem (by rw [kidP_len]; omega), kidP_get p u.kids 0 m (by omega), Nat.zero_add]
    rw [hm1, rangeL_s, hm2, forS_cons (st1 := [t, f, some (.lst left), some (.val (plP p)), some (.val u.py), some (.val (.tup (u.kids.map Tm.py))), some (.val (.int m))]) (by simp), et]
    unfold B_positions_1 ppP plP at e ⊢
    simp at e
    simp -implicitDefEqProofs [varX, lockE, lstAt, ix, l1, l2, e]
theorem take_all {α : Type} (l : List α) {n : Nat} (h : l.length = n) : l.take n = l := List.take_of_length_le (by omega)
theorem pos_loop (t : Option Sv) : ∀ (m : Nat) (L : List (List Nat × Tm)) (found : List Py) (a b c d : Option Sv), szL L ≤ m → found.length + szL L ≤ 800 → (∀ q ∈ L, q.1.length + q.2.dp ≤ 800) →
    ∃ a' b' c' d', whileS (DL.e1 (varX 2) truS) B_positions_2 [t, some (.lst found), some (.lst (L.map ppP).reverse), a, b, c, d] = .nx [t, some (.lst (found ++ (posL L).map plP)), some (.lst []), a', b', c', d']
  | _, [], found, a, b, c, d, _, _, _ => ⟨a, b, c, d, by rw [whileS_eq]; simp [varX, posL]⟩
  | 0, u :: L, found, a, b, c, d, hm, _, _ => by
    unfold szL at hm
    rw [List.map_cons, szs, sz_eq] at hm; omega
  | m + 1, (p, u) :: L, found, a, b, c, d, hm, hz, hq => by
    have hpu := hq _ List.mem_cons_self
    simp only at hpu
    have hsz : szL ((p, u) :: L) = 1 + szs u.kids + szL L := by unfold szL; rw [List.map_cons, szs, sz_eq]
    have hk := len_szs u.kids
    have hL : L.length ≤ szL L := by unfold szL; have := len_szs (L.map (·.2)); simpa using this
    obtain ⟨o, e1⟩ := pos_in t (some (.lst (found ++ [plP p]))) p u (by omega) (by omega) u.kids.length (L.map ppP).reverse d (Nat.le_refl _) (by simp; omega)
    rw [take_all _ (kidP_len p u.kids 0)] at e1
    have hdk : ∀ (ts : List Tm) (i k : Nat), dps ts ≤ k → ∀ q ∈ kidP p i ts, q.1.length + q.2.dp ≤ p.length + 1 + k := by
      intro ts
      induction ts with
      | nil => intro i k _ q hq; cases hq
      | cons v vs ih =>
        intro i k hk q hq
        rw [dps] at hk
        rw [kidP] at hq
        rcases List.mem_cons.mp hq with rfl | hq
        · simp; omega
        · exact ih (i + 1) k (by omega) q hq
    have szk : szL (kidP p 0 u.kids ++ L) = szs u.kids + szL L := by unfold szL; rw [List.map_append, szs_append, kidP_sz]
    obtain ⟨a', b', c', d', e⟩ := pos_loop t m (kidP p 0 u.kids ++ L) (found ++ [plP p]) (some (.val (plP p))) (some (.val u.py)) (some (.val (.tup (u.kids.map Tm.py)))) o (by omega) (by simp; omega) (fun q hq' => by
      rcases List.mem_append.mp hq' with h | h
      · have := hdk u.kids 0 (dps u.kids) (Nat.le_refl _) q h
        rw [dp_eq] at hpu
        omega
      · exact hq q (List.mem_cons_of_mem _ h))
    refine ⟨a', b', c', d', ?_⟩
    have l1 : found.length < sizeLine := sL (by omega)
    have hin : inB ((u.kids.length : Int) - 1) = true := by unfold inB; simp only [decide_eq_true_eq]; omega
    have hin2 : inB (-1) = true := by decide
    have hnn : ((u.kids.length : Int) - 1 - -1).toNat = u.kids.length := by omega
    have ep : posL ((p, u) :: L) = p :: (posL (kidP p 0 u.kids) ++ posL L) := by
      rw [posL_kid]
      unfold posL
      rw [List.flatMap_cons, pl_eq]
      simp
    have ea : posL (kidP p 0 u.kids ++ L) = posL (kidP p 0 u.kids) ++ posL L := by unfold posL; rw [List.flatMap_append]
    rw [whileS_eq, ep]
    rw [ea] at e
    unfold B_positions_2 at e ⊢
    simp at e e1
    simp -implicitDefEqProofs [varX, lockE, lstAt, inner_ok, l1, hin, hin2, hnn, ppP, e1, e]
theorem positions_ok {t : Tm} (h : t.sz ≤ 400) : M_positions [.val t.py] = .ret (.lst (t.pl.map plP)) [some (.val t.py)] := by
  have hd := dp_sz t
  obtain ⟨a', b', c', d', e⟩ := pos_loop (some (.val t.py)) t.sz [([], t)] [] none none none none (by simp [szL, szs]) (by simp [szL, szs]; omega) (by simp; omega)
  unfold M_positions
  rw [runF_eq]
  simp [posL, ppP, plP] at e
  simp -implicitDefEqProofs [varX, lockE, takeO, e]
end K01

/-! ## S7 -/
namespace K01
open PySem L2 DL
/-! ### at, put -/
def plI (p : List Int) : Py := .tup (p.map .int)
def Tm.at_ : Tm → List Int → Option Tm
  | t, [] => some t
  | t, k :: ks => if h : 0 ≤ k ∧ k.toNat < t.kids.length then (t.kids[k.toNat]'h.2).at_ ks else none
def optP (o : Option Tm) : Py := match o with
  | some t => t.py
  | none => .non
theorem ix_kid {t : Tm} {k : Int} (h : 0 ≤ k ∧ k.toNat < t.kids.length) : atI (t.kids.map Tm.py) k = some (t.kids[k.toNat]'h.2).py := by
  obtain ⟨i, rfl⟩ := Int.eq_ofNat_of_zero_le h.1
  have hi : i < t.kids.length := by have := h.2; simpa using this
  rw [DL.atI_nat (by simpa using hi)]
  simp
theorem lawat_loop (P : Option Sv) : ∀ (p : List Int) (t : Tm) (k : Option Sv), (∃ u k', t.at_ p = some u ∧ forS (gNameS 2) B__law_at_1 (p.map .int) [some (.val t.py), P, k] = .nx [some (.val u.py), P, k']) ∨ 
    ∃ t' k', t.at_ p = none ∧ forS (gNameS 2) B__law_at_1 (p.map .int) [some (.val t.py), P, k] = .rt (.val .non) [t', P, k']
  | [], t, k => .inl ⟨t, k, rfl, by simp⟩
  | i :: p, t, k => by
    rw [List.map_cons, forS_cons (st1 := [some (.val t.py), P, some (.val (.int i))]) (by simp), Tm.at_]
    cases t with
    | v x =>
      right
      refine ⟨some (.val (Tm.v x).py), some (.val (.int i)), by simp [Tm.kids], ?_⟩
      unfold B__law_at_1
      simp -implicitDefEqProofs [varX, py_v]
    | f n ts =>
      by_cases h : 0 ≤ i ∧ i.toNat < (Tm.f n ts).kids.length
      · rw [dif_pos h]
        have ix := ix_kid h
        have h1 : ¬ i < 0 := by omega
        have h2 : ¬ (ts.length : Int) ≤ i := by have := h.2; simp only [Tm.kids] at this; omega
        simp only [Tm.kids] at ix
        have eb : B__law_at_1 [some (.val (Tm.f n ts).py), P, some (.val (.int i))] = .nx [some (.val ((Tm.f n ts).kids[i.toNat]'h.2).py), P, some (.val (.int i))] := by
          unfold B__law_at_1
          rw [py_f]
          simp -implicitDefEqProofs [varX, h1, h2, ix, Tm.kids]
        rw [eb]
        rcases lawat_loop P p ((Tm.f n ts).kids[i.toNat]'h.2) (some (.val (.int i))) with ⟨u, k', e1, e2⟩ | ⟨t', k', e1, e2⟩
        · exact .inl ⟨u, k', e1, e2⟩
        · exact .inr ⟨t', k', e1, e2⟩
      · rw [dif_neg h]
        right
        refine ⟨some (.val (Tm.f n ts).py), some (.val (.int i)), rfl, ?_⟩
        simp only [Tm.kids] at h
        unfold B__law_at_1
        rw [py_f]
        by_cases h1 : i < 0
        · simp -implicitDefEqProofs [varX, h1]
        · have h2 : (ts.length : Int) ≤ i := by omega
          simp -implicitDefEqProofs [varX, h1, h2]
theorem lawat_ok (t : Tm) (p : List Int) : M__law_at [.val t.py, .val (plI p)] = .ret (.val (optP (t.at_ p))) [none, some (.val (plI p))] := by
  unfold M__law_at
  rw [runF_eq]
  rcases lawat_loop (some (.val (plI p))) p t none with ⟨u, k', e1, e2⟩ | ⟨t', k', e1, e2⟩
  · rw [e1]
    unfold plI at e2 ⊢
    simp -implicitDefEqProofs [lockE, takeO, e2, optP]
  · rw [e1]
    unfold plI at e2 ⊢
    simp -implicitDefEqProofs [lockE, takeO, e2, optP]
theorem at_loop (P : Option Sv) : ∀ (p : List Int) (t : Tm) (k a : Option Sv), (∃ u k' a', t.at_ p = some u ∧ forS (gNameS 2) B_at_1 (p.map .int) [some (.val t.py), P, k, a] = .nx [some (.val u.py), P, k', a']) ∨ 
    ∃ t' k' a', t.at_ p = none ∧ forS (gNameS 2) B_at_1 (p.map .int) [some (.val t.py), P, k, a] = .ex ⟨"StepError", none⟩ [t', P, k', a']
  | [], t, k, a => .inl ⟨t, k, a, rfl, by simp⟩
  | i :: p, t, k, a => by
    rw [List.map_cons, forS_cons (st1 := [some (.val t.py), P, some (.val (.int i)), a]) (by simp), Tm.at_]
    by_cases h : 0 ≤ i ∧ i.toNat < t.kids.length
    · rw [dif_pos h]
      have ix := ix_kid h
      have h1 : 0 ≤ i := h.1
      have h2 : i < (t.kids.length : Int) := by have := h.2; omega
      have eb : B_at_1 [some (.val t.py), P, some (.val (.int i)), a] = .nx [some (.val (t.kids[i.toNat]'h.2).py), P, some (.val (.int i)), some (.val (.tup (t.kids.map Tm.py)))] := by
        unfold B_at_1
        simp -implicitDefEqProofs [varX, inner_ok, h1, h2, ix]
      rw [eb]
      rcases at_loop P p (t.kids[i.toNat]'h.2) (some (.val (.int i))) (some (.val (.tup (t.kids.map Tm.py)))) with ⟨u, k', a', e1, e2⟩ | ⟨t', k', a', e1, e2⟩
      · exact .inl ⟨u, k', a', e1, e2⟩
      · exact .inr ⟨t', k', a', e1, e2⟩
    · rw [dif_neg h]
      right
      refine ⟨some (.val t.py), some (.val (.int i)), some (.val (.tup (t.kids.map Tm.py))), rfl, ?_⟩
      unfold B_at_1
      by_cases h1 : 0 ≤ i
      · have h2 : ¬ i < (t.kids.length : Int) := by omega
        simp -implicitDefEqProofs [varX, inner_ok, h1, h2]
      · simp -implicitDefEqProofs [varX, inner_ok, h1]
def endAt (o : Option Tm) (outs : DS) : FR := match o with
  | some t => .ret (.val t.py) outs
  | none => .ex ⟨"StepError", none⟩ outs
theorem at_ok (t : Tm) (p : List Int) : M_at [.val t.py, .val (plI p)] = endAt (t.at_ p) [none, some (.val (plI p))] := by
  unfold M_at
  rw [runF_eq]
  rcases at_loop (some (.val (plI p))) p t none none with ⟨u, k', a', e1, e2⟩ | ⟨t', k', a', e1, e2⟩
  · rw [e1]
    unfold plI at e2 ⊢
    simp -implicitDefEqProofs [lockE, takeO, e2, endAt]
  · rw [e1]
    unfold plI at e2 ⊢
    simp -implicitDefEqProofs [lockE, takeO, e2, endAt]
end K01

/-! ## S8 -/
namespace K01
open PySem L2 DL
def Tm.node : Tm → Nat → Tm → Tm
  | .v x, _, _ => .v x
  | .f n ts, i, u => .f n (ts.take i ++ (u :: ts.drop (i + 1)))
def Tm.put_ : Tm → List Int → Tm → Tm
  | _, [], s => s
  | t, k :: ks, s => if h : 0 ≤ k ∧ k.toNat < t.kids.length then t.node k.toNat ((t.kids[k.toNat]'h.2).put_ ks s) else t
def Tm.way : Tm → List Int → List (Tm × Int)
  | _, [] => []
  | t, k :: ks => if h : 0 ≤ k ∧ k.toNat < t.kids.length then (t, k) :: (t.kids[k.toNat]'h.2).way ks else []
def wP (q : Tm × Int) : Py := .tup [q.1.py, .int q.2]
theorem put_loop1 (P S O : Option Sv) : ∀ (p : List Int) (t : Tm) (w : List Py) (k a : Option Sv), w.length + p.length ≤ 900 → (∃ u k' a', t.at_ p = some u ∧ forS (gNameS 4) B_put_1 (p.map .int) [some (.val t.py), P, S, some (.lst w), k, a, O] = .nx [some (.val u.py), P, S, some (.lst (w ++ (t.way p).map wP)), k', a', O]) ∨ 
    ∃ t' w' k' a', t.at_ p = none ∧ forS (gNameS 4) B_put_1 (p.map .int) [some (.val t.py), P, S, some (.lst w), k, a, O] = .ex ⟨"StepError", none⟩ [t', P, S, w', k', a', O]
  | [], t, w, k, a, _ => .inl ⟨t, k, a, rfl, by simp [Tm.way]⟩
  | i :: p, t, w, k, a, hz => by
    rw [List.map_cons, forS_cons (st1 := [some (.val t.py), P, S, some (.lst w), some (.val (.int i)), a, O]) (by simp), Tm.at_, Tm.way]
    by_cases h : 0 ≤ i ∧ i.toNat < t.kids.length
    · rw [dif_pos h, dif_pos h]
      have ix := ix_kid h
      have h1 : 0 ≤ i := h.1
      have h2 : i < (t.kids.length : Int) := by have := h.2; omega
      have l1 : w.length < sizeLine := sL (by rw [List.length_cons] at hz; omega)
      have eb : B_put_1 [some (.val t.py), P, S, some (.lst w), some (.val (.int i)), a, O] = .nx [some (.val (t.kids[i.toNat]'h.2).py), P, S, some (.lst (w ++ [wP (t, i)])), some (.val (.int i)), some (.val (.tup (t.kids.map Tm.py))), O] := by
        unfold B_put_1 wP
        simp -implicitDefEqProofs [varX, lockE, lstAt, inner_ok, h1, h2, ix, l1]
      rw [eb]
      rcases put_loop1 P S O p (t.kids[i.toNat]'h.2) (w ++ [wP (t, i)]) (some (.val (.int i))) (some (.val (.tup (t.kids.map Tm.py)))) (by simp at hz ⊢; omega) with ⟨u, k', a', e1, e2⟩ | ⟨t', w', k', a', e1, e2⟩
      · refine .inl ⟨u, k', a', e1, ?_⟩
        rw [loopS_nx, e2]
        simp
      · exact .inr ⟨t', w', k', a', e1, e2⟩
    · rw [dif_neg h]
      right
      refine ⟨some (.val t.py), some (.lst w), some (.val (.int i)), some (.val (.tup (t.kids.map Tm.py))), rfl, ?_⟩
      unfold B_put_1
      by_cases h1 : 0 ≤ i
      · have h2 : ¬ i < (t.kids.length : Int) := by omega
        simp -implicitDefEqProofs [varX, inner_ok, h1, h2]
      · simp -implicitDefEqProofs [varX, inner_ok, h1]
theorem cutP_drop1 {α : Type} (xs : List α) (k : Nat) : cutP xs (some ((k : Int) + 1)) none = xs.drop (k + 1) := cutP_drop xs (k + 1)
theorem kid_sz {t u : Tm} (h : u ∈ t.kids) : u.sz < t.sz ∧ u.dp < t.dp := by
  rw [sz_eq t, dp_eq t]
  generalize t.kids = l at h
  induction l with
  | nil => cases h
  | cons v vs ih =>
    rw [szs, dps]
    rcases List.mem_cons.mp h with rfl | h
    · omega
    · have := ih h; omega
theorem put_loop2 (T P W A : Option Sv) : ∀ (p : List Int) (t s : Tm) (l2 : List Py) (k o : Option Sv), t.sz ≤ 800 → t.at_ p ≠ none → ∃ k' o', forS (gTupS 2 (gConsS (gNameS 6) (gConsS (gNameS 4) gNilS))) B_put_2 ((t.way p).reverse.map wP ++ l2) [T, P, some (.val s.py), W, k, A, o] =
    forS (gTupS 2 (gConsS (gNameS 6) (gConsS (gNameS 4) gNilS))) B_put_2 l2 [T, P, some (.val (t.put_ p s).py), W, k', A, o']
  | [], t, s, l2, k, o, _, _ => ⟨k, o, by simp [Tm.way, Tm.put_]⟩
  | i :: p, t, s, l2, k, o, hz, ha => by
    rw [Tm.at_] at ha
    rw [Tm.way, Tm.put_]
    by_cases h : 0 ≤ i ∧ i.toNat < t.kids.length
    · rw [dif_pos h] at ha
      rw [dif_pos h, dif_pos h]
      have hm := List.getElem_mem h.2
      have hs := kid_sz hm
      obtain ⟨k', o', e⟩ := put_loop2 T P W A p (t.kids[i.toNat]'h.2) s (wP (t, i) :: l2) k o (by omega) ha
      generalize (t.kids[i.toNat]'h.2).put_ p s = u at e
      refine ⟨some (.val (.int i)), some (.val t.py), ?_⟩
      rw [List.reverse_cons, List.map_append, List.append_assoc]
      have e' : [(t, i)].map wP ++ l2 = wP (t, i) :: l2 := rfl
      rw [e', e, forS_cons (st1 := [T, P, some (.val u.py), W, some (.val (.int i)), A, some (.val t.py)]) (by simp [wP])]
      obtain ⟨j, rfl⟩ := Int.eq_ofNat_of_zero_le h.1
      have hj : j < t.kids.length := by have := h.2; simpa using this
      have hl := len_szs t.kids
      rw [sz_eq] at hz
      cases t with
      | v x => simp [Tm.kids] at hj
      | f n ts =>
        simp only [Tm.kids] at hj hl hz
        have l1 : min j ts.length + 1 ≤ sizeLine := sLe (by omega)
        have l2' : min j ts.length + 1 + (ts.length - (j + 1)) ≤ sizeLine := sLe (by omega)
        have eb : B_put_2 [T, P, some (.val u.py), W, some (.val (.int (j : Int))), A, some (.val (Tm.f n ts).py)] = .nx [T, P, some (.val ((Tm.f n ts).node j u).py), W, some (.val (.int (j : Int))), A, some (.val (Tm.f n ts).py)] := by
          unfold B_put_2
          rw [py_f, Tm.node, py_f]
          simp -implicitDefEqProofs [varX, lockE, cutP_take, cutP_drop1, l1, l2']
        rw [eb]
        simp
    · rw [dif_neg h] at ha
      exact absurd rfl ha
theorem small_ok {a b : Int} (h1 : a ≤ 400) (h2 : b ≤ 40) : M_need_small [.val (.int a), .val (.int b)] = .ret (.val .non) [some (.val (.int a)), some (.val (.int b))] := by
  unfold M_need_small
  rw [runF_eq]
  have h1' : ¬ 400 < a := by omega
  have h2' : ¬ 40 < b := by omega
  simp -implicitDefEqProofs [varX, h1', h2']
theorem szs_split (ts : List Tm) {i : Nat} (h : i < ts.length) : szs ts = szs (ts.take i) + (ts[i].sz + szs (ts.drop (i + 1))) := by
  have e : ts = ts.take i ++ (ts[i] :: ts.drop (i + 1)) := by rw [← List.drop_eq_getElem_cons h, List.take_append_drop]
  have h2 := congrArg szs e
  rw [szs_append, szs] at h2
  exact h2
theorem dps_split (ts : List Tm) {i : Nat} (h : i < ts.length) : dps ts = max (dps (ts.take i)) (max ts[i].dp (dps (ts.drop (i + 1)))) := by
  have e : ts = ts.take i ++ (ts[i] :: ts.drop (i + 1)) := by rw [← List.drop_eq_getElem_cons h, List.take_append_drop]
  have h2 := congrArg dps e
  rw [dps_append, dps] at h2
  exact h2
theorem put_sz (s : Tm) : ∀ (p : List Int) (t : Tm), (t.put_ p s).sz ≤ t.sz + s.sz ∧ (t.put_ p s).dp ≤ t.dp + s.dp
  | [], t => by simp [Tm.put_]
  | k :: p, t => by
    rw [Tm.put_]
    split
    · rename_i h
      have ih := put_sz s p (t.kids[k.toNat]'h.2)
      cases t with
      | v x => simp [Tm.kids] at h
      | f n ts =>
        simp only [Tm.kids] at h ih ⊢
        rw [Tm.node, Tm.sz, Tm.dp, Tm.sz, Tm.dp, szs_append, dps_append, szs, dps, szs_split ts h.2, dps_split ts h.2]
        omega
    · omega
theorem put_ok {t s : Tm} (ht : t.sz ≤ 200) (hs : s.sz ≤ 200) (hd : t.dp ≤ 20) (hd2 : s.dp ≤ 20) {p : List Int} (hp : p.length ≤ 800) : M_put [.val t.py, .val (plI p), .val s.py] = endAt ((t.at_ p).map fun _ => t.put_ p s) [none, some (.val (plI p)), none] := by
  unfold M_put
  rw [runF_eq]
  rcases put_loop1 (some (.val (plI p))) (some (.val s.py)) none p t [] none none (by simp; omega) with ⟨u, k', a', e1, e2⟩ | ⟨t', w', k', a', e1, e2⟩
  · obtain ⟨k2, o2, e3⟩ := put_loop2 (some (.val u.py)) (some (.val (plI p))) (some (.lst ((t.way p).map wP))) a' p t s [] k' none (by omega) (by rw [e1]; exact nofun)
    have hz := put_sz s p t
    have z1 := size_ok (t := t.put_ p s) (by omega)
    have z2 := depth_ok (t := t.put_ p s) (by omega)
    have z3 := small_ok (a := ((t.put_ p s).sz : Int)) (b := ((t.put_ p s).dp : Int)) (by omega) (by omega)
    rw [e1]
    unfold plI at *
    simp at e2 e3
    simp -implicitDefEqProofs [lockE, varX, takeO, e2, endAt, e3, z1, z2, z3]
  · rw [e1]
    unfold plI at *
    simp -implicitDefEqProofs [lockE, takeO, e2, endAt]
theorem toDs_ints : ∀ p : List Int, toDs (p.map .int) = p.map PyData.int
  | [] => rfl
  | i :: p => by simp only [List.map_cons, toDs, toD, toDs_ints p]
theorem lay_ints : ∀ p : List Int, PyData.canLayAll0 (p.map PyData.int) = true ∧ PyData.depthAll (p.map PyData.int) = 0
  | [] => ⟨rfl, rfl⟩
  | i :: p => by
    have := lay_ints p
    simp only [List.map_cons, PyData.canLayAll0, PyData.depthAll, PyData.canLay0, PyData.depth, this]
    simp
theorem eq_nil (p : List Int) : eqS (.val (.tup (p.map .int))) (.val (.tup [])) = some (decide (p = [])) := by
  have h := lay_ints p
  have h1 : SeqAt.shaped (.tuple (p.map PyData.int)) = true := by
    unfold SeqAt.shaped
    simp only [PyData.canLay0, PyData.depth, h]
    decide
  have h2 : SeqAt.shaped (.tuple []) = true := by decide
  show (if SeqAt.shaped (toDS (.val (.tup (p.map .int)))) = true ∧ SeqAt.shaped (toDS (.val (.tup []))) = true then some (PyData.eqv (toDS (.val (.tup (p.map .int)))) (toDS (.val (.tup [])))) else none) = _
  simp only [toDS, toD, toDs_ints, toDs, h1, h2, and_self, if_true, PyData.eqv]
  cases p <;> simp [PyData.eqvAll]
theorem lawput_ok : ∀ (n : Nat) (p : List Int) (t s : Tm), p.length < n → p.length ≤ 20 → t.sz ≤ 800 → t.at_ p ≠ none → M__law_put n [.val t.py, .val (plI p), .val s.py] = .ret (.val (t.put_ p s).py) [some (.val t.py), some (.val (plI p)), some (.val s.py)]
  | 0, p, t, s, h, _, _, _ => absurd h (Nat.not_lt_zero _)
  | n + 1, [], t, s, _, _, _, _ => by
    have := eq_nil []
    rw [M__law_put, runF_eq]
    unfold plI
    simp at this
    simp -implicitDefEqProofs [varX, takeO, this, Tm.put_]
  | n + 1, i :: p, t, s, h, hl, hz, ha => by
    rw [Tm.at_] at ha
    rw [Tm.put_]
    by_cases hv : 0 ≤ i ∧ i.toNat < t.kids.length
    · rw [dif_pos hv] at ha ⊢
      have hm := List.getElem_mem hv.2
      have hs := kid_sz hm
      have ih := lawput_ok n p (t.kids[i.toNat]'hv.2) s (by simp at h; omega) (by simp at hl; omega) (by omega) ha
      have ix := ix_kid hv
      have en := eq_nil (i :: p)
      obtain ⟨j, rfl⟩ := Int.eq_ofNat_of_zero_le hv.1
      have hj : j < t.kids.length := by have := hv.2; simpa using this
      have hk := len_szs t.kids
      rw [sz_eq] at hz
      generalize (t.kids[(j : Int).toNat]'hv.2).put_ p s = u at ih
      have ej : (j : Int).toNat = j := rfl
      rw [ej]
      cases t with
      | v x => simp [Tm.kids] at hj
      | f x ts =>
        simp only [Tm.kids] at *
        have l1 : min j ts.length + 1 ≤ sizeLine := sLe (by omega)
        have l2' : min j ts.length + 1 + (ts.length - (j + 1)) ≤ sizeLine := sLe (by omega)
        have c1 : cutP (Py.int (j : Int) :: p.map Py.int) (some 1) none = p.map Py.int := cutP_drop (Py.int (j : Int) :: p.map Py.int) 1
        rw [M__law_put, runF_eq]
        rw [py_f, Tm.node, py_f]
        unfold plI at *
        simp at en
        simp only [Int.toNat_natCast] at ih ix
        simp -implicitDefEqProofs [varX, takeO, en, ix, cutP_take, cutP_drop1, c1, ih, l1, l2']
    · rw [dif_neg hv] at ha
      exact absurd rfl ha
end K01

/-! ## S9 -/
namespace DL
open PySem L2
theorem tryM_ok {mb : DS → SO} {x : Str} {ps : List Str} {i : Nat} {ms : Addr → DS → SO} {st st1 : DS} (h : mb st = .nx st1) : tryM mb x ps i ms st = .nx st1 := by
  unfold tryM
  rw [tryS_ok]
  · exact h
  · intro x' st' e; rw [h] at e; cases e
theorem tryM_ex {mb : DS → SO} {x : Str} {ps : List Str} {i : Nat} {ms : Addr → DS → SO} {st st1 : DS} {r : SO} (h : mb st = .ex ⟨x, none⟩ st1) (hne : r ≠ .stuck) (k : ∀ a, clrS i (ms a (st1.set i (some (.val (.obj a))))) = r) : tryM mb x ps i ms st = r := by
  unfold tryM
  refine tryS_ex h ?_ hne k
  simp [cxC]
end DL
namespace K01
open PySem L2 DL
def refP : Py := .lst [.str "refused", .bl true]
def endTold (o : Option Tm) (u : Tm) : Py × Py := match o with
  | some t => (t.py, u.py)
  | none => (refP, refP)
theorem told_ok {t s : Tm} (ht : t.sz ≤ 200) (hs : s.sz ≤ 200) (hd : t.dp ≤ 20) (hd2 : s.dp ≤ 20) {p : List Int} (hp : p.length ≤ 800) :
    M__law_told [.val t.py, .val (plI p), .val s.py] = .ret (.lst [(endTold (t.at_ p) (t.put_ p s)).1, (endTold (t.at_ p) (t.put_ p s)).2]) [some (.val t.py), some (.val (plI p)), some (.val s.py)] := by
  have ea := at_ok t p
  have ep := put_ok ht hs hd hd2 hp
  have r2 : rangeL 0 1 2 = [.int 0, .int 1] := rfl
  have hin : inB 2 = true := by decide
  have z0 : 0 < sizeLine := by decide
  have z1 : 1 < sizeLine := by decide
  unfold M__law_told
  rw [runF_eq]
  cases hu : t.at_ p with
  | some u =>
    rw [hu] at ea ep
    simp only [endAt, Option.map_some] at ea ep
    have b1 : ∀ k, B__law_told_3 [some (.val t.py), some (.val (plI p)), some (.val s.py), some (.lst []), some (.val (.int 0)), k] = .nx [some (.val t.py), some (.val (plI p)), some (.val s.py), some (.lst [u.py]), some (.val (.int 0)), k] := fun k => by
      have e1 : B__law_told_1 [some (.val t.py), some (.val (plI p)), some (.val s.py), some (.lst []), some (.val (.int 0)), k] = .nx [some (.val t.py), some (.val (plI p)), some (.val s.py), some (.lst [u.py]), some (.val (.int 0)), k] := by
        unfold B__law_told_1
        simp -implicitDefEqProofs [varX, lstAt, ea, z0]
      unfold B__law_told_3
      rw [seqM_ap, tryM_ok e1]
      rfl
    have b2 : ∀ k, B__law_told_3 [some (.val t.py), some (.val (plI p)), some (.val s.py), some (.lst [u.py]), some (.val (.int 1)), k] = .nx [some (.val t.py), some (.val (plI p)), some (.val s.py), some (.lst [u.py, (t.put_ p s).py]), some (.val (.int 1)), k] := fun k => by
      have e1 : B__law_told_1 [some (.val t.py), some (.val (plI p)), some (.val s.py), some (.lst [u.py]), some (.val (.int 1)), k] = .nx [some (.val t.py), some (.val (plI p)), some (.val s.py), some (.lst [u.py, (t.put_ p s).py]), some (.val (.int 1)), k] := by
        unfold B__law_told_1
        simp -implicitDefEqProofs [varX, lstAt, ep, z1]
      unfold B__law_told_3
      rw [seqM_ap, tryM_ok e1]
      rfl
    simp -implicitDefEqProofs [hin, r2, forS, b1, b2, takeO, endTold]
  | none =>
    rw [hu] at ea ep
    simp only [endAt, Option.map_none] at ea ep
    have b : ∀ (f : List Py) (i : Int) k, (i = 0 ∨ i = 1) → f.length < 10 → ∃ k', B__law_told_3 [some (.val t.py), some (.val (plI p)), some (.val s.py), some (.lst f), some (.val (.int i)), k] = .nx [some (.val t.py), some (.val (plI p)), some (.val s.py), some (.lst (f ++ [refP])), some (.val (.int i)), k'] := fun f i k hi hf => by
      have zf : f.length < sizeLine := sL (by omega)
      have e1 : B__law_told_1 [some (.val t.py), some (.val (plI p)), some (.val s.py), some (.lst f), some (.val (.int i)), k] = .ex ⟨"StepError", none⟩ [some (.val t.py), some (.val (plI p)), some (.val s.py), some (.lst f), some (.val (.int i)), k] := by
        unfold B__law_told_1
        rcases hi with rfl | rfl
        · simp -implicitDefEqProofs [varX, lstAt, ea]
        · simp -implicitDefEqProofs [varX, lstAt, ep]
      refine ⟨none, ?_⟩
      unfold B__law_told_3
      rw [seqM_ap, tryM_ex (r := .nx [some (.val t.py), some (.val (plI p)), some (.val s.py), some (.lst (f ++ [refP])), some (.val (.int i)), none]) e1 nofun (fun a => ?_)]
      · simp
      · unfold A__law_told_2 refP
        simp -implicitDefEqProofs [lstAt, objE, objAt, zf, clrS]
    obtain ⟨k1, b1⟩ := b [] 0 none (.inl rfl) (by simp)
    obtain ⟨k2, b2⟩ := b [refP] 1 k1 (.inr rfl) (by simp)
    simp at b1 b2
    simp -implicitDefEqProofs [hin, r2, forS, b1, b2, takeO, endTold]
/-! ### names, symbols -/
def natI (p : List Nat) : List Int := p.map fun i : Nat => (i : Int)
theorem plP_eq (p : List Nat) : plP p = plI (natI p) := by unfold plP plI natI; rw [List.map_map]; rfl
mutual
theorem pl_at : ∀ t : Tm, t.pl.map (fun p => t.at_ (natI p)) = t.subs.map some
  | .v x => by simp [Tm.pl, Tm.subs, natI, Tm.at_]
  | .f n ts => by
    have := pls_at n ts ts 0 rfl
    rw [Tm.pl, Tm.subs, List.map_cons, List.map_cons, this]
    rfl
theorem pls_at (n : Str) (us : List Tm) : ∀ (ts : List Tm) (i : Nat), ts = us.drop i → (pls i ts).map (fun p => (Tm.f n us).at_ (natI p)) = (subss ts).map some
  | [], i, _ => rfl
  | t :: ts, i, h => by
    have hlt : i < us.length := by
      rcases Nat.lt_or_ge i us.length with z | z
      · exact z
      · rw [List.drop_of_length_le z] at h; cases h
    have hd := List.drop_eq_getElem_cons hlt
    rw [← h] at hd
    injection hd with h1 h2
    have ih := pls_at n us ts (i + 1) h2
    have it := pl_at t
    rw [pls, subss, List.map_append, List.map_append, ih, List.map_map, ← it]
    congr 1
    apply List.map_congr_left
    intro q _
    show (Tm.f n us).at_ ((i : Int) :: natI q) = t.at_ (natI q)
    rw [Tm.at_, dif_pos (by simp [Tm.kids]; exact hlt)]
    simp only [Tm.kids, Int.toNat_natCast]
    rw [← h1]
end
section
variable {κ : Type} [DecidableEq κ]
def addK (acc : List κ) (k : κ) : List κ := if k ∈ acc then acc else acc ++ [k]
theorem addK_len (acc : List κ) (k : κ) : (addK acc k).length ≤ acc.length + 1 := by unfold addK; split <;> simp
theorem putP_addK {g : κ → Py} (inj : ∀ a b, g a = g b → a = b) (acc : List κ) (k : κ) : putP (acc.map fun k => (g k, Py.bl true)) (g k) (.bl true) = (addK acc k).map fun k => (g k, Py.bl true) := by
  unfold putP addK
  by_cases h : k ∈ acc
  · have h1 : ((acc.map fun k => (g k, Py.bl true)).any fun kv => @decide (kv.1 = g k) (Classical.propDecidable _)) = true := by
      rw [List.any_eq_true]
      exact ⟨(g k, .bl true), List.mem_map.mpr ⟨k, h, rfl⟩, by simp⟩
    rw [if_pos h, if_pos h1, List.map_map]
    apply List.map_congr_left
    intro a _
    simp only [Function.comp]
    split <;> rfl
  · have h1 : ¬ ((acc.map fun k => (g k, Py.bl true)).any fun kv => @decide (kv.1 = g k) (Classical.propDecidable _)) = true := by
      rw [List.any_eq_true]
      rintro ⟨kv, hm, e⟩
      obtain ⟨a, ha, rfl⟩ := List.mem_map.mp hm
      have e' := @of_decide_eq_true _ (Classical.propDecidable _) e
      exact h (inj _ _ e' ▸ ha)
    rw [if_neg h, if_neg h1]
    simp
end
def varO : Tm → Option Str
  | .v x => some x
  | .f _ _ => none
def symO : Tm → Option (Str × Nat)
  | .v _ => none
  | .f n ts => some (n, ts.length)
def collect {κ : Type} [DecidableEq κ] (f : Tm → Option κ) : List κ → List Tm → List κ
  | acc, [] => acc
  | acc, t :: ts => match f t with
    | some k => collect f (addK acc k) ts
    | none => collect f acc ts
theorem vars_loop (T : Option Sv) : ∀ (l : List Tm) (acc : List Str), acc.length + l.length ≤ 900 →
    dcS (fun d => (pkK d).isSome) (gNameS 1) Q_variables_1 C_variables_2 C_variables_3 [1] (l.map Tm.py) (acc.map fun k => (Py.str k, Py.bl true)) [T, none] = .ok (.dic ((collect varO acc l).map fun k => (Py.str k, Py.bl true))) [T, none]
  | [], acc, _ => rfl
  | t :: l, acc, h => by
    have hz : acc.length < sizeLine := sL (by simp at h; omega)
    have e1 : Q_variables_1 [T, some (.val t.py)] = .ok t.isV [T, some (.val t.py)] := by
      unfold Q_variables_1
      simp -implicitDefEqProofs [varX, isvar_ok]
    have e2 : C_variables_2 [T, some (.val t.py)] = .ok t.py [T, some (.val t.py)] := by
      unfold C_variables_2
      simp -implicitDefEqProofs [lockE]
    have hl : (addK acc (match t with | .v x => x | .f n _ => n)).length ≤ acc.length + 1 := addK_len _ _
    cases t with
    | v x =>
      have ih := vars_loop T l (addK acc x) (by simp at h hl; omega)
      rw [List.map_cons, dcS]
      rw [py_v] at e1 e2 ⊢
      have e3 : C_variables_3 [T, some (.val (.str x))] = .ok (.bl true) [T, some (.val (.str x))] := rfl
      have e4 : (pkK (Py.str x)).isSome = true := rfl
      have hp := putP_addK (g := Py.str) (fun a b e => Py.str.inj e) acc x
      simp -implicitDefEqProofs [e1, e2, e3, e4, Tm.isV, hz, hp, ih, collect, varO]
    | f n ts =>
      have ih := vars_loop T l acc (by simp at h; omega)
      rw [List.map_cons, dcS]
      simp -implicitDefEqProofs [e1, Tm.isV, ih, collect, varO]
theorem variables_ok {t : Tm} (h : t.sz ≤ 800) : M_variables [.val t.py] = .ret (.val (.tup ((collect varO [] t.subs).map .str))) [some (.val t.py)] := by
  have e := vars_loop (some (.val t.py)) t.subs [] (by simp [subs_len]; omega)
  unfold M_variables
  rw [runF_eq]
  simp at e
  simp -implicitDefEqProofs [dcM, varX, parts_ok h, e]
end K01

/-! ## S10 -/
namespace K01
open PySem L2 DL
theorem syms_loop (T : Option Sv) : ∀ (l : List Tm) (acc : List (Str × Nat)), acc.length + l.length ≤ 900 →
    dcS (fun d => (pkT d).isSome) (gNameS 1) Q_symbols_1 C_symbols_2 C_symbols_3 [1] (l.map Tm.py) (acc.map fun k => (sgP k, Py.bl true)) [T, none] = .ok (.dic ((collect symO acc l).map fun k => (sgP k, Py.bl true))) [T, none]
  | [], acc, _ => rfl
  | .v x :: l, acc, h => by
    have e1 : Q_symbols_1 [T, some (.val (Tm.v x).py)] = .ok false [T, some (.val (Tm.v x).py)] := by
      have := isvar_ok (.v x)
      unfold Q_symbols_1
      simp -implicitDefEqProofs [varX, this, Tm.isV]
    have ih := syms_loop T l acc (by simp at h; omega)
    rw [List.map_cons, dcS]
    simp -implicitDefEqProofs [e1, ih, collect, symO]
  | .f n ts :: l, acc, h => by
    have hz : acc.length < sizeLine := sL (by simp at h; omega)
    have hl := addK_len acc (n, ts.length)
    have ih := syms_loop T l (addK acc (n, ts.length)) (by simp at h; omega)
    have e1 : Q_symbols_1 [T, some (.val (Tm.f n ts).py)] = .ok true [T, some (.val (Tm.f n ts).py)] := by
      have := isvar_ok (.f n ts)
      unfold Q_symbols_1
      simp -implicitDefEqProofs [varX, this, Tm.isV]
    have e2 : C_symbols_2 [T, some (.val (Tm.f n ts).py)] = .ok (sgP (n, ts.length)) [T, some (.val (Tm.f n ts).py)] := by
      unfold C_symbols_2 sgP
      rw [py_f]
      simp -implicitDefEqProofs [varX]
    have e3 : C_symbols_3 [T, some (.val (Tm.f n ts).py)] = .ok (.bl true) [T, some (.val (Tm.f n ts).py)] := rfl
    have e4 : (pkT (sgP (n, ts.length))).isSome = true := rfl
    have hp := putP_addK (g := sgP) (fun a b e => by
      obtain ⟨a1, a2⟩ := a
      obtain ⟨b1, b2⟩ := b
      unfold sgP at e
      injection e with e
      injection e with e1 e2
      injection e1 with e1
      injection e2 with e2
      injection e2 with e2
      exact Prod.ext e1 (Int.ofNat.inj e2)) acc (n, ts.length)
    rw [List.map_cons, dcS]
    simp -implicitDefEqProofs [e1, e2, e3, e4, hz, hp, ih, collect, symO]
theorem symbols_ok {t : Tm} (h : t.sz ≤ 800) : M_symbols [.val t.py] = .ret (.val (.tup ((collect symO [] t.subs).map sgP))) [some (.val t.py)] := by
  have e := syms_loop (some (.val t.py)) t.subs [] (by simp [subs_len]; omega)
  unfold M_symbols
  rw [runF_eq]
  simp at e
  simp -implicitDefEqProofs [dcM, varX, parts_ok h, e]
/-! ### names by places -/
theorem flat_strs (acc : List Str) : (acc.map Py.str).all flatP = true := by
  rw [List.all_eq_true]
  intro d hd
  obtain ⟨x, _, rfl⟩ := List.mem_map.mp hd
  rfl
theorem any_strs (x : Str) : ∀ acc : List Str, ((acc.map Py.str).any fun z => PyData.eqv (toD z) (toD (.str x))) = decide (x ∈ acc)
  | [] => rfl
  | y :: acc => by
    rw [List.map_cons, List.any_cons, any_strs x acc]
    have : PyData.eqv (toD (.str y)) (toD (.str x)) = decide (x = y) := by
      simp only [toD, PyData.eqv]
      by_cases h : x = y
      · subst h; simp
      · have h' : ¬ y = x := fun e => h e.symm
        simp [h, h']
    rw [this]
    by_cases h : x = y
    · subst h; simp
    · simp [h]
theorem inS_str (x : Str) (acc : List Str) : inS (.val (.str x)) (.lst (acc.map Py.str)) = some (decide (x ∈ acc)) := by
  unfold inS
  simp only [valS, Option.bind_some, itemsS_l]
  rw [if_pos ⟨rfl, flat_strs acc⟩, any_strs]
theorem names_loop (t : Tm) : ∀ (ps : List (List Nat)) (us : List Tm) (acc : List Str) (a b : Option Sv), ps.map (fun p => t.at_ (natI p)) = us.map some → acc.length + us.length ≤ 900 →
    ∃ a' b', forS (gNameS 2) B__law_names_1 (ps.map plP) [some (.val t.py), some (.lst (acc.map Py.str)), a, b] = .nx [some (.val t.py), some (.lst ((collect varO acc us).map Py.str)), a', b']
  | [], us, acc, a, b, h, _ => by
    cases us with
    | nil => exact ⟨a, b, by simp [collect]⟩
    | cons u us => cases h
  | p :: ps, [], acc, a, b, h, _ => by cases h
  | p :: ps, u :: us, acc, a, b, h, hz => by
    rw [List.map_cons, List.map_cons] at h
    injection h with h1 h2
    have ea := lawat_ok t (natI p)
    rw [h1, ← plP_eq] at ea
    simp only [optP] at ea
    have lz : acc.length < sizeLine := sL (by simp at hz; omega)
    rw [List.map_cons, forS_cons (st1 := [some (.val t.py), some (.lst (acc.map Py.str)), some (.val (plP p)), b]) (by simp)]
    cases u with
    | v x =>
      have hl := addK_len acc x
      obtain ⟨a', b', e⟩ := names_loop t ps us (addK acc x) (some (.val (plP p))) (some (.val (.str x))) h2 (by simp at hz; omega)
      refine ⟨a', b', ?_⟩
      have eb : B__law_names_1 [some (.val t.py), some (.lst (acc.map Py.str)), some (.val (plP p)), b] = .nx [some (.val t.py), some (.lst ((addK acc x).map Py.str)), some (.val (plP p)), some (.val (.str x))] := by
        have hin := inS_str x acc
        rw [py_v] at ea
        unfold B__law_names_1 addK
        by_cases hm : x ∈ acc
        · simp -implicitDefEqProofs [varX, lockE, lstAt, ea, hin, hm]
        · simp -implicitDefEqProofs [varX, lockE, lstAt, ea, hin, hm, lz]
      rw [eb, loopS_nx, e]
      rfl
    | f n ts =>
      obtain ⟨a', b', e⟩ := names_loop t ps us acc (some (.val (plP p))) (some (.val (Tm.f n ts).py)) h2 (by simp at hz; omega)
      refine ⟨a', b', ?_⟩
      have eb : B__law_names_1 [some (.val t.py), some (.lst (acc.map Py.str)), some (.val (plP p)), b] = .nx [some (.val t.py), some (.lst (acc.map Py.str)), some (.val (plP p)), some (.val (Tm.f n ts).py)] := by
        unfold B__law_names_1
        rw [py_f n ts] at ea ⊢
        simp -implicitDefEqProofs [varX, lockE, lstAt, ea]
      rw [eb, loopS_nx, e]
      rfl
theorem names_ok {t : Tm} (h : t.sz ≤ 800) (hd : t.dp ≤ 12) : M__law_names [.val t.py] = .ret (.val (.tup ((collect varO [] t.subs).map .str))) [some (.val t.py)] := by
  obtain ⟨a, b, e⟩ := names_loop t t.pl t.subs [] none none (pl_at t) (by simp [subs_len]; omega)
  unfold M__law_names
  rw [runF_eq]
  simp at e
  simp -implicitDefEqProofs [varX, places_ok 12 t hd h, e]
/-! ### heads -/
theorem eqv_sg (a b : Str × Nat) : PyData.eqv (toD (sgP a)) (toD (sgP b)) = decide (b = a) := by
  obtain ⟨a1, a2⟩ := a
  obtain ⟨b1, b2⟩ := b
  simp only [sgP, toD, toDs, PyData.eqv, PyData.eqvAll, Bool.and_true]
  by_cases h1 : b1 = a1
  · by_cases h2 : b2 = a2
    · subst h1 h2; simp
    · have h2' : ¬ a2 = b2 := fun e => h2 e.symm
      have h3 : ((a2 : Int) == (b2 : Int)) = false := beq_eq_false_iff_ne.mpr (by omega)
      simp [h2, h3]
  · have h1' : ¬ a1 = b1 := fun e => h1 e.symm
    simp [h1, h1']
theorem any_sg (x : Str × Nat) : ∀ acc : List (Str × Nat), ((acc.map sgP).any fun z => PyData.eqv (toD z) (toD (sgP x))) = decide (x ∈ acc)
  | [] => rfl
  | y :: acc => by
    rw [List.map_cons, List.any_cons, any_sg x acc, eqv_sg]
    by_cases h : x = y
    · subst h; simp
    · simp [h]
abbrev okS (x : Str) : Prop := PyData.strOk x = true
theorem lay_sg {x : Str × Nat} (h : okS x.1) : (toD (sgP x)).canLay0 = true ∧ (toD (sgP x)).depth = 1 := by
  have h' : PyData.strOk x.1 = true := h
  simp [sgP, toD, toDs, PyData.canLay0, PyData.canLayAll0, PyData.depth, PyData.depthAll, h']
theorem lay_sgs : ∀ acc : List (Str × Nat), (∀ k ∈ acc, okS k.1) → PyData.canLayAll0 (toDs (acc.map sgP)) = true ∧ PyData.depthAll (toDs (acc.map sgP)) ≤ 1
  | [], _ => ⟨rfl, Nat.zero_le _⟩
  | k :: acc, h => by
    have h1 := lay_sg (h k List.mem_cons_self)
    have h2 := lay_sgs acc fun k hk => h k (List.mem_cons_of_mem _ hk)
    rw [List.map_cons, toDs, PyData.canLayAll0, PyData.depthAll, h1.1, h2.1, h1.2]
    refine ⟨rfl, ?_⟩
    have := h2.2
    omega
theorem inS_sg (x : Str × Nat) (acc : List (Str × Nat)) (hx : okS x.1) (h : ∀ k ∈ acc, okS k.1) : inS (.val (sgP x)) (.lst (acc.map sgP)) = some (decide (x ∈ acc)) := by
  have h1 := lay_sg hx
  have h2 := lay_sgs acc h
  unfold inS
  simp only [valS, Option.bind_some, itemsS_l]
  rw [if_neg (fun z => Bool.false_ne_true z.1), if_pos, any_sg]
  refine ⟨rfl, ?_, ?_⟩
  · unfold SeqAt.shaped
    rw [h1.1, h1.2]; decide
  · unfold SeqAt.shaped
    have d : (PyData.list (toDs (acc.map sgP))).depth = PyData.depthAll (toDs (acc.map sgP)) + 1 := by rw [PyData.depth]
    have c : (PyData.list (toDs (acc.map sgP))).canLay0 = true := by rw [PyData.canLay0]; exact h2.1
    have := h2.2
    rw [d, c, Bool.true_and, decide_eq_true_eq]
    omega
/-! ### the law's own depth, equal things -/
theorem maxS_ints (a : Int) (l : List Int) : maxS (.val (.lst ((a :: l).map .int))) = some (.int (l.foldl max a)) := by
  have h : ∀ l : List Int, allM asInt (l.map Py.int) = some l := by
    intro l
    induction l with
    | nil => rfl
    | cons x l ih => simp only [List.map_cons, allM, asInt, ih]
  unfold maxS
  rw [listS_lst, Option.bind_some, h, Option.bind_some]
  rfl
theorem fold_dps : ∀ (ts : List Tm) (a : Nat), (ts.map fun t => (t.dp : Int)).foldl max (a : Int) = ((max a (dps ts) : Nat) : Int)
  | [], a => by simp [dps]
  | t :: ts, a => by
    have e : max (a : Int) (t.dp : Int) = ((max a t.dp : Nat) : Int) := by omega
    rw [List.map_cons, List.foldl_cons, e, fold_dps ts, dps, Nat.max_assoc]
theorem ldepth_loop {R : FM} (T : Option Sv) : ∀ (ts : List Tm) (acc : List Py), (∀ t ∈ ts, R [.val t.py] = .ret (.val (.int t.dp)) [some (.val t.py)]) → acc.length + ts.length ≤ 900 →
    lcS (gNameS 1) yesT (C__law_depth_1 R) [1] (ts.map Tm.py) acc [T, none] = .ok (.lst (acc ++ (ts.map fun t => (t.dp : Int)).map Py.int)) [T, none]
  | [], acc, _, _ => by simp
  | t :: ts, acc, hR, hz => by
    have lz : acc.length < sizeLine := sL (by simp at hz; omega)
    have ih := ldepth_loop (R := R) T ts (acc ++ [.int t.dp]) (fun u hu => hR u (List.mem_cons_of_mem _ hu)) (by simp at hz ⊢; omega)
    have e1 : C__law_depth_1 R [T, some (.val t.py)] = .ok (.int t.dp) [T, some (.val t.py)] := by
      unfold C__law_depth_1
      simp -implicitDefEqProofs [varX, hR t List.mem_cons_self]
    rw [List.map_cons, lcS_cons (st1 := [T, some (.val t.py)]) (by simp)]
    simp -implicitDefEqProofs [e1, lz]
    simp at ih
    rw [ih]
theorem kids_le {n : Str} {ts : List Tm} {t : Tm} (h : t ∈ ts) : t.dp ≤ dps ts ∧ t.sz ≤ szs ts := by
  induction ts with
  | nil => cases h
  | cons u us ih =>
    rw [dps, szs]
    rcases List.mem_cons.mp h with rfl | h
    · omega
    · have := ih h; omega
theorem ldepth_ok : ∀ (n : Nat) (t : Tm), t.dp ≤ n → t.sz ≤ 800 → M__law_depth n [.val t.py] = .ret (.val (.int t.dp)) [some (.val t.py)]
  | 0, t, h, _ => by rw [dp_eq] at h; omega
  | n + 1, .v x, h, _ => by
    rw [M__law_depth, runF_eq]
    simp -implicitDefEqProofs [varX, py_v, Tm.dp]
  | n + 1, .f x ts, h, hz => by
    rw [Tm.dp] at h
    rw [Tm.sz] at hz
    have hl := len_szs ts
    have hR : ∀ t ∈ ts, M__law_depth n [.val t.py] = .ret (.val (.int t.dp)) [some (.val t.py)] := fun t ht => by
      have := kids_le (n := x) ht
      exact ldepth_ok n t (by omega) (by omega)
    have e := ldepth_loop (some (.val (Tm.f x ts).py)) ts [] hR (by simp; omega)
    have hm := maxS_ints 0 (ts.map fun t => (t.dp : Int))
    have hf := fold_dps ts 0
    have l1 : ts.length + 1 ≤ sizeLine := sLe (by omega)
    have l2 : 1 + ts.length ≤ sizeLine := sLe (by omega)
    rw [show ((0 : Nat) : Int) = 0 from rfl] at hf
    rw [hf] at hm
    rw [M__law_depth, runF_eq]
    rw [py_f] at e ⊢
    simp at e hm
    simp -implicitDefEqProofs [varX, e, hm, l1, l2, Tm.dp]
end K01

/-! ## S11 -/
namespace K01
open PySem L2 DL
/-! ### equal things are told equal -/
def Fine : Nat → Py → Prop
  | 0, _ => False
  | n + 1, .tup ds => ds.length ≤ 900 ∧ ∀ d ∈ ds, Fine n d
  | n + 1, .lst ds => ds.length ≤ 900 ∧ ∀ d ∈ ds, Fine n d
  | _ + 1, .int _ => True
  | _ + 1, .str _ => True
  | _ + 1, .bl _ => True
  | _ + 1, _ => False
theorem Fine.mono : ∀ {n m : Nat} {d : Py}, Fine n d → n ≤ m → Fine m d
  | 0, _, _, h, _ => h.elim
  | n + 1, 0, _, _, h => absurd h (Nat.not_succ_le_zero _)
  | n + 1, m + 1, .tup ds, h, hm => ⟨h.1, fun d hd => (h.2 d hd).mono (Nat.le_of_succ_le_succ hm)⟩
  | n + 1, m + 1, .lst ds, h, hm => ⟨h.1, fun d hd => (h.2 d hd).mono (Nat.le_of_succ_le_succ hm)⟩
  | n + 1, m + 1, .int _, _, _ => trivial
  | n + 1, m + 1, .str _, _, _ => trivial
  | n + 1, m + 1, .bl _, _, _ => trivial
  | n + 1, m + 1, .non, h, _ => h.elim
  | n + 1, m + 1, .dic _, h, _ => h.elim
  | n + 1, m + 1, .obj _, h, _ => h.elim
theorem all_rep (n : Nat) : allS (.val (.lst (List.replicate n (.bl true)))) = some (.bl true) := by
  have h : ∀ n, allM asBl (List.replicate n (Py.bl true)) = some (List.replicate n true) := by
    intro n
    induction n with
    | zero => rfl
    | succ n ih => simp only [List.replicate_succ, allM, asBl, ih]
  unfold allS
  rw [listS_lst, Option.bind_some, h, Option.map_some]
  simp
theorem same_loop {R : FM} (T : Py) {ds : List Py} (hx : T = .tup ds ∨ T = .lst ds) (hR : ∀ d ∈ ds, R [.val d, .val d] = .ret (.val (.bl true)) [some (.val d), some (.val d)]) (hz : ds.length ≤ 900) : ∀ (m i : Nat), i + m = ds.length →
    lcS (gNameS 2) yesT (C__law_same_1 R) [2] (rangeL i 1 m) (List.replicate i (.bl true)) [some (.val T), some (.val T), none] = .ok (.lst (List.replicate (i + m) (.bl true))) [some (.val T), some (.val T), none]
  | 0, i, _ => by rw [rangeL_0]; simp
  | m + 1, i, h => by
    have hlt : i < ds.length := by omega
    have ih := same_loop (R := R) T hx hR hz m (i + 1) (by omega)
    have ix : atI ds (i : Int) = some ds[i] := DL.atI_nat hlt
    have ixs : ixS (.val T) (.val (.int i)) = some ds[i] := by rcases hx with rfl | rfl <;> exact ix
    have lz : i < sizeLine := sL (by omega)
    have e1 : C__law_same_1 R [some (.val T), some (.val T), some (.val (.int i))] = .ok (.bl true) [some (.val T), some (.val T), some (.val (.int i))] := by
      unfold C__law_same_1
      simp -implicitDefEqProofs [varX, ixs, hR ds[i] (List.getElem_mem hlt)]
    have hi1 : ((i : Int) + 1) = ((i + 1 : Nat) : Int) := rfl
    rw [rangeL_s, hi1, lcS_cons (st1 := [some (.val T), some (.val T), some (.val (.int i))]) (by simp)]
    rw [List.replicate_succ'] at ih
    simp -implicitDefEqProofs [e1, lz]
    simp at ih
    rw [ih]
    simp
    omega
theorem same_ok : ∀ (n : Nat) (d : Py), Fine n d → M__law_same n [.val d, .val d] = .ret (.val (.bl true)) [some (.val d), some (.val d)]
  | 0, _, h => h.elim
  | n + 1, .tup ds, h => by
    have e := same_loop (R := M__law_same n) (.tup ds) (.inl rfl) (fun d hd => same_ok n d (h.2 d hd)) h.1 ds.length 0 (by simp)
    have hl := h.1
    have hin : inB (ds.length : Int) = true := by unfold inB; simp only [decide_eq_true_eq]; omega
    have ha := all_rep ds.length
    rw [M__law_same, runF_eq]
    simp at e
    simp -implicitDefEqProofs [varX, hin, e, ha]
  | n + 1, .lst ds, h => by
    have e := same_loop (R := M__law_same n) (.lst ds) (.inr rfl) (fun d hd => same_ok n d (h.2 d hd)) h.1 ds.length 0 (by simp)
    have hl := h.1
    have hin : inB (ds.length : Int) = true := by unfold inB; simp only [decide_eq_true_eq]; omega
    have ha := all_rep ds.length
    rw [M__law_same, runF_eq]
    simp at e
    simp -implicitDefEqProofs [varX, hin, e, ha]
  | n + 1, .int i, _ => by
    rw [M__law_same, runF_eq]
    simp -implicitDefEqProofs [varX]
  | n + 1, .str i, _ => by
    rw [M__law_same, runF_eq]
    simp -implicitDefEqProofs [varX]
  | n + 1, .bl i, _ => by
    rw [M__law_same, runF_eq]
    simp -implicitDefEqProofs [varX]
  | n + 1, .non, h => h.elim
  | n + 1, .dic _, h => h.elim
  | n + 1, .obj _, h => h.elim
theorem fine_py : ∀ (n : Nat) (t : Tm), t.dp ≤ n → t.sz ≤ 800 → Fine (2 * n + 1) t.py
  | 0, t, h, _ => by rw [dp_eq] at h; omega
  | n + 1, .v x, _, _ => by rw [py_v]; exact trivial
  | n + 1, .f x ts, h, hz => by
    rw [Tm.dp] at h
    rw [Tm.sz] at hz
    have hl := len_szs ts
    rw [py_f]
    refine ⟨by simp, fun d hd => ?_⟩
    rcases List.mem_cons.mp hd with rfl | hd
    · exact trivial
    · rw [List.mem_singleton] at hd
      subst hd
      refine ⟨by simp; omega, fun d hd => ?_⟩
      obtain ⟨t, ht, rfl⟩ := List.mem_map.mp hd
      have := kids_le (n := x) ht
      exact fine_py n t (by omega) (by omega)
theorem fine_map {α : Type} {g : α → Py} {n : Nat} {l : List α} (hl : l.length ≤ 900) (h : ∀ a ∈ l, Fine n (g a)) : Fine (n + 1) (.lst (l.map g)) ∧ Fine (n + 1) (.tup (l.map g)) := by
  refine ⟨⟨by simpa using hl, fun d hd => ?_⟩, ⟨by simpa using hl, fun d hd => ?_⟩⟩ <;>
  · obtain ⟨a, ha, rfl⟩ := List.mem_map.mp hd
    exact h a ha
theorem fine_plP {p : List Nat} (h : p.length ≤ 900) : Fine 2 (plP p) := (fine_map (n := 1) (g := fun i : Nat => Py.int i) h fun _ _ => trivial).2
theorem fine_sgP (k : Str × Nat) : Fine 2 (sgP k) := by
  refine ⟨by simp, fun d hd => ?_⟩
  rcases List.mem_cons.mp hd with rfl | hd
  · exact trivial
  · rw [List.mem_singleton] at hd; subst hd; exact trivial
theorem fine_refP : Fine 2 refP := by
  refine ⟨by simp, fun d hd => ?_⟩
  rcases List.mem_cons.mp hd with rfl | hd
  · exact trivial
  · rw [List.mem_singleton] at hd; subst hd; exact trivial
end K01

/-! ## S12 -/
namespace K01
open PySem L2 DL
theorem at_le : ∀ (p : List Int) (t u : Tm), t.at_ p = some u → u.dp ≤ t.dp ∧ u.sz ≤ t.sz
  | [], t, u, h => by cases h; exact ⟨Nat.le_refl _, Nat.le_refl _⟩
  | k :: p, t, u, h => by
    rw [Tm.at_] at h
    split at h
    · rename_i hk
      have h1 := at_le p _ u h
      have h2 := kid_sz (List.getElem_mem hk.2)
      omega
    · cases h
theorem at_len : ∀ (p : List Int) (t : Tm), t.at_ p ≠ none → p.length < t.dp
  | [], t, _ => by rw [dp_eq]; simp; omega
  | k :: p, t, h => by
    rw [Tm.at_] at h
    split at h
    · rename_i hk
      have h1 := at_len p _ h
      have h2 := kid_sz (List.getElem_mem hk.2)
      rw [List.length_cons]
      omega
    · exact absurd rfl h
structure TFit (t s : Tm) : Prop where
  tz : t.sz ≤ 200
  sz : s.sz ≤ 200
  td : t.dp ≤ 10
  sd : s.dp ≤ 10
theorem law_end {t s : Tm} (f : TFit t s) {p : List Int} (hp : p.length ≤ 100) (a b c d e g h i : Option Sv) : ∃ st', B_law_2 [a, b, c, d, some (.val t.py), some (.val s.py), e, g, some (.val (plI p)), h, i] = .rt (.val (.bl true)) st' := by
  have z1 := f.tz
  have z2 := f.sz
  have z3 := f.td
  have z4 := f.sd
  have e1 := lawat_ok t p
  have e2 := told_ok (t := t) (s := s) (p := p) (by omega) (by omega) (by omega) (by omega) (by omega)
  unfold B_law_2
  cases hu : t.at_ p with
  | none =>
    rw [hu] at e1 e2
    simp only [optP, endTold] at e1 e2
    have hf : Fine 60 (.lst [refP, refP]) := Fine.mono (n := 3) ⟨by simp, fun d hd => by
      have : d = refP := by simpa using hd
      subst this; exact fine_refP⟩ (by decide)
    have e3 := same_ok 60 _ hf
    unfold refP at e2 e3
    simp -implicitDefEqProofs [varX, e1, e2, e3]
  | some u =>
    have e4 := lawput_ok 12 p t s (by have := at_len p t (by rw [hu]; exact nofun); omega) (by have := at_len p t (by rw [hu]; exact nofun); omega) (by omega) (by rw [hu]; exact nofun)
    rw [hu] at e1 e2
    simp only [optP, endTold] at e1 e2
    have hn : isNonS (.val u.py) = false := by cases u <;> rfl
    have hz := put_sz s p t
    have hul := at_le p t u hu
    have f1 := fine_py 20 u (by omega) (by omega)
    have f2 := fine_py 20 (t.put_ p s) (by omega) (by omega)
    have hf : Fine 60 (.lst [u.py, (t.put_ p s).py]) := Fine.mono (n := 42) ⟨by simp, fun d hd => by
      rcases List.mem_cons.mp hd with rfl | hd
      · exact f1
      · rw [List.mem_singleton] at hd; subst hd; exact f2⟩ (by decide)
    have e3 := same_ok 60 _ hf
    simp -implicitDefEqProofs [varX, e1, e2, hn, e4, e3]
theorem pick5 {d : Int} (h : 0 ≤ d) (h2 : d < 5) : ∃ x, atI [Py.int 0, Py.int 1, Py.int 3, Py.int (-1), Py.int (-2)] d = some (.int x) := by
  have : d = 0 ∨ d = 1 ∨ d = 2 ∨ d = 3 ∨ d = 4 := by omega
  rcases this with rfl | rfl | rfl | rfl | rfl
  · exact ⟨0, by simp⟩
  · exact ⟨1, by simp⟩
  · exact ⟨3, by simp⟩
  · exact ⟨-1, by simp⟩
  · exact ⟨-2, by simp⟩
theorem law_mid {t s : Tm} (f : TFit t s) {b : Int} {c : List Py} (hc : CS b c) (a sg nm hd p o k : Option Sv) : ∃ st', B_law_3 [a, some (.lst c), sg, nm, some (.val t.py), some (.val s.py), some (.val (.lst (t.pl.map plP))), hd, p, o, k] = .rt (.val (.bl true)) st' := by
  have z1 := f.tz
  have z3 := f.td
  have hl := pl_len t
  have hpos : 0 < t.pl.length := by rw [hl, sz_eq]; omega
  obtain ⟨d, c1, d0, d1, h1, e1⟩ := take_ok hc (m := (t.pl.length : Int)) (by omega) (by omega)
  obtain ⟨i, rfl⟩ := Int.eq_ofNat_of_zero_le d0
  have hi : i < t.pl.length := by omega
  have ix : atI (t.pl.map plP) (i : Int) = some (plP t.pl[i]) := by rw [DL.atI_nat (by simpa using hi)]; simp
  have hq := pl_lt t _ (List.getElem_mem hi)
  generalize t.pl[i] = q at ix hq
  obtain ⟨d2, c2, _, _, h2, e2⟩ := take_ok h1 (m := 2) (by decide) (by decide)
  have hql : (natI q).length = q.length := by simp [natI]
  rw [plP_eq] at ix
  by_cases hd2 : d2 = 0
  · obtain ⟨d3, c3, a3, b3, h3, e3⟩ := take_ok h2 (m := (q.length : Int) + 1) (by omega) (by omega)
    obtain ⟨d4, c4, a4, b4, h4, e4⟩ := take_ok h3 (m := 5) (by decide) (by decide)
    obtain ⟨d5, c5, a5, b5, h5, e5⟩ := take_ok h4 (m := 2) (by decide) (by decide)
    obtain ⟨x, hx⟩ := pick5 a4 b4
    obtain ⟨j, rfl⟩ := Int.eq_ofNat_of_zero_le a3
    obtain ⟨l, rfl⟩ := Int.eq_ofNat_of_zero_le a5
    obtain ⟨st', e⟩ := law_end f (p := (natI q).take j ++ [x] ++ (natI q).drop (j + l)) (by simp [hql]; omega) a (some (.lst c5)) sg nm (some (.val (.lst (t.pl.map plP)))) hd o (some (.val (.int (j : Int))))
    refine ⟨st', ?_⟩
    have cd : cutP ((natI q).map Py.int) (some ((j : Int) + (l : Int))) none = ((natI q).map Py.int).drop (j + l) := cutP_drop _ (j + l)
    have l1 : min j q.length + 1 ≤ sizeLine := sLe (by omega)
    have l2 : min j q.length + 1 + (q.length - (j + l)) ≤ sizeLine := sLe (by omega)
    unfold B_law_3
    unfold plI at ix e
    simp at e
    simp -implicitDefEqProofs [varX, lockE, takeA_s, e1, ix, e2, hd2, hql, e3, e4, e5, hx, cutP_take, cd, l1, l2, e]
  · obtain ⟨st', e⟩ := law_end f (p := natI q) (by omega) a (some (.lst c2)) sg nm (some (.val (.lst (t.pl.map plP)))) hd o k
    refine ⟨st', ?_⟩
    unfold B_law_3
    simp -implicitDefEqProofs [varX, takeA_s, e1, ix, e2, hd2, e]
def heads (t : Tm) : List (Str × Nat) := collect symO [] t.subs
def vnames (t : Tm) : List Str := collect varO [] t.subs
theorem collect_len {κ : Type} [DecidableEq κ] (f : Tm → Option κ) : ∀ (l : List Tm) (acc : List κ), (collect f acc l).length ≤ acc.length + l.length
  | [], acc => by simp [collect]
  | t :: l, acc => by
    rw [collect]
    split
    · rename_i k _
      have h1 := collect_len f l (addK acc k)
      have h2 := addK_len acc k
      rw [List.length_cons]
      omega
    · have h1 := collect_len f l acc
      rw [List.length_cons]
      omega
theorem law_told {t s : Tm} (f : TFit t s) {b : Int} {c : List Py} (hc : CS b c) (a sg nm p o k : Option Sv) : ∃ st', B_law_4 [a, some (.lst c), sg, nm, some (.val t.py), some (.val s.py), some (.val (.lst (t.pl.map plP))), some (.lst ((heads t).map sgP)), p, o, k] = .rt (.val (.bl true)) st' := by
  have z1 := f.tz
  have z3 := f.td
  obtain ⟨st', e⟩ := law_mid f hc a sg nm (some (.lst ((heads t).map sgP))) p o k
  refine ⟨st', ?_⟩
  have e1 := size_ok (t := t) (by omega)
  have e2 := depth_ok (t := t) (by omega)
  have e3 := positions_ok (t := t) (by omega)
  have e4 := ldepth_ok 12 t (by omega) (by omega)
  have e5 := variables_ok (t := t) (by omega)
  have e6 := symbols_ok (t := t) (by omega)
  have e7 := names_ok (t := t) (by omega) (by omega)
  have hl := pl_len t
  have hs := subs_len t
  have hh : (heads t).length ≤ 900 := by have := collect_len symO t.subs []; unfold heads; simp at this; omega
  have hv : (vnames t).length ≤ 900 := by have := collect_len varO t.subs []; unfold vnames; simp at this; omega
  have fp : Fine 3 (.lst (t.pl.map plP)) := (fine_map (by omega) fun q hq => fine_plP (by have := pl_lt t q hq; omega)).1
  have fh : Fine 3 (.tup ((heads t).map sgP)) := (fine_map hh fun q _ => fine_sgP q).2
  have fv : Fine 2 (.tup ((vnames t).map Py.str)) := (fine_map (n := 1) (g := Py.str) hv fun _ _ => trivial).2
  have hf1 : Fine 60 (.lst [.int t.sz, .int t.dp, .lst (t.pl.map plP)]) := Fine.mono (n := 4) ⟨by simp, fun d hd => by
    simp only [List.mem_cons, List.not_mem_nil, or_false] at hd
    rcases hd with rfl | rfl | rfl
    · exact trivial
    · exact trivial
    · exact fp⟩ (by decide)
  have hf2 : Fine 60 (.lst [.tup ((vnames t).map Py.str), .tup ((heads t).map sgP)]) := Fine.mono (n := 4) ⟨by simp, fun d hd => by
    simp only [List.mem_cons, List.not_mem_nil, or_false] at hd
    rcases hd with rfl | rfl
    · exact fv.mono (by decide)
    · exact fh⟩ (by decide)
  have s1 := same_ok 60 _ hf1
  have s2 := same_ok 60 _ hf2
  have eh : collect symO [] t.subs = heads t := rfl
  have ev : collect varO [] t.subs = vnames t := rfl
  rw [eh] at e6
  rw [ev] at e5 e7
  unfold B_law_4
  simp -implicitDefEqProofs [varX, lockE, e1, e2, e3, e4, hl, s1, e5, e6, e7, s2, e]
theorem heads_loop (t : Tm) {A C G N S P : Option Sv} {k : Option Sv} : ∀ (ps : List (List Nat)) (us : List Tm) (acc : List (Str × Nat)) (a b : Option Sv), ps.map (fun p => t.at_ (natI p)) = us.map some → acc.length + us.length ≤ 900 → (∀ k ∈ acc, okS k.1) → (∀ u ∈ us, ∀ k, symO u = some k → okS k.1) →
    ∃ a' b', forS (gNameS 8) B_law_1 (ps.map plP) [A, C, G, N, some (.val t.py), S, P, some (.lst (acc.map sgP)), a, b, k] = .nx [A, C, G, N, some (.val t.py), S, P, some (.lst ((collect symO acc us).map sgP)), a', b', k]
  | [], us, acc, a, b, h, _, _, _ => by
    cases us with
    | nil => exact ⟨a, b, by simp [collect]⟩
    | cons u us => cases h
  | p :: ps, [], acc, a, b, h, _, _, _ => by cases h
  | p :: ps, u :: us, acc, a, b, h, hz, ho, hu => by
    rw [List.map_cons, List.map_cons] at h
    injection h with h1 h2
    have ea := lawat_ok t (natI p)
    rw [h1, ← plP_eq] at ea
    simp only [optP] at ea
    have lz : acc.length < sizeLine := sL (by simp at hz; omega)
    rw [List.map_cons, forS_cons (st1 := [A, C, G, N, some (.val t.py), S, P, some (.lst (acc.map sgP)), some (.val (plP p)), b, k]) (by simp)]
    cases u with
    | f n ts =>
      have hl := addK_len acc (n, ts.length)
      have hk : okS n := hu _ List.mem_cons_self (n, ts.length) rfl
      have ho' : ∀ k ∈ addK acc (n, ts.length), okS k.1 := fun k hkm => by
        unfold addK at hkm
        split at hkm
        · exact ho k hkm
        · rcases List.mem_append.mp hkm with z | z
          · exact ho k z
          · rw [List.mem_singleton] at z; subst z; exact hk
      obtain ⟨a', b', e⟩ := heads_loop (A := A) (C := C) (G := G) (N := N) (S := S) (P := P) (k := k) t ps us (addK acc (n, ts.length)) (some (.val (plP p))) (some (.val (Tm.f n ts).py)) h2 (by simp at hz; omega) ho' (fun u hm => hu u (List.mem_cons_of_mem _ hm))
      refine ⟨a', b', ?_⟩
      have eb : B_law_1 [A, C, G, N, some (.val t.py), S, P, some (.lst (acc.map sgP)), some (.val (plP p)), b, k] = .nx [A, C, G, N, some (.val t.py), S, P, some (.lst ((addK acc (n, ts.length)).map sgP)), some (.val (plP p)), some (.val (Tm.f n ts).py), k] := by
        have hin := inS_sg (n, ts.length) acc hk ho
        unfold sgP at hin
        rw [py_f n ts] at ea ⊢
        unfold B_law_1 addK
        by_cases hm : (n, ts.length) ∈ acc
        · unfold sgP
          simp at hin
          simp -implicitDefEqProofs [varX, lockE, lstAt, ea, hin, hm]
        · unfold sgP
          simp at hin
          simp -implicitDefEqProofs [varX, lockE, lstAt, ea, hin, hm, lz]
      rw [eb, loopS_nx, e]
      rfl
    | v x =>
      obtain ⟨a', b', e⟩ := heads_loop (A := A) (C := C) (G := G) (N := N) (S := S) (P := P) (k := k) t ps us acc (some (.val (plP p))) (some (.val (Tm.v x).py)) h2 (by simp at hz; omega) ho (fun u hm => hu u (List.mem_cons_of_mem _ hm))
      refine ⟨a', b', ?_⟩
      have eb : B_law_1 [A, C, G, N, some (.val t.py), S, P, some (.lst (acc.map sgP)), some (.val (plP p)), b, k] = .nx [A, C, G, N, some (.val t.py), S, P, some (.lst (acc.map sgP)), some (.val (plP p)), some (.val (Tm.v x).py), k] := by
        unfold B_law_1
        rw [py_v x] at ea ⊢
        simp -implicitDefEqProofs [varX, lockE, lstAt, ea]
      rw [eb, loopS_nx, e]
      rfl
mutual
theorem subs_in {sg : Sg} {vs : List Str} : ∀ (t : Tm), TIn sg vs t → ∀ u ∈ t.subs, TIn sg vs u
  | .v x, h, u, hu => by simp only [Tm.subs, List.mem_singleton] at hu; subst hu; exact h
  | .f n ts, h, u, hu => by
    rw [Tm.subs, List.mem_cons] at hu
    rcases hu with rfl | hu
    · exact h
    · cases h with
      | f h1 h2 => exact subss_in ts h2 u hu
theorem subss_in {sg : Sg} {vs : List Str} : ∀ (ts : List Tm), (∀ t ∈ ts, TIn sg vs t) → ∀ u ∈ subss ts, TIn sg vs u
  | [], _, u, hu => by cases hu
  | t :: ts, h, u, hu => by
    rw [subss, List.mem_append] at hu
    rcases hu with hu | hu
    · exact subs_in t (h t List.mem_cons_self) u hu
    · exact subss_in ts (fun t ht => h t (List.mem_cons_of_mem _ ht)) u hu
end
theorem law_places {t s : Tm} (f : TFit t s) {sg : Sg} {vs : List Str} (hs : SgFit sg) (ht : TIn sg vs t) {b : Int} {c : List Py} (hc : CS b c) (a G N pl hd p o k : Option Sv) : ∃ st', B_law_5 [a, some (.lst c), G, N, some (.val t.py), some (.val s.py), pl, hd, p, o, k] = .rt (.val (.bl true)) st' := by
  have z1 := f.tz
  have z3 := f.td
  have e1 := places_ok 12 t (by omega) (by omega)
  have hsl := subs_len t
  obtain ⟨a', b', e2⟩ := heads_loop (A := a) (C := some (.lst c)) (G := G) (N := N) (S := some (.val s.py)) (P := some (.val (.lst (t.pl.map plP)))) (k := k) t t.pl t.subs [] p o (pl_at t) (by simp; omega) nofun (fun u hu k hk => by
    have hi := subs_in t ht u hu
    cases hi with
    | v _ => cases hk
    | f h1 _ => cases hk; exact hs.ok _ h1)
  obtain ⟨st', e3⟩ := law_told f hc a G N a' b' k
  refine ⟨st', ?_⟩
  have eh : collect symO [] t.subs = heads t := rfl
  rw [eh] at e2
  unfold B_law_5
  simp at e2
  simp -implicitDefEqProofs [varX, lockE, e1, e2, e3]
theorem law_terms {sg : Sg} {vs : List Str} (hs : SgFit sg) (hv : vs.length ≤ 20) {c : List Py} (hc : CS 14 c) (a t s pl hd p o k : Option Sv) : ∃ st', B_law_6 [a, some (.lst c), some (.val (.lst (sg.map sgP))), some (.val (.lst (vs.map Py.str))), t, s, pl, hd, p, o, k] = .rt (.val (.bl true)) st' := by
  obtain ⟨t1, c1, b1, h1, _, i1, d1, n1, e1⟩ := term_ok hs hv 8 5 14 c (by decide) hc
  obtain ⟨ns, i, r, q, rfl⟩ := h1
  obtain ⟨t2, c2, b2, h2, _, i2, d2, n2, e2⟩ := term_ok hs hv 8 3 8 (cst ns i r q 8) (by decide) ⟨_, _, _, _, rfl⟩
  have s1 := sz_le hs.ar i1
  have s2 := sz_le hs.ar i2
  have m1 : ((14 : Int) - 1).toNat = 13 := by decide
  have m2 : ((8 : Int) - 1).toNat = 7 := by decide
  rw [m1] at n1
  rw [m2] at n2
  have f : TFit t1 t2 := ⟨by omega, by omega, by omega, by omega⟩
  obtain ⟨st', e3⟩ := law_places f hs i1 h2 a (some (.val (.lst (sg.map sgP)))) (some (.val (.lst (vs.map Py.str)))) pl hd p o k
  refine ⟨st', ?_⟩
  unfold tSt at e1 e2
  unfold cst at *
  unfold B_law_6
  simp at e1 e2
  simp -implicitDefEqProofs [varX, lockE, lstAt, takeA_s, e1, e2, e3]
theorem law_ok (ns : List Int) : ∃ outs, M_law [.val (.lst (ns.map .int))] = .ret (.val (.bl true)) outs := by
  obtain ⟨h1, e1⟩ := start_ok ns
  obtain ⟨sg, c2, hs, h2, e2⟩ := sig_ok h1
  obtain ⟨d, c3, d0, d1, h3, e3⟩ := take_ok h2 (m := 5) (by decide) (by decide)
  obtain ⟨i, rfl⟩ := Int.eq_ofNat_of_zero_le d0
  have hv : ([PySem.Str.ofString "x", PySem.Str.ofString "y", PySem.Str.ofString "z", PySem.Str.ofString "u1"].take i).length ≤ 20 := by simp; omega
  obtain ⟨st', e4⟩ := law_terms hs.fit hv h3 (some (.val (.lst (ns.map .int)))) none none none none none none none
  refine ⟨outsOf 1 [0] st', ?_⟩
  unfold M_law
  rw [runF_eq]
  simp only [List.map_take, List.map_cons, List.map_nil] at e4
  simp -implicitDefEqProofs [varX, takeA_s, e1, e2, e3, cutP_take, e4]
end K01

/-! ## X01 -/
namespace K01
open PySem PySem.Spec PyProof.Rows L2 DL
theorem all_mk {P : Program} {w : World} {K : PySem.W.Frag} {h : Heap} {mg : Str → Option Value} {fa : Addr} (X : K.In h) (G : h.Ns mainGlobals mg) (hfa : mg "law" = some (.ref fa))
    {f__law_start : Addr} {oc__law_start kV__law_start dc__law_start pm__law_start cd__law_start ct__law_start : Value} {od__law_start an__law_start : Option Addr} {sl__law_start : Array (Option Value)}
    {f__law_fill : Addr} {oc__law_fill kV__law_fill dc__law_fill pm__law_fill cd__law_fill ct__law_fill : Value} {od__law_fill an__law_fill : Option Addr} {sl__law_fill : Array (Option Value)}
    {f__law_take : Addr} {oc__law_take kV__law_take dc__law_take pm__law_take cd__law_take ct__law_take : Value} {od__law_take an__law_take : Option Addr} {sl__law_take : Array (Option Value)}
    {f__law_signature : Addr} {oc__law_signature kV__law_signature dc__law_signature pm__law_signature cd__law_signature ct__law_signature : Value} {od__law_signature an__law_signature : Option Addr} {sl__law_signature : Array (Option Value)}
    {f__law_term : Addr} {oc__law_term kV__law_term dc__law_term pm__law_term cd__law_term ct__law_term : Value} {od__law_term an__law_term : Option Addr} {sl__law_term : Array (Option Value)}
    {f__law_places : Addr} {oc__law_places kV__law_places dc__law_places pm__law_places cd__law_places ct__law_places : Value} {od__law_places an__law_places : Option Addr} {sl__law_places : Array (Option Value)}
    {f__law_same : Addr} {oc__law_same kV__law_same dc__law_same pm__law_same cd__law_same ct__law_same : Value} {od__law_same an__law_same : Option Addr} {sl__law_same : Array (Option Value)}
    {f__law_at : Addr} {oc__law_at kV__law_at dc__law_at pm__law_at cd__law_at ct__law_at : Value} {od__law_at an__law_at : Option Addr} {sl__law_at : Array (Option Value)}
    {f_is_variable : Addr} {oc_is_variable kV_is_variable dc_is_variable pm_is_variable cd_is_variable ct_is_variable : Value} {od_is_variable an_is_variable : Option Addr} {sl_is_variable : Array (Option Value)}
    {f_inner : Addr} {oc_inner kV_inner dc_inner pm_inner cd_inner ct_inner : Value} {od_inner an_inner : Option Addr} {sl_inner : Array (Option Value)}
    {f_at : Addr} {oc_at kV_at dc_at pm_at cd_at ct_at : Value} {od_at an_at : Option Addr} {sl_at : Array (Option Value)}
    {f_need_small : Addr} {oc_need_small kV_need_small dc_need_small pm_need_small cd_need_small ct_need_small : Value} {od_need_small an_need_small : Option Addr} {sl_need_small : Array (Option Value)}
    {f_parts : Addr} {oc_parts kV_parts dc_parts pm_parts cd_parts ct_parts : Value} {od_parts an_parts : Option Addr} {sl_parts : Array (Option Value)}
    {f_size : Addr} {oc_size kV_size dc_size pm_size cd_size ct_size : Value} {od_size an_size : Option Addr} {sl_size : Array (Option Value)}
    {f_depth : Addr} {oc_depth kV_depth dc_depth pm_depth cd_depth ct_depth : Value} {od_depth an_depth : Option Addr} {sl_depth : Array (Option Value)}
    {f_put : Addr} {oc_put kV_put dc_put pm_put cd_put ct_put : Value} {od_put an_put : Option Addr} {sl_put : Array (Option Value)}
    {f__law_told : Addr} {oc__law_told kV__law_told dc__law_told pm__law_told cd__law_told ct__law_told : Value} {od__law_told an__law_told : Option Addr} {sl__law_told : Array (Option Value)}
    {f__law_put : Addr} {oc__law_put kV__law_put dc__law_put pm__law_put cd__law_put ct__law_put : Value} {od__law_put an__law_put : Option Addr} {sl__law_put : Array (Option Value)}
    {f_positions : Addr} {oc_positions kV_positions dc_positions pm_positions cd_positions ct_positions : Value} {od_positions an_positions : Option Addr} {sl_positions : Array (Option Value)}
    {f__law_depth : Addr} {oc__law_depth kV__law_depth dc__law_depth pm__law_depth cd__law_depth ct__law_depth : Value} {od__law_depth an__law_depth : Option Addr} {sl__law_depth : Array (Option Value)}
    {f_variables : Addr} {oc_variables kV_variables dc_variables pm_variables cd_variables ct_variables : Value} {od_variables an_variables : Option Addr} {sl_variables : Array (Option Value)}
    {f_symbols : Addr} {oc_symbols kV_symbols dc_symbols pm_symbols cd_symbols ct_symbols : Value} {od_symbols an_symbols : Option Addr} {sl_symbols : Array (Option Value)}
    {f__law_names : Addr} {oc__law_names kV__law_names dc__law_names pm__law_names cd__law_names ct__law_names : Value} {od__law_names an__law_names : Option Addr} {sl__law_names : Array (Option Value)}
    {f_law : Addr} {oc_law kV_law dc_law pm_law cd_law ct_law : Value} {od_law an_law : Option Addr} {sl_law : Array (Option Value)}
    {t_MOST_DEPTH : Tok}
    {t_MOST_NODES : Tok}
    {C_LimitError : Addr}
    {C_StepError : Addr}
    {C_TertiumError : Addr}
    {C_TextError : Addr}
    (z_isinstance : PySem.W.nsIn K mainGlobals "isinstance" = some none)
    (z_len : PySem.W.nsIn K mainGlobals "len" = some none)
    (z_tuple : PySem.W.nsIn K mainGlobals "tuple" = some none)
    (z_list : PySem.W.nsIn K mainGlobals "list" = some none)
    (z_int : PySem.W.nsIn K mainGlobals "int" = some none)
    (z_str : PySem.W.nsIn K mainGlobals "str" = some none)
    (z_bool : PySem.W.nsIn K mainGlobals "bool" = some none)
    (z_dict : PySem.W.nsIn K mainGlobals "dict" = some none)
    (z_range : PySem.W.nsIn K mainGlobals "range" = some none)
    (z_max : PySem.W.nsIn K mainGlobals "max" = some none)
    (z_min : PySem.W.nsIn K mainGlobals "min" = some none)
    (z_all : PySem.W.nsIn K mainGlobals "all" = some none)
    (z_any : PySem.W.nsIn K mainGlobals "any" = some none)
    (z_sum : PySem.W.nsIn K mainGlobals "sum" = some none)
    (z_sorted : PySem.W.nsIn K mainGlobals "sorted" = some none)
    (z_enumerate : PySem.W.nsIn K mainGlobals "enumerate" = some none)
    (z_zip : PySem.W.nsIn K mainGlobals "zip" = some none)
    (z_abs : PySem.W.nsIn K mainGlobals "abs" = some none)
    (z_ValueError : PySem.W.nsIn K mainGlobals "ValueError" = some none)
    (a__law_start : PySem.W.nsIn K mainGlobals "_law_start" = some (some (.ref f__law_start)))
    (l__law_start : K.lookup f__law_start = some ⟨oc__law_start, od__law_start, .func (PySem.W.fnOf "_law_start" "_law_start" (defArgs st__law_start) (defBody st__law_start) (defScope st__law_start) .none kV__law_start dc__law_start pm__law_start an__law_start cd__law_start ct__law_start), sl__law_start⟩)
    (c__law_start : PySem.W.codeIn K cd__law_start "_law_start" = true)
    (k__law_start : PySem.W.keepIn K (.ref f__law_start) = true)
    (a__law_fill : PySem.W.nsIn K mainGlobals "_law_fill" = some (some (.ref f__law_fill)))
    (l__law_fill : K.lookup f__law_fill = some ⟨oc__law_fill, od__law_fill, .func (PySem.W.fnOf "_law_fill" "_law_fill" (defArgs st__law_fill) (defBody st__law_fill) (defScope st__law_fill) .none kV__law_fill dc__law_fill pm__law_fill an__law_fill cd__law_fill ct__law_fill), sl__law_fill⟩)
    (c__law_fill : PySem.W.codeIn K cd__law_fill "_law_fill" = true)
    (k__law_fill : PySem.W.keepIn K (.ref f__law_fill) = true)
    (a__law_take : PySem.W.nsIn K mainGlobals "_law_take" = some (some (.ref f__law_take)))
    (l__law_take : K.lookup f__law_take = some ⟨oc__law_take, od__law_take, .func (PySem.W.fnOf "_law_take" "_law_take" (defArgs st__law_take) (defBody st__law_take) (defScope st__law_take) .none kV__law_take dc__law_take pm__law_take an__law_take cd__law_take ct__law_take), sl__law_take⟩)
    (c__law_take : PySem.W.codeIn K cd__law_take "_law_take" = true)
    (k__law_take : PySem.W.keepIn K (.ref f__law_take) = true)
    (a__law_signature : PySem.W.nsIn K mainGlobals "_law_signature" = some (some (.ref f__law_signature)))
    (l__law_signature : K.lookup f__law_signature = some ⟨oc__law_signature, od__law_signature, .func (PySem.W.fnOf "_law_signature" "_law_signature" (defArgs st__law_signature) (defBody st__law_signature) (defScope st__law_signature) .none kV__law_signature dc__law_signature pm__law_signature an__law_signature cd__law_signature ct__law_signature), sl__law_signature⟩)
    (c__law_signature : PySem.W.codeIn K cd__law_signature "_law_signature" = true)
    (k__law_signature : PySem.W.keepIn K (.ref f__law_signature) = true)
    (a__law_term : PySem.W.nsIn K mainGlobals "_law_term" = some (some (.ref f__law_term)))
    (l__law_term : K.lookup f__law_term = some ⟨oc__law_term, od__law_term, .func (PySem.W.fnOf "_law_term" "_law_term" (defArgs st__law_term) (defBody st__law_term) (defScope st__law_term) .none kV__law_term dc__law_term pm__law_term an__law_term cd__law_term ct__law_term), sl__law_term⟩)
    (c__law_term : PySem.W.codeIn K cd__law_term "_law_term" = true)
    (k__law_term : PySem.W.keepIn K (.ref f__law_term) = true)
    (a__law_places : PySem.W.nsIn K mainGlobals "_law_places" = some (some (.ref f__law_places)))
    (l__law_places : K.lookup f__law_places = some ⟨oc__law_places, od__law_places, .func (PySem.W.fnOf "_law_places" "_law_places" (defArgs st__law_places) (defBody st__law_places) (defScope st__law_places) .none kV__law_places dc__law_places pm__law_places an__law_places cd__law_places ct__law_places), sl__law_places⟩)
    (c__law_places : PySem.W.codeIn K cd__law_places "_law_places" = true)
    (k__law_places : PySem.W.keepIn K (.ref f__law_places) = true)
    (a__law_same : PySem.W.nsIn K mainGlobals "_law_same" = some (some (.ref f__law_same)))
    (l__law_same : K.lookup f__law_same = some ⟨oc__law_same, od__law_same, .func (PySem.W.fnOf "_law_same" "_law_same" (defArgs st__law_same) (defBody st__law_same) (defScope st__law_same) .none kV__law_same dc__law_same pm__law_same an__law_same cd__law_same ct__law_same), sl__law_same⟩)
    (c__law_same : PySem.W.codeIn K cd__law_same "_law_same" = true)
    (k__law_same : PySem.W.keepIn K (.ref f__law_same) = true)
    (a__law_at : PySem.W.nsIn K mainGlobals "_law_at" = some (some (.ref f__law_at)))
    (l__law_at : K.lookup f__law_at = some ⟨oc__law_at, od__law_at, .func (PySem.W.fnOf "_law_at" "_law_at" (defArgs st__law_at) (defBody st__law_at) (defScope st__law_at) .none kV__law_at dc__law_at pm__law_at an__law_at cd__law_at ct__law_at), sl__law_at⟩)
    (c__law_at : PySem.W.codeIn K cd__law_at "_law_at" = true)
    (k__law_at : PySem.W.keepIn K (.ref f__law_at) = true)
    (a_is_variable : PySem.W.nsIn K mainGlobals "is_variable" = some (some (.ref f_is_variable)))
    (l_is_variable : K.lookup f_is_variable = some ⟨oc_is_variable, od_is_variable, .func (PySem.W.fnOf "is_variable" "is_variable" (defArgs st_is_variable) (defBody st_is_variable) (defScope st_is_variable) .none kV_is_variable dc_is_variable pm_is_variable an_is_variable cd_is_variable ct_is_variable), sl_is_variable⟩)
    (c_is_variable : PySem.W.codeIn K cd_is_variable "is_variable" = true)
    (k_is_variable : PySem.W.keepIn K (.ref f_is_variable) = true)
    (a_inner : PySem.W.nsIn K mainGlobals "inner" = some (some (.ref f_inner)))
    (l_inner : K.lookup f_inner = some ⟨oc_inner, od_inner, .func (PySem.W.fnOf "inner" "inner" (defArgs st_inner) (defBody st_inner) (defScope st_inner) .none kV_inner dc_inner pm_inner an_inner cd_inner ct_inner), sl_inner⟩)
    (c_inner : PySem.W.codeIn K cd_inner "inner" = true)
    (k_inner : PySem.W.keepIn K (.ref f_inner) = true)
    (a_at : PySem.W.nsIn K mainGlobals "at" = some (some (.ref f_at)))
    (l_at : K.lookup f_at = some ⟨oc_at, od_at, .func (PySem.W.fnOf "at" "at" (defArgs st_at) (defBody st_at) (defScope st_at) .none kV_at dc_at pm_at an_at cd_at ct_at), sl_at⟩)
    (c_at : PySem.W.codeIn K cd_at "at" = true)
    (k_at : PySem.W.keepIn K (.ref f_at) = true)
    (a_need_small : PySem.W.nsIn K mainGlobals "need_small" = some (some (.ref f_need_small)))
    (l_need_small : K.lookup f_need_small = some ⟨oc_need_small, od_need_small, .func (PySem.W.fnOf "need_small" "need_small" (defArgs st_need_small) (defBody st_need_small) (defScope st_need_small) .none kV_need_small dc_need_small pm_need_small an_need_small cd_need_small ct_need_small), sl_need_small⟩)
    (c_need_small : PySem.W.codeIn K cd_need_small "need_small" = true)
    (k_need_small : PySem.W.keepIn K (.ref f_need_small) = true)
    (a_parts : PySem.W.nsIn K mainGlobals "parts" = some (some (.ref f_parts)))
    (l_parts : K.lookup f_parts = some ⟨oc_parts, od_parts, .func (PySem.W.fnOf "parts" "parts" (defArgs st_parts) (defBody st_parts) (defScope st_parts) .none kV_parts dc_parts pm_parts an_parts cd_parts ct_parts), sl_parts⟩)
    (c_parts : PySem.W.codeIn K cd_parts "parts" = true)
    (k_parts : PySem.W.keepIn K (.ref f_parts) = true)
    (a_size : PySem.W.nsIn K mainGlobals "size" = some (some (.ref f_size)))
    (l_size : K.lookup f_size = some ⟨oc_size, od_size, .func (PySem.W.fnOf "size" "size" (defArgs st_size) (defBody st_size) (defScope st_size) .none kV_size dc_size pm_size an_size cd_size ct_size), sl_size⟩)
    (c_size : PySem.W.codeIn K cd_size "size" = true)
    (k_size : PySem.W.keepIn K (.ref f_size) = true)
    (a_depth : PySem.W.nsIn K mainGlobals "depth" = some (some (.ref f_depth)))
    (l_depth : K.lookup f_depth = some ⟨oc_depth, od_depth, .func (PySem.W.fnOf "depth" "depth" (defArgs st_depth) (defBody st_depth) (defScope st_depth) .none kV_depth dc_depth pm_depth an_depth cd_depth ct_depth), sl_depth⟩)
    (c_depth : PySem.W.codeIn K cd_depth "depth" = true)
    (k_depth : PySem.W.keepIn K (.ref f_depth) = true)
    (a_put : PySem.W.nsIn K mainGlobals "put" = some (some (.ref f_put)))
    (l_put : K.lookup f_put = some ⟨oc_put, od_put, .func (PySem.W.fnOf "put" "put" (defArgs st_put) (defBody st_put) (defScope st_put) .none kV_put dc_put pm_put an_put cd_put ct_put), sl_put⟩)
    (c_put : PySem.W.codeIn K cd_put "put" = true)
    (k_put : PySem.W.keepIn K (.ref f_put) = true)
    (a__law_told : PySem.W.nsIn K mainGlobals "_law_told" = some (some (.ref f__law_told)))
    (l__law_told : K.lookup f__law_told = some ⟨oc__law_told, od__law_told, .func (PySem.W.fnOf "_law_told" "_law_told" (defArgs st__law_told) (defBody st__law_told) (defScope st__law_told) .none kV__law_told dc__law_told pm__law_told an__law_told cd__law_told ct__law_told), sl__law_told⟩)
    (c__law_told : PySem.W.codeIn K cd__law_told "_law_told" = true)
    (k__law_told : PySem.W.keepIn K (.ref f__law_told) = true)
    (a__law_put : PySem.W.nsIn K mainGlobals "_law_put" = some (some (.ref f__law_put)))
    (l__law_put : K.lookup f__law_put = some ⟨oc__law_put, od__law_put, .func (PySem.W.fnOf "_law_put" "_law_put" (defArgs st__law_put) (defBody st__law_put) (defScope st__law_put) .none kV__law_put dc__law_put pm__law_put an__law_put cd__law_put ct__law_put), sl__law_put⟩)
    (c__law_put : PySem.W.codeIn K cd__law_put "_law_put" = true)
    (k__law_put : PySem.W.keepIn K (.ref f__law_put) = true)
    (a_positions : PySem.W.nsIn K mainGlobals "positions" = some (some (.ref f_positions)))
    (l_positions : K.lookup f_positions = some ⟨oc_positions, od_positions, .func (PySem.W.fnOf "positions" "positions" (defArgs st_positions) (defBody st_positions) (defScope st_positions) .none kV_positions dc_positions pm_positions an_positions cd_positions ct_positions), sl_positions⟩)
    (c_positions : PySem.W.codeIn K cd_positions "positions" = true)
    (k_positions : PySem.W.keepIn K (.ref f_positions) = true)
    (a__law_depth : PySem.W.nsIn K mainGlobals "_law_depth" = some (some (.ref f__law_depth)))
    (l__law_depth : K.lookup f__law_depth = some ⟨oc__law_depth, od__law_depth, .func (PySem.W.fnOf "_law_depth" "_law_depth" (defArgs st__law_depth) (defBody st__law_depth) (defScope st__law_depth) .none kV__law_depth dc__law_depth pm__law_depth an__law_depth cd__law_depth ct__law_depth), sl__law_depth⟩)
    (c__law_depth : PySem.W.codeIn K cd__law_depth "_law_depth" = true)
    (k__law_depth : PySem.W.keepIn K (.ref f__law_depth) = true)
    (a_variables : PySem.W.nsIn K mainGlobals "variables" = some (some (.ref f_variables)))
    (l_variables : K.lookup f_variables = some ⟨oc_variables, od_variables, .func (PySem.W.fnOf "variables" "variables" (defArgs st_variables) (defBody st_variables) (defScope st_variables) .none kV_variables dc_variables pm_variables an_variables cd_variables ct_variables), sl_variables⟩)
    (c_variables : PySem.W.codeIn K cd_variables "variables" = true)
    (k_variables : PySem.W.keepIn K (.ref f_variables) = true)
    (a_symbols : PySem.W.nsIn K mainGlobals "symbols" = some (some (.ref f_symbols)))
    (l_symbols : K.lookup f_symbols = some ⟨oc_symbols, od_symbols, .func (PySem.W.fnOf "symbols" "symbols" (defArgs st_symbols) (defBody st_symbols) (defScope st_symbols) .none kV_symbols dc_symbols pm_symbols an_symbols cd_symbols ct_symbols), sl_symbols⟩)
    (c_symbols : PySem.W.codeIn K cd_symbols "symbols" = true)
    (k_symbols : PySem.W.keepIn K (.ref f_symbols) = true)
    (a__law_names : PySem.W.nsIn K mainGlobals "_law_names" = some (some (.ref f__law_names)))
    (l__law_names : K.lookup f__law_names = some ⟨oc__law_names, od__law_names, .func (PySem.W.fnOf "_law_names" "_law_names" (defArgs st__law_names) (defBody st__law_names) (defScope st__law_names) .none kV__law_names dc__law_names pm__law_names an__law_names cd__law_names ct__law_names), sl__law_names⟩)
    (c__law_names : PySem.W.codeIn K cd__law_names "_law_names" = true)
    (k__law_names : PySem.W.keepIn K (.ref f__law_names) = true)
    (a_law : PySem.W.nsIn K mainGlobals "law" = some (some (.ref f_law)))
    (l_law : K.lookup f_law = some ⟨oc_law, od_law, .func (PySem.W.fnOf "law" "law" (defArgs st_law) (defBody st_law) (defScope st_law) .none kV_law dc_law pm_law an_law cd_law ct_law), sl_law⟩)
    (c_law : PySem.W.codeIn K cd_law "law" = true)
    (k_law : PySem.W.keepIn K (.ref f_law) = true)
    (g_MOST_DEPTH : PySem.W.nsIn K mainGlobals "MOST_DEPTH" = some (some (.int 40 t_MOST_DEPTH)))
    (g_MOST_NODES : PySem.W.nsIn K mainGlobals "MOST_NODES" = some (some (.int 400 t_MOST_NODES)))
    (m_LimitError : PySem.W.nsIn K mainGlobals "LimitError" = some (some (.ref C_LimitError)))
    (m_StepError : PySem.W.nsIn K mainGlobals "StepError" = some (some (.ref C_StepError)))
    (m_TertiumError : PySem.W.nsIn K mainGlobals "TertiumError" = some (some (.ref C_TertiumError)))
    (m_TextError : PySem.W.nsIn K mainGlobals "TextError" = some (some (.ref C_TextError)))
    (x_LimitError : PySem.W.excIn K C_LimitError [.type "ValueError", .type "Exception", .type "BaseException", .type "object"] "ValueError.__new__" = true)
    (xk_LimitError : PySem.W.keepIn K (.ref C_LimitError) = true)
    (x_StepError : PySem.W.excIn K C_StepError [.type "ValueError", .type "Exception", .type "BaseException", .type "object"] "ValueError.__new__" = true)
    (xk_StepError : PySem.W.keepIn K (.ref C_StepError) = true)
    (xb_LimitError : PySem.W.subIn K (.ref C_LimitError) (.type "BaseException") = some true)
    (xt_LimitError : PySem.W.typeIn K (.ref C_LimitError) = some (.type "type"))
    (xd_LimitError : PySem.W.hasDictIn K C_LimitError = true)
    (xb_StepError : PySem.W.subIn K (.ref C_StepError) (.type "BaseException") = some true)
    (xt_StepError : PySem.W.typeIn K (.ref C_StepError) = some (.type "type"))
    (xd_StepError : PySem.W.hasDictIn K C_StepError = true)
    (xb_TertiumError : PySem.W.subIn K (.ref C_TertiumError) (.type "BaseException") = some true)
    (xt_TertiumError : PySem.W.typeIn K (.ref C_TertiumError) = some (.type "type"))
    (xd_TertiumError : PySem.W.hasDictIn K C_TertiumError = true)
    (xb_TextError : PySem.W.subIn K (.ref C_TextError) (.type "BaseException") = some true)
    (xt_TextError : PySem.W.typeIn K (.ref C_TextError) = some (.type "type"))
    (xd_TextError : PySem.W.hasDictIn K C_TextError = true)
    (eg_StepError : PySem.W.findIn K (.ref C_StepError) "__getattribute__" = some (some (.builtin "BaseException.__getattribute__")))
    (ek_StepError : PySem.W.findIn K (.ref C_StepError) "__getattr__" = some none)
    (ea_StepError : PySem.W.findIn K (.ref C_StepError) "__class__" = some (some (.builtin "object.__class__")))
    (em_StepError : PySem.W.mroIn K C_StepError (.type "object") = some true)
    (eh_ : PySem.W.specialIn K (.builtin "object.__class__") "__get__" = some (some (.builtin "getset_descriptor.__get__")))
    (et_ : PySem.W.takesIn K (.builtin "object.__class__") = some true)
    (su_LimitError_LimitError : PySem.W.subIn K (.ref C_LimitError) (.ref C_LimitError) = some true)
    (su_StepError_LimitError : PySem.W.subIn K (.ref C_StepError) (.ref C_LimitError) = some false)
    (su_StepError_StepError : PySem.W.subIn K (.ref C_StepError) (.ref C_StepError) = some true)
    (su_StepError_TertiumError : PySem.W.subIn K (.ref C_StepError) (.ref C_TertiumError) = some true)
    (su_StepError_TextError : PySem.W.subIn K (.ref C_StepError) (.ref C_TextError) = some false)
    (su_TertiumError_TertiumError : PySem.W.subIn K (.ref C_TertiumError) (.ref C_TertiumError) = some true)
    (su_TextError_TextError : PySem.W.subIn K (.ref C_TextError) (.ref C_TextError) = some true)
    : ∃ fd : FuncData, (∀ (s : Shared) (v : Value), BindsTo s fd ⟨[v], []⟩ [("script", v)]) ∧ ∀ base : Heap, K.In base → base.Ns mainGlobals mg → FnOk P w K mg base (L2.CX P w) 62 fa fd ["script"] (spScript K) := by
  have e := hfa.symm.trans (PySem.W.mg_of X G a_law)
  cases e
  have Y : Fc K mg C_LimitError C_StepError C_TertiumError C_TextError := {
    T := ⟨PySem.W.mg_none_of X G z_isinstance, PySem.W.mg_none_of X G z_len, PySem.W.mg_none_of X G z_tuple, PySem.W.mg_none_of X G z_list, PySem.W.mg_none_of X G z_int, PySem.W.mg_none_of X G z_str, PySem.W.mg_none_of X G z_bool, PySem.W.mg_none_of X G z_dict, PySem.W.mg_none_of X G z_range, PySem.W.mg_none_of X G z_max, PySem.W.mg_none_of X G z_min, PySem.W.mg_none_of X G z_all, PySem.W.mg_none_of X G z_any, PySem.W.mg_none_of X G z_sum, PySem.W.mg_none_of X G z_sorted, PySem.W.mg_none_of X G z_enumerate, PySem.W.mg_none_of X G z_zip, PySem.W.mg_none_of X G z_abs, PySem.W.mg_none_of X G z_ValueError⟩
    f__law_start := fnm X G a__law_start l__law_start c__law_start k__law_start fun _ _ _ _ _ _ us hl => match us, hl with | [_], _ => rfl
    f__law_fill := fnm X G a__law_fill l__law_fill c__law_fill k__law_fill fun _ _ _ _ _ _ us hl => match us, hl with | [_], _ => rfl
    f__law_take := fnm X G a__law_take l__law_take c__law_take k__law_take fun _ _ _ _ _ _ us hl => match us, hl with | [_, _], _ => rfl
    f__law_signature := fnm X G a__law_signature l__law_signature c__law_signature k__law_signature fun _ _ _ _ _ _ us hl => match us, hl with | [_], _ => rfl
    f__law_term := fnm X G a__law_term l__law_term c__law_term k__law_term fun _ _ _ _ _ _ us hl => match us, hl with | [_, _, _, _], _ => rfl
    f__law_places := fnm X G a__law_places l__law_places c__law_places k__law_places fun _ _ _ _ _ _ us hl => match us, hl with | [_], _ => rfl
    f__law_same := fnm X G a__law_same l__law_same c__law_same k__law_same fun _ _ _ _ _ _ us hl => match us, hl with | [_, _], _ => rfl
    f__law_at := fnm X G a__law_at l__law_at c__law_at k__law_at fun _ _ _ _ _ _ us hl => match us, hl with | [_, _], _ => rfl
    f_is_variable := fnm X G a_is_variable l_is_variable c_is_variable k_is_variable fun _ _ _ _ _ _ us hl => match us, hl with | [_], _ => rfl
    f_inner := fnm X G a_inner l_inner c_inner k_inner fun _ _ _ _ _ _ us hl => match us, hl with | [_], _ => rfl
    f_at := fnm X G a_at l_at c_at k_at fun _ _ _ _ _ _ us hl => match us, hl with | [_, _], _ => rfl
    f_need_small := fnm X G a_need_small l_need_small c_need_small k_need_small fun _ _ _ _ _ _ us hl => match us, hl with | [_, _], _ => rfl
    f_parts := fnm X G a_parts l_parts c_parts k_parts fun _ _ _ _ _ _ us hl => match us, hl with | [_], _ => rfl
    f_size := fnm X G a_size l_size c_size k_size fun _ _ _ _ _ _ us hl => match us, hl with | [_], _ => rfl
    f_depth := fnm X G a_depth l_depth c_depth k_depth fun _ _ _ _ _ _ us hl => match us, hl with | [_], _ => rfl
    f_put := fnm X G a_put l_put c_put k_put fun _ _ _ _ _ _ us hl => match us, hl with | [_, _, _], _ => rfl
    f__law_told := fnm X G a__law_told l__law_told c__law_told k__law_told fun _ _ _ _ _ _ us hl => match us, hl with | [_, _, _], _ => rfl
    f__law_put := fnm X G a__law_put l__law_put c__law_put k__law_put fun _ _ _ _ _ _ us hl => match us, hl with | [_, _, _], _ => rfl
    f_positions := fnm X G a_positions l_positions c_positions k_positions fun _ _ _ _ _ _ us hl => match us, hl with | [_], _ => rfl
    f__law_depth := fnm X G a__law_depth l__law_depth c__law_depth k__law_depth fun _ _ _ _ _ _ us hl => match us, hl with | [_], _ => rfl
    f_variables := fnm X G a_variables l_variables c_variables k_variables fun _ _ _ _ _ _ us hl => match us, hl with | [_], _ => rfl
    f_symbols := fnm X G a_symbols l_symbols c_symbols k_symbols fun _ _ _ _ _ _ us hl => match us, hl with | [_], _ => rfl
    f__law_names := fnm X G a__law_names l__law_names c__law_names k__law_names fun _ _ _ _ _ _ us hl => match us, hl with | [_], _ => rfl
    g_MOST_DEPTH := ⟨_, PySem.W.mg_of X G g_MOST_DEPTH⟩
    g_MOST_NODES := ⟨_, PySem.W.mg_of X G g_MOST_NODES⟩
    m_LimitError := PySem.W.mg_of X G m_LimitError
    m_StepError := PySem.W.mg_of X G m_StepError
    m_TertiumError := PySem.W.mg_of X G m_TertiumError
    m_TextError := PySem.W.mg_of X G m_TextError
    x_LimitError := ⟨PySem.W.mg_of X G m_LimitError, x_LimitError, xk_LimitError, xb_LimitError, xt_LimitError⟩
    x_StepError := ⟨PySem.W.mg_of X G m_StepError, x_StepError, xk_StepError, xb_StepError, xt_StepError⟩
    e_StepError := ⟨eg_StepError, ek_StepError, xb_StepError, xd_StepError, ea_StepError, eh_, et_, em_StepError⟩
    exm_StepError_StepError := PySem.W.exm_ref xb_StepError xd_StepError xt_StepError su_StepError_StepError
    kit_StepError_LimitError := kit_ref xd_LimitError xt_LimitError su_StepError_LimitError su_LimitError_LimitError
    kit_StepError_TertiumError := kit_ref xd_TertiumError xt_TertiumError su_StepError_TertiumError su_TertiumError_TertiumError
    kit_StepError_TextError := kit_ref xd_TextError xt_TextError su_StepError_TextError su_TextError_TextError
  }
  exact ⟨PySem.W.fnOf "law" "law" (defArgs st_law) (defBody st_law) (defScope st_law) .none kV_law dc_law pm_law an_law cd_law ct_law, fun s v => .of_eq rfl, fun base _ _ => law_fn (D_law Y (fun_mk (st := st_law) l_law c_law k_law)) law_ok⟩
end K01

open PySem PySem.W PyProof.Rows in
set_option maxRecDepth 100000 in
set_option maxHeartbeats 0 in
theorem PySem.Challenge.cw_tertium_k01_places_of_terms_holds : PySem.Challenge.rw_tertium_k01_places_of_terms.Holds := by
  w_on; o_law; k_head; (case hw => w_witness2)
  k_fill
  refine DL.walk_law (l := PySem.Challenge.rw_tertium_k01_places_of_terms) (n := 63) (k := 62) rfl (by decide) rfl ⟨rfl, by decide, by decide⟩ (fun w h Y => PySem.W.kIn_of Y) ?F
  case F =>
    intro w mg fa h KX G hmg
    refine' K01.all_mk KX G hmg ?z_isinstance ?z_len ?z_tuple ?z_list ?z_int ?z_str ?z_bool ?z_dict ?z_range ?z_max ?z_min ?z_all ?z_any ?z_sum ?z_sorted ?z_enumerate ?z_zip ?z_abs ?z_ValueError ?a__law_start ?l__law_start ?c__law_start ?k__law_start ?a__law_fill ?l__law_fill ?c__law_fill ?k__law_fill ?a__law_take ?l__law_take ?c__law_take ?k__law_take ?a__law_signature ?l__law_signature ?c__law_signature ?k__law_signature ?a__law_term ?l__law_term ?c__law_term ?k__law_term ?a__law_places ?l__law_places ?c__law_places ?k__law_places ?a__law_same ?l__law_same ?c__law_same ?k__law_same ?a__law_at ?l__law_at ?c__law_at ?k__law_at ?a_is_variable ?l_is_variable ?c_is_variable ?k_is_variable ?a_inner ?l_inner ?c_inner ?k_inner ?a_at ?l_at ?c_at ?k_at ?a_need_small ?l_need_small ?c_need_small ?k_need_small ?a_parts ?l_parts ?c_parts ?k_parts ?a_size ?l_size ?c_size ?k_size ?a_depth ?l_depth ?c_depth ?k_depth ?a_put ?l_put ?c_put ?k_put ?a__law_told ?l__law_told ?c__law_told ?k__law_told ?a__law_put ?l__law_put ?c__law_put ?k__law_put ?a_positions ?l_positions ?c_positions ?k_positions ?a__law_depth ?l__law_depth ?c__law_depth ?k__law_depth ?a_variables ?l_variables ?c_variables ?k_variables ?a_symbols ?l_symbols ?c_symbols ?k_symbols ?a__law_names ?l__law_names ?c__law_names ?k__law_names ?a_law ?l_law ?c_law ?k_law ?g_MOST_DEPTH ?g_MOST_NODES ?m_LimitError ?m_StepError ?m_TertiumError ?m_TextError ?x_LimitError ?xk_LimitError ?x_StepError ?xk_StepError ?xb_LimitError ?xt_LimitError ?xd_LimitError ?xb_StepError ?xt_StepError ?xd_StepError ?xb_TertiumError ?xt_TertiumError ?xd_TertiumError ?xb_TextError ?xt_TextError ?xd_TextError ?eg_StepError ?ek_StepError ?ea_StepError ?em_StepError ?eh_ ?et_ ?su_LimitError_LimitError ?su_StepError_LimitError ?su_StepError_StepError ?su_StepError_TertiumError ?su_StepError_TextError ?su_TertiumError_TertiumError ?su_TextError_TextError
    (case z_isinstance => k_is)
    (case z_len => k_is)
    (case z_tuple => k_is)
    (case z_list => k_is)
    (case z_int => k_is)
    (case z_str => k_is)
    (case z_bool => k_is)
    (case z_dict => k_is)
    (case z_range => k_is)
    (case z_max => k_is)
    (case z_min => k_is)
    (case z_all => k_is)
    (case z_any => k_is)
    (case z_sum => k_is)
    (case z_sorted => k_is)
    (case z_enumerate => k_is)
    (case z_zip => k_is)
    (case z_abs => k_is)
    (case z_ValueError => k_is)
    (case a__law_start => k_is)
    (case l__law_start => k_is)
    (case c__law_start => k_is)
    (case k__law_start => k_is)
    (case a__law_fill => k_is)
    (case l__law_fill => k_is)
    (case c__law_fill => k_is)
    (case k__law_fill => k_is)
    (case a__law_take => k_is)
    (case l__law_take => k_is)
    (case c__law_take => k_is)
    (case k__law_take => k_is)
    (case a__law_signature => k_is)
    (case l__law_signature => k_is)
    (case c__law_signature => k_is)
    (case k__law_signature => k_is)
    (case a__law_term => k_is)
    (case l__law_term => k_is)
    (case c__law_term => k_is)
    (case k__law_term => k_is)
    (case a__law_places => k_is)
    (case l__law_places => k_is)
    (case c__law_places => k_is)
    (case k__law_places => k_is)
    (case a__law_same => k_is)
    (case l__law_same => k_is)
    (case c__law_same => k_is)
    (case k__law_same => k_is)
    (case a__law_at => k_is)
    (case l__law_at => k_is)
    (case c__law_at => k_is)
    (case k__law_at => k_is)
    (case a_is_variable => k_is)
    (case l_is_variable => k_is)
    (case c_is_variable => k_is)
    (case k_is_variable => k_is)
    (case a_inner => k_is)
    (case l_inner => k_is)
    (case c_inner => k_is)
    (case k_inner => k_is)
    (case a_at => k_is)
    (case l_at => k_is)
    (case c_at => k_is)
    (case k_at => k_is)
    (case a_need_small => k_is)
    (case l_need_small => k_is)
    (case c_need_small => k_is)
    (case k_need_small => k_is)
    (case a_parts => k_is)
    (case l_parts => k_is)
    (case c_parts => k_is)
    (case k_parts => k_is)
    (case a_size => k_is)
    (case l_size => k_is)
    (case c_size => k_is)
    (case k_size => k_is)
    (case a_depth => k_is)
    (case l_depth => k_is)
    (case c_depth => k_is)
    (case k_depth => k_is)
    (case a_put => k_is)
    (case l_put => k_is)
    (case c_put => k_is)
    (case k_put => k_is)
    (case a__law_told => k_is)
    (case l__law_told => k_is)
    (case c__law_told => k_is)
    (case k__law_told => k_is)
    (case a__law_put => k_is)
    (case l__law_put => k_is)
    (case c__law_put => k_is)
    (case k__law_put => k_is)
    (case a_positions => k_is)
    (case l_positions => k_is)
    (case c_positions => k_is)
    (case k_positions => k_is)
    (case a__law_depth => k_is)
    (case l__law_depth => k_is)
    (case c__law_depth => k_is)
    (case k__law_depth => k_is)
    (case a_variables => k_is)
    (case l_variables => k_is)
    (case c_variables => k_is)
    (case k_variables => k_is)
    (case a_symbols => k_is)
    (case l_symbols => k_is)
    (case c_symbols => k_is)
    (case k_symbols => k_is)
    (case a__law_names => k_is)
    (case l__law_names => k_is)
    (case c__law_names => k_is)
    (case k__law_names => k_is)
    (case a_law => k_is)
    (case l_law => k_is)
    (case c_law => k_is)
    (case k_law => k_is)
    (case g_MOST_DEPTH => k_is)
    (case g_MOST_NODES => k_is)
    (case m_LimitError => k_is)
    (case m_StepError => k_is)
    (case m_TertiumError => k_is)
    (case m_TextError => k_is)
    (case x_LimitError => k_exc)
    (case xk_LimitError => k_is)
    (case x_StepError => k_exc)
    (case xk_StepError => k_is)
    (case xb_LimitError => k_is)
    (case xt_LimitError => k_is)
    (case xd_LimitError => k_is)
    (case xb_StepError => k_is)
    (case xt_StepError => k_is)
    (case xd_StepError => k_is)
    (case xb_TertiumError => k_is)
    (case xt_TertiumError => k_is)
    (case xd_TertiumError => k_is)
    (case xb_TextError => k_is)
    (case xt_TextError => k_is)
    (case xd_TextError => k_is)
    (case eg_StepError => k_is)
    (case ek_StepError => k_is)
    (case ea_StepError => k_is)
    (case em_StepError => k_is)
    (case eh_ => k_is)
    (case et_ => k_is)
    (case su_LimitError_LimitError => first | k_is | rfl)
    (case su_StepError_LimitError => first | k_is | rfl)
    (case su_StepError_StepError => first | k_is | rfl)
    (case su_StepError_TertiumError => first | k_is | rfl)
    (case su_StepError_TextError => first | k_is | rfl)
    (case su_TertiumError_TertiumError => first | k_is | rfl)
    (case su_TextError_TextError => first | k_is | rfl)

