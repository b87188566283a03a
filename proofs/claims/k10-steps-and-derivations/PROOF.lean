import PyProof.Rows.All
import Wide.All
import OpenK.AllK
import Wide.FinOn
import HandS.ForMost
import HandS.WordsExc
import HandS.TupAny
import HandS.IsInst
import HandS.DictComp
import HandS.DictTup
import HandS.Style
import HandS.Lambda
import HandS.EndTab
import KE.KRevSl
import PyProof.AutoSeq1
import HandS.Deep
import HandS.ExcIs
import HandS.Small
import HandS.Conv
import HandS.SetKeys
import HandS.More
import HandS.Zip
import KE.KDictZip
import KE.KDictList
import KE.GoesEnum
import KE.GoesMore
import HandS.NoneIn
import HandS.TryMany
import PySem.Challenge.RW_tertium_k10_steps_and_derivations
set_option Elab.async false
set_option linter.all false
set_option maxRecDepth 100000
/-! ## DL1 -/
namespace DL
open PySem PySem.Spec PyProof.Rows L2

/-- immutable data (a list or dict in it is locked) -/
inductive Py where
  | non | bl (b : Bool) | int (i : Int) | str (x : Str) | tup (ds : List Py) | lst (ds : List Py) | dic (kvs : List (Py × Py)) | dit (kvs : List (Py × Py)) | obj (a : Addr)
/-- what a slot holds: data, or an object of its own that may change -/
inductive Sv where
  | val (d : Py) | lst (ds : List Py) | dic (kvs : List (Py × Py)) | dit (kvs : List (Py × Py)) | ins (C : Addr) (fs : List (Str × Sv))
abbrev DS := List (Option Sv)

def keyP : Key → Py
  | .inl i => .int i
  | .inr x => .str x
def SqF (K : PySem.W.Frag) (H : Hp) (a : Addr) (xs : List V) : Prop := (∃ o, H a = some (.frz o (.lst xs))) ∨
  ∃ (o : Obj) (its : Array Value) (n : Nat), K.lookup a = some o ∧ o.cls = .type "list" ∧ o.dict = none ∧ o.data = .seq its n ∧ its.size ≤ sizeLine ∧ Vals xs its.toList
mutual
inductive R (K : PySem.W.Frag) (H : Hp) : V → Py → Prop
  | non : R K H .non .non
  | bl (b : Bool) : R K H (.bl b) (.bl b)
  | int (i : Int) : R K H (.int i) (.int i)
  | str (x : Str) : R K H (.str x) (.str x)
  | tup {a : Addr} {xs : List V} {ds : List Py} : H a = some (.tup xs) → RA K H xs ds → R K H (.ref a) (.tup ds)
  | lst {a : Addr} {xs : List V} {ds : List Py} : SqF K H a xs → RA K H xs ds → R K H (.ref a) (.lst ds)
  | dicK {a : Addr} {o : Obj} {ks : List (Key × V)} {kvs : List (Py × Py)} : H a = some (.frz o (.dK ks)) → RK K H ks kvs → R K H (.ref a) (.dic kvs)
  | dicT {a : Addr} {o : Obj} {ks : List (List Key × V)} {kvs : List (Py × Py)} : H a = some (.frz o (.dT ks)) → RT K H ks kvs → R K H (.ref a) (.dit kvs)
  | obj (a : Addr) : R K H (.ref a) (.obj a)
inductive RA (K : PySem.W.Frag) (H : Hp) : List V → List Py → Prop
  | nil : RA K H [] []
  | cons {v : V} {vs : List V} {d : Py} {ds : List Py} : R K H v d → RA K H vs ds → RA K H (v :: vs) (d :: ds)
inductive RK (K : PySem.W.Frag) (H : Hp) : List (Key × V) → List (Py × Py) → Prop
  | nil : RK K H [] []
  | cons {k : Key} {v : V} {d : Py} {ks : List (Key × V)} {kvs : List (Py × Py)} : R K H v d → RK K H ks kvs → RK K H ((k, v) :: ks) ((keyP k, d) :: kvs)
inductive RT (K : PySem.W.Frag) (H : Hp) : List (List Key × V) → List (Py × Py) → Prop
  | nil : RT K H [] []
  | cons {k : List Key} {v : V} {d : Py} {ks : List (List Key × V)} {kvs : List (Py × Py)} : R K H v d → RT K H ks kvs → RT K H ((k, v) :: ks) ((.tup (k.map keyP), d) :: kvs)
end

structure Gr (H H' : Hp) : Prop where
  tup : ∀ b xs, H b = some (.tup xs) → H' b = some (.tup xs)
  frz : ∀ b o u, H b = some (.frz o u) → H' b = some (.frz o u)
theorem Gr.refl (H : Hp) : Gr H H := ⟨fun _ _ h => h, fun _ _ _ h => h⟩
theorem Gr.trans {H H1 H2 : Hp} (a : Gr H H1) (b : Gr H1 H2) : Gr H H2 := ⟨fun c xs h => b.tup c xs (a.tup c xs h), fun c o u h => b.frz c o u (a.frz c o u h)⟩
theorem Gr.sqT {K : PySem.W.Frag} {H H' : Hp} {a : Addr} {xs : List V} (g : Gr H H') (h : SqT K H a xs) : SqT K H' a xs := by
  rcases h with (h | ⟨o, h⟩) | h
  · exact .inl (.inl (g.tup _ _ h))
  · exact .inl (.inr ⟨o, g.frz _ _ _ h⟩)
  · exact .inr h
theorem Gr.sqF {K : PySem.W.Frag} {H H' : Hp} {a : Addr} {xs : List V} (g : Gr H H') (h : SqF K H a xs) : SqF K H' a xs := by
  rcases h with ⟨o, h⟩ | h
  · exact .inl ⟨o, g.frz _ _ _ h⟩
  · exact .inr h
theorem SqF.l {K : PySem.W.Frag} {H : Hp} {a : Addr} {xs : List V} (h : SqF K H a xs) : SqL K H a xs := by
  rcases h with ⟨o, h⟩ | h
  · exact .inl (.inr ⟨o, h⟩)
  · exact .inr h
/-- tables of code objects that the defs with a lambda write: their addresses, and the name of what they hold -/
class Tb where
  T : List (Addr × Str)
variable [Tb]
def OwnK : HO → Prop
  | .lst _ => True
  | .dK _ => True
  | .dT _ => True
  | .ins _ _ _ => True
  | _ => False
/-- a is tracked: a list, dict or instance that may change -/
def Own (H : Hp) (a : Addr) : Prop := ∃ o, H a = some o ∧ OwnK o
theorem OwnK.tup {o : HO} (h : OwnK o) (xs : List V) : o ≠ .tup xs := fun e => by subst e; exact h
theorem OwnK.frz {o : HO} (h : OwnK o) (ob : Obj) (u : HO) : o ≠ .frz ob u := fun e => by subst e; exact h
theorem OwnK.tbl {o : HO} (h : OwnK o) (ps : Array Value) : o ≠ .tbl ps := fun e => by subst e; exact h
theorem OwnK.ext {o : HO} (h : OwnK o) (P : Heap → Prop) : o ≠ .ext P := fun e => by subst e; exact h
def TabsOk (H : Hp) : Prop := LamX.Tabs Tb.T H
/-- an object stays, or it is a table that grew -/
def Stay (o : HO) (h : Option HO) : Prop := h = some o ∨ ∃ ps ps', o = .tbl ps ∧ h = some (.tbl ps')
theorem Stay.rfl' {o : HO} : Stay o (some o) := .inl rfl
theorem Stay.ne {o : HO} {h : Option HO} (s : Stay o h) : h ≠ none := fun e => by
  rcases s with s | ⟨_, _, _, s⟩ <;> rw [e] at s <;> cases s
theorem Stay.own {o : HO} {h : Option HO} (s : Stay o h) (k : OwnK o) : h = some o := by
  rcases s with s | ⟨ps, _, e, _⟩
  · exact s
  · exact absurd e (k.tbl ps)
theorem Stay.tup {h : Option HO} {xs : List V} (s : Stay (.tup xs) h) : h = some (.tup xs) := by
  rcases s with s | ⟨ps, _, e, _⟩
  · exact s
  · cases e
theorem Stay.frz {h : Option HO} {ob : Obj} {u : HO} (s : Stay (.frz ob u) h) : h = some (.frz ob u) := by
  rcases s with s | ⟨ps, _, e, _⟩
  · exact s
  · cases e
theorem Stay.trans {o : HO} {h : Option HO} {h2 : Option HO} (s : Stay o h) (k : ∀ o', h = some o' → Stay o' h2) : Stay o h2 := by
  rcases s with s | ⟨ps, ps', e, s⟩
  · exact k o s
  · subst e
    rcases k _ s with z | ⟨a, b, e, z⟩
    · exact .inr ⟨ps, ps', rfl, z⟩
    · cases e; exact .inr ⟨ps, b, rfl, z⟩
/-- own objects aside, all stays: the tables do -/
theorem TabsOk.but {H H' : Hp} {fp : List Addr} (t : TabsOk H) (ho : ∀ b ∈ fp, Own H b) (k : ∀ b o, H b = some o → b ∉ fp → H' b = some o) : TabsOk H' := by
  intro p hp
  obtain ⟨ps, h1, h2, h3⟩ := t p hp
  refine ⟨ps, k _ _ h1 fun z => ?_, h2, fun pos cv hc => ?_⟩
  · obtain ⟨o, e, ow⟩ := ho _ z
    rw [h1] at e
    exact ow.tbl _ (Option.some.inj e).symm
  · obtain ⟨c, e1, e2⟩ := h3 pos cv hc
    refine ⟨c, e1, k _ _ e2 fun z => ?_⟩
    obtain ⟨o, e, ow⟩ := ho _ z
    rw [e2] at e
    have e' := (Option.some.inj e).symm
    unfold LamX.CodeO at e'
    exact ow.ext _ e'
theorem TabsOk.ext {H H' : Hp} (t : TabsOk H) (k : ∀ b o, H b = some o → H' b = some o) : TabsOk H' := LamX.Tabs.ext t k
theorem Gr.own {H : Hp} {a : Addr} {o : HO} (h : Own H a) : Gr H (upd H a o) := by
  obtain ⟨o1, e, ow⟩ := h
  have n1 := ow.tup
  have n2 := ow.frz
  refine ⟨fun b xs q => ?_, fun b ob u q => ?_⟩
  · rw [upd_ne]
    · exact q
    · rintro rfl; rw [e] at q; exact n1 _ (Option.some.inj q)
  · rw [upd_ne]
    · exact q
    · rintro rfl; rw [e] at q; exact n2 _ _ (Option.some.inj q)
theorem Gr.new {H : Hp} {a : Addr} {o : HO} (h : H a = none) : Gr H (upd H a o) := by
  refine ⟨fun b xs q => ?_, fun b ob u q => ?_⟩
  · rw [upd_ne (ne_of_none q h)]; exact q
  · rw [upd_ne (ne_of_none q h)]; exact q

mutual
theorem R.mono {K : PySem.W.Frag} {H H' : Hp} (g : Gr H H') : ∀ {v : V} {d : Py}, R K H v d → R K H' v d
  | _, _, .non => .non
  | _, _, .bl b => .bl b
  | _, _, .int i => .int i
  | _, _, .str x => .str x
  | _, _, .tup h r => .tup (g.tup _ _ h) (RA.mono g r)
  | _, _, .lst h r => .lst (g.sqF h) (RA.mono g r)
  | _, _, .dicK h r => .dicK (g.frz _ _ _ h) (RK.mono g r)
  | _, _, .dicT h r => .dicT (g.frz _ _ _ h) (RT.mono g r)
  | _, _, .obj a => .obj a
theorem RA.mono {K : PySem.W.Frag} {H H' : Hp} (g : Gr H H') : ∀ {v : List V} {d : List Py}, RA K H v d → RA K H' v d
  | _, _, .nil => .nil
  | _, _, .cons h r => .cons (R.mono g h) (RA.mono g r)
theorem RK.mono {K : PySem.W.Frag} {H H' : Hp} (g : Gr H H') : ∀ {v : List (Key × V)} {d : List (Py × Py)}, RK K H v d → RK K H' v d
  | _, _, .nil => .nil
  | _, _, .cons h r => .cons (R.mono g h) (RK.mono g r)
theorem RT.mono {K : PySem.W.Frag} {H H' : Hp} (g : Gr H H') : ∀ {v : List (List Key × V)} {d : List (Py × Py)}, RT K H v d → RT K H' v d
  | _, _, .nil => .nil
  | _, _, .cons h r => .cons (R.mono g h) (RT.mono g r)
end
section
variable {K : PySem.W.Frag} {H H' : Hp}
theorem RA.length {vs : List V} {ds : List Py} (h : RA K H vs ds) : vs.length = ds.length := by
  match h with
  | .nil => rfl
  | .cons _ t => exact congrArg Nat.succ (RA.length t)
theorem RA.get : ∀ {vs : List V} {ds : List Py} {i : Nat} {d : Py}, RA K H vs ds → ds[i]? = some d → ∃ v, vs[i]? = some v ∧ R K H v d
  | _, _, _, _, .nil, e => by simp at e
  | _, _, 0, _, .cons h _, e => by simp at e; subst e; exact ⟨_, rfl, h⟩
  | _, _, i + 1, d, .cons _ t, e => by
    obtain ⟨v, h1, h2⟩ := RA.get (i := i) (d := d) t (by simpa using e)
    exact ⟨v, by simpa using h1, h2⟩
theorem RA.get' : ∀ {vs : List V} {ds : List Py} {i : Nat} {v : V}, RA K H vs ds → vs[i]? = some v → ∃ d, ds[i]? = some d ∧ R K H v d
  | _, _, _, _, .nil, e => by simp at e
  | _, _, 0, _, .cons h _, e => by simp at e; subst e; exact ⟨_, rfl, h⟩
  | _, _, i + 1, d, .cons _ t, e => by
    obtain ⟨v, h1, h2⟩ := RA.get' (i := i) (v := d) t (by simpa using e)
    exact ⟨v, by simpa using h1, h2⟩
theorem RA.append : ∀ {vs ws : List V} {ds es : List Py}, RA K H vs ds → RA K H ws es → RA K H (vs ++ ws) (ds ++ es)
  | _, _, _, _, .nil, s => s
  | _, _, _, _, .cons h t, s => .cons h (RA.append t s)
theorem RA.take : ∀ {vs : List V} {ds : List Py} (n : Nat), RA K H vs ds → RA K H (vs.take n) (ds.take n)
  | _, _, 0, _ => .nil
  | _, _, _ + 1, .nil => .nil
  | _, _, n + 1, .cons h t => .cons h (RA.take n t)
theorem RA.drop : ∀ {vs : List V} {ds : List Py} (n : Nat), RA K H vs ds → RA K H (vs.drop n) (ds.drop n)
  | _, _, 0, r => r
  | _, _, _ + 1, .nil => .nil
  | _, _, n + 1, .cons _ t => RA.drop n t
theorem RA.set : ∀ {vs : List V} {ds : List Py} (n : Nat) {v : V} {d : Py}, RA K H vs ds → R K H v d → RA K H (vs.set n v) (ds.set n d)
  | _, _, _, _, _, .nil, _ => .nil
  | _, _, 0, _, _, .cons _ t, h => .cons h t
  | _, _, n + 1, _, _, .cons h t, q => .cons h (RA.set n t q)
theorem RA.reverse {vs : List V} {ds : List Py} (h : RA K H vs ds) : RA K H vs.reverse ds.reverse := by
  match h with
  | .nil => exact .nil
  | .cons h t =>
    rw [List.reverse_cons, List.reverse_cons]
    exact RA.append (RA.reverse t) (.cons h .nil)
theorem RA.eraseIdx : ∀ {vs : List V} {ds : List Py} (n : Nat), RA K H vs ds → RA K H (vs.eraseIdx n) (ds.eraseIdx n)
  | _, _, _, .nil => .nil
  | _, _, 0, .cons _ t => t
  | _, _, n + 1, .cons h t => .cons h (RA.eraseIdx n t)
theorem RA.dropLast {vs : List V} {ds : List Py} (h : RA K H vs ds) : RA K H vs.dropLast ds.dropLast := by
  rw [List.dropLast_eq_take, List.dropLast_eq_take, h.length]
  exact h.take _
end

/-! ### slots -/
mutual
inductive RS (K : PySem.W.Frag) (H : Hp) : V → Sv → List Addr → Prop
  | val {v : V} {d : Py} : R K H v d → RS K H v (.val d) []
  | lst {a : Addr} {xs : List V} {ds : List Py} : H a = some (.lst xs) → RA K H xs ds → RS K H (.ref a) (.lst ds) [a]
  | dK {a : Addr} {ks : List (Key × V)} {kvs : List (Py × Py)} : H a = some (.dK ks) → RK K H ks kvs → RS K H (.ref a) (.dic kvs) [a]
  | dT {a : Addr} {ks : List (List Key × V)} {kvs : List (Py × Py)} : H a = some (.dT ks) → RT K H ks kvs → RS K H (.ref a) (.dit kvs) [a]
  | ins {a C dx : Addr} {fs : List (Str × V)} {ws : List (Str × Sv)} {fp : List Addr} : H a = some (.ins C dx fs) → RF K H fs ws fp → RS K H (.ref a) (.ins C ws) (a :: fp)
inductive RF (K : PySem.W.Frag) (H : Hp) : List (Str × V) → List (Str × Sv) → List Addr → Prop
  | nil : RF K H [] [] []
  | cons {f : Str} {v : V} {w : Sv} {fp1 fp2 : List Addr} {fs : List (Str × V)} {ws : List (Str × Sv)} : RS K H v w fp1 → RF K H fs ws fp2 → RF K H ((f, v) :: fs) ((f, w) :: ws) (fp1 ++ fp2)
end
mutual
theorem RS.frame {K : PySem.W.Frag} {H H' : Hp} (g : Gr H H') : ∀ {v : V} {w : Sv} {fp : List Addr}, RS K H v w fp → (∀ b ∈ fp, H' b = H b) → RS K H' v w fp
  | _, _, _, .val h, _ => .val (h.mono g)
  | _, _, _, .lst h r, k => .lst ((k _ (by simp)).trans h) (r.mono g)
  | _, _, _, .dK h r, k => .dK ((k _ (by simp)).trans h) (r.mono g)
  | _, _, _, .dT h r, k => .dT ((k _ (by simp)).trans h) (r.mono g)
  | _, _, _, .ins h r, k => .ins ((k _ (by simp)).trans h) (RF.frame g r fun b hb => k b (List.mem_cons_of_mem _ hb))
theorem RF.frame {K : PySem.W.Frag} {H H' : Hp} (g : Gr H H') : ∀ {v : List (Str × V)} {w : List (Str × Sv)} {fp : List Addr}, RF K H v w fp → (∀ b ∈ fp, H' b = H b) → RF K H' v w fp
  | _, _, _, .nil, _ => .nil
  | _, _, _, .cons h r, k => .cons (RS.frame g h fun b hb => k b (List.mem_append_left _ hb)) (RF.frame g r fun b hb => k b (List.mem_append_right _ hb))
end
mutual
theorem RS.own {K : PySem.W.Frag} {H : Hp} : ∀ {v : V} {w : Sv} {fp : List Addr}, RS K H v w fp → ∀ b ∈ fp, Own H b
  | _, _, _, .val _, b, hb => by cases hb
  | _, _, _, .lst h _, b, hb => by
    have e := List.mem_singleton.mp hb
    subst e
    exact ⟨_, h, trivial⟩
  | _, _, _, .dK h _, b, hb => by
    have e := List.mem_singleton.mp hb
    subst e
    exact ⟨_, h, trivial⟩
  | _, _, _, .dT h _, b, hb => by
    have e := List.mem_singleton.mp hb
    subst e
    exact ⟨_, h, trivial⟩
  | _, _, _, .ins h r, b, hb => by
    rcases List.mem_cons.mp hb with e | hb
    · subst e
      exact ⟨_, h, trivial⟩
    · exact RF.own r b hb
theorem RF.own {K : PySem.W.Frag} {H : Hp} : ∀ {v : List (Str × V)} {w : List (Str × Sv)} {fp : List Addr}, RF K H v w fp → ∀ b ∈ fp, Own H b
  | _, _, _, .nil, b, hb => by cases hb
  | _, _, _, .cons h r, b, hb => by
    rcases List.mem_append.mp hb with hb | hb
    · exact RS.own h b hb
    · exact RF.own r b hb
end
inductive SR (K : PySem.W.Frag) (H : Hp) : L2.St → DS → List Addr → Prop
  | nil : SR K H [] [] []
  | no {o : Option V} {σ : L2.St} {st : DS} {fp : List Addr} : SR K H σ st fp → SR K H (o :: σ) (none :: st) fp
  | yes {v : V} {w : Sv} {σ : L2.St} {st : DS} {fp1 fp2 : List Addr} : RS K H v w fp1 → SR K H σ st fp2 → SR K H (some v :: σ) (some w :: st) (fp1 ++ fp2)
section
variable {K : PySem.W.Frag} {H H' : Hp}
theorem SR.frame (g : Gr H H') : ∀ {σ : L2.St} {st : DS} {fp : List Addr}, SR K H σ st fp → (∀ b ∈ fp, H' b = H b) → SR K H' σ st fp
  | _, _, _, .nil, _ => .nil
  | _, _, _, .no h, k => .no (SR.frame g h k)
  | _, _, _, .yes h r, k => .yes (h.frame g fun b hb => k b (List.mem_append_left _ hb)) (SR.frame g r fun b hb => k b (List.mem_append_right _ hb))
theorem SR.own : ∀ {σ : L2.St} {st : DS} {fp : List Addr}, SR K H σ st fp → ∀ b ∈ fp, Own H b
  | _, _, _, .nil, b, hb => by cases hb
  | _, _, _, .no h, b, hb => SR.own h b hb
  | _, _, _, .yes h r, b, hb => by
    rcases List.mem_append.mp hb with hb | hb
    · exact h.own b hb
    · exact SR.own r b hb
theorem SR.length : ∀ {σ : L2.St} {st : DS} {fp : List Addr}, SR K H σ st fp → σ.length = st.length
  | _, _, _, .nil => rfl
  | _, _, _, .no h => congrArg Nat.succ (SR.length h)
  | _, _, _, .yes _ r => congrArg Nat.succ (SR.length r)
/-- an optional slot's content -/
inductive RO (K : PySem.W.Frag) (H : Hp) : Option V → Option Sv → List Addr → Prop
  | no {o : Option V} : RO K H o none []
  | yes {v : V} {w : Sv} {fp : List Addr} : RS K H v w fp → RO K H (some v) (some w) fp
theorem SR.cons {o : Option V} {ow : Option Sv} {σ : L2.St} {st : DS} {fp1 fp2 : List Addr} (h : RO K H o ow fp1) (r : SR K H σ st fp2) : SR K H (o :: σ) (ow :: st) (fp1 ++ fp2) := by
  cases h with
  | no => exact .no r
  | yes h => exact .yes h r
theorem SR.head {o : Option V} {ow : Option Sv} {σ : L2.St} {st : DS} {fp : List Addr} (h : SR K H (o :: σ) (ow :: st) fp) : ∃ fp1 fp2, fp = fp1 ++ fp2 ∧ RO K H o ow fp1 ∧ SR K H σ st fp2 := by
  cases h with
  | no h => exact ⟨[], _, rfl, .no, h⟩
  | yes h r => exact ⟨_, _, rfl, .yes h, r⟩
/-- one slot and the rest -/
theorem SR.split : ∀ {σ : L2.St} {st : DS} {fp : List Addr} {i : Nat}, SR K H σ st fp → i < st.length →
    ∃ o ow fpi fpr, σ[i]? = some o ∧ st[i]? = some ow ∧ fp.Perm (fpi ++ fpr) ∧ RO K H o ow fpi ∧
      ∀ {H' : Hp} {o' : Option V} {ow' : Option Sv} {fpw : List Addr}, Gr H H' → (∀ b ∈ fpr, H' b = H b) → RO K H' o' ow' fpw → ∃ fp', SR K H' (σ.set i o') (st.set i ow') fp' ∧ fp'.Perm (fpw ++ fpr)
  | [], [], _, i, _, hi => absurd hi (Nat.not_lt_zero _)
  | o :: σ, ow :: st, fp, 0, h, _ => by
    obtain ⟨fp1, fp2, rfl, h1, h2⟩ := h.head
    exact ⟨o, ow, fp1, fp2, rfl, rfl, .refl _, h1, fun g k w => ⟨_, SR.cons w (h2.frame g k), .refl _⟩⟩
  | o :: σ, ow :: st, fp, i + 1, h, hi => by
    obtain ⟨fp1, fp2, rfl, h1, h2⟩ := h.head
    obtain ⟨o', ow', fpi, fpr, e1, e2, p, hr, k⟩ := SR.split (i := i) h2 (Nat.lt_of_succ_lt_succ hi)
    refine ⟨o', ow', fpi, fp1 ++ fpr, by simpa using e1, by simpa using e2, ?_, hr, fun {H'} {p1} {p2} {fpw} g kk w => ?_⟩
    · refine (List.Perm.append_left fp1 p).trans ?_
      rw [← List.append_assoc, ← List.append_assoc]
      exact List.Perm.append_right fpr List.perm_append_comm
    · obtain ⟨fp', q, pm⟩ := k g (fun b hb => kk b (List.mem_append_right _ hb)) w
      have h1' : RO K H' o ow fp1 := by
        cases h1 with
        | no => exact .no
        | yes h1 => exact .yes (h1.frame g fun b hb => kk b (List.mem_append_left _ hb))
      refine ⟨fp1 ++ fp', SR.cons h1' q, (List.Perm.append_left fp1 pm).trans ?_⟩
      rw [← List.append_assoc, ← List.append_assoc]
      exact List.Perm.append_right fpr List.perm_append_comm
end
end DL

/-! ## DL2 -/
namespace DL
open PySem PySem.Spec PyProof.Rows L2
variable [Tb]

structure Fr where
  H0 : Hp
  fp0 : List Addr
  pin : List (Nat × V)
def Fr.mine (Γ : Fr) (b : Addr) : Prop := Γ.H0 b = none ∨ b ∈ Γ.fp0
structure Rel (K : PySem.W.Frag) (Γ : Fr) (st : DS) (σ : L2.St) (H : Hp) (fx : List Addr) : Prop where
  ex : ∃ fp, SR K H σ st fp ∧ (fx ++ fp).Nodup ∧ ∀ b ∈ fx ++ fp, Γ.mine b
  fxo : ∀ b ∈ fx, Own H b
  same : (∀ b o, Γ.H0 b = some o → b ∉ Γ.fp0 → Stay o (H b)) ∧ TabsOk H
  pin : ∀ p ∈ Γ.pin, σ[p.1]? = some (some p.2)
theorem Same.gr {H H' : Hp} (s : Same H H') : Gr H H' := ⟨fun _ _ h => s _ _ h, fun _ _ _ h => s _ _ h⟩
theorem Own.same {H H' : Hp} {b : Addr} (s : Same H H') (h : Own H b) : H' b = H b := by
  obtain ⟨o, e, _⟩ := h
  rw [e, s _ _ e]
theorem Own.ext {H H' : Hp} {b : Addr} (e : H' b = H b) (h : Own H b) : Own H' b := by
  obtain ⟨o, q, r⟩ := h
  exact ⟨o, e.trans q, r⟩
theorem Same.new {H : Hp} {p : Addr} {o : HO} (h : H p = none) : Same H (upd H p o) := fun b u q => by
  rw [upd_ne (ne_of_none q h)]; exact q
theorem getset {α : Type} {l : List α} {i : Nat} {a : α} (h : l[i]? = some a) : l.set i a = l := by
  apply List.ext_getElem?
  intro j
  by_cases hj : i = j
  · subst hj
    have := (List.getElem?_eq_some_iff.mp h).1
    rw [List.getElem?_set_self this, h]
  · rw [List.getElem?_set_ne hj]
section
variable {K : PySem.W.Frag} {Γ : Fr} {st : DS} {σ : L2.St} {H H' : Hp} {fx : List Addr}
theorem Rel.ext (r : Rel K Γ st σ H fx) (s : Same H H') : Rel K Γ st σ H' fx := by
  obtain ⟨⟨fp, h, nd, mi⟩, fo, sm, pn⟩ := r
  refine ⟨⟨fp, h.frame (Same.gr s) fun b hb => (h.own b hb).same s, nd, mi⟩, fun b hb => (fo b hb).ext ((fo b hb).same s), ⟨fun b o e n => (sm.1 b o e n).trans fun o' h' => .inl (s _ _ h'), sm.2.ext s⟩, pn⟩
theorem Rel.mineNew (r : Rel K Γ st σ H fx) {p : Addr} (h : H p = none) : Γ.mine p := by
  by_cases hp : p ∈ Γ.fp0
  · exact .inr hp
  · cases e : Γ.H0 p with
    | none => exact .inl e
    | some o =>
      exact absurd h (r.same.1 p o e hp).ne
/-- new objects that a value owns -/
theorem Rel.owned (r : Rel K Γ st σ H []) (s : Same H H') {fw : List Addr} (nd : fw.Nodup) (hn : ∀ b ∈ fw, H b = none) (ho : ∀ b ∈ fw, Own H' b) : Rel K Γ st σ H' fw := by
  have r' := r.ext s
  obtain ⟨⟨fp, h, nd0, mi⟩, fo, sm, pn⟩ := r
  obtain ⟨_, _, sm', pn'⟩ := r'
  refine ⟨⟨fp, h.frame (Same.gr s) fun b hb => (h.own b hb).same s, ?_, ?_⟩, ho, sm', pn'⟩
  · refine List.nodup_append.mpr ⟨nd, by simpa using nd0, fun a ha b hb e => ?_⟩
    subst e
    obtain ⟨o, q, _⟩ := h.own a hb
    rw [hn a ha] at q; cases q
  · intro b hb
    rcases List.mem_append.mp hb with hb | hb
    · exact Rel.mineNew ⟨⟨fp, h, nd0, mi⟩, fo, sm, pn⟩ (hn b hb)
    · exact mi b (by simpa using hb)
theorem Rel.get (r : Rel K Γ st σ H fx) {i : Nat} {w : Sv} (e : st[i]? = some (some w)) : ∃ v fp, σ[i]? = some (some v) ∧ RS K H v w fp := by
  obtain ⟨⟨fp, h, _, _⟩, _, _, _⟩ := r
  obtain ⟨o, ow, fpi, fpr, e1, e2, _, ro, _⟩ := h.split (List.getElem?_eq_some_iff.mp e).1
  rw [e] at e2
  have e3 := Option.some.inj e2
  subst e3
  cases ro with
  | yes q => exact ⟨_, _, e1, q⟩
/-- the content of slot i is changed at its place (or the slot is stored anew) -/
theorem Rel.put (r : Rel K Γ st σ H []) {i : Nat} {w : Sv} (e : st[i]? = some (some w)) : ∃ v fpi, σ[i]? = some (some v) ∧ RS K H v w fpi ∧ fpi.Nodup ∧ (∀ b ∈ fpi, Γ.mine b) ∧
    ∀ {H' : Hp} {w' : Sv} {fw fx : List Addr}, Gr H H' → (∀ b o, b ∉ fpi → H b = some o → H' b = some o) → RS K H' v w' fw → (fx ++ fw).Nodup → (∀ b ∈ fx ++ fw, b ∈ fpi ∨ H b = none) → (∀ b ∈ fx, Own H' b) → Rel K Γ (st.set i (some w')) σ H' fx := by
  have hr := r
  obtain ⟨⟨fp, h, nd, mi⟩, _, sm, pn⟩ := r
  obtain ⟨o, ow, fpi, fpr, e1, e2, pm, ro, k⟩ := h.split (List.getElem?_eq_some_iff.mp e).1
  rw [e] at e2
  have e3 := Option.some.inj e2
  subst e3
  have nd' : (fpi ++ fpr).Nodup := pm.nodup_iff.mp (by simpa using nd)
  have nda := List.nodup_append.mp nd'
  cases ro with
  | @yes v _ _ q =>
    refine ⟨v, fpi, e1, q, nda.1, fun b hb => mi b (by simpa using pm.mem_iff.mpr (List.mem_append_left _ hb)), fun {H' w' fw fx} g fr rs ndw hw hox => ?_⟩
    have ownr : ∀ b ∈ fpr, Own H b := fun b hb => h.own b (pm.mem_iff.mpr (List.mem_append_right _ hb))
    have disj : ∀ b ∈ fpr, b ∉ fpi := fun b hb hb' => nda.2.2 b hb' b hb rfl
    have keep : ∀ b ∈ fpr, H' b = H b := fun b hb => by
      obtain ⟨o, q, _⟩ := ownr b hb
      rw [q, fr b o (disj b hb) q]
    obtain ⟨fp', sr', pm'⟩ := k (H' := H') (o' := some v) (ow' := some w') (fpw := fw) g keep (.yes rs)
    rw [getset e1] at sr'
    have ndf : (fx ++ (fw ++ fpr)).Nodup := by
      rw [← List.append_assoc]
      refine List.nodup_append.mpr ⟨ndw, nda.2.1, fun a ha b hb e => ?_⟩
      subst e
      rcases hw a ha with z | z
      · exact disj a hb z
      · obtain ⟨o, q, _⟩ := ownr a hb
        rw [z] at q; cases q
    refine ⟨⟨fp', sr', (List.Perm.append_left fx pm').nodup_iff.mpr ndf, fun b hb => ?_⟩, hox, ⟨fun b o e n => ?_, sm.2.but (fp := fpi) q.own fun b o e n => fr b o n e⟩, pn⟩
    · have hb' := (List.Perm.append_left fx pm').mem_iff.mp hb
      rw [← List.append_assoc] at hb'
      rcases List.mem_append.mp hb' with hb | hb
      · rcases hw b hb with z | z
        · exact mi b (by simpa using pm.mem_iff.mpr (List.mem_append_left _ z))
        · exact hr.mineNew z
      · exact mi b (by simpa using pm.mem_iff.mpr (List.mem_append_right _ hb))
    · refine (sm.1 b o e n).trans fun o' h' => .inl (fr b o' (fun z => ?_) h')
      rcases mi b (by simpa using pm.mem_iff.mpr (List.mem_append_left _ z)) with m | m
      · rw [m] at e; cases e
      · exact n m
/-- slot i is stored: what it held is let go -/
theorem Rel.set (r : Rel K Γ st σ H fx) {i : Nat} {v : V} {w : Sv} (hi : i < st.length) (rs : RS K H v w fx) (np : ∀ p ∈ Γ.pin, p.1 ≠ i) : Rel K Γ (st.set i (some w)) (σ.set i (some v)) H [] := by
  obtain ⟨⟨fp, h, nd, mi⟩, fo, sm, pn⟩ := r
  obtain ⟨o, ow, fpi, fpr, e1, e2, pm, ro, k⟩ := h.split hi
  obtain ⟨fp', sr', pm'⟩ := k (H' := H) (o' := some v) (ow' := some w) (fpw := fx) (Gr.refl H) (fun _ _ => rfl) (.yes rs)
  have nd1 := List.nodup_append.mp nd
  have nd2 : (fpi ++ fpr).Nodup := pm.nodup_iff.mp nd1.2.1
  have sub : ∀ b ∈ fpr, b ∈ fp := fun b hb => pm.mem_iff.mpr (List.mem_append_right _ hb)
  refine ⟨⟨fp', sr', ?_, ?_⟩, (fun b hb => by cases hb), sm, fun p hp => ?_⟩
  · show fp'.Nodup
    refine pm'.nodup_iff.mpr (List.nodup_append.mpr ⟨nd1.1, (List.nodup_append.mp nd2).2.1, fun a ha b hb e => nd1.2.2 a ha b (sub b hb) e⟩)
  · intro b hb
    have hb' : b ∈ fp' := hb
    rcases List.mem_append.mp (pm'.mem_iff.mp hb') with z | z
    · exact mi b (List.mem_append_left _ z)
    · exact mi b (List.mem_append_right _ (sub b z))
  · rw [List.getElem?_set_ne (Ne.symm (np p hp))]; exact pn p hp
/-- slots are forgotten -/
theorem Rel.gone (r : Rel K Γ st σ H []) {i : Nat} {o' : Option V} (np : ∀ p ∈ Γ.pin, p.1 ≠ i) : Rel K Γ (st.set i none) (σ.set i o') H [] := by
  by_cases hi : i < st.length
  · obtain ⟨⟨fp, h, nd, mi⟩, fo, sm, pn⟩ := r
    obtain ⟨o, ow, fpi, fpr, e1, e2, pm, ro, k⟩ := h.split hi
    obtain ⟨fp', sr', pm'⟩ := k (H' := H) (o' := o') (ow' := none) (fpw := []) (Gr.refl H) (fun _ _ => rfl) .no
    have nd2 : (fpi ++ fpr).Nodup := pm.nodup_iff.mp (by simpa using nd)
    have sub : ∀ b ∈ fpr, b ∈ fp := fun b hb => pm.mem_iff.mpr (List.mem_append_right _ hb)
    refine ⟨⟨fp', sr', ?_, fun b hb => ?_⟩, (fun b hb => by cases hb), sm, fun p hp => ?_⟩
    · show fp'.Nodup
      exact pm'.nodup_iff.mpr (by simpa using (List.nodup_append.mp nd2).2.1)
    · have hb' : b ∈ fp' := hb
      have z := pm'.mem_iff.mp hb'
      exact mi b (by simpa using sub b (by simpa using z))
    · rw [List.getElem?_set_ne (Ne.symm (np p hp))]; exact pn p hp
  · have h1 : st.set i none = st := List.set_eq_of_length_le (by omega)
    have h2 : σ.set i o' = σ := by
      obtain ⟨⟨fp, h, _⟩, _⟩ := r
      exact List.set_eq_of_length_le (by rw [h.length]; omega)
    rw [h1, h2]; exact r
/-- slot i of the model is forgotten, the machine's stays -/
theorem Rel.weak (r : Rel K Γ st σ H []) {i : Nat} (np : ∀ p ∈ Γ.pin, p.1 ≠ i) : Rel K Γ (st.set i none) σ H [] := by
  by_cases hi : i < st.length
  · have hl : i < σ.length := by
      obtain ⟨⟨fp, h, _⟩, _⟩ := r
      rw [h.length]; exact hi
    have := r.gone (i := i) (o' := σ[i]) np
    rw [getset (List.getElem?_eq_getElem hl)] at this
    exact this
  · have h1 : st.set i none = st := List.set_eq_of_length_le (by omega)
    rw [h1]; exact r
end

/-! ### exceptions, results -/
structure Exn where
  name : Str
  arg : Option (Str × Py)
def XR (mg : Str → Option Value) (K : PySem.W.Frag) (x : Exn) (cls : Value) (d : Option Addr) (H : Hp) : Prop :=
  mg x.name = some cls ∧ match x.arg with
    | none => d = none
    | some (f, y) => ∃ dx v, d = some dx ∧ H dx = some (.xd [(f, v)]) ∧ R K H v y
inductive ER (α : Type) where
  | ok (a : α) (st : DS) | ex (x : Exn) (st : DS) | stuck
def ER.bind {α β : Type} (r : ER α) (f : α → DS → ER β) : ER β := match r with
  | .ok a st => f a st
  | .ex x st => .ex x st
  | .stuck => .stuck
@[simp] theorem ER.bind_ok {α β : Type} {a : α} {st : DS} {f : α → DS → ER β} : (ER.ok a st).bind f = f a st := rfl
@[simp] theorem ER.bind_ex {α β : Type} {x : Exn} {st : DS} {f : α → DS → ER β} : (ER.ex x st : ER α).bind f = .ex x st := rfl
@[simp] theorem ER.bind_stuck {α β : Type} {f : α → DS → ER β} : (ER.stuck : ER α).bind f = .stuck := rfl
/-- how a wish about a result reads; G: what is wanted of a value, W: of an exception -/
def fin {α : Type} (X : Cx) (Wx : WX) (Γ : Fr) (σ : L2.St) (H : Hp) (r : ER α) (G : α → DS → Prop) : Prop := match r with
  | .ok a st' => G a st'
  | .ex x st' => ∀ cls d σ' H', Rel X.K Γ st' σ' H' [] → Gr H H' → XR X.mg X.K x cls d H' → Wx cls d σ' H'
  | .stuck => False
theorem fin.imp {α : Type} {X : Cx} {Wx : WX} {Γ : Fr} {σ : L2.St} {H : Hp} {r : ER α} {G G' : α → DS → Prop} (h : fin X Wx Γ σ H r G) (k : ∀ a st, G a st → G' a st) : fin X Wx Γ σ H r G' := by
  cases r with
  | ok a st => exact k a st h
  | ex x st => exact h
  | stuck => exact h
theorem fin.gr {α : Type} {X : Cx} {Wx : WX} {Γ : Fr} {σ σ' : L2.St} {H H' : Hp} {r : ER α} {G : α → DS → Prop} (g : Gr H H') (h : fin X Wx Γ σ H r G) : fin X Wx Γ σ' H' r G := by
  cases r with
  | ok a st => exact h
  | ex x st => exact fun cls d σ1 H1 r1 g1 x1 => h cls d σ1 H1 r1 (g.trans g1) x1
  | stuck => exact h
theorem fin.bind {α β : Type} {X : Cx} {Wx : WX} {Γ : Fr} {σ : L2.St} {H : Hp} {r : ER α} {f : α → DS → ER β} {G : β → DS → Prop} (h : fin X Wx Γ σ H (r.bind f) G) : fin X Wx Γ σ H r fun a st => fin X Wx Γ σ H (f a st) G := by
  cases r with
  | ok a st => exact h
  | ex x st => exact h
  | stuck => exact h
/-- an operand: data, or the object of a slot -/
inductive Ar where
  | v (d : Py) | s (i : Nat)
def ARep (K : PySem.W.Frag) (H : Hp) (σ : L2.St) (v : V) : Ar → Prop
  | .v d => R K H v d
  | .s i => σ[i]? = some (some v)
inductive ARs (K : PySem.W.Frag) (H : Hp) (σ : L2.St) : List V → List Ar → Prop
  | nil : ARs K H σ [] []
  | cons {v : V} {a : Ar} {vs : List V} {as : List Ar} : ARep K H σ v a → ARs K H σ vs as → ARs K H σ (v :: vs) (a :: as)
theorem ARep.mono {K : PySem.W.Frag} {H H' : Hp} {σ : L2.St} {v : V} {a : Ar} (g : Gr H H') (h : ARep K H σ v a) : ARep K H' σ v a := by
  cases a with
  | v d => exact R.mono g h
  | s i => exact h
def lookA (st : DS) : Ar → Option Sv
  | .v d => some (.val d)
  | .s i => (st[i]?).join
theorem join_some {st : DS} {i : Nat} {w : Sv} (h : (st[i]?).join = some w) : st[i]? = some (some w) := by
  cases e : st[i]? with
  | none => rw [e] at h; cases h
  | some o => rw [e] at h; simpa using h
theorem Rel.look {K : PySem.W.Frag} {Γ : Fr} {st : DS} {σ : L2.St} {H : Hp} {v : V} {a : Ar} {w : Sv} (r : Rel K Γ st σ H []) (h : ARep K H σ v a) (e : lookA st a = some w) : ∃ fp, RS K H v w fp := by
  cases a with
  | v d => cases e; exact ⟨[], .val h⟩
  | s i =>
    have h' : σ[i]? = some (some v) := h
    obtain ⟨v', fp, e1, q⟩ := r.get (join_some e)
    rw [h'] at e1
    cases e1
    exact ⟨fp, q⟩

/-! ### the judgements -/
def tE (X : Cx) (Wx : WX) (m : DS → ER Py) : TE := fun σ H Q => ∃ Γ st, Rel X.K Γ st σ H [] ∧ fin X Wx Γ σ H (m st) fun d st' => ∀ v H', Rel X.K Γ st' σ H' [] → Gr H H' → R X.K H' v d → Q v H'
def tX (X : Cx) (Wx : WX) (m : DS → ER Ar) : TE := fun σ H Q => ∃ Γ st, Rel X.K Γ st σ H [] ∧ fin X Wx Γ σ H (m st) fun d st' => ∀ v H', Rel X.K Γ st' σ H' [] → Gr H H' → ARep X.K H' σ v d → Q v H'
def tO (X : Cx) (Wx : WX) (m : DS → ER Sv) : TE := fun σ H Q => ∃ Γ st, Rel X.K Γ st σ H [] ∧ fin X Wx Γ σ H (m st) fun w st' => ∀ v H' fw, Rel X.K Γ st' σ H' fw → Gr H H' → RS X.K H' v w fw → Q v H'
def tT (X : Cx) (Wx : WX) (m : DS → ER Bool) : TT := fun σ H Q => ∃ Γ st, Rel X.K Γ st σ H [] ∧ fin X Wx Γ σ H (m st) fun b st' => ∀ H', Rel X.K Γ st' σ H' [] → Gr H H' → Q b H'
def tAs (X : Cx) (Wx : WX) (n : Nat) (m : DS → ER (List Ar)) : TA := fun σ H Q => ∃ Γ st, Rel X.K Γ st σ H [] ∧ fin X Wx Γ σ H (m st) fun rs st' => ∀ vs H', Rel X.K Γ st' σ H' [] → Gr H H' → ARs X.K H' σ vs rs → vs.length = n → Q vs H'
/-- the value is data -/
structure DE (X : Cx) (e : Expr) (m : DS → ER Py) : Prop where
  pe : ∀ Wx, Takes X Wx → PE X e (tE X Wx m)
/-- .. data or the object of a slot -/
structure DX (X : Cx) (e : Expr) (m : DS → ER Ar) : Prop where
  pe : ∀ Wx, Takes X Wx → PE X e (tX X Wx m)
/-- .. data or a new object -/
structure DO (X : Cx) (e : Expr) (m : DS → ER Sv) : Prop where
  pe : ∀ Wx, Takes X Wx → PE X e (tO X Wx m)
structure DT (X : Cx) (e : Expr) (m : DS → ER Bool) : Prop where
  pt : ∀ Wx, Takes X Wx → PT X e (tT X Wx m)
structure DW (X : Cx) (e : Expr) (m : DS → ER Bool) : Prop where
  pw : ∀ Wx, Takes X Wx → PW X e (tT X Wx m)
structure DA (X : Cx) (es : List Expr) (m : DS → ER (List Ar)) : Prop where
  pa : ∀ Wx, Takes X Wx → PA X es (tAs X Wx es.length m)
theorem pe_imp {X : Cx} {e : Expr} {t t' : TE} (h : PE X e t) (k : ∀ σ H Q, t' σ H Q → t σ H Q) : PE X e t' := ⟨fun pins s σ H Q I q => h.run pins s σ H Q I (k _ _ _ q)⟩
theorem pt_imp {X : Cx} {e : Expr} {t t' : TT} (h : PT X e t) (k : ∀ σ H Q, t' σ H Q → t σ H Q) : PT X e t' := ⟨fun pins s σ H Q I q => h.run pins s σ H Q I (k _ _ _ q)⟩
theorem pw_imp {X : Cx} {e : Expr} {t t' : TT} (h : PW X e t) (k : ∀ σ H Q, t' σ H Q → t σ H Q) : PW X e t' := ⟨fun wh pins s σ H Q I q => h.run wh pins s σ H Q I (k _ _ _ q)⟩
theorem pa_imp {X : Cx} {e : List Expr} {t t' : TA} (h : PA X e t) (k : ∀ σ H Q, t' σ H Q → t σ H Q) : PA X e t' := ⟨fun p pins s σ H Q I q => h.run p pins s σ H Q I (k _ _ _ q)⟩

/-! ### locking -/
def lockable : HO → Prop
  | .lst _ => True
  | .dK _ => True
  | .dT _ => True
  | _ => False
theorem inv_frz {X : Cx} {pins : List (Addr × Obj)} {σ : L2.St} {H : Hp} {s : Shared} {a : Addr} {u : HO} (I : Inv X pins σ H s) (h : H a = some u) (l : lockable u) : ∃ o, Inv X pins σ (upd H a (.frz o u)) s := by
  obtain ⟨o, ho⟩ : ∃ o, s.heap.get? a = some o := by
    have k := I.hok a u h
    cases u with
    | lst xs => obtain ⟨_, _, _, _, e⟩ := k; exact ⟨_, e⟩
    | dK xs => obtain ⟨_, _, _, _, o, _, _, e, _⟩ := k; exact ⟨_, e⟩
    | dT xs => obtain ⟨_, _, _, _, o, _, _, e, _⟩ := k; exact ⟨_, e⟩
    | _ => exact absurd l id
  have na : ∀ b xs, H b = some (.tup xs) → b ≠ a := fun b xs e z => by subst z; rw [h] at e; cases e; exact l
  have no : ∀ b y, H b = some (.own y) → b ≠ a := fun b y e z => by subst z; rw [h] at e; cases e; exact l
  have nf : ∀ b y z, H b = some (.frz y z) → b ≠ a := fun b y z e q => by subst q; rw [h] at e; cases e; exact l
  have nt : ∀ b y, H b = some (.tbl y) → b ≠ a := fun b y e q => by subst q; rw [h] at e; cases e; exact l
  have okA : ∀ b v, H b = some v → ObjOk X.prog X.w (upd H a (.frz o u)) s.heap b v := fun b v e =>
    (I.hok b v e).stay (fun c w _ q => q) (fun c q => by rw [upd_ne (no c b q)]; exact q) (fun c xs q => by rw [upd_ne (na c xs q)]; exact q)
  have hok : HOk X.prog X.w (upd H a (.frz o u)) s.heap := fun b v e => by
    by_cases hb : b = a
    · subst hb
      rw [upd_same] at e
      cases e
      exact ⟨ho, okA b u h⟩
    · rw [upd_ne hb] at e
      exact okA b v e
  refine ⟨o, ?_⟩
  have U : Un X.fs [] H (upd H a (.frz o u)) s.heap s.heap := by
    refine ⟨fun b v e n _ _ => e, fun b v e n _ _ => ⟨v.slots, e⟩, fun b v e n _ => ?_, fun b v e _ => ⟨v, e⟩, fun b xs e => ?_, fun b y z e => ?_, fun b ps e => ⟨#[], ?_⟩⟩
    · rw [upd_ne (fun z => by subst z; rw [h] at n; cases n)]; exact n
    · rw [upd_ne (na b xs e)]; exact e
    · rw [upd_ne (nf b y z e)]; exact e
    · rw [upd_ne (nt b ps e), e]; simp
  have := I.un (t' := s.toks) U hok
  exact this
/-- an expression whose value may be locked -/
def tFrz (t : TE) : TE := fun σ H Q => t σ H fun v H1 => Q v H1 ∨ ∃ a u, v = .ref a ∧ H1 a = some u ∧ lockable u ∧ ∀ o, Q v (upd H1 a (.frz o u))
theorem pe_frz {X : Cx} {e : Expr} {t : TE} (h : PE X e t) : PE X e (tFrz t) := by
  refine ⟨fun pins s σ H Q I q => ?_⟩
  refine thn (h.run pins s σ H _ I q) fun u s1 ⟨v, H1, I1, r1, q1⟩ => ?_
  rcases q1 with q1 | ⟨a, w, rfl, ha, l, q1⟩
  · exact ⟨v, H1, I1, r1, q1⟩
  · obtain ⟨o, I2⟩ := inv_frz I1 ha l
    exact ⟨_, _, I2, r1, q1 o⟩
def frzS : Sv → Option Py
  | .val d => some d
  | .lst ds => some (.lst ds)
  | .dic kvs => some (.dic kvs)
  | .dit kvs => some (.dit kvs)
  | .ins _ _ => none
def optE {α : Type} (o : Option α) (st : DS) : ER α := match o with
  | some a => .ok a st
  | none => .stuck
@[simp] theorem optE_some {α : Type} {a : α} {st : DS} : optE (some a) st = .ok a st := rfl
@[simp] theorem optE_none {α : Type} {st : DS} : optE (none : Option α) st = .stuck := rfl
theorem fin_opt {α : Type} {X : Cx} {Wx : WX} {Γ : Fr} {σ : L2.St} {H : Hp} {o : Option α} {st : DS} {G : α → DS → Prop} (h : fin X Wx Γ σ H (optE o st) G) : ∃ a, o = some a ∧ G a st := by
  cases o with
  | none => exact absurd h id
  | some a => exact ⟨a, rfl, h⟩
theorem Rel.lock {K : PySem.W.Frag} {Γ : Fr} {st : DS} {σ : L2.St} {H : Hp} {fw : List Addr} {a : Addr} {o : Obj} {u : HO} (r : Rel K Γ st σ H fw) (ha : a ∈ fw) : Rel K Γ st σ (upd H a (.frz o u)) [] := by
  obtain ⟨⟨fp, h, nd, mi⟩, fo, sm, pn⟩ := r
  have ndp := List.nodup_append.mp nd
  refine ⟨⟨fp, h.frame (Gr.own (fo a ha)) fun b hb => upd_ne fun z => ndp.2.2 a ha b hb z.symm, by simpa using ndp.2.1, fun b hb => mi b (List.mem_append_right _ (by simpa using hb))⟩, (fun b hb => by cases hb), ⟨fun b v e n => ?_, sm.2.but (fp := [a]) (fun b hb => by rw [List.mem_singleton.mp hb]; exact fo a ha) fun b o e n => by rw [upd_ne (by simpa using n)]; exact e⟩, pn⟩
  rw [upd_ne]
  · exact sm.1 b v e n
  · rintro rfl
    rcases mi b (List.mem_append_left _ ha) with m | m
    · rw [m] at e; cases e
    · exact n m
/-- an object that is new, taken as data: it is locked -/
theorem DO.frz {X : Cx} {e : Expr} {m : DS → ER Sv} (h : DO X e m) : DE X e fun st => (m st).bind fun w st' => optE (frzS w) st' := by
  refine ⟨fun Wx tk => pe_imp (pe_frz (h.pe Wx tk)) fun σ H Q ⟨Γ, st, r, q⟩ => ⟨Γ, st, r, ?_⟩⟩
  refine fin.imp (fin.bind q) fun w st' q1 v H' fw r1 g1 rs => ?_
  obtain ⟨d, e1, q1⟩ := fin_opt q1
  cases rs with
  | val rv => cases e1; exact .inl (q1 v H' r1 g1 rv)
  | @lst a xs ds ha ra =>
    cases e1
    refine .inr ⟨_, _, rfl, ha, trivial, fun o => ?_⟩
    have g2 : Gr H' (upd H' a (.frz o (.lst xs))) := Gr.own (r1.fxo _ List.mem_cons_self)
    exact q1 _ _ (r1.lock (o := o) (u := _) List.mem_cons_self) (g1.trans g2) (.lst (.inl ⟨o, upd_same⟩) (ra.mono g2))
  | @dK a xs ds ha ra =>
    cases e1
    refine .inr ⟨_, _, rfl, ha, trivial, fun o => ?_⟩
    have g2 : Gr H' (upd H' a (.frz o (.dK xs))) := Gr.own (r1.fxo _ List.mem_cons_self)
    exact q1 _ _ (r1.lock (o := o) (u := _) List.mem_cons_self) (g1.trans g2) (.dicK upd_same (ra.mono g2))
  | @dT a xs ds ha ra =>
    cases e1
    refine .inr ⟨_, _, rfl, ha, trivial, fun o => ?_⟩
    have g2 : Gr H' (upd H' a (.frz o (.dT xs))) := Gr.own (r1.fxo _ List.mem_cons_self)
    exact q1 _ _ (r1.lock (o := o) (u := _) List.mem_cons_self) (g1.trans g2) (.dicT upd_same (ra.mono g2))
  | ins ha ra => cases e1
/-- data as a value of any kind -/
theorem DE.val {X : Cx} {e : Expr} {m : DS → ER Py} (h : DE X e m) : DO X e fun st => (m st).bind fun d st' => .ok (.val d) st' := by
  refine ⟨fun Wx tk => pe_imp (h.pe Wx tk) fun σ H Q ⟨Γ, st, r, q⟩ => ⟨Γ, st, r, ?_⟩⟩
  exact fin.imp (fin.bind q) fun d st' q1 v H' r1 g1 rv => q1 v H' [] r1 g1 (.val rv)
theorem DE.x {X : Cx} {e : Expr} {m : DS → ER Py} (h : DE X e m) : DX X e fun st => (m st).bind fun d st' => .ok (.v d) st' := by
  refine ⟨fun Wx tk => pe_imp (h.pe Wx tk) fun σ H Q ⟨Γ, st, r, q⟩ => ⟨Γ, st, r, ?_⟩⟩
  exact fin.imp (fin.bind q) fun d st' q1 v H' r1 g1 rv => q1 v H' r1 g1 rv
end DL

/-! ## DL3 -/
namespace DL
open PySem PySem.Spec PyProof.Rows L2 HT
variable [Tb]

/-! ### t[::-1] of a tuple -/
theorem cut_rev {prog : Program} {w : World} {A : Around} {s : Shared} {sl : Addr} {vl vu vs : Value} {n : Nat} {E : Value → Shared → Prop} {Q : Int × Int × Nat → Shared → Prop} (hs : s.heap.IsSliceOf sl vl vu vs) (pl : IsPart vl none) (pu : IsPart vu none) (ps : IsPart vs (some (-1)))
    (h : Q ((n : Int) - 1, -1, n) s) : wpAny (model prog w) A (Builtin.Slice.sliceApplied (.ref sl) (pure (n : Int))) Q E s := by
  obtain ⟨os, hos, hcs, hds⟩ := id hs
  unfold Builtin.Slice.sliceApplied Builtin.Slice.sliceFields
  refine wpAny_bind (wpAny_bind (wpAny_field hos hds (x := vl) rfl (wpAny_bind (wpAny_field hos hds (x := vu) rfl (wpAny_bind (wpAny_field hos hds (x := vs) rfl (wpAny_pure ?_)))))))
  refine wpAny_bind (HT.slicePart_ ps ?_)
  show wpAny _ _ (if ((-1 : Int) == 0) = true then _ else _) _ _ s
  rw [if_neg (by decide)]
  refine wpAny_bind (HT.slicePart_ pl (wpAny_bind (HT.slicePart_ pu (wpAny_bind (wpAny_pure ?_)))))
  show wpAny _ _ (pure (((n : Int) - 1), (-1 : Int), Builtin.Slice.slicePlaces ((n : Int) - 1) (-1) (-1))) _ _ s
  have e : Builtin.Slice.slicePlaces ((n : Int) - 1) (-1) (-1) = n := by
    unfold Builtin.Slice.slicePlaces
    have h1 : ¬ ((-1 : Int) > 0) := by omega
    simp only [h1, if_false]
    split
    · simp only [Int.neg_neg, Int.ediv_one]; omega
    · simp; omega
  rw [e]
  exact wpAny_pure h
theorem fm_map {α β : Type} {f : α → Option β} {g : α → β} : ∀ {l : List α}, (∀ x ∈ l, f x = some (g x)) → l.filterMap f = l.map g
  | [], _ => rfl
  | a :: l, h => by
    rw [List.filterMap_cons, h a List.mem_cons_self, List.map_cons, fm_map fun x hx => h x (List.mem_cons_of_mem _ hx)]
theorem pick_rev (xs : Array Value) : ((List.range xs.size).filterMap fun (m : Nat) => xs[(((xs.size : Int) - 1) + (m : Int) * -1).toNat]?).toArray = xs.toList.reverse.toArray := by
  congr 1
  apply List.ext_getElem?
  intro j
  have e : ((List.range xs.size).filterMap fun (m : Nat) => xs[(((xs.size : Int) - 1) + (m : Int) * -1).toNat]?) = (List.range xs.size).map fun m => xs[xs.size - 1 - m]! := by
    apply fm_map
    intro m hm
    have hm' := List.mem_range.mp hm
    have q : (((xs.size : Int) - 1) + (m : Int) * -1).toNat = xs.size - 1 - m := by omega
    rw [q]
    have hlt : xs.size - 1 - m < xs.size := by omega
    simp [hlt]
  rw [e]
  by_cases hj : j < xs.size
  · rw [List.getElem?_map, List.getElem?_range hj, List.getElem?_reverse (by simpa using hj)]
    have hlt : xs.size - 1 - j < xs.size := by omega
    simp [hlt]
  · rw [List.getElem?_eq_none (by simpa using hj), List.getElem?_eq_none (by simpa using hj)]
theorem getItem_tuple_rev {X : Cx} {s : Shared} {t sl : Addr} {items : Array Value} {vl vu vs : Value} {E : Value → Shared → Prop} {Q : Value → Shared → Prop} (ht : IsTup s.heap t items) (hs : s.heap.IsSliceOf sl vl vu vs) (pl : IsPart vl none) (pu : IsPart vu none)
    (ps : IsPart vs (some (-1))) (h : Q (.ref s.heap.objs.size) { s with heap := s.heap.push { cls := .type "tuple", data := .seq items.toList.reverse.toArray } })
    (hsz : items.size ≤ sizeLine) : wpAny (model X.prog X.w) X.A (getItem (.ref t) (.ref sl)) Q E s := by
  have htake : sizeOk (.seq items.toList.reverse.toArray) := by
    show items.toList.reverse.toArray.size ≤ sizeLine
    rw [List.size_toArray, List.length_reverse, Array.length_toList]
    exact hsz
  obtain ⟨os, hos, hcs, hds⟩ := id hs
  have hTs : s.TypeIs (.ref sl) "slice" := ⟨os, hos, hcs⟩
  unfold getItem
  try with_reducible refine wpAny_holding ?_
  first | refine wpAny_bind (wpAny_pure ?_) | skip
  refine wpAny_bind (wpAny_sequenceKey ht.typeIs (by decide) ?_)
  refine wpAny_bind (wpAny_callSpecial?_slot (name := Str.ofString "__getitem__") ht.typeIs PyProof.Rows.slot_tuple_getitem
    (wpAny_call_entry PyProof.Rows.slot_tuple_getitem ht.typeIs entry_tuple_getitem ?_ (args_tuple_getitem _ _)))
  show wpAny _ _ (Builtin.Tuple.tupleItemsOf (.ref t) >>= _) _ _ s
  refine wpAny_bind (tupleItemsOf_ ht ?_)
  refine wpAny_bind (wpAny_typeOf hTs ?_)
  rw [if_pos (by decide)]
  refine wpAny_bind (cut_rev (n := items.size) hs pl pu ps ?_)
  show wpAny _ _ (if ((((items.size : Nat) : Int) - 1) == 0 && (-1 : Int) == 1 && items.size == items.size) = true then _ else _) _ _ s
  rw [if_neg (by rw [show ((-1 : Int) == 1) = false from rfl, Bool.and_false, Bool.false_and]; exact Bool.false_ne_true), pick_rev]
  first
    | exact wpAny_bind (m := Builtin.Tuple.tupleExact _) (wpAny_newObj_type (wpAny_pure ⟨_, rfl, wpAny_pure h⟩) htake)
    | exact wpAny_bind (m := Builtin.Tuple.tupleExact _) (wpAny_newObj_type (wpAny_bind (wpAny_pure (wpAny_pure ⟨_, rfl, wpAny_pure h⟩))) htake)
    | exact wpAny_bind (wpAny_bind (m := Builtin.Tuple.tupleExact _) (wpAny_newObj_type (wpAny_pure (wpAny_pure ⟨_, rfl, wpAny_pure h⟩)) htake))
    | exact wpAny_bind (wpAny_bind (m := Builtin.Tuple.tupleExact _) (wpAny_newObj_type (wpAny_pure ⟨_, rfl, wpAny_pure h⟩) htake))
def tRevA (K : PySem.W.Frag) (te : TE) : TE := fun σ H Q => te σ H fun x H1 => ∃ a xs, x = .ref a ∧ ((SqL K H1 a xs ∧ ∀ p, H1 p = none → Q (.ref p) (upd H1 p (.lst xs.reverse))) ∨ (SqT K H1 a xs ∧ ∀ p, H1 p = none → Q (.ref p) (upd H1 p (.tup xs.reverse))))
theorem pe_revA {X : Cx} {e : Expr} {te : TE} {k : Nat} {p1 p2 p3 pos : Pos} (he : PE X e te) : PE X (.Subscript e (.Slice none none (some (.UnaryOp .USub (.Constant (.int 1) k p1) p2)) p3) pos) (tRevA X.K te) := by
  refine ⟨fun pins s σ H Q I h => ?_⟩
  refine Subscript_ (thn (he.run pins s σ H _ I h) fun v s1 ⟨x, H1, I1, r1, q1⟩ => ?_)
  obtain ⟨a, xs, ex, hx⟩ := q1
  subst ex
  cases r1
  have hst : PO X (some (.UnaryOp .USub (.Constant (.int 1) k p1) p2)) (tPart (tUn (rU fun i => .int (-i)) (tC (.int 1)))) := po_some (pe_un un_neg pe_int)
  refine wpAny_Slice (thn (po_none.run pins s1 σ H1 (fun o H2 => o = none ∧ H2 = H1) I1 ⟨rfl, rfl⟩) fun vl s2 ⟨l, H2, I2, pl, el, e2⟩ => ?_)
  subst el e2
  refine thn (po_none.run pins s2 σ H2 (fun o H3 => o = none ∧ H3 = H2) I2 ⟨rfl, rfl⟩) fun vu s3 ⟨u, H3, I3, pu, eu, e3⟩ => ?_
  subst eu e3
  refine thn (hst.run pins s3 σ H3 (fun o H4 => o = some (-1) ∧ H4 = H3) I3 ⟨1, rfl, -1, rfl, rfl, rfl⟩) fun vs s4 ⟨o, H4, I4, ps, eo, e4⟩ => ?_
  subst eo e4
  have I5 : Inv X pins σ H4 { s4 with heap := s4.heap.push { cls := .type "slice", data := .fields #[vl, vu, vs] } } := I4.kept (t' := s4.toks) fun b ob q => Heap.get?_push_of_some _ q
  rcases hx with ⟨hx, q⟩ | ⟨hx, q⟩
  · obtain ⟨its, r, ht, hz⟩ := I5.list hx
    have hlen := r.length
    show wpAny (model X.prog X.w) X.A (subscriptTail e (.Slice none none (some (.UnaryOp .USub (.Constant (.int 1) k p1) p2)) p3) (.ref a) (.ref s4.heap.objs.size)) (EP X pins σ Q) X.xe { s4 with heap := s4.heap.push { cls := .type "slice", data := .fields #[vl, vu, vs] } }
    refine tail_any (ops := [.ref a, .ref s4.heap.objs.size]) ht.isList.typeIs (PySem.slot_list_getitem.lookup) ?_ (by with_unfolding_all rfl)
    refine wpAny_getItem_list_slice ht.isList (Heap.IsSliceOf.new _ vl vu vs) pl pu ps (by decide) ?_ (by rw [List.size_toArray]; omega)
    rw [PySem.W.krv_pick]
    refine ⟨.ref _, _, I5.laid (t' := s4.toks) (o := .lst xs.reverse) (fun b ob q => Heap.get?_push_of_some _ q) (Nat.le_refl _) ?_, rfl, q _ (I5.hok.fresh (Nat.le_refl _))⟩
    exact ⟨by rw [List.length_reverse]; exact hz, _, 0, r.reverse, Heap.get?_push_size _ rfl⟩
  · obtain ⟨its, r, ht, hz⟩ := I5.tuple hx
    have hlen := r.length
    show wpAny (model X.prog X.w) X.A (subscriptTail e (.Slice none none (some (.UnaryOp .USub (.Constant (.int 1) k p1) p2)) p3) (.ref a) (.ref s4.heap.objs.size)) (EP X pins σ Q) X.xe { s4 with heap := s4.heap.push { cls := .type "slice", data := .fields #[vl, vu, vs] } }
    refine tail_any (ops := [.ref a, .ref s4.heap.objs.size]) ht.typeIs (PyProof.Rows.slot_tuple_getitem.lookup) ?_ (by with_unfolding_all rfl)
    refine getItem_tuple_rev ht (Heap.IsSliceOf.new _ vl vu vs) pl pu ps ?_ (by rw [List.size_toArray]; omega)
    refine ⟨.ref _, _, I5.laid (t' := s4.toks) (o := .tup xs.reverse) (fun b ob q => Heap.get?_push_of_some _ q) (Nat.le_refl _) ?_, rfl, q _ (I5.hok.fresh (Nat.le_refl _))⟩
    exact ⟨by rw [List.length_reverse]; exact hz, _, r.reverse, IsTup.new _ _⟩

/-! ### xs.extend(ys), ys any list or tuple -/
section
open PySem.AutoSeq1
set_option maxRecDepth 8000 in
theorem ext_tup (l : Addr) (items : Array Value) (n : Nat) (b : Addr) (items2 : Array Value) (n2 : Nat) (dd : Option Addr) (sl : Array (Option Value)) (hs0 : ¬(!items.isEmpty && Builtin.List.listTooLong (items.size + items2.size)) = true) (hs1 : items.size ≤ sizeLine) (hs2 : items.size + items2.size ≤ sizeLine + 1) :
    Meets (Builtin.«list.extend» ⟨[.ref l, .ref b], []⟩) (fun _ R s => s.heap.get? l = some { cls := .type "list", dict := none, data := .seq items n, slots := #[] } ∧ s.heap.get? b = some { cls := .type "tuple", dict := dd, data := .seq items2 n2, slots := sl } ∧ R (.ok (.ret Value.none)) { s with heap := s.heap.update l (Obj.mapSeq fun x => x ++ items2), toks := s.toks }) :=
  .of_wp fun prog w A R s h => by
    obtain ⟨hp, g, d, tk, os⟩ := s; obtain ⟨hl, hb, h⟩ := h; have f1 := idx_int; have f2 := AutoSeq1.sub_tuple_tuple; have f3 := AutoSeq1.sub_list_list; have f4 := AutoSeq1.sub_tuple_list; have f5 := AutoSeq1.sub_list_tuple;
    have hz' : (items ++ items2).size ≤ sizeLine + 1 := by rw [Array.size_append]; exact hs2
    wp_walk using (wpAny_updateSeq hl rfl (hz := hs1) (_hz' := hz')), wpAny_loadPart' hl, wpAny_loadPart' hb; exact ⟨_, rfl, h⟩
set_option maxRecDepth 8000 in
theorem ext_lst (l : Addr) (items : Array Value) (n : Nat) (b : Addr) (items2 : Array Value) (n2 : Nat) (dd : Option Addr) (sl : Array (Option Value)) (hs0 : ¬(!items.isEmpty && Builtin.List.listTooLong (items.size + items2.size)) = true) (hs1 : items.size ≤ sizeLine) (hs2 : items.size + items2.size ≤ sizeLine + 1) :
    Meets (Builtin.«list.extend» ⟨[.ref l, .ref b], []⟩) (fun _ R s => s.heap.get? l = some { cls := .type "list", dict := none, data := .seq items n, slots := #[] } ∧ s.heap.get? b = some { cls := .type "list", dict := dd, data := .seq items2 n2, slots := sl } ∧ R (.ok (.ret Value.none)) { s with heap := s.heap.update l (Obj.mapSeq fun x => x ++ items2), toks := s.toks }) :=
  .of_wp fun prog w A R s h => by
    obtain ⟨hp, g, d, tk, os⟩ := s; obtain ⟨hl, hb, h⟩ := h; have f1 := idx_int; have f2 := AutoSeq1.sub_tuple_tuple; have f3 := AutoSeq1.sub_list_list; have f4 := AutoSeq1.sub_tuple_list; have f5 := AutoSeq1.sub_list_tuple;
    have hz' : (items ++ items2).size ≤ sizeLine + 1 := by rw [Array.size_append]; exact hs2
    wp_walk using (wpAny_updateSeq hl rfl (hz := hs1) (_hz' := hz')), wpAny_loadPart' hl, wpAny_loadPart' hb; exact ⟨_, rfl, h⟩
end
def rExtA (K : PySem.W.Frag) : V → List V → Hp → VK → Prop := fun x vs H Q => ∃ l b xs zs, x = .ref l ∧ vs = [.ref b] ∧ H l = some (.lst xs) ∧ (SqL K H b zs ∨ SqT K H b zs) ∧ xs.length + zs.length ≤ sizeLine ∧ Q .non (upd H l (.lst (xs ++ zs)))
theorem mt_extA {X : Cx} : MtM X "list.extend" (rExtA X.K) := by
  intro pins s σ H x vs v us Q I rx rv h
  obtain ⟨l, b, xs, zs, rfl, rfl, hH, hB, hz, q⟩ := h
  cases rx
  obtain ⟨u, rfl, ru⟩ := rv.one
  cases ru
  obtain ⟨z, its, n, r, hl, e⟩ := I.lstM hH
  rcases hB with hB | hB
  · obtain ⟨its2, r2, ⟨⟨oc, od, dt, sl⟩, n2, e2, hc, hd, hs⟩, _⟩ := I.list hB
    simp only at hc hd hs
    subst hc hd hs
    have hl2 := r2.length
    have hsz : its.toArray.size + its2.toArray.size ≤ sizeLine := by rw [List.size_toArray, List.size_toArray]; omega
    have hlong : ¬ (!its.toArray.isEmpty && Builtin.List.listTooLong (its.toArray.size + its2.toArray.size)) = true := by
      rw [notLongL hsz, Bool.and_false]
      exact Bool.false_ne_true
    refine call_meets F.slot_list_extend ⟨_, e, rfl⟩ F.entry_list_extend (F.args_list_extend_2 _ _)
      (ext_lst l its.toArray n b its2.toArray n2 _ _ hlong (by rw [List.size_toArray]; omega) (by omega)) ⟨e, e2, ?_⟩
    refine ⟨.non, _, I.lset (its' := its ++ its2) hH e (by simp) (r.append r2) ?_, rfl, q⟩
    rw [List.length_append]
    omega
  · obtain ⟨its2, r2, ⟨⟨oc, od, dt, sl⟩, e2, hc, n2, hs⟩, _⟩ := I.tuple hB
    simp only at hc hs
    subst hc hs
    have hl2 := r2.length
    have hsz : its.toArray.size + its2.toArray.size ≤ sizeLine := by rw [List.size_toArray, List.size_toArray]; omega
    have hlong : ¬ (!its.toArray.isEmpty && Builtin.List.listTooLong (its.toArray.size + its2.toArray.size)) = true := by
      rw [notLongL hsz, Bool.and_false]
      exact Bool.false_ne_true
    refine call_meets F.slot_list_extend ⟨_, e, rfl⟩ F.entry_list_extend (F.args_list_extend_2 _ _)
      (ext_tup l its.toArray n b its2.toArray n2 _ _ hlong (by rw [List.size_toArray]; omega) (by omega)) ⟨e, e2, ?_⟩
    refine ⟨.non, _, I.lset (its' := its ++ its2) hH e (by simp) (r.append r2) ?_, rfl, q⟩
    rw [List.length_append]
    omega
end DL

/-! ## DL4 -/
namespace DL
open PySem PySem.Spec PyProof.Rows L2
variable [Tb]

/-! ### moving a slot's object in and out -/
theorem Own.of_nodup_ne {H : Hp} {a b : Addr} (h : Own H a) (n : H b = none) : a ≠ b := by
  rintro rfl
  obtain ⟨o, e, _⟩ := h
  rw [n] at e; cases e
section
variable {K : PySem.W.Frag} {Γ : Fr} {st : DS} {σ : L2.St} {H H' : Hp} {fx : List Addr}
theorem Rel.perm {fy : List Addr} (r : Rel K Γ st σ H fx) (p : fx.Perm fy) : Rel K Γ st σ H fy := by
  obtain ⟨⟨fp, h, nd, mi⟩, fo, sm, pn⟩ := r
  exact ⟨⟨fp, h, (List.Perm.append_right fp p).nodup_iff.mp nd, fun b hb => mi b ((List.Perm.append_right fp p).mem_iff.mpr hb)⟩, fun b hb => fo b (p.mem_iff.mpr hb), sm, pn⟩
theorem Rel.pull {i : Nat} {w : Sv} (r : Rel K Γ st σ H fx) (e : st[i]? = some (some w)) : ∃ v fpi, σ[i]? = some (some v) ∧ RS K H v w fpi ∧ Rel K Γ (st.set i none) σ H (fpi ++ fx) := by
  obtain ⟨⟨fp, h, nd, mi⟩, fo, sm, pn⟩ := r
  obtain ⟨o, ow, fpi, fpr, e1, e2, pm, ro, k⟩ := h.split (List.getElem?_eq_some_iff.mp e).1
  rw [e] at e2
  have e3 := Option.some.inj e2
  subst e3
  cases ro with
  | @yes v _ _ q =>
    obtain ⟨fp', sr', pm'⟩ := k (H' := H) (o' := some v) (ow' := none) (fpw := []) (Gr.refl H) (fun _ _ => rfl) .no
    rw [getset e1] at sr'
    have pp : (fx ++ fp).Perm (fpi ++ fx ++ fp') := by
      refine (List.Perm.append_left fx pm).trans ?_
      rw [← List.append_assoc]
      exact List.Perm.append List.perm_append_comm (by simpa using pm'.symm)
    refine ⟨v, fpi, e1, q, ⟨fp', sr', pp.nodup_iff.mp nd, fun b hb => mi b (pp.mem_iff.mpr hb)⟩, fun b hb => ?_, sm, pn⟩
    rcases List.mem_append.mp hb with hb | hb
    · exact q.own b hb
    · exact fo b hb
theorem Rel.push {i : Nat} {v : V} {w : Sv} {fo : List Addr} (r : Rel K Γ st σ H (fo ++ fx)) (e : σ[i]? = some (some v)) (q : RS K H v w fo) : Rel K Γ (st.set i (some w)) σ H fx := by
  obtain ⟨⟨fp, h, nd, mi⟩, fw, sm, pn⟩ := r
  have hi : i < st.length := by rw [← h.length]; exact (List.getElem?_eq_some_iff.mp e).1
  obtain ⟨o, ow, fpi, fpr, e1, e2, pm, ro, k⟩ := h.split hi
  obtain ⟨fp', sr', pm'⟩ := k (H' := H) (o' := some v) (ow' := some w) (fpw := fo) (Gr.refl H) (fun _ _ => rfl) (.yes q)
  rw [getset e] at sr'
  have pp : (fo ++ fx ++ fp).Perm (fpi ++ (fx ++ fp')) := by
    refine (List.Perm.append_left (fo ++ fx) pm).trans ?_
    have p1 : (fo ++ fx ++ (fpi ++ fpr)).Perm (fpi ++ (fo ++ fx) ++ fpr) := by
      rw [← List.append_assoc]
      exact List.Perm.append_right fpr List.perm_append_comm
    refine p1.trans ?_
    rw [List.append_assoc]
    refine List.Perm.append_left fpi ?_
    have p2 : (fo ++ fx ++ fpr).Perm (fx ++ fo ++ fpr) := List.Perm.append_right fpr List.perm_append_comm
    refine p2.trans ?_
    rw [List.append_assoc]
    exact List.Perm.append_left fx pm'.symm
  have nd' := (List.nodup_append.mp (pp.nodup_iff.mp nd)).2.1
  refine ⟨⟨fp', sr', nd', fun b hb => mi b (pp.mem_iff.mpr (List.mem_append_right _ hb))⟩, fun b hb => fw b (List.mem_append_right _ hb), sm, pn⟩
theorem Rel.forget {i : Nat} (r : Rel K Γ st σ H fx) : Rel K Γ (st.set i none) σ H fx := by
  cases e : st[i]? with
  | none => 
    have h1 : st.set i none = st := List.set_eq_of_length_le (by simpa using e)
    rw [h1]; exact r
  | some ow =>
    cases ow with
    | none => rw [getset e]; exact r
    | some w =>
      obtain ⟨v, fpi, _, _, r'⟩ := r.pull e
      obtain ⟨⟨fp, h, nd, mi⟩, fo, sm, pn⟩ := r'
      rw [List.append_assoc] at nd
      exact ⟨⟨fp, h, (List.nodup_append.mp nd).2.1, fun b hb => mi b (by rw [List.append_assoc]; exact List.mem_append_right _ hb)⟩, fun b hb => fo b (List.mem_append_right _ hb), sm, pn⟩
def SameBut (fp : List Addr) (H H' : Hp) : Prop := (∀ b o, H b = some o → b ∉ fp → Stay o (H' b)) ∧ (TabsOk H → TabsOk H')
theorem SameBut.gr {fp : List Addr} (s : SameBut fp H H') (ho : ∀ b ∈ fp, Own H b) : Gr H H' := by
  refine ⟨fun b xs e => (s.1 b _ e fun hb => ?_).tup, fun b o u e => (s.1 b _ e fun hb => ?_).frz⟩
  · obtain ⟨o, q, ow⟩ := ho b hb
    rw [e] at q; exact ow.tup xs (Option.some.inj q).symm
  · obtain ⟨o, q, ow⟩ := ho b hb
    rw [e] at q; exact ow.frz _ _ (Option.some.inj q).symm
theorem SameBut.of {fp : List Addr} (ho : ∀ b ∈ fp, Own H b) (k : ∀ b o, H b = some o → b ∉ fp → H' b = some o) : SameBut fp H H' := ⟨fun b o e n => .inl (k b o e n), fun t => t.but ho k⟩
theorem SameBut.refl {fp : List Addr} : SameBut fp H H := ⟨fun b o e n => .inl e, id⟩
/-- the objects at fp are handed out, come back as nf -/
theorem Rel.after {fp nf : List Addr} (r : Rel K Γ st σ H (fp ++ fx)) (s : SameBut fp H H') (nd : nf.Nodup) (hn : ∀ b ∈ nf, H b = none ∨ b ∈ fp) (ho : ∀ b ∈ nf, Own H' b) : Rel K Γ st σ H' (nf ++ fx) := by
  have hr := r
  obtain ⟨⟨fq, h, nd0, mi⟩, fo, sm, pn⟩ := r
  have nd0' : (fp ++ (fx ++ fq)).Nodup := by rw [← List.append_assoc]; exact nd0
  have nda := List.nodup_append.mp nd0'
  have g : Gr H H' := s.gr fun b hb => fo b (List.mem_append_left _ hb)
  have keep : ∀ b, b ∈ fx ++ fq → Own H b → H' b = H b := fun b hb ow => by
    obtain ⟨o, q, ok⟩ := ow
    rw [q]
    exact (s.1 b o q fun z => nda.2.2 b z b hb rfl).own ok
  have ownq : ∀ b ∈ fx ++ fq, Own H b := fun b hb => by
    rcases List.mem_append.mp hb with hb | hb
    · exact fo b (List.mem_append_right _ hb)
    · exact h.own b hb
  refine ⟨⟨fq, h.frame g fun b hb => keep b (List.mem_append_right _ hb) (h.own b hb), ?_, fun b hb => ?_⟩, fun b hb => ?_, ⟨fun b o e n => ?_, s.2 sm.2⟩, pn⟩
  · rw [List.append_assoc]
    refine List.nodup_append.mpr ⟨nd, nda.2.1, fun a ha b hb e => ?_⟩
    subst e
    rcases hn a ha with z | z
    · exact (ownq a hb).of_nodup_ne z rfl
    · exact nda.2.2 a z a hb rfl
  · rw [List.append_assoc] at hb
    rcases List.mem_append.mp hb with hb | hb
    · rcases hn b hb with z | z
      · exact hr.mineNew z
      · exact mi b (List.mem_append_left _ (List.mem_append_left _ z))
    · exact mi b (by rw [List.append_assoc]; exact List.mem_append_right _ hb)
  · rcases List.mem_append.mp hb with hb | hb
    · exact ho b hb
    · exact (fo b (List.mem_append_right _ hb)).ext (keep b (List.mem_append_left _ hb) (fo b (List.mem_append_right _ hb)))
  · refine (sm.1 b o e n).trans fun o' h' => s.1 b o' h' fun z => ?_
    rcases mi b (List.mem_append_left _ (List.mem_append_left _ z)) with m | m
    · rw [m] at e; cases e
    · exact n m
end

/-! ### one and two operands -/
def bindO {α : Type} (st : DS) (a : Ar) (f : Sv → Option α) : Option α := (lookA st a).bind f
def e1 {α : Type} (ma : DS → ER Ar) (f : Sv → Option α) : DS → ER α := fun st => (ma st).bind fun a st1 => optE (bindO st1 a f) st1
def e2 {α : Type} (ma mb : DS → ER Ar) (f : Sv → Sv → Option α) : DS → ER α := fun st => (ma st).bind fun a st1 => (mb st1).bind fun b st2 => optE (bindO st2 a fun x => bindO st2 b fun y => f x y) st2
theorem bindO_some {α : Type} {st : DS} {a : Ar} {f : Sv → Option α} {d : α} (h : bindO st a f = some d) : ∃ w, lookA st a = some w ∧ f w = some d := by
  unfold bindO at h
  cases e : lookA st a with
  | none => rw [e] at h; cases h
  | some w => rw [e] at h; exact ⟨w, rfl, h⟩
section
variable {X : Cx} {a b c e : Expr} {ma mb : DS → ER Ar}
theorem de1 {r : V → Hp → VK → Prop} {f : Sv → Option Py} (hx : DX X a ma) (P : ∀ {ta : TE}, PE X a ta → PE X e (fun σ H Q => ta σ H fun x H1 => r x H1 Q))
    (hr : ∀ v w fp H d Q, RS X.K H v w fp → f w = some d → (∀ v' H', Same H H' → R X.K H' v' d → Q v' H') → r v H Q) : DE X e (e1 ma f) := by
  refine ⟨fun Wx tk => pe_imp (P (hx.pe Wx tk)) fun σ H Q ⟨Γ, st, rl, q⟩ => ⟨Γ, st, rl, ?_⟩⟩
  refine fin.imp (fin.bind q) fun a st1 q1 v H1 r1 g1 ar => ?_
  obtain ⟨d, ed, q1⟩ := fin_opt q1
  obtain ⟨w, ew, fw⟩ := bindO_some ed
  obtain ⟨fp, rs⟩ := r1.look ar ew
  exact hr v w fp H1 d Q rs fw fun v' H' s rd => q1 v' H' (r1.ext s) (g1.trans (Same.gr s)) rd
theorem de2 {r : R2} {f : Sv → Sv → Option Py} (hx : DX X a ma) (hy : DX X b mb) (P : ∀ {ta tb : TE}, PE X a ta → PE X b tb → PE X e (tOp r ta tb))
    (hr : ∀ v w v2 w2 fp fp2 H d Q, RS X.K H v w fp → RS X.K H v2 w2 fp2 → f w w2 = some d → (∀ v' H', Same H H' → R X.K H' v' d → Q v' H') → r v v2 H Q) : DE X e (e2 ma mb f) := by
  refine ⟨fun Wx tk => pe_imp (P (hx.pe Wx tk) (hy.pe Wx tk)) fun σ H Q ⟨Γ, st, rl, q⟩ => ⟨Γ, st, rl, ?_⟩⟩
  refine fin.imp (fin.bind q) fun a st1 q1 v H1 r1 g1 ar => ⟨Γ, st1, r1, ?_⟩
  refine fin.imp (fin.bind (fin.gr (H' := H1) g1 q1)) fun b st2 q2 v2 H2 r2 g2 ar2 => ?_
  obtain ⟨d, ed, q2⟩ := fin_opt q2
  obtain ⟨w, ew, ed⟩ := bindO_some ed
  obtain ⟨w2, ew2, fw⟩ := bindO_some ed
  obtain ⟨fp, rs⟩ := r2.look (ar.mono g2) ew
  obtain ⟨fp2, rs2⟩ := r2.look ar2 ew2
  exact hr v w v2 w2 fp fp2 H2 d Q rs rs2 fw fun v' H' s rd => q2 v' H' (r2.ext s) (g1.trans (g2.trans (Same.gr s))) rd
theorem do1 {r : V → Hp → VK → Prop} {f : Sv → Option Sv} (hx : DX X a ma) (P : ∀ {ta : TE}, PE X a ta → PE X e (fun σ H Q => ta σ H fun x H1 => r x H1 Q))
    (hr : ∀ v w fp H d Q, RS X.K H v w fp → f w = some d → (∀ v' H' fw, Same H H' → RS X.K H' v' d fw → fw.Nodup → (∀ b ∈ fw, H b = none) → Q v' H') → r v H Q) : DO X e (e1 ma f) := by
  refine ⟨fun Wx tk => pe_imp (P (hx.pe Wx tk)) fun σ H Q ⟨Γ, st, rl, q⟩ => ⟨Γ, st, rl, ?_⟩⟩
  refine fin.imp (fin.bind q) fun a st1 q1 v H1 r1 g1 ar => ?_
  obtain ⟨d, ed, q1⟩ := fin_opt q1
  obtain ⟨w, ew, fw⟩ := bindO_some ed
  obtain ⟨fp, rs⟩ := r1.look ar ew
  exact hr v w fp H1 d Q rs fw fun v' H' fw s rd nd hn => q1 v' H' fw (r1.owned s nd hn rd.own) (g1.trans (Same.gr s)) rd
theorem do2 {r : R2} {f : Sv → Sv → Option Sv} (hx : DX X a ma) (hy : DX X b mb) (P : ∀ {ta tb : TE}, PE X a ta → PE X b tb → PE X e (tOp r ta tb))
    (hr : ∀ v w v2 w2 fp fp2 H d Q, RS X.K H v w fp → RS X.K H v2 w2 fp2 → f w w2 = some d → (∀ v' H' fw, Same H H' → RS X.K H' v' d fw → fw.Nodup → (∀ b ∈ fw, H b = none) → Q v' H') → r v v2 H Q) : DO X e (e2 ma mb f) := by
  refine ⟨fun Wx tk => pe_imp (P (hx.pe Wx tk) (hy.pe Wx tk)) fun σ H Q ⟨Γ, st, rl, q⟩ => ⟨Γ, st, rl, ?_⟩⟩
  refine fin.imp (fin.bind q) fun a st1 q1 v H1 r1 g1 ar => ⟨Γ, st1, r1, ?_⟩
  refine fin.imp (fin.bind (fin.gr (H' := H1) g1 q1)) fun b st2 q2 v2 H2 r2 g2 ar2 => ?_
  obtain ⟨d, ed, q2⟩ := fin_opt q2
  obtain ⟨w, ew, ed⟩ := bindO_some ed
  obtain ⟨w2, ew2, fw⟩ := bindO_some ed
  obtain ⟨fp, rs⟩ := r2.look (ar.mono g2) ew
  obtain ⟨fp2, rs2⟩ := r2.look ar2 ew2
  exact hr v w v2 w2 fp fp2 H2 d Q rs rs2 fw fun v' H' fw s rd nd hn => q2 v' H' fw (r2.owned s nd hn rd.own) (g1.trans (g2.trans (Same.gr s))) rd

/-! ### constants, names -/
theorem de_int {i j pos} : DE X (.Constant (.int i) j pos) fun st => .ok (.int i) st := ⟨fun _ _ => pe_imp pe_int fun σ H Q ⟨Γ, st, r, q⟩ => q _ _ r (Gr.refl H) (.int i)⟩
theorem de_bl {i j pos} : DE X (.Constant (.bool i) j pos) fun st => .ok (.bl i) st := ⟨fun _ _ => pe_imp pe_bl fun σ H Q ⟨Γ, st, r, q⟩ => q _ _ r (Gr.refl H) (.bl i)⟩
theorem de_non {j pos} : DE X (.Constant .none j pos) fun st => .ok .non st := ⟨fun _ _ => pe_imp pe_non fun σ H Q ⟨Γ, st, r, q⟩ => q _ _ r (Gr.refl H) .non⟩
theorem de_str {i j pos} : DE X (.Constant (.str i) j pos) fun st => .ok (.str i) st := ⟨fun _ _ => pe_imp pe_str fun σ H Q ⟨Γ, st, r, q⟩ => q _ _ r (Gr.refl H) (.str i)⟩
def nameE (i : Nat) : DS → ER Py := fun st => match st[i]? with
  | some (some (.val d)) => .ok d st
  | _ => .stuck
theorem tVarE {i : Nat} {σ : L2.St} {H : Hp} {Q : VK} {v : V} (h : σ[i]? = some (some v)) (q : Q v H) : tVar i σ H Q := ⟨v, h, q⟩
theorem de_name {i : Nat} (h : PE X e (tVar i)) : DE X e (nameE i) := by
  refine ⟨fun Wx tk => pe_imp h fun σ H Q ⟨Γ, st, r, q⟩ => ?_⟩
  unfold nameE at q
  split at q
  · rename_i d hd
    obtain ⟨v, fp, e1, rs⟩ := r.get hd
    cases rs with
    | val rv => exact ⟨v, e1, q v H r (Gr.refl H) rv⟩
  · exact absurd q id
def nameX (i : Nat) : DS → ER Ar := fun st => match st[i]? with
  | some (some _) => .ok (.s i) st
  | _ => .stuck
theorem dx_name {i : Nat} (h : PE X e (tVar i)) : DX X e (nameX i) := by
  refine ⟨fun Wx tk => pe_imp h fun σ H Q ⟨Γ, st, r, q⟩ => ?_⟩
  unfold nameX at q
  split at q
  · rename_i w hd
    obtain ⟨v, fp, e1, rs⟩ := r.get hd
    exact ⟨v, e1, q v H r (Gr.refl H) e1⟩
  · exact absurd q id
/-- the object of a slot is handed on -/
def moveO (i : Nat) : DS → ER Sv := fun st => match st[i]? with
  | some (some w) => .ok w (st.set i none)
  | _ => .stuck
theorem do_move {i : Nat} (h : PE X e (tVar i)) : DO X e (moveO i) := by
  refine ⟨fun Wx tk => pe_imp h fun σ H Q ⟨Γ, st, r, q⟩ => ?_⟩
  unfold moveO at q
  split at q
  · rename_i w hd
    obtain ⟨v, fp, e1, rs, r'⟩ := r.pull hd
    exact ⟨v, e1, q v H fp (by simpa using r') (Gr.refl H) rs⟩
  · exact absurd q id
/-- the object of a slot is locked, and taken as data -/
def lockE (i : Nat) : DS → ER Py := fun st => match st[i]? with
  | some (some w) => match frzS w with
    | some d => .ok d (st.set i (some (.val d)))
    | none => .stuck
  | _ => .stuck
theorem de_lock {i : Nat} (h : PE X e (tVar i)) : DE X e (lockE i) := by
  refine ⟨fun Wx tk => pe_imp (pe_frz h) fun σ H Q ⟨Γ, st, r, q⟩ => ?_⟩
  unfold lockE at q
  split at q
  · rename_i w hd
    split at q
    · rename_i d hf
      obtain ⟨v, fp, e1, rs, r'⟩ := r.pull hd
      rw [List.append_nil] at r'
      refine ⟨v, e1, ?_⟩
      have back : ∀ (H' : Hp), Rel X.K Γ (st.set i none) σ H' [] → R X.K H' v d → Rel X.K Γ (st.set i (some (.val d))) σ H' [] := fun H' r2 rd => by
        have := r2.push (fo := []) (w := .val d) e1 (.val rd)
        rw [List.set_set] at this
        exact this
      cases rs with
      | val rv => cases hf; exact .inl (q v H (back H r' rv) (Gr.refl H) rv)
      | @lst a xs ds ha ra =>
        cases hf
        refine .inr ⟨_, _, rfl, ha, trivial, fun o => ?_⟩
        have g2 : Gr H (upd H a (.frz o (.lst xs))) := Gr.own (r'.fxo _ List.mem_cons_self)
        have rd : R X.K (upd H a (.frz o (.lst xs))) (.ref a) (.lst ds) := .lst (.inl ⟨o, upd_same⟩) (ra.mono g2)
        exact q _ _ (back _ (r'.lock List.mem_cons_self) rd) g2 rd
      | @dK a xs ds ha ra =>
        cases hf
        refine .inr ⟨_, _, rfl, ha, trivial, fun o => ?_⟩
        have g2 : Gr H (upd H a (.frz o (.dK xs))) := Gr.own (r'.fxo _ List.mem_cons_self)
        have rd : R X.K (upd H a (.frz o (.dK xs))) (.ref a) (.dic ds) := .dicK upd_same (ra.mono g2)
        exact q _ _ (back _ (r'.lock List.mem_cons_self) rd) g2 rd
      | @dT a xs ds ha ra =>
        cases hf
        refine .inr ⟨_, _, rfl, ha, trivial, fun o => ?_⟩
        have g2 : Gr H (upd H a (.frz o (.dT xs))) := Gr.own (r'.fxo _ List.mem_cons_self)
        have rd : R X.K (upd H a (.frz o (.dT xs))) (.ref a) (.dit ds) := .dicT upd_same (ra.mono g2)
        exact q _ _ (back _ (r'.lock List.mem_cons_self) rd) g2 rd
      | ins ha ra => cases hf
    · exact absurd q id
  · exact absurd q id
theorem de_globI {x : Str} {i : Int} {t : Tok} {pos : Pos} (hg : Gl X x) (hm : X.mg x = some (.int i t)) (hd : (x == ("__debug__" : Str)) = false := by decide) : DE X (.Name x pos) fun st => .ok (.int i) st :=
  ⟨fun _ _ => pe_imp (pe_glob (v := .int i) hg hm ⟨t, rfl⟩ hd) fun σ H Q ⟨Γ, st, r, q⟩ => q _ _ r (Gr.refl H) (.int i)⟩
theorem de_globS {x : Str} {i : Str} {t : Tok} {pos : Pos} (hg : Gl X x) (hm : X.mg x = some (.str i t)) (hd : (x == ("__debug__" : Str)) = false := by decide) : DE X (.Name x pos) fun st => .ok (.str i) st :=
  ⟨fun _ _ => pe_imp (pe_glob (v := .str i) hg hm ⟨t, rfl⟩ hd) fun σ H Q ⟨Γ, st, r, q⟩ => q _ _ r (Gr.refl H) (.str i)⟩
end

/-! ### argument lists, displays -/
def tVs (X : Cx) (Wx : WX) (n : Nat) (m : DS → ER (List Py)) : TA := fun σ H Q => ∃ Γ st, Rel X.K Γ st σ H [] ∧ fin X Wx Γ σ H (m st) fun ds st' => ∀ vs H', Rel X.K Γ st' σ H' [] → Gr H H' → RA X.K H' vs ds → vs.length = n → Q vs H'
structure DV (X : Cx) (es : List Expr) (m : DS → ER (List Py)) : Prop where
  pa : ∀ Wx, Takes X Wx → PA X es (tVs X Wx es.length m)
section
variable {X : Cx} {e : Expr} {es : List Expr} {pos : Pos}
theorem dv_nil : DV X [] fun st => .ok [] st := ⟨fun _ _ => pa_imp pa_nil fun σ H Q ⟨Γ, st, r, q⟩ => q [] H r (Gr.refl H) .nil rfl⟩
theorem dv_cons {m : DS → ER Py} {ms : DS → ER (List Py)} (h : DE X e m) (hs : DV X es ms) (hst : starEach (e :: es) X.env = (false, eval e X.env) :: starEach es X.env := by rfl) :
    DV X (e :: es) fun st => (m st).bind fun d st1 => (ms st1).bind fun ds st2 => .ok (d :: ds) st2 := by
  refine ⟨fun Wx tk => pa_imp (pa_cons (h.pe Wx tk) (hs.pa Wx tk) hst) fun σ H Q ⟨Γ, st, r, q⟩ => ⟨Γ, st, r, ?_⟩⟩
  refine fin.imp (fin.bind q) fun d st1 q1 v H1 r1 g1 rd => ⟨Γ, st1, r1, ?_⟩
  refine fin.imp (fin.bind (fin.gr (H' := H1) g1 q1)) fun ds st2 q2 vs H2 r2 g2 rds hl => ?_
  exact q2 (v :: vs) H2 r2 (g1.trans g2) (.cons (rd.mono g2) rds) (by simp [hl])
theorem da_nil : DA X [] fun st => .ok [] st := ⟨fun _ _ => pa_imp pa_nil fun σ H Q ⟨Γ, st, r, q⟩ => q [] H r (Gr.refl H) .nil rfl⟩
theorem ARs.mono {K : PySem.W.Frag} {H H' : Hp} {σ : L2.St} (g : Gr H H') : ∀ {vs : List V} {as : List Ar}, ARs K H σ vs as → ARs K H' σ vs as
  | _, _, .nil => .nil
  | _, _, .cons h t => .cons (h.mono g) (ARs.mono g t)
theorem da_cons {m : DS → ER Ar} {ms : DS → ER (List Ar)} (h : DX X e m) (hs : DA X es ms) (hst : starEach (e :: es) X.env = (false, eval e X.env) :: starEach es X.env := by rfl) :
    DA X (e :: es) fun st => (m st).bind fun d st1 => (ms st1).bind fun ds st2 => .ok (d :: ds) st2 := by
  refine ⟨fun Wx tk => pa_imp (pa_cons (h.pe Wx tk) (hs.pa Wx tk) hst) fun σ H Q ⟨Γ, st, r, q⟩ => ⟨Γ, st, r, ?_⟩⟩
  refine fin.imp (fin.bind q) fun d st1 q1 v H1 r1 g1 rd => ⟨Γ, st1, r1, ?_⟩
  refine fin.imp (fin.bind (fin.gr (H' := H1) g1 q1)) fun ds st2 q2 vs H2 r2 g2 rds hl => ?_
  exact q2 (v :: vs) H2 r2 (g1.trans g2) (.cons (rd.mono g2) rds) (by simp [hl])
theorem de_tup {x1} {m : DS → ER (List Py)} (h : DV X es m) (hz : es.length ≤ sizeLine := by decide) : DE X (.Tuple es x1 pos) fun st => (m st).bind fun ds st1 => .ok (.tup ds) st1 := by
  refine ⟨fun Wx tk => pe_imp (pe_tup (h.pa Wx tk)) fun σ H Q ⟨Γ, st, r, q⟩ => ⟨Γ, st, r, ?_⟩⟩
  refine fin.imp (fin.bind q) fun ds st1 q1 vs H1 r1 g1 rd hl => ⟨by omega, fun p hp => ?_⟩
  have s : Same H1 (upd H1 p (.tup vs)) := Same.new hp
  exact q1 _ _ (r1.ext s) (g1.trans (Same.gr s)) (.tup upd_same (rd.mono (Same.gr s)))
theorem do_lst {m : DS → ER (List Py)} (h : DV X es m) (hz : es.length ≤ sizeLine := by decide) : DO X (.List es pos) fun st => (m st).bind fun ds st1 => .ok (.lst ds) st1 := by
  refine ⟨fun Wx tk => pe_imp (pe_lst (h.pa Wx tk)) fun σ H Q ⟨Γ, st, r, q⟩ => ⟨Γ, st, r, ?_⟩⟩
  refine fin.imp (fin.bind q) fun ds st1 q1 vs H1 r1 g1 rd hl => ⟨by omega, fun p hp => ?_⟩
  have s : Same H1 (upd H1 p (.lst vs)) := Same.new hp
  have rs : RS X.K (upd H1 p (.lst vs)) (.ref p) (.lst ds) [p] := .lst upd_same (rd.mono (Same.gr s))
  exact q1 _ _ [p] (r1.owned s (by simp) (fun b hb => by rw [List.mem_singleton.mp hb]; exact hp) rs.own) (g1.trans (Same.gr s)) rs
end

/-! ### tests -/
def asBl : Py → Option Bool
  | .bl b => some b
  | _ => none
def truS : Sv → Option Bool
  | .val .non => some false
  | .val (.bl b) => some b
  | .val (.int i) => some (i != 0)
  | .val (.str y) => if y.length ≤ sizeLine then some ((y.length : Int) != 0) else none
  | .val (.tup ds) => some (!ds.isEmpty)
  | .val (.lst ds) => some (!ds.isEmpty)
  | .lst ds => some (!ds.isEmpty)
  | _ => none
theorem RA.isEmpty {K : PySem.W.Frag} {H : Hp} {vs : List V} {ds : List Py} (h : RA K H vs ds) : vs.isEmpty = ds.isEmpty := by
  cases h <;> rfl
section
variable {X : Cx} {a b c e : Expr} {ma mb : DS → ER Py} {mt mu : DS → ER Bool} {rest : List Expr} {pos : Pos}
theorem dt_e {m : DS → ER Py} (h : DE X e m) (he : ∀ whole, isTrue e X.env whole = (do let v ← whole; standAt e.pos; holding [v] (truthy v)) := by intro _; rfl) : DT X e fun st => (m st).bind fun d st1 => optE (asBl d) st1 := by
  refine ⟨fun Wx tk => pt_imp (pt_val (h.pe Wx tk) he) fun σ H Q ⟨Γ, st, r, q⟩ => ⟨Γ, st, r, ?_⟩⟩
  refine fin.imp (fin.bind q) fun d st1 q1 v H1 r1 g1 rd => ?_
  obtain ⟨b, eb, q1⟩ := fin_opt q1
  cases d <;> cases eb
  cases rd
  exact ⟨_, rfl, q1 H1 r1 g1⟩
theorem dt_tr {m : DS → ER Ar} (h : DX X e m) (he : ∀ whole, isTrue e X.env whole = (do let v ← whole; standAt e.pos; holding [v] (truthy v)) := by intro _; rfl) : DT X e (e1 m truS) := by
  refine ⟨fun Wx tk => pt_imp (pt_truth (h.pe Wx tk) he) fun σ H Q ⟨Γ, st, r, q⟩ => ⟨Γ, st, r, ?_⟩⟩
  refine fin.imp (fin.bind q) fun d st1 q1 v H1 r1 g1 rd => ?_
  obtain ⟨b, eb, q1⟩ := fin_opt q1
  obtain ⟨w, ew, fw⟩ := bindO_some eb
  obtain ⟨fp, rs⟩ := r1.look rd ew
  refine ⟨b, ?_, q1 H1 r1 g1⟩
  cases rs with
  | val rv =>
    cases rv with
    | non => cases fw; rfl
    | bl k => cases fw; rfl
    | int i => cases fw; rfl
    | str x =>
      have fw' : (if x.length ≤ sizeLine then some ((x.length : Int) != 0) else none) = some b := fw
      by_cases hz : x.length ≤ sizeLine
      · rw [if_pos hz] at fw'; cases fw'; exact ⟨hz, rfl⟩
      · rw [if_neg hz] at fw'; cases fw'
    | tup hs ra => cases fw; exact .inr (.inl ⟨_, SqT.of hs, by rw [ra.isEmpty]⟩)
    | lst hs ra => cases fw; exact .inl ⟨_, hs.l, by rw [ra.isEmpty]⟩
    | dicK _ _ => cases fw
    | dicT _ _ => cases fw
    | obj _ => cases fw
  | lst ha ra => cases fw; exact .inl ⟨_, SqL.of ha, by rw [ra.isEmpty]⟩
  | dK _ _ => cases fw
  | dT _ _ => cases fw
  | ins _ _ => cases fw
theorem DW.t (h : DW X e mt) : DT X e mt := ⟨fun Wx tk => PW.pt (h.pw Wx tk)⟩
theorem dw_and1 (h : DT X a mt) : DW X (.BoolOp .And [a] pos) mt := ⟨fun Wx tk => pw_and1 (h.pt Wx tk)⟩
theorem dw_or1 (h : DT X a mt) : DW X (.BoolOp .Or [a] pos) mt := ⟨fun Wx tk => pw_or1 (h.pt Wx tk)⟩
theorem dw_and (h : DT X a mt) (hr : DW X (.BoolOp .And (b :: rest) pos) mu) : DW X (.BoolOp .And (a :: b :: rest) pos) fun st => (mt st).bind fun k st1 => if k then mu st1 else .ok false st1 := by
  refine ⟨fun Wx tk => pw_imp (pw_and (h.pt Wx tk) (hr.pw Wx tk)) fun σ H Q ⟨Γ, st, r, q⟩ => ⟨Γ, st, r, ?_⟩⟩
  refine fin.imp (fin.bind q) fun k st1 q1 H1 r1 g1 => ?_
  cases k with
  | true =>
    rw [if_pos rfl]
    have q3 : fin X Wx Γ σ H (mu st1) (fun k2 st' => ∀ (H2 : Hp), Rel X.K Γ st' σ H2 [] → Gr H H2 → Q k2 H2) := q1
    exact ⟨Γ, st1, r1, fin.imp (fin.gr (H' := H1) g1 q3) fun k2 st2 q2 H2 r2 g2 => q2 H2 r2 (g1.trans g2)⟩
  | false =>
    rw [if_neg Bool.false_ne_true]
    exact q1 H1 r1 g1
theorem dw_or (h : DT X a mt) (hr : DW X (.BoolOp .Or (b :: rest) pos) mu) : DW X (.BoolOp .Or (a :: b :: rest) pos) fun st => (mt st).bind fun k st1 => if k then .ok true st1 else mu st1 := by
  refine ⟨fun Wx tk => pw_imp (pw_or (h.pt Wx tk) (hr.pw Wx tk)) fun σ H Q ⟨Γ, st, r, q⟩ => ⟨Γ, st, r, ?_⟩⟩
  refine fin.imp (fin.bind q) fun k st1 q1 H1 r1 g1 => ?_
  cases k with
  | false =>
    rw [if_neg Bool.false_ne_true]
    have q3 : fin X Wx Γ σ H (mu st1) (fun k2 st' => ∀ (H2 : Hp), Rel X.K Γ st' σ H2 [] → Gr H H2 → Q k2 H2) := q1
    exact ⟨Γ, st1, r1, fin.imp (fin.gr (H' := H1) g1 q3) fun k2 st2 q2 H2 r2 g2 => q2 H2 r2 (g1.trans g2)⟩
  | true =>
    rw [if_pos rfl]
    exact q1 H1 r1 g1
theorem dt_not (h : DT X a mt) : DT X (.UnaryOp .Not a pos) fun st => (mt st).bind fun k st1 => .ok (!k) st1 := by
  refine ⟨fun Wx tk => pt_imp (pt_not (h.pt Wx tk)) fun σ H Q ⟨Γ, st, r, q⟩ => ⟨Γ, st, r, ?_⟩⟩
  exact fin.imp (fin.bind q) fun k st1 q1 H1 r1 g1 => q1 H1 r1 g1
theorem de_if (hc : DT X c mt) (ha : DE X a ma) (hb : DE X b mb) : DE X (.IfExp c a b pos) fun st => (mt st).bind fun k st1 => if k then ma st1 else mb st1 := by
  refine ⟨fun Wx tk => pe_imp (pe_ifExp (hc.pt Wx tk) (ha.pe Wx tk) (hb.pe Wx tk)) fun σ H Q ⟨Γ, st, r, q⟩ => ⟨Γ, st, r, ?_⟩⟩
  refine fin.imp (fin.bind q) fun k st1 q1 H1 r1 g1 => ?_
  cases k with
  | true =>
    rw [if_pos rfl]
    have q3 : fin X Wx Γ σ H (ma st1) (fun d st' => ∀ (v : V) (H2 : Hp), Rel X.K Γ st' σ H2 [] → Gr H H2 → R X.K H2 v d → Q v H2) := q1
    exact ⟨Γ, st1, r1, fin.imp (fin.gr (H' := H1) g1 q3) fun k2 st2 q2 v H2 r2 g2 rd => q2 v H2 r2 (g1.trans g2) rd⟩
  | false =>
    rw [if_neg Bool.false_ne_true]
    have q3 : fin X Wx Γ σ H (mb st1) (fun d st' => ∀ (v : V) (H2 : Hp), Rel X.K Γ st' σ H2 [] → Gr H H2 → R X.K H2 v d → Q v H2) := q1
    exact ⟨Γ, st1, r1, fin.imp (fin.gr (H' := H1) g1 q3) fun k2 st2 q2 v H2 r2 g2 rd => q2 v H2 r2 (g1.trans g2) rd⟩
theorem de_one {op} (h : DE X a ma) : DE X (.BoolOp op [a] pos) ma := ⟨fun Wx tk => pe_one (h.pe Wx tk)⟩
theorem de_and (ha : DE X a ma) (hb : DE X (.BoolOp .And (b :: rest) pos) mb) : DE X (.BoolOp .And (a :: b :: rest) pos) fun st => (ma st).bind fun d st1 => (optE (asBl d) st1).bind fun k st1 => if k then mb st1 else .ok (.bl false) st1 := by
  refine ⟨fun Wx tk => pe_imp (pe_and (ha.pe Wx tk) (hb.pe Wx tk)) fun σ H Q ⟨Γ, st, r, q⟩ => ⟨Γ, st, r, ?_⟩⟩
  refine fin.imp (fin.bind q) fun d st1 q1 v H1 r1 g1 rd => ?_
  obtain ⟨k, ek, q1⟩ := fin_opt (fin.bind q1)
  cases d <;> cases ek
  cases rd
  refine ⟨k, rfl, ?_⟩
  cases k with
  | true =>
    rw [if_pos rfl]
    have q3 : fin X Wx Γ σ H (mb st1) (fun d st' => ∀ (v : V) (H2 : Hp), Rel X.K Γ st' σ H2 [] → Gr H H2 → R X.K H2 v d → Q v H2) := q1
    exact ⟨Γ, st1, r1, fin.imp (fin.gr (H' := H1) g1 q3) fun k2 st2 q2 v H2 r2 g2 rd => q2 v H2 r2 (g1.trans g2) rd⟩
  | false =>
    rw [if_neg Bool.false_ne_true]
    exact q1 _ H1 r1 g1 (.bl false)
theorem de_or (ha : DE X a ma) (hb : DE X (.BoolOp .Or (b :: rest) pos) mb) : DE X (.BoolOp .Or (a :: b :: rest) pos) fun st => (ma st).bind fun d st1 => (optE (asBl d) st1).bind fun k st1 => if k then .ok (.bl true) st1 else mb st1 := by
  refine ⟨fun Wx tk => pe_imp (pe_or (ha.pe Wx tk) (hb.pe Wx tk)) fun σ H Q ⟨Γ, st, r, q⟩ => ⟨Γ, st, r, ?_⟩⟩
  refine fin.imp (fin.bind q) fun d st1 q1 v H1 r1 g1 rd => ?_
  obtain ⟨k, ek, q1⟩ := fin_opt (fin.bind q1)
  cases d <;> cases ek
  cases rd
  refine ⟨k, rfl, ?_⟩
  cases k with
  | false =>
    rw [if_neg Bool.false_ne_true]
    have q3 : fin X Wx Γ σ H (mb st1) (fun d st' => ∀ (v : V) (H2 : Hp), Rel X.K Γ st' σ H2 [] → Gr H H2 → R X.K H2 v d → Q v H2) := q1
    exact ⟨Γ, st1, r1, fin.imp (fin.gr (H' := H1) g1 q3) fun k2 st2 q2 v H2 r2 g2 rd => q2 v H2 r2 (g1.trans g2) rd⟩
  | true =>
    rw [if_pos rfl]
    exact q1 _ H1 r1 g1 (.bl true)
theorem de_not (ha : DE X a ma) : DE X (.UnaryOp .Not a pos) fun st => (ma st).bind fun d st1 => (optE (asBl d) st1).bind fun k st1 => .ok (.bl (!k)) st1 := by
  refine ⟨fun Wx tk => pe_imp (pe_not (ha.pe Wx tk)) fun σ H Q ⟨Γ, st, r, q⟩ => ⟨Γ, st, r, ?_⟩⟩
  refine fin.imp (fin.bind q) fun d st1 q1 v H1 r1 g1 rd => ?_
  obtain ⟨k, ek, q1⟩ := fin_opt (fin.bind q1)
  cases d <;> cases ek
  cases rd
  exact ⟨k, rfl, q1 _ H1 r1 g1 (.bl _)⟩
end
end DL

/-! ## DL5 -/
namespace DL
open PySem PySem.Spec PyProof.Rows L2
variable [Tb]

/-! ### what an operand is -/
def itemsS : Sv → Option (List Py)
  | .val (.tup ds) => some ds
  | .val (.lst ds) => some ds
  | .lst ds => some ds
  | _ => none
theorem RS.seq {K : PySem.W.Frag} {H : Hp} {v : V} {w : Sv} {fp : List Addr} {ds : List Py} (h : RS K H v w fp) (e : itemsS w = some ds) : ∃ a xs, v = .ref a ∧ (SqL K H a xs ∨ H a = some (.tup xs)) ∧ RA K H xs ds := by
  cases h with
  | val r =>
    cases r <;> cases e
    · rename_i a xs hs ra; exact ⟨_, _, rfl, .inr hs, ra⟩
    · rename_i a xs hs ra; exact ⟨_, _, rfl, .inl hs.l, ra⟩
  | lst ha ra => cases e; exact ⟨_, _, rfl, .inl (SqL.of ha), ra⟩
  | dK _ _ => cases e
  | dT _ _ => cases e
  | ins _ _ => cases e
def listS : Sv → Option (List Py)
  | .val (.lst ds) => some ds
  | .lst ds => some ds
  | _ => none
theorem RS.list {K : PySem.W.Frag} {H : Hp} {v : V} {w : Sv} {fp : List Addr} {ds : List Py} (h : RS K H v w fp) (e : listS w = some ds) : ∃ a xs, v = .ref a ∧ SqL K H a xs ∧ RA K H xs ds := by
  cases h with
  | val r =>
    cases r <;> cases e
    rename_i a xs hs ra; exact ⟨_, _, rfl, hs.l, ra⟩
  | lst ha ra => cases e; exact ⟨_, _, rfl, SqL.of ha, ra⟩
  | dK _ _ => cases e
  | dT _ _ => cases e
  | ins _ _ => cases e
def asInt : Py → Option Int
  | .int i => some i
  | _ => none
def intS : Sv → Option Int
  | .val (.int i) => some i
  | _ => none
theorem RS.int {K : PySem.W.Frag} {H : Hp} {v : V} {w : Sv} {fp : List Addr} {i : Int} (h : RS K H v w fp) (e : intS w = some i) : v = .int i := by
  cases h with
  | val r => cases r <;> cases e; rfl
  | lst ha ra => cases e
  | dK _ _ => cases e
  | dT _ _ => cases e
  | ins _ _ => cases e
def valS : Sv → Option Py
  | .val d => some d
  | _ => none
theorem RS.data {K : PySem.W.Frag} {H : Hp} {v : V} {w : Sv} {fp : List Addr} {d : Py} (h : RS K H v w fp) (e : valS w = some d) : R K H v d := by
  cases h with
  | val r => cases e; exact r
  | lst ha ra => cases e
  | dK _ _ => cases e
  | dT _ _ => cases e
  | ins _ _ => cases e
def allM {α : Type} (f : Py → Option α) : List Py → Option (List α)
  | [] => some []
  | d :: ds => match f d, allM f ds with
    | some a, some as => some (a :: as)
    | _, _ => none
theorem RA.ints {K : PySem.W.Frag} {H : Hp} : ∀ {vs : List V} {ds : List Py} {ns : List Int}, RA K H vs ds → allM asInt ds = some ns → vs = ns.map V.int
  | _, _, _, .nil, e => by cases e; rfl
  | v :: vs, d :: ds, ns, .cons h t, e => by
    simp only [allM] at e
    split at e
    · rename_i a as e1 e2
      cases e
      cases d <;> cases e1
      cases h
      rw [RA.ints t e2]; rfl
    · cases e
theorem RA.bls {K : PySem.W.Frag} {H : Hp} : ∀ {vs : List V} {ds : List Py} {ns : List Bool}, RA K H vs ds → allM asBl ds = some ns → vs = ns.map V.bl
  | _, _, _, .nil, e => by cases e; rfl
  | v :: vs, d :: ds, ns, .cons h t, e => by
    simp only [allM] at e
    split at e
    · rename_i a as e1 e2
      cases e
      cases d <;> cases e1
      cases h
      rw [RA.bls t e2]; rfl
    · cases e

/-! ### ints -/
def binI {α : Type} (c : Int → Int → Prop) [∀ i j, Decidable (c i j)] (g : Int → Int → α) : Sv → Sv → Option α
  | .val (.int i), .val (.int j) => if c i j then some (g i j) else none
  | _, _ => none
def binI0 {α : Type} (g : Int → Int → α) : Sv → Sv → Option α
  | .val (.int i), .val (.int j) => some (g i j)
  | _, _ => none
theorem binI_some {α : Type} {c : Int → Int → Prop} [∀ i j, Decidable (c i j)] {g : Int → Int → α} {x y : Sv} {d : α} (h : binI c g x y = some d) : ∃ i j, x = .val (.int i) ∧ y = .val (.int j) ∧ c i j ∧ g i j = d := by
  unfold binI at h
  split at h
  · rename_i i j
    by_cases hc : c i j
    · rw [if_pos hc] at h; cases h; exact ⟨i, j, rfl, rfl, hc, rfl⟩
    · rw [if_neg hc] at h; cases h
  · cases h
theorem binI0_some {α : Type} {g : Int → Int → α} {x y : Sv} {d : α} (h : binI0 g x y = some d) : ∃ i j, x = .val (.int i) ∧ y = .val (.int j) ∧ g i j = d := by
  unfold binI0 at h
  split at h
  · cases h; exact ⟨_, _, rfl, rfl, rfl⟩
  · cases h
instance : ∀ i j, Decidable (CMul i j) := fun i j => by unfold CMul; infer_instance
instance : ∀ i j, Decidable (CDiv i j) := fun i j => by unfold CDiv; infer_instance
instance : ∀ i j, Decidable (CDivN i j) := fun i j => by unfold CDivN; infer_instance
instance : ∀ i j, Decidable (CPow i j) := fun i j => by unfold CPow; infer_instance
section
variable {X : Cx} {a b c e : Expr} {ma mb mc : DS → ER Ar} {pos : Pos}
theorem de_opI {op : Operator} {C : Int → Int → Prop} [∀ i j, Decidable (C i j)] {g : Int → Int → Int} (ho : OpR X (binaryOp op) (rI C fun i j => .int (g i j))) (ha : DX X a ma) (hb : DX X b mb) :
    DE X (.BinOp a op b pos) (e2 ma mb (binI C fun i j => .int (g i j))) :=
  de2 ha hb (pe_op ho) fun v w v2 w2 fp fp2 H d Q r1 r2 hf q => by
    obtain ⟨i, j, rfl, rfl, hc, rfl⟩ := binI_some hf
    exact ⟨i, j, r1.int rfl, r2.int rfl, hc, q _ _ (Same.refl H) (.int _)⟩
theorem de_opI0 {op : Operator} {g : Int → Int → Int} (ho : OpR X (binaryOp op) (rI0 fun i j => .int (g i j))) (ha : DX X a ma) (hb : DX X b mb) :
    DE X (.BinOp a op b pos) (e2 ma mb (binI0 fun i j => .int (g i j))) :=
  de2 ha hb (pe_op ho) fun v w v2 w2 fp fp2 H d Q r1 r2 hf q => by
    obtain ⟨i, j, rfl, rfl, rfl⟩ := binI0_some hf
    exact ⟨i, j, r1.int rfl, r2.int rfl, q _ _ (Same.refl H) (.int _)⟩
theorem de_add (ha : DX X a ma) (hb : DX X b mb) : DE X (.BinOp a .Add b pos) (e2 ma mb (binI0 fun i j => .int (i + j))) := de_opI0 op_add ha hb
theorem de_sub (ha : DX X a ma) (hb : DX X b mb) : DE X (.BinOp a .Sub b pos) (e2 ma mb (binI0 fun i j => .int (i - j))) := de_opI0 op_sub ha hb
theorem de_mul (ha : DX X a ma) (hb : DX X b mb) : DE X (.BinOp a .Mult b pos) (e2 ma mb (binI CMul fun i j => .int (i * j))) := de_opI op_mul ha hb
theorem de_fdiv (ha : DX X a ma) (hb : DX X b mb) : DE X (.BinOp a .FloorDiv b pos) (e2 ma mb (binI CDiv fun i j => .int (i / j))) := de_opI op_fdiv ha hb
theorem de_mod (ha : DX X a ma) (hb : DX X b mb) : DE X (.BinOp a .Mod b pos) (e2 ma mb (binI (fun _ j => 0 < j) fun i j => .int (i % j))) := de_opI op_mod ha hb
theorem de_pow (ha : DX X a ma) (hb : DX X b mb) : DE X (.BinOp a .Pow b pos) (e2 ma mb (binI CPow fun i j => .int (i ^ j.toNat))) := de_opI op_pow ha hb
theorem de_cmpI {op : CmpOp} {g : Int → Int → Bool} (ho : OpR X (compareOp op) (rI0 fun i j => .bl (g i j))) (h1 : behindInMarks op b = false) (ha : DX X a ma) (hb : DX X b mb) :
    DE X (.Compare a [op] [b] pos) (e2 ma mb (binI0 fun i j => .bl (g i j))) :=
  de2 ha hb (fun h k => pe_cmpR ho h k h1) fun v w v2 w2 fp fp2 H d Q r1 r2 hf q => by
    obtain ⟨i, j, rfl, rfl, rfl⟩ := binI0_some hf
    exact ⟨i, j, r1.int rfl, r2.int rfl, q _ _ (Same.refl H) (.bl _)⟩
theorem de_lt (ha : DX X a ma) (hb : DX X b mb) : DE X (.Compare a [.Lt] [b] pos) (e2 ma mb (binI0 fun i j => .bl (decide (i < j)))) := de_cmpI op_lt (nomark _) ha hb
theorem de_le (ha : DX X a ma) (hb : DX X b mb) : DE X (.Compare a [.LtE] [b] pos) (e2 ma mb (binI0 fun i j => .bl (decide (i ≤ j)))) := de_cmpI op_le (nomark _) ha hb
theorem de_gt (ha : DX X a ma) (hb : DX X b mb) : DE X (.Compare a [.Gt] [b] pos) (e2 ma mb (binI0 fun i j => .bl (decide (j < i)))) := de_cmpI op_gt (nomark _) ha hb
theorem de_ge (ha : DX X a ma) (hb : DX X b mb) : DE X (.Compare a [.GtE] [b] pos) (e2 ma mb (binI0 fun i j => .bl (decide (j ≤ i)))) := de_cmpI op_ge (nomark _) ha hb
theorem de_neg (ha : DX X a ma) : DE X (.UnaryOp .USub a pos) (e1 ma fun w => (intS w).map fun i => .int (-i)) :=
  de1 ha (pe_un un_neg) fun v w fp H d Q r1 hf q => by
    cases e : intS w with
    | none => rw [e] at hf; cases hf
    | some i => rw [e] at hf; cases hf; exact ⟨i, r1.int e, q _ _ (Same.refl H) (.int _)⟩
/-- i <= j < k -/
def chainT (p q : Int → Int → Bool) (ma mb mc : DS → ER Ar) : DS → ER Bool := fun st => (ma st).bind fun a st1 => (mb st1).bind fun b st2 => (optE (bindO st2 a fun x => bindO st2 b fun y => binI0 (fun i j => (p i j, j)) x y) st2).bind fun k st2 =>
  if k.1 then (mc st2).bind fun c st3 => optE (bindO st3 c fun z => (intS z).map fun l => q k.2 l) st3 else .ok false st2
theorem dt_chain {op op' : CmpOp} {p q : Int → Int → Bool} (ho : OpR X (compareOp op) (rI0 fun i j => .bl (p i j))) (ho' : OpR X (compareOp op') (rI0 fun i j => .bl (q i j))) (ha : DX X a ma) (hb : DX X b mb) (hc : DX X c mc)
    (hm : lastMarks [op, op'] [b, c] = false := by with_unfolding_all rfl) : DT X (.Compare a [op, op'] [b, c] pos) (chainT p q ma mb mc) := by
  refine ⟨fun Wx tk => pt_imp (pt_chain ho ho' (ha.pe Wx tk) (hb.pe Wx tk) (hc.pe Wx tk) hm) fun σ H Q ⟨Γ, st, r, h⟩ => ⟨Γ, st, r, ?_⟩⟩
  refine fin.imp (fin.bind h) fun a st1 q1 v H1 r1 g1 ar => ⟨Γ, st1, r1, ?_⟩
  refine fin.imp (fin.bind (fin.gr (H' := H1) g1 q1)) fun b st2 q2 v2 H2 r2 g2 ar2 => ?_
  obtain ⟨k, ek, q3⟩ := fin_opt (fin.bind q2)
  obtain ⟨w, ew, ek⟩ := bindO_some ek
  obtain ⟨w2, ew2, ek⟩ := bindO_some ek
  obtain ⟨i, j, rfl, rfl, rfl⟩ := binI0_some ek
  obtain ⟨fp, rs⟩ := r2.look (ar.mono g2) ew
  obtain ⟨fp2, rs2⟩ := r2.look ar2 ew2
  refine ⟨i, j, rs.int rfl, rs2.int rfl, p i j, rfl, ?_⟩
  cases hp : p i j with
  | false =>
    rw [if_neg Bool.false_ne_true]
    have q4 : fin X Wx Γ σ H1 (if p i j = true then (mc st2).bind fun c st3 => optE (bindO st3 c fun z => (intS z).map fun l => q j l) st3 else .ok false st2) _ := q3
    rw [hp, if_neg Bool.false_ne_true] at q4
    exact ⟨false, rfl, q4 H2 r2 (g1.trans g2)⟩
  | true =>
    rw [if_pos rfl]
    have q4 : fin X Wx Γ σ H1 (if p i j = true then (mc st2).bind fun c st3 => optE (bindO st3 c fun z => (intS z).map fun l => q j l) st3 else .ok false st2) _ := q3
    rw [hp, if_pos rfl] at q4
    refine ⟨Γ, st2, r2, fin.imp (fin.bind (fin.gr (H' := H2) g2 q4)) fun c st3 q5 v3 H3 r3 g3 ar3 => ?_⟩
    obtain ⟨t, et, q6⟩ := fin_opt q5
    obtain ⟨w3, ew3, et⟩ := bindO_some et
    obtain ⟨fp3, rs3⟩ := r3.look ar3 ew3
    cases ez : intS w3 with
    | none => rw [ez] at et; cases et
    | some l =>
      rw [ez] at et
      cases et
      exact ⟨j, l, rs2.int rfl, rs3.int ez, _, rfl, q6 H3 r3 (g1.trans (g2.trans g3))⟩

/-! ### is None -/
def isNonS : Sv → Bool
  | .val .non => true
  | _ => false
theorem RS.isNon {K : PySem.W.Frag} {H : Hp} {v : V} {w : Sv} {fp : List Addr} (h : RS K H v w fp) : decide (v = .non) = isNonS w := by
  cases h with
  | val r => cases r <;> rfl
  | lst _ _ => rfl
  | dK _ _ => rfl
  | dT _ _ => rfl
  | ins _ _ => rfl
theorem de_isN {j pos'} (ha : DX X a ma) : DE X (.Compare a [.Is] [.Constant .none j pos'] pos) (e1 ma fun w => some (.bl (isNonS w))) :=
  de1 (r := fun x H1 Q => Q (.bl (decide (x = .non))) H1) ha (fun h => pe_cmp (pc_isN h) rfl) fun v w fp H d Q r1 hf q => by
    cases hf
    exact q _ _ (Same.refl H) (by rw [r1.isNon]; exact .bl _)
theorem de_notN {j pos'} (ha : DX X a ma) : DE X (.Compare a [.IsNot] [.Constant .none j pos'] pos) (e1 ma fun w => some (.bl (!isNonS w))) :=
  de1 (r := fun x H1 Q => Q (.bl (!decide (x = .non))) H1) ha (fun h => pe_cmp (pc_notN h) rfl) fun v w fp H d Q r1 hf q => by
    cases hf
    exact q _ _ (Same.refl H) (by rw [r1.isNon]; exact .bl _)
end

/-! ### == of data -/
mutual
def toD : Py → PyData
  | .non => .none
  | .bl b => .bool b
  | .int i => .int i
  | .str x => .str x
  | .tup ds => .tuple (toDs ds)
  | .lst ds => .list (toDs ds)
  | .dic _ => .dict []
  | .dit _ => .dict []
  | .obj _ => .dict []
def toDs : List Py → List PyData
  | [] => []
  | d :: ds => toD d :: toDs ds
end
def toDS : Sv → PyData
  | .val d => toD d
  | .lst ds => .list (toDs ds)
  | _ => .dict []
mutual
theorem R.dp {K : PySem.W.Frag} {H : Hp} : ∀ {v : V} {d : Py}, R K H v d → (toD d).canLay0 = true → Dp K H v (toD d)
  | _, _, .non, _ => .non
  | _, _, .bl b, _ => .bl b
  | _, _, .int i, _ => .int i
  | _, _, .str x, _ => .str x
  | _, _, .tup h r, e => .tup (SqT.of h) (RA.dp r e)
  | _, _, .lst h r, e => .lst h.l (RA.dp r e)
  | _, _, .dicK h r, e => absurd e (by simp [toD, PyData.canLay0])
  | _, _, .dicT h r, e => absurd e (by simp [toD, PyData.canLay0])
  | _, _, .obj a, e => absurd e (by simp [toD, PyData.canLay0])
theorem RA.dp {K : PySem.W.Frag} {H : Hp} : ∀ {v : List V} {d : List Py}, RA K H v d → PyData.canLayAll0 (toDs d) = true → DpAll K H v (toDs d)
  | _, _, .nil, _ => .nil
  | _, _, .cons h r, e => by
    simp only [toDs, PyData.canLayAll0, Bool.and_eq_true] at e
    exact .cons (R.dp h e.1) (RA.dp r e.2)
end
theorem RS.dp {K : PySem.W.Frag} {H : Hp} {v : V} {w : Sv} {fp : List Addr} (h : RS K H v w fp) (e : (toDS w).canLay0 = true) : Dp K H v (toDS w) := by
  cases h with
  | val r => exact r.dp e
  | lst ha ra => exact .lst (SqL.of ha) (ra.dp e)
  | dK _ _ => exact absurd e (by simp [toDS, PyData.canLay0])
  | dT _ _ => exact absurd e (by simp [toDS, PyData.canLay0])
  | ins _ _ => exact absurd e (by simp [toDS, PyData.canLay0])

/-! ### data that nests up to 128 -/
def shap (d : PyData) : Bool := d.canLay0 && decide (d.depth ≤ 128)
theorem canLay_of_shap {d : PyData} (h : shap d = true) : d.canLay0 = true := (Bool.and_eq_true_iff.mp h).1
theorem depth_of_shap {d : PyData} (h : shap d = true) : d.depth ≤ 128 := of_decide_eq_true (Bool.and_eq_true_iff.mp h).2
theorem room_of_shap {A : Around} {da db : PyData} (h : shap da = true) (hu : A.units + 128 < cLine) : A.units + min da.depth db.depth < cLine := by
  have h1 := depth_of_shap h
  have h2 : min da.depth db.depth ≤ da.depth := Nat.min_le_left _ _
  omega
theorem room_in_shap {A : Around} {xs : List PyData} {d : PyData} (hd : shap d = true) (hu : A.units + 129 < cLine) : A.units + 1 + min (PyData.depthAll xs) d.depth < cLine := by
  have h1 := depth_of_shap hd
  have h2 : min (PyData.depthAll xs) d.depth ≤ d.depth := Nat.min_le_right _ _
  omega
section
variable {X : Cx}
def rEqX (K : PySem.W.Frag) : R2 := fun x y H Q => ∃ d e, Dp K H x d ∧ Dp K H y e ∧ shap d = true ∧ shap e = true ∧ Q (.bl (PyData.eqv d e)) H
def rNeX (K : PySem.W.Frag) : R2 := fun x y H Q => ∃ d e, Dp K H x d ∧ Dp K H y e ∧ shap d = true ∧ shap e = true ∧ Q (.bl (!PyData.eqv d e)) H
theorem op_eqX (hu : X.A.units + 128 < cLine) : OpR X (compareOp .Eq) (rEqX X.K) := by
  intro pins s σ H x y v u Q I rx ry h
  obtain ⟨d, e, hd, he, sd, se, q⟩ := h
  obtain ⟨as, r1⟩ := Dp.reads I d x v hd rx
  obtain ⟨bs, r2⟩ := Dp.reads I e y u he ry
  exact SeqAt.compareEq_reads r1 r2 (canLay_of_shap sd) (canLay_of_shap se) (room_of_shap sd hu) ⟨.bl _, H, I, rfl, q⟩
theorem op_neX (hu : X.A.units + 128 < cLine) : OpR X (compareOp .NotEq) (rNeX X.K) := by
  intro pins s σ H x y v u Q I rx ry h
  obtain ⟨d, e, hd, he, sd, se, q⟩ := h
  obtain ⟨as, r1⟩ := Dp.reads I d x v hd rx
  obtain ⟨bs, r2⟩ := Dp.reads I e y u he ry
  exact SeqAt.compareNe_reads r1 r2 (canLay_of_shap sd) (canLay_of_shap se) (room_of_shap sd hu) ⟨.bl _, H, I, rfl, q⟩
def rInX (K : PySem.W.Frag) : R2 := fun x y H Q => ∃ d ds, Dp K H x d ∧ Dp K H y (.list ds) ∧ shap d = true ∧ shap (.list ds) = true ∧ Q (.bl (ds.any fun z => PyData.eqv z d)) H
def rNotInX (K : PySem.W.Frag) : R2 := fun x y H Q => ∃ d ds, Dp K H x d ∧ Dp K H y (.list ds) ∧ shap d = true ∧ shap (.list ds) = true ∧ Q (.bl (!ds.any fun z => PyData.eqv z d)) H
theorem op_inX (hu : X.A.units + 129 < cLine) : OpR X (compareOp .In) (rInX X.K) := by
  intro pins s σ H x y v u Q I rx ry h
  obtain ⟨d, ds, hd, he, sd, se, q⟩ := h
  obtain ⟨as, r1⟩ := Dp.reads I d x v hd rx
  obtain ⟨bs, r2⟩ := Dp.reads I (.list ds) y u he ry
  exact SeqAt.in_list_reads r2 r1 (canLay_of_shap se) (canLay_of_shap sd) (room_in_shap sd hu) ⟨.bl _, H, I, rfl, q⟩
theorem op_notInX (hu : X.A.units + 129 < cLine) : OpR X (compareOp .NotIn) (rNotInX X.K) := by
  intro pins s σ H x y v u Q I rx ry h
  obtain ⟨d, ds, hd, he, sd, se, q⟩ := h
  obtain ⟨as, r1⟩ := Dp.reads I d x v hd rx
  obtain ⟨bs, r2⟩ := Dp.reads I (.list ds) y u he ry
  exact SeqAt.notIn_list_reads r2 r1 (canLay_of_shap se) (canLay_of_shap sd) (room_in_shap sd hu) ⟨.bl _, H, I, rfl, q⟩
end
def eqS : Sv → Sv → Option Bool
  | .val (.str x), .val (.str y) => some (decide (x = y))
  | .val (.int x), .val (.int y) => some (decide (x = y))
  | .val (.bl x), .val (.bl y) => some (decide (x = y))
  | x, y => if shap (toDS x) = true ∧ shap (toDS y) = true then some (PyData.eqv (toDS x) (toDS y)) else none
theorem eqS_cases {x y : Sv} {b : Bool} (h : eqS x y = some b) : (∃ s t, x = .val (.str s) ∧ y = .val (.str t) ∧ b = decide (s = t)) ∨ (∃ s t, x = .val (.int s) ∧ y = .val (.int t) ∧ b = decide (s = t)) ∨
    (∃ s t, x = .val (.bl s) ∧ y = .val (.bl t) ∧ b = decide (s = t)) ∨ (shap (toDS x) = true ∧ shap (toDS y) = true ∧ b = PyData.eqv (toDS x) (toDS y)) := by
  unfold eqS at h
  split at h
  · cases h; exact .inl ⟨_, _, rfl, rfl, rfl⟩
  · cases h; exact .inr (.inl ⟨_, _, rfl, rfl, rfl⟩)
  · cases h; exact .inr (.inr (.inl ⟨_, _, rfl, rfl, rfl⟩))
  · split at h
    · rename_i hc; cases h; exact .inr (.inr (.inr ⟨hc.1, hc.2, rfl⟩))
    · cases h
section
variable {X : Cx} {a b c e : Expr} {ma mb mc : DS → ER Ar} {pos : Pos}
theorem dec_vstr {x y : Str} : decide (V.str x = V.str y) = decide (x = y) := by
  rw [Bool.eq_iff_iff]; simp
theorem dec_vint {x y : Int} : decide (V.int x = V.int y) = decide (x = y) := by
  rw [Bool.eq_iff_iff]; simp
theorem dec_vbl {x y : Bool} : decide (V.bl x = V.bl y) = decide (x = y) := by
  rw [Bool.eq_iff_iff]; simp
theorem RS.str {K : PySem.W.Frag} {H : Hp} {v : V} {fp : List Addr} {x : Str} (h : RS K H v (.val (.str x)) fp) : v = .str x := by
  cases h with
  | val r => cases r; rfl
theorem RS.bl {K : PySem.W.Frag} {H : Hp} {v : V} {fp : List Addr} {x : Bool} (h : RS K H v (.val (.bl x)) fp) : v = .bl x := by
  cases h with
  | val r => cases r; rfl
theorem eq_rule {v v2 : V} {w w2 : Sv} {fp fp2 : List Addr} {H : Hp} {k : Bool} {Q : VK} (r1 : RS X.K H v w fp) (r2 : RS X.K H v2 w2 fp2) (h : eqS w w2 = some k) (q : Q (.bl k) H) : rEq v v2 H Q ∨ rEqX X.K v v2 H Q := by
  rcases eqS_cases h with ⟨s, t, rfl, rfl, rfl⟩ | ⟨s, t, rfl, rfl, rfl⟩ | ⟨s, t, rfl, rfl, rfl⟩ | ⟨h1, h2, rfl⟩
  · cases r1.str; cases r2.str; exact .inl ⟨rfl, by rw [dec_vstr]; exact q⟩
  · cases r1.int rfl; cases r2.int rfl; exact .inl ⟨rfl, by rw [dec_vint]; exact q⟩
  · cases r1.bl; cases r2.bl; exact .inl ⟨rfl, by rw [dec_vbl]; exact q⟩
  · exact .inr ⟨_, _, r1.dp (canLay_of_shap h1), r2.dp (canLay_of_shap h2), h1, h2, q⟩
theorem ne_rule {v v2 : V} {w w2 : Sv} {fp fp2 : List Addr} {H : Hp} {k : Bool} {Q : VK} (r1 : RS X.K H v w fp) (r2 : RS X.K H v2 w2 fp2) (h : eqS w w2 = some k) (q : Q (.bl (!k)) H) : rNe v v2 H Q ∨ rNeX X.K v v2 H Q := by
  rcases eqS_cases h with ⟨s, t, rfl, rfl, rfl⟩ | ⟨s, t, rfl, rfl, rfl⟩ | ⟨s, t, rfl, rfl, rfl⟩ | ⟨h1, h2, rfl⟩
  · cases r1.str; cases r2.str; exact .inl ⟨rfl, by rw [dec_vstr]; exact q⟩
  · cases r1.int rfl; cases r2.int rfl; exact .inl ⟨rfl, by rw [dec_vint]; exact q⟩
  · cases r1.bl; cases r2.bl; exact .inl ⟨rfl, by rw [dec_vbl]; exact q⟩
  · exact .inr ⟨_, _, r1.dp (canLay_of_shap h1), r2.dp (canLay_of_shap h2), h1, h2, q⟩
theorem de_eq (hu : X.A.units + 128 < cLine) (ha : DX X a ma) (hb : DX X b mb) : DE X (.Compare a [.Eq] [b] pos) (e2 ma mb fun x y => (eqS x y).map .bl) :=
  de2 ha hb (fun h k => pe_cmpR (op_eq.or (op_eqX hu)) h k (nomark _)) fun v w v2 w2 fp fp2 H d Q r1 r2 hf q => by
    cases e : eqS w w2 with
    | none => rw [e] at hf; cases hf
    | some k => rw [e] at hf; cases hf; exact eq_rule r1 r2 e (q _ _ (Same.refl H) (.bl _))
theorem de_ne (hu : X.A.units + 128 < cLine) (ha : DX X a ma) (hb : DX X b mb) : DE X (.Compare a [.NotEq] [b] pos) (e2 ma mb fun x y => (eqS x y).map fun k => .bl (!k)) :=
  de2 ha hb (fun h k => pe_cmpR (op_ne.or (op_neX hu)) h k (nomark _)) fun v w v2 w2 fp fp2 H d Q r1 r2 hf q => by
    cases e : eqS w w2 with
    | none => rw [e] at hf; cases hf
    | some k => rw [e] at hf; cases hf; exact ne_rule r1 r2 e (q _ _ (Same.refl H) (.bl _))

/-! ### in, not in -/
def flatP : Py → Bool
  | .non => true
  | .bl _ => true
  | .int _ => true
  | .str _ => true
  | _ => false
theorem R.flat {K : PySem.W.Frag} {H : Hp} {v : V} {d : Py} (h : R K H v d) : flatV v = flatP d := by cases h <;> rfl
theorem R.eqV {K : PySem.W.Frag} {H : Hp} {v v2 : V} {d d2 : Py} (h : R K H v d) (h2 : R K H v2 d2) (f : flatP d = true) (f2 : flatP d2 = true) : L2.eqV v v2 = PyData.eqv (toD d) (toD d2) := by
  cases h <;> first
    | (cases h2 <;> first
        | (simp [L2.eqV, toD, PyData.eqv]; done)
        | exact absurd f2 Bool.false_ne_true)
    | exact absurd f Bool.false_ne_true
theorem RA.flat {K : PySem.W.Frag} {H : Hp} : ∀ {vs : List V} {ds : List Py}, RA K H vs ds → vs.all flatV = ds.all flatP
  | _, _, .nil => rfl
  | _, _, .cons h t => by rw [List.all_cons, List.all_cons, R.flat h, RA.flat t]
theorem RA.inV {K : PySem.W.Frag} {H : Hp} {v2 : V} {d2 : Py} (h2 : R K H v2 d2) (f2 : flatP d2 = true) : ∀ {vs : List V} {ds : List Py}, RA K H vs ds → ds.all flatP = true → L2.inV v2 vs = ds.any fun z => PyData.eqv (toD z) (toD d2)
  | _, _, .nil, _ => rfl
  | v :: vs, d :: ds, .cons h t, f => by
    simp only [List.all_cons, Bool.and_eq_true] at f
    unfold L2.inV
    rw [List.any_cons, List.any_cons, R.eqV h h2 f.1 f2]
    congr 1
    exact RA.inV h2 f2 t f.2
theorem any_toDs (x : PyData) : ∀ ds : List Py, (toDs ds).any (fun z => PyData.eqv z x) = ds.any fun z => PyData.eqv (toD z) x
  | [] => rfl
  | d :: ds => by simp only [toDs, List.any_cons, any_toDs x ds]
/-- a value in a list or tuple -/
def inS (x y : Sv) : Option Bool := (valS x).bind fun d => (itemsS y).bind fun ds =>
  if flatP d = true ∧ ds.all flatP = true then some (ds.any fun z => PyData.eqv (toD z) (toD d))
  else if (listS y).isSome = true ∧ shap (toD d) = true ∧ shap (.list (toDs ds)) = true then some (ds.any fun z => PyData.eqv (toD z) (toD d))
  else none
theorem listS_items {y : Sv} {ds : List Py} (h : itemsS y = some ds) (e : (listS y).isSome = true) : listS y = some ds := by
  unfold itemsS at h
  split at h <;> first | (cases h; first | rfl | (simp [listS] at e)) | cases h
theorem in_rule {v v2 : V} {w w2 : Sv} {fp fp2 : List Addr} {H : Hp} {k : Bool} {Q : VK} {neg : Bool} (r1 : RS X.K H v w fp) (r2 : RS X.K H v2 w2 fp2) (h : inS w w2 = some k) (q : Q (.bl (if neg then !k else k)) H) :
    rIn X.K neg v v2 H Q ∨ ∃ d ds, Dp X.K H v d ∧ Dp X.K H v2 (.list ds) ∧ shap d = true ∧ shap (.list ds) = true ∧ Q (.bl (if neg then !(ds.any fun z => PyData.eqv z d) else ds.any fun z => PyData.eqv z d)) H := by
  unfold inS at h
  cases ev : valS w with
  | none => rw [ev] at h; cases h
  | some d =>
    rw [ev] at h
    cases ei : itemsS w2 with
    | none => rw [ei] at h; cases h
    | some ds =>
      rw [ei] at h
      simp only [Option.bind_some] at h
      have rd := r1.data ev
      by_cases h1 : flatP d = true ∧ ds.all flatP = true
      · rw [if_pos h1] at h
        cases h
        obtain ⟨a, xs, rfl, hs, ra⟩ := r2.seq ei
        refine .inl ⟨a, xs, rfl, hs.imp id SqT.of, by rw [rd.flat]; exact h1.1, by rw [ra.flat]; exact h1.2, ?_⟩
        rw [RA.inV rd h1.1 ra h1.2]
        exact q
      · rw [if_neg h1] at h
        by_cases h2 : (listS w2).isSome = true ∧ shap (toD d) = true ∧ shap (.list (toDs ds)) = true
        · rw [if_pos h2] at h
          cases h
          obtain ⟨a, xs, rfl, hs, ra⟩ := r2.list (listS_items ei h2.1)
          have hc := canLay_of_shap h2.2.2
          refine .inr ⟨toD d, toDs ds, rd.dp (canLay_of_shap h2.2.1), .lst hs (ra.dp hc), h2.2.1, h2.2.2, ?_⟩
          rw [any_toDs]
          exact q
        · rw [if_neg h2] at h; cases h
theorem de_in (hu : X.A.units + 129 < cLine) (hm : behindInMarks .In b = false) (ha : DX X a ma) (hb : DX X b mb) : DE X (.Compare a [.In] [b] pos) (e2 ma mb fun x y => (inS x y).map .bl) :=
  de2 ha hb (fun h k => pe_cmpR (op_in_seq.or (op_inX hu)) h k hm) fun v w v2 w2 fp fp2 H d Q r1 r2 hf q => by
    cases e : inS w w2 with
    | none => rw [e] at hf; cases hf
    | some k => rw [e] at hf; cases hf; exact in_rule (neg := false) r1 r2 e (q _ _ (Same.refl H) (.bl _))
theorem de_notIn (hu : X.A.units + 129 < cLine) (hm : behindInMarks .NotIn b = false) (ha : DX X a ma) (hb : DX X b mb) : DE X (.Compare a [.NotIn] [b] pos) (e2 ma mb fun x y => (inS x y).map fun k => .bl (!k)) :=
  de2 ha hb (fun h k => pe_cmpR (op_notIn_seq.or (op_notInX hu)) h k hm) fun v w v2 w2 fp fp2 H d Q r1 r2 hf q => by
    cases e : inS w w2 with
    | none => rw [e] at hf; cases hf
    | some k => rw [e] at hf; cases hf; exact in_rule (neg := true) r1 r2 e (q _ _ (Same.refl H) (.bl _))
end
end DL

/-! ## DL6 -/
namespace DL
open PySem PySem.Spec PyProof.Rows L2
variable [Tb]

/-! ### types -/
inductive Tn where
  | non | bool | int | str | tuple | list | dict
  deriving DecidableEq
def Tn.name : Tn → String
  | .non => "NoneType" | .bool => "bool" | .int => "int" | .str => "str" | .tuple => "tuple" | .list => "list" | .dict => "dict"
def tyS : Sv → Option Tn
  | .val .non => some .non
  | .val (.bl _) => some .bool
  | .val (.int _) => some .int
  | .val (.str _) => some .str
  | .val (.tup _) => some .tuple
  | .val (.lst _) => some .list
  | .lst _ => some .list
  | .dic _ => some .dict
  | .dit _ => some .dict
  | _ => none
def isiT (c n : Tn) : Bool := n == c || (c == .int && n == .bool)
theorem kit_all : ∀ c n : Tn, c ≠ .non → kitB n.name c.name = some (isiT c n) := by
  intro c n h
  cases c <;> cases n <;> first
    | exact absurd rfl h
    | decide +kernel
theorem R.ty {K : PySem.W.Frag} {H : Hp} {v : V} {d : Py} {t : Tn} (h : R K H v d) (e : tyS (.val d) = some t) : TyX K H v (.type t.name) := by
  cases h with
  | non => cases e; exact .base .non
  | bl b => cases e; exact .base (.bl b)
  | int i => cases e; exact .base (.int i)
  | str x => cases e; exact .base (.str x)
  | tup hs ra =>
    cases e
    exact .base (.tup hs)
  | lst hs ra =>
    cases e
    rcases hs with ⟨o, h⟩ | ⟨o, its, n, h, hc, _⟩
    · exact .base (.frz h)
    · exact .kList h hc
  | dicK _ _ => cases e
  | dicT _ _ => cases e
  | obj _ => cases e
theorem RS.ty {K : PySem.W.Frag} {H : Hp} {v : V} {w : Sv} {fp : List Addr} {t : Tn} (h : RS K H v w fp) (e : tyS w = some t) : TyX K H v (.type t.name) := by
  cases h with
  | val r => exact r.ty e
  | lst ha ra => cases e; exact .base (.lst ha)
  | dK ha _ => cases e; exact .base (.dK ha)
  | dT ha _ => cases e; exact .base (.dT ha)
  | ins _ _ => cases e
def isiS (c : Tn) (w : Sv) : Option Bool := (tyS w).map (isiT c)
def isiS2 (c c2 : Tn) (w : Sv) : Option Bool := (tyS w).map fun n => isiT c n || isiT c2 n

/-- the built-in names that the program doesn't hide -/
structure Bt (mg : Str → Option Value) : Prop where
  isinstance : mg "isinstance" = none
  len : mg "len" = none
  tuple : mg "tuple" = none
  list : mg "list" = none
  int : mg "int" = none
  str : mg "str" = none
  bool : mg "bool" = none
  dict : mg "dict" = none
  range : mg "range" = none
  max : mg "max" = none
  min : mg "min" = none
  all : mg "all" = none
  any : mg "any" = none
  sum : mg "sum" = none
  sorted : mg "sorted" = none
  enumerate : mg "enumerate" = none
  zip : mg "zip" = none
  abs : mg "abs" = none
  valueError : mg "ValueError" = none
theorem Bt.cls {mg : Str → Option Value} (T : Bt mg) (c : Tn) (h : c ≠ .non) : mg c.name = none := by
  cases c with
  | non => exact absurd rfl h
  | bool => exact T.bool
  | int => exact T.int
  | str => exact T.str
  | tuple => exact T.tuple
  | list => exact T.list
  | dict => exact T.dict
theorem boot_cls (c : Tn) (h : c ≠ .non) : bootBuiltins c.name = some (.type c.name) := by
  cases c <;> first | exact absurd rfl h | decide +kernel
section
variable {X : Cx} {a b c e : Expr} {ma mb mc : DS → ER Ar} {pos p p1 p2 p3 : Pos}
theorem pe_cls {x : Str} (t : Tn) (hx : x = Str.ofString t.name) (T : Bt X.mg) (ht : t ≠ .non) (hg : Gl X x) (hn : x ≠ "__name__" := by decide) (hd : (x == ("__debug__" : Str)) = false := by decide) : PE X (.Name x p) (tC (V.ty t.name)) := by
  subst hx
  exact pe_bltn hg (T.cls t ht) (boot_cls t ht) rfl hn hd
theorem de_isi {x : Str} (t : Tn) (T : Bt X.mg) (hg : Gl X "isinstance") (hg2 : Gl X x) (ha : DX X a ma) (hx : x = Str.ofString t.name := by rfl) (ht : t ≠ .non := by decide) (hn : x ≠ "__name__" := by decide) (hd : (x == ("__debug__" : Str)) = false := by decide)
    (he : starEach [a, .Name x p2] X.env = (false, eval a X.env) :: starEach [.Name x p2] X.env := by rfl) (he2 : starEach [.Name x p2] X.env = (false, eval (.Name x p2) X.env) :: starEach [] X.env := by rfl)
    (hpl : (backTo pos (starEach [.Name x p2] X.env)).any (·.1) = false := by rfl) :
    DE X (.Call (.Name "isinstance" p) [a, .Name x p2] [] pos) (e1 ma fun w => (isiS t w).map .bl) :=
  de1 (r := fun x H Q => rIsi X.K [x, .ty t.name] H Q) ha (fun h => pe_callB call_isi hg T.isinstance boot_isinstance (pa_cons h (pa_cons (pe_cls t hx T ht hg2 hn hd) pa_nil he2) he) (by decide) (by decide) he hpl) fun v w fp H d Q r1 hf q => by
    unfold isiS at hf
    cases ty : tyS w with
    | none => rw [ty] at hf; cases hf
    | some n =>
      rw [ty] at hf
      cases hf
      exact ⟨v, .ty t.name, _, _, _, rfl, .ty _, r1.ty ty, kit_ty (kit_all t n ht), q _ _ (Same.refl H) (.bl _)⟩
theorem de_isi2 {x y : Str} {k : Nat} (t u : Tn) (T : Bt X.mg) (hg : Gl X "isinstance") (hg2 : Gl X x) (hg3 : Gl X y) (ha : DX X a ma) (hx : x = Str.ofString t.name := by rfl) (hy : y = Str.ofString u.name := by rfl) (ht : t ≠ .non := by decide) (hu : u ≠ .non := by decide)
    (hn : x ≠ "__name__" := by decide) (hd : (x == ("__debug__" : Str)) = false := by decide) (hn' : y ≠ "__name__" := by decide) (hd' : (y == ("__debug__" : Str)) = false := by decide)
    (he : starEach [a, .Tuple [.Name x p2, .Name y p3] k p1] X.env = (false, eval a X.env) :: starEach [.Tuple [.Name x p2, .Name y p3] k p1] X.env := by rfl)
    (he2 : starEach [.Tuple [.Name x p2, .Name y p3] k p1] X.env = (false, eval (.Tuple [.Name x p2, .Name y p3] k p1) X.env) :: starEach [] X.env := by rfl)
    (he3 : starEach [.Name x p2, .Name y p3] X.env = (false, eval (.Name x p2) X.env) :: starEach [.Name y p3] X.env := by rfl)
    (he4 : starEach [.Name y p3] X.env = (false, eval (.Name y p3) X.env) :: starEach [] X.env := by rfl)
    (hpl : (backTo pos (starEach [.Tuple [.Name x p2, .Name y p3] k p1] X.env)).any (·.1) = false := by rfl) :
    DE X (.Call (.Name "isinstance" p) [a, .Tuple [.Name x p2, .Name y p3] k p1] [] pos) (e1 ma fun w => (isiS2 t u w).map .bl) :=
  de1 (r := fun x H Q => 2 ≤ sizeLine ∧ ∀ p, H p = none → rIsiT X.K [x, .ref p] (upd H p (.tup [.ty t.name, .ty u.name])) Q) ha
    (fun h => pe_callB call_isiT hg T.isinstance boot_isinstance (pa_cons h (pa_cons (pe_tup (pa_cons (pe_cls t hx T ht hg2 hn hd) (pa_cons (pe_cls u hy T hu hg3 hn' hd') pa_nil he4) he3)) pa_nil he2) he) (by decide) (by decide) he hpl) fun v w fp H d Q r1 hf q => by
    unfold isiS2 at hf
    cases ty : tyS w with
    | none => rw [ty] at hf; cases hf
    | some n =>
      rw [ty] at hf
      cases hf
      refine ⟨by decide, fun p hp => ?_⟩
      have s : Same H (upd H p (.tup [.ty t.name, .ty u.name])) := Same.new hp
      have r2 : RS X.K (upd H p (.tup [.ty t.name, .ty u.name])) v w fp := r1.frame (Same.gr s) fun b hb => (r1.own b hb).same s
      refine ⟨v, p, _, _, _, _, rfl, upd_same, .cons (.ty _) (.cons (.ty _) .nil), r2.ty ty, kitAny_cons (kit_ty (kit_all t n ht)) (fun h1 => kitAny_cons (r := isiT u n) (kit_ty (kit_all u n hu)) (fun h2 => by rw [h2]; exact kitAny_nil) (fun h2 => h2) |>.trans ?_) (fun h1 => by show (isiT t n || isiT u n) = true; rw [h1]; rfl), q _ _ s (.bl _)⟩
      show some (isiT u n) = some (isiT t n || isiT u n)
      rw [h1]; rfl

/-! ### subscripts, slices, + -/
def ixS (x y : Sv) : Option Py := (intS y).bind fun i => match x with
  | .val (.str z) => if z.length ≤ sizeLine then (atI z.cps.toList i).map fun c => .str ⟨#[c]⟩ else none
  | x => (itemsS x).bind fun ds => atI ds i
theorem RA.atI {K : PySem.W.Frag} {H : Hp} {vs : List V} {ds : List Py} {i : Int} {d : Py} (h : RA K H vs ds) (e : L2.atI ds i = some d) : ∃ v, L2.atI vs i = some v ∧ R K H v d := by
  unfold L2.atI at e ⊢
  rw [h.length]
  cases q : ixN ds.length i with
  | none => rw [q] at e; cases e
  | some j => rw [q] at e; exact h.get e
theorem de_ix (hs : PlainIx b) (ha : DX X a ma) (hb : DX X b mb) : DE X (.Subscript a b pos) (e2 ma mb ixS) :=
  de2 ha hb (fun h k => pe_ix ix_seq h k hs) fun v w v2 w2 fp fp2 H d Q r1 r2 hf q => by
    unfold ixS at hf
    cases ei : intS w2 with
    | none => rw [ei] at hf; cases hf
    | some i =>
      rw [ei] at hf
      have e2 := r2.int ei
      subst e2
      simp only [Option.bind_some] at hf
      split at hf
      · rename_i z
        have e1 := r1.str
        subst e1
        by_cases hz : z.length ≤ sizeLine
        · rw [if_pos hz] at hf
          cases ec : atI z.cps.toList i with
          | none => rw [ec] at hf; cases hf
          | some c =>
            rw [ec] at hf
            cases hf
            exact .inr (.inr ⟨z, i, c, rfl, rfl, hz, ec, q _ _ (Same.refl H) (.str _)⟩)
        · rw [if_neg hz] at hf; cases hf
      · cases es : itemsS w with
        | none => rw [es] at hf; cases hf
        | some ds =>
          rw [es] at hf
          obtain ⟨a, xs, rfl, hq, ra⟩ := r1.seq es
          obtain ⟨y, hy, ry⟩ := ra.atI hf
          rcases hq with hq | hq
          · exact .inl ⟨a, xs, i, y, rfl, rfl, hq, hy, q _ _ (Same.refl H) ry⟩
          · exact .inr (.inl ⟨a, xs, i, y, rfl, rfl, SqT.of hq, hy, q _ _ (Same.refl H) ry⟩)
def cutP {α : Type} (xs : List α) (lo hi : Option Int) : List α := (xs.drop (HT.sIx xs.length 0 lo)).take (HT.sIx xs.length xs.length hi - HT.sIx xs.length 0 lo)
theorem RA.cut {K : PySem.W.Frag} {H : Hp} {vs : List V} {ds : List Py} (h : RA K H vs ds) (lo hi : Option Int) : RA K H (cutV vs lo hi) (cutP ds lo hi) := by
  unfold cutV cutP
  rw [h.length]
  exact (h.drop _).take _
theorem cutP_whole {α : Type} {xs : List α} {lo hi : Option Int} (h : HT.sIx xs.length 0 lo = 0 ∧ HT.sIx xs.length xs.length hi = xs.length) : cutP xs lo hi = xs := by
  unfold cutP
  rw [h.1, h.2, List.drop_zero, Nat.sub_zero, List.take_length]
def tP (X : Cx) (Wx : WX) (m : DS → ER (Option Int)) : TO := fun σ H Q => ∃ Γ st, Rel X.K Γ st σ H [] ∧ fin X Wx Γ σ H (m st) fun o st' => ∀ H', Rel X.K Γ st' σ H' [] → Gr H H' → Q o H'
structure DP (X : Cx) (e : Option Expr) (m : DS → ER (Option Int)) : Prop where
  po : ∀ Wx, Takes X Wx → PO X e (tP X Wx m)
theorem po_imp {e : Option Expr} {t t' : TO} (h : PO X e t) (k : ∀ σ H Q, t' σ H Q → t σ H Q) : PO X e t' := ⟨fun pins s σ H Q I q => h.run pins s σ H Q I (k _ _ _ q)⟩
theorem dp_none : DP X none fun st => .ok none st := ⟨fun _ _ => po_imp po_none fun σ H Q ⟨Γ, st, r, q⟩ => q H r (Gr.refl H)⟩
theorem dp_some {m : DS → ER Py} (h : DE X e m) : DP X (some e) fun st => (m st).bind fun d st1 => (optE (asInt d) st1).bind fun i st1 => .ok (some i) st1 := by
  refine ⟨fun Wx tk => po_imp (po_some (h.pe Wx tk)) fun σ H Q ⟨Γ, st, r, q⟩ => ⟨Γ, st, r, ?_⟩⟩
  refine fin.imp (fin.bind q) fun d st1 q1 v H1 r1 g1 rd => ?_
  obtain ⟨i, ei, q2⟩ := fin_opt (fin.bind q1)
  cases d <;> cases ei
  cases rd
  exact ⟨i, rfl, q2 H1 r1 g1⟩
def sliceS (x : Sv) (lo hi : Option Int) : Option Sv := match x with
  | .val (.tup ds) => some (.val (.tup (cutP ds lo hi)))
  | .val (.lst ds) => some (.lst (cutP ds lo hi))
  | .lst ds => some (.lst (cutP ds lo hi))
  | .val (.str z) => if z.length ≤ sizeLine then some (.val (.str (cutS z lo hi))) else none
  | _ => none
theorem do_slice {lo hi : Option Expr} {ml mh : DS → ER (Option Int)} (ha : DX X a ma) (hl : DP X lo ml) (hh : DP X hi mh) :
    DO X (.Subscript a (.Slice lo hi none p2) pos) fun st => (ma st).bind fun a st1 => (ml st1).bind fun l st2 => (mh st2).bind fun u st3 => optE (bindO st3 a fun x => sliceS x l u) st3 := by
  refine ⟨fun Wx tk => pe_imp (pe_slice (sl_tupA.or (sl_list.or sl_str)) (ha.pe Wx tk) (hl.po Wx tk) (hh.po Wx tk)) fun σ H Q ⟨Γ, st, rl, q⟩ => ⟨Γ, st, rl, ?_⟩⟩
  refine fin.imp (fin.bind q) fun a st1 q1 v H1 r1 g1 ar => ⟨Γ, st1, r1, ?_⟩
  refine fin.imp (fin.bind (fin.gr (H' := H1) g1 q1)) fun l st2 q2 H2 r2 g2 => ⟨Γ, st2, r2, ?_⟩
  refine fin.imp (fin.bind (fin.gr (H' := H2) g2 q2)) fun u st3 q3 H3 r3 g3 => ?_
  obtain ⟨d, ed, q3⟩ := fin_opt q3
  obtain ⟨w, ew, fw⟩ := bindO_some ed
  obtain ⟨fp, rs⟩ := r3.look ((ar.mono g2).mono g3) ew
  have g4 := g1.trans (g2.trans g3)
  have list : ∀ (p0 : Addr) (xs : List V) (ds : List Py), v = .ref p0 → SqL X.K H3 p0 xs → RA X.K H3 xs ds → d = .lst (cutP ds l u) → rSlL X.K v l u H3 Q := by
    intro p0 xs ds hv hs ra hd
    subst hv hd
    refine ⟨p0, xs, rfl, hs, fun p hp => ?_⟩
    have s : Same H3 (upd H3 p (.lst (cutV xs l u))) := Same.new hp
    have rs' : RS X.K (upd H3 p (.lst (cutV xs l u))) (.ref p) (.lst (cutP ds l u)) [p] := .lst upd_same ((ra.cut l u).mono (Same.gr s))
    exact q3 _ _ [p] (r3.owned s (by simp) (fun b hb => by rw [List.mem_singleton.mp hb]; exact hp) rs'.own) (g4.trans (Same.gr s)) rs'
  cases rs with
  | val rv =>
    cases rv with
    | @tup p0 xs ds hs ra =>
      cases fw
      refine .inl ⟨_, _, rfl, SqT.of hs, fun hw => ?_, fun hw p hp => ?_⟩
      · rw [ra.length] at hw
        have hw' : cutP ds l u = ds := cutP_whole hw
        exact q3 _ _ [] r3 g4 (by rw [hw']; exact .val (.tup hs ra))
      · have s : Same H3 (upd H3 p (.tup (cutV xs l u))) := Same.new hp
        exact q3 _ _ [] (r3.ext s) (g4.trans (Same.gr s)) (.val (.tup upd_same ((ra.cut l u).mono (Same.gr s))))
    | lst hs ra => cases fw; exact .inr (.inl (list _ _ _ rfl hs.l ra rfl))
    | str z =>
      have fw' : (if z.length ≤ sizeLine then some (Sv.val (.str (cutS z l u))) else none) = some d := fw
      by_cases hz : z.length ≤ sizeLine
      · rw [if_pos hz] at fw'
        cases fw'
        exact .inr (.inr ⟨z, rfl, hz, q3 _ _ [] r3 g4 (.val (.str _))⟩)
      · rw [if_neg hz] at fw'; cases fw'
    | _ => cases fw
  | lst ha ra => cases fw; exact .inr (.inl (list _ _ _ rfl (SqL.of ha) ra rfl))
  | dK _ _ => cases fw
  | dT _ _ => cases fw
  | ins _ _ => cases fw
def revS (x : Sv) : Option Sv := match x with
  | .val (.tup ds) => some (.val (.tup ds.reverse))
  | .val (.lst ds) => some (.lst ds.reverse)
  | .lst ds => some (.lst ds.reverse)
  | _ => none
theorem do_rev {k : Nat} (ha : DX X a ma) : DO X (.Subscript a (.Slice none none (some (.UnaryOp .USub (.Constant (.int 1) k p1) p2)) p3) pos) (e1 ma revS) :=
  do1 ha pe_revA fun v w fp H d Q rs fw q => by
    have list : ∀ (p0 : Addr) (xs : List V) (ds : List Py), v = .ref p0 → SqL X.K H p0 xs → RA X.K H xs ds → d = .lst ds.reverse → ∃ a xs, v = .ref a ∧ ((SqL X.K H a xs ∧ ∀ p, H p = none → Q (.ref p) (upd H p (.lst xs.reverse))) ∨ (SqT X.K H a xs ∧ ∀ p, H p = none → Q (.ref p) (upd H p (.tup xs.reverse)))) := by
      intro p0 xs ds hv hs ra hd
      subst hv hd
      refine ⟨p0, xs, rfl, .inl ⟨hs, fun p hp => ?_⟩⟩
      have s : Same H (upd H p (.lst xs.reverse)) := Same.new hp
      exact q _ _ [p] s (.lst upd_same (ra.reverse.mono (Same.gr s))) (by simp) (fun b hb => by rw [List.mem_singleton.mp hb]; exact hp)
    cases rs with
    | val rv =>
      cases rv with
      | @tup p0 xs ds hs ra =>
        cases fw
        refine ⟨_, _, rfl, .inr ⟨SqT.of hs, fun p hp => ?_⟩⟩
        have s : Same H (upd H p (.tup xs.reverse)) := Same.new hp
        exact q _ _ [] s (.val (.tup upd_same (ra.reverse.mono (Same.gr s)))) List.nodup_nil nofun
      | lst hs ra => cases fw; exact list _ _ _ rfl hs.l ra rfl
      | _ => cases fw
    | lst ha ra => cases fw; exact list _ _ _ rfl (SqL.of ha) ra rfl
    | dK _ _ => cases fw
    | dT _ _ => cases fw
    | ins _ _ => cases fw
set_option maxRecDepth 8000 in
theorem cat_lst (l : Addr) (items : Array Value) (n : Nat) (sl : Array (Option Value)) (b : Addr) (items2 : Array Value) (n2 : Nat) (sl2 : Array (Option Value)) (hc0 : items.size + items2.size ≤ sizeLine) :
    Meets (Builtin.«list.__add__» ⟨[.ref l, .ref b], []⟩) (fun _ R s => s.heap.get? l = some { cls := .type "list", dict := none, data := .seq items n, slots := sl } ∧ s.heap.get? b = some { cls := .type "list", dict := none, data := .seq items2 n2, slots := sl2 } ∧ R (.ok (.ret (Value.ref s.heap.objs.size))) { s with heap := s.heap.push { cls := Value.type "list", data := Data.seq (items ++ items2) }, toks := s.toks }) :=
  .of_wp fun prog w A R s h => by obtain ⟨hp, g, d, tk, os⟩ := s; obtain ⟨hl, hb, h⟩ := h; have f1 := PySem.AutoSeq1.idx_int; have f2 := PySem.AutoSeq1.sub_tuple_tuple; have f3 := PySem.AutoSeq1.sub_list_list; have f4 := PySem.AutoSeq1.sub_tuple_list; have f5 := PySem.AutoSeq1.sub_list_tuple; wp_walk using wpAny_loadPart' hl, wpAny_loadPart' hb; exact ⟨_, rfl, h⟩
theorem op_catL : OpR X (binaryOp .Add) (fun x y H Q => ∃ l b xs zs, x = .ref l ∧ y = .ref b ∧ SqL X.K H l xs ∧ SqL X.K H b zs ∧ xs.length + zs.length ≤ sizeLine ∧ ∀ p, H p = none → Q (.ref p) (upd H p (.lst (xs ++ zs)))) := by
  intro pins s σ H x y v u Q I rx ry h
  obtain ⟨l, b, xs, zs, rfl, rfl, hH, hB, hz, q⟩ := h
  cases rx
  cases ry
  obtain ⟨its, r, ⟨⟨oc, od, dt, sl⟩, n, e, hc, hd, hs⟩, _⟩ := I.list hH
  simp only at hc hd hs
  subst hc hd hs
  obtain ⟨its2, r2, ⟨⟨oc, od, dt, sl2⟩, n2, e2, hc, hd, hs⟩, _⟩ := I.list hB
  simp only at hc hd hs
  subst hc hd hs
  have hl := r.length
  have hl2 := r2.length
  have hsz : its.toArray.size + its2.toArray.size ≤ sizeLine := by rw [List.size_toArray, List.size_toArray]; omega
  refine concat_meets ⟨_, e, rfl⟩ ⟨_, e2, rfl⟩ noFill_list_add seq_list_add F.slot_list_add F.entry_list_add (F.args_list_add_2 _ _) (cat_lst l its.toArray n sl b its2.toArray n2 sl2 hsz) ⟨e, e2, ?_⟩
  have ea : its.toArray ++ its2.toArray = (its ++ its2).toArray := by simp
  rw [ea]
  exact ⟨.ref _, _, I.lnew (t' := s.toks) (r.append r2) (by rw [List.length_append]; omega), rfl, q _ I.fresh⟩
theorem RS.lx {K : PySem.W.Frag} {H : Hp} {v : V} {w : Sv} {fp : List Addr} {ds : List Py} (h : RS K H v w fp) (e : listS w = some ds) : ∃ a xs, v = .ref a ∧ SqL K H a xs ∧ RA K H xs ds := h.list e
/-- + of ints, texts, tuples, lists -/
def addS (x y : Sv) : Option Sv := match x, y with
  | .val (.int i), .val (.int j) => some (.val (.int (i + j)))
  | .val (.str s), .val (.str t) => if s.length + t.length ≤ sizeLine then some (.val (.str (s ++ t))) else none
  | .val (.tup a), .val (.tup b) => if a.length + b.length ≤ sizeLine then some (.val (.tup (a ++ b))) else none
  | x, y => (listS x).bind fun a => (listS y).bind fun b => if a.length + b.length ≤ sizeLine then some (.lst (a ++ b)) else none
theorem addS_cases {x y d : Sv} (h : addS x y = some d) : (∃ i j, x = .val (.int i) ∧ y = .val (.int j) ∧ d = .val (.int (i + j))) ∨ (∃ s t, x = .val (.str s) ∧ y = .val (.str t) ∧ s.length + t.length ≤ sizeLine ∧ d = .val (.str (s ++ t))) ∨
    (∃ a b, x = .val (.tup a) ∧ y = .val (.tup b) ∧ a.length + b.length ≤ sizeLine ∧ d = .val (.tup (a ++ b))) ∨ ∃ a b, listS x = some a ∧ listS y = some b ∧ a.length + b.length ≤ sizeLine ∧ d = .lst (a ++ b) := by
  unfold addS at h
  split at h
  · cases h; exact .inl ⟨_, _, rfl, rfl, rfl⟩
  · split at h
    · rename_i hz; cases h; exact .inr (.inl ⟨_, _, rfl, rfl, hz, rfl⟩)
    · cases h
  · split at h
    · rename_i hz; cases h; exact .inr (.inr (.inl ⟨_, _, rfl, rfl, hz, rfl⟩))
    · cases h
  · obtain ⟨a, ha, h⟩ := Option.bind_eq_some_iff.mp h
    obtain ⟨b, hb, h⟩ := Option.bind_eq_some_iff.mp h
    split at h
    · rename_i hz; cases h; exact .inr (.inr (.inr ⟨a, b, ha, hb, hz, rfl⟩))
    · cases h
theorem do_add (ha : DX X a ma) (hb : DX X b mb) : DO X (.BinOp a .Add b pos) (e2 ma mb addS) :=
  do2 ha hb (pe_op (op_add.or (op_add_str.or (op_catA.or op_catL)))) fun v w v2 w2 fp fp2 H d Q r1 r2 hf q => by
    rcases addS_cases hf with ⟨i, j, rfl, rfl, rfl⟩ | ⟨s, t, rfl, rfl, hz, rfl⟩ | ⟨a, b, rfl, rfl, hz, rfl⟩ | ⟨a, b, h1, h2, hz, rfl⟩
    · exact .inl ⟨i, j, r1.int rfl, r2.int rfl, q _ _ [] (Same.refl H) (.val (.int _)) List.nodup_nil nofun⟩
    · exact .inr (.inl ⟨s, t, r1.str, r2.str, hz, q _ _ [] (Same.refl H) (.val (.str _)) List.nodup_nil nofun⟩)
    · have d1 := r1.data rfl
      have d2 := r2.data rfl
      cases d1 with
      | @tup _ xs1 _ h1 ra1 =>
        cases d2 with
        | @tup _ xs2 _ h2 ra2 =>
          refine .inr (.inr (.inl ⟨_, _, _, _, rfl, rfl, SqT.of h1, SqT.of h2, by rw [ra1.length, ra2.length]; exact hz, fun e => ?_, fun n e => ?_, fun n1 n2 p hp => ?_⟩))
          · subst e
            cases ra1
            exact q _ _ [] (Same.refl H) (.val (.tup h2 ra2)) List.nodup_nil nofun
          · subst e
            cases ra2
            exact q _ _ [] (Same.refl H) (.val (by rw [List.append_nil]; exact .tup h1 ra1)) List.nodup_nil nofun
          · have s : Same H (upd H p (.tup (xs1 ++ xs2))) := Same.new hp
            exact q _ _ [] s (.val (.tup upd_same ((ra1.append ra2).mono (Same.gr s)))) List.nodup_nil nofun
    · obtain ⟨p1, xs, rfl, l1, ra1⟩ := r1.lx h1
      obtain ⟨p2, ys, rfl, l2, ra2⟩ := r2.lx h2
      refine .inr (.inr (.inr ⟨p1, p2, xs, ys, rfl, rfl, l1, l2, by rw [ra1.length, ra2.length]; exact hz, fun p hp => ?_⟩))
      have s : Same H (upd H p (.lst (xs ++ ys))) := Same.new hp
      exact q _ _ [p] s (.lst upd_same ((ra1.append ra2).mono (Same.gr s))) (by simp) (fun b hb => by rw [List.mem_singleton.mp hb]; exact hp)
end
end DL

/-! ## DL7 -/
namespace DL
open PySem PySem.Spec PyProof.Rows L2
variable [Tb]

/-! ### calls of built-ins with one argument -/
section
variable {X : Cx} {a b c e : Expr} {ma mb mc : DS → ER Ar} {pos p p1 p2 p3 : Pos} {x : Str} {id T : String} {r : List V → Hp → VK → Prop}
theorem de_b1 {f : Sv → Option Py} (hc : CallR X (.builtin id) r) (hg : Gl X x) (hm : X.mg x = none) (hv : bootBuiltins x = some (.builtin id)) (ha : DX X a ma)
    (hr : ∀ v w fp H d Q, RS X.K H v w fp → f w = some d → (∀ v' H', Same H H' → R X.K H' v' d → Q v' H') → r [v] H Q) (hn : x ≠ "__name__" := by decide) (hd : (x == ("__debug__" : Str)) = false := by decide)
    (he : starEach [a] X.env = (false, eval a X.env) :: starEach [] X.env := by rfl) (hpl : (backTo pos (starEach [] X.env)).any (·.1) = false := by rfl) : DE X (.Call (.Name x p) [a] [] pos) (e1 ma f) :=
  de1 (r := fun x H Q => r [x] H Q) ha (fun h => pe_callB hc hg hm hv (pa_cons h pa_nil he) hn hd he hpl) hr
theorem de_t1 {f : Sv → Option Py} (hc : CallR X (.type T) r) (hg : Gl X x) (hm : X.mg x = none) (hv : bootBuiltins x = some (.type T)) (ha : DX X a ma)
    (hr : ∀ v w fp H d Q, RS X.K H v w fp → f w = some d → (∀ v' H', Same H H' → R X.K H' v' d → Q v' H') → r [v] H Q) (hn : x ≠ "__name__" := by decide) (hd : (x == ("__debug__" : Str)) = false := by decide)
    (he : starEach [a] X.env = (false, eval a X.env) :: starEach [] X.env := by rfl) (hpl : (backTo pos (starEach [] X.env)).any (·.1) = false := by rfl) : DE X (.Call (.Name x p) [a] [] pos) (e1 ma f) :=
  de1 (r := fun x H Q => r [x] H Q) ha (fun h => pe_callTy hc hg hm hv (pa_cons h pa_nil he) hn hd he hpl) hr
theorem do_b1 {f : Sv → Option Sv} (hc : CallR X (.builtin id) r) (hg : Gl X x) (hm : X.mg x = none) (hv : bootBuiltins x = some (.builtin id)) (ha : DX X a ma)
    (hr : ∀ v w fp H d Q, RS X.K H v w fp → f w = some d → (∀ v' H' fw, Same H H' → RS X.K H' v' d fw → fw.Nodup → (∀ b ∈ fw, H b = none) → Q v' H') → r [v] H Q) (hn : x ≠ "__name__" := by decide) (hd : (x == ("__debug__" : Str)) = false := by decide)
    (he : starEach [a] X.env = (false, eval a X.env) :: starEach [] X.env := by rfl) (hpl : (backTo pos (starEach [] X.env)).any (·.1) = false := by rfl) : DO X (.Call (.Name x p) [a] [] pos) (e1 ma f) :=
  do1 (r := fun x H Q => r [x] H Q) ha (fun h => pe_callB hc hg hm hv (pa_cons h pa_nil he) hn hd he hpl) hr
theorem do_t1 {f : Sv → Option Sv} (hc : CallR X (.type T) r) (hg : Gl X x) (hm : X.mg x = none) (hv : bootBuiltins x = some (.type T)) (ha : DX X a ma)
    (hr : ∀ v w fp H d Q, RS X.K H v w fp → f w = some d → (∀ v' H' fw, Same H H' → RS X.K H' v' d fw → fw.Nodup → (∀ b ∈ fw, H b = none) → Q v' H') → r [v] H Q) (hn : x ≠ "__name__" := by decide) (hd : (x == ("__debug__" : Str)) = false := by decide)
    (he : starEach [a] X.env = (false, eval a X.env) :: starEach [] X.env := by rfl) (hpl : (backTo pos (starEach [] X.env)).any (·.1) = false := by rfl) : DO X (.Call (.Name x p) [a] [] pos) (e1 ma f) :=
  do1 (r := fun x H Q => r [x] H Q) ha (fun h => pe_callTy hc hg hm hv (pa_cons h pa_nil he) hn hd he hpl) hr
end
theorem map_some {α β : Type} {o : Option α} {f : α → β} {d : β} (h : o.map f = some d) : ∃ a, o = some a ∧ f a = d := Option.map_eq_some_iff.mp h
def lenS (w : Sv) : Option Py := match w with
  | .val (.str z) => if z.length ≤ sizeLine then some (.int z.length) else none
  | w => (itemsS w).map fun ds => .int ds.length
def intOf : Sv → Option Py
  | .val (.int i) => some (.int i)
  | .val (.bl b) => some (.int (if b then 1 else 0))
  | _ => none
def maxS (w : Sv) : Option Py := (listS w).bind fun ds => (allM asInt ds).bind fun ns => (ns.max?).map .int
def minS (w : Sv) : Option Py := (listS w).bind fun ds => (allM asInt ds).bind fun ns => (ns.min?).map .int
def sumS (w : Sv) : Option Py := (listS w).bind fun ds => (allM asInt ds).map fun ns => .int ns.sum
def allS (w : Sv) : Option Py := (listS w).bind fun ds => (allM asBl ds).map fun bs => .bl (bs.all id)
def anyS (w : Sv) : Option Py := (listS w).bind fun ds => (allM asBl ds).map fun bs => .bl (bs.any id)
section
variable {X : Cx} {a b c e : Expr} {ma mb mc : DS → ER Ar} {pos p p1 p2 p3 : Pos}
theorem de_len (T : Bt X.mg) (hg : Gl X "len") (ha : DX X a ma) (he : starEach [a] X.env = (false, eval a X.env) :: starEach [] X.env := by rfl) (hpl : (backTo pos (starEach [] X.env)).any (·.1) = false := by rfl) :
    DE X (.Call (.Name "len" p) [a] [] pos) (e1 ma lenS) :=
  de_b1 (call_len_seq.or call_len_str) hg T.len PySem.boot_len ha (fun v w fp H d Q rs hf q => by
    unfold lenS at hf
    split at hf
    · rename_i z
      split at hf
      · rename_i hz
        cases hf
        exact .inr ⟨z, by rw [rs.str], hz, q _ _ (Same.refl H) (.int _)⟩
      · cases hf
    · obtain ⟨ds, hi, rfl⟩ := map_some hf
      obtain ⟨l, xs, rfl, hs, ra⟩ := rs.seq hi
      exact .inl ⟨l, xs, rfl, hs.imp id SqT.of, q _ _ (Same.refl H) (by rw [ra.length]; exact .int _)⟩) (by decide) (by decide) he hpl
theorem de_tuple (T : Bt X.mg) (hg : Gl X "tuple") (ha : DX X a ma) (he : starEach [a] X.env = (false, eval a X.env) :: starEach [] X.env := by rfl) (hpl : (backTo pos (starEach [] X.env)).any (·.1) = false := by rfl) :
    DE X (.Call (.Name "tuple" p) [a] [] pos) (e1 ma fun w => (itemsS w).map .tup) :=
  de_t1 call_tuple_of hg T.tuple (boot_cls .tuple (by decide)) ha (fun v w fp H d Q rs hf q => by
    obtain ⟨ds, hi, rfl⟩ := map_some hf
    obtain ⟨l, xs, rfl, hs, ra⟩ := rs.seq hi
    refine ⟨l, xs, rfl, ?_⟩
    rcases hs with hs | hs
    · refine .inl ⟨hs, fun p hp => ?_⟩
      have s : Same H (upd H p (.tup xs)) := Same.new hp
      exact q _ _ s (.tup upd_same (ra.mono (Same.gr s)))
    · exact .inr ⟨SqT.of hs, q _ _ (Same.refl H) (.tup hs ra)⟩) (by decide) (by decide) he hpl
theorem do_list (T : Bt X.mg) (hg : Gl X "list") (ha : DX X a ma) (he : starEach [a] X.env = (false, eval a X.env) :: starEach [] X.env := by rfl) (hpl : (backTo pos (starEach [] X.env)).any (·.1) = false := by rfl) :
    DO X (.Call (.Name "list" p) [a] [] pos) (e1 ma fun w => (itemsS w).map .lst) :=
  do_t1 call_list_of hg T.list (boot_cls .list (by decide)) ha (fun v w fp H d Q rs hf q => by
    obtain ⟨ds, hi, rfl⟩ := map_some hf
    obtain ⟨l, xs, rfl, hs, ra⟩ := rs.seq hi
    refine ⟨l, xs, rfl, hs.imp id SqT.of, fun p hp => ?_⟩
    have s : Same H (upd H p (.lst xs)) := Same.new hp
    exact q _ _ [p] s (.lst upd_same (ra.mono (Same.gr s))) (by simp) (fun b hb => by rw [List.mem_singleton.mp hb]; exact hp)) (by decide) (by decide) he hpl
theorem de_intOf (T : Bt X.mg) (hg : Gl X "int") (ha : DX X a ma) (he : starEach [a] X.env = (false, eval a X.env) :: starEach [] X.env := by rfl) (hpl : (backTo pos (starEach [] X.env)).any (·.1) = false := by rfl) :
    DE X (.Call (.Name "int" p) [a] [] pos) (e1 ma intOf) :=
  de_t1 call_int1 hg T.int (boot_cls .int (by decide)) ha (fun v w fp H d Q rs hf q => by
    unfold intOf at hf
    split at hf
    · cases hf; exact .inl ⟨_, by rw [rs.int rfl], q _ _ (Same.refl H) (.int _)⟩
    · cases hf; exact .inr ⟨_, by rw [rs.bl], q _ _ (Same.refl H) (.int _)⟩
    · cases hf) (by decide) (by decide) he hpl
theorem ints_of {v : V} {w : Sv} {fp : List Addr} {H : Hp} {α : Type} {g : List Int → Option α} {d : α} (rs : RS X.K H v w fp) (h : ((listS w).bind fun ds => (allM asInt ds).bind g) = some d) : ∃ a ns, v = .ref a ∧ SqL X.K H a (ns.map V.int) ∧ g ns = some d := by
  obtain ⟨ds, hl, h⟩ := Option.bind_eq_some_iff.mp h
  obtain ⟨ns, hn, h⟩ := Option.bind_eq_some_iff.mp h
  obtain ⟨l, xs, rfl, hs, ra⟩ := rs.list hl
  exact ⟨l, ns, rfl, by rw [← ra.ints hn]; exact hs, h⟩
theorem bls_of {v : V} {w : Sv} {fp : List Addr} {H : Hp} {α : Type} {g : List Bool → α} {d : α} (rs : RS X.K H v w fp) (h : ((listS w).bind fun ds => (allM asBl ds).map g) = some d) : ∃ a ns, v = .ref a ∧ SqL X.K H a (ns.map V.bl) ∧ g ns = d := by
  obtain ⟨ds, hl, h⟩ := Option.bind_eq_some_iff.mp h
  obtain ⟨ns, hn, h⟩ := map_some h
  obtain ⟨l, xs, rfl, hs, ra⟩ := rs.list hl
  exact ⟨l, ns, rfl, by rw [← ra.bls hn]; exact hs, h⟩
theorem de_max (hcalm : X.calm = true) (T : Bt X.mg) (hg : Gl X "max") (ha : DX X a ma) (he : starEach [a] X.env = (false, eval a X.env) :: starEach [] X.env := by rfl) (hpl : (backTo pos (starEach [] X.env)).any (·.1) = false := by rfl) :
    DE X (.Call (.Name "max" p) [a] [] pos) (e1 ma maxS) :=
  de_b1 (cr_max hcalm) hg T.max boot_max ha (fun v w fp H d Q rs hf q => by
    obtain ⟨l, ns, rfl, hs, hm⟩ := ints_of rs hf
    obtain ⟨m, hm1, rfl⟩ := map_some hm
    have hm' := List.max?_eq_some_iff.mp hm1
    refine ⟨l, ns, rfl, hs, List.length_pos_of_mem hm'.1, fun m' h1 h2 => ?_⟩
    have e : m' = m := by
      have a1 := h2 m hm'.1
      have a2 := hm'.2 m' h1
      omega
    subst e
    exact q _ _ (Same.refl H) (.int _)) (by decide) (by decide) he hpl
theorem de_min (hcalm : X.calm = true) (T : Bt X.mg) (hg : Gl X "min") (ha : DX X a ma) (he : starEach [a] X.env = (false, eval a X.env) :: starEach [] X.env := by rfl) (hpl : (backTo pos (starEach [] X.env)).any (·.1) = false := by rfl) :
    DE X (.Call (.Name "min" p) [a] [] pos) (e1 ma minS) :=
  de_b1 (cr_min hcalm) hg T.min boot_min ha (fun v w fp H d Q rs hf q => by
    obtain ⟨l, ns, rfl, hs, hm⟩ := ints_of rs hf
    obtain ⟨m, hm1, rfl⟩ := map_some hm
    have hm' := List.min?_eq_some_iff.mp hm1
    refine ⟨l, ns, rfl, hs, List.length_pos_of_mem hm'.1, fun m' h1 h2 => ?_⟩
    have e : m' = m := by
      have a1 := h2 m hm'.1
      have a2 := hm'.2 m' h1
      omega
    subst e
    exact q _ _ (Same.refl H) (.int _)) (by decide) (by decide) he hpl
theorem de_sum (hcalm : X.calm = true) (T : Bt X.mg) (hg : Gl X "sum") (ha : DX X a ma) (he : starEach [a] X.env = (false, eval a X.env) :: starEach [] X.env := by rfl) (hpl : (backTo pos (starEach [] X.env)).any (·.1) = false := by rfl) :
    DE X (.Call (.Name "sum" p) [a] [] pos) (e1 ma sumS) :=
  de_b1 (cr_sum hcalm) hg T.sum boot_sum ha (fun v w fp H d Q rs hf q => by
    unfold sumS at hf
    obtain ⟨ds, hl, h⟩ := Option.bind_eq_some_iff.mp hf
    obtain ⟨ns, hn, rfl⟩ := map_some h
    obtain ⟨l, xs, rfl, hs, ra⟩ := rs.list hl
    exact ⟨l, ns, rfl, by rw [← ra.ints hn]; exact hs, q _ _ (Same.refl H) (.int _)⟩) (by decide) (by decide) he hpl
theorem de_all (hcalm : X.calm = true) (T : Bt X.mg) (hg : Gl X "all") (ha : DX X a ma) (he : starEach [a] X.env = (false, eval a X.env) :: starEach [] X.env := by rfl) (hpl : (backTo pos (starEach [] X.env)).any (·.1) = false := by rfl) :
    DE X (.Call (.Name "all" p) [a] [] pos) (e1 ma allS) :=
  de_b1 (cr_all hcalm) hg T.all boot_all ha (fun v w fp H d Q rs hf q => by
    obtain ⟨l, ns, rfl, hs, rfl⟩ := bls_of rs hf
    exact ⟨l, ns, rfl, hs, q _ _ (Same.refl H) (.bl _)⟩) (by decide) (by decide) he hpl
theorem de_any (hcalm : X.calm = true) (T : Bt X.mg) (hg : Gl X "any") (ha : DX X a ma) (he : starEach [a] X.env = (false, eval a X.env) :: starEach [] X.env := by rfl) (hpl : (backTo pos (starEach [] X.env)).any (·.1) = false := by rfl) :
    DE X (.Call (.Name "any" p) [a] [] pos) (e1 ma anyS) :=
  de_b1 (cr_any hcalm) hg T.any boot_any ha (fun v w fp H d Q rs hf q => by
    obtain ⟨l, ns, rfl, hs, rfl⟩ := bls_of rs hf
    exact ⟨l, ns, rfl, hs, q _ _ (Same.refl H) (.bl _)⟩) (by decide) (by decide) he hpl
end

/-! ### functions -/
inductive FR where
  | ret (w : Sv) (outs : DS) | ex (x : Exn) (outs : DS) | stuck
abbrev FM := List Sv → FR
def spD (mg : Str → Option Value) (K : PySem.W.Frag) (n : Nat) (m : FM) : Sp := fun vs H Q E => vs.length = n ∧ ∃ ws fp, SR K H (vs.map some) (ws.map some) fp ∧ fp.Nodup ∧ TabsOk H ∧ match m ws with
  | .ret w outs => ∀ v H' fw fo, RS K H' v w fw → SR K H' (vs.map some) outs fo → (fw ++ fo).Nodup → (∀ b ∈ fw ++ fo, H b = none ∨ b ∈ fp) → SameBut fp H H' → Q v H'
  | .ex x outs => ∀ cls d H' fo, XR mg K x cls d H' → SR K H' (vs.map some) outs fo → fo.Nodup → (∀ b ∈ fo, H b = none ∨ b ∈ fp) → SameBut fp H H' → E cls d H'
  | .stuck => False
/-- the def called x keeps: it does what m says -/
structure DFn (P : Program) (w : World) (K : PySem.W.Frag) (mg : Str → Option Value) (base : Heap) (k : Nat) (x : Str) (n : Nat) (m : FM) : Prop where
  ex : ∃ f fd ps, mg x = some (.ref f) ∧ PySem.W.keepIn K (.ref f) = true ∧ Binds K fd ps [] ∧ ps.length = n ∧ FnOk P w K mg base (L2.CX P w) k f fd ps (spD mg K n m)
theorem DFn.mono {P : Program} {w : World} {K : PySem.W.Frag} {mg : Str → Option Value} {base : Heap} {j k : Nat} {x : Str} {n : Nat} {m : FM} (h : DFn P w K mg base j x n m) (hk : j ≤ k) : DFn P w K mg base k x n m := by
  obtain ⟨f, fd, ps, h1, h2, h3, h4, h5⟩ := h.ex
  exact ⟨f, fd, ps, h1, h2, h3, h4, h5.mono hk⟩
def takeA : List Ar → DS → Option (List Sv × DS)
  | [], st => some ([], st)
  | .v d :: as, st => (takeA as st).map fun r => (.val d :: r.1, r.2)
  | .s i :: as, st => match (st[i]?).join with
    | some w => (takeA as (st.set i none)).map fun r => (w :: r.1, r.2)
    | none => none
def giveA : List Ar → DS → DS → DS
  | .s i :: as, some w :: os, st => giveA as os (st.set i (some w))
  | _ :: as, _ :: os, st => giveA as os st
  | _, _, st => st
def callM (m : FM) (margs : DS → ER (List Ar)) : DS → ER Sv := fun st => (margs st).bind fun as st1 => match takeA as st1 with
  | some (ws, st2) => match m ws with
    | .ret w outs => .ok w (giveA as outs st2)
    | .ex x outs => .ex x (giveA as outs st2)
    | .stuck => .stuck
  | none => .stuck
theorem take_ok {K : PySem.W.Frag} {Γ : Fr} {σ : L2.St} {H : Hp} : ∀ {as : List Ar} {vs : List V} {st : DS} {ws : List Sv} {st2 : DS} {fx : List Addr}, Rel K Γ st σ H fx → ARs K H σ vs as → takeA as st = some (ws, st2) →
    ∃ fp, SR K H (vs.map some) (ws.map some) fp ∧ Rel K Γ st2 σ H (fp ++ fx)
  | [], [], st, ws, st2, fx, r, _, e => by cases e; exact ⟨[], .nil, r⟩
  | .v d :: as, v :: vs, st, ws, st2, fx, r, .cons ha hs, e => by
    obtain ⟨⟨ws', st'⟩, e1, e2⟩ := map_some e
    cases e2
    obtain ⟨fp, h1, h2⟩ := take_ok r hs e1
    exact ⟨fp, .yes (fp1 := []) (.val ha) h1, h2⟩
  | .s i :: as, v :: vs, st, ws, st2, fx, r, .cons ha hs, e => by
    simp only [takeA] at e
    cases q : (st[i]?).join with
    | none => rw [q] at e; cases e
    | some w =>
      rw [q] at e
      obtain ⟨⟨ws', st'⟩, e1, e2⟩ := map_some e
      cases e2
      obtain ⟨v', fpi, g1, g2, g3⟩ := r.pull (join_some q)
      have ha' : σ[i]? = some (some v) := ha
      rw [ha'] at g1
      cases g1
      obtain ⟨fp, h1, h2⟩ := take_ok g3 hs e1
      refine ⟨fpi ++ fp, .yes g2 h1, h2.perm ?_⟩
      rw [← List.append_assoc]
      exact List.Perm.append_right fx List.perm_append_comm
theorem give_ok {K : PySem.W.Frag} {Γ : Fr} {σ : L2.St} {H : Hp} : ∀ {as : List Ar} {vs : List V} {outs st : DS} {fo fx : List Addr}, Rel K Γ st σ H (fo ++ fx) → (∀ (j i : Nat) (v : V), as[j]? = some (Ar.s i) → vs[j]? = some v → σ[i]? = some (some v)) → SR K H (vs.map some) outs fo → Rel K Γ (giveA as outs st) σ H fx
  | [], vs, outs, st, fo, fx, r, _, s => by
    have r' := Rel.after r (H' := H) SameBut.refl (nf := []) List.nodup_nil nofun nofun
    simpa [giveA] using r'
  | .v d :: as, [], outs, st, fo, fx, r, ha, s => by
    cases s
    simpa [giveA] using r
  | .v d :: as, v :: vs, outs, st, fo, fx, r, ha, s => by
    cases outs with
    | nil => cases s
    | cons o os =>
      obtain ⟨f1, f2, rfl, h1, h2⟩ := SR.head (o := some v) s
      have r' : Rel K Γ st σ H (f2 ++ fx) := Rel.after (fp := f1) (fx := f2 ++ fx) (by rw [← List.append_assoc]; exact r) (H' := H) SameBut.refl (nf := []) List.nodup_nil nofun nofun
      have := give_ok (as := as) r' (fun j i w e1 e2 => ha (j + 1) i w e1 e2) h2
      cases o <;> simpa [giveA] using this
  | .s i :: as, [], outs, st, fo, fx, r, ha, s => by
    cases s
    simpa [giveA] using r
  | .s i :: as, v :: vs, outs, st, fo, fx, r, ha, s => by
    cases outs with
    | nil => cases s
    | cons o os =>
      obtain ⟨f1, f2, rfl, h1, h2⟩ := SR.head (o := some v) s
      cases o with
      | none =>
        have r' : Rel K Γ st σ H (f2 ++ fx) := Rel.after (fp := f1) (fx := f2 ++ fx) (by rw [← List.append_assoc]; exact r) (H' := H) SameBut.refl (nf := []) List.nodup_nil nofun nofun
        have := give_ok (as := as) r' (fun j i w e1 e2 => ha (j + 1) i w e1 e2) h2
        simpa [giveA] using this
      | some w =>
        cases h1 with
        | yes h1 =>
          have e : σ[i]? = some (some v) := ha 0 i v rfl rfl
          have r' := Rel.push (fo := f1) (fx := f2 ++ fx) (by rw [← List.append_assoc]; exact r) e h1
          have := give_ok (as := as) r' (fun j i w e1 e2 => ha (j + 1) i w e1 e2) h2
          simpa [giveA] using this
theorem ARs.at {K : PySem.W.Frag} {H : Hp} {σ : L2.St} : ∀ {vs : List V} {as : List Ar}, ARs K H σ vs as → ∀ (j i : Nat) (v : V), as[j]? = some (Ar.s i) → vs[j]? = some v → σ[i]? = some (some v)
  | _, _, .nil, j, i, v, e, _ => by simp at e
  | _, _, .cons h t, 0, i, v, e1, e2 => by
    simp only [List.getElem?_cons_zero, Option.some.injEq] at e1 e2
    subst e1 e2
    exact h
  | _, _, .cons h t, j + 1, i, v, e1, e2 => ARs.at t j i v (by simpa using e1) (by simpa using e2)
theorem ARs.length {K : PySem.W.Frag} {H : Hp} {σ : L2.St} : ∀ {vs : List V} {as : List Ar}, ARs K H σ vs as → vs.length = as.length
  | _, _, .nil => rfl
  | _, _, .cons _ t => congrArg Nat.succ (ARs.length t)
theorem takeA_len : ∀ {as : List Ar} {st : DS} {ws : List Sv} {st2 : DS}, takeA as st = some (ws, st2) → ws.length = as.length
  | [], _, _, _, e => by cases e; rfl
  | .v d :: as, st, ws, st2, e => by
    obtain ⟨⟨ws', st'⟩, e1, e2⟩ := map_some e
    cases e2
    exact congrArg Nat.succ (takeA_len e1)
  | .s i :: as, st, ws, st2, e => by
    simp only [takeA] at e
    cases q : (st[i]?).join with
    | none => rw [q] at e; cases e
    | some w =>
      rw [q] at e
      obtain ⟨⟨ws', st'⟩, e1, e2⟩ := map_some e
      cases e2
      exact congrArg Nat.succ (takeA_len e1)
theorem SR.nodup_of_rel {K : PySem.W.Frag} {Γ : Fr} {st : DS} {σ : L2.St} {H : Hp} {fp fx : List Addr} (r : Rel K Γ st σ H (fp ++ fx)) : fp.Nodup := by
  obtain ⟨⟨fq, h, nd, mi⟩, _⟩ := r
  rw [List.append_assoc] at nd
  exact (List.nodup_append.mp nd).1
theorem do_call {X : Cx} {k : Nat} {x : Str} {n : Nat} {m : FM} {e : Expr} {es : List Expr} {margs : DS → ER (List Ar)} {p pos : Pos} (F : DFn X.prog X.w X.K X.mg X.base k x n m) (hr : Room k X.A) (hg : Gl X x) (ha : DA X (e :: es) margs) (hn : (e :: es).length = n := by rfl)
    (hdb : (x == ("__debug__" : Str)) = false := by decide) (he : starEach (e :: es) X.env = (false, eval e X.env) :: starEach es X.env := by rfl) (hpl : (backTo pos (starEach es X.env)).any (·.1) = false := by rfl) :
    DO X (.Call (.Name x p) (e :: es) [] pos) (callM m margs) := by
  obtain ⟨f, fd, ps, h1, h2, h3, h4, h5⟩ := F.ex
  refine ⟨fun Wx tk => pe_imp (pe_callS h5 hr hg h1 h2 h3 (fun σ => passAt tk σ) (ha.pa Wx tk) hdb he hpl) fun σ H Q ⟨Γ, st, r, q⟩ => ⟨Γ, st, r, ?_⟩⟩
  refine fin.imp (fin.bind q) fun as st1 q1 vs H1 r1 g1 ar hl => ?_
  cases et : takeA as st1 with
  | none => rw [et] at q1; exact q1.elim
  | some p0 =>
    obtain ⟨ws, st2⟩ := p0
    rw [et] at q1
    obtain ⟨fp, s1, r2⟩ := take_ok r1 ar et
    have r2' : Rel X.K Γ st2 σ H1 (fp ++ []) := r2
    have ndf := SR.nodup_of_rel r2'
    have ownf : ∀ b ∈ fp, Own H1 b := s1.own
    refine ⟨?_, ws, fp, s1, ndf, r2.same.2, ?_⟩
    · rw [hl]; exact hn
    · cases em : m ws with
      | stuck => simp only [em] at q1; exact q1.elim
      | ret w outs =>
        simp only [em] at q1 ⊢
        intro v H2 fw fo hv ho nd hn sb
        have own2 : ∀ b ∈ fw ++ fo, Own H2 b := fun b hb => (List.mem_append.mp hb).elim (hv.own b) (ho.own b)
        have r3 := r2'.after sb nd hn own2
        rw [List.append_nil] at r3
        have r4 : Rel X.K Γ st2 σ H2 (fo ++ fw) := r3.perm List.perm_append_comm
        exact q1 v H2 fw (give_ok r4 ar.at ho) (g1.trans (sb.gr ownf)) hv
      | ex x outs =>
        simp only [em] at q1 ⊢
        intro cls d H2 fo hx ho nd hn sb
        have r3 := r2'.after sb nd hn ho.own
        exact q1 cls d σ H2 (give_ok r3 ar.at ho) (g1.trans (sb.gr ownf)) hx
end DL

/-! ## DL8 -/
namespace DL
open PySem PySem.Spec PyProof.Rows L2
variable [Tb]

inductive SO where
  | nx (st : DS) | rt (w : Sv) (st : DS) | bk (st : DS) | ct (st : DS) | ex (x : Exn) (st : DS) | stuck
def ER.s {α : Type} (r : ER α) (f : α → DS → SO) : SO := match r with
  | .ok a st => f a st
  | .ex x st => .ex x st
  | .stuck => .stuck
@[simp] theorem ER.s_ok {α : Type} {a : α} {st : DS} {f : α → DS → SO} : (ER.ok a st).s f = f a st := rfl
@[simp] theorem ER.s_ex {α : Type} {x : Exn} {st : DS} {f : α → DS → SO} : (ER.ex x st : ER α).s f = .ex x st := rfl
@[simp] theorem ER.s_stuck {α : Type} {f : α → DS → SO} : (ER.stuck : ER α).s f = .stuck := rfl
def seqS (r : SO) (f : DS → SO) : SO := match r with
  | .nx st => f st
  | r => r
@[simp] theorem seqS_nx {st : DS} {f : DS → SO} : seqS (.nx st) f = f st := rfl
@[simp] theorem seqS_rt {w : Sv} {st : DS} {f : DS → SO} : seqS (.rt w st) f = .rt w st := rfl
@[simp] theorem seqS_bk {st : DS} {f : DS → SO} : seqS (.bk st) f = .bk st := rfl
@[simp] theorem seqS_ct {st : DS} {f : DS → SO} : seqS (.ct st) f = .ct st := rfl
@[simp] theorem seqS_ex {x : Exn} {st : DS} {f : DS → SO} : seqS (.ex x st) f = .ex x st := rfl
@[simp] theorem seqS_stuck {f : DS → SO} : seqS .stuck f = .stuck := rfl
def finS (X : Cx) (Wx : WX) (Γ : Fr) (H : Hp) (r : SO) (D : Ends) : Prop := match r with
  | .nx st' => ∀ σ' H', Rel X.K Γ st' σ' H' [] → Gr H H' → D.nx σ' H'
  | .bk st' => ∀ σ' H', Rel X.K Γ st' σ' H' [] → Gr H H' → D.bk σ' H'
  | .ct st' => ∀ σ' H', Rel X.K Γ st' σ' H' [] → Gr H H' → D.ct σ' H'
  | .rt w st' => ∀ v σ' H' fw, Rel X.K Γ st' σ' H' fw → Gr H H' → RS X.K H' v w fw → D.rt v H'
  | .ex x st' => ∀ cls d σ' H', Rel X.K Γ st' σ' H' [] → Gr H H' → XR X.mg X.K x cls d H' → Wx cls d σ' H'
  | .stuck => False
theorem finS.gr {X : Cx} {Wx : WX} {Γ : Fr} {H H1 : Hp} {r : SO} {D : Ends} (g : Gr H H1) (h : finS X Wx Γ H r D) : finS X Wx Γ H1 r D := by
  cases r with
  | nx st => exact fun σ' H' r q => h σ' H' r (g.trans q)
  | bk st => exact fun σ' H' r q => h σ' H' r (g.trans q)
  | ct st => exact fun σ' H' r q => h σ' H' r (g.trans q)
  | rt w st => exact fun v σ' H' fw r q => h v σ' H' fw r (g.trans q)
  | ex x st => exact fun c d σ' H' r q => h c d σ' H' r (g.trans q)
  | stuck => exact h
/-- an expression's result inside a statement -/
theorem finS.e {α : Type} {X : Cx} {Wx : WX} {Γ : Fr} {σ : L2.St} {H : Hp} {r : ER α} {f : α → DS → SO} {D : Ends} (h : finS X Wx Γ H (r.s f) D) : fin X Wx Γ σ H r fun a st => finS X Wx Γ H (f a st) D := by
  cases r with
  | ok a st => exact h
  | ex x st => exact h
  | stuck => exact h
def tS (X : Cx) (pn : List Nat) (Wx : WX) (m : DS → SO) : TS := fun D σ H => ∃ Γ st, (∀ i, i ∉ pn → ∀ p ∈ Γ.pin, p.1 ≠ i) ∧ Rel X.K Γ st σ H [] ∧ finS X Wx Γ H (m st) D
structure DSt (X : Cx) (pn : List Nat) (s : Stmt) (m : DS → SO) : Prop where
  ps : ∀ Wx, Takes X Wx → PS X s (tS X pn Wx m)
structure DSs (X : Cx) (pn : List Nat) (s : List Stmt) (m : DS → SO) : Prop where
  ps : ∀ Wx, Takes X Wx → PSs X s (tS X pn Wx m)
theorem ps_imp {X : Cx} {e : Stmt} {t t' : TS} (h : PS X e t) (k : ∀ D σ H, t' D σ H → t D σ H) : PS X e t' := ⟨fun pins s σ H D I q => h.run pins s σ H D I (k _ _ _ q)⟩
theorem pss_imp {X : Cx} {e : List Stmt} {t t' : TS} (h : PSs X e t) (k : ∀ D σ H, t' D σ H → t D σ H) : PSs X e t' := ⟨fun pins s σ H D I q => h.run pins s σ H D I (k _ _ _ q)⟩
section
variable {X : Cx} {pn : List Nat} {s : Stmt} {ss a b : List Stmt} {e c : Expr} {m ma mb : DS → SO} {pos : Pos}
theorem dss_nil : DSs X pn [] fun st => .nx st := ⟨fun Wx tk => pss_imp pss_nil fun D σ H ⟨Γ, st, np, r, q⟩ => q σ H r (Gr.refl H)⟩
theorem dss_cons (h : DSt X pn s ma) (hs : DSs X pn ss mb) : DSs X pn (s :: ss) fun st => seqS (ma st) mb := by
  refine ⟨fun Wx tk => pss_imp (pss_cons (h.ps Wx tk) (hs.ps Wx tk)) fun D σ H ⟨Γ, st, np, r, q⟩ => ⟨Γ, st, np, r, ?_⟩⟩
  cases e : ma st with
  | nx st1 =>
    have q' : finS X Wx Γ H (mb st1) D := by
      have q1 : finS X Wx Γ H (seqS (ma st) mb) D := q
      rw [e] at q1; exact q1
    exact fun σ' H' r' g' => ⟨Γ, st1, np, r', q'.gr g'⟩
  | bk st1 => have q1 : finS X Wx Γ H (seqS (ma st) mb) D := q; rw [e] at q1; exact q1
  | ct st1 => have q1 : finS X Wx Γ H (seqS (ma st) mb) D := q; rw [e] at q1; exact q1
  | rt w st1 => have q1 : finS X Wx Γ H (seqS (ma st) mb) D := q; rw [e] at q1; exact q1
  | ex x st1 => have q1 : finS X Wx Γ H (seqS (ma st) mb) D := q; rw [e] at q1; exact q1
  | stuck => have q1 : finS X Wx Γ H (seqS (ma st) mb) D := q; rw [e] at q1; exact q1
theorem dss_one (h : DSt X pn s ma) : DSs X pn [s] ma := ⟨fun Wx tk => pss_one (h.ps Wx tk)⟩
theorem ds_pass : DSt X pn (.Pass pos) fun st => .nx st := ⟨fun Wx tk => ps_imp ps_pass fun D σ H ⟨Γ, st, np, r, q⟩ => q σ H r (Gr.refl H)⟩
theorem ds_break : DSt X pn (.Break pos) fun st => .bk st := ⟨fun Wx tk => ps_imp ps_break fun D σ H ⟨Γ, st, np, r, q⟩ => q σ H r (Gr.refl H)⟩
theorem ds_continue : DSt X pn (.Continue pos) fun st => .ct st := ⟨fun Wx tk => ps_imp ps_continue fun D σ H ⟨Γ, st, np, r, q⟩ => q σ H r (Gr.refl H)⟩
theorem Rel.drop {K : PySem.W.Frag} {Γ : Fr} {st : DS} {σ : L2.St} {H : Hp} {fx : List Addr} (r : Rel K Γ st σ H fx) : Rel K Γ st σ H [] := by
  have r' : Rel K Γ st σ H (fx ++ []) := by rw [List.append_nil]; exact r
  simpa using Rel.after r' (H' := H) SameBut.refl (nf := []) List.nodup_nil nofun nofun
theorem ds_expr {me : DS → ER Sv} (h : DO X e me) (hs : swapsWith e none pos.line X.env = pure false := by rfl) : DSt X pn (.Expr e pos) fun st => (me st).s fun _ st1 => .nx st1 := by
  refine ⟨fun Wx tk => ps_imp (ps_expr (h.pe Wx tk) hs) fun D σ H ⟨Γ, st, np, r, q⟩ => ⟨Γ, st, r, ?_⟩⟩
  exact fin.imp (finS.e q) fun w st1 q1 v H1 fw r1 g1 _ => q1 σ H1 r1.drop g1
theorem ds_ret {me : DS → ER Sv} (h : DO X e me) : DSt X pn (.Return (some e) pos) fun st => (me st).s fun w st1 => .rt w st1 := by
  refine ⟨fun Wx tk => ps_imp (ps_ret (h.pe Wx tk)) fun D σ H ⟨Γ, st, np, r, q⟩ => ⟨Γ, st, r, ?_⟩⟩
  exact fin.imp (finS.e q) fun w st1 q1 v H1 fw r1 g1 rs => q1 v σ H1 fw r1 g1 rs
theorem ds_retD {me : DS → ER Py} (h : DE X e me) : DSt X pn (.Return (some e) pos) fun st => (me st).s fun d st1 => .rt (.val d) st1 := by
  refine ⟨fun Wx tk => ps_imp (ps_ret (h.pe Wx tk)) fun D σ H ⟨Γ, st, np, r, q⟩ => ⟨Γ, st, r, ?_⟩⟩
  exact fin.imp (finS.e q) fun w st1 q1 v H1 r1 g1 rd => q1 v σ H1 [] r1 g1 (.val rd)
theorem ds_retN : DSt X pn (.Return none pos) fun st => .rt (.val .non) st := ⟨fun Wx tk => ps_imp ps_retN fun D σ H ⟨Γ, st, np, r, q⟩ => q .non σ H [] r (Gr.refl H) (.val .non)⟩
def putO (i : Nat) (w : Sv) (st : DS) : SO := if i < st.length then .nx (st.set i (some w)) else .stuck
theorem ds_set {i : Nat} {x : Str} {pos' : Pos} {me : DS → ER Sv} (hN : X.N.Nodup) (hi : X.N[i]? = some x) (hx : Loc X.env.scope x) (h : DO X e me) (hp : i ∉ pn) (hs : swapsWith e (some (.Name x pos')) pos.line X.env = pure false := by rfl) (hf : X.fn x = true ∨ X.env.scope.names.lookup x = some .local := by first | exact .inl rfl | exact .inr rfl | assumption) :
    DSt X pn (.Assign [.Name x pos'] e pos) fun st => (me st).s fun w st1 => putO i w st1 := by
  refine ⟨fun Wx tk => ps_imp (ps_set hN hi hx (h.pe Wx tk) hs hf) fun D σ H ⟨Γ, st, np, r, q⟩ => ⟨Γ, st, r, ?_⟩⟩
  refine fin.imp (finS.e q) fun w st1 q1 v H1 fw r1 g1 rs => ?_
  unfold putO at q1
  split at q1
  · rename_i hl
    exact q1 _ H1 (r1.set hl rs (np i hp)) g1
  · exact q1.elim
theorem ds_setD {i : Nat} {x : Str} {pos' : Pos} {me : DS → ER Py} (hN : X.N.Nodup) (hi : X.N[i]? = some x) (hx : Loc X.env.scope x) (h : DE X e me) (hp : i ∉ pn) (hs : swapsWith e (some (.Name x pos')) pos.line X.env = pure false := by rfl) (hf : X.fn x = true ∨ X.env.scope.names.lookup x = some .local := by first | exact .inl rfl | exact .inr rfl | assumption) :
    DSt X pn (.Assign [.Name x pos'] e pos) fun st => (me st).s fun d st1 => putO i (.val d) st1 := by
  refine ⟨fun Wx tk => ps_imp (ps_set hN hi hx (h.pe Wx tk) hs hf) fun D σ H ⟨Γ, st, np, r, q⟩ => ⟨Γ, st, r, ?_⟩⟩
  refine fin.imp (finS.e q) fun w st1 q1 v H1 r1 g1 rs => ?_
  unfold putO at q1
  split at q1
  · rename_i hl
    exact q1 _ H1 (r1.set (fx := []) hl (.val rs) (np i hp)) g1
  · exact q1.elim

/-! ### targets -/
def OnlyAt (ts : List Nat) (σ σ' : L2.St) : Prop := σ'.length = σ.length ∧ ∀ j, j ∉ ts → σ'[j]? = σ[j]?
def tG (X : Cx) (pn ts : List Nat) (f : Py → DS → Option DS) : TG := fun v σ H Q => ∃ Γ st d, (∀ i, i ∉ pn → ∀ p ∈ Γ.pin, p.1 ≠ i) ∧ Rel X.K Γ st σ H [] ∧ R X.K H v d ∧ ∃ st', f d st = some st' ∧ ∀ σ', OnlyAt ts σ σ' → Rel X.K Γ st' σ' H [] → Q σ' H
def tGs (X : Cx) (pn ts : List Nat) (f : List Py → DS → Option DS) : TGs := fun vs σ H Q => ∃ Γ st ds, (∀ i, i ∉ pn → ∀ p ∈ Γ.pin, p.1 ≠ i) ∧ Rel X.K Γ st σ H [] ∧ RA X.K H vs ds ∧ ∃ st', f ds st = some st' ∧ ∀ σ', OnlyAt ts σ σ' → Rel X.K Γ st' σ' H [] → Q σ' H
structure DG (X : Cx) (pn ts : List Nat) (tg : Expr) (f : Py → DS → Option DS) : Prop where
  pg : PG X tg (tG X pn ts f)
structure DGs (X : Cx) (pn ts : List Nat) (tg : List Expr) (f : List Py → DS → Option DS) : Prop where
  pg : PGs X tg (tGs X pn ts f)
theorem pg_imp {tg : Expr} {t t' : TG} (h : PG X tg t) (k : ∀ v σ H Q, t' v σ H Q → t v σ H Q) : PG X tg t' := ⟨fun pins s σ H v u Q I r q => h.run pins s σ H v u Q I r (k _ _ _ _ q)⟩
theorem pgs_imp {tg : List Expr} {t t' : TGs} (h : PGs X tg t) (k : ∀ v σ H Q, t' v σ H Q → t v σ H Q) : PGs X tg t' := ⟨fun pins s σ H v u Q I r q => h.run pins s σ H v u Q I r (k _ _ _ _ q)⟩
def gNameS (i : Nat) (d : Py) (st : DS) : Option DS := if i < st.length then some (st.set i (some (.val d))) else none
theorem dg_name {i : Nat} {x : Str} (hN : X.N.Nodup) (hi : X.N[i]? = some x) (hx : Loc X.env.scope x) (hp : i ∉ pn) (hf : X.fn x = true ∨ X.env.scope.names.lookup x = some .local := by first | exact .inl rfl | exact .inr rfl | assumption) : DG X pn [i] (.Name x pos) (gNameS i) := by
  refine ⟨pg_imp (pg_name hN hi hx hf) fun v σ H Q ⟨Γ, st, d, np, r, rd, st', e, q⟩ => ?_⟩
  unfold gNameS at e
  split at e
  · rename_i hl
    cases e
    exact q _ ⟨by simp, fun j hj => List.getElem?_set_ne (fun z => hj (by simp [z]))⟩ (r.set (fx := []) hl (.val rd) (np i hp))
  · cases e
def gNilS : List Py → DS → Option DS
  | [], st => some st
  | _, _ => none
def gConsS (f : Py → DS → Option DS) (g : List Py → DS → Option DS) : List Py → DS → Option DS
  | d :: ds, st => (f d st).bind (g ds)
  | [], _ => none
theorem dgs_nil : DGs X pn [] [] gNilS := ⟨pgs_imp pgs_nil fun v σ H Q ⟨Γ, st, ds, np, r, rd, st', e, q⟩ => by
  cases ds with
  | nil => cases e; cases rd; exact ⟨rfl, q _ ⟨rfl, fun _ _ => rfl⟩ r⟩
  | cons _ _ => cases e⟩
theorem OnlyAt.trans {t1 t2 : List Nat} {σ σ1 σ2 : L2.St} (h : OnlyAt t1 σ σ1) (k : OnlyAt t2 σ1 σ2) : OnlyAt (t1 ++ t2) σ σ2 :=
  ⟨k.1.trans h.1, fun j hj => (k.2 j fun z => hj (List.mem_append_right _ z)).trans (h.2 j fun z => hj (List.mem_append_left _ z))⟩
theorem dgs_cons {e : Expr} {es : List Expr} {t1 t2 : List Nat} {f : Py → DS → Option DS} {g : List Py → DS → Option DS} (h : DG X pn t1 e f) (hr : DGs X pn t2 es g) (hs : (assignEach (e :: es) X.env).map (·.2) = assign e X.env :: (assignEach es X.env).map (·.2) := by rfl) : DGs X pn (t1 ++ t2) (e :: es) (gConsS f g) := by
  refine ⟨pgs_imp (pgs_cons h.pg hr.pg hs) fun v σ H Q ⟨Γ, st, ds, np, r, rd, st', e, q⟩ => ?_⟩
  cases ds with
  | nil => cases e
  | cons d ds =>
    cases rd with
    | cons h1 h2 =>
      obtain ⟨st1, e1, e2⟩ := Option.bind_eq_some_iff.mp e
      exact ⟨_, _, rfl, Γ, st, d, np, r, h1, st1, e1, fun σ' o1 r1 => ⟨Γ, st1, ds, np, r1, h2, st', e2, fun σ2 o2 r2 => q σ2 (o1.trans o2) r2⟩⟩
def gTupS (n : Nat) (g : List Py → DS → Option DS) : Py → DS → Option DS
  | .tup ds, st => if ds.length = n then g ds st else none
  | _, _ => none
theorem dg_tup {es : List Expr} {k n : Nat} {ts : List Nat} {g : List Py → DS → Option DS} (hc : X.calm = true) (h : DGs X pn ts es g) (hn : (assignEach es X.env).length = n := by rfl) (hst : (assignEach es X.env).findIdx? (·.1) = none := by rfl) : DG X pn ts (.Tuple es k pos) (gTupS n g) := by
  refine ⟨pg_imp (pg_tup hc h.pg hn hst) fun v σ H Q ⟨Γ, st, d, np, r, rd, st', e, q⟩ => ?_⟩
  cases d <;> try cases e
  rename_i ds
  have e' : (if ds.length = n then g ds st else none) = some st' := e
  split at e'
  · rename_i hl
    cases rd with
    | tup hs ra => exact ⟨_, _, rfl, SqT.of hs, by rw [ra.length]; exact hl, Γ, st, ds, np, r, ra, st', e', q⟩
  · cases e'
def tgtO (o : Option DS) : SO := match o with
  | some st => .nx st
  | none => .stuck
theorem ds_asg {tg : Expr} {ts : List Nat} {me : DS → ER Py} {f : Py → DS → Option DS} (he : DE X e me) (hg : DG X pn ts tg f) (hs : swapsWithSole [tg] e pos.line X.env = pure false := by rfl) (hw : swappedStores [tg] e X.env = pure none := by rfl) (h1 : (assignEach [tg] X.env).map (·.2) = [assign tg X.env] := by rfl) :
    DSt X pn (.Assign [tg] e pos) fun st => (me st).s fun d st1 => tgtO (f d st1) := by
  refine ⟨fun Wx tk => ps_imp (ps_asg (he.pe Wx tk) hg.pg hs hw h1) fun D σ H ⟨Γ, st, np, r, q⟩ => ⟨Γ, st, r, ?_⟩⟩
  refine fin.imp (finS.e q) fun d st1 q1 v H1 r1 g1 rd => ?_
  cases ef : f d st1 with
  | none => rw [ef] at q1; exact q1.elim
  | some st' =>
    rw [ef] at q1
    exact ⟨Γ, st1, d, np, r1, rd, st', ef, fun σ' _ r2 => q1 σ' H1 r2 g1⟩

/-! ### if -/
theorem ds_if {mc : DS → ER Bool} (hc : DT X c mc) (ha : DSs X pn a ma) (hb : DSs X pn b mb) : DSt X pn (.If c a b pos) fun st => (mc st).s fun k st1 => if k then ma st1 else mb st1 := by
  refine ⟨fun Wx tk => ps_imp (ps_if (hc.pt Wx tk) (ha.ps Wx tk) (hb.ps Wx tk)) fun D σ H ⟨Γ, st, np, r, q⟩ => ⟨Γ, st, r, ?_⟩⟩
  refine fin.imp (finS.e q) fun k st1 q1 H1 r1 g1 => ?_
  cases k with
  | true =>
    rw [if_pos rfl]
    have q2 : finS X Wx Γ H (ma st1) D := q1
    exact ⟨Γ, st1, np, r1, q2.gr g1⟩
  | false =>
    rw [if_neg Bool.false_ne_true]
    have q2 : finS X Wx Γ H (mb st1) D := q1
    exact ⟨Γ, st1, np, r1, q2.gr g1⟩

/-! ### loops -/
def loopS (r : SO) (f : DS → SO) : SO := match r with
  | .nx st => f st
  | .ct st => f st
  | .bk st => .nx st
  | .rt w st => .rt w st
  | .ex x st => .ex x st
  | .stuck => .stuck
@[simp] theorem loopS_nx {st : DS} {f : DS → SO} : loopS (.nx st) f = f st := rfl
@[simp] theorem loopS_ct {st : DS} {f : DS → SO} : loopS (.ct st) f = f st := rfl
@[simp] theorem loopS_bk {st : DS} {f : DS → SO} : loopS (.bk st) f = .nx st := rfl
@[simp] theorem loopS_rt {w : Sv} {st : DS} {f : DS → SO} : loopS (.rt w st) f = .rt w st := rfl
@[simp] theorem loopS_ex {x : Exn} {st : DS} {f : DS → SO} : loopS (.ex x st) f = .ex x st := rfl
@[simp] theorem loopS_stuck {f : DS → SO} : loopS .stuck f = .stuck := rfl
theorem loop_fin {Wx : WX} {Γ : Fr} {H : Hp} {r : SO} {f : DS → SO} {D : Ends} {Nx : L2.St → Hp → Prop} (h : finS X Wx Γ H (loopS r f) D) (hn : ∀ st σ' H', finS X Wx Γ H (f st) D → Rel X.K Γ st σ' H' [] → Gr H H' → Nx σ' H') :
    finS X Wx Γ H r { D with nx := Nx, ct := Nx, bk := D.nx } := by
  cases r with
  | nx st => exact fun σ' H' r g => hn st σ' H' h r g
  | ct st => exact fun σ' H' r g => hn st σ' H' h r g
  | bk st => exact h
  | rt w st => exact h
  | ex x st => exact h
  | stuck => exact h
def whileN (c : DS → ER Bool) (b : DS → SO) : Nat → DS → SO
  | 0, _ => .stuck
  | n + 1, st => (c st).s fun k st1 => if k then loopS (b st1) (whileN c b n) else .nx st1
theorem whileN_succ {c : DS → ER Bool} {b : DS → SO} : ∀ (n : Nat) (st : DS), whileN c b n st ≠ .stuck → whileN c b (n + 1) st = whileN c b n st
  | 0, st, h => absurd rfl h
  | n + 1, st, h => by
    show ((c st).s fun k st1 => if k then loopS (b st1) (whileN c b (n + 1)) else .nx st1) = ((c st).s fun k st1 => if k then loopS (b st1) (whileN c b n) else .nx st1)
    have h' : ((c st).s fun k st1 => if k then loopS (b st1) (whileN c b n) else .nx st1) ≠ .stuck := h
    cases e : c st with
    | ok k st1 =>
      rw [e] at h'
      simp only [ER.s_ok] at h' ⊢
      cases k with
      | false => rfl
      | true =>
        simp only [if_true] at h' ⊢
        cases e2 : b st1 with
        | nx st2 => rw [e2] at h'; simp only [loopS_nx] at h' ⊢; exact whileN_succ n st2 h'
        | ct st2 => rw [e2] at h'; simp only [loopS_ct] at h' ⊢; exact whileN_succ n st2 h'
        | bk st2 => rfl
        | rt w st2 => rfl
        | ex x st2 => rfl
        | stuck => rfl
    | ex x st1 => rfl
    | stuck => rfl
theorem whileN_le {c : DS → ER Bool} {b : DS → SO} {n m : Nat} {st : DS} (h : whileN c b n st ≠ .stuck) (hm : n ≤ m) : whileN c b m st = whileN c b n st := by
  obtain ⟨k, rfl⟩ := Nat.le.dest hm
  clear hm
  induction k with
  | zero => rfl
  | succ k ih => rw [← Nat.add_assoc, whileN_succ _ _ (by rw [ih]; exact h), ih]
open Classical in
noncomputable def whileS (c : DS → ER Bool) (b : DS → SO) (st : DS) : SO := if h : ∃ n, whileN c b n st ≠ .stuck then whileN c b h.choose st else .stuck
theorem whileS_of {c : DS → ER Bool} {b : DS → SO} {n : Nat} {st : DS} (h : whileN c b n st ≠ .stuck) : whileS c b st = whileN c b n st := by
  unfold whileS
  rw [dif_pos ⟨n, h⟩]
  have hs := Exists.choose_spec (p := fun n => whileN c b n st ≠ .stuck) ⟨n, h⟩
  rcases Nat.le_total n (Exists.choose (p := fun n => whileN c b n st ≠ .stuck) ⟨n, h⟩) with z | z
  · exact whileN_le h z
  · exact (whileN_le hs z).symm
/-- one turn -/
theorem whileS_eq (c : DS → ER Bool) (b : DS → SO) (st : DS) : whileS c b st = (c st).s fun k st1 => if k then loopS (b st1) (whileS c b) else .nx st1 := by
  by_cases h : ∃ n, whileN c b n st ≠ .stuck
  · obtain ⟨n, h⟩ := h
    have h1 : whileN c b (n + 1) st ≠ .stuck := by rw [whileN_succ n st h]; exact h
    rw [whileS_of h1]
    have h' : ((c st).s fun k st1 => if k then loopS (b st1) (whileN c b n) else .nx st1) ≠ .stuck := h1
    show ((c st).s fun k st1 => if k then loopS (b st1) (whileN c b n) else .nx st1) = _
    cases e : c st with
    | ok k st1 =>
      rw [e] at h'
      simp only [ER.s_ok] at h' ⊢
      cases k with
      | false => rfl
      | true =>
        simp only [if_true] at h' ⊢
        cases e2 : b st1 with
        | nx st2 => rw [e2] at h'; simp only [loopS_nx] at h' ⊢; exact (whileS_of h').symm
        | ct st2 => rw [e2] at h'; simp only [loopS_ct] at h' ⊢; exact (whileS_of h').symm
        | bk st2 => rfl
        | rt w st2 => rfl
        | ex x st2 => rfl
        | stuck => rfl
    | ex x st1 => rfl
    | stuck => rfl
  · have e0 : whileS c b st = .stuck := by unfold whileS; rw [dif_neg h]
    have all : ∀ n, whileN c b n st = .stuck := fun n => Classical.byContradiction fun z => h ⟨n, z⟩
    rw [e0]
    cases e : c st with
    | ok k st1 =>
      simp only [ER.s_ok]
      cases k with
      | false =>
        have := all 1
        simp [whileN, e] at this
      | true =>
        simp only [if_true]
        have all' : ∀ n, loopS (b st1) (whileN c b n) = .stuck := fun n => by
          have := all (n + 1)
          simpa [whileN, e] using this
        cases e2 : b st1 with
        | nx st2 =>
          simp only [loopS_nx]
          have a2 : ∀ n, whileN c b n st2 = .stuck := fun n => by simpa [e2] using all' n
          unfold whileS
          rw [dif_neg (fun ⟨n, z⟩ => z (a2 n))]
        | ct st2 =>
          simp only [loopS_ct]
          have a2 : ∀ n, whileN c b n st2 = .stuck := fun n => by simpa [e2] using all' n
          unfold whileS
          rw [dif_neg (fun ⟨n, z⟩ => z (a2 n))]
        | bk st2 => have := all' 0; rw [e2] at this; cases this
        | rt w st2 => have := all' 0; rw [e2] at this; cases this
        | ex x st2 => have := all' 0; rw [e2] at this; cases this
        | stuck => rfl
    | ex x st1 =>
      have := all 1
      simp [whileN, e] at this
    | stuck => rfl
theorem ds_while {mc : DS → ER Bool} (hp : PassesOwn (model X.prog X.w) X.A X.env X.xe) (hc : DT X c mc) (hb : DSs X pn b mb) : DSt X pn (.While c b [] pos) (whileS mc mb) := by
  refine ⟨fun Wx tk => ps_imp (ps_while hp (hc.pt Wx tk) (hb.ps Wx tk)) fun D σ H ⟨Γ, st, np, r, q⟩ => ?_⟩
  have q0 : finS X Wx Γ H (whileS mc mb st) D := q
  have hne : whileS mc mb st ≠ .stuck := fun e => by rw [e] at q0; exact q0
  obtain ⟨n, hn⟩ : ∃ n, whileN mc mb n st ≠ .stuck := Classical.byContradiction fun z => hne (by unfold whileS; rw [dif_neg z])
  rw [whileS_of hn] at q0
  refine ⟨fun m σ' H' => ∃ st', Rel X.K Γ st' σ' H' [] ∧ finS X Wx Γ H' (whileN mc mb m st') D, ⟨n, st, r, q0⟩, ?_⟩
  rintro m σ1 H1 ⟨st1, r1, q1⟩
  cases m with
  | zero => exact q1.elim
  | succ m =>
    refine ⟨Γ, st1, r1, ?_⟩
    refine fin.imp (finS.e q1) fun k st2 q2 H2 r2 g2 => ?_
    cases k with
    | false =>
      rw [if_neg Bool.false_ne_true]
      have q3 : finS X Wx Γ H1 (.nx st2) D := q2
      exact q3 σ1 H2 r2 g2
    | true =>
      rw [if_pos rfl]
      have q3 : finS X Wx Γ H1 (loopS (mb st2) (whileN mc mb m)) D := q2
      exact ⟨fun σ' H' => ∃ st', Rel X.K Γ st' σ' H' [] ∧ finS X Wx Γ H' (whileN mc mb m st') D, fun σ' H' z => ⟨m, Nat.lt_succ_self m, z⟩, Γ, st2, np, r2, loop_fin (q3.gr g2) fun st' σ' H' a1 a2 a3 => ⟨st', a2, a1.gr a3⟩⟩

/-! ### for -/
structure Src (K : PySem.W.Frag) (H0 : Hp) (J : It) (ds : List Py) : Prop where
  go : ∀ i H, Gr H0 H → i < ds.length → J.go i H
  yld : ∀ i H x H', Gr H0 H → i < ds.length → J.yld i H x H' → Same H H' ∧ ∃ d, ds[i]? = some d ∧ R K H' x d
  stop : ∀ i H, Gr H0 H → i = ds.length → J.stop i H
def tI (X : Cx) (Wx : WX) (m : DS → ER (List Py)) : TI := fun σ H Q => ∃ Γ st, Rel X.K Γ st σ H [] ∧ fin X Wx Γ σ H (m st) fun ds st' => ∀ J H', Rel X.K Γ st' σ H' [] → Gr H H' → Src X.K H' J ds → Q J H'
structure DI (X : Cx) (tg e : Expr) (m : DS → ER (List Py)) : Prop where
  pi : ∀ Wx, Takes X Wx → PI X tg e (tI X Wx m)
theorem pi_imp {tg e : Expr} {t t' : TI} (h : PI X tg e t) (k : ∀ σ H Q, t' σ H Q → t σ H Q) : PI X tg e t' := ⟨fun pins s σ H R I q => h.run pins s σ H R I (k _ _ _ q)⟩
def forS (tg : Py → DS → Option DS) (b : DS → SO) : List Py → DS → SO
  | [], st => .nx st
  | d :: ds, st => match tg d st with
    | some st1 => loopS (b st1) (forS tg b ds)
    | none => .stuck
theorem ds_for {tg it : Expr} {ts : List Nat} {mi : DS → ER (List Py)} {f : Py → DS → Option DS} (hp : PassesOwn (model X.prog X.w) X.A X.env X.xe) (hc : X.calm = true) (hi : DI X tg it mi) (hg : DG X pn ts tg f) (hb : DSs X pn b mb) (hs : ∀ x, foldedSetIterable it X.env x = pure x := by intro _; rfl) :
    DSt X pn (.For tg it b [] pos) fun st => (mi st).s fun ds st1 => forS f mb ds st1 := by
  refine ⟨fun Wx tk => ps_imp (ps_for hp hc (hi.pi Wx tk) hg.pg (hb.ps Wx tk) hs) fun D σ H ⟨Γ, st, np, r, q⟩ => ⟨Γ, st, r, ?_⟩⟩
  refine fin.imp (finS.e q) fun ds st1 q1 J H1 r1 g1 src => ?_
  refine ⟨fun i m σ' H' => ∃ st', m = ds.length - i ∧ i ≤ ds.length ∧ Rel X.K Γ st' σ' H' [] ∧ Gr H1 H' ∧ finS X Wx Γ H' (forS f mb (ds.drop i) st') D, ⟨ds.length, st1, by simp, Nat.zero_le _, r1, Gr.refl _, by rw [List.drop_zero]; exact q1.gr g1⟩, ?_⟩
  rintro i m σ2 H2 ⟨st2, rfl, hi, r2, g2, q2⟩
  by_cases hlt : i < ds.length
  · have ed : ds.drop i = ds[i] :: ds.drop (i + 1) := List.drop_eq_getElem_cons hlt
    rw [ed] at q2
    refine .inr ⟨src.go i H2 g2 hlt, fun σ' H' => ∃ st', Rel X.K Γ st' σ' H' [] ∧ Gr H1 H' ∧ finS X Wx Γ H' (forS f mb (ds.drop (i + 1)) st') D, fun σ' H' ⟨st', a1, a2, a3⟩ => ⟨ds.length - (i + 1), by omega, st', rfl, hlt, a1, a2, a3⟩, fun x H3 y => ?_⟩
    obtain ⟨sm, d, hd, rd⟩ := src.yld i H2 x H3 g2 hlt y
    have e0 : ds[i] = d := by rw [List.getElem?_eq_getElem hlt] at hd; exact Option.some.inj hd
    rw [e0] at q2
    have q2' : finS X Wx Γ H2 (match f d st2 with | some st1 => loopS (mb st1) (forS f mb (ds.drop (i + 1))) | none => .stuck) D := q2
    cases ef : f d st2 with
    | none => rw [ef] at q2'; exact q2'.elim
    | some st3 =>
      rw [ef] at q2'
      have q3 : finS X Wx Γ H2 (loopS (mb st3) (forS f mb (ds.drop (i + 1)))) D := q2'
      have g3 := Same.gr sm
      exact ⟨Γ, st2, d, np, r2.ext sm, rd, st3, ef, fun σ' _ r4 => ⟨Γ, st3, np, r4, loop_fin (q3.gr g3) fun st' σ' H' a1 a2 a3 => ⟨st', a2, (g2.trans g3).trans a3, a1.gr a3⟩⟩⟩
  · have e : i = ds.length := by omega
    subst e
    rw [List.drop_length] at q2
    exact .inl ⟨src.stop _ H2 g2 rfl, q2 σ2 H2 r2 (Gr.refl _)⟩
end
end DL

/-! ## DL9 -/
namespace DL
open PySem PySem.Spec PyProof.Rows L2
variable [Tb]

/-! ### a list of a slot -/
def lstAt (st : DS) (i : Nat) : Option (List Py) := match st[i]? with
  | some (some (.lst ds)) => some ds
  | _ => none
theorem lstAt_some {st : DS} {i : Nat} {ds : List Py} (h : lstAt st i = some ds) : st[i]? = some (some (.lst ds)) := by
  unfold lstAt at h
  split at h
  · rename_i e; cases h; exact e
  · cases h
theorem Rel.lst {K : PySem.W.Frag} {Γ : Fr} {st : DS} {σ : L2.St} {H : Hp} {i : Nat} {ds : List Py} (r : Rel K Γ st σ H []) (h : lstAt st i = some ds) :
    ∃ a xs, σ[i]? = some (some (.ref a)) ∧ H a = some (.lst xs) ∧ RA K H xs ds ∧ Own H a ∧ ∀ xs' ds', RA K (upd H a (.lst xs')) xs' ds' → Rel K Γ (st.set i (some (.lst ds'))) σ (upd H a (.lst xs')) [] := by
  obtain ⟨v, fpi, e1, rs, r1⟩ := r.pull (lstAt_some h)
  cases rs with
  | @lst a xs ds ha ra =>
    have ow : Own H a := r1.fxo a List.mem_cons_self
    refine ⟨a, xs, e1, ha, ra, ow, fun xs' ds' rd => ?_⟩
    have r2 : Rel K Γ (st.set i none) σ (upd H a (.lst xs')) ([a] ++ []) := Rel.after r1 (SameBut.of (fun b hb => by rw [List.mem_singleton.mp hb]; exact ow) fun b o e n => by rw [upd_ne (by simpa using n)]; exact e) (by simp) (fun b hb => .inr hb) fun b hb => by
      have e := List.mem_singleton.mp hb
      subst e
      exact ⟨_, upd_same, trivial⟩
    have r3 := r2.push (w := .lst ds') e1 (.lst upd_same rd)
    rw [List.set_set] at r3
    exact r3
section
variable {X : Cx} {o e : Expr} {i : Nat} {pos apos cpos p p1 p2 p3 : Pos}
def appendE (i : Nat) (me : DS → ER Py) : DS → ER Py := fun st => (optE (lstAt st i) st).bind fun _ st => (me st).bind fun d st1 => (optE (lstAt st1 i) st1).bind fun ds st1 => if ds.length < sizeLine then .ok .non (st1.set i (some (.lst (ds ++ [d])))) else .stuck
theorem de_append {me : DS → ER Py} (ho : PE X o (tVar i)) (he : DE X e me) (hbase : attributeBase o "append" X.env (eval o X.env) = eval o X.env := by rfl)
    (hfew : ((backTo cpos (starEach [e] X.env)).all (fun x => !x.1) && (backToKw cpos (keywordEach [] X.env)).all (fun x => x.1.isSome) && decide ([e].length + ([] : List Keyword).length + (if ([] : List Keyword).isEmpty then 0 else 1) < 30)) = true := by rfl)
    (hline : (apos.endLine == cpos.line) = true := by rfl) (hs : starEach [e] X.env = (false, eval e X.env) :: starEach [] X.env := by rfl) (hplain : (backTo cpos (starEach [] X.env)).any (·.1) = false := by rfl) :
    DE X (.Call (.Attribute o "append" apos) [e] [] cpos) (appendE i me) := by
  refine ⟨fun Wx tk => pe_imp (pe_bm PySem.F.plainAttrs_list PySem.F.slot_list_append PySem.F.type_list_append mt_append ho (pa_cons (he.pe Wx tk) pa_nil hs) hbase hfew hline hs hplain) fun σ H Q ⟨Γ, st, r, q⟩ => ?_⟩
  obtain ⟨ds0, e0, q1⟩ := fin_opt (fin.bind q)
  obtain ⟨a, xs, e1, ha, ra, ow, _⟩ := r.lst e0
  refine ⟨_, e1, .inl ⟨rfl, xs, SqL.of ha⟩, Γ, st, r, ?_⟩
  refine fin.imp (fin.bind q1) fun d st1 q2 v H1 r1 g1 rd => ?_
  obtain ⟨ds, e2, q3⟩ := fin_opt (fin.bind q2)
  obtain ⟨a2, xs2, e3, ha2, ra2, ow2, k⟩ := r1.lst e2
  rw [e1] at e3
  cases e3
  split at q3
  · rename_i hl
    have g2 : Gr H1 (upd H1 a (.lst (xs2 ++ [v]))) := Gr.own ow2
    refine ⟨a, xs2, v, rfl, rfl, ha2, by rw [ra2.length]; exact hl, ?_⟩
    exact q3 .non _ (k _ _ ((ra2.append (.cons rd .nil)).mono g2)) (g1.trans g2) .non
  · exact q3.elim
def extendE (i : Nat) (me : DS → ER Ar) : DS → ER Py := fun st => (optE (lstAt st i) st).bind fun _ st => (me st).bind fun d st1 => (optE (lstAt st1 i) st1).bind fun ds st1 => (optE (bindO st1 d itemsS) st1).bind fun es st1 =>
  if ds.length + es.length ≤ sizeLine then .ok .non (st1.set i (some (.lst (ds ++ es)))) else .stuck
theorem de_extend {me : DS → ER Ar} (ho : PE X o (tVar i)) (he : DX X e me) (hbase : attributeBase o "extend" X.env (eval o X.env) = eval o X.env := by rfl)
    (hfew : ((backTo cpos (starEach [e] X.env)).all (fun x => !x.1) && (backToKw cpos (keywordEach [] X.env)).all (fun x => x.1.isSome) && decide ([e].length + ([] : List Keyword).length + (if ([] : List Keyword).isEmpty then 0 else 1) < 30)) = true := by rfl)
    (hline : (apos.endLine == cpos.line) = true := by rfl) (hs : starEach [e] X.env = (false, eval e X.env) :: starEach [] X.env := by rfl) (hplain : (backTo cpos (starEach [] X.env)).any (·.1) = false := by rfl) :
    DE X (.Call (.Attribute o "extend" apos) [e] [] cpos) (extendE i me) := by
  refine ⟨fun Wx tk => pe_imp (pe_bm PySem.F.plainAttrs_list PySem.F.slot_list_extend PySem.F.type_list_extend mt_extA ho (pa_cons (he.pe Wx tk) pa_nil hs) hbase hfew hline hs hplain) fun σ H Q ⟨Γ, st, r, q⟩ => ?_⟩
  obtain ⟨ds0, e0, q1⟩ := fin_opt (fin.bind q)
  obtain ⟨a, xs, e1, ha, ra, ow, _⟩ := r.lst e0
  refine ⟨_, e1, .inl ⟨rfl, xs, SqL.of ha⟩, Γ, st, r, ?_⟩
  refine fin.imp (fin.bind q1) fun d st1 q2 v H1 r1 g1 rd => ?_
  obtain ⟨ds, e2, q3⟩ := fin_opt (fin.bind q2)
  obtain ⟨es, e4, q4⟩ := fin_opt (fin.bind q3)
  obtain ⟨w, ew, fw⟩ := bindO_some e4
  obtain ⟨fp, rs⟩ := r1.look rd ew
  obtain ⟨b, zs, rfl, hz, rz⟩ := rs.seq fw
  obtain ⟨a2, xs2, e3, ha2, ra2, ow2, k⟩ := r1.lst e2
  rw [e1] at e3
  cases e3
  split at q4
  · rename_i hl
    have g2 : Gr H1 (upd H1 a (.lst (xs2 ++ zs))) := Gr.own ow2
    refine ⟨a, b, xs2, zs, rfl, rfl, ha2, hz.imp id SqT.of, by rw [ra2.length, rz.length]; exact hl, ?_⟩
    exact q4 .non _ (k _ _ ((ra2.append rz).mono g2)) (g1.trans g2) .non
  · exact q4.elim
def popE (i : Nat) : DS → ER Py := fun st => (optE (lstAt st i) st).bind fun ds st => match ds.getLast? with
  | some d => .ok d (st.set i (some (.lst ds.dropLast)))
  | none => .stuck
theorem de_pop (ho : PE X o (tVar i)) (hbase : attributeBase o "pop" X.env (eval o X.env) = eval o X.env := by rfl) (hline : (apos.endLine == cpos.line) = true := by rfl) :
    DE X (.Call (.Attribute o "pop" apos) [] [] cpos) (popE i) := by
  refine ⟨fun Wx tk => pe_imp (pe_bm0 PySem.F.plainAttrs_list PySem.F.slot_list_pop PySem.F.type_list_pop mt_pop ho hbase hline) fun σ H Q ⟨Γ, st, r, q⟩ => ?_⟩
  obtain ⟨ds, e0, q1⟩ := fin_opt (fin.bind q)
  obtain ⟨a, xs, e1, ha, ra, ow, k⟩ := r.lst e0
  cases el : ds.getLast? with
  | none => rw [el] at q1; exact q1.elim
  | some d =>
    rw [el] at q1
    rw [List.getLast?_eq_getElem?] at el
    obtain ⟨v, hv, rv⟩ := ra.get el
    have g2 : Gr H (upd H a (.lst xs.dropLast)) := Gr.own ow
    refine ⟨_, e1, .inl ⟨rfl, xs, SqL.of ha⟩, a, xs, v, rfl, rfl, ha, by rw [ra.length]; exact hv, ?_⟩
    exact q1 v _ (k _ _ (ra.dropLast.mono g2)) g2 (rv.mono g2)
/-- xs[k] = e -/
def setLS (i : Nat) (me mk : DS → ER Py) : DS → SO := fun st => (me st).s fun d st1 => (optE (lstAt st1 i) st1).s fun _ st1 => (mk st1).s fun k st2 => (optE (lstAt st2 i) st2).s fun ds st2 => (optE ((asInt k).bind fun k => ixN ds.length k) st2).s fun j st2 => .nx (st2.set i (some (.lst (ds.set j d))))
theorem finS_o {α : Type} {X : Cx} {Wx : WX} {Γ : Fr} {H : Hp} {r : Option α} {f : α → DS → SO} {st : DS} {D : Ends} (h : finS X Wx Γ H ((optE r st).s f) D) : ∃ a, r = some a ∧ finS X Wx Γ H (f a st) D := by
  cases r with
  | none => exact h.elim
  | some a => exact ⟨a, rfl, h⟩
theorem ds_setL {k : Expr} {pn : List Nat} {me mk : DS → ER Py} (ho : PE X o (tVar i)) (hk : DE X k mk) (he : DE X e me)
    (ha : ∀ v, assign (.Subscript o k p) X.env v = (do
      let ov ← holding [v] (eval o X.env)
      let iv ← holding [v, ov] (eval k X.env)
      standAt p
      holding [v, ov, iv] (setItem ov iv v)
      release [v, ov, iv] []) := by intro _; rfl)
    (hs : swapsWithSole [.Subscript o k p] e pos.line X.env = pure false := by rfl) (hw : swappedStores [.Subscript o k p] e X.env = pure none := by rfl) (h1 : (assignEach [.Subscript o k p] X.env).map (·.2) = [assign (.Subscript o k p) X.env] := by rfl) :
    DSt X pn (.Assign [.Subscript o k p] e pos) (setLS i me mk) := by
  refine ⟨fun Wx tk => ps_imp (ps_asg (he.pe Wx tk) (pg_sub ho (hk.pe Wx tk) set_list ha) hs hw h1) fun D σ H ⟨Γ, st, np, r, q⟩ => ⟨Γ, st, r, ?_⟩⟩
  refine fin.imp (finS.e q) fun d st1 q1 v H1 r1 g1 rd => ?_
  obtain ⟨ds0, e0, q2⟩ := finS_o q1
  obtain ⟨a, xs, e1, hx, ra, ow, _⟩ := r1.lst e0
  refine ⟨_, e1, Γ, st1, r1, ?_⟩
  refine fin.imp (finS.e (finS.gr g1 q2)) fun kd st2 q3 kv H2 r2 g2 rk => ?_
  obtain ⟨ds, e2, q4⟩ := finS_o q3
  obtain ⟨j, ej, q5⟩ := finS_o q4
  obtain ⟨n, en, ej⟩ := Option.bind_eq_some_iff.mp ej
  cases kd <;> cases en
  cases rk
  obtain ⟨a2, xs2, e3, ha2, ra2, ow2, kk⟩ := r2.lst e2
  rw [e1] at e3
  cases e3
  have g3 : Gr H2 (upd H2 a (.lst (xs2.set j v))) := Gr.own ow2
  refine ⟨a, xs2, n, j, rfl, rfl, ha2, by rw [ra2.length]; exact ej, ?_⟩
  have q6 : finS X Wx Γ H1 (.nx (st2.set i (some (.lst (ds.set j d))))) D := q5
  exact q6 σ _ (kk _ _ ((ra2.set j (rd.mono g2)).mono g3)) (g2.trans g3)
/-- n += e -/
def augI (i : Nat) (g : Int → Int → Int) (me : DS → ER Py) : DS → SO := fun st => (optE (((st[i]?).join).bind intS) st).s fun a st => (me st).s fun d st1 => (optE (asInt d) st1).s fun b st1 => putO i (.val (.int (g a b))) st1
theorem ds_augI {x : Str} {op : Operator} {g : Int → Int → Int} {pn : List Nat} {me : DS → ER Py} {pos' : Pos} (ho : PIp X op (ipI g)) (hN : X.N.Nodup) (hi : X.N[i]? = some x) (hx : Loc X.env.scope x) (he : DE X e me) (hp : i ∉ pn) (hf : X.fn x = true ∨ X.env.scope.names.lookup x = some .local := by first | exact .inl rfl | exact .inr rfl | assumption) :
    DSt X pn (.AugAssign (.Name x pos') op e pos) (augI i g me) := by
  refine ⟨fun Wx tk => ps_imp (ps_aug hN hi hx (he.pe Wx tk) ho hf) fun D σ H ⟨Γ, st, np, r, q⟩ => ?_⟩
  obtain ⟨a, ea, q1⟩ := finS_o q
  obtain ⟨w, ew, ea⟩ := Option.bind_eq_some_iff.mp ea
  obtain ⟨v, fp, e1, rs⟩ := r.get (join_some ew)
  have ev := rs.int ea
  subst ev
  refine ⟨_, e1, Γ, st, r, ?_⟩
  refine fin.imp (finS.e q1) fun d st1 q2 v H1 r1 g1 rd => ?_
  obtain ⟨b, eb, q3⟩ := finS_o q2
  cases d <;> cases eb
  cases rd
  refine ⟨a, b, rfl, rfl, ?_⟩
  unfold putO at q3
  split at q3
  · rename_i hl
    exact q3 _ H1 (r1.set (fx := []) hl (.val (.int _)) (np i hp)) g1
  · exact q3.elim
end

/-! ### what a for walks -/
section
variable {X : Cx} {tg : Expr}
def iSeq (K : PySem.W.Frag) (tl : TE) : TI := fun σ H R => tl σ H fun x H1 => ∃ a, x = .ref a ∧ (((∃ xs, SqL K H1 a xs) ∧ R (Itl K a) H1) ∨ ((∃ xs, SqT K H1 a xs) ∧ R (Itt K a) H1))
theorem pi_seq {l : Expr} {tl : TE} (hl : PE X l tl) : PI X tg l (iSeq X.K tl) := by
  refine ⟨fun pins s σ H R I h => ?_⟩
  refine thn (hl.run pins s σ H _ I h) fun v s1 ⟨x, H1, I1, r1, q1⟩ => ?_
  obtain ⟨a, e, q⟩ := q1
  subst e
  cases r1
  rcases q with ⟨⟨xs, hq⟩, q⟩ | ⟨⟨xs, hq⟩, q⟩
  · obtain ⟨its, rv, p, hz⟩ := I1.list hq
    refine wpAny_pyIter_list p.isList ?_
    refine ⟨s1.heap.objs.size, [s1.heap.objs.size], _, _, H1, rfl, I1.kept (t' := s1.toks) fun b o e => Heap.get?_push_of_some _ e, turn_list a _, ⟨_, Heap.get?_push_size _ rfl, rfl, rfl⟩, fun b hb => ?_, q⟩
    have e : b = s1.heap.objs.size := by simpa using hb
    subst e
    exact I1.fpOk (Nat.le_refl _) (I1.hok.fresh (Nat.le_refl _))
  · obtain ⟨its, rv, p, hz⟩ := I1.tuple hq
    refine wpAny_pyIter_tuple (show s1.heap.IsTuple a its.toArray from p) ?_
    refine ⟨s1.heap.objs.size, [s1.heap.objs.size], _, _, H1, rfl, I1.kept (t' := s1.toks) fun b o e => Heap.get?_push_of_some _ e, turn_tuple a _, ⟨_, Heap.get?_push_size _ rfl, rfl, rfl⟩, fun b hb => ?_, q⟩
    have e : b = s1.heap.objs.size := by simpa using hb
    subst e
    exact I1.fpOk (Nat.le_refl _) (I1.hok.fresh (Nat.le_refl _))
theorem di_seq {l : Expr} {m : DS → ER Py} (h : DE X l m) : DI X tg l fun st => (m st).bind fun d st1 => optE (itemsS (.val d)) st1 := by
  refine ⟨fun Wx tk => pi_imp (pi_seq (h.pe Wx tk)) fun σ H Q ⟨Γ, st, r, q⟩ => ⟨Γ, st, r, ?_⟩⟩
  refine fin.imp (fin.bind q) fun d st1 q1 v H1 r1 g1 rd => ?_
  obtain ⟨ds, ed, q2⟩ := fin_opt q1
  cases rd <;> cases ed
  · rename_i a xs hs ra
    refine ⟨a, rfl, .inr ⟨⟨xs, SqT.of hs⟩, q2 _ H1 r1 g1 ⟨fun i H2 g hi => ?_, fun i H2 x H3 g hi y => ?_, fun i H2 g hi => ⟨xs, g.sqT (SqT.of hs), by rw [ra.length, hi]; exact Nat.le_refl _⟩⟩⟩⟩
    · obtain ⟨v, hv, _⟩ := ra.get (List.getElem?_eq_getElem hi)
      exact ⟨xs, v, g.sqT (SqT.of hs), hv⟩
    · obtain ⟨rfl, y⟩ := y
      obtain ⟨d, hd, rd⟩ := ra.get' (y xs (g.sqT (SqT.of hs)))
      exact ⟨fun _ _ h => h, d, hd, rd.mono g⟩
  · rename_i a xs hs ra
    refine ⟨a, rfl, .inl ⟨⟨xs, hs.l⟩, q2 _ H1 r1 g1 ⟨fun i H2 g hi => ?_, fun i H2 x H3 g hi y => ?_, fun i H2 g hi => ⟨xs, (g.sqF hs).l, by rw [ra.length, hi]; exact Nat.le_refl _⟩⟩⟩⟩
    · obtain ⟨v, hv, _⟩ := ra.get (List.getElem?_eq_getElem hi)
      exact ⟨xs, v, (g.sqF hs).l, hv⟩
    · obtain ⟨rfl, y⟩ := y
      obtain ⟨d, hd, rd⟩ := ra.get' (y xs (g.sqF hs).l)
      exact ⟨fun _ _ h => h, d, hd, rd.mono g⟩
def rangeL (lo c : Int) (n : Nat) : List Py := (List.range n).map fun k => .int (lo + (k : Nat) * c)
theorem rangeL_length (lo c : Int) (n : Nat) : (rangeL lo c n).length = n := by unfold rangeL; rw [List.length_map, List.length_range]
theorem rangeL_get {lo c : Int} {n i : Nat} (h : i < n) : (rangeL lo c n)[i]? = some (.int (lo + (i : Nat) * c)) := by
  unfold rangeL
  rw [List.getElem?_map, List.getElem?_range h]; rfl
def inB (i : Int) : Bool := decide (-(2 ^ 62) ≤ i ∧ i < 2 ^ 62)
theorem inB_ok {i : Int} (h : inB i = true) : -(2 ^ 62) ≤ i ∧ i < 2 ^ 62 := of_decide_eq_true h
def range1 : List Py → Option (List Py)
  | [.int n] => if inB n then some (rangeL 0 1 n.toNat) else none
  | _ => none
def range2 : List Py → Option (List Py)
  | [.int a, .int b] => if inB a && inB b then some (rangeL a 1 (b - a).toNat) else none
  | _ => none
/-- range(a, b, -1) -/
def range3 : List Py → Option (List Py)
  | [.int a, .int b, .int c] => if inB a && inB b && decide (c = -1) then some (rangeL a (-1) (a - b).toNat) else none
  | _ => none
variable {a b c : Expr} {p pos : Pos}
theorem src_r {K : PySem.W.Frag} {H : Hp} {lo : Int} {n : Nat} : Src K H (Itr lo n) (rangeL lo 1 n) :=
  ⟨fun i H g hi => by rw [rangeL_length] at hi; exact hi, fun i H x H' g hi y => by
    rw [rangeL_length] at hi
    obtain ⟨rfl, rfl⟩ := y
    exact ⟨fun _ _ h => h, _, rangeL_get hi, by rw [Int.mul_one]; exact .int _⟩, fun i H g hi => by rw [rangeL_length] at hi; exact Nat.le_of_eq hi.symm⟩
theorem src_c {K : PySem.W.Frag} {H : Hp} {lo c : Int} {n : Nat} : Src K H (Itc lo c n) (rangeL lo c n) :=
  ⟨fun i H g hi => by rw [rangeL_length] at hi; exact hi, fun i H x H' g hi y => by
    rw [rangeL_length] at hi
    obtain ⟨rfl, rfl⟩ := y
    exact ⟨fun _ _ h => h, _, rangeL_get hi, .int _⟩, fun i H g hi => by rw [rangeL_length] at hi; exact Nat.le_of_eq hi.symm⟩
theorem di_range1 {m : DS → ER (List Py)} (T : Bt X.mg) (hg : Gl X "range") (h : DV X [a] m) (hs : starEach [a] X.env = [(false, eval a X.env)] := by rfl) : DI X tg (.Call (.Name "range" p) [a] [] pos) fun st => (m st).bind fun ds st1 => optE (range1 ds) st1 := by
  refine ⟨fun Wx tk => pi_imp (pi_range1 hg T.range (h.pa Wx tk) hs) fun σ H Q ⟨Γ, st, r, q⟩ => ⟨Γ, st, r, ?_⟩⟩
  refine fin.imp (fin.bind q) fun ds st1 q1 vs H1 r1 g1 rd hl => ?_
  obtain ⟨es, ee, q2⟩ := fin_opt q1
  unfold range1 at ee
  split at ee
  · rename_i n
    split at ee
    · rename_i hb
      cases ee
      have hb' := inB_ok hb
      cases rd with
      | cons h1 h2 =>
        cases h2
        cases h1
        exact ⟨n, rfl, hb'.1, hb'.2, q2 _ H1 r1 g1 src_r⟩
    · cases ee
  · cases ee
theorem di_range2 {m : DS → ER (List Py)} (T : Bt X.mg) (hg : Gl X "range") (h : DV X [a, b] m) (hs : starEach [a, b] X.env = [(false, eval a X.env), (false, eval b X.env)] := by rfl) (hs2 : starEach [b] X.env = [(false, eval b X.env)] := by rfl) : DI X tg (.Call (.Name "range" p) [a, b] [] pos) fun st => (m st).bind fun ds st1 => optE (range2 ds) st1 := by
  refine ⟨fun Wx tk => pi_imp (pi_range2 hg T.range (h.pa Wx tk) hs hs2) fun σ H Q ⟨Γ, st, r, q⟩ => ⟨Γ, st, r, ?_⟩⟩
  refine fin.imp (fin.bind q) fun ds st1 q1 vs H1 r1 g1 rd hl => ?_
  obtain ⟨es, ee, q2⟩ := fin_opt q1
  unfold range2 at ee
  split at ee
  · rename_i i j
    split at ee
    · rename_i hb
      cases ee
      rw [Bool.and_eq_true] at hb
      have hb1 := inB_ok hb.1
      have hb2 := inB_ok hb.2
      cases rd with
      | cons h1 h2 =>
        cases h2 with
        | cons h2 h3 =>
          cases h3
          cases h1
          cases h2
          exact ⟨i, j, rfl, ⟨hb1.1, hb1.2, hb2.1, hb2.2⟩, q2 _ H1 r1 g1 src_r⟩
    · cases ee
  · cases ee
theorem di_range3 {m : DS → ER (List Py)} (T : Bt X.mg) (hg : Gl X "range") (h : DV X [a, b, c] m) (hs : starEach [a, b, c] X.env = (false, eval a X.env) :: starEach [b, c] X.env := by rfl) (hpl : (backTo pos (starEach [b, c] X.env)).any (·.1) = false := by rfl) :
    DI X tg (.Call (.Name "range" p) [a, b, c] [] pos) fun st => (m st).bind fun ds st1 => optE (range3 ds) st1 := by
  refine ⟨fun Wx tk => pi_imp (pi_range3 hg T.range (h.pa Wx tk) hs hpl) fun σ H Q ⟨Γ, st, r, q⟩ => ⟨Γ, st, r, ?_⟩⟩
  refine fin.imp (fin.bind q) fun ds st1 q1 vs H1 r1 g1 rd hl => ?_
  obtain ⟨es, ee, q2⟩ := fin_opt q1
  unfold range3 at ee
  split at ee
  · rename_i i j k
    split at ee
    · rename_i hb
      cases ee
      rw [Bool.and_eq_true, Bool.and_eq_true] at hb
      have hb1 := inB_ok hb.1.1
      have hb2 := inB_ok hb.1.2
      have hk := of_decide_eq_true hb.2
      subst hk
      cases rd with
      | cons h1 h2 =>
        cases h2 with
        | cons h2 h3 =>
          cases h3 with
          | cons h3 h4 =>
            cases h4
            cases h1
            cases h2
            cases h3
            exact ⟨i, j, -1, _, rfl, RgC.neg hb1.1 hb1.2 hb2.1 hb2.2, q2 _ H1 r1 g1 src_c⟩
    · cases ee
  · cases ee
end
end DL

/-! ## DL10 -/
namespace DL
open PySem PySem.Spec PyProof.Rows L2
variable [Tb]

/-! ### parts of a state -/
theorem SR.sub {K : PySem.W.Frag} {H : Hp} : ∀ {σ : L2.St} {st : DS} {fp : List Addr}, SR K H σ st fp → ∀ {σ' : L2.St} {st' : DS}, σ'.length = st'.length → st'.length ≤ st.length →
    (∀ (i : Nat) (w : Sv), st'[i]? = some (some w) → st[i]? = some (some w) ∧ σ'[i]? = σ[i]?) → ∃ fo, SR K H σ' st' fo ∧ fo.Sublist fp
  | _, _, _, _, [], [], _, _, _ => ⟨[], .nil, List.nil_sublist _⟩
  | _, _, _, h, o' :: σ', ow' :: st', hl, hle, k => by
    match h with
    | .nil => simp at hle
    | @SR.no _ _ o σ st fp h2 =>
      obtain ⟨fo, s2, sub⟩ := SR.sub h2 (σ' := σ') (st' := st') (by simpa using hl) (by simpa using hle) fun i w e => by
        have := k (i + 1) w (by simpa using e)
        simpa using this
      cases ow' with
      | none => exact ⟨fo, .no s2, sub⟩
      | some w =>
        have := (k 0 w rfl).1
        simp at this
    | @SR.yes _ _ v w σ st fp1 fp2 h1 h2 =>
      obtain ⟨fo, s2, sub⟩ := SR.sub h2 (σ' := σ') (st' := st') (by simpa using hl) (by simpa using hle) fun i w e => by
        have := k (i + 1) w (by simpa using e)
        simpa using this
      cases ow' with
      | none => exact ⟨fo, .no s2, sub.trans (List.sublist_append_right _ _)⟩
      | some w' =>
        have q := k 0 w' rfl
        simp only [List.getElem?_cons_zero, Option.some.injEq] at q
        obtain ⟨q1, q2⟩ := q
        subst q1 q2
        exact ⟨fp1 ++ fo, .yes h1 s2, List.Sublist.append (List.Sublist.refl _) sub⟩
section
variable {K : PySem.W.Frag} {Γ : Fr} {st st' : DS} {σ σ' : L2.St} {H H' : Hp} {fx : List Addr}
/-- other slots of the machine, where the model says nothing -/
theorem Rel.resl (r : Rel K Γ st σ H fx) (hl : σ'.length = σ.length) (h : ∀ (i : Nat) (w : Sv), st[i]? = some (some w) → σ'[i]? = σ[i]?) (hp : ∀ p ∈ Γ.pin, σ'[p.1]? = σ[p.1]?) : Rel K Γ st σ' H fx := by
  obtain ⟨⟨fp, hs, nd, mi⟩, fo, sm, pn⟩ := r
  obtain ⟨fq, h2, sub⟩ := hs.sub (σ' := σ') (st' := st) (hl.trans hs.length) (Nat.le_refl _) fun i w e => ⟨e, h i w e⟩
  have sub' : (fx ++ fq).Sublist (fx ++ fp) := List.Sublist.append (List.Sublist.refl _) sub
  exact ⟨⟨fq, h2, nd.sublist sub', fun b hb => mi b (sub'.subset hb)⟩, fo, sm, fun p hq => (hp p hq).trans (pn p hq)⟩
/-- the frame rule: what is not handed on stays -/
theorem Rel.rebase (r : Rel K Γ st σ H fx) : ∃ Γ' : Fr, Γ'.pin = Γ.pin ∧ Rel K Γ' st σ H [] ∧
    ∀ {st' : DS} {σ' : L2.St} {H' : Hp} {fy : List Addr}, Rel K Γ' st' σ' H' fy → (∀ b ∈ fx, H' b = H b) ∧ Rel K Γ st' σ' H' (fx ++ fy) := by
  have hr := r
  obtain ⟨⟨fp, hs, nd, mi⟩, fo, sm, pn⟩ := r
  have nda := List.nodup_append.mp nd
  refine ⟨⟨H, fp, Γ.pin⟩, rfl, ⟨⟨fp, hs, by simpa using nda.2.1, fun b hb => .inr (by simpa using hb)⟩, nofun, ⟨fun b o e _ => .inl e, sm.2⟩, pn⟩, fun {st' σ' H' fy} r' => ?_⟩
  obtain ⟨⟨fp', hs', nd', mi'⟩, fo', sm', pn'⟩ := r'
  have keep : ∀ b ∈ fx, H' b = H b := fun b hb => by
    obtain ⟨o, e, ok⟩ := fo b hb
    rw [e]
    exact (sm'.1 b o e fun z => nda.2.2 b hb b z rfl).own ok
  have notx : ∀ b ∈ fy ++ fp', b ∉ fx := fun b hb hx => by
    rcases mi' b hb with z | z
    · obtain ⟨o, e, _⟩ := fo b hx
      have z' : H b = none := z
      rw [z'] at e; cases e
    · exact nda.2.2 b hx b z rfl
  refine ⟨keep, ⟨fp', hs', ?_, fun b hb => ?_⟩, fun b hb => ?_, ⟨fun b o e n => ?_, sm'.2⟩, pn'⟩
  · rw [List.append_assoc]
    exact List.nodup_append.mpr ⟨nda.1, nd', fun a ha b hb e => notx b hb (e ▸ ha)⟩
  · rw [List.append_assoc] at hb
    rcases List.mem_append.mp hb with hb | hb
    · exact mi b (List.mem_append_left _ hb)
    · rcases mi' b hb with z | z
      · exact hr.mineNew z
      · exact mi b (List.mem_append_right _ z)
  · rcases List.mem_append.mp hb with hb | hb
    · exact (fo b hb).ext (keep b hb)
    · exact fo' b hb
  · refine (sm.1 b o e n).trans fun o' h' => sm'.1 b o' h' fun z => ?_
    rcases mi b (List.mem_append_right _ z) with m | m
    · rw [m] at e; cases e
    · exact n m
end

/-! ### list comprehensions -/
def wipeS (st : DS) : List Nat → DS
  | [] => st
  | v :: vs => (wipeS st vs).set v none
theorem wipeS_length (st : DS) : ∀ vs : List Nat, (wipeS st vs).length = st.length
  | [] => rfl
  | v :: vs => by unfold wipeS; rw [List.length_set, wipeS_length st vs]
theorem wipeS_none {st : DS} {w : Sv} {i : Nat} : ∀ {vs : List Nat}, (wipeS st vs)[i]? = some (some w) → i ∉ vs
  | [], _ => by simp
  | v :: vs, h => by
    unfold wipeS at h
    by_cases hi : v = i
    · subst hi
      by_cases hv : v < (wipeS st vs).length
      · rw [List.getElem?_set_self hv] at h; cases h
      · rw [List.getElem?_eq_none (by simpa using hv)] at h; cases h
    · rw [List.getElem?_set_ne hi] at h
      have := wipeS_none h
      simp only [List.mem_cons, not_or]
      exact ⟨fun e => hi e.symm, this⟩
theorem Rel.wipe {K : PySem.W.Frag} {Γ : Fr} {st : DS} {σ : L2.St} {H : Hp} {fx : List Addr} (r : Rel K Γ st σ H fx) : ∀ vs : List Nat, Rel K Γ (wipeS st vs) σ H fx
  | [] => r
  | v :: vs => (Rel.wipe r vs).forget
theorem wipe_get {σ : L2.St} {i : Nat} : ∀ {vs : List Nat}, i ∉ vs → (L2.wipe σ vs)[i]? = σ[i]?
  | [], _ => rfl
  | v :: vs, h => by
    simp only [List.mem_cons, not_or] at h
    show ((L2.wipe σ vs).set v none)[i]? = _
    rw [List.getElem?_set_ne (fun e => h.1 e.symm)]
    exact wipe_get h.2
theorem wipe_in {σ : L2.St} {i : Nat} : ∀ {vs : List Nat}, i ∈ vs → i < σ.length → (L2.wipe σ vs)[i]? = some none
  | v :: vs, h, hl => by
    show ((L2.wipe σ vs).set v none)[i]? = _
    by_cases hv : v = i
    · subst hv; rw [List.getElem?_set_self (by rw [L2.wipe_length]; exact hl)]
    · rw [List.getElem?_set_ne hv]
      exact wipe_in (by simpa [Ne.symm hv] using h) hl
theorem wipe_only {σ σ2 : L2.St} {vs ts : List Nat} (h : OnlyAt ts (L2.wipe σ vs) σ2) (hs : ∀ i ∈ ts, i ∈ vs) : L2.wipe σ2 vs = L2.wipe σ vs := by
  have hl : σ2.length = σ.length := by rw [h.1, L2.wipe_length]
  apply List.ext_getElem?
  intro i
  by_cases hi : i ∈ vs
  · by_cases hb : i < σ.length
    · rw [wipe_in hi hb, wipe_in hi (by rw [hl]; exact hb)]
    · rw [List.getElem?_eq_none (by rw [L2.wipe_length]; omega), List.getElem?_eq_none (by rw [L2.wipe_length]; omega)]
  · rw [wipe_get hi, h.2 i fun z => hi (hs i z)]
def ER.nb {α β : Type} (r : ER α) (f : α → DS → ER β) : ER β := match r with
  | .ok a st => f a st
  | .ex _ _ => .stuck
  | .stuck => .stuck
@[simp] theorem ER.nb_ok {α β : Type} {a : α} {st : DS} {f : α → DS → ER β} : (ER.ok a st).nb f = f a st := rfl
def lcS (tg : Py → DS → Option DS) (mt : DS → ER Bool) (me : DS → ER Py) (vs : List Nat) : List Py → List Py → DS → ER Sv
  | [], acc, st => .ok (.lst acc) st
  | d :: ds, acc, st => match tg d st with
    | some st1 => (mt st1).nb fun b st2 => if b then (me st2).nb fun y st3 => if acc.length < sizeLine then lcS tg mt me vs ds (acc ++ [y]) (wipeS st3 vs) else .stuck else lcS tg mt me vs ds acc (wipeS st2 vs)
    | none => .stuck
def lcM (mi : DS → ER (List Py)) (tg : Py → DS → Option DS) (mt : DS → ER Bool) (me : DS → ER Py) (vs : List Nat) : DS → ER Sv := fun st => (mi st).bind fun ds st1 => lcS tg mt me vs ds [] (wipeS st1 vs)
abbrev W0 : WX := fun _ _ _ _ => False
theorem fin_nb {α β : Type} {X : Cx} {Wx : WX} {Γ Γ' : Fr} {σ σ' : L2.St} {H H' : Hp} {r : ER α} {f : α → DS → ER β} {G : β → DS → Prop} (h : fin X Wx Γ σ H (r.nb f) G) : fin X W0 Γ' σ' H' r fun a st => fin X Wx Γ σ H (f a st) G := by
  cases r with
  | ok a st => exact h
  | ex x st => exact h.elim
  | stuck => exact h
structure DTs (X : Cx) (ifs : List Expr) (m : DS → ER Bool) : Prop where
  pt : ∀ Wx, Takes X Wx → PTs X ifs (tT X Wx m)
theorem pts_imp {X : Cx} {e : List Expr} {t t' : TT} (h : PTs X e t) (k : ∀ σ H Q, t' σ H Q → t σ H Q) : PTs X e t' := ⟨fun pins s σ H Q I q => h.run pins s σ H Q I (k _ _ _ q)⟩
theorem dts_nil {X : Cx} : DTs X [] fun st => .ok true st := ⟨fun Wx tk => pts_imp pts_nil fun σ H Q ⟨Γ, st, r, q⟩ => q H r (Gr.refl H)⟩
theorem dts_one {X : Cx} {c : Expr} {m : DS → ER Bool} (h : DT X c m) : DTs X [c] m := ⟨fun Wx tk => pts_one (h.pt Wx tk)⟩
section
variable {X : Cx} {pn ts : List Nat} {elt tg iter : Expr} {ifs : List Expr} {scope : Scope} {own : List (Str × Nat)} {pos : Pos} {mi : DS → ER (List Py)} {f : Py → DS → Option DS} {mt : DS → ER Bool} {me : DS → ER Py}
theorem lc_read {vs : List Nat} {Wx : WX} {σ : L2.St} {H : Hp} {Q : VK} {Γ : Fr} {st : DS} (hts : ∀ i ∈ ts, i ∈ vs) (r : Rel X.K Γ st σ H [])
    (q : fin X Wx Γ σ H (lcM mi f mt me vs st) fun w st' => ∀ v H' fw, Rel X.K Γ st' σ H' fw → Gr H H' → RS X.K H' v w fw → Q v H') :
    tLc (tI X Wx mi) (tG X pn ts f) (tT X W0 mt) (tE X W0 me) vs σ H Q := by
  refine ⟨Γ, st, r, ?_⟩
  refine fin.imp (fin.bind q) fun ds st1 q1 J H1 r1 g1 src D hD => ?_
  have pins := r.pin
  generalize eΓ : ({ Γ with pin := [] } : Fr) = Γ1
  have restore : ∀ {st' : DS} {H' : Hp} {fw : List Addr}, Rel X.K Γ1 st' σ H' fw → Rel X.K Γ st' σ H' fw := fun {st' H' fw} rr => by
    subst eΓ
    obtain ⟨x1, x2, x3, _⟩ := rr
    exact ⟨x1, x2, x3, pins⟩
  have r1 : Rel X.K Γ1 st1 σ H1 [] := by
    subst eΓ
    obtain ⟨x1, x2, x3, _⟩ := r1
    exact ⟨x1, x2, x3, nofun⟩
  have vpin : ∀ p ∈ Γ1.pin, p.1 ∉ vs := by subst eΓ; exact nofun
  have np : ∀ i, i ∉ pn → ∀ p ∈ Γ1.pin, p.1 ≠ i := by subst eΓ; exact fun _ _ => nofun
  have s0 : Same H1 (upd H1 D (.lst [])) := Same.new hD
  have hDo : Own (upd H1 D (.lst [])) D := ⟨_, upd_same, trivial⟩
  have rw1 : Rel X.K Γ1 (wipeS st1 vs) (L2.wipe σ vs) (upd H1 D (.lst [])) [D] := by
    have a := (r1.wipe vs).resl (σ' := L2.wipe σ vs) (L2.wipe_length _ _) (fun i w e => wipe_get (wipeS_none e)) fun p hp => wipe_get (vpin p hp)
    exact a.owned s0 (by simp) (fun b hb => by rw [List.mem_singleton.mp hb]; exact hD) fun b hb => by rw [List.mem_singleton.mp hb]; exact hDo
  refine ⟨fun i m H2 => ∃ acc av st2, m = ds.length - i ∧ i ≤ ds.length ∧ Rel X.K Γ1 (wipeS st2 vs) (L2.wipe σ vs) H2 [D] ∧ H2 D = some (.lst av) ∧ RA X.K H2 av acc ∧ Gr (upd H1 D (.lst [])) H2 ∧
    fin X Wx Γ σ H (lcS f mt me vs (ds.drop i) acc (wipeS st2 vs)) fun w st' => ∀ v H' fw, Rel X.K Γ st' σ H' fw → Gr H H' → RS X.K H' v w fw → Q v H', ⟨ds.length, [], [], st1, by simp, Nat.zero_le _, rw1, upd_same, .nil, Gr.refl _, by rw [List.drop_zero]; exact q1⟩, ?_⟩
  rintro i m H2 ⟨acc, av, st2, rfl, hi, r2, hD2, ra2, g2, q2⟩
  have gt := g1.trans ((Same.gr s0).trans g2)
  have src2 : Gr H1 H2 := (Same.gr s0).trans g2
  by_cases hlt : i < ds.length
  · have ed : ds.drop i = ds[i] :: ds.drop (i + 1) := List.drop_eq_getElem_cons hlt
    rw [ed] at q2
    refine .inr ⟨src.go i H2 src2 hlt, fun H' => ∃ acc av st2, Rel X.K Γ1 (wipeS st2 vs) (L2.wipe σ vs) H' [D] ∧ H' D = some (.lst av) ∧ RA X.K H' av acc ∧ Gr (upd H1 D (.lst [])) H' ∧
      fin X Wx Γ σ H (lcS f mt me vs (ds.drop (i + 1)) acc (wipeS st2 vs)) fun w st' => ∀ v H' fw, Rel X.K Γ st' σ H' fw → Gr H H' → RS X.K H' v w fw → Q v H', fun H' ⟨acc', av', st3, a1, a2, a3, a4, a5⟩ => ⟨ds.length - (i + 1), by omega, acc', av', st3, rfl, hlt, a1, a2, a3, a4, a5⟩, fun x H3 y => ?_⟩
    obtain ⟨sm, d, hd, rd⟩ := src.yld i H2 x H3 src2 hlt y
    have e0 : ds[i] = d := by rw [List.getElem?_eq_getElem hlt] at hd; exact Option.some.inj hd
    rw [e0] at q2
    have g3 := Same.gr sm
    have r3 : Rel X.K Γ1 (wipeS st2 vs) (L2.wipe σ vs) H3 [D] := r2.ext sm
    have hD3 : H3 D = some (.lst av) := sm _ _ hD2
    obtain ⟨Γ', ep, rb, back⟩ := r3.rebase
    have np' : ∀ i, i ∉ pn → ∀ p ∈ Γ'.pin, p.1 ≠ i := by rw [ep]; exact np
    cases ef : f d (wipeS st2 vs) with
    | none =>
      have q3 : fin X Wx Γ σ H (match f d (wipeS st2 vs) with | some st1 => (mt st1).nb fun b st2 => if b then (me st2).nb fun y st3 => if acc.length < sizeLine then lcS f mt me vs (ds.drop (i + 1)) (acc ++ [y]) (wipeS st3 vs) else .stuck else lcS f mt me vs (ds.drop (i + 1)) acc (wipeS st2 vs) | none => .stuck) _ := q2
      rw [ef] at q3
      exact q3.elim
    | some st3 =>
      have q3 : fin X Wx Γ σ H (match f d (wipeS st2 vs) with | some st1 => (mt st1).nb fun b st2 => if b then (me st2).nb fun y st3 => if acc.length < sizeLine then lcS f mt me vs (ds.drop (i + 1)) (acc ++ [y]) (wipeS st3 vs) else .stuck else lcS f mt me vs (ds.drop (i + 1)) acc (wipeS st2 vs) | none => .stuck) _ := q2
      rw [ef] at q3
      refine ⟨Γ', wipeS st2 vs, d, np', rb, rd, st3, ef, fun σ3 on r4 => ⟨wipe_only on hts, Γ', st3, r4, ?_⟩⟩
      have back2 : ∀ {st' : DS} {H' : Hp}, Rel X.K Γ' st' σ3 H' [] → Rel X.K Γ1 (wipeS st' vs) (L2.wipe σ vs) H' [D] ∧ H' D = some (.lst av) := fun {st' H'} rr => by
        obtain ⟨kp, rr2⟩ := back rr
        refine ⟨?_, (kp D List.mem_cons_self).trans hD3⟩
        have rr3 : Rel X.K Γ1 (wipeS st' vs) σ3 H' [D] := by simpa using rr2.wipe vs
        have hl3 : (L2.wipe σ vs).length = σ3.length := on.1.symm
        refine rr3.resl hl3 (fun i w e => ?_) fun p hp => ?_
        · exact (on.2 i fun z => wipeS_none e (hts i z)).symm
        · exact (on.2 p.1 fun z => vpin p hp (hts p.1 z)).symm
      refine fin.imp (fin_nb q3) fun b st4 q4 H4 r5 g4 => ?_
      have gt4 := gt.trans (g3.trans g4)
      cases b with
      | false =>
        refine iteF ?_
        have q5 : fin X Wx Γ σ H (lcS f mt me vs (ds.drop (i + 1)) acc (wipeS st4 vs)) _ := q4
        obtain ⟨b1, b2⟩ := back2 r5
        exact ⟨acc, av, st4, b1, b2, (ra2.mono g3).mono g4, g2.trans (g3.trans g4), q5⟩
      | true =>
        refine iteT ?_
        have q5 : fin X Wx Γ σ H ((me st4).nb fun y st3 => if acc.length < sizeLine then lcS f mt me vs (ds.drop (i + 1)) (acc ++ [y]) (wipeS st3 vs) else .stuck) _ := q4
        refine ⟨Γ', st4, r5, ?_⟩
        refine fin.imp (fin_nb q5) fun y st5 q6 yv H5 r6 g5 ry => ?_
        obtain ⟨b1, b2⟩ := back2 r6
        split at q6
        · rename_i hz
          have ra5 : RA X.K H5 av acc := ((ra2.mono g3).mono g4).mono g5
          refine ⟨av, b2, by rw [ra5.length]; exact hz, acc ++ [y], av ++ [yv], st5, ?_, upd_same, ?_, ?_, q6⟩
          · have g6 : SameBut [D] H5 (upd H5 D (.lst (av ++ [yv]))) := SameBut.of (fun b hb => by rw [List.mem_singleton.mp hb]; exact b1.fxo D List.mem_cons_self) fun b o e n => by rw [upd_ne (by simpa using n)]; exact e
            have b1' : Rel X.K Γ1 (wipeS st5 vs) (L2.wipe σ vs) H5 ([D] ++ []) := by simpa using b1
            have := Rel.after b1' g6 (nf := [D]) (by simp) (fun b hb => .inr hb) fun b hb => by
              rw [List.mem_singleton.mp hb]
              exact ⟨_, upd_same, trivial⟩
            simpa using this
          · have g6 : Gr H5 (upd H5 D (.lst (av ++ [yv]))) := Gr.own (b1.fxo D List.mem_cons_self)
            exact (ra5.append (.cons ry .nil)).mono g6
          · exact (g2.trans (g3.trans (g4.trans g5))).trans (Gr.own (b1.fxo D List.mem_cons_self))
        · exact q6.elim
  · have e : i = ds.length := by omega
    subst e
    rw [List.drop_length] at q2
    refine .inl ⟨src.stop _ H2 src2 rfl, ?_⟩
    have q3 : ∀ v H' fw, Rel X.K Γ (wipeS st2 vs) σ H' fw → Gr H H' → RS X.K H' v (.lst acc) fw → Q v H' := q2
    refine q3 _ H2 [D] (restore (r2.resl (L2.wipe_length σ vs).symm (fun i w e => (wipe_get (wipeS_none e)).symm) fun p hp => (wipe_get (vpin p hp)).symm)) gt (.lst hD2 ra2)
end
end DL

/-! ## DL11 -/
namespace DL
open PySem PySem.Spec PyProof.Rows L2
variable [Tb]

section
variable {X : Cx} {pn ts : List Nat} {elt tg iter : Expr} {ifs : List Expr} {scope : Scope} {own : List (Str × Nat)} {pos : Pos} {mi : DS → ER (List Py)} {f : Py → DS → Option DS} {mt : DS → ER Bool} {me : DS → ER Py}
theorem takesB {X : Cx} : Takes X W0 := takes0
theorem do_lc (hc : X.calm = true) (hN : X.N.Nodup) (hi : DI X tg iter mi) (ok : BlkOk X.N X.env.scope scope own)
    (hg : ∀ (s : Shared) (H : Hp) (C : Addr) (cl : List (Str × Addr)) (fp : List Addr), DG (X.blk s H scope (compEnvC scope cl C X.env) fp) pn ts tg f) (ht : ∀ (s : Shared) (H : Hp) (C : Addr) (cl : List (Str × Addr)) (fp : List Addr), DTs (X.blk s H scope (compEnvC scope cl C X.env) fp) ifs mt)
    (he : ∀ (s : Shared) (H : Hp) (C : Addr) (cl : List (Str × Addr)) (fp : List Addr), DE (X.blk s H scope (compEnvC scope cl C X.env) fp) elt me) (hts : ∀ i ∈ ts, i ∈ own.map (·.2) := by decide) (hs : ∀ x, foldedSetIterable iter X.env x = pure x := by intro _; rfl) :
    DO X (.ListComp elt [⟨tg, iter, ifs, 0⟩] scope pos) (lcM mi f mt me (own.map (·.2))) := by
  refine ⟨fun Wx tk => pe_imp (pe_lc (g := tG X pn ts f) (tt := tT X W0 mt) (te := tE X W0 me) hc hN (hi.pi Wx tk) ok (fun s H C cl fp => (hg s H C cl fp).pg) (fun s H C cl fp => (ht s H C cl fp).pt W0 takes0) (fun s H C cl fp => (he s H C cl fp).pe W0 takes0) hs) fun σ H Q ⟨Γ, st, r, q⟩ => ?_⟩
  exact lc_read (pn := pn) hts r q
theorem ds_setLc {pnn : List Nat} {i : Nat} {y : Str} {py spos : Pos} (hc : X.calm = true) (hN : X.N.Nodup) (hy : X.N[i]? = some y) (hyl : X.env.scope.names.lookup y = some .local)
    (hsw : swapsWith (.ListComp elt [⟨tg, iter, ifs, 0⟩] scope pos) (some (.Name y py)) spos.line X.env = pure true) (hi : DI X tg iter mi) (ok : BlkOk X.N X.env.scope scope own)
    (hg : ∀ (s : Shared) (H : Hp) (C : Addr) (cl : List (Str × Addr)) (fp : List Addr), DG (X.blk s H scope (compEnvC scope cl C X.env) fp) pn ts tg f) (ht : ∀ (s : Shared) (H : Hp) (C : Addr) (cl : List (Str × Addr)) (fp : List Addr), DTs (X.blk s H scope (compEnvC scope cl C X.env) fp) ifs mt)
    (he : ∀ (s : Shared) (H : Hp) (C : Addr) (cl : List (Str × Addr)) (fp : List Addr), DE (X.blk s H scope (compEnvC scope cl C X.env) fp) elt me) (hp : i ∉ pnn) (hts : ∀ i ∈ ts, i ∈ own.map (·.2) := by decide) (hs : ∀ x, foldedSetIterable iter X.env x = pure x := by intro _; rfl) :
    DSt X pnn (.Assign [.Name y py] (.ListComp elt [⟨tg, iter, ifs, 0⟩] scope pos) spos) fun st => (lcM mi f mt me (own.map (·.2)) st).s fun w st1 => putO i w st1 := by
  refine ⟨fun Wx tk => ps_imp (ps_setLc (g := tG X pn ts f) (tt := tT X W0 mt) (te := tE X W0 me) hc hN hy hyl hsw (hi.pi Wx tk) ok (fun s H C cl fp => (hg s H C cl fp).pg) (fun s H C cl fp => (ht s H C cl fp).pt W0 takes0) (fun s H C cl fp => (he s H C cl fp).pe W0 takes0) hs) fun D σ H ⟨Γ, st, np, r, q⟩ => ?_⟩
  refine lc_read (pn := pn) hts r (fin.imp (finS.e q) fun w st1 q1 v H1 fw r1 g1 rs => ?_)
  unfold putO at q1
  split at q1
  · rename_i hl
    exact q1 _ H1 (r1.set hl rs (np i hp)) g1
  · exact q1.elim
end

/-! ### raise -/
/-- an own class of exceptions without an __init__ -/
structure XCls (K : PySem.W.Frag) (mg : Str → Option Value) (x : Str) (C : Addr) : Prop where
  g : mg x = some (.ref C)
  x : PySem.W.excIn K C [.type "ValueError", .type "Exception", .type "BaseException", .type "object"] "ValueError.__new__" = true
  k : PySem.W.keepIn K (.ref C) = true
  b : PySem.W.subIn K (.ref C) (.type "BaseException") = some true
  t : PySem.W.typeIn K (.ref C) = some (.type "type")
section
variable {X : Cx} {pn : List Nat} {x : Str} {C : Addr} {p pos pos' : Pos}
theorem pmk_own0 (xc : XCls X.K X.mg x C) (hg : Gl X x) (hdb : (x == ("__debug__" : Str)) = false := by decide) : PMk X (.Call (.Name x p) [] [] pos) (fun _ H Q => Q (.ref C) none H) := by
  intro pins s σ H Q I h
  refine wpAny_Call_Name_kw (ld_glob I hg xc.g ?_ hdb)
  refine PySem.W.callWith_K0 I.kIn xc.k ?_
  show wpAny _ _ (call (.ref C) []) _ _ _
  obtain ⟨bm, N, nm, qn, bs, hdct, sn, sub, ab, col, dd, k0, k1, k2, k3, k5, mN, hC, hN, hni, T⟩ := exc_obj I.kIn xc.x
  obtain ⟨hp1, g1, d1, tk1, os1⟩ := s
  refine wpAny_call_exc_subT PySem.F.excBase_ValueError T hC hN hni (fun h' e hm => ?_) (Nat.zero_le _)
  exact mk_of I hm (raises_own xc.b xc.t) h (I.hok.gone hm.new)
theorem ds_raise0 (hc : X.calm = true) (xc : XCls X.K X.mg x C) (hg : Gl X x) (hdb : (x == ("__debug__" : Str)) = false := by decide) : DSt X pn (.Raise (some (.Call (.Name x p) [] [] pos)) none pos') fun st => .ex ⟨x, none⟩ st :=
  ⟨fun Wx tk => ps_imp (ps_raise hc tk (pmk_own0 xc hg hdb)) fun D σ H ⟨Γ, st, np, r, q⟩ => q (.ref C) none σ H r (Gr.refl H) ⟨xc.g, rfl⟩⟩
end

/-! ### try .. except X as n -/
/-- a suite's end, slot i unbound -/
def clrS (i : Nat) : SO → SO
  | .nx st => .nx (st.set i none)
  | .rt w st => .rt w (st.set i none)
  | .bk st => .bk (st.set i none)
  | .ct st => .ct (st.set i none)
  | _ => .stuck
noncomputable def tryS (mb : DS → SO) (cx : Str → Option Bool) (i : Nat) (ms : Exn → Addr → DS → SO) (st : DS) : SO := match mb st with
  | .ex x st1 => match cx x.name with
    | some true => by
        classical
        exact if h : ∃ r, r ≠ SO.stuck ∧ ∀ a, clrS i (ms x a (st1.set i (some (.val (.obj a))))) = r then h.choose else .stuck
    | some false => .ex x st1
    | none => .stuck
  | r => r
theorem tryS_ok {mb : DS → SO} {cx : Str → Option Bool} {i : Nat} {ms : Exn → Addr → DS → SO} {st : DS} (h : ∀ x st1, mb st ≠ .ex x st1) : tryS mb cx i ms st = mb st := by
  unfold tryS
  split
  · rename_i e; exact absurd e (h _ _)
  · rfl
theorem choose_eq {r : SO} {p : Addr → SO} (hr : r ≠ .stuck) (h : ∀ a, p a = r) (z : ∃ r, r ≠ SO.stuck ∧ ∀ a, p a = r) : z.choose = r := by
  have := z.choose_spec.2 0
  rw [← this, h 0]
theorem tryS_ex {mb : DS → SO} {cx : Str → Option Bool} {i : Nat} {ms : Exn → Addr → DS → SO} {st st1 : DS} {r : SO} {x : Exn} (h : mb st = .ex x st1) (hc : cx x.name = some true) (hne : r ≠ .stuck) (k : ∀ a, clrS i (ms x a (st1.set i (some (.val (.obj a))))) = r) : tryS mb cx i ms st = r := by
  unfold tryS
  rw [h]
  simp only [hc]
  have z : ∃ r, r ≠ SO.stuck ∧ ∀ a, clrS i (ms x a (st1.set i (some (.val (.obj a))))) = r := ⟨_, hne, k⟩
  rw [dif_pos z, choose_eq hne k z]
section
variable {X : Cx} {pn : List Nat} {x n : Str} {C : Addr} {i : Nat} {b : List Stmt} {b0 : Stmt} {suite : List Stmt} {np pos pos' : Pos} {mb : DS → SO} {cx : Str → Option Bool} {ms : Exn → Addr → DS → SO}
theorem ds_try_as (hs : X.stack = X.env :: X.outer) (hf : X.env.frame = some X.env.locals) (hN : X.N.Nodup) (hi : X.N[i]? = some n) (hln : X.env.kindOf n = some .local) (hc : Names X x (.ref C)) (hp : i ∉ pn)
    (hcx : ∀ y b cls, cx y = some b → X.mg y = some cls → PySem.W.exmOne X.K cls (.ref C) = some b)
    (hb : ∀ (pl : List (Addr × Obj)) (xe : Value → Shared → Prop), PassesOwn (model X.prog X.w) X.A X.env xe → DSs (X.tr pl xe) pn b mb)
    (hsu : ∀ (y : Exn) (a : Addr) (oe : Obj) (cls : Value) (d : Option Addr) (pl : List (Addr × Obj)), Zc cls d oe → (∃ vs, oe.data = .fields vs) → X.mg y.name = some cls → (y.arg = none → d = none) → cx y.name = some true → DSs (X.suite a ((a, oe) :: pl)) (i :: pn) (b0 :: suite) (ms y a)) :
    DSt X pn (.Try b [.ExceptHandler (some (.Name x np)) (some n) (b0 :: suite) pos'] [] [] pos) (tryS mb cx i ms) := by
  refine ⟨fun Wx tk => ps_imp (ps_try_as (tb := fun W => tS X pn W mb) (ts := fun a cls d D σ H => ∃ y, XR X.mg X.K y cls d H ∧ cx y.name = some true ∧ tS X (i :: pn) W0 (ms y a) D σ H) hs hf hN hi hln hc tk (fun W pl xe tkW po => (hb pl xe po).ps W tkW) (fun a oe cls d pl hz hv => ⟨fun pins s σ H D I ⟨y, hx, hy, q⟩ => ?_⟩)) fun D σ H ⟨Γ, st, hnp, r, q⟩ => ?_⟩
  · have hd : y.arg = none → d = none := fun e => by
      have := hx.2
      rw [e] at this; exact this
    exact ((hsu y a oe cls d pl hz hv hx.1 hd hy).ps W0 takes0).run pins s σ H D I q
  · refine ⟨Γ, st, hnp, r, ?_⟩
    have q0 : finS X Wx Γ H (tryS mb cx i ms st) D := q
    unfold tryS at q0
    cases e : mb st with
    | nx st1 => rw [e] at q0; exact q0
    | rt w st1 => rw [e] at q0; exact q0
    | bk st1 => rw [e] at q0; exact q0
    | ct st1 => rw [e] at q0; exact q0
    | stuck => rw [e] at q0; exact q0
    | ex y st1 =>
      rw [e] at q0
      intro cls d σ1 H1 r1 g1 hx
      cases hy : cx y.name with
      | none => simp only [hy] at q0; exact q0.elim
      | some k =>
        refine ⟨k, hcx y.name k cls hy hx.1, fun hk a ha => ?_, fun hk => ?_⟩
        · subst hk
          simp only [hy] at q0
          refine ⟨y, hx, hy, ?_⟩
          by_cases z : ∃ r, r ≠ SO.stuck ∧ ∀ a, clrS i (ms y a (st1.set i (some (.val (.obj a))))) = r
          · rw [dif_pos z] at q0
            have hi1 : i < σ1.length ∨ ¬ i < st1.length := by
              obtain ⟨⟨fp, hsr, _⟩, _⟩ := r1
              rw [hsr.length]; exact Nat.lt_or_ge i st1.length |>.imp id (fun h => by omega)
            have hset : Rel X.K Γ (st1.set i (some (.val (.obj a)))) (σ1.set i (some (.ref a))) H1 [] := by
              by_cases hl : i < st1.length
              · exact r1.set (fx := []) hl (.val (.obj a)) (hnp i hp)
              · obtain ⟨⟨fp, hsr, _⟩, _⟩ := id r1
                have h1 : st1.set i (some (.val (.obj a))) = st1 := List.set_eq_of_length_le (by omega)
                have h2 : σ1.set i (some (V.ref a)) = σ1 := List.set_eq_of_length_le (by rw [hsr.length]; omega)
                rw [h1, h2]; exact r1
            refine ⟨Γ, st1.set i (some (.val (.obj a))), fun j hj p hp' => hnp j (fun zz => hj (List.mem_cons_of_mem _ zz)) p hp', hset, ?_⟩
            have es := z.choose_spec.2 a
            rw [← es] at q0
            cases ec : ms y a (st1.set i (some (.val (.obj a)))) with
            | nx st2 =>
              rw [ec] at q0
              exact fun σ' H' r' g' => q0 _ H' (r'.gone (hnp i hp)) (g1.trans g')
            | bk st2 =>
              rw [ec] at q0
              exact fun σ' H' r' g' => q0 _ H' (r'.gone (hnp i hp)) (g1.trans g')
            | ct st2 =>
              rw [ec] at q0
              exact fun σ' H' r' g' => q0 _ H' (r'.gone (hnp i hp)) (g1.trans g')
            | rt w st2 =>
              rw [ec] at q0
              exact fun v σ' H' fw r' g' rs => q0 v σ' H' fw r'.forget (g1.trans g') rs
            | ex x2 st2 => rw [ec] at q0; exact q0.elim
            | stuck => rw [ec] at q0; exact q0.elim
          · rw [dif_neg z] at q0; exact q0.elim
        · subst hk
          simp only [hy] at q0
          exact q0 cls d σ1 H1 r1 g1 hx
def objAt (st : DS) (i : Nat) (a : Addr) : Bool := match st[i]? with
  | some (some (.val (.obj b))) => b == a
  | _ => false
theorem objAt_ok {st : DS} {i : Nat} {a : Addr} (h : objAt st i a = true) : st[i]? = some (some (.val (.obj a))) := by
  unfold objAt at h
  split at h
  · rename_i b e
    rw [e, beq_iff_eq.mp h]
  · cases h
/-- isinstance(e, c) in an except suite -/
theorem de_isE {k : Nat} {n : Nat} {D2 : Addr} {y : Str} {a D : Addr} {oe : Obj} {pl : List (Addr × Obj)} {e : Expr} {p p2 : Pos} {bb : Bool} (T : Bt X.mg) (hE : ExcC X.K D) (hz : Zc (.ref D) none oe) (hv : ∃ vs, oe.data = .fields vs) (hg : Gl (X.suite a ((a, oe) :: pl)) "isinstance")
    (hy : PE (X.suite a ((a, oe) :: pl)) (.Name y p2) (tC (.ref D2))) (hk : PySem.W.kitOne X.K (.ref D) (.ref D2) = some bb) (he : PE (X.suite a ((a, oe) :: pl)) e (tVar i))
    (hst : starEach [e, .Name y p2] X.env = (false, eval e X.env) :: starEach [.Name y p2] X.env := by rfl) (hst2 : starEach [.Name y p2] X.env = (false, eval (.Name y p2) X.env) :: starEach [] X.env := by rfl)
    (hpl : (backTo pos (starEach [.Name y p2] X.env)).any (·.1) = false := by rfl) :
    DE (X.suite a ((a, oe) :: pl)) (.Call (.Name "isinstance" p) [e, .Name y p2] [] pos) fun st => if objAt st i a then .ok (.bl bb) st else .stuck := by
  refine ⟨fun Wx tk => pe_imp (pe_callB (call_isE hE hz hv) hg T.isinstance boot_isinstance (pa_cons he (pa_cons hy pa_nil hst2) hst) (by decide) (by decide) hst hpl) fun σ H Q ⟨Γ, st, r, q⟩ => ?_⟩
  by_cases hc : objAt st i a = true
  · have q' : fin (X.suite a ((a, oe) :: pl)) Wx Γ σ H (if objAt st i a = true then .ok (Py.bl bb) st else .stuck) _ := q
    rw [if_pos hc] at q'
    obtain ⟨v, fp, e1, rs⟩ := r.get (objAt_ok hc)
    have rd := rs.data rfl
    cases rd
    exact ⟨_, e1, .ref D2, _, bb, rfl, fun u hu => hu, hk, q' _ H r (Gr.refl H) (.bl _)⟩
  · have q' : fin (X.suite a ((a, oe) :: pl)) Wx Γ σ H (if objAt st i a = true then .ok (Py.bl bb) st else .stuck) _ := q
    rw [if_neg hc] at q'
    exact q'.elim
end

/-! ### a def -/
def outsOf (n : Nat) (pn : List Nat) (st : DS) : DS := (List.range n).map fun i => if i ∈ pn then (st[i]?).join else none
/-- a def of n parameters, N names; the objects of the parameters pn come back -/
def runF (n N : Nat) (pn : List Nat) (mb : DS → SO) : FM := fun ws => match mb (ws.map some ++ List.replicate (N - n) none) with
  | .nx st => .ret (.val .non) (outsOf n pn st)
  | .rt w st => .ret w (outsOf n pn st)
  | .ex x st => .ex x (outsOf n pn st)
  | _ => .stuck
theorem SR.pad {K : PySem.W.Frag} {H : Hp} : ∀ {σ : L2.St} {st : DS} {fp : List Addr} (k : Nat), SR K H σ st fp → SR K H (σ ++ List.replicate k none) (st ++ List.replicate k none) fp
  | _, _, _, 0, .nil => .nil
  | _, _, _, k + 1, .nil => .no (SR.pad k .nil)
  | _, _, _, k, .no h => .no (SR.pad k h)
  | _, _, _, k, .yes h t => .yes h (SR.pad k t)
theorem outs_ok {K : PySem.W.Frag} {H : Hp} {σ' : L2.St} {st' : DS} {fp : List Addr} {n : Nat} {pn : List Nat} {vs : List V} (h : SR K H σ' st' fp) (hl : vs.length = n) (hpin : ∀ i v, i ∈ pn → vs[i]? = some v → σ'[i]? = some (some v)) :
    ∃ fo, SR K H (vs.map some) (outsOf n pn st') fo ∧ fo.Sublist fp := by
  have len : (outsOf n pn st').length = n := by unfold outsOf; simp
  have at_ : ∀ (i : Nat) (w : Sv), (outsOf n pn st')[i]? = some (some w) → i < n ∧ i ∈ pn ∧ st'[i]? = some (some w) := by
    intro i w e
    have hi : i < n := by rw [← len]; exact (List.getElem?_eq_some_iff.mp e).1
    unfold outsOf at e
    rw [List.getElem?_map, List.getElem?_range hi] at e
    simp only [Option.map_some, Option.some.injEq] at e
    split at e
    · rename_i hm; exact ⟨hi, hm, join_some e⟩
    · cases e
  by_cases hle : n ≤ st'.length
  · refine h.sub (by rw [List.length_map, len, hl]) (by rw [len]; exact hle) fun i w e => ?_
    obtain ⟨h1, h2, h3⟩ := at_ i w e
    refine ⟨h3, ?_⟩
    have hv : vs[i]? = some (vs[i]'(by omega)) := List.getElem?_eq_getElem (by omega)
    rw [hpin i _ h2 hv, List.getElem?_map, hv]; rfl
  · -- the state has always n slots; pad it
    have h2 := h.pad (n - st'.length)
    refine h2.sub (by rw [List.length_map, len, hl]) (by rw [len, List.length_append, List.length_replicate]; omega) fun i w e => ?_
    obtain ⟨h1, h2', h3⟩ := at_ i w e
    have hi : i < st'.length := (List.getElem?_eq_some_iff.mp h3).1
    refine ⟨by rw [List.getElem?_append_left hi]; exact h3, ?_⟩
    have hv : vs[i]? = some (vs[i]'(by omega)) := List.getElem?_eq_getElem (by omega)
    rw [List.getElem?_append_left (by rw [h.length]; exact hi), hpin i _ h2' hv, List.getElem?_map, hv]; rfl
section
variable {P : Program} {w : World} {K : PySem.W.Frag} {mg : Str → Option Value} {base : Heap}
/-- a def's body, entered -/
theorem fn_body {qual : Str} {scope : Scope} {st : List Stmt} {f : Addr} {N : List Str} {n : Nat} {pn : List Nat} {mb : DS → SO} {cdv : Value} {A : Around} {outer : List Env} {s : Shared} {H : Hp} {vs : List V} {Q : VK} {E : XK}
    (body : DSs (cxOf (L2.CX P w) P w K mg base N qual scope f cdv A outer s H E) pn st mb) (h : spD mg K n (runF n N.length pn mb) vs H Q E) :
    ∃ t, PSs (cxOf (L2.CX P w) P w K mg base N qual scope f cdv A outer s H E) st t ∧ t { nx := fun _ H' => Q .non H', rt := Q } (L2.start N vs) H := by
  obtain ⟨hl, ws, fp, sr, nd, tb, q⟩ := h
  have tk : Takes (cxOf (L2.CX P w) P w K mg base N qual scope f cdv A outer s H E) (fun cls d _ H => E cls d H) := takes_of rfl rfl rfl rfl
  refine ⟨_, body.ps _ tk, ?_⟩
  have hpin : ∀ p ∈ (pn.filterMap fun i => vs[i]?.map fun v => (i, v)), p.1 ∈ pn ∧ vs[p.1]? = some p.2 := fun p hp => by
    obtain ⟨i, hi, e⟩ := List.mem_filterMap.mp hp
    obtain ⟨v, e1, e2⟩ := map_some e
    subst e2
    exact ⟨hi, e1⟩
  have hst : L2.start N vs = vs.map some ++ List.replicate (N.length - n) none := by unfold L2.start; rw [hl]
  have hrel : Rel K ⟨H, fp, pn.filterMap fun i => vs[i]?.map fun v => (i, v)⟩ (ws.map some ++ List.replicate (N.length - n) none) (L2.start N vs) H [] := by
    refine ⟨⟨fp, by rw [hst]; exact sr.pad _, by simpa using nd, fun b hb => .inr (by simpa using hb)⟩, nofun, ⟨fun b o e _ => .inl e, tb⟩, fun p hp => ?_⟩
    obtain ⟨_, e⟩ := hpin p hp
    have hi : p.1 < vs.length := (List.getElem?_eq_some_iff.mp e).1
    rw [hst, List.getElem?_append_left (by simpa using hi), List.getElem?_map, e]; rfl
  refine ⟨⟨H, fp, pn.filterMap fun i => vs[i]?.map fun v => (i, v)⟩, _, fun i hi p hp e => hi (e ▸ (hpin p hp).1), hrel, ?_⟩
  have pins : ∀ {st' : DS} {σ' : L2.St} {H' : Hp} {fx : List Addr}, Rel K ⟨H, fp, pn.filterMap fun i => vs[i]?.map fun v => (i, v)⟩ st' σ' H' fx → ∃ fo, SR K H' (vs.map some) (outsOf n pn st') fo ∧ (fx ++ fo).Nodup ∧ (∀ b ∈ fx ++ fo, H b = none ∨ b ∈ fp) ∧ SameBut fp H H' := fun {st' σ' H' fx} r => by
    obtain ⟨⟨fq, hs, nd2, mi⟩, fo0, sm, pp⟩ := r
    obtain ⟨fo, h1, h2⟩ := outs_ok (pn := pn) hs hl fun i v hi hv => pp (i, v) (List.mem_filterMap.mpr ⟨i, hi, by rw [hv]; rfl⟩)
    have sub : (fx ++ fo).Sublist (fx ++ fq) := List.Sublist.append (List.Sublist.refl _) h2
    exact ⟨fo, h1, nd2.sublist sub, fun b hb => mi b (sub.subset hb), ⟨fun b o e n => sm.1 b o e n, fun _ => sm.2⟩⟩
  unfold runF at q
  cases e : mb (ws.map some ++ List.replicate (N.length - n) none) with
  | nx st' =>
    rw [e] at q
    intro σ' H' r' g'
    obtain ⟨fo, h1, h2, h3, h4⟩ := pins r'
    exact q .non H' [] fo (.val .non) h1 h2 h3 h4
  | rt w' st' =>
    rw [e] at q
    intro v σ' H' fw r' g' rs
    obtain ⟨fo, h1, h2, h3, h4⟩ := pins r'
    exact q v H' fw fo rs h1 h2 h3 h4
  | ex x' st' =>
    rw [e] at q
    intro cls d σ' H' r' g' hx
    obtain ⟨fo, h1, h2, h3, h4⟩ := pins r'
    exact q cls d H' fo hx h1 (by simpa using h2) (fun b hb => h3 b (by simpa using hb)) h4
  | bk st' => rw [e] at q; exact q.elim
  | ct st' => rw [e] at q; exact q.elim
  | stuck => rw [e] at q; exact q.elim
theorem fnok_mk {x qual : Str} {st : Stmt} {f : Addr} {fd : FuncData} {N ps : List Str} {k n : Nat} {pn : List Nat} {mb : DS → SO} (F : Fun K x qual st f fd) (S : FnScope N ps (defScope st)) (hn : ps.length = n) (hnN : n ≤ N.length)
    (body : ∀ (cdv : Value) (A : Around) (outer : List Env) (s : Shared) (H : Hp) (E : XK), Room k (A.deeper (envOfC qual (defScope st) s.heap.objs.size f cdv)) → DSs (cxOf (L2.CX P w) P w K mg base N qual (defScope st) f cdv A outer s H E) pn (defBody st) mb) :
    FnOk P w K mg base (L2.CX P w) (k + 1) f fd ps (spD mg K n (runF n N.length pn mb)) :=
  F.okX S (fun vs H Q E h => h.1.trans hn.symm) fun cdv A outer s H vs Q E hr h => fn_body (body cdv A outer s H E hr) h
theorem dfn_mk {x qual : Str} {st : Stmt} {f : Addr} {fd : FuncData} {N ps : List Str} {k n : Nat} {pn : List Nat} {mb : DS → SO} (F : Fun K x qual st f fd) (S : FnScope N ps (defScope st)) (hm : mg x = some (.ref f)) (hb : Binds K fd ps []) (hn : ps.length = n) (hnN : n ≤ N.length)
    (body : ∀ (cdv : Value) (A : Around) (outer : List Env) (s : Shared) (H : Hp) (E : XK), Room k (A.deeper (envOfC qual (defScope st) s.heap.objs.size f cdv)) → DSs (cxOf (L2.CX P w) P w K mg base N qual (defScope st) f cdv A outer s H E) pn (defBody st) mb) :
    DFn P w K mg base (k + 1) x n (runF n N.length pn mb) := ⟨f, fd, ps, hm, F.kp, hb, hn, fnok_mk F S hn hnN body⟩

end
end DL

/-! ## DL12 -/
namespace DL
open PySem PySem.Spec PyProof.Rows L2
variable [Tb]

/-! ### tuple(d), by what list(d) has -/
section
variable {prog : Program} {w : World} {A : Around} {E : Value → Shared → Prop} {s : Shared} {T : String} {r d : Addr} {n : Nat} {P : Nat → Value → Prop} {OK : Heap → Prop}
theorem collect_src {Q : List Value → Shared → Prop} (K : PySem.W.KdlSrc prog w T r d n P OK) (hh : A.handled = none) (hok : OK s.heap) (hn : n ≤ sizeLine)
    (hQ : ∀ (h' : Heap) (tk : Nat) (acc : Array Value), (∀ b o, s.heap.get? b = some o → h'.get? b = some o) → ItemsOf P acc n → Q acc.toList { s with heap := h', toks := tk }) :
    wpAny (model prog w) A (collect (.ref r)) Q E s := by
  unfold collect
  refine wpAny_bind (wpAny_runValue (codeAny_builtin F.entry_proto_collect ?_))
  rw [Around.under_plainId F.plain_proto_collect _]
  show wpAny _ A.in1 (newList [] >>= fun l => again (.builtin "list.__iadd__" ⟨[l, .ref r], []⟩)) _ _ s
  refine wpAny_bind (wpAny_newObj_type (wpAny_pure ⟨plainId_quiet F.plain_list_iadd _, codeAny_builtin F.entry_list_iadd ?_⟩))
  rw [Around.under_plainId F.plain_list_iadd _]
  have there := K.there _ hok
  have fresh : ∀ (l : List Value), (s.heap.push { cls := .type "list", data := .seq l.toArray }).get? s.heap.objs.size = some { cls := .type "list", data := .seq l.toArray } := fun l => Heap.get?_push_size _ rfl
  have grown := PySem.W.kdl_extend (A := A) (s := { s with heap := s.heap.push { cls := .type "list", data := .seq ([] : List Value).toArray } })
    (R := fun rr s' => rr = .ok (.ret (.ref s.heap.objs.size)) ∧ ∃ (h' : Heap) (tk : Nat) (acc : Array Value) (c' : Nat), s' = { s with heap := h', toks := tk } ∧ (∀ b o, s.heap.get? b = some o → h'.get? b = some o) ∧
      h'.get? s.heap.objs.size = some { cls := .type "list", dict := none, data := .seq acc c', slots := #[] } ∧ ItemsOf P acc n)
    K hh (K.keep _ _ hok fun b _ o e => Heap.get?_push_of_some _ e) s.heap.objs.size (Nat.ne_of_gt there.1) (Nat.ne_of_gt there.2) (.ref s.heap.objs.size) 0 (fresh [])
    (fun h' tk acc c' hk e hi => ⟨rfl, h', tk, acc, c', rfl, fun b o q => hk b o (Nat.ne_of_lt (Heap.lt_size q)) (Heap.get?_push_of_some _ q), e, hi⟩) hn
  have landed : ∀ {rr : Result} {s' : Shared}, (rr = .ok (.ret (.ref s.heap.objs.size)) ∧ ∃ (h' : Heap) (tk : Nat) (acc : Array Value) (c' : Nat), s' = { s with heap := h', toks := tk } ∧ (∀ b o, s.heap.get? b = some o → h'.get? b = some o) ∧
      h'.get? s.heap.objs.size = some { cls := .type "list", dict := none, data := .seq acc c', slots := #[] } ∧ ItemsOf P acc n) → ∃ (h' : Heap) (tk : Nat) (acc : Array Value), rr = .ok (.ret (.ref s.heap.objs.size)) ∧ s' = { s with heap := h', toks := tk } ∧
      (∃ c', h'.get? s.heap.objs.size = some { cls := .type "list", dict := none, data := .seq acc c', slots := #[] }) ∧ (∀ b o, s.heap.get? b = some o → h'.get? b = some o) ∧ ItemsOf P acc n :=
    fun ⟨e, h', tk, acc, c', es, hk, hS, hi⟩ => ⟨h', tk, acc, e, es, ⟨c', hS⟩, hk, hi⟩
  refine wpAny_mono grown (fun fin s' h => ?_) fun e s' h => absurd h.1 (by simp)
  cases fin with
  | done f =>
    obtain ⟨h', tk, acc, e, rfl, ⟨c', hS⟩, hk, hi⟩ := landed h
    cases e
    show wpAny _ A (load s.heap.objs.size >>= _) _ _ _
    exact wpAny_bind (wpAny_load hS (wpAny_pure (hQ h' tk acc hk hi)))
  | again c1 =>
    refine ⟨h.1, codeAny_mono h.2 fun rr s2 h2 => ?_⟩
    obtain ⟨h', tk, acc, rfl, rfl, ⟨c', hS⟩, hk, hi⟩ := landed h2
    show wpAny _ A (load s.heap.objs.size >>= _) _ _ _
    exact wpAny_bind (wpAny_load hS (wpAny_pure (hQ h' tk acc hk hi)))
theorem tuple_src {Q : Value → Shared → Prop} (K : PySem.W.KdlSrc prog w "dict" r d n P OK) (hh : A.handled = none) (hok : OK s.heap) (hn : n ≤ sizeLine)
    (hQ : ∀ (h' : Heap) (tk : Nat) (acc : Array Value), (∀ b o, s.heap.get? b = some o → h'.get? b = some o) → ItemsOf P acc n → Q (.ref h'.objs.size) { s with heap := h'.push { cls := .type "tuple", data := .seq acc }, toks := tk }) :
    wpAny (model prog w) A (call (.type "tuple") [.ref r]) Q E s := by
  have code : codeAny (model prog w) A.in1 (.call (.builtin "tuple.__new__") ⟨[.type "tuple", .ref r], []⟩) (wants (fun obj s1 => s1.TypeIs obj "tuple" ∧ Q obj s1) E) s := by
    refine codeAny_of_tree ?_
    show wpAny _ A.in1.in1 (do checkBuiltinCall "tuple.__new__" ⟨[.type "tuple", .ref r], []⟩; again (.builtin "tuple.__new__" ⟨[.type "tuple", .ref r], []⟩)) _ _ s
    refine wpAny_bind (wpAny_of_eq (F.newCall_tuple_1 _) (wpAny_pure ⟨plainId_quiet F.plain_tuple_new _, codeAny_builtin F.entry_tuple_new ?_⟩))
    rw [Around.under_plainId F.plain_tuple_new _]
    have k1 := sub_tuple_self
    have k2 := init_tuple_lookup
    have k3 := madeHere_tuple
    have k4 := K.type s hok
    have k6 : A.in1.in1.handled = none := hh
    wp_walk using wpAny_typeOf k4, collect_src (A := A.in1.in1) K k6 hok hn
    intro h' tk acc hk hacc
    show wpAny _ _ (Builtin.Tuple.tupleExact acc.toList.toArray >>= fun v => ret v) _ _ _
    unfold Builtin.Tuple.tupleExact
    refine wpAny_bind (wpAny_newObj_type (wpAny_pure ?_) (by show acc.toList.toArray.size ≤ sizeLine; simp only [Array.toArray_toList]; rw [hacc.1]; exact hn))
    rw [show acc.toList.toArray = acc by simp]
    exact ⟨⟨_, Heap.get?_push_size _ rfl, rfl⟩, hQ h' tk acc hk hacc⟩
  refine callType_codes (Q₁ := fun obj s₁ => s₁.TypeIs obj "tuple" ∧ Q obj s₁) F.called_tuple (F.typeCall_tuple_1 _) F.entry_object_init code fun obj s1 h1 => ?_
  exact ⟨h1.1, F.args_object_init_2 obj _, object_init_meets F.called_tuple.init.lookup F.called_tuple.made (by decide) prog w A.in1 _ s1 ⟨h1.1, rfl, h1.2⟩⟩
end
section
variable {X : Cx}
theorem call_tuple_dK (hc : X.calm = true) : CallR X (.type "tuple") (fun xs H Q => ∃ d kvs, xs = [.ref d] ∧ Rd H d (.dK kvs) ∧ ∀ p, H p = none → Q (.ref p) (upd H p (.tup (kvs.map fun kv => kV kv.1)))) := by
  intro pins s σ H xs us Q I r h
  obtain ⟨p, kvs, rfl, hk, q⟩ := h
  obtain ⟨u, rfl, rx⟩ := vals1 r
  obtain rfl : u = Value.ref p := rx
  obtain ⟨z, lo, vs, rk, hd⟩ := dk_rd I.hok hk
  obtain ⟨ep, hat⟩ := hd.dictAt
  have hl : kvs.length = vs.length := Paired.length rk
  refine tuple_src (PySem.W.kdl_dict (knd := mixKind X.prog X.w) (kvs := vs) (ep := ep) lo) (I.ok.hd hc) hat (by rw [← hl]; exact z) fun h' tk acc hkeep hacc => ?_
  have I' : Inv X pins σ H { s with heap := h', toks := tk } := I.kept hkeep
  refine ⟨.ref h'.objs.size, upd H h'.objs.size (.tup (kvs.map fun kv => kV kv.1)), I'.laid (t' := tk) (fun b o e => Heap.get?_push_of_some _ e) (Nat.le_refl _) ?_, rfl, q _ (I'.hok.fresh (Nat.le_refl _))⟩
  refine ⟨by rw [List.length_map]; exact z, acc.toList, vals_of_at (by have e0 := hacc.1; rw [List.length_map, hl, ← e0]; simp) fun j x w h1 h2 => ?_, _, Heap.get?_push_size _ rfl, rfl, 0, by simp⟩
  obtain ⟨k, y, hky, hi⟩ := hacc.2 j w (by rw [← Array.getElem?_toList]; exact h2)
  have e1 : (kvs.map (·.1))[j]? = some k := by rw [KV.keys rk, List.getElem?_map, hky]; rfl
  have e2 : (kvs.map fun kv => kV kv.1)[j]? = some (kV k) := by
    rw [show (kvs.map fun kv => kV kv.1) = (kvs.map (·.1)).map kV by rw [List.map_map]; rfl, List.getElem?_map, e1]; rfl
  rw [e2] at h1
  cases h1
  exact keyIs_rel hi
theorem call_tuple_dT (hc : X.calm = true) : CallR X (.type "tuple") (fun xs H Q => ∃ d kvs, xs = [.ref d] ∧ Rd H d (.dT kvs) ∧ ∀ p bs, H p = none → IsKeys H kvs bs → Q (.ref p) (upd H p (.tup (bs.map V.ref)))) := by
  intro pins s σ H xs us Q I r h
  obtain ⟨d, kvs, rfl, hd, q⟩ := h
  obtain ⟨u, rfl, rx⟩ := r.one
  cases rx
  obtain ⟨z, hs, ks, pr, o, es, ep, ho, hx, hdt, he, hn⟩ := (show ObjOk X.prog X.w H s.heap d (.dT kvs) from hd.ok I.hok)
  have l1 : es.size = ks.length := size_of_entries he
  have l2 : kvs.length = ks.length := Paired.length pr
  refine tuple_src (kdl_raw hs hx hdt) (I.ok.hd hc) ho (by omega) fun h' tk acc kp it => ?_
  have I' : Inv X pins σ H { s with heap := h', toks := tk } := I.kept kp
  refine ⟨.ref h'.objs.size, upd H h'.objs.size (.tup ((ks.map fun x => x.2.1).map V.ref)), I'.laid (t' := tk) (fun b o e => Heap.get?_push_of_some _ e) (Nat.le_refl _) ?_, rfl, q _ _ (I'.hok.fresh (Nat.le_refl _)) (isKeys_of pr)⟩
  have len : acc.toList.length = ks.length := by rw [Array.length_toList, it.1]; exact l1
  refine ⟨by rw [List.length_map, List.length_map]; omega, acc.toList, vals_of_at (by rw [List.length_map, List.length_map, len]) fun j x w h1 h2 => ?_, _, Heap.get?_push_size _ rfl, rfl, 0, by simp⟩
  obtain ⟨en, hen, hv⟩ := it.2 j w (by rw [← Array.getElem?_toList]; exact h2)
  have qe := entry_at he j
  rw [hen] at qe
  cases hb : ks[j]? with
  | none => rw [hb] at qe; exact nomatch (show some en = none from qe)
  | some b =>
    rw [hb] at qe
    have ee : en = entryOfKey (tupleKind (mixKind X.prog X.w)) b := Option.some.inj qe
    rw [List.getElem?_map, List.getElem?_map, hb] at h1
    have ex : x = V.ref b.2.1 := (Option.some.inj h1).symm
    rw [ex, hv, ee]
    rfl
end
/-- the keys of a dict that a slot or a value holds -/
def keysS : Sv → Option (List Py)
  | .dic kvs => some (kvs.map (·.1))
  | .val (.dic kvs) => some (kvs.map (·.1))
  | .dit kvs => some (kvs.map (·.1))
  | .val (.dit kvs) => some (kvs.map (·.1))
  | _ => none
def tupS (w : Sv) : Option Py := match w with
  | .dic kvs => some (.tup (kvs.map (·.1)))
  | .val (.dic kvs) => some (.tup (kvs.map (·.1)))
  | .dit kvs => some (.tup (kvs.map (·.1)))
  | .val (.dit kvs) => some (.tup (kvs.map (·.1)))
  | w => (itemsS w).map .tup
theorem RK.keys {K : PySem.W.Frag} {H : Hp} : ∀ {ks : List (Key × V)} {kvs : List (Py × Py)}, RK K H ks kvs → RA K H (ks.map fun kv => kV kv.1) (kvs.map (·.1))
  | _, _, .nil => .nil
  | _, _, @RK.cons _ _ k v d ks kvs h t => .cons (by cases k <;> constructor) (RK.keys t)
theorem RA.keyPs {K : PySem.W.Frag} {H : Hp} : ∀ ks : List Key, RA K H (ks.map kV) (ks.map keyP)
  | [] => .nil
  | k :: ks => .cons (by cases k <;> constructor) (RA.keyPs ks)
theorem RT.keys {K : PySem.W.Frag} {H : Hp} : ∀ {ks : List (List Key × V)} {kvs : List (Py × Py)} {bs : List Addr}, RT K H ks kvs → IsKeys H ks bs → RA K H (bs.map V.ref) (kvs.map (·.1))
  | _, _, [], .nil, _ => .nil
  | _, _, b :: bs, .cons h t, k => by
    cases k with
    | cons k1 k2 => exact .cons (.tup k1 (RA.keyPs _)) (RT.keys t k2)
section
variable {X : Cx} {a : Expr} {ma : DS → ER Ar} {p pos : Pos}
theorem de_tup1 (hc : X.calm = true) (T : Bt X.mg) (hg : Gl X "tuple") (ha : DX X a ma) (he : starEach [a] X.env = (false, eval a X.env) :: starEach [] X.env := by rfl) (hpl : (backTo pos (starEach [] X.env)).any (·.1) = false := by rfl) :
    DE X (.Call (.Name "tuple" p) [a] [] pos) (e1 ma tupS) :=
  de_t1 (call_tuple_of.or ((call_tuple_dK hc).or (call_tuple_dT hc))) hg T.tuple (boot_cls .tuple (by decide)) ha (fun v w fp H d Q rs hf q => by
    have dK : ∀ (a : Addr) (ks : List (Key × V)) (kvs : List (Py × Py)), v = .ref a → Rd H a (.dK ks) → RK X.K H ks kvs → d = .tup (kvs.map (·.1)) → ∃ d kvs, [v] = [.ref d] ∧ Rd H d (.dK kvs) ∧ ∀ p, H p = none → Q (.ref p) (upd H p (.tup (kvs.map fun kv => kV kv.1))) := by
      intro a ks kvs hv hr hk hd
      subst hv hd
      refine ⟨a, ks, rfl, hr, fun p hp => ?_⟩
      have s : Same H (upd H p (.tup (ks.map fun kv => kV kv.1))) := Same.new hp
      exact q _ _ s (.tup upd_same (hk.keys.mono (Same.gr s)))
    have dT : ∀ (a : Addr) (ks : List (List Key × V)) (kvs : List (Py × Py)), v = .ref a → Rd H a (.dT ks) → RT X.K H ks kvs → d = .tup (kvs.map (·.1)) → ∃ d kvs, [v] = [V.ref d] ∧ Rd H d (.dT kvs) ∧ ∀ p bs, H p = none → IsKeys H kvs bs → Q (.ref p) (upd H p (.tup (bs.map V.ref))) := by
      intro a ks kvs hv hr hk hd
      subst hv hd
      refine ⟨a, ks, rfl, hr, fun p bs hp ik => ?_⟩
      have s : Same H (upd H p (.tup (bs.map V.ref))) := Same.new hp
      exact q _ _ s (.tup upd_same ((hk.keys ik).mono (Same.gr s)))
    have seq : ∀ ds, itemsS w = some ds → d = .tup ds → ∃ p ys, [v] = [.ref p] ∧ ((SqL X.K H p ys ∧ ∀ l, H l = none → Q (.ref l) (upd H l (.tup ys))) ∨ (SqT X.K H p ys ∧ Q (.ref p) H)) := by
      intro ds hi hd
      subst hd
      obtain ⟨l, xs, rfl, hs, ra⟩ := rs.seq hi
      refine ⟨l, xs, rfl, ?_⟩
      rcases hs with hs | hs
      · refine .inl ⟨hs, fun p hp => ?_⟩
        have s : Same H (upd H p (.tup xs)) := Same.new hp
        exact q _ _ s (.tup upd_same (ra.mono (Same.gr s)))
      · exact .inr ⟨SqT.of hs, q _ _ (Same.refl H) (.tup hs ra)⟩
    unfold tupS at hf
    split at hf
    · cases hf
      cases rs with
      | dK ha hk => exact .inr (.inl (dK _ _ _ rfl (.inl ha) hk rfl))
    · cases hf
      cases rs with
      | val rv =>
        cases rv with
        | dicK ha hk => exact .inr (.inl (dK _ _ _ rfl (.inr ⟨_, ha⟩) hk rfl))
    · cases hf
      cases rs with
      | dT ha hk => exact .inr (.inr (dT _ _ _ rfl (.inl ha) hk rfl))
    · cases hf
      cases rs with
      | val rv =>
        cases rv with
        | dicT ha hk => exact .inr (.inr (dT _ _ _ rfl (.inr ⟨_, ha⟩) hk rfl))
    · obtain ⟨ds, hi, rfl⟩ := map_some hf
      exact .inl (seq ds hi rfl)) (by decide) (by decide) he hpl
end
end DL

/-! ## DL13 -/
namespace DL
open PySem PySem.Spec PyProof.Rows L2
variable [Tb]

/-! ### dict comprehensions, with keys of both kinds -/
theorem dictSet_put {X : Cx} {pins : List (Addr × Obj)} {σ : L2.St} {H H' : Hp} {s : Shared} {E : Value → Shared → Prop} {a : Addr} {y v : V} {u r : Value} {Q : Unit → Shared → Prop} (hu : X.A.units + 1 < cLine) (I : Inv X pins σ H s) (g : DPut H a y v H') (ry : RelV y u) (rv : RelV v r)
    (h : ∀ s', Inv X pins σ H' s' → Q () s') : wpAny (model X.prog X.w) X.A (dictSet a u r) Q E s := by
  rcases g with ⟨kvs, k, e, rfl, l, rfl⟩ | ⟨kvs, k, b, e, rfl, eb, l, rfl⟩
  · exact d_dictSet I e l ry rv h
  · cases (show u = Value.ref b from ry)
    obtain ⟨z, hd, xs, rel, dd⟩ := dt_of I.hok e
    have hl : (putK kvs k v).length ≤ sizeLine := by have := length_putK kvs k v; omega
    refine wpAny_dictSet_heap (hsz := by rw [← Paired.length rel]; exact z) (show X.A.units < cLine by omega) (key_of I.hok eb) dd fun h' dd' hs => h _ ?_
    obtain ⟨q, es, ep, hq, h2, h3, h4, _, h5⟩ := dd'
    refine d_write I (by rw [e]; exact True.intro) hs ⟨q, hq⟩ ⟨hl, hd, _, (rel.put k eb rv).keeps fun c ys ec => ?_, q, es, ep, hq, h2, h3, h4, h5⟩
    rw [upd_ne (ne_of ec e (fun z => nomatch z))]
    exact ec
section
variable {X : Cx}
def tDcA (e0 : HO) (wi : TI) (g : TG) (tt : TT) (tk tv : TE) (vs : List Nat) : TE := fun σ H Q => wi σ H fun J H1 => ∀ D, H1 D = none → ∃ W : Nat → Nat → Hp → Prop, (∃ m, W 0 m (upd H1 D e0)) ∧ ∀ i m H, W i m H →
  (J.stop i H ∧ Q (.ref D) H) ∨ (J.go i H ∧ ∃ Nx : Hp → Prop, (∀ H', Nx H' → ∃ m', m' < m ∧ W (i + 1) m' H') ∧ ∀ x H', J.yld i H x H' → g x (L2.wipe σ vs) H' fun σ2 H2 => L2.wipe σ2 vs = L2.wipe σ vs ∧ tt σ2 H2 fun b H3 =>
    if b = true then tk σ2 H3 fun y H4 => tv σ2 H4 fun z H5 => ∃ Hn, DPut H5 D y z Hn ∧ Nx Hn else Nx H3)
theorem dcA_core {pins : List (Addr × Obj)} {s : Shared} {σ : L2.St} {H : Hp} {Q : VK} {kx vx tg iter : Expr} {ifs : List Expr} {scope : Scope} {own : List (Str × Nat)} {pos pos' : Pos} {e0 : HO} {wi : TI} {g : TG} {tt : TT} {tk tv : TE} {use : Option (Value → Sem Unit)} {Qf : Value → Shared → Prop}
    (he0 : e0 = .dK [] ∨ e0 = .dT []) (hu : X.A.units + 1 < cLine) (hc : X.calm = true) (hN : X.N.Nodup) (I : Inv X pins σ H s) (hi : PI X tg iter wi) (ok : BlkOk X.N X.env.scope scope own)
    (hg : ∀ (s : Shared) (H : Hp) (C : Addr) (cl : List (Str × Addr)) (fq : List Addr), PG (X.blk s H scope (compEnvC scope cl C X.env) fq) tg g) (ht : ∀ (s : Shared) (H : Hp) (C : Addr) (cl : List (Str × Addr)) (fq : List Addr), PTs (X.blk s H scope (compEnvC scope cl C X.env) fq) ifs tt)
    (hk : ∀ (s : Shared) (H : Hp) (C : Addr) (cl : List (Str × Addr)) (fq : List Addr), PE (X.blk s H scope (compEnvC scope cl C X.env) fq) kx tk)
    (he : ∀ (s : Shared) (H : Hp) (C : Addr) (cl : List (Str × Addr)) (fq : List Addr), PE (X.blk s H scope (compEnvC scope cl C X.env) fq) vx tv) (hs : ∀ x, foldedSetIterable iter X.env x = pure x)
    (h : tDcA e0 wi g tt tk tv (own.map (·.2)) σ H Q)
    (hRR : ∀ D C s' m H', Inv X pins σ H' s' → Q (.ref D) H' → s'.heap.Ns C m → FpOk X pins H' C → compPost (model X.prog X.w) X.A X.xe use Qf (.ref D) C (.ok .next) s') :
    wpAny (model X.prog X.w) X.A (comprehension (.DictComp kx vx [⟨tg, iter, ifs, 0⟩] scope pos) scope X.env pos' newDict false (eval iter X.env) use) Qf X.xe s := by
  have hfree : ∀ y ∈ scope.names, y.2 = .free → ∃ c, X.env.cells.lookup y.1 = some c := fun y hy e => by
    rcases ok.free y hy e with k | k
    · exact I.ok.has _ (.inl k)
    · exact I.ok.has _ (.inr k)
  refine wpAny_comprehension_free (use := use) rfl hs (closure_ok hfree) ok.kind (fun y hy e => by rw [ok.uniq y hy, e])
    (thn (hi.run pins s σ H _ I h) fun xv s1 hx => thn hx fun itv s2 h2 => ?_)
  obtain ⟨it, fq, tn, J, H2, e, I2, T, st2, f2, q⟩ := h2
  subst e
  refine wpAny_newObj_type (newEnv_comp ?_)
  generalize hD : s2.heap.objs.size = D
  have hDn : H2 D = none := I2.hok.fresh (Nat.le_of_eq hD)
  obtain ⟨W, ⟨m0, w0⟩, turn⟩ := q D hDn
  -- the new list
  generalize ht3 : ({ s2 with heap := s2.heap.push { cls := .type "dict", data := .dict #[] } } : Shared) = t3
  have I3 : Inv X pins σ (upd H2 D e0) t3 := by
    rw [← ht3]
    refine I2.laid (t' := s2.toks) (fun b o e => Heap.get?_push_of_some _ e) (Nat.le_of_eq hD) ?_
    rw [← hD]
    rcases he0 with z | z <;> subst z
    · exact dk_empty s2.heap I2.big
    · exact dt_empty s2.heap I2.big
  have h3 : t3.heap = s2.heap.push { cls := .type "dict", data := .dict #[] } := by rw [← ht3]
  have sz : ∀ b ∈ fq, b < s2.heap.objs.size := fun b hb => by
    obtain ⟨o, e, _⟩ := T.obj _ _ st2 b hb
    exact Heap.lt_size e
  have f3 : ∀ b ∈ fq, FpOk X pins (upd H2 D e0) b ∧ b < t3.heap.objs.size := fun b hb => by
    have hlt := sz b hb
    refine ⟨⟨?_, (f2 b hb).2⟩, by rw [h3, Heap.size_push]; exact Nat.lt_succ_of_lt hlt⟩
    rw [upd_ne (by rw [← hD]; exact Nat.ne_of_lt hlt)]
    exact (f2 b hb).1
  have sa3 : tn 0 t3.heap := T.keep _ _ _ st2 fun b _ o e => by rw [h3]; exact Heap.get?_push_of_some _ e
  have I4 := block_start I3 ok hN f3
  have pg := hg t3 (upd H2 D e0) t3.heap.objs.size (cellsFrom (t3.heap.objs.size + 1) scope.names (cloFrom X.env.cells scope.names [])) fq
  have pt := ht t3 (upd H2 D e0) t3.heap.objs.size (cellsFrom (t3.heap.objs.size + 1) scope.names (cloFrom X.env.cells scope.names [])) fq
  have pk := hk t3 (upd H2 D e0) t3.heap.objs.size (cellsFrom (t3.heap.objs.size + 1) scope.names (cloFrom X.env.cells scope.names [])) fq
  have pe := he t3 (upd H2 D e0) t3.heap.objs.size (cellsFrom (t3.heap.objs.size + 1) scope.names (cloFrom X.env.cells scope.names [])) fq
  show codeAny _ _ (.compStart (.DictComp kx vx [⟨tg, iter, ifs, 0⟩] scope pos) 0 (.ref it) (.ref D) (compEnvC scope (cellsFrom (t3.heap.objs.size + 1) scope.names (cloFrom X.env.cells scope.names [])) t3.heap.objs.size X.env)) (compPost (model X.prog X.w) X.A X.xe use Qf (.ref D) t3.heap.objs.size) { t3 with heap := pushCells (t3.heap.push { cls := .type "dict", data := .dict #[] }) scope.names }
  have nfp : ∀ b ∈ fq, (upd H2 D e0) b = none := fun b hb => (f3 b hb).1.1
  generalize hcx : compEnvC scope (cellsFrom (t3.heap.objs.size + 1) scope.names (cloFrom X.env.cells scope.names [])) t3.heap.objs.size X.env = cx at I4 pg pt pk pe ⊢
  have cL : cx.locals = t3.heap.objs.size := by subst hcx; rfl
  generalize hG3 : upd H2 D e0 = G3 at I3 I4 pg pt pk pe w0 nfp f3
  generalize ht4 : ({ t3 with heap := pushCells (t3.heap.push { cls := .type "dict", data := .dict #[] }) scope.names } : Shared) = t4 at I4 ⊢
  have sa4 : tn 0 t4.heap := T.keep _ _ _ sa3 fun b _ o e => by rw [← ht4]; exact pushCells_keeps _ _ _ _ (Heap.get?_push_of_some _ e)
  have stat : ∀ {σ' : L2.St} {H' : Hp} {s' : Shared}, Inv (X.blk t3 G3 scope cx fq) [] σ' H' s' → (∀ b ∈ fq, H' b = none) → ∀ b ∈ fq, FpOk (X.blk t3 G3 scope cx fq) [] H' b := fun {σ' H' s'} I' hn b hb =>
    ⟨hn b hb, (I'.ok.exf b hb).1, I'.ok.exfs b hb, .inl hb, fun x c e => (I'.ok.exf b hb).2 x c e, fun p hp => absurd (show p ∈ ([] : List (Addr × Obj)) ++ [] from hp) (by simp)⟩
  have loop : codeAny (model X.prog X.w) X.A (.compLoop (.DictComp kx vx [⟨tg, iter, ifs, 0⟩] scope pos) 0 (.ref it) (.ref D) cx) (compPost (model X.prog X.w) X.A X.xe use Qf (.ref D) t3.heap.objs.size) t4 := by
    refine compLoop_anyD (fun n s' => ∃ i H', Inv (X.blk t3 G3 scope cx fq) [] (L2.wipe σ (own.map (·.2))) H' s' ∧ tn i s'.heap ∧ (∀ b ∈ fq, H' b = none) ∧ W i n H') ?_ m0 ⟨0, G3, I4, sa4, nfp, w0⟩
    rintro n s5 ⟨i, H5, I5, st5, n5, w5⟩
    rcases turn i n H5 w5 with ⟨stop, qq⟩ | ⟨go, Nx, hNx, step⟩
    · have td := T.done (X.blk t3 G3 scope cx fq) rfl rfl rfl hc i [] s5 _ H5 (fun _ _ => False) I5 (stat I5 n5) st5 stop
      refine thnF td fun r s6 ⟨hr, I6⟩ => ?_
      subst hr
      -- back in the def's context
      have I7 : Inv X pins σ H5 s6 := I3.call' (ch := fq) I6.os I6.base I6.hok I6.bare fun b hb => ⟨(f3 b hb).1.2.2.2.1, (f3 b hb).1.2.1, (f3 b hb).1.2.2.2.2.1, (f3 b hb).1.2.2.2.2.2⟩
      have nC : H5 t3.heap.objs.size = none := by
        have z : H5 cx.locals = none := I6.free
        rw [cL] at z
        exact z
      obtain ⟨m, hn, _⟩ := I6.loc
      have hn : s6.heap.Ns cx.locals m := hn
      rw [cL] at hn
      exact hRR D t3.heap.objs.size s6 m H5 I7 qq hn (I3.fpOk (Nat.le_refl _) nC)
    · have ti := T.item (X.blk t3 G3 scope cx fq) rfl rfl rfl hc i [] s5 _ H5 (fun _ _ => False) I5 (stat I5 n5) st5 go
      refine thnF ti fun r s6 ⟨u, hr, h6⟩ => ?_
      subst hr
      refine thnF h6 fun _ s7 ⟨x, H7, I7, r7, y7, st7, n7⟩ => ?_
      have I7' := I7.pinned (stat I7 n7) (T.obj _ _ st7)
      refine thnF (pg.run _ s7 _ H7 x u _ I7' r7 (step x H7 y7)) fun _ s8 ⟨σ8, H8, I8, hw8, q8⟩ => ?_
      refine thnF (pt.run _ s8 σ8 H8 _ I8 q8) fun b s9 ⟨H9, I9, q9⟩ => ?_
      -- the turn's end
      have fin : ∀ {s' : Shared} {H' : Hp}, Inv (X.blk t3 G3 scope cx fq) ([] ++ pinsAt fq s7.heap) σ8 H' s' → Nx H' → ∃ m, m < n ∧ ∃ i H', Inv (X.blk t3 G3 scope cx fq) [] (L2.wipe σ (own.map (·.2))) H' s' ∧ tn i s'.heap ∧ (∀ b ∈ fq, H' b = none) ∧ W i m H' := fun {s' H'} I' nx => by
        obtain ⟨m', hm, w'⟩ := hNx H' nx
        have pin' : ∀ b ∈ fq, ∀ o, s7.heap.get? b = some o → s'.heap.get? b = some o ∧ H' b = none := fun b hb o e =>
          let z := I'.pin (b, o) (List.mem_append_right _ (List.mem_append_right _ (mem_pinsAt hb e)))
          ⟨z.1, z.2.1⟩
        have hl : (L2.wipe σ (own.map (·.2))).length = σ8.length := by rw [← hw8, L2.wipe_length]
        refine ⟨m', hm, i + 1, H', (I'.unpinned (pins := [])).weak hl (fun j v e => ?_), T.keep _ _ _ st7 fun b hb o e => (pin' b hb o e).1, fun b hb => ?_, w'⟩
        · rw [← hw8] at e
          exact (L2.wipe_some e).1
        · obtain ⟨o, e, _⟩ := T.obj _ _ st7 b hb
          exact (pin' b hb o e).2
      cases b with
      | false =>
        simp only [Bool.false_eq_true, if_false] at q9 ⊢
        exact fin I9 q9
      | true =>
        simp only [if_true] at q9 ⊢
        refine thnF (pk.run _ s9 σ8 H9 _ I9 q9) fun z s10 ⟨yk, H10, I10, r10, q10⟩ => ?_
        refine thnF (pe.run _ s10 σ8 H10 _ I10 q10) fun z2 s11 ⟨yv, H11, I11, r11, Hn, put, nx⟩ => ?_
        exact dictSet_put (X := X.blk t3 G3 scope cx fq) hu I11 put r10 r11 fun s12 I12 => fin I12 nx
  exact codeAny_compStart_dict loop (T.self X.A 0 _ _ _ sa4 loop)

theorem pe_dcA {kx vx tg iter : Expr} {ifs : List Expr} {scope : Scope} {own : List (Str × Nat)} {pos : Pos} {e0 : HO} {wi : TI} {g : TG} {tt : TT} {tk tv : TE} (he0 : e0 = .dK [] ∨ e0 = .dT []) (hu : X.A.units + 1 < cLine) (hc : X.calm = true) (hN : X.N.Nodup) (hi : PI X tg iter wi) (ok : BlkOk X.N X.env.scope scope own)
    (hg : ∀ (s : Shared) (H : Hp) (C : Addr) (cl : List (Str × Addr)) (fp : List Addr), PG (X.blk s H scope (compEnvC scope cl C X.env) fp) tg g) (ht : ∀ (s : Shared) (H : Hp) (C : Addr) (cl : List (Str × Addr)) (fp : List Addr), PTs (X.blk s H scope (compEnvC scope cl C X.env) fp) ifs tt)
    (hk : ∀ (s : Shared) (H : Hp) (C : Addr) (cl : List (Str × Addr)) (fp : List Addr), PE (X.blk s H scope (compEnvC scope cl C X.env) fp) kx tk) (he : ∀ (s : Shared) (H : Hp) (C : Addr) (cl : List (Str × Addr)) (fp : List Addr), PE (X.blk s H scope (compEnvC scope cl C X.env) fp) vx tv)
    (hs : ∀ x, foldedSetIterable iter X.env x = pure x := by intro _; rfl) : PE X (.DictComp kx vx [⟨tg, iter, ifs, 0⟩] scope pos) (tDcA e0 wi g tt tk tv (own.map (·.2))) := by
  refine ⟨fun pins s σ H Q I h => ?_⟩
  rw [arm_eval_DictComp]
  refine dcA_core he0 hu hc hN I hi ok hg ht hk he hs h fun D C s' m H' I' q hn f => ⟨m, hn, fun h2 sb => ⟨.ref D, H', I'.turned (t' := s'.toks) (fun b o hb e => (sb.2 b hb).trans e) f.1 f.2.1 f.2.2.2.1 f.2.2.2.2.1 f.2.2.2.2.2, rfl, q⟩⟩
end

/-! ### dicts in the model -/
open Classical in
noncomputable def getP (kvs : List (Py × Py)) (k : Py) : Option Py := (kvs.find? fun kv => decide (kv.1 = k)).map (·.2)
open Classical in
noncomputable def putP (kvs : List (Py × Py)) (k v : Py) : List (Py × Py) := if (kvs.any fun kv => decide (kv.1 = k)) = true then kvs.map (fun kv => if kv.1 = k then (kv.1, v) else kv) else kvs ++ [(k, v)]
theorem keyP_inj {a b : Key} (h : keyP a = keyP b) : a = b := by
  cases a <;> cases b <;> cases h <;> rfl
theorem keyPs_inj : ∀ {a b : List Key}, a.map keyP = b.map keyP → a = b
  | [], [], _ => rfl
  | [], _ :: _, h => by cases h
  | _ :: _, [], h => by cases h
  | x :: a, y :: b, h => by
    simp only [List.map_cons, List.cons.injEq] at h
    rw [keyP_inj h.1, keyPs_inj h.2]
/-- dicts of one kind of keys: how the model's keys stand for the machine's -/
inductive RD (K : PySem.W.Frag) (H : Hp) {κ : Type} (f : κ → Py) : List (κ × V) → List (Py × Py) → Prop
  | nil : RD K H f [] []
  | cons {k : κ} {v : V} {d : Py} {ks : List (κ × V)} {kvs : List (Py × Py)} : R K H v d → RD K H f ks kvs → RD K H f ((k, v) :: ks) ((f k, d) :: kvs)
theorem RK.rd {K : PySem.W.Frag} {H : Hp} : ∀ {ks : List (Key × V)} {kvs : List (Py × Py)}, RK K H ks kvs → RD K H keyP ks kvs
  | _, _, .nil => .nil
  | _, _, .cons h t => .cons h (RK.rd t)
theorem RD.rk {K : PySem.W.Frag} {H : Hp} : ∀ {ks : List (Key × V)} {kvs : List (Py × Py)}, RD K H keyP ks kvs → RK K H ks kvs
  | _, _, .nil => .nil
  | _, _, .cons h t => .cons h (RD.rk t)
abbrev keysP (k : List Key) : Py := .tup (k.map keyP)
theorem RT.rd {K : PySem.W.Frag} {H : Hp} : ∀ {ks : List (List Key × V)} {kvs : List (Py × Py)}, RT K H ks kvs → RD K H keysP ks kvs
  | _, _, .nil => .nil
  | _, _, .cons h t => .cons h (RT.rd t)
theorem RD.rt {K : PySem.W.Frag} {H : Hp} : ∀ {ks : List (List Key × V)} {kvs : List (Py × Py)}, RD K H keysP ks kvs → RT K H ks kvs
  | _, _, .nil => .nil
  | _, _, .cons h t => .cons h (RD.rt t)
theorem keysP_inj {a b : List Key} (h : keysP a = keysP b) : a = b := keyPs_inj (Py.tup.inj h)
section
variable {K : PySem.W.Frag} {H : Hp} {κ : Type} [DecidableEq κ] {f : κ → Py}
theorem RD.get (inj : ∀ {a b}, f a = f b → a = b) {k : κ} : ∀ {ks : List (κ × V)} {kvs : List (Py × Py)}, RD K H f ks kvs → (valV ks k = none ∧ getP kvs (f k) = none) ∨ ∃ v d, valV ks k = some v ∧ getP kvs (f k) = some d ∧ R K H v d
  | _, _, .nil => .inl ⟨rfl, rfl⟩
  | _, _, @RD.cons _ _ _ _ k' v d ks kvs h t => by
    by_cases e : k' = k
    · subst e
      exact .inr ⟨v, d, valV_pos rfl, by simp [getP, List.find?_cons], h⟩
    · have e' : ¬ f k' = f k := fun z => e (inj z)
      rw [valV_neg (p := (k', v)) e]
      have : getP ((f k', d) :: kvs) (f k) = getP kvs (f k) := by simp [getP, List.find?_cons, e']
      rw [this]
      exact RD.get inj t
theorem RD.length {ks : List (κ × V)} {kvs : List (Py × Py)} (h : RD K H f ks kvs) : ks.length = kvs.length := by
  induction h with
  | nil => rfl
  | cons _ _ ih => exact congrArg Nat.succ ih
theorem RD.any (inj : ∀ {a b}, f a = f b → a = b) {k : κ} {ks : List (κ × V)} {kvs : List (Py × Py)} (h : RD K H f ks kvs) : (ks.any fun kv => decide (kv.1 = k)) = (kvs.any fun kv => @decide (kv.1 = f k) (Classical.propDecidable _)) := by
  induction h with
  | nil => rfl
  | @cons k' v d ks kvs _ _ ih =>
    simp only [List.any_cons, ih]
    congr 1
    by_cases e : k' = k
    · subst e; simp
    · have e' : ¬ f k' = f k := fun z => e (inj z)
      simp [e, e']
theorem RD.snoc {k : κ} {v : V} {d : Py} {ks : List (κ × V)} {kvs : List (Py × Py)} (h : RD K H f ks kvs) (r : R K H v d) : RD K H f (ks ++ [(k, v)]) (kvs ++ [(f k, d)]) := by
  induction h with
  | nil => exact .cons r .nil
  | cons h t ih => exact .cons h ih
theorem RD.repl (inj : ∀ {a b}, f a = f b → a = b) {k : κ} {v : V} {d : Py} {ks : List (κ × V)} {kvs : List (Py × Py)} (h : RD K H f ks kvs) (r : R K H v d) :
    RD K H f (ks.map fun kv => if kv.1 = k then (kv.1, v) else kv) (kvs.map fun kv => @ite _ (kv.1 = f k) (Classical.propDecidable _) (kv.1, d) kv) := by
  induction h with
  | nil => exact .nil
  | @cons k' v' d' ks kvs h t ih =>
    simp only [List.map_cons]
    by_cases e : k' = k
    · subst e; simp only [if_true]; exact .cons r ih
    · have e' : ¬ f k' = f k := fun z => e (inj z)
      simp only [e, e', if_false]; exact .cons h ih
theorem RD.put (inj : ∀ {a b}, f a = f b → a = b) {k : κ} {v : V} {d : Py} {ks : List (κ × V)} {kvs : List (Py × Py)} (h : RD K H f ks kvs) (r : R K H v d) : RD K H f (putK ks k v) (putP kvs (f k) d) := by
  unfold putK putP
  rw [← h.any inj]
  split
  · exact h.repl inj r
  · exact h.snoc r
theorem RD.mono {H' : Hp} (g : Gr H H') {ks : List (κ × V)} {kvs : List (Py × Py)} (h : RD K H f ks kvs) : RD K H' f ks kvs := by
  induction h with
  | nil => exact .nil
  | cons h t ih => exact .cons (h.mono g) ih
end
end DL

/-! ## DL14 -/
namespace DL
open PySem PySem.Spec PyProof.Rows L2
variable [Tb]

/-! ### dict comprehensions -/
def pkK : Py → Option Key
  | .int i => some (.inl i)
  | .str x => some (.inr x)
  | _ => none
def pkT : Py → Option (List Key)
  | .tup ds => allM pkK ds
  | _ => none
theorem R.pkK {K : PySem.W.Frag} {H : Hp} {v : V} {d : Py} {k : Key} (h : R K H v d) (e : pkK d = some k) : v = kV k ∧ d = keyP k := by
  cases h <;> cases e <;> exact ⟨rfl, rfl⟩
theorem RA.pkK {K : PySem.W.Frag} {H : Hp} : ∀ {vs : List V} {ds : List Py} {ks : List Key}, RA K H vs ds → allM DL.pkK ds = some ks → vs = ks.map kV ∧ ds = ks.map keyP
  | _, _, _, .nil, e => by cases e; exact ⟨rfl, rfl⟩
  | v :: vs, d :: ds, ks, .cons h t, e => by
    simp only [allM] at e
    split at e
    · rename_i a as e1 e2
      cases e
      obtain ⟨h1, h2⟩ := h.pkK e1
      obtain ⟨h3, h4⟩ := RA.pkK t e2
      subst h1 h2 h3 h4
      exact ⟨rfl, rfl⟩
    · cases e
structure DAcc (K : PySem.W.Frag) (mkD : List (Py × Py) → Sv) (e0 : HO) (ok : Py → Bool) (Acc : Hp → Addr → List (Py × Py) → Prop) : Prop where
  em : e0 = .dK [] ∨ e0 = .dT []
  new : ∀ H D, Acc (upd H D e0) D []
  keep : ∀ {H H' D acc}, Gr H H' → H' D = H D → Acc H D acc → Acc H' D acc
  put : ∀ {H D acc vy y vz z}, Acc H D acc → R K H vy y → ok y = true → R K H vz z → acc.length < sizeLine → Own H D → ∃ Hn, DPut H D vy vz Hn ∧ SameBut [D] H Hn ∧ Own Hn D ∧ Gr H Hn ∧ Acc Hn D (putP acc y z)
  rs : ∀ {H D acc}, Acc H D acc → RS K H (.ref D) (mkD acc) [D]
theorem daccK {K : PySem.W.Frag} : DAcc K .dic (.dK []) (fun d => (pkK d).isSome) (fun H D acc => ∃ ks, H D = some (.dK ks) ∧ RK K H ks acc) where
  em := .inl rfl
  new := fun H D => ⟨[], upd_same, .nil⟩
  keep := fun g e ⟨ks, h, r⟩ => ⟨ks, e.trans h, r.mono g⟩
  put := fun {H D acc vy y vz z} ⟨ks, h, r⟩ ry hy rz hl ow => by
    obtain ⟨k, hk⟩ := Option.isSome_iff_exists.mp hy
    obtain ⟨h1, h2⟩ := ry.pkK hk
    subst h1 h2
    have g : Gr H (upd H D (.dK (putK ks k vz))) := Gr.own ow
    refine ⟨_, DPut.k h (by rw [r.rd.length]; exact hl), SameBut.of (fun b hb => by rw [List.mem_singleton.mp hb]; exact ow) fun b o e n => by rw [upd_ne (by simpa using n)]; exact e, ⟨_, upd_same, trivial⟩, g, _, upd_same, ?_⟩
    exact ((r.rd.put keyP_inj rz).rk).mono g
  rs := fun ⟨ks, h, r⟩ => .dK h r
theorem daccT {K : PySem.W.Frag} : DAcc K .dit (.dT []) (fun d => (pkT d).isSome) (fun H D acc => ∃ ks, H D = some (.dT ks) ∧ RT K H ks acc) where
  em := .inr rfl
  new := fun H D => ⟨[], upd_same, .nil⟩
  keep := fun g e ⟨ks, h, r⟩ => ⟨ks, e.trans h, r.mono g⟩
  put := fun {H D acc vy y vz z} ⟨ks, h, r⟩ ry hy rz hl ow => by
    obtain ⟨k, hk⟩ := Option.isSome_iff_exists.mp hy
    cases ry with
    | @tup b xs ds hb ra =>
      obtain ⟨h1, h2⟩ := ra.pkK hk
      subst h1 h2
      have g : Gr H (upd H D (.dT (putK ks k vz))) := Gr.own ow
      refine ⟨_, DPut.t h hb (by rw [r.rd.length]; exact hl), SameBut.of (fun b hb => by rw [List.mem_singleton.mp hb]; exact ow) fun b o e n => by rw [upd_ne (by simpa using n)]; exact e, ⟨_, upd_same, trivial⟩, g, _, upd_same, ?_⟩
      exact ((r.rd.put keysP_inj rz).rt).mono g
    | _ => cases hk
  rs := fun ⟨ks, h, r⟩ => .dT h r
noncomputable def dcS (mkD : List (Py × Py) → Sv) (ok : Py → Bool) (tg : Py → DS → Option DS) (mt : DS → ER Bool) (mk mv : DS → ER Py) (vs : List Nat) : List Py → List (Py × Py) → DS → ER Sv
  | [], acc, st => .ok (mkD acc) st
  | d :: ds, acc, st => match tg d st with
    | some st1 => (mt st1).nb fun b st2 => if b then (mk st2).nb fun y st3 => (mv st3).nb fun z st4 => if ok y = true ∧ acc.length < sizeLine then dcS mkD ok tg mt mk mv vs ds (putP acc y z) (wipeS st4 vs) else .stuck else dcS mkD ok tg mt mk mv vs ds acc (wipeS st2 vs)
    | none => .stuck
noncomputable def dcM (mkD : List (Py × Py) → Sv) (ok : Py → Bool) (mi : DS → ER (List Py)) (tg : Py → DS → Option DS) (mt : DS → ER Bool) (mk mv : DS → ER Py) (vs : List Nat) : DS → ER Sv := fun st => (mi st).bind fun ds st1 => dcS mkD ok tg mt mk mv vs ds [] (wipeS st1 vs)
section
variable {X : Cx} {pn ts : List Nat} {kx vx tg iter : Expr} {ifs : List Expr} {scope : Scope} {own : List (Str × Nat)} {pos : Pos} {mi : DS → ER (List Py)} {f : Py → DS → Option DS} {mt : DS → ER Bool} {mk mv : DS → ER Py}
theorem dc_read {mkD : List (Py × Py) → Sv} {e0 : HO} {ok : Py → Bool} {Acc : Hp → Addr → List (Py × Py) → Prop} (da : DAcc X.K mkD e0 ok Acc) {vs : List Nat} {Wx : WX} {σ : L2.St} {H : Hp} {Q : VK} {Γ : Fr} {st : DS} (hts : ∀ i ∈ ts, i ∈ vs) (r : Rel X.K Γ st σ H [])
    (q : fin X Wx Γ σ H (dcM mkD ok mi f mt mk mv vs st) fun w st' => ∀ v H' fw, Rel X.K Γ st' σ H' fw → Gr H H' → RS X.K H' v w fw → Q v H') :
    tDcA e0 (tI X Wx mi) (tG X pn ts f) (tT X W0 mt) (tE X W0 mk) (tE X W0 mv) vs σ H Q := by
  refine ⟨Γ, st, r, ?_⟩
  refine fin.imp (fin.bind q) fun ds st1 q1 J H1 r1 g1 src D hD => ?_
  have pins := r.pin
  generalize eΓ : ({ Γ with pin := [] } : Fr) = Γ1
  have restore : ∀ {st' : DS} {H' : Hp} {fw : List Addr}, Rel X.K Γ1 st' σ H' fw → Rel X.K Γ st' σ H' fw := fun {st' H' fw} rr => by
    subst eΓ
    obtain ⟨x1, x2, x3, _⟩ := rr
    exact ⟨x1, x2, x3, pins⟩
  have r1 : Rel X.K Γ1 st1 σ H1 [] := by
    subst eΓ
    obtain ⟨x1, x2, x3, _⟩ := r1
    exact ⟨x1, x2, x3, nofun⟩
  have vpin : ∀ p ∈ Γ1.pin, p.1 ∉ vs := by subst eΓ; exact nofun
  have np : ∀ i, i ∉ pn → ∀ p ∈ Γ1.pin, p.1 ≠ i := by subst eΓ; exact fun _ _ => nofun
  have s0 : Same H1 (upd H1 D e0) := Same.new hD
  have hDo : Own (upd H1 D e0) D := by
    refine ⟨_, upd_same, ?_⟩
    rcases da.em with z | z <;> subst z <;> exact trivial
  have rw1 : Rel X.K Γ1 (wipeS st1 vs) (L2.wipe σ vs) (upd H1 D e0) [D] := by
    have a := (r1.wipe vs).resl (σ' := L2.wipe σ vs) (L2.wipe_length _ _) (fun i w e => wipe_get (wipeS_none e)) fun p hp => wipe_get (vpin p hp)
    exact a.owned s0 (by simp) (fun b hb => by rw [List.mem_singleton.mp hb]; exact hD) fun b hb => by rw [List.mem_singleton.mp hb]; exact hDo
  refine ⟨fun i m H2 => ∃ acc st2, m = ds.length - i ∧ i ≤ ds.length ∧ Rel X.K Γ1 (wipeS st2 vs) (L2.wipe σ vs) H2 [D] ∧ Acc H2 D acc ∧ Gr (upd H1 D e0) H2 ∧
    fin X Wx Γ σ H (dcS mkD ok f mt mk mv vs (ds.drop i) acc (wipeS st2 vs)) fun w st' => ∀ v H' fw, Rel X.K Γ st' σ H' fw → Gr H H' → RS X.K H' v w fw → Q v H', ⟨ds.length, [], st1, by simp, Nat.zero_le _, rw1, da.new _ _, Gr.refl _, by rw [List.drop_zero]; exact q1⟩, ?_⟩
  rintro i m H2 ⟨acc, st2, rfl, hi, r2, ac2, g2, q2⟩
  have gt := g1.trans ((Same.gr s0).trans g2)
  have src2 : Gr H1 H2 := (Same.gr s0).trans g2
  by_cases hlt : i < ds.length
  · have ed : ds.drop i = ds[i] :: ds.drop (i + 1) := List.drop_eq_getElem_cons hlt
    rw [ed] at q2
    refine .inr ⟨src.go i H2 src2 hlt, fun H' => ∃ acc st2, Rel X.K Γ1 (wipeS st2 vs) (L2.wipe σ vs) H' [D] ∧ Acc H' D acc ∧ Gr (upd H1 D e0) H' ∧
      fin X Wx Γ σ H (dcS mkD ok f mt mk mv vs (ds.drop (i + 1)) acc (wipeS st2 vs)) fun w st' => ∀ v H' fw, Rel X.K Γ st' σ H' fw → Gr H H' → RS X.K H' v w fw → Q v H', fun H' ⟨acc', st3, a1, a2, a4, a5⟩ => ⟨ds.length - (i + 1), by omega, acc', st3, rfl, hlt, a1, a2, a4, a5⟩, fun x H3 y => ?_⟩
    obtain ⟨sm, d, hd, rd⟩ := src.yld i H2 x H3 src2 hlt y
    have e0' : ds[i] = d := by rw [List.getElem?_eq_getElem hlt] at hd; exact Option.some.inj hd
    rw [e0'] at q2
    have g3 := Same.gr sm
    have r3 : Rel X.K Γ1 (wipeS st2 vs) (L2.wipe σ vs) H3 [D] := r2.ext sm
    have hD3 : H3 D = H2 D := by
      obtain ⟨o, e, _⟩ := r2.fxo D List.mem_cons_self
      rw [e]; exact sm _ _ e
    obtain ⟨Γ', ep, rb, back⟩ := r3.rebase
    have np' : ∀ i, i ∉ pn → ∀ p ∈ Γ'.pin, p.1 ≠ i := by rw [ep]; exact np
    cases ef : f d (wipeS st2 vs) with
    | none =>
      have q3 : fin X Wx Γ σ H (match f d (wipeS st2 vs) with | some st1 => (mt st1).nb fun b st2 => if b then (mk st2).nb fun y st3 => (mv st3).nb fun z st4 => if ok y = true ∧ acc.length < sizeLine then dcS mkD ok f mt mk mv vs (ds.drop (i + 1)) (putP acc y z) (wipeS st4 vs) else .stuck else dcS mkD ok f mt mk mv vs (ds.drop (i + 1)) acc (wipeS st2 vs) | none => .stuck) _ := q2
      rw [ef] at q3
      exact q3.elim
    | some st3 =>
      have q3 : fin X Wx Γ σ H (match f d (wipeS st2 vs) with | some st1 => (mt st1).nb fun b st2 => if b then (mk st2).nb fun y st3 => (mv st3).nb fun z st4 => if ok y = true ∧ acc.length < sizeLine then dcS mkD ok f mt mk mv vs (ds.drop (i + 1)) (putP acc y z) (wipeS st4 vs) else .stuck else dcS mkD ok f mt mk mv vs (ds.drop (i + 1)) acc (wipeS st2 vs) | none => .stuck) _ := q2
      rw [ef] at q3
      refine ⟨Γ', wipeS st2 vs, d, np', rb, rd, st3, ef, fun σ3 on r4 => ⟨wipe_only on hts, Γ', st3, r4, ?_⟩⟩
      have back2 : ∀ {st' : DS} {H' : Hp}, Rel X.K Γ' st' σ3 H' [] → Rel X.K Γ1 (wipeS st' vs) (L2.wipe σ vs) H' [D] ∧ H' D = H2 D := fun {st' H'} rr => by
        obtain ⟨kp, rr2⟩ := back rr
        refine ⟨?_, (kp D List.mem_cons_self).trans hD3⟩
        have rr3 : Rel X.K Γ1 (wipeS st' vs) σ3 H' [D] := by simpa using rr2.wipe vs
        have hl3 : (L2.wipe σ vs).length = σ3.length := on.1.symm
        refine rr3.resl hl3 (fun i w e => ?_) fun p hp => ?_
        · exact (on.2 i fun z => wipeS_none e (hts i z)).symm
        · exact (on.2 p.1 fun z => vpin p hp (hts p.1 z)).symm
      refine fin.imp (fin_nb q3) fun b st4 q4 H4 r5 g4 => ?_
      have gt4 := gt.trans (g3.trans g4)
      cases b with
      | false =>
        refine iteF ?_
        have q5 : fin X Wx Γ σ H (dcS mkD ok f mt mk mv vs (ds.drop (i + 1)) acc (wipeS st4 vs)) _ := q4
        obtain ⟨b1, b2⟩ := back2 r5
        exact ⟨acc, st4, b1, da.keep (g3.trans g4) b2 ac2, g2.trans (g3.trans g4), q5⟩
      | true =>
        refine iteT ?_
        have q5 : fin X Wx Γ σ H ((mk st4).nb fun y st3 => (mv st3).nb fun z st4 => if ok y = true ∧ acc.length < sizeLine then dcS mkD ok f mt mk mv vs (ds.drop (i + 1)) (putP acc y z) (wipeS st4 vs) else .stuck) _ := q4
        refine ⟨Γ', st4, r5, ?_⟩
        refine fin.imp (fin_nb q5) fun y st5 q6 yv H5 r6 g5 ry => ?_
        refine ⟨Γ', st5, r6, ?_⟩
        refine fin.imp (fin_nb q6) fun z st6 q7 zv H6 r7 g6 rz => ?_
        obtain ⟨b1, b2⟩ := back2 r7
        split at q7
        · rename_i hz
          have ac6 := da.keep (g3.trans (g4.trans (g5.trans g6))) b2 ac2
          obtain ⟨Hn, p1, p2, p3, p4, p5⟩ := da.put ac6 (ry.mono g6) hz.1 rz hz.2 (b1.fxo D List.mem_cons_self)
          refine ⟨Hn, p1, putP acc y z, st6, ?_, p5, ?_, q7⟩
          · have b1' : Rel X.K Γ1 (wipeS st6 vs) (L2.wipe σ vs) H6 ([D] ++ []) := by simpa using b1
            have := Rel.after b1' p2 (nf := [D]) (by simp) (fun b hb => .inr hb) fun b hb => by
              rw [List.mem_singleton.mp hb]
              exact p3
            simpa using this
          · exact (g2.trans (g3.trans (g4.trans (g5.trans g6)))).trans p4
        · exact q7.elim
  · have e : i = ds.length := by omega
    subst e
    rw [List.drop_length] at q2
    refine .inl ⟨src.stop _ H2 src2 rfl, ?_⟩
    have q3 : ∀ v H' fw, Rel X.K Γ (wipeS st2 vs) σ H' fw → Gr H H' → RS X.K H' v (mkD acc) fw → Q v H' := q2
    refine q3 _ H2 [D] (restore (r2.resl (L2.wipe_length σ vs).symm (fun i w e => (wipe_get (wipeS_none e)).symm) fun p hp => (wipe_get (vpin p hp)).symm)) gt (da.rs ac2)
theorem do_dc {mkD : List (Py × Py) → Sv} {e0 : HO} {okk : Py → Bool} {Acc : Hp → Addr → List (Py × Py) → Prop} (da : DAcc X.K mkD e0 okk Acc) (hu : X.A.units + 1 < cLine) (hc : X.calm = true) (hN : X.N.Nodup) (hi : DI X tg iter mi) (ok : BlkOk X.N X.env.scope scope own)
    (hg : ∀ (s : Shared) (H : Hp) (C : Addr) (cl : List (Str × Addr)) (fp : List Addr), DG (X.blk s H scope (compEnvC scope cl C X.env) fp) pn ts tg f) (ht : ∀ (s : Shared) (H : Hp) (C : Addr) (cl : List (Str × Addr)) (fp : List Addr), DTs (X.blk s H scope (compEnvC scope cl C X.env) fp) ifs mt)
    (hk : ∀ (s : Shared) (H : Hp) (C : Addr) (cl : List (Str × Addr)) (fp : List Addr), DE (X.blk s H scope (compEnvC scope cl C X.env) fp) kx mk)
    (he : ∀ (s : Shared) (H : Hp) (C : Addr) (cl : List (Str × Addr)) (fp : List Addr), DE (X.blk s H scope (compEnvC scope cl C X.env) fp) vx mv) (hts : ∀ i ∈ ts, i ∈ own.map (·.2) := by decide) (hs : ∀ x, foldedSetIterable iter X.env x = pure x := by intro _; rfl) :
    DO X (.DictComp kx vx [⟨tg, iter, ifs, 0⟩] scope pos) (dcM mkD okk mi f mt mk mv (own.map (·.2))) := by
  refine ⟨fun Wx tk => pe_imp (pe_dcA (g := tG X pn ts f) (tt := tT X W0 mt) (tk := tE X W0 mk) (tv := tE X W0 mv) da.em hu hc hN (hi.pi Wx tk) ok (fun s H C cl fp => (hg s H C cl fp).pg) (fun s H C cl fp => (ht s H C cl fp).pt W0 takes0) (fun s H C cl fp => (hk s H C cl fp).pe W0 takes0) (fun s H C cl fp => (he s H C cl fp).pe W0 takes0) hs) fun σ H Q ⟨Γ, st, r, q⟩ => ?_⟩
  exact dc_read (pn := pn) da hts r q
end
end DL

/-! ## DL15 -/
namespace DL
open PySem PySem.Spec PyProof.Rows L2
variable [Tb]

/-! ### the parts of a mirror, by name -/
def kI (i : Int) : DS → ER Py := fun st => .ok (.int i) st
def kB (b : Bool) : DS → ER Py := fun st => .ok (.bl b) st
def kN : DS → ER Py := fun st => .ok .non st
def kS (x : Str) : DS → ER Py := fun st => .ok (.str x) st
def frzM (m : DS → ER Sv) : DS → ER Py := fun st => (m st).bind fun w st' => optE (frzS w) st'
def valM (m : DS → ER Py) : DS → ER Sv := fun st => (m st).bind fun d st' => .ok (.val d) st'
def xM (m : DS → ER Py) : DS → ER Ar := fun st => (m st).bind fun d st' => .ok (.v d) st'
/-- an operand's slot: data are taken now -/
def varX (i : Nat) : DS → ER Ar := fun st => match st[i]? with
  | some (some (.val d)) => .ok (.v d) st
  | some (some _) => .ok (.s i) st
  | _ => .stuck
/-- a slot taken: data are copied, an object is handed on -/
def takeO (i : Nat) : DS → ER Sv := fun st => match st[i]? with
  | some (some (.val d)) => .ok (.val d) st
  | some (some w) => .ok w (st.set i none)
  | _ => .stuck
def nilV : DS → ER (List Py) := fun st => .ok [] st
def consV (m : DS → ER Py) (ms : DS → ER (List Py)) : DS → ER (List Py) := fun st => (m st).bind fun d st1 => (ms st1).bind fun ds st2 => .ok (d :: ds) st2
def nilA : DS → ER (List Ar) := fun st => .ok [] st
def consA (m : DS → ER Ar) (ms : DS → ER (List Ar)) : DS → ER (List Ar) := fun st => (m st).bind fun d st1 => (ms st1).bind fun ds st2 => .ok (d :: ds) st2
def tupM (m : DS → ER (List Py)) : DS → ER Py := fun st => (m st).bind fun ds st1 => .ok (.tup ds) st1
def lstM (m : DS → ER (List Py)) : DS → ER Sv := fun st => (m st).bind fun ds st1 => .ok (.lst ds) st1
def eT (m : DS → ER Py) : DS → ER Bool := fun st => (m st).bind fun d st1 => optE (asBl d) st1
def andT (a b : DS → ER Bool) : DS → ER Bool := fun st => (a st).bind fun k st1 => if k then b st1 else .ok false st1
def orT (a b : DS → ER Bool) : DS → ER Bool := fun st => (a st).bind fun k st1 => if k then .ok true st1 else b st1
def notT (a : DS → ER Bool) : DS → ER Bool := fun st => (a st).bind fun k st1 => .ok (!k) st1
def ifE (c : DS → ER Bool) (a b : DS → ER Py) : DS → ER Py := fun st => (c st).bind fun k st1 => if k then a st1 else b st1
def andE (a b : DS → ER Py) : DS → ER Py := fun st => (a st).bind fun d st1 => (optE (asBl d) st1).bind fun k st1 => if k then b st1 else .ok (.bl false) st1
def orE (a b : DS → ER Py) : DS → ER Py := fun st => (a st).bind fun d st1 => (optE (asBl d) st1).bind fun k st1 => if k then .ok (.bl true) st1 else b st1
def notE (a : DS → ER Py) : DS → ER Py := fun st => (a st).bind fun d st1 => (optE (asBl d) st1).bind fun k st1 => .ok (.bl (!k)) st1
def pN : DS → ER (Option Int) := fun st => .ok none st
def pS (m : DS → ER Py) : DS → ER (Option Int) := fun st => (m st).bind fun d st1 => (optE (asInt d) st1).bind fun i st1 => .ok (some i) st1
def slM (a : DS → ER Ar) (l h : DS → ER (Option Int)) : DS → ER Sv := fun st => (a st).bind fun a st1 => (l st1).bind fun l st2 => (h st2).bind fun u st3 => optE (bindO st3 a fun x => sliceS x l u) st3
def seqM (a b : DS → SO) : DS → SO := fun st => seqS (a st) b
def exM (m : DS → ER Sv) : DS → SO := fun st => (m st).s fun _ st1 => .nx st1
def rtM (m : DS → ER Sv) : DS → SO := fun st => (m st).s fun w st1 => .rt w st1
def stM (i : Nat) (m : DS → ER Sv) : DS → SO := fun st => (m st).s fun w st1 => putO i w st1
def asM (f : Py → DS → Option DS) (m : DS → ER Py) : DS → SO := fun st => (m st).s fun d st1 => tgtO (f d st1)
def ifM (c : DS → ER Bool) (a b : DS → SO) : DS → SO := fun st => (c st).s fun k st1 => if k then a st1 else b st1
def forM (m : DS → ER (List Py)) (f : Py → DS → Option DS) (b : DS → SO) : DS → SO := fun st => (m st).s fun ds st1 => forS f b ds st1
def nxM : DS → SO := fun st => .nx st
def bkM : DS → SO := fun st => .bk st
def ctM : DS → SO := fun st => .ct st
def rnM : DS → SO := fun st => .rt (.val .non) st
def rsM (x : Str) : DS → SO := fun st => .ex ⟨x, none⟩ st
def sqI (m : DS → ER Py) : DS → ER (List Py) := fun st => (m st).bind fun d st1 => optE (itemsS (.val d)) st1
def rg1 (m : DS → ER (List Py)) : DS → ER (List Py) := fun st => (m st).bind fun ds st1 => optE (range1 ds) st1
def rg2 (m : DS → ER (List Py)) : DS → ER (List Py) := fun st => (m st).bind fun ds st1 => optE (range2 ds) st1
def rg3 (m : DS → ER (List Py)) : DS → ER (List Py) := fun st => (m st).bind fun ds st1 => optE (range3 ds) st1
def yesT : DS → ER Bool := fun st => .ok true st
section
variable {X : Cx} {a b c e : Expr} {pos : Pos}
theorem yI {i j pos} : DE X (.Constant (.int i) j pos) (kI i) := de_int
theorem yB {i j pos} : DE X (.Constant (.bool i) j pos) (kB i) := de_bl
theorem yN {j pos} : DE X (.Constant .none j pos) kN := de_non
theorem yS {i j pos} : DE X (.Constant (.str i) j pos) (kS i) := de_str
theorem yG {x : Str} {i : Int} {t : Tok} {pos : Pos} (hg : Gl X x) (hm : X.mg x = some (.int i t)) (hd : (x == ("__debug__" : Str)) = false := by decide) : DE X (.Name x pos) (kI i) := de_globI hg hm hd
theorem DO.z {m : DS → ER Sv} (h : DO X e m) : DE X e (frzM m) := h.frz
theorem DE.o {m : DS → ER Py} (h : DE X e m) : DO X e (valM m) := h.val
theorem DE.y {m : DS → ER Py} (h : DE X e m) : DX X e (xM m) := h.x
theorem yV {i : Nat} (h : PE X e (tVar i)) : DX X e (varX i) := by
  refine ⟨fun Wx tk => pe_imp h fun σ H Q ⟨Γ, st, r, q⟩ => ?_⟩
  unfold varX at q
  split at q
  · rename_i d hd
    obtain ⟨v, fp, e1, rs⟩ := r.get hd
    exact ⟨v, e1, q v H r (Gr.refl H) (rs.data rfl)⟩
  · rename_i w _ hd
    obtain ⟨v, fp, e1, rs⟩ := r.get hd
    exact ⟨v, e1, q v H r (Gr.refl H) e1⟩
  · exact absurd q id
theorem yT {i : Nat} (h : PE X e (tVar i)) : DO X e (takeO i) := by
  refine ⟨fun Wx tk => pe_imp h fun σ H Q ⟨Γ, st, r, q⟩ => ?_⟩
  unfold takeO at q
  split at q
  · rename_i d hd
    obtain ⟨v, fp, e1, rs⟩ := r.get hd
    exact ⟨v, e1, q v H [] r (Gr.refl H) (.val (rs.data rfl))⟩
  · rename_i w _ hd
    obtain ⟨v, fp, e1, rs, r'⟩ := r.pull hd
    exact ⟨v, e1, q v H fp (by simpa using r') (Gr.refl H) rs⟩
  · exact absurd q id
theorem yL {i : Nat} (h : PE X e (tVar i)) : DE X e (lockE i) := de_lock h
theorem v0 : DV X [] nilV := dv_nil
theorem v1 {es : List Expr} {m : DS → ER Py} {ms : DS → ER (List Py)} (h : DE X e m) (hs : DV X es ms) (hst : starEach (e :: es) X.env = (false, eval e X.env) :: starEach es X.env := by rfl) : DV X (e :: es) (consV m ms) := dv_cons h hs hst
theorem a0 : DA X [] nilA := da_nil
theorem a1 {es : List Expr} {m : DS → ER Ar} {ms : DS → ER (List Ar)} (h : DX X e m) (hs : DA X es ms) (hst : starEach (e :: es) X.env = (false, eval e X.env) :: starEach es X.env := by rfl) : DA X (e :: es) (consA m ms) := da_cons h hs hst
theorem yU {x1 : Nat} {es : List Expr} {m : DS → ER (List Py)} (h : DV X es m) (hz : es.length ≤ sizeLine := by decide) : DE X (.Tuple es x1 pos) (tupM m) := de_tup h hz
theorem oL {es : List Expr} {m : DS → ER (List Py)} (h : DV X es m) (hz : es.length ≤ sizeLine := by decide) : DO X (.List es pos) (lstM m) := do_lst h hz
theorem tBe {m : DS → ER Py} (h : DE X e m) (he : ∀ whole, isTrue e X.env whole = (do let v ← whole; standAt e.pos; holding [v] (truthy v)) := by intro _; rfl) : DT X e (eT m) := dt_e h he
theorem wA {rest : List Expr} {mt mu : DS → ER Bool} (h : DT X a mt) (hr : DW X (.BoolOp .And (b :: rest) pos) mu) : DW X (.BoolOp .And (a :: b :: rest) pos) (andT mt mu) := dw_and h hr
theorem wO {rest : List Expr} {mt mu : DS → ER Bool} (h : DT X a mt) (hr : DW X (.BoolOp .Or (b :: rest) pos) mu) : DW X (.BoolOp .Or (a :: b :: rest) pos) (orT mt mu) := dw_or h hr
theorem tN {mt : DS → ER Bool} (h : DT X a mt) : DT X (.UnaryOp .Not a pos) (notT mt) := dt_not h
theorem yIf {mt : DS → ER Bool} {ma mb : DS → ER Py} (hc : DT X c mt) (ha : DE X a ma) (hb : DE X b mb) : DE X (.IfExp c a b pos) (ifE mt ma mb) := de_if hc ha hb
theorem yAnd {rest : List Expr} {ma mb : DS → ER Py} (ha : DE X a ma) (hb : DE X (.BoolOp .And (b :: rest) pos) mb) : DE X (.BoolOp .And (a :: b :: rest) pos) (andE ma mb) := de_and ha hb
theorem yOr {rest : List Expr} {ma mb : DS → ER Py} (ha : DE X a ma) (hb : DE X (.BoolOp .Or (b :: rest) pos) mb) : DE X (.BoolOp .Or (a :: b :: rest) pos) (orE ma mb) := de_or ha hb
theorem yNot {ma : DS → ER Py} (ha : DE X a ma) : DE X (.UnaryOp .Not a pos) (notE ma) := de_not ha
theorem p0 : DP X none pN := dp_none
theorem p1 {m : DS → ER Py} (h : DE X e m) : DP X (some e) (pS m) := dp_some h
theorem oSl {p2 : Pos} {ma : DS → ER Ar} {lo hi : Option Expr} {ml mh : DS → ER (Option Int)} (ha : DX X a ma) (hl : DP X lo ml) (hh : DP X hi mh) : DO X (.Subscript a (.Slice lo hi none p2) pos) (slM ma ml mh) := do_slice ha hl hh
variable {pn : List Nat} {s : Stmt} {ss : List Stmt} {ma mb : DS → SO}
theorem s1 (h : DSt X pn s ma) (hs : DSs X pn ss mb) : DSs X pn (s :: ss) (seqM ma mb) := dss_cons h hs
theorem s0 : DSs X pn [] nxM := dss_nil
theorem sE {me : DS → ER Sv} (h : DO X e me) (hs : swapsWith e none pos.line X.env = pure false := by rfl) : DSt X pn (.Expr e pos) (exM me) := ds_expr h hs
theorem sR {me : DS → ER Sv} (h : DO X e me) : DSt X pn (.Return (some e) pos) (rtM me) := ds_ret h
theorem sRN : DSt X pn (.Return none pos) rnM := ds_retN
theorem sP : DSt X pn (.Pass pos) nxM := ds_pass
theorem sB : DSt X pn (.Break pos) bkM := ds_break
theorem sC : DSt X pn (.Continue pos) ctM := ds_continue
theorem sS {i : Nat} {x : Str} {pos' : Pos} {me : DS → ER Sv} (hN : X.N.Nodup) (hi : X.N[i]? = some x) (hx : Loc X.env.scope x) (h : DO X e me) (hp : i ∉ pn) (hs : swapsWith e (some (.Name x pos')) pos.line X.env = pure false := by rfl) (hf : X.fn x = true ∨ X.env.scope.names.lookup x = some .local := by first | exact .inl rfl | exact .inr rfl | assumption) :
    DSt X pn (.Assign [.Name x pos'] e pos) (stM i me) := ds_set hN hi hx h hp hs hf
theorem sA {tg : Expr} {ts : List Nat} {me : DS → ER Py} {f : Py → DS → Option DS} (he : DE X e me) (hg : DG X pn ts tg f) (hs : swapsWithSole [tg] e pos.line X.env = pure false := by rfl) (hw : swappedStores [tg] e X.env = pure none := by rfl) (h1 : (assignEach [tg] X.env).map (·.2) = [assign tg X.env] := by rfl) :
    DSt X pn (.Assign [tg] e pos) (asM f me) := ds_asg he hg hs hw h1
theorem sI {a b : List Stmt} {mc : DS → ER Bool} (hc : DT X c mc) (ha : DSs X pn a ma) (hb : DSs X pn b mb) : DSt X pn (.If c a b pos) (ifM mc ma mb) := ds_if hc ha hb
theorem sF {b : List Stmt} {tg it : Expr} {ts : List Nat} {mi : DS → ER (List Py)} {f : Py → DS → Option DS} (hp : PassesOwn (model X.prog X.w) X.A X.env X.xe) (hc : X.calm = true) (hi : DI X tg it mi) (hg : DG X pn ts tg f) (hb : DSs X pn b mb) (hs : ∀ x, foldedSetIterable it X.env x = pure x := by intro _; rfl) :
    DSt X pn (.For tg it b [] pos) (forM mi f mb) := ds_for hp hc hi hg hb hs
theorem sX {C : Addr} {x : Str} {p pos' : Pos} (hc : X.calm = true) (xc : XCls X.K X.mg x C) (hg : Gl X x) (hdb : (x == ("__debug__" : Str)) = false := by decide) : DSt X pn (.Raise (some (.Call (.Name x p) [] [] pos)) none pos') (rsM x) := ds_raise0 hc xc hg hdb
variable {tg : Expr} {p : Pos}
theorem iS {m : DS → ER Py} (h : DE X a m) : DI X tg a (sqI m) := di_seq h
theorem iR1 {m : DS → ER (List Py)} (T : Bt X.mg) (hg : Gl X "range") (h : DV X [a] m) (hs : starEach [a] X.env = [(false, eval a X.env)] := by rfl) : DI X tg (.Call (.Name "range" p) [a] [] pos) (rg1 m) := di_range1 T hg h hs
theorem iR2 {m : DS → ER (List Py)} (T : Bt X.mg) (hg : Gl X "range") (h : DV X [a, b] m) (hs : starEach [a, b] X.env = [(false, eval a X.env), (false, eval b X.env)] := by rfl) (hs2 : starEach [b] X.env = [(false, eval b X.env)] := by rfl) : DI X tg (.Call (.Name "range" p) [a, b] [] pos) (rg2 m) := di_range2 T hg h hs hs2
theorem iR3 {m : DS → ER (List Py)} (T : Bt X.mg) (hg : Gl X "range") (h : DV X [a, b, c] m) (hs : starEach [a, b, c] X.env = (false, eval a X.env) :: starEach [b, c] X.env := by rfl) (hpl : (backTo pos (starEach [b, c] X.env)).any (·.1) = false := by rfl) :
    DI X tg (.Call (.Name "range" p) [a, b, c] [] pos) (rg3 m) := di_range3 T hg h hs hpl
theorem q0 : DTs X [] yesT := dts_nil
end

/-! ### comparisons as tests -/
section
variable {X : Cx} {a b e : Expr} {ma mb : DS → ER Ar} {pos : Pos}
theorem dt_cmpR {op : CmpOp} {r : R2} {f : Sv → Sv → Option Py} (ho : OpR X (compareOp op) r) (hm : behindInMarks op b = false) (hx : DX X a ma) (hy : DX X b mb)
    (hr : ∀ v w v2 w2 fp fp2 H d Q, RS X.K H v w fp → RS X.K H v2 w2 fp2 → f w w2 = some d → (∀ v' H', Same H H' → R X.K H' v' d → Q v' H') → r v v2 H Q) : DT X (.Compare a [op] [b] pos) (eT (e2 ma mb f)) := by
  refine ⟨fun Wx tk => pt_imp (pt_cmpR ho (hx.pe Wx tk) (hy.pe Wx tk) hm) fun σ H Q ⟨Γ, st, rl, q⟩ => ⟨Γ, st, rl, ?_⟩⟩
  refine fin.imp (fin.bind (fin.bind q)) fun a st1 q1 v H1 r1 g1 ar => ⟨Γ, st1, r1, ?_⟩
  refine fin.imp (fin.bind (fin.gr (H' := H1) g1 q1)) fun b st2 q2 v2 H2 r2 g2 ar2 => ?_
  obtain ⟨d, ed, q3⟩ := fin_opt q2
  obtain ⟨w, ew, ed⟩ := bindO_some ed
  obtain ⟨w2, ew2, fw⟩ := bindO_some ed
  obtain ⟨fp, rs⟩ := r2.look (ar.mono g2) ew
  obtain ⟨fp2, rs2⟩ := r2.look ar2 ew2
  obtain ⟨k, ek, q4⟩ := fin_opt q3
  refine hr v w v2 w2 fp fp2 H2 d _ rs rs2 fw fun v' H' s rd => ?_
  cases d <;> cases ek
  cases rd
  exact ⟨_, rfl, q4 H' (r2.ext s) (g1.trans (g2.trans (Same.gr s)))⟩
theorem dt_cmpI {op : CmpOp} {g : Int → Int → Bool} (ho : OpR X (compareOp op) (rI0 fun i j => .bl (g i j))) (h1 : behindInMarks op b = false) (ha : DX X a ma) (hb : DX X b mb) :
    DT X (.Compare a [op] [b] pos) (eT (e2 ma mb (binI0 fun i j => .bl (g i j)))) :=
  dt_cmpR ho h1 ha hb fun v w v2 w2 fp fp2 H d Q r1 r2 hf q => by
    obtain ⟨i, j, rfl, rfl, rfl⟩ := binI0_some hf
    exact ⟨i, j, r1.int rfl, r2.int rfl, q _ _ (Same.refl H) (.bl _)⟩
theorem dt_lt (ha : DX X a ma) (hb : DX X b mb) : DT X (.Compare a [.Lt] [b] pos) (eT (e2 ma mb (binI0 fun i j => .bl (decide (i < j))))) := dt_cmpI op_lt (nomark _) ha hb
theorem dt_le (ha : DX X a ma) (hb : DX X b mb) : DT X (.Compare a [.LtE] [b] pos) (eT (e2 ma mb (binI0 fun i j => .bl (decide (i ≤ j))))) := dt_cmpI op_le (nomark _) ha hb
theorem dt_gt (ha : DX X a ma) (hb : DX X b mb) : DT X (.Compare a [.Gt] [b] pos) (eT (e2 ma mb (binI0 fun i j => .bl (decide (j < i))))) := dt_cmpI op_gt (nomark _) ha hb
theorem dt_ge (ha : DX X a ma) (hb : DX X b mb) : DT X (.Compare a [.GtE] [b] pos) (eT (e2 ma mb (binI0 fun i j => .bl (decide (j ≤ i))))) := dt_cmpI op_ge (nomark _) ha hb
theorem dt_eq (hu : X.A.units + 128 < cLine) (ha : DX X a ma) (hb : DX X b mb) : DT X (.Compare a [.Eq] [b] pos) (eT (e2 ma mb fun x y => (eqS x y).map .bl)) :=
  dt_cmpR (op_eq.or (op_eqX hu)) (nomark _) ha hb fun v w v2 w2 fp fp2 H d Q r1 r2 hf q => by
    cases e : eqS w w2 with
    | none => rw [e] at hf; cases hf
    | some k => rw [e] at hf; cases hf; exact eq_rule r1 r2 e (q _ _ (Same.refl H) (.bl _))
theorem dt_ne (hu : X.A.units + 128 < cLine) (ha : DX X a ma) (hb : DX X b mb) : DT X (.Compare a [.NotEq] [b] pos) (eT (e2 ma mb fun x y => (eqS x y).map fun k => .bl (!k))) :=
  dt_cmpR (op_ne.or (op_neX hu)) (nomark _) ha hb fun v w v2 w2 fp fp2 H d Q r1 r2 hf q => by
    cases e : eqS w w2 with
    | none => rw [e] at hf; cases hf
    | some k => rw [e] at hf; cases hf; exact ne_rule r1 r2 e (q _ _ (Same.refl H) (.bl _))
theorem dt_in (hu : X.A.units + 129 < cLine) (hm : behindInMarks .In b = false) (ha : DX X a ma) (hb : DX X b mb) : DT X (.Compare a [.In] [b] pos) (eT (e2 ma mb fun x y => (inS x y).map .bl)) :=
  dt_cmpR (op_in_seq.or (op_inX hu)) hm ha hb fun v w v2 w2 fp fp2 H d Q r1 r2 hf q => by
    cases e : inS w w2 with
    | none => rw [e] at hf; cases hf
    | some k => rw [e] at hf; cases hf; exact in_rule (neg := false) r1 r2 e (q _ _ (Same.refl H) (.bl _))
theorem dt_notIn (hu : X.A.units + 129 < cLine) (hm : behindInMarks .NotIn b = false) (ha : DX X a ma) (hb : DX X b mb) : DT X (.Compare a [.NotIn] [b] pos) (eT (e2 ma mb fun x y => (inS x y).map fun k => .bl (!k))) :=
  dt_cmpR (op_notIn_seq.or (op_notInX hu)) hm ha hb fun v w v2 w2 fp fp2 H d Q r1 r2 hf q => by
    cases e : inS w w2 with
    | none => rw [e] at hf; cases hf
    | some k => rw [e] at hf; cases hf; exact in_rule (neg := true) r1 r2 e (q _ _ (Same.refl H) (.bl _))
theorem dt_isN {j pos'} (ha : DX X a ma) : DT X (.Compare a [.Is] [.Constant .none j pos'] pos) (eT (e1 ma fun w => some (.bl (isNonS w)))) := by
  refine ⟨fun Wx tk => pt_imp (pt_cmp (pc_isN (ha.pe Wx tk)) rfl) fun σ H Q ⟨Γ, st, rl, q⟩ => ⟨Γ, st, rl, ?_⟩⟩
  refine fin.imp (fin.bind (fin.bind q)) fun a st1 q1 v H1 r1 g1 ar => ?_
  obtain ⟨d, ed, q3⟩ := fin_opt q1
  obtain ⟨w, ew, ed⟩ := bindO_some ed
  obtain ⟨fp, rs⟩ := r1.look ar ew
  cases ed
  exact ⟨_, rfl, by rw [rs.isNon]; exact q3 H1 r1 g1⟩
theorem dt_notN {j pos'} (ha : DX X a ma) : DT X (.Compare a [.IsNot] [.Constant .none j pos'] pos) (eT (e1 ma fun w => some (.bl (!isNonS w)))) := by
  refine ⟨fun Wx tk => pt_imp (pt_cmp (pc_notN (ha.pe Wx tk)) rfl) fun σ H Q ⟨Γ, st, rl, q⟩ => ⟨Γ, st, rl, ?_⟩⟩
  refine fin.imp (fin.bind (fin.bind q)) fun a st1 q1 v H1 r1 g1 ar => ?_
  obtain ⟨d, ed, q3⟩ := fin_opt q1
  obtain ⟨w, ew, ed⟩ := bindO_some ed
  obtain ⟨fp, rs⟩ := r1.look ar ew
  cases ed
  exact ⟨_, rfl, by rw [rs.isNon]; exact q3 H1 r1 g1⟩
end

/-! ### a def of the program -/
structure FN (K : PySem.W.Frag) (mg : Str → Option Value) (x qual : Str) (st : Stmt) (ps : List Str) : Prop where
  ex : ∃ f fd, mg x = some (.ref f) ∧ Fun K x qual st f fd ∧ Binds K fd ps []
section
variable {P : Program} {w : World} {K : PySem.W.Frag} {mg : Str → Option Value} {base : Heap}
theorem dfn_of {x qual : Str} {st : Stmt} {N ps : List Str} {k n : Nat} {pn : List Nat} {mb : DS → SO} (F : FN K mg x qual st ps) (S : FnScope N ps (defScope st)) (hn : ps.length = n) (hnN : n ≤ N.length)
    (body : ∀ (f : Addr) (cdv : Value) (A : Around) (outer : List Env) (s : Shared) (H : Hp) (E : XK), Room k (A.deeper (envOfC qual (defScope st) s.heap.objs.size f cdv)) → DSs (cxOf (L2.CX P w) P w K mg base N qual (defScope st) f cdv A outer s H E) pn (defBody st) mb) :
    DFn P w K mg base (k + 1) x n (runF n N.length pn mb) := by
  obtain ⟨f, fd, hm, F, hb⟩ := F.ex
  exact dfn_mk F S hm hb hn hnN (body f)
theorem hu65 {A : Around} {k : Nat} (hr : Room k A) : A.units + 129 < cLine := by have := hr.un; omega
theorem hu64 {A : Around} {k : Nat} (hr : Room k A) : A.units + 128 < cLine := by have := hr.un; omega
/-- no promise -/
theorem dfn_no {x qual : Str} {st : Stmt} {N ps : List Str} {k n : Nat} (F : FN K mg x qual st ps) (S : FnScope N ps (defScope st)) (hn : ps.length = n) : DFn P w K mg base (k + 1) x n (fun _ => .stuck) := by
  obtain ⟨f, fd, hm, F, hb⟩ := F.ex
  refine ⟨f, fd, ps, hm, F.kp, hb, hn, F.okX S (fun vs H Q E h => h.1.trans hn.symm) fun cdv A outer s H vs Q E hr h => ?_⟩
  obtain ⟨_, ws, fp, _, _, _, q⟩ := h
  exact q.elim
end
end DL

/-! ## DL16 -/
namespace DL
open PySem PySem.Spec PyProof.Rows L2
variable [Tb]

def objE (i : Nat) (a : Addr) (b : Bool) : DS → ER Py := fun st => if objAt st i a then .ok (.bl b) st else .stuck
def cxC (x : Str) (ps : List Str) (y : Str) : Option Bool := if y = x then some true else if y ∈ ps then some false else none
def msC (ms : Addr → DS → SO) (y : Exn) (a : Addr) : DS → SO := match y.arg with
  | none => ms a
  | some _ => fun _ => .stuck
noncomputable def tryM (mb : DS → SO) (x : Str) (ps : List Str) (i : Nat) (ms : Addr → DS → SO) : DS → SO := tryS mb (cxC x ps) i (msC ms)
/-- try .. except x as n, x an own class without an __init__; ps: own classes that pass -/
theorem sT {X : Cx} {pn : List Nat} {x n : Str} {C : Addr} {i : Nat} {b : List Stmt} {b0 : Stmt} {suite : List Stmt} {np pos pos' : Pos} {mb : DS → SO} {ms : Addr → DS → SO} (ps : List Str)
    (hs : X.stack = X.env :: X.outer) (hf : X.env.frame = some X.env.locals) (hN : X.N.Nodup) (hi : X.N[i]? = some n) (hln : X.env.kindOf n = some .local) (hg : Gl X x) (hm : X.mg x = some (.ref C)) (hp : i ∉ pn) (hex : PySem.W.exmOne X.K (.ref C) (.ref C) = some true)
    (hps : ∀ y ∈ ps, ∃ D, X.mg y = some (.ref D) ∧ PySem.W.exmOne X.K (.ref D) (.ref C) = some false)
    (hb : ∀ (pl : List (Addr × Obj)) (xe : Value → Shared → Prop), PassesOwn (model X.prog X.w) X.A X.env xe → DSs (X.tr pl xe) pn b mb)
    (hsu : ∀ (a : Addr) (oe : Obj) (pl : List (Addr × Obj)), Zc (.ref C) none oe → (∃ vs, oe.data = .fields vs) → DSs (X.suite a ((a, oe) :: pl)) (i :: pn) (b0 :: suite) (ms a)) (hdb : (x == ("__debug__" : Str)) = false := by decide) :
    DSt X pn (.Try b [.ExceptHandler (some (.Name x np)) (some n) (b0 :: suite) pos'] [] [] pos) (tryM mb x ps i ms) := by
  refine ds_try_as (C := C) hs hf hN hi hln ⟨hg, hdb, .inl hm⟩ hp (fun y bb cls hc hy => ?_) hb fun y a oe cls d pl hz hv hy hd hc => ?_
  · unfold cxC at hc
    split at hc
    · rename_i e
      cases hc
      subst e
      rw [hm] at hy
      cases hy
      exact hex
    · split at hc
      · rename_i e
        cases hc
        obtain ⟨D, h1, h2⟩ := hps y e
        rw [h1] at hy
        cases hy
        exact h2
      · cases hc
  · unfold cxC at hc
    split at hc
    · rename_i e
      unfold msC
      cases ea : y.arg with
      | none =>
        have := hd ea
        subst this
        rw [e, hm] at hy
        cases hy
        exact hsu a oe pl hz hv
      | some _ => exact ⟨fun Wx tk => ⟨fun pins s σ H D I ⟨Γ, st, np, r, q⟩ => q.elim⟩⟩
    · split at hc <;> cases hc
end DL

/-! ## DL17 -/
namespace DL
open PySem PySem.Spec PyProof.Rows L2
variable [Tb]

/-! ### mirrors, evaluated -/
section
variable {st : DS} {i : Nat} {a b : DS → SO} {mp mp2 : DS → ER Py} {mo : DS → ER Sv} {ml : DS → ER (List Py)} {mt mt2 : DS → ER Bool} {mx mx2 : DS → ER Ar} {mxs : DS → ER (List Ar)} {α : Type}
@[simp] theorem kI_ap {i : Int} : kI i st = .ok (.int i) st := rfl
@[simp] theorem kB_ap {i : Bool} : kB i st = .ok (.bl i) st := rfl
@[simp] theorem kN_ap : kN st = .ok .non st := rfl
@[simp] theorem kS_ap {x : Str} : kS x st = .ok (.str x) st := rfl
@[simp] theorem frzM_ap : frzM mo st = (mo st).bind fun w st' => optE (frzS w) st' := rfl
@[simp] theorem valM_ap : valM mp st = (mp st).bind fun d st' => .ok (.val d) st' := rfl
@[simp] theorem xM_ap : xM mp st = (mp st).bind fun d st' => .ok (.v d) st' := rfl
@[simp] theorem frzS_val {d : Py} : frzS (.val d) = some d := rfl
@[simp] theorem frzS_lst {d : List Py} : frzS (.lst d) = some (.lst d) := rfl
@[simp] theorem frzS_dit {d : List (Py × Py)} : frzS (.dit d) = some (.dit d) := rfl
@[simp] theorem frzS_dic {d : List (Py × Py)} : frzS (.dic d) = some (.dic d) := rfl
theorem varX_v {d : Py} (h : st[i]? = some (some (.val d))) : varX i st = .ok (.v d) st := by unfold varX; rw [h]
theorem varX_l {d : List Py} (h : st[i]? = some (some (.lst d))) : varX i st = .ok (.s i) st := by unfold varX; rw [h]
theorem takeO_v {d : Py} (h : st[i]? = some (some (.val d))) : takeO i st = .ok (.val d) st := by unfold takeO; rw [h]
theorem takeO_l {d : List Py} (h : st[i]? = some (some (.lst d))) : takeO i st = .ok (.lst d) (st.set i none) := by unfold takeO; rw [h]
theorem lockE_v {d : Py} (h : st[i]? = some (some (.val d))) : lockE i st = .ok d (st.set i (some (.val d))) := by unfold lockE; rw [h]; rfl
theorem lockE_l {d : List Py} (h : st[i]? = some (some (.lst d))) : lockE i st = .ok (.lst d) (st.set i (some (.val (.lst d)))) := by unfold lockE; rw [h]; rfl
@[simp] theorem nilV_ap : nilV st = .ok [] st := rfl
@[simp] theorem consV_ap : consV mp ml st = (mp st).bind fun d st1 => (ml st1).bind fun ds st2 => .ok (d :: ds) st2 := rfl
@[simp] theorem nilA_ap : nilA st = .ok [] st := rfl
@[simp] theorem consA_ap : consA mx mxs st = (mx st).bind fun d st1 => (mxs st1).bind fun ds st2 => .ok (d :: ds) st2 := rfl
@[simp] theorem tupM_ap : tupM ml st = (ml st).bind fun ds st1 => .ok (.tup ds) st1 := rfl
@[simp] theorem lstM_ap : lstM ml st = (ml st).bind fun ds st1 => .ok (.lst ds) st1 := rfl
@[simp] theorem eT_ap : eT mp st = (mp st).bind fun d st1 => optE (asBl d) st1 := rfl
@[simp] theorem asBl_bl {b : Bool} : asBl (.bl b) = some b := rfl
@[simp] theorem asInt_int {b : Int} : asInt (.int b) = some b := rfl
@[simp] theorem andT_ap : andT mt mt2 st = (mt st).bind fun k st1 => if k then mt2 st1 else .ok false st1 := rfl
@[simp] theorem orT_ap : orT mt mt2 st = (mt st).bind fun k st1 => if k then .ok true st1 else mt2 st1 := rfl
@[simp] theorem notT_ap : notT mt st = (mt st).bind fun k st1 => .ok (!k) st1 := rfl
@[simp] theorem ifE_ap : ifE mt mp mp2 st = (mt st).bind fun k st1 => if k then mp st1 else mp2 st1 := rfl
@[simp] theorem andE_ap : andE mp mp2 st = (mp st).bind fun d st1 => (optE (asBl d) st1).bind fun k st1 => if k then mp2 st1 else .ok (.bl false) st1 := rfl
@[simp] theorem orE_ap : orE mp mp2 st = (mp st).bind fun d st1 => (optE (asBl d) st1).bind fun k st1 => if k then .ok (.bl true) st1 else mp2 st1 := rfl
@[simp] theorem notE_ap : notE mp st = (mp st).bind fun d st1 => (optE (asBl d) st1).bind fun k st1 => .ok (.bl (!k)) st1 := rfl
@[simp] theorem pN_ap : pN st = .ok none st := rfl
@[simp] theorem pS_ap : pS mp st = (mp st).bind fun d st1 => (optE (asInt d) st1).bind fun i st1 => .ok (some i) st1 := rfl
@[simp] theorem slM_ap {l h : DS → ER (Option Int)} : slM mx l h st = (mx st).bind fun a st1 => (l st1).bind fun l st2 => (h st2).bind fun u st3 => optE (bindO st3 a fun x => sliceS x l u) st3 := rfl
@[simp] theorem seqM_ap : seqM a b st = seqS (a st) b := rfl
@[simp] theorem exM_ap : exM mo st = (mo st).s fun _ st1 => .nx st1 := rfl
@[simp] theorem rtM_ap : rtM mo st = (mo st).s fun w st1 => .rt w st1 := rfl
@[simp] theorem stM_ap : stM i mo st = (mo st).s fun w st1 => putO i w st1 := rfl
@[simp] theorem asM_ap {f : Py → DS → Option DS} : asM f mp st = (mp st).s fun d st1 => tgtO (f d st1) := rfl
@[simp] theorem tgtO_some : tgtO (some st) = .nx st := rfl
@[simp] theorem ifM_ap : ifM mt a b st = (mt st).s fun k st1 => if k then a st1 else b st1 := rfl
@[simp] theorem forM_ap {f : Py → DS → Option DS} : forM ml f b st = (ml st).s fun ds st1 => forS f b ds st1 := rfl
@[simp] theorem nxM_ap : nxM st = .nx st := rfl
@[simp] theorem bkM_ap : bkM st = .bk st := rfl
@[simp] theorem ctM_ap : ctM st = .ct st := rfl
@[simp] theorem rnM_ap : rnM st = .rt (.val .non) st := rfl
@[simp] theorem rsM_ap {x : Str} : rsM x st = .ex ⟨x, none⟩ st := rfl
@[simp] theorem sqI_ap : sqI mp st = (mp st).bind fun d st1 => optE (itemsS (.val d)) st1 := rfl
@[simp] theorem rg1_ap : rg1 ml st = (ml st).bind fun ds st1 => optE (range1 ds) st1 := rfl
@[simp] theorem rg2_ap : rg2 ml st = (ml st).bind fun ds st1 => optE (range2 ds) st1 := rfl
@[simp] theorem rg3_ap : rg3 ml st = (ml st).bind fun ds st1 => optE (range3 ds) st1 := rfl
@[simp] theorem yesT_ap : yesT st = .ok true st := rfl
@[simp] theorem e1_ap {f : Sv → Option α} : e1 mx f st = (mx st).bind fun a st1 => optE (bindO st1 a f) st1 := rfl
@[simp] theorem e2_ap {f : Sv → Sv → Option α} : e2 mx mx2 f st = (mx st).bind fun a st1 => (mx2 st1).bind fun b st2 => optE (bindO st2 a fun x => bindO st2 b fun y => f x y) st2 := rfl
@[simp] theorem bindO_v {d : Py} {f : Sv → Option α} : bindO st (.v d) f = f (.val d) := rfl
@[simp] theorem bindO_s {f : Sv → Option α} : bindO st (.s i) f = (st[i]?).join.bind f := rfl
@[simp] theorem binI0_v {i j : Int} {g : Int → Int → α} : binI0 g (.val (.int i)) (.val (.int j)) = some (g i j) := rfl
@[simp] theorem binI_v {c : Int → Int → Prop} [∀ i j, Decidable (c i j)] {i j : Int} {g : Int → Int → α} : binI c g (.val (.int i)) (.val (.int j)) = if c i j then some (g i j) else none := rfl
@[simp] theorem itemsS_tup {ds : List Py} : itemsS (.val (.tup ds)) = some ds := rfl
@[simp] theorem itemsS_lst {ds : List Py} : itemsS (.val (.lst ds)) = some ds := rfl
@[simp] theorem itemsS_l {ds : List Py} : itemsS (.lst ds) = some ds := rfl
@[simp] theorem listS_lst {ds : List Py} : listS (.val (.lst ds)) = some ds := rfl
@[simp] theorem listS_l {ds : List Py} : listS (.lst ds) = some ds := rfl
@[simp] theorem intS_v {i : Int} : intS (.val (.int i)) = some i := rfl
@[simp] theorem intOf_i {i : Int} : intOf (.val (.int i)) = some (.int i) := rfl
@[simp] theorem intOf_b {i : Bool} : intOf (.val (.bl i)) = some (.int (if i then 1 else 0)) := rfl
@[simp] theorem truS_n : truS (.val .non) = some false := rfl
@[simp] theorem truS_b {b : Bool} : truS (.val (.bl b)) = some b := rfl
@[simp] theorem truS_t {ds : List Py} : truS (.val (.tup ds)) = some (!ds.isEmpty) := rfl
@[simp] theorem truS_l {ds : List Py} : truS (.lst ds) = some (!ds.isEmpty) := rfl
@[simp] theorem truS_ll {ds : List Py} : truS (.val (.lst ds)) = some (!ds.isEmpty) := rfl
@[simp] theorem lenS_t {ds : List Py} : lenS (.val (.tup ds)) = some (.int ds.length) := rfl
@[simp] theorem lenS_ll {ds : List Py} : lenS (.val (.lst ds)) = some (.int ds.length) := rfl
@[simp] theorem lenS_l {ds : List Py} : lenS (.lst ds) = some (.int ds.length) := rfl
@[simp] theorem isNonS_n : isNonS (.val .non) = true := rfl
@[simp] theorem isNonS_i {i : Int} : isNonS (.val (.int i)) = false := rfl
@[simp] theorem isNonS_b {i : Bool} : isNonS (.val (.bl i)) = false := rfl
@[simp] theorem isNonS_s {i : Str} : isNonS (.val (.str i)) = false := rfl
@[simp] theorem isNonS_t {i : List Py} : isNonS (.val (.tup i)) = false := rfl
@[simp] theorem isNonS_ll {i : List Py} : isNonS (.val (.lst i)) = false := rfl
@[simp] theorem isNonS_l {i : List Py} : isNonS (.lst i) = false := rfl
@[simp] theorem tyS_n : tyS (.val .non) = some .non := rfl
@[simp] theorem tyS_i {i : Int} : tyS (.val (.int i)) = some .int := rfl
@[simp] theorem tyS_b {i : Bool} : tyS (.val (.bl i)) = some .bool := rfl
@[simp] theorem tyS_s {i : Str} : tyS (.val (.str i)) = some .str := rfl
@[simp] theorem tyS_t {i : List Py} : tyS (.val (.tup i)) = some .tuple := rfl
@[simp] theorem tyS_ll {i : List Py} : tyS (.val (.lst i)) = some .list := rfl
@[simp] theorem tyS_l {i : List Py} : tyS (.lst i) = some .list := rfl
@[simp] theorem isiS_ap {c : Tn} {w : Sv} : isiS c w = (tyS w).map (isiT c) := rfl
@[simp] theorem isiS2_ap {c c2 : Tn} {w : Sv} : isiS2 c c2 w = (tyS w).map fun n => isiT c n || isiT c2 n := rfl
@[simp] theorem eqS_i {x y : Int} : eqS (.val (.int x)) (.val (.int y)) = some (decide (x = y)) := rfl
@[simp] theorem eqS_s {x y : Str} : eqS (.val (.str x)) (.val (.str y)) = some (decide (x = y)) := rfl
@[simp] theorem eqS_b {x y : Bool} : eqS (.val (.bl x)) (.val (.bl y)) = some (decide (x = y)) := rfl
@[simp] theorem ixS_t {ds : List Py} {i : Int} : ixS (.val (.tup ds)) (.val (.int i)) = atI ds i := rfl
@[simp] theorem ixS_ll {ds : List Py} {i : Int} : ixS (.val (.lst ds)) (.val (.int i)) = atI ds i := rfl
@[simp] theorem ixS_l {ds : List Py} {i : Int} : ixS (.lst ds) (.val (.int i)) = atI ds i := rfl
theorem atI_nat {xs : List α} {i : Nat} (h : i < xs.length) : atI xs (i : Int) = some xs[i] := by simp [atI, ixN, h]
@[simp] theorem atI_0 {x : α} {xs : List α} : atI (x :: xs) 0 = some x := atI_nat (i := 0) (by simp)
@[simp] theorem atI_1 {x y : α} {xs : List α} : atI (x :: y :: xs) 1 = some y := atI_nat (i := 1) (by simp)
@[simp] theorem atI_2 {x y z : α} {xs : List α} : atI (x :: y :: z :: xs) 2 = some z := atI_nat (i := 2) (by simp)
@[simp] theorem atI_3 {x y z u : α} {xs : List α} : atI (x :: y :: z :: u :: xs) 3 = some u := atI_nat (i := 3) (by simp)
@[simp] theorem atI_4 {x y z u w : α} {xs : List α} : atI (x :: y :: z :: u :: w :: xs) 4 = some w := atI_nat (i := 4) (by simp)
@[simp] theorem ixN_0 {n : Nat} (h : 0 < n) : ixN n 0 = some 0 := by simp [ixN]; omega
@[simp] theorem ixN_1 {n : Nat} (h : 1 < n) : ixN n 1 = some 1 := by simp [ixN]; omega
@[simp] theorem ixN_2 {n : Nat} (h : 2 < n) : ixN n 2 = some 2 := by simp [ixN]; omega
@[simp] theorem ixN_3 {n : Nat} (h : 3 < n) : ixN n 3 = some 3 := by simp [ixN]; omega
@[simp] theorem ixN_4 {n : Nat} (h : 4 < n) : ixN n 4 = some 4 := by simp [ixN]; omega
@[simp] theorem revS_t {ds : List Py} : revS (.val (.tup ds)) = some (.val (.tup ds.reverse)) := rfl
@[simp] theorem revS_ll {ds : List Py} : revS (.val (.lst ds)) = some (.lst ds.reverse) := rfl
@[simp] theorem revS_l {ds : List Py} : revS (.lst ds) = some (.lst ds.reverse) := rfl
@[simp] theorem addS_t {a b : List Py} : addS (.val (.tup a)) (.val (.tup b)) = if a.length + b.length ≤ sizeLine then some (.val (.tup (a ++ b))) else none := rfl
@[simp] theorem addS_ll {a b : List Py} : addS (.val (.lst a)) (.val (.lst b)) = if a.length + b.length ≤ sizeLine then some (.lst (a ++ b)) else none := rfl
@[simp] theorem addS_l1 {a b : List Py} : addS (.lst a) (.val (.lst b)) = if a.length + b.length ≤ sizeLine then some (.lst (a ++ b)) else none := rfl
@[simp] theorem addS_l2 {a b : List Py} : addS (.val (.lst a)) (.lst b) = if a.length + b.length ≤ sizeLine then some (.lst (a ++ b)) else none := rfl
@[simp] theorem addS_l {a b : List Py} : addS (.lst a) (.lst b) = if a.length + b.length ≤ sizeLine then some (.lst (a ++ b)) else none := rfl
@[simp] theorem addS_i {a b : Int} : addS (.val (.int a)) (.val (.int b)) = some (.val (.int (a + b))) := rfl
@[simp] theorem sliceS_t {ds : List Py} {l h : Option Int} : sliceS (.val (.tup ds)) l h = some (.val (.tup (cutP ds l h))) := rfl
@[simp] theorem sliceS_ll {ds : List Py} {l h : Option Int} : sliceS (.val (.lst ds)) l h = some (.lst (cutP ds l h)) := rfl
@[simp] theorem sliceS_l {ds : List Py} {l h : Option Int} : sliceS (.lst ds) l h = some (.lst (cutP ds l h)) := rfl
@[simp] theorem tupS_t {ds : List Py} : tupS (.val (.tup ds)) = some (.tup ds) := rfl
@[simp] theorem tupS_ll {ds : List Py} : tupS (.val (.lst ds)) = some (.tup ds) := rfl
@[simp] theorem tupS_l {ds : List Py} : tupS (.lst ds) = some (.tup ds) := rfl
@[simp] theorem tupS_dt {ds : List (Py × Py)} : tupS (.val (.dit ds)) = some (.tup (ds.map (·.1))) := rfl
@[simp] theorem tupS_d {ds : List (Py × Py)} : tupS (.val (.dic ds)) = some (.tup (ds.map (·.1))) := rfl
@[simp] theorem range1_ap {n : Int} : range1 [.int n] = if inB n then some (rangeL 0 1 n.toNat) else none := rfl
@[simp] theorem range2_ap {a b : Int} : range2 [.int a, .int b] = if inB a && inB b then some (rangeL a 1 (b - a).toNat) else none := rfl
@[simp] theorem range3_ap {a b c : Int} : range3 [.int a, .int b, .int c] = if inB a && inB b && decide (c = -1) then some (rangeL a (-1) (a - b).toNat) else none := rfl
@[simp] theorem forS_nil {f : Py → DS → Option DS} : forS f b [] st = .nx st := rfl
theorem forS_cons {f : Py → DS → Option DS} {d : Py} {ds : List Py} {st1 : DS} (h : f d st = some st1) : forS f b (d :: ds) st = loopS (b st1) (forS f b ds) := by simp only [forS, h]
@[simp] theorem gNameS_ap {d : Py} : gNameS i d st = if i < st.length then some (st.set i (some (.val d))) else none := rfl
@[simp] theorem gNilS_ap : gNilS [] st = some st := rfl
@[simp] theorem gConsS_ap {f : Py → DS → Option DS} {g : List Py → DS → Option DS} {d : Py} {ds : List Py} : gConsS f g (d :: ds) st = (f d st).bind (g ds) := rfl
@[simp] theorem gTupS_ap {n : Nat} {g : List Py → DS → Option DS} {ds : List Py} : gTupS n g (.tup ds) st = if ds.length = n then g ds st else none := rfl
@[simp] theorem putO_ap {w : Sv} : putO i w st = if i < st.length then .nx (st.set i (some w)) else .stuck := rfl
theorem lstAt_ap {ds : List Py} (h : st[i]? = some (some (.lst ds))) : lstAt st i = some ds := by unfold lstAt; rw [h]
@[simp] theorem appendE_ap : appendE i mp st = (optE (lstAt st i) st).bind fun _ st => (mp st).bind fun d st1 => (optE (lstAt st1 i) st1).bind fun ds st1 => if ds.length < sizeLine then .ok .non (st1.set i (some (.lst (ds ++ [d])))) else .stuck := rfl
theorem popE_ap {ds : List Py} {d : Py} (h : lstAt st i = some (ds ++ [d])) : popE i st = .ok d (st.set i (some (.lst ds))) := by
  unfold popE; rw [h]; simp
@[simp] theorem setLS_ap : setLS i mp mp2 st = (mp st).s fun d st1 => (optE (lstAt st1 i) st1).s fun _ st1 => (mp2 st1).s fun k st2 => (optE (lstAt st2 i) st2).s fun ds st2 => (optE ((asInt k).bind fun k => ixN ds.length k) st2).s fun j st2 => .nx (st2.set i (some (.lst (ds.set j d)))) := rfl
@[simp] theorem augI_ap {g : Int → Int → Int} : augI i g mp st = (optE (((st[i]?).join).bind intS) st).s fun a st => (mp st).s fun d st1 => (optE (asInt d) st1).s fun b st1 => putO i (.val (.int (g a b))) st1 := rfl
@[simp] theorem chainT_ap {p q : Int → Int → Bool} {ma mb mc : DS → ER Ar} : chainT p q ma mb mc st = (ma st).bind fun a st1 => (mb st1).bind fun b st2 => (optE (bindO st2 a fun x => bindO st2 b fun y => binI0 (fun i j => (p i j, j)) x y) st2).bind fun k st2 =>
  if k.1 then (mc st2).bind fun c st3 => optE (bindO st3 c fun z => (intS z).map fun l => q k.2 l) st3 else .ok false st2 := rfl
@[simp] theorem lcM_ap {mi : DS → ER (List Py)} {f : Py → DS → Option DS} {me : DS → ER Py} {vs : List Nat} : lcM mi f mt me vs st = (mi st).bind fun ds st1 => lcS f mt me vs ds [] (wipeS st1 vs) := rfl
@[simp] theorem lcS_nil {f : Py → DS → Option DS} {me : DS → ER Py} {vs : List Nat} {acc : List Py} : lcS f mt me vs [] acc st = .ok (.lst acc) st := rfl
theorem lcS_cons {f : Py → DS → Option DS} {me : DS → ER Py} {vs : List Nat} {acc : List Py} {d : Py} {ds : List Py} {st1 : DS} (h : f d st = some st1) : lcS f mt me vs (d :: ds) acc st = (mt st1).nb fun b st2 => if b then (me st2).nb fun y st3 => if acc.length < sizeLine then lcS f mt me vs ds (acc ++ [y]) (wipeS st3 vs) else .stuck else lcS f mt me vs ds acc (wipeS st2 vs) := by simp only [lcS, h]
@[simp] theorem wipeS_nil : wipeS st [] = st := rfl
@[simp] theorem wipeS_cons {v : Nat} {vs : List Nat} : wipeS st (v :: vs) = (wipeS st vs).set v none := rfl
end
/-- a call's end -/
def callR (r : FR) (as : List Ar) (st : DS) : ER Sv := match r with
  | .ret w outs => .ok w (giveA as outs st)
  | .ex x outs => .ex x (giveA as outs st)
  | .stuck => .stuck
@[simp] theorem callR_ret {w : Sv} {outs st : DS} {as : List Ar} : callR (.ret w outs) as st = .ok w (giveA as outs st) := rfl
@[simp] theorem callR_ex {w : Exn} {outs st : DS} {as : List Ar} : callR (.ex w outs) as st = .ex w (giveA as outs st) := rfl
@[simp] theorem callM_ap {m : FM} {margs : DS → ER (List Ar)} {st : DS} : callM m margs st = (margs st).bind fun as st1 => (optE (takeA as st1) st1).bind fun r st2 => callR (m r.1) as r.2 := by
  unfold callM
  cases margs st with
  | ok as st1 =>
    simp only [ER.bind_ok]
    cases takeA as st1 with
    | none => rfl
    | some r =>
      obtain ⟨ws, st2⟩ := r
      simp only [optE_some, ER.bind_ok]
      cases m ws <;> rfl
  | ex x st1 => rfl
  | stuck => rfl
@[simp] theorem takeA_nil {st : DS} : takeA [] st = some ([], st) := rfl
@[simp] theorem takeA_v {d : Py} {as : List Ar} {st : DS} : takeA (.v d :: as) st = (takeA as st).map fun r => (.val d :: r.1, r.2) := rfl
theorem takeA_s {i : Nat} {w : Sv} {as : List Ar} {st : DS} (h : st[i]? = some (some w)) : takeA (.s i :: as) st = (takeA as (st.set i none)).map fun r => (w :: r.1, r.2) := by
  simp only [takeA, h, Option.join]
  rfl
@[simp] theorem giveA_nil {outs st : DS} : giveA [] outs st = st := by cases outs <;> rfl
@[simp] theorem giveA_v {d : Py} {as : List Ar} {o : Option Sv} {os st : DS} : giveA (.v d :: as) (o :: os) st = giveA as os st := by cases o <;> rfl
@[simp] theorem giveA_s {i : Nat} {w : Sv} {as : List Ar} {os st : DS} : giveA (.s i :: as) (some w :: os) st = giveA as os (st.set i (some w)) := rfl
def outsG (pn : List Nat) (st : DS) : Nat → Nat → DS
  | _, 0 => []
  | i, n + 1 => (if i ∈ pn then (st[i]?).join else none) :: outsG pn st (i + 1) n
theorem outsG_eq {pn : List Nat} {st : DS} : ∀ (n i : Nat), outsG pn st i n = (List.range' i n).map fun i => if i ∈ pn then (st[i]?).join else none
  | 0, i => rfl
  | n + 1, i => by rw [List.range'_succ, List.map_cons, ← outsG_eq n (i + 1)]; rfl
@[simp] theorem outsOf_eq {n : Nat} {pn : List Nat} {st : DS} : outsOf n pn st = outsG pn st 0 n := by rw [outsG_eq, ← List.range_eq_range']; rfl
@[simp] theorem outsG_0 {pn : List Nat} {st : DS} {i : Nat} : outsG pn st i 0 = [] := rfl
@[simp] theorem outsG_1 {pn : List Nat} {st : DS} {i n : Nat} : outsG pn st i (n + 1) = (if i ∈ pn then (st[i]?).join else none) :: outsG pn st (i + 1) n := rfl
/-- a def's end -/
def endF (n : Nat) (pn : List Nat) : SO → FR
  | .nx st => .ret (.val .non) (outsOf n pn st)
  | .rt w st => .ret w (outsOf n pn st)
  | .ex x st => .ex x (outsOf n pn st)
  | _ => .stuck
theorem runF_eq {n N : Nat} {pn : List Nat} {mb : DS → SO} {ws : List Sv} : runF n N pn mb ws = endF n pn (mb (ws.map some ++ List.replicate (N - n) none)) := by
  unfold runF endF
  cases mb (ws.map some ++ List.replicate (N - n) none) <;> rfl
@[simp] theorem endF_nx {n : Nat} {pn : List Nat} {st : DS} : endF n pn (.nx st) = .ret (.val .non) (outsOf n pn st) := rfl
@[simp] theorem endF_rt {n : Nat} {pn : List Nat} {st : DS} {w : Sv} : endF n pn (.rt w st) = .ret w (outsOf n pn st) := rfl
@[simp] theorem endF_ex {n : Nat} {pn : List Nat} {st : DS} {w : Exn} : endF n pn (.ex w st) = .ex w (outsOf n pn st) := rfl
end DL
namespace DL
open PySem PySem.Spec PyProof.Rows L2
variable [Tb]
@[simp] theorem cmul_r {i j : Int} (h1 : -(2 ^ 64) < j) (h2 : j < 2 ^ 64) : CMul i j := .inr ⟨h1, h2⟩
@[simp] theorem cmul_l {i j : Int} (h1 : -(2 ^ 64) < i) (h2 : i < 2 ^ 64) : CMul i j := .inl ⟨h1, h2⟩
@[simp] theorem cdiv_r {i j : Int} (h1 : 0 < j) (h2 : j < 1073741824) : CDiv i j := ⟨h1, h2⟩
@[simp] theorem cpow_r {i j : Int} (h1 : 0 ≤ j) (h2 : j ≤ 1000000) (h3 : i.natAbs < 2 ^ 64) : CPow i j := ⟨h1, h2, h3⟩
theorem atI_last {α : Type} {xs : List α} {x : α} (h : xs.getLast? = some x) : atI xs (-1) = some x := by
  have hl : xs.length ≠ 0 := fun e => by rw [List.length_eq_zero_iff.mp e] at h; cases h
  rw [List.getLast?_eq_getElem?] at h
  have h1 : ixN xs.length (-1) = some (xs.length - 1) := by
    unfold ixN
    rw [if_neg (by decide), if_pos (by omega)]
    congr 1
    omega
  unfold atI
  rw [h1]
  exact h
end DL
namespace DL
open PySem PySem.Spec PyProof.Rows L2
variable [Tb]
@[simp] theorem cmul_mod {x y : Int} : CMul (x % 2147483647) y := by
  refine .inl ⟨?_, ?_⟩ <;> omega
@[simp] theorem isiT_1 : isiT .str .str = true := rfl
@[simp] theorem isiT_eq {a b : Tn} : isiT a b = (b == a || (a == .int && b == .bool)) := rfl
end DL
namespace DL
open PySem PySem.Spec PyProof.Rows L2
variable [Tb]
@[simp] theorem extendE_ap {i : Nat} {me : DS → ER Ar} {st : DS} : extendE i me st = (optE (lstAt st i) st).bind fun _ st => (me st).bind fun d st1 => (optE (lstAt st1 i) st1).bind fun ds st1 => (optE (bindO st1 d itemsS) st1).bind fun es st1 =>
  if ds.length + es.length ≤ sizeLine then .ok .non (st1.set i (some (.lst (ds ++ es)))) else .stuck := rfl
@[simp] theorem popE_ap' {i : Nat} {st : DS} : popE i st = (optE (lstAt st i) st).bind fun ds st => match ds.getLast? with
  | some d => .ok d (st.set i (some (.lst ds.dropLast)))
  | none => .stuck := rfl
end DL

/-! ## DL18 -/
namespace DL
open PySem PySem.Spec PyProof.Rows L2
variable [Tb]
/-! ### the end of a law -/
theorem fnm {K : PySem.W.Frag} {h : Heap} {mg : Str → Option Value} (X : K.In h) (G : h.Ns mainGlobals mg) {x qual : Str} {st : Stmt} {f : Addr} {oc : Value} {od an : Option Addr} {osl : Array (Option Value)} {kV doc pm cdv ct : Value} {ps : List Str}
    (a : PySem.W.nsIn K mainGlobals x = some (some (.ref f))) (l : K.lookup f = some ⟨oc, od, .func (PySem.W.fnOf x qual (defArgs st) (defBody st) (defScope st) .none kV doc pm an cdv ct), osl⟩) (c : PySem.W.codeIn K cdv qual = true) (k : PySem.W.keepIn K (.ref f) = true)
    (hb : ∀ (kV doc pm : Value) (an : Option Addr) (cdv ct : Value) (us : List Value), us.length = ps.length → bindArgs (PySem.W.fnOf x qual (defArgs st) (defBody st) (defScope st) .none kV doc pm an cdv ct) ⟨us, []⟩ = pure (ps.zip us)) : FN K mg x qual st ps :=
  ⟨f, _, PySem.W.mg_of X G a, fun_mk l c k, (fun_mk l c k).binds hb⟩
def spScript (K : PySem.W.Frag) : Sp := fun vs H Q _ => ∃ (a : Addr) (ns : List Int), vs = [.ref a] ∧ SqF K H a (ns.map V.int) ∧ TabsOk H ∧ ∀ H', Q (.bl true) H'
theorem RA.ofInts {K : PySem.W.Frag} {H : Hp} : ∀ ns : List Int, RA K H (ns.map V.int) (ns.map Py.int)
  | [] => .nil
  | n :: ns => .cons (.int n) (RA.ofInts ns)
theorem law_fn {P : Program} {w : World} {K : PySem.W.Frag} {mg : Str → Option Value} {base : Heap} {k : Nat} {f : Addr} {fd : FuncData} {ps : List Str} {m : FM} (h : FnOk P w K mg base (L2.CX P w) k f fd ps (spD mg K 1 m))
    (hm : ∀ ns : List Int, ∃ outs, m [.val (.lst (ns.map .int))] = .ret (.val (.bl true)) outs) : FnOk P w K mg base (L2.CX P w) k f fd ps (spScript K) :=
  h.imp fun vs H Q E ⟨a, ns, e, hs, tb, q⟩ => by
    subst e
    obtain ⟨outs, e⟩ := hm ns
    refine ⟨rfl, [.val (.lst (ns.map .int))], [], .yes (fp1 := []) (.val (.lst hs (RA.ofInts ns))) .nil, List.nodup_nil, tb, ?_⟩
    rw [e]
    intro v H' fw fo rs _ _ _ _
    have rd := rs.data rfl
    cases rd
    exact q H'
theorem sqF_of {K : PySem.W.Frag} {H : Hp} {a : Addr} {xs : List V} (hO : Only H) (hS : SqL K H a xs) : SqF K H a xs := by
  rcases hS with (h | h) | h
  · rcases hO a with z | ⟨o, ys, z⟩ <;> rw [h] at z <;> cases z
  · exact .inl h
  · exact .inr h
theorem walk_law {l : PySem.W.OpenLaw} {n k : Nat} {q : Program} {loose : List Str} {XP : (Str → Option Value) → Heap → Prop} {YP : World → Heap → Prop} {d : DefRec} {K : Params → PySem.W.Frag} (hT : Tb.T = []) (hn : l.most = some n) (hn2 : n ≤ sizeLine) (hdf : d.params.defaults = []) (hr : Room k callerA)
    (hY : ∀ (w : World) (h : Heap), YP w h → (K w.params).In h)
    (F : ∀ (w : World) (mg : Str → Option Value) (fa : Addr) (h : Heap), (K w.params).In h → h.Ns mainGlobals mg → mg d.name = some (.ref fa) →
      ∃ fd : FuncData, (∀ (s : Shared) (u : Value), BindsTo s fd ⟨[u], []⟩ [("script", u)]) ∧ ∀ base : Heap, (K w.params).In base → base.Ns mainGlobals mg → FnOk l.prog w (K w.params) mg base (L2.CX l.prog w) k fa fd ["script"] (spScript (K w.params))) :
    PySem.W.WalkO q loose XP YP l.row.toRowW d [] (fun f vs => PySem.call f vs) :=
  L2.walk_of (n := n) (k := k) (x := "script") (CX := fun w => L2.CX l.prog w) (sp := fun w => spScript (K w.params)) hn hn2 hdf hr hY F (fun _ _ a ns _ hO hS => ⟨a, ns, rfl, sqF_of hO hS, by unfold TabsOk; rw [hT]; exact nofun, fun _ => rfl⟩) fun _ _ _ _ _ z => by
    obtain ⟨_, _, _, _, _, _, _, _, _, _, _, _, z⟩ := z
    exact z
end DL
namespace DL
open PySem PySem.Spec PyProof.Rows L2
variable [Tb]
theorem kit_ref {K : PySem.W.Frag} {C D : Addr} {b : Bool} (hdct : PySem.W.hasDictIn K C = true) (ht : PySem.W.typeIn K (.ref C) = some (.type "type")) (h4 : PySem.W.subIn K (.ref D) (.ref C) = some b) (hs : PySem.W.subIn K (.ref C) (.ref C) = some true) : PySem.W.kitOne K (.ref D) (.ref C) = some b := by
  by_cases e : D = C
  · subst e
    rw [h4] at hs
    cases hs
    show (if ((Value.ref D) == (Value.ref D)) = true then some true else _) = some true
    rw [if_pos (beq_self_eq_true _)]
  · have h0 : ¬ ((Value.ref D) == (Value.ref C)) = true := fun z => e (Value.ref.inj (beq_iff_eq.mp z))
    obtain ⟨cd, hc, _⟩ : ∃ cd, PySem.W.clsIn K C = some cd ∧ True := by
      unfold PySem.W.hasDictIn at hdct
      cases z : PySem.W.clsIn K C with
      | none => rw [z] at hdct; cases hdct
      | some cd => exact ⟨cd, rfl, trivial⟩
    have e2 : ((PySem.W.clsIn K C).isSome && PySem.W.typeIn K (.ref C) == some (.type "type")) = true := by rw [hc, ht] <;> rfl
    show (if ((Value.ref D) == (Value.ref C)) = true then some true else (if ((PySem.W.clsIn K C).isSome && PySem.W.typeIn K (.ref C) == some (.type "type")) = true then PySem.W.subIn K (.ref D) (.ref C) else none)) = some b
    rw [if_neg h0, if_pos e2]
    exact h4
end DL

/-! ## DL19 -/
namespace DL
open PySem PySem.Spec PyProof.Rows L2 LamX
variable [Tb]
/-! ### lambdas of one parameter, handed to a def -/
structure LamP (sc scope : Scope) (N : List Str) (x : Str) (ix : Nat) : Prop where
  kind : scope.kind = .function
  co : scope.isCoroutine = false
  gen : scope.isGenerator = false
  loc : scope.names.lookup x = some .local
  own : ∀ y ∈ scope.names, y.2 = .local → y.1 = x
  noc : ∀ y ∈ scope.names, y.2 ≠ .cell
  free : ∀ y ∈ scope.names, y.2 = .free → sc.names.lookup y.1 = some .cell ∨ sc.names.lookup y.1 = some .free
  ix : N[ix]? = some x
  nd : N.Nodup
def lamPB (sc scope : Scope) (N : List Str) (x : Str) (ix : Nat) : Bool :=
  decide (scope.kind = .function) && !scope.isCoroutine && !scope.isGenerator && decide (scope.names.lookup x = some .local) && (scope.names.all fun y => (!decide (y.2 = .local) || decide (y.1 = x)) && !decide (y.2 = .cell) && (!decide (y.2 = .free) || decide (sc.names.lookup y.1 = some .cell) || decide (sc.names.lookup y.1 = some .free))) &&
    decide (N[ix]? = some x) && decide N.Nodup
theorem lamP_by {sc scope : Scope} {N : List Str} {x : Str} {ix : Nat} (h : lamPB sc scope N x ix = true) : LamP sc scope N x ix := by
  unfold lamPB at h
  simp only [Bool.and_eq_true, Bool.or_eq_true, Bool.not_eq_true', decide_eq_true_eq, decide_eq_false_iff_not, List.all_eq_true] at h
  obtain ⟨⟨⟨⟨⟨⟨h1, h2⟩, h3⟩, h4⟩, h5⟩, h6⟩, h7⟩ := h
  refine ⟨h1, h2, h3, h4, fun y hy e => ?_, fun y hy => (h5 y hy).1.2, fun y hy e => ?_, h6, h7⟩
  · rcases (h5 y hy).1.1 with z | z
    · exact absurd e z
    · exact z
  · rcases (h5 y hy).2 with (z | z) | z
    · exact absurd e z
    · exact .inl z
    · exact .inr z
theorem LamP.has {X : Cx} {scope : Scope} {x : Str} {ix : Nat} (L : LamP X.env.scope scope X.N x ix) (ok : X.Ok) : ∀ y ∈ scope.names, y.2 = .free → ∃ c, X.env.cells.lookup y.1 = some c := fun y hy e => by
  rcases L.free y hy e with k | k
  · exact ok.has _ (.inl k)
  · exact ok.has _ (.inr k)
theorem among_keep {p' : Pos} {cv : Value} {m : List Value} (l : List Value) (h : TriplesOk l) (hc : codeAmong p' l = some cv) : codeAmong p' (l ++ m) = some cv := by
  fun_induction TriplesOk l with
  | case1 => simp [codeAmong] at hc
  | case2 a t b u x rest ih =>
    simp only [List.cons_append, codeAmong] at hc ⊢
    split at hc
    · rename_i q
      rw [if_pos q]
      exact hc
    · rename_i q
      rw [if_neg q]
      exact ih h hc
  | case3 l h1 h2 => exact h.elim
theorem among_new {pos : Pos} {c : Value} (l : List Value) (h : TriplesOk l) (hc : codeAmong pos l = none) : codeAmong pos (l ++ [rawInt pos.line, rawInt pos.col, c]) = some c := by
  fun_induction TriplesOk l with
  | case1 => simp [codeAmong, rawInt]
  | case2 a t b u x rest ih =>
    simp only [List.cons_append, codeAmong] at hc ⊢
    split at hc
    · cases hc
    · rename_i q
      rw [if_neg q]
      exact ih h hc
  | case3 l h1 h2 => exact h.elim
section
variable {X : Cx} {pins : List (Addr × Obj)} {σ : L2.St} {H HZ : Hp} {s s1 : Shared}
/-- the lambda is made; its table grows, all else stays -/
theorem lam_mk {c P : Addr} {params : Arguments} {body : Expr} {scope : Scope} {pos : Pos} {E : Value → Shared → Prop} {Q : Value → Shared → Prop} (I : Inv X pins σ H s) (B : TabB X.base X.mg c P) (hcode : X.env.code = .ref c)
    (hm : (P, X.env.qual ++ "<lambda>") ∈ Tb.T) (hu : ∀ p ∈ Tb.T, p.1 = P → p.2 = X.env.qual ++ "<lambda>") (hT : TabsOk H) (hdef : defaultsOf params X.env = ([], [])) (hfree : ∀ y ∈ scope.names, y.2 = .free → ∃ c, X.env.cells.lookup y.1 = some c)
    (h : ∀ (f c' : Addr) (pm ctv : Value) (H1 : Hp) (s' : Shared), Inv X pins σ H1 s' → SameBut [] H H1 →
      s'.heap.get? f = some (PySem.W.kla_obj "<lambda>" (X.env.qual ++ "<lambda>") params body scope (cloFrom X.env.cells scope.names []) pm c' ctv) → H1 f = none → f ∉ frs X.stack → (∃ ps : Array Value, H1 P = some (.tbl ps) ∧ TriplesOk ps.toList ∧ codeAmong pos ps.toList = some (.ref c')) → Q (.ref f) s') :
    wpAny (model X.prog X.w) X.A (eval (.Lambda params body scope pos) X.env) Q E s := by
  obtain ⟨ps, hP, ht, ha⟩ := hT _ hm
  refine PySem.W.kla_eval hdef ?_
  have bP : s.heap.BuiltinsAt X.mg P := B.bm.keeps I.bk
  have hP' : s.heap.get? P = some { cls := .none, data := .fields ps } := I.hok P _ hP
  have nofr : ∀ f, s.heap.objs.size ≤ f → f ∉ frs X.stack := fun f hf z => by
    rcases List.mem_cons.mp (I.stkSub _ z) with e | e
    · have h1 := I.lt
      rw [← e] at h1
      exact Nat.lt_irrefl _ (Nat.lt_of_lt_of_le h1 hf)
    · exact I.nofs hf e
  cases hc : codeAmong pos ps.toList with
  | none =>
    refine PySem.W.kla_makeFunction (mg := X.mg) (c := c) (P := P) (ps := ps) (closure_ok hfree) I.ok.glob (I.mod.glob.keeps I.bk) hcode (B.code.keeps I.bk) hP' ht hc B.gP bP fun c' ctv h' tk hx hge hlt hrec htb => ?_
    obtain ⟨c2, oc, vs, t, e2, hoc, hd, hv⟩ := hrec
    cases e2
    have hsz : s.heap.objs.size ≤ h'.objs.size := Nat.le_trans hge (Nat.le_of_lt hlt)
    have nC : H c' = none := I.hok.fresh hge
    have nPc : P ≠ c' := ne_of_none hP nC
    have I1 := inv_table (t' := tk) (more := #[rawInt pos.line, rawInt pos.col, .ref c']) (h' := h'.push (PySem.W.kla_obj "<lambda>" (X.env.qual ++ "<lambda>") params body scope (cloFrom X.env.cells scope.names []) ((X.mg "__name__").getD .none) c' ctv)) I hP
      (fun b o hb e => Heap.get?_push_of_some _ (hx b o hb e)) (Heap.get?_push_of_some _ htb) hge ⟨oc, vs, t, Heap.get?_push_of_some _ hoc, hd, hv⟩
    have hE : ExtN H (upd (upd H P (.tbl (ps ++ #[rawInt pos.line, rawInt pos.col, .ref c']))) c' (CodeO c' (X.env.qual ++ "<lambda>"))) := fun b o e n => by
      rw [upd_ne (ne_of_none e nC), upd_ne (fun z => n ps (Option.some.inj (e.symm.trans (by rw [z]; exact hP))))]
      exact e
    have eL : (ps ++ #[rawInt pos.line, rawInt pos.col, .ref c']).toList = ps.toList ++ [rawInt pos.line, rawInt pos.col, .ref c'] := by simp
    refine h h'.objs.size c' ((X.mg "__name__").getD .none) ctv _ _ I1 ⟨fun b o e _ => ?_, fun _ p hp => ?_⟩ (Heap.get?_push_size _ rfl) ?_ (nofr _ hsz) ⟨_, by rw [upd_ne nPc, upd_same], by rw [eL]; exact PySem.TriplesOk_snoc _ _ _ _ ht, by rw [eL]; exact among_new _ ht hc⟩
    · have nbc : b ≠ c' := ne_of_none e nC
      by_cases hb : b = P
      · subst hb
        rw [hP] at e
        cases e
        exact .inr ⟨_, _, rfl, by rw [upd_ne nbc, upd_same]⟩
      · exact .inl (by rw [upd_ne nbc, upd_ne hb]; exact e)
    · by_cases hb : p.1 = P
      · rw [hu p hp hb, hb]
        refine ⟨_, by rw [upd_ne (ne_of_none hP nC), upd_same], by rw [eL]; exact PySem.TriplesOk_snoc _ _ _ _ ht, fun p' cv hcv => ?_⟩
        rw [eL] at hcv
        rcases among_app _ ht hcv with z | z
        · obtain ⟨c0, e1, e2⟩ := ha p' cv z
          exact ⟨c0, e1, hE _ _ e2 codeO_ne⟩
        · exact ⟨c', z, upd_same⟩
      · obtain ⟨ps', a1, a2, a3⟩ := hT p hp
        refine ⟨ps', by rw [upd_ne (ne_of_none a1 nC), upd_ne hb]; exact a1, a2, fun p' cv hcv => ?_⟩
        obtain ⟨c0, e1, e2⟩ := a3 p' cv hcv
        exact ⟨c0, e1, hE _ _ e2 codeO_ne⟩
    · have n1 : h'.objs.size ≠ c' := Nat.ne_of_gt hlt
      have n2 : h'.objs.size ≠ P := Nat.ne_of_gt (Nat.lt_of_lt_of_le (Heap.lt_size hP') hsz)
      rw [upd_ne n1, upd_ne n2]
      exact I.hok.fresh hsz
  | some cv =>
    obtain ⟨c', e, hco⟩ := ha pos cv hc
    subst e
    refine PySem.W.kla_makeFunctionHit (mg := X.mg) (c := c) (P := P) (ps := ps) (closure_ok hfree) I.ok.glob (I.mod.glob.keeps I.bk) hcode (B.code.keeps I.bk) hP' ht hc bP fun ctv h' tk hx hsz => ?_
    have I1 : Inv X pins σ H { s with heap := h'.push (PySem.W.kla_obj "<lambda>" (X.env.qual ++ "<lambda>") params body scope (cloFrom X.env.cells scope.names []) ((X.mg "__name__").getD .none) c' ctv), toks := tk } := I.kept fun b o e => Heap.get?_push_of_some _ (hx b o e)
    exact h h'.objs.size c' ((X.mg "__name__").getD .none) ctv H _ I1 SameBut.refl (Heap.get?_push_size _ rfl) (I.hok.fresh hsz) (nofr _ hsz) ⟨ps, hP, ht, hc⟩
/-- the lambda's body, entered -/
theorem lamp_start {A : Around} {outer : List Env} {E : XK} {scope : Scope} {x : Str} {ix : Nat} {f c' : Addr} {h₁ : Heap} {tk : Nat} {v : V} {u : Value} (I : Inv X pins σ H s) (L : LamP X.env.scope scope X.N x ix) (e0 : Env0 X.prog X.w X.K X.mg X.base A outer s1 HZ) (hd : A.handled = none)
    (un : Un (frs X.stack) [] H HZ s.heap s1.heap) (hns : h₁.Ns s1.heap.objs.size fun y => ([(x, u)] : List (Str × Value)).reverse.lookup y) (kp : ∀ b o, s1.heap.get? b = some o → h₁.get? b = some o) (rv : RelV v u) :
    Inv (lamCx X A outer s1 HZ E scope f c') [] (σ.set ix (some v)) HZ { s1 with heap := h₁, toks := tk } := by
  have hfree := L.has I.ok
  have cm : ∀ {y c}, (cloFrom X.env.cells scope.names []).lookup y = some c → X.env.cells.lookup y = some c := fun {y c} e => by
    rcases cloFrom_mem (PySem.mem_of_lookup e) with hm | ⟨h1, h2⟩
    · cases hm
    · obtain ⟨c1, hc⟩ := hfree _ h1 rfl
      have hc : X.env.cells.lookup y = some c1 := hc
      have e2 : c = c1 := by
        rw [h2, hc] <;> rfl
      rw [e2]
      exact hc
  have look : ∀ {y}, scope.names.lookup y = some .free → ∃ c, (cloFrom X.env.cells scope.names []).lookup y = some c := fun {y} hl => by
    have hy : (y, NameKind.free) ∈ scope.names := PySem.mem_of_lookup hl
    exact mem_lookup (cloFrom_has (cells := X.env.cells) (acc := []) hy)
  have cellK : ∀ {c : Addr} {v : Option Value}, H c = none → s.heap.IsCell c v → h₁.IsCell c v := fun {c v} n ⟨o, ho, hd⟩ => by
    obtain ⟨sl, q⟩ := un.any ho n (by simp)
    exact ⟨_, kp _ _ q, hd⟩
  have noA : ∀ b : Addr, b ∉ (lamCx X A outer s1 HZ E scope f c').ex := fun b z => absurd (show b ∈ ([] : List Addr) from z) (by simp)
  have lnone : ∀ y, scope.names.lookup y = some .cell → False := fun y k => L.noc _ (PySem.mem_of_lookup k) rfl
  refine ⟨⟨e0.mod, L.kind, rfl, rfl, Nat.le_refl _, fun y z c e1 e2 => I.ok.inj y z c (cm e1) (cm e2), fun y hy => ?_, fun y c z _ => ?_, fun _ => hd, Around.frames_deeper e0.frames, .inr ⟨rfl, rfl⟩, fun b z => absurd z (noA b), e0.bs, e0.bsz, fun b _ _ => noA b,
      fun b z => absurd z (noA b), e0.funs, e0.frf⟩,
    rfl, e0.bare, Un.kept kp, ⟨_, hns, fun i y v e1 e2 e3 => ?_⟩, fun y c e => ?_, e0.hok.fresh (Nat.le_refl _), fun y c e => ?_, fun q hq => absurd (show q ∈ ([] : List (Addr × Obj)) ++ [] from hq) (by simp), e0.hok.kept kp, (List.length_set).trans I.len⟩
  · have hy : scope.names.lookup y = some .cell ∨ scope.names.lookup y = some .free := hy
    rcases hy with hy | hy
    · exact (lnone y hy).elim
    · exact look hy
  · have z : false = true := z
    cases z
  · have e3 : Vis scope y := e3
    have e1 : X.N[i]? = some y := e1
    rcases e3 with k | k | k
    · have ey : y = x := L.own _ (PySem.mem_of_lookup k) rfl
      subst ey
      have hlt := (List.getElem?_eq_some_iff.mp e1).1
      have hlt2 := (List.getElem?_eq_some_iff.mp L.ix).1
      have ei : i = ix := (List.getElem?_inj hlt L.nd).mp (e1.trans L.ix.symm)
      subst ei
      have hls : i < σ.length := by rw [I.len]; exact hlt
      rw [List.getElem?_set_self hls] at e2
      cases e2
      exact ⟨u, rv, .inl ⟨k, by simp⟩⟩
    · exact (lnone y k).elim
    · have ne : ix ≠ i := fun z => by
        subst z
        rw [L.ix] at e1
        cases e1
        rw [L.loc] at k
        cases k
      rw [List.getElem?_set_ne ne] at e2
      obtain ⟨m, hn, hl⟩ := I.loc
      have hvis : Vis X.env.scope y := (L.free _ (PySem.mem_of_lookup k) rfl).elim (fun k => .inr (.inl k)) (fun k => .inr (.inr k))
      obtain ⟨w', r, q⟩ := hl i y v e1 e2 hvis
      obtain ⟨c2, h2⟩ := look k
      refine ⟨w', r, .inr ⟨.inr k, c2, h2, ?_⟩⟩
      have c1 := cm h2
      rcases q with ⟨k', _⟩ | ⟨_, c3, e', z⟩
      · have k' : X.env.scope.names.lookup y = some .local := k'
        rcases L.free _ (PySem.mem_of_lookup k) rfl with k2 | k2 <;> rw [show X.env.scope.names.lookup y = _ from k2] at k' <;> cases k'
      · rw [c1] at e'
        cases e'
        exact cellK (I.freeC y _ c1) z
  · obtain ⟨w', z⟩ := I.cell y c (cm e)
    exact ⟨w', cellK (I.freeC y c (cm e)) z⟩
  · obtain ⟨v, o, ho, hd⟩ := I.cell y c (cm e)
    exact un.free c o ho (I.freeC y c (cm e)) (by simp)
end
/-- the data of a state -/
def dataO : Option Sv → Option Sv
  | some (.val d) => some (.val d)
  | _ => none
def dataOf (st : DS) : DS := st.map dataO
theorem SR.dataOf {K : PySem.W.Frag} {H H' : Hp} (g : Gr H H') : ∀ {σ : L2.St} {st : DS} {fp : List Addr}, SR K H σ st fp → SR K H' σ (DL.dataOf st) []
  | _, _, _, .nil => .nil
  | _, _, _, .no h => .no (SR.dataOf g h)
  | _, _, _, @SR.yes _ _ v w σ st fp1 fp2 h1 h2 => by
    cases w with
    | val d => exact .yes (fp1 := []) (.val ((h1.data rfl).mono g)) (SR.dataOf g h2)
    | lst _ => exact .no (SR.dataOf g h2)
    | dic _ => exact .no (SR.dataOf g h2)
    | dit _ => exact .no (SR.dataOf g h2)
    | ins _ _ => exact .no (SR.dataOf g h2)
def lamG (mL : DS → ER Py) (ix : Nat) (st0 : DS) (d : Py) : Option Py := match mL ((dataOf st0).set ix (some (.val d))) with
  | .ok v _ => some v
  | _ => none
/-- a call of the def that a slot holds, with one argument -/
def actM (f : Addr) (i : Nat) (g : Py → Option Py) (ma : DS → ER Py) : DS → ER Py := fun st => if objAt st i f = true then (ma st).bind fun d st1 => optE (g d) st1 else .stuck
theorem rel_data {K : PySem.W.Frag} {H H' : Hp} {Γ : Fr} {σ : L2.St} {st : DS} {fx : List Addr} (r : Rel K Γ st σ H fx) (g : Gr H H') (t : TabsOk H') : Rel K ⟨H', [], []⟩ (dataOf st) σ H' [] := by
  obtain ⟨⟨fp, h, _, _⟩, _, _, _⟩ := r
  exact ⟨⟨[], h.dataOf g, List.nodup_nil, nofun⟩, nofun, ⟨fun b o e _ => .inl e, t⟩, nofun⟩
section
variable {X : Cx} {pins : List (Addr × Obj)} {σ : L2.St} {H : Hp} {s : Shared}
/-- what is known of a lambda that the maker X hands on: at s, with its state st0 -/
structure LamAt (X : Cx) (P : Addr) (pos : Pos) (st0 : DS) (σ : L2.St) (H : Hp) (s : Shared) (pins : List (Addr × Obj)) (params : Arguments) (body : Expr) (scope : Scope) (x : Str) (ix : Nat) (f c' : Addr) (pm ctv : Value) : Prop where
  I : Inv X pins σ H s
  hf : s.heap.get? f = some (PySem.W.kla_obj "<lambda>" (X.env.qual ++ "<lambda>") params body scope (cloFrom X.env.cells scope.names []) pm c' ctv)
  hfn : H f = none
  hfr : f ∉ frs X.stack
  hco : ∃ ps : Array Value, H P = some (.tbl ps) ∧ TriplesOk ps.toList ∧ codeAmong pos ps.toList = some (.ref c')
  hm : (P, X.env.qual ++ "<lambda>") ∈ Tb.T
  rel : ∃ Γ fx, Rel X.K Γ st0 σ H fx
theorem de_act {Eg : XK} {Ng : List Str} {qg : Str} {sg : Scope} {g f c' P : Addr} {lpos : Pos} {cdg pm ctv : Value} {params : Arguments} {body arg : Expr} {scope : Scope} {k i ix : Nat} {a x : Str} {p1 p2 : Pos} {st0 : DS} {mL ma : DS → ER Py}
    (A : LamAt X P lpos st0 σ H s pins params body scope x ix f c' pm ctv) (L : LamP X.env.scope scope X.N x ix)
    (hbind : ∀ u : Value, bindArgs (PySem.W.kla_fn "<lambda>" (X.env.qual ++ "<lambda>") params body scope (cloFrom X.env.cells scope.names []) pm (.ref c') ctv) ⟨[u], []⟩ = pure [(x, u)])
    (hr : Room (k + 1) (X.A.deeper (envOfC qg sg s.heap.objs.size g cdg)))
    (hbody : ∀ (A : Around) (outer : List Env) (s : Shared) (H : Hp), Room k (A.deeper (lamEnv X scope s.heap.objs.size f c')) → DE (lamCx X A outer s H (fun _ _ _ => False) scope f c') body mL)
    (hN : Ng[i]? = some a) (hv : Vis sg a) (ha : DE (cxOf (L2.CX X.prog X.w) X.prog X.w X.K X.mg X.base Ng qg sg g cdg X.A X.stack s H Eg) arg ma)
    (hst : starEach [arg] (cxOf (L2.CX X.prog X.w) X.prog X.w X.K X.mg X.base Ng qg sg g cdg X.A X.stack s H Eg).env = (false, eval arg (cxOf (L2.CX X.prog X.w) X.prog X.w X.K X.mg X.base Ng qg sg g cdg X.A X.stack s H Eg).env) :: starEach [] (cxOf (L2.CX X.prog X.w) X.prog X.w X.K X.mg X.base Ng qg sg g cdg X.A X.stack s H Eg).env := by rfl)
    (hpl : (backTo p2 (starEach [] (cxOf (L2.CX X.prog X.w) X.prog X.w X.K X.mg X.base Ng qg sg g cdg X.A X.stack s H Eg).env)).any (·.1) = false := by rfl)
    (hd : (a == ("__debug__" : Str)) = false := by decide) (hcd : (a == ("__classdict__" : Str)) = false := by decide) :
    DE (cxOf (L2.CX X.prog X.w) X.prog X.w X.K X.mg X.base Ng qg sg g cdg X.A X.stack s H Eg) (.Call (.Name a p1) [arg] [] p2) (actM f i (lamG mL ix st0) ma) := by
  obtain ⟨I, hf, hfn, hfr, ⟨ps, hP, ht, hco⟩, hmT, Γ0, fx0, r0⟩ := A
  refine ⟨fun Wx tk => ⟨fun pinsZ sZ σZ HZ Q IZ h => ?_⟩⟩
  obtain ⟨Γ, st, r, q⟩ := h
  by_cases ho : objAt st i f = true
  case neg =>
    have q' : fin (cxOf (L2.CX X.prog X.w) X.prog X.w X.K X.mg X.base Ng qg sg g cdg X.A X.stack s H Eg) Wx Γ σZ HZ (if objAt st i f = true then (ma st).bind fun d st1 => optE (lamG mL ix st0 d) st1 else .stuck) _ := q
    rw [if_neg ho] at q'
    exact q'.elim
  have q' : fin (cxOf (L2.CX X.prog X.w) X.prog X.w X.K X.mg X.base Ng qg sg g cdg X.A X.stack s H Eg) Wx Γ σZ HZ (if objAt st i f = true then (ma st).bind fun d st1 => optE (lamG mL ix st0 d) st1 else .stuck) _ := q
  rw [if_pos ho] at q'
  obtain ⟨vf, fpf, ef, rf⟩ := r.get (objAt_ok ho)
  have rfd := rf.data rfl
  cases rfd
  refine wpAny_Call_Name_kw (thn ((pe_var (pos := p1) (i := i) hN hv hd hcd).run pinsZ sZ σZ HZ (fun v H1 => v = .ref f ∧ H1 = HZ) IZ ⟨.ref f, ef, rfl, rfl⟩) fun u s1 ⟨v, H1, I1, r1, q1⟩ => ?_)
  obtain ⟨ev, eH⟩ := q1
  subst ev
  rw [eH] at I1
  obtain rfl : u = Value.ref f := r1
  have fk : ∀ {pins' : List (Addr × Obj)} {σ' : L2.St} {H' : Hp} {s' : Shared}, Inv (cxOf (L2.CX X.prog X.w) X.prog X.w X.K X.mg X.base Ng qg sg g cdg X.A X.stack s H Eg) pins' σ' H' s' →
      s'.heap.get? f = some (PySem.W.kla_obj "<lambda>" (X.env.qual ++ "<lambda>") params body scope (cloFrom X.env.cells scope.names []) pm c' ctv) := fun {pins' σ' H' s'} J => J.base.keep f _ hf hfn hfr (fun z => nomatch (show f ∈ ([] : List Addr) from z))
  have pa := (v1 ha v0 hst).pa Wx tk
  refine PySem.W.callWith_F (first := []) ⟨_, _, _, _, fk I1⟩ (thn (pa.run p2 pinsZ s1 σZ HZ (fun vs H2 => vs.length = 1 ∧ ∃ v d st2, vs = [v] ∧ R X.K H2 v d ∧ Rel X.K Γ st2 σZ H2 [] ∧ Gr HZ H2 ∧ fin (cxOf (L2.CX X.prog X.w) X.prog X.w X.K X.mg X.base Ng qg sg g cdg X.A X.stack s H Eg) Wx Γ σZ HZ (optE (lamG mL ix st0 d) st2) (fun d st' => ∀ v H', Rel X.K Γ st' σZ H' [] → Gr HZ H' → R X.K H' v d → Q v H')) I1 ?_) fun us s2 h2 => ?_) hst hpl
  · refine ⟨Γ, st, r, ?_⟩
    show fin _ Wx Γ σZ HZ ((ma st).bind fun d st1 => (ER.ok [] st1).bind fun ds st2 => .ok (d :: ds) st2) _
    cases em : ma st with
    | stuck => rw [em] at q'; exact q'.elim
    | ex x1 st1 => rw [em] at q'; exact q'
    | ok d st1 =>
      rw [em] at q'
      intro vs H2 r2 g2 ra hl
      cases ra with
      | cons h1 h2 =>
        cases h2
        exact ⟨rfl, _, d, st1, rfl, h1, r2, g2, q'⟩
  · obtain ⟨vs, H2, I2, rvs, hl1, v, d, st2, evs, rd, r2, g2, q2⟩ := h2
    subst evs
    obtain ⟨d2, ed, q3⟩ := fin_opt q2
    refine ⟨⟨_, _, _, _, fk I2⟩, ?_⟩
    obtain ⟨u, eu, ru⟩ := rvs.one
    subst eu
    -- the lambda's mirror
    unfold lamG at ed
    have un : Un (frs X.stack) [] H H2 s.heap s2.heap := I2.base
    have gg : Gr H H2 := ⟨un.tups, un.frzs⟩
    have t2 : TabsOk H2 := r2.same.2
    obtain ⟨m1, hc1⟩ : ∃ m : Unit, True := ⟨(), trivial⟩
    have hlen : ix < (dataOf st0).length := by
      have e1 := (List.getElem?_eq_some_iff.mp L.ix).1
      obtain ⟨⟨fp, hs, _⟩, _⟩ := id r0
      have e2 := hs.length
      have e3 := I.len
      unfold dataOf
      rw [List.length_map]
      omega
    have rl : Rel X.K ⟨H2, [], []⟩ ((dataOf st0).set ix (some (.val d))) (σ.set ix (some v)) H2 [] := (rel_data r0 gg t2).set (fx := []) hlen (.val rd) nofun
    obtain ⟨⟨oc, vs, t, hoc, hdc, hvc⟩, _, _⟩ := I2.hok c' _ (by
      obtain ⟨more, hP2⟩ := un.tbls P ps hP
      obtain ⟨ps2, a1, a2, a3⟩ := t2 _ hmT
      rw [hP2] at a1
      cases a1
      obtain ⟨c3, b1, b2⟩ := a3 lpos (.ref c') (by rw [Array.toList_append]; exact among_keep _ ht hco)
      cases b1
      exact b2 : H2 c' = some (CodeO c' (X.env.qual ++ "<lambda>")))
    have rc : codeAny (model X.prog X.w) (X.A.deeper (envOfC qg sg s.heap.objs.size g cdg)) (.call (.ref f) ⟨[u], []⟩) (CR (L2.CX X.prog X.w) (envOfC qg sg s.heap.objs.size g cdg :: X.stack) X.prog X.w H2 s2 Q (fun _ _ _ => False)) s2 := by
      refine PySem.W.kla_callFunE hr.depth (fk I2) rfl L.co L.gen rfl ⟨c', oc, vs, t, rfl, hoc, hdc, hvc⟩ ?_
      rw [hbind]
      refine wpAny_pure (wpAny_newFunctionEnv L.noc (fun y hy => by rw [List.mem_singleton.mp hy]; exact L.loc) (fun h₁ hns hsb => ⟨I2.nolimit.fresh _ hsb, ?_⟩) L.kind)
      show codeAny _ _ (.expr body (lamEnv X scope s2.heap.objs.size f c')) _ _
      have kp : ∀ b o, s2.heap.get? b = some o → h₁.get? b = some o := fun b o e => hsb.extBut b o (Nat.ne_of_lt (Heap.lt_size e)) (Heap.get?_push_of_some _ e)
      have J : Inv (lamCx X (X.A.deeper (envOfC qg sg s.heap.objs.size g cdg)) (envOfC qg sg s.heap.objs.size g cdg :: X.stack) s2 H2 (fun _ _ _ => False) scope f c') [] (σ.set ix (some v)) H2 { s2 with heap := h₁, toks := s2.toks + ([(x, u)] : List (Str × Value)).length } :=
        lamp_start I L I2.env0 hr.hd un hns kp ru
      refine PySem.W.kla_codeExpr (wpAny_mono (((hbody _ _ s2 H2 (hr.deeper _)).pe W0 L2.takes0).run [] _ _ H2 Q J ⟨_, _, rl, ?_⟩) (fun v s' hq => ?_) fun e s' hq => hq)
      · cases em : mL ((dataOf st0).set ix (some (.val d))) with
        | stuck => rw [em] at ed; cases ed
        | ex _ _ => rw [em] at ed; cases ed
        | ok v3 st3 =>
          rw [em] at ed
          cases ed
          intro v' H3 r3 g3 rv3
          have sb : SameBut [] H2 H3 := ⟨r3.same.1, fun _ => r3.same.2⟩
          have r4 := Rel.after (fp := []) (fx := []) (by simpa using r2) sb (nf := []) List.nodup_nil nofun nofun
          exact q3 v' H3 (by simpa using r4) (g2.trans g3) rv3
      · obtain ⟨w', H', J', rv, q⟩ := hq
        exact ⟨w', H', J'.os, J'.bare, J'.base, J'.hok, rv, q⟩
    have hx : Passes (L2.CX X.prog X.w) (cxOf (L2.CX X.prog X.w) X.prog X.w X.K X.mg X.base Ng qg sg g cdg X.A X.stack s H Eg) (fun _ _ _ => False) := passes_call tk fun _ _ _ _ z => z.elim
    refine wpAny_call (codeAny_mono rc fun r s' hq => ?_)
    cases r with
    | error e => exact hx pinsZ σZ H2 s2 e s' I2 hq
    | ok fl =>
      cases fl with
      | ret u => exact I2.after hq
      | next => exact False.elim hq
      | brk => exact False.elim hq
      | cont => exact False.elim hq
end
end DL

/-! ## DL20 -/
namespace DL
open PySem PySem.Spec PyProof.Rows L2 LamX
variable [Tb]
noncomputable def lamRes (MR : Addr → (Py → Option Py) → FM) (gf : Py → Option Py) (d : Py) (st : DS) : ER Sv := by
  classical
  exact if h : ∃ w, ∀ f, ∃ outs, MR f gf [.val d, .val (.obj f)] = .ret w outs then .ok h.choose st else .stuck
noncomputable def lamCallM (MR : Addr → (Py → Option Py) → FM) (ma mL : DS → ER Py) (ix : Nat) : DS → ER Sv := fun st => (ma st).bind fun d st1 => lamRes MR (lamG mL ix st1) d st1
theorem lamRes_ok {MR : Addr → (Py → Option Py) → FM} {gf : Py → Option Py} {d : Py} {st : DS} {w : Sv} (h : ∀ f, ∃ outs, MR f gf [.val d, .val (.obj f)] = .ret w outs) : lamRes MR gf d st = .ok w st := by
  unfold lamRes
  have z : ∃ w, ∀ f, ∃ outs, MR f gf [.val d, .val (.obj f)] = .ret w outs := ⟨w, h⟩
  rw [dif_pos z]
  have e : z.choose = w := by
    obtain ⟨o1, e1⟩ := z.choose_spec 0
    obtain ⟨o2, e2⟩ := h 0
    rw [e1] at e2
    injection e2
  rw [e]
theorem do_lamcall {X : Cx} {g pt pc x : Str} {st_g : Stmt} {Ng : List Str} {pn : List Nat} {k ix : Nat} {c P : Addr} {a : Expr} {params : Arguments} {body : Expr} {scope : Scope} {p lpos pos : Pos} {ma mL : DS → ER Py} {MB : Addr → (Py → Option Py) → DS → SO}
    (F : FN X.K X.mg g g st_g [pt, pc]) (Sg : FnScope Ng [pt, pc] (defScope st_g)) (hgl : Gl X g) (hr : Room (k + 2) X.A) (ha : DE X a ma) (L : LamP X.env.scope scope X.N x ix) (B : TabB X.base X.mg c P) (hcode : X.env.code = .ref c)
    (hm : (P, X.env.qual ++ "<lambda>") ∈ Tb.T) (hu : ∀ p ∈ Tb.T, p.1 = P → p.2 = X.env.qual ++ "<lambda>") (hdef : defaultsOf params X.env = ([], []))
    (hbind : ∀ (q : Str) (cl : List (Str × Addr)) (pm cv ctv u : Value), bindArgs (PySem.W.kla_fn "<lambda>" q params body scope cl pm cv ctv) ⟨[u], []⟩ = pure [(x, u)])
    (hbody : ∀ (A : Around) (outer : List Env) (s : Shared) (H : Hp) (f c' : Addr), Room k (A.deeper (lamEnv X scope s.heap.objs.size f c')) → DE (lamCx X A outer s H (fun _ _ _ => False) scope f c') body mL)
    (hcal : ∀ (f ga : Addr) (cdv : Value) (s : Shared) (H : Hp) (gf : Py → Option Py), Room (k + 1) (X.A.deeper (envOfC g (defScope st_g) s.heap.objs.size ga cdv)) →
      (∀ (arg : Expr) (p1 p2 : Pos) (ma : DS → ER Py), DE (cxOf (L2.CX X.prog X.w) X.prog X.w X.K X.mg X.base Ng g (defScope st_g) ga cdv X.A X.stack s H (fun _ _ _ => False)) arg ma →
        starEach [arg] (cxOf (L2.CX X.prog X.w) X.prog X.w X.K X.mg X.base Ng g (defScope st_g) ga cdv X.A X.stack s H (fun _ _ _ => False)).env = (false, eval arg (cxOf (L2.CX X.prog X.w) X.prog X.w X.K X.mg X.base Ng g (defScope st_g) ga cdv X.A X.stack s H (fun _ _ _ => False)).env) :: starEach [] (cxOf (L2.CX X.prog X.w) X.prog X.w X.K X.mg X.base Ng g (defScope st_g) ga cdv X.A X.stack s H (fun _ _ _ => False)).env →
        DE (cxOf (L2.CX X.prog X.w) X.prog X.w X.K X.mg X.base Ng g (defScope st_g) ga cdv X.A X.stack s H (fun _ _ _ => False)) (.Call (.Name pc p1) [arg] [] p2) (actM f 1 gf ma)) →
      DSs (cxOf (L2.CX X.prog X.w) X.prog X.w X.K X.mg X.base Ng g (defScope st_g) ga cdv X.A X.stack s H (fun _ _ _ => False)) pn (defBody st_g) (MB f gf))
    (hN1 : Ng[1]? = some pc := by rfl) (hvc : Vis (defScope st_g) pc := by first | exact Or.inl rfl | exact Or.inr (Or.inl rfl) | exact Or.inr (Or.inr rfl)) (hdb : (g == ("__debug__" : Str)) = false := by decide) (hd : (pc == ("__debug__" : Str)) = false := by decide) (hcd : (pc == ("__classdict__" : Str)) = false := by decide)
    (he : starEach [a, .Lambda params body scope lpos] X.env = [(false, eval a X.env), (false, eval (.Lambda params body scope lpos) X.env)] := by rfl)
    (he1 : starEach [.Lambda params body scope lpos] X.env = [(false, eval (.Lambda params body scope lpos) X.env)] := by rfl) :
    DO X (.Call (.Name g p) [a, .Lambda params body scope lpos] [] pos) (lamCallM (fun f gf => runF 2 Ng.length pn (MB f gf)) ma mL ix) := by
  obtain ⟨ga, fd, hmg, Fu, hb⟩ := F.ex
  refine ⟨fun Wx tk => ⟨fun pins s σ H Q I ⟨Γ, st, r, q⟩ => ?_⟩⟩
  refine wpAny_Call_Name_kw (ld_glob I hgl hmg ?_ hdb)
  have he2 : backTo pos (starEach [a, .Lambda params body scope lpos] X.env) = [(false, eval a X.env), (false, eval (.Lambda params body scope lpos) X.env)] := by rw [he]; rfl
  refine PySem.W.callWith_K (h₀ := X.base) I.ok.mod.kin Fu.kp ?_ ?_ ?_
  rotate_left
  · rw [he, he1]
  · rw [he1]; rfl
  rw [he2]
  refine Calls.spliced_cons (thn ((ha.pe Wx tk).run pins s σ H _ I ⟨Γ, st, r, fin.imp (fin.bind q) fun d st1 q1 v H1 r1 g1 rd => (⟨d, st1, r1, g1, rd, q1⟩ : ∃ d st1, Rel X.K Γ st1 σ H1 [] ∧ Gr H H1 ∧ R X.K H1 v d ∧ fin X Wx Γ σ H (lamRes (fun f gf => runF 2 Ng.length pn (MB f gf)) (lamG mL ix st1) d st1) fun w st' => ∀ v H' fw, Rel X.K Γ st' σ H' fw → Gr H H' → RS X.K H' v w fw → Q v H')⟩) fun u s1 h1 => ?_)
  obtain ⟨v, H1, I1, rv, d, st1, r1, g1, rd, q1⟩ := h1
  refine Calls.spliced_cons (lam_mk I1 B hcode hm hu r1.same.2 hdef (L.has I.ok) fun f c' pm ctv H2 s2 I2 sb hf hfn hfr hco => ?_)
  refine Calls.spliced_nil ⟨I2.kIn, ?_⟩
  have r2 : Rel X.K Γ st1 σ H2 [] := by
    have := Rel.after (fp := []) (fx := []) (by simpa using r1) sb (nf := []) List.nodup_nil nofun nofun
    simpa using this
  have g2 : Gr H1 H2 := sb.gr nofun
  have LA : LamAt X P lpos st1 σ H2 s2 pins params body scope x ix f c' pm ctv := ⟨I2, hf, hfn, hfr, hco, hm, Γ, [], r2⟩
  unfold lamRes at q1
  by_cases z : ∃ w, ∀ f, ∃ outs, (fun f gf => runF 2 Ng.length pn (MB f gf)) f (lamG mL ix st1) [.val d, .val (.obj f)] = .ret w outs
  case neg => rw [dif_neg z] at q1; exact q1.elim
  rw [dif_pos z] at q1
  obtain ⟨outs, eo⟩ := z.choose_spec f
  obtain ⟨oc, od, kV, doc, pm0, an, cdv, ct, osl, rfl, lk, hcd2⟩ := Fu.ex
  have rc : codeAny (model X.prog X.w) X.A (.call (.ref ga) ⟨[u, .ref f], []⟩) (CR (L2.CX X.prog X.w) X.stack X.prog X.w H2 s2 Q (fun _ _ _ => False)) s2 := by
    refine run_ofS (N := Ng) (ps := [pt, pc]) (us := [u, .ref f]) (vs := [v, .ref f]) lk hcd2 Sg hr I2.env0 (hb s2 [u, .ref f] I2.kIn rfl) (.cons rv (.cons rfl .nil)) rfl fun hr' => ?_
    refine fn_body (n := 2) (hcal f ga cdv s2 H2 (lamG mL ix st1) hr' fun arg p1 p2 ma2 hma hst => de_act (i := 1) LA L (fun u => hbind _ _ _ _ _ u) hr' (fun A outer s H hr3 => hbody A outer s H f c' hr3) hN1 hvc hma hst (by rfl) hd hcd) ?_
    refine ⟨rfl, [.val d, .val (.obj f)], [], .yes (fp1 := []) (.val (rd.mono g2)) (.yes (fp1 := []) (.val (.obj f)) .nil), List.nodup_nil, r2.same.2, ?_⟩
    have eo' : runF 2 Ng.length pn (MB f (lamG mL ix st1)) [.val d, .val (.obj f)] = .ret z.choose outs := eo
    rw [eo']
    intro v2 H3 fw fo hv ho nd hn sb2
    have nd2 := List.nodup_append.mp nd
    have r3 := Rel.after (fp := []) (fx := []) (by simpa using r2) sb2 (nf := fw) nd2.1 (fun b hb => by
      rcases hn b (List.mem_append_left _ hb) with z | z
      · exact .inl z
      · cases z) (fun b hb => hv.own b hb)
    exact q1 v2 H3 fw (by simpa using r3) (g1.trans (g2.trans (sb2.gr nofun))) hv
  refine wpAny_call (codeAny_mono rc fun r s' hq => ?_)
  cases r with
  | error e =>
    have hx : Passes (L2.CX X.prog X.w) X (fun _ _ _ => False) := passes_call tk fun _ _ _ _ z => z.elim
    exact hx pins σ H2 s2 e s' I2 hq
  | ok fl =>
    cases fl with
    | ret u => exact I2.after hq
    | next => exact False.elim hq
    | brk => exact False.elim hq
    | cont => exact False.elim hq
end DL

/-! ## DL21 -/
namespace DL
open PySem PySem.Spec PyProof.Rows L2 LamX
/-! ### the end of a law with lambdas -/
section
variable [Tb]
def spScriptT (K : PySem.W.Frag) : Sp := fun vs H Q _ => ∃ (a : Addr) (ns : List Int), vs = [.ref a] ∧ SqL K H a (ns.map V.int) ∧ TabsOk H ∧ ∀ H', Q (.bl true) H'
theorem law_fnT {P : Program} {w : World} {K : PySem.W.Frag} {mg : Str → Option Value} {base : Heap} {k : Nat} {f : Addr} {fd : FuncData} {ps : List Str} {m : FM} (h : FnOk P w K mg base (L2.CX P w) k f fd ps (spD mg K 1 m))
    (hm : ∀ (ns : List Int) (S : Sv), S = .val (.lst (ns.map .int)) ∨ S = .lst (ns.map .int) → ∃ outs, m [S] = .ret (.val (.bl true)) outs) : FnOk P w K mg base (L2.CX P w) k f fd ps (spScriptT K) :=
  h.imp fun vs H Q E ⟨a, ns, e, hs, tb, q⟩ => by
    subst e
    have fin : ∀ {v : V} {H' : Hp} {fw : List Addr}, RS K H' v (.val (.bl true)) fw → Q v H' := fun {v H' fw} rs => by
      have rd := rs.data rfl
      cases rd
      exact q H'
    rcases hs with (hs | ⟨o, hs⟩) | hs
    · obtain ⟨outs, e⟩ := hm ns _ (.inr rfl)
      refine ⟨rfl, [.lst (ns.map .int)], [a], .yes (fp1 := [a]) (.lst hs (RA.ofInts ns)) .nil, by simp, tb, ?_⟩
      rw [e]
      exact fun v H' fw fo rs _ _ _ _ => fin rs
    · obtain ⟨outs, e⟩ := hm ns _ (.inl rfl)
      refine ⟨rfl, [.val (.lst (ns.map .int))], [], .yes (fp1 := []) (.val (.lst (.inl ⟨o, hs⟩) (RA.ofInts ns))) .nil, List.nodup_nil, tb, ?_⟩
      rw [e]
      exact fun v H' fw fo rs _ _ _ _ => fin rs
    · obtain ⟨outs, e⟩ := hm ns _ (.inl rfl)
      refine ⟨rfl, [.val (.lst (ns.map .int))], [], .yes (fp1 := []) (.val (.lst (.inr hs) (RA.ofInts ns))) .nil, List.nodup_nil, tb, ?_⟩
      rw [e]
      exact fun v H' fw fo rs _ _ _ _ => fin rs
end
/-- a table: the code object, its table, the name of what it holds -/
structure Tab where
  c : Addr
  P : Addr
  q : Str
abbrev tbOf (ts : List Tab) : Tb := ⟨ts.map fun t => (t.P, t.q)⟩
theorem walk_lawT {l : PySem.W.OpenLaw} {n k : Nat} {q : Program} {loose : List Str} {XP : (Str → Option Value) → Heap → Prop} {YP : World → Heap → Prop} {d : DefRec} {K : Params → PySem.W.Frag} (hn : l.most = some n) (hn2 : n ≤ sizeLine) (hdf : d.params.defaults = []) (hr : Room k callerA)
    (hY : ∀ (w : World) (h : Heap), YP w h → (K w.params).In h)
    (F : ∀ (w : World) (mg : Str → Option Value) (fa : Addr) (h : Heap), (K w.params).In h → h.Ns mainGlobals mg → mg d.name = some (.ref fa) →
      (∀ (x : Str) (e : DefRec) (c P : Addr), (recsOf q).find? (fun e => e.name == x) = some e → PySem.W.tabIn (K w.params) x = some (c, P) → PySem.W.CodeHd h c P ∧ h.get? P = some { cls := .none, data := .fields #[] }) →
      ∃ (fd : FuncData) (ts : List Tab), (∀ t ∈ ts, PySem.W.CodeHd h t.c t.P ∧ h.get? t.P = some { cls := .none, data := .fields #[] } ∧ (K w.params).lookup t.P = none) ∧ (∀ (s : Shared) (u : Value), BindsTo s fd ⟨[u], []⟩ [("script", u)]) ∧
        ∀ base : Heap, (K w.params).In base → base.Ns mainGlobals mg → (∀ t ∈ ts, TabB base mg t.c t.P) → FnOk l.prog w (K w.params) mg base (L2.CX l.prog w) k fa fd ["script"] (@spScriptT (tbOf ts) (K w.params))) :
    PySem.W.WalkO q loose XP YP l.row.toRowW d [] (fun f vs => PySem.call f vs) := by
  refine Att.attach_callB hn hdf fun w s₀ s₁ mg mb fa o pm cd doc a vs ns G Y ho hd hcd hmg hobj hints hlen hbits hg => ?_
  have KX := hY w _ Y
  obtain ⟨fd, ts, hts, hb, hF⟩ := F w mg fa _ KX G.T.g hmg fun x e c P h1 h2 => PySem.W.tab_of G.T KX h1 h2
  have mem : ∀ p ∈ ts.map (fun t => (t.c, t.P)), ∃ t ∈ ts, p = (t.c, t.P) := fun p hp => by
    obtain ⟨t, ht, e⟩ := List.mem_map.mp hp
    exact ⟨t, ht, e.symm⟩
  refine law_callTs (cs := ts.map fun t => (t.c, t.P)) (sp := @spScriptT (tbOf ts) (K w.params)) (CX := L2.CX l.prog w) KX G.T.g G.T.b G.T.builtins G.T.nolimit hg (fun p hp => ?_) (fun p hp => ?_) (fun p hp => ?_) G.T.bmain hobj hints (Nat.le_trans hlen hn2) hr (fun base h1 h2 h3 => hF base h1 h2 fun t ht => h3 (t.c, t.P) (List.mem_map.mpr ⟨t, ht, rfl⟩)) hb (fun H hH hS => ⟨a, ns, rfl, hS, ?_, fun _ => rfl⟩) fun H e s' z => ?_
  · obtain ⟨t, ht, rfl⟩ := mem p hp; exact (hts t ht).2.1
  · obtain ⟨t, ht, rfl⟩ := mem p hp; exact (hts t ht).2.2
  · obtain ⟨t, ht, rfl⟩ := mem p hp; exact (hts t ht).1
  · intro p hp
    obtain ⟨t, ht, rfl⟩ := List.mem_map.mp hp
    exact TabS.nil (hH (t.c, t.P) (List.mem_map.mpr ⟨t, ht, rfl⟩))
  · obtain ⟨_, _, _, _, _, _, _, _, _, _, _, _, z⟩ := z
    exact z
end DL

/-! ## DL22 -/
namespace DL
open PySem PySem.Spec PyProof.Rows L2
variable [Tb]
/-! ### dicts -/
/-- what stands at a key: the kinds must fit -/
noncomputable def getS (w : Sv) (k : Py) : Option (Option Py) := match w with
  | .dic kvs => (pkK k).map fun _ => getP kvs k
  | .val (.dic kvs) => (pkK k).map fun _ => getP kvs k
  | .dit kvs => (pkT k).map fun _ => getP kvs k
  | .val (.dit kvs) => (pkT k).map fun _ => getP kvs k
  | _ => none
inductive RG (K : PySem.W.Frag) (H : Hp) : Option V → Option Py → Prop
  | no : RG K H none none
  | yes {v : V} {d : Py} : R K H v d → RG K H (some v) (some d)
theorem RS.dget {K : PySem.W.Frag} {H : Hp} {v vk : V} {w : Sv} {k : Py} {fp : List Addr} {o : Option Py} (h : RS K H v w fp) (rk : R K H vk k) (e : getS w k = some o) : ∃ a ov, v = .ref a ∧ IsD H a ∧ DGet H a vk ov ∧ RG K H ov o := by
  have kk : ∀ {a : Addr} {ks : List (Key × V)} {kvs : List (Py × Py)}, Rd H a (.dK ks) → RK K H ks kvs → (pkK k).map (fun _ => getP kvs k) = some o → ∃ a' ov, V.ref a = .ref a' ∧ IsD H a' ∧ DGet H a' vk ov ∧ RG K H ov o := fun {a ks kvs} hr hk e => by
    obtain ⟨k0, e0, e1⟩ := map_some e
    obtain ⟨h1, h2⟩ := rk.pkK e0
    subst h1 h2
    rcases hk.rd.get keyP_inj (k := k0) with ⟨g1, g2⟩ | ⟨v, d, g1, g2, g3⟩
    · rw [g2] at e1
      subst e1
      exact ⟨a, none, rfl, .inl ⟨_, hr⟩, .inl ⟨ks, k0, hr, rfl, g1.symm⟩, .no⟩
    · rw [g2] at e1
      subst e1
      exact ⟨a, some v, rfl, .inl ⟨_, hr⟩, .inl ⟨ks, k0, hr, rfl, g1.symm⟩, .yes g3⟩
  have kt : ∀ {a : Addr} {ks : List (List Key × V)} {kvs : List (Py × Py)}, Rd H a (.dT ks) → RT K H ks kvs → (pkT k).map (fun _ => getP kvs k) = some o → ∃ a' ov, V.ref a = .ref a' ∧ IsD H a' ∧ DGet H a' vk ov ∧ RG K H ov o := fun {a ks kvs} hr hk e => by
    obtain ⟨k0, e0, e1⟩ := map_some e
    cases rk with
    | @tup b xs ds hb ra =>
      obtain ⟨h1, h2⟩ := ra.pkK e0
      subst h1 h2
      rcases hk.rd.get keysP_inj (k := k0) with ⟨g1, g2⟩ | ⟨v, d, g1, g2, g3⟩
      · have g2' : getP kvs (.tup (k0.map keyP)) = none := g2
        rw [g2'] at e1
        subst e1
        exact ⟨a, none, rfl, .inr ⟨_, hr⟩, .inr ⟨ks, k0, b, hr, rfl, hb, g1.symm⟩, .no⟩
      · have g2' : getP kvs (.tup (k0.map keyP)) = some d := g2
        rw [g2'] at e1
        subst e1
        exact ⟨a, some v, rfl, .inr ⟨_, hr⟩, .inr ⟨ks, k0, b, hr, rfl, hb, g1.symm⟩, .yes g3⟩
    | _ => cases e0
  cases h with
  | val r =>
    cases r with
    | dicK h hk => exact kk (.inr ⟨_, h⟩) hk e
    | dicT h hk => exact kt (.inr ⟨_, h⟩) hk e
    | _ => cases e
  | dK h hk => exact kk (.inl h) hk e
  | dT h hk => exact kt (.inl h) hk e
  | lst _ _ => cases e
  | ins _ _ => cases e
section
variable {X : Cx} {a b c : Expr} {ma mb mc : DS → ER Ar} {pos p1 p2 : Pos}
/-- k in d -/
noncomputable def hasS (k w : Sv) : Option Py := (valS k).bind fun k => (getS w k).map fun o => .bl o.isSome
noncomputable def hasNotS (k w : Sv) : Option Py := (valS k).bind fun k => (getS w k).map fun o => .bl (!o.isSome)
theorem RG.isSome {K : PySem.W.Frag} {H : Hp} {ov : Option V} {o : Option Py} (h : RG K H ov o) : ov.isSome = o.isSome := by cases h <;> rfl
theorem valS_some {w : Sv} {d : Py} (h : valS w = some d) : w = .val d := by
  cases w <;> cases h
  rfl
theorem has_some {k w : Sv} {d : Py} (h : hasS k w = some d) : ∃ k' o, k = .val k' ∧ getS w k' = some o ∧ d = .bl o.isSome := by
  obtain ⟨k', h1, h2⟩ := Option.bind_eq_some_iff.mp h
  obtain ⟨o, h3, h4⟩ := map_some h2
  exact ⟨k', o, valS_some h1, h3, h4.symm⟩
theorem hasNot_some {k w : Sv} {d : Py} (h : hasNotS k w = some d) : ∃ k' o, k = .val k' ∧ getS w k' = some o ∧ d = .bl (!o.isSome) := by
  obtain ⟨k', h1, h2⟩ := Option.bind_eq_some_iff.mp h
  obtain ⟨o, h3, h4⟩ := map_some h2
  exact ⟨k', o, valS_some h1, h3, h4.symm⟩
theorem de_din (hu : X.A.units + 1 < cLine) (hm : behindInMarks .In b = false) (ha : DX X a ma) (hb : DX X b mb) : DE X (.Compare a [.In] [b] pos) (e2 ma mb hasS) :=
  de2 (r := fun y x H Q => ∃ a o, x = .ref a ∧ DGet H a y o ∧ Q (.bl o.isSome) H) ha hb (fun h k => pe_cmp (pc_din hu h k) hm) fun v w v2 w2 fp fp2 H d Q r1 r2 hf q => by
    obtain ⟨k', o, rfl, hg, rfl⟩ := has_some hf
    obtain ⟨a, ov, rfl, _, g, rg⟩ := r2.dget (r1.data rfl) hg
    exact ⟨a, ov, rfl, g, by rw [rg.isSome]; exact q _ _ (Same.refl H) (.bl _)⟩
theorem de_dnotIn (hu : X.A.units + 1 < cLine) (hm : behindInMarks .NotIn b = false) (ha : DX X a ma) (hb : DX X b mb) : DE X (.Compare a [.NotIn] [b] pos) (e2 ma mb hasNotS) :=
  de2 (r := fun y x H Q => ∃ a o, x = .ref a ∧ DGet H a y o ∧ Q (.bl (!o.isSome)) H) ha hb (fun h k => pe_cmp (pc_dnotin hu h k) hm) fun v w v2 w2 fp fp2 H d Q r1 r2 hf q => by
    obtain ⟨k', o, rfl, hg, rfl⟩ := hasNot_some hf
    obtain ⟨a, ov, rfl, _, g, rg⟩ := r2.dget (r1.data rfl) hg
    exact ⟨a, ov, rfl, g, by rw [rg.isSome]; exact q _ _ (Same.refl H) (.bl _)⟩
/-- d[k], k is there -/
noncomputable def dixS (w k : Sv) : Option Py := (valS k).bind fun k => (getS w k).bind id
theorem de_dix (hu : X.A.units + 1 < cLine) (hs : NoSl b) (ha : DX X a ma) (hb : DX X b mb) : DE X (.Subscript a b pos) (e2 ma mb dixS) :=
  de2 (r := fun x y H Q => ∃ a v, x = .ref a ∧ DGet H a y (some v) ∧ Q v H) ha hb (fun h k => pe_dget hu h k hs) fun v w v2 w2 fp fp2 H d Q r1 r2 hf q => by
    obtain ⟨k', h1, h2⟩ := Option.bind_eq_some_iff.mp hf
    obtain ⟨o, h3, h4⟩ := Option.bind_eq_some_iff.mp h2
    have h4' : o = some d := h4
    subst h4'
    have e := valS_some h1
    subst e
    obtain ⟨a, ov, rfl, _, g, rg⟩ := r1.dget (r2.data rfl) h3
    cases rg with
    | yes rd => exact ⟨a, _, rfl, g, q _ _ (Same.refl H) rd⟩
/-- d.get(k, x), d.get(k) -/
def isDS : Sv → Option Unit
  | .dic _ => some ()
  | .val (.dic _) => some ()
  | .dit _ => some ()
  | .val (.dit _) => some ()
  | _ => none
theorem RS.isD {K : PySem.W.Frag} {H : Hp} {v : V} {w : Sv} {fp : List Addr} {u : Unit} (h : RS K H v w fp) (e : isDS w = some u) : ∃ a, v = .ref a ∧ IsD H a := by
  cases h with
  | val r =>
    cases r with
    | dicK h hk => exact ⟨_, rfl, .inl ⟨_, .inr ⟨_, h⟩⟩⟩
    | dicT h hk => exact ⟨_, rfl, .inr ⟨_, .inr ⟨_, h⟩⟩⟩
    | _ => cases e
  | dK h hk => exact ⟨_, rfl, .inl ⟨_, .inl h⟩⟩
  | dT h hk => exact ⟨_, rfl, .inr ⟨_, .inl h⟩⟩
  | lst _ _ => cases e
  | ins _ _ => cases e
noncomputable def getM2 (ma : DS → ER Ar) (mk mx : DS → ER Py) : DS → ER Py := fun st => (ma st).bind fun a st1 => (optE (bindO st1 a isDS) st1).bind fun _ st1 => (mk st1).bind fun k st2 => (mx st2).bind fun x st3 => optE (bindO st3 a fun w => (getS w k).map fun o => o.getD x) st3
theorem de_dget2 {o e f : Expr} {apos cpos : Pos} {mk mx : DS → ER Py} (hu : X.A.units + 1 < cLine) (ho : DX X o ma) (he : DE X e mk) (hf : DE X f mx) (m : M2 X o "get" apos e f cpos) : DE X (.Call (.Attribute o "get" apos) [e, f] [] cpos) (getM2 ma mk mx) := by
  refine ⟨fun Wx tk => pe_imp (pe_dget2 hu (ho.pe Wx tk) (he.pe Wx tk) (hf.pe Wx tk) m) fun σ H Q ⟨Γ, st, rl, q⟩ => ⟨Γ, st, rl, ?_⟩⟩
  refine fin.imp (fin.bind q) fun a st1 q1 v H1 r1 g1 ar => ?_
  obtain ⟨u, eu, q1⟩ := fin_opt (fin.bind q1)
  obtain ⟨w1, ew1, eu⟩ := bindO_some eu
  obtain ⟨fp1, rs1⟩ := r1.look ar ew1
  obtain ⟨d, rfl, isd⟩ := rs1.isD eu
  refine ⟨d, rfl, isd, Γ, st1, r1, ?_⟩
  refine fin.imp (fin.bind (fin.gr (H' := H1) g1 q1)) fun k st2 q2 vk H2 r2 g2 rk => ⟨Γ, st2, r2, ?_⟩
  refine fin.imp (fin.bind (fin.gr (H' := H2) g2 q2)) fun x st3 q3 vx H3 r3 g3 rx => ?_
  obtain ⟨z, ez, q4⟩ := fin_opt q3
  obtain ⟨w, ew, fw⟩ := bindO_some ez
  obtain ⟨fp, rs⟩ := r3.look ((ar.mono g2).mono g3) ew
  obtain ⟨oo, eo, eo2⟩ := map_some fw
  obtain ⟨a', ov, e1, _, g, rg⟩ := rs.dget (rk.mono g3) eo
  cases e1
  refine ⟨ov, g, ?_⟩
  subst eo2
  cases rg with
  | no => exact q4 _ H3 r3 (g1.trans (g2.trans g3)) rx
  | yes rd => exact q4 _ H3 r3 (g1.trans (g2.trans g3)) rd
/-- {} -/
theorem do_dict0 : DO X (.Dict [] [] pos) (fun st => .ok (.dic []) st) := ⟨fun Wx tk => pe_imp pe_dnewK fun σ H Q ⟨Γ, st, r, q⟩ p hp => by
  have s : Same H (upd H p (.dK [])) := Same.new hp
  exact q _ _ [p] (r.owned s (by simp) (fun b hb => by rw [List.mem_singleton.mp hb]; exact hp) fun b hb => by rw [List.mem_singleton.mp hb]; exact ⟨_, upd_same, trivial⟩) (Same.gr s) (.dK upd_same .nil)⟩
theorem do_dict0T : DO X (.Dict [] [] pos) (fun st => .ok (.dit []) st) := ⟨fun Wx tk => pe_imp pe_dnewT fun σ H Q ⟨Γ, st, r, q⟩ p hp => by
  have s : Same H (upd H p (.dT [])) := Same.new hp
  exact q _ _ [p] (r.owned s (by simp) (fun b hb => by rw [List.mem_singleton.mp hb]; exact hp) fun b hb => by rw [List.mem_singleton.mp hb]; exact ⟨_, upd_same, trivial⟩) (Same.gr s) (.dT upd_same .nil)⟩
/-- d[k] = v, d an own dict -/
noncomputable def putS (w : Sv) (k z : Py) : Option Sv := match w with
  | .dic kvs => if (pkK k).isSome = true ∧ kvs.length < sizeLine then some (.dic (putP kvs k z)) else none
  | .dit kvs => if (pkT k).isSome = true ∧ kvs.length < sizeLine then some (.dit (putP kvs k z)) else none
  | _ => none
theorem Rel.dput {K : PySem.W.Frag} {Γ : Fr} {st : DS} {σ : L2.St} {H : Hp} {i : Nat} {w w' : Sv} {vk vz : V} {k z : Py} (r : Rel K Γ st σ H []) (e : st[i]? = some (some w)) (hp : putS w k z = some w') (rk : R K H vk k) (rz : R K H vz z) :
    ∃ a, σ[i]? = some (some (.ref a)) ∧ ∃ Hn, DPut H a vk vz Hn ∧ Gr H Hn ∧ Rel K Γ (st.set i (some w')) σ Hn [] := by
  obtain ⟨v, fpi, e1, rs, r1⟩ := r.pull e
  have fin : ∀ {a : Addr} {Hn : Hp}, v = .ref a → Rel K Γ (st.set i none) σ H ([a] ++ []) → SameBut [a] H Hn → Own Hn a → RS K Hn (.ref a) w' [a] → Rel K Γ (st.set i (some w')) σ Hn [] := fun {a Hn} ev r1 sb ow rs' => by
    subst ev
    have r2 := Rel.after r1 sb (nf := [a]) (by simp) (fun b hb => .inr hb) fun b hb => by rw [List.mem_singleton.mp hb]; exact ow
    have r3 := r2.push (w := w') e1 rs'
    rw [List.set_set] at r3
    exact r3
  cases rs with
  | @dK a ks kvs h hk =>
    have hp' : (if (pkK k).isSome = true ∧ kvs.length < sizeLine then some (Sv.dic (putP kvs k z)) else none) = some w' := hp
    split at hp'
    · rename_i hc
      cases hp'
      obtain ⟨Hn, h1, h2, h3, h4, h5⟩ := (daccK (K := K)).put ⟨ks, h, hk⟩ rk hc.1 rz hc.2 (r1.fxo a (by simp))
      exact ⟨a, e1, Hn, h1, h4, fin rfl r1 h2 h3 (daccK.rs h5)⟩
    · cases hp'
  | @dT a ks kvs h hk =>
    have hp' : (if (pkT k).isSome = true ∧ kvs.length < sizeLine then some (Sv.dit (putP kvs k z)) else none) = some w' := hp
    split at hp'
    · rename_i hc
      cases hp'
      obtain ⟨Hn, h1, h2, h3, h4, h5⟩ := (daccT (K := K)).put ⟨ks, h, hk⟩ rk hc.1 rz hc.2 (r1.fxo a (by simp))
      exact ⟨a, e1, Hn, h1, h4, fin rfl r1 h2 h3 (daccT.rs h5)⟩
    · cases hp'
  | val _ => cases hp
  | lst _ _ => cases hp
  | ins _ _ => cases hp
noncomputable def dputM (i : Nat) (mv mk : DS → ER Py) : DS → SO := fun st => (mv st).s fun z st1 => (optE ((st1[i]?).join) st1).s fun _ st1 => (mk st1).s fun k st2 => (optE (((st2[i]?).join).bind fun w => putS w k z) st2).s fun w' st2 => .nx (st2.set i (some w'))
theorem ds_dput {o ke value : Expr} {i : Nat} {pn : List Nat} {pos' : Pos} {mv mk : DS → ER Py} (hu : X.A.units + 1 < cLine) (ho : PE X o (tVar i)) (hk : DE X ke mk) (hv : DE X value mv) (hs : swapsWith value (some (.Subscript o ke pos')) pos.line X.env = pure false := by rfl) :
    DSt X pn (.Assign [.Subscript o ke pos'] value pos) (dputM i mv mk) := by
  refine ⟨fun Wx tk => ps_imp (ps_dput hu ho (hk.pe Wx tk) (hv.pe Wx tk) hs) fun D σ H ⟨Γ, st, np, r, q⟩ => ⟨Γ, st, r, ?_⟩⟩
  refine fin.imp (finS.e q) fun z st1 q1 vz H1 r1 g1 rz => ?_
  obtain ⟨w0, e0, q2⟩ := finS_o q1
  obtain ⟨v0, fp0, e1, _⟩ := r1.get (join_some e0)
  refine ⟨v0, e1, Γ, st1, r1, ?_⟩
  refine fin.imp (finS.e (finS.gr g1 q2)) fun k st2 q3 vk H2 r2 g2 rk => ?_
  obtain ⟨w', ew, q4⟩ := finS_o q3
  obtain ⟨w, ew1, ew2⟩ := Option.bind_eq_some_iff.mp ew
  obtain ⟨a, e2, Hn, h1, h2, h3⟩ := r2.dput (join_some ew1) ew2 rk (rz.mono g2)
  rw [e1] at e2
  cases e2
  have q5 : finS X Wx Γ H1 (.nx (st2.set i (some w'))) D := q4
  exact ⟨a, Hn, rfl, h1, q5 σ Hn h3 (g2.trans h2)⟩
end
end DL

/-! ## DL23 -/
namespace DL
open PySem PySem.Spec PyProof.Rows L2
variable [Tb]
section
variable {X : Cx} {a b c : Expr} {ma mb mc : DS → ER Ar} {pos p p1 p2 : Pos}
/-- str(n) -/
def strS (w : Sv) : Option Py := match w with
  | .val (.int i) => if i.natAbs.log2 < 1920 then some (.str (toString i)) else none
  | _ => none
theorem de_strI (T : Bt X.mg) (hg : Gl X "str") (ha : DX X a ma) (he : starEach [a] X.env = (false, eval a X.env) :: starEach [] X.env := by rfl) (hpl : (backTo pos (starEach [] X.env)).any (·.1) = false := by rfl) :
    DE X (.Call (.Name "str" p) [a] [] pos) (e1 ma strS) :=
  de_t1 call_str_int hg T.str (boot_cls .str (by decide)) ha (fun v w fp H d Q rs hf q => by
    unfold strS at hf
    split at hf
    · rename_i i
      split at hf
      · rename_i hz
        cases hf
        have e := rs.int (i := i) rfl
        subst e
        exact ⟨i, rfl, hz, q _ _ (Same.refl H) (.str _)⟩
      · cases hf
    · cases hf) (by decide) (by decide) he hpl
/-- an own list or a new one, k times -/
def repS (x y : Sv) : Option Sv := match x, y with
  | .lst ds, .val (.int k) => if -(2 ^ 63) ≤ k ∧ k < 2 ^ 63 ∧ ds.length * k.toNat ≤ sizeLine then some (.lst (List.replicate k.toNat ds).flatten) else none
  | _, _ => none
theorem RA.rep {K : PySem.W.Frag} {H : Hp} {xs : List V} {ds : List Py} (h : RA K H xs ds) : ∀ n : Nat, RA K H (List.replicate n xs).flatten (List.replicate n ds).flatten
  | 0 => .nil
  | n + 1 => by rw [List.replicate_succ, List.replicate_succ, List.flatten_cons, List.flatten_cons]; exact h.append (RA.rep h n)
theorem do_repV {i : Nat} (ha : PE X a (tVar i)) (hb : DX X b mb) : DO X (.BinOp a .Mult b pos) (e2 (nameX i) mb repS) :=
  do2 (dx_name ha) hb (pe_op op_rep) fun v w v2 w2 fp fp2 H d Q r1 r2 hf q => by
    unfold repS at hf
    split at hf
    · rename_i ds k
      split at hf
      · rename_i hc
        cases hf
        cases r1 with
        | @lst l xs _ h ra =>
          have e2 := r2.int (i := k) rfl
          subst e2
          refine ⟨l, k, xs, rfl, rfl, h, hc.1, hc.2.1, by rw [ra.length]; exact hc.2.2, fun p hp => ?_⟩
          have s : Same H (upd H p (.lst (List.replicate k.toNat xs).flatten)) := Same.new hp
          exact q _ _ [p] s (.lst upd_same ((ra.rep _).mono (Same.gr s))) (by simp) (fun b hb => by rw [List.mem_singleton.mp hb]; exact hp)
      · cases hf
    · cases hf
/-- max(i, j) -/
theorem de_max2 (hc : X.calm = true) (T : Bt X.mg) (hg : Gl X "max") (ha : DX X a ma) (hb : DX X b mb) (he : starEach [a, b] X.env = (false, eval a X.env) :: starEach [b] X.env := by rfl) (he2 : starEach [b] X.env = (false, eval b X.env) :: starEach [] X.env := by rfl) (hpl : (backTo pos (starEach [b] X.env)).any (·.1) = false := by rfl) :
    DE X (.Call (.Name "max" p) [a, b] [] pos) (e2 ma mb (binI0 fun i j => .int (if j > i then j else i))) :=
  de2 (r := fun x y H Q => ∃ i j, [x, y] = [.int i, .int j] ∧ Q (.int (if j > i then j else i)) H) ha hb (fun h k => pe_callB (call_max2 hc) hg T.max boot_max (pa_cons h (pa_cons k pa_nil he2) he) (by decide) (by decide) he hpl) fun v w v2 w2 fp fp2 H d Q r1 r2 hf q => by
    obtain ⟨i, j, rfl, rfl, rfl⟩ := binI0_some hf
    have e1 := r1.int (i := i) rfl
    have e2 := r2.int (i := j) rfl
    subst e1 e2
    exact ⟨i, j, rfl, q _ _ (Same.refl H) (.int _)⟩
theorem do_repC {mo : DS → ER Sv} {k : Int} {j : Nat} (h : DO X a mo) : DO X (.BinOp a .Mult (.Constant (.int k) j p2) pos) (fun st => (mo st).bind fun w st1 => optE (repS w (.val (.int k))) st1) := by
  refine ⟨fun Wx tk => pe_imp (pe_op op_rep (h.pe Wx tk) pe_int) fun σ H Q ⟨Γ, st, r, q⟩ => ⟨Γ, st, r, ?_⟩⟩
  refine fin.imp (fin.bind q) fun w st1 q1 v H1 fw r1 g1 rs => ?_
  obtain ⟨d, hf, q2⟩ := fin_opt q1
  cases w with
  | lst ds =>
    have hf' : (if -(2 ^ 63) ≤ k ∧ k < 2 ^ 63 ∧ ds.length * k.toNat ≤ sizeLine then some (Sv.lst (List.replicate k.toNat ds).flatten) else none) = some d := hf
    split at hf'
    · rename_i hc
      cases hf'
      cases rs with
      | @lst l xs _ h ra =>
        refine ⟨l, k, xs, rfl, rfl, h, hc.1, hc.2.1, by rw [ra.length]; exact hc.2.2, fun p hp => ?_⟩
        have s : Same H1 (upd H1 p (.lst (List.replicate k.toNat xs).flatten)) := Same.new hp
        have rs' : RS X.K (upd H1 p (.lst (List.replicate k.toNat xs).flatten)) (.ref p) (.lst (List.replicate k.toNat ds).flatten) [p] := .lst upd_same ((ra.rep _).mono (Same.gr s))
        exact q2 _ _ [p] (r1.drop.owned s (by simp) (fun b hb => by rw [List.mem_singleton.mp hb]; exact hp) rs'.own) (g1.trans (Same.gr s)) rs'
    · cases hf'
  | _ => cases hf
/-- dict(d): a copy; dict(ps): of pairs -/
def pairK : Py → Option (Key × Py)
  | .tup [k, v] => (pkK k).map fun k => (k, v)
  | _ => none
noncomputable def mergeP (kvs : List (Py × Py)) (more : List (Key × Py)) : List (Py × Py) := more.foldl (fun acc kv => putP acc (keyP kv.1) kv.2) kvs
theorem pairs_of {K : PySem.W.Frag} {H : Hp} : ∀ {vs : List V} {ds : List Py} {ps : List (Key × Py)}, RA K H vs ds → allM pairK ds = some ps → ∃ (as : List Addr) (kvs : List (Key × V)), vs = as.map V.ref ∧ Paired (fun p kv => SqT K H p [kV kv.1, kv.2]) as kvs ∧ (∀ {acc : List (Key × V)} {accP : List (Py × Py)}, RK K H acc accP → RK K H (mergeK acc kvs) (mergeP accP ps))
  | _, _, _, .nil, e => by
    cases e
    exact ⟨[], [], rfl, .nil, fun h => h⟩
  | v :: vs, d :: ds, ps, .cons h t, e => by
    simp only [allM] at e
    split at e
    · rename_i a as e1 e2
      cases e
      obtain ⟨as', kvs, h1, h2, h3⟩ := pairs_of t e2
      unfold pairK at e1
      split at e1
      · rename_i k z
        obtain ⟨k0, ek, ek2⟩ := map_some e1
        subst ek2
        cases h with
        | tup hb ra =>
          cases ra with
          | cons r1 ra =>
            cases ra with
            | cons r2 ra =>
              cases ra
              obtain ⟨x1, x2⟩ := r1.pkK ek
              subst x1 x2 h1
              exact ⟨_ :: as', (k0, _) :: kvs, rfl, .cons (SqT.of hb) h2, fun hacc => h3 ((hacc.rd.put keyP_inj r2).rk)⟩
      · cases e1
    · cases e
noncomputable def dictS (w : Sv) : Option Sv := match w with
  | .dic kvs => some (.dic kvs)
  | .val (.dic kvs) => some (.dic kvs)
  | w => (listS w).bind fun ds => (allM pairK ds).map fun ps => .dic (mergeP [] ps)
theorem do_dict1 (hc : X.calm = true) (T : Bt X.mg) (hg : Gl X "dict") (ha : DX X a ma) (he : starEach [a] X.env = (false, eval a X.env) :: starEach [] X.env := by rfl) (hpl : (backTo pos (starEach [] X.env)).any (·.1) = false := by rfl) :
    DO X (.Call (.Name "dict" p) [a] [] pos) (e1 ma dictS) :=
  do_t1 (call_dictD.or (call_dictP hc)) hg T.dict (boot_cls .dict (by decide)) ha (fun v w fp H d Q rs hf q => by
    have cp : ∀ {a : Addr} {ks : List (Key × V)} {kvs : List (Py × Py)}, v = .ref a → Rd H a (.dK ks) → RK X.K H ks kvs → d = .dic kvs → ∃ (a : Addr) (kvs : List (Key × V)), [v] = [.ref a] ∧ Rd H a (.dK kvs) ∧ ∀ p, H p = none → Q (.ref p) (upd H p (.dK kvs)) := fun {a ks kvs} hv hr hk hd => by
      subst hv hd
      refine ⟨a, ks, rfl, hr, fun p hp => ?_⟩
      have s : Same H (upd H p (.dK ks)) := Same.new hp
      exact q _ _ [p] s (.dK upd_same (hk.mono (Same.gr s))) (by simp) (fun b hb => by rw [List.mem_singleton.mp hb]; exact hp)
    unfold dictS at hf
    split at hf
    · cases hf
      cases rs with
      | dK h hk => exact .inl (cp rfl (.inl h) hk rfl)
    · cases hf
      cases rs with
      | val rv => cases rv with
        | dicK h hk => exact .inl (cp rfl (.inr ⟨_, h⟩) hk rfl)
    · obtain ⟨ds, h1, h2⟩ := Option.bind_eq_some_iff.mp hf
      obtain ⟨ps, h3, h4⟩ := map_some h2
      subst h4
      obtain ⟨l, xs, rfl, hl, ra⟩ := rs.list h1
      obtain ⟨as, kvs, e1, pr, mg⟩ := pairs_of ra h3
      subst e1
      refine .inr ⟨l, as, kvs, rfl, hl, pr, fun p hp => ?_⟩
      have s : Same H (upd H p (.dK (mergeK [] kvs))) := Same.new hp
      exact q _ _ [p] s (.dK upd_same ((mg .nil).mono (Same.gr s))) (by simp) (fun b hb => by rw [List.mem_singleton.mp hb]; exact hp)) (by decide) (by decide) he hpl
end
end DL

/-! ## DL24 -/
namespace ZL
open PySem RZ
open PySem.Sem (wp)
/-! ### list(zip(a, b)) of two tuples -/
section
variable {prog : Program} {w : World} {A : Around} {E : Value → Shared → Prop} {s : Shared}
variable {z TI TO T i1 i2 l1 l2 : Addr} {f : Bool} {oT : Obj} {k1 k2 : Nat} {xs ys : Array Value} {x y : Value}
theorem heldItem {Q : Value → Shared → Prop} (D : ZipApart z TI TO i1 i2 l1 l2) (hZ : IsZipHeld s.heap z TI TO T f) (hT : s.heap.get? T = some oT) (hP : IsPair s.heap TI (.ref i1) (.ref i2))
    (g1 : s.heap.IsTupleIter i1 l1 k1) (g2 : s.heap.IsTupleIter i2 l2 k2) (t1 : s.heap.IsTuple l1 xs) (t2 : s.heap.IsTuple l2 ys) (hx : xs[k1]? = some x) (hy : ys[k2]? = some y)
    (hQ : ∀ h', IsZipHeld h' z TI TO T true → h'.IsTupleIter i1 l1 (k1 + 1) → h'.IsTupleIter i2 l2 (k2 + 1) → IsPair h' s.heap.objs.size x y → (∀ c o, c ≠ z → c ≠ i1 → c ≠ i2 → s.heap.get? c = some o → h'.get? c = some o) → h'.objs.size = s.heap.objs.size + 1 → Q (.ref s.heap.objs.size) { s with heap := h' }) :
    wpAny (model prog w) A (Builtin.«zip.__next__» ⟨[.ref z], []⟩) (fun r s1 => ∃ v, r = .done (.ret v) ∧ Q v s1) E s := by
  have hZ' := hZ
  show wpAny _ _ (field (.ref z) 2 >>= _) _ _ _
  refine wpAny_bind (wpAny_field hZ' rfl (x := .bool false) rfl ?_)
  show wpAny _ _ (field (.ref z) 3 >>= _) _ _ _
  refine wpAny_bind (wpAny_field hZ' rfl (x := .ref TI) rfl ?_)
  refine wpAny_bind (wpAny_seqItems hP rfl ?_)
  show wpAny _ _ (Builtin.SmallTypes.ownedTupleIsFree (.ref z) >>= _) _ _ _
  refine wpAny_bind (wpAny_tupleHeld_zip hZ hT fun ha hZa sa => ?_)
  simp only [Bool.false_eq_true, if_false]
  refine wpAny_bind ?_
  rw [← Array.forIn_toList]
  simp only [List.forIn_cons, List.forIn_nil]
  refine wpAny_bind (wpAny_bind (wpAny_holding ?_))
  show wpAny _ _ (Builtin.SmallTypes.nextOf (.ref i1) >>= _) _ _ _
  refine wpAny_bind (nextOf_tuple_item (s := { s with heap := ha }) (g1.extBut sa.extBut D.i1z) (t1.extBut sa.extBut D.l1z) hx fun hb g1b sb => wpAny_pure ?_)
  refine wpAny_pure ?_
  refine wpAny_bind (wpAny_bind (wpAny_holding ?_))
  show wpAny _ _ (Builtin.SmallTypes.nextOf (.ref i2) >>= _) _ _ _
  refine wpAny_bind (nextOf_tuple_item (s := { s with heap := hb }) ((g2.extBut sa.extBut D.i2z).extBut sb.extBut D.i12.symm) ((t2.extBut sa.extBut D.l2z).extBut sb.extBut D.l2i1) hy fun hc g2c sc => wpAny_pure ?_)
  refine wpAny_pure (wpAny_pure ?_)
  show wpAny _ _ (newTuple [x, y] >>= _) _ _ _
  refine wpAny_bind (wpAny_newTuple ?_)
  have ez : hc.objs.size = s.heap.objs.size := by rw [sc.1, sb.1, sa.1]
  have hZc : IsZipHeld hc z TI TO T true := sc.extBut _ _ D.i2z.symm (sb.extBut _ _ D.i1z.symm hZa)
  have kp : ∀ c o, c ≠ z → c ≠ i1 → c ≠ i2 → s.heap.get? c = some o → hc.get? c = some o := fun c o n1 n2 n3 e => sc.extBut _ _ n3 (sb.extBut _ _ n2 (sa.extBut _ _ n1 e))
  have g1c : hc.IsTupleIter i1 l1 (k1 + 1) := g1b.extBut sc.extBut D.i12
  refine wpAny_pure ⟨_, rfl, ?_⟩
  show Q (.ref hc.objs.size) _
  have hp : IsPair (hc.push { cls := .type "tuple", data := .seq #[x, y] }) hc.objs.size x y := Heap.get?_push_size _ rfl
  have e4 : (hc.push { cls := .type "tuple", data := .seq #[x, y] }).objs.size = hc.objs.size + 1 := Heap.size_push ..
  rw [ez] at hp e4 ⊢
  exact hQ _ (Heap.get?_push_of_some _ hZc) (g1c.at fun o e => Heap.get?_push_of_some _ e) (g2c.at fun o e => Heap.get?_push_of_some _ e) hp (fun c o n1 n2 n3 e => Heap.get?_push_of_some _ (kp c o n1 n2 n3 e)) e4
theorem heldEnd {Q : Fin → Shared → Prop} (hh : A.handled = none) (D : ZipApart z TI TO i1 i2 l1 l2) (hZ : IsZipHeld s.heap z TI TO T f) (hT : s.heap.get? T = some oT) (hP : IsPair s.heap TI (.ref i1) (.ref i2))
    (g1 : s.heap.IsTupleIter i1 l1 k1) (g2 : s.heap.IsTupleIter i2 l2 k2) (t1 : s.heap.IsTuple l1 xs) (t2 : s.heap.IsTuple l2 ys) (he : xs[k1]? = none ∨ ys[k2]? = none)
    (hE : ∀ h' e, (∀ c o, c ≠ z → c ≠ i1 → c ≠ i2 → s.heap.get? c = some o → h'.get? c = some o) → (∃ o, h'.get? e = some o ∧ o.cls = .type "StopIteration") → E (.ref e) { s with heap := h' }) :
    wpAny (model prog w) A (Builtin.«zip.__next__» ⟨[.ref z], []⟩) Q E s := by
  have hZ' := hZ
  show wpAny _ _ (field (.ref z) 2 >>= _) _ _ _
  refine wpAny_bind (wpAny_field hZ' rfl (x := .bool false) rfl ?_)
  show wpAny _ _ (field (.ref z) 3 >>= _) _ _ _
  refine wpAny_bind (wpAny_field hZ' rfl (x := .ref TI) rfl ?_)
  refine wpAny_bind (wpAny_seqItems hP rfl ?_)
  show wpAny _ _ (Builtin.SmallTypes.ownedTupleIsFree (.ref z) >>= _) _ _ _
  refine wpAny_bind (wpAny_tupleHeld_zip hZ hT fun ha hZa sa => ?_)
  simp only [Bool.false_eq_true, if_false]
  refine wpAny_bind ?_
  rw [← Array.forIn_toList]
  simp only [List.forIn_cons, List.forIn_nil]
  refine wpAny_bind (wpAny_bind (wpAny_holding ?_))
  show wpAny _ _ (Builtin.SmallTypes.nextOf (.ref i1) >>= _) _ _ _
  cases hx : xs[k1]? with
  | none =>
    refine wpAny_bind (nextOf_tuple_end (s := { s with heap := ha }) hh (g1.extBut sa.extBut D.i1z) (t1.extBut sa.extBut D.l1z) hx fun hb e sb q => ?_)
    exact hE hb e (fun c o n1 n2 _ x => sb _ _ n2 (sa.extBut _ _ n1 x)) q
  | some x =>
    have hy : ys[k2]? = none := he.resolve_left (by rw [hx]; simp)
    refine wpAny_bind (nextOf_tuple_item (s := { s with heap := ha }) (g1.extBut sa.extBut D.i1z) (t1.extBut sa.extBut D.l1z) hx fun hb g1b sb => wpAny_pure ?_)
    refine wpAny_pure ?_
    refine wpAny_bind (wpAny_bind (wpAny_holding ?_))
    show wpAny _ _ (Builtin.SmallTypes.nextOf (.ref i2) >>= _) _ _ _
    refine wpAny_bind (nextOf_tuple_end (s := { s with heap := hb }) hh ((g2.extBut sa.extBut D.i2z).extBut sb.extBut D.i12.symm) ((t2.extBut sa.extBut D.l2z).extBut sb.extBut D.l2i1) hy fun hc e sc q => ?_)
    exact hE hc e (fun c o n1 n2 n3 x => sc _ _ n3 (sb.extBut _ _ n2 (sa.extBut _ _ n1 x))) q
theorem nextHeld {Q : Option Value → Shared → Prop} (D : ZipApart z TI TO i1 i2 l1 l2) (hZ : IsZipHeld s.heap z TI TO T f) (hT : s.heap.get? T = some oT) (hP : IsPair s.heap TI (.ref i1) (.ref i2))
    (g1 : s.heap.IsTupleIter i1 l1 k1) (g2 : s.heap.IsTupleIter i2 l2 k2) (t1 : s.heap.IsTuple l1 xs) (t2 : s.heap.IsTuple l2 ys) (hx : xs[k1]? = some x) (hy : ys[k2]? = some y)
    (hQ : ∀ h', IsZipHeld h' z TI TO T true → h'.IsTupleIter i1 l1 (k1 + 1) → h'.IsTupleIter i2 l2 (k2 + 1) → IsPair h' s.heap.objs.size x y → (∀ c o, c ≠ z → c ≠ i1 → c ≠ i2 → s.heap.get? c = some o → h'.get? c = some o) → h'.objs.size = s.heap.objs.size + 1 → Q (some (.ref s.heap.objs.size)) { s with heap := h' }) :
    wpAny (model prog w) A (pyNext (.ref z)) Q E s := by
  have hy0 : s.TypeIs (.ref z) "zip" := ⟨_, hZ, rfl⟩
  unfold pyNext
  exact wpAny_bind (wpAny_attempt (wpAny_callSpecial?_slot (name := Str.ofString "__next__") hy0 F.slot_zip_next (wpAny_call_entry F.slot_zip_next hy0 F.entry_zip_next
    (heldItem D hZ hT hP g1 g2 t1 t2 hx hy fun h' b1 b2 b3 b4 b5 b6 => wpAny_pure (hQ h' b1 b2 b3 b4 b5 b6)) (F.args_zip_next_1 _))))
theorem nextHeldEnd {Q : Option Value → Shared → Prop} (hh : A.handled = none) (D : ZipApart z TI TO i1 i2 l1 l2) (hZ : IsZipHeld s.heap z TI TO T f) (hT : s.heap.get? T = some oT) (hP : IsPair s.heap TI (.ref i1) (.ref i2))
    (g1 : s.heap.IsTupleIter i1 l1 k1) (g2 : s.heap.IsTupleIter i2 l2 k2) (t1 : s.heap.IsTuple l1 xs) (t2 : s.heap.IsTuple l2 ys) (he : xs[k1]? = none ∨ ys[k2]? = none)
    (hQ : ∀ h', (∀ c o, c ≠ z → c ≠ i1 → c ≠ i2 → s.heap.get? c = some o → h'.get? c = some o) → Q none { s with heap := h' }) : wpAny (model prog w) A (pyNext (.ref z)) Q E s := by
  have hy0 : s.TypeIs (.ref z) "zip" := ⟨_, hZ, rfl⟩
  unfold pyNext
  refine wpAny_bind (wpAny_attempt (wpAny_callSpecial?_slot (name := Str.ofString "__next__") hy0 F.slot_zip_next (wpAny_call_entry F.slot_zip_next hy0 F.entry_zip_next (heldEnd hh D hZ hT hP g1 g2 t1 t2 he fun h' e kp q => ?_) (F.args_zip_next_1 _))))
  obtain ⟨o, ho, hc⟩ := q
  refine wpAny_bind (wpAny_isInstance (T := "StopIteration") (b := true) ⟨o, ho, hc⟩ isSubtype_stop ?_)
  exact wpAny_pure (hQ _ kp)
end
theorem zip_no_len : typeLookup (.type "zip") "__len__" = pure none := by rw [typeLookup_type, builtinLookup_eq_fast]; kernel_rfl
theorem zip_no_hint : typeLookup (.type "zip") "__length_hint__" = pure none := by rw [typeLookup_type, builtinLookup_eq_fast]; kernel_rfl
/-- what is drawn from the iterator I into the list S, all told as it was drawn -/
structure Coll (prog : Program) (w : World) (A : Around) (I S : Addr) (n : Nat) (St Fn : List Value → Heap → Prop) : Prop where
  type : ∀ l (s : Shared), St l s.heap → s.TypeIs (.ref I) "zip"
  frame : ∀ l h h', St l h → (∀ b o, b ≠ S → h.get? b = some o → h'.get? b = some o) → St l h'
  item : ∀ l (s : Shared) (Q : Option Value → Shared → Prop) (E : Value → Shared → Prop), l.length < n → St l s.heap → S < s.heap.objs.size →
    (∀ v h' tk, St (l ++ [v]) h' → (∀ o, s.heap.get? S = some o → h'.get? S = some o) → Q (some v) { s with heap := h', toks := tk }) → wpAny (model prog w) A (pyNext (.ref I)) Q E s
  done : ∀ l (s : Shared) (Q : Option Value → Shared → Prop) (E : Value → Shared → Prop), l.length = n → St l s.heap →
    (∀ h' tk, Fn l h' → (∀ o, s.heap.get? S = some o → h'.get? S = some o) → Q none { s with heap := h', toks := tk }) → wpAny (model prog w) A (pyNext (.ref I)) Q E s
  self : ∀ (s : Shared) (Q : Value → Shared → Prop) (E : Value → Shared → Prop), St [] s.heap → Q (.ref I) s → wpAny (model prog w) A (pyIter (.ref I)) Q E s
section
variable {prog : Program} {w : World} {A : Around} {R : Result → Shared → Prop} {I S : Addr} {n : Nat} {St Fn : List Value → Heap → Prop}
theorem coll_loop (W : Coll prog w A.in1 I S n St Fn) (hn : n ≤ sizeLine) (res : Value) : ∀ (k : Nat) (s : Shared) (l : List Value) (c : Nat), l.length + k = n → St l s.heap → s.heap.get? S = some { cls := .type "list", dict := none, data := .seq l.toArray c, slots := #[] } →
    (∀ h' tk l' c', l'.length = n → Fn l' h' → h'.get? S = some { cls := .type "list", dict := none, data := .seq l'.toArray c', slots := #[] } → R (.ok (.ret res)) { s with heap := h', toks := tk }) →
    codeAny (model prog w) A (.builtin "list.extend.loop" ⟨[.ref S, .ref I, res], []⟩) R s := by
  intro k
  induction k with
  | zero =>
    intro s l c hk st hS hR
    refine codeAny_builtin F.entry_extend_loop ?_
    rw [Around.under_plainId F.plain_extend_loop _]
    show wpAny _ A.in1 (pyNext (.ref I) >>= _) _ _ s
    refine wpAny_bind (W.done l s _ _ (by omega) st fun h' tk st' kS => ?_)
    exact wpAny_pure (hR h' tk l c (by omega) st' (kS _ hS))
  | succ k ih =>
    intro s l c hk st hS hR
    refine codeAny_builtin F.entry_extend_loop ?_
    rw [Around.under_plainId F.plain_extend_loop _]
    show wpAny _ A.in1 (pyNext (.ref I) >>= _) _ _ s
    refine wpAny_bind (W.item l s _ _ (by omega) st (Heap.lt_size hS) fun v h' tk st' kS => ?_)
    have hS1 := kS _ hS
    show wpAny _ A.in1 (updateSeq S (·.push v) >>= _) _ _ _
    have e := Heap.get?_update_self (Obj.mapSeq (·.push v)) hS1 rfl
    obtain ⟨c2, ec⟩ : ∃ c2, Obj.mapSeq (·.push v) ({ cls := .type "list", dict := none, data := .seq l.toArray c, slots := #[] } : Obj) = { cls := .type "list", dict := none, data := .seq (l ++ [v]).toArray c2, slots := #[] } := ⟨_, by simp only [Obj.mapSeq, List.push_toArray]; rfl⟩
    rw [ec] at e
    refine wpAny_bind (wpAny_updateSeq hS1 rfl (wpAny_pure ⟨plainId_quiet F.plain_extend_loop _, ih _ (l ++ [v]) c2 (by simp; omega) (W.frame _ _ _ st' fun b o hb q => (Heap.get?_update_other _ _ (Ne.symm hb)).trans q) e fun h2 tk2 l2 c3 e1 e2 e3 => hR h2 tk2 l2 c3 e1 e2 e3⟩) (by simp; omega) (by simp; omega))
theorem coll_extend (W : Coll prog w A.in1 I S n St Fn) (hn : n ≤ sizeLine) (res : Value) {s : Shared} {c : Nat} (st : St [] s.heap) (hSI : S ≠ I) (hS : s.heap.get? S = some { cls := .type "list", data := .seq #[] c })
    (hR : ∀ h' tk l' c', l'.length = n → Fn l' h' → h'.get? S = some { cls := .type "list", dict := none, data := .seq l'.toArray c', slots := #[] } → R (.ok (.ret res)) { s with heap := h', toks := tk }) :
    wpAny (model prog w) A.in1 (Builtin.List.listExtendWith (.ref S) (.ref I) res)
      (fun r s1 => match r with | .done f => R (.ok f) s1 | .again c1 => c1.quiet = true ∧ codeAny (model prog w) A c1 R s1) (fun e s1 => R (.error e) s1) s := by
  unfold Builtin.List.listExtendWith
  have ty := W.type _ _ st
  refine wpAny_bind (wpAny_typeOf ty ?_)
  have a1 : Builtin.List.listSameRef (.ref S) (.ref I) = false := by simp [Builtin.List.listSameRef, hSI]
  have a2 : (Value.type "zip" == Value.type "list") = false := by decide
  have a3 : (Value.type "zip" == Value.type "tuple") = false := by decide
  simp only [a1, a2, a3, Bool.or_false, Bool.false_eq_true, if_false]
  refine wpAny_bind (W.self _ _ _ st ?_)
  refine wpAny_bind (wpAny_holding ?_)
  unfold Builtin.List.listLengthHint
  refine wpAny_bind (wpAny_specialOf ty zip_no_len ?_)
  show wpAny _ A.in1 (specialOf (Value.ref I) (Str.ofString "__length_hint__") >>= _) _ _ _
  refine wpAny_bind (wpAny_specialOf ty zip_no_hint ?_)
  refine wpAny_pure ?_
  show wpAny _ A.in1 (rule "list.extend.makes-room" >>= fun _ => Builtin.List.listTouch (.ref S) >>= fun _ => again (.builtin "list.extend.loop" ⟨[.ref S, .ref I, res], []⟩)) _ _ _
  refine wpAny_bind (wpAny_rule ?_)
  refine wpAny_bind ?_
  show wpAny _ A.in1 (updateSeq S (·.push .none) >>= fun _ => updateSeq S (·.pop)) _ _ _
  refine wpAny_bind (wpAny_updateSeq hS rfl ?_)
  have b1 := Heap.get?_update_self (Obj.mapSeq (·.push Value.none)) hS rfl
  refine wpAny_updateSeq (hz := by seq_fits) b1 rfl ?_
  have b2 := Heap.get?_update_self (Obj.mapSeq (·.pop)) b1 rfl
  refine wpAny_pure ⟨plainId_quiet F.plain_extend_loop _, coll_loop W hn res n _ [] _ (by simp) (W.frame [] _ _ st fun b o hb e => (Heap.get?_update_other _ _ (Ne.symm hb)).trans ((Heap.get?_update_other _ _ (Ne.symm hb)).trans e)) b2 fun h' tk l' c' e1 e2 e3 => hR h' tk l' c' e1 e2 e3⟩
end
theorem coll_call {prog : Program} {w : World} {A : Around} {E : Value → Shared → Prop} {s : Shared} {I : Addr} {n : Nat} {St Fn : List Value → Heap → Prop} {Q : Value → Shared → Prop} (W : Coll prog w A.in1.in1 I s.heap.objs.size n St Fn) (hn : n ≤ sizeLine) (st : St [] s.heap) (hI : I < s.heap.objs.size)
    (hQ : ∀ h' tk l' c', l'.length = n → Fn l' h' → h'.get? s.heap.objs.size = some { cls := .type "list", dict := none, data := .seq l'.toArray c', slots := #[] } → Q (.ref s.heap.objs.size) { s with heap := h', toks := tk }) :
    wpAny (model prog w) A (call (.type "list") [.ref I]) Q E s := by
  refine callType_codes (Q₁ := fun obj s1 => obj = .ref s.heap.objs.size ∧ s1 = { s with heap := s.heap.push { cls := .type "list", data := .seq #[] } }) F.called_list (F.typeCall_list_1 _) F.entry_list_init (code_list_new _ ⟨rfl, rfl⟩) fun obj s1 q => ?_
  obtain ⟨rfl, rfl⟩ := q
  have hS : (s.heap.push { cls := .type "list", data := .seq #[] }).get? s.heap.objs.size = some { cls := .type "list", data := .seq #[] } := Heap.get?_push_size _ rfl
  refine ⟨⟨_, hS, rfl⟩, F.args_list_init_2 _ _, ?_⟩
  show wpAny _ A.in1.in1 (do let old ← Builtin.List.listItems (.ref s.heap.objs.size); Builtin.List.listUpdate (.ref s.heap.objs.size) (fun _ => #[]); letGo old.toList.reverse; Builtin.List.listExtendWith (.ref s.heap.objs.size) (.ref I) .none) _ _ _
  refine wpAny_bind ?_
  unfold Builtin.List.listItems
  refine wpAny_bind (wpAny_seqItems hS rfl (wpAny_pure ?_))
  show wpAny _ A.in1.in1 (updateSeq s.heap.objs.size (fun _ => #[]) >>= fun _ => letGo (#[] : Array Value).toList.reverse >>= fun _ => Builtin.List.listExtendWith (.ref s.heap.objs.size) (.ref I) .none) _ _ _
  refine wpAny_bind (wpAny_updateSeq hS rfl ?_)
  have hS2 := Heap.get?_update_self (Obj.mapSeq (fun _ => (#[] : Array Value))) hS rfl
  refine wpAny_bind (wpAny_letGo ?_)
  refine coll_extend W hn .none (W.frame [] _ _ st fun b o hb e => (Heap.get?_update_other _ _ (Ne.symm hb)).trans (Heap.get?_push_of_some _ e)) (Nat.ne_of_gt hI) hS2 fun h' tk l' c' e1 e2 e3 => ?_
  exact ⟨rfl, hQ h' tk l' c' e1 e2 e3⟩
/-- the pairs that a zip of two tuples gave -/
def Gave (h : Heap) (S : Addr) (xs ys : Array Value) (l : List Value) : Prop := ∃ as : List Addr, l = as.map .ref ∧ as.Pairwise (· < ·) ∧ (∀ a ∈ as, S < a) ∧ ∀ (j : Nat) (a : Addr), as[j]? = some a → ∃ x y, xs[j]? = some x ∧ ys[j]? = some y ∧ IsPair h a x y
def ZSt (h0 : Heap) (z TI TO i1 i2 l1 l2 S : Addr) (xs ys : Array Value) (l : List Value) (h : Heap) : Prop :=
  (∀ b o, h0.get? b = some o → h.get? b = some o) ∧ IsPair h TI (.ref i1) (.ref i2) ∧ h.IsTupleIter i1 l1 l.length ∧ h.IsTupleIter i2 l2 l.length ∧ Gave h S xs ys l ∧
    ((IsZip h z TI TO .none ∧ ∃ a b, IsPair h TO a b) ∨ (l ≠ [] ∧ ∃ T f oT, IsZipHeld h z TI TO T f ∧ h.get? T = some oT ∧ S < T))
theorem Gave.mono {h h' : Heap} {S : Addr} {xs ys : Array Value} {l : List Value} (g : Gave h S xs ys l) (k : ∀ b o, S < b → h.get? b = some o → h'.get? b = some o) : Gave h' S xs ys l := by
  obtain ⟨as, e, p, m, q⟩ := g
  refine ⟨as, e, p, m, fun j a ha => ?_⟩
  obtain ⟨x, y, ex, ey, hp⟩ := q j a ha
  exact ⟨x, y, ex, ey, k _ _ (m a (List.mem_of_getElem? ha)) hp⟩
theorem Gave.snoc {h h' : Heap} {S : Addr} {xs ys : Array Value} {l : List Value} {x y : Value} (g : Gave h S xs ys l) (k : ∀ b o, S < b → h.get? b = some o → h'.get? b = some o) (hx : xs[l.length]? = some x) (hy : ys[l.length]? = some y) (hp : IsPair h' h.objs.size x y) (hS : S < h.objs.size) : Gave h' S xs ys (l ++ [.ref h.objs.size]) := by
  obtain ⟨as, e, p, m, q⟩ := g
  have el : l.length = as.length := by rw [e, List.length_map]
  refine ⟨as ++ [h.objs.size], by rw [e]; simp, ?_, fun a ha => ?_, fun j a ha => ?_⟩
  · refine List.pairwise_append.mpr ⟨p, by simp, fun a ha b hb => ?_⟩
    rw [List.mem_singleton.mp hb]
    obtain ⟨j, hj⟩ := List.getElem?_of_mem ha
    obtain ⟨_, _, _, _, z⟩ := q j a hj
    exact Heap.lt_size z
  · rcases List.mem_append.mp ha with ha | ha
    · exact m a ha
    · rw [List.mem_singleton.mp ha]; exact hS
  · rw [List.getElem?_append] at ha
    split at ha
    · obtain ⟨x, y, ex, ey, z⟩ := q j a ha
      exact ⟨x, y, ex, ey, k _ _ (m a (List.mem_of_getElem? ha)) z⟩
    · rename_i hj
      cases ej : j - as.length with
      | zero =>
        rw [ej] at ha
        have : j = l.length := by omega
        subst this
        cases ha
        exact ⟨x, y, hx, hy, hp⟩
      | succ m => rw [ej] at ha; simp at ha
theorem coll_zip {prog : Program} {w : World} {A : Around} {h0 : Heap} {z TI TO i1 i2 l1 l2 S : Addr} {xs ys : Array Value} (hh : A.handled = none) (D : ZipApart z TI TO i1 i2 l1 l2) (hS : ∀ b, b = z ∨ b = TI ∨ b = TO ∨ b = i1 ∨ b = i2 → b < S ∧ h0.get? b = none) (hS0 : h0.get? S = none) (t1 : h0.IsTuple l1 xs) (t2 : h0.IsTuple l2 ys) :
    Coll prog w A z S (min xs.size ys.size) (ZSt h0 z TI TO i1 i2 l1 l2 S xs ys) (fun l h => (∀ b o, h0.get? b = some o → h.get? b = some o) ∧ Gave h S xs ys l) where
  type := fun l s ⟨_, _, _, _, _, hz⟩ => by
    rcases hz with ⟨hz, _⟩ | ⟨_, T, f, oT, hz, _⟩ <;> exact ⟨_, hz, rfl⟩
  frame := fun l h h' st k => by
    obtain ⟨a1, a2, a3, a4, a5, hz⟩ := st
    have nS : ∀ {b}, b = z ∨ b = TI ∨ b = TO ∨ b = i1 ∨ b = i2 → b ≠ S := fun hb => Nat.ne_of_lt (hS _ hb).1
    refine ⟨fun b o e => ?_, k _ _ (nS (.inr (.inl rfl))) a2, a3.at fun o e => k _ o (nS (by simp)) e, a4.at fun o e => k _ o (nS (by simp)) e, a5.mono fun b o hb e => k b o (Nat.ne_of_gt hb) e, ?_⟩
    · exact k b o (fun z => by rw [z, hS0] at e; cases e) (a1 b o e)
    · rcases hz with ⟨hz, a, b, hb⟩ | ⟨hn, T, f, oT, hz, hT, hg⟩
      · exact .inl ⟨k _ _ (nS (by simp)) hz, a, b, k _ _ (nS (by simp)) hb⟩
      · exact .inr ⟨hn, T, f, oT, k _ _ (nS (by simp)) hz, k _ _ (Nat.ne_of_gt hg) hT, hg⟩
  self := fun s Q E st h => by
    obtain ⟨_, _, _, _, _, hz⟩ := st
    rcases hz with ⟨hz, _⟩ | ⟨hn, _⟩
    · exact wpAny_pyIter_zip hz h
    · exact absurd rfl hn
  item := fun l s Q E hl st hlt hQ => by
    obtain ⟨a1, a2, a3, a4, a5, hz⟩ := st
    have hx : xs[l.length]? = some (xs[l.length]'(by omega)) := Array.getElem?_eq_getElem _
    have hy : ys[l.length]? = some (ys[l.length]'(by omega)) := Array.getElem?_eq_getElem _
    have q1 : s.heap.IsTuple l1 xs := t1.at fun o e => a1 _ o e
    have q2 : s.heap.IsTuple l2 ys := t2.at fun o e => a1 _ o e
    have nb : ∀ {b o c}, h0.get? b = some o → c = z ∨ c = TI ∨ c = TO ∨ c = i1 ∨ c = i2 → b ≠ c := fun e hc z => by rw [z, (hS _ hc).2] at e; cases e
    have ng : ∀ {b c}, S < b → c = z ∨ c = TI ∨ c = TO ∨ c = i1 ∨ c = i2 → b ≠ c := fun g hc => Nat.ne_of_gt (Nat.lt_trans (hS _ hc).1 g)
    have nS : ∀ {c}, c = z ∨ c = TI ∨ c = TO ∨ c = i1 ∨ c = i2 → S ≠ c := fun hc => Nat.ne_of_gt (hS _ hc).1
    rcases hz with ⟨hz, a, b, hb⟩ | ⟨hn, T, f, oT, hz, hT, hg⟩
    · refine pyNext_zipT_item D hz a2 hb a3 a4 q1 q2 hx hy fun h' c1 c2 c3 c4 c5 c6 kp => ?_
      refine hQ _ h' s.toks ⟨fun b o e => kp b o (nb e (by simp)) (nb e (by simp)) (nb e (by simp)) (nb e (by simp)) (a1 b o e), kp _ _ D.TIz D.TITO D.TIi1 D.TIi2 a2, by simpa using c3, by simpa using c4,
        a5.snoc (fun b o hb e => kp b o (ng hb (by simp)) (ng hb (by simp)) (ng hb (by simp)) (ng hb (by simp)) e) hx hy c5 hlt, .inr ⟨by simp, _, false, _, c1, c5, hlt⟩⟩ fun o e => kp S o (nS (by simp)) (nS (by simp)) (nS (by simp)) (nS (by simp)) e
    · refine nextHeld D hz hT a2 a3 a4 q1 q2 hx hy fun h' c1 c3 c4 c5 kp c6 => ?_
      refine hQ _ h' s.toks ⟨fun b o e => kp b o (nb e (by simp)) (nb e (by simp)) (nb e (by simp)) (a1 b o e), kp _ _ D.TIz D.TIi1 D.TIi2 a2, by simpa using c3, by simpa using c4,
        a5.snoc (fun b o hb e => kp b o (ng hb (by simp)) (ng hb (by simp)) (ng hb (by simp)) e) hx hy c5 hlt, .inr ⟨by simp, T, true, oT, c1, kp _ _ (ng hg (by simp)) (ng hg (by simp)) (ng hg (by simp)) hT, hg⟩⟩ fun o e => kp S o (nS (by simp)) (nS (by simp)) (nS (by simp)) e
  done := fun l s Q E hl st hQ => by
    obtain ⟨a1, a2, a3, a4, a5, hz⟩ := st
    have q1 : s.heap.IsTuple l1 xs := t1.at fun o e => a1 _ o e
    have q2 : s.heap.IsTuple l2 ys := t2.at fun o e => a1 _ o e
    have he : xs[l.length]? = none ∨ ys[l.length]? = none := by
      rcases Nat.le_total xs.size ys.size with z | z
      · exact .inl (Array.getElem?_eq_none (by omega))
      · exact .inr (Array.getElem?_eq_none (by omega))
    have nb : ∀ {b o c}, h0.get? b = some o → c = z ∨ c = TI ∨ c = TO ∨ c = i1 ∨ c = i2 → b ≠ c := fun e hc z => by rw [z, (hS _ hc).2] at e; cases e
    have ng : ∀ {b c}, S < b → c = z ∨ c = TI ∨ c = TO ∨ c = i1 ∨ c = i2 → b ≠ c := fun g hc => Nat.ne_of_gt (Nat.lt_trans (hS _ hc).1 g)
    have nS : ∀ {c}, c = z ∨ c = TI ∨ c = TO ∨ c = i1 ∨ c = i2 → S ≠ c := fun hc => Nat.ne_of_gt (hS _ hc).1
    rcases hz with ⟨hz, a, b, hb⟩ | ⟨hn, T, f, oT, hz, hT, hg⟩
    · exact pyNext_zipT_end hh D hz a2 hb a3 a4 q1 q2 he fun h' kp => hQ h' s.toks ⟨fun b o e => kp b o (nb e (by simp)) (nb e (by simp)) (nb e (by simp)) (nb e (by simp)) (a1 b o e), a5.mono fun b o hb e => kp b o (ng hb (by simp)) (ng hb (by simp)) (ng hb (by simp)) (ng hb (by simp)) e⟩
        fun o e => kp S o (nS (by simp)) (nS (by simp)) (nS (by simp)) (nS (by simp)) e
    · exact nextHeldEnd hh D hz hT a2 a3 a4 q1 q2 he fun h' kp => hQ h' s.toks ⟨fun b o e => kp b o (nb e (by simp)) (nb e (by simp)) (nb e (by simp)) (a1 b o e), a5.mono fun b o hb e => kp b o (ng hb (by simp)) (ng hb (by simp)) (ng hb (by simp)) e⟩
        fun o e => kp S o (nS (by simp)) (nS (by simp)) (nS (by simp)) e
end ZL
namespace DL
open PySem PySem.Spec PyProof.Rows L2
variable [Tb]
/-- tuples of two put at new places -/
def putZ (H : Hp) : List Addr → List (V × V) → Hp
  | a :: as, p :: ps => upd (putZ H as ps) a (.tup [p.1, p.2])
  | _, _ => H
theorem putZ_off {H : Hp} {b : Addr} : ∀ {as : List Addr} {ps : List (V × V)}, b ∉ as → putZ H as ps b = H b
  | [], _, _ => by simp [putZ]
  | a :: as, [], _ => rfl
  | a :: as, p :: ps, h => by
    rw [putZ, upd_ne (fun z => h (by rw [z]; exact List.mem_cons_self)), putZ_off fun z => h (List.mem_cons_of_mem _ z)]
theorem putZ_at {H : Hp} : ∀ {as : List Addr} {ps : List (V × V)} {j : Nat} {a : Addr} {p : V × V}, as.Nodup → as[j]? = some a → ps[j]? = some p → putZ H as ps a = some (.tup [p.1, p.2])
  | [], _, _, _, _, _, h, _ => by simp at h
  | a :: as, [], _, _, _, _, _, h => by simp at h
  | a :: as, p :: ps, 0, _, _, _, h1, h2 => by cases h1; cases h2; rw [putZ, upd_same]
  | a :: as, p :: ps, j + 1, b, q, nd, h1, h2 => by
    have nd' := List.nodup_cons.mp nd
    have h1' : as[j]? = some b := by simpa using h1
    rw [putZ, upd_ne (fun z => nd'.1 (by rw [← z]; exact List.mem_of_getElem? h1')), putZ_at nd'.2 h1' (by simpa using h2)]
theorem valsBack : ∀ {xs : List V} {us : List Value} {i : Nat} {u : Value}, Vals xs us → us[i]? = some u → ∃ x, xs[i]? = some x ∧ RelV x u := fun {xs us i u} h e => by
  have hl := h.length
  have hi : i < xs.length := by rw [hl]; exact (List.getElem?_eq_some_iff.mp e).1
  obtain ⟨u', e', r⟩ := h.get (List.getElem?_eq_getElem hi)
  rw [e] at e'
  cases e'
  exact ⟨_, List.getElem?_eq_getElem hi, r⟩
theorem zip_laid {X : Cx} {pins : List (Addr × Obj)} {σ : L2.St} {H : Hp} {s : Shared} {h' : Heap} {tk c : Nat} {S : Addr} {xs ys : List V} {us ws : List Value} {l : List Value} (I : Inv X pins σ H s) (hSn : s.heap.objs.size ≤ S) (rx : Vals xs us) (ry : Vals ys ws) (hz : xs.length ≤ sizeLine)
    (hk : ∀ b o, s.heap.get? b = some o → h'.get? b = some o) (hS : h'.get? S = some { cls := .type "list", dict := none, data := .seq l.toArray c, slots := #[] }) (hl : l.length = min us.length ws.length) (g : ZL.Gave h' S us.toArray ws.toArray l) :
    ∃ (as : List Addr) (H' : Hp), Same H H' ∧ H S = none ∧ H' S = some (.lst (as.map V.ref)) ∧ as.length = min xs.length ys.length ∧ (∀ (j : Nat) (a : Addr), as[j]? = some a → ∃ x y, xs[j]? = some x ∧ ys[j]? = some y ∧ H' a = some (.tup [x, y])) ∧ Inv X pins σ H' { s with heap := h', toks := tk } := by
  obtain ⟨as, e, p, m, q⟩ := g
  have el : l.length = as.length := by rw [e, List.length_map]
  have lx := rx.length
  have ly := ry.length
  have nd : as.Nodup := p.imp fun h => Nat.ne_of_lt h
  have nS : H S = none := I.hok.fresh hSn
  have nA : ∀ a ∈ as, H a = none := fun a ha => I.hok.fresh (Nat.le_of_lt (Nat.lt_of_le_of_lt hSn (m a ha)))
  have Sn : S ∉ as := fun z => Nat.lt_irrefl _ (m _ z)
  let H1 : Hp := upd H S (.lst (as.map V.ref))
  let H2 : Hp := putZ H1 as (xs.zip ys)
  have eS : H2 S = some (.lst (as.map V.ref)) := by show putZ H1 as (xs.zip ys) S = _; rw [putZ_off Sn]; exact upd_same
  have off : ∀ b, b ∉ as → b ≠ S → H2 b = H b := fun b h1 h2 => by show putZ H1 as (xs.zip ys) b = _; rw [putZ_off h1]; exact upd_ne h2
  have at2 : ∀ (j : Nat) (a : Addr), as[j]? = some a → ∃ x y u w, xs[j]? = some x ∧ ys[j]? = some y ∧ us[j]? = some u ∧ ws[j]? = some w ∧ RelV x u ∧ RelV y w ∧ H2 a = some (.tup [x, y]) ∧ IsPair h' a u w := fun j a ha => by
    obtain ⟨u, w, eu, ew, hp⟩ := q j a ha
    have eu' : us[j]? = some u := by simpa using eu
    have ew' : ws[j]? = some w := by simpa using ew
    obtain ⟨x, ex, rxu⟩ := valsBack rx eu'
    obtain ⟨y, ey, ryw⟩ := valsBack ry ew'
    refine ⟨x, y, u, w, ex, ey, eu', ew', rxu, ryw, ?_, hp⟩
    exact putZ_at (p := (x, y)) nd ha (by rw [List.getElem?_zip_eq_some]; exact ⟨ex, ey⟩)
  have kp : ∀ b u, H b = some u → H2 b = some u := fun b u e => by
    rw [off b (fun z => by rw [nA b z] at e; cases e) (fun z => by rw [z, nS] at e; cases e)]
    exact e
  refine ⟨as, H2, kp, nS, eS, by omega, fun j a ha => ?_, ?_⟩
  · obtain ⟨x, y, _, _, h1, h2, _, _, _, _, h3, _⟩ := at2 j a ha
    exact ⟨x, y, h1, h2, h3⟩
  refine I.call' (ch := []) rfl ⟨fun b o q _ _ _ => hk b o q, fun b o q _ _ _ => ⟨o.slots, hk b o q⟩, fun b o q n _ => ?_, fun b o q _ => ⟨o, hk b o q⟩, fun b xs q => kp b _ q, fun b o u q => kp b _ q, fun b ps q => ⟨#[], by rw [kp b _ q]; simp⟩⟩ (fun b u q => ?_) I.bare fun b z => by simp at z
  · have hb := Heap.lt_size q
    rw [off b (fun z => absurd hb (Nat.not_lt.mpr (Nat.le_of_lt (Nat.lt_of_le_of_lt hSn (m b z))))) (fun z => absurd hb (Nat.not_lt.mpr (by rw [z]; exact hSn)))]
    exact n
  · by_cases hb : b ∈ as
    · obtain ⟨j, hj⟩ := List.getElem?_of_mem hb
      obtain ⟨x, y, u1, w1, _, _, _, _, r1, r2, h3, hp⟩ := at2 j b hj
      rw [h3] at q
      cases q
      exact ⟨by show 2 ≤ sizeLine; decide, [u1, w1], .cons r1 (.cons r2 .nil), ⟨_, hp, rfl, _, rfl⟩⟩
    · by_cases hb2 : b = S
      · subst hb2
        rw [eS] at q
        cases q
        refine ⟨by rw [List.length_map]; omega, l, c, by rw [e]; exact vals_refs as, hS⟩
      · rw [off b hb hb2] at q
        exact (I.hok b u q).stay (fun d v _ y => hk d v y) (fun d y => kp d _ y) fun d xs y => kp d _ y
/-- list(zip(a, b)) -/
def rListZip (K : PySem.W.Frag) : R2 := fun x y H Q => ∃ (a b : Addr) (xs ys : List V), x = .ref a ∧ y = .ref b ∧ SqT K H a xs ∧ SqT K H b ys ∧ ∀ (p : Addr) (as : List Addr) (H' : Hp), Same H H' → H p = none → H' p = some (.lst (as.map V.ref)) → as.length = min xs.length ys.length →
  (∀ (j : Nat) (t : Addr), as[j]? = some t → ∃ x y, xs[j]? = some x ∧ ys[j]? = some y ∧ H' t = some (.tup [x, y])) → Q (.ref p) H'
theorem pe_listZip {X : Cx} {e e2 : Expr} {ta tb : TE} {p p2 pos pos2 : Pos} (hc : X.calm = true) (hg : Gl X "list") (hm : X.mg "list" = none) (hg2 : Gl X "zip") (hm2 : X.mg "zip" = none) (ha : PE X e ta) (hb : PE X e2 tb)
    (hs1 : starEach [e, e2] X.env = (false, eval e X.env) :: starEach [e2] X.env := by rfl) (hs2 : starEach [e2] X.env = (false, eval e2 X.env) :: starEach [] X.env := by rfl) (hpl : (backTo pos2 (starEach [e2] X.env)).any (·.1) = false := by rfl)
    (hs : starEach [.Call (.Name "zip" p2) [e, e2] [] pos2] X.env = (false, eval (.Call (.Name "zip" p2) [e, e2] [] pos2) X.env) :: starEach [] X.env := by rfl) :
    PE X (.Call (.Name "list" p) [.Call (.Name "zip" p2) [e, e2] [] pos2] [] pos) (tOp (rListZip X.K) ta tb) := by
  refine ⟨fun pins s σ H Q I h => ?_⟩
  refine Call_ (ld_blt I hg hm boot_list (PyProof.Rows.callWith_type1 (args_cons (Call_ (ld_blt I hg2 hm2 PyProof.Rows.boot_zip (PyProof.Rows.callWith_type1 (thn ((pa_cons ha (pa_cons hb pa_nil hs2) hs1).run pos2 pins s σ H (fun vs H2 => match vs with | [x, y] => rListZip X.K x y H2 Q | _ => False) I ?_) fun us s1 ⟨vs, H1, I1, r1, q1⟩ => ?_) hs1 hpl))) hs) hs rfl))
  · exact h
  · match vs, r1, q1 with
    | [x, y], r1, q1 => ?_
    obtain ⟨a, b, xs, ys, rfl, rfl, qx, qy, q⟩ := q1
    cases r1 with
    | cons r rr =>
      cases rr with
      | cons r' rr =>
        cases rr
        cases r
        cases r'
        obtain ⟨its, rv, p1, z1⟩ := I1.tuple qx
        obtain ⟨its2, rv2, p2', z2⟩ := I1.tuple qy
        obtain ⟨o1, ho1, _⟩ := id p1
        obtain ⟨o2, ho2, _⟩ := id p2'
        have t1 : s1.heap.IsTuple a its.toArray := p1
        have t2 : s1.heap.IsTuple b its2.toArray := p2'
        refine RZ.call_zipT t1 t2 fun h' hz hTI hTO h1 h2 hsz hk => args_nil ?_
        have hS5 : ∀ c, c = s1.heap.objs.size + 4 ∨ c = s1.heap.objs.size + 2 ∨ c = s1.heap.objs.size + 3 ∨ c = s1.heap.objs.size ∨ c = s1.heap.objs.size + 1 → c < h'.objs.size ∧ s1.heap.get? c = none := fun c hc => by
          have hle : s1.heap.objs.size ≤ c ∧ c < s1.heap.objs.size + 5 := by omega
          exact ⟨by rw [hsz]; exact hle.2, Heap.get?_none_of_le hle.1⟩
        have hmin : min its.toArray.size its2.toArray.size ≤ sizeLine := by
          have := rv.length
          simp only [List.size_toArray]
          omega
        refine ZL.coll_call (s := { s1 with heap := h' }) (ZL.coll_zip (h0 := s1.heap) (I1.ok.hd hc) (PySem.W.ktu_apart s1.heap.objs.size a b (Heap.lt_size ho1) (Heap.lt_size ho2)) hS5 (Heap.get?_none_of_le (by rw [hsz]; exact Nat.le_add_right _ _)) t1 t2) hmin
          ⟨hk, hTI, h1, h2, ⟨[], rfl, .nil, nofun, fun j a ha => by simp at ha⟩, .inl ⟨hz, _, _, hTO⟩⟩ (hS5 _ (.inl rfl)).1 fun h2 tk l c el fn hS => ?_
        obtain ⟨as, H', sm, n1, e2, e3, e4, I2⟩ := zip_laid (tk := tk) I1 (by show s1.heap.objs.size ≤ h'.objs.size; rw [hsz]; exact Nat.le_add_right _ _) rv rv2 z1 fn.1 hS (by simpa using el) fn.2
        exact ⟨.ref h'.objs.size, _, I2, rfl, q _ as H' sm n1 e2 e3 e4⟩
def zipS (x y : Sv) : Option Sv := match x, y with
  | .val (.tup ds), .val (.tup es) => some (.lst (List.zipWith (fun a b => .tup [a, b]) ds es))
  | _, _ => none
theorem RA.ofGet {K : PySem.W.Frag} {H : Hp} : ∀ {vs : List V} {ds : List Py}, vs.length = ds.length → (∀ (j : Nat) (v : V) (d : Py), vs[j]? = some v → ds[j]? = some d → R K H v d) → RA K H vs ds
  | [], [], _, _ => .nil
  | v :: vs, d :: ds, h, k => .cons (k 0 v d rfl rfl) (RA.ofGet (by simpa using h) fun j v d h1 h2 => k (j + 1) v d (by simpa using h1) (by simpa using h2))
  | [], _ :: _, h, _ => by simp at h
  | _ :: _, [], h, _ => by simp at h
section
variable {X : Cx} {a b : Expr} {ma mb : DS → ER Ar} {p p2 pos pos2 : Pos}
theorem do_listZip (hc : X.calm = true) (T : Bt X.mg) (hg : Gl X "list") (hg2 : Gl X "zip") (ha : DX X a ma) (hb : DX X b mb)
    (hs1 : starEach [a, b] X.env = (false, eval a X.env) :: starEach [b] X.env := by rfl) (hs2 : starEach [b] X.env = (false, eval b X.env) :: starEach [] X.env := by rfl) (hpl : (backTo pos2 (starEach [b] X.env)).any (·.1) = false := by rfl)
    (hs : starEach [.Call (.Name "zip" p2) [a, b] [] pos2] X.env = (false, eval (.Call (.Name "zip" p2) [a, b] [] pos2) X.env) :: starEach [] X.env := by rfl) :
    DO X (.Call (.Name "list" p) [.Call (.Name "zip" p2) [a, b] [] pos2] [] pos) (e2 ma mb zipS) :=
  do2 (r := rListZip X.K) ha hb (fun h k => pe_listZip hc hg T.list hg2 T.zip h k hs1 hs2 hpl hs) fun v w v2 w2 fp fp2 H d Q r1 r2 hf q => by
    unfold zipS at hf
    split at hf
    · rename_i ds es
      cases hf
      have rd1 := r1.data rfl
      have rd2 := r2.data rfl
      cases rd1 with
      | @tup a1 xs _ h1 ra1 =>
        cases rd2 with
        | @tup a2 ys _ h2 ra2 =>
          refine ⟨a1, a2, xs, ys, rfl, rfl, SqT.of h1, SqT.of h2, fun p as H' sm n1 e3 el at2 => ?_⟩
          refine q _ _ [p] sm (.lst e3 (RA.ofGet (by rw [List.length_map, List.length_zipWith, el, ra1.length, ra2.length]) fun j v d hv hd => ?_)) (by simp) (fun b hb => by rw [List.mem_singleton.mp hb]; exact n1)
          rw [List.getElem?_map] at hv
          cases hj : as[j]? with
          | none => rw [hj] at hv; cases hv
          | some t =>
            rw [hj] at hv
            cases hv
            obtain ⟨x, y, ex, ey, et⟩ := at2 j t hj
            obtain ⟨d1, ed1, q1⟩ := ra1.get' ex
            obtain ⟨d2, ed2, q2⟩ := ra2.get' ey
            rw [List.getElem?_zipWith, ed1, ed2] at hd
            cases hd
            exact .tup et (.cons (q1.mono (Same.gr sm)) (.cons (q2.mono (Same.gr sm)) .nil))
    · cases hf
end
end DL

/-! ## DL25 -/
namespace PySem
open Sem (wp)
open AutoSeq1 (wpAny_loadPart')
theorem en_newT (l : Addr) (items : Array Value) (n : Nat) (dct : Option Addr) (sl : Array (Option Value)) :
    Meets (Builtin.«enumerate.__new__» ⟨[.type "enumerate", .ref l], []⟩) (fun _ R s => s.heap.get? l = some { cls := .type "tuple", dict := dct, data := .seq items n, slots := sl } ∧
      R (.ok (.ret (.ref (s.heap.push { cls := .type "tuple_iterator", data := .fields #[.ref l, .int 0 0] }).objs.size)))
        { s with heap := (s.heap.push { cls := .type "tuple_iterator", data := .fields #[.ref l, .int 0 0] }).push { cls := .type "enumerate", data := .fields #[.none, .bool false, .ref s.heap.objs.size, rawInt 0, .none, .none] } }) :=
  .of_wp fun prog w A R s h => by
    obtain ⟨hp, g, d, tk, os⟩ := s; obtain ⟨hl, h⟩ := h
    have hsub := sub_enumerate
    have hL : Heap.IsTuple (Shared.heap ⟨hp, g, d, tk, os⟩) l items := ⟨_, hl, rfl, n, rfl⟩
    wp_walk using wpAny_loadPart' hl
    refine wpAny_stack_any fun st => wpAny_pure ?_
    split
    · rename_i c _ _ _ _ _
      cases (c == Value.type "enumerate")
      · wp_walk using wpAny_loadPart' hl, wpAny_pyIter_tuple hL
        exact ⟨_, rfl, h⟩
      · wp_walk using wpAny_loadPart' hl, wpAny_pyIter_tuple hL
        exact ⟨_, rfl, h⟩
    · wp_walk using wpAny_loadPart' hl, wpAny_pyIter_tuple hL
      exact ⟨_, rfl, h⟩
section
variable {prog : Program} {w : World} {A : Around} {E : Value → Shared → Prop} {s : Shared}
theorem call_en_tuple {l : Addr} {items : Array Value} {Q : Value → Shared → Prop} (hL : s.heap.IsTuple l items)
    (h : ∀ h', IsEnum h' (s.heap.objs.size + 1) s.heap.objs.size 0 .none → h'.IsTupleIter s.heap.objs.size l 0 → h'.objs.size = s.heap.objs.size + 2 →
      (∀ b o, s.heap.get? b = some o → h'.get? b = some o) → Q (.ref (s.heap.objs.size + 1)) { s with heap := h' }) :
    wpAny (model prog w) A (call (.type "enumerate") [.ref l]) Q E s := by
  obtain ⟨⟨c, dct, dt, sl⟩, hl, hc, n, hd⟩ := hL
  replace hc : c = .type "tuple" := hc
  replace hd : dt = .seq items n := hd
  subst hc hd
  refine callType_new F.called_enumerate (by decide) (F.typeCall_enumerate_1 _) (F.newCall_enumerate_1 _) (fun obj => F.args_object_init_2 obj _) F.entry_enumerate_new
    (en_newT l items n dct sl) ⟨hl, ?_⟩
  have hz : (s.heap.push { cls := .type "tuple_iterator", data := .fields #[.ref l, .int 0 0] }).objs.size = s.heap.objs.size + 1 := Heap.size_push ..
  show _ ∧ _
  rw [hz]
  have he : IsEnum ((s.heap.push { cls := .type "tuple_iterator", data := .fields #[.ref l, .int 0 0] }).push
      { cls := .type "enumerate", data := .fields #[.none, .bool false, .ref s.heap.objs.size, rawInt 0, .none, .none] }) (s.heap.objs.size + 1) s.heap.objs.size 0 .none := by
    have := Heap.get?_push_size (s.heap.push { cls := .type "tuple_iterator", data := .fields #[.ref l, .int 0 0] })
      (o := { cls := .type "enumerate", data := .fields #[.none, .bool false, .ref s.heap.objs.size, rawInt 0, .none, .none] }) rfl
    rw [hz] at this; exact this
  refine ⟨⟨_, he, rfl⟩, h _ he ⟨_, Heap.get?_push_of_some _ (Heap.get?_push_size _ rfl), rfl, rfl⟩ (by rw [Heap.size_push, hz]) fun b o x => Heap.get?_push_of_some _ (Heap.get?_push_of_some _ x)⟩
end
end PySem
namespace DL
open PySem PySem.Spec PyProof.Rows L2
variable [Tb]
/-! ### enumerate(a tuple) -/
def Iteu (K : PySem.W.Frag) (a : Addr) : It :=
  ⟨fun i H => ∃ (xs : List V) (x : V), SqT K H a xs ∧ xs[i]? = some x, fun i H v H' => ∃ T x, v = .ref T ∧ H T = none ∧ H' = upd H T (.tup [.int (i : Nat), x]) ∧ ∀ xs, SqT K H a xs → xs[i]? = some x, fun i H => ∃ xs : List V, SqT K H a xs ∧ xs.length ≤ i⟩
theorem turn_enu {P : Program} {w : World} {K : PySem.W.Frag} {elts : List Expr} {kk : Nat} {tpos : Pos} (a e it : Addr) (hae : a ≠ e) (hai : a ≠ it) :
    Turn P w K (.Tuple elts kk tpos) (Iteu K a) [e, it] e (fun i h => (∃ old, IsEnum h e it ((i : Nat) : Int) old) ∧ h.IsTupleIter it a i ∧ e ≠ it) where
  mem := by simp
  obj := fun i h st b hb => by
    obtain ⟨⟨old, he⟩, ⟨o, ho, hc, hd⟩, _⟩ := st
    rcases (show b = e ∨ b = it by simpa using hb) with z | z
    · rw [z]; exact ⟨_, he, fun v q => nomatch q⟩
    · rw [z]; exact ⟨o, ho, fun v q => by rw [hd] at q; cases q⟩
  keep := fun i h h' st k => let ⟨⟨old, he⟩, hi, hne⟩ := st; ⟨⟨old, k e (by simp) _ he⟩, hi.at fun o q => k it (by simp) o q, hne⟩
  item := by
    intro X hP hw hK hc i pins s σ H E I hf st hg
    subst hP hw hK
    obtain ⟨⟨old, he⟩, hit, hne⟩ := st
    obtain ⟨xs, x, hq, hx⟩ := hg
    obtain ⟨its, rv, p, hz⟩ := I.tuple hq
    obtain ⟨u, hu, ru⟩ := rv.get hx
    have hel : e < s.heap.objs.size := Heap.lt_size he
    have hil : it < s.heap.objs.size := by obtain ⟨_, q, _⟩ := hit; exact Heap.lt_size q
    have hlt : i < its.toArray.size := by simp only [List.size_toArray]; exact (List.getElem?_eq_some_iff.mp hu).1
    refine wpAny_pyNext_enum_itemC (Draws.tuple (prog := X.prog) (w := X.w) (A := X.A.in1) (I.ok.hd hc) it a hai its.toArray) he ⟨hit, p⟩ hlt hne (by simp [hne, Ne.symm hae]) fun x2 h1 tk hx2 ho hs1 hT hsz hk => ?_
    have ex : x2 = u := by
      have h3 : its.toArray[i]? = some x2 := hx2
      simp only [List.getElem?_toArray] at h3
      rw [hu] at h3
      exact (Option.some.inj h3).symm
    subst ex
    refine ⟨_, rfl, wpAny_letOwnedTupleGo_enum (s := { s with heap := h1, toks := tk + 1 }) ho fun h2 he2 sb => ?_⟩
    have hT2 : h2.get? s.heap.objs.size = some { cls := .type "tuple", data := .seq #[.int i tk, x2] } := (sb.2 _ (Nat.ne_of_gt hel)).trans hT
    have new : ObjOk X.prog X.w (upd H s.heap.objs.size (.tup [.int (i : Nat), x])) h2 s.heap.objs.size (.tup [.int (i : Nat), x]) :=
      ⟨by show 2 ≤ sizeLine; decide, [.int i tk, x2], .cons ⟨_, rfl⟩ (.cons ru .nil), ⟨_, hT2, rfl, _, rfl⟩⟩
    have I1 : Inv X pins σ (upd H s.heap.objs.size (.tup [.int (i : Nat), x])) { s with heap := h2, toks := tk + 1 } :=
      I.turnedNew (ch := [e, it]) (fun b ob hb q => (sb.2 b (fun z => hb (by simp [z]))).trans (hk b ob (fun z => hb (by simp [z])) (fun z => hb (by simp [z])) q)) hf (Nat.le_refl _) new
    refine ⟨.ref s.heap.objs.size, _, I1, rfl, ⟨_, x, rfl, I.hok.fresh (Nat.le_refl _), rfl, fun ys hy => by rw [I.tuple_inj hy hq]; exact hx⟩, ⟨⟨x2, ?_⟩, hs1.1.at fun o q => (sb.2 it (Ne.symm hne)).trans q, hne⟩, fun b hb => ?_⟩
    · have e1 : ((i + 1 : Nat) : Int) = (i : Int) + 1 := by omega
      rw [e1]; exact he2
    · have hb' : b < s.heap.objs.size := by
        rcases (show b = e ∨ b = it by simpa using hb) with z | z
        · rw [z]; exact hel
        · rw [z]; exact hil
      rw [upd_ne (Nat.ne_of_lt hb')]
      exact (hf b hb).1
  done := by
    intro X hP hw hK hc i pins s σ H E I hf st hg
    subst hP hw hK
    obtain ⟨⟨old, he⟩, hit, hne⟩ := st
    obtain ⟨xs, hq, hx⟩ := hg
    obtain ⟨its, rv, p, hz⟩ := I.tuple hq
    obtain ⟨f0, f1, f2, f3, f4, f5⟩ := hf it (by simp)
    have hl := rv.length
    have D : Draws X.prog X.w X.A.in1 it [it, a] i (fun _ _ => True) (fun j h => j = i ∧ h.IsTupleIter it a i ∧ h.IsTuple a its.toArray) := {
      live := fun _ _ st => let ⟨_, ⟨o, ho, _⟩, _⟩ := st; ⟨o, ho⟩
      frame := fun _ _ _ st k => ⟨st.1, st.2.1.at fun o q => k it (by simp) o q, st.2.2.at fun o q => k a (by simp) o q⟩
      item := fun j s Q E hj st _ => absurd st.1 (Nat.ne_of_lt hj)
      done := fun s Q E st hE => RZ.nextOf_tuple_end (I.ok.hd hc) st.2.1 st.2.2 (by simp; omega) fun h' e eb q => hE h' e eb q }
    exact wpAny_pyNext_enum_endD D he ⟨rfl, hit, p⟩ fun h' eb => ⟨rfl, I.turned (t' := s.toks) (fun b o hb q => eb b o hb q) f0 f1 f3 f4 f5⟩
  self := fun A i s Q E st h => let ⟨⟨_, he⟩, _⟩ := st; wpAny_pyIter_enum he h
def iEnumA (K : PySem.W.Frag) (ta : TA) : TI := fun σ H R => ta σ H fun vs H1 => ∃ a xs, vs = [.ref a] ∧ ((SqL K H1 a xs ∧ R (Ite K a) H1) ∨ (SqT K H1 a xs ∧ R (Iteu K a) H1))
theorem pi_enumA {X : Cx} {e : Expr} {ta : TA} {p pos tpos : Pos} {elts : List Expr} {kk : Nat} (hg : Gl X "enumerate") (hm : X.mg "enumerate" = none) (ha : PA X [e] ta) (hs : starEach [e] X.env = [(false, eval e X.env)] := by rfl) :
    PI X (.Tuple elts kk tpos) (.Call (.Name "enumerate" p) [e] [] pos) (iEnumA X.K ta) := by
  refine ⟨fun pins s σ H R I h => ?_⟩
  refine Call_ (ld_blt I hg hm boot_enumerate (PyProof.Rows.callWith_type1 (thn (ha.run pos pins s σ H _ I h) fun us s1 ⟨vs, H1, I1, r1, q1⟩ => ?_) hs rfl))
  obtain ⟨a, xs, ex, q1⟩ := q1
  subst ex
  cases r1 with
  | cons r rr =>
    cases rr
    cases r
    have fp2 : ∀ b, b ∈ [s1.heap.objs.size + 1, s1.heap.objs.size] → FpOk X pins H1 b := fun b hb => by
      have hle : s1.heap.objs.size ≤ b := by
        rcases (show b = s1.heap.objs.size + 1 ∨ b = s1.heap.objs.size by simpa using hb) with z | z
        · rw [z]; exact Nat.le_add_right _ _
        · rw [z]; exact Nat.le_refl _
      exact I1.fpOk hle (I1.hok.fresh hle)
    rcases q1 with ⟨hq, q⟩ | ⟨hq, q⟩
    · obtain ⟨its, rv, p', hz⟩ := I1.list hq
      refine call_enumerate_list p'.isList fun h' he hit hsz hk => wpAny_pyIter_enum he ?_
      exact ⟨s1.heap.objs.size + 1, _, _, _, H1, rfl, I1.kept (t' := s1.toks) hk, turn_enum a (s1.heap.objs.size + 1) s1.heap.objs.size, ⟨⟨.none, he⟩, hit, Nat.succ_ne_self _⟩, fp2, q⟩
    · obtain ⟨its, rv, p', hz⟩ := I1.tuple hq
      have pt : s1.heap.IsTuple a its.toArray := p'
      obtain ⟨o1, ho1, _⟩ := id p'
      have la := Heap.lt_size ho1
      refine call_en_tuple pt fun h' he hit hsz hk => wpAny_pyIter_enum he ?_
      exact ⟨s1.heap.objs.size + 1, _, _, _, H1, rfl, I1.kept (t' := s1.toks) hk, turn_enu a (s1.heap.objs.size + 1) s1.heap.objs.size (Nat.ne_of_lt (Nat.lt_succ_of_lt la)) (Nat.ne_of_lt la), ⟨⟨.none, he⟩, hit, Nat.succ_ne_self _⟩, fp2, q⟩
/-- what enumerate gives -/
def enumL : Nat → List Py → List Py
  | _, [] => []
  | i, d :: ds => .tup [.int (i : Nat), d] :: enumL (i + 1) ds
theorem enumL_length : ∀ {i : Nat} {ds : List Py}, (enumL i ds).length = ds.length
  | _, [] => rfl
  | i, d :: ds => by simp [enumL, enumL_length (i := i + 1) (ds := ds)]
theorem enumL_get : ∀ {i j : Nat} {ds : List Py} {d : Py}, ds[j]? = some d → (enumL i ds)[j]? = some (.tup [.int ((i + j : Nat) : Int), d])
  | i, 0, d :: ds, _, h => by cases h; rfl
  | i, j + 1, d :: ds, e, h => by
    have h' : ds[j]? = some e := by simpa using h
    rw [enumL, List.getElem?_cons_succ, enumL_get (i := i + 1) h']
    congr 4
    omega
  | _, _, [], _, h => by simp at h
theorem src_enu {K : PySem.W.Frag} {H : Hp} {a : Addr} {xs : List V} {ds : List Py} (hs : SqT K H a xs) (ra : RA K H xs ds) : Src K H (Iteu K a) (enumL 0 ds) :=
  ⟨fun i H2 g hi => by
    rw [enumL_length] at hi
    obtain ⟨v, hv, _⟩ := ra.get (List.getElem?_eq_getElem hi)
    exact ⟨xs, v, g.sqT hs, hv⟩, fun i H2 x H3 g hi y => by
    obtain ⟨T, z, rfl, hT, rfl, k⟩ := y
    obtain ⟨d, hd, rd⟩ := ra.get' (k xs (g.sqT hs))
    have sm : Same H2 (upd H2 T (.tup [.int (i : Nat), z])) := Same.new hT
    refine ⟨sm, _, enumL_get (i := 0) hd, .tup upd_same (.cons ?_ (.cons (rd.mono (g.trans (Same.gr sm))) .nil))⟩
    rw [Nat.zero_add]
    exact .int _, fun i H2 g hi => ⟨xs, g.sqT hs, by rw [ra.length, hi, enumL_length]; exact Nat.le_refl _⟩⟩
theorem src_enl {K : PySem.W.Frag} {H : Hp} {a : Addr} {xs : List V} {ds : List Py} (hs : SqF K H a xs) (ra : RA K H xs ds) : Src K H (Ite K a) (enumL 0 ds) :=
  ⟨fun i H2 g hi => by
    rw [enumL_length] at hi
    obtain ⟨v, hv, _⟩ := ra.get (List.getElem?_eq_getElem hi)
    exact ⟨xs, v, (g.sqF hs).l, hv⟩, fun i H2 x H3 g hi y => by
    obtain ⟨T, z, rfl, hT, rfl, k⟩ := y
    obtain ⟨d, hd, rd⟩ := ra.get' (k xs (g.sqF hs).l)
    have sm : Same H2 (upd H2 T (.tup [.int (i : Nat), z])) := Same.new hT
    refine ⟨sm, _, enumL_get (i := 0) hd, .tup upd_same (.cons ?_ (.cons (rd.mono (g.trans (Same.gr sm))) .nil))⟩
    rw [Nat.zero_add]
    exact .int _, fun i H2 g hi => ⟨xs, (g.sqF hs).l, by rw [ra.length, hi, enumL_length]; exact Nat.le_refl _⟩⟩
/-- the items of data -/
def itemsD : Py → Option (List Py)
  | .tup ds => some ds
  | .lst ds => some ds
  | _ => none
theorem di_enum {X : Cx} {e : Expr} {m : DS → ER Py} {p pos tpos : Pos} {elts : List Expr} {kk : Nat} (T : Bt X.mg) (hg : Gl X "enumerate") (h : DE X e m) (hs : starEach [e] X.env = [(false, eval e X.env)] := by rfl) (hs2 : starEach [e] X.env = (false, eval e X.env) :: starEach [] X.env := by rfl) :
    DI X (.Tuple elts kk tpos) (.Call (.Name "enumerate" p) [e] [] pos) (fun st => (m st).bind fun d st1 => optE ((itemsD d).map (enumL 0)) st1) := by
  refine ⟨fun Wx tk => pi_imp (pi_enumA hg T.enumerate (pa_cons (h.pe Wx tk) pa_nil hs2) hs) fun σ H Q ⟨Γ, st, r, q⟩ => ⟨Γ, st, r, ?_⟩⟩
  refine fin.imp (fin.bind q) fun d st1 q1 v H1 r1 g1 rd => ?_
  obtain ⟨es, ed, q2⟩ := fin_opt q1
  obtain ⟨ds, ew, e3⟩ := map_some ed
  subst e3
  cases rd <;> cases ew
  · rename_i a xs hs ra
    exact ⟨a, xs, rfl, .inr ⟨SqT.of hs, q2 _ H1 r1 g1 (src_enu (SqT.of hs) ra)⟩⟩
  · rename_i a xs hs ra
    exact ⟨a, xs, rfl, .inl ⟨hs.l, q2 _ H1 r1 g1 (src_enl hs ra)⟩⟩
end DL

/-! ## DL26 -/
namespace DL
open PySem PySem.Spec PyProof.Rows L2
variable [Tb]
/-! ### dicts compared -/
noncomputable def eqDD (kvs kws : List (Py × Py)) : Bool := kvs.length == kws.length && kvs.all fun p => match getP kws p.1 with
  | some e => PyData.eqv (toD p.2) (toD e)
  | none => false
def shapedD (kvs : List (Py × Py)) : Bool := kvs.all fun p => shap (toD p.2)
theorem RK.mem {K : PySem.W.Frag} {H : Hp} {kvs : List (Py × Py)} {k : Py} {d : Py} (h : getP kvs k = some d) (hs : shapedD kvs = true) : shap (toD d) = true := by
  unfold getP at h
  obtain ⟨p, h1, h2⟩ := map_some h
  subst h2
  exact List.all_eq_true.mp hs p (List.mem_of_find?_eq_some h1)
theorem hits_data {X : Cx} {pins : List (Addr × Obj)} {σ : L2.St} {H : Hp} {s : Shared} {A : Around} {ls : List (Key × V)} {vb : List (Key × Value)} {kws : List (Py × Py)} (I : Inv X pins σ H s) (rb : KV ls vb) (rw_ : RK X.K H ls kws) (hsw : shapedD kws = true) (hu : A.units + 128 < cLine) :
    ∀ {ks : List (Key × V)} {va : List (Key × Value)} {kvs : List (Py × Py)}, KV ks va → RK X.K H ks kvs → shapedD kvs = true → PySem.W.KeqHits A s vb va (kvs.all fun p => match getP kws p.1 with | some e => PyData.eqv (toD p.2) (toD e) | none => false) := by
  intro ks va kvs ra
  unfold KV at ra
  induction ra generalizing kvs with
  | nil => intro r _; cases r; exact .nil
  | @cons p q ks qs h t ih =>
    intro rk hs
    cases rk with
    | @cons k v d _ kvs r rs => ?_
    obtain ⟨h1, h2⟩ := h
    obtain ⟨qk, qv⟩ := q
    have h1 : k = qk := h1
    have h2 : RelV v qv := h2
    subst h1
    have hs' := (show (shap (toD d) && shapedD kvs) = true from hs)
    rw [Bool.and_eq_true] at hs'
    have ih := ih rs hs'.2
    rw [List.all_cons]
    rcases rw_.rd.get keyP_inj (k := k) with ⟨g1, g2⟩ | ⟨v2, d2, g1, g2, g3⟩
    · have e : valueAt vb k = none := by
        have := rb.val k
        rw [g1] at this
        cases hx : valueAt vb k with
        | none => rfl
        | some y => rw [hx] at this; exact this.elim
      simp only [g2, Bool.false_and]
      exact .miss e
    · have rr : RelO (some v2) (valueAt vb k) := by rw [← g1]; exact rb.val k
      obtain ⟨y, hy, ry⟩ := rr.some_of
      have sd2 := RK.mem (K := X.K) (H := H) g2 hsw
      obtain ⟨as, r1⟩ := Dp.reads I _ v qv (r.dp (canLay_of_shap hs'.1)) h2
      obtain ⟨bs, r2⟩ := Dp.reads I _ v2 y (g3.dp (canLay_of_shap sd2)) ry
      simp only [g2]
      exact .hit hy (SeqAt.eqAt_reads _ _ A s _ _ _ _ r1 r2 (canLay_of_shap hs'.1) (canLay_of_shap sd2) (room_of_shap hs'.1 hu)) ih
def rDDq (K : PySem.W.Frag) (g : Bool → V) : R2 := fun x y H Q => ∃ a b ks ls kvs kws, x = .ref a ∧ y = .ref b ∧ Rd H a (.dK ks) ∧ Rd H b (.dK ls) ∧ RK K H ks kvs ∧ RK K H ls kws ∧ shapedD kvs = true ∧ shapedD kws = true ∧ Q (g (eqDD kvs kws)) H
section
variable {X : Cx}
theorem op_eqDD (hu : X.A.units + 129 < cLine) : OpR X (compareOp .Eq) (rDDq X.K fun b => .bl b) := by
  intro pins s σ H x y v u Q I rx ry h
  obtain ⟨a, b, ks, ls, kvs, kws, rfl, rfl, ea, eb, r1, r2, s1, s2, q⟩ := h
  obtain rfl : v = Value.ref a := rx
  obtain rfl : u = Value.ref b := ry
  obtain ⟨_, ya, va, ra, da⟩ := dk_rd I.hok ea
  obtain ⟨_, yb, vb, rb, db⟩ := dk_rd I.hok eb
  have l1 : va.length = kvs.length := by rw [← ra.length]; exact r1.rd.length
  have l2 : vb.length = kws.length := by rw [← rb.length]; exact r2.rd.length
  refine PySem.W.keq_eq (knd := mixKind X.prog X.w) ya yb da db (by omega) (fun _ => hits_data (A := X.A.in1) I rb r2 s2 (by show X.A.units + 1 + 128 < cLine; omega) ra r1 s1) (fin_bl I q ?_)
  rw [l1, l2]
  rfl
theorem op_neDD (hu : X.A.units + 129 < cLine) : OpR X (compareOp .NotEq) (rDDq X.K fun b => .bl (!b)) := by
  intro pins s σ H x y v u Q I rx ry h
  obtain ⟨a, b, ks, ls, kvs, kws, rfl, rfl, ea, eb, r1, r2, s1, s2, q⟩ := h
  obtain rfl : v = Value.ref a := rx
  obtain rfl : u = Value.ref b := ry
  obtain ⟨_, ya, va, ra, da⟩ := dk_rd I.hok ea
  obtain ⟨_, yb, vb, rb, db⟩ := dk_rd I.hok eb
  have l1 : va.length = kvs.length := by rw [← ra.length]; exact r1.rd.length
  have l2 : vb.length = kws.length := by rw [← rb.length]; exact r2.rd.length
  refine PySem.W.keq_ne (knd := mixKind X.prog X.w) ya yb da db (by omega) (fun _ => hits_data (A := X.A.in1) I rb r2 s2 (by show X.A.units + 1 + 128 < cLine; omega) ra r1 s1) (fin_bl I q ?_)
  rw [l1, l2]
  rfl
def dicS : Sv → Option (List (Py × Py))
  | .dic kvs => some kvs
  | .val (.dic kvs) => some kvs
  | _ => none
theorem RS.dic {K : PySem.W.Frag} {H : Hp} {v : V} {w : Sv} {fp : List Addr} {kvs : List (Py × Py)} (h : RS K H v w fp) (e : dicS w = some kvs) : ∃ a ks, v = .ref a ∧ Rd H a (.dK ks) ∧ RK K H ks kvs := by
  cases h with
  | val r =>
    cases r with
    | dicK h hk => cases e; exact ⟨_, _, rfl, .inr ⟨_, h⟩, hk⟩
    | _ => cases e
  | dK h hk => cases e; exact ⟨_, _, rfl, .inl h, hk⟩
  | _ => cases e
noncomputable def eqDS (x y : Sv) : Option Bool := (dicS x).bind fun kvs => (dicS y).bind fun kws => if shapedD kvs = true ∧ shapedD kws = true then some (eqDD kvs kws) else none
theorem eqDS_some {x y : Sv} {b : Bool} (h : eqDS x y = some b) : ∃ kvs kws, dicS x = some kvs ∧ dicS y = some kws ∧ shapedD kvs = true ∧ shapedD kws = true ∧ b = eqDD kvs kws := by
  obtain ⟨kvs, h1, h2⟩ := Option.bind_eq_some_iff.mp h
  obtain ⟨kws, h3, h4⟩ := Option.bind_eq_some_iff.mp h2
  split at h4
  · rename_i hc
    cases h4
    exact ⟨kvs, kws, h1, h3, hc.1, hc.2, rfl⟩
  · cases h4
theorem eqD_rule {v v2 : V} {w w2 : Sv} {fp fp2 : List Addr} {H : Hp} {k : Bool} {g : Bool → V} {Q : VK} (r1 : RS X.K H v w fp) (r2 : RS X.K H v2 w2 fp2) (h : eqDS w w2 = some k) (q : Q (g k) H) : rDDq X.K g v v2 H Q := by
  obtain ⟨kvs, kws, h1, h2, s1, s2, rfl⟩ := eqDS_some h
  obtain ⟨a, ks, rfl, d1, k1⟩ := r1.dic h1
  obtain ⟨b, ls, rfl, d2, k2⟩ := r2.dic h2
  exact ⟨a, b, ks, ls, kvs, kws, rfl, rfl, d1, d2, k1, k2, s1, s2, q⟩
variable {a b : Expr} {ma mb : DS → ER Ar} {pos : Pos}
theorem de_deq (hu : X.A.units + 129 < cLine) (ha : DX X a ma) (hb : DX X b mb) : DE X (.Compare a [.Eq] [b] pos) (e2 ma mb fun x y => (eqDS x y).map .bl) :=
  de2 ha hb (fun h k => pe_cmpR (op_eqDD hu) h k (nomark _)) fun v w v2 w2 fp fp2 H d Q r1 r2 hf q => by
    cases e : eqDS w w2 with
    | none => rw [e] at hf; cases hf
    | some k => rw [e] at hf; cases hf; exact eqD_rule r1 r2 e (q _ _ (Same.refl H) (.bl _))
theorem de_dne (hu : X.A.units + 129 < cLine) (ha : DX X a ma) (hb : DX X b mb) : DE X (.Compare a [.NotEq] [b] pos) (e2 ma mb fun x y => (eqDS x y).map fun k => .bl (!k)) :=
  de2 ha hb (fun h k => pe_cmpR (op_neDD hu) h k (nomark _)) fun v w v2 w2 fp fp2 H d Q r1 r2 hf q => by
    cases e : eqDS w w2 with
    | none => rw [e] at hf; cases hf
    | some k => rw [e] at hf; cases hf; exact eqD_rule r1 r2 e (q _ _ (Same.refl H) (.bl _))
theorem dt_deq (hu : X.A.units + 129 < cLine) (ha : DX X a ma) (hb : DX X b mb) : DT X (.Compare a [.Eq] [b] pos) (eT (e2 ma mb fun x y => (eqDS x y).map .bl)) :=
  dt_cmpR (op_eqDD hu) (nomark _) ha hb fun v w v2 w2 fp fp2 H d Q r1 r2 hf q => by
    cases e : eqDS w w2 with
    | none => rw [e] at hf; cases hf
    | some k => rw [e] at hf; cases hf; exact eqD_rule r1 r2 e (q _ _ (Same.refl H) (.bl _))
theorem dt_dne (hu : X.A.units + 129 < cLine) (ha : DX X a ma) (hb : DX X b mb) : DT X (.Compare a [.NotEq] [b] pos) (eT (e2 ma mb fun x y => (eqDS x y).map fun k => .bl (!k))) :=
  dt_cmpR (op_neDD hu) (nomark _) ha hb fun v w v2 w2 fp fp2 H d Q r1 r2 hf q => by
    cases e : eqDS w w2 with
    | none => rw [e] at hf; cases hf
    | some k => rw [e] at hf; cases hf; exact eqD_rule r1 r2 e (q _ _ (Same.refl H) (.bl _))
end
end DL

/-! ## DL27 -/
namespace DL
open PySem PySem.Spec PyProof.Rows L2 LamX
variable [Tb]
section
variable {X : Cx} {a b : Expr} {ma mb : DS → ER Ar} {pos : Pos}
theorem dt_pc {op : CmpOp} {r : R2} {f : Sv → Sv → Option Py} (P : ∀ {ta tb : TE}, PE X a ta → PE X b tb → PC X op a b (tOp r ta tb)) (hm : behindInMarks op b = false) (hx : DX X a ma) (hy : DX X b mb)
    (hr : ∀ v w v2 w2 fp fp2 H d Q, RS X.K H v w fp → RS X.K H v2 w2 fp2 → f w w2 = some d → (∀ v' H', Same H H' → R X.K H' v' d → Q v' H') → r v v2 H Q) : DT X (.Compare a [op] [b] pos) (eT (e2 ma mb f)) := by
  refine ⟨fun Wx tk => pt_imp (pt_cmp (P (hx.pe Wx tk) (hy.pe Wx tk)) hm) fun σ H Q ⟨Γ, st, rl, q⟩ => ⟨Γ, st, rl, ?_⟩⟩
  refine fin.imp (fin.bind (fin.bind q)) fun a st1 q1 v H1 r1 g1 ar => ⟨Γ, st1, r1, ?_⟩
  refine fin.imp (fin.bind (fin.gr (H' := H1) g1 q1)) fun b st2 q2 v2 H2 r2 g2 ar2 => ?_
  obtain ⟨d, ed, q3⟩ := fin_opt q2
  obtain ⟨w, ew, ed⟩ := bindO_some ed
  obtain ⟨w2, ew2, fw⟩ := bindO_some ed
  obtain ⟨fp, rs⟩ := r2.look (ar.mono g2) ew
  obtain ⟨fp2, rs2⟩ := r2.look ar2 ew2
  refine hr v w v2 w2 fp fp2 H2 d _ rs rs2 fw fun v' H' s rd => ?_
  obtain ⟨k, ek, q4⟩ := fin_opt q3
  cases d <;> first | cases ek
  cases rd
  exact ⟨_, rfl, q4 H' (r2.ext s) (g1.trans (g2.trans (Same.gr s)))⟩
theorem dt_din (hu : X.A.units + 1 < cLine) (hm : behindInMarks .In b = false) (ha : DX X a ma) (hb : DX X b mb) : DT X (.Compare a [.In] [b] pos) (eT (e2 ma mb hasS)) :=
  dt_pc (r := fun y x H Q => ∃ a o, x = .ref a ∧ DGet H a y o ∧ Q (.bl o.isSome) H) (fun h k => pc_din hu h k) hm ha hb fun v w v2 w2 fp fp2 H d Q r1 r2 hf q => by
    obtain ⟨k', o, rfl, hg, rfl⟩ := has_some hf
    obtain ⟨a, ov, rfl, _, g, rg⟩ := r2.dget (r1.data rfl) hg
    exact ⟨a, ov, rfl, g, by rw [rg.isSome]; exact q _ _ (Same.refl H) (.bl _)⟩
theorem dt_dnotIn (hu : X.A.units + 1 < cLine) (hm : behindInMarks .NotIn b = false) (ha : DX X a ma) (hb : DX X b mb) : DT X (.Compare a [.NotIn] [b] pos) (eT (e2 ma mb hasNotS)) :=
  dt_pc (r := fun y x H Q => ∃ a o, x = .ref a ∧ DGet H a y o ∧ Q (.bl (!o.isSome)) H) (fun h k => pc_dnotin hu h k) hm ha hb fun v w v2 w2 fp fp2 H d Q r1 r2 hf q => by
    obtain ⟨k', o, rfl, hg, rfl⟩ := hasNot_some hf
    obtain ⟨a, ov, rfl, _, g, rg⟩ := r2.dget (r1.data rfl) hg
    exact ⟨a, ov, rfl, g, by rw [rg.isSome]; exact q _ _ (Same.refl H) (.bl _)⟩
end
/-! ### a def whose code object is known -/
structure FunC (K : PySem.W.Frag) (x qual : Str) (st : Stmt) (f : Addr) (fd : FuncData) (c : Addr) : Prop where
  ex : ∃ (oc : Value) (od : Option Addr) (kV doc pm : Value) (an : Option Addr) (ct : Value) (osl : Array (Option Value)),
    fd = PySem.W.fnOf x qual (defArgs st) (defBody st) (defScope st) .none kV doc pm an (.ref c) ct ∧ K.lookup f = some ⟨oc, od, .func fd, osl⟩ ∧ PySem.W.codeIn K (.ref c) qual = true
  kp : PySem.W.keepIn K (.ref f) = true
structure FNC (K : PySem.W.Frag) (mg : Str → Option Value) (x qual : Str) (st : Stmt) (ps : List Str) (c : Addr) : Prop where
  ex : ∃ f fd, mg x = some (.ref f) ∧ FunC K x qual st f fd c ∧ Binds K fd ps []
section
variable {P : Program} {w : World} {K : PySem.W.Frag} {mg : Str → Option Value} {base : Heap}
theorem dfn_ofC {x qual : Str} {st : Stmt} {N ps : List Str} {k n : Nat} {pn : List Nat} {mb : DS → SO} {c : Addr} (F : FNC K mg x qual st ps c) (S : FnScope N ps (defScope st)) (hn : ps.length = n) (hnN : n ≤ N.length)
    (body : ∀ (f : Addr) (A : Around) (outer : List Env) (s : Shared) (H : Hp) (E : XK), Room k (A.deeper (envOfC qual (defScope st) s.heap.objs.size f (.ref c))) → DSs (cxOf (L2.CX P w) P w K mg base N qual (defScope st) f (.ref c) A outer s H E) pn (defBody st) mb) :
    DFn P w K mg base (k + 1) x n (runF n N.length pn mb) := by
  obtain ⟨f, fd, hm, ⟨⟨oc, od, kV, doc, pm, an, ct, osl, rfl, lk, hcd⟩, kp⟩, hb⟩ := F.ex
  exact ⟨f, _, ps, hm, kp, hb, hn, fn_of lk hcd S (fun vs H Q E h => h.1.trans hn.symm) fun A outer s H vs Q E hr h => fn_body (body f A outer s H E hr) h⟩
theorem fnmC {h : Heap} (X : K.In h) (G : h.Ns mainGlobals mg) {x qual : Str} {st : Stmt} {f c : Addr} {oc : Value} {od an : Option Addr} {osl : Array (Option Value)} {kV doc pm ct : Value} {ps : List Str}
    (a : PySem.W.nsIn K mainGlobals x = some (some (.ref f))) (l : K.lookup f = some ⟨oc, od, .func (PySem.W.fnOf x qual (defArgs st) (defBody st) (defScope st) .none kV doc pm an (.ref c) ct), osl⟩) (cd : PySem.W.codeIn K (.ref c) qual = true) (k : PySem.W.keepIn K (.ref f) = true)
    (hb : ∀ (kV doc pm : Value) (an : Option Addr) (cdv ct : Value) (us : List Value), us.length = ps.length → bindArgs (PySem.W.fnOf x qual (defArgs st) (defBody st) (defScope st) .none kV doc pm an cdv ct) ⟨us, []⟩ = pure (ps.zip us)) : FNC K mg x qual st ps c :=
  ⟨f, _, PySem.W.mg_of X G a, ⟨⟨oc, od, kV, doc, pm, an, ct, osl, rfl, l, cd⟩, k⟩, (fun_mk l cd k).binds hb⟩
end
end DL

/-! ## DL28 -/
namespace DL
open PySem PySem.Spec PyProof.Rows L2 LamX
theorem tabIn_of {K : PySem.W.Frag} {x qual : Str} {st : Stmt} {f c P : Addr} {oc oc2 : Value} {od od2 an : Option Addr} {osl osl2 : Array (Option Value)} {kV doc pm ct : Value} {vs : Array Value}
    (a : PySem.W.nsIn K mainGlobals x = some (some (.ref f))) (l : K.lookup f = some ⟨oc, od, .func (PySem.W.fnOf x qual (defArgs st) (defBody st) (defScope st) .none kV doc pm an (.ref c) ct), osl⟩)
    (lc : K.lookup c = some ⟨oc2, od2, .fields vs, osl2⟩) (lp : vs[11]? = some (.ref P)) : PySem.W.tabIn K x = some (c, P) := by
  unfold PySem.W.tabIn
  rw [a]
  simp only [l, PySem.W.fnOf, lc, lp]
section
variable [Tb]
def dic0 : DS → ER Sv := fun st => .ok (.dic []) st
def dit0 : DS → ER Sv := fun st => .ok (.dit []) st
theorem oD0 {X : Cx} {pos : Pos} : DO X (.Dict [] [] pos) dic0 := do_dict0
theorem oD0T {X : Cx} {pos : Pos} : DO X (.Dict [] [] pos) dit0 := do_dict0T
def enI (m : DS → ER Py) : DS → ER (List Py) := fun st => (m st).bind fun d st1 => optE ((itemsD d).map (enumL 0)) st1
theorem iEn {X : Cx} {e : Expr} {m : DS → ER Py} {p pos tpos : Pos} {elts : List Expr} {kk : Nat} (T : Bt X.mg) (hg : Gl X "enumerate") (h : DE X e m) (hs : starEach [e] X.env = [(false, eval e X.env)] := by rfl) (hs2 : starEach [e] X.env = (false, eval e X.env) :: starEach [] X.env := by rfl) :
    DI X (.Tuple elts kk tpos) (.Call (.Name "enumerate" p) [e] [] pos) (enI m) := di_enum T hg h hs hs2
end
end DL

/-! ## DL29 -/
namespace DL
open PySem PySem.Spec PyProof.Rows L2 LamX
variable [Tb]
section
variable {X : Cx} {pn ts : List Nat} {kx vx tg iter : Expr} {ifs : List Expr} {scope : Scope} {own : List (Str × Nat)} {pos : Pos} {mi : DS → ER (List Py)} {f : Py → DS → Option DS} {mt : DS → ER Bool} {mk mv : DS → ER Py}
theorem sw_trueD {gs : List Comprehension} {pos py : Pos} {y : Str} {l : Nat} {env : Env} (hk : env.scope.kind = .function) (hy : env.scope.names.lookup y = some .local) (hl : (py.line == pos.line) = true)
    (ha : (scope.names.any fun (n, k) => n == y && (k == .local || k == .cell)) = false) : swapsWith (.DictComp kx vx gs scope pos) (some (.Name y py)) l env = pure true := by
  have k1 : env.kindOf y = some .local := hy
  have k2 : env.blockKind = .function := by unfold Env.blockKind; rw [hk]; rfl
  unfold swapsWith
  simp only [k1, k2, ha, Expr.pos, hl]
  rfl
theorem ps_setDcA {i : Nat} {y : Str} {py spos : Pos} {e0 : HO} {wi : TI} {g : TG} {tt : TT} {tk tv : TE} (he0 : e0 = .dK [] ∨ e0 = .dT []) (hu : X.A.units + 1 < cLine) (hc : X.calm = true) (hN : X.N.Nodup) (hy : X.N[i]? = some y) (hyl : X.env.scope.names.lookup y = some .local)
    (hsw : swapsWith (.DictComp kx vx [⟨tg, iter, ifs, 0⟩] scope pos) (some (.Name y py)) spos.line X.env = pure true) (hi : PI X tg iter wi) (ok : BlkOk X.N X.env.scope scope own)
    (hg : ∀ (s : Shared) (H : Hp) (C : Addr) (cl : List (Str × Addr)) (fq : List Addr), PG (X.blk s H scope (compEnvC scope cl C X.env) fq) tg g) (ht : ∀ (s : Shared) (H : Hp) (C : Addr) (cl : List (Str × Addr)) (fq : List Addr), PTs (X.blk s H scope (compEnvC scope cl C X.env) fq) ifs tt)
    (hk : ∀ (s : Shared) (H : Hp) (C : Addr) (cl : List (Str × Addr)) (fq : List Addr), PE (X.blk s H scope (compEnvC scope cl C X.env) fq) kx tk) (he : ∀ (s : Shared) (H : Hp) (C : Addr) (cl : List (Str × Addr)) (fq : List Addr), PE (X.blk s H scope (compEnvC scope cl C X.env) fq) vx tv)
    (hs : ∀ x, foldedSetIterable iter X.env x = pure x := by intro _; rfl) :
    PS X (.Assign [.Name y py] (.DictComp kx vx [⟨tg, iter, ifs, 0⟩] scope pos) spos) (tAsg (tDcA e0 wi g tt tk tv (own.map (·.2))) (gName i)) := by
  refine ⟨fun pins s σ H D I h => ?_⟩
  rw [exec_Assign_Name_used _ _ _ _ hsw]
  refine wpAny_bind (wpAny_standAt (wpAny_bind ?_))
  show wpAny _ X.A (do let _ ← comprehension (.DictComp kx vx [⟨tg, iter, ifs, 0⟩] scope pos) scope X.env (firstIterPos [⟨tg, iter, ifs, 0⟩] pos) newDict false (eval iter X.env) (some (assign (.Name y py) X.env))) _ _ s
  have h : tDcA e0 wi g tt tk tv (own.map (·.2)) σ H (fun x H1 => gName i x σ H1 D.nx) := h
  refine wpAny_bind (thn (dcA_core (Qf := fun _ s1 => SP X pins D .next s1) he0 hu hc hN I hi ok hg ht hk he hs h fun L C s1 m H1 I1 q hn f => ?_) fun _ s1 hq => wpAny_pure (wpAny_pure hq))
  show wpAny _ _ (assign (.Name y py) X.env (.ref L)) _ _ _
  refine wpAny_assign_Name (store_ok2 (v := V.ref L) I1 hN hy (.inl hyl) rfl (fun s2 I2 ⟨a, sb, ha⟩ => ?_) (.inr hyl))
  obtain ⟨f0, f1, f2, f3, f4, f5⟩ := f
  have hCa : C ≠ a := by
    rcases ha with z | z
    · rw [z]; exact f1
    · exact fun e => f4 y a z e.symm
  exact ⟨m, hn.sameBut sb hCa, fun h3 sb3 => ⟨_, H1, I2.turned (t' := s2.toks) (fun b o hb e => (sb3.2 b hb).trans e) f0 f1 f3 f4 f5, q⟩⟩
theorem ds_setDc {mkD : List (Py × Py) → Sv} {e0 : HO} {okk : Py → Bool} {Acc : Hp → Addr → List (Py × Py) → Prop} (da : DAcc X.K mkD e0 okk Acc) {pnn : List Nat} {i : Nat} {y : Str} {py spos : Pos} (hu : X.A.units + 1 < cLine) (hc : X.calm = true) (hN : X.N.Nodup) (hy : X.N[i]? = some y) (hyl : X.env.scope.names.lookup y = some .local)
    (hsw : swapsWith (.DictComp kx vx [⟨tg, iter, ifs, 0⟩] scope pos) (some (.Name y py)) spos.line X.env = pure true) (hi : DI X tg iter mi) (ok : BlkOk X.N X.env.scope scope own)
    (hg : ∀ (s : Shared) (H : Hp) (C : Addr) (cl : List (Str × Addr)) (fp : List Addr), DG (X.blk s H scope (compEnvC scope cl C X.env) fp) pn ts tg f) (ht : ∀ (s : Shared) (H : Hp) (C : Addr) (cl : List (Str × Addr)) (fp : List Addr), DTs (X.blk s H scope (compEnvC scope cl C X.env) fp) ifs mt)
    (hk : ∀ (s : Shared) (H : Hp) (C : Addr) (cl : List (Str × Addr)) (fp : List Addr), DE (X.blk s H scope (compEnvC scope cl C X.env) fp) kx mk) (he : ∀ (s : Shared) (H : Hp) (C : Addr) (cl : List (Str × Addr)) (fp : List Addr), DE (X.blk s H scope (compEnvC scope cl C X.env) fp) vx mv) (hp : i ∉ pnn) (hts : ∀ i ∈ ts, i ∈ own.map (·.2) := by decide) (hs : ∀ x, foldedSetIterable iter X.env x = pure x := by intro _; rfl) :
    DSt X pnn (.Assign [.Name y py] (.DictComp kx vx [⟨tg, iter, ifs, 0⟩] scope pos) spos) (stM i (dcM mkD okk mi f mt mk mv (own.map (·.2)))) := by
  refine ⟨fun Wx tk => ps_imp (ps_setDcA (g := tG X pn ts f) (tt := tT X W0 mt) (tk := tE X W0 mk) (tv := tE X W0 mv) da.em hu hc hN hy hyl hsw (hi.pi Wx tk) ok (fun s H C cl fp => (hg s H C cl fp).pg) (fun s H C cl fp => (ht s H C cl fp).pt W0 L2.takes0) (fun s H C cl fp => (hk s H C cl fp).pe W0 L2.takes0) (fun s H C cl fp => (he s H C cl fp).pe W0 L2.takes0) hs) fun D σ H ⟨Γ, st, np, r, q⟩ => ?_⟩
  refine dc_read (pn := pn) da hts r (fin.imp (finS.e q) fun w st1 q1 v H1 fw r1 g1 rs => ?_)
  unfold putO at q1
  split at q1
  · rename_i hl
    exact q1 _ H1 (r1.set hl rs (np i hp)) g1
  · exact q1.elim
end
end DL

/-! ## DL30 -/
namespace DL
open PySem PySem.Spec PyProof.Rows L2
variable [Tb]
/-! ### texts -/
section
variable {X : Cx} {a b e f o : Expr} {ma mb : DS → ER Ar} {pos p1 p2 : Pos}
theorem yGS {x v : Str} {t : Tok} {pos : Pos} (hg : Gl X x) (hm : X.mg x = some (.str v t)) (hd : (x == ("__debug__" : Str)) = false := by decide) : DE X (.Name x pos) (kS v) := de_globS hg hm hd
def textS : Sv → Option Str
  | .val (.str z) => some z
  | _ => none
theorem RS.text {K : PySem.W.Frag} {H : Hp} {v : V} {w : Sv} {fp : List Addr} {z : Str} (h : RS K H v w fp) (e : textS w = some z) : v = .str z := by
  cases h with
  | val r => cases r <;> cases e; rfl
  | _ => cases e
/-- one sign in a text -/
def signS (x y : Sv) : Option Bool := (textS x).bind fun a => (textS y).bind fun z => match a.cps.toList with
  | [c] => some (decide (c ∈ z.cps.toList))
  | _ => none
theorem sign_some {x y : Sv} {k : Bool} (h : signS x y = some k) : ∃ (c : Nat) (z : Str), textS x = some ⟨#[c]⟩ ∧ textS y = some z ∧ k = decide (c ∈ z.cps.toList) := by
  obtain ⟨a, h1, h2⟩ := Option.bind_eq_some_iff.mp h
  obtain ⟨z, h3, h4⟩ := Option.bind_eq_some_iff.mp h2
  split at h4
  · rename_i c e
    cases h4
    refine ⟨c, z, ?_, h3, rfl⟩
    rw [h1]
    congr 1
    obtain ⟨cps⟩ := a
    congr 1
    exact Array.toList_inj.mp e
  · cases h4
theorem de_sign (ha : DX X a ma) (hb : DX X b mb) (hm : behindInMarks .In b = false) : DE X (.Compare a [.In] [b] pos) (e2 ma mb fun x y => (signS x y).map .bl) :=
  de2 ha hb (fun h k => pe_cmpR op_in_sign h k hm) fun v w v2 w2 fp fp2 H d Q r1 r2 hf q => by
    obtain ⟨k, e, rfl⟩ := map_some hf
    obtain ⟨c, z, e1, e2, rfl⟩ := sign_some e
    exact ⟨c, z, r1.text e1, r2.text e2, q _ _ (Same.refl H) (.bl _)⟩
theorem de_notSign (ha : DX X a ma) (hb : DX X b mb) (hm : behindInMarks .NotIn b = false) : DE X (.Compare a [.NotIn] [b] pos) (e2 ma mb fun x y => (signS x y).map fun k => .bl (!k)) :=
  de2 ha hb (fun h k => pe_cmpR op_notIn_sign h k hm) fun v w v2 w2 fp fp2 H d Q r1 r2 hf q => by
    obtain ⟨k, e, rfl⟩ := map_some hf
    obtain ⟨c, z, e1, e2, rfl⟩ := sign_some e
    exact ⟨c, z, r1.text e1, r2.text e2, q _ _ (Same.refl H) (.bl _)⟩
theorem dt_sign (ha : DX X a ma) (hb : DX X b mb) (hm : behindInMarks .In b = false) : DT X (.Compare a [.In] [b] pos) (eT (e2 ma mb fun x y => (signS x y).map .bl)) :=
  dt_cmpR op_in_sign hm ha hb fun v w v2 w2 fp fp2 H d Q r1 r2 hf q => by
    obtain ⟨k, e, rfl⟩ := map_some hf
    obtain ⟨c, z, e1, e2, rfl⟩ := sign_some e
    exact ⟨c, z, r1.text e1, r2.text e2, q _ _ (Same.refl H) (.bl _)⟩
theorem dt_notSign (ha : DX X a ma) (hb : DX X b mb) (hm : behindInMarks .NotIn b = false) : DT X (.Compare a [.NotIn] [b] pos) (eT (e2 ma mb fun x y => (signS x y).map fun k => .bl (!k))) :=
  dt_cmpR op_notIn_sign hm ha hb fun v w v2 w2 fp fp2 H d Q r1 r2 hf q => by
    obtain ⟨k, e, rfl⟩ := map_some hf
    obtain ⟨c, z, e1, e2, rfl⟩ := sign_some e
    exact ⟨c, z, r1.text e1, r2.text e2, q _ _ (Same.refl H) (.bl _)⟩
/-- a method of a text, of one text -/
def m1S (g : Str → Str → Option Py) (ma : DS → ER Ar) (mb : DS → ER Py) : DS → ER Py := fun st => (ma st).bind fun a st1 => (optE (bindO st1 a textS) st1).bind fun z st1 => (mb st1).bind fun d st2 => match d with
  | .str y => optE (g z y) st2
  | _ => .stuck
theorem de_m1 {id : String} {name : Str} {apos : Pos} {r : V → List V → Hp → VK → Prop} {g : Str → Str → Option Py} {mb : DS → ER Py} (slot : Slot "str" name id) (ty : typeOf (.builtin id) = pure (.type "method_descriptor")) (rule : MtR X id r) (ha : DX X o ma) (hb : DE X e mb)
    (hr : ∀ (z y : Str) (d : Py) (H : Hp) (Q : VK), g z y = some d → (∀ v H', Same H H' → R X.K H' v d → Q v H') → r (.str z) [.str y] H Q)
    (hs : starEach [e] X.env = [(false, eval e X.env)] := by rfl) (hbase : attributeBase o name X.env (eval o X.env) = eval o X.env := by rfl) (hline : (apos.endLine == pos.line) = true := by rfl) :
    DE X (.Call (.Attribute o name apos) [e] [] pos) (m1S g ma mb) := by
  refine ⟨fun Wx tk => pe_imp (pe_m1 slot ty rule (ha.pe Wx tk) (hb.pe Wx tk) hs hbase hline) fun σ H Q ⟨Γ, st, rl, q⟩ => ⟨Γ, st, rl, ?_⟩⟩
  refine fin.imp (fin.bind q) fun a st1 q1 v H1 r1 g1 ar => ?_
  obtain ⟨z, ez, q1⟩ := fin_opt (fin.bind q1)
  obtain ⟨w1, ew1, ez⟩ := bindO_some ez
  obtain ⟨fp1, rs1⟩ := r1.look ar ew1
  have ev := rs1.text ez
  subst ev
  refine ⟨⟨z, rfl⟩, Γ, st1, r1, ?_⟩
  refine fin.imp (fin.bind (fin.gr (H' := H1) g1 q1)) fun d st2 q2 v2 H2 r2 g2 rd => ?_
  cases rd with
  | str y =>
    obtain ⟨d2, ed, q3⟩ := fin_opt q2
    exact hr z y d2 H2 Q ed fun v H' s rv => q3 v H' (r2.ext s) (g1.trans (g2.trans (Same.gr s))) rv
  | _ => exact q2.elim
theorem de_ends {apos : Pos} {mb : DS → ER Py} (ha : DX X o ma) (hb : DE X e mb) (hs : starEach [e] X.env = [(false, eval e X.env)] := by rfl) (hbase : attributeBase o "endswith" X.env (eval o X.env) = eval o X.env := by rfl) (hline : (apos.endLine == pos.line) = true := by rfl) :
    DE X (.Call (.Attribute o "endswith" apos) [e] [] pos) (m1S (fun z y => some (.bl (Txt.endswith z y))) ma mb) :=
  de_m1 F.slot_str_endswith F.type_str_endswith mt_endswith ha hb (fun z y d H Q h q => by cases h; exact ⟨z, y, rfl, rfl, q _ _ (Same.refl H) (.bl _)⟩) hs hbase hline
/-- the signs of a text -/
def charsD : Py → Option (List Py)
  | .str z => some (z.cps.toList.map fun c => .str ⟨#[c]⟩)
  | _ => none
def chI (m : DS → ER Py) : DS → ER (List Py) := fun st => (m st).bind fun d st1 => optE (charsD d) st1
theorem iCh {tg : Expr} {m : DS → ER Py} (h : DE X a m) : DI X tg a (chI m) := by
  refine ⟨fun Wx tk => pi_imp (pi_str (h.pe Wx tk)) fun σ H Q ⟨Γ, st, r, q⟩ => ⟨Γ, st, r, ?_⟩⟩
  refine fin.imp (fin.bind q) fun d st1 q1 v H1 r1 g1 rd => ?_
  obtain ⟨ds, ed, q2⟩ := fin_opt q1
  cases rd with
  | str z =>
    cases ed
    refine ⟨z, rfl, q2 _ H1 r1 g1 ⟨fun i H2 g hi => ?_, fun i H2 x H3 g hi y => ?_, fun i H2 g hi => ?_⟩⟩
    · show i < z.cps.size
      simpa using hi
    · obtain ⟨rfl, c, hc, rfl⟩ := y
      refine ⟨Same.refl _, .str ⟨#[c]⟩, ?_, .str _⟩
      rw [List.getElem?_map, Array.getElem?_toList, hc]
      rfl
    · show z.cps.size ≤ i
      rw [hi]
      simp
  | _ => cases ed
/-- d.setdefault(k, x) of an own dict -/
noncomputable def setdM (i : Nat) (mk mx : DS → ER Py) : DS → ER Py := fun st => (optE ((st[i]?).join.bind isDS) st).bind fun _ st => (mk st).bind fun k st1 => (mx st1).bind fun x st2 => match (st2[i]?).join with
  | some (.dic kvs) => if (pkK k).isSome = true ∧ kvs.length < sizeLine then (match getP kvs k with
    | some v => .ok v st2
    | none => .ok x (st2.set i (some (.dic (putP kvs k x))))) else .stuck
  | _ => .stuck
theorem setd_fin {α β : Type} {X : Cx} {Wx : WX} {Γ : Fr} {σ : L2.St} {H : Hp} {c : Prop} [Decidable c] {r : ER α} {G : α → DS → Prop} (h : fin X Wx Γ σ H (if c then r else .stuck) G) : c ∧ fin X Wx Γ σ H r G := by
  by_cases hc : c
  · rw [if_pos hc] at h; exact ⟨hc, h⟩
  · rw [if_neg hc] at h; exact h.elim
theorem de_setd {i : Nat} {apos cpos : Pos} {mk mx : DS → ER Py} (ho : PE X o (tVar i)) (he : DE X e mk) (hf : DE X f mx) (m : M2 X o "setdefault" apos e f cpos) : DE X (.Call (.Attribute o "setdefault" apos) [e, f] [] cpos) (setdM i mk mx) := by
  refine ⟨fun Wx tk => pe_imp (pe_dsetd ho (he.pe Wx tk) (hf.pe Wx tk) m) fun σ H Q ⟨Γ, st, r, q⟩ => ?_⟩
  obtain ⟨u, eu, q1⟩ := fin_opt (fin.bind q)
  obtain ⟨w0, ew0, eu⟩ := Option.bind_eq_some_iff.mp eu
  obtain ⟨v0, fp0, e1, rs0⟩ := r.get (join_some ew0)
  obtain ⟨d, rfl, isd⟩ := rs0.isD eu
  refine ⟨_, e1, d, rfl, isd, Γ, st, r, ?_⟩
  refine fin.imp (fin.bind q1) fun k st1 q2 vk H1 r1 g1 rk => ⟨Γ, st1, r1, ?_⟩
  refine fin.imp (fin.bind (fin.gr (H' := H1) g1 q2)) fun x st2 q3 vx H2 r2 g2 rx => ?_
  cases hj : (st2[i]?).join with
  | none => rw [hj] at q3; exact q3.elim
  | some w =>
    rw [hj] at q3
    cases w with
    | dic kvs =>
      have q3' : fin X Wx Γ σ H1 (if (pkK k).isSome = true ∧ kvs.length < sizeLine then (match getP kvs k with
        | some v => ER.ok v st2
        | none => .ok x (st2.set i (some (.dic (putP kvs k x))))) else .stuck) _ := q3
      obtain ⟨⟨hk0, hl⟩, q4⟩ := setd_fin (β := Unit) q3'
      obtain ⟨k0, ek⟩ := Option.isSome_iff_exists.mp hk0
      obtain ⟨h1, h2⟩ := (rk.mono g2).pkK ek
      subst h1 h2
      obtain ⟨v, fpi, e2, rs, r3⟩ := r2.pull (join_some hj)
      rw [e1] at e2
      cases e2
      cases rs with
      | @dK a ks _ ha hkk =>
        refine ⟨ks, k0, ha, rfl, by rw [hkk.rd.length]; exact hl, fun v hv => ?_, fun hn => ?_⟩
        · rcases hkk.rd.get keyP_inj (k := k0) with ⟨z1, z2⟩ | ⟨v2, d2, z1, z2, z3⟩
          · rw [z1] at hv; cases hv
          · rw [z1] at hv
            cases hv
            rw [z2] at q4
            exact q4 v H2 r2 (g1.trans g2) z3
        · rcases hkk.rd.get keyP_inj (k := k0) with ⟨z1, z2⟩ | ⟨v2, d2, z1, z2, z3⟩
          · rw [z2] at q4
            have ow : Own H2 d := ⟨_, ha, trivial⟩
            have g3 : Gr H2 (upd H2 d (.dK (putK ks k0 vx))) := Gr.own ow
            have sb : SameBut [d] H2 (upd H2 d (.dK (putK ks k0 vx))) := SameBut.of (fun b hb => by rw [List.mem_singleton.mp hb]; exact ow) fun b o e n => by rw [upd_ne (by simpa using n)]; exact e
            have r4 := Rel.after r3 sb (nf := [d]) (by simp) (fun b hb => .inr hb) fun b hb => by rw [List.mem_singleton.mp hb]; exact ⟨_, upd_same, trivial⟩
            have r5 := r4.push (w := .dic (putP kvs (keyP k0) x)) e1 (.dK upd_same (((hkk.mono g3).rd.put keyP_inj (rx.mono g3)).rk))
            rw [List.set_set] at r5
            exact q4 vx _ r5 ((g1.trans g2).trans g3) (rx.mono g3)
          · rw [z1] at hn; cases hn
    | _ => exact q3.elim
end
end DL

/-! ## DL31 -/
namespace DL
open PySem PySem.Spec PyProof.Rows L2
variable [Tb]

/-! ### try .. except X: without a name -/
def noEx : SO → SO
  | .ex _ _ => .stuck
  | r => r
@[simp] theorem noEx_nx (s : DS) : noEx (.nx s) = .nx s := rfl
@[simp] theorem noEx_rt (w : Sv) (s : DS) : noEx (.rt w s) = .rt w s := rfl
@[simp] theorem noEx_bk (s : DS) : noEx (.bk s) = .bk s := rfl
@[simp] theorem noEx_ct (s : DS) : noEx (.ct s) = .ct s := rfl
def tryO (mb : DS → SO) (cx : Str → Option Bool) (ms : Exn → DS → SO) (st : DS) : SO := match mb st with
  | .ex x st1 => match cx x.name with
    | some true => noEx (ms x st1)
    | some false => .ex x st1
    | none => .stuck
  | r => r
section
variable {X : Cx} {pn : List Nat} {x : Str} {C : Addr} {b : List Stmt} {b0 : Stmt} {suite : List Stmt} {np pos pos' : Pos} {mb : DS → SO} {cx : Str → Option Bool} {ms : Exn → DS → SO}
theorem ds_try_only (hs : X.stack = X.env :: X.outer) (hf : X.env.frame = some X.env.locals) (hc : Names X x (.ref C))
    (hcx : ∀ y b cls, cx y = some b → X.mg y = some cls → PySem.W.exmOne X.K cls (.ref C) = some b)
    (hb : ∀ (pl : List (Addr × Obj)) (xe : Value → Shared → Prop), PassesOwn (model X.prog X.w) X.A X.env xe → DSs (X.tr pl xe) pn b mb)
    (hsu : ∀ (y : Exn) (a : Addr) (oe : Obj) (cls : Value) (d : Option Addr) (pl : List (Addr × Obj)), Zc cls d oe → (∃ vs, oe.data = .fields vs) → X.mg y.name = some cls → (y.arg = none → d = none) → cx y.name = some true → DSs (X.suite a ((a, oe) :: pl)) pn (b0 :: suite) (ms y)) :
    DSt X pn (.Try b [.ExceptHandler (some (.Name x np)) none (b0 :: suite) pos'] [] [] pos) (tryO mb cx ms) := by
  refine ⟨fun Wx tk => ps_imp (ps_try_only (tb := fun W => tS X pn W mb) (ts := fun a cls d D σ H => ∃ y, XR X.mg X.K y cls d H ∧ cx y.name = some true ∧ tS X pn W0 (ms y) D σ H) hs hf hc tk (fun W pl xe tkW po => (hb pl xe po).ps W tkW) (fun a oe cls d pl hz hv => ⟨fun pins s σ H D I ⟨y, hx, hy, q⟩ => ?_⟩)) fun D σ H ⟨Γ, st, hnp, r, q⟩ => ?_⟩
  · have hd : y.arg = none → d = none := fun e => by
      have := hx.2
      rw [e] at this; exact this
    exact ((hsu y a oe cls d pl hz hv hx.1 hd hy).ps W0 takes0).run pins s σ H D I q
  · refine ⟨Γ, st, hnp, r, ?_⟩
    have q0 : finS X Wx Γ H (tryO mb cx ms st) D := q
    unfold tryO at q0
    cases e : mb st with
    | nx st1 => rw [e] at q0; exact q0
    | rt w st1 => rw [e] at q0; exact q0
    | bk st1 => rw [e] at q0; exact q0
    | ct st1 => rw [e] at q0; exact q0
    | stuck => rw [e] at q0; exact q0
    | ex y st1 =>
      rw [e] at q0
      intro cls d σ1 H1 r1 g1 hx
      cases hy : cx y.name with
      | none => simp only [hy] at q0; exact q0.elim
      | some k =>
        refine ⟨k, hcx y.name k cls hy hx.1, fun hk a ha => ?_, fun hk => ?_⟩
        · subst hk
          simp only [hy] at q0
          refine ⟨y, hx, hy, Γ, st1, hnp, r1, ?_⟩
          cases ec : ms y st1 with
          | nx st2 => rw [ec] at q0; exact fun σ' H' r' g' => q0 _ H' r' (g1.trans g')
          | bk st2 => rw [ec] at q0; exact fun σ' H' r' g' => q0 _ H' r' (g1.trans g')
          | ct st2 => rw [ec] at q0; exact fun σ' H' r' g' => q0 _ H' r' (g1.trans g')
          | rt w st2 => rw [ec] at q0; exact fun v σ' H' fw r' g' rs => q0 v σ' H' fw r' (g1.trans g') rs
          | ex x2 st2 => rw [ec] at q0; exact q0.elim
          | stuck => rw [ec] at q0; exact q0.elim
        · subst hk
          simp only [hy] at q0
          exact q0 cls d σ1 H1 r1 g1 hx
end
def tryP (mb : DS → SO) (x : Str) (ps : List Str) (ms : DS → SO) : DS → SO := tryO mb (cxC x ps) fun y => match y.arg with
  | none => ms
  | some _ => fun _ => .stuck
/-- try .. except x: x an own class without an __init__; ps: own classes that pass -/
theorem sTO {X : Cx} {pn : List Nat} {x : Str} {C : Addr} {b : List Stmt} {b0 : Stmt} {suite : List Stmt} {np pos pos' : Pos} {mb : DS → SO} {ms : DS → SO} (ps : List Str)
    (hs : X.stack = X.env :: X.outer) (hf : X.env.frame = some X.env.locals) (hg : Gl X x) (hm : X.mg x = some (.ref C)) (hex : PySem.W.exmOne X.K (.ref C) (.ref C) = some true)
    (hps : ∀ y ∈ ps, ∃ D, X.mg y = some (.ref D) ∧ PySem.W.exmOne X.K (.ref D) (.ref C) = some false)
    (hb : ∀ (pl : List (Addr × Obj)) (xe : Value → Shared → Prop), PassesOwn (model X.prog X.w) X.A X.env xe → DSs (X.tr pl xe) pn b mb)
    (hsu : ∀ (a : Addr) (oe : Obj) (pl : List (Addr × Obj)), Zc (.ref C) none oe → (∃ vs, oe.data = .fields vs) → DSs (X.suite a ((a, oe) :: pl)) pn (b0 :: suite) ms) (hdb : (x == ("__debug__" : Str)) = false := by decide) :
    DSt X pn (.Try b [.ExceptHandler (some (.Name x np)) none (b0 :: suite) pos'] [] [] pos) (tryP mb x ps ms) := by
  refine ds_try_only (C := C) hs hf ⟨hg, hdb, .inl hm⟩ (fun y bb cls hc hy => ?_) hb fun y a oe cls d pl hz hv hy hd hc => ?_
  · unfold cxC at hc
    split at hc
    · rename_i e
      cases hc
      subst e
      rw [hm] at hy
      cases hy
      exact hex
    · split at hc
      · rename_i e
        cases hc
        obtain ⟨D, h1, h2⟩ := hps y e
        rw [h1] at hy
        cases hy
        exact h2
      · cases hc
  · unfold cxC at hc
    split at hc
    · rename_i e
      cases ea : y.arg with
      | none =>
        have := hd ea
        subst this
        rw [e, hm] at hy
        cases hy
        exact hsu a oe pl hz hv
      | some _ => exact ⟨fun Wx tk => ⟨fun pins s σ H D I ⟨Γ, st, np, r, q⟩ => q.elim⟩⟩
    · split at hc <;> cases hc
/-! ### (a, b, ..) = a list -/
def gUnlS (n : Nat) (g : List Py → DS → Option DS) : Py → DS → Option DS
  | .lst ds, st => if ds.length = n then g ds st else none
  | _, _ => none
@[simp] theorem gUnlS_ap {n : Nat} {g : List Py → DS → Option DS} {ds : List Py} {st : DS} : gUnlS n g (.lst ds) st = if ds.length = n then g ds st else none := rfl
theorem dg_unl {X : Cx} {pn : List Nat} {pos : Pos} {es : List Expr} {k n : Nat} {ts : List Nat} {g : List Py → DS → Option DS} (hc : X.calm = true) (h : DGs X pn ts es g) (hn : (assignEach es X.env).length = n := by rfl) (hst : (assignEach es X.env).findIdx? (·.1) = none := by rfl) : DG X pn ts (.Tuple es k pos) (gUnlS n g) := by
  refine ⟨pg_imp (pg_unl hc h.pg hn hst) fun v σ H Q ⟨Γ, st, d, np, r, rd, st', e, q⟩ => ?_⟩
  cases d <;> try cases e
  rename_i ds
  have e' : (if ds.length = n then g ds st else none) = some st' := e
  split at e'
  · rename_i hl
    cases rd with
    | lst hs ra => exact ⟨_, _, rfl, hs.l, by rw [ra.length]; exact hl, Γ, st, ds, np, r, ra, st', e', q⟩
  · cases e'
end DL

/-! ## DL32 -/
namespace DL
open PySem PySem.Spec PyProof.Rows L2
variable [Tb]

/-! ### try .. except X as n .. except Y as m .. -/
abbrev NHd := Value × Nat × (Addr → Value → Option Addr → TS)
/-- a named clause's suite ends with its name unbound -/
def goneE (i : Nat) (D : Ends) : Ends := { nx := fun σ H => D.nx (σ.set i none) H, rt := D.rt, bk := fun σ H => D.bk (σ.set i none) H, ct := fun σ H => D.ct (σ.set i none) H }
/-- what named clauses, one behind the other, ask of what flies -/
def wNamed (K : PySem.W.Frag) (Wout : WX) (D : Ends) : List NHd → WX
  | [] => Wout
  | h :: r => fun cls d σ H => ∃ b, PySem.W.exmOne K cls h.1 = some b ∧ (b = true → ∀ a, H a = none → h.2.2 a cls d (goneE h.2.1 D) (σ.set h.2.1 (some (.ref a))) H) ∧ (b = false → wNamed K Wout D r cls d σ H)
/-- the clauses' facts -/
inductive NamedOk (X : Cx) : List ExceptHandler → List NHd → Prop
  | nil : NamedOk X [] []
  | cons {x n : Str} {c : Value} {i : Nat} {ts : Addr → Value → Option Addr → TS} {b0 : Stmt} {bs : List Stmt} {np p2 : Pos} {hds : List ExceptHandler} {l : List NHd} (hi : X.N[i]? = some n) (hln : X.env.kindOf n = some .local) (hc : Names X x c)
      (hsu : ∀ (a : Addr) (oe : Obj) (cls : Value) (d : Option Addr) (pl : List (Addr × Obj)), Zc cls d oe → (∃ vs, oe.data = .fields vs) → PSs (X.suite a ((a, oe) :: pl)) (b0 :: bs) (ts a cls d)) (r : NamedOk X hds l) :
      NamedOk X (.ExceptHandler (some (.Name x np)) (some n) (b0 :: bs) p2 :: hds) ((c, i, ts) :: l)
section
variable {X : Cx} {Wout : WX} {D : Ends} {pins : List (Addr × Obj)} {B : Heap} {a : Addr} {cls : Value} {d : Option Addr} {σ : L2.St} {H : Hp} {sI s : Shared} {h3 : Heap}
/-- an exception in the air above a try's clauses -/
structure Over (X : Cx) (pins : List (Addr × Obj)) (B : Heap) (a : Addr) (cls : Value) (d : Option Addr) (σ : L2.St) (H : Hp) (sI s : Shared) (h3 : Heap) : Prop where
  ok : X.Ok
  hs : X.stack = X.env :: X.outer
  hf : X.env.frame = some X.env.locals
  J : Inv X pins σ H sI
  nb : ∀ b o, sI.heap.get? b = some o → b ∉ frs X.stack → B.get? b = some o
  up : sI.heap.UpToSlots h3
  fl : HandSPX.FlyingZ B (X.env :: X.outer) a (Zc cls d) h3
  na : H a = none
  os : s.os = sI.os
  ag : AllBare s.gens
theorem Over.here (V : Over X pins B a cls d σ H sI s h3) : Inv X pins σ H { s with heap := h3 } := V.J.landed V.nb V.fl.1 V.up V.os V.ag
theorem Over.away (V : Over X pins B a cls d σ H sI s h3) : a ≠ X.env.locals ∧ a ∉ X.fs := by
  obtain ⟨oe, vs, he, _, hd⟩ := V.fl.there
  have nfr : a ∉ frs (X.env :: X.outer) := fun hm => by
    obtain ⟨_, o', e', hnf⟩ := V.fl.2.2.1.mem hm
    rw [he] at e'
    cases e'
    exact hnf _ hd
  refine ⟨fun z => nfr (List.mem_filterMap.mpr ⟨X.env, List.mem_cons_self, by rw [V.hf, z]⟩), fun hm => ?_⟩
  obtain ⟨e, he', q⟩ := List.mem_filterMap.mp hm
  exact nfr (List.mem_filterMap.mpr ⟨e, List.mem_cons_of_mem _ he', q⟩)
/-- no clause is left: it flies on -/
theorem Over.on (V : Over X pins B a cls d σ H sI s h3) (tk : Takes X Wout) (w : Wout cls d σ H) : wpAny (model X.prog X.w) X.A (handleBy (.ref a) X.env []) (SP X pins D) X.xe { s with heap := h3 } := by
  obtain ⟨_, _, _, oe, vs, T, oT, ts', he, hz, hd, h1, hr⟩ := id V.fl
  have go : wpAny (model X.prog X.w) X.A (setFlight (.ref a) X.env.frame) (fun _ s4 => wpAny (model X.prog X.w) X.A (throw (.ref a) : Sem Flow) (SP X pins D) X.xe s4) X.xe { s with heap := h3 } := by
    rw [V.hf]
    exact HandSPX.setFlight_upZ V.fl fun h4 hh4 up4 => wpAny_throw (tk _ _ ⟨a, B, sI, pins, σ, H, cls, d, rfl, V.J, V.nb, V.up.trans up4, .inr (.inr (by rw [V.hs]; exact hh4)), V.na, V.os, V.ag, w⟩)
  refine wpAny_handleBy_nil ?_
  unfold PySem.passOn
  refine wpAny_bind (wpAny_field he hd h1 ?_)
  rw [if_neg (show ¬ ((Value.ref T == Value.none) = true) from by simp)]
  first
    | exact wpAny_bind (wpAny_pure (wpAny_bind go))
    | exact wpAny_bind go
/-- the clauses, one behind the other -/
theorem Over.named (hN : X.N.Nodup) (tk : Takes X Wout) : ∀ {hds : List ExceptHandler} {l : List NHd}, NamedOk X hds l → Over X pins B a cls d σ H sI s h3 → wNamed X.K Wout D l cls d σ H →
    wpAny (model X.prog X.w) X.A (handleBy (.ref a) X.env hds) (SP X pins D) X.xe { s with heap := h3 }
  | _, _, .nil, V, w => V.on tk w
  | _, _, @NamedOk.cons _ x n c i ts b0 bs np p2 hds2 l2 hi hln hc hsu r, V, ⟨b, hb1, hyes, hno⟩ => by
    have I3 := V.here
    obtain ⟨nL, nF⟩ := V.away
    obtain ⟨oe3, vs3, he3, hz3, hd3⟩ := V.fl.there
    have S3 := I3.suite he3 hd3 V.na nL nF
    have LM := PySem.W.exm_one (M := model X.prog X.w) I3.kIn (fun A Q E s k q => wpAny_typeOf_ref (k _ _ he3) (by rw [hz3.1]; exact q) : PySem.W.Looks (model X.prog X.w) h3 (typeOf (.ref a)) cls) hb1
    have test : ∀ {Q : Value → Shared → Prop} {E : Value → Shared → Prop}, Q c { s with heap := h3 } → wpAny (model X.prog X.w) (X.A.mark (some (.ref a))) (eval (.Name x np) X.env) Q E { s with heap := h3 } := fun {Q E} q => by
      obtain ⟨hg, hdbg, k⟩ := hc
      rcases k with hm | ⟨hm, hv, hnn⟩
      · exact ld_glob (X := X.suite a ((a, oe3) :: (X.pn ++ pins))) S3 hg hm q hdbg
      · exact ld_blt (X := X.suite a ((a, oe3) :: (X.pn ++ pins))) S3 hg hm hv q hnn hdbg
    refine wpAny_handleBy_cons (codeAny_handlers_test (test (LM.here ?_))) (by intro q; cases q)
    cases b with
    | false => exact Over.named hN tk r V (hno rfl)
    | true =>
      refine codeAny_handlers_suite_as (HandSPX.lands_againZ V.fl fun h4 fl4 up4 => ?_)
      have V4 : Over X pins B a cls d σ H sI s h4 := ⟨V.ok, V.hs, V.hf, V.J, V.nb, V.up.trans up4, fl4, V.na, V.os, V.ag⟩
      obtain ⟨oe4, vs4, he4, hz4, hd4⟩ := fl4.there
      refine store_ok (X := X.suite a ((a, oe4) :: (X.pn ++ pins))) (v := .ref a) (V4.here.suite he4 hd4 V.na nL nF) hN hi (.inl hln) rfl (fun s5 S5 => ?_) (.inr hln)
      refine wpAny_mono ((hsu a oe4 cls d (X.pn ++ pins) hz4 ⟨_, hd4⟩).run [] s5 _ H _ S5 (hyes rfl a V.na)) (fun f s6 hsp => ?_) (fun _ _ z => False.elim z)
      have bye : ∀ {σ6 : L2.St} {H6 : Hp} {Q : Shared → Prop}, Inv (X.suite a ((a, oe4) :: (X.pn ++ pins))) [] σ6 H6 s6 → (∀ s7, Inv X pins (σ6.set i none) H6 s7 → Q s7) →
          wpAny (model X.prog X.w) X.A (do bindName X.env n .none; unbindBehindTheSuite X.env n p2) (fun _ s7 => Q s7) X.xe s6 := fun S6 hq => gone_ok (S6.unsuite V.ok) hN hi hln hq
      rcases f with _ | _ | _ | u
      · obtain ⟨_, _, S6, q6⟩ := hsp; exact bye S6 fun s7 J7 => ⟨_, _, J7, q6⟩
      · obtain ⟨_, _, S6, q6⟩ := hsp; exact bye S6 fun s7 J7 => ⟨_, _, J7, q6⟩
      · obtain ⟨_, _, S6, q6⟩ := hsp; exact bye S6 fun s7 J7 => ⟨_, _, J7, q6⟩
      · obtain ⟨_, _, _, S6, r6, q6⟩ := hsp; exact bye S6 fun s7 J7 => ⟨_, _, _, J7, r6, q6⟩
end
theorem ps_try_named {X : Cx} {body : List Stmt} {h0 : ExceptHandler} {hds : List ExceptHandler} {l : List NHd} {pos : Pos} {tb : WX → TS} {Wout : WX} (hs : X.stack = X.env :: X.outer) (hf : X.env.frame = some X.env.locals) (hN : X.N.Nodup) (tk : Takes X Wout)
    (hb : ∀ (W : WX) (pl : List (Addr × Obj)) (xe : Value → Shared → Prop), Takes (X.tr pl xe) W → PassesOwn (model X.prog X.w) X.A X.env xe → PSs (X.tr pl xe) body (tb W))
    (hh : NamedOk X (h0 :: hds) l) : PS X (.Try body (h0 :: hds) [] [] pos) (fun D σ H => tb (wNamed X.K Wout D l) D σ H) := by
  refine ⟨fun pins s σ H D I h => wpAny_Try_except ?_⟩
  have ok := I.ok
  refine wpAny_mono ((hb (wNamed X.K Wout D l) (X.pn ++ pins) _ (fun u s' xx => ?_) PassesOwn.looking).run [] s σ H D (I.toTry _) h) (fun f s1 hsp => ?_) (fun e s1 he => he)
  · obtain ⟨a, B, sI, pins', σ', H', cls, d, rfl, J', nb, up, sky, na, os, ag, w⟩ := xx
    have hsky : Sky B (X.env :: X.outer) a (Zc cls d) X.env.locals s'.heap := by rw [← hs]; exact sky
    exact Sky.land Zc.steady (by rw [ok.frames, hs]) hf hsky fun h3 fl3 up3 => Over.named hN tk hh ⟨ok, hs, hf, J'.ofTry ok, nb, up.trans up3, fl3, na, os, ag⟩ w
  · rcases f with _ | _ | _ | u
    · obtain ⟨_, _, J', q⟩ := hsp; exact wpAny_execs_nil ⟨_, _, J'.ofTry ok, q⟩
    · obtain ⟨_, _, J', q⟩ := hsp; exact ⟨_, _, J'.ofTry ok, q⟩
    · obtain ⟨_, _, J', q⟩ := hsp; exact ⟨_, _, J'.ofTry ok, q⟩
    · obtain ⟨_, _, _, J', r, q⟩ := hsp; exact ⟨_, _, _, J'.ofTry ok, r, q⟩
end DL

/-! ## DL33 -/
namespace DL
open PySem PySem.Spec PyProof.Rows L2
variable [Tb]
/-! ### try .. except X as n .. except Y as m ..: the data side -/
abbrev HdS := Str × Nat × (Addr → DS → SO)
noncomputable def hdlS (i : Nat) (ms : Addr → DS → SO) (st : DS) : SO := by
  classical
  exact if h : ∃ r, r ≠ SO.stuck ∧ ∀ a, clrS i (ms a (st.set i (some (.val (.obj a))))) = r then h.choose else .stuck
theorem hdlS_eq {i : Nat} {ms : Addr → DS → SO} {st : DS} {r : SO} (hne : r ≠ .stuck) (k : ∀ a, clrS i (ms a (st.set i (some (.val (.obj a))))) = r) : hdlS i ms st = r := by
  unfold hdlS
  have z : ∃ r, r ≠ SO.stuck ∧ ∀ a, clrS i (ms a (st.set i (some (.val (.obj a))))) = r := ⟨_, hne, k⟩
  rw [dif_pos z, choose_eq hne k z]
noncomputable def pickH (np : List (Str × Str)) : List HdS → Exn → DS → SO
  | [], y, st => .ex y st
  | h :: r, y, st => if y.name = h.1 then hdlS h.2.1 h.2.2 st else if (y.name, h.1) ∈ np then pickH np r y st else .stuck
noncomputable def tryN (mb : DS → SO) (np : List (Str × Str)) (hl : List HdS) (st : DS) : SO := match mb st with
  | .ex y st1 => match y.arg with
    | some _ => .stuck
    | none => pickH np hl y st1
  | r => r
theorem tryN_ok {mb : DS → SO} {np : List (Str × Str)} {hl : List HdS} {st : DS} (h : ∀ x st1, mb st ≠ .ex x st1) : tryN mb np hl st = mb st := by
  unfold tryN
  split
  · rename_i e; exact absurd e (h _ _)
  · rfl
theorem tryN_ex {mb : DS → SO} {np : List (Str × Str)} {hl : List HdS} {st st1 : DS} {n : Str} (h : mb st = .ex ⟨n, none⟩ st1) : tryN mb np hl st = pickH np hl ⟨n, none⟩ st1 := by
  unfold tryN
  rw [h]
inductive HsOk (X : Cx) (pn : List Nat) : List ExceptHandler → List HdS → Prop
  | nil : HsOk X pn [] []
  | cons {x n : Str} {C : Addr} {i : Nat} {ms : Addr → DS → SO} {b0 : Stmt} {bs : List Stmt} {p1 p2 : Pos} {hds : List ExceptHandler} {hl : List HdS} (hi : X.N[i]? = some n) (hln : X.env.kindOf n = some .local) (hg : Gl X x) (hm : X.mg x = some (.ref C)) (hp : i ∉ pn)
      (hex : PySem.W.exmOne X.K (.ref C) (.ref C) = some true) (hdb : (x == ("__debug__" : Str)) = false)
      (hsu : ∀ (a : Addr) (oe : Obj) (pl : List (Addr × Obj)), Zc (.ref C) none oe → (∃ vs, oe.data = .fields vs) → DSs (X.suite a ((a, oe) :: pl)) (i :: pn) (b0 :: bs) (ms a)) (r : HsOk X pn hds hl) :
      HsOk X pn (.ExceptHandler (some (.Name x p1)) (some n) (b0 :: bs) p2 :: hds) ((x, i, ms) :: hl)
theorem HsOk.named {X : Cx} {pn : List Nat} {np : List (Str × Str)} (hnp : ∀ p ∈ np, ∃ D C, X.mg p.1 = some (.ref D) ∧ X.mg p.2 = some (.ref C) ∧ PySem.W.exmOne X.K (.ref D) (.ref C) = some false) : ∀ {hds : List ExceptHandler} {hl : List HdS}, HsOk X pn hds hl →
    ∃ l, NamedOk X hds l ∧ ∀ (Wx : WX) (D : Ends) (Γ : Fr) (H H1 : Hp) (y : Exn) (st1 : DS) (σ1 : L2.St) (cls : Value) (d : Option Addr), (∀ i, i ∉ pn → ∀ p ∈ Γ.pin, p.1 ≠ i) → finS X Wx Γ H (pickH np hl y st1) D → y.arg = none → Rel X.K Γ st1 σ1 H1 [] → Gr H H1 → XR X.mg X.K y cls d H1 → wNamed X.K Wx D l cls d σ1 H1
  | _, _, .nil => ⟨[], .nil, fun Wx D Γ H H1 y st1 σ1 cls d _ q _ r g x => q cls d σ1 H1 r g x⟩
  | _, _, @HsOk.cons _ _ _ x n C i ms b0 bs p1 p2 hds hl hi hln hg hm hp hex hdb hsu r => by
    obtain ⟨l, hl', ih⟩ := HsOk.named hnp r
    refine ⟨(.ref C, i, fun a cls d D σ H => cls = .ref C ∧ d = none ∧ tS X (i :: pn) W0 (ms a) D σ H) :: l, .cons hi hln ⟨hg, hdb, .inl hm⟩ (fun a oe cls d pl hz hv => ⟨fun pins s σ H D I ⟨h1, h2, q⟩ => ?_⟩) hl', fun Wx D Γ H H1 y st1 σ1 cls d hpin q ya r1 g1 hx => ?_⟩
    · subst h1 h2
      exact ((hsu a oe pl hz hv).ps W0 takes0).run pins s σ H D I q
    · have hd : d = none := by
        have := hx.2
        rw [ya] at this; exact this
      unfold pickH at q
      by_cases hy : y.name = x
      · have hcls : cls = .ref C := by
          have := hx.1
          rw [hy, hm] at this
          cases this; rfl
        simp only [hy, if_true] at q
        refine ⟨true, by rw [hcls]; exact hex, fun _ a ha => ⟨hcls, hd, ?_⟩, fun z => by cases z⟩
        unfold hdlS at q
        by_cases z : ∃ r, r ≠ SO.stuck ∧ ∀ a, clrS i (ms a (st1.set i (some (.val (.obj a))))) = r
        · rw [dif_pos z] at q
          have hset : Rel X.K Γ (st1.set i (some (.val (.obj a)))) (σ1.set i (some (.ref a))) H1 [] := by
            by_cases hl : i < st1.length
            · exact r1.set (fx := []) hl (.val (.obj a)) (hpin i hp)
            · obtain ⟨⟨fp, hsr, _⟩, _⟩ := id r1
              have h1 : st1.set i (some (.val (.obj a))) = st1 := List.set_eq_of_length_le (by omega)
              have h2 : σ1.set i (some (V.ref a)) = σ1 := List.set_eq_of_length_le (by rw [hsr.length]; omega)
              rw [h1, h2]; exact r1
          refine ⟨Γ, st1.set i (some (.val (.obj a))), fun j hj p hp' => hpin j (fun zz => hj (List.mem_cons_of_mem _ zz)) p hp', hset, ?_⟩
          have es := z.choose_spec.2 a
          rw [← es] at q
          cases ec : ms a (st1.set i (some (.val (.obj a)))) with
          | nx st2 =>
            rw [ec] at q
            exact fun σ' H' r' g' => q _ H' (r'.gone (hpin i hp)) (g1.trans g')
          | bk st2 =>
            rw [ec] at q
            exact fun σ' H' r' g' => q _ H' (r'.gone (hpin i hp)) (g1.trans g')
          | ct st2 =>
            rw [ec] at q
            exact fun σ' H' r' g' => q _ H' (r'.gone (hpin i hp)) (g1.trans g')
          | rt w st2 =>
            rw [ec] at q
            exact fun v σ' H' fw r' g' rs => q v σ' H' fw r'.forget (g1.trans g') rs
          | ex x2 st2 => rw [ec] at q; exact q.elim
          | stuck => rw [ec] at q; exact q.elim
        · rw [dif_neg z] at q; exact q.elim
      · simp only [hy, if_false] at q
        by_cases hm2 : (y.name, x) ∈ np
        · simp only [hm2, if_true] at q
          obtain ⟨Dd, C2, e1, e2, e3⟩ := hnp _ hm2
          have hcls : cls = .ref Dd := by
            have := hx.1
            rw [e1] at this
            cases this; rfl
          have hC : C2 = C := by
            rw [hm] at e2
            cases e2; rfl
          subst hC
          exact ⟨false, by rw [hcls]; exact e3, (by intro z; cases z), fun _ => ih Wx D Γ H H1 y st1 σ1 cls d hpin q ya r1 g1 hx⟩
        · simp only [hm2, if_false] at q
          exact q.elim
theorem sTN {X : Cx} {pn : List Nat} {b : List Stmt} {h0 : ExceptHandler} {hds : List ExceptHandler} {pos : Pos} {mb : DS → SO} {hl : List HdS} (np : List (Str × Str)) (hs : X.stack = X.env :: X.outer) (hf : X.env.frame = some X.env.locals) (hN : X.N.Nodup)
    (hnp : ∀ p ∈ np, ∃ D C, X.mg p.1 = some (.ref D) ∧ X.mg p.2 = some (.ref C) ∧ PySem.W.exmOne X.K (.ref D) (.ref C) = some false)
    (hb : ∀ (pl : List (Addr × Obj)) (xe : Value → Shared → Prop), PassesOwn (model X.prog X.w) X.A X.env xe → DSs (X.tr pl xe) pn b mb) (hh : HsOk X pn (h0 :: hds) hl) : DSt X pn (.Try b (h0 :: hds) [] [] pos) (tryN mb np hl) := by
  obtain ⟨l, hl', ih⟩ := hh.named hnp
  refine ⟨fun Wx tk => ps_imp (ps_try_named (tb := fun W => tS X pn W mb) hs hf hN tk (fun W pl xe tkW po => (hb pl xe po).ps W tkW) hl') fun D σ H ⟨Γ, st, hpin, r, q⟩ => ⟨Γ, st, hpin, r, ?_⟩⟩
  have q0 : finS X Wx Γ H (tryN mb np hl st) D := q
  unfold tryN at q0
  cases e : mb st with
  | nx st1 => rw [e] at q0; exact q0
  | rt w st1 => rw [e] at q0; exact q0
  | bk st1 => rw [e] at q0; exact q0
  | ct st1 => rw [e] at q0; exact q0
  | stuck => rw [e] at q0; exact q0
  | ex y st1 =>
    rw [e] at q0
    simp only at q0
    intro cls d σ1 H1 r1 g1 hx
    cases ya : y.arg with
    | some _ => rw [ya] at q0; exact q0.elim
    | none =>
      rw [ya] at q0
      exact ih Wx D Γ H H1 y st1 σ1 cls d hpin q0 ya r1 g1 hx
theorem kit_ve {K : PySem.W.Frag} {D : Addr} {b : Bool} (h : PySem.W.subIn K (.ref D) (.type "ValueError") = some b) : PySem.W.kitOne K (.ref D) (.type "ValueError") = some b := by
  have h0 : ¬ ((Value.ref D) == (Value.type "ValueError")) = true := fun z => nomatch (beq_iff_eq.mp z)
  have h1 : PySem.W.kitMeta "ValueError" = true := by decide +kernel
  show (if ((Value.ref D) == (Value.type "ValueError")) = true then some true else (if PySem.W.kitMeta "ValueError" = true then PySem.W.subIn K (.ref D) (.type "ValueError") else none)) = some b
  rw [if_neg h0, if_pos h1, h]
/-- isinstance(e, ValueError) in an except suite -/
theorem de_isEV {X : Cx} {pos : Pos} {a D : Addr} {i : Nat} {oe : Obj} {pl : List (Addr × Obj)} {e : Expr} {p p2 : Pos} {bb : Bool} (T : Bt X.mg) (hE : ExcC X.K D) (hz : Zc (.ref D) none oe) (hv : ∃ vs, oe.data = .fields vs) (hg : Gl (X.suite a ((a, oe) :: pl)) "isinstance")
    (hgv : Gl (X.suite a ((a, oe) :: pl)) "ValueError") (hk : PySem.W.kitOne X.K (.ref D) (.type "ValueError") = some bb) (he : PE (X.suite a ((a, oe) :: pl)) e (tVar i))
    (hst : starEach [e, .Name "ValueError" p2] X.env = (false, eval e X.env) :: starEach [.Name "ValueError" p2] X.env := by rfl) (hst2 : starEach [.Name "ValueError" p2] X.env = (false, eval (.Name "ValueError" p2) X.env) :: starEach [] X.env := by rfl)
    (hpl : (backTo pos (starEach [.Name "ValueError" p2] X.env)).any (·.1) = false := by rfl) :
    DE (X.suite a ((a, oe) :: pl)) (.Call (.Name "isinstance" p) [e, .Name "ValueError" p2] [] pos) fun st => if objAt st i a then .ok (.bl bb) st else .stuck := by
  have hy : PE (X.suite a ((a, oe) :: pl)) (.Name "ValueError" p2) (tC (.ty "ValueError")) := pe_bltn hgv T.valueError (u := .type "ValueError") (by decide +kernel) (by rfl)
  refine ⟨fun Wx tk => pe_imp (pe_callB (call_isE hE hz hv) hg T.isinstance boot_isinstance (pa_cons he (pa_cons hy pa_nil hst2) hst) (by decide) (by decide) hst hpl) fun σ H Q ⟨Γ, st, r, q⟩ => ?_⟩
  by_cases hc : objAt st i a = true
  · have q' : fin (X.suite a ((a, oe) :: pl)) Wx Γ σ H (if objAt st i a = true then .ok (Py.bl bb) st else .stuck) _ := q
    rw [if_pos hc] at q'
    obtain ⟨v, fp, e1, rs⟩ := r.get (objAt_ok hc)
    have rd := rs.data rfl
    cases rd
    exact ⟨_, e1, .ty "ValueError", _, bb, rfl, fun u hu => hu, hk, q' _ H r (Gr.refl H) (.bl _)⟩
  · have q' : fin (X.suite a ((a, oe) :: pl)) Wx Γ σ H (if objAt st i a = true then .ok (Py.bl bb) st else .stuck) _ := q
    rw [if_neg hc] at q'
    exact q'.elim
end DL

/-! ## DL34 -/
namespace DL
open PySem PySem.Spec PyProof.Rows L2
variable [Tb]
/-! ### is, is not of bools -/
def isBS : Sv → Sv → Option Py
  | .val (.bl x), .val (.bl y) => some (.bl (decide (x = y)))
  | _, _ => none
def isntBS : Sv → Sv → Option Py
  | .val (.bl x), .val (.bl y) => some (.bl (!decide (x = y)))
  | _, _ => none
@[simp] theorem isBS_bb {x y : Bool} : isBS (.val (.bl x)) (.val (.bl y)) = some (.bl (decide (x = y))) := rfl
@[simp] theorem isntBS_bb {x y : Bool} : isntBS (.val (.bl x)) (.val (.bl y)) = some (.bl (!decide (x = y))) := rfl
section
variable {X : Cx} {a b : Expr} {ma mb : DS → ER Ar} {pos : Pos}
theorem isBS_some {w w2 : Sv} {d : Py} (h : isBS w w2 = some d) : ∃ s t, w = .val (.bl s) ∧ w2 = .val (.bl t) ∧ d = .bl (decide (s = t)) := by
  unfold isBS at h
  split at h <;> cases h
  exact ⟨_, _, rfl, rfl, rfl⟩
theorem isntBS_some {w w2 : Sv} {d : Py} (h : isntBS w w2 = some d) : ∃ s t, w = .val (.bl s) ∧ w2 = .val (.bl t) ∧ d = .bl (!decide (s = t)) := by
  unfold isntBS at h
  split at h <;> cases h
  exact ⟨_, _, rfl, rfl, rfl⟩
theorem de_isB (ha : DX X a ma) (hb : DX X b mb) : DE X (.Compare a [.Is] [b] pos) (e2 ma mb isBS) :=
  de2 ha hb (fun h k => pe_cmpR op_isBl h k (nomark _)) fun v w v2 w2 fp fp2 H d Q r1 r2 hf q => by
    obtain ⟨s, t, rfl, rfl, rfl⟩ := isBS_some hf
    cases r1.bl; cases r2.bl
    exact ⟨s, t, rfl, rfl, q _ _ (Same.refl H) (.bl _)⟩
theorem de_isntB (ha : DX X a ma) (hb : DX X b mb) : DE X (.Compare a [.IsNot] [b] pos) (e2 ma mb isntBS) :=
  de2 ha hb (fun h k => pe_cmpR op_notBl h k (nomark _)) fun v w v2 w2 fp fp2 H d Q r1 r2 hf q => by
    obtain ⟨s, t, rfl, rfl, rfl⟩ := isntBS_some hf
    cases r1.bl; cases r2.bl
    exact ⟨s, t, rfl, rfl, q _ _ (Same.refl H) (.bl _)⟩
theorem dt_isB (ha : DX X a ma) (hb : DX X b mb) : DT X (.Compare a [.Is] [b] pos) (eT (e2 ma mb isBS)) :=
  dt_cmpR op_isBl (nomark _) ha hb fun v w v2 w2 fp fp2 H d Q r1 r2 hf q => by
    obtain ⟨s, t, rfl, rfl, rfl⟩ := isBS_some hf
    cases r1.bl; cases r2.bl
    exact ⟨s, t, rfl, rfl, q _ _ (Same.refl H) (.bl _)⟩
theorem dt_isntB (ha : DX X a ma) (hb : DX X b mb) : DT X (.Compare a [.IsNot] [b] pos) (eT (e2 ma mb isntBS)) :=
  dt_cmpR op_notBl (nomark _) ha hb fun v w v2 w2 fp fp2 H d Q r1 r2 hf q => by
    obtain ⟨s, t, rfl, rfl, rfl⟩ := isntBS_some hf
    cases r1.bl; cases r2.bl
    exact ⟨s, t, rfl, rfl, q _ _ (Same.refl H) (.bl _)⟩
end
end DL

/-! ## W10 -/
namespace K10
open PySem PySem.Spec PyProof.Rows L2 DL LamX
def top (i : Nat) : Stmt := PySem.Challenge.pw_tertium_k10_steps_and_derivations.main.body.getD i (.Pass ⟨0, 0, 0, 0⟩)
abbrev st__law_start : Stmt := top 29
theorem sc__law_start : FnScope ["script", "cell"] ["script"] (defScope st__law_start) := ⟨rfl, rfl, rfl, by decide +kernel, rfl, by decide +kernel, by decide +kernel⟩
abbrev st__law_fill : Stmt := top 30
theorem sc__law_fill : FnScope ["c", "number"] ["c"] (defScope st__law_fill) := ⟨rfl, rfl, rfl, by decide +kernel, rfl, by decide +kernel, by decide +kernel⟩
abbrev st__law_take : Stmt := top 31
theorem sc__law_take : FnScope ["c", "many", "digit"] ["c", "many"] (defScope st__law_take) := ⟨rfl, rfl, rfl, by decide +kernel, rfl, by decide +kernel, by decide +kernel⟩
abbrev st__law_signature : Stmt := top 32
theorem sc__law_signature : FnScope ["c", "found"] ["c"] (defScope st__law_signature) := ⟨rfl, rfl, rfl, by decide +kernel, rfl, by decide +kernel, by decide +kernel⟩
abbrev st__law_term : Stmt := top 33
theorem sc__law_term : FnScope ["c", "sig", "names", "depth_v", "flat", "name", "many", "k"] ["c", "sig", "names", "depth_v"] (defScope st__law_term) := ⟨rfl, rfl, rfl, by decide +kernel, rfl, by decide +kernel, by decide +kernel⟩
abbrev st__law_places : Stmt := top 34
theorem sc__law_places : FnScope ["t", "found", "k", "p"] ["t"] (defScope st__law_places) := ⟨rfl, rfl, rfl, by decide +kernel, rfl, by decide +kernel, by decide +kernel⟩
abbrev st__law_at : Stmt := top 35
theorem sc__law_at : FnScope ["t", "p", "k"] ["t", "p"] (defScope st__law_at) := ⟨rfl, rfl, rfl, by decide +kernel, rfl, by decide +kernel, by decide +kernel⟩
abbrev st__law_names : Stmt := top 37
theorem sc__law_names : FnScope ["t", "found", "p", "one"] ["t"] (defScope st__law_names) := ⟨rfl, rfl, rfl, by decide +kernel, rfl, by decide +kernel, by decide +kernel⟩
abbrev st__law_rule : Stmt := top 41
theorem sc__law_rule : FnScope ["c", "sig", "names", "depth_v", "left", "own"] ["c", "sig", "names", "depth_v"] (defScope st__law_rule) := ⟨rfl, rfl, rfl, by decide +kernel, rfl, by decide +kernel, by decide +kernel⟩
abbrev st__law_system : Stmt := top 42
theorem sc__law_system : FnScope ["c", "sig", "most", "rows", "k", "names"] ["c", "sig", "most"] (defScope st__law_system) := ⟨rfl, rfl, rfl, by decide +kernel, rfl, by decide +kernel, by decide +kernel⟩
abbrev st__law_match : Stmt := top 39
theorem sc__law_match : FnScope ["pattern", "t", "s", "k"] ["pattern", "t", "s"] (defScope st__law_match) := ⟨rfl, rfl, rfl, by decide +kernel, rfl, by decide +kernel, by decide +kernel⟩
abbrev st__law_put : Stmt := top 36
theorem sc__law_put : FnScope ["t", "p", "s"] ["t", "p", "s"] (defScope st__law_put) := ⟨rfl, rfl, rfl, by decide +kernel, rfl, by decide +kernel, by decide +kernel⟩
abbrev st__law_apply : Stmt := top 38
theorem sc__law_apply : FnScope ["s", "t", "part"] ["s", "t"] (defScope st__law_apply) := ⟨rfl, rfl, rfl, by decide +kernel, rfl, by decide +kernel, by decide +kernel⟩
abbrev st__law_steps : Stmt := top 43
theorem sc__law_steps : FnScope ["system", "t", "found", "p", "one", "k", "s"] ["system", "t"] (defScope st__law_steps) := ⟨rfl, rfl, rfl, by decide +kernel, rfl, by decide +kernel, by decide +kernel⟩
abbrev st__law_led : Stmt := top 44
theorem sc__law_led : FnScope ["system", "t", "steps", "one", "found", "told", "result"] ["system", "t", "steps"] (defScope st__law_led) := ⟨rfl, rfl, rfl, by decide +kernel, rfl, by decide +kernel, by decide +kernel⟩
abbrev st_is_variable : Stmt := top 8
theorem sc_is_variable : FnScope ["t"] ["t"] (defScope st_is_variable) := ⟨rfl, rfl, rfl, by decide +kernel, rfl, by decide +kernel, by decide +kernel⟩
abbrev st_same : Stmt := top 10
theorem sc_same : FnScope ["s", "t", "left", "one", "other"] ["s", "t"] (defScope st_same) := ⟨rfl, rfl, rfl, by decide +kernel, rfl, by decide +kernel, by decide +kernel⟩
abbrev st_match : Stmt := top 22
theorem sc_match : FnScope ["pattern", "t", "found", "left", "one", "other"] ["pattern", "t"] (defScope st_match) := ⟨rfl, rfl, rfl, by decide +kernel, rfl, by decide +kernel, by decide +kernel⟩
abbrev st_need_small : Stmt := top 17
theorem sc_need_small : FnScope ["nodes", "deep"] ["nodes", "deep"] (defScope st_need_small) := ⟨rfl, rfl, rfl, by decide +kernel, rfl, by decide +kernel, by decide +kernel⟩
abbrev st_inner : Stmt := top 9
theorem sc_inner : FnScope ["t"] ["t"] (defScope st_inner) := ⟨rfl, rfl, rfl, by decide +kernel, rfl, by decide +kernel, by decide +kernel⟩
abbrev st_parts : Stmt := top 11
theorem sc_parts : FnScope ["t", "found", "left", "one"] ["t"] (defScope st_parts) := ⟨rfl, rfl, rfl, by decide +kernel, rfl, by decide +kernel, by decide +kernel⟩
abbrev st_size : Stmt := top 12
theorem sc_size : FnScope ["t"] ["t"] (defScope st_size) := ⟨rfl, rfl, rfl, by decide +kernel, rfl, by decide +kernel, by decide +kernel⟩
abbrev st_depth : Stmt := top 13
theorem sc_depth : FnScope ["t", "level", "count", "below", "one"] ["t"] (defScope st_depth) := ⟨rfl, rfl, rfl, by decide +kernel, rfl, by decide +kernel, by decide +kernel⟩
abbrev st_put : Stmt := top 16
theorem sc_put : FnScope ["t", "p", "s", "way", "k", "arguments", "one"] ["t", "p", "s"] (defScope st_put) := ⟨rfl, rfl, rfl, by decide +kernel, rfl, by decide +kernel, by decide +kernel⟩
abbrev st_at : Stmt := top 15
theorem sc_at : FnScope ["t", "p", "k", "arguments"] ["t", "p"] (defScope st_at) := ⟨rfl, rfl, rfl, by decide +kernel, rfl, by decide +kernel, by decide +kernel⟩
abbrev st_variables : Stmt := top 18
theorem sc_variables : FnScope ["t", "one"] ["t"] (defScope st_variables) := ⟨rfl, rfl, rfl, by decide +kernel, rfl, by decide +kernel, by decide +kernel⟩
abbrev st_measure : Stmt := top 20
theorem sc_measure : FnScope ["s", "t", "nodes", "deep", "sizes", "left", "one", "level", "more", "x", "part"] ["s", "t"] (defScope st_measure) := ⟨rfl, rfl, rfl, by decide +kernel, rfl, by decide +kernel, by decide +kernel⟩
abbrev st_rebuilt : Stmt := top 19
theorem sc_rebuilt : FnScope ["t", "change", "done", "left", "one", "ready", "many", "arguments", "part"] ["t", "change"] (defScope st_rebuilt) := ⟨rfl, rfl, rfl, by decide +kernel, rfl, by decide +kernel, by decide +kernel⟩
abbrev st_apply : Stmt := top 21
theorem sc_apply : FnScope ["s", "t", "nodes", "deep", "x"] ["s", "t"] (defScope st_apply) := ⟨rfl, rfl, rfl, by decide +kernel, rfl, by decide +kernel, by decide +kernel⟩
abbrev st_rewritten : Stmt := top 24
theorem sc_rewritten : FnScope ["system", "t", "place", "number", "left", "right", "found"] ["system", "t", "place", "number"] (defScope st_rewritten) := ⟨rfl, rfl, rfl, by decide +kernel, rfl, by decide +kernel, by decide +kernel⟩
abbrev st_step : Stmt := top 25
theorem sc_step : FnScope ["system", "t", "one", "place", "number", "result"] ["system", "t", "one"] (defScope st_step) := ⟨rfl, rfl, rfl, by decide +kernel, rfl, by decide +kernel, by decide +kernel⟩
abbrev st_derive : Stmt := top 26
theorem sc_derive : FnScope ["system", "t", "steps", "one"] ["system", "t", "steps"] (defScope st_derive) := ⟨rfl, rfl, rfl, by decide +kernel, rfl, by decide +kernel, by decide +kernel⟩
abbrev st__law_told : Stmt := top 47
theorem sc__law_told : FnScope ["system", "t", "steps", "single", "e"] ["system", "t", "steps", "single"] (defScope st__law_told) := ⟨rfl, rfl, rfl, by decide +kernel, rfl, by decide +kernel, by decide +kernel⟩
abbrev st__law_great : Stmt := top 48
theorem sc__law_great : FnScope ["c", "sig", "rows", "k", "left", "right"] ["c"] (defScope st__law_great) := ⟨rfl, rfl, rfl, by decide +kernel, rfl, by decide +kernel, by decide +kernel⟩
abbrev st__law_large : Stmt := top 45
theorem sc__law_large : FnScope ["t", "places", "p"] ["t"] (defScope st__law_large) := ⟨rfl, rfl, rfl, by decide +kernel, rfl, by decide +kernel, by decide +kernel⟩
abbrev st_positions : Stmt := top 14
theorem sc_positions : FnScope ["t", "found", "left", "place", "one", "arguments", "k"] ["t"] (defScope st_positions) := ⟨rfl, rfl, rfl, by decide +kernel, rfl, by decide +kernel, by decide +kernel⟩
abbrev st_successors : Stmt := top 27
theorem sc_successors : FnScope ["system", "t", "found", "place", "number", "result"] ["system", "t"] (defScope st_successors) := ⟨rfl, rfl, rfl, by decide +kernel, rfl, by decide +kernel, by decide +kernel⟩
abbrev st__law_all : Stmt := top 46
theorem sc__law_all : FnScope ["system", "t"] ["system", "t"] (defScope st__law_all) := ⟨rfl, rfl, rfl, by decide +kernel, rfl, by decide +kernel, by decide +kernel⟩
abbrev st_law : Stmt := top 49
theorem sc_law : FnScope ["script", "c", "sig", "system", "great", "t", "due", "one", "result", "places", "found", "steps", "now", "k", "rows", "row", "led", "told"] ["script"] (defScope st_law) := ⟨rfl, rfl, rfl, by decide +kernel, rfl, by decide +kernel, by decide +kernel⟩
variable [Tb]
structure Fc (K : PySem.W.Frag) (mg : Str → Option Value) (base : Heap) (C_LimitError C_StepError C_TertiumError C_TextError CD_apply P_apply : Addr) : Prop where
  T : Bt mg
  f__law_start : FN K mg "_law_start" "_law_start" st__law_start ["script"]
  f__law_fill : FN K mg "_law_fill" "_law_fill" st__law_fill ["c"]
  f__law_take : FN K mg "_law_take" "_law_take" st__law_take ["c", "many"]
  f__law_signature : FN K mg "_law_signature" "_law_signature" st__law_signature ["c"]
  f__law_term : FN K mg "_law_term" "_law_term" st__law_term ["c", "sig", "names", "depth_v"]
  f__law_places : FN K mg "_law_places" "_law_places" st__law_places ["t"]
  f__law_at : FN K mg "_law_at" "_law_at" st__law_at ["t", "p"]
  f__law_names : FN K mg "_law_names" "_law_names" st__law_names ["t"]
  f__law_rule : FN K mg "_law_rule" "_law_rule" st__law_rule ["c", "sig", "names", "depth_v"]
  f__law_system : FN K mg "_law_system" "_law_system" st__law_system ["c", "sig", "most"]
  f__law_match : FN K mg "_law_match" "_law_match" st__law_match ["pattern", "t", "s"]
  f__law_put : FN K mg "_law_put" "_law_put" st__law_put ["t", "p", "s"]
  f__law_apply : FN K mg "_law_apply" "_law_apply" st__law_apply ["s", "t"]
  f__law_steps : FN K mg "_law_steps" "_law_steps" st__law_steps ["system", "t"]
  f__law_led : FN K mg "_law_led" "_law_led" st__law_led ["system", "t", "steps"]
  f_is_variable : FN K mg "is_variable" "is_variable" st_is_variable ["t"]
  f_same : FN K mg "same" "same" st_same ["s", "t"]
  f_match : FN K mg "match" "match" st_match ["pattern", "t"]
  f_need_small : FN K mg "need_small" "need_small" st_need_small ["nodes", "deep"]
  f_inner : FN K mg "inner" "inner" st_inner ["t"]
  f_parts : FN K mg "parts" "parts" st_parts ["t"]
  f_size : FN K mg "size" "size" st_size ["t"]
  f_depth : FN K mg "depth" "depth" st_depth ["t"]
  f_put : FN K mg "put" "put" st_put ["t", "p", "s"]
  f_at : FN K mg "at" "at" st_at ["t", "p"]
  f_variables : FN K mg "variables" "variables" st_variables ["t"]
  f_measure : FN K mg "measure" "measure" st_measure ["s", "t"]
  f_rebuilt : FN K mg "rebuilt" "rebuilt" st_rebuilt ["t", "change"]
  f_apply : FNC K mg "apply" "apply" st_apply ["s", "t"] CD_apply
  f_rewritten : FN K mg "rewritten" "rewritten" st_rewritten ["system", "t", "place", "number"]
  f_step : FN K mg "step" "step" st_step ["system", "t", "one"]
  f_derive : FN K mg "derive" "derive" st_derive ["system", "t", "steps"]
  f__law_told : FN K mg "_law_told" "_law_told" st__law_told ["system", "t", "steps", "single"]
  f__law_great : FN K mg "_law_great" "_law_great" st__law_great ["c"]
  f__law_large : FN K mg "_law_large" "_law_large" st__law_large ["t"]
  f_positions : FN K mg "positions" "positions" st_positions ["t"]
  f_successors : FN K mg "successors" "successors" st_successors ["system", "t"]
  f__law_all : FN K mg "_law_all" "_law_all" st__law_all ["system", "t"]
  g_MOST_DEPTH : ∃ t, mg "MOST_DEPTH" = some (.int 40 t)
  g_MOST_NODES : ∃ t, mg "MOST_NODES" = some (.int 400 t)
  m_LimitError : mg "LimitError" = some (.ref C_LimitError)
  m_StepError : mg "StepError" = some (.ref C_StepError)
  m_TertiumError : mg "TertiumError" = some (.ref C_TertiumError)
  m_TextError : mg "TextError" = some (.ref C_TextError)
  x_LimitError : XCls K mg "LimitError" C_LimitError
  x_StepError : XCls K mg "StepError" C_StepError
  e_LimitError : ExcC K C_LimitError
  e_StepError : ExcC K C_StepError
  exm_LimitError_LimitError : PySem.W.exmOne K (.ref C_LimitError) (.ref C_LimitError) = some true
  exm_StepError_LimitError : PySem.W.exmOne K (.ref C_StepError) (.ref C_LimitError) = some false
  exm_StepError_StepError : PySem.W.exmOne K (.ref C_StepError) (.ref C_StepError) = some true
  kiv_StepError : PySem.W.kitOne K (.ref C_StepError) (.type "ValueError") = some true
  kit_LimitError_StepError : PySem.W.kitOne K (.ref C_LimitError) (.ref C_StepError) = some false
  kit_LimitError_TertiumError : PySem.W.kitOne K (.ref C_LimitError) (.ref C_TertiumError) = some true
  kit_StepError_LimitError : PySem.W.kitOne K (.ref C_StepError) (.ref C_LimitError) = some false
  kit_StepError_StepError : PySem.W.kitOne K (.ref C_StepError) (.ref C_StepError) = some true
  kit_StepError_TertiumError : PySem.W.kitOne K (.ref C_StepError) (.ref C_TertiumError) = some true
  kit_StepError_TextError : PySem.W.kitOne K (.ref C_StepError) (.ref C_TextError) = some false
  tb_apply : TabB base mg CD_apply P_apply
  tm_apply : (P_apply, ((PyProof.Rows.envOfC "apply" (defScope st_apply) 0 0 .none).qual ++ "<lambda>")) ∈ Tb.T
  tu_apply : ∀ p ∈ Tb.T, p.1 = P_apply → p.2 = ((PyProof.Rows.envOfC "apply" (defScope st_apply) 0 0 .none).qual ++ "<lambda>")
section
variable {P : Program} {w : World} {K : PySem.W.Frag} {mg : Str → Option Value} {base : Heap} {C_LimitError C_StepError C_TertiumError C_TextError CD_apply P_apply : Addr}
noncomputable def M__law_start : FM := runF 1 2 [0] ((seqM (rtM (lstM (consV (frzM (lcM (sqI (frzM (slM (varX 0) pN (pS (kI 63))))) (gNameS 1) yesT (e1 (varX 1) intOf) [1])) (consV (kI 0) (consV (kI 0) (consV (kI 0) (consV (kI 14) nilV)))))))
    nxM))
theorem D__law_start (Y : Fc K mg base C_LimitError C_StepError C_TertiumError C_TextError CD_apply P_apply) : DFn P w K mg base 1 "_law_start" 1 M__law_start := dfn_of Y.f__law_start sc__law_start rfl (by decide) fun f cdv A outer s H E hr =>
    (s1 (sR (oL (v1 (DO.z (do_lc (pn := []) (own := [((PySem.Str.ofString "cell"), 1)]) rfl sc__law_start.nd (iS (DO.z (oSl (yV (pv 0)) p0 (p1 yI)))) (blkOk_by (N := ["script", "cell"]) (sc := (defScope st__law_start)) (by decide +kernel)) (fun _ _ _ _ _ => (dg_name (i := 1) sc__law_start.nd rfl (by first | exact Or.inl rfl | exact Or.inr rfl) (by decide))) (fun _ _ _ _ _ => q0) (fun _ _ _ _ _ => (de_intOf Y.T rfl (yV (pv 1)))))) (v1 yI (v1 yI (v1 yI (v1 yI v0)))))))
    s0)
noncomputable def M__law_fill : FM := runF 1 2 [0] ((seqM (setLS 0 (e2 (xM (e2 (varX 0) (xM (kI 3)) ixS)) (xM (kI 1)) (binI0 fun i j => .int (i + j))) (kI 3))
    (seqM (stM 1 (valM (e2 (xM (e2 (xM (e2 (varX 0) (xM (kI 3)) ixS)) (xM (kI 69621)) (binI CMul fun i j => .int (i * j)))) (xM (kI 12345)) (binI0 fun i j => .int (i + j)))))
    (seqM (ifM (eT (e2 (xM (e2 (varX 0) (xM (kI 1)) ixS)) (xM (e1 (xM (e2 (varX 0) (xM (kI 0)) ixS)) lenS)) (binI0 fun i j => .bl (decide (i < j)))))
    (seqM (stM 1 (valM (e2 (xM (e2 (varX 0) (xM (kI 0)) ixS)) (xM (e2 (varX 0) (xM (kI 1)) ixS)) ixS)))
    (seqM (setLS 0 (e2 (xM (e2 (varX 0) (xM (kI 1)) ixS)) (xM (kI 1)) (binI0 fun i j => .int (i + j))) (kI 1))
    (seqM (ifM (eT (e2 (varX 1) (xM (kI 0)) (binI0 fun i j => .bl (decide (i < j)))))
    (seqM (stM 1 (valM (e2 (xM (e2 (xM (kI 0)) (xM (kI 1)) (binI0 fun i j => .int (i - j)))) (varX 1) (binI0 fun i j => .int (i - j)))))
    nxM)
    nxM)
    (seqM (ifM (eT (e2 (varX 1) (xM (e2 (xM (kI 10)) (xM (kI 18)) (binI CPow fun i j => .int (i ^ j.toNat)))) (binI0 fun i j => .bl (decide (j ≤ i)))))
    (seqM (rtM (takeO 1))
    nxM)
    nxM)
    nxM))))
    nxM)
    (seqM (ifM (andT (e1 (xM (e2 (varX 0) (xM (kI 0)) ixS)) truS) (eT (e2 (xM (e2 (varX 0) (xM (kI 1)) ixS)) (xM (e1 (xM (e2 (varX 0) (xM (kI 0)) ixS)) lenS)) (binI0 fun i j => .bl (decide (j ≤ i))))))
    (seqM (stM 1 (valM (e2 (varX 1) (xM (e2 (xM (e1 (xM (e2 (xM (e2 (varX 0) (xM (kI 0)) ixS)) (xM (e1 (xM (kI 1)) fun w => (intS w).map fun i => .int (-i))) ixS)) intOf)) (xM (kI 1000003)) (binI (fun _ j => 0 < j) fun i j => .int (i % j)))) (binI0 fun i j => .int (i + j)))))
    nxM)
    nxM)
    (seqM (stM 1 (valM (e2 (xM (e1 (xM (e2 (xM (e2 (varX 1) (xM (kI 48271)) (binI CMul fun i j => .int (i * j)))) (xM (e2 (xM (e2 (varX 0) (xM (kI 3)) ixS)) (xM (kI 69621)) (binI CMul fun i j => .int (i * j)))) (binI0 fun i j => .int (i + j)))) intOf)) (xM (kI 2147483647)) (binI (fun _ j => 0 < j) fun i j => .int (i % j)))))
    (seqM (rtM (valM (e2 (xM (e2 (xM (e1 (xM (e2 (xM (e2 (xM (e2 (varX 1) (varX 1) (binI CMul fun i j => .int (i * j)))) (xM (e2 (xM (e2 (varX 0) (xM (kI 3)) ixS)) (xM (kI 7919)) (binI CMul fun i j => .int (i * j)))) (binI0 fun i j => .int (i + j)))) (xM (kI 11)) (binI0 fun i j => .int (i + j)))) intOf)) (xM (kI 64)) (binI CDiv fun i j => .int (i / j)))) (xM (kI 36028797018963968)) (binI0 fun i j => .int (i + j)))))
    nxM)))))))
theorem D__law_fill (Y : Fc K mg base C_LimitError C_StepError C_TertiumError C_TextError CD_apply P_apply) : DFn P w K mg base 1 "_law_fill" 1 M__law_fill := dfn_of Y.f__law_fill sc__law_fill rfl (by decide) fun f cdv A outer s H E hr =>
    (s1 (ds_setL (pv 0) yI (de_add (DE.y (de_ix (by intro _ _; rfl) (yV (pv 0)) (DE.y yI))) (DE.y yI)))
    (s1 (sS (i := 1) sc__law_fill.nd rfl (by first | exact Or.inl rfl | exact Or.inr rfl) (DE.o (de_add (DE.y (de_mul (DE.y (de_ix (by intro _ _; rfl) (yV (pv 0)) (DE.y yI))) (DE.y yI))) (DE.y yI))) (by decide))
    (s1 (sI (dt_lt (DE.y (de_ix (by intro _ _; rfl) (yV (pv 0)) (DE.y yI))) (DE.y (de_len Y.T rfl (DE.y (de_ix (by intro _ _; rfl) (yV (pv 0)) (DE.y yI))))))
    (s1 (sS (i := 1) sc__law_fill.nd rfl (by first | exact Or.inl rfl | exact Or.inr rfl) (DE.o (de_ix (by intro _ _; rfl) (DE.y (de_ix (by intro _ _; rfl) (yV (pv 0)) (DE.y yI))) (DE.y (de_ix (by intro _ _; rfl) (yV (pv 0)) (DE.y yI))))) (by decide))
    (s1 (ds_setL (pv 0) yI (de_add (DE.y (de_ix (by intro _ _; rfl) (yV (pv 0)) (DE.y yI))) (DE.y yI)))
    (s1 (sI (dt_lt (yV (pv 1)) (DE.y yI))
    (s1 (sS (i := 1) sc__law_fill.nd rfl (by first | exact Or.inl rfl | exact Or.inr rfl) (DE.o (de_sub (DE.y (de_sub (DE.y yI) (DE.y yI))) (yV (pv 1)))) (by decide))
    s0)
    s0)
    (s1 (sI (dt_ge (yV (pv 1)) (DE.y (de_pow (DE.y yI) (DE.y yI))))
    (s1 (sR (yT (pv 1)))
    s0)
    s0)
    s0))))
    s0)
    (s1 (sI (DW.t (wA (dt_tr (DE.y (de_ix (by intro _ _; rfl) (yV (pv 0)) (DE.y yI)))) (dw_and1 (dt_ge (DE.y (de_ix (by intro _ _; rfl) (yV (pv 0)) (DE.y yI))) (DE.y (de_len Y.T rfl (DE.y (de_ix (by intro _ _; rfl) (yV (pv 0)) (DE.y yI)))))))))
    (s1 (sS (i := 1) sc__law_fill.nd rfl (by first | exact Or.inl rfl | exact Or.inr rfl) (DE.o (de_add (yV (pv 1)) (DE.y (de_mod (DE.y (de_intOf Y.T rfl (DE.y (de_ix (by intro _ _; rfl) (DE.y (de_ix (by intro _ _; rfl) (yV (pv 0)) (DE.y yI))) (DE.y (de_neg (DE.y yI))))))) (DE.y yI))))) (by decide))
    s0)
    s0)
    (s1 (sS (i := 1) sc__law_fill.nd rfl (by first | exact Or.inl rfl | exact Or.inr rfl) (DE.o (de_mod (DE.y (de_intOf Y.T rfl (DE.y (de_add (DE.y (de_mul (yV (pv 1)) (DE.y yI))) (DE.y (de_mul (DE.y (de_ix (by intro _ _; rfl) (yV (pv 0)) (DE.y yI))) (DE.y yI))))))) (DE.y yI))) (by decide))
    (s1 (sR (DE.o (de_add (DE.y (de_fdiv (DE.y (de_intOf Y.T rfl (DE.y (de_add (DE.y (de_add (DE.y (de_mul (yV (pv 1)) (yV (pv 1)))) (DE.y (de_mul (DE.y (de_ix (by intro _ _; rfl) (yV (pv 0)) (DE.y yI))) (DE.y yI))))) (DE.y yI))))) (DE.y yI))) (DE.y yI))))
    s0))))))
noncomputable def M__law_take : FM := runF 2 3 [0, 1] ((seqM (ifM (eT (e2 (xM (e2 (varX 0) (xM (kI 2)) ixS)) (varX 1) (binI0 fun i j => .bl (decide (i < j)))))
    (seqM (setLS 0 (frzM (callM M__law_fill (consA (varX 0) nilA))) (kI 2))
    nxM)
    nxM)
    (seqM (stM 2 (valM (e2 (xM (e1 (xM (e2 (varX 0) (xM (kI 2)) ixS)) intOf)) (varX 1) (binI (fun _ j => 0 < j) fun i j => .int (i % j)))))
    (seqM (setLS 0 (e2 (xM (e2 (varX 0) (xM (kI 2)) ixS)) (varX 1) (binI CDiv fun i j => .int (i / j))) (kI 2))
    (seqM (rtM (takeO 2))
    nxM)))))
theorem D__law_take (Y : Fc K mg base C_LimitError C_StepError C_TertiumError C_TextError CD_apply P_apply) : DFn P w K mg base 2 "_law_take" 2 M__law_take := dfn_of Y.f__law_take sc__law_take rfl (by decide) fun f cdv A outer s H E hr =>
    (s1 (sI (dt_lt (DE.y (de_ix (by intro _ _; rfl) (yV (pv 0)) (DE.y yI))) (yV (pv 1)))
    (s1 (ds_setL (pv 0) yI (DO.z (do_call (D__law_fill Y) (hr.mono (by decide)) rfl (a1 (yV (pv 0)) a0))))
    s0)
    s0)
    (s1 (sS (i := 2) sc__law_take.nd rfl (by first | exact Or.inl rfl | exact Or.inr rfl) (DE.o (de_mod (DE.y (de_intOf Y.T rfl (DE.y (de_ix (by intro _ _; rfl) (yV (pv 0)) (DE.y yI))))) (yV (pv 1)))) (by decide))
    (s1 (ds_setL (pv 0) yI (de_fdiv (DE.y (de_ix (by intro _ _; rfl) (yV (pv 0)) (DE.y yI))) (yV (pv 1))))
    (s1 (sR (yT (pv 2)))
    s0))))
noncomputable def M__law_signature : FM := runF 1 2 [0] ((seqM (stM 1 (lstM (consV (tupM (consV (kS (PySem.Str.ofString "a")) (consV (kI 0) nilV))) (consV (tupM (consV (kS (PySem.Str.ofString "f")) (consV (kI 1) nilV))) (consV (tupM (consV (kS (PySem.Str.ofString "g")) (consV (kI 2) nilV))) nilV)))))
    (seqM (ifM (eT (e2 (xM (frzM (callM M__law_take (consA (varX 0) (consA (xM (kI 2)) nilA))))) (xM (kI 0)) fun x y => (eqS x y).map .bl))
    (seqM (exM (valM (appendE 1 (tupM (consV (kS (PySem.Str.ofString "b")) (consV (kI 0) nilV))))))
    nxM)
    nxM)
    (seqM (ifM (eT (e2 (xM (frzM (callM M__law_take (consA (varX 0) (consA (xM (kI 3)) nilA))))) (xM (kI 0)) fun x y => (eqS x y).map .bl))
    (seqM (exM (valM (appendE 1 (tupM (consV (kS (PySem.Str.ofString "h")) (consV (e2 (xM (frzM (lstM (consV (kI 1) (consV (kI 1) (consV (kI 2) (consV (kI 3) nilV))))))) (xM (frzM (callM M__law_take (consA (varX 0) (consA (xM (kI 4)) nilA))))) ixS) nilV))))))
    nxM)
    nxM)
    (seqM (ifM (eT (e2 (xM (frzM (callM M__law_take (consA (varX 0) (consA (xM (kI 4)) nilA))))) (xM (kI 0)) fun x y => (eqS x y).map .bl))
    (seqM (exM (valM (appendE 1 (tupM (consV (kS (PySem.Str.ofString "k")) (consV (e2 (xM (kI 3)) (xM (e1 (xM (e2 (xM (frzM (callM M__law_take (consA (varX 0) (consA (xM (kI 3)) nilA))))) (xM (kI 0)) fun x y => (eqS x y).map .bl)) intOf)) (binI0 fun i j => .int (i + j))) nilV))))))
    nxM)
    nxM)
    (seqM (rtM (takeO 1))
    nxM))))))
theorem D__law_signature (Y : Fc K mg base C_LimitError C_StepError C_TertiumError C_TextError CD_apply P_apply) : DFn P w K mg base 3 "_law_signature" 1 M__law_signature := dfn_of Y.f__law_signature sc__law_signature rfl (by decide) fun f cdv A outer s H E hr =>
    (s1 (sS (i := 1) sc__law_signature.nd rfl (by first | exact Or.inl rfl | exact Or.inr rfl) (oL (v1 (yU (v1 yS (v1 yI v0))) (v1 (yU (v1 yS (v1 yI v0))) (v1 (yU (v1 yS (v1 yI v0))) v0)))) (by decide))
    (s1 (sI (dt_eq (hu64 hr) (DE.y (DO.z (do_call (D__law_take Y) (hr.mono (by decide)) rfl (a1 (yV (pv 0)) (a1 (DE.y yI) a0))))) (DE.y yI))
    (s1 (sE (DE.o (de_append (pv 1) (yU (v1 yS (v1 yI v0))))))
    s0)
    s0)
    (s1 (sI (dt_eq (hu64 hr) (DE.y (DO.z (do_call (D__law_take Y) (hr.mono (by decide)) rfl (a1 (yV (pv 0)) (a1 (DE.y yI) a0))))) (DE.y yI))
    (s1 (sE (DE.o (de_append (pv 1) (yU (v1 yS (v1 (de_ix (by intro _ _; rfl) (DE.y (DO.z (oL (v1 yI (v1 yI (v1 yI (v1 yI v0))))))) (DE.y (DO.z (do_call (D__law_take Y) (hr.mono (by decide)) rfl (a1 (yV (pv 0)) (a1 (DE.y yI) a0)))))) v0))))))
    s0)
    s0)
    (s1 (sI (dt_eq (hu64 hr) (DE.y (DO.z (do_call (D__law_take Y) (hr.mono (by decide)) rfl (a1 (yV (pv 0)) (a1 (DE.y yI) a0))))) (DE.y yI))
    (s1 (sE (DE.o (de_append (pv 1) (yU (v1 yS (v1 (de_add (DE.y yI) (DE.y (de_intOf Y.T rfl (DE.y (de_eq (hu64 hr) (DE.y (DO.z (do_call (D__law_take Y) (hr.mono (by decide)) rfl (a1 (yV (pv 0)) (a1 (DE.y yI) a0))))) (DE.y yI)))))) v0))))))
    s0)
    s0)
    (s1 (sR (yT (pv 1)))
    s0)))))
noncomputable def M__law_term : Nat → FM
  | 0 => fun _ => .stuck
  | n + 1 => runF 4 8 [0, 1, 2, 3] ((seqM (setLS 0 (e2 (xM (e2 (varX 0) (xM (kI 4)) ixS)) (xM (kI 1)) (binI0 fun i j => .int (i - j))) (kI 4))
    (seqM (ifM (orT (andT (e1 (varX 2) truS) (eT (e2 (xM (frzM (callM M__law_take (consA (varX 0) (consA (xM (kI 4)) nilA))))) (xM (kI 0)) fun x y => (eqS x y).map .bl))) (orT (eT (e2 (varX 3) (xM (kI 0)) fun x y => (eqS x y).map .bl)) (eT (e2 (xM (e2 (varX 0) (xM (kI 4)) ixS)) (xM (kI 1)) (binI0 fun i j => .bl (decide (i < j)))))))
    (seqM (stM 4 (e2 (xM (frzM (e1 (varX 2) fun w => (itemsS w).map .lst))) (xM (frzM (lcM (sqI (lockE 1)) (gTupS 2 (gConsS (gNameS 5) (gConsS (gNameS 6) gNilS))) (eT (e2 (varX 6) (xM (kI 0)) fun x y => (eqS x y).map .bl)) (tupM (consV (lockE 5) (consV (tupM nilV) nilV))) [5, 6]))) addS))
    (seqM (rtM (valM (e2 (varX 4) (xM (frzM (callM M__law_take (consA (varX 0) (consA (xM (e1 (varX 4) lenS)) nilA))))) ixS)))
    nxM))
    nxM)
    (seqM (asM (gTupS 2 (gConsS (gNameS 5) (gConsS (gNameS 6) gNilS))) (e2 (varX 1) (xM (frzM (callM M__law_take (consA (varX 0) (consA (xM (e1 (varX 1) lenS)) nilA))))) ixS))
    (seqM (rtM (valM (tupM (consV (lockE 5) (consV (e1 (xM (frzM (lcM (rg1 (consV (lockE 6) nilV)) (gNameS 7) yesT (frzM (callM (M__law_term n) (consA (varX 0) (consA (varX 1) (consA (varX 2) (consA (xM (e2 (varX 3) (xM (kI 1)) (binI0 fun i j => .int (i - j)))) nilA)))))) [7]))) tupS) nilV)))))
    nxM)))))
theorem D__law_term (Y : Fc K mg base C_LimitError C_StepError C_TertiumError C_TextError CD_apply P_apply) : ∀ n : Nat, DFn P w K mg base (2 + n + 1) "_law_term" 4 (M__law_term n)
  | 0 => dfn_no Y.f__law_term sc__law_term rfl
  | n + 1 => dfn_of Y.f__law_term sc__law_term rfl (by decide) fun f cdv A outer s H E hr =>
    (s1 (ds_setL (pv 0) yI (de_sub (DE.y (de_ix (by intro _ _; rfl) (yV (pv 0)) (DE.y yI))) (DE.y yI)))
    (s1 (sI (DW.t (wO (DW.t (wA (dt_tr (yV (pv 2))) (dw_and1 (dt_eq (hu64 hr) (DE.y (DO.z (do_call (D__law_take Y) (hr.mono (by omega)) rfl (a1 (yV (pv 0)) (a1 (DE.y yI) a0))))) (DE.y yI))))) (wO (dt_eq (hu64 hr) (yV (pv 3)) (DE.y yI)) (dw_or1 (dt_lt (DE.y (de_ix (by intro _ _; rfl) (yV (pv 0)) (DE.y yI))) (DE.y yI))))))
    (s1 (sS (i := 4) sc__law_term.nd rfl (by first | exact Or.inl rfl | exact Or.inr rfl) (do_add (DE.y (DO.z (do_list Y.T rfl (yV (pv 2))))) (DE.y (DO.z (do_lc (pn := []) (own := [((PySem.Str.ofString "name"), 5), ((PySem.Str.ofString "many"), 6)]) rfl sc__law_term.nd (iS (yL (pv 1))) (blkOk_by (N := ["c", "sig", "names", "depth_v", "flat", "name", "many", "k"]) (sc := (defScope st__law_term)) (by decide +kernel)) (fun _ _ _ _ _ => (dg_tup rfl (dgs_cons (dg_name (i := 5) sc__law_term.nd rfl (by first | exact Or.inl rfl | exact Or.inr rfl) (by decide)) (dgs_cons (dg_name (i := 6) sc__law_term.nd rfl (by first | exact Or.inl rfl | exact Or.inr rfl) (by decide)) dgs_nil)))) (fun _ _ _ _ _ => (dts_one (dt_eq (hu64 hr) (yV (pv 6)) (DE.y yI)))) (fun _ _ _ _ _ => (yU (v1 (yL (pv 5)) (v1 (yU v0) v0)))))))) (by decide))
    (s1 (sR (DE.o (de_ix (by intro _ _; rfl) (yV (pv 4)) (DE.y (DO.z (do_call (D__law_take Y) (hr.mono (by omega)) rfl (a1 (yV (pv 0)) (a1 (DE.y (de_len Y.T rfl (yV (pv 4)))) a0))))))))
    s0))
    s0)
    (s1 (sA (de_ix (by intro _ _; rfl) (yV (pv 1)) (DE.y (DO.z (do_call (D__law_take Y) (hr.mono (by omega)) rfl (a1 (yV (pv 0)) (a1 (DE.y (de_len Y.T rfl (yV (pv 1)))) a0)))))) (dg_tup rfl (dgs_cons (dg_name (i := 5) sc__law_term.nd rfl (by first | exact Or.inl rfl | exact Or.inr rfl) (by decide)) (dgs_cons (dg_name (i := 6) sc__law_term.nd rfl (by first | exact Or.inl rfl | exact Or.inr rfl) (by decide)) dgs_nil))))
    (s1 (sR (DE.o (yU (v1 (yL (pv 5)) (v1 (de_tup1 rfl Y.T rfl (DE.y (DO.z (do_lc (pn := []) (own := [((PySem.Str.ofString "k"), 7)]) rfl sc__law_term.nd (iR1 Y.T rfl (v1 (yL (pv 6)) v0)) (blkOk_by (N := ["c", "sig", "names", "depth_v", "flat", "name", "many", "k"]) (sc := (defScope st__law_term)) (by decide +kernel)) (fun _ _ _ _ _ => (dg_name (i := 7) sc__law_term.nd rfl (by first | exact Or.inl rfl | exact Or.inr rfl) (by decide))) (fun _ _ _ _ _ => q0) (fun _ _ _ _ _ => (DO.z (do_call (D__law_term Y n) (hr.mono (by omega)) rfl (a1 (yV (pv 0)) (a1 (yV (pv 1)) (a1 (yV (pv 2)) (a1 (DE.y (de_sub (yV (pv 3)) (DE.y yI))) a0))))))))))) v0)))))
    s0))))
noncomputable def C__law_places_1 : DS → ER Py := (frzM (e2 (xM (tupM (consV (lockE 2) nilV))) (varX 3) addS))
noncomputable def B__law_places_2 (R : FM) : DS → SO := (seqM (stM 1 (e2 (varX 1) (xM (frzM (lcM (sqI (frzM (callM R (consA (xM (e2 (xM (e2 (varX 0) (xM (kI 1)) ixS)) (varX 2) ixS)) nilA)))) (gNameS 3) yesT C__law_places_1 [3]))) addS))
    nxM)
noncomputable def M__law_places : Nat → FM
  | 0 => fun _ => .stuck
  | n + 1 => runF 1 4 [0] ((seqM (stM 1 (lstM (consV (tupM nilV) nilV)))
    (seqM (ifM (eT (e1 (varX 0) fun w => (isiS .tuple w).map .bl))
    (seqM (forM (rg1 (consV (e1 (xM (e2 (varX 0) (xM (kI 1)) ixS)) lenS) nilV)) (gNameS 2)
    (B__law_places_2 (M__law_places n)))
    nxM)
    nxM)
    (seqM (rtM (takeO 1))
    nxM))))
theorem D__law_places (Y : Fc K mg base C_LimitError C_StepError C_TertiumError C_TextError CD_apply P_apply) : ∀ n : Nat, DFn P w K mg base (0 + n + 1) "_law_places" 1 (M__law_places n)
  | 0 => dfn_no Y.f__law_places sc__law_places rfl
  | n + 1 => dfn_of Y.f__law_places sc__law_places rfl (by decide) fun f cdv A outer s H E hr =>
    (s1 (sS (i := 1) sc__law_places.nd rfl (by first | exact Or.inl rfl | exact Or.inr rfl) (oL (v1 (yU v0) v0)) (by decide))
    (s1 (sI (tBe (de_isi .tuple Y.T rfl rfl (yV (pv 0))))
    (s1 (sF (passes_of rfl) rfl (iR1 Y.T rfl (v1 (de_len Y.T rfl (DE.y (de_ix (by intro _ _; rfl) (yV (pv 0)) (DE.y yI)))) v0)) (dg_name (i := 2) sc__law_places.nd rfl (by first | exact Or.inl rfl | exact Or.inr rfl) (by decide))
    (s1 (sS (i := 1) sc__law_places.nd rfl (by first | exact Or.inl rfl | exact Or.inr rfl) (do_add (yV (pv 1)) (DE.y (DO.z (do_lc (pn := []) (own := [((PySem.Str.ofString "p"), 3)]) rfl sc__law_places.nd (iS (DO.z (do_call (D__law_places Y n) (hr.mono (by omega)) rfl (a1 (DE.y (de_ix (by intro _ _; rfl) (DE.y (de_ix (by intro _ _; rfl) (yV (pv 0)) (DE.y yI))) (yV (pv 2)))) a0)))) (blkOk_by (N := ["t", "found", "k", "p"]) (sc := (defScope st__law_places)) (by decide +kernel)) (fun _ _ _ _ _ => (dg_name (i := 3) sc__law_places.nd rfl (by first | exact Or.inl rfl | exact Or.inr rfl) (by decide))) (fun _ _ _ _ _ => q0) (fun _ _ _ _ _ => (DO.z (do_add (DE.y (yU (v1 (yL (pv 2)) v0))) (yV (pv 3))))))))) (by decide))
    s0))
    s0)
    s0)
    (s1 (sR (yT (pv 1)))
    s0)))
noncomputable def B__law_at_1 : DS → SO := (seqM (ifM (orT (eT (e1 (varX 0) fun w => (isiS .str w).map .bl)) (orT (notT (eT (e1 (varX 2) fun w => (isiS .int w).map .bl))) (orT (eT (e2 (varX 2) (xM (kI 0)) (binI0 fun i j => .bl (decide (i < j))))) (eT (e2 (varX 2) (xM (e1 (xM (e2 (varX 0) (xM (kI 1)) ixS)) lenS)) (binI0 fun i j => .bl (decide (j ≤ i))))))))
    (seqM (rtM (valM kN))
    nxM)
    nxM)
    (seqM (stM 0 (valM (e2 (xM (e2 (varX 0) (xM (kI 1)) ixS)) (varX 2) ixS)))
    nxM))
noncomputable def M__law_at : FM := runF 2 3 [1] ((seqM (forM (sqI (lockE 1)) (gNameS 2)
    B__law_at_1)
    (seqM (rtM (takeO 0))
    nxM)))
theorem D__law_at (Y : Fc K mg base C_LimitError C_StepError C_TertiumError C_TextError CD_apply P_apply) : DFn P w K mg base 1 "_law_at" 2 M__law_at := dfn_of Y.f__law_at sc__law_at rfl (by decide) fun f cdv A outer s H E hr =>
    (s1 (sF (passes_of rfl) rfl (iS (yL (pv 1))) (dg_name (i := 2) sc__law_at.nd rfl (by first | exact Or.inl rfl | exact Or.inr rfl) (by decide))
    (s1 (sI (DW.t (wO (tBe (de_isi .str Y.T rfl rfl (yV (pv 0)))) (wO (tN (tBe (de_isi .int Y.T rfl rfl (yV (pv 2))))) (wO (dt_lt (yV (pv 2)) (DE.y yI)) (dw_or1 (dt_ge (yV (pv 2)) (DE.y (de_len Y.T rfl (DE.y (de_ix (by intro _ _; rfl) (yV (pv 0)) (DE.y yI)))))))))))
    (s1 (sR (DE.o yN))
    s0)
    s0)
    (s1 (sS (i := 0) sc__law_at.nd rfl (by first | exact Or.inl rfl | exact Or.inr rfl) (DE.o (de_ix (by intro _ _; rfl) (DE.y (de_ix (by intro _ _; rfl) (yV (pv 0)) (DE.y yI))) (yV (pv 2)))) (by decide))
    s0)))
    (s1 (sR (yT (pv 0)))
    s0))
noncomputable def B__law_names_1 : DS → SO := (seqM (stM 3 (callM M__law_at (consA (varX 0) (consA (varX 2) nilA))))
    (seqM (ifM (andT (eT (e1 (varX 3) fun w => (isiS .str w).map .bl)) (eT (e2 (varX 3) (varX 1) fun x y => (inS x y).map fun k => .bl (!k))))
    (seqM (exM (valM (appendE 1 (lockE 3))))
    nxM)
    nxM)
    nxM))
noncomputable def M__law_names : FM := runF 1 4 [0] ((seqM (stM 1 (lstM nilV))
    (seqM (forM (sqI (frzM (callM (M__law_places 150) (consA (varX 0) nilA)))) (gNameS 2)
    B__law_names_1)
    (seqM (rtM (valM (e1 (varX 1) tupS)))
    nxM))))
theorem D__law_names (Y : Fc K mg base C_LimitError C_StepError C_TertiumError C_TextError CD_apply P_apply) : DFn P w K mg base 152 "_law_names" 1 M__law_names := dfn_of Y.f__law_names sc__law_names rfl (by decide) fun f cdv A outer s H E hr =>
    (s1 (sS (i := 1) sc__law_names.nd rfl (by first | exact Or.inl rfl | exact Or.inr rfl) (oL v0) (by decide))
    (s1 (sF (passes_of rfl) rfl (iS (DO.z (do_call (D__law_places Y 150) (hr.mono (by decide)) rfl (a1 (yV (pv 0)) a0)))) (dg_name (i := 2) sc__law_names.nd rfl (by first | exact Or.inl rfl | exact Or.inr rfl) (by decide))
    (s1 (sS (i := 3) sc__law_names.nd rfl (by first | exact Or.inl rfl | exact Or.inr rfl) (do_call (D__law_at Y) (hr.mono (by decide)) rfl (a1 (yV (pv 0)) (a1 (yV (pv 2)) a0))) (by decide))
    (s1 (sI (DW.t (wA (tBe (de_isi .str Y.T rfl rfl (yV (pv 3)))) (dw_and1 (dt_notIn (hu65 hr) (by rfl) (yV (pv 3)) (yV (pv 1))))))
    (s1 (sE (DE.o (de_append (pv 1) (yL (pv 3)))))
    s0)
    s0)
    s0)))
    (s1 (sR (DE.o (de_tup1 rfl Y.T rfl (yV (pv 1)))))
    s0)))
noncomputable def M__law_rule : FM := runF 4 6 [0, 1, 2, 3] ((seqM (stM 4 (callM (M__law_term 13) (consA (varX 0) (consA (varX 1) (consA (varX 2) (consA (varX 3) nilA))))))
    (seqM (ifM (eT (e1 (varX 4) fun w => (isiS .str w).map .bl))
    (seqM (stM 4 (valM (tupM (consV (kS (PySem.Str.ofString "f")) (consV (tupM (consV (lockE 4) nilV)) nilV)))))
    nxM)
    nxM)
    (seqM (setLS 0 (kI 7) (kI 4))
    (seqM (stM 5 (valM (frzM (e1 (xM (frzM (callM M__law_names (consA (varX 4) nilA)))) fun w => (itemsS w).map .lst))))
    (seqM (rtM (valM (tupM (consV (lockE 4) (consV (frzM (callM (M__law_term 13) (consA (varX 0) (consA (varX 1) (consA (varX 5) (consA (xM (e2 (xM (e2 (varX 3) (xM (kI 1)) (binI0 fun i j => .int (i - j)))) (xM (frzM (callM M__law_take (consA (varX 0) (consA (xM (kI 2)) nilA))))) (binI0 fun i j => .int (i + j)))) nilA)))))) nilV)))))
    nxM))))))
theorem D__law_rule (Y : Fc K mg base C_LimitError C_StepError C_TertiumError C_TextError CD_apply P_apply) : DFn P w K mg base 153 "_law_rule" 4 M__law_rule := dfn_of Y.f__law_rule sc__law_rule rfl (by decide) fun f cdv A outer s H E hr =>
    (s1 (sS (i := 4) sc__law_rule.nd rfl (by first | exact Or.inl rfl | exact Or.inr rfl) (do_call (D__law_term Y 13) (hr.mono (by decide)) rfl (a1 (yV (pv 0)) (a1 (yV (pv 1)) (a1 (yV (pv 2)) (a1 (yV (pv 3)) a0))))) (by decide))
    (s1 (sI (tBe (de_isi .str Y.T rfl rfl (yV (pv 4))))
    (s1 (sS (i := 4) sc__law_rule.nd rfl (by first | exact Or.inl rfl | exact Or.inr rfl) (DE.o (yU (v1 yS (v1 (yU (v1 (yL (pv 4)) v0)) v0)))) (by decide))
    s0)
    s0)
    (s1 (ds_setL (pv 0) yI yI)
    (s1 (sS (i := 5) sc__law_rule.nd rfl (by first | exact Or.inl rfl | exact Or.inr rfl) (DE.o (DO.z (do_list Y.T rfl (DE.y (DO.z (do_call (D__law_names Y) (hr.mono (by decide)) rfl (a1 (yV (pv 4)) a0))))))) (by decide))
    (s1 (sR (DE.o (yU (v1 (yL (pv 4)) (v1 (DO.z (do_call (D__law_term Y 13) (hr.mono (by decide)) rfl (a1 (yV (pv 0)) (a1 (yV (pv 1)) (a1 (yV (pv 5)) (a1 (DE.y (de_add (DE.y (de_sub (yV (pv 3)) (DE.y yI))) (DE.y (DO.z (do_call (D__law_take Y) (hr.mono (by decide)) rfl (a1 (yV (pv 0)) (a1 (DE.y yI) a0))))))) a0)))))) v0)))))
    s0)))))
noncomputable def B__law_system_1 : DS → SO := (seqM (setLS 0 (kI 7) (kI 4))
    (seqM (stM 5 (valM (e2 (xM (frzM (lstM (consV (frzM (lstM (consV (kS (PySem.Str.ofString "x")) (consV (kS (PySem.Str.ofString "y")) (consV (kS (PySem.Str.ofString "z")) (consV (kS (PySem.Str.ofString "w")) (consV (kS (PySem.Str.ofString "v")) nilV))))))) (consV (frzM (lstM (consV (kS (PySem.Str.ofString "x")) (consV (kS (PySem.Str.ofString "x1")) (consV (kS (PySem.Str.ofString "x12")) (consV (kS (PySem.Str.ofString "x2")) (consV (kS (PySem.Str.ofString "zero")) nilV))))))) (consV (frzM (lstM (consV (kS (PySem.Str.ofString "u1")) (consV (kS (PySem.Str.ofString "u0")) (consV (kS (PySem.Str.ofString "u")) (consV (kS (PySem.Str.ofString "u2")) (consV (kS (PySem.Str.ofString "y")) nilV))))))) (consV (frzM (lstM (consV (kS (PySem.Str.ofString "y")) (consV (kS (PySem.Str.ofString "x2")) (consV (kS (PySem.Str.ofString "x")) (consV (kS (PySem.Str.ofString "value")) (consV (kS (PySem.Str.ofString "z9")) nilV))))))) nilV))))))) (xM (frzM (callM M__law_take (consA (varX 0) (consA (xM (kI 4)) nilA))))) ixS)))
    (seqM (exM (valM (appendE 3 (frzM (callM M__law_rule (consA (varX 0) (consA (varX 1) (consA (xM (frzM (slM (varX 5) pN (pS (e2 (xM (kI 1)) (xM (e2 (xM (frzM (lstM (consV (frzM (callM M__law_take (consA (varX 0) (consA (xM (kI 3)) nilA)))) (consV (frzM (callM M__law_take (consA (varX 0) (consA (xM (kI 5)) nilA)))) nilV))))) (xM (frzM (callM M__law_take (consA (varX 0) (consA (xM (kI 2)) nilA))))) ixS)) (binI0 fun i j => .int (i + j))))))) (consA (xM (e2 (xM (kI 1)) (xM (frzM (callM M__law_take (consA (varX 0) (consA (xM (kI 3)) nilA))))) (binI0 fun i j => .int (i + j)))) nilA)))))))))
    nxM)))
noncomputable def M__law_system : FM := runF 3 6 [0, 1, 2] ((seqM (stM 3 (lstM nilV))
    (seqM (forM (rg1 (consV (frzM (callM M__law_take (consA (varX 0) (consA (xM (e2 (varX 2) (xM (kI 1)) (binI0 fun i j => .int (i + j)))) nilA)))) nilV)) (gNameS 4)
    B__law_system_1)
    (seqM (rtM (valM (e1 (varX 3) tupS)))
    nxM))))
theorem D__law_system (Y : Fc K mg base C_LimitError C_StepError C_TertiumError C_TextError CD_apply P_apply) : DFn P w K mg base 154 "_law_system" 3 M__law_system := dfn_of Y.f__law_system sc__law_system rfl (by decide) fun f cdv A outer s H E hr =>
    (s1 (sS (i := 3) sc__law_system.nd rfl (by first | exact Or.inl rfl | exact Or.inr rfl) (oL v0) (by decide))
    (s1 (sF (passes_of rfl) rfl (iR1 Y.T rfl (v1 (DO.z (do_call (D__law_take Y) (hr.mono (by decide)) rfl (a1 (yV (pv 0)) (a1 (DE.y (de_add (yV (pv 2)) (DE.y yI))) a0)))) v0)) (dg_name (i := 4) sc__law_system.nd rfl (by first | exact Or.inl rfl | exact Or.inr rfl) (by decide))
    (s1 (ds_setL (pv 0) yI yI)
    (s1 (sS (i := 5) sc__law_system.nd rfl (by first | exact Or.inl rfl | exact Or.inr rfl) (DE.o (de_ix (by intro _ _; rfl) (DE.y (DO.z (oL (v1 (DO.z (oL (v1 yS (v1 yS (v1 yS (v1 yS (v1 yS v0))))))) (v1 (DO.z (oL (v1 yS (v1 yS (v1 yS (v1 yS (v1 yS v0))))))) (v1 (DO.z (oL (v1 yS (v1 yS (v1 yS (v1 yS (v1 yS v0))))))) (v1 (DO.z (oL (v1 yS (v1 yS (v1 yS (v1 yS (v1 yS v0))))))) v0))))))) (DE.y (DO.z (do_call (D__law_take Y) (hr.mono (by decide)) rfl (a1 (yV (pv 0)) (a1 (DE.y yI) a0))))))) (by decide))
    (s1 (sE (DE.o (de_append (pv 3) (DO.z (do_call (D__law_rule Y) (hr.mono (by decide)) rfl (a1 (yV (pv 0)) (a1 (yV (pv 1)) (a1 (DE.y (DO.z (oSl (yV (pv 5)) p0 (p1 (de_add (DE.y yI) (DE.y (de_ix (by intro _ _; rfl) (DE.y (DO.z (oL (v1 (DO.z (do_call (D__law_take Y) (hr.mono (by decide)) rfl (a1 (yV (pv 0)) (a1 (DE.y yI) a0)))) (v1 (DO.z (do_call (D__law_take Y) (hr.mono (by decide)) rfl (a1 (yV (pv 0)) (a1 (DE.y yI) a0)))) v0))))) (DE.y (DO.z (do_call (D__law_take Y) (hr.mono (by decide)) rfl (a1 (yV (pv 0)) (a1 (DE.y yI) a0)))))))))))) (a1 (DE.y (de_add (DE.y yI) (DE.y (DO.z (do_call (D__law_take Y) (hr.mono (by decide)) rfl (a1 (yV (pv 0)) (a1 (DE.y yI) a0))))))) a0)))))))))
    s0))))
    (s1 (sR (DE.o (de_tup1 rfl Y.T rfl (yV (pv 3)))))
    s0)))
noncomputable def C__law_match_1 (R : FM) : DS → ER Py := (frzM (callM R (consA (xM (e2 (xM (e2 (varX 0) (xM (kI 1)) ixS)) (varX 3) ixS)) (consA (xM (e2 (xM (e2 (varX 1) (xM (kI 1)) ixS)) (varX 3) ixS)) (consA (varX 2) nilA)))))
noncomputable def M__law_match : Nat → FM
  | 0 => fun _ => .stuck
  | n + 1 => runF 3 4 [0, 1, 2] ((seqM (ifM (eT (e1 (varX 0) fun w => (isiS .str w).map .bl))
    (seqM (ifM (eT (e2 (varX 0) (varX 2) hasS))
    (seqM (rtM (valM (e2 (xM (e2 (varX 2) (varX 0) dixS)) (varX 1) fun x y => (eqS x y).map .bl)))
    nxM)
    nxM)
    (seqM (dputM 2 (lockE 1) (lockE 0))
    (seqM (rtM (valM (kB true)))
    nxM)))
    nxM)
    (seqM (ifM (orT (eT (e1 (varX 1) fun w => (isiS .str w).map .bl)) (orT (eT (e2 (xM (e2 (varX 1) (xM (kI 0)) ixS)) (xM (e2 (varX 0) (xM (kI 0)) ixS)) fun x y => (eqS x y).map fun k => .bl (!k))) (eT (e2 (xM (e1 (xM (e2 (varX 1) (xM (kI 1)) ixS)) lenS)) (xM (e1 (xM (e2 (varX 0) (xM (kI 1)) ixS)) lenS)) fun x y => (eqS x y).map fun k => .bl (!k)))))
    (seqM (rtM (valM (kB false)))
    nxM)
    nxM)
    (seqM (rtM (valM (e1 (xM (frzM (lcM (rg1 (consV (e1 (xM (e2 (varX 1) (xM (kI 1)) ixS)) lenS) nilV)) (gNameS 3) yesT (C__law_match_1 (M__law_match n)) [3]))) allS)))
    nxM))))
theorem D__law_match (Y : Fc K mg base C_LimitError C_StepError C_TertiumError C_TextError CD_apply P_apply) : ∀ n : Nat, DFn P w K mg base (0 + n + 1) "_law_match" 3 (M__law_match n)
  | 0 => dfn_no Y.f__law_match sc__law_match rfl
  | n + 1 => dfn_of Y.f__law_match sc__law_match rfl (by decide) fun f cdv A outer s H E hr =>
    (s1 (sI (tBe (de_isi .str Y.T rfl rfl (yV (pv 0))))
    (s1 (sI (dt_din (hu_of hr) (by rfl) (yV (pv 0)) (yV (pv 2)))
    (s1 (sR (DE.o (de_eq (hu64 hr) (DE.y (de_dix (hu_of hr) (by intro _ _; rfl) (yV (pv 2)) (yV (pv 0)))) (yV (pv 1)))))
    s0)
    s0)
    (s1 (ds_dput (hu_of hr) (pv 2) (yL (pv 0)) (yL (pv 1)))
    (s1 (sR (DE.o yB))
    s0)))
    s0)
    (s1 (sI (DW.t (wO (tBe (de_isi .str Y.T rfl rfl (yV (pv 1)))) (wO (dt_ne (hu64 hr) (DE.y (de_ix (by intro _ _; rfl) (yV (pv 1)) (DE.y yI))) (DE.y (de_ix (by intro _ _; rfl) (yV (pv 0)) (DE.y yI)))) (dw_or1 (dt_ne (hu64 hr) (DE.y (de_len Y.T rfl (DE.y (de_ix (by intro _ _; rfl) (yV (pv 1)) (DE.y yI))))) (DE.y (de_len Y.T rfl (DE.y (de_ix (by intro _ _; rfl) (yV (pv 0)) (DE.y yI))))))))))
    (s1 (sR (DE.o yB))
    s0)
    s0)
    (s1 (sR (DE.o (de_all rfl Y.T rfl (DE.y (DO.z (do_lc (pn := []) (own := [((PySem.Str.ofString "k"), 3)]) rfl sc__law_match.nd (iR1 Y.T rfl (v1 (de_len Y.T rfl (DE.y (de_ix (by intro _ _; rfl) (yV (pv 1)) (DE.y yI)))) v0)) (blkOk_by (N := ["pattern", "t", "s", "k"]) (sc := (defScope st__law_match)) (by decide +kernel)) (fun _ _ _ _ _ => (dg_name (i := 3) sc__law_match.nd rfl (by first | exact Or.inl rfl | exact Or.inr rfl) (by decide))) (fun _ _ _ _ _ => q0) (fun _ _ _ _ _ => (DO.z (do_call (D__law_match Y n) (hr.mono (by omega)) rfl (a1 (DE.y (de_ix (by intro _ _; rfl) (DE.y (de_ix (by intro _ _; rfl) (yV (pv 0)) (DE.y yI))) (yV (pv 3)))) (a1 (DE.y (de_ix (by intro _ _; rfl) (DE.y (de_ix (by intro _ _; rfl) (yV (pv 1)) (DE.y yI))) (yV (pv 3)))) (a1 (yV (pv 2)) a0))))))))))))
    s0)))
noncomputable def M__law_put : Nat → FM
  | 0 => fun _ => .stuck
  | n + 1 => runF 3 3 [0, 1, 2] ((seqM (ifM (eT (e2 (varX 1) (xM (tupM nilV)) fun x y => (eqS x y).map .bl))
    (seqM (rtM (takeO 2))
    nxM)
    nxM)
    (seqM (rtM (valM (tupM (consV (e2 (varX 0) (xM (kI 0)) ixS) (consV (frzM (e2 (xM (frzM (e2 (xM (frzM (slM (xM (e2 (varX 0) (xM (kI 1)) ixS)) pN (pS (e2 (varX 1) (xM (kI 0)) ixS))))) (xM (tupM (consV (frzM (callM (M__law_put n) (consA (xM (e2 (xM (e2 (varX 0) (xM (kI 1)) ixS)) (xM (e2 (varX 1) (xM (kI 0)) ixS)) ixS)) (consA (xM (frzM (slM (varX 1) (pS (kI 1)) pN))) (consA (varX 2) nilA))))) nilV))) addS))) (xM (frzM (slM (xM (e2 (varX 0) (xM (kI 1)) ixS)) (pS (e2 (xM (e2 (varX 1) (xM (kI 0)) ixS)) (xM (kI 1)) (binI0 fun i j => .int (i + j)))) pN))) addS)) nilV)))))
    nxM)))
theorem D__law_put (Y : Fc K mg base C_LimitError C_StepError C_TertiumError C_TextError CD_apply P_apply) : ∀ n : Nat, DFn P w K mg base (0 + n + 1) "_law_put" 3 (M__law_put n)
  | 0 => dfn_no Y.f__law_put sc__law_put rfl
  | n + 1 => dfn_of Y.f__law_put sc__law_put rfl (by decide) fun f cdv A outer s H E hr =>
    (s1 (sI (dt_eq (hu64 hr) (yV (pv 1)) (DE.y (yU v0)))
    (s1 (sR (yT (pv 2)))
    s0)
    s0)
    (s1 (sR (DE.o (yU (v1 (de_ix (by intro _ _; rfl) (yV (pv 0)) (DE.y yI)) (v1 (DO.z (do_add (DE.y (DO.z (do_add (DE.y (DO.z (oSl (DE.y (de_ix (by intro _ _; rfl) (yV (pv 0)) (DE.y yI))) p0 (p1 (de_ix (by intro _ _; rfl) (yV (pv 1)) (DE.y yI)))))) (DE.y (yU (v1 (DO.z (do_call (D__law_put Y n) (hr.mono (by omega)) rfl (a1 (DE.y (de_ix (by intro _ _; rfl) (DE.y (de_ix (by intro _ _; rfl) (yV (pv 0)) (DE.y yI))) (DE.y (de_ix (by intro _ _; rfl) (yV (pv 1)) (DE.y yI))))) (a1 (DE.y (DO.z (oSl (yV (pv 1)) (p1 yI) p0))) (a1 (yV (pv 2)) a0))))) v0)))))) (DE.y (DO.z (oSl (DE.y (de_ix (by intro _ _; rfl) (yV (pv 0)) (DE.y yI))) (p1 (de_add (DE.y (de_ix (by intro _ _; rfl) (yV (pv 1)) (DE.y yI))) (DE.y yI))) p0))))) v0)))))
    s0))
noncomputable def C__law_apply_1 (R : FM) : DS → ER Py := (frzM (callM R (consA (varX 0) (consA (varX 2) nilA))))
noncomputable def M__law_apply : Nat → FM
  | 0 => fun _ => .stuck
  | n + 1 => runF 2 3 [0, 1] ((seqM (ifM (eT (e1 (varX 1) fun w => (isiS .str w).map .bl))
    (seqM (rtM (valM (getM2 (varX 0) (lockE 1) (lockE 1))))
    nxM)
    nxM)
    (seqM (rtM (valM (tupM (consV (e2 (varX 1) (xM (kI 0)) ixS) (consV (e1 (xM (frzM (lcM (sqI (e2 (varX 1) (xM (kI 1)) ixS)) (gNameS 2) yesT (C__law_apply_1 (M__law_apply n)) [2]))) tupS) nilV)))))
    nxM)))
theorem D__law_apply (Y : Fc K mg base C_LimitError C_StepError C_TertiumError C_TextError CD_apply P_apply) : ∀ n : Nat, DFn P w K mg base (0 + n + 1) "_law_apply" 2 (M__law_apply n)
  | 0 => dfn_no Y.f__law_apply sc__law_apply rfl
  | n + 1 => dfn_of Y.f__law_apply sc__law_apply rfl (by decide) fun f cdv A outer s H E hr =>
    (s1 (sI (tBe (de_isi .str Y.T rfl rfl (yV (pv 1))))
    (s1 (sR (DE.o (de_dget2 (hu_of hr) (yV (pv 0)) (yL (pv 1)) (yL (pv 1)) ⟨rfl, rfl, rfl, rfl⟩)))
    s0)
    s0)
    (s1 (sR (DE.o (yU (v1 (de_ix (by intro _ _; rfl) (yV (pv 1)) (DE.y yI)) (v1 (de_tup1 rfl Y.T rfl (DE.y (DO.z (do_lc (pn := []) (own := [((PySem.Str.ofString "part"), 2)]) rfl sc__law_apply.nd (iS (de_ix (by intro _ _; rfl) (yV (pv 1)) (DE.y yI))) (blkOk_by (N := ["s", "t", "part"]) (sc := (defScope st__law_apply)) (by decide +kernel)) (fun _ _ _ _ _ => (dg_name (i := 2) sc__law_apply.nd rfl (by first | exact Or.inl rfl | exact Or.inr rfl) (by decide))) (fun _ _ _ _ _ => q0) (fun _ _ _ _ _ => (DO.z (do_call (D__law_apply Y n) (hr.mono (by omega)) rfl (a1 (yV (pv 0)) (a1 (yV (pv 2)) a0))))))))) v0)))))
    s0))
noncomputable def B__law_steps_1 : DS → SO := (seqM (stM 6 dic0)
    (seqM (ifM (e1 (xM (frzM (callM (M__law_match 12) (consA (xM (e2 (xM (e2 (varX 0) (varX 5) ixS)) (xM (kI 0)) ixS)) (consA (varX 4) (consA (varX 6) nilA)))))) truS)
    (seqM (exM (valM (appendE 2 (tupM (consV (tupM (consV (lockE 3) (consV (lockE 5) nilV))) (consV (frzM (callM (M__law_put 100) (consA (varX 1) (consA (varX 3) (consA (xM (frzM (callM (M__law_apply 12) (consA (varX 6) (consA (xM (e2 (xM (e2 (varX 0) (varX 5) ixS)) (xM (kI 1)) ixS)) nilA))))) nilA))))) nilV))))))
    nxM)
    nxM)
    nxM))
noncomputable def B__law_steps_2 : DS → SO := (seqM (stM 4 (callM M__law_at (consA (varX 1) (consA (varX 3) nilA))))
    (seqM (forM (rg1 (consV (e1 (varX 0) lenS) nilV)) (gNameS 5)
    B__law_steps_1)
    nxM))
noncomputable def M__law_steps : FM := runF 2 7 [0, 1] ((seqM (stM 2 (lstM nilV))
    (seqM (forM (sqI (frzM (callM (M__law_places 150) (consA (varX 1) nilA)))) (gNameS 3)
    B__law_steps_2)
    (seqM (rtM (takeO 2))
    nxM))))
theorem D__law_steps (Y : Fc K mg base C_LimitError C_StepError C_TertiumError C_TextError CD_apply P_apply) : DFn P w K mg base 152 "_law_steps" 2 M__law_steps := dfn_of Y.f__law_steps sc__law_steps rfl (by decide) fun f cdv A outer s H E hr =>
    (s1 (sS (i := 2) sc__law_steps.nd rfl (by first | exact Or.inl rfl | exact Or.inr rfl) (oL v0) (by decide))
    (s1 (sF (passes_of rfl) rfl (iS (DO.z (do_call (D__law_places Y 150) (hr.mono (by decide)) rfl (a1 (yV (pv 1)) a0)))) (dg_name (i := 3) sc__law_steps.nd rfl (by first | exact Or.inl rfl | exact Or.inr rfl) (by decide))
    (s1 (sS (i := 4) sc__law_steps.nd rfl (by first | exact Or.inl rfl | exact Or.inr rfl) (do_call (D__law_at Y) (hr.mono (by decide)) rfl (a1 (yV (pv 1)) (a1 (yV (pv 3)) a0))) (by decide))
    (s1 (sF (passes_of rfl) rfl (iR1 Y.T rfl (v1 (de_len Y.T rfl (yV (pv 0))) v0)) (dg_name (i := 5) sc__law_steps.nd rfl (by first | exact Or.inl rfl | exact Or.inr rfl) (by decide))
    (s1 (sS (i := 6) sc__law_steps.nd rfl (by first | exact Or.inl rfl | exact Or.inr rfl) oD0 (by decide))
    (s1 (sI (dt_tr (DE.y (DO.z (do_call (D__law_match Y 12) (hr.mono (by decide)) rfl (a1 (DE.y (de_ix (by intro _ _; rfl) (DE.y (de_ix (by intro _ _; rfl) (yV (pv 0)) (yV (pv 5)))) (DE.y yI))) (a1 (yV (pv 4)) (a1 (yV (pv 6)) a0)))))))
    (s1 (sE (DE.o (de_append (pv 2) (yU (v1 (yU (v1 (yL (pv 3)) (v1 (yL (pv 5)) v0))) (v1 (DO.z (do_call (D__law_put Y 100) (hr.mono (by decide)) rfl (a1 (yV (pv 1)) (a1 (yV (pv 3)) (a1 (DE.y (DO.z (do_call (D__law_apply Y 12) (hr.mono (by decide)) rfl (a1 (yV (pv 6)) (a1 (DE.y (de_ix (by intro _ _; rfl) (DE.y (de_ix (by intro _ _; rfl) (yV (pv 0)) (yV (pv 5)))) (DE.y yI))) a0))))) a0))))) v0))))))
    s0)
    s0)
    s0)))
    s0)))
    (s1 (sR (yT (pv 2)))
    s0)))
noncomputable def Q__law_led_1 : DS → ER Bool := (eT (e2 (varX 5) (varX 3) fun x y => (eqS x y).map .bl))
noncomputable def C__law_led_2 : DS → ER Py := (lockE 6)
noncomputable def B__law_led_3 : DS → SO := (seqM (stM 4 (lcM (sqI (frzM (callM M__law_steps (consA (varX 0) (consA (varX 1) nilA))))) (gTupS 2 (gConsS (gNameS 5) (gConsS (gNameS 6) gNilS))) Q__law_led_1 C__law_led_2 [5, 6]))
    (seqM (ifM (eT (e2 (xM (e1 (varX 4) lenS)) (xM (kI 0)) fun x y => (eqS x y).map .bl))
    (seqM (rtM (valM kN))
    nxM)
    nxM)
    (seqM (stM 1 (valM (e2 (varX 4) (xM (kI 0)) ixS)))
    nxM)))
noncomputable def M__law_led : FM := runF 3 7 [0, 2] ((seqM (ifM (notT (eT (e1 (varX 2) fun w => (isiS .tuple w).map .bl)))
    (seqM (rtM (valM kN))
    nxM)
    nxM)
    (seqM (forM (sqI (lockE 2)) (gNameS 3)
    B__law_led_3)
    (seqM (rtM (takeO 1))
    nxM))))
theorem D__law_led (Y : Fc K mg base C_LimitError C_StepError C_TertiumError C_TextError CD_apply P_apply) : DFn P w K mg base 153 "_law_led" 3 M__law_led := dfn_of Y.f__law_led sc__law_led rfl (by decide) fun f cdv A outer s H E hr =>
    (s1 (sI (tN (tBe (de_isi .tuple Y.T rfl rfl (yV (pv 2)))))
    (s1 (sR (DE.o yN))
    s0)
    s0)
    (s1 (sF (passes_of rfl) rfl (iS (yL (pv 2))) (dg_name (i := 3) sc__law_led.nd rfl (by first | exact Or.inl rfl | exact Or.inr rfl) (by decide))
    (s1 (ds_setLc (i := 4) (pn := []) (own := [((PySem.Str.ofString "told"), 5), ((PySem.Str.ofString "result"), 6)]) rfl sc__law_led.nd rfl rfl (sw_true rfl rfl rfl (by decide +kernel)) (iS (DO.z (do_call (D__law_steps Y) (hr.mono (by decide)) rfl (a1 (yV (pv 0)) (a1 (yV (pv 1)) a0))))) (blkOk_by (N := ["system", "t", "steps", "one", "found", "told", "result"]) (sc := (defScope st__law_led)) (by decide +kernel)) (fun _ _ _ _ _ => (dg_tup rfl (dgs_cons (dg_name (i := 5) sc__law_led.nd rfl (by first | exact Or.inl rfl | exact Or.inr rfl) (by decide)) (dgs_cons (dg_name (i := 6) sc__law_led.nd rfl (by first | exact Or.inl rfl | exact Or.inr rfl) (by decide)) dgs_nil)))) (fun _ _ _ _ _ => (dts_one (dt_eq (hu64 hr) (yV (pv 5)) (yV (pv 3))))) (fun _ _ _ _ _ => (yL (pv 6))) (by decide))
    (s1 (sI (dt_eq (hu64 hr) (DE.y (de_len Y.T rfl (yV (pv 4)))) (DE.y yI))
    (s1 (sR (DE.o yN))
    s0)
    s0)
    (s1 (sS (i := 1) sc__law_led.nd rfl (by first | exact Or.inl rfl | exact Or.inr rfl) (DE.o (de_ix (by intro _ _; rfl) (yV (pv 4)) (DE.y yI))) (by decide))
    s0))))
    (s1 (sR (yT (pv 1)))
    s0)))
noncomputable def M_is_variable : FM := runF 1 1 [0] ((seqM (rtM (valM (e1 (varX 0) fun w => (isiS .str w).map .bl)))
    nxM))
theorem D_is_variable (Y : Fc K mg base C_LimitError C_StepError C_TertiumError C_TextError CD_apply P_apply) : DFn P w K mg base 1 "is_variable" 1 M_is_variable := dfn_of Y.f_is_variable sc_is_variable rfl (by decide) fun f cdv A outer s H E hr =>
    (s1 (sR (DE.o (de_isi .str Y.T rfl rfl (yV (pv 0)))))
    s0)
noncomputable def B_same_1 : DS → SO := (seqM (asM (gTupS 2 (gConsS (gNameS 3) (gConsS (gNameS 4) gNilS))) (popE 2))
    (seqM (ifM (orT (e1 (xM (frzM (callM M_is_variable (consA (varX 3) nilA)))) truS) (e1 (xM (frzM (callM M_is_variable (consA (varX 4) nilA)))) truS))
    (seqM (ifM (orT (eT (e2 (xM (frzM (callM M_is_variable (consA (varX 3) nilA)))) (xM (frzM (callM M_is_variable (consA (varX 4) nilA)))) fun x y => (eqS x y).map fun k => .bl (!k))) (eT (e2 (varX 3) (varX 4) fun x y => (eqS x y).map fun k => .bl (!k))))
    (seqM (rtM (valM (kB false)))
    nxM)
    nxM)
    nxM)
    (seqM (ifM (orT (eT (e2 (xM (e2 (varX 3) (xM (kI 0)) ixS)) (xM (e2 (varX 4) (xM (kI 0)) ixS)) fun x y => (eqS x y).map fun k => .bl (!k))) (eT (e2 (xM (e1 (xM (e2 (varX 3) (xM (kI 1)) ixS)) lenS)) (xM (e1 (xM (e2 (varX 4) (xM (kI 1)) ixS)) lenS)) fun x y => (eqS x y).map fun k => .bl (!k))))
    (seqM (rtM (valM (kB false)))
    nxM)
    (seqM (exM (valM (extendE 2 (xM (frzM (e2 (xM (e2 (varX 3) (xM (kI 1)) ixS)) (xM (e2 (varX 4) (xM (kI 1)) ixS)) zipS))))))
    nxM))
    nxM))
    nxM))
noncomputable def M_same : FM := runF 2 5 [0, 1] ((seqM (stM 2 (lstM (consV (tupM (consV (lockE 0) (consV (lockE 1) nilV))) nilV)))
    (seqM (whileS (e1 (varX 2) truS)
    B_same_1)
    (seqM (rtM (valM (kB true)))
    nxM))))
theorem D_same (Y : Fc K mg base C_LimitError C_StepError C_TertiumError C_TextError CD_apply P_apply) : DFn P w K mg base 2 "same" 2 M_same := dfn_of Y.f_same sc_same rfl (by decide) fun f cdv A outer s H E hr =>
    (s1 (sS (i := 2) sc_same.nd rfl (by first | exact Or.inl rfl | exact Or.inr rfl) (oL (v1 (yU (v1 (yL (pv 0)) (v1 (yL (pv 1)) v0))) v0)) (by decide))
    (s1 (ds_while (passes_of rfl) (dt_tr (yV (pv 2)))
    (s1 (sA (de_pop (pv 2)) (dg_tup rfl (dgs_cons (dg_name (i := 3) sc_same.nd rfl (by first | exact Or.inl rfl | exact Or.inr rfl) (by decide)) (dgs_cons (dg_name (i := 4) sc_same.nd rfl (by first | exact Or.inl rfl | exact Or.inr rfl) (by decide)) dgs_nil))))
    (s1 (sI (DW.t (wO (dt_tr (DE.y (DO.z (do_call (D_is_variable Y) (hr.mono (by decide)) rfl (a1 (yV (pv 3)) a0))))) (dw_or1 (dt_tr (DE.y (DO.z (do_call (D_is_variable Y) (hr.mono (by decide)) rfl (a1 (yV (pv 4)) a0))))))))
    (s1 (sI (DW.t (wO (dt_ne (hu64 hr) (DE.y (DO.z (do_call (D_is_variable Y) (hr.mono (by decide)) rfl (a1 (yV (pv 3)) a0)))) (DE.y (DO.z (do_call (D_is_variable Y) (hr.mono (by decide)) rfl (a1 (yV (pv 4)) a0))))) (dw_or1 (dt_ne (hu64 hr) (yV (pv 3)) (yV (pv 4))))))
    (s1 (sR (DE.o yB))
    s0)
    s0)
    s0)
    (s1 (sI (DW.t (wO (dt_ne (hu64 hr) (DE.y (de_ix (by intro _ _; rfl) (yV (pv 3)) (DE.y yI))) (DE.y (de_ix (by intro _ _; rfl) (yV (pv 4)) (DE.y yI)))) (dw_or1 (dt_ne (hu64 hr) (DE.y (de_len Y.T rfl (DE.y (de_ix (by intro _ _; rfl) (yV (pv 3)) (DE.y yI))))) (DE.y (de_len Y.T rfl (DE.y (de_ix (by intro _ _; rfl) (yV (pv 4)) (DE.y yI)))))))))
    (s1 (sR (DE.o yB))
    s0)
    (s1 (sE (DE.o (de_extend (pv 2) (DE.y (DO.z (do_listZip rfl Y.T rfl rfl (DE.y (de_ix (by intro _ _; rfl) (yV (pv 3)) (DE.y yI))) (DE.y (de_ix (by intro _ _; rfl) (yV (pv 4)) (DE.y yI)))))))))
    s0))
    s0))
    s0)))
    (s1 (sR (DE.o yB))
    s0)))
noncomputable def B_match_1 : DS → SO := (seqM (asM (gTupS 2 (gConsS (gNameS 4) (gConsS (gNameS 5) gNilS))) (popE 3))
    (seqM (ifM (e1 (xM (frzM (callM M_is_variable (consA (varX 4) nilA)))) truS)
    (seqM (ifM (eT (e2 (varX 4) (varX 2) hasS))
    (seqM (ifM (notT (e1 (xM (frzM (callM M_same (consA (xM (e2 (varX 2) (varX 4) dixS)) (consA (varX 5) nilA))))) truS))
    (seqM (rtM (valM kN))
    nxM)
    nxM)
    nxM)
    (seqM (dputM 2 (lockE 5) (lockE 4))
    nxM))
    nxM)
    (seqM (ifM (orT (e1 (xM (frzM (callM M_is_variable (consA (varX 5) nilA)))) truS) (orT (eT (e2 (xM (e2 (varX 4) (xM (kI 0)) ixS)) (xM (e2 (varX 5) (xM (kI 0)) ixS)) fun x y => (eqS x y).map fun k => .bl (!k))) (eT (e2 (xM (e1 (xM (e2 (varX 4) (xM (kI 1)) ixS)) lenS)) (xM (e1 (xM (e2 (varX 5) (xM (kI 1)) ixS)) lenS)) fun x y => (eqS x y).map fun k => .bl (!k)))))
    (seqM (rtM (valM kN))
    nxM)
    (seqM (exM (valM (extendE 3 (xM (frzM (e1 (xM (frzM (e2 (xM (e2 (varX 4) (xM (kI 1)) ixS)) (xM (e2 (varX 5) (xM (kI 1)) ixS)) zipS))) revS))))))
    nxM))
    nxM))
    nxM))
noncomputable def M_match : FM := runF 2 6 [0, 1] ((seqM (stM 2 dic0)
    (seqM (stM 3 (lstM (consV (tupM (consV (lockE 0) (consV (lockE 1) nilV))) nilV)))
    (seqM (whileS (e1 (varX 3) truS)
    B_match_1)
    (seqM (rtM (takeO 2))
    nxM)))))
theorem D_match (Y : Fc K mg base C_LimitError C_StepError C_TertiumError C_TextError CD_apply P_apply) : DFn P w K mg base 3 "match" 2 M_match := dfn_of Y.f_match sc_match rfl (by decide) fun f cdv A outer s H E hr =>
    (s1 (sS (i := 2) sc_match.nd rfl (by first | exact Or.inl rfl | exact Or.inr rfl) oD0 (by decide))
    (s1 (sS (i := 3) sc_match.nd rfl (by first | exact Or.inl rfl | exact Or.inr rfl) (oL (v1 (yU (v1 (yL (pv 0)) (v1 (yL (pv 1)) v0))) v0)) (by decide))
    (s1 (ds_while (passes_of rfl) (dt_tr (yV (pv 3)))
    (s1 (sA (de_pop (pv 3)) (dg_tup rfl (dgs_cons (dg_name (i := 4) sc_match.nd rfl (by first | exact Or.inl rfl | exact Or.inr rfl) (by decide)) (dgs_cons (dg_name (i := 5) sc_match.nd rfl (by first | exact Or.inl rfl | exact Or.inr rfl) (by decide)) dgs_nil))))
    (s1 (sI (dt_tr (DE.y (DO.z (do_call (D_is_variable Y) (hr.mono (by decide)) rfl (a1 (yV (pv 4)) a0)))))
    (s1 (sI (dt_din (hu_of hr) (by rfl) (yV (pv 4)) (yV (pv 2)))
    (s1 (sI (tN (dt_tr (DE.y (DO.z (do_call (D_same Y) (hr.mono (by decide)) rfl (a1 (DE.y (de_dix (hu_of hr) (by intro _ _; rfl) (yV (pv 2)) (yV (pv 4)))) (a1 (yV (pv 5)) a0)))))))
    (s1 (sR (DE.o yN))
    s0)
    s0)
    s0)
    (s1 (ds_dput (hu_of hr) (pv 2) (yL (pv 4)) (yL (pv 5)))
    s0))
    s0)
    (s1 (sI (DW.t (wO (dt_tr (DE.y (DO.z (do_call (D_is_variable Y) (hr.mono (by decide)) rfl (a1 (yV (pv 5)) a0))))) (wO (dt_ne (hu64 hr) (DE.y (de_ix (by intro _ _; rfl) (yV (pv 4)) (DE.y yI))) (DE.y (de_ix (by intro _ _; rfl) (yV (pv 5)) (DE.y yI)))) (dw_or1 (dt_ne (hu64 hr) (DE.y (de_len Y.T rfl (DE.y (de_ix (by intro _ _; rfl) (yV (pv 4)) (DE.y yI))))) (DE.y (de_len Y.T rfl (DE.y (de_ix (by intro _ _; rfl) (yV (pv 5)) (DE.y yI))))))))))
    (s1 (sR (DE.o yN))
    s0)
    (s1 (sE (DE.o (de_extend (pv 3) (DE.y (DO.z (do_rev (DE.y (DO.z (do_listZip rfl Y.T rfl rfl (DE.y (de_ix (by intro _ _; rfl) (yV (pv 4)) (DE.y yI))) (DE.y (de_ix (by intro _ _; rfl) (yV (pv 5)) (DE.y yI))))))))))))
    s0))
    s0))
    s0)))
    (s1 (sR (yT (pv 2)))
    s0))))
noncomputable def M_need_small : FM := runF 2 2 [0, 1] ((seqM (ifM (orT (eT (e2 (varX 0) (xM (kI 400)) (binI0 fun i j => .bl (decide (j < i))))) (eT (e2 (varX 1) (xM (kI 40)) (binI0 fun i j => .bl (decide (j < i))))))
    (seqM (rsM (PySem.Str.ofString "LimitError"))
    nxM)
    nxM)
    nxM))
theorem D_need_small (Y : Fc K mg base C_LimitError C_StepError C_TertiumError C_TextError CD_apply P_apply) : DFn P w K mg base 1 "need_small" 2 M_need_small := dfn_of Y.f_need_small sc_need_small rfl (by decide) fun f cdv A outer s H E hr =>
    (s1 (sI (DW.t (wO (dt_gt (yV (pv 0)) (DE.y (yG rfl Y.g_MOST_NODES.choose_spec))) (dw_or1 (dt_gt (yV (pv 1)) (DE.y (yG rfl Y.g_MOST_DEPTH.choose_spec))))))
    (s1 (sX rfl Y.x_LimitError rfl)
    s0)
    s0)
    s0)
noncomputable def M_inner : FM := runF 1 1 [0] ((seqM (rtM (valM (ifE (e1 (xM (frzM (callM M_is_variable (consA (varX 0) nilA)))) truS) (tupM nilV) (e2 (varX 0) (xM (kI 1)) ixS))))
    nxM))
theorem D_inner (Y : Fc K mg base C_LimitError C_StepError C_TertiumError C_TextError CD_apply P_apply) : DFn P w K mg base 2 "inner" 1 M_inner := dfn_of Y.f_inner sc_inner rfl (by decide) fun f cdv A outer s H E hr =>
    (s1 (sR (DE.o (yIf (dt_tr (DE.y (DO.z (do_call (D_is_variable Y) (hr.mono (by decide)) rfl (a1 (yV (pv 0)) a0))))) (yU v0) (de_ix (by intro _ _; rfl) (yV (pv 0)) (DE.y yI)))))
    s0)
noncomputable def B_parts_1 : DS → SO := (seqM (stM 3 (valM (popE 2)))
    (seqM (exM (valM (appendE 1 (lockE 3))))
    (seqM (exM (valM (extendE 2 (xM (frzM (e1 (xM (frzM (callM M_inner (consA (varX 3) nilA)))) revS))))))
    nxM)))
noncomputable def M_parts : FM := runF 1 4 [0] ((seqM (stM 1 (lstM nilV))
    (seqM (stM 2 (lstM (consV (lockE 0) nilV)))
    (seqM (whileS (e1 (varX 2) truS)
    B_parts_1)
    (seqM (rtM (takeO 1))
    nxM)))))
theorem D_parts (Y : Fc K mg base C_LimitError C_StepError C_TertiumError C_TextError CD_apply P_apply) : DFn P w K mg base 3 "parts" 1 M_parts := dfn_of Y.f_parts sc_parts rfl (by decide) fun f cdv A outer s H E hr =>
    (s1 (sS (i := 1) sc_parts.nd rfl (by first | exact Or.inl rfl | exact Or.inr rfl) (oL v0) (by decide))
    (s1 (sS (i := 2) sc_parts.nd rfl (by first | exact Or.inl rfl | exact Or.inr rfl) (oL (v1 (yL (pv 0)) v0)) (by decide))
    (s1 (ds_while (passes_of rfl) (dt_tr (yV (pv 2)))
    (s1 (sS (i := 3) sc_parts.nd rfl (by first | exact Or.inl rfl | exact Or.inr rfl) (DE.o (de_pop (pv 2))) (by decide))
    (s1 (sE (DE.o (de_append (pv 1) (yL (pv 3)))))
    (s1 (sE (DE.o (de_extend (pv 2) (DE.y (DO.z (do_rev (DE.y (DO.z (do_call (D_inner Y) (hr.mono (by decide)) rfl (a1 (yV (pv 3)) a0))))))))))
    s0))))
    (s1 (sR (yT (pv 1)))
    s0))))
noncomputable def M_size : FM := runF 1 1 [0] ((seqM (rtM (valM (e1 (xM (frzM (callM M_parts (consA (varX 0) nilA)))) lenS)))
    nxM))
theorem D_size (Y : Fc K mg base C_LimitError C_StepError C_TertiumError C_TextError CD_apply P_apply) : DFn P w K mg base 4 "size" 1 M_size := dfn_of Y.f_size sc_size rfl (by decide) fun f cdv A outer s H E hr =>
    (s1 (sR (DE.o (de_len Y.T rfl (DE.y (DO.z (do_call (D_parts Y) (hr.mono (by decide)) rfl (a1 (yV (pv 0)) a0)))))))
    s0)
noncomputable def B_depth_1 : DS → SO := (seqM (exM (valM (extendE 3 (xM (frzM (callM M_inner (consA (varX 4) nilA)))))))
    nxM)
noncomputable def B_depth_2 : DS → SO := (seqM (augI 2 (fun a b => a + b) (kI 1))
    (seqM (stM 3 (lstM nilV))
    (seqM (forM (sqI (lockE 1)) (gNameS 4)
    B_depth_1)
    (seqM (stM 1 (takeO 3))
    nxM))))
noncomputable def M_depth : FM := runF 1 5 [0] ((seqM (stM 1 (lstM (consV (lockE 0) nilV)))
    (seqM (stM 2 (valM (kI 0)))
    (seqM (whileS (e1 (varX 1) truS)
    B_depth_2)
    (seqM (rtM (takeO 2))
    nxM)))))
theorem D_depth (Y : Fc K mg base C_LimitError C_StepError C_TertiumError C_TextError CD_apply P_apply) : DFn P w K mg base 3 "depth" 1 M_depth := dfn_of Y.f_depth sc_depth rfl (by decide) fun f cdv A outer s H E hr =>
    (s1 (sS (i := 1) sc_depth.nd rfl (by first | exact Or.inl rfl | exact Or.inr rfl) (oL (v1 (yL (pv 0)) v0)) (by decide))
    (s1 (sS (i := 2) sc_depth.nd rfl (by first | exact Or.inl rfl | exact Or.inr rfl) (DE.o yI) (by decide))
    (s1 (ds_while (passes_of rfl) (dt_tr (yV (pv 1)))
    (s1 (ds_augI (i := 2) ip_add sc_depth.nd rfl (by first | exact Or.inl rfl | exact Or.inr rfl) yI (by decide))
    (s1 (sS (i := 3) sc_depth.nd rfl (by first | exact Or.inl rfl | exact Or.inr rfl) (oL v0) (by decide))
    (s1 (sF (passes_of rfl) rfl (iS (yL (pv 1))) (dg_name (i := 4) sc_depth.nd rfl (by first | exact Or.inl rfl | exact Or.inr rfl) (by decide))
    (s1 (sE (DE.o (de_extend (pv 3) (DE.y (DO.z (do_call (D_inner Y) (hr.mono (by decide)) rfl (a1 (yV (pv 4)) a0)))))))
    s0))
    (s1 (sS (i := 1) sc_depth.nd rfl (by first | exact Or.inl rfl | exact Or.inr rfl) (yT (pv 3)) (by decide))
    s0)))))
    (s1 (sR (yT (pv 2)))
    s0))))
noncomputable def B_put_1 : DS → SO := (seqM (stM 5 (callM M_inner (consA (varX 0) nilA)))
    (seqM (ifM (notT (chainT (fun i j => decide (i ≤ j)) (fun i j => decide (i < j)) (xM (kI 0)) (varX 4) (xM (e1 (varX 5) lenS))))
    (seqM (rsM (PySem.Str.ofString "StepError"))
    nxM)
    nxM)
    (seqM (exM (valM (appendE 3 (tupM (consV (lockE 0) (consV (lockE 4) nilV))))))
    (seqM (stM 0 (valM (e2 (varX 5) (varX 4) ixS)))
    nxM))))
noncomputable def B_put_2 : DS → SO := (seqM (stM 2 (valM (tupM (consV (e2 (varX 6) (xM (kI 0)) ixS) (consV (frzM (e2 (xM (frzM (e2 (xM (frzM (slM (xM (e2 (varX 6) (xM (kI 1)) ixS)) pN (pS (lockE 4))))) (xM (tupM (consV (lockE 2) nilV))) addS))) (xM (frzM (slM (xM (e2 (varX 6) (xM (kI 1)) ixS)) (pS (e2 (varX 4) (xM (kI 1)) (binI0 fun i j => .int (i + j)))) pN))) addS)) nilV)))))
    nxM)
noncomputable def M_put : FM := runF 3 7 [1] ((seqM (stM 3 (lstM nilV))
    (seqM (forM (sqI (lockE 1)) (gNameS 4)
    B_put_1)
    (seqM (forM (sqI (frzM (e1 (varX 3) revS))) (gTupS 2 (gConsS (gNameS 6) (gConsS (gNameS 4) gNilS)))
    B_put_2)
    (seqM (exM (callM M_need_small (consA (xM (frzM (callM M_size (consA (varX 2) nilA)))) (consA (xM (frzM (callM M_depth (consA (varX 2) nilA)))) nilA))))
    (seqM (rtM (takeO 2))
    nxM))))))
theorem D_put (Y : Fc K mg base C_LimitError C_StepError C_TertiumError C_TextError CD_apply P_apply) : DFn P w K mg base 5 "put" 3 M_put := dfn_of Y.f_put sc_put rfl (by decide) fun f cdv A outer s H E hr =>
    (s1 (sS (i := 3) sc_put.nd rfl (by first | exact Or.inl rfl | exact Or.inr rfl) (oL v0) (by decide))
    (s1 (sF (passes_of rfl) rfl (iS (yL (pv 1))) (dg_name (i := 4) sc_put.nd rfl (by first | exact Or.inl rfl | exact Or.inr rfl) (by decide))
    (s1 (sS (i := 5) sc_put.nd rfl (by first | exact Or.inl rfl | exact Or.inr rfl) (do_call (D_inner Y) (hr.mono (by decide)) rfl (a1 (yV (pv 0)) a0)) (by decide))
    (s1 (sI (tN (dt_chain op_le op_lt (DE.y yI) (yV (pv 4)) (DE.y (de_len Y.T rfl (yV (pv 5))))))
    (s1 (sX rfl Y.x_StepError rfl)
    s0)
    s0)
    (s1 (sE (DE.o (de_append (pv 3) (yU (v1 (yL (pv 0)) (v1 (yL (pv 4)) v0))))))
    (s1 (sS (i := 0) sc_put.nd rfl (by first | exact Or.inl rfl | exact Or.inr rfl) (DE.o (de_ix (by intro _ _; rfl) (yV (pv 5)) (yV (pv 4)))) (by decide))
    s0)))))
    (s1 (sF (passes_of rfl) rfl (iS (DO.z (do_rev (yV (pv 3))))) (dg_tup rfl (dgs_cons (dg_name (i := 6) sc_put.nd rfl (by first | exact Or.inl rfl | exact Or.inr rfl) (by decide)) (dgs_cons (dg_name (i := 4) sc_put.nd rfl (by first | exact Or.inl rfl | exact Or.inr rfl) (by decide)) dgs_nil)))
    (s1 (sS (i := 2) sc_put.nd rfl (by first | exact Or.inl rfl | exact Or.inr rfl) (DE.o (yU (v1 (de_ix (by intro _ _; rfl) (yV (pv 6)) (DE.y yI)) (v1 (DO.z (do_add (DE.y (DO.z (do_add (DE.y (DO.z (oSl (DE.y (de_ix (by intro _ _; rfl) (yV (pv 6)) (DE.y yI))) p0 (p1 (yL (pv 4)))))) (DE.y (yU (v1 (yL (pv 2)) v0)))))) (DE.y (DO.z (oSl (DE.y (de_ix (by intro _ _; rfl) (yV (pv 6)) (DE.y yI))) (p1 (de_add (yV (pv 4)) (DE.y yI))) p0))))) v0)))) (by decide))
    s0))
    (s1 (sE (do_call (D_need_small Y) (hr.mono (by decide)) rfl (a1 (DE.y (DO.z (do_call (D_size Y) (hr.mono (by decide)) rfl (a1 (yV (pv 2)) a0)))) (a1 (DE.y (DO.z (do_call (D_depth Y) (hr.mono (by decide)) rfl (a1 (yV (pv 2)) a0)))) a0))))
    (s1 (sR (yT (pv 2)))
    s0)))))
noncomputable def B_at_1 : DS → SO := (seqM (stM 3 (callM M_inner (consA (varX 0) nilA)))
    (seqM (ifM (notT (chainT (fun i j => decide (i ≤ j)) (fun i j => decide (i < j)) (xM (kI 0)) (varX 2) (xM (e1 (varX 3) lenS))))
    (seqM (rsM (PySem.Str.ofString "StepError"))
    nxM)
    nxM)
    (seqM (stM 0 (valM (e2 (varX 3) (varX 2) ixS)))
    nxM)))
noncomputable def M_at : FM := runF 2 4 [1] ((seqM (forM (sqI (lockE 1)) (gNameS 2)
    B_at_1)
    (seqM (rtM (takeO 0))
    nxM)))
theorem D_at (Y : Fc K mg base C_LimitError C_StepError C_TertiumError C_TextError CD_apply P_apply) : DFn P w K mg base 3 "at" 2 M_at := dfn_of Y.f_at sc_at rfl (by decide) fun f cdv A outer s H E hr =>
    (s1 (sF (passes_of rfl) rfl (iS (yL (pv 1))) (dg_name (i := 2) sc_at.nd rfl (by first | exact Or.inl rfl | exact Or.inr rfl) (by decide))
    (s1 (sS (i := 3) sc_at.nd rfl (by first | exact Or.inl rfl | exact Or.inr rfl) (do_call (D_inner Y) (hr.mono (by decide)) rfl (a1 (yV (pv 0)) a0)) (by decide))
    (s1 (sI (tN (dt_chain op_le op_lt (DE.y yI) (yV (pv 2)) (DE.y (de_len Y.T rfl (yV (pv 3))))))
    (s1 (sX rfl Y.x_StepError rfl)
    s0)
    s0)
    (s1 (sS (i := 0) sc_at.nd rfl (by first | exact Or.inl rfl | exact Or.inr rfl) (DE.o (de_ix (by intro _ _; rfl) (yV (pv 3)) (yV (pv 2)))) (by decide))
    s0))))
    (s1 (sR (yT (pv 0)))
    s0))
noncomputable def Q_variables_1 : DS → ER Bool := (e1 (xM (frzM (callM M_is_variable (consA (varX 1) nilA)))) truS)
noncomputable def C_variables_2 : DS → ER Py := (lockE 1)
noncomputable def C_variables_3 : DS → ER Py := (kB true)
noncomputable def M_variables : FM := runF 1 2 [0] ((seqM (rtM (valM (e1 (xM (frzM (dcM .dic (fun d => (pkK d).isSome) (sqI (frzM (callM M_parts (consA (varX 0) nilA)))) (gNameS 1) Q_variables_1 C_variables_2 C_variables_3 [1]))) tupS)))
    nxM))
theorem D_variables (Y : Fc K mg base C_LimitError C_StepError C_TertiumError C_TextError CD_apply P_apply) : DFn P w K mg base 4 "variables" 1 M_variables := dfn_of Y.f_variables sc_variables rfl (by decide) fun f cdv A outer s H E hr =>
    (s1 (sR (DE.o (de_tup1 rfl Y.T rfl (DE.y (DO.z (do_dc (pn := []) (own := [((PySem.Str.ofString "one"), 1)]) daccK (hu_of hr) rfl sc_variables.nd (iS (DO.z (do_call (D_parts Y) (hr.mono (by decide)) rfl (a1 (yV (pv 0)) a0)))) (blkOk_by (N := ["t", "one"]) (sc := (defScope st_variables)) (by decide +kernel)) (fun _ _ _ _ _ => (dg_name (i := 1) sc_variables.nd rfl (by first | exact Or.inl rfl | exact Or.inr rfl) (by decide))) (fun _ _ _ _ _ => (dts_one (dt_tr (DE.y (DO.z (do_call (D_is_variable Y) (hr.mono (by decide)) rfl (a1 (yV (pv 1)) a0))))))) (fun _ _ _ _ _ => (yL (pv 1))) (fun _ _ _ _ _ => yB)))))))
    s0)
noncomputable def Q_measure_1 : DS → ER Bool := (eT (e2 (varX 9) (varX 0) hasS))
noncomputable def C_measure_2 : DS → ER Py := (lockE 9)
noncomputable def C_measure_3 : DS → ER Py := (tupM (consV (frzM (callM M_size (consA (xM (e2 (varX 0) (varX 9) dixS)) nilA))) (consV (frzM (callM M_depth (consA (xM (e2 (varX 0) (varX 9) dixS)) nilA))) nilV)))
noncomputable def C_measure_4 : DS → ER Py := (tupM (consV (lockE 10) (consV (e2 (varX 7) (xM (kI 1)) (binI0 fun i j => .int (i + j))) nilV)))
noncomputable def B_measure_5 : DS → SO := (seqM (asM (gTupS 2 (gConsS (gNameS 6) (gConsS (gNameS 7) gNilS))) (popE 5))
    (seqM (stM 8 (valM (ifE (e1 (xM (frzM (callM M_is_variable (consA (varX 6) nilA)))) truS) (getM2 (varX 4) (lockE 6) (tupM (consV (kI 1) (consV (kI 1) nilV)))) (tupM (consV (kI 1) (consV (kI 1) nilV))))))
    (seqM (augI 2 (fun a b => a + b) (e2 (varX 8) (xM (kI 0)) ixS))
    (seqM (stM 3 (valM (e2 (varX 3) (xM (e2 (varX 7) (xM (e2 (varX 8) (xM (kI 1)) ixS)) (binI0 fun i j => .int (i + j)))) (binI0 fun i j => .int (if j > i then j else i)))))
    (seqM (exM (valM (extendE 5 (xM (frzM (lcM (sqI (frzM (callM M_inner (consA (varX 6) nilA)))) (gNameS 10) yesT C_measure_4 [10]))))))
    nxM)))))
noncomputable def M_measure : FM := runF 2 11 [0, 1] ((seqM (stM 2 (valM (kI 0)))
    (seqM (stM 3 (valM (kI 0)))
    (seqM (stM 4 (dcM .dic (fun d => (pkK d).isSome) (sqI (frzM (callM M_variables (consA (varX 1) nilA)))) (gNameS 9) Q_measure_1 C_measure_2 C_measure_3 [9]))
    (seqM (stM 5 (lstM (consV (tupM (consV (lockE 1) (consV (kI 0) nilV))) nilV)))
    (seqM (whileS (e1 (varX 5) truS)
    B_measure_5)
    (seqM (rtM (valM (tupM (consV (lockE 2) (consV (lockE 3) nilV)))))
    nxM)))))))
theorem D_measure (Y : Fc K mg base C_LimitError C_StepError C_TertiumError C_TextError CD_apply P_apply) : DFn P w K mg base 5 "measure" 2 M_measure := dfn_of Y.f_measure sc_measure rfl (by decide) fun f cdv A outer s H E hr =>
    (s1 (sS (i := 2) sc_measure.nd rfl (by first | exact Or.inl rfl | exact Or.inr rfl) (DE.o yI) (by decide))
    (s1 (sS (i := 3) sc_measure.nd rfl (by first | exact Or.inl rfl | exact Or.inr rfl) (DE.o yI) (by decide))
    (s1 (ds_setDc (i := 4) (pn := []) (own := [((PySem.Str.ofString "x"), 9)]) daccK (hu_of hr) rfl sc_measure.nd rfl rfl (sw_trueD rfl rfl rfl (by decide +kernel)) (iS (DO.z (do_call (D_variables Y) (hr.mono (by decide)) rfl (a1 (yV (pv 1)) a0)))) (blkOk_by (N := ["s", "t", "nodes", "deep", "sizes", "left", "one", "level", "more", "x", "part"]) (sc := (defScope st_measure)) (by decide +kernel)) (fun _ _ _ _ _ => (dg_name (i := 9) sc_measure.nd rfl (by first | exact Or.inl rfl | exact Or.inr rfl) (by decide))) (fun _ _ _ _ _ => (dts_one (dt_din (hu_of hr) (by rfl) (yV (pv 9)) (yV (pv 0))))) (fun _ _ _ _ _ => (yL (pv 9))) (fun _ _ _ _ _ => (yU (v1 (DO.z (do_call (D_size Y) (hr.mono (by decide)) rfl (a1 (DE.y (de_dix (hu_of hr) (by intro _ _; rfl) (yV (pv 0)) (yV (pv 9)))) a0))) (v1 (DO.z (do_call (D_depth Y) (hr.mono (by decide)) rfl (a1 (DE.y (de_dix (hu_of hr) (by intro _ _; rfl) (yV (pv 0)) (yV (pv 9)))) a0))) v0)))) (by decide))
    (s1 (sS (i := 5) sc_measure.nd rfl (by first | exact Or.inl rfl | exact Or.inr rfl) (oL (v1 (yU (v1 (yL (pv 1)) (v1 yI v0))) v0)) (by decide))
    (s1 (ds_while (passes_of rfl) (dt_tr (yV (pv 5)))
    (s1 (sA (de_pop (pv 5)) (dg_tup rfl (dgs_cons (dg_name (i := 6) sc_measure.nd rfl (by first | exact Or.inl rfl | exact Or.inr rfl) (by decide)) (dgs_cons (dg_name (i := 7) sc_measure.nd rfl (by first | exact Or.inl rfl | exact Or.inr rfl) (by decide)) dgs_nil))))
    (s1 (sS (i := 8) sc_measure.nd rfl (by first | exact Or.inl rfl | exact Or.inr rfl) (DE.o (yIf (dt_tr (DE.y (DO.z (do_call (D_is_variable Y) (hr.mono (by decide)) rfl (a1 (yV (pv 6)) a0))))) (de_dget2 (hu_of hr) (yV (pv 4)) (yL (pv 6)) (yU (v1 yI (v1 yI v0))) ⟨rfl, rfl, rfl, rfl⟩) (yU (v1 yI (v1 yI v0))))) (by decide))
    (s1 (ds_augI (i := 2) ip_add sc_measure.nd rfl (by first | exact Or.inl rfl | exact Or.inr rfl) (de_ix (by intro _ _; rfl) (yV (pv 8)) (DE.y yI)) (by decide))
    (s1 (sS (i := 3) sc_measure.nd rfl (by first | exact Or.inl rfl | exact Or.inr rfl) (DE.o (de_max2 rfl Y.T rfl (yV (pv 3)) (DE.y (de_add (yV (pv 7)) (DE.y (de_ix (by intro _ _; rfl) (yV (pv 8)) (DE.y yI))))))) (by decide))
    (s1 (sE (DE.o (de_extend (pv 5) (DE.y (DO.z (do_lc (pn := []) (own := [((PySem.Str.ofString "part"), 10)]) rfl sc_measure.nd (iS (DO.z (do_call (D_inner Y) (hr.mono (by decide)) rfl (a1 (yV (pv 6)) a0)))) (blkOk_by (N := ["s", "t", "nodes", "deep", "sizes", "left", "one", "level", "more", "x", "part"]) (sc := (defScope st_measure)) (by decide +kernel)) (fun _ _ _ _ _ => (dg_name (i := 10) sc_measure.nd rfl (by first | exact Or.inl rfl | exact Or.inr rfl) (by decide))) (fun _ _ _ _ _ => q0) (fun _ _ _ _ _ => (yU (v1 (yL (pv 10)) (v1 (de_add (yV (pv 7)) (DE.y yI)) v0))))))))))
    s0))))))
    (s1 (sR (DE.o (yU (v1 (yL (pv 2)) (v1 (yL (pv 3)) v0)))))
    s0))))))
noncomputable def C_rebuilt_1 (fa : Addr) (gf : Py → Option Py) : DS → ER Py := (tupM (consV (lockE 8) (consV (kB false) nilV)))
noncomputable def B_rebuilt_2 (fa : Addr) (gf : Py → Option Py) : DS → SO := (seqM (asM (gTupS 2 (gConsS (gNameS 4) (gConsS (gNameS 5) gNilS))) (popE 3))
    (seqM (ifM (e1 (xM (frzM (callM M_is_variable (consA (varX 4) nilA)))) truS)
    (seqM (exM (valM (appendE 2 (actM fa 1 gf (lockE 4)))))
    nxM)
    (seqM (ifM (e1 (varX 5) truS)
    (seqM (stM 6 (valM (e1 (xM (e2 (varX 4) (xM (kI 1)) ixS)) lenS)))
    (seqM (stM 7 (slM (varX 2) (pS (e2 (xM (e1 (varX 2) lenS)) (varX 6) (binI0 fun i j => .int (i - j)))) pN))
    (seqM (stM 2 (slM (varX 2) pN (pS (e2 (xM (e1 (varX 2) lenS)) (varX 6) (binI0 fun i j => .int (i - j))))))
    (seqM (exM (valM (appendE 2 (tupM (consV (e2 (varX 4) (xM (kI 0)) ixS) (consV (e1 (varX 7) tupS) nilV))))))
    nxM))))
    (seqM (exM (valM (appendE 3 (tupM (consV (lockE 4) (consV (kB true) nilV))))))
    (seqM (exM (valM (extendE 3 (xM (frzM (lcM (sqI (frzM (e1 (xM (e2 (varX 4) (xM (kI 1)) ixS)) revS))) (gNameS 8) yesT (C_rebuilt_1 fa gf) [8]))))))
    nxM)))
    nxM))
    nxM))
noncomputable def MB_rebuilt (fa : Addr) (gf : Py → Option Py) : DS → SO := (seqM (stM 2 (lstM nilV))
    (seqM (stM 3 (lstM (consV (tupM (consV (lockE 0) (consV (kB false) nilV))) nilV)))
    (seqM (whileS (e1 (varX 3) truS)
    (B_rebuilt_2 fa gf))
    (seqM (rtM (valM (e2 (varX 2) (xM (kI 0)) ixS)))
    nxM))))
noncomputable def M_rebuilt (fa : Addr) (gf : Py → Option Py) : FM := runF 2 9 [0, 1] (MB_rebuilt fa gf)
noncomputable def C_apply_1 : DS → ER Py := (getM2 (varX 0) (lockE 4) (lockE 4))
noncomputable def M_apply : FM := runF 2 5 [0, 1] ((seqM (asM (gTupS 2 (gConsS (gNameS 2) (gConsS (gNameS 3) gNilS))) (frzM (callM M_measure (consA (varX 0) (consA (varX 1) nilA)))))
    (seqM (exM (callM M_need_small (consA (varX 2) (consA (varX 3) nilA))))
    (seqM (rtM (lamCallM M_rebuilt (lockE 1) C_apply_1 4))
    nxM))))
theorem D_apply (Y : Fc K mg base C_LimitError C_StepError C_TertiumError C_TextError CD_apply P_apply) : DFn P w K mg base 6 "apply" 2 M_apply := dfn_ofC Y.f_apply sc_apply rfl (by decide) fun f A outer s H E hr =>
    (s1 (sA (DO.z (do_call (D_measure Y) (hr.mono (by decide)) rfl (a1 (yV (pv 0)) (a1 (yV (pv 1)) a0)))) (dg_tup rfl (dgs_cons (dg_name (i := 2) sc_apply.nd rfl (by first | exact Or.inl rfl | exact Or.inr rfl) (by decide)) (dgs_cons (dg_name (i := 3) sc_apply.nd rfl (by first | exact Or.inl rfl | exact Or.inr rfl) (by decide)) dgs_nil))))
    (s1 (sE (do_call (D_need_small Y) (hr.mono (by decide)) rfl (a1 (yV (pv 2)) (a1 (yV (pv 3)) a0))))
    (s1 (sR (do_lamcall (k := 0) (ix := 4) (pn := [0, 1]) (MB := MB_rebuilt) Y.f_rebuilt sc_rebuilt rfl (hr.mono (by decide)) (yL (pv 1)) (lamP_by (sc := defScope st_apply) (N := ["s", "t", "nodes", "deep", "x"]) (by decide +kernel)) Y.tb_apply rfl Y.tm_apply Y.tu_apply rfl (fun _ _ _ _ _ _ => rfl) (fun A outer s H f c1 hr => (de_dget2 (hu_of hr) (yV (pv 0)) (yL (pv 4)) (yL (pv 4)) ⟨rfl, rfl, rfl, rfl⟩)) (fun fa ga cdv s H gf hr HC =>
    (s1 (sS (i := 2) sc_rebuilt.nd rfl (by first | exact Or.inl rfl | exact Or.inr rfl) (oL v0) (by decide))
    (s1 (sS (i := 3) sc_rebuilt.nd rfl (by first | exact Or.inl rfl | exact Or.inr rfl) (oL (v1 (yU (v1 (yL (pv 0)) (v1 yB v0))) v0)) (by decide))
    (s1 (ds_while (passes_of rfl) (dt_tr (yV (pv 3)))
    (s1 (sA (de_pop (pv 3)) (dg_tup rfl (dgs_cons (dg_name (i := 4) sc_rebuilt.nd rfl (by first | exact Or.inl rfl | exact Or.inr rfl) (by decide)) (dgs_cons (dg_name (i := 5) sc_rebuilt.nd rfl (by first | exact Or.inl rfl | exact Or.inr rfl) (by decide)) dgs_nil))))
    (s1 (sI (dt_tr (DE.y (DO.z (do_call (D_is_variable Y) (hr.mono (by decide)) rfl (a1 (yV (pv 4)) a0)))))
    (s1 (sE (DE.o (de_append (pv 2) (HC _ _ _ _ (yL (pv 4)) rfl))))
    s0)
    (s1 (sI (dt_tr (yV (pv 5)))
    (s1 (sS (i := 6) sc_rebuilt.nd rfl (by first | exact Or.inl rfl | exact Or.inr rfl) (DE.o (de_len Y.T rfl (DE.y (de_ix (by intro _ _; rfl) (yV (pv 4)) (DE.y yI))))) (by decide))
    (s1 (sS (i := 7) sc_rebuilt.nd rfl (by first | exact Or.inl rfl | exact Or.inr rfl) (oSl (yV (pv 2)) (p1 (de_sub (DE.y (de_len Y.T rfl (yV (pv 2)))) (yV (pv 6)))) p0) (by decide))
    (s1 (sS (i := 2) sc_rebuilt.nd rfl (by first | exact Or.inl rfl | exact Or.inr rfl) (oSl (yV (pv 2)) p0 (p1 (de_sub (DE.y (de_len Y.T rfl (yV (pv 2)))) (yV (pv 6))))) (by decide))
    (s1 (sE (DE.o (de_append (pv 2) (yU (v1 (de_ix (by intro _ _; rfl) (yV (pv 4)) (DE.y yI)) (v1 (de_tup1 rfl Y.T rfl (yV (pv 7))) v0))))))
    s0))))
    (s1 (sE (DE.o (de_append (pv 3) (yU (v1 (yL (pv 4)) (v1 yB v0))))))
    (s1 (sE (DE.o (de_extend (pv 3) (DE.y (DO.z (do_lc (pn := []) (own := [((PySem.Str.ofString "part"), 8)]) rfl sc_rebuilt.nd (iS (DO.z (do_rev (DE.y (de_ix (by intro _ _; rfl) (yV (pv 4)) (DE.y yI)))))) (blkOk_by (N := ["t", "change", "done", "left", "one", "ready", "many", "arguments", "part"]) (sc := (defScope st_rebuilt)) (by decide +kernel)) (fun _ _ _ _ _ => (dg_name (i := 8) sc_rebuilt.nd rfl (by first | exact Or.inl rfl | exact Or.inr rfl) (by decide))) (fun _ _ _ _ _ => q0) (fun _ _ _ _ _ => (yU (v1 (yL (pv 8)) (v1 yB v0))))))))))
    s0)))
    s0))
    s0)))
    (s1 (sR (DE.o (de_ix (by intro _ _; rfl) (yV (pv 2)) (DE.y yI))))
    s0)))))))
    s0)))
noncomputable def M_rewritten : FM := runF 4 7 [0, 1, 2, 3] ((seqM (asM (gTupS 2 (gConsS (gNameS 4) (gConsS (gNameS 5) gNilS))) (e2 (varX 0) (varX 3) ixS))
    (seqM (stM 6 (callM M_match (consA (varX 4) (consA (xM (frzM (callM M_at (consA (varX 1) (consA (varX 2) nilA))))) nilA))))
    (seqM (ifM (eT (e1 (varX 6) fun w => some (.bl (isNonS w))))
    (seqM (rtM (valM kN))
    nxM)
    nxM)
    (seqM (rtM (callM M_put (consA (varX 1) (consA (varX 2) (consA (xM (frzM (callM M_apply (consA (xM (lockE 6)) (consA (varX 5) nilA))))) nilA)))))
    nxM)))))
theorem D_rewritten (Y : Fc K mg base C_LimitError C_StepError C_TertiumError C_TextError CD_apply P_apply) : DFn P w K mg base 7 "rewritten" 4 M_rewritten := dfn_of Y.f_rewritten sc_rewritten rfl (by decide) fun f cdv A outer s H E hr =>
    (s1 (sA (de_ix (by intro _ _; rfl) (yV (pv 0)) (yV (pv 3))) (dg_tup rfl (dgs_cons (dg_name (i := 4) sc_rewritten.nd rfl (by first | exact Or.inl rfl | exact Or.inr rfl) (by decide)) (dgs_cons (dg_name (i := 5) sc_rewritten.nd rfl (by first | exact Or.inl rfl | exact Or.inr rfl) (by decide)) dgs_nil))))
    (s1 (sS (i := 6) sc_rewritten.nd rfl (by first | exact Or.inl rfl | exact Or.inr rfl) (do_call (D_match Y) (hr.mono (by decide)) rfl (a1 (yV (pv 4)) (a1 (DE.y (DO.z (do_call (D_at Y) (hr.mono (by decide)) rfl (a1 (yV (pv 1)) (a1 (yV (pv 2)) a0))))) a0))) (by decide))
    (s1 (sI (dt_isN (yV (pv 6)))
    (s1 (sR (DE.o yN))
    s0)
    s0)
    (s1 (sR (do_call (D_put Y) (hr.mono (by decide)) rfl (a1 (yV (pv 1)) (a1 (yV (pv 2)) (a1 (DE.y (DO.z (do_call (D_apply Y) (hr.mono (by decide)) rfl (a1 (DE.y (yL (pv 6))) (a1 (yV (pv 5)) a0))))) a0)))))
    s0))))
noncomputable def M_step : FM := runF 3 6 [0, 1, 2] ((seqM (asM (gTupS 2 (gConsS (gNameS 3) (gConsS (gNameS 4) gNilS))) (lockE 2))
    (seqM (ifM (notT (chainT (fun i j => decide (i ≤ j)) (fun i j => decide (i < j)) (xM (kI 0)) (varX 4) (xM (e1 (varX 0) lenS))))
    (seqM (rsM (PySem.Str.ofString "StepError"))
    nxM)
    nxM)
    (seqM (stM 5 (callM M_rewritten (consA (varX 0) (consA (varX 1) (consA (varX 3) (consA (varX 4) nilA))))))
    (seqM (ifM (eT (e1 (varX 5) fun w => some (.bl (isNonS w))))
    (seqM (rsM (PySem.Str.ofString "StepError"))
    nxM)
    nxM)
    (seqM (rtM (takeO 5))
    nxM))))))
theorem D_step (Y : Fc K mg base C_LimitError C_StepError C_TertiumError C_TextError CD_apply P_apply) : DFn P w K mg base 8 "step" 3 M_step := dfn_of Y.f_step sc_step rfl (by decide) fun f cdv A outer s H E hr =>
    (s1 (sA (yL (pv 2)) (dg_tup rfl (dgs_cons (dg_name (i := 3) sc_step.nd rfl (by first | exact Or.inl rfl | exact Or.inr rfl) (by decide)) (dgs_cons (dg_name (i := 4) sc_step.nd rfl (by first | exact Or.inl rfl | exact Or.inr rfl) (by decide)) dgs_nil))))
    (s1 (sI (tN (dt_chain op_le op_lt (DE.y yI) (yV (pv 4)) (DE.y (de_len Y.T rfl (yV (pv 0))))))
    (s1 (sX rfl Y.x_StepError rfl)
    s0)
    s0)
    (s1 (sS (i := 5) sc_step.nd rfl (by first | exact Or.inl rfl | exact Or.inr rfl) (do_call (D_rewritten Y) (hr.mono (by decide)) rfl (a1 (yV (pv 0)) (a1 (yV (pv 1)) (a1 (yV (pv 3)) (a1 (yV (pv 4)) a0))))) (by decide))
    (s1 (sI (dt_isN (yV (pv 5)))
    (s1 (sX rfl Y.x_StepError rfl)
    s0)
    s0)
    (s1 (sR (yT (pv 5)))
    s0)))))
noncomputable def B_derive_1 : DS → SO := (seqM (stM 1 (callM M_step (consA (varX 0) (consA (varX 1) (consA (varX 3) nilA)))))
    nxM)
noncomputable def M_derive : FM := runF 3 4 [0, 2] ((seqM (forM (sqI (lockE 2)) (gNameS 3)
    B_derive_1)
    (seqM (rtM (takeO 1))
    nxM)))
theorem D_derive (Y : Fc K mg base C_LimitError C_StepError C_TertiumError C_TextError CD_apply P_apply) : DFn P w K mg base 9 "derive" 3 M_derive := dfn_of Y.f_derive sc_derive rfl (by decide) fun f cdv A outer s H E hr =>
    (s1 (sF (passes_of rfl) rfl (iS (yL (pv 2))) (dg_name (i := 3) sc_derive.nd rfl (by first | exact Or.inl rfl | exact Or.inr rfl) (by decide))
    (s1 (sS (i := 1) sc_derive.nd rfl (by first | exact Or.inl rfl | exact Or.inr rfl) (do_call (D_step Y) (hr.mono (by decide)) rfl (a1 (yV (pv 0)) (a1 (yV (pv 1)) (a1 (yV (pv 3)) a0)))) (by decide))
    s0))
    (s1 (sR (yT (pv 1)))
    s0))
noncomputable def B__law_told_1 : DS → SO := (seqM (ifM (e1 (varX 3) truS)
    (seqM (rtM (lstM (consV (frzM (callM M_step (consA (varX 0) (consA (varX 1) (consA (varX 2) nilA))))) nilV)))
    nxM)
    nxM)
    (seqM (rtM (lstM (consV (frzM (callM M_derive (consA (varX 0) (consA (varX 1) (consA (varX 2) nilA))))) nilV)))
    nxM))
noncomputable def A__law_told_2 : Addr → DS → SO := (fun a =>
    (seqM (rtM (lstM (consV (kS (PySem.Str.ofString "limit")) (consV (andE (objE 4 a true) (notE (objE 4 a false))) nilV))))
    nxM))
noncomputable def A__law_told_3 : Addr → DS → SO := (fun a =>
    (seqM (rtM (valM (andE (objE 4 a true) (andE (objE 4 a true) (andE (notE (objE 4 a false)) (notE (objE 4 a false)))))))
    nxM))
noncomputable def M__law_told : FM := runF 4 5 [0, 1, 2, 3] ((seqM (tryN B__law_told_1 [((PySem.Str.ofString "StepError"), (PySem.Str.ofString "LimitError"))] [((PySem.Str.ofString "LimitError"), 4, A__law_told_2), ((PySem.Str.ofString "StepError"), 4, A__law_told_3)])
    nxM))
theorem D__law_told (Y : Fc K mg base C_LimitError C_StepError C_TertiumError C_TextError CD_apply P_apply) : DFn P w K mg base 10 "_law_told" 4 M__law_told := dfn_of Y.f__law_told sc__law_told rfl (by decide) fun f cdv A outer s H E hr =>
    (s1 (sTN [((PySem.Str.ofString "StepError"), (PySem.Str.ofString "LimitError"))] rfl rfl sc__law_told.nd (by simp only [List.mem_cons, List.not_mem_nil, or_false]; rintro _ (rfl) <;> first | exact ⟨_, _, Y.m_StepError, Y.m_LimitError, Y.exm_StepError_LimitError⟩) (fun pl xe hpo =>
    (s1 (sI (dt_tr (yV (pv 3)))
    (s1 (sR (oL (v1 (DO.z (do_call (D_step Y) (hr.mono (by decide)) rfl (a1 (yV (pv 0)) (a1 (yV (pv 1)) (a1 (yV (pv 2)) a0))))) v0)))
    s0)
    s0)
    (s1 (sR (oL (v1 (DO.z (do_call (D_derive Y) (hr.mono (by decide)) rfl (a1 (yV (pv 0)) (a1 (yV (pv 1)) (a1 (yV (pv 2)) a0))))) v0)))
    s0))) (.cons (i := 4) rfl rfl rfl Y.m_LimitError (by decide) Y.exm_LimitError_LimitError (by decide) (fun a oe pl hz hv =>
    (s1 (sR (oL (v1 yS (v1 (yAnd (de_isE (k := 0) (n := 0) Y.T Y.e_LimitError hz hv rfl (pe_glob rfl Y.m_TertiumError rfl) Y.kit_LimitError_TertiumError (pv 4)) (de_one (yNot (de_isE (k := 0) (n := 0) Y.T Y.e_LimitError hz hv rfl (pe_glob rfl Y.m_StepError rfl) Y.kit_LimitError_StepError (pv 4))))) v0))))
    s0)) (.cons (i := 4) rfl rfl rfl Y.m_StepError (by decide) Y.exm_StepError_StepError (by decide) (fun a oe pl hz hv =>
    (s1 (sR (DE.o (yAnd (de_isE (k := 0) (n := 0) Y.T Y.e_StepError hz hv rfl (pe_glob rfl Y.m_TertiumError rfl) Y.kit_StepError_TertiumError (pv 4)) (yAnd (de_isEV Y.T Y.e_StepError hz hv rfl rfl Y.kiv_StepError (pv 4)) (yAnd (yNot (de_isE (k := 0) (n := 0) Y.T Y.e_StepError hz hv rfl (pe_glob rfl Y.m_LimitError rfl) Y.kit_StepError_LimitError (pv 4))) (de_one (yNot (de_isE (k := 0) (n := 0) Y.T Y.e_StepError hz hv rfl (pe_glob rfl Y.m_TextError rfl) Y.kit_StepError_TextError (pv 4)))))))))
    s0)) .nil)))
    s0)
noncomputable def B__law_great_1 : DS → SO := (seqM (setLS 0 (kI 16) (kI 4))
    (seqM (stM 4 (callM (M__law_term 13) (consA (varX 0) (consA (varX 1) (consA (xM (frzM (lstM (consV (kS (PySem.Str.ofString "x")) (consV (kS (PySem.Str.ofString "y")) (consV (kS (PySem.Str.ofString "z")) (consV (kS (PySem.Str.ofString "w")) (consV (kS (PySem.Str.ofString "v")) nilV)))))))) (consA (xM (kI 7)) nilA))))))
    (seqM (ifM (orT (eT (e1 (varX 4) fun w => (isiS .str w).map .bl)) (eT (e2 (xM (e1 (xM (frzM (callM (M__law_places 150) (consA (varX 4) nilA)))) lenS)) (xM (kI 30)) (binI0 fun i j => .bl (decide (j < i))))))
    (seqM (stM 4 (valM (tupM (consV (kS (PySem.Str.ofString "k")) (consV (tupM (consV (kS (PySem.Str.ofString "x")) (consV (tupM (consV (kS (PySem.Str.ofString "f")) (consV (tupM (consV (kS (PySem.Str.ofString "y")) nilV)) nilV))) (consV (kS (PySem.Str.ofString "z")) (consV (kS (PySem.Str.ofString "x")) nilV))))) nilV)))))
    nxM)
    nxM)
    (seqM (setLS 0 (kI 12) (kI 4))
    (seqM (stM 5 (callM (M__law_term 13) (consA (varX 0) (consA (varX 1) (consA (xM (frzM (e1 (xM (frzM (callM M__law_names (consA (varX 4) nilA)))) fun w => (itemsS w).map .lst))) (consA (xM (kI 6)) nilA))))))
    (seqM (ifM (eT (e2 (xM (e1 (xM (frzM (callM (M__law_places 150) (consA (varX 5) nilA)))) lenS)) (xM (kI 30)) (binI0 fun i j => .bl (decide (j < i)))))
    (seqM (stM 5 (valM (tupM (consV (kS (PySem.Str.ofString "a")) (consV (tupM nilV) nilV)))))
    nxM)
    nxM)
    (seqM (exM (valM (appendE 2 (tupM (consV (lockE 4) (consV (lockE 5) nilV))))))
    nxM)))))))
noncomputable def M__law_great : FM := runF 1 6 [0] ((seqM (stM 1 (valM (frzM (lstM (consV (tupM (consV (kS (PySem.Str.ofString "a")) (consV (kI 0) nilV))) (consV (tupM (consV (kS (PySem.Str.ofString "f")) (consV (kI 1) nilV))) (consV (tupM (consV (kS (PySem.Str.ofString "g")) (consV (kI 2) nilV))) (consV (tupM (consV (kS (PySem.Str.ofString "b")) (consV (kI 0) nilV))) (consV (tupM (consV (kS (PySem.Str.ofString "h")) (consV (kI 3) nilV))) (consV (tupM (consV (kS (PySem.Str.ofString "k")) (consV (kI 4) nilV))) (consV (tupM (consV (kS (PySem.Str.ofString "m")) (consV (kI 1) nilV))) (consV (tupM (consV (kS (PySem.Str.ofString "n")) (consV (kI 2) nilV))) (consV (tupM (consV (kS (PySem.Str.ofString "p_q")) (consV (kI 4) nilV))) (consV (tupM (consV (kS (PySem.Str.ofString "s0")) (consV (kI 0) nilV))) nilV))))))))))))))
    (seqM (stM 2 (lstM nilV))
    (seqM (forM (rg1 (consV (kI 10) nilV)) (gNameS 3)
    B__law_great_1)
    (seqM (rtM (lstM (consV (lockE 1) (consV (e1 (varX 2) tupS) nilV))))
    nxM)))))
theorem D__law_great (Y : Fc K mg base C_LimitError C_StepError C_TertiumError C_TextError CD_apply P_apply) : DFn P w K mg base 153 "_law_great" 1 M__law_great := dfn_of Y.f__law_great sc__law_great rfl (by decide) fun f cdv A outer s H E hr =>
    (s1 (sS (i := 1) sc__law_great.nd rfl (by first | exact Or.inl rfl | exact Or.inr rfl) (DE.o (DO.z (oL (v1 (yU (v1 yS (v1 yI v0))) (v1 (yU (v1 yS (v1 yI v0))) (v1 (yU (v1 yS (v1 yI v0))) (v1 (yU (v1 yS (v1 yI v0))) (v1 (yU (v1 yS (v1 yI v0))) (v1 (yU (v1 yS (v1 yI v0))) (v1 (yU (v1 yS (v1 yI v0))) (v1 (yU (v1 yS (v1 yI v0))) (v1 (yU (v1 yS (v1 yI v0))) (v1 (yU (v1 yS (v1 yI v0))) v0))))))))))))) (by decide))
    (s1 (sS (i := 2) sc__law_great.nd rfl (by first | exact Or.inl rfl | exact Or.inr rfl) (oL v0) (by decide))
    (s1 (sF (passes_of rfl) rfl (iR1 Y.T rfl (v1 yI v0)) (dg_name (i := 3) sc__law_great.nd rfl (by first | exact Or.inl rfl | exact Or.inr rfl) (by decide))
    (s1 (ds_setL (pv 0) yI yI)
    (s1 (sS (i := 4) sc__law_great.nd rfl (by first | exact Or.inl rfl | exact Or.inr rfl) (do_call (D__law_term Y 13) (hr.mono (by decide)) rfl (a1 (yV (pv 0)) (a1 (yV (pv 1)) (a1 (DE.y (DO.z (oL (v1 yS (v1 yS (v1 yS (v1 yS (v1 yS v0)))))))) (a1 (DE.y yI) a0))))) (by decide))
    (s1 (sI (DW.t (wO (tBe (de_isi .str Y.T rfl rfl (yV (pv 4)))) (dw_or1 (dt_gt (DE.y (de_len Y.T rfl (DE.y (DO.z (do_call (D__law_places Y 150) (hr.mono (by decide)) rfl (a1 (yV (pv 4)) a0)))))) (DE.y yI)))))
    (s1 (sS (i := 4) sc__law_great.nd rfl (by first | exact Or.inl rfl | exact Or.inr rfl) (DE.o (yU (v1 yS (v1 (yU (v1 yS (v1 (yU (v1 yS (v1 (yU (v1 yS v0)) v0))) (v1 yS (v1 yS v0))))) v0)))) (by decide))
    s0)
    s0)
    (s1 (ds_setL (pv 0) yI yI)
    (s1 (sS (i := 5) sc__law_great.nd rfl (by first | exact Or.inl rfl | exact Or.inr rfl) (do_call (D__law_term Y 13) (hr.mono (by decide)) rfl (a1 (yV (pv 0)) (a1 (yV (pv 1)) (a1 (DE.y (DO.z (do_list Y.T rfl (DE.y (DO.z (do_call (D__law_names Y) (hr.mono (by decide)) rfl (a1 (yV (pv 4)) a0))))))) (a1 (DE.y yI) a0))))) (by decide))
    (s1 (sI (dt_gt (DE.y (de_len Y.T rfl (DE.y (DO.z (do_call (D__law_places Y 150) (hr.mono (by decide)) rfl (a1 (yV (pv 5)) a0)))))) (DE.y yI))
    (s1 (sS (i := 5) sc__law_great.nd rfl (by first | exact Or.inl rfl | exact Or.inr rfl) (DE.o (yU (v1 yS (v1 (yU v0) v0)))) (by decide))
    s0)
    s0)
    (s1 (sE (DE.o (de_append (pv 2) (yU (v1 (yL (pv 4)) (v1 (yL (pv 5)) v0))))))
    s0))))))))
    (s1 (sR (oL (v1 (yL (pv 1)) (v1 (de_tup1 rfl Y.T rfl (yV (pv 2))) v0))))
    s0))))
noncomputable def C__law_large_1 : DS → ER Py := (e1 (varX 2) lenS)
noncomputable def M__law_large : FM := runF 1 3 [0] ((seqM (stM 1 (callM (M__law_places 150) (consA (varX 0) nilA)))
    (seqM (rtM (valM (orE (e2 (xM (e1 (varX 1) lenS)) (xM (kI 400)) (binI0 fun i j => .bl (decide (j < i)))) (e2 (xM (e1 (xM (frzM (lcM (sqI (lockE 1)) (gNameS 2) yesT C__law_large_1 [2]))) maxS)) (xM (kI 39)) (binI0 fun i j => .bl (decide (j < i)))))))
    nxM)))
theorem D__law_large (Y : Fc K mg base C_LimitError C_StepError C_TertiumError C_TextError CD_apply P_apply) : DFn P w K mg base 152 "_law_large" 1 M__law_large := dfn_of Y.f__law_large sc__law_large rfl (by decide) fun f cdv A outer s H E hr =>
    (s1 (sS (i := 1) sc__law_large.nd rfl (by first | exact Or.inl rfl | exact Or.inr rfl) (do_call (D__law_places Y 150) (hr.mono (by decide)) rfl (a1 (yV (pv 0)) a0)) (by decide))
    (s1 (sR (DE.o (yOr (de_gt (DE.y (de_len Y.T rfl (yV (pv 1)))) (DE.y yI)) (de_one (de_gt (DE.y (de_max rfl Y.T rfl (DE.y (DO.z (do_lc (pn := []) (own := [((PySem.Str.ofString "p"), 2)]) rfl sc__law_large.nd (iS (yL (pv 1))) (blkOk_by (N := ["t", "places", "p"]) (sc := (defScope st__law_large)) (by decide +kernel)) (fun _ _ _ _ _ => (dg_name (i := 2) sc__law_large.nd rfl (by first | exact Or.inl rfl | exact Or.inr rfl) (by decide))) (fun _ _ _ _ _ => q0) (fun _ _ _ _ _ => (de_len Y.T rfl (yV (pv 2))))))))) (DE.y yI))))))
    s0))
noncomputable def B_positions_1 : DS → SO := (seqM (exM (valM (appendE 2 (tupM (consV (frzM (e2 (varX 3) (xM (tupM (consV (lockE 6) nilV))) addS)) (consV (e2 (varX 5) (varX 6) ixS) nilV))))))
    nxM)
noncomputable def B_positions_2 : DS → SO := (seqM (asM (gTupS 2 (gConsS (gNameS 3) (gConsS (gNameS 4) gNilS))) (popE 2))
    (seqM (exM (valM (appendE 1 (lockE 3))))
    (seqM (stM 5 (callM M_inner (consA (varX 4) nilA)))
    (seqM (forM (rg3 (consV (e2 (xM (e1 (varX 5) lenS)) (xM (kI 1)) (binI0 fun i j => .int (i - j))) (consV (e1 (xM (kI 1)) fun w => (intS w).map fun i => .int (-i)) (consV (e1 (xM (kI 1)) fun w => (intS w).map fun i => .int (-i)) nilV)))) (gNameS 6)
    B_positions_1)
    nxM))))
noncomputable def M_positions : FM := runF 1 7 [0] ((seqM (stM 1 (lstM nilV))
    (seqM (stM 2 (lstM (consV (tupM (consV (tupM nilV) (consV (lockE 0) nilV))) nilV)))
    (seqM (whileS (e1 (varX 2) truS)
    B_positions_2)
    (seqM (rtM (takeO 1))
    nxM)))))
theorem D_positions (Y : Fc K mg base C_LimitError C_StepError C_TertiumError C_TextError CD_apply P_apply) : DFn P w K mg base 3 "positions" 1 M_positions := dfn_of Y.f_positions sc_positions rfl (by decide) fun f cdv A outer s H E hr =>
    (s1 (sS (i := 1) sc_positions.nd rfl (by first | exact Or.inl rfl | exact Or.inr rfl) (oL v0) (by decide))
    (s1 (sS (i := 2) sc_positions.nd rfl (by first | exact Or.inl rfl | exact Or.inr rfl) (oL (v1 (yU (v1 (yU v0) (v1 (yL (pv 0)) v0))) v0)) (by decide))
    (s1 (ds_while (passes_of rfl) (dt_tr (yV (pv 2)))
    (s1 (sA (de_pop (pv 2)) (dg_tup rfl (dgs_cons (dg_name (i := 3) sc_positions.nd rfl (by first | exact Or.inl rfl | exact Or.inr rfl) (by decide)) (dgs_cons (dg_name (i := 4) sc_positions.nd rfl (by first | exact Or.inl rfl | exact Or.inr rfl) (by decide)) dgs_nil))))
    (s1 (sE (DE.o (de_append (pv 1) (yL (pv 3)))))
    (s1 (sS (i := 5) sc_positions.nd rfl (by first | exact Or.inl rfl | exact Or.inr rfl) (do_call (D_inner Y) (hr.mono (by decide)) rfl (a1 (yV (pv 4)) a0)) (by decide))
    (s1 (sF (passes_of rfl) rfl (iR3 Y.T rfl (v1 (de_sub (DE.y (de_len Y.T rfl (yV (pv 5)))) (DE.y yI)) (v1 (de_neg (DE.y yI)) (v1 (de_neg (DE.y yI)) v0)))) (dg_name (i := 6) sc_positions.nd rfl (by first | exact Or.inl rfl | exact Or.inr rfl) (by decide))
    (s1 (sE (DE.o (de_append (pv 2) (yU (v1 (DO.z (do_add (yV (pv 3)) (DE.y (yU (v1 (yL (pv 6)) v0))))) (v1 (de_ix (by intro _ _; rfl) (yV (pv 5)) (yV (pv 6))) v0))))))
    s0))
    s0)))))
    (s1 (sR (yT (pv 1)))
    s0))))
noncomputable def B_successors_1 : DS → SO := (seqM (stM 5 (callM M_rewritten (consA (varX 0) (consA (varX 1) (consA (varX 3) (consA (varX 4) nilA))))))
    (seqM (ifM (eT (e1 (varX 5) fun w => some (.bl (!isNonS w))))
    (seqM (exM (valM (appendE 2 (tupM (consV (tupM (consV (lockE 3) (consV (lockE 4) nilV))) (consV (lockE 5) nilV))))))
    nxM)
    nxM)
    nxM))
noncomputable def B_successors_2 : DS → SO := (seqM (ifM (notT (e1 (xM (frzM (callM M_is_variable (consA (xM (frzM (callM M_at (consA (varX 1) (consA (varX 3) nilA))))) nilA)))) truS))
    (seqM (forM (rg1 (consV (e1 (varX 0) lenS) nilV)) (gNameS 4)
    B_successors_1)
    nxM)
    nxM)
    nxM)
noncomputable def M_successors : FM := runF 2 6 [0, 1] ((seqM (stM 2 (lstM nilV))
    (seqM (forM (sqI (frzM (callM M_positions (consA (varX 1) nilA)))) (gNameS 3)
    B_successors_2)
    (seqM (rtM (takeO 2))
    nxM))))
theorem D_successors (Y : Fc K mg base C_LimitError C_StepError C_TertiumError C_TextError CD_apply P_apply) : DFn P w K mg base 8 "successors" 2 M_successors := dfn_of Y.f_successors sc_successors rfl (by decide) fun f cdv A outer s H E hr =>
    (s1 (sS (i := 2) sc_successors.nd rfl (by first | exact Or.inl rfl | exact Or.inr rfl) (oL v0) (by decide))
    (s1 (sF (passes_of rfl) rfl (iS (DO.z (do_call (D_positions Y) (hr.mono (by decide)) rfl (a1 (yV (pv 1)) a0)))) (dg_name (i := 3) sc_successors.nd rfl (by first | exact Or.inl rfl | exact Or.inr rfl) (by decide))
    (s1 (sI (tN (dt_tr (DE.y (DO.z (do_call (D_is_variable Y) (hr.mono (by decide)) rfl (a1 (DE.y (DO.z (do_call (D_at Y) (hr.mono (by decide)) rfl (a1 (yV (pv 1)) (a1 (yV (pv 3)) a0))))) a0))))))
    (s1 (sF (passes_of rfl) rfl (iR1 Y.T rfl (v1 (de_len Y.T rfl (yV (pv 0))) v0)) (dg_name (i := 4) sc_successors.nd rfl (by first | exact Or.inl rfl | exact Or.inr rfl) (by decide))
    (s1 (sS (i := 5) sc_successors.nd rfl (by first | exact Or.inl rfl | exact Or.inr rfl) (do_call (D_rewritten Y) (hr.mono (by decide)) rfl (a1 (yV (pv 0)) (a1 (yV (pv 1)) (a1 (yV (pv 3)) (a1 (yV (pv 4)) a0))))) (by decide))
    (s1 (sI (dt_notN (yV (pv 5)))
    (s1 (sE (DE.o (de_append (pv 2) (yU (v1 (yU (v1 (yL (pv 3)) (v1 (yL (pv 4)) v0))) (v1 (yL (pv 5)) v0))))))
    s0)
    s0)
    s0)))
    s0)
    s0)
    s0))
    (s1 (sR (yT (pv 2)))
    s0)))
noncomputable def B__law_all_1 : DS → SO := (seqM (rtM (callM M_successors (consA (varX 0) (consA (varX 1) nilA))))
    nxM)
noncomputable def B__law_all_2 : DS → SO := (seqM (rtM (valM (kS (PySem.Str.ofString "limit"))))
    nxM)
noncomputable def M__law_all : FM := runF 2 2 [0, 1] ((seqM (tryP B__law_all_1 (PySem.Str.ofString "LimitError") [] B__law_all_2)
    nxM))
theorem D__law_all (Y : Fc K mg base C_LimitError C_StepError C_TertiumError C_TextError CD_apply P_apply) : DFn P w K mg base 9 "_law_all" 2 M__law_all := dfn_of Y.f__law_all sc__law_all rfl (by decide) fun f cdv A outer s H E hr =>
    (s1 (sTO [] rfl rfl rfl Y.m_LimitError Y.exm_LimitError_LimitError nofun (fun pl xe hpo =>
    (s1 (sR (do_call (D_successors Y) (hr.mono (by decide)) rfl (a1 (yV (pv 0)) (a1 (yV (pv 1)) a0))))
    s0)) (fun a oe pl hz hv =>
    (s1 (sR (DE.o yS))
    s0)))
    s0)
noncomputable def C_law_1 : DS → ER Py := (frzM (callM M__law_large (consA (varX 8) nilA)))
noncomputable def B_law_2 : DS → SO := (seqM (ifM (eT (e2 (xM (frzM (callM M__law_told (consA (varX 3) (consA (varX 5) (consA (varX 7) (consA (xM (kB true)) nilA))))))) (xM (e2 (xM (frzM (lstM (consV (frzM (lstM (consV (lockE 8) nilV))) (consV (frzM (lstM (consV (kS (PySem.Str.ofString "limit")) (consV (kB true) nilV)))) nilV))))) (xM (e1 (xM (frzM (callM M__law_large (consA (varX 8) nilA)))) intOf)) ixS)) fun x y => (eqS x y).map fun k => .bl (!k)))
    (seqM (rtM (valM (kB false)))
    nxM)
    nxM)
    nxM)
noncomputable def Q_law_3 : DS → ER Bool := (andT (eT (e2 (varX 17) (varX 7) fun x y => (eqS x y).map .bl)) (notT (e1 (xM (frzM (callM M__law_large (consA (varX 8) nilA)))) truS)))
noncomputable def C_law_4 : DS → ER Py := (lockE 8)
noncomputable def C_law_5 : DS → ER Py := (andE (e2 (varX 17) (varX 7) fun x y => (eqS x y).map .bl) (frzM (callM M__law_large (consA (varX 8) nilA))))
noncomputable def B_law_6 : DS → SO := (seqM (stM 14 (valM (frzM (callM M__law_steps (consA (varX 3) (consA (varX 12) nilA))))))
    (seqM (stM 15 (valM (e2 (xM (frzM (e2 (varX 14) (xM (frzM (lstM (consV (tupM (consV (tupM (consV (tupM nilV) (consV (kI 0) nilV))) (consV (lockE 12) nilV))) nilV)))) addS))) (xM (frzM (callM M__law_take (consA (varX 1) (consA (xM (e2 (xM (kI 1)) (xM (e1 (varX 14) lenS)) (binI0 fun i j => .int (if j > i then j else i)))) nilA))))) ixS)))
    (seqM (ifM (andT (e1 (varX 14) truS) (eT (e2 (xM (e1 (xM (frzM (callM (M__law_places 150) (consA (xM (e2 (varX 15) (xM (kI 1)) ixS)) nilA)))) lenS)) (xM (kI 60)) (binI0 fun i j => .bl (decide (i < j))))))
    (seqM (exM (valM (appendE 11 (e2 (varX 15) (xM (kI 0)) ixS))))
    (seqM (stM 12 (valM (e2 (varX 15) (xM (kI 1)) ixS)))
    nxM))
    nxM)
    nxM)))
noncomputable def B_law_7 : DS → SO := (seqM (stM 12 (valM (frzM (callM M__law_led (consA (varX 3) (consA (varX 5) (consA (xM (e1 (xM (frzM (slM (varX 11) pN (pS (lockE 13))))) tupS)) nilA)))))))
    (seqM (ifM (andT (eT (e1 (varX 12) fun w => some (.bl (!isNonS w)))) (e1 (xM (frzM (callM M__law_large (consA (varX 12) nilA)))) truS))
    (seqM (rtM (valM (kB true)))
    nxM)
    nxM)
    nxM))
noncomputable def B_law_8 : DS → SO := (seqM (stM 16 (valM (frzM (callM M__law_led (consA (varX 3) (consA (varX 5) (consA (xM (e1 (varX 11) tupS)) nilA)))))))
    (seqM (stM 17 (valM (frzM (callM M__law_told (consA (varX 3) (consA (varX 5) (consA (xM (e1 (varX 11) tupS)) (consA (xM (kB false)) nilA))))))))
    (seqM (ifM (eT (e1 (varX 16) fun w => some (.bl (isNonS w))))
    (seqM (rtM (valM (e2 (varX 17) (xM (kB true)) isBS)))
    nxM)
    nxM)
    (seqM (rtM (valM (e2 (varX 17) (xM (frzM (lstM (consV (lockE 16) nilV)))) fun x y => (eqS x y).map .bl)))
    nxM))))
noncomputable def B_law_9 : DS → SO := (seqM (forM (rg1 (consV (e2 (xM (e1 (varX 11) lenS)) (xM (kI 1)) (binI0 fun i j => .int (i + j))) nilV)) (gNameS 13)
    B_law_7)
    B_law_8)
noncomputable def B_law_10 : DS → SO := (seqM (ifM (andT (e1 (varX 11) truS) (eT (e2 (xM (frzM (callM M__law_take (consA (varX 1) (consA (xM (kI 3)) nilA))))) (xM (kI 0)) fun x y => (eqS x y).map .bl)))
    (seqM (stM 13 (callM M__law_take (consA (varX 1) (consA (xM (e1 (varX 11) lenS)) nilA))))
    (seqM (setLS 11 (tupM (consV (e2 (xM (e2 (varX 11) (varX 13) ixS)) (xM (kI 0)) ixS) (consV (e2 (xM (e2 (xM (e2 (varX 11) (varX 13) ixS)) (xM (kI 1)) ixS)) (xM (kI 1)) (binI0 fun i j => .int (i + j))) nilV))) (lockE 13))
    nxM))
    nxM)
    B_law_9)
noncomputable def B_law_11 : DS → SO := (seqM (stM 11 (lstM nilV))
    (seqM (stM 12 (valM (lockE 5)))
    (seqM (forM (rg1 (consV (frzM (callM M__law_take (consA (varX 1) (consA (xM (kI 5)) nilA)))) nilV)) (gNameS 13)
    B_law_6)
    B_law_10)))
noncomputable def B_law_12 : DS → SO := (seqM (stM 9 (valM (frzM (callM (M__law_places 150) (consA (varX 5) nilA)))))
    (seqM (stM 7 (valM (tupM (consV (frzM (e2 (xM (e2 (varX 9) (xM (frzM (callM M__law_take (consA (varX 1) (consA (xM (e1 (varX 9) lenS)) nilA))))) ixS)) (xM (e2 (xM (tupM (consV (tupM nilV) (consV (tupM (consV (kI 0) nilV)) (consV (tupM (consV (e2 (xM (kI 0)) (xM (kI 1)) (binI0 fun i j => .int (i - j))) nilV)) nilV))))) (xM (frzM (callM M__law_take (consA (varX 1) (consA (xM (kI 3)) nilA))))) ixS)) addS)) (consV (e2 (xM (frzM (callM M__law_take (consA (varX 1) (consA (xM (kI 6)) nilA))))) (xM (kI 1)) (binI0 fun i j => .int (i - j))) nilV)))))
    (seqM (stM 10 (lcM (sqI (lockE 6)) (gTupS 2 (gConsS (gNameS 17) (gConsS (gNameS 8) gNilS))) Q_law_3 C_law_4 [17, 8]))
    (seqM (ifM (eT (e1 (xM (frzM (lcM (sqI (lockE 6)) (gTupS 2 (gConsS (gNameS 17) (gConsS (gNameS 8) gNilS))) yesT C_law_5 [17, 8]))) anyS))
    (seqM (rtM (valM (e2 (xM (frzM (callM M__law_told (consA (varX 3) (consA (varX 5) (consA (varX 7) (consA (xM (kB true)) nilA))))))) (xM (frzM (lstM (consV (kS (PySem.Str.ofString "limit")) (consV (kB true) nilV))))) fun x y => (eqS x y).map .bl)))
    nxM)
    nxM)
    (seqM (ifM (orT (andT (e1 (varX 10) truS) (eT (e2 (xM (frzM (callM M__law_told (consA (varX 3) (consA (varX 5) (consA (varX 7) (consA (xM (kB true)) nilA))))))) (xM (frzM (lstM (consV (e2 (varX 10) (xM (kI 0)) ixS) nilV)))) fun x y => (eqS x y).map fun k => .bl (!k)))) (andT (notT (e1 (varX 10) truS)) (eT (e2 (xM (frzM (callM M__law_told (consA (varX 3) (consA (varX 5) (consA (varX 7) (consA (xM (kB true)) nilA))))))) (xM (kB true)) isntBS))))
    (seqM (rtM (valM (kB false)))
    nxM)
    nxM)
    B_law_11)))))
noncomputable def B_law_13 : DS → SO := (seqM (forM (sqI (frzM (slM (varX 6) pN (pS (kI 3))))) (gTupS 2 (gConsS (gNameS 7) (gConsS (gNameS 8) gNilS)))
    B_law_2)
    B_law_12)
noncomputable def B_law_14 : DS → SO := (seqM (stM 6 (valM (frzM (callM M__law_steps (consA (varX 3) (consA (varX 5) nilA))))))
    (seqM (ifM (eT (e1 (xM (frzM (lcM (sqI (lockE 6)) (gTupS 2 (gConsS (gNameS 7) (gConsS (gNameS 8) gNilS))) yesT C_law_1 [7, 8]))) anyS))
    (seqM (ifM (eT (e2 (xM (frzM (callM M__law_all (consA (varX 3) (consA (varX 5) nilA))))) (xM (kS (PySem.Str.ofString "limit"))) fun x y => (eqS x y).map fun k => .bl (!k)))
    (seqM (rtM (valM (kB false)))
    nxM)
    nxM)
    nxM)
    (seqM (ifM (eT (e2 (xM (frzM (callM M__law_all (consA (varX 3) (consA (varX 5) nilA))))) (varX 6) fun x y => (eqS x y).map fun k => .bl (!k)))
    (seqM (rtM (valM (kB false)))
    nxM)
    nxM)
    nxM))
    B_law_13))
noncomputable def B_law_15 : DS → SO := (seqM (stM 5 (valM (frzM (callM (M__law_term 13) (consA (varX 1) (consA (varX 2) (consA (xM (frzM (lstM (consV (kS (PySem.Str.ofString "x")) (consV (kS (PySem.Str.ofString "y")) nilV))))) (consA (xM (kI 4)) nilA))))))))
    (seqM (ifM (e1 (varX 4) truS)
    (seqM (setLS 1 (kI 30) (kI 4))
    (seqM (stM 5 (valM (frzM (callM (M__law_term 13) (consA (varX 1) (consA (varX 2) (consA (xM (frzM (lstM (consV (kS (PySem.Str.ofString "x")) (consV (kS (PySem.Str.ofString "y")) nilV))))) (consA (xM (kI 11)) nilA))))))))
    (seqM (ifM (eT (e2 (xM (e1 (xM (frzM (callM (M__law_places 150) (consA (varX 5) nilA)))) lenS)) (xM (kI 60)) (binI0 fun i j => .bl (decide (j < i)))))
    (seqM (stM 5 (valM (tupM (consV (kS (PySem.Str.ofString "f")) (consV (tupM (consV (kS (PySem.Str.ofString "x")) nilV)) nilV)))))
    nxM)
    nxM)
    nxM)))
    nxM)
    B_law_14))
noncomputable def M_law : FM := runF 1 18 [0] ((seqM (stM 1 (callM M__law_start (consA (varX 0) nilA)))
    (seqM (stM 2 (valM (frzM (callM M__law_signature (consA (varX 1) nilA)))))
    (seqM (stM 3 (valM (frzM (callM M__law_system (consA (varX 1) (consA (varX 2) (consA (xM (kI 4)) nilA)))))))
    (seqM (stM 4 (valM (e2 (xM (frzM (callM M__law_take (consA (varX 1) (consA (xM (kI 10)) nilA))))) (xM (kI 0)) fun x y => (eqS x y).map .bl)))
    (seqM (ifM (e1 (varX 4) truS)
    (seqM (asM (gUnlS 2 (gConsS (gNameS 2) (gConsS (gNameS 3) gNilS))) (frzM (callM M__law_great (consA (varX 1) nilA))))
    nxM)
    nxM)
    B_law_15))))))
theorem D_law (Y : Fc K mg base C_LimitError C_StepError C_TertiumError C_TextError CD_apply P_apply) {f : Addr} {fd : FuncData} (F : Fun K "law" "law" st_law f fd) : FnOk P w K mg base (L2.CX P w) 155 f fd ["script"] (spD mg K 1 M_law) := fnok_mk F sc_law rfl (by decide) fun cdv A outer s H E hr =>
    (s1 (sS (i := 1) sc_law.nd rfl (by first | exact Or.inl rfl | exact Or.inr rfl) (do_call (D__law_start Y) (hr.mono (by decide)) rfl (a1 (yV (pv 0)) a0)) (by decide))
    (s1 (sS (i := 2) sc_law.nd rfl (by first | exact Or.inl rfl | exact Or.inr rfl) (DE.o (DO.z (do_call (D__law_signature Y) (hr.mono (by decide)) rfl (a1 (yV (pv 1)) a0)))) (by decide))
    (s1 (sS (i := 3) sc_law.nd rfl (by first | exact Or.inl rfl | exact Or.inr rfl) (DE.o (DO.z (do_call (D__law_system Y) (hr.mono (by decide)) rfl (a1 (yV (pv 1)) (a1 (yV (pv 2)) (a1 (DE.y yI) a0)))))) (by decide))
    (s1 (sS (i := 4) sc_law.nd rfl (by first | exact Or.inl rfl | exact Or.inr rfl) (DE.o (de_eq (hu64 hr) (DE.y (DO.z (do_call (D__law_take Y) (hr.mono (by decide)) rfl (a1 (yV (pv 1)) (a1 (DE.y yI) a0))))) (DE.y yI))) (by decide))
    (s1 (sI (dt_tr (yV (pv 4)))
    (s1 (sA (DO.z (do_call (D__law_great Y) (hr.mono (by decide)) rfl (a1 (yV (pv 1)) a0))) (dg_unl rfl (dgs_cons (dg_name (i := 2) sc_law.nd rfl (by first | exact Or.inl rfl | exact Or.inr rfl) (by decide)) (dgs_cons (dg_name (i := 3) sc_law.nd rfl (by first | exact Or.inl rfl | exact Or.inr rfl) (by decide)) dgs_nil))))
    s0)
    s0)
    (s1 (sS (i := 5) sc_law.nd rfl (by first | exact Or.inl rfl | exact Or.inr rfl) (DE.o (DO.z (do_call (D__law_term Y 13) (hr.mono (by decide)) rfl (a1 (yV (pv 1)) (a1 (yV (pv 2)) (a1 (DE.y (DO.z (oL (v1 yS (v1 yS v0))))) (a1 (DE.y yI) a0))))))) (by decide))
    (s1 (sI (dt_tr (yV (pv 4)))
    (s1 (ds_setL (pv 1) yI yI)
    (s1 (sS (i := 5) sc_law.nd rfl (by first | exact Or.inl rfl | exact Or.inr rfl) (DE.o (DO.z (do_call (D__law_term Y 13) (hr.mono (by decide)) rfl (a1 (yV (pv 1)) (a1 (yV (pv 2)) (a1 (DE.y (DO.z (oL (v1 yS (v1 yS v0))))) (a1 (DE.y yI) a0))))))) (by decide))
    (s1 (sI (dt_gt (DE.y (de_len Y.T rfl (DE.y (DO.z (do_call (D__law_places Y 150) (hr.mono (by decide)) rfl (a1 (yV (pv 5)) a0)))))) (DE.y yI))
    (s1 (sS (i := 5) sc_law.nd rfl (by first | exact Or.inl rfl | exact Or.inr rfl) (DE.o (yU (v1 yS (v1 (yU (v1 yS v0)) v0)))) (by decide))
    s0)
    s0)
    s0)))
    s0)
    (s1 (sS (i := 6) sc_law.nd rfl (by first | exact Or.inl rfl | exact Or.inr rfl) (DE.o (DO.z (do_call (D__law_steps Y) (hr.mono (by decide)) rfl (a1 (yV (pv 3)) (a1 (yV (pv 5)) a0))))) (by decide))
    (s1 (sI (tBe (de_any rfl Y.T rfl (DE.y (DO.z (do_lc (pn := []) (own := [((PySem.Str.ofString "one"), 7), ((PySem.Str.ofString "result"), 8)]) rfl sc_law.nd (iS (yL (pv 6))) (blkOk_by (N := ["script", "c", "sig", "system", "great", "t", "due", "one", "result", "places", "found", "steps", "now", "k", "rows", "row", "led", "told"]) (sc := (defScope st_law)) (by decide +kernel)) (fun _ _ _ _ _ => (dg_tup rfl (dgs_cons (dg_name (i := 7) sc_law.nd rfl (by first | exact Or.inl rfl | exact Or.inr rfl) (by decide)) (dgs_cons (dg_name (i := 8) sc_law.nd rfl (by first | exact Or.inl rfl | exact Or.inr rfl) (by decide)) dgs_nil)))) (fun _ _ _ _ _ => q0) (fun _ _ _ _ _ => (DO.z (do_call (D__law_large Y) (hr.mono (by decide)) rfl (a1 (yV (pv 8)) a0)))))))))
    (s1 (sI (dt_ne (hu64 hr) (DE.y (DO.z (do_call (D__law_all Y) (hr.mono (by decide)) rfl (a1 (yV (pv 3)) (a1 (yV (pv 5)) a0))))) (DE.y yS))
    (s1 (sR (DE.o yB))
    s0)
    s0)
    s0)
    (s1 (sI (dt_ne (hu64 hr) (DE.y (DO.z (do_call (D__law_all Y) (hr.mono (by decide)) rfl (a1 (yV (pv 3)) (a1 (yV (pv 5)) a0))))) (yV (pv 6)))
    (s1 (sR (DE.o yB))
    s0)
    s0)
    s0))
    (s1 (sF (passes_of rfl) rfl (iS (DO.z (oSl (yV (pv 6)) p0 (p1 yI)))) (dg_tup rfl (dgs_cons (dg_name (i := 7) sc_law.nd rfl (by first | exact Or.inl rfl | exact Or.inr rfl) (by decide)) (dgs_cons (dg_name (i := 8) sc_law.nd rfl (by first | exact Or.inl rfl | exact Or.inr rfl) (by decide)) dgs_nil)))
    (s1 (sI (dt_ne (hu64 hr) (DE.y (DO.z (do_call (D__law_told Y) (hr.mono (by decide)) rfl (a1 (yV (pv 3)) (a1 (yV (pv 5)) (a1 (yV (pv 7)) (a1 (DE.y yB) a0))))))) (DE.y (de_ix (by intro _ _; rfl) (DE.y (DO.z (oL (v1 (DO.z (oL (v1 (yL (pv 8)) v0))) (v1 (DO.z (oL (v1 yS (v1 yB v0)))) v0))))) (DE.y (de_intOf Y.T rfl (DE.y (DO.z (do_call (D__law_large Y) (hr.mono (by decide)) rfl (a1 (yV (pv 8)) a0)))))))))
    (s1 (sR (DE.o yB))
    s0)
    s0)
    s0))
    (s1 (sS (i := 9) sc_law.nd rfl (by first | exact Or.inl rfl | exact Or.inr rfl) (DE.o (DO.z (do_call (D__law_places Y 150) (hr.mono (by decide)) rfl (a1 (yV (pv 5)) a0)))) (by decide))
    (s1 (sS (i := 7) sc_law.nd rfl (by first | exact Or.inl rfl | exact Or.inr rfl) (DE.o (yU (v1 (DO.z (do_add (DE.y (de_ix (by intro _ _; rfl) (yV (pv 9)) (DE.y (DO.z (do_call (D__law_take Y) (hr.mono (by decide)) rfl (a1 (yV (pv 1)) (a1 (DE.y (de_len Y.T rfl (yV (pv 9)))) a0))))))) (DE.y (de_ix (by intro _ _; rfl) (DE.y (yU (v1 (yU v0) (v1 (yU (v1 yI v0)) (v1 (yU (v1 (de_sub (DE.y yI) (DE.y yI)) v0)) v0))))) (DE.y (DO.z (do_call (D__law_take Y) (hr.mono (by decide)) rfl (a1 (yV (pv 1)) (a1 (DE.y yI) a0))))))))) (v1 (de_sub (DE.y (DO.z (do_call (D__law_take Y) (hr.mono (by decide)) rfl (a1 (yV (pv 1)) (a1 (DE.y yI) a0))))) (DE.y yI)) v0)))) (by decide))
    (s1 (ds_setLc (i := 10) (pn := []) (own := [((PySem.Str.ofString "told"), 17), ((PySem.Str.ofString "result"), 8)]) rfl sc_law.nd rfl rfl (sw_true rfl rfl rfl (by decide +kernel)) (iS (yL (pv 6))) (blkOk_by (N := ["script", "c", "sig", "system", "great", "t", "due", "one", "result", "places", "found", "steps", "now", "k", "rows", "row", "led", "told"]) (sc := (defScope st_law)) (by decide +kernel)) (fun _ _ _ _ _ => (dg_tup rfl (dgs_cons (dg_name (i := 17) sc_law.nd rfl (by first | exact Or.inl rfl | exact Or.inr rfl) (by decide)) (dgs_cons (dg_name (i := 8) sc_law.nd rfl (by first | exact Or.inl rfl | exact Or.inr rfl) (by decide)) dgs_nil)))) (fun _ _ _ _ _ => (dts_one (DW.t (wA (dt_eq (hu64 hr) (yV (pv 17)) (yV (pv 7))) (dw_and1 (tN (dt_tr (DE.y (DO.z (do_call (D__law_large Y) (hr.mono (by decide)) rfl (a1 (yV (pv 8)) a0))))))))))) (fun _ _ _ _ _ => (yL (pv 8))) (by decide))
    (s1 (sI (tBe (de_any rfl Y.T rfl (DE.y (DO.z (do_lc (pn := []) (own := [((PySem.Str.ofString "told"), 17), ((PySem.Str.ofString "result"), 8)]) rfl sc_law.nd (iS (yL (pv 6))) (blkOk_by (N := ["script", "c", "sig", "system", "great", "t", "due", "one", "result", "places", "found", "steps", "now", "k", "rows", "row", "led", "told"]) (sc := (defScope st_law)) (by decide +kernel)) (fun _ _ _ _ _ => (dg_tup rfl (dgs_cons (dg_name (i := 17) sc_law.nd rfl (by first | exact Or.inl rfl | exact Or.inr rfl) (by decide)) (dgs_cons (dg_name (i := 8) sc_law.nd rfl (by first | exact Or.inl rfl | exact Or.inr rfl) (by decide)) dgs_nil)))) (fun _ _ _ _ _ => q0) (fun _ _ _ _ _ => (yAnd (de_eq (hu64 hr) (yV (pv 17)) (yV (pv 7))) (de_one (DO.z (do_call (D__law_large Y) (hr.mono (by decide)) rfl (a1 (yV (pv 8)) a0)))))))))))
    (s1 (sR (DE.o (de_eq (hu64 hr) (DE.y (DO.z (do_call (D__law_told Y) (hr.mono (by decide)) rfl (a1 (yV (pv 3)) (a1 (yV (pv 5)) (a1 (yV (pv 7)) (a1 (DE.y yB) a0))))))) (DE.y (DO.z (oL (v1 yS (v1 yB v0))))))))
    s0)
    s0)
    (s1 (sI (DW.t (wO (DW.t (wA (dt_tr (yV (pv 10))) (dw_and1 (dt_ne (hu64 hr) (DE.y (DO.z (do_call (D__law_told Y) (hr.mono (by decide)) rfl (a1 (yV (pv 3)) (a1 (yV (pv 5)) (a1 (yV (pv 7)) (a1 (DE.y yB) a0))))))) (DE.y (DO.z (oL (v1 (de_ix (by intro _ _; rfl) (yV (pv 10)) (DE.y yI)) v0)))))))) (dw_or1 (DW.t (wA (tN (dt_tr (yV (pv 10)))) (dw_and1 (dt_isntB (DE.y (DO.z (do_call (D__law_told Y) (hr.mono (by decide)) rfl (a1 (yV (pv 3)) (a1 (yV (pv 5)) (a1 (yV (pv 7)) (a1 (DE.y yB) a0))))))) (DE.y yB))))))))
    (s1 (sR (DE.o yB))
    s0)
    s0)
    (s1 (sS (i := 11) sc_law.nd rfl (by first | exact Or.inl rfl | exact Or.inr rfl) (oL v0) (by decide))
    (s1 (sS (i := 12) sc_law.nd rfl (by first | exact Or.inl rfl | exact Or.inr rfl) (DE.o (yL (pv 5))) (by decide))
    (s1 (sF (passes_of rfl) rfl (iR1 Y.T rfl (v1 (DO.z (do_call (D__law_take Y) (hr.mono (by decide)) rfl (a1 (yV (pv 1)) (a1 (DE.y yI) a0)))) v0)) (dg_name (i := 13) sc_law.nd rfl (by first | exact Or.inl rfl | exact Or.inr rfl) (by decide))
    (s1 (sS (i := 14) sc_law.nd rfl (by first | exact Or.inl rfl | exact Or.inr rfl) (DE.o (DO.z (do_call (D__law_steps Y) (hr.mono (by decide)) rfl (a1 (yV (pv 3)) (a1 (yV (pv 12)) a0))))) (by decide))
    (s1 (sS (i := 15) sc_law.nd rfl (by first | exact Or.inl rfl | exact Or.inr rfl) (DE.o (de_ix (by intro _ _; rfl) (DE.y (DO.z (do_add (yV (pv 14)) (DE.y (DO.z (oL (v1 (yU (v1 (yU (v1 (yU v0) (v1 yI v0))) (v1 (yL (pv 12)) v0))) v0))))))) (DE.y (DO.z (do_call (D__law_take Y) (hr.mono (by decide)) rfl (a1 (yV (pv 1)) (a1 (DE.y (de_max2 rfl Y.T rfl (DE.y yI) (DE.y (de_len Y.T rfl (yV (pv 14)))))) a0))))))) (by decide))
    (s1 (sI (DW.t (wA (dt_tr (yV (pv 14))) (dw_and1 (dt_lt (DE.y (de_len Y.T rfl (DE.y (DO.z (do_call (D__law_places Y 150) (hr.mono (by decide)) rfl (a1 (DE.y (de_ix (by intro _ _; rfl) (yV (pv 15)) (DE.y yI))) a0)))))) (DE.y yI)))))
    (s1 (sE (DE.o (de_append (pv 11) (de_ix (by intro _ _; rfl) (yV (pv 15)) (DE.y yI)))))
    (s1 (sS (i := 12) sc_law.nd rfl (by first | exact Or.inl rfl | exact Or.inr rfl) (DE.o (de_ix (by intro _ _; rfl) (yV (pv 15)) (DE.y yI))) (by decide))
    s0))
    s0)
    s0))))
    (s1 (sI (DW.t (wA (dt_tr (yV (pv 11))) (dw_and1 (dt_eq (hu64 hr) (DE.y (DO.z (do_call (D__law_take Y) (hr.mono (by decide)) rfl (a1 (yV (pv 1)) (a1 (DE.y yI) a0))))) (DE.y yI)))))
    (s1 (sS (i := 13) sc_law.nd rfl (by first | exact Or.inl rfl | exact Or.inr rfl) (do_call (D__law_take Y) (hr.mono (by decide)) rfl (a1 (yV (pv 1)) (a1 (DE.y (de_len Y.T rfl (yV (pv 11)))) a0))) (by decide))
    (s1 (ds_setL (pv 11) (yL (pv 13)) (yU (v1 (de_ix (by intro _ _; rfl) (DE.y (de_ix (by intro _ _; rfl) (yV (pv 11)) (yV (pv 13)))) (DE.y yI)) (v1 (de_add (DE.y (de_ix (by intro _ _; rfl) (DE.y (de_ix (by intro _ _; rfl) (yV (pv 11)) (yV (pv 13)))) (DE.y yI))) (DE.y yI)) v0))))
    s0))
    s0)
    (s1 (sF (passes_of rfl) rfl (iR1 Y.T rfl (v1 (de_add (DE.y (de_len Y.T rfl (yV (pv 11)))) (DE.y yI)) v0)) (dg_name (i := 13) sc_law.nd rfl (by first | exact Or.inl rfl | exact Or.inr rfl) (by decide))
    (s1 (sS (i := 12) sc_law.nd rfl (by first | exact Or.inl rfl | exact Or.inr rfl) (DE.o (DO.z (do_call (D__law_led Y) (hr.mono (by decide)) rfl (a1 (yV (pv 3)) (a1 (yV (pv 5)) (a1 (DE.y (de_tup1 rfl Y.T rfl (DE.y (DO.z (oSl (yV (pv 11)) p0 (p1 (yL (pv 13)))))))) a0)))))) (by decide))
    (s1 (sI (DW.t (wA (dt_notN (yV (pv 12))) (dw_and1 (dt_tr (DE.y (DO.z (do_call (D__law_large Y) (hr.mono (by decide)) rfl (a1 (yV (pv 12)) a0))))))))
    (s1 (sR (DE.o yB))
    s0)
    s0)
    s0)))
    (s1 (sS (i := 16) sc_law.nd rfl (by first | exact Or.inl rfl | exact Or.inr rfl) (DE.o (DO.z (do_call (D__law_led Y) (hr.mono (by decide)) rfl (a1 (yV (pv 3)) (a1 (yV (pv 5)) (a1 (DE.y (de_tup1 rfl Y.T rfl (yV (pv 11)))) a0)))))) (by decide))
    (s1 (sS (i := 17) sc_law.nd rfl (by first | exact Or.inl rfl | exact Or.inr rfl) (DE.o (DO.z (do_call (D__law_told Y) (hr.mono (by decide)) rfl (a1 (yV (pv 3)) (a1 (yV (pv 5)) (a1 (DE.y (de_tup1 rfl Y.T rfl (yV (pv 11)))) (a1 (DE.y yB) a0))))))) (by decide))
    (s1 (sI (dt_isN (yV (pv 16)))
    (s1 (sR (DE.o (de_isB (yV (pv 17)) (DE.y yB))))
    s0)
    s0)
    (s1 (sR (DE.o (de_eq (hu64 hr) (yV (pv 17)) (DE.y (DO.z (oL (v1 (yL (pv 16)) v0)))))))
    s0))))))))))))))))))))))))
end
end K10

/-! ## DM1 -/
namespace DL
open PySem PySem.Spec PyProof.Rows L2
variable [Tb]
theorem tryM_ok {mb : DS → SO} {x : Str} {ps : List Str} {i : Nat} {ms : Addr → DS → SO} {st st1 : DS} (h : mb st = .nx st1) : tryM mb x ps i ms st = .nx st1 := by
  unfold tryM
  rw [tryS_ok]
  · exact h
  · intro x' st' e; rw [h] at e; cases e
theorem tryM_ex {mb : DS → SO} {x : Str} {ps : List Str} {i : Nat} {ms : Addr → DS → SO} {st st1 : DS} {r : SO} (h : mb st = .ex ⟨x, none⟩ st1) (hne : r ≠ .stuck) (k : ∀ a, clrS i (ms a (st1.set i (some (.val (.obj a))))) = r) : tryM mb x ps i ms st = r := by
  unfold tryM
  refine tryS_ex h ?_ hne k
  simp [cxC]
end DL
namespace DM
open PySem L2 DL
variable [Tb]
def cst (ns : List Int) (i : Nat) (r k b : Int) : List Py := [.lst (ns.map .int), .int i, .int r, .int k, .int b]
def CS (b : Int) (c : List Py) : Prop := ∃ ns i r k, c = cst ns i r k b
abbrev Sg := List (Str × Nat)
abbrev sA : Str := PySem.Str.ofString "a"
abbrev sB : Str := PySem.Str.ofString "b"
abbrev sF : Str := PySem.Str.ofString "f"
abbrev sG : Str := PySem.Str.ofString "g"
abbrev sH : Str := PySem.Str.ofString "h"
abbrev sK : Str := PySem.Str.ofString "k"
def sgP (p : Str × Nat) : Py := .tup [.str p.1, .int p.2]
def SigOk (sg : Sg) : Prop := ∃ sb sh sk : Sg, (sb = [] ∨ sb = [(sB, 0)]) ∧ (sh = [] ∨ ∃ m, 1 ≤ m ∧ m ≤ 3 ∧ sh = [(sH, m)]) ∧ (sk = [] ∨ ∃ m, 3 ≤ m ∧ m ≤ 4 ∧ sk = [(sK, m)]) ∧ sg = [(sA, 0), (sF, 1), (sG, 2)] ++ sb ++ sh ++ sk
theorem atI4 {d : Int} (h : 0 ≤ d) (h2 : d < 4) : ∃ m : Nat, 1 ≤ m ∧ m ≤ 3 ∧ atI [Py.int 1, Py.int 1, Py.int 2, Py.int 3] d = some (.int m) := by
  have : d = 0 ∨ d = 1 ∨ d = 2 ∨ d = 3 := by omega
  rcases this with rfl | rfl | rfl | rfl
  · exact ⟨1, by simp, by simp, by simp⟩
  · exact ⟨1, by simp, by simp, by simp⟩
  · exact ⟨2, by simp, by simp, by simp⟩
  · exact ⟨3, by simp, by simp, by simp⟩
theorem sL {n : Nat} (h : n < 1000) : n < sizeLine := Nat.lt_trans h (by decide)
theorem sL2 {n : Nat} (h : n < 100000) : n < sizeLine := Nat.lt_trans h (by decide)
theorem sLe2 {n : Nat} (h : n < 100000) : n ≤ sizeLine := Nat.le_of_lt (sL2 h)
theorem sLe {n : Nat} (h : n < 1000) : n ≤ sizeLine := Nat.le_of_lt (sL h)
/-! ### terms -/
inductive Tm where
  | v (x : Str) | f (n : Str) (ts : List Tm)
mutual
def Tm.py : Tm → Py
  | .v x => .str x
  | .f n ts => .tup [.str n, .tup (pys ts)]
def pys : List Tm → List Py
  | [] => []
  | t :: ts => t.py :: pys ts
end
theorem pys_eq : ∀ ts : List Tm, pys ts = ts.map Tm.py
  | [] => rfl
  | t :: ts => by rw [pys, pys_eq ts]; rfl
theorem py_f (n : Str) (ts : List Tm) : (Tm.f n ts).py = .tup [.str n, .tup (ts.map Tm.py)] := by rw [Tm.py, pys_eq]
theorem py_v (x : Str) : (Tm.v x).py = .str x := by rw [Tm.py]
mutual
def Tm.sz : Tm → Nat
  | .v _ => 1
  | .f _ ts => 1 + szs ts
def szs : List Tm → Nat
  | [] => 0
  | t :: ts => t.sz + szs ts
end
mutual
def Tm.dp : Tm → Nat
  | .v _ => 1
  | .f _ ts => 1 + dps ts
def dps : List Tm → Nat
  | [] => 0
  | t :: ts => max t.dp (dps ts)
end
mutual
def Tm.ins : Tm → Nat
  | .v _ => 0
  | .f _ ts => (if ts.isEmpty then 0 else 1) + inss ts
def inss : List Tm → Nat
  | [] => 0
  | t :: ts => t.ins + inss ts
end
inductive TIn (sg : Sg) (vs : List Str) : Tm → Prop
  | v {x : Str} : x ∈ vs → TIn sg vs (.v x)
  | f {n : Str} {ts : List Tm} : (n, ts.length) ∈ sg → (∀ t ∈ ts, TIn sg vs t) → TIn sg vs (.f n ts)
theorem dps_le {k : Nat} : ∀ {ts : List Tm}, (∀ t ∈ ts, t.dp ≤ k) → dps ts ≤ k
  | [], _ => Nat.zero_le _
  | t :: ts, h => by
    rw [dps]
    exact Nat.max_le.mpr ⟨h t List.mem_cons_self, dps_le fun t ht => h t (List.mem_cons_of_mem _ ht)⟩
theorem inss_append : ∀ (a b : List Tm), inss (a ++ b) = inss a + inss b
  | [], b => by simp [inss]
  | t :: a, b => by rw [List.cons_append, inss, inss, inss_append a b, Nat.add_assoc]
theorem szs_append : ∀ (a b : List Tm), szs (a ++ b) = szs a + szs b
  | [], b => by simp [szs]
  | t :: a, b => by rw [List.cons_append, szs, szs, szs_append a b, Nat.add_assoc]
structure SgFit (sg : Sg) : Prop where
  len : sg.length ≤ 10
  zero : (sA, 0) ∈ sg
  ar : ∀ p ∈ sg, p.2 ≤ 4
  ok : ∀ p ∈ sg, PyData.strOk p.1 = true
theorem SigOk.fit {sg : Sg} (h : SigOk sg) : SgFit sg := by
  obtain ⟨sb, sh, sk, hb, hh, hk, rfl⟩ := h
  refine ⟨?_, by simp, fun p hp => ?_, fun p hp => ?_⟩
  · rcases hb with rfl | rfl <;> rcases hh with rfl | ⟨m, _, _, rfl⟩ <;> rcases hk with rfl | ⟨m, _, _, rfl⟩ <;> simp
  · simp only [List.mem_append, List.mem_cons, List.not_mem_nil, or_false] at hp
    rcases hp with ((hp | hp) | hp) | hp
    · rcases hp with rfl | rfl | rfl <;> simp
    · rcases hb with rfl | rfl
      · cases hp
      · simp only [List.mem_cons, List.not_mem_nil, or_false] at hp; subst hp; simp
    · rcases hh with rfl | ⟨m, _, _, rfl⟩
      · cases hp
      · simp only [List.mem_cons, List.not_mem_nil, or_false] at hp; subst hp; simp; omega
    · rcases hk with rfl | ⟨m, _, _, rfl⟩
      · cases hp
      · simp only [List.mem_cons, List.not_mem_nil, or_false] at hp; subst hp; simp; omega
  · simp only [List.mem_append, List.mem_cons, List.not_mem_nil, or_false] at hp
    rcases hp with ((hp | hp) | hp) | hp
    · rcases hp with rfl | rfl | rfl <;> decide +kernel
    · rcases hb with rfl | rfl
      · cases hp
      · simp only [List.mem_cons, List.not_mem_nil, or_false] at hp; subst hp; show PyData.strOk sB = true; decide +kernel
    · rcases hh with rfl | ⟨m, _, _, rfl⟩
      · cases hp
      · simp only [List.mem_cons, List.not_mem_nil, or_false] at hp; subst hp; show PyData.strOk sH = true; decide +kernel
    · rcases hk with rfl | ⟨m, _, _, rfl⟩
      · cases hp
      · simp only [List.mem_cons, List.not_mem_nil, or_false] at hp; subst hp; show PyData.strOk sK = true; decide +kernel
theorem sz_le {sg : Sg} {vs : List Str} (hs : ∀ p ∈ sg, p.2 ≤ 4) {t : Tm} (h : TIn sg vs t) : t.sz ≤ 4 * t.ins + 1 := by
  induction h with
  | v _ => simp [Tm.sz, Tm.ins]
  | @f n ts hm _ ih =>
    have hl := hs _ hm
    simp only at hl
    have all : ∀ l : List Tm, (∀ t ∈ l, t.sz ≤ 4 * t.ins + 1) → szs l ≤ 4 * inss l + l.length := by
      intro l
      induction l with
      | nil => intro _; simp [szs]
      | cons t l ih =>
        intro h
        have h1 := h t List.mem_cons_self
        have h2 := ih fun t ht => h t (List.mem_cons_of_mem _ ht)
        simp only [szs, inss, List.length_cons]
        omega
    have := all ts ih
    simp only [Tm.sz, Tm.ins]
    cases ts with
    | nil => simp [szs, inss]
    | cons t ts => simp only [List.isEmpty_cons, Bool.false_eq_true, if_false]; omega
/-- the flat terms of a signature -/
def flats (sg : Sg) : List Py := (sg.filter fun p => p.2 = 0).map fun p => (Tm.f p.1 []).py
theorem flats_loop (c : List Py) (S N D : Py) (f : Option Sv) : ∀ (l : Sg) (acc : List Py), acc.length + l.length ≤ 500 →
    lcS (gTupS 2 (gConsS (gNameS 5) (gConsS (gNameS 6) gNilS))) (eT (DL.e2 (varX 6) (xM (kI 0)) fun x y => (eqS x y).map .bl)) (tupM (consV (lockE 5) (consV (tupM nilV) nilV))) [5, 6] (l.map sgP) acc
      [some (.lst c), some (.val S), some (.val N), some (.val D), f, none, none, none] = .ok (.lst (acc ++ flats l)) [some (.lst c), some (.val S), some (.val N), some (.val D), f, none, none, none]
  | [], acc, _ => by simp [flats]
  | (x, 0) :: l, acc, h => by
    have hz : acc.length < sizeLine := sL (by omega)
    rw [List.map_cons, lcS_cons (st1 := [some (.lst c), some (.val S), some (.val N), some (.val D), f, some (.val (.str x)), some (.val (.int 0)), none]) (by simp [sgP])]
    simp [varX, lockE, hz]
    rw [flats_loop c S N D f l _ (by simp at h ⊢; omega)]
    simp [flats, py_f]
  | (x, k + 1) :: l, acc, h => by
    rw [List.map_cons, lcS_cons (st1 := [some (.lst c), some (.val S), some (.val N), some (.val D), f, some (.val (.str x)), some (.val (.int ((k + 1 : Nat) : Int))), none]) (by simp [sgP])]
    have hk : ¬ ((k : Int) + 1 = 0) := by omega
    simp [varX, lockE, hk]
    rw [flats_loop c S N D f l _ (by simp at h ⊢; omega)]
    simp [flats]
theorem flats_mem {sg : Sg} {names : List Str} {d : Py} (h : d ∈ flats sg) : ∃ t, TIn sg names t ∧ t.py = d ∧ t.dp = 1 ∧ t.ins = 0 := by
  unfold flats at h
  obtain ⟨⟨x, k⟩, hp, rfl⟩ := List.mem_map.mp h
  obtain ⟨hp, hk⟩ := List.mem_filter.mp hp
  simp only [decide_eq_true_eq] at hk
  subst hk
  exact ⟨.f x [], .f hp nofun, rfl, by simp [Tm.dp, dps], by simp [Tm.ins, inss]⟩
def tSt (c : List Py) (sg : Sg) (names : List Str) (deep : Nat) (r : DS) : DS := some (.lst c) :: some (.val (.lst (sg.map sgP))) :: some (.val (.lst (names.map .str))) :: some (.val (.int deep)) :: r
theorem leaf_pick {sg : Sg} {names : List Str} {d : Int} (h : 0 ≤ d) (h2 : d < ((names.map Py.str ++ flats sg).length : Int)) : ∃ t, TIn sg names t ∧ t.dp = 1 ∧ t.ins = 0 ∧ atI (names.map Py.str ++ flats sg) d = some t.py := by
  obtain ⟨i, rfl⟩ := Int.eq_ofNat_of_zero_le h
  have hi : i < (names.map Py.str ++ flats sg).length := by omega
  rw [atI_nat hi]
  have hm := List.getElem_mem hi
  generalize (names.map Py.str ++ flats sg)[i] = x at hm
  rcases List.mem_append.mp hm with hm | hm
  · obtain ⟨y, hy, rfl⟩ := List.mem_map.mp hm
    exact ⟨.v y, .v hy, rfl, rfl, by rw [py_v]⟩
  · obtain ⟨t, h1, h2, h3, h4⟩ := flats_mem (names := names) hm
    exact ⟨t, h1, h3, h4, by rw [h2]⟩
/-! ### parts, size, depth -/
def Tm.kids : Tm → List Tm
  | .v _ => []
  | .f _ ts => ts
def Tm.isV : Tm → Bool
  | .v _ => true
  | .f _ _ => false
mutual
def Tm.subs : Tm → List Tm
  | .v x => [.v x]
  | .f n ts => .f n ts :: subss ts
def subss : List Tm → List Tm
  | [] => []
  | t :: ts => t.subs ++ subss ts
end
theorem subs_eq (t : Tm) : t.subs = t :: subss t.kids := by cases t <;> rfl
theorem sz_eq (t : Tm) : t.sz = 1 + szs t.kids := by cases t <;> simp [Tm.sz, Tm.kids, szs]
theorem dp_eq (t : Tm) : t.dp = 1 + dps t.kids := by cases t <;> simp [Tm.dp, Tm.kids, dps]
theorem subss_append : ∀ (a b : List Tm), subss (a ++ b) = subss a ++ subss b
  | [], b => by simp [subss]
  | t :: a, b => by rw [List.cons_append, subss, subss, subss_append a b, List.append_assoc]
mutual
theorem subs_len : ∀ t : Tm, t.subs.length = t.sz
  | .v x => rfl
  | .f n ts => by rw [Tm.subs, Tm.sz, List.length_cons, subss_len ts, Nat.add_comm]
theorem subss_len : ∀ ts : List Tm, (subss ts).length = szs ts
  | [] => rfl
  | t :: ts => by rw [subss, szs, List.length_append, subs_len t, subss_len ts]
end
theorem dp_sz : ∀ t : Tm, t.dp ≤ t.sz := by
  have : (∀ t : Tm, t.dp ≤ t.sz) ∧ ∀ ts : List Tm, dps ts ≤ szs ts := by
    refine ⟨fun t => ?_, fun ts => ?_⟩
    · exact (Tm.rec (motive_1 := fun t => t.dp ≤ t.sz) (motive_2 := fun ts => dps ts ≤ szs ts) (fun x => Nat.le_refl _) (fun n ts ih => by rw [Tm.dp, Tm.sz]; omega) (Nat.le_refl _) (fun t ts h1 h2 => by rw [dps, szs]; omega) t)
    · exact (Tm.rec_1 (motive_1 := fun t => t.dp ≤ t.sz) (motive_2 := fun ts => dps ts ≤ szs ts) (fun x => Nat.le_refl _) (fun n ts ih => by rw [Tm.dp, Tm.sz]; omega) (Nat.le_refl _) (fun t ts h1 h2 => by rw [dps, szs]; omega) ts)
  exact this.1
theorem len_szs (l : List Tm) : l.length ≤ szs l := by
  induction l with
  | nil => simp
  | cons t l ih => rw [szs, sz_eq, List.length_cons]; omega
theorem szs_kids : ∀ l : List Tm, szs (l.flatMap Tm.kids) + l.length = szs l
  | [] => by simp [szs]
  | t :: l => by
    have := szs_kids l
    rw [List.flatMap_cons, szs_append, szs, sz_eq t, List.length_cons]
    omega
theorem dps_append : ∀ (a b : List Tm), dps (a ++ b) = max (dps a) (dps b)
  | [], b => by simp [dps]
  | t :: a, b => by rw [List.cons_append, dps, dps, dps_append a b, Nat.max_assoc]
theorem dps_kids : ∀ l : List Tm, l ≠ [] → dps l = 1 + dps (l.flatMap Tm.kids)
  | [], h => absurd rfl h
  | [t], _ => by simp [dps, dp_eq t]
  | t :: u :: l, _ => by
    have := dps_kids (u :: l) (by simp)
    have e : (t :: u :: l).flatMap Tm.kids = t.kids ++ (u :: l).flatMap Tm.kids := rfl
    rw [e, dps_append, dps, this, dp_eq t]
    omega
/-! ### places -/
theorem rangeL_0 (lo c : Int) : rangeL lo c 0 = [] := rfl
theorem rangeL_s (lo c : Int) (n : Nat) : rangeL lo c (n + 1) = .int lo :: rangeL (lo + c) c n := by
  unfold rangeL
  rw [List.range_succ_eq_map, List.map_cons, List.map_map]
  have e : (fun k : Nat => Py.int (lo + (k : Int) * c)) ∘ Nat.succ = fun k : Nat => Py.int (lo + c + (k : Int) * c) := by
    funext k
    simp only [Function.comp, Nat.succ_eq_add_one, Int.natCast_add, Int.add_mul]
    congr 1
    omega
  rw [e]
  simp
theorem cutP_take {α : Type} (xs : List α) (k : Nat) : cutP xs none (some (k : Int)) = xs.take k := by
  simp only [cutP, HT.sIx_none, HT.sIx_nat, List.drop_zero, Nat.sub_zero]
  exact (List.take_eq_take_min (l := xs) (i := k)).symm
theorem cutP_drop {α : Type} (xs : List α) (k : Nat) : cutP xs (some (k : Int)) none = xs.drop k := by
  simp only [cutP, HT.sIx_none, HT.sIx_nat]
  by_cases h : k ≤ xs.length
  · rw [Nat.min_eq_left h, List.take_of_length_le (by simp)]
  · rw [Nat.min_eq_right (by omega), List.drop_length, List.drop_of_length_le (by omega)]; simp
mutual
def Tm.pl : Tm → List (List Nat)
  | .v _ => [[]]
  | .f _ ts => [] :: pls 0 ts
def pls (i : Nat) : List Tm → List (List Nat)
  | [] => []
  | t :: ts => t.pl.map (i :: ·) ++ pls (i + 1) ts
end
def plP (p : List Nat) : Py := .tup (p.map fun i : Nat => .int i)
theorem pl_eq (t : Tm) : t.pl = [] :: pls 0 t.kids := by cases t <;> rfl
mutual
theorem pl_len : ∀ t : Tm, t.pl.length = t.sz
  | .v x => rfl
  | .f n ts => by rw [Tm.pl, Tm.sz, List.length_cons, pls_len ts 0, Nat.add_comm]
theorem pls_len : ∀ (ts : List Tm) (i : Nat), (pls i ts).length = szs ts
  | [], i => rfl
  | t :: ts, i => by rw [pls, szs, List.length_append, List.length_map, pl_len t, pls_len ts (i + 1)]
end
mutual
theorem pl_lt : ∀ (t : Tm) (p : List Nat), p ∈ t.pl → p.length < t.dp
  | .v x, p, h => by simp only [Tm.pl, List.mem_singleton] at h; subst h; simp [Tm.dp]
  | .f n ts, p, h => by
    rw [Tm.pl, List.mem_cons] at h
    rw [Tm.dp]
    rcases h with rfl | h
    · simp; omega
    · have := pls_lt ts 0 p h; omega
theorem pls_lt : ∀ (ts : List Tm) (i : Nat) (p : List Nat), p ∈ pls i ts → p.length ≤ dps ts
  | [], i, p, h => by cases h
  | t :: ts, i, p, h => by
    rw [pls, List.mem_append, List.mem_map] at h
    rw [dps]
    rcases h with ⟨q, hq, rfl⟩ | h
    · have := pl_lt t q hq
      rw [List.length_cons]
      omega
    · have := pls_lt ts (i + 1) p h; omega
end
/-! ### positions -/
def ppP (q : List Nat × Tm) : Py := .tup [plP q.1, q.2.py]
def posL (L : List (List Nat × Tm)) : List (List Nat) := L.flatMap fun q => q.2.pl.map (q.1 ++ ·)
def kidP (p : List Nat) (i : Nat) : List Tm → List (List Nat × Tm)
  | [] => []
  | t :: ts => (p ++ [i], t) :: kidP p (i + 1) ts
theorem posL_kid (p : List Nat) : ∀ (ts : List Tm) (i : Nat), posL (kidP p i ts) = (pls i ts).map (p ++ ·)
  | [], i => rfl
  | t :: ts, i => by
    have ih := posL_kid p ts (i + 1)
    unfold posL at ih ⊢
    rw [kidP, List.flatMap_cons, ih, pls, List.map_append, List.map_map]
    congr 1
    apply List.map_congr_left
    intro q _
    simp
theorem kidP_len (p : List Nat) : ∀ (ts : List Tm) (i : Nat), (kidP p i ts).length = ts.length
  | [], i => rfl
  | t :: ts, i => by rw [kidP, List.length_cons, List.length_cons, kidP_len p ts (i + 1)]
theorem kidP_get (p : List Nat) : ∀ (ts : List Tm) (i j : Nat) (h : j < ts.length), (kidP p i ts)[j]'(by rw [kidP_len]; exact h) = (p ++ [i + j], ts[j])
  | t :: ts, i, 0, h => rfl
  | t :: ts, i, j + 1, h => by
    have := kidP_get p ts (i + 1) j (by simpa using h)
    simp only [kidP, List.getElem_cons_succ]
    rw [this]
    congr 2
    congr 1
    omega
def szL (L : List (List Nat × Tm)) : Nat := szs (L.map (·.2))
theorem kidP_sz (p : List Nat) : ∀ (ts : List Tm) (i : Nat), (kidP p i ts).map (·.2) = ts
  | [], i => rfl
  | t :: ts, i => by rw [kidP, List.map_cons, kidP_sz p ts (i + 1)]
theorem take_all {α : Type} (l : List α) {n : Nat} (h : l.length = n) : l.take n = l := List.take_of_length_le (by omega)
/-! ### at, put -/
def plI (p : List Int) : Py := .tup (p.map .int)
def Tm.at_ : Tm → List Int → Option Tm
  | t, [] => some t
  | t, k :: ks => if h : 0 ≤ k ∧ k.toNat < t.kids.length then (t.kids[k.toNat]'h.2).at_ ks else none
def optP (o : Option Tm) : Py := match o with
  | some t => t.py
  | none => .non
theorem ix_kid {t : Tm} {k : Int} (h : 0 ≤ k ∧ k.toNat < t.kids.length) : atI (t.kids.map Tm.py) k = some (t.kids[k.toNat]'h.2).py := by
  obtain ⟨i, rfl⟩ := Int.eq_ofNat_of_zero_le h.1
  have hi : i < t.kids.length := by have := h.2; simpa using this
  rw [DL.atI_nat (by simpa using hi)]
  simp
def endAt (o : Option Tm) (outs : DS) : FR := match o with
  | some t => .ret (.val t.py) outs
  | none => .ex ⟨"StepError", none⟩ outs
def Tm.node : Tm → Nat → Tm → Tm
  | .v x, _, _ => .v x
  | .f n ts, i, u => .f n (ts.take i ++ (u :: ts.drop (i + 1)))
def Tm.put_ : Tm → List Int → Tm → Tm
  | _, [], s => s
  | t, k :: ks, s => if h : 0 ≤ k ∧ k.toNat < t.kids.length then t.node k.toNat ((t.kids[k.toNat]'h.2).put_ ks s) else t
def Tm.way : Tm → List Int → List (Tm × Int)
  | _, [] => []
  | t, k :: ks => if h : 0 ≤ k ∧ k.toNat < t.kids.length then (t, k) :: (t.kids[k.toNat]'h.2).way ks else []
def wP (q : Tm × Int) : Py := .tup [q.1.py, .int q.2]
theorem cutP_drop1 {α : Type} (xs : List α) (k : Nat) : cutP xs (some ((k : Int) + 1)) none = xs.drop (k + 1) := cutP_drop xs (k + 1)
theorem kid_sz {t u : Tm} (h : u ∈ t.kids) : u.sz < t.sz ∧ u.dp < t.dp := by
  rw [sz_eq t, dp_eq t]
  generalize t.kids = l at h
  induction l with
  | nil => cases h
  | cons v vs ih =>
    rw [szs, dps]
    rcases List.mem_cons.mp h with rfl | h
    · omega
    · have := ih h; omega
theorem szs_split (ts : List Tm) {i : Nat} (h : i < ts.length) : szs ts = szs (ts.take i) + (ts[i].sz + szs (ts.drop (i + 1))) := by
  have e : ts = ts.take i ++ (ts[i] :: ts.drop (i + 1)) := by rw [← List.drop_eq_getElem_cons h, List.take_append_drop]
  have h2 := congrArg szs e
  rw [szs_append, szs] at h2
  exact h2
theorem dps_split (ts : List Tm) {i : Nat} (h : i < ts.length) : dps ts = max (dps (ts.take i)) (max ts[i].dp (dps (ts.drop (i + 1)))) := by
  have e : ts = ts.take i ++ (ts[i] :: ts.drop (i + 1)) := by rw [← List.drop_eq_getElem_cons h, List.take_append_drop]
  have h2 := congrArg dps e
  rw [dps_append, dps] at h2
  exact h2
theorem put_sz (s : Tm) : ∀ (p : List Int) (t : Tm), (t.put_ p s).sz ≤ t.sz + s.sz ∧ (t.put_ p s).dp ≤ t.dp + s.dp
  | [], t => by simp [Tm.put_]
  | k :: p, t => by
    rw [Tm.put_]
    split
    · rename_i h
      have ih := put_sz s p (t.kids[k.toNat]'h.2)
      cases t with
      | v x => simp [Tm.kids] at h
      | f n ts =>
        simp only [Tm.kids] at h ih ⊢
        rw [Tm.node, Tm.sz, Tm.dp, Tm.sz, Tm.dp, szs_append, dps_append, szs, dps, szs_split ts h.2, dps_split ts h.2]
        omega
    · omega
theorem toDs_ints : ∀ p : List Int, toDs (p.map .int) = p.map PyData.int
  | [] => rfl
  | i :: p => by simp only [List.map_cons, toDs, toD, toDs_ints p]
theorem lay_ints : ∀ p : List Int, PyData.canLayAll0 (p.map PyData.int) = true ∧ PyData.depthAll (p.map PyData.int) = 0
  | [] => ⟨rfl, rfl⟩
  | i :: p => by
    have := lay_ints p
    simp only [List.map_cons, PyData.canLayAll0, PyData.depthAll, PyData.canLay0, PyData.depth, this]
    simp
theorem eq_nil (p : List Int) : eqS (.val (.tup (p.map .int))) (.val (.tup [])) = some (decide (p = [])) := by
  have h := lay_ints p
  have h1 : shap (.tuple (p.map PyData.int)) = true := by
    unfold shap
    simp only [PyData.canLay0, PyData.depth, h]
    decide
  have h2 : shap (.tuple []) = true := by decide
  show (if shap (toDS (.val (.tup (p.map .int)))) = true ∧ shap (toDS (.val (.tup []))) = true then some (PyData.eqv (toDS (.val (.tup (p.map .int)))) (toDS (.val (.tup [])))) else none) = _
  simp only [toDS, toD, toDs_ints, toDs, h1, h2, and_self, if_true, PyData.eqv]
  cases p <;> simp [PyData.eqvAll]
def refP : Py := .lst [.str "refused", .bl true]
def endTold (o : Option Tm) (u : Tm) : Py × Py := match o with
  | some t => (t.py, u.py)
  | none => (refP, refP)
/-! ### names, symbols -/
def natI (p : List Nat) : List Int := p.map fun i : Nat => (i : Int)
theorem plP_eq (p : List Nat) : plP p = plI (natI p) := by unfold plP plI natI; rw [List.map_map]; rfl
mutual
theorem pl_at : ∀ t : Tm, t.pl.map (fun p => t.at_ (natI p)) = t.subs.map some
  | .v x => by simp [Tm.pl, Tm.subs, natI, Tm.at_]
  | .f n ts => by
    have := pls_at n ts ts 0 rfl
    rw [Tm.pl, Tm.subs, List.map_cons, List.map_cons, this]
    rfl
theorem pls_at (n : Str) (us : List Tm) : ∀ (ts : List Tm) (i : Nat), ts = us.drop i → (pls i ts).map (fun p => (Tm.f n us).at_ (natI p)) = (subss ts).map some
  | [], i, _ => rfl
  | t :: ts, i, h => by
    have hlt : i < us.length := by
      rcases Nat.lt_or_ge i us.length with z | z
      · exact z
      · rw [List.drop_of_length_le z] at h; cases h
    have hd := List.drop_eq_getElem_cons hlt
    rw [← h] at hd
    injection hd with h1 h2
    have ih := pls_at n us ts (i + 1) h2
    have it := pl_at t
    rw [pls, subss, List.map_append, List.map_append, ih, List.map_map, ← it]
    congr 1
    apply List.map_congr_left
    intro q _
    show (Tm.f n us).at_ ((i : Int) :: natI q) = t.at_ (natI q)
    rw [Tm.at_, dif_pos (by simp [Tm.kids]; exact hlt)]
    simp only [Tm.kids, Int.toNat_natCast]
    rw [← h1]
end
section
variable {κ : Type} [DecidableEq κ]
def addK (acc : List κ) (k : κ) : List κ := if k ∈ acc then acc else acc ++ [k]
theorem addK_len (acc : List κ) (k : κ) : (addK acc k).length ≤ acc.length + 1 := by unfold addK; split <;> simp
theorem putP_addK {g : κ → Py} (inj : ∀ a b, g a = g b → a = b) (acc : List κ) (k : κ) : putP (acc.map fun k => (g k, Py.bl true)) (g k) (.bl true) = (addK acc k).map fun k => (g k, Py.bl true) := by
  unfold putP addK
  by_cases h : k ∈ acc
  · have h1 : ((acc.map fun k => (g k, Py.bl true)).any fun kv => @decide (kv.1 = g k) (Classical.propDecidable _)) = true := by
      rw [List.any_eq_true]
      exact ⟨(g k, .bl true), List.mem_map.mpr ⟨k, h, rfl⟩, by simp⟩
    rw [if_pos h, if_pos h1, List.map_map]
    apply List.map_congr_left
    intro a _
    simp only [Function.comp]
    split <;> rfl
  · have h1 : ¬ ((acc.map fun k => (g k, Py.bl true)).any fun kv => @decide (kv.1 = g k) (Classical.propDecidable _)) = true := by
      rw [List.any_eq_true]
      rintro ⟨kv, hm, e⟩
      obtain ⟨a, ha, rfl⟩ := List.mem_map.mp hm
      have e' := @of_decide_eq_true _ (Classical.propDecidable _) e
      exact h (inj _ _ e' ▸ ha)
    rw [if_neg h, if_neg h1]
    simp
end
def varO : Tm → Option Str
  | .v x => some x
  | .f _ _ => none
def symO : Tm → Option (Str × Nat)
  | .v _ => none
  | .f n ts => some (n, ts.length)
def colT {κ : Type} [DecidableEq κ] (f : Tm → Option κ) : List κ → List Tm → List κ
  | acc, [] => acc
  | acc, t :: ts => match f t with
    | some k => colT f (addK acc k) ts
    | none => colT f acc ts
/-! ### names by places -/
theorem flat_strs (acc : List Str) : (acc.map Py.str).all flatP = true := by
  rw [List.all_eq_true]
  intro d hd
  obtain ⟨x, _, rfl⟩ := List.mem_map.mp hd
  rfl
theorem any_strs (x : Str) : ∀ acc : List Str, ((acc.map Py.str).any fun z => PyData.eqv (toD z) (toD (.str x))) = decide (x ∈ acc)
  | [] => rfl
  | y :: acc => by
    rw [List.map_cons, List.any_cons, any_strs x acc]
    have : PyData.eqv (toD (.str y)) (toD (.str x)) = decide (x = y) := by
      simp only [toD, PyData.eqv]
      by_cases h : x = y
      · subst h; simp
      · have h' : ¬ y = x := fun e => h e.symm
        simp [h, h']
    rw [this]
    by_cases h : x = y
    · subst h; simp
    · simp [h]
theorem inS_str (x : Str) (acc : List Str) : inS (.val (.str x)) (.lst (acc.map Py.str)) = some (decide (x ∈ acc)) := by
  unfold inS
  simp only [valS, Option.bind_some, itemsS_l]
  rw [if_pos ⟨rfl, flat_strs acc⟩, any_strs]
/-! ### heads -/
theorem eqv_sg (a b : Str × Nat) : PyData.eqv (toD (sgP a)) (toD (sgP b)) = decide (b = a) := by
  obtain ⟨a1, a2⟩ := a
  obtain ⟨b1, b2⟩ := b
  simp only [sgP, toD, toDs, PyData.eqv, PyData.eqvAll, Bool.and_true]
  by_cases h1 : b1 = a1
  · by_cases h2 : b2 = a2
    · subst h1 h2; simp
    · have h2' : ¬ a2 = b2 := fun e => h2 e.symm
      have h3 : ((a2 : Int) == (b2 : Int)) = false := beq_eq_false_iff_ne.mpr (by omega)
      simp [h2, h3]
  · have h1' : ¬ a1 = b1 := fun e => h1 e.symm
    simp [h1, h1']
theorem any_sg (x : Str × Nat) : ∀ acc : List (Str × Nat), ((acc.map sgP).any fun z => PyData.eqv (toD z) (toD (sgP x))) = decide (x ∈ acc)
  | [] => rfl
  | y :: acc => by
    rw [List.map_cons, List.any_cons, any_sg x acc, eqv_sg]
    by_cases h : x = y
    · subst h; simp
    · simp [h]
abbrev okS (x : Str) : Prop := PyData.strOk x = true
theorem lay_sg {x : Str × Nat} (h : okS x.1) : (toD (sgP x)).canLay0 = true ∧ (toD (sgP x)).depth = 1 := by
  have h' : PyData.strOk x.1 = true := h
  simp [sgP, toD, toDs, PyData.canLay0, PyData.canLayAll0, PyData.depth, PyData.depthAll, h']
theorem lay_sgs : ∀ acc : List (Str × Nat), (∀ k ∈ acc, okS k.1) → PyData.canLayAll0 (toDs (acc.map sgP)) = true ∧ PyData.depthAll (toDs (acc.map sgP)) ≤ 1
  | [], _ => ⟨rfl, Nat.zero_le _⟩
  | k :: acc, h => by
    have h1 := lay_sg (h k List.mem_cons_self)
    have h2 := lay_sgs acc fun k hk => h k (List.mem_cons_of_mem _ hk)
    rw [List.map_cons, toDs, PyData.canLayAll0, PyData.depthAll, h1.1, h2.1, h1.2]
    refine ⟨rfl, ?_⟩
    have := h2.2
    omega
theorem inS_sg (x : Str × Nat) (acc : List (Str × Nat)) (hx : okS x.1) (h : ∀ k ∈ acc, okS k.1) : inS (.val (sgP x)) (.lst (acc.map sgP)) = some (decide (x ∈ acc)) := by
  have h1 := lay_sg hx
  have h2 := lay_sgs acc h
  unfold inS
  simp only [valS, Option.bind_some, itemsS_l]
  rw [if_neg (fun z => Bool.false_ne_true z.1), if_pos, any_sg]
  refine ⟨rfl, ?_, ?_⟩
  · unfold shap
    rw [h1.1, h1.2]; decide
  · unfold shap
    have d : (PyData.list (toDs (acc.map sgP))).depth = PyData.depthAll (toDs (acc.map sgP)) + 1 := by rw [PyData.depth]
    have c : (PyData.list (toDs (acc.map sgP))).canLay0 = true := by rw [PyData.canLay0]; exact h2.1
    have := h2.2
    rw [d, c, Bool.true_and, decide_eq_true_eq]
    omega
/-! ### the law's own depth, equal things -/
theorem maxS_ints (a : Int) (l : List Int) : maxS (.val (.lst ((a :: l).map .int))) = some (.int (l.foldl max a)) := by
  have h : ∀ l : List Int, allM asInt (l.map Py.int) = some l := by
    intro l
    induction l with
    | nil => rfl
    | cons x l ih => simp only [List.map_cons, allM, asInt, ih]
  unfold maxS
  rw [listS_lst, Option.bind_some, h, Option.bind_some]
  rfl
theorem fold_dps : ∀ (ts : List Tm) (a : Nat), (ts.map fun t => (t.dp : Int)).foldl max (a : Int) = ((max a (dps ts) : Nat) : Int)
  | [], a => by simp [dps]
  | t :: ts, a => by
    have e : max (a : Int) (t.dp : Int) = ((max a t.dp : Nat) : Int) := by omega
    rw [List.map_cons, List.foldl_cons, e, fold_dps ts, dps, Nat.max_assoc]
theorem kids_le {n : Str} {ts : List Tm} {t : Tm} (h : t ∈ ts) : t.dp ≤ dps ts ∧ t.sz ≤ szs ts := by
  induction ts with
  | nil => cases h
  | cons u us ih =>
    rw [dps, szs]
    rcases List.mem_cons.mp h with rfl | h
    · omega
    · have := ih h; omega
/-! ### equal things are told equal -/
def Fine : Nat → Py → Prop
  | 0, _ => False
  | n + 1, .tup ds => ds.length ≤ 900 ∧ ∀ d ∈ ds, Fine n d
  | n + 1, .lst ds => ds.length ≤ 900 ∧ ∀ d ∈ ds, Fine n d
  | _ + 1, .int _ => True
  | _ + 1, .str _ => True
  | _ + 1, .bl _ => True
  | _ + 1, _ => False
theorem Fine.mono : ∀ {n m : Nat} {d : Py}, Fine n d → n ≤ m → Fine m d
  | 0, _, _, h, _ => h.elim
  | n + 1, 0, _, _, h => absurd h (Nat.not_succ_le_zero _)
  | n + 1, m + 1, .tup ds, h, hm => ⟨h.1, fun d hd => (h.2 d hd).mono (Nat.le_of_succ_le_succ hm)⟩
  | n + 1, m + 1, .lst ds, h, hm => ⟨h.1, fun d hd => (h.2 d hd).mono (Nat.le_of_succ_le_succ hm)⟩
  | n + 1, m + 1, .int _, _, _ => trivial
  | n + 1, m + 1, .str _, _, _ => trivial
  | n + 1, m + 1, .bl _, _, _ => trivial
  | n + 1, m + 1, .non, h, _ => h.elim
  | n + 1, m + 1, .dic _, h, _ => h.elim
  | n + 1, m + 1, .obj _, h, _ => h.elim
theorem all_rep (n : Nat) : allS (.val (.lst (List.replicate n (.bl true)))) = some (.bl true) := by
  have h : ∀ n, allM asBl (List.replicate n (Py.bl true)) = some (List.replicate n true) := by
    intro n
    induction n with
    | zero => rfl
    | succ n ih => simp only [List.replicate_succ, allM, asBl, ih]
  unfold allS
  rw [listS_lst, Option.bind_some, h, Option.map_some]
  simp
theorem fine_py : ∀ (n : Nat) (t : Tm), t.dp ≤ n → t.sz ≤ 800 → Fine (2 * n + 1) t.py
  | 0, t, h, _ => by rw [dp_eq] at h; omega
  | n + 1, .v x, _, _ => by rw [py_v]; exact trivial
  | n + 1, .f x ts, h, hz => by
    rw [Tm.dp] at h
    rw [Tm.sz] at hz
    have hl := len_szs ts
    rw [py_f]
    refine ⟨by simp, fun d hd => ?_⟩
    rcases List.mem_cons.mp hd with rfl | hd
    · exact trivial
    · rw [List.mem_singleton] at hd
      subst hd
      refine ⟨by simp; omega, fun d hd => ?_⟩
      obtain ⟨t, ht, rfl⟩ := List.mem_map.mp hd
      have := kids_le (n := x) ht
      exact fine_py n t (by omega) (by omega)
theorem fine_map {α : Type} {g : α → Py} {n : Nat} {l : List α} (hl : l.length ≤ 900) (h : ∀ a ∈ l, Fine n (g a)) : Fine (n + 1) (.lst (l.map g)) ∧ Fine (n + 1) (.tup (l.map g)) := by
  refine ⟨⟨by simpa using hl, fun d hd => ?_⟩, ⟨by simpa using hl, fun d hd => ?_⟩⟩ <;>
  · obtain ⟨a, ha, rfl⟩ := List.mem_map.mp hd
    exact h a ha
theorem fine_plP {p : List Nat} (h : p.length ≤ 900) : Fine 2 (plP p) := (fine_map (n := 1) (g := fun i : Nat => Py.int i) h fun _ _ => trivial).2
theorem fine_sgP (k : Str × Nat) : Fine 2 (sgP k) := by
  refine ⟨by simp, fun d hd => ?_⟩
  rcases List.mem_cons.mp hd with rfl | hd
  · exact trivial
  · rw [List.mem_singleton] at hd; subst hd; exact trivial
theorem fine_refP : Fine 2 refP := by
  refine ⟨by simp, fun d hd => ?_⟩
  rcases List.mem_cons.mp hd with rfl | hd
  · exact trivial
  · rw [List.mem_singleton] at hd; subst hd; exact trivial
theorem at_le : ∀ (p : List Int) (t u : Tm), t.at_ p = some u → u.dp ≤ t.dp ∧ u.sz ≤ t.sz
  | [], t, u, h => by cases h; exact ⟨Nat.le_refl _, Nat.le_refl _⟩
  | k :: p, t, u, h => by
    rw [Tm.at_] at h
    split at h
    · rename_i hk
      have h1 := at_le p _ u h
      have h2 := kid_sz (List.getElem_mem hk.2)
      omega
    · cases h
theorem at_len : ∀ (p : List Int) (t : Tm), t.at_ p ≠ none → p.length < t.dp
  | [], t, _ => by rw [dp_eq]; simp; omega
  | k :: p, t, h => by
    rw [Tm.at_] at h
    split at h
    · rename_i hk
      have h1 := at_len p _ h
      have h2 := kid_sz (List.getElem_mem hk.2)
      rw [List.length_cons]
      omega
    · exact absurd rfl h
structure TFit (t s : Tm) : Prop where
  tz : t.sz ≤ 200
  sz : s.sz ≤ 200
  td : t.dp ≤ 10
  sd : s.dp ≤ 10
theorem pick5 {d : Int} (h : 0 ≤ d) (h2 : d < 5) : ∃ x, atI [Py.int 0, Py.int 1, Py.int 3, Py.int (-1), Py.int (-2)] d = some (.int x) := by
  have : d = 0 ∨ d = 1 ∨ d = 2 ∨ d = 3 ∨ d = 4 := by omega
  rcases this with rfl | rfl | rfl | rfl | rfl
  · exact ⟨0, by simp⟩
  · exact ⟨1, by simp⟩
  · exact ⟨3, by simp⟩
  · exact ⟨-1, by simp⟩
  · exact ⟨-2, by simp⟩
def heads (t : Tm) : List (Str × Nat) := colT symO [] t.subs
def vnames (t : Tm) : List Str := colT varO [] t.subs
theorem colT_len {κ : Type} [DecidableEq κ] (f : Tm → Option κ) : ∀ (l : List Tm) (acc : List κ), (colT f acc l).length ≤ acc.length + l.length
  | [], acc => by simp [colT]
  | t :: l, acc => by
    rw [colT]
    split
    · rename_i k _
      have h1 := colT_len f l (addK acc k)
      have h2 := addK_len acc k
      rw [List.length_cons]
      omega
    · have h1 := colT_len f l acc
      rw [List.length_cons]
      omega
mutual
theorem subs_in {sg : Sg} {vs : List Str} : ∀ (t : Tm), TIn sg vs t → ∀ u ∈ t.subs, TIn sg vs u
  | .v x, h, u, hu => by simp only [Tm.subs, List.mem_singleton] at hu; subst hu; exact h
  | .f n ts, h, u, hu => by
    rw [Tm.subs, List.mem_cons] at hu
    rcases hu with rfl | hu
    · exact h
    · cases h with
      | f h1 h2 => exact subss_in ts h2 u hu
theorem subss_in {sg : Sg} {vs : List Str} : ∀ (ts : List Tm), (∀ t ∈ ts, TIn sg vs t) → ∀ u ∈ subss ts, TIn sg vs u
  | [], _, u, hu => by cases hu
  | t :: ts, h, u, hu => by
    rw [subss, List.mem_append] at hu
    rcases hu with hu | hu
    · exact subs_in t (h t List.mem_cons_self) u hu
    · exact subss_in ts (fun t ht => h t (List.mem_cons_of_mem _ ht)) u hu
end
theorem sz_of_dp1 {t : Tm} (h : t.dp = 1) : t.sz = 1 := by
  rw [dp_eq] at h
  rw [sz_eq]
  cases hk : t.kids with
  | nil => rw [szs]
  | cons u us => rw [hk, dps, dp_eq] at h; omega
end DM

/-! ## DM2 -/
namespace DM
open PySem L2 DL
variable [Tb]
/-! ### loops -/
theorem forS_post {α : Type} {f : α → Py} {tg : Py → DS → Option DS} {b : DS → SO} {P : List α → DS → Prop} {R : SO → Prop} (hn : ∀ st, P [] st → R (.nx st))
    (hs : ∀ a l st, P (a :: l) st → ∃ st1, tg (f a) st = some st1 ∧ ((∃ st2, (b st1 = .nx st2 ∨ b st1 = .ct st2) ∧ P l st2) ∨ (∃ st2, b st1 = .bk st2 ∧ R (.nx st2)) ∨ (∃ w st2, b st1 = .rt w st2 ∧ R (.rt w st2)) ∨ (∃ x st2, b st1 = .ex x st2 ∧ R (.ex x st2)))) :
    ∀ (l : List α) (st : DS), P l st → R (forS tg b (l.map f) st)
  | [], st, h => hn st h
  | a :: l, st, h => by
    obtain ⟨st1, e, q⟩ := hs a l st h
    rw [List.map_cons, forS_cons e]
    rcases q with ⟨st2, q | q, p⟩ | ⟨st2, q, p⟩ | ⟨w, st2, q, p⟩ | ⟨x, st2, q, p⟩ <;> rw [q]
    · exact forS_post hn hs l st2 p
    · exact forS_post hn hs l st2 p
    · exact p
    · exact p
    · exact p
theorem whileS_post {c : DS → ER Bool} {b : DS → SO} {P : Nat → DS → Prop} {R : SO → Prop}
    (hs : ∀ n st, P n st → (∃ st1, c st = .ok false st1 ∧ R (.nx st1)) ∨ ∃ st1, c st = .ok true st1 ∧ ((∃ m st2, m < n ∧ (b st1 = .nx st2 ∨ b st1 = .ct st2) ∧ P m st2) ∨ (∃ st2, b st1 = .bk st2 ∧ R (.nx st2)) ∨ (∃ w st2, b st1 = .rt w st2 ∧ R (.rt w st2)) ∨ (∃ x st2, b st1 = .ex x st2 ∧ R (.ex x st2)))) :
    ∀ (n : Nat) (st : DS), P n st → R (whileS c b st) := by
  intro n
  induction n using Nat.strongRecOn with
  | _ n ih =>
    intro st h
    rw [whileS_eq]
    rcases hs n st h with ⟨st1, e, p⟩ | ⟨st1, e, q⟩
    · rw [e]
      exact p
    · rw [e]
      show R (loopS (b st1) (whileS c b))
      rcases q with ⟨m, st2, hm, q | q, p⟩ | ⟨st2, q, p⟩ | ⟨w, st2, q, p⟩ | ⟨x, st2, q, p⟩ <;> rw [q]
      · exact ih m hm st2 p
      · exact ih m hm st2 p
      · exact p
      · exact p
      · exact p
theorem lc_map {α : Type} {f g : α → Py} {p : α → Bool} {tg : Py → DS → Option DS} {mt : DS → ER Bool} {me : DS → ER Py} {vs : List Nat} {st : DS} :
    ∀ (l : List α) (acc : List Py), acc.length + l.length ≤ sizeLine → (∀ a ∈ l, ∃ st1, tg (f a) st = some st1 ∧ mt st1 = .ok (p a) st1 ∧ wipeS st1 vs = st ∧ (p a = true → ∃ st2, me st1 = .ok (g a) st2 ∧ wipeS st2 vs = st)) →
      lcS tg mt me vs (l.map f) acc st = .ok (.lst (acc ++ (l.filter p).map g)) st
  | [], acc, _, _ => by simp
  | a :: l, acc, hz, h => by
    obtain ⟨st1, e1, e2, e3, e4⟩ := h a List.mem_cons_self
    have ha : acc.length < sizeLine := by simp only [List.length_cons] at hz; omega
    rw [List.map_cons, lcS_cons e1, e2, ER.nb_ok]
    cases hp : p a with
    | false =>
      rw [if_neg (by simp), e3, lc_map l acc (by simp only [List.length_cons] at hz; omega) fun b hb => h b (List.mem_cons_of_mem _ hb), List.filter_cons_of_neg (by simp [hp])]
    | true =>
      obtain ⟨st2, e5, e6⟩ := e4 hp
      rw [if_pos rfl, e5, ER.nb_ok, if_pos ha, e6, lc_map l (acc ++ [g a]) (by simp only [List.length_cons, List.length_append, List.length_nil] at hz ⊢; omega) fun b hb => h b (List.mem_cons_of_mem _ hb), List.filter_cons_of_pos (by simp [hp])]
      simp
theorem lc_all {α : Type} {f g : α → Py} {tg : Py → DS → Option DS} {mt : DS → ER Bool} {me : DS → ER Py} {vs : List Nat} {st : DS} (l : List α) (acc : List Py) (hz : acc.length + l.length ≤ sizeLine) (h : ∀ a ∈ l, ∃ st1, tg (f a) st = some st1 ∧ mt st1 = .ok true st1 ∧ wipeS st1 vs = st ∧ ∃ st2, me st1 = .ok (g a) st2 ∧ wipeS st2 vs = st) :
    lcS tg mt me vs (l.map f) acc st = .ok (.lst (acc ++ l.map g)) st := by
  rw [lc_map (g := g) (p := fun _ => true) l acc hz fun a ha => let ⟨st1, e1, e2, e3, e4⟩ := h a ha; ⟨st1, e1, e2, e3, fun _ => e4⟩, List.filter_eq_self.mpr (by simp)]
theorem putP_len (kvs : List (Py × Py)) (k v : Py) : (putP kvs k v).length ≤ kvs.length + 1 := by
  unfold putP
  split <;> simp
noncomputable def putsP {α : Type} (k v : α → Py) (acc : List (Py × Py)) (l : List α) : List (Py × Py) := l.foldl (fun acc a => putP acc (k a) (v a)) acc
theorem dc_map {α : Type} {mkD : List (Py × Py) → Sv} {f k v : α → Py} {p : α → Bool} {ok : Py → Bool} {tg : Py → DS → Option DS} {mt : DS → ER Bool} {mk mv : DS → ER Py} {vs : List Nat} {st : DS} :
    ∀ (l : List α) (acc : List (Py × Py)), acc.length + l.length ≤ sizeLine → (∀ a ∈ l, ∃ st1, tg (f a) st = some st1 ∧ mt st1 = .ok (p a) st1 ∧ wipeS st1 vs = st ∧ (p a = true → ok (k a) = true ∧ ∃ st2 st3, mk st1 = .ok (k a) st2 ∧ mv st2 = .ok (v a) st3 ∧ wipeS st3 vs = st)) →
      dcS mkD ok tg mt mk mv vs (l.map f) acc st = .ok (mkD (putsP k v acc (l.filter p))) st
  | [], acc, _, _ => by simp [dcS, putsP]
  | a :: l, acc, hz, h => by
    obtain ⟨st1, e1, e2, e3, e4⟩ := h a List.mem_cons_self
    have ha : acc.length < sizeLine := by simp only [List.length_cons] at hz; omega
    have ih := fun acc hz => dc_map (mkD := mkD) (k := k) (v := v) (p := p) (ok := ok) (tg := tg) (mt := mt) (mk := mk) (mv := mv) (vs := vs) (st := st) l acc hz fun b hb => h b (List.mem_cons_of_mem _ hb)
    rw [List.map_cons, dcS]
    simp only [e1, e2, ER.nb_ok]
    cases hp : p a with
    | false =>
      rw [if_neg (by simp), e3, ih acc (by simp only [List.length_cons] at hz; omega), List.filter_cons_of_neg (by simp [hp])]
    | true =>
      obtain ⟨hk, st2, st3, e5, e6, e7⟩ := e4 hp
      have hl := putP_len acc (k a) (v a)
      rw [if_pos rfl, e5, ER.nb_ok, e6, ER.nb_ok, if_pos ⟨hk, ha⟩, e7, ih _ (by simp only [List.length_cons] at hz; omega), List.filter_cons_of_pos (by simp [hp])]
      rfl
/-! ### dicts with texts as keys -/
@[simp] theorem dcM_ap {mkD : List (Py × Py) → Sv} {mi : DS → ER (List Py)} {ok : Py → Bool} {tg : Py → DS → Option DS} {mt : DS → ER Bool} {mk mv : DS → ER Py} {vs : List Nat} {st : DS} : dcM mkD ok mi tg mt mk mv vs st = (mi st).bind fun ds st1 => dcS mkD ok tg mt mk mv vs ds [] (wipeS st1 vs) := rfl
@[simp] theorem hasS_dv {x : Str} {kvs : List (Py × Py)} : hasS (.val (.str x)) (.val (.dic kvs)) = some (.bl (getP kvs (.str x)).isSome) := rfl
@[simp] theorem hasS_d {x : Str} {kvs : List (Py × Py)} : hasS (.val (.str x)) (.dic kvs) = some (.bl (getP kvs (.str x)).isSome) := rfl
@[simp] theorem hasNotS_dv {x : Str} {kvs : List (Py × Py)} : hasNotS (.val (.str x)) (.val (.dic kvs)) = some (.bl (!(getP kvs (.str x)).isSome)) := rfl
@[simp] theorem hasNotS_d {x : Str} {kvs : List (Py × Py)} : hasNotS (.val (.str x)) (.dic kvs) = some (.bl (!(getP kvs (.str x)).isSome)) := rfl
@[simp] theorem dixS_dv {x : Str} {kvs : List (Py × Py)} : dixS (.val (.dic kvs)) (.val (.str x)) = getP kvs (.str x) := rfl
@[simp] theorem dixS_d {x : Str} {kvs : List (Py × Py)} : dixS (.dic kvs) (.val (.str x)) = getP kvs (.str x) := rfl
@[simp] theorem isDS_dv {kvs : List (Py × Py)} : isDS (.val (.dic kvs)) = some () := rfl
@[simp] theorem isDS_d {kvs : List (Py × Py)} : isDS (.dic kvs) = some () := rfl
@[simp] theorem getS_dv {x : Str} {kvs : List (Py × Py)} : getS (.val (.dic kvs)) (.str x) = some (getP kvs (.str x)) := rfl
@[simp] theorem getS_d {x : Str} {kvs : List (Py × Py)} : getS (.dic kvs) (.str x) = some (getP kvs (.str x)) := rfl
@[simp] theorem putS_d {x : Str} {z : Py} {kvs : List (Py × Py)} : putS (.dic kvs) (.str x) z = if kvs.length < sizeLine then some (.dic (putP kvs (.str x) z)) else none := by
  show (if (pkK (.str x)).isSome = true ∧ kvs.length < sizeLine then _ else _) = _
  have : (pkK (.str x)).isSome = true := rfl
  simp only [this, true_and]
@[simp] theorem getM2_ap {ma : DS → ER Ar} {mk mx : DS → ER Py} {st : DS} : getM2 ma mk mx st = (ma st).bind fun a st1 => (optE (bindO st1 a isDS) st1).bind fun _ st1 => (mk st1).bind fun k st2 => (mx st2).bind fun x st3 => optE (bindO st3 a fun w => (getS w k).map fun o => o.getD x) st3 := rfl
@[simp] theorem dputM_ap {i : Nat} {mv mk : DS → ER Py} {st : DS} : dputM i mv mk st = (mv st).s fun z st1 => (optE ((st1[i]?).join) st1).s fun _ st1 => (mk st1).s fun k st2 => (optE (((st2[i]?).join).bind fun w => putS w k z) st2).s fun w' st2 => .nx (st2.set i (some w')) := rfl
@[simp] theorem dic0_ap {st : DS} : dic0 st = .ok (.dic []) st := rfl
@[simp] theorem dit0_ap {st : DS} : dit0 st = .ok (.dit []) st := rfl
@[simp] theorem enI_ap {m : DS → ER Py} {st : DS} : enI m st = (m st).bind fun d st1 => optE ((itemsD d).map (enumL 0)) st1 := rfl
@[simp] theorem itemsD_t {ds : List Py} : itemsD (.tup ds) = some ds := rfl
@[simp] theorem itemsD_l {ds : List Py} : itemsD (.lst ds) = some ds := rfl
@[simp] theorem zipS_t {ds es : List Py} : zipS (.val (.tup ds)) (.val (.tup es)) = some (.lst (List.zipWith (fun a b => .tup [a, b]) ds es)) := rfl
@[simp] theorem actM_ap {f : Addr} {i : Nat} {g : Py → Option Py} {ma : DS → ER Py} {st : DS} : actM f i g ma st = if objAt st i f = true then (ma st).bind fun d st1 => optE (g d) st1 else .stuck := rfl
@[simp] theorem strS_i {i : Int} : strS (.val (.int i)) = if i.natAbs.log2 < 1920 then some (.str (toString i)) else none := rfl
theorem lockE_d {st : DS} {i : Nat} {kvs : List (Py × Py)} (h : st[i]? = some (some (.dic kvs))) : lockE i st = .ok (.dic kvs) (st.set i (some (.val (.dic kvs)))) := by unfold lockE; rw [h]; rfl
theorem takeO_d {st : DS} {i : Nat} {kvs : List (Py × Py)} (h : st[i]? = some (some (.dic kvs))) : takeO i st = .ok (.dic kvs) (st.set i none) := by unfold takeO; rw [h]
theorem varX_d {st : DS} {i : Nat} {kvs : List (Py × Py)} (h : st[i]? = some (some (.dic kvs))) : varX i st = .ok (.s i) st := by unfold varX; rw [h]
/-! ### substitutions -/
abbrev Sb := List (Str × Tm)
def sbP (s : Sb) : List (Py × Py) := s.map fun p => (.str p.1, p.2.py)
def Sb.get (s : Sb) (x : Str) : Option Tm := (s.find? fun p => p.1 = x).map (·.2)
open Classical in
theorem getP_cons {k v x : Py} {kvs : List (Py × Py)} : getP ((k, v) :: kvs) x = if k = x then some v else getP kvs x := by
  unfold getP
  rw [List.find?_cons]
  by_cases h : k = x <;> simp [h]
theorem getP_sb (s : Sb) (x : Str) : getP (sbP s) (.str x) = (s.get x).map Tm.py := by
  induction s with
  | nil => rfl
  | cons p s ih =>
    have e : sbP (p :: s) = (Py.str p.1, p.2.py) :: sbP s := rfl
    rw [e, getP_cons, ih]
    unfold Sb.get
    rw [List.find?_cons]
    by_cases h : p.1 = x
    · simp [h]
    · have : Py.str p.1 ≠ Py.str x := fun z => h (Py.str.inj z)
      simp [h, this]
mutual
def Tm.sub (s : Sb) : Tm → Tm
  | .v x => (s.get x).getD (.v x)
  | .f n ts => .f n (subL s ts)
def subL (s : Sb) : List Tm → List Tm
  | [] => []
  | t :: ts => t.sub s :: subL s ts
end
theorem subL_eq (s : Sb) : ∀ ts : List Tm, subL s ts = ts.map (Tm.sub s)
  | [] => rfl
  | t :: ts => by rw [subL, subL_eq s ts]; rfl
def Sb.upd (s : Sb) (x : Str) (t : Tm) : Sb := if (s.any fun p => p.1 = x) then s.map (fun p => if p.1 = x then (p.1, t) else p) else s ++ [(x, t)]
theorem putP_sb (s : Sb) (x : Str) (t : Tm) : putP (sbP s) (.str x) t.py = sbP (s.upd x t) := by
  have e1 : ((sbP s).any fun kv => @decide (kv.1 = Py.str x) (Classical.propDecidable _)) = (s.any fun p => decide (p.1 = x)) := by
    unfold sbP
    rw [List.any_map]
    congr 1
    funext p
    by_cases h : p.1 = x <;> simp [h]
  unfold putP Sb.upd
  rw [e1]
  split
  · unfold sbP
    rw [List.map_map, List.map_map]
    apply List.map_congr_left
    intro p _
    by_cases h : p.1 = x <;> simp [h]
  · unfold sbP
    simp
theorem Sb.get_mem {s : Sb} {x : Str} {u : Tm} (h : s.get x = some u) : (x, u) ∈ s := by
  unfold Sb.get at h
  obtain ⟨p, h1, h2⟩ := Option.map_eq_some_iff.mp h
  have h3 := List.find?_some h1
  have h4 := List.mem_of_find?_eq_some h1
  simp only [decide_eq_true_eq] at h3
  subst h2 h3
  exact h4
open Classical in
theorem getP_put (kvs : List (Py × Py)) (k v x : Py) : getP (putP kvs k v) x = if k = x then some v else getP kvs x := by
  have key : ∀ l : List (Py × Py), getP (l.map fun kv => if kv.1 = k then (kv.1, v) else kv) x = if k = x then (if (l.any fun kv => decide (kv.1 = k)) = true then some v else none) else getP l x := by
    intro l
    induction l with
    | nil => by_cases h : k = x <;> simp [h, getP]
    | cons p l ih =>
      obtain ⟨a, b⟩ := p
      by_cases ha : a = k
      · subst ha
        simp only [List.map_cons, if_true, getP_cons, List.any_cons, decide_true, Bool.true_or]
        by_cases hx : a = x
        · simp [hx]
        · simp only [hx, if_false] at ih ⊢
          exact ih
      · simp only [List.map_cons, if_neg ha, getP_cons, List.any_cons, decide_eq_false ha, Bool.false_or, ih]
        by_cases hx : k = x
        · subst hx
          simp [ha]
        · simp [hx]
  have snoc : ∀ l : List (Py × Py), getP (l ++ [(k, v)]) x = (getP l x).or (if k = x then some v else none) := by
    intro l
    induction l with
    | nil => rw [List.nil_append, getP_cons]; simp [getP]
    | cons p l ih =>
      obtain ⟨a, b⟩ := p
      rw [List.cons_append, getP_cons, getP_cons, ih]
      split <;> simp
  have none_of : ∀ l : List (Py × Py), (l.any fun kv => decide (kv.1 = k)) = false → getP l k = none := by
    intro l
    induction l with
    | nil => intro _; rfl
    | cons p l ih =>
      obtain ⟨a, b⟩ := p
      intro h
      simp only [List.any_cons, Bool.or_eq_false_iff, decide_eq_false_iff_not] at h
      rw [getP_cons, if_neg h.1]
      exact ih h.2
  unfold putP
  split
  · rename_i h
    have := key kvs
    rw [if_pos h] at this
    exact this
  · rename_i h
    rw [snoc]
    by_cases hx : k = x
    · subst hx
      rw [none_of _ (Bool.eq_false_iff.mpr h)]
      simp
    · simp [hx]
open Classical in
theorem getP_puts (v : Str → Py) (y : Str) : ∀ (l : List Str) (acc : List (Py × Py)), getP (putsP Py.str v acc l) (.str y) = if y ∈ l then some (v y) else getP acc (.str y)
  | [], acc => by simp [putsP]
  | x :: l, acc => by
    have e : putsP Py.str v acc (x :: l) = putsP Py.str v (putP acc (.str x) (v x)) l := rfl
    rw [e, getP_puts v y l, getP_put]
    by_cases h1 : y ∈ l
    · simp [h1]
    · by_cases h2 : x = y
      · subst h2; simp [h1]
      · have h3 : ¬ y = x := fun z => h2 z.symm
        simp [h1, h2, h3]
/-! ### what a term becomes: its nodes, its depth -/
def szV (s : Sb) (x : Str) : Py := match s.get x with
  | some u => .tup [.int u.sz, .int u.dp]
  | none => .non
noncomputable def szD (s : Sb) (l : List Str) : List (Py × Py) := putsP Py.str (szV s) [] (l.filter fun x => (s.get x).isSome)
theorem szD_get (s : Sb) (l : List Str) {y : Str} (hy : y ∈ l) : (getP (szD s l) (.str y)).getD (.tup [.int 1, .int 1]) = .tup [.int ((Tm.v y).sub s).sz, .int ((Tm.v y).sub s).dp] := by
  unfold szD
  rw [getP_puts, Tm.sub]
  unfold szV
  cases h : s.get y with
  | none => simp [h, List.mem_filter, getP, Tm.sz, Tm.dp]
  | some u => simp [h, List.mem_filter, hy]
def szL2 (L : List (Tm × Nat)) : Nat := szs (L.map (·.1))
def sumM (s : Sb) (L : List (Tm × Nat)) : Nat := szs (L.map fun p => p.1.sub s)
def maxM (s : Sb) : List (Tm × Nat) → Nat
  | [] => 0
  | p :: L => max (p.2 + (p.1.sub s).dp) (maxM s L)
def lvP (p : Tm × Nat) : Py := .tup [p.1.py, .int p.2]
theorem szs_rev : ∀ l : List Tm, szs l.reverse = szs l
  | [] => rfl
  | t :: l => by rw [List.reverse_cons, szs_append, szs_rev l]; simp only [szs]; omega
theorem maxM_append (s : Sb) : ∀ a b : List (Tm × Nat), maxM s (a ++ b) = max (maxM s a) (maxM s b)
  | [], b => by simp [maxM]
  | p :: a, b => by rw [List.cons_append, maxM, maxM, maxM_append s a b]; omega
theorem maxM_rev (s : Sb) : ∀ l : List (Tm × Nat), maxM s l.reverse = maxM s l
  | [] => rfl
  | t :: l => by rw [List.reverse_cons, maxM_append, maxM_rev s l]; simp only [maxM]; omega
theorem maxM_kids (s : Sb) (n : Str) (l : Nat) : ∀ ts : List Tm, max (l + 1) (maxM s (ts.map fun t => (t, l + 1))) = l + ((Tm.f n ts).sub s).dp
  | [] => by simp [maxM, Tm.sub, Tm.dp, subL, dps]
  | t :: ts => by
    have := maxM_kids s n l ts
    simp only [List.map_cons, maxM, Tm.sub, Tm.dp, subL, dps] at this ⊢
    omega
theorem sumM_kids (s : Sb) (n : Str) (l : Nat) : ∀ ts : List Tm, 1 + sumM s (ts.map fun t => (t, l)) = ((Tm.f n ts).sub s).sz
  | [] => by simp [sumM, Tm.sub, Tm.sz, subL, szs]
  | t :: ts => by
    have := sumM_kids s n l ts
    simp only [sumM, List.map_cons, szs, Tm.sub, Tm.sz, subL] at this ⊢
    omega
theorem mem_vars {x : Str} : ∀ (l : List Tm) (acc : List Str), x ∈ acc ∨ Tm.v x ∈ l → x ∈ colT varO acc l
  | [], acc, h => by rcases h with h | h; exact h; cases h
  | t :: l, acc, h => by
    rw [colT]
    cases t with
    | v y =>
      refine mem_vars l _ ?_
      rcases h with h | h
      · left; unfold addK; split; exact h; exact List.mem_append_left _ h
      · rcases List.mem_cons.mp h with h | h
        · cases h; left; unfold addK; split; assumption; simp
        · exact .inr h
    | f n ts =>
      refine mem_vars l _ ?_
      rcases h with h | h
      · exact .inl h
      · rcases List.mem_cons.mp h with h | h
        · cases h
        · exact .inr h
theorem mem_subss {u k : Tm} : ∀ {ts : List Tm}, k ∈ ts → u ∈ k.subs → u ∈ subss ts
  | t :: ts, h, hu => by
    rw [subss]
    rcases List.mem_cons.mp h with rfl | h
    · exact List.mem_append_left _ hu
    · exact List.mem_append_right _ (mem_subss h hu)
/-! ### a term with something for its variables; the stack that makes it -/
mutual
def Tm.bnd (σ : Str → Tm) : Tm → Tm
  | .v x => σ x
  | .f n ts => .f n (bndL σ ts)
def bndL (σ : Str → Tm) : List Tm → List Tm
  | [] => []
  | t :: ts => t.bnd σ :: bndL σ ts
end
theorem bndL_eq (σ : Str → Tm) : ∀ ts : List Tm, bndL σ ts = ts.map (Tm.bnd σ)
  | [] => rfl
  | t :: ts => by rw [bndL, bndL_eq σ ts]; rfl
mutual
theorem sub_bnd (s : Sb) : ∀ t : Tm, t.sub s = t.bnd fun x => (s.get x).getD (.v x)
  | .v x => rfl
  | .f n ts => by rw [Tm.sub, Tm.bnd, subL_bnd s ts]
theorem subL_bnd (s : Sb) : ∀ ts : List Tm, subL s ts = bndL (fun x => (s.get x).getD (.v x)) ts
  | [] => rfl
  | t :: ts => by rw [subL, bndL, sub_bnd s t, subL_bnd s ts]
end
inductive Run (σ : Str → Tm) : List (Tm × Bool) → List Tm → List Tm → Prop
  | nil {d : List Tm} : Run σ [] d d
  | v {x : Str} {b : Bool} {L : List (Tm × Bool)} {d r : List Tm} : Run σ L (d ++ [σ x]) r → Run σ ((.v x, b) :: L) d r
  | shut {n : Str} {ts us : List Tm} {L : List (Tm × Bool)} {d r : List Tm} : us.length = ts.length → Run σ L (d ++ [.f n us]) r → Run σ ((.f n ts, true) :: L) (d ++ us) r
  | opn {n : Str} {ts : List Tm} {L : List (Tm × Bool)} {d r : List Tm} : Run σ (ts.map (fun t => (t, false)) ++ (.f n ts, true) :: L) d r → Run σ ((.f n ts, false) :: L) d r
mutual
theorem Run.one (σ : Str → Tm) : ∀ (t : Tm) {L : List (Tm × Bool)} {d r : List Tm}, Run σ L (d ++ [t.bnd σ]) r → Run σ ((t, false) :: L) d r
  | .v x, L, d, r, h => .v h
  | .f n ts, L, d, r, h => by
    rw [Tm.bnd] at h
    refine .opn (Run.all σ ts (.shut (us := bndL σ ts) ?_ h))
    rw [bndL_eq, List.length_map]
theorem Run.all (σ : Str → Tm) : ∀ (ts : List Tm) {L : List (Tm × Bool)} {d r : List Tm}, Run σ L (d ++ bndL σ ts) r → Run σ (ts.map (fun t => (t, false)) ++ L) d r
  | [], L, d, r, h => by simpa [bndL] using h
  | t :: ts, L, d, r, h => by
    rw [List.map_cons, List.cons_append]
    refine Run.one σ t (Run.all σ ts ?_)
    rw [bndL] at h
    simpa using h
end
def stkM : List (Tm × Bool) → Nat
  | [] => 0
  | (_, true) :: L => 1 + stkM L
  | (t, false) :: L => 2 * t.sz + stkM L
theorem stkM_append : ∀ a b : List (Tm × Bool), stkM (a ++ b) = stkM a + stkM b
  | [], b => by simp [stkM]
  | (t, true) :: a, b => by rw [List.cons_append, stkM, stkM, stkM_append a b]; omega
  | (t, false) :: a, b => by rw [List.cons_append, stkM, stkM, stkM_append a b]; omega
theorem stkM_kids : ∀ ts : List Tm, stkM (ts.map fun t => (t, false)) = 2 * szs ts
  | [] => by simp [stkM, szs]
  | t :: ts => by rw [List.map_cons, stkM, stkM_kids ts, szs]; omega
theorem stkM_len : ∀ L : List (Tm × Bool), L.length ≤ stkM L
  | [] => by simp
  | (t, true) :: L => by have := stkM_len L; simp only [List.length_cons, stkM]; omega
  | (t, false) :: L => by have := stkM_len L; have := sz_eq t; simp only [List.length_cons, stkM]; omega
def rdP (p : Tm × Bool) : Py := .tup [p.1.py, .bl p.2]
/-- what the def that is handed on gives -/
def Gives (gf : Py → Option Py) (σ : Str → Tm) (t : Tm) : Prop := ∀ x, Tm.v x ∈ t.subs → gf (.str x) = some (σ x).py
end DM

/-! ## DM3 -/
namespace DM
open PySem L2 DL
variable [Tb]
/-! ### terms compared -/
noncomputable instance : DecidableEq Tm := fun _ _ => Classical.propDecidable _
mutual
def Tm.okB : Tm → Bool
  | .v x => PyData.strOk x
  | .f n ts => PyData.strOk n && okBs ts
def okBs : List Tm → Bool
  | [] => true
  | t :: ts => t.okB && okBs ts
end
theorem okBs_all : ∀ {ts : List Tm}, (∀ t ∈ ts, t.okB = true) → okBs ts = true
  | [], _ => rfl
  | t :: ts, h => by rw [okBs, h t List.mem_cons_self, okBs_all fun u hu => h u (List.mem_cons_of_mem _ hu)]; rfl
theorem okBs_mem : ∀ {ts : List Tm}, okBs ts = true → ∀ t ∈ ts, t.okB = true
  | u :: ts, h, t, ht => by
    rw [okBs, Bool.and_eq_true] at h
    rcases List.mem_cons.mp ht with rfl | ht
    · exact h.1
    · exact okBs_mem h.2 t ht
theorem TIn.okB {sg : Sg} {vs : List Str} (hs : SgFit sg) (hv : ∀ x ∈ vs, PyData.strOk x = true) {t : Tm} (h : TIn sg vs t) : t.okB = true := by
  induction h with
  | v hx => exact hv _ hx
  | @f n ts hm _ ih =>
    rw [Tm.okB, okBs_all ih, hs.ok _ hm]
    rfl
mutual
theorem lay_tm : ∀ t : Tm, t.okB = true → (toD t.py).canLay0 = true ∧ (toD t.py).depth ≤ 2 * t.dp
  | .v x, h => ⟨h, Nat.zero_le _⟩
  | .f n ts, h => by
    rw [Tm.okB, Bool.and_eq_true] at h
    obtain ⟨h1, h2⟩ := lay_tms ts h.2
    rw [py_f]
    refine ⟨?_, ?_⟩
    · simp only [toD, toDs, PyData.canLay0, PyData.canLayAll0, h.1, h1, Bool.and_true]
    · simp only [toD, toDs, PyData.depth, PyData.depthAll, Tm.dp]
      omega
theorem lay_tms : ∀ ts : List Tm, okBs ts = true → PyData.canLayAll0 (toDs (ts.map Tm.py)) = true ∧ PyData.depthAll (toDs (ts.map Tm.py)) ≤ 2 * dps ts
  | [], _ => ⟨rfl, Nat.zero_le _⟩
  | t :: ts, h => by
    rw [okBs, Bool.and_eq_true] at h
    obtain ⟨a1, a2⟩ := lay_tm t h.1
    obtain ⟨b1, b2⟩ := lay_tms ts h.2
    rw [List.map_cons, toDs, PyData.canLayAll0, PyData.depthAll, a1, b1, dps]
    exact ⟨rfl, by omega⟩
end
theorem shaped_tm {t : Tm} (h : t.okB = true) (hd : t.dp ≤ 64) : shap (toD t.py) = true := by
  obtain ⟨h1, h2⟩ := lay_tm t h
  unfold shap
  rw [h1]
  simp only [Bool.true_and, decide_eq_true_eq]
  omega
mutual
theorem eqv_tm : ∀ t u : Tm, PyData.eqv (toD t.py) (toD u.py) = decide (t = u)
  | .v x, .v y => by
    simp only [py_v, toD, PyData.eqv]
    by_cases h : x = y
    · subst h; simp
    · have : ¬ Tm.v x = Tm.v y := fun z => h (Tm.v.inj z)
      simp [h, this]
  | .v x, .f n ts => by simp [py_v, py_f, toD, PyData.eqv]
  | .f n ts, .v x => by simp [py_v, py_f, toD, PyData.eqv]
  | .f n ts, .f m us => by
    simp only [py_f, toD, toDs, PyData.eqv, PyData.eqvAll, eqv_tms ts us, Bool.and_true]
    by_cases h : n = m
    · by_cases h2 : ts = us
      · subst h h2; simp
      · have : ¬ Tm.f n ts = Tm.f m us := fun z => h2 (Tm.f.inj z).2
        simp [h2, this]
    · have : ¬ Tm.f n ts = Tm.f m us := fun z => h (Tm.f.inj z).1
      simp [h, this]
theorem eqv_tms : ∀ ts us : List Tm, PyData.eqvAll (toDs (ts.map Tm.py)) (toDs (us.map Tm.py)) = decide (ts = us)
  | [], [] => by simp [toDs, PyData.eqvAll]
  | [], u :: us => by simp [toDs, PyData.eqvAll]
  | t :: ts, [] => by simp [toDs, PyData.eqvAll]
  | t :: ts, u :: us => by
    simp only [List.map_cons, toDs, PyData.eqvAll, eqv_tm t u, eqv_tms ts us]
    by_cases h : t = u
    · by_cases h2 : ts = us <;> simp [h, h2]
    · simp [h]
end
theorem eqS_tm {t u : Tm} (h1 : t.okB = true) (h2 : u.okB = true) (d1 : t.dp ≤ 64) (d2 : u.dp ≤ 64) : eqS (.val t.py) (.val u.py) = some (decide (t = u)) := by
  have key : (if shap (toDS (.val t.py)) = true ∧ shap (toDS (.val u.py)) = true then some (PyData.eqv (toDS (.val t.py)) (toDS (.val u.py))) else none) = some (decide (t = u)) := by
    have a1 : shap (toDS (.val t.py)) = true := shaped_tm h1 d1
    have a2 : shap (toDS (.val u.py)) = true := shaped_tm h2 d2
    rw [if_pos ⟨a1, a2⟩]
    exact congrArg some (eqv_tm t u)
  cases t with
  | v x =>
    cases u with
    | v y =>
      simp only [py_v, eqS_s]
      by_cases h : x = y
      · subst h; simp
      · have : ¬ Tm.v x = Tm.v y := fun z => h (Tm.v.inj z)
        simp [h, this]
    | f m us => rw [← key, py_v, py_f]; rfl
  | f n ts =>
    cases u with
    | v y => rw [← key, py_v, py_f]; rfl
    | f m us => rw [← key, py_f, py_f]; rfl
/-! ### matching -/
mutual
noncomputable def mtc : Tm → Tm → Sb → Option Sb
  | .v x, u, s => match s.get x with
    | some w => if w = u then some s else none
    | none => some (s ++ [(x, u)])
  | .f _ _, .v _, _ => none
  | .f n ts, .f m us, s => if n = m ∧ ts.length = us.length then mtL ts us s else none
noncomputable def mtL : List Tm → List Tm → Sb → Option Sb
  | t :: ts, u :: us, s => (mtc t u s).bind (mtL ts us)
  | [], _, s => some s
  | _ :: _, [], s => some s
end
noncomputable def mtS : List (Tm × Tm) → Sb → Option Sb
  | [], s => some s
  | p :: L, s => (mtc p.1 p.2 s).bind (mtS L)
theorem mtS_zip : ∀ (ts us : List Tm) (L : List (Tm × Tm)) (s : Sb), mtS (ts.zip us ++ L) s = (mtL ts us s).bind (mtS L)
  | [], us, L, s => by simp [mtL]
  | t :: ts, [], L, s => by simp [mtL]
  | t :: ts, u :: us, L, s => by
    rw [List.zip_cons_cons, List.cons_append, mtS, mtL]
    cases mtc t u s with
    | none => rfl
    | some s' => exact mtS_zip ts us L s'
mutual
noncomputable def lm : Tm → Tm → Sb → Bool × Sb
  | .v x, u, s => match s.get x with
    | some w => (decide (w = u), s)
    | none => (true, s ++ [(x, u)])
  | .f _ _, .v _, s => (false, s)
  | .f n ts, .f m us, s => if n = m ∧ ts.length = us.length then lmL ts us s else (false, s)
noncomputable def lmL : List Tm → List Tm → Sb → Bool × Sb
  | t :: ts, u :: us, s => let r := lm t u s; let q := lmL ts us r.2; (r.1 && q.1, q.2)
  | [], _, s => (true, s)
  | _ :: _, [], s => (true, s)
end
def ofB (r : Bool × Sb) : Option Sb := match r with
  | (true, s) => some s
  | (false, _) => none
mutual
theorem lm_mt : ∀ (t u : Tm) (s : Sb), mtc t u s = ofB (lm t u s)
  | .v x, u, s => by
    rw [mtc, lm]
    cases s.get x with
    | none => rfl
    | some w => by_cases h : w = u <;> simp [h, ofB]
  | .f _ _, .v _, _ => by rw [mtc, lm]; rfl
  | .f n ts, .f m us, s => by
    rw [mtc, lm]
    by_cases h : n = m ∧ ts.length = us.length
    · rw [if_pos h, if_pos h, lmL_mtL ts us s]
    · rw [if_neg h, if_neg h]; rfl
theorem lmL_mtL : ∀ (ts us : List Tm) (s : Sb), mtL ts us s = ofB (lmL ts us s)
  | [], us, s => by rw [mtL, lmL]; rfl
  | t :: ts, [], s => by rw [mtL, lmL]; rfl
  | t :: ts, u :: us, s => by
    rw [mtL, lm_mt t u s, lmL]
    obtain ⟨b, s'⟩ := lm t u s
    cases b with
    | false => rfl
    | true =>
      show mtL ts us s' = _
      rw [lmL_mtL ts us s']
      simp
end
def prP (p : Tm × Tm) : Py := .tup [p.1.py, p.2.py]
theorem zip_prP : ∀ ts us : List Tm, List.zipWith (fun a b => Py.tup [a, b]) (ts.map Tm.py) (us.map Tm.py) = (ts.zip us).map prP
  | [], us => by simp
  | t :: ts, [] => by simp
  | t :: ts, u :: us => by simp [prP, zip_prP ts us]
theorem zip_prP2 (ts us : List Tm) : List.zipWith (fun a b => Py.tup [a.py, b.py]) ts us = (ts.zip us).map prP := by
  rw [← zip_prP, List.zipWith_map]
theorem Sb.upd_none {s : Sb} {x : Str} {t : Tm} (h : s.get x = none) : s.upd x t = s ++ [(x, t)] := by
  unfold Sb.get at h
  have h1 : s.find? (fun p => decide (p.1 = x)) = none := by
    cases e : s.find? (fun p => decide (p.1 = x)) with
    | none => rfl
    | some p => rw [e] at h; cases h
  have h2 : (s.any fun p => decide (p.1 = x)) = false := by
    rw [List.any_eq_false]
    exact List.find?_eq_none.mp h1
  unfold Sb.upd
  rw [if_neg (by rw [h2]; simp)]
noncomputable def lmB : List Tm → List Tm → Sb → List Bool
  | t :: ts, u :: us, s => (lm t u s).1 :: lmB ts us (lm t u s).2
  | _, _, _ => []
theorem lmB_all : ∀ (ts us : List Tm) (s : Sb), (lmL ts us s).1 = (lmB ts us s).all id
  | [], us, s => by rw [lmL, lmB]; rfl; exact nofun
  | t :: ts, [], s => by rw [lmL, lmB]; rfl; exact nofun
  | t :: ts, u :: us, s => by
    rw [lmL, lmB, List.all_cons, ← lmB_all ts us]
    rfl
theorem allM_bl : ∀ bs : List Bool, allM asBl (bs.map Py.bl) = some bs
  | [] => rfl
  | b :: bs => by
    have := allM_bl bs
    simp only [List.map_cons, allM, asBl, this]
theorem allS_bl (bs : List Bool) : allS (.val (.lst (bs.map Py.bl))) = some (.bl (bs.all id)) := by
  unfold allS
  simp only [listS, Option.bind_some, allM_bl]
  rfl
mutual
theorem lm_mem {P : Tm → Prop} (hP : ∀ n ts, P (.f n ts) → ∀ t ∈ ts, P t) : ∀ (t u : Tm) (s : Sb), P u → (∀ q ∈ s, P q.2) → ∀ q ∈ (lm t u s).2, P q.2
  | .v x, u, s, hu, hs => by
    rw [lm]
    cases h : s.get x with
    | none =>
      intro q hq
      rcases List.mem_append.mp hq with hq | hq
      · exact hs q hq
      · rw [List.mem_singleton.mp hq]; exact hu
    | some w => exact hs
  | .f n ts, .v y, s, hu, hs => by rw [lm]; exact hs
  | .f n ts, .f m us, s, hu, hs => by
    rw [lm]
    split
    · exact lmL_mem hP ts us s (hP m us hu) hs
    · exact hs
theorem lmL_mem {P : Tm → Prop} (hP : ∀ n ts, P (.f n ts) → ∀ t ∈ ts, P t) : ∀ (ts us : List Tm) (s : Sb), (∀ u ∈ us, P u) → (∀ q ∈ s, P q.2) → ∀ q ∈ (lmL ts us s).2, P q.2
  | [], us, s, hu, hs => by rw [lmL]; exact hs
  | t :: ts, [], s, hu, hs => by rw [lmL]; exact hs
  | t :: ts, u :: us, s, hu, hs => by
    rw [lmL]
    exact lmL_mem hP ts us _ (fun v hv => hu v (List.mem_cons_of_mem _ hv)) (lm_mem hP t u s (hu u List.mem_cons_self) hs)
end
mutual
theorem lm_len : ∀ (t u : Tm) (s : Sb), (lm t u s).2.length ≤ s.length + t.sz
  | .v x, u, s => by
    rw [lm]
    cases h : s.get x <;> simp [Tm.sz]
  | .f n ts, .v y, s => by rw [lm]; exact Nat.le_add_right _ _
  | .f n ts, .f m us, s => by
    rw [lm, Tm.sz]
    split
    · have := lmL_len ts us s; omega
    · exact Nat.le_add_right _ _
theorem lmL_len : ∀ (ts us : List Tm) (s : Sb), (lmL ts us s).2.length ≤ s.length + szs ts
  | [], us, s => by rw [lmL]; exact Nat.le_add_right _ _
  | t :: ts, [], s => by rw [lmL]; exact Nat.le_add_right _ _
  | t :: ts, u :: us, s => by
    rw [lmL, szs]
    have h1 := lm_len t u s
    have h2 := lmL_len ts us (lm t u s).2
    simp only
    omega
end
def EqOk (t : Tm) : Prop := t.okB = true ∧ t.dp ≤ 64
theorem EqOk.kid {n : Str} {ts : List Tm} (h : EqOk (.f n ts)) : ∀ t ∈ ts, EqOk t := fun t ht => by
  obtain ⟨h1, h2⟩ := h
  rw [Tm.okB, Bool.and_eq_true] at h1
  exact ⟨okBs_mem h1.2 t ht, by have := (kids_le (n := n) ht).1; rw [Tm.dp] at h2; omega⟩
end DM

/-! ## DM4 -/
namespace DM
open PySem L2 DL
variable [Tb]
/-! ### substitutions: sizes, names, keys -/
mutual
theorem sub_sz {s : Sb} {k : Nat} (h1 : 1 ≤ k) (h : ∀ q ∈ s, q.2.sz ≤ k) : ∀ t : Tm, (t.sub s).sz ≤ k * t.sz
  | .v x => by
    rw [Tm.sub]
    cases e : s.get x with
    | none => simp [Tm.sz]; exact h1
    | some u => have := h _ (Sb.get_mem e); simpa [Tm.sz] using this
  | .f n ts => by
    have := subL_sz h1 h ts
    rw [Tm.sub, Tm.sz, Tm.sz, Nat.mul_add, Nat.mul_one]
    omega
theorem subL_sz {s : Sb} {k : Nat} (h1 : 1 ≤ k) (h : ∀ q ∈ s, q.2.sz ≤ k) : ∀ ts : List Tm, szs (subL s ts) ≤ k * szs ts
  | [] => by simp [subL, szs]
  | t :: ts => by
    have a := sub_sz h1 h t
    have b := subL_sz h1 h ts
    rw [subL, szs, szs, Nat.mul_add]
    omega
end
mutual
theorem sub_dp {s : Sb} {k : Nat} (h : ∀ q ∈ s, q.2.dp ≤ k + 1) : ∀ t : Tm, (t.sub s).dp ≤ t.dp + k
  | .v x => by
    rw [Tm.sub]
    cases e : s.get x with
    | none => simp [Tm.dp]
    | some u => have := h _ (Sb.get_mem e); simp only at this; simp [Tm.dp]; omega
  | .f n ts => by
    have := subL_dp h ts
    cases ts with
    | nil => simp [Tm.sub, subL, Tm.dp, dps]
    | cons t ts =>
      have := this (by simp)
      rw [Tm.sub, Tm.dp, Tm.dp]
      omega
theorem subL_dp {s : Sb} {k : Nat} (h : ∀ q ∈ s, q.2.dp ≤ k + 1) : ∀ ts : List Tm, ts ≠ [] → dps (subL s ts) ≤ dps ts + k
  | [], h => absurd rfl h
  | [t], _ => by
    have a := sub_dp h t
    simp only [subL, dps]
    omega
  | t :: u :: ts, _ => by
    have a := sub_dp h t
    have b := subL_dp h (u :: ts) (by simp)
    rw [subL, dps, dps]
    omega
end
mutual
theorem sub_ok {s : Sb} (h : ∀ q ∈ s, q.2.okB = true) : ∀ t : Tm, t.okB = true → (t.sub s).okB = true
  | .v x, ht => by
    rw [Tm.sub]
    cases e : s.get x with
    | none => exact ht
    | some u => exact h _ (Sb.get_mem e)
  | .f n ts, ht => by
    rw [Tm.okB, Bool.and_eq_true] at ht
    rw [Tm.sub, Tm.okB, ht.1, subL_ok h ts ht.2]
    rfl
theorem subL_ok {s : Sb} (h : ∀ q ∈ s, q.2.okB = true) : ∀ ts : List Tm, okBs ts = true → okBs (subL s ts) = true
  | [], _ => rfl
  | t :: ts, ht => by
    rw [okBs, Bool.and_eq_true] at ht
    rw [subL, okBs, sub_ok h t ht.1, subL_ok h ts ht.2]
    rfl
end
/-- no name stands twice -/
def Sb.nd (s : Sb) : Prop := (s.map (·.1)).Nodup
theorem get_none {s : Sb} {x : Str} (h : s.get x = none) : x ∉ s.map (·.1) := by
  induction s with
  | nil => simp
  | cons p s ih =>
    unfold Sb.get at h ih
    rw [List.find?_cons] at h
    by_cases e : p.1 = x
    · simp [e] at h
    · simp only [e, decide_false] at h
      simp only [List.map_cons, List.mem_cons, not_or]
      exact ⟨fun z => e z.symm, ih h⟩
theorem nd_snoc {s : Sb} {x : Str} {t : Tm} (h : s.nd) (e : s.get x = none) : Sb.nd (s ++ [(x, t)]) := by
  unfold Sb.nd at *
  rw [List.map_append]
  refine List.nodup_append.mpr ⟨h, by simp, fun a ha b hb z => ?_⟩
  simp only [List.map_cons, List.map_nil, List.mem_singleton] at hb
  subst hb z
  exact get_none e ha
theorem upd_props {s : Sb} {x : Str} {t : Tm} : (s.upd x t).length ≤ s.length + 1 ∧ (s.nd → (s.upd x t).nd) ∧ ∀ q ∈ s.upd x t, q.2 = t ∨ ∃ q' ∈ s, q'.2 = q.2 := by
  unfold Sb.upd
  split
  · refine ⟨by simp, fun h => ?_, fun q hq => ?_⟩
    · unfold Sb.nd at *
      rw [List.map_map]
      have : ((fun p : Str × Tm => p.1) ∘ fun p => if p.1 = x then (p.1, t) else p) = fun p => p.1 := by
        funext p
        simp only [Function.comp]
        split <;> rfl
      rw [this]
      exact h
    · obtain ⟨p, hp, rfl⟩ := List.mem_map.mp hq
      by_cases e : p.1 = x
      · left; simp [e]
      · right; exact ⟨p, hp, by simp [e]⟩
  · rename_i h
    have e : s.get x = none := by
      unfold Sb.get
      cases e : s.find? (fun p => decide (p.1 = x)) with
      | none => rfl
      | some p =>
        exact absurd (List.any_eq_true.mpr ⟨p, List.mem_of_find?_eq_some e, List.find?_some e⟩) h
    refine ⟨by simp, fun h => nd_snoc h e, fun q hq => ?_⟩
    rcases List.mem_append.mp hq with hq | hq
    · exact .inr ⟨q, hq, rfl⟩
    · rw [List.mem_singleton.mp hq]; exact .inl rfl
mutual
theorem lm_nd : ∀ (t u : Tm) (s : Sb), s.nd → (lm t u s).2.nd
  | .v x, u, s, h => by
    rw [lm]
    cases e : s.get x with
    | none => exact nd_snoc h e
    | some w => exact h
  | .f n ts, .v y, s, h => by rw [lm]; exact h
  | .f n ts, .f m us, s, h => by
    rw [lm]
    split
    · exact lmL_nd ts us s h
    · exact h
theorem lmL_nd : ∀ (ts us : List Tm) (s : Sb), s.nd → (lmL ts us s).2.nd
  | [], us, s, h => by rw [lmL]; exact h
  | t :: ts, [], s, h => by rw [lmL]; exact h
  | t :: ts, u :: us, s, h => by
    rw [lmL]
    exact lmL_nd ts us _ (lm_nd t u s h)
end
theorem get_nd {s : Sb} (h : s.nd) {q : Str × Tm} (hq : q ∈ s) : s.get q.1 = some q.2 := by
  induction s with
  | nil => cases hq
  | cons p s ih =>
    unfold Sb.nd at h
    rw [List.map_cons, List.nodup_cons] at h
    unfold Sb.get
    rw [List.find?_cons]
    rcases List.mem_cons.mp hq with rfl | hq
    · simp
    · have e : ¬ p.1 = q.1 := fun z => h.1 (by rw [z]; exact List.mem_map_of_mem hq)
      simp only [e, decide_false]
      exact ih h.2 hq
theorem shapedD_sb {s : Sb} (h : ∀ q ∈ s, EqOk q.2) : shapedD (sbP s) = true := by
  unfold shapedD sbP
  rw [List.all_map, List.all_eq_true]
  intro q hq
  exact shaped_tm (h q hq).1 (h q hq).2
theorem eqDD_sb {s : Sb} (h : s.nd) : eqDD (sbP s) (sbP s) = true := by
  unfold eqDD
  simp only [beq_self_eq_true, Bool.true_and]
  rw [List.all_eq_true]
  intro p hp
  unfold sbP at hp
  obtain ⟨q, hq, rfl⟩ := List.mem_map.mp hp
  simp only [getP_sb, get_nd h hq, Option.map_some, eqv_tm, decide_true]
theorem eqDS_sb {s : Sb} {a b : Sv} (h : s.nd) (h2 : ∀ q ∈ s, EqOk q.2) (ha : a = .val (.dic (sbP s)) ∨ a = .dic (sbP s)) (hb : b = .val (.dic (sbP s)) ∨ b = .dic (sbP s)) : eqDS a b = some true := by
  have e1 := shapedD_sb h2
  have e2 := eqDD_sb h
  rcases ha with rfl | rfl <;> rcases hb with rfl | rfl <;> simp [eqDS, dicS, e1, e2]
theorem put_okB {u : Tm} (hu : u.okB = true) : ∀ (p : List Int) (t : Tm), t.okB = true → (t.put_ p u).okB = true
  | [], t, ht => by rw [Tm.put_]; exact hu
  | k :: p, t, ht => by
    rw [Tm.put_]
    split
    · rename_i h
      cases t with
      | v x => simp [Tm.kids] at h
      | f n ts =>
        have ht' := ht
        rw [Tm.okB, Bool.and_eq_true] at ht'
        have hm := okBs_mem ht'.2
        have h2 := put_okB hu p (ts[k.toNat]'h.2) (hm _ (List.getElem_mem _))
        rw [Tm.node, Tm.okB, ht'.1, Bool.true_and]
        refine okBs_all fun x hx => ?_
        rcases List.mem_append.mp hx with hx | hx
        · exact hm x (List.mem_of_mem_take hx)
        · rcases List.mem_cons.mp hx with rfl | hx
          · exact h2
          · exact hm x (List.mem_of_mem_drop hx)
    · exact ht
theorem cmp_of_le {t : Tm} {n : Nat} (h : t.sz ≤ n) : t.dp ≤ n := Nat.le_trans (dp_sz t) h
theorem cs_set {b : Int} {c : List Py} (h : CS b c) (m : Int) : c.length = 5 ∧ ∃ c', c.set 4 (.int m) = c' ∧ CS m c' := by
  obtain ⟨ns, i, r, k, rfl⟩ := h
  exact ⟨rfl, cst ns i r k m, rfl, ns, i, r, k, rfl⟩
theorem ixN5_4 : ixN 5 4 = some 4 := by decide
abbrev sX : Str := PySem.Str.ofString "x"
abbrev sY : Str := PySem.Str.ofString "y"
abbrev sZ : Str := PySem.Str.ofString "z"
abbrev sW : Str := PySem.Str.ofString "w"
abbrev sV : Str := PySem.Str.ofString "v"
end DM

/-! ## DM5 -/
namespace DM
open PySem L2 DL
variable [Tb]
/-! ### variables in order of first occurrence; renaming -/
def dd (acc l : List Str) : List Str := l.foldl addK acc
theorem colT_dd : ∀ (l : List Tm) (acc : List Str), colT varO acc l = dd acc (l.filterMap varO)
  | [], acc => rfl
  | t :: l, acc => by
    rw [colT]
    cases t with
    | v x => exact colT_dd l _
    | f n ts => exact colT_dd l _
def Tm.occ (t : Tm) : List Str := t.subs.filterMap varO
def Tm.vars (t : Tm) : List Str := colT varO [] t.subs
theorem vars_dd (t : Tm) : t.vars = dd [] t.occ := colT_dd _ _
mutual
theorem occ_bnd (f : Str → Str) : ∀ t : Tm, (t.bnd fun x => .v (f x)).subs.filterMap varO = (t.subs.filterMap varO).map f
  | .v x => rfl
  | .f n ts => by
    rw [Tm.bnd, Tm.subs, Tm.subs]
    exact occs_bnd f ts
theorem occs_bnd (f : Str → Str) : ∀ ts : List Tm, (subss (bndL (fun x => .v (f x)) ts)).filterMap varO = ((subss ts).filterMap varO).map f
  | [] => rfl
  | t :: ts => by
    rw [bndL, subss, subss, List.filterMap_append, List.filterMap_append, List.map_append, occ_bnd f t, occs_bnd f ts]
end
theorem mem_dd {y : Str} : ∀ {l acc : List Str}, y ∈ dd acc l ↔ y ∈ acc ∨ y ∈ l
  | [], acc => by simp [dd]
  | x :: l, acc => by
    have e : dd acc (x :: l) = dd (addK acc x) l := rfl
    rw [e, mem_dd]
    unfold addK
    by_cases h : x ∈ acc
    · rw [if_pos h]
      constructor
      · rintro (h1 | h1)
        · exact .inl h1
        · exact .inr (List.mem_cons_of_mem _ h1)
      · rintro (h1 | h1)
        · exact .inl h1
        · rcases List.mem_cons.mp h1 with rfl | h1
          · exact .inl h
          · exact .inr h1
    · rw [if_neg h]
      simp only [List.mem_append, List.mem_cons, List.not_mem_nil, or_false, or_assoc]
theorem nodup_addK {acc : List Str} {x : Str} (h : acc.Nodup) : (addK acc x).Nodup := by
  unfold addK
  split
  · exact h
  · rename_i n
    refine List.nodup_append.mpr ⟨h, by simp, fun a ha b hb e => ?_⟩
    rw [List.mem_singleton] at hb
    subst hb e
    exact n ha
theorem nodup_dd : ∀ {l acc : List Str}, acc.Nodup → (dd acc l).Nodup
  | [], acc, h => h
  | x :: l, acc, h => nodup_dd (l := l) (nodup_addK h)
theorem dd_nodup : ∀ {l acc : List Str}, (acc ++ l).Nodup → dd acc l = acc ++ l
  | [], acc, h => by simp [dd]
  | x :: l, acc, h => by
    have e : dd acc (x :: l) = dd (addK acc x) l := rfl
    have hx : x ∉ acc := fun z => (List.nodup_append.mp h).2.2 x z x List.mem_cons_self rfl
    rw [e, addK, if_neg hx, dd_nodup (by simpa using h)]
    simp
theorem dd_len : ∀ (l acc : List Str), acc.length ≤ (dd acc l).length ∧ (dd acc l).length ≤ acc.length + l.length
  | [], acc => ⟨Nat.le_refl _, Nat.le_refl _⟩
  | x :: l, acc => by
    have e : dd acc (x :: l) = dd (addK acc x) l := rfl
    have h := dd_len l (addK acc x)
    have h1 := addK_len acc x
    have h2 : acc.length ≤ (addK acc x).length := by unfold addK; split <;> simp
    rw [e, List.length_cons]
    omega
theorem dd_full : ∀ {l acc : List Str}, acc.Nodup → (dd acc l).length = acc.length + l.length → (acc ++ l).Nodup
  | [], acc, h, _ => by simpa using h
  | x :: l, acc, h, e => by
    have e1 : dd acc (x :: l) = dd (addK acc x) l := rfl
    rw [e1, List.length_cons] at e
    have h1 := dd_len l (addK acc x)
    by_cases hx : x ∈ acc
    · rw [addK, if_pos hx] at h1 e
      omega
    · have := dd_full (l := l) (nodup_addK (x := x) h)
      rw [addK, if_neg hx] at this e
      have := this (by simp at e ⊢; omega)
      simpa using this
/-- as names are taken together: the same of all and of the first ones -/
theorem dd_map (f : Str → Str) : ∀ (l a b : List Str), (∀ x ∈ a, f x ∈ b) → dd b (l.map f) = dd b ((dd a l).drop a.length |>.map f)
  | [], a, b, h => by simp [dd]
  | x :: l, a, b, h => by
    have e1 : dd b ((x :: l).map f) = dd (addK b (f x)) (l.map f) := rfl
    have e2 : dd a (x :: l) = dd (addK a x) l := rfl
    rw [e1, e2]
    by_cases hx : x ∈ a
    · have hb : f x ∈ b := h x hx
      rw [addK, if_pos hb, addK, if_pos hx]
      exact dd_map f l a b h
    · rw [show addK a x = a ++ [x] by rw [addK, if_neg hx]]
      have ih := dd_map f l (a ++ [x]) (addK b (f x)) fun y hy => by
        rcases List.mem_append.mp hy with hy | hy
        · have := h y hy
          unfold addK; split; exact this; exact List.mem_append_left _ this
        · rw [List.mem_singleton.mp hy]
          unfold addK; split; assumption; simp
      rw [ih]
      have pre : ∃ r, dd (a ++ [x]) l = (a ++ [x]) ++ r := by
        clear ih e1 e2
        generalize a ++ [x] = c
        induction l generalizing c with
        | nil => exact ⟨[], by simp [dd]⟩
        | cons y l ih =>
          obtain ⟨r, hr⟩ := ih (addK c y)
          have : dd c (y :: l) = dd (addK c y) l := rfl
          rw [this, hr]
          unfold addK
          split
          · exact ⟨r, rfl⟩
          · exact ⟨y :: r, by simp⟩
      obtain ⟨r, hr⟩ := pre
      rw [hr]
      have d1 : ((a ++ [x]) ++ r).drop (a ++ [x]).length = r := List.drop_left
      have d2 : ((a ++ [x]) ++ r).drop a.length = x :: r := by rw [List.append_assoc, List.drop_left]; rfl
      rw [d1, d2]
      rfl
theorem vars_bnd (f : Str → Str) (t : Tm) : (t.bnd fun x => .v (f x)).vars = dd [] (t.vars.map f) := by
  have e := dd_map f t.occ [] [] nofun
  rw [vars_dd, vars_dd, show (t.bnd fun x => Tm.v (f x)).occ = t.occ.map f from occ_bnd f t]
  simpa using e
mutual
theorem bnd_congr {σ τ : Str → Tm} : ∀ t : Tm, (∀ x ∈ t.subs.filterMap varO, σ x = τ x) → t.bnd σ = t.bnd τ
  | .v x, h => h x (by simp [Tm.subs, varO])
  | .f n ts, h => by
    rw [Tm.bnd, Tm.bnd, bndL_congr ts fun x hx => h x (by rw [Tm.subs]; simpa [varO] using hx)]
theorem bndL_congr {σ τ : Str → Tm} : ∀ ts : List Tm, (∀ x ∈ (subss ts).filterMap varO, σ x = τ x) → bndL σ ts = bndL τ ts
  | [], _ => rfl
  | t :: ts, h => by
    rw [subss, List.filterMap_append] at h
    rw [bndL, bndL, bnd_congr t fun x hx => h x (List.mem_append_left _ hx), bndL_congr ts fun x hx => h x (List.mem_append_right _ hx)]
end
mutual
theorem bnd_inj {σ τ : Str → Tm} : ∀ t : Tm, t.bnd σ = t.bnd τ → ∀ x ∈ t.subs.filterMap varO, σ x = τ x
  | .v x, h, y, hy => by
    have e : y = x := by simpa [Tm.subs, varO] using hy
    rw [e]
    exact h
  | .f n ts, h, y, hy => by
    rw [Tm.bnd, Tm.bnd] at h
    rw [Tm.subs] at hy
    exact bndL_inj ts (Tm.f.inj h).2 y (by simpa [varO] using hy)
theorem bndL_inj {σ τ : Str → Tm} : ∀ ts : List Tm, bndL σ ts = bndL τ ts → ∀ x ∈ (subss ts).filterMap varO, σ x = τ x
  | [], _, y, hy => by cases hy
  | t :: ts, h, y, hy => by
    rw [bndL, bndL] at h
    have h2 := List.cons.inj h
    rw [subss, List.filterMap_append] at hy
    rcases List.mem_append.mp hy with hy | hy
    · exact bnd_inj t h2.1 y hy
    · exact bndL_inj ts h2.2 y hy
end
mutual
theorem bnd_bnd {σ τ : Str → Tm} : ∀ t : Tm, (t.bnd σ).bnd τ = t.bnd fun x => (σ x).bnd τ
  | .v x => rfl
  | .f n ts => by rw [Tm.bnd, Tm.bnd, Tm.bnd, bndL_bnd ts]
theorem bndL_bnd {σ τ : Str → Tm} : ∀ ts : List Tm, bndL τ (bndL σ ts) = bndL (fun x => (σ x).bnd τ) ts
  | [] => rfl
  | t :: ts => by rw [bndL, bndL, bndL, bnd_bnd t, bndL_bnd ts]
end
theorem mem_vars_iff {t : Tm} {x : Str} : x ∈ t.vars ↔ x ∈ t.subs.filterMap varO := by
  rw [vars_dd, mem_dd]
  simp [Tm.occ]
theorem nodup_vars (t : Tm) : t.vars.Nodup := by rw [vars_dd]; exact nodup_dd (by simp)
mutual
theorem bnd_sz (f : Str → Str) : ∀ t : Tm, (t.bnd fun x => .v (f x)).sz = t.sz ∧ (t.bnd fun x => .v (f x)).dp = t.dp
  | .v x => ⟨rfl, rfl⟩
  | .f n ts => by
    have := bndL_sz f ts
    rw [Tm.bnd, Tm.sz, Tm.sz, Tm.dp, Tm.dp, this.1, this.2]
    exact ⟨rfl, rfl⟩
theorem bndL_sz (f : Str → Str) : ∀ ts : List Tm, szs (bndL (fun x => .v (f x)) ts) = szs ts ∧ dps (bndL (fun x => .v (f x)) ts) = dps ts
  | [] => ⟨rfl, rfl⟩
  | t :: ts => by
    have a := bnd_sz f t
    have b := bndL_sz f ts
    rw [bndL, szs, szs, dps, dps, a.1, a.2, b.1, b.2]
    exact ⟨rfl, rfl⟩
end
mutual
theorem bnd_okB (σ : Str → Tm) : ∀ t : Tm, t.okB = true → (∀ x ∈ t.subs.filterMap varO, (σ x).okB = true) → (t.bnd σ).okB = true
  | .v x, _, h => h x (by simp [Tm.subs, varO])
  | .f n ts, ht, h => by
    rw [Tm.okB, Bool.and_eq_true] at ht
    rw [Tm.bnd, Tm.okB, ht.1, bndL_okB σ ts ht.2 fun x hx => h x (by rw [Tm.subs]; simpa [varO] using hx)]
    rfl
theorem bndL_okB (σ : Str → Tm) : ∀ ts : List Tm, okBs ts = true → (∀ x ∈ (subss ts).filterMap varO, (σ x).okB = true) → okBs (bndL σ ts) = true
  | [], _, _ => rfl
  | t :: ts, ht, h => by
    rw [okBs, Bool.and_eq_true] at ht
    rw [subss, List.filterMap_append] at h
    rw [bndL, okBs, bnd_okB σ t ht.1 fun x hx => h x (List.mem_append_left _ hx), bndL_okB σ ts ht.2 fun x hx => h x (List.mem_append_right _ hx)]
    rfl
end
/-! ### substitutions that are made one by one -/
/-- the names of a list with what g gives for their places -/
def zipG (g : Nat → Str → Tm) : Nat → List Str → List (Str × Tm)
  | _, [] => []
  | i, x :: xs => (x, g i x) :: zipG g (i + 1) xs
theorem zipG_keys (g : Nat → Str → Tm) : ∀ (xs : List Str) (i : Nat), (zipG g i xs).map (·.1) = xs
  | [], _ => rfl
  | x :: xs, i => by rw [zipG, List.map_cons, zipG_keys g xs]
theorem py_inj {t u : Tm} (h : t.py = u.py) : t = u := by
  have a := eqv_tm t u
  rw [h, eqv_tm u u] at a
  simp only [decide_true] at a
  exact of_decide_eq_true a.symm
theorem get_upd (s : Sb) (x y : Str) (t : Tm) : (s.upd x t).get y = if x = y then some t else s.get y := by
  have h := getP_put (sbP s) (.str x) t.py (.str y)
  rw [putP_sb, getP_sb, getP_sb] at h
  have inj : ∀ a b : Option Tm, a.map Tm.py = b.map Tm.py → a = b := fun a b e => by
    cases a <;> cases b <;> simp at e ⊢
    exact py_inj e
  apply inj
  rw [h]
  by_cases e : x = y
  · subst e; simp
  · have : ¬ Py.str x = Py.str y := fun z => e (Py.str.inj z)
    simp [e, this]
def Sb.merge (s : Sb) (l : List (Str × Tm)) : Sb := l.foldl (fun s p => s.upd p.1 p.2) s
theorem putsP_sb {α : Type} (k : α → Str) (v : α → Tm) : ∀ (l : List α) (s : Sb), putsP (fun a => .str (k a)) (fun a => (v a).py) (sbP s) l = sbP (s.merge (l.map fun a => (k a, v a)))
  | [], s => rfl
  | a :: l, s => by
    have e : putsP (fun a => .str (k a)) (fun a => (v a).py) (sbP s) (a :: l) = putsP (fun a => .str (k a)) (fun a => (v a).py) (putP (sbP s) (.str (k a)) (v a).py) l := rfl
    rw [e, putP_sb, putsP_sb k v l]
    rfl
theorem mergeP_sb : ∀ (l : List (Str × Tm)) (s : Sb), mergeP (sbP s) (l.map fun p => (Sum.inr p.1, p.2.py)) = sbP (s.merge l)
  | [], s => rfl
  | p :: l, s => by
    have e : mergeP (sbP s) ((p :: l).map fun p => (Sum.inr p.1, p.2.py)) = mergeP (putP (sbP s) (.str p.1) p.2.py) (l.map fun p => (Sum.inr p.1, p.2.py)) := rfl
    rw [e, putP_sb, mergeP_sb l]
    rfl
theorem pairs_ok : ∀ l : List (Str × Tm), allM pairK (l.map fun p => Py.tup [.str p.1, p.2.py]) = some (l.map fun p => (Sum.inr p.1, p.2.py))
  | [] => rfl
  | p :: l => by
    have h := pairs_ok l
    have e : pairK (Py.tup [.str p.1, p.2.py]) = some (Sum.inr p.1, p.2.py) := rfl
    simp only [List.map_cons, allM, e, h]
theorem dictS_pairs {w : Sv} (l : List (Str × Tm)) (h : listS w = some (l.map fun p => Py.tup [.str p.1, p.2.py])) : dictS w = some (.dic (sbP (Sb.merge [] l))) := by
  have e : dictS w = (listS w).bind fun ds => (allM pairK ds).map fun ps => .dic (mergeP [] ps) := by
    unfold dictS
    cases w with
    | val d => cases d <;> first | rfl | cases h
    | lst ds => rfl
    | _ => cases h
  rw [e, h]
  simp only [Option.bind_some, pairs_ok, Option.map_some]
  rw [← mergeP_sb l []]
  rfl
theorem get_merge : ∀ (l : List (Str × Tm)) (s : Sb) (y : Str), (l.map (·.1)).Nodup → (s.merge l).get y = (Sb.get l y).or (s.get y)
  | [], s, y, _ => rfl
  | p :: l, s, y, h => by
    rw [List.map_cons, List.nodup_cons] at h
    have e : s.merge (p :: l) = (s.upd p.1 p.2).merge l := rfl
    have e2 : Sb.get (p :: l) y = if p.1 = y then some p.2 else Sb.get l y := by
      unfold Sb.get
      rw [List.find?_cons]
      by_cases hy : p.1 = y <;> simp [hy]
    rw [e, get_merge l _ y h.2, get_upd, e2]
    by_cases hy : p.1 = y
    · rw [if_pos hy, if_pos hy]
      cases hq : Sb.get l y with
      | none => rfl
      | some u =>
        have := Sb.get_mem hq
        exact absurd (by rw [hy]; exact List.mem_map_of_mem this) h.1
    · rw [if_neg hy, if_neg hy]
theorem get_zip : ∀ (xs : List Str) (g : Nat → Str → Tm) (i k : Nat) (x : Str), xs.Nodup → xs[k]? = some x → Sb.get (zipG g i xs) x = some (g (i + k) x)
  | [], g, i, k, x, _, h => by simp at h
  | y :: xs, g, i, k, x, hn, h => by
    rw [List.nodup_cons] at hn
    unfold Sb.get zipG
    rw [List.find?_cons]
    cases k with
    | zero =>
      cases h
      simp
    | succ k =>
      have h' : xs[k]? = some x := by simpa using h
      have hne : ¬ y = x := fun z => hn.1 (by rw [z]; exact List.mem_of_getElem? h')
      have ih := get_zip xs g (i + 1) k x hn.2 h'
      unfold Sb.get at ih
      simp only [hne, decide_false]
      rw [ih]
      congr 2
      omega
end DM

/-! ## DM6 -/
namespace DM
open PySem L2 DL
variable [Tb]
/-! ### what is handed back to data -/
@[simp] theorem giveA_v1 (a : Py) (o : List (Option Sv)) (st : DS) : giveA [.v a] o st = st := by
  rcases o with _ | ⟨_ | _, _ | _⟩ <;> rfl
@[simp] theorem giveA_v2 (a b : Py) (o : List (Option Sv)) (st : DS) : giveA [.v a, .v b] o st = st := by
  rcases o with _ | ⟨_ | _, o⟩
  · rfl
  · exact giveA_v1 b o st
  · exact giveA_v1 b o st
@[simp] theorem giveA_v3 (a b c : Py) (o : List (Option Sv)) (st : DS) : giveA [.v a, .v b, .v c] o st = st := by
  rcases o with _ | ⟨_ | _, o⟩
  · rfl
  · exact giveA_v2 b c o st
  · exact giveA_v2 b c o st
@[simp] theorem giveA_v4 (a b c d : Py) (o : List (Option Sv)) (st : DS) : giveA [.v a, .v b, .v c, .v d] o st = st := by
  rcases o with _ | ⟨_ | _, o⟩
  · rfl
  · exact giveA_v3 b c d o st
  · exact giveA_v3 b c d o st
@[simp] theorem isNonS_d (k : List (Py × Py)) : isNonS (.dic k) = false := rfl
@[simp] theorem isNonS_l (k : List Py) : isNonS (.lst k) = false := rfl
@[simp] theorem isNonS_tm (t : Tm) : isNonS (.val t.py) = false := by cases t <;> simp [py_v, py_f, isNonS]
/-! ### positions, inner ones first -/
mutual
def Tm.ord : Tm → List (List Nat)
  | .v _ => [[]]
  | .f _ ts => ords 0 ts ++ [[]]
def ords (i : Nat) : List Tm → List (List Nat)
  | [] => []
  | t :: ts => t.ord.map (i :: ·) ++ ords (i + 1) ts
end
theorem ord_eq (t : Tm) : t.ord = ords 0 t.kids ++ [[]] := by cases t <;> rfl
mutual
theorem ord_len : ∀ t : Tm, t.ord.length = t.sz
  | .v x => rfl
  | .f n ts => by rw [Tm.ord, Tm.sz, List.length_append, ords_len ts 0, Nat.add_comm]; rfl
theorem ords_len : ∀ (ts : List Tm) (i : Nat), (ords i ts).length = szs ts
  | [], i => rfl
  | t :: ts, i => by rw [ords, szs, List.length_append, List.length_map, ord_len t, ords_len ts (i + 1)]
end
mutual
theorem ord_pl : ∀ (t : Tm) (p : List Nat), p ∈ t.ord → p ∈ t.pl
  | .v x, p, h => h
  | .f n ts, p, h => by
    rw [Tm.ord, List.mem_append, List.mem_singleton] at h
    rw [Tm.pl, List.mem_cons]
    rcases h with h | h
    · exact .inr (ords_pl ts 0 p h)
    · exact .inl h
theorem ords_pl : ∀ (ts : List Tm) (i : Nat) (p : List Nat), p ∈ ords i ts → p ∈ pls i ts
  | [], i, p, h => h
  | t :: ts, i, p, h => by
    rw [ords, List.mem_append, List.mem_map] at h
    rw [pls, List.mem_append, List.mem_map]
    rcases h with ⟨q, hq, e⟩ | h
    · exact .inl ⟨q, ord_pl t q hq, e⟩
    · exact .inr (ords_pl ts (i + 1) p h)
end
theorem pl_some {t : Tm} {p : List Nat} (h : p ∈ t.pl) : ∃ u, u ∈ t.subs ∧ t.at_ (natI p) = some u := by
  have h1 : t.at_ (natI p) ∈ t.pl.map fun p => t.at_ (natI p) := List.mem_map.mpr ⟨p, h, rfl⟩
  rw [pl_at t] at h1
  obtain ⟨u, hu, e⟩ := List.mem_map.mp h1
  exact ⟨u, hu, e.symm⟩
theorem natI_len (p : List Nat) : (natI p).length = p.length := by unfold natI; rw [List.length_map]
def triP (q : (List Nat × Tm) × Bool) : Py := .tup [plP q.1.1, q.1.2.py, .bl q.2]
def ordC (q : (List Nat × Tm) × Bool) : List (List Nat) := if q.2 then [q.1.1] else q.1.2.ord.map (q.1.1 ++ ·)
def ordL (L : List ((List Nat × Tm) × Bool)) : List (List Nat) := L.flatMap ordC
def wgt (q : (List Nat × Tm) × Bool) : Nat := if q.2 then 1 else 2 * q.1.2.sz
def wgts : List ((List Nat × Tm) × Bool) → Nat
  | [] => 0
  | q :: L => wgt q + wgts L
theorem wgts_append : ∀ (a b : List ((List Nat × Tm) × Bool)), wgts (a ++ b) = wgts a + wgts b
  | [], b => by simp [wgts]
  | q :: a, b => by rw [List.cons_append, wgts, wgts, wgts_append a b, Nat.add_assoc]
def kidO (p : List Nat) (ts : List Tm) : List ((List Nat × Tm) × Bool) := (kidP p 0 ts).map fun q => (q, false)
theorem kidO_w (p : List Nat) : ∀ (ts : List Tm) (i : Nat), wgts ((kidP p i ts).map fun q => (q, false)) = 2 * szs ts
  | [], i => rfl
  | t :: ts, i => by rw [kidP, List.map_cons, wgts, kidO_w p ts (i + 1), szs, wgt]; simp; omega
theorem kidO_ord (p : List Nat) : ∀ (ts : List Tm) (i : Nat), ordL ((kidP p i ts).map fun q => (q, false)) = (ords i ts).map (p ++ ·)
  | [], i => rfl
  | t :: ts, i => by
    have ih := kidO_ord p ts (i + 1)
    unfold ordL at ih ⊢
    rw [kidP, List.map_cons, List.flatMap_cons, ih, ords, List.map_append, List.map_map]
    congr 1
    unfold ordC
    simp only [Bool.false_eq_true, if_false]
    apply List.map_congr_left
    intro q _
    simp
theorem wgts_len : ∀ L : List ((List Nat × Tm) × Bool), L.length ≤ wgts L
  | [] => Nat.le_refl _
  | q :: L => by
    have := wgts_len L
    have h2 : 1 ≤ wgt q := by unfold wgt; have := sz_eq q.1.2; split <;> omega
    rw [List.length_cons, wgts]
    omega
theorem ordL_len : ∀ L : List ((List Nat × Tm) × Bool), (ordL L).length ≤ wgts L
  | [] => Nat.le_refl _
  | q :: L => by
    have ih := ordL_len L
    unfold ordL at ih ⊢
    rw [List.flatMap_cons, List.length_append, wgts]
    have h2 : (ordC q).length ≤ wgt q := by
      unfold ordC wgt
      split
      · exact Nat.le_refl _
      · rw [List.length_map, ord_len]; omega
    omega
/-! ### rewriting -/
abbrev Rls := List (Tm × Tm)
structure RlOk (r : Tm × Tm) : Prop where
  nv : r.1.isV = false
  lo : r.1.okB = true
  ro : r.2.okB = true
  ls : r.1.sz ≤ 40
  rs : r.2.sz ≤ 40
  ld : r.1.dp ≤ 9
  rd : r.2.dp ≤ 9
structure SyOk (sy : Rls) : Prop where
  len : sy.length ≤ 20
  ok : ∀ r ∈ sy, RlOk r
def syP (sy : Rls) : Py := .tup (sy.map prP)
structure NowOk (t : Tm) : Prop where
  ok : t.okB = true
  sz : t.sz ≤ 400
  dp : t.dp ≤ 60
def Tm.fits (u : Tm) : Prop := u.sz ≤ 400 ∧ u.dp ≤ 40
instance (u : Tm) : Decidable u.fits := by unfold Tm.fits; exact inferInstance
/-- the first rule from k on that matches u, the part of t at p -/
noncomputable def rwK (t : Tm) (p : List Nat) (u : Tm) : Nat → Rls → Option (Nat × Tm)
  | _, [] => none
  | k, r :: rs => match mtc r.1 u [] with
    | some s => some (k, t.put_ (natI p) (r.2.sub s))
    | none => rwK t p u (k + 1) rs
abbrev Stp := List Nat × Nat
noncomputable def rwP (sy : Rls) (t : Tm) : List (List Nat) → Option (Stp × Tm)
  | [] => none
  | p :: ps => match t.at_ (natI p) with
    | none => rwP sy t ps
    | some u => match rwK t p u 0 sy with
      | some (k, v) => some ((p, k), v)
      | none => rwP sy t ps
noncomputable def fstR (sy : Rls) (t : Tm) : Option (Stp × Tm) := rwP sy t t.ord
noncomputable def nrm (sy : Rls) : Nat → Tm → Option (Tm × List Stp)
  | 0, t => match fstR sy t with
    | none => some (t, [])
    | some _ => none
  | m + 1, t => match fstR sy t with
    | none => some (t, [])
    | some (s, u) => if u.fits then (nrm sy m u).map fun r => (r.1, s :: r.2) else none
def stpP (s : Stp) : Py := .tup [plP s.1, .int s.2]
def endN (o : Option (Tm × List Stp)) : Sv := match o with
  | some r => .val (.tup [r.1.py, .tup (r.2.map stpP)])
  | none => .val .non
mutual
theorem subs_ok : ∀ (t : Tm), t.okB = true → ∀ u ∈ t.subs, u.okB = true ∧ u.sz ≤ t.sz ∧ u.dp ≤ t.dp
  | .v x, h, u, hu => by
    rw [Tm.subs, List.mem_singleton] at hu
    subst hu
    exact ⟨h, Nat.le_refl _, Nat.le_refl _⟩
  | .f n ts, h, u, hu => by
    rw [Tm.subs, List.mem_cons] at hu
    rw [Tm.okB, Bool.and_eq_true] at h
    rcases hu with rfl | hu
    · exact ⟨by rw [Tm.okB, Bool.and_eq_true]; exact h, Nat.le_refl _, Nat.le_refl _⟩
    · obtain ⟨a, b, c⟩ := subss_ok ts h.2 u hu
      exact ⟨a, by rw [Tm.sz]; omega, by rw [Tm.dp]; omega⟩
theorem subss_ok : ∀ (ts : List Tm), okBs ts = true → ∀ u ∈ subss ts, u.okB = true ∧ u.sz ≤ szs ts ∧ u.dp ≤ dps ts
  | [], _, u, hu => by cases hu
  | t :: ts, h, u, hu => by
    rw [okBs, Bool.and_eq_true] at h
    rw [subss, List.mem_append] at hu
    rw [szs, dps]
    rcases hu with hu | hu
    · obtain ⟨a, b, c⟩ := subs_ok t h.1 u hu
      exact ⟨a, by omega, by omega⟩
    · obtain ⟨a, b, c⟩ := subss_ok ts h.2 u hu
      exact ⟨a, by omega, by omega⟩
end
theorem NowOk.at {t u : Tm} (h : NowOk t) {p : List Nat} (hp : p ∈ t.pl) (e : t.at_ (natI p) = some u) : u.okB = true ∧ u.sz ≤ 400 ∧ u.dp ≤ 60 := by
  obtain ⟨v, hv, e2⟩ := pl_some hp
  rw [e] at e2
  cases e2
  obtain ⟨a, b, c⟩ := subs_ok t h.ok u hv
  exact ⟨a, Nat.le_trans b h.sz, Nat.le_trans c h.dp⟩
/-- what a match gives -/
structure SbFit (s : Sb) : Prop where
  ok : ∀ q ∈ s, q.2.okB = true
  sz : ∀ q ∈ s, q.2.sz ≤ 400
  dp : ∀ q ∈ s, q.2.dp ≤ 60
theorem mtc_fit {l u : Tm} {s : Sb} (hu : u.okB = true ∧ u.sz ≤ 400 ∧ u.dp ≤ 60) (h : mtc l u [] = some s) : SbFit s := by
  rw [lm_mt] at h
  have key := lm_mem (P := fun v => v.okB = true ∧ v.sz ≤ 400 ∧ v.dp ≤ 60) (fun n ts h t ht => by
    obtain ⟨h1, h2, h3⟩ := h
    rw [Tm.okB, Bool.and_eq_true] at h1
    have hk := kids_le (n := n) ht
    rw [Tm.sz] at h2
    rw [Tm.dp] at h3
    exact ⟨okBs_mem h1.2 t ht, by omega, by omega⟩) l u [] hu nofun
  rcases e : lm l u [] with ⟨b, s'⟩
  rw [e] at h key
  cases b with
  | false => cases h
  | true =>
    cases h
    exact ⟨fun q hq => (key q hq).1, fun q hq => (key q hq).2.1, fun q hq => (key q hq).2.2⟩
theorem rwK_mem {t u : Tm} {p : List Nat} : ∀ (rs : Rls) (k : Nat) (x : Nat × Tm), rwK t p u k rs = some x → ∃ r ∈ rs, ∃ s, mtc r.1 u [] = some s ∧ x.2 = t.put_ (natI p) (r.2.sub s)
  | [], k, x, h => by cases h
  | r :: rs, k, x, h => by
    rw [rwK] at h
    cases e : mtc r.1 u [] with
    | some s =>
      rw [e] at h
      cases h
      exact ⟨r, List.mem_cons_self, s, e, rfl⟩
    | none =>
      rw [e] at h
      obtain ⟨r', hr, q⟩ := rwK_mem rs (k + 1) x h
      exact ⟨r', List.mem_cons_of_mem _ hr, q⟩
theorem rwP_mem {sy : Rls} {t : Tm} : ∀ (ps : List (List Nat)) (x : Stp × Tm), rwP sy t ps = some x → ∃ p ∈ ps, ∃ u, t.at_ (natI p) = some u ∧ ∃ r ∈ sy, ∃ s, mtc r.1 u [] = some s ∧ x.1.1 = p ∧ x.2 = t.put_ (natI p) (r.2.sub s)
  | [], x, h => by cases h
  | p :: ps, x, h => by
    rw [rwP] at h
    have rec1 : rwP sy t ps = some x → ∃ p' ∈ p :: ps, ∃ u, t.at_ (natI p') = some u ∧ ∃ r ∈ sy, ∃ s, mtc r.1 u [] = some s ∧ x.1.1 = p' ∧ x.2 = t.put_ (natI p') (r.2.sub s) := fun h => by
      obtain ⟨p', hp, q⟩ := rwP_mem ps x h
      exact ⟨p', List.mem_cons_of_mem _ hp, q⟩
    cases e : t.at_ (natI p) with
    | none => rw [e] at h; exact rec1 h
    | some u =>
      rw [e] at h
      simp only at h
      cases e2 : rwK t p u 0 sy with
      | none => rw [e2] at h; exact rec1 h
      | some y =>
        rw [e2] at h
        cases h
        obtain ⟨r, hr, s, e3, e4⟩ := rwK_mem _ _ _ e2
        exact ⟨p, List.mem_cons_self, u, e, r, hr, s, e3, rfl, e4⟩
theorem fstR_now {sy : Rls} {t : Tm} (hs : SyOk sy) (h : NowOk t) {x : Stp × Tm} (e : fstR sy t = some x) : x.2.okB = true ∧ x.2.sz ≤ 17000 ∧ x.2.dp ≤ 140 ∧ x.1.1.length ≤ 60 := by
  obtain ⟨p, hp, u, e1, r, hr, s, e2, e3, e4⟩ := rwP_mem _ _ e
  have hpl := ord_pl t p hp
  have hu := h.at hpl e1
  have f := mtc_fit hu e2
  have ro := hs.ok r hr
  have a1 := sub_sz (s := s) (by decide : 1 ≤ 400) f.sz r.2
  have a2 := sub_dp (s := s) (k := 59) (fun q hq => f.dp q hq) r.2
  have a3 := put_sz (r.2.sub s) (natI p) t
  have h1 := ro.rs
  have h2 := ro.rd
  have h3 := h.sz
  have h4 := h.dp
  have h5 := pl_lt t p hpl
  have h6 : (r.2.sub s).sz ≤ 40 * 400 := Nat.le_trans a1 (by omega)
  refine ⟨?_, ?_, ?_, ?_⟩
  · rw [e4]; exact put_okB (sub_ok f.ok r.2 ro.ro) _ _ h.ok
  · rw [e4]; omega
  · rw [e4]; omega
  · rw [e3]; omega
theorem szs_mem {ts : List Tm} {i : Nat} (h : i < ts.length) (u : Tm) : szs (ts.take i) + (u.sz + szs (ts.drop (i + 1))) ≥ u.sz := by omega
theorem put_ge (s : Tm) : ∀ (p : List Int) (t : Tm), t.at_ p ≠ none → s.sz ≤ (t.put_ p s).sz ∧ s.dp ≤ (t.put_ p s).dp
  | [], t, _ => by simp [Tm.put_]
  | k :: p, t, ha => by
    rw [Tm.at_] at ha
    rw [Tm.put_]
    by_cases h : 0 ≤ k ∧ k.toNat < t.kids.length
    · rw [dif_pos h] at ha ⊢
      have ih := put_ge s p (t.kids[k.toNat]'h.2) ha
      cases t with
      | v x => simp [Tm.kids] at h
      | f n ts =>
        simp only [Tm.kids] at h ih ⊢
        rw [Tm.node, Tm.sz, Tm.dp, szs_append, dps_append, szs, dps]
        omega
    · rw [dif_neg h] at ha
      exact absurd rfl ha
theorem rwK_var {t u : Tm} {p : List Nat} (hu : u.isV = true) : ∀ (rs : Rls) (k : Nat), (∀ r ∈ rs, r.1.isV = false) → rwK t p u k rs = none
  | [], k, _ => rfl
  | r :: rs, k, h => by
    have h1 := h r List.mem_cons_self
    obtain ⟨l, rr⟩ := r
    cases u with
    | f n ts => cases hu
    | v x =>
      cases l with
      | v y => cases h1
      | f n ts =>
        rw [rwK]
        simp only [mtc]
        exact rwK_var hu rs (k + 1) fun r hr => h r (List.mem_cons_of_mem _ hr)
/-- what a search for a step ends with -/
def EndF (o : Option (Stp × Tm)) (so : SO) (P : SO → Prop) : Prop := match o with
  | none => P so
  | some x => if x.2.fits then ∃ st, so = .rt (.val (.tup [stpP x.1, x.2.py])) st else ∃ st, so = .ex ⟨"LimitError", none⟩ st
theorem EndF.loop {o : Option (Stp × Tm)} {so : SO} {f : DS → SO} {P : SO → Prop} {Q : SO → Prop} (h : EndF o so P) (k : P so → o = none → Q (loopS so f)) (k2 : ∀ x, o = some x → EndF (some x) (loopS so f) P → Q (loopS so f)) : Q (loopS so f) := by
  cases o with
  | none => exact k h rfl
  | some x =>
    refine k2 x rfl ?_
    unfold EndF at h ⊢
    simp only at h ⊢
    split at h
    · obtain ⟨st, rfl⟩ := h; rename_i q; rw [if_pos q]; exact ⟨st, rfl⟩
    · obtain ⟨st, rfl⟩ := h; rename_i q; rw [if_neg q]; exact ⟨st, rfl⟩
theorem vars_strOk {t : Tm} (h : t.okB = true) : ∀ x ∈ t.vars, PyData.strOk x = true := fun x hx => by
  obtain ⟨u, hu, e⟩ := List.mem_filterMap.mp (mem_vars_iff.mp hx)
  have := (subs_ok t h u hu).1
  cases u with
  | f n ts => cases e
  | v y => cases e; exact this
theorem vars_le (t : Tm) : t.vars.length ≤ t.sz := by
  have := colT_len varO t.subs []
  rw [subs_len] at this
  simpa [Tm.vars] using this
end DM

/-! ## DM7 -/
namespace DM
open PySem L2 DL
variable [Tb]
theorem toDs_map {α : Type} (f : α → Py) : ∀ l : List α, toDs (l.map f) = l.map fun a => toD (f a)
  | [] => rfl
  | a :: l => by rw [List.map_cons, toDs, toDs_map f l, List.map_cons]
theorem eqv_ints : ∀ p : List Int, PyData.eqvAll (p.map PyData.int) (p.map PyData.int) = true
  | [] => rfl
  | i :: p => by simp only [List.map_cons, PyData.eqvAll, PyData.eqv, eqv_ints p]; simp
theorem pl_toD (p : List Nat) : toD (plP p) = .tuple ((natI p).map PyData.int) := by
  rw [plP_eq]
  unfold plI
  rw [toD, toDs_ints]
theorem stp_lay (s : Stp) : (toD (stpP s)).canLay0 = true ∧ (toD (stpP s)).depth ≤ 2 ∧ PyData.eqv (toD (stpP s)) (toD (stpP s)) = true := by
  have h := lay_ints (natI s.1)
  have h2 := eqv_ints (natI s.1)
  unfold stpP
  simp only [toD, toDs, pl_toD, PyData.canLay0, PyData.canLayAll0, PyData.depth, PyData.depthAll, PyData.eqv, PyData.eqvAll, h, h2]
  simp
theorem stps_lay : ∀ l : List Stp, PyData.canLayAll0 (toDs (l.map stpP)) = true ∧ PyData.depthAll (toDs (l.map stpP)) ≤ 2 ∧ PyData.eqvAll (toDs (l.map stpP)) (toDs (l.map stpP)) = true
  | [] => ⟨rfl, Nat.zero_le _, rfl⟩
  | s :: l => by
    obtain ⟨a1, a2, a3⟩ := stp_lay s
    obtain ⟨b1, b2, b3⟩ := stps_lay l
    simp only [List.map_cons, toDs, PyData.canLayAll0, PyData.depthAll, PyData.eqvAll, a1, a3, b1, b3]
    simp
    omega
theorem eqS_nrm {t : Tm} (h : t.okB = true) (hd : t.dp ≤ 60) (l : List Stp) : eqS (.val (.tup [t.py, .tup (l.map stpP)])) (.val (.tup [t.py, .tup (l.map stpP)])) = some true := by
  obtain ⟨a1, a2⟩ := lay_tm t h
  have a3 := eqv_tm t t
  obtain ⟨b1, b2, b3⟩ := stps_lay l
  have hs : shap (toDS (.val (.tup [t.py, .tup (l.map stpP)]))) = true := by
    unfold shap
    simp only [toDS, toD, toDs, PyData.canLay0, PyData.canLayAll0, PyData.depth, PyData.depthAll, a1, b1]
    simp
    omega
  show (if shap (toDS (.val (.tup [t.py, .tup (l.map stpP)]))) = true ∧ shap (toDS (.val (.tup [t.py, .tup (l.map stpP)]))) = true then some (PyData.eqv (toDS (.val (.tup [t.py, .tup (l.map stpP)]))) (toDS (.val (.tup [t.py, .tup (l.map stpP)])))) else none) = _
  rw [if_pos ⟨hs, hs⟩]
  simp only [toDS, toD, toDs, PyData.eqv, PyData.eqvAll, a3, b3]
  simp
mutual
theorem pl_deep : ∀ t : Tm, ∃ p ∈ t.pl, p.length + 1 = t.dp
  | .v x => ⟨[], by simp [Tm.pl], rfl⟩
  | .f n ts => by
    rw [Tm.pl, Tm.dp]
    by_cases h : ts = []
    · subst h; exact ⟨[], List.mem_cons_self, rfl⟩
    · obtain ⟨p, hp, e⟩ := pls_deep ts 0 h
      exact ⟨p, List.mem_cons_of_mem _ hp, by omega⟩
theorem pls_deep : ∀ (ts : List Tm) (i : Nat), ts ≠ [] → ∃ p ∈ pls i ts, p.length = dps ts
  | [], i, h => absurd rfl h
  | t :: ts, i, _ => by
    rw [pls, dps]
    obtain ⟨p, hp, e⟩ := pl_deep t
    by_cases h : ts = []
    · subst h
      exact ⟨i :: p, List.mem_append.mpr (.inl (List.mem_map.mpr ⟨p, hp, rfl⟩)), by simp [dps]; omega⟩
    · obtain ⟨q, hq, e2⟩ := pls_deep ts (i + 1) h
      by_cases hm : dps ts ≤ t.dp
      · exact ⟨i :: p, List.mem_append.mpr (.inl (List.mem_map.mpr ⟨p, hp, rfl⟩)), by simp; omega⟩
      · exact ⟨q, List.mem_append.mpr (.inr hq), by omega⟩
end
theorem allM_nat : ∀ l : List Int, allM asInt (l.map Py.int) = some l
  | [] => rfl
  | b :: bs => by
    have := allM_nat bs
    simp only [List.map_cons, allM, asInt, this]
theorem maxS_pl (t : Tm) : maxS (.lst (t.pl.map fun p => Py.int (p.length : Int))) = some (.int ((t.dp : Int) - 1)) := by
  unfold maxS
  have e : (t.pl.map fun p => Py.int (p.length : Int)) = (t.pl.map fun p => (p.length : Int)).map Py.int := by rw [List.map_map]; rfl
  simp only [listS, Option.bind_some, e, allM_nat]
  have hm : (t.pl.map fun p => (p.length : Int)).max? = some ((t.dp : Int) - 1) := by
    rw [List.max?_eq_some_iff]
    constructor
    · obtain ⟨p, hp, e⟩ := pl_deep t
      exact List.mem_map.mpr ⟨p, hp, by omega⟩
    · intro b hb
      obtain ⟨p, hp, rfl⟩ := List.mem_map.mp hb
      have := pl_lt t p hp
      omega
  rw [hm]
  rfl
end DM

/-! ## DM8 -/
namespace DM
open PySem L2 DL
variable [Tb]
/-! ### all steps -/
noncomputable def rwsK (t : Tm) (p : List Nat) (u : Tm) : Nat → Rls → List (Stp × Tm)
  | _, [] => []
  | k, r :: rs => match mtc r.1 u [] with
    | some s => ((p, k), t.put_ (natI p) (r.2.sub s)) :: rwsK t p u (k + 1) rs
    | none => rwsK t p u (k + 1) rs
noncomputable def rwsU (sy : Rls) (t : Tm) (p : List Nat) : List (Stp × Tm) := match t.at_ (natI p) with
  | some u => rwsK t p u 0 sy
  | none => []
noncomputable def rwsP (sy : Rls) (t : Tm) : List (List Nat) → List (Stp × Tm)
  | [] => []
  | p :: ps => rwsU sy t p ++ rwsP sy t ps
noncomputable def allR (sy : Rls) (t : Tm) : List (Stp × Tm) := rwsP sy t t.pl
def rowP (x : Stp × Tm) : Py := .tup [stpP x.1, x.2.py]
noncomputable def stepR (t : Tm) (p : List Int) (u : Tm) (r : Tm × Tm) : Option Tm := (mtc r.1 u []).map fun s => t.put_ p (r.2.sub s)
noncomputable def stepAt (sy : Rls) (t : Tm) (p : List Int) (n : Int) : Option Tm :=
  if 0 ≤ n then (sy[n.toNat]?).bind fun r => (t.at_ p).bind fun u => stepR t p u r else none
noncomputable def stepS (sy : Rls) (t : Tm) (s : Stp) : Option Tm := stepAt sy t (natI s.1) s.2
noncomputable def ledR (sy : Rls) : Tm → List Stp → Option Tm
  | t, [] => some t
  | t, s :: ss => (stepS sy t s).bind fun u => ledR sy u ss
def hit (p : List Int) (n : Int) (x : Stp × Tm) : Bool := decide (natI x.1.1 = p ∧ (x.1.2 : Int) = n)
theorem rwsK_len {t u : Tm} {p : List Nat} : ∀ (rs : Rls) (k : Nat), (rwsK t p u k rs).length ≤ rs.length
  | [], k => Nat.le_refl _
  | r :: rs, k => by
    have := rwsK_len (t := t) (u := u) (p := p) rs (k + 1)
    rw [rwsK]
    split
    · simp; omega
    · simp; omega
theorem rwsU_len {sy : Rls} {t : Tm} {p : List Nat} : (rwsU sy t p).length ≤ sy.length := by
  unfold rwsU
  split
  · exact rwsK_len _ _
  · simp
theorem rwsP_len {sy : Rls} {t : Tm} : ∀ ps : List (List Nat), (rwsP sy t ps).length ≤ ps.length * sy.length
  | [] => by simp [rwsP]
  | p :: ps => by
    have := rwsP_len (sy := sy) (t := t) ps
    have h := rwsU_len (sy := sy) (t := t) (p := p)
    rw [rwsP, List.length_append, List.length_cons, Nat.add_mul]
    omega
theorem rwsK_hit {t u : Tm} {q : List Nat} {p : List Int} {n : Int} (hq : natI q = p) : ∀ (rs : Rls) (k : Nat), ((rwsK t q u k rs).filter (hit p n)).map (·.2) = (if (k : Int) ≤ n then (rs[(n - k).toNat]?).bind (stepR t p u) else none).toList
  | [], k => by simp [rwsK]
  | r :: rs, k => by
    have ih := rwsK_hit (t := t) (u := u) (n := n) hq rs (k + 1)
    have hk1 : ((k + 1 : Nat) : Int) = (k : Int) + 1 := rfl
    rw [hk1] at ih
    rw [rwsK]
    by_cases h : (k : Int) ≤ n
    · rw [if_pos h]
      by_cases he : (k : Int) = n
      · have h0 : (n - (k : Int)).toNat = 0 := by omega
        have h2 : ¬ (k : Int) + 1 ≤ n := by omega
        rw [if_neg h2] at ih
        rw [h0]
        simp only [List.getElem?_cons_zero, Option.bind_some]
        unfold stepR
        cases e : mtc r.1 u [] with
        | none => simpa using ih
        | some s =>
          have hh : hit p n ((q, k), t.put_ p (r.2.sub s)) = true := by unfold hit; simp [hq, he]
          simp only [hq, List.filter_cons, hh, if_true, List.map_cons, ih, Option.map_some]
          rfl
      · have h2 : (k : Int) + 1 ≤ n := by omega
        have h3 : (n - (k : Int)).toNat = (n - ((k : Int) + 1)).toNat + 1 := by omega
        rw [if_pos h2] at ih
        rw [h3, List.getElem?_cons_succ, ← ih]
        split
        · rename_i s _
          have hh : hit p n ((q, k), t.put_ (natI q) (r.2.sub s)) = false := by unfold hit; simp [he]
          simp only [List.filter_cons]
          rw [hh]
          rfl
        · rfl
    · have h2 : ¬ (k : Int) + 1 ≤ n := by omega
      have he : ¬ (k : Int) = n := by omega
      rw [if_neg h2] at ih
      rw [if_neg h, ← ih]
      split
      · rename_i s _
        have hh : hit p n ((q, k), t.put_ (natI q) (r.2.sub s)) = false := by unfold hit; simp [he]
        simp only [List.filter_cons]
        rw [hh]
        rfl
      · rfl
theorem rwsK_at {t u : Tm} {q : List Nat} : ∀ (rs : Rls) (k : Nat), ∀ x ∈ rwsK t q u k rs, x.1.1 = q
  | [], k, x, h => by cases h
  | r :: rs, k, x, h => by
    rw [rwsK] at h
    split at h
    · rcases List.mem_cons.mp h with rfl | h
      · rfl
      · exact rwsK_at rs (k + 1) x h
    · exact rwsK_at rs (k + 1) x h
theorem rwsU_at {sy : Rls} {t : Tm} {q : List Nat} : ∀ x ∈ rwsU sy t q, x.1.1 = q := fun x h => by
  unfold rwsU at h
  split at h
  · exact rwsK_at _ _ x h
  · cases h
theorem rwsU_hit {sy : Rls} {t : Tm} {q : List Nat} {p : List Int} {n : Int} (hq : natI q = p) : ((rwsU sy t q).filter (hit p n)).map (·.2) = (stepAt sy t p n).toList := by
  unfold rwsU stepAt
  rw [hq]
  cases e : t.at_ p with
  | none =>
    simp only [List.filter_nil, List.map_nil, Option.bind_none]
    split
    · cases sy[n.toNat]? <;> rfl
    · rfl
  | some u =>
    simp only [Option.bind_some]
    have h := rwsK_hit (t := t) (u := u) (n := n) hq sy 0
    have h0 : ((0 : Nat) : Int) = 0 := rfl
    rw [h0, Int.sub_zero] at h
    rw [h]
theorem rwsU_miss {sy : Rls} {t : Tm} {q : List Nat} {p : List Int} {n : Int} (hq : natI q ≠ p) : (rwsU sy t q).filter (hit p n) = [] := by
  rw [List.filter_eq_nil_iff]
  intro x hx
  unfold hit
  rw [rwsU_at x hx]
  simp [hq]
theorem rwsP_miss {sy : Rls} {t : Tm} {p : List Int} {n : Int} : ∀ ps : List (List Nat), (∀ q ∈ ps, natI q ≠ p) → (rwsP sy t ps).filter (hit p n) = []
  | [], _ => rfl
  | q :: ps, h => by
    rw [rwsP, List.filter_append, rwsU_miss (h q List.mem_cons_self), rwsP_miss ps fun q' h' => h q' (List.mem_cons_of_mem _ h')]
    rfl
theorem natI_inj {p q : List Nat} (h : natI p = natI q) : p = q := by
  unfold natI at h
  exact (List.map_inj_right (fun a b e => Int.ofNat.inj e)).mp h
theorem rwsP_hit {sy : Rls} {t : Tm} {p : List Int} {n : Int} : ∀ ps : List (List Nat), ps.Nodup → (∃ q ∈ ps, natI q = p) → ((rwsP sy t ps).filter (hit p n)).map (·.2) = (stepAt sy t p n).toList
  | [], _, h => by obtain ⟨q, hq, _⟩ := h; cases hq
  | q :: ps, hn, h => by
    rw [List.nodup_cons] at hn
    rw [rwsP, List.filter_append, List.map_append]
    by_cases hq : natI q = p
    · rw [rwsU_hit hq, rwsP_miss ps fun q' h' e => hn.1 (natI_inj (hq.trans e.symm) ▸ h')]
      simp
    · rw [rwsU_miss hq, rwsP_hit ps hn.2 ?_]
      · rfl
      · obtain ⟨q', hq', e⟩ := h
        rcases List.mem_cons.mp hq' with rfl | hq'
        · exact absurd e hq
        · exact ⟨q', hq', e⟩
theorem pls_mem : ∀ (ts : List Tm) (j i : Nat) (h : i < ts.length) (q : List Nat), q ∈ ts[i].pl → (j + i) :: q ∈ pls j ts
  | t :: ts, j, 0, _, q, hq => by
    rw [pls, List.mem_append]
    exact .inl (List.mem_map.mpr ⟨q, hq, rfl⟩)
  | t :: ts, j, i + 1, h, q, hq => by
    rw [pls, List.mem_append]
    have := pls_mem ts (j + 1) i (by simpa using h) q hq
    rw [show j + (i + 1) = j + 1 + i by omega]
    exact .inr this
theorem at_pl : ∀ (p : List Int) (t u : Tm), t.at_ p = some u → ∃ q ∈ t.pl, natI q = p
  | [], t, u, _ => ⟨[], by rw [pl_eq]; exact List.mem_cons_self, rfl⟩
  | k :: p, t, u, h => by
    rw [Tm.at_] at h
    by_cases hk : 0 ≤ k ∧ k.toNat < t.kids.length
    · rw [dif_pos hk] at h
      obtain ⟨q, hq, e⟩ := at_pl p _ u h
      refine ⟨k.toNat :: q, ?_, ?_⟩
      · rw [pl_eq]
        have := pls_mem t.kids 0 k.toNat hk.2 q hq
        rw [Nat.zero_add] at this
        exact List.mem_cons_of_mem _ this
      · show ((k.toNat : Nat) : Int) :: natI q = k :: p
        rw [e]
        congr 1
        omega
    · rw [dif_neg hk] at h; cases h
theorem pls_head : ∀ (ts : List Tm) (i : Nat) (p : List Nat), p ∈ pls i ts → ∃ j q, p = j :: q ∧ i ≤ j
  | [], i, p, h => by cases h
  | t :: ts, i, p, h => by
    rw [pls, List.mem_append] at h
    rcases h with h | h
    · obtain ⟨q, _, rfl⟩ := List.mem_map.mp h
      exact ⟨i, q, rfl, Nat.le_refl _⟩
    · obtain ⟨j, q, e, hj⟩ := pls_head ts (i + 1) p h
      exact ⟨j, q, e, by omega⟩
mutual
theorem pl_nodup : ∀ t : Tm, t.pl.Nodup
  | .v x => by simp [Tm.pl]
  | .f n ts => by
    rw [Tm.pl, List.nodup_cons]
    refine ⟨fun h => ?_, pls_nodup ts 0⟩
    obtain ⟨j, q, e, _⟩ := pls_head ts 0 [] h
    cases e
theorem pls_nodup : ∀ (ts : List Tm) (i : Nat), (pls i ts).Nodup
  | [], i => by simp [pls]
  | t :: ts, i => by
    rw [pls, List.nodup_append]
    refine ⟨?_, pls_nodup ts (i + 1), fun a ha b hb e => ?_⟩
    · exact List.Pairwise.map (R := (· ≠ ·)) (S := (· ≠ ·)) _ (fun a b hne e => hne (List.cons.inj e).2) (pl_nodup t)
    · obtain ⟨q, _, rfl⟩ := List.mem_map.mp ha
      obtain ⟨j, q', e2, hj⟩ := pls_head ts (i + 1) b hb
      rw [← e] at e2
      injection e2 with h1 h2
      omega
end
/-- the results with a step -/
theorem allR_hit (sy : Rls) (t : Tm) (p : List Int) (n : Int) : ((allR sy t).filter (hit p n)).map (·.2) = (stepAt sy t p n).toList := by
  unfold allR
  by_cases h : ∃ q ∈ t.pl, natI q = p
  · exact rwsP_hit _ (pl_nodup t) h
  · have h2 : t.at_ p = none := by
      cases e : t.at_ p with
      | none => rfl
      | some u => exact absurd (at_pl p t u e) h
    rw [rwsP_miss _ fun q hq e => h ⟨q, hq, e⟩]
    unfold stepAt
    rw [h2]
    split
    · cases sy[n.toNat]? <;> rfl
    · rfl
/-- each is one -/
theorem rwsK_mem {t u : Tm} {q : List Nat} : ∀ (rs : Rls) (k : Nat), ∀ x ∈ rwsK t q u k rs, ∃ i r s, rs[i]? = some r ∧ mtc r.1 u [] = some s ∧ x = ((q, k + i), t.put_ (natI q) (r.2.sub s))
  | [], k, x, h => by cases h
  | r :: rs, k, x, h => by
    rw [rwsK] at h
    have go : x ∈ rwsK t q u (k + 1) rs → ∃ i r' s, (r :: rs)[i]? = some r' ∧ mtc r'.1 u [] = some s ∧ x = ((q, k + i), t.put_ (natI q) (r'.2.sub s)) := fun h => by
      obtain ⟨i, r', s, e1, e2, e3⟩ := rwsK_mem rs (k + 1) x h
      exact ⟨i + 1, r', s, by simpa using e1, e2, by rw [e3]; congr 2; omega⟩
    split at h
    · rename_i s e
      rcases List.mem_cons.mp h with rfl | h
      · exact ⟨0, r, s, rfl, e, rfl⟩
      · exact go h
    · exact go h
theorem rwsP_mem {sy : Rls} {t : Tm} : ∀ (ps : List (List Nat)), ∀ x ∈ rwsP sy t ps, ∃ p ∈ ps, ∃ u i r s, t.at_ (natI p) = some u ∧ sy[i]? = some r ∧ mtc r.1 u [] = some s ∧ x = ((p, i), t.put_ (natI p) (r.2.sub s))
  | [], x, h => by cases h
  | p :: ps, x, h => by
    rw [rwsP, List.mem_append] at h
    rcases h with h | h
    · unfold rwsU at h
      split at h
      · rename_i u e
        obtain ⟨i, r, s, e1, e2, e3⟩ := rwsK_mem _ _ x h
        exact ⟨p, List.mem_cons_self, u, i, r, s, e, e1, e2, by rw [e3, Nat.zero_add]⟩
      · cases h
    · obtain ⟨p', hp, q⟩ := rwsP_mem ps x h
      exact ⟨p', List.mem_cons_of_mem _ hp, q⟩
theorem put_fit {sy : Rls} (hs : SyOk sy) {t u : Tm} (h : NowOk t) {p : List Nat} (hp : p ∈ t.pl) (e1 : t.at_ (natI p) = some u) {r : Tm × Tm} (hr : r ∈ sy) {s : Sb} (e2 : mtc r.1 u [] = some s) :
    (t.put_ (natI p) (r.2.sub s)).okB = true ∧ (t.put_ (natI p) (r.2.sub s)).sz ≤ 17000 ∧ (t.put_ (natI p) (r.2.sub s)).dp ≤ 140 := by
  have hu := h.at hp e1
  have f := mtc_fit hu e2
  have ro := hs.ok r hr
  have a1 := sub_sz (s := s) (by decide : 1 ≤ 400) f.sz r.2
  have a2 := sub_dp (s := s) (k := 59) (fun q hq => f.dp q hq) r.2
  have a3 := put_sz (r.2.sub s) (natI p) t
  have h1 := ro.rs
  have h2 := ro.rd
  have h3 := h.sz
  have h4 := h.dp
  exact ⟨put_okB (sub_ok f.ok r.2 ro.ro) _ _ h.ok, by omega, by omega⟩
theorem allR_fit {sy : Rls} (hs : SyOk sy) {t : Tm} (h : NowOk t) {x : Stp × Tm} (hx : x ∈ allR sy t) : x.1.1 ∈ t.pl ∧ x.2.okB = true ∧ x.2.sz ≤ 17000 ∧ x.2.dp ≤ 140 ∧ stepS sy t x.1 = some x.2 := by
  obtain ⟨p, hp, u, i, r, s, e1, e2, e3, rfl⟩ := rwsP_mem _ x hx
  obtain ⟨a, b, c⟩ := put_fit hs h hp e1 (List.mem_of_getElem? e2) e3
  refine ⟨hp, a, b, c, ?_⟩
  unfold stepS stepAt stepR
  simp only [Int.ofNat_zero_le, if_true, Int.toNat_natCast, e2, e1, e3, Option.bind_some, Option.map_some, Int.natCast_nonneg]
theorem stepAt_fit {sy : Rls} (hs : SyOk sy) {t : Tm} (h : NowOk t) {p : List Int} {n : Int} {v : Tm} (e : stepAt sy t p n = some v) : v.okB = true ∧ v.sz ≤ 17000 ∧ v.dp ≤ 140 := by
  unfold stepAt at e
  split at e
  · obtain ⟨r, h1, e⟩ := Option.bind_eq_some_iff.mp e
    obtain ⟨u, h2, e⟩ := Option.bind_eq_some_iff.mp e
    unfold stepR at e
    obtain ⟨s, h3, e⟩ := Option.map_eq_some_iff.mp e
    obtain ⟨q, hq, rfl⟩ := at_pl p t u h2
    rw [← e]
    exact put_fit hs h hq h2 (List.mem_of_getElem? h1) h3
  · cases e
/-! ### equality of steps, rows -/
theorem eqv_intsd : ∀ p q : List Int, PyData.eqvAll (p.map PyData.int) (q.map PyData.int) = decide (p = q)
  | [], [] => by simp [PyData.eqvAll]
  | [], _ :: _ => by simp [PyData.eqvAll]
  | _ :: _, [] => by simp [PyData.eqvAll]
  | i :: p, j :: q => by
    simp only [List.map_cons, PyData.eqvAll, PyData.eqv, eqv_intsd p q]
    by_cases h : i = j <;> by_cases h2 : p = q <;> simp [h, h2]
theorem one_lay (p : List Int) (n : Int) : shap (toD (.tup [plI p, .int n])) = true := by
  have h := lay_ints p
  unfold shap plI
  simp only [toD, toDs, toDs_ints, PyData.canLay0, PyData.canLayAll0, PyData.depth, PyData.depthAll, h]
  simp
theorem eqS_one (s : Stp) (p : List Int) (n : Int) : eqS (.val (stpP s)) (.val (.tup [plI p, .int n])) = some (decide (natI s.1 = p ∧ (s.2 : Int) = n)) := by
  have h1 : shap (toDS (.val (stpP s))) = true := by
    have := one_lay (natI s.1) s.2
    rw [← plP_eq] at this
    exact this
  have h2 : shap (toDS (.val (.tup [plI p, .int n]))) = true := one_lay p n
  show (if shap (toDS (.val (stpP s))) = true ∧ shap (toDS (.val (.tup [plI p, .int n]))) = true then some (PyData.eqv (toDS (.val (stpP s))) (toDS (.val (.tup [plI p, .int n])))) else none) = _
  rw [if_pos ⟨h1, h2⟩]
  unfold stpP plI
  simp only [toDS, toD, toDs, pl_toD, toDs_ints, PyData.eqv, PyData.eqvAll, eqv_intsd]
  congr 1
  by_cases a : natI s.1 = p <;> by_cases b : (s.2 : Int) = n <;> simp [a, b]
theorem rows_lay : ∀ l : List (Stp × Tm), (∀ x ∈ l, x.2.okB = true ∧ x.2.dp ≤ 50) → PyData.canLayAll0 (toDs (l.map rowP)) = true ∧ PyData.depthAll (toDs (l.map rowP)) ≤ 102 ∧ PyData.eqvAll (toDs (l.map rowP)) (toDs (l.map rowP)) = true
  | [], _ => ⟨rfl, Nat.zero_le _, rfl⟩
  | x :: l, h => by
    obtain ⟨a1, a2, a3⟩ := stp_lay x.1
    obtain ⟨c1, c2⟩ := h x List.mem_cons_self
    obtain ⟨d1, d2⟩ := lay_tm x.2 c1
    have d3 := eqv_tm x.2 x.2
    obtain ⟨b1, b2, b3⟩ := rows_lay l fun y hy => h y (List.mem_cons_of_mem _ hy)
    simp only [List.map_cons, rowP, toDs, toD, PyData.canLay0, PyData.canLayAll0, PyData.depth, PyData.depthAll, PyData.eqv, PyData.eqvAll, a1, a3, b1, b3, d1, d3]
    simp
    omega
theorem eqS_rows {l : List (Stp × Tm)} (h : ∀ x ∈ l, x.2.okB = true ∧ x.2.dp ≤ 50) : eqS (.val (.lst (l.map rowP))) (.val (.lst (l.map rowP))) = some true := by
  obtain ⟨b1, b2, b3⟩ := rows_lay l h
  have hs : shap (toDS (.val (.lst (l.map rowP)))) = true := by
    unfold shap
    simp only [toDS, toD, PyData.canLay0, PyData.depth, b1]
    simp
    omega
  show (if shap (toDS (.val (.lst (l.map rowP)))) = true ∧ shap (toDS (.val (.lst (l.map rowP)))) = true then some (PyData.eqv (toDS (.val (.lst (l.map rowP)))) (toDS (.val (.lst (l.map rowP))))) else none) = _
  rw [if_pos ⟨hs, hs⟩]
  simp only [toDS, toD, PyData.eqv, b3]
theorem eqS_l1 {t : Tm} (h : t.okB = true) (hd : t.dp ≤ 60) : eqS (.val (.lst [t.py])) (.val (.lst [t.py])) = some true := by
  obtain ⟨a1, a2⟩ := lay_tm t h
  have a3 := eqv_tm t t
  have hs : shap (toDS (.val (.lst [t.py]))) = true := by
    unfold shap
    simp only [toDS, toD, toDs, PyData.canLay0, PyData.canLayAll0, PyData.depth, PyData.depthAll, a1]
    simp
    omega
  show (if shap (toDS (.val (.lst [t.py]))) = true ∧ shap (toDS (.val (.lst [t.py]))) = true then some (PyData.eqv (toDS (.val (.lst [t.py]))) (toDS (.val (.lst [t.py])))) else none) = _
  rw [if_pos ⟨hs, hs⟩]
  simp only [toDS, toD, toDs, PyData.eqv, PyData.eqvAll, a3]
  simp
def limP : Py := .lst [.str (PySem.Str.ofString "limit"), .bl true]
theorem eqS_lim : eqS (.val limP) (.val limP) = some true := by
  have hs : shap (toDS (.val limP)) = true := by decide +kernel
  show (if shap (toDS (.val limP)) = true ∧ shap (toDS (.val limP)) = true then some (PyData.eqv (toDS (.val limP)) (toDS (.val limP))) else none) = _
  rw [if_pos ⟨hs, hs⟩]
  decide +kernel
end DM

/-! ## V10_t_take -/
namespace K10
open PySem L2 DL DM
variable [Tb]
theorem fill_ok (ns : List Int) (i : Nat) (r k b : Int) : ∃ n j, M__law_fill [.lst (cst ns i r k b)] = .ret (.val (.int n)) [some (.lst (cst ns j r (k+1) b))] := by
  unfold M__law_fill
  rw [runF_eq]
  have ej0 : ∃ x : Nat, (i : Int) = x := ⟨i, rfl⟩
  by_cases hn : ns = []
  · subst hn
    have hi : ¬ (i : Int) < 0 := by omega
    simp [varX, takeO, lockE, lstAt, cst, hi, ej0]
  have e : ∃ z, (ns.map Py.int).getLast? = some (.int z) := by
    rw [List.getLast?_map]
    cases e : ns.getLast? with
    | none => exact absurd (List.getLast?_eq_none_iff.mp e) hn
    | some z => exact ⟨z, rfl⟩
  obtain ⟨z, e⟩ := e
  have e := atI_last e
  have ej : ∃ x : Nat, (i : Int) + 1 = x := ⟨i + 1, rfl⟩
  by_cases h : i < ns.length
  · have e1 : atI (ns.map Py.int) (i : Int) = some (.int ns[i]) := by rw [atI_nat (by simpa using h)]; simp
    by_cases h2 : (ns.length : Int) ≤ (i : Int) + 1
    · simp [varX, takeO, lockE, lstAt, cst, h, e1, hn]
      repeat' split
      all_goals simp [varX, takeO, lockE, lstAt, cst, h, hn, e, h2, ej]
      all_goals repeat' split
      all_goals simp [varX, takeO, lockE, lstAt, cst, h, hn, e, h2, ej]
    · simp [varX, takeO, lockE, lstAt, cst, h, e1, hn]
      repeat' split
      all_goals simp [varX, takeO, lockE, lstAt, cst, h, hn, e, h2, ej]
      all_goals repeat' split
      all_goals simp [varX, takeO, lockE, lstAt, cst, h, hn, e, h2, ej]
  · simp [varX, takeO, lockE, lstAt, cst, h, hn, e, Nat.le_of_not_lt h, ej0]
theorem take_ok {b : Int} {c : List Py} (h : CS b c) {m : Int} (h1 : 0 < m) (h2 : m < 1073741824) : ∃ d c', 0 ≤ d ∧ d < m ∧ CS b c' ∧ M__law_take [.lst c, .val (.int m)] = .ret (.val (.int d)) [some (.lst c'), some (.val (.int m))] := by
  obtain ⟨ns, i, r, k, rfl⟩ := h
  obtain ⟨n, j, e⟩ := fill_ok ns i r k b
  unfold M__law_take
  rw [runF_eq]
  unfold cst at e ⊢
  by_cases hr : r < m
  · refine ⟨n % m, cst ns j (n / m) (k + 1) b, Int.emod_nonneg _ (by omega), Int.emod_lt_of_pos _ h1, ⟨_, _, _, _, rfl⟩, ?_⟩
    simp [varX, takeO, lockE, lstAt, takeA_s, e, hr, h1, h2, cst]
  · refine ⟨r % m, cst ns i (r / m) k b, Int.emod_nonneg _ (by omega), Int.emod_lt_of_pos _ h1, ⟨_, _, _, _, rfl⟩, ?_⟩
    simp [varX, takeO, lockE, lstAt, takeA_s, e, hr, h1, h2, cst]
theorem start_ok (ns : List Int) : CS 14 (cst (ns.take 63) 0 0 0 14) ∧ M__law_start [.val (.lst (ns.map .int))] = .ret (.lst (cst (ns.take 63) 0 0 0 14)) [some (.val (.lst (ns.map .int)))] := by
  refine ⟨⟨_, _, _, _, rfl⟩, ?_⟩
  unfold M__law_start
  rw [runF_eq]
  have loop : ∀ (l : List Int) (acc : List Py) (o : Option Sv), acc.length + l.length ≤ 1000 → lcS (gNameS 1) yesT (e1 (varX 1) intOf) [1] (l.map .int) acc [some (.val (.lst (ns.map .int))), none] = .ok (.lst (acc ++ l.map .int)) [some (.val (.lst (ns.map .int))), none] := by
    intro l
    induction l with
    | nil => intro acc o _; simp
    | cons x l ih =>
      intro acc o hl
      rw [List.map_cons, lcS_cons (st1 := [some (.val (.lst (ns.map .int))), some (.val (.int x))]) (by simp)]
      have hz : acc.length < sizeLine := by simp at hl; have : (1000 : Nat) < sizeLine := by decide
                                            omega
      simp [varX, hz]
      rw [ih (acc ++ [Py.int x]) none (by simp at hl ⊢; omega)]
      simp
  have hc : cutP (ns.map Py.int) none (some 63) = (ns.take 63).map .int := by
    simp [cutP, HT.sIx]
  simp [varX, hc, cst]
  rw [← List.map_take, loop _ [] none (by simp; omega)]
  simp
theorem start_ok2 (ns : List Int) : CS 14 (cst (ns.take 63) 0 0 0 14) ∧ M__law_start [.lst (ns.map .int)] = .ret (.lst (cst (ns.take 63) 0 0 0 14)) [some (.lst (ns.map .int))] := by
  refine ⟨⟨_, _, _, _, rfl⟩, ?_⟩
  unfold M__law_start
  rw [runF_eq]
  have loop : ∀ (l : List Int) (acc : List Py) (o : Option Sv), acc.length + l.length ≤ 1000 → lcS (gNameS 1) yesT (e1 (varX 1) intOf) [1] (l.map .int) acc [some (.lst (ns.map .int)), none] = .ok (.lst (acc ++ l.map .int)) [some (.lst (ns.map .int)), none] := by
    intro l
    induction l with
    | nil => intro acc o _; simp
    | cons x l ih =>
      intro acc o hl
      rw [List.map_cons, lcS_cons (st1 := [some (.lst (ns.map .int)), some (.val (.int x))]) (by simp)]
      have hz : acc.length < sizeLine := by simp at hl; have : (1000 : Nat) < sizeLine := by decide
                                            omega
      simp [varX, hz]
      rw [ih (acc ++ [Py.int x]) none (by simp at hl ⊢; omega)]
      simp
  have hc : cutP (ns.map Py.int) none (some 63) = (ns.take 63).map .int := by
    simp [cutP, HT.sIx]
  simp [varX, hc, cst]
  rw [← List.map_take, loop _ [] none (by simp; omega)]
  simp
end K10

/-! ## V10_t_sig -/
namespace K10
open PySem L2 DL DM
variable [Tb]
theorem sig_ok {b : Int} {c : List Py} (h : CS b c) : ∃ sg c', SigOk sg ∧ CS b c' ∧ M__law_signature [.lst c] = .ret (.lst (sg.map sgP)) [some (.lst c')] := by
  obtain ⟨d1, c1, _, _, h1, q1⟩ := take_ok h (m := 2) (by decide) (by decide)
  obtain ⟨d2, c2, _, _, h2, q2⟩ := take_ok h1 (m := 3) (by decide) (by decide)
  have hz : ∀ n : Nat, n < 1000 → n < sizeLine := fun n h => sL h
  have lz : ∀ n : Nat, n < 1000 → n ≤ sizeLine := fun n h => sLe h
  unfold M__law_signature
  rw [runF_eq]
  by_cases z1 : d1 = 0
  · by_cases z2 : d2 = 0
    · obtain ⟨d3, c3, a3, b3, h3, q3⟩ := take_ok h2 (m := 4) (by decide) (by decide)
      obtain ⟨m, m1, m2, hm⟩ := atI4 a3 b3
      obtain ⟨d5, c5, _, _, h5, q5⟩ := take_ok h3 (m := 4) (by decide) (by decide)
      by_cases z5 : d5 = 0
      · obtain ⟨d6, c6, _, _, h6, q6⟩ := take_ok h5 (m := 3) (by decide) (by decide)
        by_cases z6 : d6 = 0
        · refine ⟨_, c6, ⟨[(sB, 0)], [(sH, m)], [(sK, 4)], .inr rfl, .inr ⟨m, m1, m2, rfl⟩, .inr ⟨4, by decide, by decide, rfl⟩, rfl⟩, h6, ?_⟩
          simp [varX, takeO, lockE, lstAt, takeA_s, sgP, q1, q2, z1, z2, q5, z5, q3, hm, q6, z6, hz, lz]
        · refine ⟨_, c6, ⟨[(sB, 0)], [(sH, m)], [(sK, 3)], .inr rfl, .inr ⟨m, m1, m2, rfl⟩, .inr ⟨3, by decide, by decide, rfl⟩, rfl⟩, h6, ?_⟩
          simp [varX, takeO, lockE, lstAt, takeA_s, sgP, q1, q2, z1, z2, q5, z5, q3, hm, q6, z6, hz, lz]
      · refine ⟨_, c5, ⟨[(sB, 0)], [(sH, m)], [], .inr rfl, .inr ⟨m, m1, m2, rfl⟩, .inl rfl, rfl⟩, h5, ?_⟩
        simp [varX, takeO, lockE, lstAt, takeA_s, sgP, q1, q2, z1, z2, q5, z5, q3, hm, hz, lz]
    · skip
      obtain ⟨d5, c5, _, _, h5, q5⟩ := take_ok h2 (m := 4) (by decide) (by decide)
      by_cases z5 : d5 = 0
      · obtain ⟨d6, c6, _, _, h6, q6⟩ := take_ok h5 (m := 3) (by decide) (by decide)
        by_cases z6 : d6 = 0
        · refine ⟨_, c6, ⟨[(sB, 0)], [], [(sK, 4)], .inr rfl, .inl rfl, .inr ⟨4, by decide, by decide, rfl⟩, rfl⟩, h6, ?_⟩
          simp [varX, takeO, lockE, lstAt, takeA_s, sgP, q1, q2, z1, z2, q5, z5, q6, z6, hz, lz]
        · refine ⟨_, c6, ⟨[(sB, 0)], [], [(sK, 3)], .inr rfl, .inl rfl, .inr ⟨3, by decide, by decide, rfl⟩, rfl⟩, h6, ?_⟩
          simp [varX, takeO, lockE, lstAt, takeA_s, sgP, q1, q2, z1, z2, q5, z5, q6, z6, hz, lz]
      · refine ⟨_, c5, ⟨[(sB, 0)], [], [], .inr rfl, .inl rfl, .inl rfl, rfl⟩, h5, ?_⟩
        simp [varX, takeO, lockE, lstAt, takeA_s, sgP, q1, q2, z1, z2, q5, z5, hz, lz]
  · by_cases z2 : d2 = 0
    · obtain ⟨d3, c3, a3, b3, h3, q3⟩ := take_ok h2 (m := 4) (by decide) (by decide)
      obtain ⟨m, m1, m2, hm⟩ := atI4 a3 b3
      obtain ⟨d5, c5, _, _, h5, q5⟩ := take_ok h3 (m := 4) (by decide) (by decide)
      by_cases z5 : d5 = 0
      · obtain ⟨d6, c6, _, _, h6, q6⟩ := take_ok h5 (m := 3) (by decide) (by decide)
        by_cases z6 : d6 = 0
        · refine ⟨_, c6, ⟨[], [(sH, m)], [(sK, 4)], .inl rfl, .inr ⟨m, m1, m2, rfl⟩, .inr ⟨4, by decide, by decide, rfl⟩, rfl⟩, h6, ?_⟩
          simp [varX, takeO, lockE, lstAt, takeA_s, sgP, q1, q2, z1, z2, q5, z5, q3, hm, q6, z6, hz, lz]
        · refine ⟨_, c6, ⟨[], [(sH, m)], [(sK, 3)], .inl rfl, .inr ⟨m, m1, m2, rfl⟩, .inr ⟨3, by decide, by decide, rfl⟩, rfl⟩, h6, ?_⟩
          simp [varX, takeO, lockE, lstAt, takeA_s, sgP, q1, q2, z1, z2, q5, z5, q3, hm, q6, z6, hz, lz]
      · refine ⟨_, c5, ⟨[], [(sH, m)], [], .inl rfl, .inr ⟨m, m1, m2, rfl⟩, .inl rfl, rfl⟩, h5, ?_⟩
        simp [varX, takeO, lockE, lstAt, takeA_s, sgP, q1, q2, z1, z2, q5, z5, q3, hm, hz, lz]
    · skip
      obtain ⟨d5, c5, _, _, h5, q5⟩ := take_ok h2 (m := 4) (by decide) (by decide)
      by_cases z5 : d5 = 0
      · obtain ⟨d6, c6, _, _, h6, q6⟩ := take_ok h5 (m := 3) (by decide) (by decide)
        by_cases z6 : d6 = 0
        · refine ⟨_, c6, ⟨[], [], [(sK, 4)], .inl rfl, .inl rfl, .inr ⟨4, by decide, by decide, rfl⟩, rfl⟩, h6, ?_⟩
          simp [varX, takeO, lockE, lstAt, takeA_s, sgP, q1, q2, z1, z2, q5, z5, q6, z6, hz, lz]
        · refine ⟨_, c6, ⟨[], [], [(sK, 3)], .inl rfl, .inl rfl, .inr ⟨3, by decide, by decide, rfl⟩, rfl⟩, h6, ?_⟩
          simp [varX, takeO, lockE, lstAt, takeA_s, sgP, q1, q2, z1, z2, q5, z5, q6, z6, hz, lz]
      · refine ⟨_, c5, ⟨[], [], [], .inl rfl, .inl rfl, .inl rfl, rfl⟩, h5, ?_⟩
        simp [varX, takeO, lockE, lstAt, takeA_s, sgP, q1, q2, z1, z2, q5, z5, hz, lz]
end K10

/-! ## V10_t_term -/
namespace K10
open PySem L2 DL DM
variable [Tb]
def TermAt (n : Nat) (sg : Sg) (names : List Str) (deep : Nat) (b : Int) (c : List Py) : Prop := ∃ t c' b', CS b' c' ∧ b' = b - t.sz ∧ min (b - 1) (-3 * (deep : Int)) ≤ b' ∧ TIn sg names t ∧ t.dp ≤ deep + 1 ∧
  M__law_term n [.lst c, .val (.lst (sg.map sgP)), .val (.lst (names.map .str)), .val (.int deep)] = .ret (.val t.py) (tSt c' sg names deep [])
theorem kids_loop {n deep : Nat} {sg : Sg} {names : List Str} {nm many : Py} (ih : ∀ b c, CS b c → TermAt n sg names deep b c) : ∀ (m : Nat) (l : List Py) (acc : List Py) (b : Int) (c : List Py), l.length = m → CS b c → acc.length + m ≤ 500 →
    ∃ ts c' b', ts.length = m ∧ CS b' c' ∧ b' = b - szs ts ∧ (∀ t ∈ ts, TIn sg names t ∧ t.dp ≤ deep + 1) ∧ (m = 0 ∨ min (b - m) (-3 * (deep : Int) - (m - 1)) ≤ b') ∧ 
    lcS (gNameS 7) yesT (frzM (callM (M__law_term n) (consA (varX 0) (consA (varX 1) (consA (varX 2) (consA (xM (DL.e2 (varX 3) (xM (kI 1)) (binI0 fun i j => .int (i - j)))) nilA)))))) [7] l acc (tSt c sg names (deep + 1) [none, some (.val nm), some (.val many), none]) =
      .ok (.lst (acc ++ ts.map Tm.py)) (tSt c' sg names (deep + 1) [none, some (.val nm), some (.val many), none])
  | 0, l, acc, b, c, hl, h, _ => by
    cases List.length_eq_zero_iff.mp hl
    exact ⟨[], c, b, rfl, h, by simp [szs], nofun, .inl rfl, by simp⟩
  | m + 1, l, acc, b, c, hl, h, hz => by
    cases l with
    | nil => cases hl
    | cons d l =>
      obtain ⟨t, c1, b1, h1, lb1, mb1, it, dt, e1⟩ := ih b c h
      obtain ⟨ts, c2, b2, l2, h2, lb2, it2, nt2, e2⟩ := kids_loop (nm := nm) (many := many) ih m l (acc ++ [t.py]) b1 c1 (by simpa using hl) h1 (by simp; omega)
      refine ⟨t :: ts, c2, b2, by simp [l2], h2, by rw [szs]; omega, fun u hu => ?_, ?_, ?_⟩
      · rcases List.mem_cons.mp hu with rfl | hu
        · exact ⟨it, dt⟩
        · exact it2 u hu
      · right
        rcases nt2 with rfl | nt2
        · simp only [szs, Int.natCast_add] at lb2 ⊢
          have : ts = [] := List.length_eq_zero_iff.mp l2
          subst this
          simp only [szs] at lb2
          omega
        · omega
      · have ha : acc.length < sizeLine := sL (by omega)
        have hd : ((deep + 1 : Nat) : Int) - 1 = deep := by omega
        rw [lcS_cons (st1 := tSt c sg names (deep + 1) [none, some (.val nm), some (.val many), some (.val d)]) (by simp [tSt])]
        unfold tSt at e1 e2 ⊢
        simp [varX, takeA_s, hd, e1, ha]
        simpa using e2
noncomputable def leafM : DS → SO :=     (seqM (DL.stM 4 (DL.e2 (xM (frzM (DL.e1 (varX 2) fun w => (itemsS w).map .lst))) (xM (frzM (lcM (sqI (lockE 1)) (gTupS 2 (gConsS (gNameS 5) (gConsS (gNameS 6) gNilS))) (eT (DL.e2 (varX 6) (xM (kI 0)) fun x y => (eqS x y).map .bl)) (tupM (consV (lockE 5) (consV (tupM nilV) nilV))) [5, 6]))) addS))
    (seqM (rtM (valM (DL.e2 (varX 4) (xM (frzM (callM M__law_take (consA (varX 0) (consA (xM (DL.e1 (varX 4) lenS)) nilA))))) ixS)))
    nxM))
noncomputable def innM (n : Nat) : DS → SO :=     (seqM (asM (gTupS 2 (gConsS (gNameS 5) (gConsS (gNameS 6) gNilS))) (DL.e2 (varX 1) (xM (frzM (callM M__law_take (consA (varX 0) (consA (xM (DL.e1 (varX 1) lenS)) nilA))))) ixS))
    (seqM (rtM (valM (tupM (consV (lockE 5) (consV (DL.e1 (xM (frzM (lcM (rg1 (consV (lockE 6) nilV)) (gNameS 7) yesT (frzM (callM (M__law_term n) (consA (varX 0) (consA (varX 1) (consA (varX 2) (consA (xM (DL.e2 (varX 3) (xM (kI 1)) (binI0 fun i j => .int (i - j)))) nilA)))))) [7]))) tupS) nilV)))))
    nxM))
theorem term_eq (n : Nat) : M__law_term (n + 1) = runF 4 8 [0, 1, 2, 3] (seqM (setLS 0 (DL.e2 (xM (DL.e2 (varX 0) (xM (kI 4)) ixS)) (xM (kI 1)) (binI0 fun i j => .int (i - j))) (kI 4)) (seqM (ifM (orT (andT (DL.e1 (varX 2) truS) (eT (DL.e2 (xM (frzM (callM M__law_take (consA (varX 0) (consA (xM (kI 4)) nilA))))) (xM (kI 0)) fun x y => (eqS x y).map .bl))) (orT (eT (DL.e2 (varX 3) (xM (kI 0)) fun x y => (eqS x y).map .bl)) (eT (DL.e2 (xM (DL.e2 (varX 0) (xM (kI 4)) ixS)) (xM (kI 1)) (binI0 fun i j => .bl (decide (i < j))))))) leafM nxM) (innM n))) := by
  rw [M__law_term]
  unfold leafM innM
  exact Eq.refl _
theorem leaf_ok {sg : Sg} {names : List Str} (hs : SgFit sg) (hn : names.length ≤ 60) {deep : Nat} {b : Int} {c1 : List Py} (h1 : CS b c1) : ∃ t c', CS b c' ∧ TIn sg names t ∧ t.dp = 1 ∧ t.sz = 1 ∧
    leafM (tSt c1 sg names deep [none, none, none, none]) = .rt (.val t.py) (tSt c' sg names deep [some (.lst (names.map Py.str ++ flats sg)), none, none, none]) := by
  have flen : 0 < (names.map Py.str ++ flats sg).length := by
    have : (Tm.f sA []).py ∈ flats sg := List.mem_map.mpr ⟨(sA, 0), List.mem_filter.mpr ⟨hs.zero, by simp⟩, rfl⟩
    rw [List.length_append]
    have := List.length_pos_of_mem this
    omega
  have flen2 : (names.map Py.str ++ flats sg).length ≤ 90 := by
    have h1 := hs.len
    have h2 := List.length_filter_le (fun p : Str × Nat => decide (p.2 = 0)) sg
    rw [List.length_append]
    unfold flats
    simp only [List.length_map]
    omega
  obtain ⟨d, c2, d0, d1, h2, e⟩ := take_ok h1 (m := ((names.map Py.str ++ flats sg).length : Int)) (by omega) (by omega)
  obtain ⟨t, it, dt, _, et⟩ := leaf_pick d0 d1
  have nt := sz_of_dp1 dt
  refine ⟨t, c2, h2, it, dt, nt, ?_⟩
  have h1 := hs.len
  have lz : names.length + (flats sg).length ≤ sizeLine := sLe (by simp only [List.length_append, List.length_map] at flen2; omega)
  have lp := flats_loop c1 (.lst (sg.map sgP)) (.lst (names.map .str)) (.int deep) none sg [] (by simp; omega)
  unfold tSt leafM
  rw [List.nil_append] at lp
  simp only [List.length_append, List.length_map, Int.natCast_add] at e
  simp [varX, lockE, lp, lz, takeA_s, e, et]
theorem inn_ok {sg : Sg} {names : List Str} (hs : SgFit sg) {n deep : Nat} {b : Int} {c1 : List Py} (h1 : CS b c1) (hb : 1 ≤ b) (ih : ∀ b c, CS b c → TermAt n sg names deep b c) : ∃ t c' b' r, CS b' c' ∧ b' = b + 1 - t.sz ∧ min b (-3 * ((deep + 1 : Nat) : Int)) ≤ b' ∧ TIn sg names t ∧ t.dp ≤ deep + 2 ∧
    innM n (tSt c1 sg names (deep + 1) [none, none, none, none]) = .rt (.val t.py) (tSt c' sg names (deep + 1) r) := by
  have hlen := hs.len
  have hpos : 0 < sg.length := List.length_pos_of_mem hs.zero
  obtain ⟨d, c2, d0, d1, h2, e⟩ := take_ok h1 (m := (sg.length : Int)) (by omega) (by omega)
  obtain ⟨i, rfl⟩ := Int.eq_ofNat_of_zero_le d0
  have hi : i < sg.length := by omega
  have ei : atI (sg.map sgP) (i : Int) = some (sgP sg[i]) := by rw [atI_nat (by simpa using hi)]; simp
  have hm := List.getElem_mem hi
  generalize sg[i] = p at ei hm
  obtain ⟨nm, many⟩ := p
  have h4 := hs.ar _ hm
  simp only at h4
  have hin : inB (many : Int) = true := by unfold inB; simp only [decide_eq_true_eq]; omega
  obtain ⟨ts, c3, b3, l3, h3, lb3, it3, nt3, e3⟩ := kids_loop (nm := .str nm) (many := .int many) ih many (rangeL 0 1 many) [] b c2 (rangeL_length _ _ _) h2 (by simp; omega)
  refine ⟨.f nm ts, c3, b3, [none, some (.val (.str nm)), some (.val (.int many)), none], h3, by rw [Tm.sz]; omega, ?_, .f (by rw [l3]; exact hm) (fun t ht => (it3 t ht).1), ?_, ?_⟩
  · rcases nt3 with rfl | nt3
    · have : ts = [] := List.length_eq_zero_iff.mp l3
      subst this
      simp only [szs] at lb3
      omega
    · omega
  · rw [Tm.dp]
    have := dps_le (k := deep + 1) fun t ht => (it3 t ht).2
    omega
  · have hc : ((deep + 1 : Nat) : Int) = (deep : Int) + 1 := rfl
    unfold tSt innM at *
    rw [hc] at e3 ⊢
    simp -implicitDefEqProofs [varX, lockE, takeA_s, e, ei, sgP, hin, e3, py_f]
theorem term_ok {sg : Sg} {names : List Str} (hs : SgFit sg) (hn : names.length ≤ 60) : ∀ (n deep : Nat) (b : Int) (c : List Py), deep < n → CS b c → TermAt n sg names deep b c
  | 0, deep, b, c, h, _ => absurd h (Nat.not_lt_zero _)
  | n + 1, deep, b, c, hd, h => by
    obtain ⟨ns, i, r, k, rfl⟩ := h
    have h0 : CS (b - 1) (cst ns i r k (b - 1)) := ⟨_, _, _, _, rfl⟩
    obtain ⟨d, c1, d0, d1, h1, e1⟩ := take_ok h0 (m := 4) (by decide) (by decide)
    -- the end
    have atLeaf : ∀ c2, CS (b - 1) c2 → ∃ t c' r, CS (b - 1) c' ∧ TIn sg names t ∧ t.dp = 1 ∧ t.sz = 1 ∧ leafM (tSt c2 sg names deep [none, none, none, none]) = .rt (.val t.py) (tSt c' sg names deep r) := fun c2 h2 => by
      obtain ⟨t, c3, h3, it, dt, nt, e⟩ := leaf_ok hs hn (deep := deep) h2
      exact ⟨t, c3, _, h3, it, dt, nt, e⟩
    have key : ∀ (c2 : List Py), CS (b - 1) c2 → ∃ t c' b' r, CS b' c' ∧ b' = b - t.sz ∧ min (b - 1) (-3 * (deep : Int)) ≤ b' ∧ TIn sg names t ∧ t.dp ≤ deep + 1 ∧
        (if deep = 0 ∨ b - 1 < 1 then leafM (tSt c2 sg names deep [none, none, none, none]) else innM n (tSt c2 sg names deep [none, none, none, none])) = .rt (.val t.py) (tSt c' sg names deep r) := fun c2 h2 => by
      by_cases hc : deep = 0 ∨ b - 1 < 1
      · rw [if_pos hc]
        obtain ⟨t, c3, r, h3, it, dt, nt, e⟩ := atLeaf c2 h2
        exact ⟨t, c3, b - 1, r, h3, by omega, by omega, it, by omega, e⟩
      · rw [if_neg hc]
        obtain ⟨deep, rfl⟩ : ∃ m, deep = m + 1 := ⟨deep - 1, by omega⟩
        obtain ⟨t, c3, b3, r, h3, l3, m3, it, dt, e⟩ := inn_ok hs (n := n) (deep := deep) h2 (by omega) (fun b c h => term_ok hs hn n deep b c (by omega) h)
        exact ⟨t, c3, b3, r, h3, by omega, m3, it, dt, e⟩
    unfold TermAt
    rw [term_eq]
    simp only [runF_eq]
    have z0 : ((0 : Nat) : Int) = 0 := rfl
    by_cases hnm : names = []
    · obtain ⟨t, c3, b3, r, h3, l3, m3, it, dt, e⟩ := key _ h0
      refine ⟨t, c3, b3, h3, l3, m3, it, dt, ?_⟩
      subst hnm
      unfold tSt cst at *
      by_cases hc : deep = 0 ∨ b - 1 < 1
      · rw [if_pos hc] at e
        by_cases hc0 : deep = 0
        · subst hc0
          try simp at e
          simp [varX, lockE, lstAt, e]
        · have hc1 : b - 1 < 1 := by omega
          try simp at e
          simp [varX, lockE, lstAt, hc0, hc1, e]
      · rw [if_neg hc] at e
        have hc0 : ¬ deep = 0 := by omega
        have hc1 : ¬ b - 1 < 1 := by omega
        try simp at e
        simp [varX, lockE, lstAt, hc0, hc1, e]
    · have hne : names.isEmpty = false := by cases names <;> simp_all
      by_cases hd0 : d = 0
      · obtain ⟨t, c3, r, h3, it, dt, nt, e⟩ := atLeaf c1 h1
        refine ⟨t, c3, b - 1, h3, by omega, by omega, it, by omega, ?_⟩
        unfold tSt cst at *
        try simp at e
        simp [varX, lockE, lstAt, takeA_s, hnm, e1, hd0, e]
      · obtain ⟨t, c3, b3, r, h3, l3, m3, it, dt, e⟩ := key _ h1
        refine ⟨t, c3, b3, h3, l3, m3, it, dt, ?_⟩
        obtain ⟨ns', i', r', k', rfl⟩ := h1
        unfold tSt cst at *
        by_cases hc : deep = 0 ∨ b - 1 < 1
        · rw [if_pos hc] at e
          by_cases hc0 : deep = 0
          · subst hc0
            try simp at e
            simp [varX, lockE, lstAt, takeA_s, hnm, e1, hd0, e]
          · have hc1 : b - 1 < 1 := by omega
            try simp at e
            simp [varX, lockE, lstAt, takeA_s, hnm, e1, hd0, hc0, hc1, e]
        · rw [if_neg hc] at e
          have hc0 : ¬ deep = 0 := by omega
          have hc1 : ¬ b - 1 < 1 := by omega
          try simp at e
          simp [varX, lockE, lstAt, takeA_s, hnm, e1, hd0, hc0, hc1, e]
end K10

/-! ## V10_a_parts -/
namespace K10
open PySem L2 DL DM
variable [Tb]
theorem isvar_ok (t : Tm) : M_is_variable [.val t.py] = .ret (.val (.bl t.isV)) [some (.val t.py)] := by
  unfold M_is_variable
  rw [runF_eq]
  cases t <;> simp -implicitDefEqProofs [varX, py_v, py_f, Tm.isV]
theorem inner_ok (t : Tm) : M_inner [.val t.py] = .ret (.val (.tup (t.kids.map Tm.py))) [some (.val t.py)] := by
  unfold M_inner
  rw [runF_eq]
  cases t with
  | v x =>
    have := isvar_ok (.v x)
    simp -implicitDefEqProofs [varX, this, Tm.isV, Tm.kids]
  | f n ts =>
    have := isvar_ok (.f n ts)
    rw [py_f] at this ⊢
    simp -implicitDefEqProofs [varX, this, Tm.isV, Tm.kids]
theorem parts_loop (t : Option Sv) : ∀ (m : Nat) (L : List Tm) (found : List Py) (o : Option Sv), szs L ≤ m → found.length + szs L ≤ 900 →
    ∃ o', whileS (DL.e1 (varX 2) truS) B_parts_1 [t, some (.lst found), some (.lst (L.map Tm.py).reverse), o] = .nx [t, some (.lst (found ++ (subss L).map Tm.py)), some (.lst []), o']
  | _, [], found, o, _, _ => ⟨o, by rw [whileS_eq]; simp [varX, subss]⟩
  | 0, u :: L, found, o, hm, _ => by rw [szs, sz_eq] at hm; omega
  | m + 1, u :: L, found, o, hm, hz => by
    rw [szs, sz_eq] at hm hz
    obtain ⟨o', e⟩ := parts_loop t m (u.kids ++ L) (found ++ [u.py]) (some (.val u.py)) (by rw [szs_append]; omega) (by rw [szs_append]; simp; omega)
    have l1 : found.length < sizeLine := sL (by omega)
    have kl : u.kids.length ≤ szs u.kids := by
      generalize u.kids = l
      induction l with
      | nil => simp
      | cons t l ih => rw [szs, sz_eq, List.length_cons]; omega
    have Ll : L.length ≤ szs L := by
      clear hm hz e
      induction L with
      | nil => simp
      | cons t l ih => rw [szs, sz_eq, List.length_cons]; omega
    have l2 : L.length + u.kids.length ≤ sizeLine := sLe (by omega)
    refine ⟨o', ?_⟩
    rw [whileS_eq]
    unfold B_parts_1 at e ⊢
    simp -implicitDefEqProofs [varX, lockE, lstAt, inner_ok, l1, l2]
    simp at e
    rw [e, subss_append, subss, subs_eq]
    simp
theorem parts_ok {t : Tm} (h : t.sz ≤ 800) : M_parts [.val t.py] = .ret (.lst (t.subs.map Tm.py)) [some (.val t.py)] := by
  obtain ⟨o', e⟩ := parts_loop (some (.val t.py)) t.sz [t] [] none (by simp [szs]) (by simp [szs]; omega)
  unfold M_parts
  rw [runF_eq]
  simp [subss] at e
  simp -implicitDefEqProofs [varX, lockE, takeO, e]
theorem size_ok {t : Tm} (h : t.sz ≤ 800) : M_size [.val t.py] = .ret (.val (.int t.sz)) [some (.val t.py)] := by
  unfold M_size
  rw [runF_eq]
  simp -implicitDefEqProofs [varX, parts_ok h, subs_len]
theorem depth_in (t : Option Sv) (o lv : Option Sv) (c : Int) : ∀ (L : List Tm) (below : List Py), below.length + szs L ≤ 900 → ∃ o', forS (gNameS 4) B_depth_1 (L.map Tm.py) [t, lv, some (.val (.int c)), some (.lst below), o] = .nx [t, lv, some (.val (.int c)), some (.lst (below ++ (L.flatMap Tm.kids).map Tm.py)), o']
  | [], below, _ => ⟨o, by simp⟩
  | u :: L, below, h => by
    have hk := len_szs u.kids
    rw [szs, sz_eq] at h
    obtain ⟨o', e⟩ := depth_in t (some (.val u.py)) lv c L (below ++ u.kids.map Tm.py) (by simp; omega)
    refine ⟨o', ?_⟩
    have l1 : below.length + u.kids.length ≤ sizeLine := sLe (by omega)
    rw [List.map_cons, forS_cons (st1 := [t, lv, some (.val (.int c)), some (.lst below), some (.val u.py)]) (by simp)]
    unfold B_depth_1 at e ⊢
    simp -implicitDefEqProofs [varX, lstAt, inner_ok, l1]
    simp at e
    rw [e]
theorem depth_loop (t : Option Sv) : ∀ (m : Nat) (L : List Tm) (c : Int) (b o : Option Sv), szs L ≤ m → szs L ≤ 800 →
    ∃ lv b' o', whileS (DL.e1 (varX 1) truS) B_depth_2 [t, some (.lst (L.map Tm.py)), some (.val (.int c)), b, o] = .nx [t, lv, some (.val (.int (c + dps L))), b', o']
  | _, [], c, b, o, _, _ => ⟨some (.lst []), b, o, by rw [whileS_eq]; simp [varX, dps]⟩
  | 0, u :: L, c, b, o, hm, _ => by rw [szs, sz_eq] at hm; omega
  | m + 1, u :: L, c, b, o, hm, hz => by
    have hk := szs_kids (u :: L)
    rw [List.length_cons] at hk
    obtain ⟨o1, e1⟩ := depth_in t o (some (.val (.lst ((u :: L).map Tm.py)))) (c + 1) (u :: L) [] (by simp; omega)
    obtain ⟨lv, b', o', e⟩ := depth_loop t m ((u :: L).flatMap Tm.kids) (c + 1) none o1 (by omega) (by omega)
    have hd := dps_kids (u :: L) (by simp)
    have hc : (c + 1 + (dps ((u :: L).flatMap Tm.kids) : Int)) = c + (dps (u :: L) : Nat) := by rw [hd]; omega
    rw [hc] at e
    refine ⟨lv, b', o', ?_⟩
    rw [whileS_eq]
    unfold B_depth_2 at e ⊢
    simp at e1
    simp at e
    simp -implicitDefEqProofs [varX, lockE, takeO, e1, e]
theorem depth_ok {t : Tm} (h : t.sz ≤ 800) : M_depth [.val t.py] = .ret (.val (.int t.dp)) [some (.val t.py)] := by
  obtain ⟨lv, b, o, e⟩ := depth_loop (some (.val t.py)) t.sz [t] 0 none none (by simp [szs]) (by simp [szs]; omega)
  unfold M_depth
  rw [runF_eq]
  simp [dps] at e
  simp -implicitDefEqProofs [varX, lockE, takeO, e]
theorem small_ok {a b : Int} (h1 : a ≤ 400) (h2 : b ≤ 40) : M_need_small [.val (.int a), .val (.int b)] = .ret (.val .non) [some (.val (.int a)), some (.val (.int b))] := by
  unfold M_need_small
  rw [runF_eq]
  have h1' : ¬ 400 < a := by omega
  have h2' : ¬ 40 < b := by omega
  simp -implicitDefEqProofs [varX, h1', h2']
end K10

/-! ## V10_a_vars -/
namespace K10
open PySem L2 DL DM
variable [Tb]
theorem vars_loop (T : Option Sv) : ∀ (l : List Tm) (acc : List Str), acc.length + l.length ≤ 900 →
    dcS .dic (fun d => (pkK d).isSome) (gNameS 1) Q_variables_1 C_variables_2 C_variables_3 [1] (l.map Tm.py) (acc.map fun k => (Py.str k, Py.bl true)) [T, none] = .ok (.dic ((colT varO acc l).map fun k => (Py.str k, Py.bl true))) [T, none]
  | [], acc, _ => rfl
  | t :: l, acc, h => by
    have hz : acc.length < sizeLine := sL (by simp at h; omega)
    have e1 : Q_variables_1 [T, some (.val t.py)] = .ok t.isV [T, some (.val t.py)] := by
      unfold Q_variables_1
      simp -implicitDefEqProofs [varX, isvar_ok]
    have e2 : C_variables_2 [T, some (.val t.py)] = .ok t.py [T, some (.val t.py)] := by
      unfold C_variables_2
      simp -implicitDefEqProofs [lockE]
    have hl : (addK acc (match t with | .v x => x | .f n _ => n)).length ≤ acc.length + 1 := addK_len _ _
    cases t with
    | v x =>
      have ih := vars_loop T l (addK acc x) (by simp at h hl; omega)
      rw [List.map_cons, dcS]
      rw [py_v] at e1 e2 ⊢
      have e3 : C_variables_3 [T, some (.val (.str x))] = .ok (.bl true) [T, some (.val (.str x))] := rfl
      have e4 : (pkK (Py.str x)).isSome = true := rfl
      have hp := putP_addK (g := Py.str) (fun a b e => Py.str.inj e) acc x
      simp -implicitDefEqProofs [e1, e2, e3, e4, Tm.isV, hz, hp, ih, colT, varO]
    | f n ts =>
      have ih := vars_loop T l acc (by simp at h; omega)
      rw [List.map_cons, dcS]
      simp -implicitDefEqProofs [e1, Tm.isV, ih, colT, varO]
theorem variables_ok {t : Tm} (h : t.sz ≤ 800) : M_variables [.val t.py] = .ret (.val (.tup ((colT varO [] t.subs).map .str))) [some (.val t.py)] := by
  have e := vars_loop (some (.val t.py)) t.subs [] (by simp [subs_len]; omega)
  unfold M_variables
  rw [runF_eq]
  simp at e
  simp -implicitDefEqProofs [dcM, varX, parts_ok h, e]
end K10

/-! ## V10_a_measure -/
namespace K10
open PySem L2 DL DM
variable [Tb]
theorem measure_sizes {s : Sb} (hs : ∀ p ∈ s, p.2.sz ≤ 800) {a b c d e f g h : Option Sv} : ∀ (l : List Str), l.length ≤ 900 →
    dcS .dic (fun d => (pkK d).isSome) (gNameS 9) Q_measure_1 C_measure_2 C_measure_3 [9] (l.map .str) [] [some (.val (.dic (sbP s))), a, b, c, d, e, f, g, h, none, none] =
      .ok (.dic (szD s l)) [some (.val (.dic (sbP s))), a, b, c, d, e, f, g, h, none, none] := by
  intro l hl
  refine dc_map (f := Py.str) (k := Py.str) (v := szV s) (p := fun x => (s.get x).isSome) l [] (by simp; exact sLe (by omega)) fun x _ => ?_
  refine ⟨[some (.val (.dic (sbP s))), a, b, c, d, e, f, g, h, some (.val (.str x)), none], by simp, ?_, by simp, fun hp => ?_⟩
  · unfold Q_measure_1
    simp -implicitDefEqProofs [varX, getP_sb]
  · obtain ⟨u, hu⟩ := Option.isSome_iff_exists.mp hp
    have hz := hs _ (Sb.get_mem hu)
    refine ⟨rfl, [some (.val (.dic (sbP s))), a, b, c, d, e, f, g, h, some (.val (.str x)), none], [some (.val (.dic (sbP s))), a, b, c, d, e, f, g, h, some (.val (.str x)), none], ?_, ?_, by simp⟩
    · unfold C_measure_2
      simp -implicitDefEqProofs [lockE]
    · unfold C_measure_3
      simp -implicitDefEqProofs [varX, getP_sb, hu, size_ok hz, depth_ok hz, szV]
theorem measure_kids {a0 a1 a2 a3 a4 a5 a6 a8 a9 : Option Sv} (lv : Nat) (ts : List Tm) (h : ts.length ≤ 900) : lcS (gNameS 10) yesT C_measure_4 [10] (ts.map Tm.py) [] [a0, a1, a2, a3, a4, a5, a6, some (.val (.int lv)), a8, a9, none] =
    .ok (.lst ((ts.map fun k => (k, lv + 1)).map lvP)) [a0, a1, a2, a3, a4, a5, a6, some (.val (.int lv)), a8, a9, none] := by
  rw [lc_all (g := fun k : Tm => lvP (k, lv + 1)) ts [] (by simp; exact sLe (by omega)) fun k _ => ⟨[a0, a1, a2, a3, a4, a5, a6, some (.val (.int lv)), a8, a9, some (.val k.py)], by simp, by simp, by simp, ⟨[a0, a1, a2, a3, a4, a5, a6, some (.val (.int lv)), a8, a9, some (.val k.py)], ?_, by simp⟩⟩]
  · simp [Function.comp_def]
  · unfold C_measure_4
    simp -implicitDefEqProofs [varX, lockE, lvP]
def MSt (s : Sb) (l : List Str) (t x y : Option Sv) (N D : Nat) (n : Nat) (st : DS) : Prop := ∃ (L : List (Tm × Nat)) (nodes deep : Nat) (a b c : Option Sv), n = szL2 L ∧ n ≤ 800 ∧ (∀ p ∈ L, ∀ z, Tm.v z ∈ p.1.subs → z ∈ l) ∧ nodes + sumM s L = N ∧ max deep (maxM s L) = D ∧
      st = [some (.val (.dic (sbP s))), t, some (.val (.int nodes)), some (.val (.int deep)), some (.dic (szD s l)), some (.lst (L.map lvP).reverse), a, b, c, x, none]
theorem measure_loop {s : Sb} {l : List Str} {t x y : Option Sv} {N D : Nat} (n : Nat) (st : DS) (h : MSt s l t x y N D n st) :
    ∃ a b c, whileS (DL.e1 (varX 5) truS) B_measure_5 st = .nx [some (.val (.dic (sbP s))), t, some (.val (.int N)), some (.val (.int D)), some (.dic (szD s l)), some (.lst []), a, b, c, x, none] := by
  refine whileS_post (P := MSt s l t x y N D) (R := fun r => ∃ a b c, r = .nx [some (.val (.dic (sbP s))), t, some (.val (.int N)), some (.val (.int D)), some (.dic (szD s l)), some (.lst []), a, b, c, x, none]) ?_ n st h
  rintro n st ⟨L, nodes, deep, a, b, c, hn, h8, hv, hN, hD, rfl⟩
  cases L with
  | nil =>
    left
    refine ⟨_, by simp [varX]; rfl, a, b, c, ?_⟩
    simp only [sumM, maxM, List.map_nil, szs, Nat.add_zero, Nat.max_zero] at hN hD
    subst hN hD
    rfl
  | cons p L =>
    obtain ⟨u, lv⟩ := p
    right
    have hsz : szL2 ((u, lv) :: L) = u.sz + szL2 L := by simp [szL2, szs]
    have lL : L.length ≤ szL2 L := by have := len_szs (L.map (·.1)); simpa [szL2] using this
    have hu := sz_eq u
    cases u with
    | v z =>
      have hz : z ∈ l := hv _ List.mem_cons_self z (by simp [Tm.subs])
      have eg := szD_get s l hz
      have l2 : L.length ≤ sizeLine := sLe (by omega)
      refine ⟨_, by simp [varX]; rfl, .inl ⟨szL2 L, [some (.val (.dic (sbP s))), t, some (.val (.int ((nodes + ((Tm.v z).sub s).sz : Nat)))), some (.val (.int ((max deep (lv + ((Tm.v z).sub s).dp) : Nat)))), some (.dic (szD s l)), some (.lst (L.map lvP).reverse), some (.val (.str z)), some (.val (.int lv)), some (.val (.tup [.int ((Tm.v z).sub s).sz, .int ((Tm.v z).sub s).dp])), x, none], by omega, .inl ?_,
        L, _, _, _, _, _, rfl, by omega, fun p hp => hv p (List.mem_cons_of_mem _ hp), by rw [← hN]; simp [sumM, szs]; omega, by rw [← hD]; simp only [maxM]; omega, rfl⟩⟩
      have iv := isvar_ok (.v z)
      have ik := inner_ok (.v z)
      simp only [py_v] at iv ik
      have em : (if (deep : Int) < lv + ((Tm.v z).sub s).dp then ((lv : Int) + ((Tm.v z).sub s).dp) else deep) = ((max deep (lv + ((Tm.v z).sub s).dp) : Nat) : Int) := by split <;> omega
      unfold B_measure_5
      simp -implicitDefEqProofs [varX, lockE, lstAt, lvP, py_v, iv, ik, Tm.isV, Tm.kids, eg, l2, em]
    | f n0 ts =>
      have l2 : L.length + ts.length ≤ sizeLine := sLe (by have := len_szs ts; simp only [Tm.kids] at hu; omega)
      refine ⟨_, by simp [varX]; rfl, .inl ⟨szs ts + szL2 L, [some (.val (.dic (sbP s))), t, some (.val (.int ((nodes + 1 : Nat)))), some (.val (.int ((max deep (lv + 1) : Nat)))), some (.dic (szD s l)), some (.lst (((ts.map fun k => (k, lv + 1)).reverse ++ L).map lvP).reverse), some (.val (Tm.f n0 ts).py), some (.val (.int lv)), some (.val (.tup [.int 1, .int 1])), x, none], by simp only [Tm.kids] at hu; omega, .inl ?_,
        (ts.map fun k => (k, lv + 1)).reverse ++ L, _, _, _, _, _, ?_, ?_, fun p hp z hz => ?_, ?_, ?_, rfl⟩⟩
      · have iv := isvar_ok (.f n0 ts)
        have ik := inner_ok (.f n0 ts)
        have ek := fun {a0 a1 a2 a3 a4 a5 a6 a8 a9} => measure_kids (a0 := a0) (a1 := a1) (a2 := a2) (a3 := a3) (a4 := a4) (a5 := a5) (a6 := a6) (a8 := a8) (a9 := a9) lv ts (by have := len_szs ts; simp only [Tm.kids] at hu; omega)
        have em : (if (deep : Int) < lv + 1 then ((lv : Int) + 1) else deep) = ((max deep (lv + 1) : Nat) : Int) := by split <;> omega
        unfold B_measure_5
        simp -implicitDefEqProofs [varX, lockE, lstAt, lvP, iv, ik, Tm.isV, Tm.kids, ek, l2, em]
      · simp only [szL2, List.map_append, szs_append, List.map_reverse, szs_rev, List.map_map, Function.comp_def, List.map_id']
      · simp only [Tm.kids] at hu; omega
      · rcases List.mem_append.mp hp with hp | hp
        · obtain ⟨k, hk, rfl⟩ := List.mem_map.mp (List.mem_reverse.mp hp)
          refine hv _ List.mem_cons_self z ?_
          rw [Tm.subs]
          exact List.mem_cons_of_mem _ (mem_subss hk hz)
        · exact hv p (List.mem_cons_of_mem _ hp) z hz
      · have := sumM_kids s n0 (lv + 1) ts
        rw [← hN]
        simp only [sumM, List.map_append, List.map_reverse, szs_append, szs_rev, List.map_cons, szs] at this ⊢
        omega
      · have := maxM_kids s n0 lv ts
        rw [← hD]
        simp only [maxM_append, maxM_rev, maxM] at this ⊢
        omega
theorem measure_ok {s : Sb} {t : Tm} (hs : ∀ p ∈ s, p.2.sz ≤ 800) (ht : t.sz ≤ 800) : M_measure [.val (.dic (sbP s)), .val t.py] = .ret (.val (.tup [.int (t.sub s).sz, .int (t.sub s).dp])) [some (.val (.dic (sbP s))), some (.val t.py)] := by
  have hl : (colT varO [] t.subs).length ≤ 900 := by have := colT_len varO t.subs []; rw [subs_len] at this; simp at this; omega
  have e1 := fun {a b c d e f g h} => measure_sizes (a := a) (b := b) (c := c) (d := d) (e := e) (f := f) (g := g) (h := h) hs (colT varO [] t.subs) hl
  obtain ⟨a, b, c, e2⟩ := measure_loop (s := s) (l := colT varO [] t.subs) (t := some (.val t.py)) (x := none) (y := none) (N := (t.sub s).sz) (D := (t.sub s).dp) t.sz _ ⟨[(t, 0)], 0, 0, none, none, none, by simp [szL2, szs], ht, fun p hp z hz => by
    rw [List.mem_singleton.mp hp] at hz
    exact mem_vars _ _ (.inr hz), by simp [sumM, szs], by simp [maxM], rfl⟩
  have ev := variables_ok ht
  unfold M_measure
  rw [runF_eq]
  simp [lvP] at e2
  simp -implicitDefEqProofs [varX, lockE, ev, e1, e2]
end K10

/-! ## V10_a_rebuilt -/
namespace K10
open PySem L2 DL DM
variable [Tb]
def RbSt (σ : Str → Tm) (gt : Tm) (fa : Addr) (T : Option Sv) (r : List Tm) (n : Nat) (st : DS) : Prop := ∃ (L : List (Tm × Bool)) (d : List Tm) (a b c e : Option Sv), n = stkM L ∧ stkM L + d.length ≤ 1900 ∧ Run σ L d r ∧ (∀ p ∈ L, ∀ z, Tm.v z ∈ p.1.subs → Tm.v z ∈ gt.subs) ∧
  st = [T, some (.val (.obj fa)), some (.lst (d.map Tm.py)), some (.lst (L.map rdP).reverse), a, b, c, e, none]
theorem rebuilt_kids {fa : Addr} {gf : Py → Option Py} {a0 a1 a2 a3 a4 a5 a6 a7 : Option Sv} (ts : List Tm) (h : ts.length ≤ 9000) : lcS (gNameS 8) yesT (C_rebuilt_1 fa gf) [8] (ts.map Tm.py) [] [a0, a1, a2, a3, a4, a5, a6, a7, none] =
    .ok (.lst ((ts.map fun k => (k, false)).map rdP)) [a0, a1, a2, a3, a4, a5, a6, a7, none] := by
  rw [lc_all (g := fun k : Tm => rdP (k, false)) ts [] (by simp; exact sLe2 (by omega)) fun k _ => ⟨[a0, a1, a2, a3, a4, a5, a6, a7, some (.val k.py)], by simp, by simp, by simp, ⟨[a0, a1, a2, a3, a4, a5, a6, a7, some (.val k.py)], ?_, by simp⟩⟩]
  · simp [Function.comp_def]
  · unfold C_rebuilt_1
    simp -implicitDefEqProofs [varX, lockE, rdP]
theorem rebuilt_loop {σ : Str → Tm} {gt : Tm} {fa : Addr} {gf : Py → Option Py} {T : Option Sv} {r : List Tm} (hg : Gives gf σ gt) (n : Nat) (st : DS) (h : RbSt σ gt fa T r n st) :
    ∃ a b c e, whileS (DL.e1 (varX 3) truS) (B_rebuilt_2 fa gf) st = .nx [T, some (.val (.obj fa)), some (.lst (r.map Tm.py)), some (.lst []), a, b, c, e, none] := by
  refine whileS_post (P := RbSt σ gt fa T r) (R := fun q => ∃ a b c e, q = .nx [T, some (.val (.obj fa)), some (.lst (r.map Tm.py)), some (.lst []), a, b, c, e, none]) ?_ n st h
  rintro n st ⟨L, d, a, b, c, e, hn, h9, hr, hv, rfl⟩
  cases hr with
  | nil => exact .inl ⟨_, by simp [varX] <;> rfl, a, b, c, e, rfl⟩
  | @v x b0 L d r hr =>
    right
    have hL := stkM_len L
    have hm : stkM L < stkM ((Tm.v x, b0) :: L) := by cases b0 <;> simp [stkM, Tm.sz]
    have l1 : d.length < sizeLine := sL2 (by omega)
    refine ⟨_, by simp [varX]; rfl, .inl ⟨stkM L, [T, some (.val (.obj fa)), some (.lst ((d ++ [σ x]).map Tm.py)), some (.lst (L.map rdP).reverse), some (.val (.str x)), some (.val (.bl b0)), c, e, none], by omega, .inl ?_, L, d ++ [σ x], _, _, _, _, rfl, by simp; omega, hr, fun p hp => hv p (List.mem_cons_of_mem _ hp), rfl⟩⟩
    have hgx := hg x (hv _ List.mem_cons_self x (by simp [Tm.subs]))
    have iv := isvar_ok (.v x)
    simp only [py_v] at iv
    unfold B_rebuilt_2
    simp -implicitDefEqProofs [varX, lockE, lstAt, rdP, py_v, iv, Tm.isV, objAt, hgx, l1]
  | @shut n0 ts us L d r hl hr =>
    right
    have hL := stkM_len L
    have l1 : d.length < sizeLine := sL2 (by simp only [stkM, List.length_append] at h9; omega)
    refine ⟨_, by simp [varX]; rfl, .inl ⟨stkM L, [T, some (.val (.obj fa)), some (.lst ((d ++ [Tm.f n0 us]).map Tm.py)), some (.lst (L.map rdP).reverse), some (.val (Tm.f n0 ts).py), some (.val (.bl true)), some (.val (.int ts.length)), some (.lst (us.map Tm.py)), none], by simp only [stkM] at hn; omega, .inl ?_, L, d ++ [Tm.f n0 us], _, _, _, _, rfl, by simp only [stkM, List.length_append, List.length_cons, List.length_nil] at h9 ⊢; omega, hr, fun p hp => hv p (List.mem_cons_of_mem _ hp), rfl⟩⟩
    have iv := isvar_ok (.f n0 ts)
    unfold B_rebuilt_2
    rw [py_f] at iv ⊢
    simp -implicitDefEqProofs [varX, lockE, takeO, lstAt, rdP, py_f, iv, Tm.isV, hl, l1, cutP_drop, cutP_take]
  | @opn n0 ts L d r hr =>
    right
    have hL := stkM_len L
    have hts := len_szs ts
    have hk := stkM_kids ts
    simp only [stkM, Tm.sz] at hn h9
    have l1 : L.length < sizeLine := sL2 (by omega)
    have l2 : L.length + 1 + ts.length ≤ sizeLine := sLe2 (by omega)
    have ek := fun {a0 a1 a2 a3 a4 a5 a6 a7} => rebuilt_kids (fa := fa) (gf := gf) (a0 := a0) (a1 := a1) (a2 := a2) (a3 := a3) (a4 := a4) (a5 := a5) (a6 := a6) (a7 := a7) ts.reverse (by simp; omega)
    refine ⟨_, by simp [varX]; rfl, .inl ⟨stkM (ts.map (fun t => (t, false)) ++ (Tm.f n0 ts, true) :: L), [T, some (.val (.obj fa)), some (.lst (d.map Tm.py)), some (.lst ((ts.map (fun t => (t, false)) ++ (Tm.f n0 ts, true) :: L).map rdP).reverse), some (.val (Tm.f n0 ts).py), some (.val (.bl false)), c, e, none], by rw [stkM_append, hk, stkM]; omega, .inl ?_, _, d, _, _, _, _, rfl, by rw [stkM_append, hk, stkM]; omega, hr, fun p hp z hz => ?_, rfl⟩⟩
    rotate_left
    · rcases List.mem_append.mp hp with hp | hp
      · obtain ⟨k, hk2, rfl⟩ := List.mem_map.mp hp
        refine hv _ List.mem_cons_self z ?_
        rw [Tm.subs]
        exact List.mem_cons_of_mem _ (mem_subss hk2 hz)
      · rcases List.mem_cons.mp hp with rfl | hp
        · exact hv _ List.mem_cons_self z hz
        · exact hv p (List.mem_cons_of_mem _ hp) z hz
    have iv := isvar_ok (.f n0 ts)
    unfold B_rebuilt_2
    rw [py_f] at iv
    simp at ek
    simp -implicitDefEqProofs [varX, lockE, takeO, lstAt, rdP, py_f, iv, Tm.isV, l1, l2, ek]
theorem rebuilt_ok {σ : Str → Tm} {fa : Addr} {gf : Py → Option Py} {t : Tm} (hg : Gives gf σ t) (h : t.sz ≤ 800) : ∃ outs, M_rebuilt fa gf [.val t.py, .val (.obj fa)] = .ret (.val (t.bnd σ).py) outs := by
  obtain ⟨a, b, c, e, q⟩ := rebuilt_loop (T := some (.val t.py)) (fa := fa) (r := [t.bnd σ]) hg (2 * t.sz) _ ⟨[(t, false)], [], none, none, none, none, by simp [stkM], by simp [stkM]; omega, Run.one σ t .nil, fun p hp z hz => by rw [List.mem_singleton.mp hp] at hz; exact hz, rfl⟩
  unfold M_rebuilt MB_rebuilt
  rw [runF_eq]
  simp [rdP] at q
  refine ⟨[some (.val t.py), some (.val (.obj fa))], ?_⟩
  simp -implicitDefEqProofs [varX, lockE, q]
end K10

/-! ## V10_a_apply -/
namespace K10
open PySem L2 DL DM
variable [Tb]
theorem small_bad {a b : Int} (h : ¬ (a ≤ 400 ∧ b ≤ 40)) : M_need_small [.val (.int a), .val (.int b)] = .ex ⟨"LimitError", none⟩ [some (.val (.int a)), some (.val (.int b))] := by
  unfold M_need_small
  rw [runF_eq]
  by_cases h1 : 400 < a
  · simp -implicitDefEqProofs [varX, h1]
  · have h2 : 40 < b := by omega
    simp -implicitDefEqProofs [varX, h1, h2]
theorem apply_lam {s : Sb} {t : Tm} {a1 a2 a3 a4 : Option Sv} : Gives (lamG C_apply_1 4 [some (.val (.dic (sbP s))), a1, a2, a3, a4]) (fun x => (s.get x).getD (.v x)) t := fun x _ => by
  unfold lamG C_apply_1
  have e : ((s.get x).map Tm.py).getD (.str x) = ((s.get x).getD (.v x)).py := by cases s.get x <;> rfl
  simp -implicitDefEqProofs [dataOf, dataO, varX, lockE, getP_sb, e]
theorem apply_ok {s : Sb} {t : Tm} (hs : ∀ p ∈ s, p.2.sz ≤ 800) (ht : t.sz ≤ 800) (h1 : (t.sub s).sz ≤ 400) (h2 : (t.sub s).dp ≤ 40) : M_apply [.val (.dic (sbP s)), .val t.py] = .ret (.val (t.sub s).py) [some (.val (.dic (sbP s))), some (.val t.py)] := by
  have em := measure_ok hs ht
  have es := small_ok (a := (t.sub s).sz) (b := (t.sub s).dp) (by omega) (by omega)
  have el := fun {a2 a3 a4} => lamRes_ok (MR := M_rebuilt) (st := [some (.val (.dic (sbP s))), some (.val t.py), a2, a3, a4]) fun f => rebuilt_ok (fa := f) (apply_lam (s := s) (t := t) (a1 := some (.val t.py)) (a2 := a2) (a3 := a3) (a4 := a4)) ht
  rw [← sub_bnd] at el
  unfold M_apply
  rw [runF_eq]
  simp -implicitDefEqProofs [varX, lockE, em, es, lamCallM, el]
theorem apply_big {s : Sb} {t : Tm} (hs : ∀ p ∈ s, p.2.sz ≤ 800) (ht : t.sz ≤ 800) (h : ¬ ((t.sub s).sz ≤ 400 ∧ (t.sub s).dp ≤ 40)) : M_apply [.val (.dic (sbP s)), .val t.py] = .ex ⟨"LimitError", none⟩ [some (.val (.dic (sbP s))), some (.val t.py)] := by
  have em := measure_ok hs ht
  have es := small_bad (a := (t.sub s).sz) (b := (t.sub s).dp) (by omega)
  unfold M_apply
  rw [runF_eq]
  simp -implicitDefEqProofs [varX, lockE, em, es]
end K10

/-! ## V10_a_same -/
namespace K10
open PySem L2 DL DM
variable [Tb]
def SmSt (A B : Option Sv) (k : Bool) (n : Nat) (st : DS) : Prop := ∃ (L : List (Tm × Tm)) (a b : Option Sv), n = szs (L.map (·.1)) ∧ n ≤ 9000 ∧ (k = true ↔ ∀ p ∈ L, p.1 = p.2) ∧ st = [A, B, some (.lst (L.map prP).reverse), a, b]
theorem same_ok {t u : Tm} (ht : t.sz ≤ 9000) : M_same [.val t.py, .val u.py] = .ret (.val (.bl (decide (t = u)))) [some (.val t.py), some (.val u.py)] := by
  have key : ∃ st', (whileS (DL.e1 (varX 2) truS) B_same_1 [some (.val t.py), some (.val u.py), some (.lst [prP (t, u)]), none, none] = .nx [some (.val t.py), some (.val u.py), some (.lst []), st', none] ∧ t = u) ∨ True := ⟨none, .inr trivial⟩
  clear key
  have key := whileS_post (c := DL.e1 (varX 2) truS) (b := B_same_1) (P := SmSt (some (.val t.py)) (some (.val u.py)) (decide (t = u)))
    (R := fun r => (t = u ∧ ∃ c a b, r = .nx [some (.val t.py), some (.val u.py), c, a, b]) ∨ (¬ t = u ∧ ∃ c a b, r = .rt (.val (.bl false)) [some (.val t.py), some (.val u.py), c, a, b])) ?_ t.sz [some (.val t.py), some (.val u.py), some (.lst [prP (t, u)]), none, none] ⟨[(t, u)], none, none, by simp [szs], ht, by simp, rfl⟩
  · unfold M_same
    rw [runF_eq]
    unfold prP at key
    rcases key with ⟨e, c, a, b, q⟩ | ⟨e, c, a, b, q⟩
    · have ed := decide_eq_true e
      simp -implicitDefEqProofs [lockE, q, ed]
    · have ed := decide_eq_false e
      simp -implicitDefEqProofs [lockE, q, ed]
  · rintro n st ⟨L, a, b, hn, h9, hk, rfl⟩
    cases L with
    | nil =>
      left
      refine ⟨_, by simp [varX] <;> rfl, .inl ⟨?_, _, a, b, rfl⟩⟩
      exact of_decide_eq_true (hk.mpr nofun)
    | cons p L =>
      obtain ⟨x, y⟩ := p
      right
      have hx := sz_eq x
      have hL := len_szs (L.map (·.1))
      rw [List.length_map] at hL
      simp only [List.map_cons, szs] at hn
      have ix := isvar_ok x
      have iy := isvar_ok y
      refine ⟨_, by simp [varX] <;> rfl, ?_⟩
      cases x with
      | v x =>
        cases y with
        | v y =>
          simp only [py_v] at ix iy
          by_cases h : x = y
          · subst h
            left
            refine ⟨szs (L.map (·.1)), [some (.val t.py), some (.val u.py), some (.lst (L.map prP).reverse), some (.val (.str x)), some (.val (.str x))], by omega, .inl ?_, L, _, _, rfl, by omega, by simpa using hk, rfl⟩
            unfold B_same_1
            simp -implicitDefEqProofs [varX, lockE, lstAt, prP, py_v, ix, iy, Tm.isV]
          · right; right; left
            refine ⟨.val (.bl false), [some (.val t.py), some (.val u.py), some (.lst (L.map prP).reverse), some (.val (.str x)), some (.val (.str y))], ?_, .inr ⟨?_, _, _, _, rfl⟩⟩
            · unfold B_same_1
              simp -implicitDefEqProofs [varX, lockE, lstAt, prP, py_v, ix, iy, Tm.isV, h]
            · intro e
              have := hk.mp (decide_eq_true e) _ List.mem_cons_self
              exact h (Tm.v.inj this)
        | f m us =>
          right; right; left
          refine ⟨.val (.bl false), [some (.val t.py), some (.val u.py), some (.lst (L.map prP).reverse), some (.val (.str x)), some (.val (Tm.f m us).py)], ?_, .inr ⟨?_, _, _, _, rfl⟩⟩
          · simp only [py_v] at ix
            unfold B_same_1
            simp -implicitDefEqProofs [varX, lockE, lstAt, prP, py_v, ix, iy, Tm.isV]
          · intro e
            have := hk.mp (decide_eq_true e) _ List.mem_cons_self
            cases this
      | f n0 ts =>
        cases y with
        | v y =>
          right; right; left
          refine ⟨.val (.bl false), [some (.val t.py), some (.val u.py), some (.lst (L.map prP).reverse), some (.val (Tm.f n0 ts).py), some (.val (.str y))], ?_, .inr ⟨?_, _, _, _, rfl⟩⟩
          · simp only [py_v] at iy
            unfold B_same_1
            simp -implicitDefEqProofs [varX, lockE, lstAt, prP, py_v, ix, iy, Tm.isV]
          · intro e
            have := hk.mp (decide_eq_true e) _ List.mem_cons_self
            cases this
        | f m us =>
          by_cases h : n0 = m ∧ ts.length = us.length
          · obtain ⟨rfl, hl⟩ := h
            have hts := len_szs ts
            simp only [Tm.kids] at hx
            have hz : szs ((ts.zip us).map (·.1)) = szs ts := by rw [List.map_fst_zip (by omega)]
            have l2 : L.length + (ts.zip us).length ≤ sizeLine := sLe2 (by rw [List.length_zip]; omega)
            have l3 : L.length + us.length ≤ sizeLine := sLe2 (by omega)
            left
            refine ⟨szs ts + szs (L.map (·.1)), [some (.val t.py), some (.val u.py), some (.lst (((ts.zip us).reverse ++ L).map prP).reverse), some (.val (Tm.f n0 ts).py), some (.val (Tm.f n0 us).py)], by omega, .inl ?_, (ts.zip us).reverse ++ L, _, _, ?_, by omega, ?_, rfl⟩
            · unfold B_same_1
              rw [py_f] at ix iy
              simp -implicitDefEqProofs [varX, lockE, lstAt, prP, py_f, ix, iy, Tm.isV, hl, zip_prP, zip_prP2, l2, l3]
            · rw [List.map_append, szs_append, List.map_reverse, szs_rev, hz]
            · rw [hk]
              constructor
              · intro q p hp
                rcases List.mem_append.mp hp with hp | hp
                · have e := (Tm.f.inj (q _ List.mem_cons_self)).2
                  subst e
                  obtain ⟨i, hi, e2⟩ := List.mem_iff_getElem.mp (List.mem_reverse.mp hp)
                  rw [List.getElem_zip] at e2
                  rw [← e2]
                · exact q _ (List.mem_cons_of_mem _ hp)
              · intro q p hp
                rcases List.mem_cons.mp hp with rfl | hp
                · have e : ts = us := by
                    apply List.ext_getElem hl
                    intro i h1 h2
                    have := q ((ts.zip us)[i]'(by rw [List.length_zip]; omega)) (List.mem_append_left _ (List.mem_reverse.mpr (List.getElem_mem _)))
                    rw [List.getElem_zip] at this
                    exact this
                  rw [e]
                · exact q _ (List.mem_append_right _ hp)
          · right; right; left
            refine ⟨.val (.bl false), [some (.val t.py), some (.val u.py), some (.lst (L.map prP).reverse), some (.val (Tm.f n0 ts).py), some (.val (Tm.f m us).py)], ?_, .inr ⟨?_, _, _, _, rfl⟩⟩
            · unfold B_same_1
              rw [py_f] at ix iy
              by_cases h1 : n0 = m
              · subst h1
                have h2 : ¬ ((ts.length : Int) = us.length) := fun z => h ⟨rfl, by omega⟩
                have h3 : ¬ ts.length = us.length := fun z => h ⟨rfl, z⟩
                simp -implicitDefEqProofs [varX, lockE, lstAt, prP, py_f, ix, iy, Tm.isV, h2, h3]
              · simp -implicitDefEqProofs [varX, lockE, lstAt, prP, py_f, ix, iy, Tm.isV, h1]
            · intro e
              have := hk.mp (decide_eq_true e) _ List.mem_cons_self
              have e2 := Tm.f.inj this
              exact h ⟨e2.1, by rw [e2.2]⟩
end K10

/-! ## V10_a_match -/
namespace K10
open PySem L2 DL DM
variable [Tb]
def MtSt (A B : Option Sv) (R : Option Sb) (n : Nat) (st : DS) : Prop := ∃ (L : List (Tm × Tm)) (s : Sb) (a b : Option Sv), n = szs (L.map (·.1)) ∧ n + s.length ≤ 9000 ∧ (∀ p ∈ L, p.2.sz ≤ 9000) ∧ (∀ p ∈ s, p.2.sz ≤ 9000) ∧ mtS L s = R ∧
  st = [A, B, some (.dic (sbP s)), some (.lst (L.map prP).reverse), a, b]
def endMt (R : Option Sb) : Sv := match R with
  | some s => .dic (sbP s)
  | none => .val .non
theorem match_ok {t u : Tm} (ht : t.sz ≤ 9000) (hu : u.sz ≤ 9000) : M_match [.val t.py, .val u.py] = .ret (endMt (mtc t u [])) [some (.val t.py), some (.val u.py)] := by
  have key := whileS_post (c := DL.e1 (varX 3) truS) (b := B_match_1) (P := MtSt (some (.val t.py)) (some (.val u.py)) (mtc t u []))
    (R := fun r => (∃ s c a b, mtc t u [] = some s ∧ r = .nx [some (.val t.py), some (.val u.py), some (.dic (sbP s)), c, a, b]) ∨ (mtc t u [] = none ∧ ∃ d c a b, r = .rt (.val .non) [some (.val t.py), some (.val u.py), d, c, a, b])) ?_ t.sz [some (.val t.py), some (.val u.py), some (.dic []), some (.lst [prP (t, u)]), none, none]
    ⟨[(t, u)], [], none, none, by simp [szs], by simpa using ht, by simpa using hu, nofun, by simp only [mtS]; cases mtc t u [] <;> rfl, rfl⟩
  · unfold M_match
    rw [runF_eq]
    unfold prP at key
    rcases key with ⟨s, c, a, b, e, q⟩ | ⟨e, d, c, a, b, q⟩
    · rw [e]
      simp -implicitDefEqProofs [lockE, takeO_d, q, endMt]
    · rw [e]
      simp -implicitDefEqProofs [lockE, q, endMt]
  · rintro n st ⟨L, s, a, b, hn, h9, hL2, hs2, hk, rfl⟩
    cases L with
    | nil => exact .inl ⟨_, by simp [varX] <;> rfl, .inl ⟨s, _, a, b, hk.symm, rfl⟩⟩
    | cons p L =>
      obtain ⟨x, y⟩ := p
      right
      have hx := sz_eq x
      have hL := len_szs (L.map (·.1))
      rw [List.length_map] at hL
      simp only [List.map_cons, szs] at hn
      have ix := isvar_ok x
      have iy := isvar_ok y
      have hy := hL2 _ List.mem_cons_self
      simp only at hy
      refine ⟨_, by simp [varX] <;> rfl, ?_⟩
      cases x with
      | v x =>
        simp only [py_v] at ix
        cases hg : s.get x with
        | none =>
          left
          have l1 : (sbP s).length < sizeLine := sL2 (by unfold sbP; rw [List.length_map]; omega)
          have ep : putP (sbP s) (.str x) y.py = sbP (s ++ [(x, y)]) := by rw [putP_sb, Sb.upd_none hg]
          refine ⟨szs (L.map (·.1)), [some (.val t.py), some (.val u.py), some (.dic (sbP (s ++ [(x, y)]))), some (.lst (L.map prP).reverse), some (.val (.str x)), some (.val y.py)], by omega, .inl ?_, L, s ++ [(x, y)], _, _, rfl, by simp; omega, fun p hp => hL2 p (List.mem_cons_of_mem _ hp), fun p hp => ?_, ?_, rfl⟩
          · unfold B_match_1
            simp -implicitDefEqProofs [varX, varX_d, lockE, lstAt, prP, py_v, ix, Tm.isV, getP_sb, hg, l1, ep]
          · rcases List.mem_append.mp hp with hp | hp
            · exact hs2 p hp
            · rw [List.mem_singleton.mp hp]; exact hy
          · rw [← hk, mtS, mtc, hg]; rfl
        | some w =>
          have hw := hs2 _ (Sb.get_mem hg)
          have es := same_ok (t := w) (u := y) hw
          by_cases h : w = y
          · left
            have ed := decide_eq_true h
            refine ⟨szs (L.map (·.1)), [some (.val t.py), some (.val u.py), some (.dic (sbP s)), some (.lst (L.map prP).reverse), some (.val (.str x)), some (.val y.py)], by omega, .inl ?_, L, s, _, _, rfl, by omega, fun p hp => hL2 p (List.mem_cons_of_mem _ hp), hs2, ?_, rfl⟩
            · unfold B_match_1
              simp -implicitDefEqProofs [varX, varX_d, lockE, lstAt, prP, py_v, ix, Tm.isV, getP_sb, hg, es, ed]
            · rw [← hk, mtS, mtc, hg]; simp [h]
          · right; right; left
            have ed := decide_eq_false h
            refine ⟨.val .non, [some (.val t.py), some (.val u.py), some (.dic (sbP s)), some (.lst (L.map prP).reverse), some (.val (.str x)), some (.val y.py)], ?_, .inr ⟨?_, _, _, _, _, rfl⟩⟩
            · unfold B_match_1
              simp -implicitDefEqProofs [varX, varX_d, lockE, lstAt, prP, py_v, ix, Tm.isV, getP_sb, hg, es, ed]
            · rw [← hk, mtS, mtc, hg]; simp [h]
      | f n0 ts =>
        cases y with
        | v y =>
          right; right; left
          refine ⟨.val .non, [some (.val t.py), some (.val u.py), some (.dic (sbP s)), some (.lst (L.map prP).reverse), some (.val (Tm.f n0 ts).py), some (.val (.str y))], ?_, .inr ⟨?_, _, _, _, _, rfl⟩⟩
          · simp only [py_v] at iy
            unfold B_match_1
            simp -implicitDefEqProofs [varX, lockE, lstAt, prP, py_v, ix, iy, Tm.isV]
          · rw [← hk, mtS, mtc]; rfl
        | f m us =>
          by_cases h : n0 = m ∧ ts.length = us.length
          · obtain ⟨rfl, hl⟩ := h
            have hts := len_szs ts
            simp only [Tm.kids] at hx
            have hz : szs ((ts.zip us).map (·.1)) = szs ts := by rw [List.map_fst_zip (by omega)]
            have l2 : L.length + (ts.zip us).length ≤ sizeLine := sLe2 (by rw [List.length_zip]; omega)
            have l3 : L.length + us.length ≤ sizeLine := sLe2 (by omega)
            left
            refine ⟨szs ts + szs (L.map (·.1)), [some (.val t.py), some (.val u.py), some (.dic (sbP s)), some (.lst ((ts.zip us ++ L).map prP).reverse), some (.val (Tm.f n0 ts).py), some (.val (Tm.f n0 us).py)], by omega, .inl ?_, ts.zip us ++ L, s, _, _, ?_, by omega, fun p hp => ?_, hs2, ?_, rfl⟩
            · unfold B_match_1
              rw [py_f] at ix iy
              simp -implicitDefEqProofs [varX, lockE, lstAt, prP, py_f, ix, iy, Tm.isV, hl, zip_prP, zip_prP2, l2, l3]
            · rw [List.map_append, szs_append, hz]
            · rcases List.mem_append.mp hp with hp | hp
              · have h1 := (List.of_mem_zip hp).2
                have h2 := (kids_le (n := n0) h1).2
                have h3 := sz_eq (Tm.f n0 us)
                simp only [Tm.kids] at h3
                omega
              · exact hL2 p (List.mem_cons_of_mem _ hp)
            · rw [mtS_zip, ← hk, mtS, mtc, if_pos ⟨rfl, hl⟩]
          · right; right; left
            refine ⟨.val .non, [some (.val t.py), some (.val u.py), some (.dic (sbP s)), some (.lst (L.map prP).reverse), some (.val (Tm.f n0 ts).py), some (.val (Tm.f m us).py)], ?_, .inr ⟨?_, _, _, _, _, rfl⟩⟩
            · unfold B_match_1
              rw [py_f] at ix iy
              by_cases h1 : n0 = m
              · subst h1
                have h3 : ¬ ts.length = us.length := fun z => h ⟨rfl, z⟩
                have h2 : ¬ ((ts.length : Int) = us.length) := fun z => h ⟨rfl, by omega⟩
                simp -implicitDefEqProofs [varX, lockE, lstAt, prP, py_f, ix, iy, Tm.isV, h2, h3]
              · simp -implicitDefEqProofs [varX, lockE, lstAt, prP, py_f, ix, iy, Tm.isV, h1]
            · rw [← hk, mtS, mtc, if_neg h]; rfl
end K10

/-! ## V10_a_at -/
namespace K10
open PySem L2 DL DM
variable [Tb]
theorem at_loop (P : Option Sv) : ∀ (p : List Int) (t : Tm) (k a : Option Sv), (∃ u k' a', t.at_ p = some u ∧ forS (gNameS 2) B_at_1 (p.map .int) [some (.val t.py), P, k, a] = .nx [some (.val u.py), P, k', a']) ∨ 
    ∃ t' k' a', t.at_ p = none ∧ forS (gNameS 2) B_at_1 (p.map .int) [some (.val t.py), P, k, a] = .ex ⟨"StepError", none⟩ [t', P, k', a']
  | [], t, k, a => .inl ⟨t, k, a, rfl, by simp⟩
  | i :: p, t, k, a => by
    rw [List.map_cons, forS_cons (st1 := [some (.val t.py), P, some (.val (.int i)), a]) (by simp), Tm.at_]
    by_cases h : 0 ≤ i ∧ i.toNat < t.kids.length
    · rw [dif_pos h]
      have ix := ix_kid h
      have h1 : 0 ≤ i := h.1
      have h2 : i < (t.kids.length : Int) := by have := h.2; omega
      have eb : B_at_1 [some (.val t.py), P, some (.val (.int i)), a] = .nx [some (.val (t.kids[i.toNat]'h.2).py), P, some (.val (.int i)), some (.val (.tup (t.kids.map Tm.py)))] := by
        unfold B_at_1
        simp -implicitDefEqProofs [varX, inner_ok, h1, h2, ix]
      rw [eb]
      rcases at_loop P p (t.kids[i.toNat]'h.2) (some (.val (.int i))) (some (.val (.tup (t.kids.map Tm.py)))) with ⟨u, k', a', e1, e2⟩ | ⟨t', k', a', e1, e2⟩
      · exact .inl ⟨u, k', a', e1, e2⟩
      · exact .inr ⟨t', k', a', e1, e2⟩
    · rw [dif_neg h]
      right
      refine ⟨some (.val t.py), some (.val (.int i)), some (.val (.tup (t.kids.map Tm.py))), rfl, ?_⟩
      unfold B_at_1
      by_cases h1 : 0 ≤ i
      · have h2 : ¬ i < (t.kids.length : Int) := by omega
        simp -implicitDefEqProofs [varX, inner_ok, h1, h2]
      · simp -implicitDefEqProofs [varX, inner_ok, h1]
theorem at_ok (t : Tm) (p : List Int) : M_at [.val t.py, .val (plI p)] = endAt (t.at_ p) [none, some (.val (plI p))] := by
  unfold M_at
  rw [runF_eq]
  rcases at_loop (some (.val (plI p))) p t none none with ⟨u, k', a', e1, e2⟩ | ⟨t', k', a', e1, e2⟩
  · rw [e1]
    unfold plI at e2 ⊢
    simp -implicitDefEqProofs [lockE, takeO, e2, endAt]
  · rw [e1]
    unfold plI at e2 ⊢
    simp -implicitDefEqProofs [lockE, takeO, e2, endAt]
end K10

/-! ## V10_a_put -/
namespace K10
open PySem L2 DL DM
variable [Tb]
theorem put_loop1 (P S O : Option Sv) : ∀ (p : List Int) (t : Tm) (w : List Py) (k a : Option Sv), w.length + p.length ≤ 900 → (∃ u k' a', t.at_ p = some u ∧ forS (gNameS 4) B_put_1 (p.map .int) [some (.val t.py), P, S, some (.lst w), k, a, O] = .nx [some (.val u.py), P, S, some (.lst (w ++ (t.way p).map wP)), k', a', O]) ∨ 
    ∃ t' w' k' a', t.at_ p = none ∧ forS (gNameS 4) B_put_1 (p.map .int) [some (.val t.py), P, S, some (.lst w), k, a, O] = .ex ⟨"StepError", none⟩ [t', P, S, w', k', a', O]
  | [], t, w, k, a, _ => .inl ⟨t, k, a, rfl, by simp [Tm.way]⟩
  | i :: p, t, w, k, a, hz => by
    rw [List.map_cons, forS_cons (st1 := [some (.val t.py), P, S, some (.lst w), some (.val (.int i)), a, O]) (by simp), Tm.at_, Tm.way]
    by_cases h : 0 ≤ i ∧ i.toNat < t.kids.length
    · rw [dif_pos h, dif_pos h]
      have ix := ix_kid h
      have h1 : 0 ≤ i := h.1
      have h2 : i < (t.kids.length : Int) := by have := h.2; omega
      have l1 : w.length < sizeLine := sL (by rw [List.length_cons] at hz; omega)
      have eb : B_put_1 [some (.val t.py), P, S, some (.lst w), some (.val (.int i)), a, O] = .nx [some (.val (t.kids[i.toNat]'h.2).py), P, S, some (.lst (w ++ [wP (t, i)])), some (.val (.int i)), some (.val (.tup (t.kids.map Tm.py))), O] := by
        unfold B_put_1 wP
        simp -implicitDefEqProofs [varX, lockE, lstAt, inner_ok, h1, h2, ix, l1]
      rw [eb]
      rcases put_loop1 P S O p (t.kids[i.toNat]'h.2) (w ++ [wP (t, i)]) (some (.val (.int i))) (some (.val (.tup (t.kids.map Tm.py)))) (by simp at hz ⊢; omega) with ⟨u, k', a', e1, e2⟩ | ⟨t', w', k', a', e1, e2⟩
      · refine .inl ⟨u, k', a', e1, ?_⟩
        rw [loopS_nx, e2]
        simp
      · exact .inr ⟨t', w', k', a', e1, e2⟩
    · rw [dif_neg h]
      right
      refine ⟨some (.val t.py), some (.lst w), some (.val (.int i)), some (.val (.tup (t.kids.map Tm.py))), rfl, ?_⟩
      unfold B_put_1
      by_cases h1 : 0 ≤ i
      · have h2 : ¬ i < (t.kids.length : Int) := by omega
        simp -implicitDefEqProofs [varX, inner_ok, h1, h2]
      · simp -implicitDefEqProofs [varX, inner_ok, h1]
theorem put_loop2 (T P W A : Option Sv) : ∀ (p : List Int) (t s : Tm) (l2 : List Py) (k o : Option Sv), t.sz ≤ 800 → t.at_ p ≠ none → ∃ k' o', forS (gTupS 2 (gConsS (gNameS 6) (gConsS (gNameS 4) gNilS))) B_put_2 ((t.way p).reverse.map wP ++ l2) [T, P, some (.val s.py), W, k, A, o] =
    forS (gTupS 2 (gConsS (gNameS 6) (gConsS (gNameS 4) gNilS))) B_put_2 l2 [T, P, some (.val (t.put_ p s).py), W, k', A, o']
  | [], t, s, l2, k, o, _, _ => ⟨k, o, by simp [Tm.way, Tm.put_]⟩
  | i :: p, t, s, l2, k, o, hz, ha => by
    rw [Tm.at_] at ha
    rw [Tm.way, Tm.put_]
    by_cases h : 0 ≤ i ∧ i.toNat < t.kids.length
    · rw [dif_pos h] at ha
      rw [dif_pos h, dif_pos h]
      have hm := List.getElem_mem h.2
      have hs := kid_sz hm
      obtain ⟨k', o', e⟩ := put_loop2 T P W A p (t.kids[i.toNat]'h.2) s (wP (t, i) :: l2) k o (by omega) ha
      generalize (t.kids[i.toNat]'h.2).put_ p s = u at e
      refine ⟨some (.val (.int i)), some (.val t.py), ?_⟩
      rw [List.reverse_cons, List.map_append, List.append_assoc]
      have e' : [(t, i)].map wP ++ l2 = wP (t, i) :: l2 := rfl
      rw [e', e, forS_cons (st1 := [T, P, some (.val u.py), W, some (.val (.int i)), A, some (.val t.py)]) (by simp [wP])]
      obtain ⟨j, rfl⟩ := Int.eq_ofNat_of_zero_le h.1
      have hj : j < t.kids.length := by have := h.2; simpa using this
      have hl := len_szs t.kids
      rw [sz_eq] at hz
      cases t with
      | v x => simp [Tm.kids] at hj
      | f n ts =>
        simp only [Tm.kids] at hj hl hz
        have l1 : min j ts.length + 1 ≤ sizeLine := sLe (by omega)
        have l2' : min j ts.length + 1 + (ts.length - (j + 1)) ≤ sizeLine := sLe (by omega)
        have eb : B_put_2 [T, P, some (.val u.py), W, some (.val (.int (j : Int))), A, some (.val (Tm.f n ts).py)] = .nx [T, P, some (.val ((Tm.f n ts).node j u).py), W, some (.val (.int (j : Int))), A, some (.val (Tm.f n ts).py)] := by
          unfold B_put_2
          rw [py_f, Tm.node, py_f]
          simp -implicitDefEqProofs [varX, lockE, cutP_take, cutP_drop1, l1, l2']
        rw [eb]
        simp
    · rw [dif_neg h] at ha
      exact absurd rfl ha
theorem put_ok {t s : Tm} (ht : t.sz ≤ 400) (hs : s.sz ≤ 400) {p : List Int} (hp : p.length ≤ 800) (h1 : (t.put_ p s).sz ≤ 400) (h2 : (t.put_ p s).dp ≤ 40) : M_put [.val t.py, .val (plI p), .val s.py] = endAt ((t.at_ p).map fun _ => t.put_ p s) [none, some (.val (plI p)), none] := by
  unfold M_put
  rw [runF_eq]
  rcases put_loop1 (some (.val (plI p))) (some (.val s.py)) none p t [] none none (by simp; omega) with ⟨u, k', a', e1, e2⟩ | ⟨t', w', k', a', e1, e2⟩
  · obtain ⟨k2, o2, e3⟩ := put_loop2 (some (.val u.py)) (some (.val (plI p))) (some (.lst ((t.way p).map wP))) a' p t s [] k' none (by omega) (by rw [e1]; exact nofun)
    have hz := put_sz s p t
    have z1 := size_ok (t := t.put_ p s) (by omega)
    have z2 := depth_ok (t := t.put_ p s) (by omega)
    have z3 := small_ok (a := ((t.put_ p s).sz : Int)) (b := ((t.put_ p s).dp : Int)) (by omega) (by omega)
    rw [e1]
    unfold plI at *
    simp at e2 e3
    simp -implicitDefEqProofs [lockE, varX, takeO, e2, endAt, e3, z1, z2, z3]
  · rw [e1]
    unfold plI at *
    simp -implicitDefEqProofs [lockE, takeO, e2, endAt]
theorem put_big {t s : Tm} (ht : t.sz ≤ 400) (hs : s.sz ≤ 400) {p : List Int} (hp : p.length ≤ 800) (ha : t.at_ p ≠ none) (h : ¬ ((t.put_ p s).sz ≤ 400 ∧ (t.put_ p s).dp ≤ 40)) : ∃ outs, M_put [.val t.py, .val (plI p), .val s.py] = .ex ⟨"LimitError", none⟩ outs := by
  unfold M_put
  rw [runF_eq]
  rcases put_loop1 (some (.val (plI p))) (some (.val s.py)) none p t [] none none (by simp; omega) with ⟨u, k', a', e1, e2⟩ | ⟨t', w', k', a', e1, e2⟩
  · obtain ⟨k2, o2, e3⟩ := put_loop2 (some (.val u.py)) (some (.val (plI p))) (some (.lst ((t.way p).map wP))) a' p t s [] k' none (by omega) ha
    have hz := put_sz s p t
    have z1 := size_ok (t := t.put_ p s) (by omega)
    have z2 := depth_ok (t := t.put_ p s) (by omega)
    have z3 := small_bad (a := ((t.put_ p s).sz : Int)) (b := ((t.put_ p s).dp : Int)) (by omega)
    refine ⟨[none, some (.val (plI p)), none], ?_⟩
    unfold plI at *
    simp at e2 e3
    simp -implicitDefEqProofs [lockE, varX, takeO, e2, e3, z1, z2, z3]
  · exact absurd e1 ha
end K10

/-! ## V10_a_pos -/
namespace K10
open PySem L2 DL DM
variable [Tb]
theorem pos_in (t f : Option Sv) (p : List Nat) (u : Tm) (hp : p.length ≤ 900) (hk : u.kids.length ≤ 900) : ∀ (m : Nat) (left : List Py) (o : Option Sv), m ≤ u.kids.length → left.length + m ≤ 1800 →
    ∃ o', forS (gNameS 6) B_positions_1 (rangeL ((m : Int) - 1) (-1) m) [t, f, some (.lst left), some (.val (plP p)), some (.val u.py), some (.val (.tup (u.kids.map Tm.py))), o] =
      .nx [t, f, some (.lst (left ++ (((kidP p 0 u.kids).take m).map ppP).reverse)), some (.val (plP p)), some (.val u.py), some (.val (.tup (u.kids.map Tm.py))), o']
  | 0, left, o, _, _ => ⟨o, by simp [rangeL_0]⟩
  | m + 1, left, o, hm, hz => by
    obtain ⟨o', e⟩ := pos_in t f p u hp hk m (left ++ [ppP (p ++ [m], u.kids[m])]) (some (.val (.int m))) (by omega) (by simp; omega)
    refine ⟨o', ?_⟩
    have hm1 : ((m + 1 : Nat) : Int) - 1 = m := by omega
    have hm2 : (m : Int) + -1 = (m : Int) - 1 := by omega
    have ix : atI (u.kids.map Tm.py) (m : Int) = some u.kids[m].py := by rw [DL.atI_nat (by simp; omega)]; simp
    have l1 : left.length < sizeLine := Nat.lt_of_lt_of_le (show left.length < 2000 by omega) (by decide)
    have l2 : p.length + 1 ≤ sizeLine := sLe (by omega)
    have et : (kidP p 0 u.kids).take (m + 1) = (kidP p 0 u.kids).take m ++ [(p ++ [m], u.kids[m])] := by
      rw [List.take_succ_eq_append_getElem (by rw [kidP_len]; omega), kidP_get p u.kids 0 m (by omega), Nat.zero_add]
    rw [hm1, rangeL_s, hm2, forS_cons (st1 := [t, f, some (.lst left), some (.val (plP p)), some (.val u.py), some (.val (.tup (u.kids.map Tm.py))), some (.val (.int m))]) (by simp), et]
    unfold B_positions_1 ppP plP at e ⊢
    simp at e
    simp -implicitDefEqProofs [varX, lockE, lstAt, ix, l1, l2, e]
theorem pos_loop (t : Option Sv) : ∀ (m : Nat) (L : List (List Nat × Tm)) (found : List Py) (a b c d : Option Sv), szL L ≤ m → found.length + szL L ≤ 800 → (∀ q ∈ L, q.1.length + q.2.dp ≤ 800) →
    ∃ a' b' c' d', whileS (DL.e1 (varX 2) truS) B_positions_2 [t, some (.lst found), some (.lst (L.map ppP).reverse), a, b, c, d] = .nx [t, some (.lst (found ++ (posL L).map plP)), some (.lst []), a', b', c', d']
  | _, [], found, a, b, c, d, _, _, _ => ⟨a, b, c, d, by rw [whileS_eq]; simp [varX, posL]⟩
  | 0, u :: L, found, a, b, c, d, hm, _, _ => by
    unfold szL at hm
    rw [List.map_cons, szs, sz_eq] at hm; omega
  | m + 1, (p, u) :: L, found, a, b, c, d, hm, hz, hq => by
    have hpu := hq _ List.mem_cons_self
    simp only at hpu
    have hsz : szL ((p, u) :: L) = 1 + szs u.kids + szL L := by unfold szL; rw [List.map_cons, szs, sz_eq]
    have hk := len_szs u.kids
    have hL : L.length ≤ szL L := by unfold szL; have := len_szs (L.map (·.2)); simpa using this
    obtain ⟨o, e1⟩ := pos_in t (some (.lst (found ++ [plP p]))) p u (by omega) (by omega) u.kids.length (L.map ppP).reverse d (Nat.le_refl _) (by simp; omega)
    rw [take_all _ (kidP_len p u.kids 0)] at e1
    have hdk : ∀ (ts : List Tm) (i k : Nat), dps ts ≤ k → ∀ q ∈ kidP p i ts, q.1.length + q.2.dp ≤ p.length + 1 + k := by
      intro ts
      induction ts with
      | nil => intro i k _ q hq; cases hq
      | cons v vs ih =>
        intro i k hk q hq
        rw [dps] at hk
        rw [kidP] at hq
        rcases List.mem_cons.mp hq with rfl | hq
        · simp; omega
        · exact ih (i + 1) k (by omega) q hq
    have szk : szL (kidP p 0 u.kids ++ L) = szs u.kids + szL L := by unfold szL; rw [List.map_append, szs_append, kidP_sz]
    obtain ⟨a', b', c', d', e⟩ := pos_loop t m (kidP p 0 u.kids ++ L) (found ++ [plP p]) (some (.val (plP p))) (some (.val u.py)) (some (.val (.tup (u.kids.map Tm.py)))) o (by omega) (by simp; omega) (fun q hq' => by
      rcases List.mem_append.mp hq' with h | h
      · have := hdk u.kids 0 (dps u.kids) (Nat.le_refl _) q h
        rw [dp_eq] at hpu
        omega
      · exact hq q (List.mem_cons_of_mem _ h))
    refine ⟨a', b', c', d', ?_⟩
    have l1 : found.length < sizeLine := sL (by omega)
    have hin : inB ((u.kids.length : Int) - 1) = true := by unfold inB; simp only [decide_eq_true_eq]; omega
    have hin2 : inB (-1) = true := by decide
    have hnn : ((u.kids.length : Int) - 1 - -1).toNat = u.kids.length := by omega
    have ep : posL ((p, u) :: L) = p :: (posL (kidP p 0 u.kids) ++ posL L) := by
      rw [posL_kid]
      unfold posL
      rw [List.flatMap_cons, pl_eq]
      simp
    have ea : posL (kidP p 0 u.kids ++ L) = posL (kidP p 0 u.kids) ++ posL L := by unfold posL; rw [List.flatMap_append]
    rw [whileS_eq, ep]
    rw [ea] at e
    unfold B_positions_2 at e ⊢
    simp at e e1
    simp -implicitDefEqProofs [varX, lockE, lstAt, inner_ok, l1, hin, hin2, hnn, ppP, e1, e]
theorem positions_ok {t : Tm} (h : t.sz ≤ 400) : M_positions [.val t.py] = .ret (.lst (t.pl.map plP)) [some (.val t.py)] := by
  have hd := dp_sz t
  obtain ⟨a', b', c', d', e⟩ := pos_loop (some (.val t.py)) t.sz [([], t)] [] none none none none (by simp [szL, szs]) (by simp [szL, szs]; omega) (by simp; omega)
  unfold M_positions
  rw [runF_eq]
  simp [posL, ppP, plP] at e
  simp -implicitDefEqProofs [varX, lockE, takeO, e]
end K10

/-! ## V10_l_places -/
namespace K10
open PySem L2 DL DM
variable [Tb]
theorem places_in (t f : Option Sv) (k : Nat) : ∀ (ps : List (List Nat)) (acc : List Py), (∀ p ∈ ps, p.length ≤ 90000) → acc.length + ps.length ≤ 90000 →
    lcS (gNameS 3) yesT C__law_places_1 [3] (ps.map plP) acc [t, f, some (.val (.int k)), none] = .ok (.lst (acc ++ (ps.map (k :: ·)).map plP)) [t, f, some (.val (.int k)), none]
  | [], acc, _, _ => by simp
  | p :: ps, acc, hp, hz => by
    have l1 : acc.length < sizeLine := sL2 (by simp at hz; omega)
    have l2 : 1 + p.length ≤ sizeLine := sLe2 (by have := hp p List.mem_cons_self; omega)
    have l3 : p.length + 1 ≤ sizeLine := by omega
    have e := places_in t f k ps (acc ++ [plP (k :: p)]) (fun q hq => hp q (List.mem_cons_of_mem _ hq)) (by simp at hz ⊢; omega)
    rw [List.map_cons, lcS_cons (st1 := [t, f, some (.val (.int k)), some (.val (plP p))]) (by simp)]
    unfold C__law_places_1 plP at e ⊢
    simp at e
    simp -implicitDefEqProofs [varX, lockE, l1, l2, l3, e]
theorem places_loop {R : FM} {n : Str} {ts : List Tm} (hR : ∀ t ∈ ts, R [.val t.py] = .ret (.lst (t.pl.map plP)) [some (.val t.py)]) (hz : szs ts ≤ 80000) : ∀ (m i : Nat) (found : List Py) (k p : Option Sv), i + m = ts.length → found.length + szs (ts.drop i) ≤ 90000 →
    ∃ k' p', forS (gNameS 2) (B__law_places_2 R) (rangeL i 1 m) [some (.val (Tm.f n ts).py), some (.lst found), k, p] = .nx [some (.val (Tm.f n ts).py), some (.lst (found ++ (pls i (ts.drop i)).map plP)), k', p']
  | 0, i, found, k, p, hi, _ => by
    refine ⟨k, p, ?_⟩
    rw [rangeL_0, List.drop_of_length_le (by omega)]
    simp [pls]
  | m + 1, i, found, k, p, hi, hf => by
    have hlt : i < ts.length := by omega
    have ed : ts.drop i = ts[i] :: ts.drop (i + 1) := List.drop_eq_getElem_cons hlt
    have hmem : ts[i] ∈ ts := List.getElem_mem hlt
    have hR1 := hR _ hmem
    rw [ed, szs] at hf
    have szi : ts[i].sz ≤ 90000 := by omega
    have dpi : ∀ q ∈ ts[i].pl, q.length ≤ 90000 := fun q hq => by
      have := pl_lt _ q hq
      have := dp_sz ts[i]
      omega
    have li := pl_len ts[i]
    have e1 := places_in (some (.val (Tm.f n ts).py)) (some (.lst found)) i ts[i].pl [] dpi (by simp; omega)
    obtain ⟨k', p', e2⟩ := places_loop (n := n) hR hz m (i + 1) (found ++ (ts[i].pl.map (i :: ·)).map plP) (some (.val (.int i))) none (by omega) (by simp [li]; omega)
    refine ⟨k', p', ?_⟩
    have ix : atI (ts.map Tm.py) (i : Int) = some ts[i].py := by rw [DL.atI_nat (by simpa using hlt)]; simp
    have l1 : found.length + ts[i].pl.length ≤ sizeLine := sLe2 (by omega)
    rw [rangeL_s, forS_cons (st1 := [some (.val (Tm.f n ts).py), some (.lst found), some (.val (.int i)), p]) (by simp), ed, pls]
    have hi1 : ((i : Int) + 1) = ((i + 1 : Nat) : Int) := rfl
    rw [hi1]
    unfold B__law_places_2 at e2 ⊢
    rw [py_f] at e1 e2 ⊢
    simp at e1 e2
    simp -implicitDefEqProofs [varX, lockE, ix, hR1, e1, l1, e2]
theorem places_ok : ∀ (n : Nat) (t : Tm), t.dp ≤ n → t.sz ≤ 80000 → M__law_places n [.val t.py] = .ret (.lst (t.pl.map plP)) [some (.val t.py)]
  | 0, t, h, _ => by rw [dp_eq] at h; omega
  | n + 1, .v x, h, _ => by
    rw [M__law_places, runF_eq]
    simp -implicitDefEqProofs [varX, takeO, py_v, Tm.pl, plP]
  | n + 1, .f x ts, h, hz => by
    rw [Tm.dp] at h
    rw [Tm.sz] at hz
    have hR : ∀ t ∈ ts, M__law_places n [.val t.py] = .ret (.lst (t.pl.map plP)) [some (.val t.py)] := fun t ht => by
      have h1 : t.dp ≤ dps ts ∧ t.sz ≤ szs ts := by
        clear h hz
        induction ts with
        | nil => cases ht
        | cons u us ih =>
          rw [dps, szs]
          rcases List.mem_cons.mp ht with rfl | ht
          · omega
          · have := ih ht; omega
      exact places_ok n t (by omega) (by omega)
    obtain ⟨k', p', e⟩ := places_loop (n := x) hR (by omega) ts.length 0 [.tup []] none none (by simp) (by simp; omega)
    have hl := len_szs ts
    have hin : inB (ts.length : Int) = true := by unfold inB; simp only [decide_eq_true_eq]; omega
    rw [M__law_places, runF_eq]
    rw [py_f] at e ⊢
    simp at e
    simp -implicitDefEqProofs [varX, takeO, hin, e, Tm.pl, plP]
end K10

/-! ## V10_l_at -/
namespace K10
open PySem L2 DL DM
variable [Tb]
theorem lawat_loop (P : Option Sv) : ∀ (p : List Int) (t : Tm) (k : Option Sv), (∃ u k', t.at_ p = some u ∧ forS (gNameS 2) B__law_at_1 (p.map .int) [some (.val t.py), P, k] = .nx [some (.val u.py), P, k']) ∨ 
    ∃ t' k', t.at_ p = none ∧ forS (gNameS 2) B__law_at_1 (p.map .int) [some (.val t.py), P, k] = .rt (.val .non) [t', P, k']
  | [], t, k => .inl ⟨t, k, rfl, by simp⟩
  | i :: p, t, k => by
    rw [List.map_cons, forS_cons (st1 := [some (.val t.py), P, some (.val (.int i))]) (by simp), Tm.at_]
    cases t with
    | v x =>
      right
      refine ⟨some (.val (Tm.v x).py), some (.val (.int i)), by simp [Tm.kids], ?_⟩
      unfold B__law_at_1
      simp -implicitDefEqProofs [varX, py_v]
    | f n ts =>
      by_cases h : 0 ≤ i ∧ i.toNat < (Tm.f n ts).kids.length
      · rw [dif_pos h]
        have ix := ix_kid h
        have h1 : ¬ i < 0 := by omega
        have h2 : ¬ (ts.length : Int) ≤ i := by have := h.2; simp only [Tm.kids] at this; omega
        simp only [Tm.kids] at ix
        have eb : B__law_at_1 [some (.val (Tm.f n ts).py), P, some (.val (.int i))] = .nx [some (.val ((Tm.f n ts).kids[i.toNat]'h.2).py), P, some (.val (.int i))] := by
          unfold B__law_at_1
          rw [py_f]
          simp -implicitDefEqProofs [varX, h1, h2, ix, Tm.kids]
        rw [eb]
        rcases lawat_loop P p ((Tm.f n ts).kids[i.toNat]'h.2) (some (.val (.int i))) with ⟨u, k', e1, e2⟩ | ⟨t', k', e1, e2⟩
        · exact .inl ⟨u, k', e1, e2⟩
        · exact .inr ⟨t', k', e1, e2⟩
      · rw [dif_neg h]
        right
        refine ⟨some (.val (Tm.f n ts).py), some (.val (.int i)), rfl, ?_⟩
        simp only [Tm.kids] at h
        unfold B__law_at_1
        rw [py_f]
        by_cases h1 : i < 0
        · simp -implicitDefEqProofs [varX, h1]
        · have h2 : (ts.length : Int) ≤ i := by omega
          simp -implicitDefEqProofs [varX, h1, h2]
theorem lawat_ok (t : Tm) (p : List Int) : M__law_at [.val t.py, .val (plI p)] = .ret (.val (optP (t.at_ p))) [none, some (.val (plI p))] := by
  unfold M__law_at
  rw [runF_eq]
  rcases lawat_loop (some (.val (plI p))) p t none with ⟨u, k', e1, e2⟩ | ⟨t', k', e1, e2⟩
  · rw [e1]
    unfold plI at e2 ⊢
    simp -implicitDefEqProofs [lockE, takeO, e2, optP]
  · rw [e1]
    unfold plI at e2 ⊢
    simp -implicitDefEqProofs [lockE, takeO, e2, optP]
end K10

/-! ## V10_l_put -/
namespace K10
open PySem L2 DL DM
variable [Tb]
theorem lawput_ok : ∀ (n : Nat) (p : List Int) (t s : Tm), p.length < n → p.length ≤ 900 → t.sz ≤ 9000 → t.at_ p ≠ none → M__law_put n [.val t.py, .val (plI p), .val s.py] = .ret (.val (t.put_ p s).py) [some (.val t.py), some (.val (plI p)), some (.val s.py)]
  | 0, p, t, s, h, _, _, _ => absurd h (Nat.not_lt_zero _)
  | n + 1, [], t, s, _, _, _, _ => by
    have := eq_nil []
    rw [M__law_put, runF_eq]
    unfold plI
    simp at this
    simp -implicitDefEqProofs [varX, takeO, this, Tm.put_]
  | n + 1, i :: p, t, s, h, hl, hz, ha => by
    rw [Tm.at_] at ha
    rw [Tm.put_]
    by_cases hv : 0 ≤ i ∧ i.toNat < t.kids.length
    · rw [dif_pos hv] at ha ⊢
      have hm := List.getElem_mem hv.2
      have hs := kid_sz hm
      have ih := lawput_ok n p (t.kids[i.toNat]'hv.2) s (by simp at h; omega) (by simp at hl; omega) (by omega) ha
      have ix := ix_kid hv
      have en := eq_nil (i :: p)
      obtain ⟨j, rfl⟩ := Int.eq_ofNat_of_zero_le hv.1
      have hj : j < t.kids.length := by have := hv.2; simpa using this
      have hk := len_szs t.kids
      rw [sz_eq] at hz
      generalize (t.kids[(j : Int).toNat]'hv.2).put_ p s = u at ih
      have ej : (j : Int).toNat = j := rfl
      rw [ej]
      cases t with
      | v x => simp [Tm.kids] at hj
      | f x ts =>
        simp only [Tm.kids] at *
        have l1 : min j ts.length + 1 ≤ sizeLine := sLe2 (by omega)
        have l2' : min j ts.length + 1 + (ts.length - (j + 1)) ≤ sizeLine := sLe2 (by omega)
        have c1 : cutP (Py.int (j : Int) :: p.map Py.int) (some 1) none = p.map Py.int := cutP_drop (Py.int (j : Int) :: p.map Py.int) 1
        rw [M__law_put, runF_eq]
        rw [py_f, Tm.node, py_f]
        unfold plI at *
        simp at en
        simp only [Int.toNat_natCast] at ih ix
        simp -implicitDefEqProofs [varX, takeO, en, ix, cutP_take, cutP_drop1, c1, ih, l1, l2']
    · rw [dif_neg hv] at ha
      exact absurd rfl ha
end K10

/-! ## V10_l_names -/
namespace K10
open PySem L2 DL DM
variable [Tb]
theorem names_loop (t : Tm) : ∀ (ps : List (List Nat)) (us : List Tm) (acc : List Str) (a b : Option Sv), ps.map (fun p => t.at_ (natI p)) = us.map some → acc.length + us.length ≤ 90000 →
    ∃ a' b', forS (gNameS 2) B__law_names_1 (ps.map plP) [some (.val t.py), some (.lst (acc.map Py.str)), a, b] = .nx [some (.val t.py), some (.lst ((colT varO acc us).map Py.str)), a', b']
  | [], us, acc, a, b, h, _ => by
    cases us with
    | nil => exact ⟨a, b, by simp [colT]⟩
    | cons u us => cases h
  | p :: ps, [], acc, a, b, h, _ => by cases h
  | p :: ps, u :: us, acc, a, b, h, hz => by
    rw [List.map_cons, List.map_cons] at h
    injection h with h1 h2
    have ea := lawat_ok t (natI p)
    rw [h1, ← plP_eq] at ea
    simp only [optP] at ea
    have lz : acc.length < sizeLine := sL2 (by simp at hz; omega)
    rw [List.map_cons, forS_cons (st1 := [some (.val t.py), some (.lst (acc.map Py.str)), some (.val (plP p)), b]) (by simp)]
    cases u with
    | v x =>
      have hl := addK_len acc x
      obtain ⟨a', b', e⟩ := names_loop t ps us (addK acc x) (some (.val (plP p))) (some (.val (.str x))) h2 (by simp at hz; omega)
      refine ⟨a', b', ?_⟩
      have eb : B__law_names_1 [some (.val t.py), some (.lst (acc.map Py.str)), some (.val (plP p)), b] = .nx [some (.val t.py), some (.lst ((addK acc x).map Py.str)), some (.val (plP p)), some (.val (.str x))] := by
        have hin := inS_str x acc
        rw [py_v] at ea
        unfold B__law_names_1 addK
        by_cases hm : x ∈ acc
        · simp -implicitDefEqProofs [varX, lockE, lstAt, ea, hin, hm]
        · simp -implicitDefEqProofs [varX, lockE, lstAt, ea, hin, hm, lz]
      rw [eb, loopS_nx, e]
      rfl
    | f n ts =>
      obtain ⟨a', b', e⟩ := names_loop t ps us acc (some (.val (plP p))) (some (.val (Tm.f n ts).py)) h2 (by simp at hz; omega)
      refine ⟨a', b', ?_⟩
      have eb : B__law_names_1 [some (.val t.py), some (.lst (acc.map Py.str)), some (.val (plP p)), b] = .nx [some (.val t.py), some (.lst (acc.map Py.str)), some (.val (plP p)), some (.val (Tm.f n ts).py)] := by
        unfold B__law_names_1
        rw [py_f n ts] at ea ⊢
        simp -implicitDefEqProofs [varX, lockE, lstAt, ea]
      rw [eb, loopS_nx, e]
      rfl
theorem names_ok {t : Tm} (h : t.sz ≤ 80000) (hd : t.dp ≤ 150) : M__law_names [.val t.py] = .ret (.val (.tup ((colT varO [] t.subs).map .str))) [some (.val t.py)] := by
  obtain ⟨a, b, e⟩ := names_loop t t.pl t.subs [] none none (pl_at t) (by simp [subs_len]; omega)
  unfold M__law_names
  rw [runF_eq]
  simp at e
  simp -implicitDefEqProofs [varX, places_ok 150 t hd h, e]
end K10

/-! ## V10_l_apply -/
namespace K10
open PySem L2 DL DM
variable [Tb]
theorem lapply_loop {R : FM} {s : Sb} {w : Sv} (hw : w = .val (.dic (sbP s)) ∨ w = .dic (sbP s)) {T : Option Sv} (ts : List Tm) (hR : ∀ t ∈ ts, R [w, .val t.py] = .ret (.val (t.sub s).py) [some w, some (.val t.py)]) (hz : ts.length ≤ 9000) :
    lcS (gNameS 2) yesT (C__law_apply_1 R) [2] (ts.map Tm.py) [] [some w, T, none] = .ok (.lst ((subL s ts).map Tm.py)) [some w, T, none] := by
  rw [lc_all (g := fun t => (t.sub s).py) ts [] (by simp; exact sLe2 (by omega)) fun t ht => ⟨[some w, T, some (.val t.py)], by simp, by simp, by simp, [some w, T, some (.val t.py)], ?_, by simp⟩]
  · simp [subL_eq, Function.comp_def]
  · have h := hR t ht
    unfold C__law_apply_1
    rcases hw with rfl | rfl
    · simp -implicitDefEqProofs [varX, h]
    · simp -implicitDefEqProofs [varX, takeA_s, h]
theorem lapply_ok {s : Sb} {w : Sv} (hw : w = .val (.dic (sbP s)) ∨ w = .dic (sbP s)) : ∀ (n : Nat) (t : Tm), t.dp ≤ n → t.sz ≤ 9000 → M__law_apply n [w, .val t.py] = .ret (.val (t.sub s).py) [some w, some (.val t.py)]
  | 0, t, h, _ => by rw [dp_eq] at h; omega
  | n + 1, .v x, h, _ => by
    have e : ((s.get x).map Tm.py).getD (.str x) = ((s.get x).getD (.v x)).py := by cases s.get x <;> rfl
    rw [M__law_apply, runF_eq]
    rcases hw with rfl | rfl <;> simp -implicitDefEqProofs [varX, lockE, py_v, getP_sb, e, Tm.sub]
  | n + 1, .f x ts, h, hz => by
    rw [Tm.dp] at h
    rw [Tm.sz] at hz
    have hl := len_szs ts
    have e := lapply_loop hw (T := some (.val (Tm.f x ts).py)) ts (fun t ht => by
      have := kids_le (n := x) ht
      exact lapply_ok hw n t (by omega) (by omega)) (by omega)
    rw [M__law_apply, runF_eq]
    rw [py_f] at e ⊢
    rcases hw with rfl | rfl <;> simp -implicitDefEqProofs [varX, lockE, e, Tm.sub, py_f]
end K10

/-! ## V10_l_match -/
namespace K10
open PySem L2 DL DM
variable [Tb]
def LmOk (R : FM) (t : Tm) : Prop := ∀ (u : Tm) (s : Sb), EqOk u → (∀ q ∈ s, EqOk q.2) → s.length + t.sz ≤ 9000 → u.sz ≤ 9000 → R [.val t.py, .val u.py, .dic (sbP s)] = .ret (.val (.bl (lm t u s).1)) [some (.val t.py), some (.val u.py), some (.dic (sbP (lm t u s).2))]
theorem lmatch_loop {R : FM} {x y : Str} {ts us : List Tm} (hl : ts.length = us.length) (hR : ∀ t ∈ ts, LmOk R t) (hu : ∀ u ∈ us, EqOk u ∧ u.sz ≤ 9000) (hz : ts.length ≤ 9000) : ∀ (m i : Nat) (acc : List Py) (s : Sb), i + m = ts.length → acc.length = i → (∀ q ∈ s, EqOk q.2) → s.length + szs (ts.drop i) ≤ 9000 →
    lcS (gNameS 3) yesT (C__law_match_1 R) [3] (rangeL i 1 m) acc [some (.val (Tm.f x ts).py), some (.val (Tm.f y us).py), some (.dic (sbP s)), none] =
      .ok (.lst (acc ++ (lmB (ts.drop i) (us.drop i) s).map Py.bl)) [some (.val (Tm.f x ts).py), some (.val (Tm.f y us).py), some (.dic (sbP (lmL (ts.drop i) (us.drop i) s).2)), none]
  | 0, i, acc, s, hi, _, _, _ => by
    rw [rangeL_0, List.drop_of_length_le (l := ts) (by omega), List.drop_of_length_le (l := us) (by omega)]
    simp [lmB, lmL]
  | m + 1, i, acc, s, hi, ha, hs, hsz => by
    have h1 : i < ts.length := by omega
    have h2 : i < us.length := by omega
    have d1 : ts.drop i = ts[i] :: ts.drop (i + 1) := List.drop_eq_getElem_cons h1
    have d2 : us.drop i = us[i] :: us.drop (i + 1) := List.drop_eq_getElem_cons h2
    rw [d1, szs] at hsz
    obtain ⟨u1, u2⟩ := hu _ (List.getElem_mem h2)
    have e := hR _ (List.getElem_mem h1) us[i] s u1 hs (by omega) u2
    have hn := lm_len ts[i] us[i] s
    have ih := lmatch_loop (x := x) (y := y) hl hR hu hz m (i + 1) (acc ++ [.bl (lm ts[i] us[i] s).1]) (lm ts[i] us[i] s).2 (by omega) (by simp [ha]) (lm_mem (P := EqOk) (fun n ts h => h.kid) _ _ s u1 hs) (by omega)
    have i1 : atI (ts.map Tm.py) (i : Int) = some ts[i].py := by rw [DL.atI_nat (by simpa using h1)]; simp
    have i2 : atI (us.map Tm.py) (i : Int) = some us[i].py := by rw [DL.atI_nat (by simpa using h2)]; simp
    have l1 : acc.length < sizeLine := sL2 (by omega)
    have hi1 : ((i : Int) + 1) = ((i + 1 : Nat) : Int) := rfl
    rw [rangeL_s, lcS_cons (st1 := [some (.val (Tm.f x ts).py), some (.val (Tm.f y us).py), some (.dic (sbP s)), some (.val (.int i))]) (by simp), d1, d2, lmB, lmL, hi1]
    simp only [List.append_assoc, List.singleton_append] at ih
    unfold C__law_match_1 at ih ⊢
    rw [py_f, py_f] at ih ⊢
    simp -implicitDefEqProofs [varX, takeA_s, i1, i2, e, l1]
    simp at ih
    rw [ih]
theorem lmatch_ok : ∀ (n : Nat) (t : Tm), t.dp ≤ n → LmOk (M__law_match n) t
  | 0, t, h => by rw [dp_eq] at h; omega
  | n + 1, .v x, h => fun u s hu hs hz _ => by
    rw [M__law_match, runF_eq, lm]
    cases hg : s.get x with
    | none =>
      have l1 : (sbP s).length < sizeLine := sL2 (by unfold sbP; rw [List.length_map, ]; simp only [Tm.sz] at hz; omega)
      have ep : putP (sbP s) (.str x) u.py = sbP (s ++ [(x, u)]) := by rw [putP_sb, Sb.upd_none hg]
      simp -implicitDefEqProofs [varX, varX_d, lockE, py_v, getP_sb, hg, l1, ep]
    | some w =>
      have hw := hs _ (Sb.get_mem hg)
      have ee := eqS_tm hw.1 hu.1 hw.2 hu.2
      simp -implicitDefEqProofs [varX, varX_d, lockE, py_v, getP_sb, hg, ee]
  | n + 1, .f x ts, h => fun u s hu hs hz huz => by
    rw [M__law_match, runF_eq]
    rw [Tm.dp] at h
    cases u with
    | v y =>
      rw [lm]
      simp -implicitDefEqProofs [varX, varX_d, lockE, py_v, py_f]
    | f y us =>
      rw [lm]
      by_cases hc : x = y ∧ ts.length = us.length
      · obtain ⟨rfl, hl⟩ := hc
        rw [if_pos ⟨rfl, hl⟩]
        rw [Tm.sz] at hz huz
        have hls := len_szs ts
        have e := lmatch_loop (R := M__law_match n) (x := x) (y := x) hl (fun t ht => lmatch_ok n t (by have := kids_le (n := x) ht; omega)) (fun v hv => ⟨hu.kid v hv, by have := (kids_le (n := x) hv).2; omega⟩) (by omega) ts.length 0 [] s (by omega) rfl hs (by simp; omega)
        have hin : inB (us.length : Int) = true := by unfold inB; simp only [decide_eq_true_eq]; omega
        have ea := allS_bl (lmB ts us s)
        rw [← lmB_all] at ea
        rw [hl] at e
        rw [py_f, py_f] at e ⊢
        simp at e
        simp -implicitDefEqProofs [varX, varX_d, lockE, py_f, hl, hin, e, ea]
      · rw [if_neg hc]
        by_cases h1 : x = y
        · subst h1
          have h2 : ¬ us.length = ts.length := fun z => hc ⟨rfl, z.symm⟩
          have h3 : ¬ ((us.length : Int) = ts.length) := fun z => h2 (by omega)
          simp -implicitDefEqProofs [varX, varX_d, lockE, py_f, h2, h3]
        · have h2 : ¬ y = x := fun z => h1 z.symm
          simp -implicitDefEqProofs [varX, varX_d, lockE, py_f, h2]
end K10

/-! ## V10_l_rule -/
namespace K10
open PySem L2 DL DM
variable [Tb]
theorem right_ok {sg : Sg} (hs : SgFit sg) {l : Tm} (hl : l.okB = true) (hz : l.sz ≤ 60) {deep : Nat} (hd : deep ≤ 8) {b : Int} {c : List Py} (h : CS b c) (hb : 1 ≤ b) : ∃ (r : Tm) (c' : List Py) (b' : Int), r.okB = true ∧ (r.sz : Int) ≤ b + 3 * deep ∧ r.dp ≤ deep + 1 ∧ CS b' c' ∧ b' < b ∧
    M__law_term 13 [.lst c, .val (.lst (sg.map sgP)), .val (.lst (l.vars.map .str)), .val (.int deep)] = .ret (.val r.py) (tSt c' sg l.vars deep []) := by
  have hv := vars_le l
  obtain ⟨t, c1, b1, h1, hb1, hm1, hv, hvd, e1⟩ := term_ok hs (names := l.vars) (by omega) 13 deep b c (by omega) h
  have hsz := sz_eq t
  exact ⟨t, c1, b1, hv.okB hs (vars_strOk hl), by omega, hvd, h1, by omega, e1⟩
theorem names_ok' {t : Tm} (h : t.sz ≤ 80000) (hd : t.dp ≤ 150) : M__law_names [.val t.py] = .ret (.val (.tup (t.vars.map .str))) [some (.val t.py)] := names_ok h hd
theorem rule_ok {sg : Sg} (hs : SgFit sg) {names : List Str} (hn : names.length ≤ 60) (hv : ∀ x ∈ names, PyData.strOk x = true) {deep : Nat} (h1 : 1 ≤ deep) (h3 : deep ≤ 3) {c : List Py} (h : CS 7 c) : ∃ r c' b', RlOk r ∧ CS b' c' ∧ b' ≤ 14 ∧
    M__law_rule [.lst c, .val (.lst (sg.map sgP)), .val (.lst (names.map .str)), .val (.int deep)] = .ret (.val (prP r)) [some (.lst c'), some (.val (.lst (sg.map sgP))), some (.val (.lst (names.map .str))), some (.val (.int deep))] := by
  obtain ⟨t, c1, b1, g1, hb1, hm1, ht, htd, e1⟩ := term_ok hs hn 13 deep 7 c (by omega) h
  have hok := ht.okB hs hv
  have hF : PyData.strOk sF = true := by decide +kernel
  have ext : ∃ l : Tm, l.isV = false ∧ l.okB = true ∧ l.sz ≤ 17 ∧ l.dp ≤ 5 ∧ l = (match t with | .v x => .f sF [.v x] | .f n ts => .f n ts) := by
    cases t with
    | v x => exact ⟨_, rfl, by rw [Tm.okB, okBs, hF, hok]; rfl, by simp [Tm.sz, szs], by simp [Tm.dp, dps], rfl⟩
    | f n ts => exact ⟨_, rfl, hok, by omega, by omega, rfl⟩
  obtain ⟨l, lv, lo, ls, ld, el⟩ := ext
  obtain ⟨hl5, c2, hset, g2⟩ := cs_set g1 7
  obtain ⟨d, c3, d0, d1, g3, e3⟩ := take_ok g2 (m := 2) (by decide) (by decide)
  obtain ⟨k, rfl⟩ := Int.eq_ofNat_of_zero_le d0
  have hk : (deep : Int) - 1 + (k : Int) = ((deep - 1 + k : Nat) : Int) := by omega
  obtain ⟨r, c4, b4, ro, rz, rd, g4, gb4, e4⟩ := right_ok hs lo (by omega) (deep := deep - 1 + k) (by omega) g3 (by decide)
  have en := names_ok' (t := l) (by omega) (by omega)
  refine ⟨(l, r), c4, b4, ⟨lv, lo, ro, by simp only; omega, by simp only; omega, by simp only; omega, by simp only; omega⟩, g4, by omega, ?_⟩
  unfold M__law_rule
  rw [runF_eq]
  unfold tSt at e1 e4
  simp at e1 e4
  cases t with
  | v x =>
    simp only at el
    subst el
    rw [py_f, List.map_cons, List.map_nil, py_v] at en
    rw [py_v] at e1
    simp -implicitDefEqProofs [varX, takeA_s, lockE, lstAt, e1, hl5, ixN5_4, hset, en, e3, hk, e4, prP, py_f, py_v]
  | f n ts =>
    simp only at el
    subst el
    rw [py_f] at en e1
    simp -implicitDefEqProofs [varX, takeA_s, lockE, lstAt, e1, hl5, ixN5_4, hset, en, e3, hk, e4, prP, py_f]
theorem nm_pick {d : Int} (h : 0 ≤ d) (h2 : d < 4) : ∃ nm : List Str, nm.length = 5 ∧ (∀ x ∈ nm, PyData.strOk x = true) ∧ atI [Py.lst [.str (PySem.Str.ofString "x"), .str (PySem.Str.ofString "y"), .str (PySem.Str.ofString "z"), .str (PySem.Str.ofString "w"), .str (PySem.Str.ofString "v")],
    .lst [.str (PySem.Str.ofString "x"), .str (PySem.Str.ofString "x1"), .str (PySem.Str.ofString "x12"), .str (PySem.Str.ofString "x2"), .str (PySem.Str.ofString "zero")], .lst [.str (PySem.Str.ofString "u1"), .str (PySem.Str.ofString "u0"), .str (PySem.Str.ofString "u"), .str (PySem.Str.ofString "u2"), .str (PySem.Str.ofString "y")],
    .lst [.str (PySem.Str.ofString "y"), .str (PySem.Str.ofString "x2"), .str (PySem.Str.ofString "x"), .str (PySem.Str.ofString "value"), .str (PySem.Str.ofString "z9")]] d = some (.lst (nm.map .str)) := by
  have : d = 0 ∨ d = 1 ∨ d = 2 ∨ d = 3 := by omega
  rcases this with rfl | rfl | rfl | rfl
  · exact ⟨[PySem.Str.ofString "x", PySem.Str.ofString "y", PySem.Str.ofString "z", PySem.Str.ofString "w", PySem.Str.ofString "v"], rfl, by decide +kernel, by simp⟩
  · exact ⟨[PySem.Str.ofString "x", PySem.Str.ofString "x1", PySem.Str.ofString "x12", PySem.Str.ofString "x2", PySem.Str.ofString "zero"], rfl, by decide +kernel, by simp⟩
  · exact ⟨[PySem.Str.ofString "u1", PySem.Str.ofString "u0", PySem.Str.ofString "u", PySem.Str.ofString "u2", PySem.Str.ofString "y"], rfl, by decide +kernel, by simp⟩
  · exact ⟨[PySem.Str.ofString "y", PySem.Str.ofString "x2", PySem.Str.ofString "x", PySem.Str.ofString "value", PySem.Str.ofString "z9"], rfl, by decide +kernel, by simp⟩
theorem pick2 {a b d : Int} (h : 0 ≤ d) (h2 : d < 2) : ∃ v, (v = a ∨ v = b) ∧ atI [Py.int a, Py.int b] d = some (.int v) := by
  have : d = 0 ∨ d = 1 := by omega
  rcases this with rfl | rfl
  · exact ⟨a, .inl rfl, by simp⟩
  · exact ⟨b, .inr rfl, by simp⟩
theorem sys_loop {sg : Sg} (hs : SgFit sg) (M : Option Sv) : ∀ (l : List Py) (b : Int) (c : List Py) (rows : Rls) (x y : Option Sv), CS b c → b ≤ 14 → (∀ r ∈ rows, RlOk r) → rows.length + l.length ≤ 1000 →
    ∃ (b' : Int) (c' : List Py) (rows' : Rls) (x' y' : Option Sv), CS b' c' ∧ b' ≤ 14 ∧ (∀ r ∈ rows', RlOk r) ∧ rows'.length = rows.length + l.length ∧
      forS (gNameS 4) B__law_system_1 l [some (.lst c), some (.val (.lst (sg.map sgP))), M, some (.lst (rows.map prP)), x, y] = .nx [some (.lst c'), some (.val (.lst (sg.map sgP))), M, some (.lst (rows'.map prP)), x', y']
  | [], b, c, rows, x, y, h, hb, hr, _ => ⟨b, c, rows, x, y, h, hb, hr, rfl, rfl⟩
  | e :: l, b, c, rows, x, y, h, hb, hr, hz => by
    obtain ⟨hl5, c2, hset, g2⟩ := cs_set h 7
    obtain ⟨d1, c3, d10, d11, g3, e3⟩ := take_ok g2 (m := 4) (by decide) (by decide)
    obtain ⟨nm, hnl, hnv, en⟩ := nm_pick d10 d11
    obtain ⟨d2, c4, d20, d21, g4, e4⟩ := take_ok g3 (m := 3) (by decide) (by decide)
    obtain ⟨d3, c5, d30, d31, g5, e5⟩ := take_ok g4 (m := 5) (by decide) (by decide)
    obtain ⟨d4, c6, d40, d41, g6, e6⟩ := take_ok g5 (m := 2) (by decide) (by decide)
    obtain ⟨v, hv, ev⟩ := pick2 (a := d2) (b := d3) d40 d41
    obtain ⟨d5, c7, d50, d51, g7, e7⟩ := take_ok g6 (m := 3) (by decide) (by decide)
    have hv0 : 0 ≤ v := by rcases hv with rfl | rfl <;> omega
    obtain ⟨j, rfl⟩ := Int.eq_ofNat_of_zero_le hv0
    obtain ⟨k, rfl⟩ := Int.eq_ofNat_of_zero_le d50
    obtain ⟨J, hJ⟩ : ∃ J : Nat, J = 1 + j := ⟨_, rfl⟩
    obtain ⟨L, hL⟩ : ∃ L : Nat, L = 1 + k := ⟨_, rfl⟩
    have h1j : (1 : Int) + (j : Int) = (J : Int) := by omega
    have h1k : (1 : Int) + (k : Int) = (L : Int) := by omega
    obtain ⟨r, c8, b8, hr8, g8, hb8, e8⟩ := rule_ok hs (names := nm.take J) (by rw [List.length_take]; omega) (fun x hx => hnv x (List.mem_of_mem_take hx)) (deep := L) (by omega) (by omega) g7
    obtain ⟨b', c', rows', x', y', q1, q2, q3, q4, q5⟩ := sys_loop hs M l b8 c8 (rows ++ [r]) (some (.val e)) (some (.val (.lst (nm.map .str)))) g8 hb8 (fun r' hr' => by
      rcases List.mem_append.mp hr' with h | h
      · exact hr r' h
      · rw [List.mem_singleton.mp h]; exact hr8) (by simp at hz ⊢; omega)
    refine ⟨b', c', rows', x', y', q1, q2, q3, by rw [q4]; simp; omega, ?_⟩
    have lz : rows.length < sizeLine := sL2 (by simp at hz; omega)
    have ec := cutP_take (nm.map Py.str) J
    rw [forS_cons (st1 := [some (.lst c), some (.val (.lst (sg.map sgP))), M, some (.lst (rows.map prP)), some (.val e), y]) (by simp)]
    unfold B__law_system_1 at q5 ⊢
    simp at q5
    rw [List.map_take] at e8
    simp -implicitDefEqProofs [varX, takeA_s, lockE, lstAt, hl5, ixN5_4, hset, e3, en, e4, e5, e6, ev, e7, h1j, h1k, ec, e8, lz, q5]
theorem system_ok {sg : Sg} (hs : SgFit sg) {b : Int} {c : List Py} (h : CS b c) (hb : b ≤ 14) {m : Int} (h0 : 0 ≤ m) (h10 : m ≤ 15) : ∃ (sy : Rls) (c' : List Py) (b' : Int), SyOk sy ∧ CS b' c' ∧ b' ≤ 14 ∧
    M__law_system [.lst c, .val (.lst (sg.map sgP)), .val (.int m)] = .ret (.val (syP sy)) [some (.lst c'), some (.val (.lst (sg.map sgP))), some (.val (.int m))] := by
  obtain ⟨d1, c1, d10, d11, g1, e1⟩ := take_ok h (m := m + 1) (by omega) (by omega)
  obtain ⟨k, rfl⟩ := Int.eq_ofNat_of_zero_le d10
  have hin : inB (k : Int) = true := by unfold inB; simp only [decide_eq_true_eq]; omega
  have hlen : (rangeL 0 1 k).length = k := by unfold rangeL; simp
  obtain ⟨b', c', rows', x', y', q1, q2, q3, q4, q5⟩ := sys_loop hs (some (.val (.int m))) (rangeL 0 1 k) b c1 [] none none g1 hb nofun (by rw [hlen]; simp; omega)
  rw [hlen] at q4
  simp at q4
  refine ⟨rows', c', b', ⟨by omega, q3⟩, q1, q2, ?_⟩
  unfold M__law_system
  rw [runF_eq]
  simp at q5
  simp -implicitDefEqProofs [varX, takeA_s, lockE, e1, hin, q5, syP]
end K10

/-! ## V10_l_great -/
namespace K10
open PySem L2 DL DM
variable [Tb]
def SG : Sg := [(PySem.Str.ofString "a", 0), (PySem.Str.ofString "f", 1), (PySem.Str.ofString "g", 2), (PySem.Str.ofString "b", 0), (PySem.Str.ofString "h", 3), (PySem.Str.ofString "k", 4), (PySem.Str.ofString "m", 1), (PySem.Str.ofString "n", 2), (PySem.Str.ofString "p_q", 4), (PySem.Str.ofString "s0", 0)]
theorem great_fit : SgFit SG := ⟨by decide, by decide +kernel, by decide +kernel, by decide +kernel⟩
def gnm : List Str := [PySem.Str.ofString "x", PySem.Str.ofString "y", PySem.Str.ofString "z", PySem.Str.ofString "w", PySem.Str.ofString "v"]
theorem gnm_ok : ∀ x ∈ gnm, PyData.strOk x = true := by decide +kernel
def gKT : Tm := .f (PySem.Str.ofString "k") [.v (PySem.Str.ofString "x"), .f (PySem.Str.ofString "f") [.v (PySem.Str.ofString "y")], .v (PySem.Str.ofString "z"), .v (PySem.Str.ofString "x")]
theorem gKT_ok : gKT.okB = true ∧ gKT.sz = 6 ∧ gKT.dp = 3 := ⟨by decide +kernel, by decide, by decide⟩
theorem great_loop : ∀ (l : List Py) (b : Int) (c : List Py) (rows : Rls) (x y z : Option Sv), CS b c → b ≤ 14 → (∀ r ∈ rows, RlOk r) → rows.length + l.length ≤ 1000 →
    ∃ (b' : Int) (c' : List Py) (rows' : Rls) (x' y' z' : Option Sv), CS b' c' ∧ b' ≤ 14 ∧ (∀ r ∈ rows', RlOk r) ∧ rows'.length = rows.length + l.length ∧
      forS (gNameS 3) B__law_great_1 l [some (.lst c), some (.val (.lst (SG.map sgP))), some (.lst (rows.map prP)), x, y, z] = .nx [some (.lst c'), some (.val (.lst (SG.map sgP))), some (.lst (rows'.map prP)), x', y', z']
  | [], b, c, rows, x, y, z, h, hb, hr, _ => ⟨b, c, rows, x, y, z, h, hb, hr, rfl, rfl⟩
  | e :: l, b, c, rows, x, y, z, h, hb, hr, hz => by
    obtain ⟨hl5, c2, hset, g2⟩ := cs_set h 16
    obtain ⟨t, c3, b3, g3, hb3, hm3, ht, htd, e3⟩ := term_ok great_fit (names := gnm) (by decide) 13 7 16 c2 (by decide) g2
    have ep := places_ok 150 t (by omega) (by omega)
    have hpl := pl_len t
    have ext : ∃ lf : Tm, lf.isV = false ∧ lf.okB = true ∧ lf.sz ≤ 30 ∧ lf.dp ≤ 8 ∧ ((t.isV = true ∧ lf = gKT) ∨ (t.isV = false ∧ 30 < t.sz ∧ lf = gKT) ∨ (t.isV = false ∧ ¬ 30 < t.sz ∧ lf = t)) := by
      obtain ⟨k1, k2, k3⟩ := gKT_ok
      cases hv : t.isV with
      | true => exact ⟨gKT, rfl, k1, by omega, by omega, .inl ⟨rfl, rfl⟩⟩
      | false =>
        by_cases h30 : 30 < t.sz
        · exact ⟨gKT, rfl, k1, by omega, by omega, .inr (.inl ⟨rfl, h30, rfl⟩)⟩
        · exact ⟨t, hv, ht.okB great_fit gnm_ok, by omega, by omega, .inr (.inr ⟨rfl, h30, rfl⟩)⟩
    obtain ⟨lf, lv, lo, ls, ld, hc⟩ := ext
    obtain ⟨hl6, c4, hset2, g4⟩ := cs_set g3 12
    have en := names_ok' (t := lf) (by omega) (by omega)
    obtain ⟨r, c5, b5, ro, rz, rd, g5, gb5, e5⟩ := right_ok great_fit lo (by omega) (deep := 6) (by decide) g4 (by decide)
    have ep2 := places_ok 150 r (by omega) (by omega)
    have hpl2 := pl_len r
    have h30r : ¬ 30 < r.sz := by omega
    have h30r' : ¬ (30 : Int) < (r.sz : Int) := by omega
    obtain ⟨b', c', rows', x', y', z', q1, q2, q3, q4, q5⟩ := great_loop l b5 c5 (rows ++ [(lf, r)]) (some (.val e)) (some (.val lf.py)) (some (.val r.py)) g5 (by omega) (fun r' hr' => by
      rcases List.mem_append.mp hr' with h | h
      · exact hr r' h
      · rw [List.mem_singleton.mp h]; exact ⟨lv, lo, ro, by simp only; omega, by simp only; omega, by simp only; omega, by simp only; omega⟩) (by simp at hz ⊢; omega)
    refine ⟨b', c', rows', x', y', z', q1, q2, q3, by rw [q4]; simp; omega, ?_⟩
    have lz : rows.length < sizeLine := sL2 (by simp at hz; omega)
    rw [forS_cons (st1 := [some (.lst c), some (.val (.lst (SG.map sgP))), some (.lst (rows.map prP)), some (.val e), y, z]) (by simp)]
    unfold tSt at e3 e5
    unfold gnm at e3
    unfold B__law_great_1 at q5 ⊢
    simp at q5 e3 e5
    rcases hc with ⟨hv, rfl⟩ | ⟨hv, h30, rfl⟩ | ⟨hv, h30, rfl⟩
    · cases t with
      | f n ts => cases hv
      | v xx =>
        rw [py_v] at e3 ep
        unfold gKT at en e5 q5
        simp only [py_f, py_v, List.map_cons, List.map_nil] at en q5
        simp -implicitDefEqProofs [varX, takeA_s, lockE, lstAt, hl5, ixN5_4, hset, e3, hl6, hset2, en, e5, ep2, hpl2, h30r, h30r', lz, prP] at q5 ⊢
        exact q5
    · cases t with
      | v xx => cases hv
      | f n ts =>
        have h30' : (30 : Int) < ((Tm.f n ts).sz : Int) := by omega
        rw [py_f] at e3 ep
        unfold gKT at en e5 q5
        simp only [py_f, py_v, List.map_cons, List.map_nil] at en q5
        simp -implicitDefEqProofs [varX, takeA_s, lockE, lstAt, hl5, ixN5_4, hset, e3, ep, hpl, h30, h30', hl6, hset2, en, e5, ep2, hpl2, h30r, h30r', lz, prP] at q5 ⊢
        exact q5
    · cases lf with
      | v xx => cases hv
      | f n ts =>
        have h30' : ¬ (30 : Int) < ((Tm.f n ts).sz : Int) := by omega
        rw [py_f] at e3 ep en
        simp -implicitDefEqProofs [varX, takeA_s, lockE, lstAt, hl5, ixN5_4, hset, e3, ep, hpl, h30, h30', hl6, hset2, en, e5, ep2, hpl2, h30r, h30r', lz, prP, py_f] at q5 ⊢
        exact q5
theorem great_ok {b : Int} {c : List Py} (h : CS b c) (hb : b ≤ 14) : ∃ (sy : Rls) (c' : List Py) (b' : Int), SyOk sy ∧ CS b' c' ∧ b' ≤ 14 ∧
    M__law_great [.lst c] = .ret (.lst [.lst (SG.map sgP), syP sy]) [some (.lst c')] := by
  have hin : inB (10 : Int) = true := by decide
  have hlen : (rangeL 0 1 10).length = 10 := by unfold rangeL; simp
  obtain ⟨b', c', rows', x', y', z', q1, q2, q3, q4, q5⟩ := great_loop (rangeL 0 1 10) b c [] none none none h hb nofun (by rw [hlen]; simp)
  rw [hlen] at q4
  simp at q4
  refine ⟨rows', c', b', ⟨by omega, q3⟩, q1, q2, ?_⟩
  unfold M__law_great
  rw [runF_eq]
  unfold SG sgP at q5 ⊢
  simp at q5
  simp -implicitDefEqProofs [varX, takeA_s, lockE, hin, q5, syP]
end K10

/-! ## V10_a_rewr -/
namespace K10
open PySem L2 DL DM
variable [Tb]
theorem rewr_ok {sy : Rls} {t u : Tm} {p : List Nat} {k : Nat} {r : Tm × Tm} (hs : SyOk sy) (ht : NowOk t) (hp : p ∈ t.pl) (hu : t.at_ (natI p) = some u) (hk : sy[k]? = some r) :
    ∃ outs, M_rewritten [.val (syP sy), .val t.py, .val (plP p), .val (.int k)] = match mtc r.1 u [] with
      | none => .ret (.val .non) outs
      | some s => if (t.put_ (natI p) (r.2.sub s)).fits then .ret (.val (t.put_ (natI p) (r.2.sub s)).py) outs else .ex ⟨"LimitError", none⟩ outs := by
  have hr := hs.ok r (List.mem_of_getElem? hk)
  have hu' := ht.at hp hu
  have hlt : k < sy.length := by
    rcases Nat.lt_or_ge k sy.length with h | h
    · exact h
    · rw [List.getElem?_eq_none h] at hk; cases hk
  have ix : atI (sy.map prP) (k : Int) = some (.tup [r.1.py, r.2.py]) := by
    rw [DL.atI_nat (by simpa using hlt)]
    rw [List.getElem?_eq_getElem hlt] at hk
    cases hk
    simp [prP]
  have ea := at_ok t (natI p)
  have em := match_ok (t := r.1) (u := u) (by have := hr.ls; omega) (by omega)
  rw [hu, ← plP_eq] at ea
  simp only [endAt] at ea
  have hpl := pl_lt t p hp
  have hpn : (natI p).length ≤ 800 := by rw [natI_len]; have := ht.dp; omega
  have hrs := hr.rs
  unfold M_rewritten
  rw [runF_eq]
  unfold syP
  cases e : mtc r.1 u [] with
  | none =>
    rw [e] at em
    exact ⟨_, by simp -implicitDefEqProofs [varX, ix, ea, em, endMt] <;> rfl⟩
  | some s =>
    rw [e] at em
    have f := mtc_fit hu' e
    have fs : ∀ q ∈ s, q.2.sz ≤ 800 := fun q hq => Nat.le_trans (f.sz q hq) (by decide)
    have hne : t.at_ (natI p) ≠ none := by rw [hu]; exact nofun
    have hge := put_ge (r.2.sub s) (natI p) t hne
    by_cases hf : (t.put_ (natI p) (r.2.sub s)).fits
    · have e1 := apply_ok (s := s) (t := r.2) fs (by omega) (by have := hf.1; omega) (by have := hf.2; omega)
      have e2 := put_ok (t := t) (s := r.2.sub s) ht.sz (by have := hf.1; omega) hpn hf.1 hf.2
      rw [hu, ← plP_eq] at e2
      simp only [endAt, Option.map_some] at e2
      simp only [hf, if_true]
      exact ⟨_, by simp -implicitDefEqProofs [varX, lockE, ix, ea, em, endMt, e1, e2] <;> rfl⟩
    · simp only [hf, if_false]
      by_cases hf2 : (r.2.sub s).sz ≤ 400 ∧ (r.2.sub s).dp ≤ 40
      · have e1 := apply_ok (s := s) (t := r.2) fs (by omega) hf2.1 hf2.2
        obtain ⟨o, e2⟩ := put_big (t := t) (s := r.2.sub s) ht.sz hf2.1 hpn hne hf
        rw [← plP_eq] at e2
        exact ⟨_, by simp -implicitDefEqProofs [varX, lockE, ix, ea, em, endMt, e1, e2] <;> rfl⟩
      · have e1 := apply_big (s := s) (t := r.2) fs (by omega) hf2
        exact ⟨_, by simp -implicitDefEqProofs [varX, lockE, ix, ea, em, endMt, e1] <;> rfl⟩
end K10

/-! ## V10_l_steps -/
namespace K10
open PySem L2 DL DM
variable [Tb]
theorem ls_rules {sy : Rls} {t u : Tm} {p : List Nat} (hs : SyOk sy) (ht : NowOk t) (hp : p ∈ t.pl) (hu : t.at_ (natI p) = some u) : ∀ (m k : Nat) (found : List Py) (a b : Option Sv), k + m = sy.length → found.length + m ≤ 90000 →
    ∃ a' b', forS (gNameS 5) B__law_steps_1 (rangeL k 1 m) [some (.val (syP sy)), some (.val t.py), some (.lst found), some (.val (plP p)), some (.val u.py), a, b] =
      .nx [some (.val (syP sy)), some (.val t.py), some (.lst (found ++ (rwsK t p u k (sy.drop k)).map rowP)), some (.val (plP p)), some (.val u.py), a', b']
  | 0, k, found, a, b, h, _ => by
    rw [List.drop_of_length_le (by omega)]
    exact ⟨a, b, by simp [rangeL_0, rwsK]⟩
  | m + 1, k, found, a, b, h, hz => by
    have hk : k < sy.length := by omega
    have ed : sy.drop k = sy[k] :: sy.drop (k + 1) := List.drop_eq_getElem_cons hk
    have hr := hs.ok _ (List.getElem_mem hk)
    have hu' := ht.at hp hu
    have hk1 : ((k : Int) + 1) = ((k + 1 : Nat) : Int) := rfl
    have ix : atI (sy.map prP) (k : Int) = some (.tup [sy[k].1.py, sy[k].2.py]) := by
      rw [DL.atI_nat (by simpa using hk)]
      simp [prP]
    have em := lmatch_ok 12 sy[k].1 (by have := hr.ld; omega) u [] ⟨hu'.1, by omega⟩ nofun (by have := hr.ls; simp; omega) (by omega)
    simp only [show sbP [] = [] from rfl] at em
    have hpl := pl_lt t p hp
    have hpn : (natI p).length < 100 := by rw [natI_len]; have := ht.dp; omega
    have hmt := lm_mt sy[k].1 u []
    have lz : found.length < sizeLine := sL2 (by omega)
    rw [rangeL_s, forS_cons (st1 := [some (.val (syP sy)), some (.val t.py), some (.lst found), some (.val (plP p)), some (.val u.py), some (.val (.int k)), b]) (by simp), ed, rwsK, hk1, hmt]
    rcases hl : lm sy[k].1 u [] with ⟨c, s⟩
    rw [hl] at em
    cases c with
    | false =>
      simp only [ofB]
      obtain ⟨a', b', ih⟩ := ls_rules hs ht hp hu m (k + 1) found (some (.val (.int k))) (some (.dic (sbP s))) (by omega) (by omega)
      refine ⟨a', b', ?_⟩
      unfold B__law_steps_1 syP at ih ⊢
      simp -implicitDefEqProofs [varX, varX_d, takeA_s, dic0, ix, em]
      exact ih
    | true =>
      simp only [ofB]
      have e1 := lapply_ok (s := s) (w := .dic (sbP s)) (.inr rfl) 12 sy[k].2 (by have := hr.rd; omega) (by have := hr.rs; omega)
      have e2 := lawput_ok 100 (natI p) t (sy[k].2.sub s) hpn (by omega) (by have := ht.sz; omega) (by rw [hu]; exact nofun)
      rw [← plP_eq] at e2
      obtain ⟨a', b', ih⟩ := ls_rules hs ht hp hu m (k + 1) (found ++ [rowP ((p, k), t.put_ (natI p) (sy[k].2.sub s))]) (some (.val (.int k))) (some (.dic (sbP s))) (by omega) (by simp; omega)
      refine ⟨a', b', ?_⟩
      rw [List.map_cons]
      have hrow : rowP ((p, k), t.put_ (natI p) (sy[k].2.sub s)) = .tup [.tup [plP p, .int k], (t.put_ (natI p) (sy[k].2.sub s)).py] := rfl
      unfold B__law_steps_1 syP at ih ⊢
      simp [hrow] at ih
      simp -implicitDefEqProofs [varX, varX_d, takeA_s, lockE, lstAt, dic0, ix, em, e1, e2, hrow, lz, ih]
theorem ls_places {sy : Rls} {t : Tm} (hs : SyOk sy) (ht : NowOk t) : ∀ (ps : List (List Nat)) (found : List Py) (P u a b : Option Sv), (∀ p ∈ ps, p ∈ t.pl) → found.length + ps.length * 20 ≤ 90000 →
    ∃ P' u' a' b', forS (gNameS 3) B__law_steps_2 (ps.map plP) [some (.val (syP sy)), some (.val t.py), some (.lst found), P, u, a, b] =
      .nx [some (.val (syP sy)), some (.val t.py), some (.lst (found ++ (rwsP sy t ps).map rowP)), P', u', a', b']
  | [], found, P, u, a, b, _, _ => ⟨P, u, a, b, by simp [rwsP]⟩
  | p :: ps, found, P, uo, a, b, h, hz => by
    have hp := h p List.mem_cons_self
    obtain ⟨u, _, hu⟩ := pl_some hp
    have hin : inB (sy.length : Int) = true := by unfold inB; simp only [decide_eq_true_eq]; have := hs.len; omega
    have ea := lawat_ok t (natI p)
    rw [hu, ← plP_eq] at ea
    simp only [optP] at ea
    have hl := rwsK_len (t := t) (u := u) (p := p) sy 0
    have hsl := hs.len
    rw [List.length_cons] at hz
    obtain ⟨a', b', e⟩ := ls_rules hs ht hp hu sy.length 0 found a b (by simp) (by omega)
    rw [List.drop_zero] at e
    obtain ⟨P', u', a2, b2, e2⟩ := ls_places hs ht ps (found ++ (rwsK t p u 0 sy).map rowP) (some (.val (plP p))) (some (.val u.py)) a' b' (fun q hq => h q (List.mem_cons_of_mem _ hq)) (by simp; omega)
    refine ⟨P', u', a2, b2, ?_⟩
    have eU : rwsU sy t p = rwsK t p u 0 sy := by unfold rwsU; rw [hu]
    rw [List.map_cons, forS_cons (st1 := [some (.val (syP sy)), some (.val t.py), some (.lst found), some (.val (plP p)), uo, a, b]) (by simp), rwsP, eU, List.map_append, ← List.append_assoc]
    unfold B__law_steps_2 at e2 ⊢
    unfold syP at e e2 ⊢
    simp at e
    simp -implicitDefEqProofs [varX, ea, hin, e]
    simp at e2
    exact e2
theorem lsteps_ok {sy : Rls} {t : Tm} (hs : SyOk sy) (ht : NowOk t) : M__law_steps [.val (syP sy), .val t.py] = .ret (.lst ((allR sy t).map rowP)) [some (.val (syP sy)), some (.val t.py)] := by
  have ei := places_ok 150 t (by have := ht.dp; omega) (by have := ht.sz; omega)
  have hl := pl_len t
  obtain ⟨P, u, a, b, e⟩ := ls_places hs ht t.pl [] none none none none (fun p hp => hp) (by have := ht.sz; simp; omega)
  unfold M__law_steps
  rw [runF_eq]
  unfold allR
  simp at e
  simp -implicitDefEqProofs [varX, takeO, ei, e]
end K10

/-! ## V10_a_succ -/
namespace K10
open PySem L2 DL DM
variable [Tb]
theorem sc_rules {sy : Rls} {t u : Tm} {p : List Nat} (hs : SyOk sy) (ht : NowOk t) (hp : p ∈ t.pl) (hu : t.at_ (natI p) = some u) : ∀ (m k : Nat) (found : List Py) (a b : Option Sv), k + m = sy.length → found.length + m ≤ 90000 →
    if (∀ x ∈ rwsK t p u k (sy.drop k), x.2.fits) then ∃ a' b', forS (gNameS 4) B_successors_1 (rangeL k 1 m) [some (.val (syP sy)), some (.val t.py), some (.lst found), some (.val (plP p)), a, b] =
      .nx [some (.val (syP sy)), some (.val t.py), some (.lst (found ++ (rwsK t p u k (sy.drop k)).map rowP)), some (.val (plP p)), a', b']
    else ∃ st', forS (gNameS 4) B_successors_1 (rangeL k 1 m) [some (.val (syP sy)), some (.val t.py), some (.lst found), some (.val (plP p)), a, b] = .ex ⟨"LimitError", none⟩ st'
  | 0, k, found, a, b, h, _ => by
    rw [List.drop_of_length_le (by omega), if_pos (by intro x hx; cases hx)]
    exact ⟨a, b, by simp [rangeL_0, rwsK]⟩
  | m + 1, k, found, a, b, h, hz => by
    have hk : k < sy.length := by omega
    have ed : sy.drop k = sy[k] :: sy.drop (k + 1) := List.drop_eq_getElem_cons hk
    obtain ⟨outs, e⟩ := rewr_ok (k := k) hs ht hp hu (List.getElem?_eq_getElem hk)
    have hk1 : ((k : Int) + 1) = ((k + 1 : Nat) : Int) := rfl
    have lz : found.length < sizeLine := sL2 (by omega)
    rw [rangeL_s, forS_cons (st1 := [some (.val (syP sy)), some (.val t.py), some (.lst found), some (.val (plP p)), some (.val (.int k)), b]) (by simp), ed, rwsK, hk1]
    cases em : mtc sy[k].1 u [] with
    | none =>
      rw [em] at e
      have ih := sc_rules hs ht hp hu m (k + 1) found (some (.val (.int k))) (some (.val .non)) (by omega) (by omega)
      have eb : B_successors_1 [some (.val (syP sy)), some (.val t.py), some (.lst found), some (.val (plP p)), some (.val (.int k)), b] = .nx [some (.val (syP sy)), some (.val t.py), some (.lst found), some (.val (plP p)), some (.val (.int k)), some (.val .non)] := by
        unfold B_successors_1
        simp -implicitDefEqProofs [varX, e]
      rw [eb]
      exact ih
    | some s =>
      rw [em] at e
      simp only
      by_cases hf : (t.put_ (natI p) (sy[k].2.sub s)).fits
      · simp only [hf, if_true] at e
        have ih := sc_rules hs ht hp hu m (k + 1) (found ++ [rowP ((p, k), t.put_ (natI p) (sy[k].2.sub s))]) (some (.val (.int k))) (some (.val (t.put_ (natI p) (sy[k].2.sub s)).py)) (by omega) (by simp; omega)
        have hrow : rowP ((p, k), t.put_ (natI p) (sy[k].2.sub s)) = .tup [.tup [plP p, .int k], (t.put_ (natI p) (sy[k].2.sub s)).py] := rfl
        have eb : B_successors_1 [some (.val (syP sy)), some (.val t.py), some (.lst found), some (.val (plP p)), some (.val (.int k)), b] = .nx [some (.val (syP sy)), some (.val t.py), some (.lst (found ++ [rowP ((p, k), t.put_ (natI p) (sy[k].2.sub s))])), some (.val (plP p)), some (.val (.int k)), some (.val (t.put_ (natI p) (sy[k].2.sub s)).py)] := by
          unfold B_successors_1
          simp -implicitDefEqProofs [varX, lockE, lstAt, e, lz, hrow]
        rw [eb, List.map_cons]
        have hiff : (∀ x ∈ ((p, k), t.put_ (natI p) (sy[k].2.sub s)) :: rwsK t p u (k + 1) (sy.drop (k + 1)), x.2.fits) ↔ ∀ x ∈ rwsK t p u (k + 1) (sy.drop (k + 1)), x.2.fits := by
          constructor
          · exact fun h x hx => h x (List.mem_cons_of_mem _ hx)
          · intro h x hx
            rcases List.mem_cons.mp hx with rfl | hx
            · exact hf
            · exact h x hx
        simp only [hiff]
        rw [List.append_assoc] at ih
        exact ih
      · simp only [hf, if_false] at e
        rw [if_neg (fun h => hf (h _ List.mem_cons_self))]
        unfold B_successors_1
        exact ⟨_, by simp -implicitDefEqProofs [varX, lockE, e] <;> rfl⟩
theorem rwsK_var {t u : Tm} {p : List Nat} (hu : u.isV = true) : ∀ (rs : Rls) (k : Nat), (∀ r ∈ rs, r.1.isV = false) → rwsK t p u k rs = []
  | [], k, _ => rfl
  | r :: rs, k, h => by
    have h1 := h r List.mem_cons_self
    obtain ⟨l, rr⟩ := r
    cases u with
    | f n ts => cases hu
    | v x =>
      cases l with
      | v y => cases h1
      | f n ts =>
        rw [rwsK]
        simp only [mtc]
        exact rwsK_var hu rs (k + 1) fun r hr => h r (List.mem_cons_of_mem _ hr)
theorem sc_places {sy : Rls} {t : Tm} (hs : SyOk sy) (ht : NowOk t) : ∀ (ps : List (List Nat)) (found : List Py) (P a b : Option Sv), (∀ p ∈ ps, p ∈ t.pl) → found.length + ps.length * 20 ≤ 90000 →
    if (∀ x ∈ rwsP sy t ps, x.2.fits) then ∃ P' a' b', forS (gNameS 3) B_successors_2 (ps.map plP) [some (.val (syP sy)), some (.val t.py), some (.lst found), P, a, b] =
      .nx [some (.val (syP sy)), some (.val t.py), some (.lst (found ++ (rwsP sy t ps).map rowP)), P', a', b']
    else ∃ st', forS (gNameS 3) B_successors_2 (ps.map plP) [some (.val (syP sy)), some (.val t.py), some (.lst found), P, a, b] = .ex ⟨"LimitError", none⟩ st'
  | [], found, P, a, b, _, _ => by
    rw [if_pos (by intro x hx; cases hx)]
    exact ⟨P, a, b, by simp [rwsP]⟩
  | p :: ps, found, P, a, b, h, hz => by
    have hp := h p List.mem_cons_self
    obtain ⟨u, _, hu⟩ := pl_some hp
    have ea := at_ok t (natI p)
    rw [hu, ← plP_eq] at ea
    simp only [endAt] at ea
    have ev := isvar_ok u
    have hin : inB (sy.length : Int) = true := by unfold inB; simp only [decide_eq_true_eq]; have := hs.len; omega
    have hl := rwsK_len (t := t) (u := u) (p := p) sy 0
    have hsl := hs.len
    rw [List.length_cons] at hz
    have eU : rwsU sy t p = rwsK t p u 0 sy := by unfold rwsU; rw [hu]
    rw [List.map_cons, forS_cons (st1 := [some (.val (syP sy)), some (.val t.py), some (.lst found), some (.val (plP p)), a, b]) (by simp), rwsP, eU]
    cases hv : u.isV with
    | true =>
      rw [hv] at ev
      rw [rwsK_var hv sy 0 fun r hr => (hs.ok r hr).nv, List.nil_append]
      have ih := sc_places hs ht ps found (some (.val (plP p))) a b (fun q hq => h q (List.mem_cons_of_mem _ hq)) (by omega)
      have eb : B_successors_2 [some (.val (syP sy)), some (.val t.py), some (.lst found), some (.val (plP p)), a, b] = .nx [some (.val (syP sy)), some (.val t.py), some (.lst found), some (.val (plP p)), a, b] := by
        unfold B_successors_2
        simp -implicitDefEqProofs [varX, ea, ev]
      rw [eb]
      exact ih
    | false =>
      rw [hv] at ev
      have er := sc_rules hs ht hp hu sy.length 0 found a b (by simp) (by omega)
      rw [List.drop_zero] at er
      have eb : B_successors_2 [some (.val (syP sy)), some (.val t.py), some (.lst found), some (.val (plP p)), a, b] = forS (gNameS 4) B_successors_1 (rangeL ((0 : Nat) : Int) 1 sy.length) [some (.val (syP sy)), some (.val t.py), some (.lst found), some (.val (plP p)), a, b] := by
        unfold B_successors_2 syP
        simp -implicitDefEqProofs [varX, ea, ev, hin]
        generalize forS (gNameS 4) B_successors_1 (rangeL 0 1 sy.length) _ = so
        cases so <;> rfl
      rw [eb]
      by_cases hf : ∀ x ∈ rwsK t p u 0 sy, x.2.fits
      · rw [if_pos hf] at er
        obtain ⟨a', b', er⟩ := er
        have ih := sc_places hs ht ps (found ++ (rwsK t p u 0 sy).map rowP) (some (.val (plP p))) a' b' (fun q hq => h q (List.mem_cons_of_mem _ hq)) (by simp; omega)
        rw [er]
        have hiff : (∀ x ∈ rwsK t p u 0 sy ++ rwsP sy t ps, x.2.fits) ↔ ∀ x ∈ rwsP sy t ps, x.2.fits := by
          constructor
          · exact fun h x hx => h x (List.mem_append_right _ hx)
          · intro h x hx
            rcases List.mem_append.mp hx with hx | hx
            · exact hf x hx
            · exact h x hx
        simp only [hiff, List.map_append]
        rw [List.append_assoc] at ih
        exact ih
      · rw [if_neg hf] at er
        obtain ⟨st', er⟩ := er
        rw [er, if_neg (fun h => hf fun x hx => h x (List.mem_append_left _ hx))]
        exact ⟨st', rfl⟩
theorem succ_ok {sy : Rls} {t : Tm} (hs : SyOk sy) (ht : NowOk t) : if (∀ x ∈ allR sy t, x.2.fits) then ∃ outs, M_successors [.val (syP sy), .val t.py] = .ret (.lst ((allR sy t).map rowP)) outs
    else ∃ outs, M_successors [.val (syP sy), .val t.py] = .ex ⟨"LimitError", none⟩ outs := by
  have ei := positions_ok (t := t) ht.sz
  have hl := pl_len t
  have e := sc_places hs ht t.pl [] none none none (fun p hp => hp) (by have := ht.sz; simp; omega)
  unfold M_successors
  rw [runF_eq]
  unfold allR
  by_cases hf : ∀ x ∈ rwsP sy t t.pl, x.2.fits
  · rw [if_pos hf] at e ⊢
    obtain ⟨P, a, b, e⟩ := e
    simp at e
    exact ⟨_, by simp -implicitDefEqProofs [varX, takeO, ei, e] <;> rfl⟩
  · rw [if_neg hf] at e ⊢
    obtain ⟨st', e⟩ := e
    exact ⟨_, by simp -implicitDefEqProofs [varX, takeO, ei, e] <;> rfl⟩
end K10

/-! ## V10_a_step -/
namespace K10
open PySem L2 DL DM
variable [Tb]
def EndS (o : Option Tm) (r : FR) : Prop := match o with
  | some v => if v.fits then ∃ outs, r = .ret (.val v.py) outs else ∃ outs, r = .ex ⟨"LimitError", none⟩ outs
  | none => ∃ outs, r = .ex ⟨"StepError", none⟩ outs
theorem step_ok {sy : Rls} {t : Tm} (hs : SyOk sy) (ht : NowOk t) (p : List Int) (n : Int) : EndS (stepAt sy t p n) (M_step [.val (syP sy), .val t.py, .val (.tup [plI p, .int n])]) := by
  unfold M_step
  rw [runF_eq]
  unfold stepAt
  by_cases h0 : 0 ≤ n
  · rw [if_pos h0]
    obtain ⟨k, rfl⟩ := Int.eq_ofNat_of_zero_le h0
    rw [Int.toNat_natCast]
    by_cases hk : k < sy.length
    · have hk' : (k : Int) < (sy.length : Int) := by omega
      rw [List.getElem?_eq_getElem hk]
      simp only [Option.bind_some]
      cases ea : t.at_ p with
      | none =>
        have e1 := at_ok t p
        rw [ea] at e1
        simp only [endAt] at e1
        have ix : atI (sy.map prP) (k : Int) = some (.tup [sy[k].1.py, sy[k].2.py]) := by
          rw [DL.atI_nat (by simpa using hk)]
          simp [prP]
        have er : ∃ outs, M_rewritten [.val (syP sy), .val t.py, .val (plI p), .val (.int k)] = .ex ⟨"StepError", none⟩ outs := by
          unfold M_rewritten
          rw [runF_eq]
          unfold syP
          exact ⟨_, by simp -implicitDefEqProofs [varX, ix, e1] <;> rfl⟩
        obtain ⟨o, er⟩ := er
        simp only [Option.bind_none, EndS]
        unfold syP at er ⊢
        exact ⟨_, by simp -implicitDefEqProofs [varX, lockE, h0, hk, hk', er] <;> rfl⟩
      | some u =>
        obtain ⟨q, hq, rfl⟩ := at_pl p t u ea
        obtain ⟨o, er⟩ := rewr_ok (k := k) hs ht hq ea (List.getElem?_eq_getElem hk)
        simp only [Option.bind_some]
        unfold stepR
        rw [← plP_eq]
        cases em : mtc sy[k].1 u [] with
        | none =>
          rw [em] at er
          simp only [Option.map_none, EndS]
          unfold syP at er ⊢
          exact ⟨_, by simp -implicitDefEqProofs [varX, lockE, h0, hk, hk', er] <;> rfl⟩
        | some s =>
          rw [em] at er
          simp only [Option.map_some, EndS]
          unfold syP at er ⊢
          by_cases hf : (t.put_ (natI q) (sy[k].2.sub s)).fits
          · simp only [hf, if_true] at er ⊢
            exact ⟨_, by simp -implicitDefEqProofs [varX, lockE, takeO, h0, hk, hk', er] <;> rfl⟩
          · simp only [hf, if_false] at er ⊢
            exact ⟨_, by simp -implicitDefEqProofs [varX, lockE, h0, hk, hk', er] <;> rfl⟩
    · have hk' : ¬ (k : Int) < (sy.length : Int) := by omega
      rw [List.getElem?_eq_none (by omega)]
      simp only [Option.bind_none, EndS]
      unfold syP
      exact ⟨_, by simp -implicitDefEqProofs [varX, lockE, h0, hk, hk'] <;> rfl⟩
  · rw [if_neg h0]
    simp only [EndS]
    unfold syP
    exact ⟨_, by simp -implicitDefEqProofs [varX, lockE, h0] <;> rfl⟩
theorem stpP_one (s : Stp) : stpP s = .tup [plI (natI s.1), .int s.2] := by unfold stpP; rw [plP_eq]
def PreOk (sy : Rls) (t : Tm) (st : List Stp) : Prop := ∀ k u, ledR sy t (st.take k) = some u → u.fits
theorem derive_loop {sy : Rls} (hs : SyOk sy) (S : Option Sv) : ∀ (st : List Stp) (t : Tm) (o : Option Sv), NowOk t → PreOk sy t st → match ledR sy t st with
    | some u => ∃ o', forS (gNameS 3) B_derive_1 (st.map stpP) [some (.val (syP sy)), some (.val t.py), S, o] = .nx [some (.val (syP sy)), some (.val u.py), S, o']
    | none => ∃ st', forS (gNameS 3) B_derive_1 (st.map stpP) [some (.val (syP sy)), some (.val t.py), S, o] = .ex ⟨"StepError", none⟩ st'
  | [], t, o, ht, hp => ⟨o, rfl⟩
  | s :: st, t, o, ht, hp => by
    have e := step_ok hs ht (natI s.1) s.2
    rw [← stpP_one] at e
    rw [ledR]
    rw [List.map_cons, forS_cons (st1 := [some (.val (syP sy)), some (.val t.py), S, some (.val (stpP s))]) (by simp)]
    have e' : EndS (stepS sy t s) (M_step [.val (syP sy), .val t.py, .val (stpP s)]) := e
    cases es : stepS sy t s with
    | none =>
      rw [es] at e'
      obtain ⟨outs, e'⟩ := e'
      simp only [Option.bind_none]
      unfold B_derive_1
      exact ⟨_, by simp -implicitDefEqProofs [varX, e'] <;> rfl⟩
    | some u =>
      have hu : u.fits := hp 1 u (by rw [List.take_succ_cons, List.take_zero, ledR, es]; rfl)
      have hok := (stepAt_fit hs ht (show stepAt sy t (natI s.1) s.2 = some u from es)).1
      rw [es] at e'
      simp only [EndS, hu, if_true] at e'
      obtain ⟨outs, e'⟩ := e'
      have ih := derive_loop hs S st u (some (.val (stpP s))) ⟨hok, hu.1, by have := hu.2; omega⟩ (fun k v hv => hp (k + 1) v (by rw [List.take_succ_cons, ledR, es]; exact hv))
      simp only [Option.bind_some]
      have eb : B_derive_1 [some (.val (syP sy)), some (.val t.py), S, some (.val (stpP s))] = .nx [some (.val (syP sy)), some (.val u.py), S, some (.val (stpP s))] := by
        unfold B_derive_1
        simp -implicitDefEqProofs [varX, e']
      rw [eb]
      exact ih
theorem derive_ok {sy : Rls} {t : Tm} (hs : SyOk sy) (ht : NowOk t) {st : List Stp} (hp : PreOk sy t st) : match ledR sy t st with
    | some u => ∃ outs, M_derive [.val (syP sy), .val t.py, .val (.tup (st.map stpP))] = .ret (.val u.py) outs
    | none => ∃ outs, M_derive [.val (syP sy), .val t.py, .val (.tup (st.map stpP))] = .ex ⟨"StepError", none⟩ outs := by
  have e := derive_loop hs (some (.val (.tup (st.map stpP)))) st t none ht hp
  unfold M_derive
  rw [runF_eq]
  cases h : ledR sy t st with
  | some u =>
    rw [h] at e
    obtain ⟨o', e⟩ := e
    exact ⟨_, by simp -implicitDefEqProofs [varX, lockE, takeO, e] <;> rfl⟩
  | none =>
    rw [h] at e
    obtain ⟨o', e⟩ := e
    exact ⟨_, by simp -implicitDefEqProofs [varX, lockE, e] <;> rfl⟩
end K10

/-! ## V10_l_led -/
namespace K10
open PySem L2 DL DM
variable [Tb]
theorem large_ok {t : Tm} (hz : t.sz ≤ 80000) (hd : t.dp ≤ 150) : M__law_large [.val t.py] = .ret (.val (.bl (!decide t.fits))) [some (.val t.py)] := by
  have ep := places_ok 150 t hd hz
  have hl := pl_len t
  have el : ∀ a b, lcS (gNameS 2) yesT C__law_large_1 [2] (t.pl.map plP) [] [a, b, none] = .ok (.lst (t.pl.map fun p => Py.int (p.length : Int))) [a, b, none] := fun a b => by
    rw [lc_all (g := fun p : List Nat => Py.int (p.length : Int)) t.pl [] (by simp [hl]; exact sLe2 (by omega)) fun p hp => ⟨[a, b, some (.val (plP p))], by simp, by simp, by simp, [a, b, some (.val (plP p))], ?_, by simp⟩]
    · simp
    · unfold C__law_large_1 plP
      simp -implicitDefEqProofs [varX]
  have em : maxS (.val (.lst (t.pl.map fun p => Py.int (p.length : Int)))) = some (.int ((t.dp : Int) - 1)) := maxS_pl t
  unfold M__law_large
  rw [runF_eq]
  unfold Tm.fits
  by_cases h1 : 400 < t.sz
  · have h1' : (400 : Int) < (t.sz : Int) := by omega
    have h2 : ¬ (t.sz ≤ 400 ∧ t.dp ≤ 40) := by omega
    simp -implicitDefEqProofs [varX, lockE, ep, hl, h1, h1', h2]
  · have h1' : ¬ (400 : Int) < (t.sz : Int) := by omega
    by_cases h3 : (39 : Int) < (t.dp : Int) - 1
    · have h2 : ¬ (t.sz ≤ 400 ∧ t.dp ≤ 40) := by omega
      simp -implicitDefEqProofs [varX, lockE, ep, hl, h1, h1', el, em, h3, h2]
    · have h2 : t.sz ≤ 400 ∧ t.dp ≤ 40 := by omega
      simp -implicitDefEqProofs [varX, lockE, ep, hl, h1, h1', el, em, h3, h2]
theorem led_comp {a b c e : Option Sv} (s : Stp) (rows : List (Stp × Tm)) (hz : rows.length ≤ 90000) : lcS (gTupS 2 (gConsS (gNameS 5) (gConsS (gNameS 6) gNilS))) Q__law_led_1 C__law_led_2 [5, 6] (rows.map rowP) [] [a, b, c, some (.val (stpP s)), e, none, none] =
    .ok (.lst ((rows.filter (hit (natI s.1) s.2)).map fun x => x.2.py)) [a, b, c, some (.val (stpP s)), e, none, none] := by
  rw [lc_map (g := fun x : Stp × Tm => x.2.py) (p := hit (natI s.1) s.2) rows [] (by simp; exact sLe2 (by omega)) fun x hx => ⟨[a, b, c, some (.val (stpP s)), e, some (.val (stpP x.1)), some (.val x.2.py)], by unfold rowP; simp, ?_, by simp, fun _ => ⟨[a, b, c, some (.val (stpP s)), e, some (.val (stpP x.1)), some (.val x.2.py)], ?_, by simp⟩⟩]
  · simp
  · have q := eqS_one x.1 (natI s.1) s.2
    rw [← stpP_one] at q
    unfold Q__law_led_1 hit
    simp -implicitDefEqProofs [varX, q]
  · unfold C__law_led_2
    simp -implicitDefEqProofs [lockE]
theorem led_loop {sy : Rls} (hs : SyOk sy) (S : Option Sv) : ∀ (st : List Stp) (t : Tm) (o f : Option Sv), NowOk t → (∀ k, k < st.length → ∀ u, ledR sy t (st.take k) = some u → u.fits) → match ledR sy t st with
    | some u => ∃ o' f', forS (gNameS 3) B__law_led_3 (st.map stpP) [some (.val (syP sy)), some (.val t.py), S, o, f, none, none] = .nx [some (.val (syP sy)), some (.val u.py), S, o', f', none, none]
    | none => ∃ st', forS (gNameS 3) B__law_led_3 (st.map stpP) [some (.val (syP sy)), some (.val t.py), S, o, f, none, none] = .rt (.val .non) st'
  | [], t, o, f, ht, hp => ⟨o, f, rfl⟩
  | s :: st, t, o, f, ht, hp => by
    have e := lsteps_ok hs ht
    have hl : (allR sy t).length ≤ 90000 := by
      have h1 := rwsP_len (sy := sy) (t := t) t.pl
      rw [pl_len] at h1
      have h2 : t.sz * sy.length ≤ 400 * 20 := Nat.mul_le_mul ht.sz hs.len
      unfold allR
      omega
    have ec := fun {a b c e} => led_comp (a := a) (b := b) (c := c) (e := e) s (allR sy t) hl
    have hh := allR_hit sy t (natI s.1) s.2
    have hh2 : ((allR sy t).filter (hit (natI s.1) s.2)).map (fun x => x.2.py) = ((stepS sy t s).toList).map Tm.py := by
      rw [show stepS sy t s = stepAt sy t (natI s.1) s.2 from rfl, ← hh, List.map_map]
      rfl
    rw [hh2] at ec
    rw [ledR]
    rw [List.map_cons, forS_cons (st1 := [some (.val (syP sy)), some (.val t.py), S, some (.val (stpP s)), f, none, none]) (by simp)]
    have hin : inB (0 : Int) = true := by decide
    have hin1 : inB (1 : Int) = true := by decide
    cases es : stepS sy t s with
    | none =>
      rw [es] at ec
      simp only [Option.bind_none]
      unfold B__law_led_3
      exact ⟨_, by simp -implicitDefEqProofs [varX, e, ec, hin] <;> rfl⟩
    | some u =>
      have hu : NowOk u ∨ st = [] := by
        rcases Nat.eq_zero_or_pos st.length with h0 | h0
        · exact .inr (List.length_eq_zero_iff.mp h0)
        · have hf : u.fits := hp 1 (by simp; omega) u (by rw [List.take_succ_cons, List.take_zero, ledR, es]; rfl)
          exact .inl ⟨(stepAt_fit hs ht (show stepAt sy t (natI s.1) s.2 = some u from es)).1, hf.1, by have := hf.2; omega⟩
      rw [es] at ec
      simp only [Option.toList_some, List.map_cons, List.map_nil] at ec
      simp only [Option.bind_some]
      have eb : B__law_led_3 [some (.val (syP sy)), some (.val t.py), S, some (.val (stpP s)), f, none, none] = .nx [some (.val (syP sy)), some (.val u.py), S, some (.val (stpP s)), some (.lst [u.py]), none, none] := by
        unfold B__law_led_3
        simp -implicitDefEqProofs [varX, e, ec, hin1]
      rw [eb]
      rcases hu with hu | rfl
      · exact led_loop hs S st u _ _ hu (fun k hk v hv => hp (k + 1) (by simp; omega) v (by rw [List.take_succ_cons, ledR, es]; exact hv))
      · exact ⟨_, _, rfl⟩
theorem led_ok {sy : Rls} {t : Tm} (hs : SyOk sy) (ht : NowOk t) {st : List Stp} (hp : ∀ k, k < st.length → ∀ u, ledR sy t (st.take k) = some u → u.fits) : ∃ outs, M__law_led [.val (syP sy), .val t.py, .val (.tup (st.map stpP))] = .ret (.val (optP (ledR sy t st))) outs := by
  have e := led_loop hs (some (.val (.tup (st.map stpP)))) st t none none ht hp
  unfold M__law_led
  rw [runF_eq]
  cases h : ledR sy t st with
  | some u =>
    rw [h] at e
    obtain ⟨o', f', e⟩ := e
    exact ⟨_, by simp -implicitDefEqProofs [varX, lockE, takeO, e, optP] <;> rfl⟩
  | none =>
    rw [h] at e
    obtain ⟨o', e⟩ := e
    exact ⟨_, by simp -implicitDefEqProofs [varX, lockE, e, optP] <;> rfl⟩
end K10

/-! ## V10_l_told2 -/
namespace K10
open PySem L2 DL DM
variable [Tb]
def toldP (o : Option Tm) : Sv := match o with
  | some v => if v.fits then .lst [v.py] else .lst [.str (PySem.Str.ofString "limit"), .bl true]
  | none => .val (.bl true)
theorem told_tail {mb : DS → SO} {a b c d : Option Sv} {x : Str} {r : SO} (h : mb [a, b, c, d, none] = .ex ⟨x, none⟩ [a, b, c, d, none]) (hx : (x = PySem.Str.ofString "LimitError" ∧ r = .rt (.lst [.str (PySem.Str.ofString "limit"), .bl true]) [a, b, c, d, none]) ∨ (x = PySem.Str.ofString "StepError" ∧ r = .rt (.val (.bl true)) [a, b, c, d, none])) :
    tryN mb [((PySem.Str.ofString "StepError"), (PySem.Str.ofString "LimitError"))] [((PySem.Str.ofString "LimitError"), 4, A__law_told_2), ((PySem.Str.ofString "StepError"), 4, A__law_told_3)] [a, b, c, d, none] = r := by
  rw [tryN_ex h]
  rcases hx with ⟨rfl, rfl⟩ | ⟨rfl, rfl⟩
  · rw [pickH, if_pos rfl]
    refine hdlS_eq nofun fun o => ?_
    unfold A__law_told_2
    simp -implicitDefEqProofs [objE, objAt, clrS]
  · have hne : ¬ PySem.Str.ofString "StepError" = PySem.Str.ofString "LimitError" := by decide +kernel
    rw [pickH, if_neg hne, if_pos (by simp), pickH, if_pos rfl]
    refine hdlS_eq nofun fun o => ?_
    unfold A__law_told_3
    simp -implicitDefEqProofs [objE, objAt, clrS]
theorem told1_ok {sy : Rls} {t : Tm} (hs : SyOk sy) (ht : NowOk t) (p : List Int) (n : Int) : ∃ outs, M__law_told [.val (syP sy), .val t.py, .val (.tup [plI p, .int n]), .val (.bl true)] = .ret (toldP (stepAt sy t p n)) outs := by
  have e := step_ok hs ht p n
  unfold M__law_told
  rw [runF_eq]
  unfold EndS at e
  unfold toldP
  cases h : stepAt sy t p n with
  | none =>
    rw [h] at e
    obtain ⟨o, e⟩ := e
    have e1 : B__law_told_1 [some (.val (syP sy)), some (.val t.py), some (.val (.tup [plI p, .int n])), some (.val (.bl true)), none] = .ex ⟨"StepError", none⟩ [some (.val (syP sy)), some (.val t.py), some (.val (.tup [plI p, .int n])), some (.val (.bl true)), none] := by
      unfold B__law_told_1
      simp -implicitDefEqProofs [varX, e]
    have e2 := told_tail e1 (.inr ⟨rfl, rfl⟩)
    exact ⟨_, by simp -implicitDefEqProofs [e2] <;> rfl⟩
  | some v =>
    rw [h] at e
    simp only at e ⊢
    by_cases hf : v.fits
    · simp only [hf, if_true] at e ⊢
      obtain ⟨o, e⟩ := e
      have e1 : B__law_told_1 [some (.val (syP sy)), some (.val t.py), some (.val (.tup [plI p, .int n])), some (.val (.bl true)), none] = .rt (.lst [v.py]) [some (.val (syP sy)), some (.val t.py), some (.val (.tup [plI p, .int n])), some (.val (.bl true)), none] := by
        unfold B__law_told_1
        simp -implicitDefEqProofs [varX, e]
      have e2 := tryN_ok (np := [((PySem.Str.ofString "StepError"), (PySem.Str.ofString "LimitError"))]) (hl := [((PySem.Str.ofString "LimitError"), 4, A__law_told_2), ((PySem.Str.ofString "StepError"), 4, A__law_told_3)]) (mb := B__law_told_1) (st := [some (.val (syP sy)), some (.val t.py), some (.val (.tup [plI p, .int n])), some (.val (.bl true)), none]) (by rw [e1]; exact nofun)
      rw [e1] at e2
      exact ⟨_, by simp -implicitDefEqProofs [e2] <;> rfl⟩
    · simp only [hf, if_false] at e ⊢
      obtain ⟨o, e⟩ := e
      have e1 : B__law_told_1 [some (.val (syP sy)), some (.val t.py), some (.val (.tup [plI p, .int n])), some (.val (.bl true)), none] = .ex ⟨"LimitError", none⟩ [some (.val (syP sy)), some (.val t.py), some (.val (.tup [plI p, .int n])), some (.val (.bl true)), none] := by
        unfold B__law_told_1
        simp -implicitDefEqProofs [varX, e]
      have e2 := told_tail e1 (.inl ⟨rfl, rfl⟩)
      exact ⟨_, by simp -implicitDefEqProofs [e2] <;> rfl⟩
theorem told0_ok {sy : Rls} {t : Tm} (hs : SyOk sy) (ht : NowOk t) {st : List Stp} (hp : PreOk sy t st) : ∃ outs, M__law_told [.val (syP sy), .val t.py, .val (.tup (st.map stpP)), .val (.bl false)] = .ret (match ledR sy t st with | some u => .lst [u.py] | none => .val (.bl true)) outs := by
  have e := derive_ok hs ht hp
  unfold M__law_told
  rw [runF_eq]
  cases h : ledR sy t st with
  | none =>
    rw [h] at e
    obtain ⟨o, e⟩ := e
    have e1 : B__law_told_1 [some (.val (syP sy)), some (.val t.py), some (.val (.tup (st.map stpP))), some (.val (.bl false)), none] = .ex ⟨"StepError", none⟩ [some (.val (syP sy)), some (.val t.py), some (.val (.tup (st.map stpP))), some (.val (.bl false)), none] := by
      unfold B__law_told_1
      simp -implicitDefEqProofs [varX, e]
    have e2 := told_tail e1 (.inr ⟨rfl, rfl⟩)
    exact ⟨_, by simp -implicitDefEqProofs [e2] <;> rfl⟩
  | some v =>
    rw [h] at e
    obtain ⟨o, e⟩ := e
    have e1 : B__law_told_1 [some (.val (syP sy)), some (.val t.py), some (.val (.tup (st.map stpP))), some (.val (.bl false)), none] = .rt (.lst [v.py]) [some (.val (syP sy)), some (.val t.py), some (.val (.tup (st.map stpP))), some (.val (.bl false)), none] := by
      unfold B__law_told_1
      simp -implicitDefEqProofs [varX, e]
    have e2 := tryN_ok (np := [((PySem.Str.ofString "StepError"), (PySem.Str.ofString "LimitError"))]) (hl := [((PySem.Str.ofString "LimitError"), 4, A__law_told_2), ((PySem.Str.ofString "StepError"), 4, A__law_told_3)]) (mb := B__law_told_1) (st := [some (.val (syP sy)), some (.val t.py), some (.val (.tup (st.map stpP))), some (.val (.bl false)), none]) (by rw [e1]; exact nofun)
    rw [e1] at e2
    exact ⟨_, by simp -implicitDefEqProofs [e2] <;> rfl⟩
theorem all_ok {sy : Rls} {t : Tm} (hs : SyOk sy) (ht : NowOk t) : ∃ outs, M__law_all [.val (syP sy), .val t.py] = .ret (if (∀ x ∈ allR sy t, x.2.fits) then .lst ((allR sy t).map rowP) else .val (.str (PySem.Str.ofString "limit"))) outs := by
  have e := succ_ok hs ht
  unfold M__law_all
  rw [runF_eq]
  unfold B__law_all_1 B__law_all_2
  by_cases h : ∀ x ∈ allR sy t, x.2.fits
  · rw [if_pos h] at e ⊢
    obtain ⟨o, e⟩ := e
    exact ⟨_, by simp -implicitDefEqProofs [varX, e, tryP, tryO] <;> rfl⟩
  · rw [if_neg h] at e ⊢
    obtain ⟨o, e⟩ := e
    exact ⟨_, by simp -implicitDefEqProofs [varX, e, tryP, tryO, cxC] <;> rfl⟩
end K10

/-! ## L10 -/
namespace K10
open PySem L2 DL DM
variable [Tb]
theorem anyS_bl (bs : List Bool) : anyS (.val (.lst (bs.map Py.bl))) = some (.bl (bs.any id)) := by
  unfold anyS
  simp only [listS, Option.bind_some, allM_bl]
  rfl
theorem allR_len {sy : Rls} (hs : SyOk sy) {t : Tm} (ht : NowOk t) : (allR sy t).length ≤ 8000 := by
  have h1 := rwsP_len (sy := sy) (t := t) t.pl
  rw [pl_len] at h1
  have h2 : t.sz * sy.length ≤ 400 * 20 := Nat.mul_le_mul ht.sz hs.len
  unfold allR
  omega
theorem ledR_fit {sy : Rls} (hs : SyOk sy) : ∀ (st : List Stp) (t u : Tm), NowOk t → (∀ k, k < st.length → ∀ u, ledR sy t (st.take k) = some u → u.fits) → ledR sy t st = some u → u.okB = true ∧ u.sz ≤ 17000 ∧ u.dp ≤ 140
  | [], t, u, ht, _, h => by
    cases h
    exact ⟨ht.ok, by have := ht.sz; omega, by have := ht.dp; omega⟩
  | s :: st, t, u, ht, hp, h => by
    rw [ledR] at h
    obtain ⟨v, e1, e2⟩ := Option.bind_eq_some_iff.mp h
    have hv := stepAt_fit hs ht (show stepAt sy t (natI s.1) s.2 = some v from e1)
    rcases Nat.eq_zero_or_pos st.length with h0 | h0
    · have : st = [] := List.length_eq_zero_iff.mp h0
      subst this
      cases e2
      exact hv
    · have hf : v.fits := hp 1 (by simp; omega) v (by rw [List.take_succ_cons, List.take_zero, ledR, e1]; rfl)
      exact ledR_fit hs st v u ⟨hv.1, hf.1, by have := hf.2; omega⟩ (fun k hk v' hv' => hp (k + 1) (by simp; omega) v' (by rw [List.take_succ_cons, ledR, e1]; exact hv')) e2
section
variable {sy : Rls} (hs : SyOk sy) {t : Tm} (ht : NowOk t)
include hs ht

theorem law_8 {S C sg G due one res pls fnd now k rows row : Option Sv} {st : List Stp} (hp : PreOk sy t st) (hl : st.length ≤ 100) : ∃ s', B_law_8 [S, C, sg, some (.val (syP sy)), G, some (.val t.py), due, one, res, pls, fnd, some (.lst (st.map stpP)), now, k, rows, row, none, none] = .rt (.val (.bl true)) s' := by
  obtain ⟨o1, e1⟩ := led_ok hs ht (st := st) (fun k _ u h => hp k u h)
  obtain ⟨o2, e2⟩ := told0_ok hs ht hp
  unfold B_law_8
  cases h : ledR sy t st with
  | none =>
    rw [h] at e1 e2
    simp only [optP] at e1
    exact ⟨_, by simp -implicitDefEqProofs [varX, lockE, e1, e2] <;> rfl⟩
  | some u =>
    rw [h] at e1 e2
    simp only [optP] at e1
    have hu : u.fits := hp st.length u (by rw [List.take_length]; exact h)
    have hok := (ledR_fit hs st t u ht (fun k _ v hv => hp k v hv) h).1
    have eq := eqS_l1 hok (by have := hu.2; omega)
    exact ⟨_, by simp -implicitDefEqProofs [varX, lockE, e1, e2, eq] <;> rfl⟩

theorem law_7 {S C sg G due one res pls fnd rows row : Option Sv} {st : List Stp} (hl : st.length ≤ 100) : ∀ (m i : Nat) (now k : Option Sv), i + m = st.length + 1 → (∀ j, j < i → ∀ u, ledR sy t (st.take j) = some u → u.fits) →
    (∃ s', forS (gNameS 13) B_law_7 (rangeL i 1 m) [S, C, sg, some (.val (syP sy)), G, some (.val t.py), due, one, res, pls, fnd, some (.lst (st.map stpP)), now, k, rows, row, none, none] = .rt (.val (.bl true)) s') ∨
    (PreOk sy t st ∧ ∃ now' k', forS (gNameS 13) B_law_7 (rangeL i 1 m) [S, C, sg, some (.val (syP sy)), G, some (.val t.py), due, one, res, pls, fnd, some (.lst (st.map stpP)), now, k, rows, row, none, none] = .nx [S, C, sg, some (.val (syP sy)), G, some (.val t.py), due, one, res, pls, fnd, some (.lst (st.map stpP)), now', k', rows, row, none, none])
  | 0, i, now, k, hi, hp => by
    refine .inr ⟨fun j u h => ?_, now, k, by rw [rangeL_0]; rfl⟩
    by_cases hj : j < i
    · exact hp j hj u h
    · rw [List.take_of_length_le (by omega)] at h
      exact hp st.length (by omega) u (by rw [List.take_length]; exact h)
  | m + 1, i, now, k, hi, hp => by
    have hpre : ∀ j, j < (st.take i).length → ∀ u, ledR sy t ((st.take i).take j) = some u → u.fits := fun j hj u h => by
      rw [List.length_take] at hj
      rw [List.take_take, Nat.min_eq_left (by omega)] at h
      exact hp j (by omega) u h
    obtain ⟨o1, e1⟩ := led_ok hs ht (st := st.take i) hpre
    have hi1 : ((i : Int) + 1) = ((i + 1 : Nat) : Int) := rfl
    have ec := cutP_take (st.map stpP) i
    rw [List.map_take] at e1
    rw [rangeL_s, forS_cons (st1 := [S, C, sg, some (.val (syP sy)), G, some (.val t.py), due, one, res, pls, fnd, some (.lst (st.map stpP)), now, some (.val (.int i)), rows, row, none, none]) (by simp), hi1]
    cases h : ledR sy t (st.take i) with
    | none =>
      rw [h] at e1
      simp only [optP] at e1
      have ih := law_7 (S := S) (C := C) (sg := sg) (G := G) (due := due) (one := one) (res := res) (pls := pls) (fnd := fnd) (rows := rows) (row := row) hl m (i + 1) (some (.val .non)) (some (.val (.int i))) (by omega) (fun j hj u hu => by
        rcases Nat.lt_or_ge j i with h1 | h1
        · exact hp j h1 u hu
        · have : j = i := by omega
          subst this
          rw [h] at hu; cases hu)
      have eb : B_law_7 [S, C, sg, some (.val (syP sy)), G, some (.val t.py), due, one, res, pls, fnd, some (.lst (st.map stpP)), now, some (.val (.int i)), rows, row, none, none] = .nx [S, C, sg, some (.val (syP sy)), G, some (.val t.py), due, one, res, pls, fnd, some (.lst (st.map stpP)), some (.val .non), some (.val (.int i)), rows, row, none, none] := by
        unfold B_law_7
        simp -implicitDefEqProofs [varX, lockE, ec, e1]
      rw [eb]
      exact ih
    | some u =>
      rw [h] at e1
      simp only [optP] at e1
      obtain ⟨f1, f2, f3⟩ := ledR_fit hs _ t u ht hpre h
      have el := large_ok (t := u) (by omega) (by omega)
      by_cases hf : u.fits
      · have ih := law_7 (S := S) (C := C) (sg := sg) (G := G) (due := due) (one := one) (res := res) (pls := pls) (fnd := fnd) (rows := rows) (row := row) hl m (i + 1) (some (.val u.py)) (some (.val (.int i))) (by omega) (fun j hj v hv => by
          rcases Nat.lt_or_ge j i with h1 | h1
          · exact hp j h1 v hv
          · have : j = i := by omega
            subst this
            rw [h] at hv; cases hv
            exact hf)
        have eb : B_law_7 [S, C, sg, some (.val (syP sy)), G, some (.val t.py), due, one, res, pls, fnd, some (.lst (st.map stpP)), now, some (.val (.int i)), rows, row, none, none] = .nx [S, C, sg, some (.val (syP sy)), G, some (.val t.py), due, one, res, pls, fnd, some (.lst (st.map stpP)), some (.val u.py), some (.val (.int i)), rows, row, none, none] := by
          unfold B_law_7
          simp -implicitDefEqProofs [varX, lockE, ec, e1, el, hf]
        rw [eb]
        exact ih
      · left
        unfold B_law_7
        exact ⟨_, by simp -implicitDefEqProofs [varX, lockE, ec, e1, el, hf] <;> rfl⟩

theorem law_9 {S C sg G due one res pls fnd rows row now k : Option Sv} {st : List Stp} (hl : st.length ≤ 100) : ∃ s', B_law_9 [S, C, sg, some (.val (syP sy)), G, some (.val t.py), due, one, res, pls, fnd, some (.lst (st.map stpP)), now, k, rows, row, none, none] = .rt (.val (.bl true)) s' := by
  have hin : inB ((st.length : Int) + 1) = true := by unfold inB; simp only [decide_eq_true_eq]; omega
  have hnn : ((st.length : Int) + 1).toNat = st.length + 1 := by omega
  unfold B_law_9
  rcases law_7 hs ht (S := S) (C := C) (sg := sg) (G := G) (due := due) (one := one) (res := res) (pls := pls) (fnd := fnd) (rows := rows) (row := row) hl (st.length + 1) 0 now k (by omega) (fun j hj => absurd hj (Nat.not_lt_zero _)) with ⟨s', e⟩ | ⟨hp, now', k', e⟩
  · simp at e
    exact ⟨s', by simp -implicitDefEqProofs [varX, hin, hnn, e]⟩
  · obtain ⟨s', q⟩ := law_8 hs ht (S := S) (C := C) (sg := sg) (G := G) (due := due) (one := one) (res := res) (pls := pls) (fnd := fnd) (now := now') (k := k') (rows := rows) (row := row) hp hl
    simp at e
    exact ⟨s', by simp -implicitDefEqProofs [varX, hin, hnn, e, q]⟩

theorem law_10 {S sg G due one res pls fnd rows row now k : Option Sv} {st : List Stp} (hl : st.length ≤ 100) {b : Int} {c : List Py} (hc : CS b c) : ∃ s', B_law_10 [S, some (.lst c), sg, some (.val (syP sy)), G, some (.val t.py), due, one, res, pls, fnd, some (.lst (st.map stpP)), now, k, rows, row, none, none] = .rt (.val (.bl true)) s' := by
  unfold B_law_10
  rcases Nat.eq_zero_or_pos st.length with h0 | h0
  · obtain rfl : st = [] := List.length_eq_zero_iff.mp h0
    obtain ⟨s', q⟩ := law_9 hs ht (S := S) (C := some (.lst c)) (sg := sg) (G := G) (due := due) (one := one) (res := res) (pls := pls) (fnd := fnd) (rows := rows) (row := row) (now := now) (k := k) (st := []) hl
    exact ⟨s', by simp at q; simp -implicitDefEqProofs [varX, q]⟩
  · obtain ⟨d, c1, d0, d1, h1, e1⟩ := take_ok hc (m := 3) (by decide) (by decide)
    have hne : st ≠ [] := fun z => by rw [z] at h0; exact absurd h0 (Nat.lt_irrefl _)
    by_cases hd : d = 0
    · obtain ⟨d2, c2, d20, d21, h2, e2⟩ := take_ok h1 (m := (st.length : Int)) (by omega) (by omega)
      obtain ⟨j, rfl⟩ := Int.eq_ofNat_of_zero_le d20
      have hj : j < st.length := by omega
      have ix : atI (st.map stpP) (j : Int) = some (.tup [plP st[j].1, .int st[j].2]) := by rw [DL.atI_nat (by simpa using hj)]; simp [stpP]
      have ixn : ixN st.length (j : Int) = some j := by unfold ixN; simp [hj]
      have hset : (st.map stpP).set j (.tup [plP st[j].1, .int (((st[j].2 + 1 : Nat)) : Int)]) = (st.set j (st[j].1, st[j].2 + 1)).map stpP := by rw [List.map_set]; rfl
      obtain ⟨s', q⟩ := law_9 hs ht (S := S) (C := some (.lst c2)) (sg := sg) (G := G) (due := due) (one := one) (res := res) (pls := pls) (fnd := fnd) (rows := rows) (row := row) (now := now) (k := some (.val (.int j))) (st := st.set j (st[j].1, st[j].2 + 1)) (by simpa using hl)
      rw [← hset] at q
      simp at q
      exact ⟨s', by simp -implicitDefEqProofs [varX, takeA_s, lockE, lstAt, hne, e1, hd, e2, ix, ixn, hj, q]⟩
    · obtain ⟨s', q⟩ := law_9 hs ht (S := S) (C := some (.lst c1)) (sg := sg) (G := G) (due := due) (one := one) (res := res) (pls := pls) (fnd := fnd) (rows := rows) (row := row) (now := now) (k := k) hl
      exact ⟨s', by simp -implicitDefEqProofs [varX, takeA_s, hne, e1, hd, q]⟩

omit ht in
theorem law_6 {S sg G tt due one res pls fnd : Option Sv} : ∀ (l : List Py) (b : Int) (c : List Py) (now : Tm) (st : List Stp) (k rows row : Option Sv), CS b c → NowOk now → st.length + l.length ≤ 100 →
    ∃ (c' : List Py) (b' : Int) (now' : Tm) (st' : List Stp) (k' rows' row' : Option Sv), CS b' c' ∧ NowOk now' ∧ st'.length ≤ 100 ∧ forS (gNameS 13) B_law_6 l [S, some (.lst c), sg, some (.val (syP sy)), G, tt, due, one, res, pls, fnd, some (.lst (st.map stpP)), some (.val now.py), k, rows, row, none, none] = .nx [S, some (.lst c'), sg, some (.val (syP sy)), G, tt, due, one, res, pls, fnd, some (.lst (st'.map stpP)), some (.val now'.py), k', rows', row', none, none]
  | [], b, c, now, st, k, rows, row, h, hn, hl => ⟨c, b, now, st, k, rows, row, h, hn, by simpa using hl, rfl⟩
  | e :: l, b, c, now, st, k, rows, row, h, hn, hl => by
    have es := lsteps_ok hs hn
    have hlen := allR_len hs hn
    rw [List.length_cons] at hl
    have hz1 : (allR sy now).length + 1 ≤ sizeLine := sLe2 (by omega)
    have hzs : st.length < sizeLine := sL2 (by omega)
    have hz11 : 1 ≤ sizeLine := by decide
    rw [forS_cons (st1 := [S, some (.lst c), sg, some (.val (syP sy)), G, tt, due, one, res, pls, fnd, some (.lst (st.map stpP)), some (.val now.py), some (.val e), rows, row, none, none]) (by simp)]
    rcases Nat.eq_zero_or_pos (allR sy now).length with h0 | h0
    · have hnil : allR sy now = [] := List.length_eq_zero_iff.mp h0
      obtain ⟨d, c1, d0, d1, h1, e1⟩ := take_ok h (m := 1) (by decide) (by decide)
      have hd : d = 0 := by omega
      subst hd
      rw [hnil] at es
      have eb : B_law_6 [S, some (.lst c), sg, some (.val (syP sy)), G, tt, due, one, res, pls, fnd, some (.lst (st.map stpP)), some (.val now.py), some (.val e), rows, row, none, none] = .nx [S, some (.lst c1), sg, some (.val (syP sy)), G, tt, due, one, res, pls, fnd, some (.lst (st.map stpP)), some (.val now.py), some (.val e), some (.val (.lst [])), some (.val (.tup [.tup [.tup [], .int 0], now.py])), none, none] := by
        unfold B_law_6
        simp -implicitDefEqProofs [varX, takeA_s, lockE, es, e1, hz11]
      rw [eb]
      exact law_6 l b c1 now st _ _ _ h1 hn (by omega)
    · obtain ⟨d, c1, d0, d1, h1, e1⟩ := take_ok h (m := ((allR sy now).length : Int)) (by omega) (by omega)
      obtain ⟨j, rfl⟩ := Int.eq_ofNat_of_zero_le d0
      have hj : j < (allR sy now).length := by omega
      have hne : allR sy now ≠ [] := fun z => by rw [z] at h0; exact absurd h0 (Nat.lt_irrefl _)
      have hmax : (if (1 : Int) < ((allR sy now).length : Int) then ((allR sy now).length : Int) else 1) = ((allR sy now).length : Int) := by split <;> omega
      have ix : atI ((allR sy now).map rowP ++ [.tup [.tup [.tup [], .int 0], now.py]]) (j : Int) = some (.tup [stpP (allR sy now)[j].1, (allR sy now)[j].2.py]) := by
        rw [DL.atI_nat (by simp; omega)]
        rw [List.getElem_append_left (by simpa using hj)]
        simp [rowP]
      obtain ⟨x1, x2, x3, x4, x5⟩ := allR_fit hs hn (List.getElem_mem hj)
      generalize (allR sy now)[j] = x at ix x1 x2 x3 x4 x5
      have ep := places_ok 150 x.2 (by omega) (by omega)
      have hpl := pl_len x.2
      by_cases h60 : x.2.sz < 60
      · have h60' : (x.2.sz : Int) < 60 := by omega
        have eb : B_law_6 [S, some (.lst c), sg, some (.val (syP sy)), G, tt, due, one, res, pls, fnd, some (.lst (st.map stpP)), some (.val now.py), some (.val e), rows, row, none, none] = .nx [S, some (.lst c1), sg, some (.val (syP sy)), G, tt, due, one, res, pls, fnd, some (.lst ((st ++ [x.1]).map stpP)), some (.val x.2.py), some (.val e), some (.val (.lst ((allR sy now).map rowP))), some (.val (.tup [stpP x.1, x.2.py])), none, none] := by
          unfold B_law_6
          simp -implicitDefEqProofs [varX, takeA_s, lockE, lstAt, es, hz1, hmax, e1, ix, hne, ep, hpl, h60, h60', hzs]
        rw [eb]
        exact law_6 l b c1 x.2 (st ++ [x.1]) _ _ _ h1 ⟨x2, by omega, by have := dp_sz x.2; omega⟩ (by simp; omega)
      · have h60' : ¬ (x.2.sz : Int) < 60 := by omega
        have eb : B_law_6 [S, some (.lst c), sg, some (.val (syP sy)), G, tt, due, one, res, pls, fnd, some (.lst (st.map stpP)), some (.val now.py), some (.val e), rows, row, none, none] = .nx [S, some (.lst c1), sg, some (.val (syP sy)), G, tt, due, one, res, pls, fnd, some (.lst (st.map stpP)), some (.val now.py), some (.val e), some (.val (.lst ((allR sy now).map rowP))), some (.val (.tup [stpP x.1, x.2.py])), none, none] := by
          unfold B_law_6
          simp -implicitDefEqProofs [varX, takeA_s, lockE, lstAt, es, hz1, hmax, e1, ix, hne, ep, hpl, h60, h60', hzs]
        rw [eb]
        exact law_6 l b c1 now st _ _ _ h1 hn (by omega)

theorem law_11 {S sg G due one res pls fnd : Option Sv} {b : Int} {c : List Py} (hc : CS b c) : ∃ s', B_law_11 [S, some (.lst c), sg, some (.val (syP sy)), G, some (.val t.py), due, one, res, pls, fnd, none, none, none, none, none, none, none] = .rt (.val (.bl true)) s' := by
  obtain ⟨d, c1, d0, d1, h1, e1⟩ := take_ok hc (m := 5) (by decide) (by decide)
  obtain ⟨k, rfl⟩ := Int.eq_ofNat_of_zero_le d0
  have hin : inB (k : Int) = true := by unfold inB; simp only [decide_eq_true_eq]; omega
  have hlen : (rangeL 0 1 k).length = k := by unfold rangeL; simp
  obtain ⟨c', b', now', st', k', rows', row', q1, q2, q3, q4⟩ := law_6 hs (S := S) (sg := sg) (G := G) (tt := some (.val t.py)) (due := due) (one := one) (res := res) (pls := pls) (fnd := fnd) (rangeL 0 1 k) b c1 t [] none none none h1 ht (by rw [hlen]; simp; omega)
  obtain ⟨s', q⟩ := law_10 hs ht (S := S) (sg := sg) (G := G) (due := due) (one := one) (res := res) (pls := pls) (fnd := fnd) (rows := rows') (row := row') (now := some (.val now'.py)) (k := k') q3 q1
  unfold B_law_11
  simp at q4
  exact ⟨s', by simp -implicitDefEqProofs [varX, takeA_s, lockE, e1, hin, q4, q]⟩

theorem found_comp {S C sg G pls : Option Sv} (p : List Int) (n : Int) : lcS (gTupS 2 (gConsS (gNameS 17) (gConsS (gNameS 8) gNilS))) Q_law_3 C_law_4 [17, 8] ((allR sy t).map rowP) [] [S, C, sg, some (.val (syP sy)), G, some (.val t.py), some (.val (.lst ((allR sy t).map rowP))), some (.val (.tup [plI p, .int n])), none, pls, none, none, none, none, none, none, none, none] =
    .ok (.lst (((stepAt sy t p n).toList.filter (fun v => decide v.fits)).map Tm.py)) [S, C, sg, some (.val (syP sy)), G, some (.val t.py), some (.val (.lst ((allR sy t).map rowP))), some (.val (.tup [plI p, .int n])), none, pls, none, none, none, none, none, none, none, none] := by
  have hlen := allR_len hs ht
  rw [lc_map (g := fun x : Stp × Tm => x.2.py) (p := fun x => hit p n x && decide x.2.fits) (allR sy t) [] (by simp; exact sLe2 (by omega)) fun x hx => ?_]
  · rw [← allR_hit sy t p n, List.filter_map, List.map_map, List.filter_filter, List.nil_append]
    congr 1
    congr 1
    congr 1
    apply List.filter_congr
    intro x _
    simp only [Function.comp]
    exact Bool.and_comm _ _
  · obtain ⟨x1, x2, x3, x4, x5⟩ := allR_fit hs ht hx
    have el := large_ok (t := x.2) (by omega) (by omega)
    have q := eqS_one x.1 p n
    refine ⟨[S, C, sg, some (.val (syP sy)), G, some (.val t.py), some (.val (.lst ((allR sy t).map rowP))), some (.val (.tup [plI p, .int n])), some (.val x.2.py), pls, none, none, none, none, none, none, none, some (.val (stpP x.1))], by unfold rowP; simp, ?_, by simp, fun _ => ⟨[S, C, sg, some (.val (syP sy)), G, some (.val t.py), some (.val (.lst ((allR sy t).map rowP))), some (.val (.tup [plI p, .int n])), some (.val x.2.py), pls, none, none, none, none, none, none, none, some (.val (stpP x.1))], ?_, by simp⟩⟩
    · unfold Q_law_3 hit
      by_cases hh : natI x.1.1 = p ∧ (x.1.2 : Int) = n
      · simp -implicitDefEqProofs [varX, q, el, hh]
      · simp -implicitDefEqProofs [varX, q, el, hh]
    · unfold C_law_4
      simp -implicitDefEqProofs [lockE]
theorem any_comp {S C sg G pls fnd : Option Sv} (p : List Int) (n : Int) : lcS (gTupS 2 (gConsS (gNameS 17) (gConsS (gNameS 8) gNilS))) yesT C_law_5 [17, 8] ((allR sy t).map rowP) [] [S, C, sg, some (.val (syP sy)), G, some (.val t.py), some (.val (.lst ((allR sy t).map rowP))), some (.val (.tup [plI p, .int n])), none, pls, fnd, none, none, none, none, none, none, none] =
    .ok (.lst (((allR sy t).map fun x => hit p n x && !decide x.2.fits).map Py.bl)) [S, C, sg, some (.val (syP sy)), G, some (.val t.py), some (.val (.lst ((allR sy t).map rowP))), some (.val (.tup [plI p, .int n])), none, pls, fnd, none, none, none, none, none, none, none] := by
  have hlen := allR_len hs ht
  rw [lc_all (g := fun x : Stp × Tm => Py.bl (hit p n x && !decide x.2.fits)) (allR sy t) [] (by simp; exact sLe2 (by omega)) fun x hx => ?_]
  · simp [Function.comp_def]
  · obtain ⟨x1, x2, x3, x4, x5⟩ := allR_fit hs ht hx
    have el := large_ok (t := x.2) (by omega) (by omega)
    have q := eqS_one x.1 p n
    refine ⟨[S, C, sg, some (.val (syP sy)), G, some (.val t.py), some (.val (.lst ((allR sy t).map rowP))), some (.val (.tup [plI p, .int n])), some (.val x.2.py), pls, fnd, none, none, none, none, none, none, some (.val (stpP x.1))], by unfold rowP; simp, by simp, by simp, [S, C, sg, some (.val (syP sy)), G, some (.val t.py), some (.val (.lst ((allR sy t).map rowP))), some (.val (.tup [plI p, .int n])), some (.val x.2.py), pls, fnd, none, none, none, none, none, none, some (.val (stpP x.1))], ?_, by simp⟩
    unfold C_law_5 hit
    by_cases hh : natI x.1.1 = p ∧ (x.1.2 : Int) = n
    · simp -implicitDefEqProofs [varX, q, el, hh]
    · simp -implicitDefEqProofs [varX, q, el, hh]
omit hs ht in
theorem any_step (p : List Int) (n : Int) : ((allR sy t).map fun x => hit p n x && !decide x.2.fits).any id = (stepAt sy t p n).toList.any fun v => !decide v.fits := by
  rw [← allR_hit sy t p n, List.any_map, List.any_map, List.any_filter]
  rfl

omit hs ht in
theorem sx_pick {d : Int} (h : 0 ≤ d) (h2 : d < 3) : ∃ sx : List Int, sx.length ≤ 1 ∧ atI [Py.tup [], Py.tup [.int 0], Py.tup [.int (-1)]] d = some (.tup (sx.map .int)) := by
  have : d = 0 ∨ d = 1 ∨ d = 2 := by omega
  rcases this with rfl | rfl | rfl
  · exact ⟨[], by simp, by simp⟩
  · exact ⟨[0], by simp, by simp⟩
  · exact ⟨[-1], by simp, by simp⟩
theorem law_12 {S sg G one res : Option Sv} {b : Int} {c : List Py} (hc : CS b c) : ∃ s', B_law_12 [S, some (.lst c), sg, some (.val (syP sy)), G, some (.val t.py), some (.val (.lst ((allR sy t).map rowP))), one, res, none, none, none, none, none, none, none, none, none] = .rt (.val (.bl true)) s' := by
  have ep := places_ok 150 t (by have := ht.dp; omega) (by have := ht.sz; omega)
  have hpl := pl_len t
  have hsz := sz_eq t
  have htz := ht.sz
  obtain ⟨d1, c1, d10, d11, h1, e1⟩ := take_ok hc (m := (t.sz : Int)) (by omega) (by omega)
  obtain ⟨j, rfl⟩ := Int.eq_ofNat_of_zero_le d10
  have hj : j < t.pl.length := by omega
  have ix : atI (t.pl.map plP) (j : Int) = some (.tup ((natI t.pl[j]).map .int)) := by
    rw [DL.atI_nat (by simpa using hj)]
    simp [plP_eq, plI]
  have hlt := pl_lt t _ (List.getElem_mem hj)
  have hdp := ht.dp
  obtain ⟨d2, c2, d20, d21, h2, e2⟩ := take_ok h1 (m := 3) (by decide) (by decide)
  obtain ⟨sx, hsx, ex⟩ := sx_pick d20 d21
  obtain ⟨d3, c3, d30, d31, h3, e3⟩ := take_ok h2 (m := 6) (by decide) (by decide)
  have hz : (natI t.pl[j]).length + sx.length ≤ sizeLine := sLe2 (by rw [natI_len]; omega)
  generalize hq : natI t.pl[j] = q at ix hz
  obtain ⟨o, et⟩ := told1_ok hs ht (q ++ sx) (d3 - 1)
  have ef := fun {S C sg G pls} => found_comp hs ht (S := S) (C := C) (sg := sg) (G := G) (pls := pls) (q ++ sx) (d3 - 1)
  have ea := fun {S C sg G pls fnd} => any_comp hs ht (S := S) (C := C) (sg := sg) (G := G) (pls := pls) (fnd := fnd) (q ++ sx) (d3 - 1)
  have eb := anyS_bl ((allR sy t).map fun x => hit (q ++ sx) (d3 - 1) x && !decide x.2.fits)
  rw [any_step, List.map_map] at eb
  have hone : plI (q ++ sx) = .tup (q.map .int ++ sx.map .int) := by unfold plI; rw [List.map_append]
  have eF : ∀ v, stepAt sy t (q ++ sx) (d3 - 1) = some v → v.okB = true := fun v hv => (stepAt_fit hs ht hv).1
  generalize hone2 : plI (q ++ sx) = P at et ef ea hone
  subst hone
  unfold B_law_12
  cases hst : stepAt sy t (q ++ sx) (d3 - 1) with
  | none =>
    rw [hst] at et ef eb
    simp only [toldP, Option.toList_none, List.filter_nil, List.map_nil, List.any_nil] at et ef eb
    obtain ⟨s', ql⟩ := law_11 hs ht (S := S) (sg := sg) (G := G) (due := some (.val (.lst ((allR sy t).map rowP)))) (one := some (.val (.tup [.tup (q.map .int ++ sx.map .int), .int (d3 - 1)]))) (res := none) (pls := some (.val (.lst (t.pl.map plP)))) (fnd := some (.lst [])) h3
    exact ⟨s', by simp -implicitDefEqProofs [varX, takeA_s, lockE, ep, hpl, e1, ix, e2, ex, e3, hz, ef, ea, eb, et, ql, lcM]⟩
  | some v =>
    rw [hst] at et ef eb
    by_cases hf : v.fits
    · simp only [toldP, hf, if_true, Option.toList_some, List.filter_cons, decide_true, List.filter_nil, List.map_cons, List.map_nil, List.any_cons, List.any_nil, Bool.not_true, Bool.or_false] at et ef eb
      have eq := eqS_l1 (eF v hst) (by have := hf.2; omega)
      obtain ⟨s', ql⟩ := law_11 hs ht (S := S) (sg := sg) (G := G) (due := some (.val (.lst ((allR sy t).map rowP)))) (one := some (.val (.tup [.tup (q.map .int ++ sx.map .int), .int (d3 - 1)]))) (res := none) (pls := some (.val (.lst (t.pl.map plP)))) (fnd := some (.lst [v.py])) h3
      exact ⟨s', by simp -implicitDefEqProofs [varX, takeA_s, lockE, ep, hpl, e1, ix, e2, ex, e3, hz, ef, ea, eb, et, eq, ql, lcM]⟩
    · simp only [toldP, hf, if_false, Option.toList_some, List.filter_cons, decide_false, Bool.false_eq_true, List.filter_nil, List.map_nil, List.any_cons, List.any_nil, Bool.not_false, Bool.or_false] at et ef eb
      have eq := eqS_lim
      unfold limP at eq
      exact ⟨_, by simp -implicitDefEqProofs [varX, takeA_s, lockE, ep, hpl, e1, ix, e2, ex, e3, hz, ef, ea, eb, et, eq, lcM] <;> rfl⟩

theorem law_2 {S C sg G : Option Sv} : ∀ (l : List (Stp × Tm)) (one res : Option Sv), (∀ x ∈ l, x ∈ allR sy t) → ∃ one' res', forS (gTupS 2 (gConsS (gNameS 7) (gConsS (gNameS 8) gNilS))) B_law_2 (l.map rowP) [S, C, sg, some (.val (syP sy)), G, some (.val t.py), some (.val (.lst ((allR sy t).map rowP))), one, res, none, none, none, none, none, none, none, none, none] = .nx [S, C, sg, some (.val (syP sy)), G, some (.val t.py), some (.val (.lst ((allR sy t).map rowP))), one', res', none, none, none, none, none, none, none, none, none]
  | [], one, res, _ => ⟨one, res, rfl⟩
  | x :: l, one, res, h => by
    obtain ⟨x1, x2, x3, x4, x5⟩ := allR_fit hs ht (h x List.mem_cons_self)
    have el := large_ok (t := x.2) (by omega) (by omega)
    obtain ⟨o, et⟩ := told1_ok hs ht (natI x.1.1) x.1.2
    rw [← stpP_one, show stepAt sy t (natI x.1.1) x.1.2 = some x.2 from x5] at et
    obtain ⟨one', res', e⟩ := law_2 (S := S) (C := C) (sg := sg) (G := G) l (some (.val (stpP x.1))) (some (.val x.2.py)) (fun y hy => h y (List.mem_cons_of_mem _ hy))
    refine ⟨one', res', ?_⟩
    have eb : B_law_2 [S, C, sg, some (.val (syP sy)), G, some (.val t.py), some (.val (.lst ((allR sy t).map rowP))), some (.val (stpP x.1)), some (.val x.2.py), none, none, none, none, none, none, none, none, none] = .nx [S, C, sg, some (.val (syP sy)), G, some (.val t.py), some (.val (.lst ((allR sy t).map rowP))), some (.val (stpP x.1)), some (.val x.2.py), none, none, none, none, none, none, none, none, none] := by
      unfold B_law_2
      by_cases hf : x.2.fits
      · have eq := eqS_l1 x2 (by have := hf.2; omega)
        simp only [toldP, hf, if_true] at et
        simp -implicitDefEqProofs [varX, lockE, el, hf, et, eq]
      · have eq := eqS_lim
        unfold limP at eq
        simp only [toldP, hf, if_false] at et
        simp -implicitDefEqProofs [varX, lockE, el, hf, et, eq]
    rw [List.map_cons, forS_cons (st1 := [S, C, sg, some (.val (syP sy)), G, some (.val t.py), some (.val (.lst ((allR sy t).map rowP))), some (.val (stpP x.1)), some (.val x.2.py), none, none, none, none, none, none, none, none, none]) (by unfold rowP; simp), eb]
    exact e
theorem law_13 {S sg G : Option Sv} {b : Int} {c : List Py} (hc : CS b c) : ∃ s', B_law_13 [S, some (.lst c), sg, some (.val (syP sy)), G, some (.val t.py), some (.val (.lst ((allR sy t).map rowP))), none, none, none, none, none, none, none, none, none, none, none] = .rt (.val (.bl true)) s' := by
  obtain ⟨one', res', e⟩ := law_2 hs ht (S := S) (C := some (.lst c)) (sg := sg) (G := G) ((allR sy t).take 3) none none (fun x hx => List.mem_of_mem_take hx)
  obtain ⟨s', q⟩ := law_12 hs ht (S := S) (sg := sg) (G := G) (one := one') (res := res') hc
  have ec : cutP ((allR sy t).map rowP) none (some 3) = ((allR sy t).map rowP).take 3 := cutP_take _ 3
  rw [List.map_take] at e
  unfold B_law_13
  exact ⟨s', by simp -implicitDefEqProofs [varX, ec, e, q]⟩
theorem law_14 {S sg G : Option Sv} {b : Int} {c : List Py} (hc : CS b c) : ∃ s', B_law_14 [S, some (.lst c), sg, some (.val (syP sy)), G, some (.val t.py), none, none, none, none, none, none, none, none, none, none, none, none] = .rt (.val (.bl true)) s' := by
  have es := lsteps_ok hs ht
  have hlen := allR_len hs ht
  obtain ⟨o, ea⟩ := all_ok hs ht
  obtain ⟨s', q⟩ := law_13 hs ht (S := S) (sg := sg) (G := G) hc
  have ec : lcS (gTupS 2 (gConsS (gNameS 7) (gConsS (gNameS 8) gNilS))) yesT C_law_1 [7, 8] ((allR sy t).map rowP) [] [S, some (.lst c), sg, some (.val (syP sy)), G, some (.val t.py), some (.val (.lst ((allR sy t).map rowP))), none, none, none, none, none, none, none, none, none, none, none] =
      .ok (.lst (((allR sy t).map fun x => !decide x.2.fits).map Py.bl)) [S, some (.lst c), sg, some (.val (syP sy)), G, some (.val t.py), some (.val (.lst ((allR sy t).map rowP))), none, none, none, none, none, none, none, none, none, none, none] := by
    rw [lc_all (g := fun x : Stp × Tm => Py.bl (!decide x.2.fits)) (allR sy t) [] (by simp; exact sLe2 (by omega)) fun x hx => ?_]
    · simp [Function.comp_def]
    · obtain ⟨x1, x2, x3, x4, x5⟩ := allR_fit hs ht hx
      have el := large_ok (t := x.2) (by omega) (by omega)
      refine ⟨[S, some (.lst c), sg, some (.val (syP sy)), G, some (.val t.py), some (.val (.lst ((allR sy t).map rowP))), some (.val (stpP x.1)), some (.val x.2.py), none, none, none, none, none, none, none, none, none], by unfold rowP; simp, by simp, by simp, [S, some (.lst c), sg, some (.val (syP sy)), G, some (.val t.py), some (.val (.lst ((allR sy t).map rowP))), some (.val (stpP x.1)), some (.val x.2.py), none, none, none, none, none, none, none, none, none], ?_, by simp⟩
      unfold C_law_1
      simp -implicitDefEqProofs [varX, el]
  have eb := anyS_bl ((allR sy t).map fun x => !decide x.2.fits)
  rw [List.any_map, List.map_map] at eb
  unfold B_law_14
  by_cases hf : ∀ x ∈ allR sy t, x.2.fits
  · rw [if_pos hf] at ea
    have eq := eqS_rows (l := allR sy t) fun x hx => ⟨(allR_fit hs ht hx).2.1, by have := (hf x hx).2; omega⟩
    have hany : (allR sy t).any (id ∘ fun x => !decide x.2.fits) = false := by
      rw [List.any_eq_false]
      intro x hx
      simp [hf x hx]
    rw [hany] at eb
    exact ⟨s', by simp -implicitDefEqProofs [varX, lockE, es, ec, eb, ea, eq, q, lcM]⟩
  · rw [if_neg hf] at ea
    have hany : (allR sy t).any (id ∘ fun x => !decide x.2.fits) = true := by
      rw [List.any_eq_true]
      obtain ⟨x, hx⟩ := Classical.not_forall.mp hf
      obtain ⟨hx, hn⟩ := Classical.not_imp.mp hx
      exact ⟨x, hx, by simp [hn]⟩
    rw [hany] at eb
    exact ⟨s', by simp -implicitDefEqProofs [varX, lockE, es, ec, eb, ea, q, lcM]⟩
end

def xyN : List Str := [PySem.Str.ofString "x", PySem.Str.ofString "y"]
theorem xyN_ok : ∀ x ∈ xyN, PyData.strOk x = true := by decide +kernel
def fxT : Tm := .f (PySem.Str.ofString "f") [.v (PySem.Str.ofString "x")]
theorem fxT_ok : NowOk fxT := ⟨by decide +kernel, by decide, by decide⟩
theorem law_15 {S : Option Sv} {g : Bool} {sg : Sg} (hg : SgFit sg) {sy : Rls} (hs : SyOk sy) {b : Int} {c : List Py} (h : CS b c) (hb : b ≤ 14) : ∃ st', B_law_15 [S, some (.lst c), some (.val (.lst (sg.map sgP))), some (.val (syP sy)), some (.val (.bl g)), none, none, none, none, none, none, none, none, none, none, none, none, none] = .rt (.val (.bl true)) st' := by
  obtain ⟨t, c1, b1, g1, hb1, hm1, ht, htd, e1⟩ := term_ok hg (names := xyN) (by decide) 13 4 b c (by decide) h
  have tsz := sz_eq t
  unfold tSt xyN at e1
  simp at e1
  unfold B_law_15
  cases g with
  | false =>
    obtain ⟨st', q⟩ := law_14 hs (S := S) (G := some (.val (.bl false))) (sg := some (.val (.lst (sg.map sgP)))) (t := t) ⟨ht.okB hg xyN_ok, by omega, by omega⟩ g1
    exact ⟨st', by simp -implicitDefEqProofs [varX, takeA_s, e1, q]⟩
  | true =>
    obtain ⟨hl5, c2, hset, g2⟩ := cs_set g1 30
    obtain ⟨u, c3, b3, g3, hb3, hm3, hu, hud, e3⟩ := term_ok hg (names := xyN) (by decide) 13 11 30 c2 (by decide) g2
    have ep := places_ok 150 u (by omega) (by omega)
    have hpl := pl_len u
    unfold tSt xyN at e3
    simp at e3
    by_cases h60 : 60 < u.sz
    · have h60' : (60 : Int) < (u.sz : Int) := by omega
      obtain ⟨st', q⟩ := law_14 hs fxT_ok (S := S) (G := some (.val (.bl true))) (sg := some (.val (.lst (sg.map sgP)))) g3
      unfold fxT at q
      rw [py_f, List.map_cons, List.map_nil, py_v] at q
      exact ⟨st', by simp -implicitDefEqProofs [varX, takeA_s, lstAt, e1, hl5, ixN5_4, hset, e3, ep, hpl, h60, h60', q]⟩
    · have h60' : ¬ (60 : Int) < (u.sz : Int) := by omega
      obtain ⟨st', q⟩ := law_14 hs (S := S) (G := some (.val (.bl true))) (sg := some (.val (.lst (sg.map sgP)))) (t := u) ⟨hu.okB hg xyN_ok, by omega, by omega⟩ g3
      exact ⟨st', by simp -implicitDefEqProofs [varX, takeA_s, lstAt, e1, hl5, ixN5_4, hset, e3, ep, hpl, h60, h60', q]⟩
theorem law_ok (ns : List Int) (S : Sv) (h : S = .val (.lst (ns.map .int)) ∨ S = .lst (ns.map .int)) : ∃ outs, M_law [S] = .ret (.val (.bl true)) outs := by
  have hst : ∃ c, CS 14 c ∧ M__law_start [S] = .ret (.lst c) [some S] := by
    rcases h with rfl | rfl
    · exact ⟨_, start_ok ns⟩
    · exact ⟨_, start_ok2 ns⟩
  obtain ⟨c0, h0, e0⟩ := hst
  obtain ⟨sg, c1, hsg, h1, e1⟩ := sig_ok h0
  have hsf := hsg.fit
  obtain ⟨sy, c2, b2, hsy, h2, hb2, e2⟩ := system_ok hsf h1 (by decide) (m := 4) (by decide) (by decide)
  obtain ⟨d, c3, d0, d1, h3, e3⟩ := take_ok h2 (m := 10) (by decide) (by decide)
  unfold M_law
  rw [runF_eq]
  by_cases hd : d = 0
  · obtain ⟨sy2, c4, b4, hsy2, h4, hb4, e4⟩ := great_ok h3 hb2
    obtain ⟨st', q⟩ := law_15 (S := some S) (g := true) great_fit hsy2 h4 hb4
    rcases h with rfl | rfl
    · exact ⟨_, by simp -implicitDefEqProofs [varX, takeA_s, e0, e1, e2, e3, hd, e4, q] <;> rfl⟩
    · exact ⟨_, by simp -implicitDefEqProofs [varX, takeA_s, e0, e1, e2, e3, hd, e4, q] <;> rfl⟩
  · obtain ⟨st', q⟩ := law_15 (S := some S) (g := false) hsf hsy h3 hb2
    rcases h with rfl | rfl
    · exact ⟨_, by simp -implicitDefEqProofs [varX, takeA_s, e0, e1, e2, e3, hd, q] <;> rfl⟩
    · exact ⟨_, by simp -implicitDefEqProofs [varX, takeA_s, e0, e1, e2, e3, hd, q] <;> rfl⟩
end K10

/-! ## E10 -/
namespace K10
open PySem PySem.Spec PyProof.Rows L2 DL LamX
set_option maxHeartbeats 4000000 in
theorem all_mk {P : Program} {w : World} {K : PySem.W.Frag} {h : Heap} {mg : Str → Option Value} {fa : Addr} {q : Program} (X : K.In h) (G : h.Ns mainGlobals mg) (hfa : mg "law" = some (.ref fa)) (htab : ∀ (x : Str) (e : DefRec) (c P : Addr), (recsOf q).find? (fun e => e.name == x) = some e → PySem.W.tabIn K x = some (c, P) → PySem.W.CodeHd h c P ∧ h.get? P = some { cls := .none, data := .fields #[] })
    {f__law_start : Addr} {oc__law_start kV__law_start dc__law_start pm__law_start cd__law_start ct__law_start : Value} {od__law_start an__law_start : Option Addr} {sl__law_start : Array (Option Value)}
    {f__law_fill : Addr} {oc__law_fill kV__law_fill dc__law_fill pm__law_fill cd__law_fill ct__law_fill : Value} {od__law_fill an__law_fill : Option Addr} {sl__law_fill : Array (Option Value)}
    {f__law_take : Addr} {oc__law_take kV__law_take dc__law_take pm__law_take cd__law_take ct__law_take : Value} {od__law_take an__law_take : Option Addr} {sl__law_take : Array (Option Value)}
    {f__law_signature : Addr} {oc__law_signature kV__law_signature dc__law_signature pm__law_signature cd__law_signature ct__law_signature : Value} {od__law_signature an__law_signature : Option Addr} {sl__law_signature : Array (Option Value)}
    {f__law_term : Addr} {oc__law_term kV__law_term dc__law_term pm__law_term cd__law_term ct__law_term : Value} {od__law_term an__law_term : Option Addr} {sl__law_term : Array (Option Value)}
    {f__law_places : Addr} {oc__law_places kV__law_places dc__law_places pm__law_places cd__law_places ct__law_places : Value} {od__law_places an__law_places : Option Addr} {sl__law_places : Array (Option Value)}
    {f__law_at : Addr} {oc__law_at kV__law_at dc__law_at pm__law_at cd__law_at ct__law_at : Value} {od__law_at an__law_at : Option Addr} {sl__law_at : Array (Option Value)}
    {f__law_names : Addr} {oc__law_names kV__law_names dc__law_names pm__law_names cd__law_names ct__law_names : Value} {od__law_names an__law_names : Option Addr} {sl__law_names : Array (Option Value)}
    {f__law_rule : Addr} {oc__law_rule kV__law_rule dc__law_rule pm__law_rule cd__law_rule ct__law_rule : Value} {od__law_rule an__law_rule : Option Addr} {sl__law_rule : Array (Option Value)}
    {f__law_system : Addr} {oc__law_system kV__law_system dc__law_system pm__law_system cd__law_system ct__law_system : Value} {od__law_system an__law_system : Option Addr} {sl__law_system : Array (Option Value)}
    {f__law_match : Addr} {oc__law_match kV__law_match dc__law_match pm__law_match cd__law_match ct__law_match : Value} {od__law_match an__law_match : Option Addr} {sl__law_match : Array (Option Value)}
    {f__law_put : Addr} {oc__law_put kV__law_put dc__law_put pm__law_put cd__law_put ct__law_put : Value} {od__law_put an__law_put : Option Addr} {sl__law_put : Array (Option Value)}
    {f__law_apply : Addr} {oc__law_apply kV__law_apply dc__law_apply pm__law_apply cd__law_apply ct__law_apply : Value} {od__law_apply an__law_apply : Option Addr} {sl__law_apply : Array (Option Value)}
    {f__law_steps : Addr} {oc__law_steps kV__law_steps dc__law_steps pm__law_steps cd__law_steps ct__law_steps : Value} {od__law_steps an__law_steps : Option Addr} {sl__law_steps : Array (Option Value)}
    {f__law_led : Addr} {oc__law_led kV__law_led dc__law_led pm__law_led cd__law_led ct__law_led : Value} {od__law_led an__law_led : Option Addr} {sl__law_led : Array (Option Value)}
    {f_is_variable : Addr} {oc_is_variable kV_is_variable dc_is_variable pm_is_variable cd_is_variable ct_is_variable : Value} {od_is_variable an_is_variable : Option Addr} {sl_is_variable : Array (Option Value)}
    {f_same : Addr} {oc_same kV_same dc_same pm_same cd_same ct_same : Value} {od_same an_same : Option Addr} {sl_same : Array (Option Value)}
    {f_match : Addr} {oc_match kV_match dc_match pm_match cd_match ct_match : Value} {od_match an_match : Option Addr} {sl_match : Array (Option Value)}
    {f_need_small : Addr} {oc_need_small kV_need_small dc_need_small pm_need_small cd_need_small ct_need_small : Value} {od_need_small an_need_small : Option Addr} {sl_need_small : Array (Option Value)}
    {f_inner : Addr} {oc_inner kV_inner dc_inner pm_inner cd_inner ct_inner : Value} {od_inner an_inner : Option Addr} {sl_inner : Array (Option Value)}
    {f_parts : Addr} {oc_parts kV_parts dc_parts pm_parts cd_parts ct_parts : Value} {od_parts an_parts : Option Addr} {sl_parts : Array (Option Value)}
    {f_size : Addr} {oc_size kV_size dc_size pm_size cd_size ct_size : Value} {od_size an_size : Option Addr} {sl_size : Array (Option Value)}
    {f_depth : Addr} {oc_depth kV_depth dc_depth pm_depth cd_depth ct_depth : Value} {od_depth an_depth : Option Addr} {sl_depth : Array (Option Value)}
    {f_put : Addr} {oc_put kV_put dc_put pm_put cd_put ct_put : Value} {od_put an_put : Option Addr} {sl_put : Array (Option Value)}
    {f_at : Addr} {oc_at kV_at dc_at pm_at cd_at ct_at : Value} {od_at an_at : Option Addr} {sl_at : Array (Option Value)}
    {f_variables : Addr} {oc_variables kV_variables dc_variables pm_variables cd_variables ct_variables : Value} {od_variables an_variables : Option Addr} {sl_variables : Array (Option Value)}
    {f_measure : Addr} {oc_measure kV_measure dc_measure pm_measure cd_measure ct_measure : Value} {od_measure an_measure : Option Addr} {sl_measure : Array (Option Value)}
    {f_rebuilt : Addr} {oc_rebuilt kV_rebuilt dc_rebuilt pm_rebuilt cd_rebuilt ct_rebuilt : Value} {od_rebuilt an_rebuilt : Option Addr} {sl_rebuilt : Array (Option Value)}
    {f_apply : Addr} {oc_apply kV_apply dc_apply pm_apply ct_apply : Value} {od_apply an_apply : Option Addr} {sl_apply : Array (Option Value)}
    {CD_apply P_apply : Addr} {o2_apply : Value} {d2_apply : Option Addr} {s2_apply : Array (Option Value)} {vs_apply : Array Value}
    {f_rewritten : Addr} {oc_rewritten kV_rewritten dc_rewritten pm_rewritten cd_rewritten ct_rewritten : Value} {od_rewritten an_rewritten : Option Addr} {sl_rewritten : Array (Option Value)}
    {f_step : Addr} {oc_step kV_step dc_step pm_step cd_step ct_step : Value} {od_step an_step : Option Addr} {sl_step : Array (Option Value)}
    {f_derive : Addr} {oc_derive kV_derive dc_derive pm_derive cd_derive ct_derive : Value} {od_derive an_derive : Option Addr} {sl_derive : Array (Option Value)}
    {f__law_told : Addr} {oc__law_told kV__law_told dc__law_told pm__law_told cd__law_told ct__law_told : Value} {od__law_told an__law_told : Option Addr} {sl__law_told : Array (Option Value)}
    {f__law_great : Addr} {oc__law_great kV__law_great dc__law_great pm__law_great cd__law_great ct__law_great : Value} {od__law_great an__law_great : Option Addr} {sl__law_great : Array (Option Value)}
    {f__law_large : Addr} {oc__law_large kV__law_large dc__law_large pm__law_large cd__law_large ct__law_large : Value} {od__law_large an__law_large : Option Addr} {sl__law_large : Array (Option Value)}
    {f_positions : Addr} {oc_positions kV_positions dc_positions pm_positions cd_positions ct_positions : Value} {od_positions an_positions : Option Addr} {sl_positions : Array (Option Value)}
    {f_successors : Addr} {oc_successors kV_successors dc_successors pm_successors cd_successors ct_successors : Value} {od_successors an_successors : Option Addr} {sl_successors : Array (Option Value)}
    {f__law_all : Addr} {oc__law_all kV__law_all dc__law_all pm__law_all cd__law_all ct__law_all : Value} {od__law_all an__law_all : Option Addr} {sl__law_all : Array (Option Value)}
    {f_law : Addr} {oc_law kV_law dc_law pm_law cd_law ct_law : Value} {od_law an_law : Option Addr} {sl_law : Array (Option Value)}
    {t_MOST_DEPTH : Tok}
    {t_MOST_NODES : Tok}
    {C_LimitError : Addr}
    {C_StepError : Addr}
    {C_TertiumError : Addr}
    {C_TextError : Addr}
    (z_isinstance : PySem.W.nsIn K mainGlobals "isinstance" = some none)
    (z_len : PySem.W.nsIn K mainGlobals "len" = some none)
    (z_tuple : PySem.W.nsIn K mainGlobals "tuple" = some none)
    (z_list : PySem.W.nsIn K mainGlobals "list" = some none)
    (z_int : PySem.W.nsIn K mainGlobals "int" = some none)
    (z_str : PySem.W.nsIn K mainGlobals "str" = some none)
    (z_bool : PySem.W.nsIn K mainGlobals "bool" = some none)
    (z_dict : PySem.W.nsIn K mainGlobals "dict" = some none)
    (z_range : PySem.W.nsIn K mainGlobals "range" = some none)
    (z_max : PySem.W.nsIn K mainGlobals "max" = some none)
    (z_min : PySem.W.nsIn K mainGlobals "min" = some none)
    (z_all : PySem.W.nsIn K mainGlobals "all" = some none)
    (z_any : PySem.W.nsIn K mainGlobals "any" = some none)
    (z_sum : PySem.W.nsIn K mainGlobals "sum" = some none)
    (z_sorted : PySem.W.nsIn K mainGlobals "sorted" = some none)
    (z_enumerate : PySem.W.nsIn K mainGlobals "enumerate" = some none)
    (z_zip : PySem.W.nsIn K mainGlobals "zip" = some none)
    (z_abs : PySem.W.nsIn K mainGlobals "abs" = some none)
    (z_ValueError : PySem.W.nsIn K mainGlobals "ValueError" = some none)
    (a__law_start : PySem.W.nsIn K mainGlobals "_law_start" = some (some (.ref f__law_start)))
    (l__law_start : K.lookup f__law_start = some ⟨oc__law_start, od__law_start, .func (PySem.W.fnOf "_law_start" "_law_start" (defArgs st__law_start) (defBody st__law_start) (defScope st__law_start) .none kV__law_start dc__law_start pm__law_start an__law_start cd__law_start ct__law_start), sl__law_start⟩)
    (c__law_start : PySem.W.codeIn K cd__law_start "_law_start" = true)
    (k__law_start : PySem.W.keepIn K (.ref f__law_start) = true)
    (a__law_fill : PySem.W.nsIn K mainGlobals "_law_fill" = some (some (.ref f__law_fill)))
    (l__law_fill : K.lookup f__law_fill = some ⟨oc__law_fill, od__law_fill, .func (PySem.W.fnOf "_law_fill" "_law_fill" (defArgs st__law_fill) (defBody st__law_fill) (defScope st__law_fill) .none kV__law_fill dc__law_fill pm__law_fill an__law_fill cd__law_fill ct__law_fill), sl__law_fill⟩)
    (c__law_fill : PySem.W.codeIn K cd__law_fill "_law_fill" = true)
    (k__law_fill : PySem.W.keepIn K (.ref f__law_fill) = true)
    (a__law_take : PySem.W.nsIn K mainGlobals "_law_take" = some (some (.ref f__law_take)))
    (l__law_take : K.lookup f__law_take = some ⟨oc__law_take, od__law_take, .func (PySem.W.fnOf "_law_take" "_law_take" (defArgs st__law_take) (defBody st__law_take) (defScope st__law_take) .none kV__law_take dc__law_take pm__law_take an__law_take cd__law_take ct__law_take), sl__law_take⟩)
    (c__law_take : PySem.W.codeIn K cd__law_take "_law_take" = true)
    (k__law_take : PySem.W.keepIn K (.ref f__law_take) = true)
    (a__law_signature : PySem.W.nsIn K mainGlobals "_law_signature" = some (some (.ref f__law_signature)))
    (l__law_signature : K.lookup f__law_signature = some ⟨oc__law_signature, od__law_signature, .func (PySem.W.fnOf "_law_signature" "_law_signature" (defArgs st__law_signature) (defBody st__law_signature) (defScope st__law_signature) .none kV__law_signature dc__law_signature pm__law_signature an__law_signature cd__law_signature ct__law_signature), sl__law_signature⟩)
    (c__law_signature : PySem.W.codeIn K cd__law_signature "_law_signature" = true)
    (k__law_signature : PySem.W.keepIn K (.ref f__law_signature) = true)
    (a__law_term : PySem.W.nsIn K mainGlobals "_law_term" = some (some (.ref f__law_term)))
    (l__law_term : K.lookup f__law_term = some ⟨oc__law_term, od__law_term, .func (PySem.W.fnOf "_law_term" "_law_term" (defArgs st__law_term) (defBody st__law_term) (defScope st__law_term) .none kV__law_term dc__law_term pm__law_term an__law_term cd__law_term ct__law_term), sl__law_term⟩)
    (c__law_term : PySem.W.codeIn K cd__law_term "_law_term" = true)
    (k__law_term : PySem.W.keepIn K (.ref f__law_term) = true)
    (a__law_places : PySem.W.nsIn K mainGlobals "_law_places" = some (some (.ref f__law_places)))
    (l__law_places : K.lookup f__law_places = some ⟨oc__law_places, od__law_places, .func (PySem.W.fnOf "_law_places" "_law_places" (defArgs st__law_places) (defBody st__law_places) (defScope st__law_places) .none kV__law_places dc__law_places pm__law_places an__law_places cd__law_places ct__law_places), sl__law_places⟩)
    (c__law_places : PySem.W.codeIn K cd__law_places "_law_places" = true)
    (k__law_places : PySem.W.keepIn K (.ref f__law_places) = true)
    (a__law_at : PySem.W.nsIn K mainGlobals "_law_at" = some (some (.ref f__law_at)))
    (l__law_at : K.lookup f__law_at = some ⟨oc__law_at, od__law_at, .func (PySem.W.fnOf "_law_at" "_law_at" (defArgs st__law_at) (defBody st__law_at) (defScope st__law_at) .none kV__law_at dc__law_at pm__law_at an__law_at cd__law_at ct__law_at), sl__law_at⟩)
    (c__law_at : PySem.W.codeIn K cd__law_at "_law_at" = true)
    (k__law_at : PySem.W.keepIn K (.ref f__law_at) = true)
    (a__law_names : PySem.W.nsIn K mainGlobals "_law_names" = some (some (.ref f__law_names)))
    (l__law_names : K.lookup f__law_names = some ⟨oc__law_names, od__law_names, .func (PySem.W.fnOf "_law_names" "_law_names" (defArgs st__law_names) (defBody st__law_names) (defScope st__law_names) .none kV__law_names dc__law_names pm__law_names an__law_names cd__law_names ct__law_names), sl__law_names⟩)
    (c__law_names : PySem.W.codeIn K cd__law_names "_law_names" = true)
    (k__law_names : PySem.W.keepIn K (.ref f__law_names) = true)
    (a__law_rule : PySem.W.nsIn K mainGlobals "_law_rule" = some (some (.ref f__law_rule)))
    (l__law_rule : K.lookup f__law_rule = some ⟨oc__law_rule, od__law_rule, .func (PySem.W.fnOf "_law_rule" "_law_rule" (defArgs st__law_rule) (defBody st__law_rule) (defScope st__law_rule) .none kV__law_rule dc__law_rule pm__law_rule an__law_rule cd__law_rule ct__law_rule), sl__law_rule⟩)
    (c__law_rule : PySem.W.codeIn K cd__law_rule "_law_rule" = true)
    (k__law_rule : PySem.W.keepIn K (.ref f__law_rule) = true)
    (a__law_system : PySem.W.nsIn K mainGlobals "_law_system" = some (some (.ref f__law_system)))
    (l__law_system : K.lookup f__law_system = some ⟨oc__law_system, od__law_system, .func (PySem.W.fnOf "_law_system" "_law_system" (defArgs st__law_system) (defBody st__law_system) (defScope st__law_system) .none kV__law_system dc__law_system pm__law_system an__law_system cd__law_system ct__law_system), sl__law_system⟩)
    (c__law_system : PySem.W.codeIn K cd__law_system "_law_system" = true)
    (k__law_system : PySem.W.keepIn K (.ref f__law_system) = true)
    (a__law_match : PySem.W.nsIn K mainGlobals "_law_match" = some (some (.ref f__law_match)))
    (l__law_match : K.lookup f__law_match = some ⟨oc__law_match, od__law_match, .func (PySem.W.fnOf "_law_match" "_law_match" (defArgs st__law_match) (defBody st__law_match) (defScope st__law_match) .none kV__law_match dc__law_match pm__law_match an__law_match cd__law_match ct__law_match), sl__law_match⟩)
    (c__law_match : PySem.W.codeIn K cd__law_match "_law_match" = true)
    (k__law_match : PySem.W.keepIn K (.ref f__law_match) = true)
    (a__law_put : PySem.W.nsIn K mainGlobals "_law_put" = some (some (.ref f__law_put)))
    (l__law_put : K.lookup f__law_put = some ⟨oc__law_put, od__law_put, .func (PySem.W.fnOf "_law_put" "_law_put" (defArgs st__law_put) (defBody st__law_put) (defScope st__law_put) .none kV__law_put dc__law_put pm__law_put an__law_put cd__law_put ct__law_put), sl__law_put⟩)
    (c__law_put : PySem.W.codeIn K cd__law_put "_law_put" = true)
    (k__law_put : PySem.W.keepIn K (.ref f__law_put) = true)
    (a__law_apply : PySem.W.nsIn K mainGlobals "_law_apply" = some (some (.ref f__law_apply)))
    (l__law_apply : K.lookup f__law_apply = some ⟨oc__law_apply, od__law_apply, .func (PySem.W.fnOf "_law_apply" "_law_apply" (defArgs st__law_apply) (defBody st__law_apply) (defScope st__law_apply) .none kV__law_apply dc__law_apply pm__law_apply an__law_apply cd__law_apply ct__law_apply), sl__law_apply⟩)
    (c__law_apply : PySem.W.codeIn K cd__law_apply "_law_apply" = true)
    (k__law_apply : PySem.W.keepIn K (.ref f__law_apply) = true)
    (a__law_steps : PySem.W.nsIn K mainGlobals "_law_steps" = some (some (.ref f__law_steps)))
    (l__law_steps : K.lookup f__law_steps = some ⟨oc__law_steps, od__law_steps, .func (PySem.W.fnOf "_law_steps" "_law_steps" (defArgs st__law_steps) (defBody st__law_steps) (defScope st__law_steps) .none kV__law_steps dc__law_steps pm__law_steps an__law_steps cd__law_steps ct__law_steps), sl__law_steps⟩)
    (c__law_steps : PySem.W.codeIn K cd__law_steps "_law_steps" = true)
    (k__law_steps : PySem.W.keepIn K (.ref f__law_steps) = true)
    (a__law_led : PySem.W.nsIn K mainGlobals "_law_led" = some (some (.ref f__law_led)))
    (l__law_led : K.lookup f__law_led = some ⟨oc__law_led, od__law_led, .func (PySem.W.fnOf "_law_led" "_law_led" (defArgs st__law_led) (defBody st__law_led) (defScope st__law_led) .none kV__law_led dc__law_led pm__law_led an__law_led cd__law_led ct__law_led), sl__law_led⟩)
    (c__law_led : PySem.W.codeIn K cd__law_led "_law_led" = true)
    (k__law_led : PySem.W.keepIn K (.ref f__law_led) = true)
    (a_is_variable : PySem.W.nsIn K mainGlobals "is_variable" = some (some (.ref f_is_variable)))
    (l_is_variable : K.lookup f_is_variable = some ⟨oc_is_variable, od_is_variable, .func (PySem.W.fnOf "is_variable" "is_variable" (defArgs st_is_variable) (defBody st_is_variable) (defScope st_is_variable) .none kV_is_variable dc_is_variable pm_is_variable an_is_variable cd_is_variable ct_is_variable), sl_is_variable⟩)
    (c_is_variable : PySem.W.codeIn K cd_is_variable "is_variable" = true)
    (k_is_variable : PySem.W.keepIn K (.ref f_is_variable) = true)
    (a_same : PySem.W.nsIn K mainGlobals "same" = some (some (.ref f_same)))
    (l_same : K.lookup f_same = some ⟨oc_same, od_same, .func (PySem.W.fnOf "same" "same" (defArgs st_same) (defBody st_same) (defScope st_same) .none kV_same dc_same pm_same an_same cd_same ct_same), sl_same⟩)
    (c_same : PySem.W.codeIn K cd_same "same" = true)
    (k_same : PySem.W.keepIn K (.ref f_same) = true)
    (a_match : PySem.W.nsIn K mainGlobals "match" = some (some (.ref f_match)))
    (l_match : K.lookup f_match = some ⟨oc_match, od_match, .func (PySem.W.fnOf "match" "match" (defArgs st_match) (defBody st_match) (defScope st_match) .none kV_match dc_match pm_match an_match cd_match ct_match), sl_match⟩)
    (c_match : PySem.W.codeIn K cd_match "match" = true)
    (k_match : PySem.W.keepIn K (.ref f_match) = true)
    (a_need_small : PySem.W.nsIn K mainGlobals "need_small" = some (some (.ref f_need_small)))
    (l_need_small : K.lookup f_need_small = some ⟨oc_need_small, od_need_small, .func (PySem.W.fnOf "need_small" "need_small" (defArgs st_need_small) (defBody st_need_small) (defScope st_need_small) .none kV_need_small dc_need_small pm_need_small an_need_small cd_need_small ct_need_small), sl_need_small⟩)
    (c_need_small : PySem.W.codeIn K cd_need_small "need_small" = true)
    (k_need_small : PySem.W.keepIn K (.ref f_need_small) = true)
    (a_inner : PySem.W.nsIn K mainGlobals "inner" = some (some (.ref f_inner)))
    (l_inner : K.lookup f_inner = some ⟨oc_inner, od_inner, .func (PySem.W.fnOf "inner" "inner" (defArgs st_inner) (defBody st_inner) (defScope st_inner) .none kV_inner dc_inner pm_inner an_inner cd_inner ct_inner), sl_inner⟩)
    (c_inner : PySem.W.codeIn K cd_inner "inner" = true)
    (k_inner : PySem.W.keepIn K (.ref f_inner) = true)
    (a_parts : PySem.W.nsIn K mainGlobals "parts" = some (some (.ref f_parts)))
    (l_parts : K.lookup f_parts = some ⟨oc_parts, od_parts, .func (PySem.W.fnOf "parts" "parts" (defArgs st_parts) (defBody st_parts) (defScope st_parts) .none kV_parts dc_parts pm_parts an_parts cd_parts ct_parts), sl_parts⟩)
    (c_parts : PySem.W.codeIn K cd_parts "parts" = true)
    (k_parts : PySem.W.keepIn K (.ref f_parts) = true)
    (a_size : PySem.W.nsIn K mainGlobals "size" = some (some (.ref f_size)))
    (l_size : K.lookup f_size = some ⟨oc_size, od_size, .func (PySem.W.fnOf "size" "size" (defArgs st_size) (defBody st_size) (defScope st_size) .none kV_size dc_size pm_size an_size cd_size ct_size), sl_size⟩)
    (c_size : PySem.W.codeIn K cd_size "size" = true)
    (k_size : PySem.W.keepIn K (.ref f_size) = true)
    (a_depth : PySem.W.nsIn K mainGlobals "depth" = some (some (.ref f_depth)))
    (l_depth : K.lookup f_depth = some ⟨oc_depth, od_depth, .func (PySem.W.fnOf "depth" "depth" (defArgs st_depth) (defBody st_depth) (defScope st_depth) .none kV_depth dc_depth pm_depth an_depth cd_depth ct_depth), sl_depth⟩)
    (c_depth : PySem.W.codeIn K cd_depth "depth" = true)
    (k_depth : PySem.W.keepIn K (.ref f_depth) = true)
    (a_put : PySem.W.nsIn K mainGlobals "put" = some (some (.ref f_put)))
    (l_put : K.lookup f_put = some ⟨oc_put, od_put, .func (PySem.W.fnOf "put" "put" (defArgs st_put) (defBody st_put) (defScope st_put) .none kV_put dc_put pm_put an_put cd_put ct_put), sl_put⟩)
    (c_put : PySem.W.codeIn K cd_put "put" = true)
    (k_put : PySem.W.keepIn K (.ref f_put) = true)
    (a_at : PySem.W.nsIn K mainGlobals "at" = some (some (.ref f_at)))
    (l_at : K.lookup f_at = some ⟨oc_at, od_at, .func (PySem.W.fnOf "at" "at" (defArgs st_at) (defBody st_at) (defScope st_at) .none kV_at dc_at pm_at an_at cd_at ct_at), sl_at⟩)
    (c_at : PySem.W.codeIn K cd_at "at" = true)
    (k_at : PySem.W.keepIn K (.ref f_at) = true)
    (a_variables : PySem.W.nsIn K mainGlobals "variables" = some (some (.ref f_variables)))
    (l_variables : K.lookup f_variables = some ⟨oc_variables, od_variables, .func (PySem.W.fnOf "variables" "variables" (defArgs st_variables) (defBody st_variables) (defScope st_variables) .none kV_variables dc_variables pm_variables an_variables cd_variables ct_variables), sl_variables⟩)
    (c_variables : PySem.W.codeIn K cd_variables "variables" = true)
    (k_variables : PySem.W.keepIn K (.ref f_variables) = true)
    (a_measure : PySem.W.nsIn K mainGlobals "measure" = some (some (.ref f_measure)))
    (l_measure : K.lookup f_measure = some ⟨oc_measure, od_measure, .func (PySem.W.fnOf "measure" "measure" (defArgs st_measure) (defBody st_measure) (defScope st_measure) .none kV_measure dc_measure pm_measure an_measure cd_measure ct_measure), sl_measure⟩)
    (c_measure : PySem.W.codeIn K cd_measure "measure" = true)
    (k_measure : PySem.W.keepIn K (.ref f_measure) = true)
    (a_rebuilt : PySem.W.nsIn K mainGlobals "rebuilt" = some (some (.ref f_rebuilt)))
    (l_rebuilt : K.lookup f_rebuilt = some ⟨oc_rebuilt, od_rebuilt, .func (PySem.W.fnOf "rebuilt" "rebuilt" (defArgs st_rebuilt) (defBody st_rebuilt) (defScope st_rebuilt) .none kV_rebuilt dc_rebuilt pm_rebuilt an_rebuilt cd_rebuilt ct_rebuilt), sl_rebuilt⟩)
    (c_rebuilt : PySem.W.codeIn K cd_rebuilt "rebuilt" = true)
    (k_rebuilt : PySem.W.keepIn K (.ref f_rebuilt) = true)
    (a_apply : PySem.W.nsIn K mainGlobals "apply" = some (some (.ref f_apply)))
    (l_apply : K.lookup f_apply = some ⟨oc_apply, od_apply, .func (PySem.W.fnOf "apply" "apply" (defArgs st_apply) (defBody st_apply) (defScope st_apply) .none kV_apply dc_apply pm_apply an_apply (.ref CD_apply) ct_apply), sl_apply⟩)
    (c_apply : PySem.W.codeIn K (.ref CD_apply) "apply" = true)
    (lc_apply : K.lookup CD_apply = some ⟨o2_apply, d2_apply, .fields vs_apply, s2_apply⟩)
    (lp_apply : vs_apply[11]? = some (.ref P_apply))
    (ln_apply : K.lookup P_apply = none)
    (fi_apply : ∃ e : DefRec, (recsOf q).find? (fun e : DefRec => e.name == ("apply" : Str)) = some e)
    (k_apply : PySem.W.keepIn K (.ref f_apply) = true)
    (a_rewritten : PySem.W.nsIn K mainGlobals "rewritten" = some (some (.ref f_rewritten)))
    (l_rewritten : K.lookup f_rewritten = some ⟨oc_rewritten, od_rewritten, .func (PySem.W.fnOf "rewritten" "rewritten" (defArgs st_rewritten) (defBody st_rewritten) (defScope st_rewritten) .none kV_rewritten dc_rewritten pm_rewritten an_rewritten cd_rewritten ct_rewritten), sl_rewritten⟩)
    (c_rewritten : PySem.W.codeIn K cd_rewritten "rewritten" = true)
    (k_rewritten : PySem.W.keepIn K (.ref f_rewritten) = true)
    (a_step : PySem.W.nsIn K mainGlobals "step" = some (some (.ref f_step)))
    (l_step : K.lookup f_step = some ⟨oc_step, od_step, .func (PySem.W.fnOf "step" "step" (defArgs st_step) (defBody st_step) (defScope st_step) .none kV_step dc_step pm_step an_step cd_step ct_step), sl_step⟩)
    (c_step : PySem.W.codeIn K cd_step "step" = true)
    (k_step : PySem.W.keepIn K (.ref f_step) = true)
    (a_derive : PySem.W.nsIn K mainGlobals "derive" = some (some (.ref f_derive)))
    (l_derive : K.lookup f_derive = some ⟨oc_derive, od_derive, .func (PySem.W.fnOf "derive" "derive" (defArgs st_derive) (defBody st_derive) (defScope st_derive) .none kV_derive dc_derive pm_derive an_derive cd_derive ct_derive), sl_derive⟩)
    (c_derive : PySem.W.codeIn K cd_derive "derive" = true)
    (k_derive : PySem.W.keepIn K (.ref f_derive) = true)
    (a__law_told : PySem.W.nsIn K mainGlobals "_law_told" = some (some (.ref f__law_told)))
    (l__law_told : K.lookup f__law_told = some ⟨oc__law_told, od__law_told, .func (PySem.W.fnOf "_law_told" "_law_told" (defArgs st__law_told) (defBody st__law_told) (defScope st__law_told) .none kV__law_told dc__law_told pm__law_told an__law_told cd__law_told ct__law_told), sl__law_told⟩)
    (c__law_told : PySem.W.codeIn K cd__law_told "_law_told" = true)
    (k__law_told : PySem.W.keepIn K (.ref f__law_told) = true)
    (a__law_great : PySem.W.nsIn K mainGlobals "_law_great" = some (some (.ref f__law_great)))
    (l__law_great : K.lookup f__law_great = some ⟨oc__law_great, od__law_great, .func (PySem.W.fnOf "_law_great" "_law_great" (defArgs st__law_great) (defBody st__law_great) (defScope st__law_great) .none kV__law_great dc__law_great pm__law_great an__law_great cd__law_great ct__law_great), sl__law_great⟩)
    (c__law_great : PySem.W.codeIn K cd__law_great "_law_great" = true)
    (k__law_great : PySem.W.keepIn K (.ref f__law_great) = true)
    (a__law_large : PySem.W.nsIn K mainGlobals "_law_large" = some (some (.ref f__law_large)))
    (l__law_large : K.lookup f__law_large = some ⟨oc__law_large, od__law_large, .func (PySem.W.fnOf "_law_large" "_law_large" (defArgs st__law_large) (defBody st__law_large) (defScope st__law_large) .none kV__law_large dc__law_large pm__law_large an__law_large cd__law_large ct__law_large), sl__law_large⟩)
    (c__law_large : PySem.W.codeIn K cd__law_large "_law_large" = true)
    (k__law_large : PySem.W.keepIn K (.ref f__law_large) = true)
    (a_positions : PySem.W.nsIn K mainGlobals "positions" = some (some (.ref f_positions)))
    (l_positions : K.lookup f_positions = some ⟨oc_positions, od_positions, .func (PySem.W.fnOf "positions" "positions" (defArgs st_positions) (defBody st_positions) (defScope st_positions) .none kV_positions dc_positions pm_positions an_positions cd_positions ct_positions), sl_positions⟩)
    (c_positions : PySem.W.codeIn K cd_positions "positions" = true)
    (k_positions : PySem.W.keepIn K (.ref f_positions) = true)
    (a_successors : PySem.W.nsIn K mainGlobals "successors" = some (some (.ref f_successors)))
    (l_successors : K.lookup f_successors = some ⟨oc_successors, od_successors, .func (PySem.W.fnOf "successors" "successors" (defArgs st_successors) (defBody st_successors) (defScope st_successors) .none kV_successors dc_successors pm_successors an_successors cd_successors ct_successors), sl_successors⟩)
    (c_successors : PySem.W.codeIn K cd_successors "successors" = true)
    (k_successors : PySem.W.keepIn K (.ref f_successors) = true)
    (a__law_all : PySem.W.nsIn K mainGlobals "_law_all" = some (some (.ref f__law_all)))
    (l__law_all : K.lookup f__law_all = some ⟨oc__law_all, od__law_all, .func (PySem.W.fnOf "_law_all" "_law_all" (defArgs st__law_all) (defBody st__law_all) (defScope st__law_all) .none kV__law_all dc__law_all pm__law_all an__law_all cd__law_all ct__law_all), sl__law_all⟩)
    (c__law_all : PySem.W.codeIn K cd__law_all "_law_all" = true)
    (k__law_all : PySem.W.keepIn K (.ref f__law_all) = true)
    (a_law : PySem.W.nsIn K mainGlobals "law" = some (some (.ref f_law)))
    (l_law : K.lookup f_law = some ⟨oc_law, od_law, .func (PySem.W.fnOf "law" "law" (defArgs st_law) (defBody st_law) (defScope st_law) .none kV_law dc_law pm_law an_law cd_law ct_law), sl_law⟩)
    (c_law : PySem.W.codeIn K cd_law "law" = true)
    (k_law : PySem.W.keepIn K (.ref f_law) = true)
    (g_MOST_DEPTH : PySem.W.nsIn K mainGlobals "MOST_DEPTH" = some (some (.int 40 t_MOST_DEPTH)))
    (g_MOST_NODES : PySem.W.nsIn K mainGlobals "MOST_NODES" = some (some (.int 400 t_MOST_NODES)))
    (m_LimitError : PySem.W.nsIn K mainGlobals "LimitError" = some (some (.ref C_LimitError)))
    (m_StepError : PySem.W.nsIn K mainGlobals "StepError" = some (some (.ref C_StepError)))
    (m_TertiumError : PySem.W.nsIn K mainGlobals "TertiumError" = some (some (.ref C_TertiumError)))
    (m_TextError : PySem.W.nsIn K mainGlobals "TextError" = some (some (.ref C_TextError)))
    (x_LimitError : PySem.W.excIn K C_LimitError [.type "ValueError", .type "Exception", .type "BaseException", .type "object"] "ValueError.__new__" = true)
    (xk_LimitError : PySem.W.keepIn K (.ref C_LimitError) = true)
    (x_StepError : PySem.W.excIn K C_StepError [.type "ValueError", .type "Exception", .type "BaseException", .type "object"] "ValueError.__new__" = true)
    (xk_StepError : PySem.W.keepIn K (.ref C_StepError) = true)
    (xb_LimitError : PySem.W.subIn K (.ref C_LimitError) (.type "BaseException") = some true)
    (xt_LimitError : PySem.W.typeIn K (.ref C_LimitError) = some (.type "type"))
    (xd_LimitError : PySem.W.hasDictIn K C_LimitError = true)
    (xb_StepError : PySem.W.subIn K (.ref C_StepError) (.type "BaseException") = some true)
    (xt_StepError : PySem.W.typeIn K (.ref C_StepError) = some (.type "type"))
    (xd_StepError : PySem.W.hasDictIn K C_StepError = true)
    (xb_TertiumError : PySem.W.subIn K (.ref C_TertiumError) (.type "BaseException") = some true)
    (xt_TertiumError : PySem.W.typeIn K (.ref C_TertiumError) = some (.type "type"))
    (xd_TertiumError : PySem.W.hasDictIn K C_TertiumError = true)
    (xb_TextError : PySem.W.subIn K (.ref C_TextError) (.type "BaseException") = some true)
    (xt_TextError : PySem.W.typeIn K (.ref C_TextError) = some (.type "type"))
    (xd_TextError : PySem.W.hasDictIn K C_TextError = true)
    (eg_LimitError : PySem.W.findIn K (.ref C_LimitError) "__getattribute__" = some (some (.builtin "BaseException.__getattribute__")))
    (ek_LimitError : PySem.W.findIn K (.ref C_LimitError) "__getattr__" = some none)
    (ea_LimitError : PySem.W.findIn K (.ref C_LimitError) "__class__" = some (some (.builtin "object.__class__")))
    (em_LimitError : PySem.W.mroIn K C_LimitError (.type "object") = some true)
    (eg_StepError : PySem.W.findIn K (.ref C_StepError) "__getattribute__" = some (some (.builtin "BaseException.__getattribute__")))
    (ek_StepError : PySem.W.findIn K (.ref C_StepError) "__getattr__" = some none)
    (ea_StepError : PySem.W.findIn K (.ref C_StepError) "__class__" = some (some (.builtin "object.__class__")))
    (em_StepError : PySem.W.mroIn K C_StepError (.type "object") = some true)
    (eh_ : PySem.W.specialIn K (.builtin "object.__class__") "__get__" = some (some (.builtin "getset_descriptor.__get__")))
    (et_ : PySem.W.takesIn K (.builtin "object.__class__") = some true)
    (sv_StepError : PySem.W.subIn K (.ref C_StepError) (.type "ValueError") = some true)
    (su_LimitError_LimitError : PySem.W.subIn K (.ref C_LimitError) (.ref C_LimitError) = some true)
    (su_LimitError_StepError : PySem.W.subIn K (.ref C_LimitError) (.ref C_StepError) = some false)
    (su_LimitError_TertiumError : PySem.W.subIn K (.ref C_LimitError) (.ref C_TertiumError) = some true)
    (su_StepError_LimitError : PySem.W.subIn K (.ref C_StepError) (.ref C_LimitError) = some false)
    (su_StepError_StepError : PySem.W.subIn K (.ref C_StepError) (.ref C_StepError) = some true)
    (su_StepError_TertiumError : PySem.W.subIn K (.ref C_StepError) (.ref C_TertiumError) = some true)
    (su_StepError_TextError : PySem.W.subIn K (.ref C_StepError) (.ref C_TextError) = some false)
    (su_TertiumError_TertiumError : PySem.W.subIn K (.ref C_TertiumError) (.ref C_TertiumError) = some true)
    (su_TextError_TextError : PySem.W.subIn K (.ref C_TextError) (.ref C_TextError) = some true)
    : ∃ (fd : FuncData) (ts : List Tab), (∀ t ∈ ts, PySem.W.CodeHd h t.c t.P ∧ h.get? t.P = some { cls := .none, data := .fields #[] } ∧ K.lookup t.P = none) ∧ (∀ (s : Shared) (u : Value), BindsTo s fd ⟨[u], []⟩ [("script", u)]) ∧ ∀ base : Heap, K.In base → base.Ns mainGlobals mg → (∀ t ∈ ts, TabB base mg t.c t.P) → FnOk P w K mg base (L2.CX P w) 155 fa fd ["script"] (@spScriptT (tbOf ts) K) := by
  have e := hfa.symm.trans (PySem.W.mg_of X G a_law)
  cases e
  refine ⟨PySem.W.fnOf "law" "law" (defArgs st_law) (defBody st_law) (defScope st_law) .none kV_law dc_law pm_law an_law cd_law ct_law, [⟨CD_apply, P_apply, ((PyProof.Rows.envOfC "apply" (defScope st_apply) 0 0 .none).qual ++ "<lambda>")⟩], ?_, ?_, fun base hK hG hT => ?_⟩
  · intro t ht
    simp only [List.mem_cons, List.not_mem_nil, or_false] at ht
    rcases ht with rfl
    · obtain ⟨e, he⟩ := fi_apply
      obtain ⟨h1, h2⟩ := htab _ e _ _ he (tabIn_of a_apply l_apply lc_apply lp_apply)
      exact ⟨h1, h2, ln_apply⟩
  · intro s v
    exact BindsTo.of_eq (by rfl)
  letI : Tb := tbOf [⟨CD_apply, P_apply, ((PyProof.Rows.envOfC "apply" (defScope st_apply) 0 0 .none).qual ++ "<lambda>")⟩]
  have Y : Fc K mg base C_LimitError C_StepError C_TertiumError C_TextError CD_apply P_apply := {
    T := ⟨PySem.W.mg_none_of X G z_isinstance, PySem.W.mg_none_of X G z_len, PySem.W.mg_none_of X G z_tuple, PySem.W.mg_none_of X G z_list, PySem.W.mg_none_of X G z_int, PySem.W.mg_none_of X G z_str, PySem.W.mg_none_of X G z_bool, PySem.W.mg_none_of X G z_dict, PySem.W.mg_none_of X G z_range, PySem.W.mg_none_of X G z_max, PySem.W.mg_none_of X G z_min, PySem.W.mg_none_of X G z_all, PySem.W.mg_none_of X G z_any, PySem.W.mg_none_of X G z_sum, PySem.W.mg_none_of X G z_sorted, PySem.W.mg_none_of X G z_enumerate, PySem.W.mg_none_of X G z_zip, PySem.W.mg_none_of X G z_abs, PySem.W.mg_none_of X G z_ValueError⟩
    f__law_start := fnm X G a__law_start l__law_start c__law_start k__law_start fun _ _ _ _ _ _ us hl => match us, hl with | [_], _ => rfl
    f__law_fill := fnm X G a__law_fill l__law_fill c__law_fill k__law_fill fun _ _ _ _ _ _ us hl => match us, hl with | [_], _ => rfl
    f__law_take := fnm X G a__law_take l__law_take c__law_take k__law_take fun _ _ _ _ _ _ us hl => match us, hl with | [_, _], _ => rfl
    f__law_signature := fnm X G a__law_signature l__law_signature c__law_signature k__law_signature fun _ _ _ _ _ _ us hl => match us, hl with | [_], _ => rfl
    f__law_term := fnm X G a__law_term l__law_term c__law_term k__law_term fun _ _ _ _ _ _ us hl => match us, hl with | [_, _, _, _], _ => rfl
    f__law_places := fnm X G a__law_places l__law_places c__law_places k__law_places fun _ _ _ _ _ _ us hl => match us, hl with | [_], _ => rfl
    f__law_at := fnm X G a__law_at l__law_at c__law_at k__law_at fun _ _ _ _ _ _ us hl => match us, hl with | [_, _], _ => rfl
    f__law_names := fnm X G a__law_names l__law_names c__law_names k__law_names fun _ _ _ _ _ _ us hl => match us, hl with | [_], _ => rfl
    f__law_rule := fnm X G a__law_rule l__law_rule c__law_rule k__law_rule fun _ _ _ _ _ _ us hl => match us, hl with | [_, _, _, _], _ => rfl
    f__law_system := fnm X G a__law_system l__law_system c__law_system k__law_system fun _ _ _ _ _ _ us hl => match us, hl with | [_, _, _], _ => rfl
    f__law_match := fnm X G a__law_match l__law_match c__law_match k__law_match fun _ _ _ _ _ _ us hl => match us, hl with | [_, _, _], _ => rfl
    f__law_put := fnm X G a__law_put l__law_put c__law_put k__law_put fun _ _ _ _ _ _ us hl => match us, hl with | [_, _, _], _ => rfl
    f__law_apply := fnm X G a__law_apply l__law_apply c__law_apply k__law_apply fun _ _ _ _ _ _ us hl => match us, hl with | [_, _], _ => rfl
    f__law_steps := fnm X G a__law_steps l__law_steps c__law_steps k__law_steps fun _ _ _ _ _ _ us hl => match us, hl with | [_, _], _ => rfl
    f__law_led := fnm X G a__law_led l__law_led c__law_led k__law_led fun _ _ _ _ _ _ us hl => match us, hl with | [_, _, _], _ => rfl
    f_is_variable := fnm X G a_is_variable l_is_variable c_is_variable k_is_variable fun _ _ _ _ _ _ us hl => match us, hl with | [_], _ => rfl
    f_same := fnm X G a_same l_same c_same k_same fun _ _ _ _ _ _ us hl => match us, hl with | [_, _], _ => rfl
    f_match := fnm X G a_match l_match c_match k_match fun _ _ _ _ _ _ us hl => match us, hl with | [_, _], _ => rfl
    f_need_small := fnm X G a_need_small l_need_small c_need_small k_need_small fun _ _ _ _ _ _ us hl => match us, hl with | [_, _], _ => rfl
    f_inner := fnm X G a_inner l_inner c_inner k_inner fun _ _ _ _ _ _ us hl => match us, hl with | [_], _ => rfl
    f_parts := fnm X G a_parts l_parts c_parts k_parts fun _ _ _ _ _ _ us hl => match us, hl with | [_], _ => rfl
    f_size := fnm X G a_size l_size c_size k_size fun _ _ _ _ _ _ us hl => match us, hl with | [_], _ => rfl
    f_depth := fnm X G a_depth l_depth c_depth k_depth fun _ _ _ _ _ _ us hl => match us, hl with | [_], _ => rfl
    f_put := fnm X G a_put l_put c_put k_put fun _ _ _ _ _ _ us hl => match us, hl with | [_, _, _], _ => rfl
    f_at := fnm X G a_at l_at c_at k_at fun _ _ _ _ _ _ us hl => match us, hl with | [_, _], _ => rfl
    f_variables := fnm X G a_variables l_variables c_variables k_variables fun _ _ _ _ _ _ us hl => match us, hl with | [_], _ => rfl
    f_measure := fnm X G a_measure l_measure c_measure k_measure fun _ _ _ _ _ _ us hl => match us, hl with | [_, _], _ => rfl
    f_rebuilt := fnm X G a_rebuilt l_rebuilt c_rebuilt k_rebuilt fun _ _ _ _ _ _ us hl => match us, hl with | [_, _], _ => rfl
    f_apply := fnmC X G a_apply l_apply c_apply k_apply fun _ _ _ _ _ _ us hl => match us, hl with | [_, _], _ => rfl
    f_rewritten := fnm X G a_rewritten l_rewritten c_rewritten k_rewritten fun _ _ _ _ _ _ us hl => match us, hl with | [_, _, _, _], _ => rfl
    f_step := fnm X G a_step l_step c_step k_step fun _ _ _ _ _ _ us hl => match us, hl with | [_, _, _], _ => rfl
    f_derive := fnm X G a_derive l_derive c_derive k_derive fun _ _ _ _ _ _ us hl => match us, hl with | [_, _, _], _ => rfl
    f__law_told := fnm X G a__law_told l__law_told c__law_told k__law_told fun _ _ _ _ _ _ us hl => match us, hl with | [_, _, _, _], _ => rfl
    f__law_great := fnm X G a__law_great l__law_great c__law_great k__law_great fun _ _ _ _ _ _ us hl => match us, hl with | [_], _ => rfl
    f__law_large := fnm X G a__law_large l__law_large c__law_large k__law_large fun _ _ _ _ _ _ us hl => match us, hl with | [_], _ => rfl
    f_positions := fnm X G a_positions l_positions c_positions k_positions fun _ _ _ _ _ _ us hl => match us, hl with | [_], _ => rfl
    f_successors := fnm X G a_successors l_successors c_successors k_successors fun _ _ _ _ _ _ us hl => match us, hl with | [_, _], _ => rfl
    f__law_all := fnm X G a__law_all l__law_all c__law_all k__law_all fun _ _ _ _ _ _ us hl => match us, hl with | [_, _], _ => rfl
    g_MOST_DEPTH := ⟨_, PySem.W.mg_of X G g_MOST_DEPTH⟩
    g_MOST_NODES := ⟨_, PySem.W.mg_of X G g_MOST_NODES⟩
    m_LimitError := PySem.W.mg_of X G m_LimitError
    m_StepError := PySem.W.mg_of X G m_StepError
    m_TertiumError := PySem.W.mg_of X G m_TertiumError
    m_TextError := PySem.W.mg_of X G m_TextError
    x_LimitError := ⟨PySem.W.mg_of X G m_LimitError, x_LimitError, xk_LimitError, xb_LimitError, xt_LimitError⟩
    x_StepError := ⟨PySem.W.mg_of X G m_StepError, x_StepError, xk_StepError, xb_StepError, xt_StepError⟩
    e_LimitError := ⟨eg_LimitError, ek_LimitError, xb_LimitError, xd_LimitError, ea_LimitError, eh_, et_, em_LimitError⟩
    e_StepError := ⟨eg_StepError, ek_StepError, xb_StepError, xd_StepError, ea_StepError, eh_, et_, em_StepError⟩
    exm_LimitError_LimitError := PySem.W.exm_ref xb_LimitError xd_LimitError xt_LimitError su_LimitError_LimitError
    exm_StepError_LimitError := PySem.W.exm_ref xb_LimitError xd_LimitError xt_LimitError su_StepError_LimitError
    exm_StepError_StepError := PySem.W.exm_ref xb_StepError xd_StepError xt_StepError su_StepError_StepError
    kiv_StepError := kit_ve sv_StepError
    kit_LimitError_StepError := kit_ref xd_StepError xt_StepError su_LimitError_StepError su_StepError_StepError
    kit_LimitError_TertiumError := kit_ref xd_TertiumError xt_TertiumError su_LimitError_TertiumError su_TertiumError_TertiumError
    kit_StepError_LimitError := kit_ref xd_LimitError xt_LimitError su_StepError_LimitError su_LimitError_LimitError
    kit_StepError_StepError := kit_ref xd_StepError xt_StepError su_StepError_StepError su_StepError_StepError
    kit_StepError_TertiumError := kit_ref xd_TertiumError xt_TertiumError su_StepError_TertiumError su_TertiumError_TertiumError
    kit_StepError_TextError := kit_ref xd_TextError xt_TextError su_StepError_TextError su_TextError_TextError
    tb_apply := hT _ (List.Mem.head _)
    tm_apply := (List.Mem.head _)
    tu_apply := fun p hp e => by
      have hp : p ∈ ([⟨CD_apply, P_apply, ((PyProof.Rows.envOfC "apply" (defScope st_apply) 0 0 .none).qual ++ "<lambda>")⟩] : List Tab).map (fun t => (t.P, t.q)) := hp
      simp only [List.map_cons, List.map_nil, List.mem_cons, List.not_mem_nil, or_false] at hp
      rcases hp with rfl <;> first  | exact rfl
  }
  exact law_fnT (D_law Y (fun_mk (st := st_law) l_law c_law k_law)) law_ok
end K10

open PySem PySem.W PyProof.Rows in
set_option maxRecDepth 100000 in
set_option maxHeartbeats 0 in
theorem PySem.Challenge.cw_tertium_k10_steps_and_derivations_holds : PySem.Challenge.rw_tertium_k10_steps_and_derivations.Holds := by
  w_on; o_law; k_head; (case hw => w_witness2)
  k_fill
  refine DL.walk_lawT (l := PySem.Challenge.rw_tertium_k10_steps_and_derivations) (n := 63) (k := 155) rfl (by decide) rfl ⟨rfl, by decide, by decide⟩ (fun w h Y => PySem.W.km_in_of Y) ?F
  case F =>
    intro w mg fa h KX G hmg htab
    refine' K10.all_mk KX G hmg htab ?z_isinstance ?z_len ?z_tuple ?z_list ?z_int ?z_str ?z_bool ?z_dict ?z_range ?z_max ?z_min ?z_all ?z_any ?z_sum ?z_sorted ?z_enumerate ?z_zip ?z_abs ?z_ValueError ?a__law_start ?l__law_start ?c__law_start ?k__law_start ?a__law_fill ?l__law_fill ?c__law_fill ?k__law_fill ?a__law_take ?l__law_take ?c__law_take ?k__law_take ?a__law_signature ?l__law_signature ?c__law_signature ?k__law_signature ?a__law_term ?l__law_term ?c__law_term ?k__law_term ?a__law_places ?l__law_places ?c__law_places ?k__law_places ?a__law_at ?l__law_at ?c__law_at ?k__law_at ?a__law_names ?l__law_names ?c__law_names ?k__law_names ?a__law_rule ?l__law_rule ?c__law_rule ?k__law_rule ?a__law_system ?l__law_system ?c__law_system ?k__law_system ?a__law_match ?l__law_match ?c__law_match ?k__law_match ?a__law_put ?l__law_put ?c__law_put ?k__law_put ?a__law_apply ?l__law_apply ?c__law_apply ?k__law_apply ?a__law_steps ?l__law_steps ?c__law_steps ?k__law_steps ?a__law_led ?l__law_led ?c__law_led ?k__law_led ?a_is_variable ?l_is_variable ?c_is_variable ?k_is_variable ?a_same ?l_same ?c_same ?k_same ?a_match ?l_match ?c_match ?k_match ?a_need_small ?l_need_small ?c_need_small ?k_need_small ?a_inner ?l_inner ?c_inner ?k_inner ?a_parts ?l_parts ?c_parts ?k_parts ?a_size ?l_size ?c_size ?k_size ?a_depth ?l_depth ?c_depth ?k_depth ?a_put ?l_put ?c_put ?k_put ?a_at ?l_at ?c_at ?k_at ?a_variables ?l_variables ?c_variables ?k_variables ?a_measure ?l_measure ?c_measure ?k_measure ?a_rebuilt ?l_rebuilt ?c_rebuilt ?k_rebuilt ?a_apply ?l_apply ?c_apply ?lc_apply ?lp_apply ?ln_apply ?fi_apply ?k_apply ?a_rewritten ?l_rewritten ?c_rewritten ?k_rewritten ?a_step ?l_step ?c_step ?k_step ?a_derive ?l_derive ?c_derive ?k_derive ?a__law_told ?l__law_told ?c__law_told ?k__law_told ?a__law_great ?l__law_great ?c__law_great ?k__law_great ?a__law_large ?l__law_large ?c__law_large ?k__law_large ?a_positions ?l_positions ?c_positions ?k_positions ?a_successors ?l_successors ?c_successors ?k_successors ?a__law_all ?l__law_all ?c__law_all ?k__law_all ?a_law ?l_law ?c_law ?k_law ?g_MOST_DEPTH ?g_MOST_NODES ?m_LimitError ?m_StepError ?m_TertiumError ?m_TextError ?x_LimitError ?xk_LimitError ?x_StepError ?xk_StepError ?xb_LimitError ?xt_LimitError ?xd_LimitError ?xb_StepError ?xt_StepError ?xd_StepError ?xb_TertiumError ?xt_TertiumError ?xd_TertiumError ?xb_TextError ?xt_TextError ?xd_TextError ?eg_LimitError ?ek_LimitError ?ea_LimitError ?em_LimitError ?eg_StepError ?ek_StepError ?ea_StepError ?em_StepError ?eh_ ?et_ ?sv_StepError ?su_LimitError_LimitError ?su_LimitError_StepError ?su_LimitError_TertiumError ?su_StepError_LimitError ?su_StepError_StepError ?su_StepError_TertiumError ?su_StepError_TextError ?su_TertiumError_TertiumError ?su_TextError_TextError
    (case z_isinstance => k_is)
    (case z_len => k_is)
    (case z_tuple => k_is)
    (case z_list => k_is)
    (case z_int => k_is)
    (case z_str => k_is)
    (case z_bool => k_is)
    (case z_dict => k_is)
    (case z_range => k_is)
    (case z_max => k_is)
    (case z_min => k_is)
    (case z_all => k_is)
    (case z_any => k_is)
    (case z_sum => k_is)
    (case z_sorted => k_is)
    (case z_enumerate => k_is)
    (case z_zip => k_is)
    (case z_abs => k_is)
    (case z_ValueError => k_is)
    (case a__law_start => k_is)
    (case l__law_start => k_is)
    (case c__law_start => k_is)
    (case k__law_start => k_is)
    (case a__law_fill => k_is)
    (case l__law_fill => k_is)
    (case c__law_fill => k_is)
    (case k__law_fill => k_is)
    (case a__law_take => k_is)
    (case l__law_take => k_is)
    (case c__law_take => k_is)
    (case k__law_take => k_is)
    (case a__law_signature => k_is)
    (case l__law_signature => k_is)
    (case c__law_signature => k_is)
    (case k__law_signature => k_is)
    (case a__law_term => k_is)
    (case l__law_term => k_is)
    (case c__law_term => k_is)
    (case k__law_term => k_is)
    (case a__law_places => k_is)
    (case l__law_places => k_is)
    (case c__law_places => k_is)
    (case k__law_places => k_is)
    (case a__law_at => k_is)
    (case l__law_at => k_is)
    (case c__law_at => k_is)
    (case k__law_at => k_is)
    (case a__law_names => k_is)
    (case l__law_names => k_is)
    (case c__law_names => k_is)
    (case k__law_names => k_is)
    (case a__law_rule => k_is)
    (case l__law_rule => k_is)
    (case c__law_rule => k_is)
    (case k__law_rule => k_is)
    (case a__law_system => k_is)
    (case l__law_system => k_is)
    (case c__law_system => k_is)
    (case k__law_system => k_is)
    (case a__law_match => k_is)
    (case l__law_match => k_is)
    (case c__law_match => k_is)
    (case k__law_match => k_is)
    (case a__law_put => k_is)
    (case l__law_put => k_is)
    (case c__law_put => k_is)
    (case k__law_put => k_is)
    (case a__law_apply => k_is)
    (case l__law_apply => k_is)
    (case c__law_apply => k_is)
    (case k__law_apply => k_is)
    (case a__law_steps => k_is)
    (case l__law_steps => k_is)
    (case c__law_steps => k_is)
    (case k__law_steps => k_is)
    (case a__law_led => k_is)
    (case l__law_led => k_is)
    (case c__law_led => k_is)
    (case k__law_led => k_is)
    (case a_is_variable => k_is)
    (case l_is_variable => k_is)
    (case c_is_variable => k_is)
    (case k_is_variable => k_is)
    (case a_same => k_is)
    (case l_same => k_is)
    (case c_same => k_is)
    (case k_same => k_is)
    (case a_match => k_is)
    (case l_match => k_is)
    (case c_match => k_is)
    (case k_match => k_is)
    (case a_need_small => k_is)
    (case l_need_small => k_is)
    (case c_need_small => k_is)
    (case k_need_small => k_is)
    (case a_inner => k_is)
    (case l_inner => k_is)
    (case c_inner => k_is)
    (case k_inner => k_is)
    (case a_parts => k_is)
    (case l_parts => k_is)
    (case c_parts => k_is)
    (case k_parts => k_is)
    (case a_size => k_is)
    (case l_size => k_is)
    (case c_size => k_is)
    (case k_size => k_is)
    (case a_depth => k_is)
    (case l_depth => k_is)
    (case c_depth => k_is)
    (case k_depth => k_is)
    (case a_put => k_is)
    (case l_put => k_is)
    (case c_put => k_is)
    (case k_put => k_is)
    (case a_at => k_is)
    (case l_at => k_is)
    (case c_at => k_is)
    (case k_at => k_is)
    (case a_variables => k_is)
    (case l_variables => k_is)
    (case c_variables => k_is)
    (case k_variables => k_is)
    (case a_measure => k_is)
    (case l_measure => k_is)
    (case c_measure => k_is)
    (case k_measure => k_is)
    (case a_rebuilt => k_is)
    (case l_rebuilt => k_is)
    (case c_rebuilt => k_is)
    (case k_rebuilt => k_is)
    (case a_apply => k_is)
    (case l_apply => k_is)
    (case c_apply => k_is)
    (case lc_apply => first | k_is | rfl)
    (case lp_apply => rfl)
    (case ln_apply => first | k_is | rfl)
    (case fi_apply => exact ⟨_, rfl⟩)
    (case k_apply => k_is)
    (case a_rewritten => k_is)
    (case l_rewritten => k_is)
    (case c_rewritten => k_is)
    (case k_rewritten => k_is)
    (case a_step => k_is)
    (case l_step => k_is)
    (case c_step => k_is)
    (case k_step => k_is)
    (case a_derive => k_is)
    (case l_derive => k_is)
    (case c_derive => k_is)
    (case k_derive => k_is)
    (case a__law_told => k_is)
    (case l__law_told => k_is)
    (case c__law_told => k_is)
    (case k__law_told => k_is)
    (case a__law_great => k_is)
    (case l__law_great => k_is)
    (case c__law_great => k_is)
    (case k__law_great => k_is)
    (case a__law_large => k_is)
    (case l__law_large => k_is)
    (case c__law_large => k_is)
    (case k__law_large => k_is)
    (case a_positions => k_is)
    (case l_positions => k_is)
    (case c_positions => k_is)
    (case k_positions => k_is)
    (case a_successors => k_is)
    (case l_successors => k_is)
    (case c_successors => k_is)
    (case k_successors => k_is)
    (case a__law_all => k_is)
    (case l__law_all => k_is)
    (case c__law_all => k_is)
    (case k__law_all => k_is)
    (case a_law => k_is)
    (case l_law => k_is)
    (case c_law => k_is)
    (case k_law => k_is)
    (case g_MOST_DEPTH => k_is)
    (case g_MOST_NODES => k_is)
    (case m_LimitError => k_is)
    (case m_StepError => k_is)
    (case m_TertiumError => k_is)
    (case m_TextError => k_is)
    (case x_LimitError => k_exc)
    (case xk_LimitError => k_is)
    (case x_StepError => k_exc)
    (case xk_StepError => k_is)
    (case xb_LimitError => k_is)
    (case xt_LimitError => k_is)
    (case xd_LimitError => k_is)
    (case xb_StepError => k_is)
    (case xt_StepError => k_is)
    (case xd_StepError => k_is)
    (case xb_TertiumError => k_is)
    (case xt_TertiumError => k_is)
    (case xd_TertiumError => k_is)
    (case xb_TextError => k_is)
    (case xt_TextError => k_is)
    (case xd_TextError => k_is)
    (case eg_LimitError => k_is)
    (case ek_LimitError => k_is)
    (case ea_LimitError => k_is)
    (case em_LimitError => k_is)
    (case eg_StepError => k_is)
    (case ek_StepError => k_is)
    (case ea_StepError => k_is)
    (case em_StepError => k_is)
    (case eh_ => k_is)
    (case et_ => k_is)
    (case sv_StepError => k_is)
    (case su_LimitError_LimitError => first | k_is | rfl)
    (case su_LimitError_StepError => first | k_is | rfl)
    (case su_LimitError_TertiumError => first | k_is | rfl)
    (case su_StepError_LimitError => first | k_is | rfl)
    (case su_StepError_StepError => first | k_is | rfl)
    (case su_StepError_TertiumError => first | k_is | rfl)
    (case su_StepError_TextError => first | k_is | rfl)
    (case su_TertiumError_TertiumError => first | k_is | rfl)
    (case su_TextError_TextError => first | k_is | rfl)

