import PyProof.Rows.All
import HandS.ForMost
import HandS.ForExc
import HandS.CallSlots
import HandS.ExcInit
import HandS.ExcIs
import HandS.Lambda
import KE.SortData
import KE.KExcSuper
import PyProof.ReprRoads
import PyProof.Rows.EqDataRows
import HandS.Wide
import HandS.Style
import HandS.IsInst
import HandS.TupAny
import HandS.Deep
import HandS.RaiseMore
import HandS.Small
import HandS.NoneIn
import HandS.EndOwn
import KE.KNestM
import HandS.Zip
import HandS.TupMul
import PySem.Challenge.RW_pairblocks_k05_whole_numbers_that_famili
/- Q1 -/
section
set_option Elab.async false
set_option linter.all false
set_option maxRecDepth 100000
namespace Pb
open PySem PySem.Spec PyProof.Rows L2

/-! ### trees -/
inductive T where
  | non | bl (b : Bool) | int (i : Int) | str (s : Str) | ty (n : String) | fn (n : Str) | cls (n : Str)
  | tup (xs : List T) | lst (xs : List T) | frl (xs : List T) | frt (xs : List T)
  | dct (kd : Bool) (ks vs : List T)
  | obj (c : Str) (ns : List Str) (vs : List T)
  | exc (c : Str) (ns : List Str) (vs : List T)
  | opq (o : HO)

abbrev SL := List (Option V)
abbrev Sl := Option (Nat × T)
abbrev En := List Sl
structure Rz where
  d : Nat
  al : Bool
  t : T
abbrev fz (t : T) : Rz := ⟨0, false, t⟩
abbrev ow (t : T) : Rz := ⟨1, false, t⟩
inductive Out where
  | ok (r : Rz) (ρ : En)
  | ex (e : T) (ρ : En)
  | no
abbrev M := En → Out
def Out.bind : Out → (Rz → En → Out) → Out
  | .ok r ρ, k => k r ρ
  | .ex e ρ, _ => .ex e ρ
  | .no, _ => .no

/-- what the program's names stand for -/
structure Gx where
  K : PySem.W.Frag
  cls : Str → Option Addr
  fn : Str → Option Addr
  tabs : List (Addr × Str)
  ea : Option (Addr × T × Option Addr) := none

def keyT : T → Option Key
  | .int i => some (.inl i)
  | .str x => some (.inr x)
  | _ => none
def keysT : List T → Option (List Key)
  | [] => some []
  | t :: r => match keyT t, keysT r with
    | some k, some ks => some (k :: ks)
    | _, _ => none
/-- keys of a dict that are tuples -/
def keyTT : T → Option (List Key)
  | .tup ts => keysT ts
  | _ => none
def keysTT : List T → Option (List (List Key))
  | [] => some []
  | t :: r => match keyTT t, keysTT r with
    | some k, some ks => some (k :: ks)
    | _, _ => none

/-- a dict of the keys ks and the values xs at an object -/
def DctAt (kd : Bool) (ks : List T) (xs : List V) (o : Option HO) : Prop :=
  (kd = false ∧ ∃ kl, keysT ks = some kl ∧ (kl.length = xs.length ∧ kl.Nodup) ∧ o = some (.dK (kl.zip xs))) ∨
  (kd = true ∧ ∃ kl, keysTT ks = some kl ∧ (kl.length = xs.length ∧ kl.Nodup) ∧ o = some (.dT (kl.zip xs)))

mutual
def Rep (G : Gx) (F : Hp) : T → V → Prop
  | .non, x => x = .non
  | .bl b, x => x = .bl b
  | .int i, x => x = .int i
  | .str s, x => x = .str s
  | .ty n, x => x = .ty n
  | .fn n, x => ∃ a, G.fn n = some a ∧ x = .ref a
  | .cls n, x => ∃ a, G.cls n = some a ∧ x = .ref a
  | .tup ts, x => ∃ a vs, x = .ref a ∧ F a = some (.tup vs) ∧ Reps G F ts vs
  | .lst ts, x => ∃ a vs, x = .ref a ∧ F a = some (.lst vs) ∧ Reps G F ts vs
  | .frl ts, x => ∃ a vs, x = .ref a ∧ SqL G.K F a vs ∧ Reps G F ts vs
  | .frt ts, x => ∃ a vs, x = .ref a ∧ SqT G.K F a vs ∧ Reps G F ts vs
  | .dct kd ks ts, x => ∃ a vs, x = .ref a ∧ DctAt kd ks vs (F a) ∧ Reps G F ts vs
  | .obj c ns ts, x => ∃ a C dx vs, x = .ref a ∧ G.cls c = some C ∧ F a = some (.ins C dx (ns.zip vs)) ∧ F dx = some (.own a) ∧ ns.length = vs.length ∧ Reps G F ts vs
  | .exc c ns ts, x => ∃ a d vs, G.ea = some (a, .exc c ns ts, d) ∧ x = .ref a ∧ ns.length = vs.length ∧ Reps G F ts vs ∧ (d = none ∨ ∃ dx, d = some dx ∧ F dx = some (.xd (ns.zip vs)))
  | .opq o, x => ∃ a, x = .ref a ∧ F a = some o
def Reps (G : Gx) (F : Hp) : List T → List V → Prop
  | [], xs => xs = []
  | t :: ts, xs => ∃ x r, xs = x :: r ∧ Rep G F t x ∧ Reps G F ts r
end

abbrev Sub (F F' : Hp) : Prop := ∀ a o, F a = some o → F' a = some o
theorem Sub.refl (F : Hp) : Sub F F := fun _ _ h => h
theorem Sub.trans {A B C : Hp} (h : Sub A B) (g : Sub B C) : Sub A C := fun a o e => g a o (h a o e)

theorem sqL_mono {K : PySem.W.Frag} {F F' : Hp} {a : Addr} {xs : List V} (h : Sub F F') (q : SqL K F a xs) : SqL K F' a xs := by
  rcases q with (q | ⟨o, q⟩) | q
  · exact .inl (.inl (h _ _ q))
  · exact .inl (.inr ⟨o, h _ _ q⟩)
  · exact .inr q
theorem sqT_mono {K : PySem.W.Frag} {F F' : Hp} {a : Addr} {xs : List V} (h : Sub F F') (q : SqT K F a xs) : SqT K F' a xs := by
  rcases q with (q | ⟨o, q⟩) | q
  · exact .inl (.inl (h _ _ q))
  · exact .inl (.inr ⟨o, h _ _ q⟩)
  · exact .inr q
theorem DctAt.mono {F F' : Hp} {a : Addr} {kd : Bool} {ks : List T} {xs : List V} (h : Sub F F') (q : DctAt kd ks xs (F a)) : DctAt kd ks xs (F' a) := by
  rcases q with ⟨h0, kl, h1, h2, h3⟩ | ⟨h0, kl, h1, h2, h3⟩
  · exact .inl ⟨h0, kl, h1, h2, h _ _ h3⟩
  · exact .inr ⟨h0, kl, h1, h2, h _ _ h3⟩

mutual
theorem Rep.mono {G : Gx} {F F' : Hp} (h : Sub F F') : ∀ (t : T) (x : V), Rep G F t x → Rep G F' t x
  | .non, x, q => q
  | .bl b, x, q => q
  | .int i, x, q => q
  | .str s, x, q => q
  | .ty n, x, q => q
  | .fn n, x, q => q
  | .cls n, x, q => q
  | .tup ts, x, q => by
    obtain ⟨a, vs, e, s, r⟩ := q
    exact ⟨a, vs, e, h _ _ s, Reps.mono h ts vs r⟩
  | .lst ts, x, q => by
    obtain ⟨a, vs, e, s, r⟩ := q
    exact ⟨a, vs, e, h _ _ s, Reps.mono h ts vs r⟩
  | .frl ts, x, q => by
    obtain ⟨a, vs, e, s, r⟩ := q
    exact ⟨a, vs, e, sqL_mono h s, Reps.mono h ts vs r⟩
  | .frt ts, x, q => by
    obtain ⟨a, vs, e, s, r⟩ := q
    exact ⟨a, vs, e, sqT_mono h s, Reps.mono h ts vs r⟩
  | .dct kd ks ts, x, q => by
    obtain ⟨a, vs, e, s, r⟩ := q
    exact ⟨a, vs, e, s.mono h, Reps.mono h ts vs r⟩
  | .obj c ns ts, x, q => by
    obtain ⟨a, C, dx, vs, e, hc, s, s', l, r⟩ := q
    exact ⟨a, C, dx, vs, e, hc, h _ _ s, h _ _ s', l, Reps.mono h ts vs r⟩
  | .exc c ns ts, x, q => by
    obtain ⟨a, d, vs, e, ex, l, r, z⟩ := q
    exact ⟨a, d, vs, e, ex, l, Reps.mono h ts vs r, z.imp id fun ⟨dx, e1, e2⟩ => ⟨dx, e1, h _ _ e2⟩⟩
  | .opq o, x, q => by
    obtain ⟨a, e, r⟩ := q
    exact ⟨a, e, h _ _ r⟩
theorem Reps.mono {G : Gx} {F F' : Hp} (h : Sub F F') : ∀ (ts : List T) (xs : List V), Reps G F ts xs → Reps G F' ts xs
  | [], xs, q => q
  | t :: ts, xs, q => by
    obtain ⟨x, r, e, a, b⟩ := q
    exact ⟨x, r, e, Rep.mono h t x a, Reps.mono h ts r b⟩
end
theorem Reps.length {G : Gx} {F : Hp} : ∀ {ts : List T} {xs : List V}, Reps G F ts xs → ts.length = xs.length
  | [], xs, q => by have e : xs = [] := q; rw [e]; rfl
  | t :: ts, xs, q => by
    obtain ⟨x, r, rfl, _, b⟩ := q
    rw [List.length_cons, List.length_cons, b.length]

/-! ### what is owned -/
def All2 (P : T → V → List Addr → Prop) : List T → List V → List Addr → Prop
  | [], xs, as => xs = [] ∧ as = []
  | t :: ts, xs, as => ∃ x r a b, xs = x :: r ∧ as = a ++ b ∧ P t x a ∧ All2 P ts r b
theorem All2.imp {P P' : T → V → List Addr → Prop} : ∀ {ts : List T} {xs : List V} {as : List Addr}, (∀ t x a, (∀ c ∈ a, c ∈ as) → P t x a → P' t x a) → All2 P ts xs as → All2 P' ts xs as
  | [], _, _, _, q => q
  | t :: ts, xs, as, h, q => by
    obtain ⟨x, r, a, b, e1, e2, p, q⟩ := q
    subst e2
    exact ⟨x, r, a, b, e1, rfl, h t x a (fun c hc => List.mem_append_left _ hc) p, All2.imp (fun t x a' hs => h t x a' fun c hc => List.mem_append_right _ (hs c hc)) q⟩
theorem All2.length {P : T → V → List Addr → Prop} : ∀ {ts : List T} {xs : List V} {as : List Addr}, All2 P ts xs as → ts.length = xs.length
  | [], _, _, q => by rw [q.1]; rfl
  | t :: ts, _, _, q => by
    obtain ⟨x, r, a, b, rfl, _, _, q⟩ := q
    rw [List.length_cons, List.length_cons, q.length]

/-- no table of code objects -/
abbrev NoT (o : HO) : Prop := ∀ ps, o ≠ .tbl ps
theorem noT_lst {xs : List V} : NoT (.lst xs) := fun _ z => by cases z
theorem DctAt.noT {kd : Bool} {ks : List T} {xs : List V} {o : HO} (h : DctAt kd ks xs (some o)) : NoT o := fun _ z => by
  rcases h with ⟨_, _, _, _, e⟩ | ⟨_, _, _, _, e⟩ <;> (cases e; cases z)
def Own (G : Gx) (F H : Hp) : Nat → T → V → List Addr → Prop
  | 0, t, x, as => as = [] ∧ Rep G F t x
  | d + 1, .lst ts, x, as => ∃ a vs bs, x = .ref a ∧ as = a :: bs ∧ F a = none ∧ H a = some (.lst vs) ∧ All2 (Own G F H d) ts vs bs
  | d + 1, .dct kd ks ts, x, as => ∃ a vs bs, x = .ref a ∧ as = a :: bs ∧ F a = none ∧ DctAt kd ks vs (H a) ∧ All2 (Own G F H d) ts vs bs
  | _ + 1, .opq o, x, as => ∃ a, x = .ref a ∧ as = [a] ∧ F a = none ∧ H a = some o ∧ NoT o
  | _ + 1, t, x, as => as = [] ∧ Rep G F t x

theorem Own.mono {G : Gx} {F F' H H' : Hp} (hF : Sub F F') : ∀ {d : Nat} {t : T} {x : V} {as : List Addr}, (∀ a ∈ as, F' a = none ∧ H' a = H a) → Own G F H d t x as → Own G F' H' d t x as
  | 0, t, x, as, _, q => ⟨q.1, Rep.mono hF t x q.2⟩
  | d + 1, t, x, as, h, q => by
    cases t with
    | lst ts =>
      obtain ⟨a, vs, bs, e1, e2, f, g, r⟩ := q
      subst e2
      have ha := h a List.mem_cons_self
      exact ⟨a, vs, bs, e1, rfl, ha.1, ha.2.trans g, r.imp fun t x as hs p => Own.mono hF (fun b hb => h b (List.mem_cons_of_mem _ (hs b hb))) p⟩
    | dct kd ks ts =>
      obtain ⟨a, vs, bs, e1, e2, f, g, r⟩ := q
      subst e2
      have ha := h a List.mem_cons_self
      exact ⟨a, vs, bs, e1, rfl, ha.1, by rw [ha.2]; exact g, r.imp fun t x as hs p => Own.mono hF (fun b hb => h b (List.mem_cons_of_mem _ (hs b hb))) p⟩
    | opq o =>
      obtain ⟨a, e1, e2, f, g, nt⟩ := q
      subst e2
      have ha := h a List.mem_cons_self
      exact ⟨a, e1, rfl, ha.1, ha.2.trans g, nt⟩
    | _ => exact ⟨q.1, Rep.mono hF _ x q.2⟩

/-- what an owned thing stands at: tracked -/
theorem Own.at {G : Gx} {F H : Hp} : ∀ {d : Nat} {t : T} {x : V} {as : List Addr}, Own G F H d t x as → ∀ a ∈ as, F a = none ∧ ∃ o, H a = some o ∧ NoT o
  | 0, t, x, as, q, a, ha => by rw [q.1] at ha; exact absurd ha (by simp)
  | d + 1, t, x, as, q, a, ha => by
    have deep : ∀ {ts : List T} {vs : List V} {bs : List Addr}, All2 (Own G F H d) ts vs bs → ∀ b ∈ bs, F b = none ∧ ∃ o, H b = some o ∧ NoT o := by
      intro ts
      induction ts with
      | nil => intro vs bs r b hb; rw [r.2] at hb; exact absurd hb (by simp)
      | cons t ts ih =>
        intro vs bs r b hb
        obtain ⟨x, r', a, b', e1, e2, p, r⟩ := r
        rw [e2] at hb
        rcases List.mem_append.mp hb with hb | hb
        · exact Own.at p b hb
        · exact ih r b hb
    cases t with
    | lst ts =>
      obtain ⟨a', vs, bs, e1, e2, f, g, r⟩ := q
      rw [e2] at ha
      rcases List.mem_cons.mp ha with rfl | ha
      · exact ⟨f, _, g, noT_lst⟩
      · exact deep r a ha
    | dct kd ks ts =>
      obtain ⟨a', vs, bs, e1, e2, f, g, r⟩ := q
      rw [e2] at ha
      rcases List.mem_cons.mp ha with rfl | ha
      · refine ⟨f, ?_⟩
        rcases g with ⟨_, _, _, _, g⟩ | ⟨_, _, _, _, g⟩ <;> exact ⟨_, g, fun _ z => by cases z⟩
      · exact deep r a ha
    | opq o =>
      obtain ⟨a', e1, e2, f, g, nt⟩ := q
      rw [e2] at ha
      rw [List.mem_singleton.mp ha]
      exact ⟨f, o, g, nt⟩
    | _ => rw [q.1] at ha; exact absurd ha (by simp)

/-- F with what stands at as -/
def add (F H : Hp) (as : List Addr) : Hp := fun a => if a ∈ as then H a else F a
theorem add_in {F H : Hp} {as : List Addr} {a : Addr} (h : a ∈ as) : add F H as a = H a := if_pos h
theorem add_out {F H : Hp} {as : List Addr} {a : Addr} (h : a ∉ as) : add F H as a = F a := if_neg h
theorem sub_add {F H : Hp} {as : List Addr} (h : Sub F H) : Sub F (add F H as) := fun a o e => by
  by_cases q : a ∈ as
  · rw [add_in q]; exact h a o e
  · rw [add_out q]; exact e
theorem add_sub {F H : Hp} {as : List Addr} (h : Sub F H) : Sub (add F H as) H := fun a o e => by
  by_cases q : a ∈ as
  · rw [add_in q] at e; exact e
  · rw [add_out q] at e; exact h a o e

theorem Own.freeze {G : Gx} {F F' H : Hp} (hF : Sub F F') : ∀ {d : Nat} {t : T} {x : V} {as : List Addr}, (∀ a ∈ as, F' a = H a) → Own G F H d t x as → Rep G F' t x
  | 0, t, x, as, h, q => Rep.mono hF t x q.2
  | d + 1, t, x, as, h, q => by
    have deep : ∀ {ts : List T} {vs : List V} {bs : List Addr}, (∀ b ∈ bs, F' b = H b) → All2 (Own G F H d) ts vs bs → Reps G F' ts vs := by
      intro ts
      induction ts with
      | nil => intro vs bs hb r; exact r.1
      | cons t ts ih =>
        intro vs bs hb r
        obtain ⟨x, r', a, b', e1, e2, p, r⟩ := r
        subst e2
        exact ⟨x, r', e1, Own.freeze hF (fun c hc => hb c (List.mem_append_left _ hc)) p, ih (fun c hc => hb c (List.mem_append_right _ hc)) r⟩
    cases t with
    | lst ts =>
      obtain ⟨a', vs, bs, e1, e2, f, g, r⟩ := q
      subst e2
      exact ⟨a', vs, e1, (h a' List.mem_cons_self).trans g, deep (fun b hb => h b (List.mem_cons_of_mem _ hb)) r⟩
    | dct kd ks ts =>
      obtain ⟨a', vs, bs, e1, e2, f, g, r⟩ := q
      subst e2
      exact ⟨a', vs, e1, by rw [h a' List.mem_cons_self]; exact g, deep (fun b hb => h b (List.mem_cons_of_mem _ hb)) r⟩
    | opq o =>
      obtain ⟨a', e1, e2, f, g, _⟩ := q
      subst e2
      exact ⟨a', e1, (h a' List.mem_cons_self).trans g⟩
    | _ => exact Rep.mono hF _ x q.2

/-! ### entries -/
abbrev Ent := Nat × T × V
def EnOk (G : Gx) (F H : Hp) : List Ent → List Addr → Prop
  | [], as => as = []
  | (d, t, x) :: es, as => ∃ a b, as = a ++ b ∧ Own G F H d t x a ∧ EnOk G F H es b
/-- no table is frozen -/
abbrev NT (F : Hp) : Prop := ∀ a o, F a = some o → NoT o
structure Good (G : Gx) (F H : Hp) (es : List Ent) : Prop where
  sub : Sub F H
  nt : NT F
  tab : LamX.Tabs G.tabs H
  own : ∃ as, EnOk G F H es as ∧ as.Nodup

theorem EnOk.at {G : Gx} {F H : Hp} : ∀ {es : List Ent} {as : List Addr}, EnOk G F H es as → ∀ a ∈ as, F a = none ∧ ∃ o, H a = some o ∧ NoT o
  | [], as, q, a, ha => by have e : as = [] := q; rw [e] at ha; exact absurd ha (by simp)
  | (d, t, x) :: es, as, q, a, ha => by
    obtain ⟨b, c, e, p, q⟩ := q
    rw [e] at ha
    rcases List.mem_append.mp ha with ha | ha
    · exact p.at a ha
    · exact q.at a ha
theorem EnOk.mono {G : Gx} {F F' H H' : Hp} (hF : Sub F F') : ∀ {es : List Ent} {as : List Addr}, (∀ a ∈ as, F' a = none ∧ H' a = H a) → EnOk G F H es as → EnOk G F' H' es as
  | [], as, _, q => q
  | (d, t, x) :: es, as, h, q => by
    obtain ⟨b, c, e, p, q⟩ := q
    subst e
    exact ⟨b, c, rfl, p.mono hF fun a ha => h a (List.mem_append_left _ ha), q.mono hF fun a ha => h a (List.mem_append_right _ ha)⟩
theorem EnOk.perm {G : Gx} {F H : Hp} {es es' : List Ent} (hp : es.Perm es') : ∀ {as : List Addr}, EnOk G F H es as → ∃ as', EnOk G F H es' as' ∧ as.Perm as' := by
  induction hp with
  | nil => intro as q; exact ⟨as, q, .refl _⟩
  | cons x _ ih =>
    intro as q
    obtain ⟨b, c, e, p, q⟩ := q
    obtain ⟨c', q', hp⟩ := ih q
    exact ⟨b ++ c', ⟨b, c', rfl, p, q'⟩, by rw [e]; exact hp.append_left b⟩
  | swap x y l =>
    intro as q
    obtain ⟨b, c, e, p, b', c', e', p', q⟩ := q
    exact ⟨b' ++ (b ++ c'), ⟨b', b ++ c', rfl, p', b, c', rfl, p, q⟩, by
      rw [e, e', ← List.append_assoc, ← List.append_assoc]
      exact (List.perm_append_comm).append_right c'⟩
  | trans _ _ ih1 ih2 =>
    intro as q
    obtain ⟨as1, q1, p1⟩ := ih1 q
    obtain ⟨as2, q2, p2⟩ := ih2 q1
    exact ⟨as2, q2, p1.trans p2⟩
theorem EnOk.append {G : Gx} {F H : Hp} : ∀ {es es' : List Ent} {as : List Addr}, EnOk G F H (es ++ es') as → ∃ a b, as = a ++ b ∧ EnOk G F H es a ∧ EnOk G F H es' b
  | [], es', as, q => ⟨[], as, rfl, rfl, q⟩
  | (d, t, x) :: es, es', as, q => by
    obtain ⟨b, c, e, p, q⟩ := q
    obtain ⟨a, b', e', q1, q2⟩ := q.append
    exact ⟨b ++ a, b', by rw [e, e', List.append_assoc], ⟨b, a, rfl, p, q1⟩, q2⟩
theorem EnOk.join {G : Gx} {F H : Hp} : ∀ {es es' : List Ent} {a b : List Addr}, EnOk G F H es a → EnOk G F H es' b → EnOk G F H (es ++ es') (a ++ b)
  | [], es', a, b, q, q' => by have e : a = [] := q; rw [e]; exact q'
  | (d, t, x) :: es, es', a, b, q, q' => by
    obtain ⟨a1, a2, e, p, q⟩ := q
    exact ⟨a1, a2 ++ b, by rw [e, List.append_assoc], p, q.join q'⟩

theorem Good.perm {G : Gx} {F H : Hp} {es es' : List Ent} (g : Good G F H es) (hp : es.Perm es') : Good G F H es' := by
  obtain ⟨as, q, n⟩ := g.own
  obtain ⟨as', q', p⟩ := q.perm hp
  exact ⟨g.sub, g.nt, g.tab, as', q', p.nodup n⟩
theorem Good.drop {G : Gx} {F H : Hp} {es es' : List Ent} (g : Good G F H (es ++ es')) : Good G F H es' := by
  obtain ⟨as, q, n⟩ := g.own
  obtain ⟨a, b, e, q1, q2⟩ := q.append
  exact ⟨g.sub, g.nt, g.tab, b, q2, (List.nodup_append.mp (e ▸ n)).2.1⟩
theorem Good.tail {G : Gx} {F H : Hp} {e : Ent} {es : List Ent} (g : Good G F H (e :: es)) : Good G F H es := Good.drop (es := [e]) g
theorem Good.head {G : Gx} {F H : Hp} {d : Nat} {t : T} {x : V} {es : List Ent} (g : Good G F H ((d, t, x) :: es)) : ∃ as, Own G F H d t x as := by
  obtain ⟨as, ⟨a, b, e, p, q⟩, n⟩ := g.own
  exact ⟨a, p⟩
theorem Good.zero {G : Gx} {F H : Hp} {t : T} {x : V} {es : List Ent} (g : Good G F H es) (r : Rep G F t x) : Good G F H ((0, t, x) :: es) := by
  obtain ⟨as, q, n⟩ := g.own
  exact ⟨g.sub, g.nt, g.tab, as, ⟨[], as, rfl, ⟨rfl, r⟩, q⟩, n⟩

/-- free, or a table of code objects -/
def FT (H : Hp) (a : Addr) : Prop := ∀ o, H a = some o → ∃ ps, o = .tbl ps
theorem FT.none {H : Hp} {a : Addr} (h : H a = none) : FT H a := fun o e => by rw [h] at e; cases e
theorem FT.not {H : Hp} {a : Addr} {o : HO} (h : FT H a) (e : H a = some o) (n : NoT o) : False := by
  obtain ⟨ps, z⟩ := h o e
  exact n ps z
/-- all that stood stands (but tables, which may grow); what became known is new -/
structure Ext (G : Gx) (F H F' H' : Hp) : Prop where
  low : Sub F F'
  up : LamX.ExtN H H'
  new : ∀ a, F' a = F a ∨ FT H a
  tab : LamX.Tabs G.tabs H → LamX.Tabs G.tabs H'
  nt : NT F → NT F'
theorem Ext.refl {G : Gx} (F H : Hp) : Ext G F H F H := ⟨.refl F, .refl H, fun _ => .inl rfl, id, id⟩
theorem ft_back {H H1 : Hp} {c : Addr} (u : LamX.ExtN H H1) (h : FT H1 c) : FT H c := fun o e => by
  refine Classical.byContradiction fun n => h.not (u c o e fun ps z => n ⟨ps, z⟩) fun ps z => n ⟨ps, z⟩
theorem Ext.trans {G : Gx} {F H F1 H1 F2 H2 : Hp} (a : Ext G F H F1 H1) (b : Ext G F1 H1 F2 H2) : Ext G F H F2 H2 := by
  refine ⟨a.low.trans b.low, a.up.trans b.up, fun c => ?_, fun t => b.tab (a.tab t), fun t => b.nt (a.nt t)⟩
  rcases b.new c with e | e
  · rcases a.new c with e' | e'
    · exact .inl (e.trans e')
    · exact .inr e'
  · exact .inr (ft_back a.up e)
theorem Ext.at {G : Gx} {F H F' H' : Hp} (x : Ext G F H F' H') {a : Addr} (h : F a = none ∧ ∃ o, H a = some o ∧ NoT o) : F' a = none ∧ H' a = H a := by
  obtain ⟨f, o, e, n⟩ := h
  refine ⟨?_, (x.up a o e n).trans e.symm⟩
  rcases x.new a with q | q
  · exact q.trans f
  · exact (q.not e n).elim
/-- nothing of what stood is other, tables too -/
theorem Ext.of {G : Gx} {F H F' H' : Hp} (low : Sub F F') (up : Sub H H') (new : ∀ a, F' a = F a ∨ H a = none) (nt : NT F → NT F') : Ext G F H F' H' :=
  ⟨low, fun a o e _ => up a o e, fun a => (new a).imp id FT.none, fun t => t.ext up, nt⟩
theorem Own.ext {G : Gx} {F H F' H' : Hp} (x : Ext G F H F' H') {d : Nat} {t : T} {v : V} {as : List Addr} (p : Own G F H d t v as) : Own G F' H' d t v as := p.mono x.low fun a ha => x.at (p.at a ha)
theorem EnOk.ext {G : Gx} {F H F' H' : Hp} (x : Ext G F H F' H') {es : List Ent} {as : List Addr} (p : EnOk G F H es as) : EnOk G F' H' es as := p.mono x.low fun a ha => x.at (p.at a ha)
theorem Good.ext {G : Gx} {F H F' H' : Hp} {es : List Ent} (g : Good G F H es) (x : Ext G F H F' H') (h : Sub F' H') : Good G F' H' es := by
  obtain ⟨as, q, n⟩ := g.own
  exact ⟨h, x.nt g.nt, x.tab g.tab, as, q.ext x, n⟩
/-- a thing freshly made -/
def New (G : Gx) (F H F' H' : Hp) (d : Nat) (t : T) (x : V) : Prop := Ext G F H F' H' ∧ Sub F' H' ∧ ∃ as, Own G F' H' d t x as ∧ as.Nodup ∧ ∀ a ∈ as, FT H a
theorem Good.new {G : Gx} {F H F' H' : Hp} {es : List Ent} {d : Nat} {t : T} {x : V} (g : Good G F H es) (n : New G F H F' H' d t x) : Good G F' H' ((d, t, x) :: es) := by
  obtain ⟨e, s, as, p, nd, fr⟩ := n
  obtain ⟨bs, q, nb⟩ := g.own
  refine ⟨s, e.nt g.nt, e.tab g.tab, as ++ bs, ⟨as, bs, rfl, p, q.ext e⟩, List.nodup_append.mpr ⟨nd, nb, fun a ha b hb => ?_⟩⟩
  rintro rfl
  obtain ⟨_, o, h, nt⟩ := q.at a hb
  exact (fr a ha).not h nt
theorem New.val {G : Gx} {F H : Hp} {t : T} {x : V} (s : Sub F H) (r : Rep G F t x) : New G F H F H 0 t x := ⟨.refl F H, s, [], ⟨rfl, r⟩, .nil, fun _ h => absurd h (by simp)⟩

/-- freezing an entry -/
theorem Good.freeze {G : Gx} {F H : Hp} {d : Nat} {t : T} {x : V} {es : List Ent} (g : Good G F H ((d, t, x) :: es)) : ∃ F', Sub F F' ∧ Good G F' H ((0, t, x) :: es) := by
  obtain ⟨as, ⟨a, b, e, p, q⟩, n⟩ := g.own
  subst e
  have nn := List.nodup_append.mp n
  refine ⟨add F H a, sub_add g.sub, add_sub g.sub, fun c o z => ?_, g.tab, b, ⟨[], b, rfl, ⟨rfl, p.freeze (sub_add g.sub) fun c hc => add_in hc⟩, q.mono (sub_add g.sub) fun c hc => ⟨?_, rfl⟩⟩, nn.2.1⟩
  · by_cases hc : c ∈ a
    · rw [add_in hc] at z
      obtain ⟨_, o', e', nt⟩ := p.at c hc
      rw [e'] at z
      cases z
      exact nt
    · rw [add_out hc] at z
      exact g.nt c o z
  · rw [add_out fun z => nn.2.2 c z c hc rfl]
    exact (q.at c hc).1

/-! ### slots -/
/-- what cannot be -/
abbrev bad : Ent := (0, .bl true, .non)
def entOf (s : Sl) (x : Option (Option V)) : List Ent :=
  match s with
  | none => []
  | some (d, t) => match x with
    | some (some v) => [(d, t, v)]
    | _ => [bad]
def ents : En → SL → List Ent
  | [], _ => []
  | s :: ρ, σ => entOf s σ[0]? ++ ents ρ (σ.drop 1)
theorem ents_at : ∀ {ρ : En} {σ : SL} {i : Nat} {s : Sl}, ρ[i]? = some s → (ents ρ σ).Perm (entOf s σ[i]? ++ ents (ρ.set i none) σ)
  | [], σ, i, s, h => by simp at h
  | q :: ρ, σ, 0, s, h => by
    have e : q = s := by simpa using h
    subst e
    exact .refl _
  | q :: ρ, σ, i + 1, s, h => by
    have h' : ρ[i]? = some s := by simpa using h
    have ih := ents_at (σ := σ.drop 1) h'
    show (entOf q σ[0]? ++ ents ρ (σ.drop 1)).Perm (entOf s σ[i + 1]? ++ (entOf q σ[0]? ++ ents (ρ.set i none) (σ.drop 1)))
    rw [List.getElem?_drop, Nat.add_comm 1 i] at ih
    refine (ih.append_left _).trans ?_
    rw [← List.append_assoc, ← List.append_assoc]
    exact List.perm_append_comm.append_right _
/-- a slot of no entry may be anything -/
theorem ents_none : ∀ {ρ : En} {σ : SL} {i : Nat} {y : Option V}, ρ[i]? = some none ∨ ρ[i]? = none → ents ρ (σ.set i y) = ents ρ σ
  | [], σ, i, y, _ => rfl
  | q :: ρ, σ, 0, y, h => by
    have e : q = none := by simpa using h
    subst e
    show ents ρ ((σ.set 0 y).drop 1) = ents ρ (σ.drop 1)
    cases σ <;> rfl
  | q :: ρ, σ, i + 1, y, h => by
    have h' : ρ[i]? = some none ∨ ρ[i]? = none := by simpa using h
    show entOf q (σ.set (i + 1) y)[0]? ++ ents ρ ((σ.set (i + 1) y).drop 1) = entOf q σ[0]? ++ ents ρ (σ.drop 1)
    cases σ with
    | nil => rfl
    | cons z σ =>
      show entOf q (some z) ++ ents ρ (σ.set i y) = entOf q (some z) ++ ents ρ σ
      rw [ents_none h']
theorem ents_set_none {ρ : En} {σ : SL} {i : Nat} {y : Option V} : ents (ρ.set i none) (σ.set i y) = ents (ρ.set i none) σ := by
  refine ents_none ?_
  rw [List.getElem?_set]
  by_cases h : i < ρ.length
  · simp [h]
  · simp [h]
theorem ents_len : ∀ {ρ : En} {σ : SL} {i : Nat} {d : Nat} {t : T}, ρ[i]? = some (some (d, t)) → (∀ e ∈ ents ρ σ, e ≠ bad) → ∃ v, σ[i]? = some (some v)
  | [], σ, i, d, t, h, _ => by simp at h
  | q :: ρ, σ, 0, d, t, h, nb => by
    have e : q = some (d, t) := by simpa using h
    subst e
    cases z : σ[0]? with
    | none => exact absurd rfl (nb bad (List.mem_append_left _ (by rw [z]; exact List.mem_cons_self)))
    | some v =>
      cases v with
      | none => exact absurd rfl (nb bad (List.mem_append_left _ (by rw [z]; exact List.mem_cons_self)))
      | some v => exact ⟨v, rfl⟩
  | q :: ρ, σ, i + 1, d, t, h, nb => by
    have h' : ρ[i]? = some (some (d, t)) := by simpa using h
    obtain ⟨v, e⟩ := ents_len (σ := σ.drop 1) h' fun e he => nb e (List.mem_append_right _ he)
    refine ⟨v, ?_⟩
    rw [List.getElem?_drop, Nat.add_comm 1 i] at e
    exact e
theorem Good.nobad {G : Gx} {F H : Hp} {es : List Ent} (g : Good G F H es) : ∀ e ∈ es, e ≠ bad := by
  intro e he z
  subst z
  obtain ⟨l, r, rfl⟩ := List.append_of_mem he
  have g' : Good G F H (bad :: r) := Good.drop (es := l) g
  obtain ⟨as, p⟩ := g'.head
  have : V.non = V.bl true := p.2
  cases this
/-- a slot's value -/
theorem Good.slot {G : Gx} {F H : Hp} {ρ : En} {σ : SL} {i : Nat} {d : Nat} {t : T} {fr : List Ent} (g : Good G F H (ents ρ σ ++ fr)) (h : ρ[i]? = some (some (d, t))) :
    ∃ v, σ[i]? = some (some v) ∧ Good G F H ((d, t, v) :: (ents (ρ.set i none) σ ++ fr)) := by
  obtain ⟨v, e⟩ := ents_len h fun e he => g.nobad e (List.mem_append_left _ he)
  refine ⟨v, e, g.perm ?_⟩
  have p := ents_at (σ := σ) h
  rw [e] at p
  exact p.append_right fr
/-- .. and back -/
theorem Good.back {G : Gx} {F H : Hp} {ρ : En} {σ : SL} {i : Nat} {d : Nat} {t : T} {v : V} {fr : List Ent} (g : Good G F H ((d, t, v) :: (ents (ρ.set i none) σ ++ fr))) (hi : i < ρ.length) (hs : i < σ.length) :
    Good G F H (ents (ρ.set i (some (d, t))) (σ.set i (some v)) ++ fr) := by
  refine g.perm (List.Perm.symm ?_)
  have h : (ρ.set i (some (d, t)))[i]? = some (some (d, t)) := by simp [hi]
  have p := ents_at (σ := σ.set i (some v)) h
  rw [List.set_set, show (σ.set i (some v))[i]? = some (some v) by simp [hs], ents_set_none] at p
  exact p.append_right fr
theorem ents_set_same {σ : SL} {i : Nat} {v : Option V} (h : σ[i]? = some v) : σ.set i v = σ := by
  obtain ⟨hi, e⟩ := List.getElem?_eq_some_iff.mp h
  rw [← e]
  exact List.set_getElem_self hi
end Pb
end
/- Q2 -/
section
set_option Elab.async false
set_option linter.all false
set_option maxRecDepth 100000
namespace Pb
open PySem PySem.Spec PyProof.Rows L2

/-- an error, by its class and its dict -/
def ExAt (G : Gx) (F H : Hp) (e : T) (cls : Value) (d : Option Addr) : Prop :=
  match e with
  | .exc c ns ts => ∃ C vs, G.cls c = some C ∧ cls = .ref C ∧ ns.length = vs.length ∧ Reps G F ts vs ∧ ((d = none ∧ ns = []) ∨ ∃ dx, d = some dx ∧ F dx = some (.xd (ns.zip vs)))
  | _ => False

abbrev Rz.ent (r : Rz) (x : V) : List Ent := if r.al = true then [] else [(r.d, r.t, x)]
/-- a value that aliases a slot's -/
def AlOk (G : Gx) (F H : Hp) (r : Rz) (x : V) : Prop := r.al = true → ∃ as, Own G F H r.d r.t x as
/-- what an expression that changes nothing says -/
def Pur (G : Gx) (F H F' H' : Hp) (r : Rz) (x : V) : Prop := Ext G F H F' H' ∧ (r.al = false → ∀ as, Own G F' H' r.d r.t x as → ∀ a ∈ as, FT H a)

def OutP (G : Gx) (W : WX) (σ : SL) (fr : List Ent) (pu : Bool) (F H : Hp) (o : Out) (Q : VK) : Prop :=
  match o with
  | .ok r ρ' => ∀ x F' H', Sub F F' → (pu = true → Pur G F H F' H' r x) → Good G F' H' (r.ent x ++ (ents ρ' σ ++ fr)) → AlOk G F' H' r x → Q x H'
  | .ex e ρ' => ∀ cls d F' H', Sub F F' → Good G F' H' (ents ρ' σ ++ fr) → ExAt G F' H' e cls d → W cls d σ H'
  | .no => False
def tJ (G : Gx) (W : WX) (pu : Bool) (m : M) : TE := fun σ H Q => ∃ F ρ fr, Good G F H (ents ρ σ ++ fr) ∧ OutP G W σ fr pu F H (m ρ) Q
def Quiet (m : M) : Prop := ∀ ρ r ρ', m ρ = .ok r ρ' → ρ' = ρ
structure J (X : Cx) (G : Gx) (W : WX) (pu : Bool) (e : Expr) (m : M) : Prop where
  pe : PE X e (tJ G W pu m)
  pure : pu = true → Quiet m
def testP (t : TE) : TT := fun σ H Q => t σ H fun x H' => ∃ b, x = .bl b ∧ Q b H'
/-- as a test: the value is a bool -/
structure JT (X : Cx) (G : Gx) (W : WX) (pu : Bool) (e : Expr) (m : M) : Prop where
  pt : PT X e (testP (tJ G W pu m))
  pure : pu = true → Quiet m
  isB : ∀ ρ r ρ', m ρ = .ok r ρ' → ∃ b, r = fz (.bl b)

theorem pe_imp {X : Cx} {e : Expr} {t t' : TE} (h : PE X e t) (i : ∀ σ H Q, t' σ H Q → t σ H Q) : PE X e t' := ⟨fun pins s σ H Q I q => h.run pins s σ H Q I (i σ H Q q)⟩
theorem pt_imp {X : Cx} {e : Expr} {t t' : TT} (h : PT X e t) (i : ∀ σ H Q, t' σ H Q → t σ H Q) : PT X e t' := ⟨fun pins s σ H Q I q => h.run pins s σ H Q I (i σ H Q q)⟩
theorem ps_imp {X : Cx} {e : Stmt} {t t' : TS} (h : PS X e t) (i : ∀ D σ H, t' D σ H → t D σ H) : PS X e t' := ⟨fun pins s σ H D I q => h.run pins s σ H D I (i D σ H q)⟩
theorem pss_imp {X : Cx} {e : List Stmt} {t t' : TS} (h : PSs X e t) (i : ∀ D σ H, t' D σ H → t D σ H) : PSs X e t' := ⟨fun pins s σ H D I q => h.run pins s σ H D I (i D σ H q)⟩

section
variable {X : Cx} {G : Gx} {W : WX}

theorem perm_mid {α : Type} (a b c : List α) : (a ++ (b ++ c)).Perm (b ++ (a ++ c)) := by
  rw [← List.append_assoc, ← List.append_assoc]
  exact List.perm_append_comm.append_right c
theorem Good.mid {F H : Hp} {a b c : List Ent} (g : Good G F H (a ++ (b ++ c))) : Good G F H (b ++ (a ++ c)) := g.perm (perm_mid a b c)

theorem OutP.rebase {σ : SL} {fr : List Ent} {pu : Bool} {F H F1 H1 : Hp} {o : Out} {Q : VK} (h : OutP G W σ fr pu F H o Q) (s : Sub F F1) (x : pu = true → Ext G F H F1 H1) : OutP G W σ fr pu F1 H1 o Q := by
  cases o with
  | ok r ρ' => exact fun y F' H' s' p g a => h y F' H' (s.trans s') (fun e => ⟨(x e).trans (p e).1, fun ha as ho c hc => by
      exact ft_back (x e).up ((p e).2 ha as ho c hc)⟩) g a
  | ex e ρ' => exact fun cls d F' H' s' g q => h cls d F' H' (s.trans s') g q
  | no => exact h
theorem OutP.imp {σ : SL} {fr : List Ent} {pu : Bool} {F H : Hp} {o : Out} {Q Q' : VK} (h : OutP G W σ fr pu F H o Q) (i : ∀ x H, Q x H → Q' x H) : OutP G W σ fr pu F H o Q' := by
  cases o with
  | ok r ρ' => exact fun y F' H' s' p g a => i _ _ (h y F' H' s' p g a)
  | ex e ρ' => exact h
  | no => exact h

/-- an expression, then what follows it, whatever stands beside (xt); F0 H0: where the whole began -/
theorem J.seq {pa pu : Bool} {a : Expr} {ma : M} (ha : J X G W pa a ma) {σ : SL} {fr xt : List Ent} {F0 H0 F H : Hp} {ρ : En} {k : Rz → En → Out} {Q P : VK} (b : Sub F0 F) (bx : pu = true → Ext G F0 H0 F H) (g : Good G F H (ents ρ σ ++ (xt ++ fr))) (hp : pu = true → pa = true)
    (o : OutP G W σ fr pu F0 H0 ((ma ρ).bind k) Q)
    (next : ∀ r ρ1 x F1 H1, ma ρ = .ok r ρ1 → Sub F0 F1 → (pu = true → Ext G F0 H0 F1 H1) → (pa = true → Pur G F H F1 H1 r x) → Good G F1 H1 (ents ρ1 σ ++ ((r.ent x ++ xt) ++ fr)) → AlOk G F1 H1 r x → OutP G W σ fr pu F0 H0 (k r ρ1) Q → P x H1) :
    tJ G W pa ma σ H P := by
  refine ⟨F, ρ, xt ++ fr, g, ?_⟩
  cases e : ma ρ with
  | ok r ρ1 =>
    intro x F1 H1 s1 p1 g1 a1
    rw [e] at o
    refine next r ρ1 x F1 H1 e (b.trans s1) (fun z => (bx z).trans (p1 (hp z)).1) p1 ?_ a1 o
    rw [List.append_assoc]
    exact g1.mid
  | ex e' ρ1 =>
    intro cls d F1 H1 s1 g1 q
    rw [e] at o
    exact o cls d F1 H1 (b.trans s1) (g1.mid).drop q
  | no => rw [e] at o; exact o.elim

theorem Good.ent {F H : Hp} {r : Rz} {x : V} {es : List Ent} (g : Good G F H (r.ent x ++ es)) (a : AlOk G F H r x) : ∃ as, Own G F H r.d r.t x as := by
  by_cases h : r.al = true
  · exact a h
  · have e : r.ent x = [(r.d, r.t, x)] := if_neg h
    rw [e] at g
    exact g.head
theorem Good.noent {F H : Hp} {es es' : List Ent} (g : Good G F H (es ++ es')) : Good G F H es' := g.drop
theorem AlOk.ext {F H F' H' : Hp} {r : Rz} {x : V} (a : AlOk G F H r x) (e : Ext G F H F' H') : AlOk G F' H' r x := fun h => let ⟨as, p⟩ := a h; ⟨as, p.ext e⟩
theorem AlOk.zero {F H : Hp} {r : Rz} {x : V} (h : r.al = false) : AlOk G F H r x := fun z => by rw [h] at z; cases z

/-! ### names, constants -/
def mVar (i : Nat) : M := fun ρ => match ρ[i]? with
  | some (some (d, t)) => .ok ⟨d, d != 0, t⟩ ρ
  | _ => .no
/-- a name read to be kept: what stands in the slot is frozen -/
def mVarF (i : Nat) : M := fun ρ => match ρ[i]? with
  | some (some (_, t)) => .ok (fz t) (ρ.set i (some (0, t)))
  | _ => .no
def mC (t : T) : M := fun ρ => .ok (fz t) ρ
theorem getElem?_lt {α : Type} {l : List α} {i : Nat} {x : α} (h : l[i]? = some x) : i < l.length := (List.getElem?_eq_some_iff.mp h).1

theorem r_var {i : Nat} {x : Str} {pos : Pos} (hN : X.N[i]? = some x) (hv : Vis X.env.scope x) (hd : (x == ("__debug__" : Str)) = false := by decide) (hcd : (x == ("__classdict__" : Str)) = false := by decide) : J X G W true (.Name x pos) (mVar i) := by
  refine ⟨pe_imp (pe_var hN hv hd hcd) fun σ H Q h => ?_, fun _ ρ r ρ' h => ?_⟩
  · obtain ⟨F, ρ, fr, g, o⟩ := h
    unfold mVar at o
    split at o
    · rename_i d t e
      obtain ⟨v, hs, g'⟩ := g.slot e
      obtain ⟨as, p⟩ := g'.head
      refine ⟨v, hs, o v F H (.refl F) (fun _ => ⟨.refl F H, fun h as q a ha => ?_⟩) ?_ fun _ => ⟨as, p⟩⟩
      · have d0 : d = 0 := by simpa using h
        have q' : Own G F H d t v as := q
        rw [d0] at q'
        rw [q'.1] at ha; exact absurd ha (by simp)
      · by_cases d0 : d = 0
        · subst d0
          exact g.zero p.2
        · have z : Rz.ent ⟨d, d != 0, t⟩ v = [] := if_pos (by simpa using d0)
          rw [z]
          exact g
    · exact o.elim
  · unfold mVar at h
    split at h
    · cases h; rfl
    · cases h
theorem r_varF {i : Nat} {x : Str} {pos : Pos} (hN : X.N[i]? = some x) (hv : Vis X.env.scope x) (hd : (x == ("__debug__" : Str)) = false := by decide) (hcd : (x == ("__classdict__" : Str)) = false := by decide) : J X G W false (.Name x pos) (mVarF i) := by
  refine ⟨pe_imp (pe_var hN hv hd hcd) fun σ H Q h => ?_, fun h => nomatch h⟩
  obtain ⟨F, ρ, fr, g, o⟩ := h
  unfold mVarF at o
  split at o
  · rename_i d t e
    obtain ⟨v, hs, g'⟩ := g.slot e
    obtain ⟨F', s', g2⟩ := g'.freeze
    obtain ⟨as, p⟩ := g2.head
    have g3 := g2.back (getElem?_lt e) (getElem?_lt hs)
    rw [ents_set_same hs] at g3
    exact ⟨v, hs, o v F' H s' (fun z => nomatch z) (g3.zero p.2) (.zero rfl)⟩
  · exact o.elim
theorem r_c {e : Expr} {v : V} {t : T} (he : PE X e (tC v)) (hr : ∀ F, Rep G F t v) : J X G W true e (mC t) := by
  refine ⟨pe_imp he fun σ H Q h => ?_, fun _ ρ r ρ' h => by cases h; rfl⟩
  obtain ⟨F, ρ, fr, g, o⟩ := h
  exact o v F H (.refl F) (fun _ => ⟨.refl F H, fun _ as q a ha => by rw [q.1] at ha; exact absurd ha (by simp)⟩) (g.zero (hr F)) (.zero rfl)
theorem r_int {i j pos} : J X G W true (.Constant (.int i) j pos) (mC (.int i)) := r_c pe_int fun _ => rfl
theorem r_bl {b j pos} : J X G W true (.Constant (.bool b) j pos) (mC (.bl b)) := r_c pe_bl fun _ => rfl
theorem r_non {j pos} : J X G W true (.Constant .none j pos) (mC .non) := r_c pe_non fun _ => rfl
theorem r_str {x j pos} : J X G W true (.Constant (.str x) j pos) (mC (.str x)) := r_c pe_str fun _ => rfl

/-! ### operators by values -/
/-- f of two values is g of the trees -/
def Op2 (X : Cx) (G : Gx) (f : Value → Value → Sem Value) (g : Rz → Rz → Option Rz) : Prop :=
  ∀ (pins : List (Addr × Obj)) (s : Shared) (σ : SL) (H F : Hp) (x y : V) (v u : Value) (r1 r2 r : Rz) (as bs : List Addr) (Q : VK), Inv X pins σ H s → RelV x v → RelV y u → Sub F H → LamX.Tabs G.tabs H → Own G F H r1.d r1.t x as → Own G F H r2.d r2.t y bs → g r1 r2 = some r → r.al = false →
    (∀ z F' H', New G F H F' H' r.d r.t z → Q z H') → wpAny (model X.prog X.w) X.A (f v u) (EP X pins σ Q) X.xe s
def Op1 (X : Cx) (G : Gx) (f : Value → Sem Value) (g : Rz → Option Rz) : Prop :=
  ∀ (pins : List (Addr × Obj)) (s : Shared) (σ : SL) (H F : Hp) (x : V) (v : Value) (r1 r : Rz) (as : List Addr) (Q : VK), Inv X pins σ H s → RelV x v → Sub F H → LamX.Tabs G.tabs H → Own G F H r1.d r1.t x as → g r1 = some r → r.al = false →
    (∀ z F' H', New G F H F' H' r.d r.t z → Q z H') → wpAny (model X.prog X.w) X.A (f v) (EP X pins σ Q) X.xe s
/-- the readings of these -/
def rOp2 (G : Gx) (g : Rz → Rz → Option Rz) : R2 := fun x y H Q => ∃ F r1 r2 r as bs, Sub F H ∧ LamX.Tabs G.tabs H ∧ Own G F H r1.d r1.t x as ∧ Own G F H r2.d r2.t y bs ∧ g r1 r2 = some r ∧ r.al = false ∧ ∀ z F' H', New G F H F' H' r.d r.t z → Q z H'
def rOp1 (G : Gx) (g : Rz → Option Rz) : V → Hp → VK → Prop := fun x H Q => ∃ F r1 r as, Sub F H ∧ LamX.Tabs G.tabs H ∧ Own G F H r1.d r1.t x as ∧ g r1 = some r ∧ r.al = false ∧ ∀ z F' H', New G F H F' H' r.d r.t z → Q z H'
theorem Op2.r {f : Value → Value → Sem Value} {g : Rz → Rz → Option Rz} (h : Op2 X G f g) : OpR X f (rOp2 G g) := fun pins s σ H x y v u Q I rx ry ⟨F, r1, r2, r, as, bs, q1, q2, q3, q4, q5, q6, q7⟩ =>
  h pins s σ H F x y v u r1 r2 r as bs Q I rx ry q1 q2 q3 q4 q5 q6 q7
theorem Op1.r {f : Value → Sem Value} {g : Rz → Option Rz} (h : Op1 X G f g) : UnR X f (rOp1 G g) := fun pins s σ H x v Q I rx ⟨F, r1, r, as, q1, q2, q3, q5, q6, q7⟩ =>
  h pins s σ H F x v r1 r as Q I rx q1 q2 q3 q5 q6 q7
/-- one or the other, by the operands -/
def orG2 (g h : Rz → Rz → Option Rz) : Rz → Rz → Option Rz := fun a b => match g a b with | some r => some r | none => h a b
theorem Op2.or {f : Value → Value → Sem Value} {g g' : Rz → Rz → Option Rz} (h : Op2 X G f g) (h' : Op2 X G f g') : Op2 X G f (orG2 g g') := by
  intro pins s σ H F x y v u r1 r2 r as bs Q I rx ry q1 q2 q3 q4 q5 q6 q7
  unfold orG2 at q5
  cases e : g r1 r2 with
  | some r' =>
    rw [e] at q5
    injection q5 with q5
    subst q5
    exact h pins s σ H F x y v u r1 r2 _ as bs Q I rx ry q1 q2 q3 q4 e q6 q7
  | none =>
    rw [e] at q5
    exact h' pins s σ H F x y v u r1 r2 r as bs Q I rx ry q1 q2 q3 q4 q5 q6 q7

def mOp2 (pb : Bool) (g : Rz → Rz → Option Rz) (ma mb : M) : M := fun ρ => (ma ρ).bind fun r1 ρ1 => if (r1.al && !pb) = true then .no else (mb ρ1).bind fun r2 ρ2 => match g r1 r2 with
  | some r => if r.al = true then .no else .ok r ρ2
  | none => .no
def mOp1 (g : Rz → Option Rz) (ma : M) : M := fun ρ => (ma ρ).bind fun r1 ρ1 => match g r1 with
  | some r => if r.al = true then .no else .ok r ρ1
  | none => .no

theorem Own.uniq {F H : Hp} : ∀ {d : Nat} {t : T} {x : V} {as bs : List Addr}, Own G F H d t x as → Own G F H d t x bs → as = bs
  | 0, t, x, as, bs, p, q => p.1.trans q.1.symm
  | d + 1, t, x, as, bs, p, q => by
    have deep : ∀ {ts : List T} {vs : List V} {as bs : List Addr}, All2 (Own G F H d) ts vs as → All2 (Own G F H d) ts vs bs → as = bs := by
      intro ts
      induction ts with
      | nil => intro vs as bs p q; exact p.2.trans q.2.symm
      | cons t ts ih =>
        intro vs as bs p q
        obtain ⟨x, r, a, b, e1, e2, p, p'⟩ := p
        obtain ⟨x', r', a', b', e1', e2', q, q'⟩ := q
        rw [e1] at e1'
        cases e1'
        rw [e2, e2', Own.uniq p q, ih p' q']
    cases t with
    | lst ts =>
      obtain ⟨a, vs, b, e1, e2, f, g, r⟩ := p
      obtain ⟨a', vs', b', e1', e2', f', g', r'⟩ := q
      rw [e1] at e1'; cases e1'
      rw [g] at g'; cases g'
      rw [e2, e2', deep r r']
    | dct kd ks ts =>
      obtain ⟨a, vs, b, e1, e2, f, g, r⟩ := p
      obtain ⟨a', vs', b', e1', e2', f', g', r'⟩ := q
      rw [e1] at e1'; cases e1'
      have ev : vs = vs' := by
        rcases g with ⟨_, kl, k1, k2, k3⟩ | ⟨_, kl, k1, k2, k3⟩ <;> rcases g' with ⟨_, kl', k1', k2', k3'⟩ | ⟨_, kl', k1', k2', k3'⟩
        · rw [k1] at k1'; cases k1'
          rw [k3] at k3'
          injection k3' with k3'; injection k3' with k3'
          have := congrArg (List.map Prod.snd) k3'
          rwa [List.map_snd_zip (by omega), List.map_snd_zip (by omega)] at this
        · rw [k3] at k3'; cases k3'
        · rw [k3] at k3'; cases k3'
        · rw [k1] at k1'; cases k1'
          rw [k3] at k3'
          injection k3' with k3'; injection k3' with k3'
          have := congrArg (List.map Prod.snd) k3'
          rwa [List.map_snd_zip (by omega), List.map_snd_zip (by omega)] at this
      subst ev
      rw [e2, e2', deep r r']
    | opq o =>
      obtain ⟨a, e1, e2, f, g, _⟩ := p
      obtain ⟨a', e1', e2', f', g', _⟩ := q
      rw [e1] at e1'; cases e1'
      rw [e2, e2']
    | _ => exact p.1.trans q.1.symm
theorem New.pur {F H F' H' : Hp} {r : Rz} {x : V} (n : New G F H F' H' r.d r.t x) : Pur G F H F' H' r x := by
  obtain ⟨e, s, as, p, nd, fr⟩ := n
  exact ⟨e, fun _ bs q a ha => fr a (by rw [p.uniq q]; exact ha)⟩
theorem Pur.of_ext {F H F1 H1 F' H' : Hp} {r : Rz} {x : V} (e : Ext G F H F1 H1) (p : Pur G F1 H1 F' H' r x) : Pur G F H F' H' r x :=
  ⟨e.trans p.1, fun h as q a ha => by
    exact ft_back e.up (p.2 h as q a ha)⟩
/-- the end of a rule: a new thing -/
theorem OutP.fin {σ : SL} {fr xt : List Ent} {pu : Bool} {F0 H0 F H F' H' : Hp} {r : Rz} {ρ : En} {Q : VK} {z : V} (o : OutP G W σ fr pu F0 H0 (.ok r ρ) Q) (b : Sub F0 F) (bx : pu = true → Ext G F0 H0 F H) (g : Good G F H (xt ++ (ents ρ σ ++ fr))) (h : r.al = false) (n : New G F H F' H' r.d r.t z) : Q z H' := by
  refine o z F' H' (b.trans n.1.low) (fun e => .of_ext (bx e) n.pur) ?_ (.zero h)
  have e : r.ent z = [(r.d, r.t, z)] := if_neg (by rw [h]; exact Bool.false_ne_true)
  rw [e]
  exact (g.drop).new n

theorem Out.bind_ok {o : Out} {k : Rz → En → Out} {r : Rz} {ρ : En} (h : o.bind k = .ok r ρ) : ∃ r1 ρ1, o = .ok r1 ρ1 ∧ k r1 ρ1 = .ok r ρ := by
  cases o with
  | ok r1 ρ1 => exact ⟨r1, ρ1, rfl, h⟩
  | ex _ _ => cases h
  | no => cases h
theorem r_op2 {pa pb : Bool} {a b e : Expr} {f : Value → Value → Sem Value} {g : Rz → Rz → Option Rz} {ma mb : M} (hop : Op2 X G f g) (ha : J X G W pa a ma) (hb : J X G W pb b mb)
    (mk : ∀ {r : R2} {ta tb : TE}, OpR X f r → PE X a ta → PE X b tb → PE X e (tOp r ta tb)) : J X G W (pa && pb) e (mOp2 pb g ma mb) := by
  refine ⟨pe_imp (mk hop.r ha.pe hb.pe) fun σ H Q h => ?_, fun hp ρ r ρ' h => ?_⟩
  · obtain ⟨F, ρ, fr, g, o⟩ := h
    refine ha.seq (xt := []) (pu := pa && pb) (.refl F) (fun _ => .refl F H) g (fun h => (Bool.and_eq_true _ _ ▸ h).1) o fun r1 ρ1 x F1 H1 e1 s1 x1 p1 g1 a1 o1 => ?_
    split at o1
    · exact o1.elim
    rename_i hal
    rw [List.append_nil] at g1
    refine hb.seq (xt := r1.ent x) (pu := pa && pb) s1 x1 g1 (fun h => (Bool.and_eq_true _ _ ▸ h).2) o1 fun r2 ρ2 y F2 H2 e2 s2 x2 p2 g2 a2 o2 => ?_
    split at o2
    · rename_i r er
      split at o2
      · exact o2.elim
      rename_i hr
      have hr' : r.al = false := by simpa using hr
      rw [List.append_assoc] at g2
      have g3 := g2.mid
      obtain ⟨bs, pb2⟩ := g3.ent a2
      have g4 : Good G F2 H2 (r1.ent x ++ (r2.ent y ++ (ents ρ2 σ ++ fr))) := by
        refine g3.perm ?_
        refine ((perm_mid _ _ _).append_left _).trans ?_
        exact perm_mid _ _ _
      have a1' : AlOk G F2 H2 r1 x := fun z => by
        have hpb : pb = true := by
          cases q : pb with
          | true => rfl
          | false => exact absurd (show (r1.al && !pb) = true by rw [z, q]; rfl) hal
        obtain ⟨as, p⟩ := a1 z
        exact ⟨as, p.ext (p2 hpb).1⟩
      obtain ⟨as, pa2⟩ := g4.ent a1'
      refine ⟨F2, r1, r2, r, as, bs, g2.sub, g2.tab, pa2, pb2, er, hr', fun z F' H' n => ?_⟩
      exact o2.fin (xt := r1.ent x ++ r2.ent y) s2 x2 (by rw [List.append_assoc]; exact g4) hr' n
    · exact o2.elim
  · have hp' := Bool.and_eq_true _ _ ▸ hp
    obtain ⟨r1, ρ1, e1, h⟩ := Out.bind_ok h
    split at h
    · cases h
    obtain ⟨r2, ρ2, e2, h⟩ := Out.bind_ok h
    split at h
    · split at h
      · cases h
      · cases h
        rw [hb.pure hp'.2 _ _ _ e2, ha.pure hp'.1 _ _ _ e1]
    · cases h
theorem r_op1 {pa : Bool} {a e : Expr} {f : Value → Sem Value} {g : Rz → Option Rz} {ma : M} (hop : Op1 X G f g) (ha : J X G W pa a ma)
    (mk : ∀ {r : V → Hp → VK → Prop} {ta : TE}, UnR X f r → PE X a ta → PE X e (tUn r ta)) : J X G W pa e (mOp1 g ma) := by
  refine ⟨pe_imp (mk hop.r ha.pe) fun σ H Q h => ?_, fun hp ρ r ρ' h => ?_⟩
  · obtain ⟨F, ρ, fr, g, o⟩ := h
    refine ha.seq (xt := []) (pu := pa) (.refl F) (fun _ => .refl F H) g id o fun r1 ρ1 x F1 H1 e1 s1 x1 p1 g1 a1 o1 => ?_
    split at o1
    · rename_i r er
      split at o1
      · exact o1.elim
      rename_i hr
      have hr' : r.al = false := by simpa using hr
      rw [List.append_nil] at g1
      have g3 := g1.mid
      obtain ⟨as, pa1⟩ := g3.ent a1
      exact ⟨F1, r1, r, as, g1.sub, g1.tab, pa1, er, hr', fun z F' H' n => o1.fin s1 x1 g3 hr' n⟩
    · exact o1.elim
  · obtain ⟨r1, ρ1, e1, h⟩ := Out.bind_ok h
    split at h
    · split at h
      · cases h
      · cases h
        exact ha.pure hp _ _ _ e1
    · cases h
theorem r_bin {pa pb : Bool} {a b : Expr} {op : Operator} {pos : Pos} {g : Rz → Rz → Option Rz} {ma mb : M} (hop : Op2 X G (binaryOp op) g) (ha : J X G W pa a ma) (hb : J X G W pb b mb) : J X G W (pa && pb) (.BinOp a op b pos) (mOp2 pb g ma mb) :=
  r_op2 hop ha hb fun h1 h2 h3 => pe_op h1 h2 h3
theorem r_cmp {pa pb : Bool} {a b : Expr} {op : CmpOp} {pos : Pos} {g : Rz → Rz → Option Rz} {ma mb : M} (hop : Op2 X G (compareOp op) g) (ha : J X G W pa a ma) (hb : J X G W pb b mb) (hm : behindInMarks op b = false) : J X G W (pa && pb) (.Compare a [op] [b] pos) (mOp2 pb g ma mb) :=
  r_op2 hop ha hb fun h1 h2 h3 => pe_cmpR h1 h2 h3 hm
theorem r_un {pa : Bool} {a : Expr} {op : UnaryOp} {pos : Pos} {g : Rz → Option Rz} {ma : M} (hop : Op1 X G (unaryOp op) g) (ha : J X G W pa a ma) : J X G W pa (.UnaryOp op a pos) (mOp1 g ma) :=
  r_op1 hop ha fun h1 h2 => pe_un h1 h2
end
end Pb
end
/- Q3 -/
section
set_option Elab.async false
set_option linter.all false
set_option maxRecDepth 100000
namespace Pb
open PySem PySem.Spec PyProof.Rows L2
section
variable {X : Cx} {G : Gx} {W : WX}

/-! ### tests -/
def mB (m : M) : M := fun ρ => (m ρ).bind fun r ρ' => match r.t with
  | .bl b => .ok (fz (.bl b)) ρ'
  | _ => .no
theorem own_bl {F H : Hp} {d : Nat} {b : Bool} {x : V} {as : List Addr} (p : Own G F H d (.bl b) x as) : x = .bl b := by
  cases d with
  | zero => exact p.2
  | succ d => exact p.2
theorem own_int {F H : Hp} {d : Nat} {b : Int} {x : V} {as : List Addr} (p : Own G F H d (.int b) x as) : x = .int b := by
  cases d with
  | zero => exact p.2
  | succ d => exact p.2
theorem mB_is {m : M} {ρ : En} {r : Rz} {ρ' : En} (h : mB m ρ = .ok r ρ') : ∃ r1 b, m ρ = .ok r1 ρ' ∧ r1.t = .bl b ∧ r = fz (.bl b) := by
  obtain ⟨r1, ρ1, e1, h⟩ := Out.bind_ok h
  split at h
  · rename_i b e
    cases h
    exact ⟨r1, b, e1, e, rfl⟩
  · cases h
theorem mB_quiet {m : M} (q : Quiet m) : Quiet (mB m) := fun ρ r ρ' h => by
  obtain ⟨r1, b, e, _, _⟩ := mB_is h
  exact q _ _ _ e
theorem outB {σ : SL} {fr : List Ent} {pu : Bool} {F H : Hp} {m : M} {ρ : En} {Q : VK} (o : OutP G W σ fr pu F H (mB m ρ) Q) : OutP G W σ fr pu F H (m ρ) Q := by
  unfold mB at o
  cases e : m ρ with
  | ok r ρ1 =>
    rw [e] at o
    simp only [Out.bind] at o
    split at o
    · rename_i b eb
      intro x F' H' s p g a
      obtain ⟨as, q⟩ := g.ent a
      rw [eb] at q
      have ex := own_bl q
      exact o x F' H' s (fun z => ⟨(p z).1, fun _ as q a ha => by rw [q.1] at ha; exact absurd ha (by simp)⟩) ((g.drop).zero ex) (.zero rfl)
    · exact o.elim
  | ex _ _ => rw [e] at o; exact o
  | no => rw [e] at o; exact o
theorem testB {pu : Bool} {m : M} {σ : SL} {H : Hp} {Q : Bool → Hp → Prop} (h : testP (tJ G W pu (mB m)) σ H Q) : testP (tJ G W pu m) σ H Q := by
  obtain ⟨F, ρ, fr, g, o⟩ := h
  exact ⟨F, ρ, fr, g, outB o⟩
theorem JT.of {pu : Bool} {e : Expr} {m : M} (h : PT X e (testP (tJ G W pu m))) (p : pu = true → Quiet m) : JT X G W pu e (mB m) :=
  ⟨pt_imp h fun σ H Q => testB, fun z => mB_quiet (p z), fun ρ r ρ' h => let ⟨_, b, _, _, e⟩ := mB_is h; ⟨b, e⟩⟩
/-- a value that is a bool, as a test -/
theorem rt_val {pu : Bool} {e : Expr} {m : M} (h : J X G W pu e m) (he : ∀ whole, isTrue e X.env whole = (do let v ← whole; standAt e.pos; holding [v] (truthy v)) := by intro _; rfl) : JT X G W pu e (mB m) := .of (pt_val h.pe he) h.pure
/-- a test as a value -/
theorem op2_imp {pa pb : Bool} {a b : Expr} {g : Rz → Rz → Option Rz} {ma mb : M} (ha : J X G W pa a ma) (hb : J X G W pb b mb) {σ : SL} {H : Hp} {Q : VK} (h : tJ G W (pa && pb) (mOp2 pb g ma mb) σ H Q) : tOp (rOp2 G g) (tJ G W pa ma) (tJ G W pb mb) σ H Q := by
  obtain ⟨F, ρ, fr, g, o⟩ := h
  refine ha.seq (xt := []) (pu := pa && pb) (.refl F) (fun _ => .refl F H) g (fun h => (Bool.and_eq_true _ _ ▸ h).1) o fun r1 ρ1 x F1 H1 e1 s1 x1 p1 g1 a1 o1 => ?_
  split at o1
  · exact o1.elim
  rename_i hal
  rw [List.append_nil] at g1
  refine hb.seq (xt := r1.ent x) (pu := pa && pb) s1 x1 g1 (fun h => (Bool.and_eq_true _ _ ▸ h).2) o1 fun r2 ρ2 y F2 H2 e2 s2 x2 p2 g2 a2 o2 => ?_
  split at o2
  · rename_i r er
    split at o2
    · exact o2.elim
    rename_i hr
    have hr' : r.al = false := by simpa using hr
    rw [List.append_assoc] at g2
    have g3 := g2.mid
    obtain ⟨bs, pb2⟩ := g3.ent a2
    have g4 : Good G F2 H2 (r1.ent x ++ (r2.ent y ++ (ents ρ2 σ ++ fr))) := by
      refine g3.perm ?_
      refine ((perm_mid _ _ _).append_left _).trans ?_
      exact perm_mid _ _ _
    have a1' : AlOk G F2 H2 r1 x := fun z => by
      have hpb : pb = true := by
        cases q : pb with
        | true => rfl
        | false => exact absurd (show (r1.al && !pb) = true by rw [z, q]; rfl) hal
      obtain ⟨as, p⟩ := a1 z
      exact ⟨as, p.ext (p2 hpb).1⟩
    obtain ⟨as, pa2⟩ := g4.ent a1'
    refine ⟨F2, r1, r2, r, as, bs, g2.sub, g2.tab, pa2, pb2, er, hr', fun z F' H' n => ?_⟩
    exact o2.fin (xt := r1.ent x ++ r2.ent y) s2 x2 (by rw [List.append_assoc]; exact g4) hr' n
  · exact o2.elim
theorem rt_cmp {pa pb : Bool} {a b : Expr} {op : CmpOp} {pos : Pos} {g : Rz → Rz → Option Rz} {ma mb : M} (hop : Op2 X G (compareOp op) g) (ha : J X G W pa a ma) (hb : J X G W pb b mb) (hm : behindInMarks op b = false) : JT X G W (pa && pb) (.Compare a [op] [b] pos) (mB (mOp2 pb g ma mb)) :=
  .of (pt_imp (pt_cmpR hop.r ha.pe hb.pe hm) fun σ H Q h => op2_imp ha hb h) (r_cmp (pos := pos) hop ha hb hm).pure
/-- any value, by its truth -/
def truthT : T → Option Bool
  | .non => some false
  | .bl b => some b
  | .int i => some (i != 0)
  | .tup ts => some !ts.isEmpty
  | .lst ts => some !ts.isEmpty
  | .frl ts => some !ts.isEmpty
  | .frt ts => some !ts.isEmpty
  | _ => none
theorem All2.isEmpty {P : T → V → List Addr → Prop} {ts : List T} {xs : List V} {as : List Addr} (h : All2 P ts xs as) : ts.isEmpty = xs.isEmpty := by
  cases ts with
  | nil => rw [h.1]; rfl
  | cons t ts => obtain ⟨x, r, a, b, rfl, _⟩ := h; rfl
theorem Reps.isEmpty {F : Hp} {ts : List T} {xs : List V} (h : Reps G F ts xs) : ts.isEmpty = xs.isEmpty := by
  cases ts with
  | nil => have e : xs = [] := h; rw [e]; rfl
  | cons t ts => obtain ⟨x, r, rfl, _⟩ := h; rfl
theorem truth_of {F H : Hp} (s : Sub F H) {d : Nat} {t : T} {x : V} {as : List Addr} {k : Bool} (p : Own G F H d t x as) (h : truthT t = some k) : TruV G.K x H k := by
  have flat : Rep G F t x → TruV G.K x H k := fun q => by
    cases t <;> simp only [truthT] at h <;> try (cases h; done)
    · have e : x = .non := q; subst e; cases h; exact rfl
    · rename_i b; have e : x = .bl b := q; subst e; cases h; exact rfl
    · rename_i b; have e : x = .int b := q; subst e; cases h; exact rfl
    · obtain ⟨a, vs, rfl, q1, q2⟩ := q
      cases h
      exact .inr (.inl ⟨vs, .of (s _ _ q1), by rw [q2.isEmpty]⟩)
    · obtain ⟨a, vs, rfl, q1, q2⟩ := q
      cases h
      exact .inl ⟨vs, .of (s _ _ q1), by rw [q2.isEmpty]⟩
    · obtain ⟨a, vs, rfl, q1, q2⟩ := q
      cases h
      exact .inl ⟨vs, sqL_mono s q1, by rw [q2.isEmpty]⟩
    · obtain ⟨a, vs, rfl, q1, q2⟩ := q
      cases h
      exact .inr (.inl ⟨vs, sqT_mono s q1, by rw [q2.isEmpty]⟩)
  cases d with
  | zero => exact flat p.2
  | succ d =>
    cases t with
    | lst ts =>
      obtain ⟨a, vs, bs, rfl, e2, f, g, r⟩ := p
      cases h
      exact .inl ⟨vs, .of g, by rw [r.isEmpty]⟩
    | dct kd ks ts => cases h
    | opq o => cases h
    | _ => exact flat p.2
def mTr (m : M) : M := fun ρ => (m ρ).bind fun r ρ' => match truthT r.t with
  | some b => .ok (fz (.bl b)) ρ'
  | none => .no
theorem rt_truth {pu : Bool} {e : Expr} {m : M} (hK : X.K = G.K) (h : J X G W pu e m) (he : ∀ whole, isTrue e X.env whole = (do let v ← whole; standAt e.pos; holding [v] (truthy v)) := by intro _; rfl) : JT X G W pu e (mTr m) := by
  refine ⟨pt_imp (pt_truth h.pe he) fun σ H Q hq => ?_, fun z ρ r ρ' e => ?_, fun ρ r ρ' e => ?_⟩
  · obtain ⟨F, ρ, fr, g, o⟩ := hq
    refine h.seq (xt := []) (pu := pu) (.refl F) (fun _ => .refl F H) g id o fun r1 ρ1 x F1 H1 e1 s1 x1 p1 g1 a1 o1 => ?_
    split at o1
    · rename_i b eb
      rw [List.append_nil] at g1
      have g2 := g1.mid
      obtain ⟨as, p⟩ := g2.ent a1
      refine ⟨b, by rw [hK]; exact truth_of g1.sub p eb, ?_⟩
      obtain ⟨b', e', q⟩ := o1.fin (z := .bl b) s1 x1 g2 rfl (New.val g1.sub rfl)
      cases e'
      exact q
    · exact o1.elim
  · obtain ⟨r1, ρ1, e1, h'⟩ := Out.bind_ok e
    split at h'
    · cases h'; exact h.pure z _ _ _ e1
    · cases h'
  · obtain ⟨r1, ρ1, e1, h'⟩ := Out.bind_ok e
    split at h'
    · rename_i b _; cases h'; exact ⟨b, rfl⟩
    · cases h'

/-! ### two ways -/
/-- by a test's outcome -/
def mIf (mc ma mb : M) : M := fun ρ => (mc ρ).bind fun r ρ1 => match r.t with
  | .bl true => ma ρ1
  | .bl false => mb ρ1
  | _ => .no
theorem Pur.of_b {F H F1 H1 F' H' : Hp} {r : Rz} {x : V} (e : Ext G F H F1 H1) (p : Pur G F1 H1 F' H' r x) : Pur G F H F' H' r x := .of_ext e p
/-- a test, then what hangs on it -/
theorem JT.seq {pa pu : Bool} {a : Expr} {ma : M} (ha : JT X G W pa a ma) {σ : SL} {fr : List Ent} {F H : Hp} {ρ : En} {k : Rz → En → Out} {Q : VK} {P : Bool → Hp → Prop} (g : Good G F H (ents ρ σ ++ fr)) (hp : pu = true → pa = true)
    (o : OutP G W σ fr pu F H ((ma ρ).bind k) Q)
    (next : ∀ b ρ1 F1 H1, ma ρ = .ok (fz (.bl b)) ρ1 → Sub F F1 → (pu = true → Ext G F H F1 H1) → Good G F1 H1 (ents ρ1 σ ++ fr) → OutP G W σ fr pu F1 H1 (k (fz (.bl b)) ρ1) Q → P b H1) :
    testP (tJ G W pa ma) σ H P := by
  refine ⟨F, ρ, fr, g, ?_⟩
  cases e : ma ρ with
  | ok r ρ1 =>
    intro x F1 H1 s1 p1 g1 a1
    obtain ⟨b, rfl⟩ := ha.isB _ _ _ e
    rw [e] at o
    obtain ⟨as, q⟩ := g1.ent a1
    have ex : x = .bl b := q.2
    refine ⟨b, ex, next b ρ1 F1 H1 e s1 (fun z => (p1 (hp z)).1) g1.drop (o.rebase s1 fun z => (p1 (hp z)).1)⟩
  | ex e' ρ1 => rw [e] at o; exact o
  | no => rw [e] at o; exact o
theorem r_if {pc pa pb : Bool} {c a b : Expr} {pos : Pos} {mc ma mb : M} (hc : JT X G W pc c mc) (ha : J X G W pa a ma) (hb : J X G W pb b mb) : J X G W (pc && (pa && pb)) (.IfExp c a b pos) (mIf mc ma mb) := by
  refine ⟨pe_imp (pe_ifExp hc.pt ha.pe hb.pe) fun σ H Q h => ?_, fun hp ρ r ρ' h => ?_⟩
  · obtain ⟨F, ρ, fr, g, o⟩ := h
    refine hc.seq (pu := pc && (pa && pb)) g (fun z => (Bool.and_eq_true _ _ ▸ z).1) o fun k ρ1 F1 H1 e1 s1 x1 g1 o1 => ?_
    cases k with
    | true =>
      refine ⟨F1, ρ1, fr, g1, ?_⟩
      have o2 : OutP G W σ fr (pc && (pa && pb)) F1 H1 (ma ρ1) Q := o1
      cases e : ma ρ1 with
      | ok r ρ2 =>
        rw [e] at o2
        exact fun x F' H' s p g a => o2 x F' H' s (fun z => p (by simp only [Bool.and_eq_true] at z; exact z.2.1)) g a
      | ex _ _ => rw [e] at o2; exact o2
      | no => rw [e] at o2; exact o2
    | false =>
      refine ⟨F1, ρ1, fr, g1, ?_⟩
      have o2 : OutP G W σ fr (pc && (pa && pb)) F1 H1 (mb ρ1) Q := o1
      cases e : mb ρ1 with
      | ok r ρ2 =>
        rw [e] at o2
        exact fun x F' H' s p g a => o2 x F' H' s (fun z => p (by simp only [Bool.and_eq_true] at z; exact z.2.2)) g a
      | ex _ _ => rw [e] at o2; exact o2
      | no => rw [e] at o2; exact o2
  · simp only [Bool.and_eq_true] at hp
    obtain ⟨r1, ρ1, e1, h⟩ := Out.bind_ok h
    have q := hc.pure hp.1 _ _ _ e1
    split at h
    · exact (ha.pure hp.2.1 _ _ _ h).trans q
    · exact (hb.pure hp.2.2 _ _ _ h).trans q
    · cases h
/-- weaken purity -/
theorem OutP.weak {σ : SL} {fr : List Ent} {pu pu' : Bool} {F H : Hp} {o : Out} {Q : VK} (h : OutP G W σ fr pu F H o Q) (i : pu = true → pu' = true) : OutP G W σ fr pu' F H o Q := by
  cases o with
  | ok r ρ => exact fun x F' H' s p g a => h x F' H' s (fun z => p (i z)) g a
  | ex _ _ => exact h
  | no => exact h
theorem J.impure {pu : Bool} {e : Expr} {m : M} (h : J X G W pu e m) : J X G W false e m := ⟨pe_imp h.pe fun σ H Q ⟨F, ρ, fr, g, o⟩ => ⟨F, ρ, fr, g, o.weak fun z => nomatch z⟩, fun z => nomatch z⟩

/-! ### and, or, not -/
def mAnd (ma mb : M) : M := fun ρ => (ma ρ).bind fun r ρ1 => match r.t with
  | .bl true => mb ρ1
  | .bl false => .ok (fz (.bl false)) ρ1
  | _ => .no
def mOr (ma mb : M) : M := fun ρ => (ma ρ).bind fun r ρ1 => match r.t with
  | .bl true => .ok (fz (.bl true)) ρ1
  | .bl false => mb ρ1
  | _ => .no
def mNot (ma : M) : M := fun ρ => (ma ρ).bind fun r ρ1 => match r.t with
  | .bl b => .ok (fz (.bl !b)) ρ1
  | _ => .no
theorem r_one {pu : Bool} {op} {a : Expr} {pos : Pos} {m : M} (h : J X G W pu a m) : J X G W pu (.BoolOp op [a] pos) m := ⟨pe_one h.pe, h.pure⟩
theorem quiet_and {ma mb : M} (qa : Quiet ma) (qb : Quiet mb) : Quiet (mAnd ma mb) := fun ρ r ρ' h => by
  obtain ⟨r1, ρ1, e1, h⟩ := Out.bind_ok h
  have q := qa _ _ _ e1
  split at h
  · exact (qb _ _ _ h).trans q
  · cases h; exact q
  · cases h
theorem quiet_or {ma mb : M} (qa : Quiet ma) (qb : Quiet mb) : Quiet (mOr ma mb) := fun ρ r ρ' h => by
  obtain ⟨r1, ρ1, e1, h⟩ := Out.bind_ok h
  have q := qa _ _ _ e1
  split at h
  · cases h; exact q
  · exact (qb _ _ _ h).trans q
  · cases h
theorem quiet_not {ma : M} (qa : Quiet ma) : Quiet (mNot ma) := fun ρ r ρ' h => by
  obtain ⟨r1, ρ1, e1, h⟩ := Out.bind_ok h
  have q := qa _ _ _ e1
  split at h
  · cases h; exact q
  · cases h
theorem and_imp_ {pa pb : Bool} {a : Expr} {ma mb : M} (ha : J X G W pa a ma) {σ : SL} {H : Hp} {Q : VK} (h : tJ G W (pa && pb) (mAnd ma mb) σ H Q) : tAndV (tJ G W pa ma) (tJ G W pb mb) σ H Q := by
  obtain ⟨F, ρ, fr, g, o⟩ := h
  refine ha.seq (xt := []) (pu := pa && pb) (.refl F) (fun _ => .refl F H) g (fun h => (Bool.and_eq_true _ _ ▸ h).1) o fun r1 ρ1 x F1 H1 e1 s1 x1 p1 g1 a1 o1 => ?_
  rw [List.append_nil] at g1
  have g2 := g1.mid
  obtain ⟨as, p⟩ := g2.ent a1
  split at o1
  · rename_i eb
    rw [eb] at p
    exact ⟨true, own_bl p, F1, ρ1, fr, g2.drop, (o1.rebase s1 x1).weak fun z => (Bool.and_eq_true _ _ ▸ z).2⟩
  · rename_i eb
    rw [eb] at p
    exact ⟨false, own_bl p, o1.fin s1 x1 g2 rfl (New.val g1.sub rfl)⟩
  · exact o1.elim
theorem or_imp_ {pa pb : Bool} {a : Expr} {ma mb : M} (ha : J X G W pa a ma) {σ : SL} {H : Hp} {Q : VK} (h : tJ G W (pa && pb) (mOr ma mb) σ H Q) : tOrV (tJ G W pa ma) (tJ G W pb mb) σ H Q := by
  obtain ⟨F, ρ, fr, g, o⟩ := h
  refine ha.seq (xt := []) (pu := pa && pb) (.refl F) (fun _ => .refl F H) g (fun h => (Bool.and_eq_true _ _ ▸ h).1) o fun r1 ρ1 x F1 H1 e1 s1 x1 p1 g1 a1 o1 => ?_
  rw [List.append_nil] at g1
  have g2 := g1.mid
  obtain ⟨as, p⟩ := g2.ent a1
  split at o1
  · rename_i eb
    rw [eb] at p
    exact ⟨true, own_bl p, o1.fin s1 x1 g2 rfl (New.val g1.sub rfl)⟩
  · rename_i eb
    rw [eb] at p
    exact ⟨false, own_bl p, F1, ρ1, fr, g2.drop, (o1.rebase s1 x1).weak fun z => (Bool.and_eq_true _ _ ▸ z).2⟩
  · exact o1.elim
theorem r_and {pa pb : Bool} {a b : Expr} {rest : List Expr} {pos : Pos} {ma mb : M} (ha : J X G W pa a ma) (hb : J X G W pb (.BoolOp .And (b :: rest) pos) mb) : J X G W (pa && pb) (.BoolOp .And (a :: b :: rest) pos) (mAnd ma mb) :=
  ⟨pe_imp (pe_and ha.pe hb.pe) fun σ H Q h => and_imp_ ha h, fun z => quiet_and (ha.pure (Bool.and_eq_true _ _ ▸ z).1) (hb.pure (Bool.and_eq_true _ _ ▸ z).2)⟩
theorem r_or {pa pb : Bool} {a b : Expr} {rest : List Expr} {pos : Pos} {ma mb : M} (ha : J X G W pa a ma) (hb : J X G W pb (.BoolOp .Or (b :: rest) pos) mb) : J X G W (pa && pb) (.BoolOp .Or (a :: b :: rest) pos) (mOr ma mb) :=
  ⟨pe_imp (pe_or ha.pe hb.pe) fun σ H Q h => or_imp_ ha h, fun z => quiet_or (ha.pure (Bool.and_eq_true _ _ ▸ z).1) (hb.pure (Bool.and_eq_true _ _ ▸ z).2)⟩
theorem r_not {pa : Bool} {a : Expr} {pos : Pos} {ma : M} (ha : J X G W pa a ma) : J X G W pa (.UnaryOp .Not a pos) (mNot ma) := by
  refine ⟨pe_imp (pe_not ha.pe) fun σ H Q h => ?_, fun z => quiet_not (ha.pure z)⟩
  obtain ⟨F, ρ, fr, g, o⟩ := h
  refine ha.seq (xt := []) (pu := pa) (.refl F) (fun _ => .refl F H) g id o fun r1 ρ1 x F1 H1 e1 s1 x1 p1 g1 a1 o1 => ?_
  rw [List.append_nil] at g1
  have g2 := g1.mid
  obtain ⟨as, p⟩ := g2.ent a1
  split at o1
  · rename_i b eb
    rw [eb] at p
    exact ⟨b, own_bl p, o1.fin s1 x1 g2 rfl (New.val g1.sub rfl)⟩
  · exact o1.elim
/-- as tests -/
structure JW (X : Cx) (G : Gx) (W : WX) (pu : Bool) (e : Expr) (m : M) : Prop where
  pw : PW X e (testP (tJ G W pu m))
  pure : pu = true → Quiet m
  isB : ∀ ρ r ρ', m ρ = .ok r ρ' → ∃ b, r = fz (.bl b)
theorem JW.t {pu : Bool} {e : Expr} {m : M} (h : JW X G W pu e m) : JT X G W pu e m := ⟨h.pw.pt, h.pure, h.isB⟩
theorem pw_imp {e : Expr} {t t' : TT} (h : PW X e t) (i : ∀ σ H Q, t' σ H Q → t σ H Q) : PW X e t' := ⟨fun w pins s σ H Q I q => h.run w pins s σ H Q I (i σ H Q q)⟩
theorem rw_and1 {pa : Bool} {a : Expr} {pos : Pos} {ma : M} (ha : JT X G W pa a ma) : JW X G W pa (.BoolOp .And [a] pos) ma := ⟨pw_and1 ha.pt, ha.pure, ha.isB⟩
theorem rw_or1 {pa : Bool} {a : Expr} {pos : Pos} {ma : M} (ha : JT X G W pa a ma) : JW X G W pa (.BoolOp .Or [a] pos) ma := ⟨pw_or1 ha.pt, ha.pure, ha.isB⟩
theorem isB_and {ma mb : M} (hb : ∀ ρ r ρ', mb ρ = .ok r ρ' → ∃ b, r = fz (.bl b)) : ∀ ρ r ρ', mAnd ma mb ρ = .ok r ρ' → ∃ b, r = fz (.bl b) := fun ρ r ρ' h => by
  obtain ⟨r1, ρ1, e1, h⟩ := Out.bind_ok h
  split at h
  · exact hb _ _ _ h
  · cases h; exact ⟨_, rfl⟩
  · cases h
theorem isB_or {ma mb : M} (hb : ∀ ρ r ρ', mb ρ = .ok r ρ' → ∃ b, r = fz (.bl b)) : ∀ ρ r ρ', mOr ma mb ρ = .ok r ρ' → ∃ b, r = fz (.bl b) := fun ρ r ρ' h => by
  obtain ⟨r1, ρ1, e1, h⟩ := Out.bind_ok h
  split at h
  · cases h; exact ⟨_, rfl⟩
  · exact hb _ _ _ h
  · cases h
theorem rw_and {pa pb : Bool} {a b : Expr} {rest : List Expr} {pos : Pos} {ma mb : M} (ha : JT X G W pa a ma) (hb : JW X G W pb (.BoolOp .And (b :: rest) pos) mb) : JW X G W (pa && pb) (.BoolOp .And (a :: b :: rest) pos) (mAnd ma mb) := by
  refine ⟨pw_imp (pw_and ha.pt hb.pw) fun σ H Q h => ?_, fun z => quiet_and (ha.pure (Bool.and_eq_true _ _ ▸ z).1) (hb.pure (Bool.and_eq_true _ _ ▸ z).2), isB_and hb.isB⟩
  obtain ⟨F, ρ, fr, g, o⟩ := h
  refine ha.seq (pu := pa && pb) g (fun z => (Bool.and_eq_true _ _ ▸ z).1) o fun k ρ1 F1 H1 e1 s1 x1 g1 o1 => ?_
  cases k with
  | true => exact ⟨F1, ρ1, fr, g1, OutP.weak o1 fun z => (Bool.and_eq_true _ _ ▸ z).2⟩
  | false =>
    obtain ⟨b, eb, q⟩ := OutP.fin (xt := []) (z := .bl false) o1 (.refl F1) (fun _ => .refl F1 H1) g1 rfl (New.val g1.sub rfl)
    cases eb
    exact q
theorem rw_or {pa pb : Bool} {a b : Expr} {rest : List Expr} {pos : Pos} {ma mb : M} (ha : JT X G W pa a ma) (hb : JW X G W pb (.BoolOp .Or (b :: rest) pos) mb) : JW X G W (pa && pb) (.BoolOp .Or (a :: b :: rest) pos) (mOr ma mb) := by
  refine ⟨pw_imp (pw_or ha.pt hb.pw) fun σ H Q h => ?_, fun z => quiet_or (ha.pure (Bool.and_eq_true _ _ ▸ z).1) (hb.pure (Bool.and_eq_true _ _ ▸ z).2), isB_or hb.isB⟩
  obtain ⟨F, ρ, fr, g, o⟩ := h
  refine ha.seq (pu := pa && pb) g (fun z => (Bool.and_eq_true _ _ ▸ z).1) o fun k ρ1 F1 H1 e1 s1 x1 g1 o1 => ?_
  cases k with
  | false => exact ⟨F1, ρ1, fr, g1, OutP.weak o1 fun z => (Bool.and_eq_true _ _ ▸ z).2⟩
  | true =>
    obtain ⟨b, eb, q⟩ := OutP.fin (xt := []) (z := .bl true) o1 (.refl F1) (fun _ => .refl F1 H1) g1 rfl (New.val g1.sub rfl)
    cases eb
    exact q
theorem rt_not {pa : Bool} {a : Expr} {pos : Pos} {ma : M} (ha : JT X G W pa a ma) : JT X G W pa (.UnaryOp .Not a pos) (mNot ma) := by
  refine ⟨pt_imp (pt_not ha.pt) fun σ H Q h => ?_, fun z => quiet_not (ha.pure z), fun ρ r ρ' h => ?_⟩
  · obtain ⟨F, ρ, fr, g, o⟩ := h
    refine ha.seq (pu := pa) g id o fun k ρ1 F1 H1 e1 s1 x1 g1 o1 => ?_
    obtain ⟨b, eb, q⟩ := OutP.fin (xt := []) (z := .bl !k) o1 (.refl F1) (fun _ => .refl F1 H1) g1 rfl (New.val g1.sub rfl)
    cases eb
    exact q
  · obtain ⟨r1, ρ1, e1, h⟩ := Out.bind_ok h
    split at h
    · cases h; exact ⟨_, rfl⟩
    · cases h

/-! ### a chain of two comparisons -/
def mChain (pb pc : Bool) (g g' : Rz → Rz → Option Rz) (ma mb mc : M) : M := fun ρ => (ma ρ).bind fun r1 ρ1 => if (r1.al && !pb) = true then .no else (mb ρ1).bind fun r2 ρ2 => if r2.al = true then .no else match g r1 r2 with
  | some ⟨_, false, .bl true⟩ => (mc ρ2).bind fun r3 ρ3 => match g' r2 r3 with
    | some r => if r.al = true then .no else .ok r ρ3
    | none => .no
  | some ⟨_, false, .bl false⟩ => .ok (fz (.bl false)) ρ2
  | _ => .no
theorem own_bl' {F H : Hp} {r : Rz} {b : Bool} {x : V} (h : r.t = .bl b) {as : List Addr} (p : Own G F H r.d r.t x as) : x = .bl b := by
  rw [h] at p
  exact own_bl p
theorem chain_imp {pa pb pc : Bool} {a b c : Expr} {g g' : Rz → Rz → Option Rz} {ma mb mc : M} (ha : J X G W pa a ma) (hb : J X G W pb b mb) (hc : J X G W pc c mc) {σ : SL} {H : Hp} {Q : VK} (h : tJ G W (pa && (pb && pc)) (mChain pb pc g g' ma mb mc) σ H Q) :
    tChain (rOp2 G g) (rOp2 G g') (tJ G W pa ma) (tJ G W pb mb) (tJ G W pc mc) σ H Q := by
  have a1 : (pa && (pb && pc)) = true → pa = true := fun z => by simp only [Bool.and_eq_true] at z; exact z.1
  have a2 : (pa && (pb && pc)) = true → pb = true := fun z => by simp only [Bool.and_eq_true] at z; exact z.2.1
  have a3 : (pa && (pb && pc)) = true → pc = true := fun z => by simp only [Bool.and_eq_true] at z; exact z.2.2
  obtain ⟨F, ρ, fr, g, o⟩ := h
  refine ha.seq (xt := []) (pu := pa && (pb && pc)) (.refl F) (fun _ => .refl F H) g a1 o fun r1 ρ1 x F1 H1 e1 s1 x1 p1 g1 al1 o1 => ?_
  split at o1
  · exact o1.elim
  rename_i hal
  rw [List.append_nil] at g1
  refine hb.seq (xt := r1.ent x) (pu := pa && (pb && pc)) s1 x1 g1 a2 o1 fun r2 ρ2 y F2 H2 e2 s2 x2 p2 g2 al2 o2 => ?_
  split at o2
  · exact o2.elim
  rename_i hal2
  have hal2' : r2.al = false := by simpa using hal2
  rw [List.append_assoc] at g2
  have g3 := g2.mid
  obtain ⟨bs, pb2⟩ := g3.ent al2
  have g4 : Good G F2 H2 (r1.ent x ++ (r2.ent y ++ (ents ρ2 σ ++ fr))) := by
    refine g3.perm ?_
    refine ((perm_mid _ _ _).append_left _).trans ?_
    exact perm_mid _ _ _
  have al1' : AlOk G F2 H2 r1 x := fun z => by
    have hpb : pb = true := by
      cases q : pb with
      | true => rfl
      | false => exact absurd (show (r1.al && !pb) = true by rw [z, q]; rfl) hal
    obtain ⟨as, p⟩ := al1 z
    exact ⟨as, p.ext (p2 hpb).1⟩
  obtain ⟨as, pa2⟩ := g4.ent al1'
  split at o2
  · rename_i d' er
    have hd : false = false := rfl
    · refine ⟨F2, r1, r2, _, as, bs, g2.sub, g2.tab, pa2, pb2, er, hd, fun z F' H' n => ?_⟩
      obtain ⟨ee, ss, cs, po, _, _⟩ := n
      refine ⟨true, own_bl po, ?_⟩
      rw [if_pos rfl]
      have g5 : Good G F' H' (ents ρ2 σ ++ (r2.ent y ++ fr)) := by
        have q := (g4.drop).ext ee ss
        exact q.mid
      refine hc.seq (xt := r2.ent y) (pu := pa && (pb && pc)) (s2.trans ee.low) (fun z => (x2 z).trans ee) g5 a3 o2 fun r3 ρ3 w F3 H3 e3 s3 x3 p3 g6 al3 o3 => ?_
      split at o3
      · rename_i r er'
        split at o3
        · exact o3.elim
        rename_i hr
        have hr' : r.al = false := by simpa using hr
        rw [List.append_assoc] at g6
        have g7 := g6.mid
        obtain ⟨cs, pc3⟩ := g7.ent al3
        have g8 : Good G F3 H3 (r2.ent y ++ (r3.ent w ++ (ents ρ3 σ ++ fr))) := by
          refine g7.perm ?_
          refine ((perm_mid _ _ _).append_left _).trans ?_
          exact perm_mid _ _ _
        obtain ⟨ds, pb3⟩ := g8.ent (.zero hal2')
        refine ⟨F3, r2, r3, r, ds, cs, g6.sub, g6.tab, pb3, pc3, er', hr', fun z F' H' n => ?_⟩
        exact o3.fin (xt := r2.ent y ++ r3.ent w) s3 x3 (by rw [List.append_assoc]; exact g8) hr' n
      · exact o3.elim
  · rename_i d' er
    have hd : false = false := rfl
    · refine ⟨F2, r1, r2, _, as, bs, g2.sub, g2.tab, pa2, pb2, er, hd, fun z F' H' n => ?_⟩
      obtain ⟨ee, ss, cs, po, _, _⟩ := n
      refine ⟨false, own_bl po, ?_⟩
      rw [if_neg Bool.false_ne_true]
      have g5 : Good G F' H' ((r1.ent x ++ r2.ent y) ++ (ents ρ2 σ ++ fr)) := by
        rw [List.append_assoc]
        exact g4.ext ee ss
      exact o2.fin (s2.trans ee.low) (fun z => (x2 z).trans ee) g5 rfl (New.val ss rfl)
  · exact o2.elim
theorem quiet_chain {pb pc : Bool} {g g' : Rz → Rz → Option Rz} {ma mb mc : M} (qa : Quiet ma) (qb : Quiet mb) (qc : Quiet mc) : Quiet (mChain pb pc g g' ma mb mc) := fun ρ r ρ' h => by
  obtain ⟨r1, ρ1, e1, h⟩ := Out.bind_ok h
  have q1 := qa _ _ _ e1
  split at h
  · cases h
  obtain ⟨r2, ρ2, e2, h⟩ := Out.bind_ok h
  have q2 := qb _ _ _ e2
  split at h
  · cases h
  split at h
  · obtain ⟨r3, ρ3, e3, h⟩ := Out.bind_ok h
    have q3 := qc _ _ _ e3
    split at h
    · split at h
      · cases h
      · cases h; rw [q3, q2, q1]
    · cases h
  · cases h; rw [q2, q1]
  · cases h
theorem r_chain {pa pb pc : Bool} {a b c : Expr} {op op' : CmpOp} {pos : Pos} {g g' : Rz → Rz → Option Rz} {ma mb mc : M} (ho : Op2 X G (compareOp op) g) (ho' : Op2 X G (compareOp op') g') (ha : J X G W pa a ma) (hb : J X G W pb b mb) (hc : J X G W pc c mc)
    (hm : lastMarks [op, op'] [b, c] = false := by with_unfolding_all rfl) : J X G W (pa && (pb && pc)) (.Compare a [op, op'] [b, c] pos) (mChain pb pc g g' ma mb mc) :=
  ⟨pe_imp (pe_chain ho.r ho'.r ha.pe hb.pe hc.pe hm) fun σ H Q h => chain_imp ha hb hc h, fun z => by simp only [Bool.and_eq_true] at z; exact quiet_chain (ha.pure z.1) (hb.pure z.2.1) (hc.pure z.2.2)⟩
theorem rt_chain {pa pb pc : Bool} {a b c : Expr} {op op' : CmpOp} {pos : Pos} {g g' : Rz → Rz → Option Rz} {ma mb mc : M} (ho : Op2 X G (compareOp op) g) (ho' : Op2 X G (compareOp op') g') (ha : J X G W pa a ma) (hb : J X G W pb b mb) (hc : J X G W pc c mc)
    (hm : lastMarks [op, op'] [b, c] = false := by with_unfolding_all rfl) : JT X G W (pa && (pb && pc)) (.Compare a [op, op'] [b, c] pos) (mB (mChain pb pc g g' ma mb mc)) :=
  .of (pt_imp (pt_chain ho.r ho'.r ha.pe hb.pe hc.pe hm) fun σ H Q h => chain_imp ha hb hc h) (r_chain (pos := pos) ho ho' ha hb hc hm).pure
end
end Pb
end
/- Q4 -/
section
set_option Elab.async false
set_option linter.all false
set_option maxRecDepth 100000
namespace Pb
open PySem PySem.Spec PyProof.Rows L2

/-! ### several expressions -/
inductive OutA where
  | ok (rs : List Rz) (ρ : En)
  | ex (e : T) (ρ : En)
  | no
abbrev MA := En → OutA
def OutA.bind : OutA → (List Rz → En → Out) → Out
  | .ok rs ρ, k => k rs ρ
  | .ex e ρ, _ => .ex e ρ
  | .no, _ => .no
def Out.bindA : Out → (Rz → En → OutA) → OutA
  | .ok r ρ, k => k r ρ
  | .ex e ρ, _ => .ex e ρ
  | .no, _ => .no
def OutA.cons (r : Rz) : OutA → OutA
  | .ok rs ρ => .ok (r :: rs) ρ
  | .ex e ρ => .ex e ρ
  | .no => .no
def rents : List Rz → List V → List Ent
  | r :: rs, x :: xs => r.ent x ++ rents rs xs
  | _, _ => []
def AlsOk (G : Gx) (F H : Hp) : List Rz → List V → Prop
  | [], xs => xs = []
  | r :: rs, xs => ∃ x xr, xs = x :: xr ∧ AlOk G F H r x ∧ AlsOk G F H rs xr
/-- what is owned of them is new -/
def Purs (G : Gx) (H F' H' : Hp) : List Rz → List V → Prop
  | r :: rs, x :: xs => (r.al = false → ∀ as, Own G F' H' r.d r.t x as → ∀ a ∈ as, FT H a) ∧ Purs G H F' H' rs xs
  | _, _ => True
def OutPA (G : Gx) (W : WX) (σ : SL) (fr : List Ent) (pu : Bool) (F H : Hp) (o : OutA) (Q : List V → Hp → Prop) : Prop :=
  match o with
  | .ok rs ρ' => ∀ xs F' H', Sub F F' → (pu = true → Ext G F H F' H' ∧ Purs G H F' H' rs xs) → Good G F' H' (rents rs xs ++ (ents ρ' σ ++ fr)) → AlsOk G F' H' rs xs → Q xs H'
  | .ex e ρ' => ∀ cls d F' H', Sub F F' → Good G F' H' (ents ρ' σ ++ fr) → ExAt G F' H' e cls d → W cls d σ H'
  | .no => False
def tJA (G : Gx) (W : WX) (pu : Bool) (m : MA) : TA := fun σ H Q => ∃ F ρ fr, Good G F H (ents ρ σ ++ fr) ∧ OutPA G W σ fr pu F H (m ρ) Q
structure JA (X : Cx) (G : Gx) (W : WX) (pu : Bool) (es : List Expr) (m : MA) : Prop where
  pa : PA X es (tJA G W pu m)
  pure : pu = true → ∀ ρ rs ρ', m ρ = .ok rs ρ' → ρ' = ρ
theorem pa_imp {X : Cx} {es : List Expr} {t t' : TA} (h : PA X es t) (i : ∀ σ H Q, t' σ H Q → t σ H Q) : PA X es t' := ⟨fun pos pins s σ H Q I q => h.run pos pins s σ H Q I (i σ H Q q)⟩

section
variable {X : Cx} {G : Gx} {W : WX}
theorem AlsOk.ext {F H F' H' : Hp} : ∀ {rs : List Rz} {xs : List V}, AlsOk G F H rs xs → Ext G F H F' H' → AlsOk G F' H' rs xs
  | [], xs, h, _ => h
  | r :: rs, xs, h, e => let ⟨x, xr, q, a, b⟩ := h; ⟨x, xr, q, a.ext e, b.ext e⟩
theorem Own.back {F H F' H' : Hp} (e : Ext G F H F' H') {d : Nat} {t : T} {x : V} {as bs : List Addr} (p : Own G F H d t x as) (q : Own G F' H' d t x bs) : bs = as := q.uniq (p.ext e)

def mNil : MA := fun ρ => .ok [] ρ
def mCons (pr : Bool) (ma : M) (mr : MA) : MA := fun ρ => (ma ρ).bindA fun r ρ1 => if (r.al && !pr) = true then .no else (mr ρ1).cons r
theorem ra_nil : JA X G W true [] mNil := by
  refine ⟨pa_imp pa_nil fun σ H Q ⟨F, ρ, fr, g, o⟩ => ?_, fun _ ρ rs ρ' h => by cases h; rfl⟩
  exact o [] F H (.refl F) (fun _ => ⟨.refl F H, trivial⟩) g rfl
theorem ra_cons {pa pr : Bool} {a : Expr} {es : List Expr} {ma : M} {mr : MA} (ha : J X G W pa a ma) (hr : JA X G W pr es mr) (hs : starEach (a :: es) X.env = (false, eval a X.env) :: starEach es X.env := by rfl) : JA X G W (pa && pr) (a :: es) (mCons pr ma mr) := by
  refine ⟨pa_imp (pa_cons ha.pe hr.pa hs) fun σ H Q ⟨F, ρ, fr, g, o⟩ => ?_, fun hp ρ rs ρ' h => ?_⟩
  · refine ⟨F, ρ, fr, g, ?_⟩
    have hpa : (pa && pr) = true → pa = true := fun z => (Bool.and_eq_true _ _ ▸ z).1
    have hpr : (pa && pr) = true → pr = true := fun z => (Bool.and_eq_true _ _ ▸ z).2
    unfold mCons at o
    cases e : ma ρ with
    | ok r ρ1 =>
      rw [e] at o
      simp only [Out.bindA] at o
      split at o
      · exact o.elim
      rename_i hal
      intro x F1 H1 s1 p1 g1 a1
      refine ⟨F1, ρ1, r.ent x ++ fr, g1.mid, ?_⟩
      cases e2 : mr ρ1 with
      | ok rs ρ2 =>
        rw [e2] at o
        intro xs F2 H2 s2 p2 g2 a2
        have a1' : AlOk G F2 H2 r x := fun z => by
          have hpr : pr = true := by
            cases q : pr with
            | true => rfl
            | false => exact absurd (show (r.al && !pr) = true by rw [z, q]; rfl) hal
          obtain ⟨as, p⟩ := a1 z
          exact ⟨as, p.ext (p2 hpr).1⟩
        refine o (x :: xs) F2 H2 (s1.trans s2) (fun z => ?_) ?_ ⟨x, xs, rfl, a1', a2⟩
        · have e1 := (p1 (hpa z)).1
          have e2 := (p2 (hpr z)).1
          refine ⟨e1.trans e2, fun hz as q c hc => ?_, ?_⟩
          · obtain ⟨bs, pb⟩ := g1.ent a1
            have := pb.back e2 q
            subst this
            exact (p1 (hpa z)).2 hz _ pb c hc
          · have lower : ∀ (rs : List Rz) (xs : List V), Purs G H1 F2 H2 rs xs → Purs G H F2 H2 rs xs := by
              intro rs
              induction rs with
              | nil => intro xs h; exact trivial
              | cons r rs ih =>
                intro xs h
                cases xs with
                | nil => exact trivial
                | cons x xs =>
                  refine ⟨fun hz as q c hc => ?_, ih xs h.2⟩
                  exact ft_back e1.up (h.1 hz as q c hc)
            exact lower rs xs (p2 (hpr z)).2
        · show Good G F2 H2 ((r.ent x ++ rents rs xs) ++ (ents ρ2 σ ++ fr))
          refine g2.perm ?_
          rw [List.append_assoc]
          exact ((perm_mid _ _ _).append_left _).trans (perm_mid _ _ _)
      | ex e' ρ2 =>
        rw [e2] at o
        exact fun cls d F2 H2 s2 g2 q => o cls d F2 H2 (s1.trans s2) (g2.mid).drop q
      | no => rw [e2] at o; exact o.elim
    | ex e' ρ1 => rw [e] at o; exact o
    | no => rw [e] at o; exact o
  · have hp' := Bool.and_eq_true _ _ ▸ hp
    unfold mCons at h
    cases e : ma ρ with
    | ok r ρ1 =>
      rw [e] at h
      simp only [Out.bindA] at h
      split at h
      · cases h
      cases e2 : mr ρ1 with
      | ok rs ρ2 =>
        rw [e2] at h
        cases h
        exact (hr.pure hp'.2 _ _ _ e2).trans (ha.pure hp'.1 _ _ _ e)
      | ex _ _ => rw [e2] at h; cases h
      | no => rw [e2] at h; cases h
    | ex _ _ => rw [e] at h; cases h
    | no => rw [e] at h; cases h

/-- what is known of all -/
def Argd (G : Gx) (F H : Hp) : List Rz → List V → Prop
  | [], xs => xs = []
  | r :: rs, xs => ∃ x xr as, xs = x :: xr ∧ Own G F H r.d r.t x as ∧ Argd G F H rs xr
theorem argd {F H : Hp} : ∀ {rs : List Rz} {xs : List V} {es : List Ent}, Good G F H (rents rs xs ++ es) → AlsOk G F H rs xs → Argd G F H rs xs
  | [], xs, es, _, a => a
  | r :: rs, xs, es, g, a => by
    obtain ⟨x, xr, rfl, a1, a2⟩ := a
    have g' : Good G F H (r.ent x ++ (rents rs xr ++ es)) := by rw [← List.append_assoc]; exact g
    obtain ⟨as, p⟩ := g'.ent a1
    exact ⟨x, xr, as, rfl, p, argd g'.drop a2⟩
def noAl (rs : List Rz) : Bool := rs.all fun r => !r.al
/-- all of them frozen -/
theorem nt_add {F H : Hp} {as : List Addr} (n : NT F) (h : ∀ a ∈ as, ∃ o, H a = some o ∧ NoT o) : NT (add F H as) := fun c o z => by
  by_cases hc : c ∈ as
  · rw [add_in hc] at z
    obtain ⟨o', e, t⟩ := h c hc
    rw [e] at z
    cases z
    exact t
  · rw [add_out hc] at z
    exact n c o z
theorem freezeAll {F H : Hp} {rs : List Rz} {xs : List V} {es : List Ent} (g : Good G F H (rents rs xs ++ es)) (a : AlsOk G F H rs xs) (hn : noAl rs = true) {H0 : Hp} (N : Prop) (nw : N → Purs G H0 F H rs xs) :
    ∃ F', Sub F F' ∧ Good G F' H es ∧ Reps G F' (rs.map (·.t)) xs ∧ (N → ∀ c, F' c = F c ∨ FT H0 c) := by
  obtain ⟨as, q, nd⟩ := g.own
  obtain ⟨a1, b1, e, q1, q2⟩ := q.append
  subst e
  have nn := List.nodup_append.mp nd
  have sF := sub_add (F := F) (H := H) (as := a1) g.sub
  have main : ∀ (rs : List Rz) (xs : List V) (as : List Addr), EnOk G F H (rents rs xs) as → (∀ c ∈ as, c ∈ a1) → AlsOk G F H rs xs → noAl rs = true → Reps G (add F H a1) (rs.map (·.t)) xs ∧ (∀ H0, Purs G H0 F H rs xs → ∀ c ∈ as, FT H0 c) := by
    intro rs
    induction rs with
    | nil => intro xs as q hs a _; exact ⟨a, fun H0 _ c hc => by have e : as = [] := by (obtain rfl : xs = [] := a); exact q
                                                                 rw [e] at hc; exact absurd hc (by simp)⟩
    | cons r rs ih =>
      intro xs as q hs a hn
      obtain ⟨x, xr, rfl, a1', a2⟩ := a
      have hn' : r.al = false ∧ noAl rs = true := by simpa [noAl] using hn
      have e : r.ent x = [(r.d, r.t, x)] := if_neg (by rw [hn'.1]; exact Bool.false_ne_true)
      have q' : EnOk G F H ((r.d, r.t, x) :: rents rs xr) as := by
        have : rents (r :: rs) (x :: xr) = [(r.d, r.t, x)] ++ rents rs xr := by show r.ent x ++ _ = _; rw [e]
        rw [this] at q
        exact q
      obtain ⟨b, c, eb, p, q3⟩ := q'
      subst eb
      obtain ⟨i1, i2⟩ := ih xr c q3 (fun z hz => hs z (List.mem_append_right _ hz)) a2 hn'.2
      refine ⟨⟨x, _, rfl, p.freeze sF fun z hz => add_in (hs z (List.mem_append_left _ hz)), i1⟩, fun H0 pu z hz => ?_⟩
      rcases List.mem_append.mp hz with hz | hz
      · exact pu.1 hn'.1 _ p z hz
      · exact i2 H0 pu.2 z hz
  obtain ⟨m1, m2⟩ := main rs xs a1 q1 (fun _ h => h) a hn
  refine ⟨add F H a1, sF, ⟨add_sub g.sub, nt_add g.nt (fun c hc => (q1.at c hc).2), g.tab, b1, q2.mono sF fun c hc => ⟨?_, rfl⟩, nn.2.1⟩, m1, fun n c => ?_⟩
  · rw [add_out fun z => nn.2.2 c z c hc rfl]
    exact (q2.at c hc).1
  · by_cases h : c ∈ a1
    · exact .inr (m2 H0 (nw n) c h)
    · exact .inl (add_out h)

/-! ### new objects -/
theorem same_new {H : Hp} {p : Addr} {o : HO} (h : H p = none) : Sub H (upd H p o) := fun b u e => by rw [upd_ne (ne_of_none e h)]; exact e
theorem sub_upd {F H : Hp} {p : Addr} {o : HO} (s : Sub F H) (h : H p = none) : Sub F (upd H p o) := s.trans (same_new h)
theorem none_sub {F H : Hp} {p : Addr} (s : Sub F H) (h : H p = none) : F p = none := by
  cases e : F p with
  | none => rfl
  | some o => rw [s p o e] at h; cases h
theorem sub_upd2 {F H : Hp} {p : Addr} {o : HO} (s : Sub F H) : Sub (upd F p o) (upd H p o) := fun b u e => by
  by_cases h : b = p
  · rw [h, upd_same] at e ⊢; exact e
  · rw [upd_ne h] at e ⊢; exact s b u e
theorem noT_tup {xs : List V} : NoT (.tup xs) := fun _ z => by cases z
theorem nt_upd {F : Hp} {p : Addr} {o : HO} (h : NoT o) : NT F → NT (upd F p o) := fun n a u e => by
  by_cases q : a = p
  · rw [q, upd_same] at e
    cases e
    exact h
  · rw [upd_ne q] at e
    exact n a u e
theorem New.tup {F H : Hp} {p : Addr} {ts : List T} {xs : List V} (s : Sub F H) (h : H p = none) (r : Reps G F ts xs) : New G F H (upd F p (.tup xs)) (upd H p (.tup xs)) 0 (.tup ts) (.ref p) := by
  refine ⟨.of (same_new (none_sub s h)) (same_new h) (fun a => ?_) (nt_upd noT_tup), sub_upd2 s, [], ⟨rfl, p, xs, rfl, upd_same, Reps.mono (same_new (none_sub s h)) _ _ r⟩, .nil, fun _ h => absurd h (by simp)⟩
  by_cases e : a = p
  · rw [e]; exact .inr h
  · exact .inl (upd_ne e)
theorem New.lst {F H : Hp} {p : Addr} {ts : List T} {xs : List V} (s : Sub F H) (h : H p = none) (r : Reps G F ts xs) : New G F H F (upd H p (.lst xs)) 1 (.lst ts) (.ref p) := by
  refine ⟨.of (.refl F) (same_new h) (fun a => .inl rfl) id, s.trans (same_new h), [p], ⟨p, xs, [], rfl, rfl, none_sub s h, upd_same, ?_⟩, by simp, fun a ha => by rw [List.mem_singleton.mp ha]; exact .none h⟩
  have gen2 : ∀ (H' : Hp) (ts : List T) (xs : List V), Reps G F ts xs → All2 (Own G F H' 0) ts xs [] := by
    intro H' ts
    induction ts with
    | nil => intro xs r; exact ⟨r, rfl⟩
    | cons t ts ih => intro xs r; obtain ⟨x, q, rfl, a, b⟩ := r; exact ⟨x, q, [], [], rfl, rfl, ⟨rfl, a⟩, ih q b⟩
  exact gen2 _ ts xs r
theorem Ext.of_freeze {F0 H0 F H F' : Hp} (e : Ext G F0 H0 F H) (s : Sub F F') (n : ∀ c, F' c = F c ∨ FT H0 c) (t : NT F') : Ext G F0 H0 F' H :=
  ⟨e.low.trans s, e.up, fun a => by
    rcases n a with h | h
    · rcases e.new a with h' | h'
      · exact .inl (h.trans h')
      · exact .inr h'
    · exact .inr h, e.tab, fun _ => t⟩

/-! ### displays -/
def mTup (m : MA) : M := fun ρ => (m ρ).bind fun rs ρ' => if (noAl rs && decide (rs.length ≤ sizeLine)) = true then .ok (fz (.tup (rs.map (·.t)))) ρ' else .no
def mLst (m : MA) : M := fun ρ => (m ρ).bind fun rs ρ' => if (noAl rs && decide (rs.length ≤ sizeLine)) = true then .ok (ow (.lst (rs.map (·.t)))) ρ' else .no
theorem AlsOk.length {F H : Hp} : ∀ {rs : List Rz} {xs : List V}, AlsOk G F H rs xs → xs.length = rs.length
  | [], xs, h => by have e : xs = [] := h; rw [e]; rfl
  | r :: rs, xs, h => by obtain ⟨x, xr, rfl, _, h⟩ := h; rw [List.length_cons, List.length_cons, h.length]
theorem JA.seq {pa pu : Bool} {es : List Expr} {ma : MA} (ha : JA X G W pa es ma) {σ : SL} {fr : List Ent} {F H : Hp} {ρ : En} {k : List Rz → En → Out} {Q : VK} {P : List V → Hp → Prop} (g : Good G F H (ents ρ σ ++ fr)) (hp : pu = true → pa = true)
    (o : OutP G W σ fr pu F H ((ma ρ).bind k) Q)
    (next : ∀ rs ρ1 xs F1 H1, ma ρ = .ok rs ρ1 → Sub F F1 → (pu = true → Ext G F H F1 H1 ∧ Purs G H F1 H1 rs xs) → Good G F1 H1 (rents rs xs ++ (ents ρ1 σ ++ fr)) → AlsOk G F1 H1 rs xs → OutP G W σ fr pu F H (k rs ρ1) Q → P xs H1) :
    tJA G W pa ma σ H P := by
  refine ⟨F, ρ, fr, g, ?_⟩
  cases e : ma ρ with
  | ok rs ρ1 =>
    intro xs F1 H1 s1 p1 g1 a1
    rw [e] at o
    exact next rs ρ1 xs F1 H1 e s1 (fun z => p1 (hp z)) g1 a1 o
  | ex e' ρ1 => rw [e] at o; exact o
  | no => rw [e] at o; exact o
theorem OutA.bind_ok {o : OutA} {k : List Rz → En → Out} {r : Rz} {ρ : En} (h : o.bind k = .ok r ρ) : ∃ rs ρ1, o = .ok rs ρ1 ∧ k rs ρ1 = .ok r ρ := by
  cases o with
  | ok r1 ρ1 => exact ⟨r1, ρ1, rfl, h⟩
  | ex _ _ => cases h
  | no => cases h
theorem r_tup {pu : Bool} {es : List Expr} {x1} {pos : Pos} {m : MA} (h : JA X G W pu es m) : J X G W pu (.Tuple es x1 pos) (mTup m) := by
  refine ⟨pe_imp (pe_tup h.pa) fun σ H Q ⟨F, ρ, fr, g, o⟩ => ?_, fun z ρ r ρ' e => ?_⟩
  · refine h.seq (pu := pu) g id o fun rs ρ1 xs F1 H1 e1 s1 p1 g1 a1 o1 => ?_
    split at o1
    · rename_i hc
      simp only [Bool.and_eq_true, decide_eq_true_eq] at hc
      refine ⟨by rw [a1.length]; exact hc.2, fun p hp => ?_⟩
      obtain ⟨F2, s2, g2, r2, n2⟩ := freezeAll g1 a1 hc.1 (pu = true) (fun z => (p1 z).2)
      exact o1.fin (xt := []) (s1.trans s2) (fun z => .of_freeze (p1 z).1 s2 (n2 z) g2.nt) g2 rfl (New.tup g2.sub hp r2)
    · exact o1.elim
  · obtain ⟨rs, ρ1, e1, h'⟩ := OutA.bind_ok e
    split at h'
    · cases h'; exact h.pure z _ _ _ e1
    · cases h'
theorem r_lst {pu : Bool} {es : List Expr} {pos : Pos} {m : MA} (h : JA X G W pu es m) : J X G W pu (.List es pos) (mLst m) := by
  refine ⟨pe_imp (pe_lst h.pa) fun σ H Q ⟨F, ρ, fr, g, o⟩ => ?_, fun z ρ r ρ' e => ?_⟩
  · refine h.seq (pu := pu) g id o fun rs ρ1 xs F1 H1 e1 s1 p1 g1 a1 o1 => ?_
    split at o1
    · rename_i hc
      simp only [Bool.and_eq_true, decide_eq_true_eq] at hc
      refine ⟨by rw [a1.length]; exact hc.2, fun p hp => ?_⟩
      obtain ⟨F2, s2, g2, r2, n2⟩ := freezeAll g1 a1 hc.1 (pu = true) (fun z => (p1 z).2)
      exact o1.fin (xt := []) (s1.trans s2) (fun z => .of_freeze (p1 z).1 s2 (n2 z) g2.nt) g2 rfl (New.lst g2.sub hp r2)
    · exact o1.elim
  · obtain ⟨rs, ρ1, e1, h'⟩ := OutA.bind_ok e
    split at h'
    · cases h'; exact h.pure z _ _ _ e1
    · cases h'

/-! ### a value frozen as it comes -/
def mFz (m : M) : M := fun ρ => (m ρ).bind fun r ρ' => if r.al = true then .no else .ok (fz r.t) ρ'
theorem fz_imp {pu : Bool} {e : Expr} {m : M} (h : J X G W pu e m) {σ : SL} {H : Hp} {Q : VK} (hq : tJ G W pu (mFz m) σ H Q) : tJ G W pu m σ H Q := by
  obtain ⟨F, ρ, fr, g, o⟩ := hq
  refine h.seq (xt := []) (pu := pu) (.refl F) (fun _ => .refl F H) g id o fun r ρ1 x F1 H1 e1 s1 x1 p1 g1 a1 o1 => ?_
  split at o1
  · exact o1.elim
  rename_i hal
  rw [List.append_nil] at g1
  have g2 : Good G F1 H1 (rents [r] [x] ++ (ents ρ1 σ ++ fr)) := by
    show Good G F1 H1 ((r.ent x ++ []) ++ _)
    rw [List.append_nil]
    exact g1.mid
  have hn : r.al = false := by simpa using hal
  obtain ⟨F2, s2, g3, r3, n3⟩ := freezeAll (H0 := H) g2 ⟨x, [], rfl, a1, rfl⟩ (by simp [noAl, hn]) (pu = true) (fun z => ⟨(p1 z).2, trivial⟩)
  obtain ⟨y, yr, e4, ry, _⟩ := r3
  cases e4
  exact o1.fin (xt := []) (s1.trans s2) (fun z => .of_freeze (x1 z) s2 (n3 z) g3.nt) g3 rfl (New.val g3.sub ry)
theorem r_fz {pu : Bool} {e : Expr} {m : M} (h : J X G W pu e m) : J X G W pu e (mFz m) := by
  refine ⟨pe_imp h.pe fun σ H Q hq => fz_imp h hq, fun z ρ r ρ' e => ?_⟩
  obtain ⟨r1, ρ1, e1, h'⟩ := Out.bind_ok e
  split at h'
  · cases h'
  · cases h'; exact h.pure z _ _ _ e1

/-! ### calls of built-ins by values -/
def OpN (X : Cx) (G : Gx) (f : Value) (g : List Rz → Option Rz) : Prop :=
  ∀ (pins : List (Addr × Obj)) (s : Shared) (σ : SL) (H F : Hp) (xs : List V) (us : List Value) (rs : List Rz) (r : Rz) (Q : VK), Inv X pins σ H s → Vals xs us → Sub F H → LamX.Tabs G.tabs H → Argd G F H rs xs → g rs = some r → r.al = false →
    (∀ z F' H', New G F H F' H' r.d r.t z → Q z H') → wpAny (model X.prog X.w) X.A (call f us) (EP X pins σ Q) X.xe s
def rOpN (G : Gx) (g : List Rz → Option Rz) : List V → Hp → VK → Prop := fun xs H Q => ∃ F rs r, Sub F H ∧ LamX.Tabs G.tabs H ∧ Argd G F H rs xs ∧ g rs = some r ∧ r.al = false ∧ ∀ z F' H', New G F H F' H' r.d r.t z → Q z H'
theorem OpN.r {f : Value} {g : List Rz → Option Rz} (h : OpN X G f g) : CallR X f (rOpN G g) := fun pins s σ H xs us Q I rx ⟨F, rs, r, q1, q2, q3, q5, q6, q7⟩ =>
  h pins s σ H F xs us rs r Q I rx q1 q2 q3 q5 q6 q7
def orGN (g h : List Rz → Option Rz) : List Rz → Option Rz := fun a => match g a with | some r => some r | none => h a
theorem OpN.or {f : Value} {g g' : List Rz → Option Rz} (h : OpN X G f g) (h' : OpN X G f g') : OpN X G f (orGN g g') := by
  intro pins s σ H F xs us rs r Q I rx q1 q2 q3 q5 q6 q7
  unfold orGN at q5
  cases e : g rs with
  | some r' =>
    rw [e] at q5
    injection q5 with q5
    subst q5
    exact h pins s σ H F xs us rs _ Q I rx q1 q2 q3 e q6 q7
  | none =>
    rw [e] at q5
    exact h' pins s σ H F xs us rs r Q I rx q1 q2 q3 q5 q6 q7
def mOpN (g : List Rz → Option Rz) (m : MA) : M := fun ρ => (m ρ).bind fun rs ρ' => match g rs with
  | some r => if r.al = true then .no else .ok r ρ'
  | none => .no
theorem opN_imp {pu : Bool} {es : List Expr} {m : MA} {g : List Rz → Option Rz} (h : JA X G W pu es m) {σ : SL} {H : Hp} {Q : VK} (hq : tJ G W pu (mOpN g m) σ H Q) : tJA G W pu m σ H (fun xs H1 => rOpN G g xs H1 Q) := by
  obtain ⟨F, ρ, fr, g, o⟩ := hq
  refine h.seq (pu := pu) g id o fun rs ρ1 xs F1 H1 e1 s1 p1 g1 a1 o1 => ?_
  split at o1
  · rename_i r er
    split at o1
    · exact o1.elim
    rename_i hr
    have hr' : r.al = false := by simpa using hr
    exact ⟨F1, rs, r, g1.sub, g1.tab, argd g1 a1, er, hr', fun z F' H' n => o1.fin s1 (fun z => (p1 z).1) g1 hr' n⟩
  · exact o1.elim
theorem quiet_opN {pu : Bool} {es : List Expr} {m : MA} {g : List Rz → Option Rz} (h : JA X G W pu es m) (z : pu = true) : Quiet (mOpN g m) := fun ρ r ρ' e => by
  obtain ⟨rs, ρ1, e1, h'⟩ := OutA.bind_ok e
  split at h'
  · split at h'
    · cases h'
    · cases h'; exact h.pure z _ _ _ e1
  · cases h'
theorem r_callB {pu : Bool} {id : String} {x : Str} {e : Expr} {es : List Expr} {p pos : Pos} {m : MA} {g : List Rz → Option Rz} (hc : OpN X G (.builtin id) g) (hg : Gl X x) (hm : X.mg x = none) (hv : bootBuiltins x = some (.builtin id)) (ha : JA X G W pu (e :: es) m)
    (hn : x ≠ "__name__" := by decide) (hdb : (x == ("__debug__" : Str)) = false := by decide)
    (he : starEach (e :: es) X.env = (false, eval e X.env) :: starEach es X.env := by rfl) (hpl : (backTo pos (starEach es X.env)).any (·.1) = false := by rfl) : J X G W pu (.Call (.Name x p) (e :: es) [] pos) (mOpN g m) :=
  ⟨pe_imp (pe_callB hc.r hg hm hv ha.pa hn hdb he hpl) fun σ H Q h => opN_imp ha h, fun z => quiet_opN ha z⟩
theorem r_callTy {pu : Bool} {tn : String} {x : Str} {e : Expr} {es : List Expr} {p pos : Pos} {m : MA} {g : List Rz → Option Rz} (hc : OpN X G (.type tn) g) (hg : Gl X x) (hm : X.mg x = none) (hv : bootBuiltins x = some (.type tn)) (ha : JA X G W pu (e :: es) m)
    (hn : x ≠ "__name__" := by decide) (hdb : (x == ("__debug__" : Str)) = false := by decide)
    (he : starEach (e :: es) X.env = (false, eval e X.env) :: starEach es X.env := by rfl) (hpl : (backTo pos (starEach es X.env)).any (·.1) = false := by rfl) : J X G W pu (.Call (.Name x p) (e :: es) [] pos) (mOpN g m) :=
  ⟨pe_imp (pe_callTy hc.r hg hm hv ha.pa hn hdb he hpl) fun σ H Q h => opN_imp ha h, fun z => quiet_opN ha z⟩
end
end Pb
end
/- Q5 -/
section
set_option Elab.async false
set_option linter.all false
set_option maxRecDepth 100000
namespace Pb
open PySem PySem.Spec PyProof.Rows L2

inductive Fl where
  | nx (ρ : En)
  | rt (r : Rz) (ρ : En)
  | bk (ρ : En)
  | ct (ρ : En)
  | ex (e : T) (ρ : En)
  | no
abbrev S := En → Fl
def Fl.bind : Fl → (En → Fl) → Fl
  | .nx ρ, k => k ρ
  | .rt r ρ, _ => .rt r ρ
  | .bk ρ, _ => .bk ρ
  | .ct ρ, _ => .ct ρ
  | .ex e ρ, _ => .ex e ρ
  | .no, _ => .no
def Out.fl : Out → (Rz → En → Fl) → Fl
  | .ok r ρ, k => k r ρ
  | .ex e ρ, _ => .ex e ρ
  | .no, _ => .no
def OutA.fl : OutA → (List Rz → En → Fl) → Fl
  | .ok r ρ, k => k r ρ
  | .ex e ρ, _ => .ex e ρ
  | .no, _ => .no

/-- the slots behind: as many, those of pin as they were -/
structure Kept (pin : List Nat) (n : Nat) (σ σ' : SL) : Prop where
  len : σ'.length = n
  same : ∀ i ∈ pin, σ'[i]? = σ[i]?
theorem Kept.refl {pin : List Nat} {n : Nat} {σ : SL} (h : σ.length = n) : Kept pin n σ σ := ⟨h, fun _ _ => rfl⟩
theorem Kept.trans {pin : List Nat} {n : Nat} {a b c : SL} (h : Kept pin n a b) (g : Kept pin n b c) : Kept pin n a c := ⟨g.len, fun i hi => (g.same i hi).trans (h.same i hi)⟩
theorem Kept.set {pin : List Nat} {n : Nat} {σ : SL} {i : Nat} {v : Option V} (h : σ.length = n) (hi : i ∉ pin) : Kept pin n σ (σ.set i v) := ⟨by rw [List.length_set]; exact h, fun j hj => by rw [List.getElem?_set_ne]; rintro rfl; exact hi hj⟩

def OutS (G : Gx) (W : WX) (pin : List Nat) (n : Nat) (σ : SL) (fr : List Ent) (F : Hp) (o : Fl) (D : Ends) : Prop :=
  match o with
  | .nx ρ' => ∀ σ' F' H', Sub F F' → Kept pin n σ σ' → Good G F' H' (ents ρ' σ' ++ fr) → D.nx σ' H'
  | .rt r ρ' => ∀ x σ' F' H', Sub F F' → Kept pin n σ σ' → Good G F' H' ((r.d, r.t, x) :: (ents ρ' σ' ++ fr)) → D.rt x H'
  | .bk ρ' => ∀ σ' F' H', Sub F F' → Kept pin n σ σ' → Good G F' H' (ents ρ' σ' ++ fr) → D.bk σ' H'
  | .ct ρ' => ∀ σ' F' H', Sub F F' → Kept pin n σ σ' → Good G F' H' (ents ρ' σ' ++ fr) → D.ct σ' H'
  | .ex e ρ' => ∀ cls d σ' F' H', Sub F F' → Kept pin n σ σ' → Good G F' H' (ents ρ' σ' ++ fr) → ExAt G F' H' e cls d → W cls d σ' H'
  | .no => False
def tS (G : Gx) (W : WX) (pin : List Nat) (n : Nat) (m : S) : TS := fun D σ H => ∃ F ρ fr, Good G F H (ents ρ σ ++ fr) ∧ σ.length = n ∧ OutS G W pin n σ fr F (m ρ) D
structure JS (X : Cx) (G : Gx) (W : WX) (pin : List Nat) (n : Nat) (st : Stmt) (m : S) : Prop where
  ps : PS X st (tS G W pin n m)
structure JB (X : Cx) (G : Gx) (W : WX) (pin : List Nat) (n : Nat) (st : List Stmt) (m : S) : Prop where
  ps : PSs X st (tS G W pin n m)

section
variable {X : Cx} {G : Gx} {W : WX} {pin : List Nat} {n : Nat}
theorem OutS.rebase {σ σ1 : SL} {fr : List Ent} {F F1 : Hp} {o : Fl} {D : Ends} (h : OutS G W pin n σ fr F o D) (s : Sub F F1) (k : Kept pin n σ σ1) : OutS G W pin n σ1 fr F1 o D := by
  cases o with
  | nx ρ' => exact fun σ' F' H' s' k' g => h σ' F' H' (s.trans s') (k.trans k') g
  | rt r ρ' => exact fun x σ' F' H' s' k' g => h x σ' F' H' (s.trans s') (k.trans k') g
  | bk ρ' => exact fun σ' F' H' s' k' g => h σ' F' H' (s.trans s') (k.trans k') g
  | ct ρ' => exact fun σ' F' H' s' k' g => h σ' F' H' (s.trans s') (k.trans k') g
  | ex e ρ' => exact fun cls d σ' F' H' s' k' g q => h cls d σ' F' H' (s.trans s') (k.trans k') g q
  | no => exact h
/-- an expression, then a statement's rest -/
theorem J.seqS {pa : Bool} {a : Expr} {ma : M} (ha : J X G W pa a ma) {σ : SL} {fr : List Ent} {F H : Hp} {ρ : En} {k : Rz → En → Fl} {D : Ends} {P : VK} (g : Good G F H (ents ρ σ ++ fr)) (hl : σ.length = n)
    (o : OutS G W pin n σ fr F ((ma ρ).fl k) D)
    (next : ∀ r ρ1 x F1 H1, ma ρ = .ok r ρ1 → Sub F F1 → (pa = true → Pur G F H F1 H1 r x) → Good G F1 H1 (r.ent x ++ (ents ρ1 σ ++ fr)) → AlOk G F1 H1 r x → OutS G W pin n σ fr F1 (k r ρ1) D → P x H1) :
    tJ G W pa ma σ H P := by
  refine ⟨F, ρ, fr, g, ?_⟩
  cases e : ma ρ with
  | ok r ρ1 =>
    intro x F1 H1 s1 p1 g1 a1
    rw [e] at o
    exact next r ρ1 x F1 H1 e s1 p1 g1 a1 (OutS.rebase o s1 (.refl hl))
  | ex e' ρ1 =>
    intro cls d F1 H1 s1 g1 q
    rw [e] at o
    exact o cls d σ F1 H1 s1 (.refl hl) g1 q
  | no => rw [e] at o; exact o.elim
theorem JT.seqS {pa : Bool} {a : Expr} {ma : M} (ha : JT X G W pa a ma) {σ : SL} {fr : List Ent} {F H : Hp} {ρ : En} {k : Rz → En → Fl} {D : Ends} {P : Bool → Hp → Prop} (g : Good G F H (ents ρ σ ++ fr)) (hl : σ.length = n)
    (o : OutS G W pin n σ fr F ((ma ρ).fl k) D)
    (next : ∀ b ρ1 F1 H1, ma ρ = .ok (fz (.bl b)) ρ1 → Sub F F1 → Good G F1 H1 (ents ρ1 σ ++ fr) → OutS G W pin n σ fr F1 (k (fz (.bl b)) ρ1) D → P b H1) :
    testP (tJ G W pa ma) σ H P := by
  refine ⟨F, ρ, fr, g, ?_⟩
  cases e : ma ρ with
  | ok r ρ1 =>
    intro x F1 H1 s1 p1 g1 a1
    obtain ⟨b, rfl⟩ := ha.isB _ _ _ e
    rw [e] at o
    obtain ⟨as, q⟩ := g1.ent a1
    exact ⟨b, q.2, next b ρ1 F1 H1 e s1 g1.drop (OutS.rebase o s1 (.refl hl))⟩
  | ex e' ρ1 =>
    intro cls d F1 H1 s1 g1 q
    rw [e] at o
    exact o cls d σ F1 H1 s1 (.refl hl) g1 q
  | no => rw [e] at o; exact o.elim

def mSkip : S := fun ρ => .nx ρ
def mSeq (a b : S) : S := fun ρ => (a ρ).bind b
def mPass : S := mSkip
def mBrk : S := fun ρ => .bk ρ
def mCnt : S := fun ρ => .ct ρ
theorem rs_pass {pos : Pos} : JS X G W pin n (.Pass pos) mPass := ⟨ps_imp ps_pass fun D σ H ⟨F, ρ, fr, g, hl, o⟩ => o σ F H (.refl F) (.refl hl) g⟩
theorem rs_brk {pos : Pos} : JS X G W pin n (.Break pos) mBrk := ⟨ps_imp ps_break fun D σ H ⟨F, ρ, fr, g, hl, o⟩ => o σ F H (.refl F) (.refl hl) g⟩
theorem rs_cnt {pos : Pos} : JS X G W pin n (.Continue pos) mCnt := ⟨ps_imp ps_continue fun D σ H ⟨F, ρ, fr, g, hl, o⟩ => o σ F H (.refl F) (.refl hl) g⟩
theorem rb_nil : JB X G W pin n [] mSkip := ⟨pss_imp pss_nil fun D σ H ⟨F, ρ, fr, g, hl, o⟩ => o σ F H (.refl F) (.refl hl) g⟩
theorem rb_cons {st : Stmt} {rest : List Stmt} {a b : S} (h1 : JS X G W pin n st a) (h2 : JB X G W pin n rest b) : JB X G W pin n (st :: rest) (mSeq a b) := by
  refine ⟨pss_imp (pss_cons h1.ps h2.ps) fun D σ H ⟨F, ρ, fr, g, hl, o⟩ => ⟨F, ρ, fr, g, hl, ?_⟩⟩
  unfold mSeq at o
  cases e : a ρ with
  | nx ρ1 =>
    rw [e] at o
    intro σ' F' H' s k g'
    exact ⟨F', ρ1, fr, g', k.len, OutS.rebase o s k⟩
  | rt r ρ1 => rw [e] at o; exact o
  | bk ρ1 => rw [e] at o; exact o
  | ct ρ1 => rw [e] at o; exact o
  | ex _ _ => rw [e] at o; exact o
  | no => rw [e] at o; exact o
theorem rb_one {st : Stmt} {a : S} (h1 : JS X G W pin n st a) : JB X G W pin n [st] a := ⟨pss_one h1.ps⟩
def mExpr (m : M) : S := fun ρ => (m ρ).fl fun _ ρ' => .nx ρ'
theorem rs_expr {pu : Bool} {e : Expr} {pos : Pos} {m : M} (h : J X G W pu e m) (hs : swapsWith e none pos.line X.env = pure false := by rfl) : JS X G W pin n (.Expr e pos) (mExpr m) := by
  refine ⟨ps_imp (ps_expr h.pe hs) fun D σ H ⟨F, ρ, fr, g, hl, o⟩ => ?_⟩
  exact h.seqS g hl o fun r ρ1 x F1 H1 e1 s1 p1 g1 a1 o1 => o1 σ F1 H1 (.refl F1) (.refl hl) g1.drop
def mRet (m : M) : S := fun ρ => (m ρ).fl fun r ρ' => if r.al = true then .no else .rt r ρ'
theorem rs_ret {pu : Bool} {e : Expr} {pos : Pos} {m : M} (h : J X G W pu e m) : JS X G W pin n (.Return (some e) pos) (mRet m) := by
  refine ⟨ps_imp (ps_ret h.pe) fun D σ H ⟨F, ρ, fr, g, hl, o⟩ => ?_⟩
  refine h.seqS g hl o fun r ρ1 x F1 H1 e1 s1 p1 g1 a1 o1 => ?_
  split at o1
  · exact o1.elim
  · rename_i hal
    have e : r.ent x = [(r.d, r.t, x)] := if_neg hal
    rw [e] at g1
    exact o1 x σ F1 H1 (.refl F1) (.refl hl) g1
def mRetN : S := fun ρ => .rt (fz .non) ρ
theorem rs_retN {pos : Pos} : JS X G W pin n (.Return none pos) mRetN := ⟨ps_imp ps_retN fun D σ H ⟨F, ρ, fr, g, hl, o⟩ => o .non σ F H (.refl F) (.refl hl) (g.zero rfl)⟩
def mIfS (c : M) (a b : S) : S := fun ρ => (c ρ).fl fun r ρ' => match r.t with
  | .bl true => a ρ'
  | .bl false => b ρ'
  | _ => .no
theorem rs_if {pu : Bool} {c : Expr} {a b : List Stmt} {pos : Pos} {mc : M} {ma mb : S} (hc : JT X G W pu c mc) (ha : JB X G W pin n a ma) (hb : JB X G W pin n b mb) : JS X G W pin n (.If c a b pos) (mIfS mc ma mb) := by
  refine ⟨ps_imp (ps_if hc.pt ha.ps hb.ps) fun D σ H ⟨F, ρ, fr, g, hl, o⟩ => ?_⟩
  refine hc.seqS g hl o fun b ρ1 F1 H1 e1 s1 g1 o1 => ?_
  cases b with
  | true => exact ⟨F1, ρ1, fr, g1, hl, o1⟩
  | false => exact ⟨F1, ρ1, fr, g1, hl, o1⟩

/-! ### stores -/
/-- a target, given a value -/
def gT (G : Gx) (pin : List Nat) (n : Nat) (mg : Rz → En → Option En) : TG := fun v σ H Q => ∃ F ρ fr r ρ', Good G F H ((r.d, r.t, v) :: (ents ρ σ ++ fr)) ∧ σ.length = n ∧ mg r ρ = some ρ' ∧ ∀ σ', Kept pin n σ σ' → Good G F H (ents ρ' σ' ++ fr) → Q σ' H
structure JG (X : Cx) (G : Gx) (pin : List Nat) (n : Nat) (tg : Expr) (mg : Rz → En → Option En) : Prop where
  pg : PG X tg (gT G pin n mg)
/-- several targets, given frozen values -/
def gTs (G : Gx) (pin : List Nat) (n : Nat) (mg : List Rz → En → Option En) : TGs := fun vs σ H Q => ∃ F ρ fr rs ρ', Good G F H (rents rs vs ++ (ents ρ σ ++ fr)) ∧ rs.length = vs.length ∧ noAl rs = true ∧ σ.length = n ∧ mg rs ρ = some ρ' ∧ ∀ σ', Kept pin n σ σ' → Good G F H (ents ρ' σ' ++ fr) → Q σ' H
structure JGs (X : Cx) (G : Gx) (pin : List Nat) (n : Nat) (tg : List Expr) (mg : List Rz → En → Option En) : Prop where
  pg : PGs X tg (gTs G pin n mg)
theorem pg_imp {X : Cx} {e : Expr} {t t' : TG} (h : PG X e t) (i : ∀ v σ H Q, t' v σ H Q → t v σ H Q) : PG X e t' := ⟨fun pins s σ H v u Q I r q => h.run pins s σ H v u Q I r (i v σ H Q q)⟩
theorem pgs_imp {X : Cx} {e : List Expr} {t t' : TGs} (h : PGs X e t) (i : ∀ v σ H Q, t' v σ H Q → t v σ H Q) : PGs X e t' := ⟨fun pins s σ H v u Q I r q => h.run pins s σ H v u Q I r (i v σ H Q q)⟩
def gSet (i : Nat) : Rz → En → Option En := fun r ρ => if i < ρ.length then some (ρ.set i (some (r.d, r.t))) else none
/-- a slot stored -/
theorem Good.store {F H : Hp} {ρ : En} {σ : SL} {i : Nat} {d : Nat} {t : T} {v : V} {fr : List Ent} (g : Good G F H ((d, t, v) :: (ents ρ σ ++ fr))) (hi : i < ρ.length) (hs : i < σ.length) :
    Good G F H (ents (ρ.set i (some (d, t))) (σ.set i (some v)) ++ fr) := by
  have e : ρ[i]? = some ρ[i] := List.getElem?_eq_getElem hi
  have p := ents_at (σ := σ) e
  have g1 : Good G F H ((d, t, v) :: ((entOf ρ[i] σ[i]? ++ ents (ρ.set i none) σ) ++ fr)) := g.perm ((p.append_right fr).cons _)
  have g2 : Good G F H (entOf ρ[i] σ[i]? ++ ((d, t, v) :: (ents (ρ.set i none) σ ++ fr))) := by
    refine g1.perm ?_
    rw [List.append_assoc]
    exact (perm_mid [(d, t, v)] (entOf ρ[i] σ[i]?) _)
  exact (g2.drop).back hi hs
theorem rg_name {i : Nat} {x : Str} {pos : Pos} (hN : X.N.Nodup) (hi : X.N[i]? = some x) (hx : Loc X.env.scope x) (hp : i ∉ pin) (hn : i < n) (hf : X.fn x = true ∨ X.env.scope.names.lookup x = some .local := by first | exact .inl rfl | exact .inr rfl) : JG X G pin n (.Name x pos) (gSet i) := by
  refine ⟨pg_imp (pg_name hN hi hx hf) fun v σ H Q ⟨F, ρ, fr, r, ρ', g, hl, e, q⟩ => ?_⟩
  unfold gSet at e
  split at e
  · rename_i hlt
    cases e
    exact q (σ.set i (some v)) (.set hl hp) (g.store hlt (by rw [hl]; exact hn))
  · cases e
def gsNil : List Rz → En → Option En := fun rs ρ => match rs with | [] => some ρ | _ => none
def gsCons (a : Rz → En → Option En) (b : List Rz → En → Option En) : List Rz → En → Option En := fun rs ρ => match rs with
  | r :: rs => (a r ρ).bind (b rs)
  | [] => none
theorem rgs_nil : JGs X G pin n [] gsNil := by
  refine ⟨pgs_imp pgs_nil fun vs σ H Q ⟨F, ρ, fr, rs, ρ', g, hv, hn, hl, e, q⟩ => ?_⟩
  unfold gsNil at e
  split at e
  · cases e
    refine ⟨?_, q σ (.refl hl) g.drop⟩
    cases vs with
    | nil => rfl
    | cons _ _ => cases hv
  · cases e
theorem rgs_cons {a : Expr} {es : List Expr} {ga : Rz → En → Option En} {gb : List Rz → En → Option En} (ha : JG X G pin n a ga) (hb : JGs X G pin n es gb)
    (hs : (assignEach (a :: es) X.env).map (·.2) = assign a X.env :: (assignEach es X.env).map (·.2) := by rfl) : JGs X G pin n (a :: es) (gsCons ga gb) := by
  refine ⟨pgs_imp (pgs_cons ha.pg hb.pg hs) fun vs σ H Q ⟨F, ρ, fr, rs, ρ', g, hv, hn, hl, e, q⟩ => ?_⟩
  unfold gsCons at e
  split at e
  · rename_i r rs
    cases vs with
    | nil => cases hv
    | cons v vs =>
      have hn' : r.al = false ∧ noAl rs = true := by simpa [noAl] using hn
      cases e1 : ga r ρ with
      | none => rw [e1] at e; cases e
      | some ρ1 =>
        rw [e1] at e
        have er : r.ent v = [(r.d, r.t, v)] := if_neg (by rw [hn'.1]; exact Bool.false_ne_true)
        have g1 : Good G F H ((r.d, r.t, v) :: (ents ρ σ ++ (rents rs vs ++ fr))) := by
          have g0 : Good G F H ((r.ent v ++ rents rs vs) ++ (ents ρ σ ++ fr)) := g
          rw [er] at g0
          exact g0.perm ((perm_mid (rents rs vs) (ents ρ σ) fr).cons _)
        refine ⟨v, vs, rfl, F, ρ, rents rs vs ++ fr, r, ρ1, g1, hl, e1, fun σ' k g2 => ?_⟩
        exact ⟨F, ρ1, fr, rs, ρ', g2.mid, by simpa using hv, hn'.2, k.len, e, fun σ'' k' g3 => q σ'' (k.trans k') g3⟩
  · cases e
/-- (a, b, ..) = a tuple -/
def gTupM (gs : List Rz → En → Option En) (k : Nat) : Rz → En → Option En := fun r ρ => match r.t with
  | .tup ts => if ts.length = k then gs (ts.map fz) ρ else none
  | _ => none
theorem Good.zeros {F H : Hp} : ∀ {ts : List T} {xs : List V} {es : List Ent}, Good G F H es → Reps G F ts xs → Good G F H (rents (ts.map fz) xs ++ es)
  | [], xs, es, g, r => by have e : xs = [] := r; subst e; exact g
  | t :: ts, xs, es, g, r => by
    obtain ⟨x, xr, rfl, a, b⟩ := r
    exact (g.zeros b).zero a
theorem noAl_fz (ts : List T) : noAl (ts.map fz) = true := by
  induction ts with
  | nil => rfl
  | cons t ts ih => exact ih
theorem own_tup {F H : Hp} {d : Nat} {ts : List T} {x : V} {as : List Addr} (p : Own G F H d (.tup ts) x as) : ∃ a vs, x = .ref a ∧ SqT G.K F a vs ∧ Reps G F ts vs := by
  cases d with
  | zero => obtain ⟨_, a, vs, e, h, r⟩ := p; exact ⟨a, vs, e, .of h, r⟩
  | succ d => obtain ⟨_, a, vs, e, h, r⟩ := p; exact ⟨a, vs, e, .of h, r⟩
theorem own_tupF {F H : Hp} {d : Nat} {ts : List T} {x : V} {as : List Addr} (p : Own G F H d (.tup ts) x as) : ∃ a vs, x = .ref a ∧ F a = some (.tup vs) ∧ Reps G F ts vs := by
  cases d with
  | zero => exact p.2
  | succ d => exact p.2
theorem own_frt {F H : Hp} {d : Nat} {ts : List T} {x : V} {as : List Addr} (p : Own G F H d (.frt ts) x as) : ∃ a vs, x = .ref a ∧ SqT G.K F a vs ∧ Reps G F ts vs := by
  cases d with
  | zero => exact p.2
  | succ d => exact p.2
theorem rg_tup {es : List Expr} {k : Nat} {pos : Pos} {gs : List Rz → En → Option En} {j : Nat} (hK : X.K = G.K) (hc : X.calm = true) (h : JGs X G pin n es gs)
    (hn : (assignEach es X.env).length = j := by rfl) (hst : (assignEach es X.env).findIdx? (·.1) = none := by rfl) : JG X G pin n (.Tuple es k pos) (gTupM gs j) := by
  refine ⟨pg_imp (pg_tup hc h.pg hn hst) fun v σ H Q ⟨F, ρ, fr, r, ρ', g, hl, e, q⟩ => ?_⟩
  unfold gTupM at e
  split at e
  · rename_i ts et
    split at e
    · rename_i hk
      rw [et] at g
      obtain ⟨as, p⟩ := g.head
      obtain ⟨a, vs, rfl, hq, hr⟩ := own_tup p
      refine ⟨a, vs, rfl, by rw [hK]; exact sqT_mono g.sub hq, by rw [← hr.length]; exact hk, ?_⟩
      exact ⟨F, ρ, fr, ts.map fz, ρ', (g.tail).zeros hr, by rw [List.length_map]; exact hr.length, noAl_fz ts, hl, e, q⟩
    · cases e
  · cases e
def mAsg (m : M) (mg : Rz → En → Option En) : S := fun ρ => (m ρ).fl fun r ρ' => if r.al = true then .no else match mg r ρ' with
  | some ρ'' => .nx ρ''
  | none => .no
theorem rs_asg {pu : Bool} {tg e : Expr} {pos : Pos} {m : M} {mg : Rz → En → Option En} (he : J X G W pu e m) (hg : JG X G pin n tg mg) (hs : swapsWithSole [tg] e pos.line X.env = pure false := by rfl) (hw : swappedStores [tg] e X.env = pure none := by rfl)
    (h1 : (assignEach [tg] X.env).map (·.2) = [assign tg X.env] := by rfl) : JS X G W pin n (.Assign [tg] e pos) (mAsg m mg) := by
  refine ⟨ps_imp (ps_asg he.pe hg.pg hs hw h1) fun D σ H ⟨F, ρ, fr, g, hl, o⟩ => ?_⟩
  refine he.seqS g hl o fun r ρ1 x F1 H1 e1 s1 p1 g1 a1 o1 => ?_
  split at o1
  · exact o1.elim
  rename_i hal
  have er : r.ent x = [(r.d, r.t, x)] := if_neg hal
  rw [er] at g1
  cases e2 : mg r ρ1 with
  | none => rw [e2] at o1; exact o1.elim
  | some ρ2 =>
    rw [e2] at o1
    exact ⟨F1, ρ1, fr, r, ρ2, g1, hl, e2, fun σ' k g2 => o1 σ' F1 H1 (.refl F1) k g2⟩
theorem rs_set {i : Nat} {x : Str} {pu : Bool} {e : Expr} {pos pos' : Pos} {m : M} (hN : X.N.Nodup) (hi : X.N[i]? = some x) (hx : Loc X.env.scope x) (hp : i ∉ pin) (hn : i < n) (he : J X G W pu e m) (hs : swapsWith e (some (.Name x pos')) pos.line X.env = pure false := by rfl)
    (hf : X.fn x = true ∨ X.env.scope.names.lookup x = some .local := by first | exact .inl rfl | exact .inr rfl) : JS X G W pin n (.Assign [.Name x pos'] e pos) (mAsg m (gSet i)) := by
  refine ⟨ps_imp (ps_set hN hi hx he.pe hs hf) fun D σ H ⟨F, ρ, fr, g, hl, o⟩ => ?_⟩
  refine he.seqS g hl o fun r ρ1 x F1 H1 e1 s1 p1 g1 a1 o1 => ?_
  split at o1
  · exact o1.elim
  rename_i hal
  have er : r.ent x = [(r.d, r.t, x)] := if_neg hal
  rw [er] at g1
  unfold gSet at o1
  split at o1
  · rename_i ρ2 e2
    split at e2
    · rename_i hlt
      cases e2
      exact o1 _ F1 H1 (.refl F1) (.set hl hp) (g1.store hlt (by rw [hl]; exact hn))
    · cases e2
  · exact o1.elim
/-- a, b = e, f, stored as they are -/
theorem JA.seqS {pa : Bool} {es : List Expr} {ma : MA} (ha : JA X G W pa es ma) {σ : SL} {fr : List Ent} {F H : Hp} {ρ : En} {k : List Rz → En → Fl} {D : Ends} {P : List V → Hp → Prop} (g : Good G F H (ents ρ σ ++ fr)) (hl : σ.length = n)
    (o : OutS G W pin n σ fr F ((ma ρ).fl k) D)
    (next : ∀ rs ρ1 xs F1 H1, ma ρ = .ok rs ρ1 → Sub F F1 → Good G F1 H1 (rents rs xs ++ (ents ρ1 σ ++ fr)) → AlsOk G F1 H1 rs xs → OutS G W pin n σ fr F1 (k rs ρ1) D → P xs H1) :
    tJA G W pa ma σ H P := by
  refine ⟨F, ρ, fr, g, ?_⟩
  cases e : ma ρ with
  | ok rs ρ1 =>
    intro xs F1 H1 s1 p1 g1 a1
    rw [e] at o
    exact next rs ρ1 xs F1 H1 e s1 g1 a1 (OutS.rebase o s1 (.refl hl))
  | ex e' ρ1 =>
    intro cls d F1 H1 s1 g1 q
    rw [e] at o
    exact o cls d σ F1 H1 s1 (.refl hl) g1 q
  | no => rw [e] at o; exact o.elim
def mPar (m : MA) (gs : List Rz → En → Option En) : S := fun ρ => (m ρ).fl fun rs ρ' => if noAl rs = true then match gs rs ρ' with
  | some ρ'' => .nx ρ''
  | none => .no
  else .no
theorem rs_par2 {pu : Bool} {i j : Nat} {x y : Str} {a b : Expr} {m : MA} {px py pt pos : Pos} {kt k2 pt2} (hc : X.calm = true) (hN : X.N.Nodup) (hi : X.N[i]? = some x) (hj : X.N[j]? = some y) (hij : i ≠ j) (hpi : i ∉ pin) (hpj : j ∉ pin) (hni : i < n) (hnj : j < n)
    (hx : X.env.scope.names.lookup x = some .local) (hy : X.env.scope.names.lookup y = some .local) (ha : JA X G W pu [a, b] m)
    (hw : swappedStores [.Tuple [.Name x px, .Name y py] kt pt] (.Tuple [a, b] k2 pt2) X.env = pure (some [x, y]) := by rfl)
    (hs : swapsWithSole [.Tuple [.Name x px, .Name y py] kt pt] (.Tuple [a, b] k2 pt2) pos.line X.env = pure false := by rfl) :
    JS X G W pin n (.Assign [.Tuple [.Name x px, .Name y py] kt pt] (.Tuple [a, b] k2 pt2) pos) (mPar m (gsCons (gSet i) (gsCons (gSet j) gsNil))) := by
  refine ⟨ps_imp (ps_par hc hN hi hj hij hx hy ha.pa hw hs) fun D σ H ⟨F, ρ, fr, g, hl, o⟩ => ?_⟩
  refine ha.seqS g hl o fun rs ρ1 xs F1 H1 e1 s1 g1 a1 o1 => ?_
  split at o1
  · rename_i hn
    match rs, xs, a1, g1, o1, hn with
    | [r1, r2], [v, w], a1, g1, o1, hn =>
      have h1 : r1.al = false ∧ r2.al = false := by simpa [noAl] using hn
      have er1 : r1.ent v = [(r1.d, r1.t, v)] := if_neg (by rw [h1.1]; exact Bool.false_ne_true)
      have er2 : r2.ent w = [(r2.d, r2.t, w)] := if_neg (by rw [h1.2]; exact Bool.false_ne_true)
      have g2 : Good G F1 H1 ((r1.d, r1.t, v) :: (r2.d, r2.t, w) :: (ents ρ1 σ ++ fr)) := by
        have g0 : Good G F1 H1 ((r1.ent v ++ (r2.ent w ++ [])) ++ (ents ρ1 σ ++ fr)) := g1
        rw [er1, er2] at g0
        exact g0
      refine ⟨v, w, rfl, ?_⟩
      by_cases hi1 : i < ρ1.length
      · by_cases hj1 : j < ρ1.length
        · have e3 : gsCons (gSet i) (gsCons (gSet j) gsNil) [r1, r2] ρ1 = some ((ρ1.set i (some (r1.d, r1.t))).set j (some (r2.d, r2.t))) := by
            simp [gsCons, gSet, gsNil, hi1, hj1]
          rw [e3] at o1
          have g3 : Good G F1 H1 ((r1.d, r1.t, v) :: (ents ρ1 σ ++ ((r2.d, r2.t, w) :: fr))) := g2.perm ((perm_mid [(r2.d, r2.t, w)] (ents ρ1 σ) fr).cons _)
          have g4 := g3.store hi1 (by rw [hl]; exact hni)
          have g5 : Good G F1 H1 ((r2.d, r2.t, w) :: (ents (ρ1.set i (some (r1.d, r1.t))) (σ.set i (some v)) ++ fr)) := g4.perm (perm_mid _ [(r2.d, r2.t, w)] fr)
          have g6 := g5.store (i := j) (by rw [List.length_set]; exact hj1) (by rw [List.length_set, hl]; exact hnj)
          refine o1 _ F1 H1 (.refl F1) ?_ g6
          exact (Kept.set hl hpi).trans (Kept.set (by rw [List.length_set]; exact hl) hpj)
        · have e3 : gsCons (gSet i) (gsCons (gSet j) gsNil) [r1, r2] ρ1 = none := by simp [gsCons, gSet, gsNil, hi1, hj1]
          rw [e3] at o1; exact o1.elim
      · have e3 : gsCons (gSet i) (gsCons (gSet j) gsNil) [r1, r2] ρ1 = none := by simp [gsCons, gSet, gsNil, hi1]
        rw [e3] at o1; exact o1.elim
    | [], _, _, _, o1, _ => exact o1.elim
    | [_], [], a1, _, _, _ => obtain ⟨_, _, h, _⟩ := a1; cases h
    | [r], x :: xs, a1, _, o1, _ =>
      by_cases hi1 : i < ρ1.length
      · have e3 : gsCons (gSet i) (gsCons (gSet j) gsNil) [r] ρ1 = none := by simp [gsCons, gSet, gsNil, hi1]
        rw [e3] at o1; exact o1.elim
      · have e3 : gsCons (gSet i) (gsCons (gSet j) gsNil) [r] ρ1 = none := by simp [gsCons, gSet, gsNil, hi1]
        rw [e3] at o1; exact o1.elim
    | r1 :: r2 :: r3 :: rs, xs, _, _, o1, _ =>
      have e3 : gsCons (gSet i) (gsCons (gSet j) gsNil) (r1 :: r2 :: r3 :: rs) ρ1 = none := by
        by_cases hi1 : i < ρ1.length <;> by_cases hj1 : j < ρ1.length <;> simp [gsCons, gSet, gsNil, hi1, hj1]
      rw [e3] at o1; exact o1.elim
    | [r1, r2], [], a1, _, _, _ => obtain ⟨_, _, h, _⟩ := a1; cases h
    | [r1, r2], [x], a1, _, _, _ => obtain ⟨_, _, h, _, _, _, h', _⟩ := a1; cases h; cases h'
    | [r1, r2], x :: y :: z :: xs, a1, _, _, _ => have := a1.length; simp at this
  · exact o1.elim
end
end Pb
end
/- Q6 -/
section
set_option Elab.async false
set_option linter.all false
set_option maxRecDepth 100000
namespace Pb
open PySem PySem.Spec PyProof.Rows L2
section
variable {X : Cx} {G : Gx} {W : WX} {pin : List Nat} {n : Nat}

/-! ### while -/
def whileGo (mc : M) (mb : S) : Nat → En → Fl
  | 0, _ => .no
  | k + 1, ρ => (mc ρ).fl fun r ρ1 => match r.t with
    | .bl true => match mb ρ1 with
      | .nx ρ2 => whileGo mc mb k ρ2
      | .ct ρ2 => whileGo mc mb k ρ2
      | .bk ρ2 => .nx ρ2
      | .rt r ρ2 => .rt r ρ2
      | .ex e ρ2 => .ex e ρ2
      | .no => .no
    | .bl false => .nx ρ1
    | _ => .no
def fuel : Nat := 2000000
def mWhile (mc : M) (mb : S) : S := fun ρ => whileGo mc mb fuel ρ
theorem rs_while {pu : Bool} {c : Expr} {body : List Stmt} {pos : Pos} {mc : M} {mb : S} (hp : PassesOwn (model X.prog X.w) X.A X.env X.xe) (hc : JT X G W pu c mc) (hb : JB X G W pin n body mb) : JS X G W pin n (.While c body [] pos) (mWhile mc mb) := by
  refine ⟨ps_imp (ps_while hp hc.pt hb.ps) fun D σ H ⟨F, ρ, fr, g, hl, o⟩ => ?_⟩
  refine ⟨fun m σ1 H1 => ∃ F1 ρ1, Sub F F1 ∧ Kept pin n σ σ1 ∧ Good G F1 H1 (ents ρ1 σ1 ++ fr) ∧ OutS G W pin n σ fr F (whileGo mc mb m ρ1) D, ⟨fuel, F, ρ, .refl F, .refl hl, g, o⟩, ?_⟩
  rintro m σ1 H1 ⟨F1, ρ1, s1, k1, g1, o1⟩
  cases m with
  | zero => exact o1.elim
  | succ m =>
    refine hc.seqS g1 k1.len (o1.rebase s1 k1) fun b ρ2 F2 H2 e2 s2 g2 o2 => ?_
    cases b with
    | false =>
      rw [if_neg Bool.false_ne_true]
      exact o2 σ1 F2 H2 (.refl F2) (.refl k1.len) g2
    | true =>
      rw [if_pos rfl]
      have o3 : OutS G W pin n σ1 fr F2 (match mb ρ2 with
        | .nx ρ2 => whileGo mc mb m ρ2
        | .ct ρ2 => whileGo mc mb m ρ2
        | .bk ρ2 => .nx ρ2
        | .rt r ρ2 => .rt r ρ2
        | .ex e ρ2 => .ex e ρ2
        | .no => .no) D := o2
      -- what the whole would be from the outset
      have o4 : OutS G W pin n σ fr F (match mb ρ2 with
        | .nx ρ2 => whileGo mc mb m ρ2
        | .ct ρ2 => whileGo mc mb m ρ2
        | .bk ρ2 => .nx ρ2
        | .rt r ρ2 => .rt r ρ2
        | .ex e ρ2 => .ex e ρ2
        | .no => .no) D := by
        have : whileGo mc mb (m + 1) ρ1 = (match mb ρ2 with
          | .nx ρ2 => whileGo mc mb m ρ2
          | .ct ρ2 => whileGo mc mb m ρ2
          | .bk ρ2 => .nx ρ2
          | .rt r ρ2 => .rt r ρ2
          | .ex e ρ2 => .ex e ρ2
          | .no => .no) := by
          show (mc ρ1).fl _ = _
          rw [e2]
          rfl
        rw [this] at o1
        exact o1
      refine ⟨fun σ' H' => ∃ F1 ρ1, Sub F F1 ∧ Kept pin n σ σ' ∧ Good G F1 H' (ents ρ1 σ' ++ fr) ∧ OutS G W pin n σ fr F (whileGo mc mb m ρ1) D, fun σ' H' h => ⟨m, Nat.lt_succ_self m, h⟩, F2, ρ2, fr, g2, k1.len, ?_⟩
      cases e : mb ρ2 with
      | nx ρ3 =>
        rw [e] at o4
        exact fun σ' F' H' s k g => ⟨F', ρ3, (s1.trans s2).trans s, k1.trans k, g, o4⟩
      | ct ρ3 =>
        rw [e] at o4
        exact fun σ' F' H' s k g => ⟨F', ρ3, (s1.trans s2).trans s, k1.trans k, g, o4⟩
      | bk ρ3 => rw [e] at o3; exact o3
      | rt r ρ3 => rw [e] at o3; exact o3
      | ex e' ρ3 => rw [e] at o3; exact o3
      | no => rw [e] at o3; exact o3

/-! ### what is walked -/
inductive OutI where
  | ok (al : Bool) (ts : List T) (ρ : En)
  | ex (e : T) (ρ : En)
  | no
abbrev MI := En → OutI
def Out.bindI : Out → (Rz → En → OutI) → OutI
  | .ok r ρ, k => k r ρ
  | .ex e ρ, _ => .ex e ρ
  | .no, _ => .no
def OutA.bindI : OutA → (List Rz → En → OutI) → OutI
  | .ok r ρ, k => k r ρ
  | .ex e ρ, _ => .ex e ρ
  | .no, _ => .no
/-- the iterator J yields ts as long as the frozen F and B stand -/
def Walks (G : Gx) (J : It) (F B : Hp) (ts : List T) : Prop :=
  ∀ i F2 H2, Sub F F2 → LamX.ExtN B H2 → Sub F2 H2 → (∀ t, ts[i]? = some t → J.go i H2 ∧ ∀ x H3, J.yld i H2 x H3 → ∃ F3, New G F2 H2 F3 H3 0 t x) ∧ (ts.length ≤ i → J.stop i H2)
def OutPI (G : Gx) (W : WX) (σ : SL) (fr : List Ent) (pu : Bool) (F H : Hp) (o : OutI) (R : It → Hp → Prop) : Prop :=
  match o with
  | .ok al ts ρ' => ∀ J F' H', Sub F F' → (pu = true → Ext G F H F' H') → Good G F' H' (ents ρ' σ ++ fr) → Walks G J F' (if al = true then H' else F') ts → R J H'
  | .ex e ρ' => ∀ cls d F' H', Sub F F' → Good G F' H' (ents ρ' σ ++ fr) → ExAt G F' H' e cls d → W cls d σ H'
  | .no => False
def tI (G : Gx) (W : WX) (pu : Bool) (m : MI) : TI := fun σ H R => ∃ F ρ fr, Good G F H (ents ρ σ ++ fr) ∧ OutPI G W σ fr pu F H (m ρ) R
structure JI (X : Cx) (G : Gx) (W : WX) (pu : Bool) (tg e : Expr) (m : MI) : Prop where
  pi : PI X tg e (tI G W pu m)
  pure : pu = true → ∀ ρ al ts ρ', m ρ = .ok al ts ρ' → ρ' = ρ
theorem pi_imp {tg e : Expr} {t t' : TI} (h : PI X tg e t) (i : ∀ σ H Q, t' σ H Q → t σ H Q) : PI X tg e t' := ⟨fun pins s σ H Q I q => h.run pins s σ H Q I (i σ H Q q)⟩
theorem pi_or {tg e : Expr} {t t' : TI} (h : PI X tg e t) (h' : PI X tg e t') : PI X tg e (fun σ H R => t σ H R ∨ t' σ H R) := ⟨fun pins s σ H R I q => q.elim (h.run pins s σ H R I) (h'.run pins s σ H R I)⟩

/-- a list or a tuple -/
def mSeqI (m : M) : MI := fun ρ => (m ρ).bindI fun r ρ' => match r.t with
  | .tup ts => .ok false ts ρ'
  | .lst ts => if r.d ≤ 1 then .ok r.al ts ρ' else .no
  | .frl ts => .ok false ts ρ'
  | .frt ts => .ok false ts ρ'
  | _ => .no
theorem Reps.get {F : Hp} : ∀ {ts : List T} {xs : List V} {i : Nat} {t : T}, Reps G F ts xs → ts[i]? = some t → ∃ x, xs[i]? = some x ∧ Rep G F t x
  | [], _, _, _, _, h => by simp at h
  | t :: ts, xs, 0, t', r, h => by
    obtain ⟨x, xr, rfl, a, b⟩ := r
    have e : t = t' := by simpa using h
    subst e
    exact ⟨x, rfl, a⟩
  | t :: ts, xs, i + 1, t', r, h => by
    obtain ⟨x, xr, rfl, a, b⟩ := r
    exact b.get (i := i) (by simpa using h)
theorem walks_tup {F B : Hp} {a : Addr} {vs : List V} {ts : List T} (hq : SqT G.K F a vs) (hr : Reps G F ts vs) : Walks G (Itt G.K a) F B ts := by
  intro i F2 H2 s1 s2 s3
  have q := sqT_mono (s1.trans s3) hq
  refine ⟨fun t ht => ?_, fun hl => ⟨vs, q, by rw [← hr.length]; exact hl⟩⟩
  obtain ⟨x, hx, rx⟩ := hr.get ht
  refine ⟨⟨vs, x, q, hx⟩, fun y H3 hy => ?_⟩
  obtain ⟨rfl, hy⟩ := hy
  have e := hy vs q
  rw [hx] at e
  cases e
  exact ⟨F2, New.val s3 (Rep.mono s1 _ _ rx)⟩
theorem walks_lst {F B : Hp} {a : Addr} {vs : List V} {ts : List T} (hq : ∀ F2 H2, Sub F F2 → LamX.ExtN B H2 → Sub F2 H2 → SqL G.K H2 a vs) (hr : Reps G F ts vs) : Walks G (Itl G.K a) F B ts := by
  intro i F2 H2 s1 s2 s3
  have q := hq F2 H2 s1 s2 s3
  refine ⟨fun t ht => ?_, fun hl => ⟨vs, q, by rw [← hr.length]; exact hl⟩⟩
  obtain ⟨x, hx, rx⟩ := hr.get ht
  refine ⟨⟨vs, x, q, hx⟩, fun y H3 hy => ?_⟩
  obtain ⟨rfl, hy⟩ := hy
  have e := hy vs q
  rw [hx] at e
  cases e
  exact ⟨F2, New.val s3 (Rep.mono s1 _ _ rx)⟩
theorem all2_zero {F H : Hp} : ∀ {ts : List T} {vs : List V} {bs : List Addr}, All2 (Own G F H 0) ts vs bs → Reps G F ts vs ∧ bs = []
  | [], _, _, q => ⟨q.1, q.2⟩
  | t :: ts, _, _, q => by
    obtain ⟨x, r, a, b, e1, e2, p, q⟩ := q
    obtain ⟨q1, q2⟩ := all2_zero q
    exact ⟨⟨x, r, e1, p.2, q1⟩, by rw [e2, p.1, q2]; rfl⟩
/-- a list of depth at most one: its values -/
theorem own_lst1 {F H : Hp} (s : Sub F H) {d : Nat} (hd : d ≤ 1) {ts : List T} {x : V} {as : List Addr} (p : Own G F H d (.lst ts) x as) : ∃ a vs, x = .ref a ∧ H a = some (.lst vs) ∧ Reps G F ts vs ∧ ((d = 0 ∧ F a = some (.lst vs)) ∨ (d = 1 ∧ F a = none ∧ H a = some (.lst vs) ∧ as = [a])) := by
  match d, hd, p with
  | 0, _, p =>
    obtain ⟨a, vs, e, q, r⟩ := p.2
    exact ⟨a, vs, e, s _ _ q, r, .inl ⟨rfl, q⟩⟩
  | 1, _, p =>
    obtain ⟨a, vs, bs, e1, e2, f, h, r⟩ := p
    obtain ⟨r1, r2⟩ := all2_zero r
    exact ⟨a, vs, e1, h, r1, .inr ⟨rfl, f, h, by rw [e2, r2]⟩⟩
theorem ri_seq {pu : Bool} {tg e : Expr} {m : M} (hK : X.K = G.K) (h : J X G W pu e m) : JI X G W pu tg e (mSeqI m) := by
  refine ⟨pi_imp (pi_or (pi_list (tg := tg) h.pe) (pi_tup (tg := tg) h.pe)) fun σ H R ⟨F, ρ, fr, g, o⟩ => ?_, fun z ρ al ts ρ' e => ?_⟩
  · unfold mSeqI at o
    cases e : m ρ with
    | no => rw [e] at o; exact o.elim
    | ex e' ρ' => rw [e] at o; exact .inl ⟨F, ρ, fr, g, by rw [e]; exact o⟩
    | ok r ρ' =>
      rw [e] at o
      simp only [Out.bindI] at o
      split at o
      · rename_i ts et
        refine .inr ⟨F, ρ, fr, g, ?_⟩
        rw [e]
        intro x F' H' s p g' al
        obtain ⟨as, q⟩ := g'.ent al
        rw [et] at q
        obtain ⟨a, vs, rfl, hq, hr⟩ := own_tup q
        refine ⟨a, rfl, ⟨vs, by rw [hK]; exact sqT_mono g'.sub hq⟩, ?_⟩
        rw [hK]
        exact o (Itt G.K a) F' H' s (fun z => (p z).1) g'.drop (walks_tup hq hr)
      · rename_i ts et
        split at o
        · rename_i hd
          refine .inl ⟨F, ρ, fr, g, ?_⟩
          rw [e]
          intro x F' H' s p g' al
          obtain ⟨as, q⟩ := g'.ent al
          rw [et] at q
          obtain ⟨a, vs, rfl, hq, hr, c⟩ := own_lst1 g'.sub hd q
          refine ⟨a, rfl, ⟨vs, .of hq⟩, ?_⟩
          rw [hK]
          by_cases hal : r.al = true
          · refine o (Itl G.K a) F' H' s (fun z => (p z).1) g'.drop ?_
            rw [hal, if_pos rfl]
            exact walks_lst (fun F2 H2 _ s2 _ => .of (s2 _ _ hq noT_lst)) hr
          · -- a list of no one's: frozen for the loop
            have er : r.ent (.ref a) = [(r.d, r.t, .ref a)] := if_neg hal
            rw [er] at g'
            have hal' : r.al = false := by simpa using hal
            rcases c with ⟨c1, c2⟩ | ⟨c1, c2, c3, c4⟩
            · refine o (Itl G.K a) F' H' s (fun z => (p z).1) g'.tail ?_
              rw [hal', if_neg Bool.false_ne_true]
              exact walks_lst (fun F2 H2 s1 _ s3 => .of (s3 _ _ (s1 _ _ c2))) hr
            · obtain ⟨aa, ⟨b1, b2, e1, q1, q2⟩, nd⟩ := g'.own
              rw [et] at q1
              have eb := q.uniq q1
              rw [c4] at eb
              subst e1
              have nn := List.nodup_append.mp nd
              have sF := sub_add (F := F') (H := H') (as := b1) g'.sub
              have hin : a ∈ b1 := by rw [← eb]; exact List.mem_cons_self
              refine o (Itl G.K a) (add F' H' b1) H' (s.trans sF) (fun z => .of_freeze (p z).1 sF (fun c => ?_) (nt_add g'.nt fun c hc => (q1.at c hc).2)) ⟨add_sub g'.sub, nt_add g'.nt (fun c hc => (q1.at c hc).2), g'.tab, b2, q2.mono sF fun c hc => ⟨?_, rfl⟩, nn.2.1⟩ ?_
              · by_cases hc : c ∈ b1
                · exact .inr ((p z).2 hal' _ (by rw [et]; exact q1) c hc)
                · exact .inl (add_out hc)
              · rw [add_out fun z => nn.2.2 c z c hc rfl]
                exact (q2.at c hc).1
              · rw [hal', if_neg Bool.false_ne_true]
                refine walks_lst (fun F2 H2 s1 _ s3 => .of ?_) (Reps.mono sF _ _ hr)
                exact s3 _ _ (s1 _ _ (by rw [add_in hin]; exact c3))
        · exact o.elim
      · rename_i ts et
        refine .inl ⟨F, ρ, fr, g, ?_⟩
        rw [e]
        intro x F' H' s p g' al
        obtain ⟨as, q⟩ := g'.ent al
        rw [et] at q
        have q' : Rep G F' (.frl ts) x := by
          revert q
          cases r.d with
          | zero => exact fun q => q.2
          | succ d => exact fun q => q.2
        obtain ⟨a, vs, rfl, hq, hr⟩ := q'
        refine ⟨a, rfl, ⟨vs, by rw [hK]; exact sqL_mono g'.sub hq⟩, ?_⟩
        rw [hK]
        exact o (Itl G.K a) F' H' s (fun z => (p z).1) g'.drop (walks_lst (fun F2 H2 s1 _ s3 => sqL_mono (s1.trans s3) hq) hr)
      · rename_i ts et
        refine .inr ⟨F, ρ, fr, g, ?_⟩
        rw [e]
        intro x F' H' s p g' al
        obtain ⟨as, q⟩ := g'.ent al
        rw [et] at q
        obtain ⟨a, vs, rfl, hq, hr⟩ := own_frt q
        refine ⟨a, rfl, ⟨vs, by rw [hK]; exact sqT_mono g'.sub hq⟩, ?_⟩
        rw [hK]
        exact o (Itt G.K a) F' H' s (fun z => (p z).1) g'.drop (walks_tup hq hr)
      · exact o.elim
  · unfold mSeqI at e
    cases e1 : m ρ with
    | no => rw [e1] at e; cases e
    | ex _ _ => rw [e1] at e; cases e
    | ok r ρ1 =>
      rw [e1] at e
      simp only [Out.bindI] at e
      split at e
      · cases e; exact h.pure z _ _ _ e1
      · split at e
        · cases e; exact h.pure z _ _ _ e1
        · cases e
      · cases e; exact h.pure z _ _ _ e1
      · cases e; exact h.pure z _ _ _ e1
      · cases e

/-- range(..) -/
def upto (a : Int) (k : Nat) : List T := (List.range k).map fun (i : Nat) => .int (a + i)
def inLine (j : Int) : Bool := decide (-(2 ^ 62) ≤ j) && decide (j < 2 ^ 62)
def mRng1 (m : MA) : MI := fun ρ => (m ρ).bindI fun rs ρ' => match rs with
  | [⟨_, _, .int j⟩] => if inLine j = true then .ok false (upto 0 j.toNat) ρ' else .no
  | _ => .no
def mRng2 (m : MA) : MI := fun ρ => (m ρ).bindI fun rs ρ' => match rs with
  | [⟨_, _, .int i⟩, ⟨_, _, .int j⟩] => if (inLine i && inLine j) = true then .ok false (upto i (j - i).toNat) ρ' else .no
  | _ => .no
theorem walks_rng {F B : Hp} (a : Int) (k : Nat) : Walks G (Itr a k) F B (upto a k) := by
  intro i F2 H2 s1 s2 s3
  refine ⟨fun t ht => ?_, fun hl => by simpa [upto, Itr] using hl⟩
  unfold upto at ht
  rw [List.getElem?_map] at ht
  cases e : (List.range k)[i]? with
  | none => rw [e] at ht; cases ht
  | some j =>
    rw [e] at ht
    obtain ⟨hlt, ej⟩ := List.getElem?_eq_some_iff.mp e
    rw [List.getElem_range] at ej
    subst ej
    rw [List.length_range] at hlt
    cases ht
    refine ⟨hlt, fun x H3 hy => ?_⟩
    obtain ⟨rfl, rfl⟩ := hy
    exact ⟨F2, New.val s3 rfl⟩
theorem JA.seqI {pa pu : Bool} {es : List Expr} {ma : MA} (ha : JA X G W pa es ma) {σ : SL} {fr : List Ent} {F H : Hp} {ρ : En} {k : List Rz → En → OutI} {R : It → Hp → Prop} {P : List V → Hp → Prop} (g : Good G F H (ents ρ σ ++ fr)) (hp : pu = true → pa = true)
    (o : OutPI G W σ fr pu F H ((ma ρ).bindI k) R)
    (next : ∀ rs ρ1 xs F1 H1, ma ρ = .ok rs ρ1 → Sub F F1 → (pu = true → Ext G F H F1 H1 ∧ Purs G H F1 H1 rs xs) → Good G F1 H1 (rents rs xs ++ (ents ρ1 σ ++ fr)) → AlsOk G F1 H1 rs xs → OutPI G W σ fr pu F H (k rs ρ1) R → P xs H1) :
    tJA G W pa ma σ H P := by
  refine ⟨F, ρ, fr, g, ?_⟩
  cases e : ma ρ with
  | ok rs ρ1 =>
    intro xs F1 H1 s1 p1 g1 a1
    rw [e] at o
    exact next rs ρ1 xs F1 H1 e s1 (fun z => p1 (hp z)) g1 a1 o
  | ex e' ρ1 => rw [e] at o; exact o
  | no => rw [e] at o; exact o
theorem OutA.bindI_ok {o : OutA} {k : List Rz → En → OutI} {al : Bool} {ts : List T} {ρ : En} (h : o.bindI k = .ok al ts ρ) : ∃ rs ρ1, o = .ok rs ρ1 ∧ k rs ρ1 = .ok al ts ρ := by
  cases o with
  | ok r1 ρ1 => exact ⟨r1, ρ1, rfl, h⟩
  | ex _ _ => cases h
  | no => cases h
theorem own_int' {F H : Hp} {r : Rz} {b : Int} {x : V} (h : r.t = .int b) {as : List Addr} (p : Own G F H r.d r.t x as) : x = .int b := by
  rw [h] at p
  exact own_int p
theorem ri_rng1 {pu : Bool} {tg a : Expr} {m : MA} {p pos : Pos} (hg : Gl X "range") (hm : X.mg "range" = none) (h : JA X G W pu [a] m) (hs : starEach [a] X.env = [(false, eval a X.env)] := by rfl) : JI X G W pu tg (.Call (.Name "range" p) [a] [] pos) (mRng1 m) := by
  refine ⟨pi_imp (pi_range1 hg hm h.pa hs) fun σ H R ⟨F, ρ, fr, g, o⟩ => ?_, fun z ρ al ts ρ' e => ?_⟩
  · refine h.seqI (pu := pu) g id o fun rs ρ1 xs F1 H1 e1 s1 p1 g1 a1 o1 => ?_
    split at o1
    · rename_i d al j
      split at o1
      · rename_i hc
        simp only [inLine, Bool.and_eq_true, decide_eq_true_eq] at hc
        obtain ⟨x, xr, as, e, p, e'⟩ := argd g1 a1
        have e' : xr = [] := e'
        subst e'
        have ex : x = .int j := own_int p
        subst ex
        exact ⟨j, e, hc.1, hc.2, o1 (Itr 0 j.toNat) F1 H1 s1 (fun z => (p1 z).1) g1.drop (walks_rng 0 j.toNat)⟩
      · exact o1.elim
    · exact o1.elim
  · obtain ⟨rs, ρ1, e1, h'⟩ := OutA.bindI_ok e
    split at h'
    · split at h'
      · cases h'; exact h.pure z _ _ _ e1
      · cases h'
    · cases h'
theorem ri_rng2 {pu : Bool} {tg a b : Expr} {m : MA} {p pos : Pos} (hg : Gl X "range") (hm : X.mg "range" = none) (h : JA X G W pu [a, b] m) (hs : starEach [a, b] X.env = [(false, eval a X.env), (false, eval b X.env)] := by rfl) (hs2 : starEach [b] X.env = [(false, eval b X.env)] := by rfl) :
    JI X G W pu tg (.Call (.Name "range" p) [a, b] [] pos) (mRng2 m) := by
  refine ⟨pi_imp (pi_range2 hg hm h.pa hs hs2) fun σ H R ⟨F, ρ, fr, g, o⟩ => ?_, fun z ρ al ts ρ' e => ?_⟩
  · refine h.seqI (pu := pu) g id o fun rs ρ1 xs F1 H1 e1 s1 p1 g1 a1 o1 => ?_
    split at o1
    · rename_i d al i d' al' j
      split at o1
      · rename_i hc
        simp only [inLine, Bool.and_eq_true, decide_eq_true_eq] at hc
        obtain ⟨x, xr, as, e, p, y, yr, bs, e2, q, e'⟩ := argd g1 a1
        have e' : yr = [] := e'
        subst e'
        subst e2
        have ex : x = .int i := own_int p
        have ey : y = .int j := own_int q
        subst ex
        subst ey
        exact ⟨i, j, e, ⟨hc.1.1, hc.1.2, hc.2.1, hc.2.2⟩, o1 (Itr i (j - i).toNat) F1 H1 s1 (fun z => (p1 z).1) g1.drop (walks_rng i (j - i).toNat)⟩
      · exact o1.elim
    · exact o1.elim
  · obtain ⟨rs, ρ1, e1, h'⟩ := OutA.bindI_ok e
    split at h'
    · split at h'
      · cases h'; exact h.pure z _ _ _ e1
      · cases h'
    · cases h'

/-! ### for -/
def forGo (mg : Rz → En → Option En) (mb : S) : List T → En → Fl
  | [], ρ => .nx ρ
  | t :: ts, ρ => match mg (fz t) ρ with
    | none => .no
    | some ρ1 => match mb ρ1 with
      | .nx ρ2 => forGo mg mb ts ρ2
      | .ct ρ2 => forGo mg mb ts ρ2
      | .bk ρ2 => .nx ρ2
      | .rt r ρ2 => .rt r ρ2
      | .ex e ρ2 => .ex e ρ2
      | .no => .no
def OutI.fl : OutI → (Bool → List T → En → Fl) → Fl
  | .ok al ts ρ, k => k al ts ρ
  | .ex e ρ, _ => .ex e ρ
  | .no, _ => .no
def mFor (mi : MI) (mg : Rz → En → Option En) (mb : S) : S := fun ρ => (mi ρ).fl fun al ts ρ' => if al = true then .no else forGo mg mb ts ρ'
theorem rs_for {pu : Bool} {tg iter : Expr} {body : List Stmt} {pos : Pos} {mi : MI} {mg : Rz → En → Option En} {mb : S} (hp : PassesOwn (model X.prog X.w) X.A X.env X.xe) (hc : X.calm = true) (hi : JI X G W pu tg iter mi) (hg : JG X G pin n tg mg) (hb : JB X G W pin n body mb)
    (hs : ∀ x, foldedSetIterable iter X.env x = pure x := by intro _; rfl) : JS X G W pin n (.For tg iter body [] pos) (mFor mi mg mb) := by
  refine ⟨ps_imp (ps_for hp hc hi.pi hg.pg hb.ps hs) fun D σ H ⟨F, ρ, fr, g, hl, o⟩ => ?_⟩
  refine ⟨F, ρ, fr, g, ?_⟩
  unfold mFor at o
  cases e : mi ρ with
  | no => rw [e] at o; exact o.elim
  | ex e' ρ' =>
    rw [e] at o
    exact fun cls d F1 H1 s1 g1 q => o cls d σ F1 H1 s1 (.refl hl) g1 q
  | ok al ts ρ' =>
    rw [e] at o
    simp only [OutI.fl] at o
    split at o
    · exact o.elim
    rename_i hal
    intro J F1 H1 s1 _ g1 wk
    rw [if_neg hal] at wk
    refine ⟨fun i m σ1 H2 => m = ts.length - i ∧ ∃ F2 ρ1, Sub F1 F2 ∧ Kept pin n σ σ1 ∧ Good G F2 H2 (ents ρ1 σ1 ++ fr) ∧ OutS G W pin n σ fr F (forGo mg mb (ts.drop i) ρ1) D, ⟨ts.length, rfl, F1, ρ', .refl F1, .refl hl, g1, o⟩, ?_⟩
    rintro i m σ1 H2 ⟨rfl, F2, ρ1, s2, k2, g2, o2⟩
    obtain ⟨w1, w2⟩ := wk i F2 H2 s2 (.of (s2.trans g2.sub)) g2.sub
    cases ht : ts[i]? with
    | none =>
      have hle : ts.length ≤ i := List.getElem?_eq_none_iff.mp ht
      refine .inl ⟨w2 hle, ?_⟩
      rw [List.drop_eq_nil_of_le hle] at o2
      exact o2 σ1 F2 H2 (s1.trans s2) k2 g2
    | some t =>
      obtain ⟨hlt, et⟩ := List.getElem?_eq_some_iff.mp ht
      obtain ⟨hgo, hy⟩ := w1 t ht
      rw [List.drop_eq_getElem_cons hlt, et] at o2
      refine .inr ⟨hgo, fun σ' H' => ∃ F2 ρ1, Sub F1 F2 ∧ Kept pin n σ σ' ∧ Good G F2 H' (ents ρ1 σ' ++ fr) ∧ OutS G W pin n σ fr F (forGo mg mb (ts.drop (i + 1)) ρ1) D, fun σ' H' h => ⟨ts.length - (i + 1), by omega, rfl, h⟩, fun x H3 hx => ?_⟩
      obtain ⟨F3, nw⟩ := hy x H3 hx
      cases eg : mg (fz t) ρ1 with
      | none =>
        have : forGo mg mb (t :: ts.drop (i + 1)) ρ1 = .no := by
          show (match mg (fz t) ρ1 with | none => Fl.no | some ρ1 => _) = _
          rw [eg]
        rw [this] at o2
        exact o2.elim
      | some ρ2 =>
        refine ⟨F3, ρ1, fr, fz t, ρ2, g2.new nw, k2.len, eg, fun σ2 k4 g4 => ?_⟩
        refine ⟨F3, ρ2, fr, g4, k4.len, ?_⟩
        have hun : forGo mg mb (t :: ts.drop (i + 1)) ρ1 = (match mb ρ2 with
            | .nx ρ2 => forGo mg mb (ts.drop (i + 1)) ρ2
            | .ct ρ2 => forGo mg mb (ts.drop (i + 1)) ρ2
            | .bk ρ2 => .nx ρ2
            | .rt r ρ2 => .rt r ρ2
            | .ex e ρ2 => .ex e ρ2
            | .no => .no) := by
          show (match mg (fz t) ρ1 with | none => Fl.no | some ρ1 => _) = _
          rw [eg]
        rw [hun] at o2
        have sub3 : Sub F1 F3 := s2.trans nw.1.low
        cases eb : mb ρ2 with
        | nx ρ3 =>
          rw [eb] at o2
          exact fun σ' F' H' s k g => ⟨F', ρ3, sub3.trans s, (k2.trans k4).trans k, g, o2⟩
        | ct ρ3 =>
          rw [eb] at o2
          exact fun σ' F' H' s k g => ⟨F', ρ3, sub3.trans s, (k2.trans k4).trans k, g, o2⟩
        | bk ρ3 => rw [eb] at o2; exact fun σ' F' H' s k g => o2 σ' F' H' ((s1.trans sub3).trans s) ((k2.trans k4).trans k) g
        | rt r ρ3 => rw [eb] at o2; exact fun x σ' F' H' s k g => o2 x σ' F' H' ((s1.trans sub3).trans s) ((k2.trans k4).trans k) g
        | ex e' ρ3 => rw [eb] at o2; exact fun cls d σ' F' H' s k g q => o2 cls d σ' F' H' ((s1.trans sub3).trans s) ((k2.trans k4).trans k) g q
        | no => rw [eb] at o2; exact o2.elim
end
end Pb
end
/- Q7 -/
section
set_option Elab.async false
set_option linter.all false
set_option maxRecDepth 100000
namespace Pb
open PySem PySem.Spec PyProof.Rows L2
section
variable {X : Cx} {G : Gx} {W : WX} {pin : List Nat} {n : Nat}

/-! ### a list grown -/
theorem All2.snoc {P : T → V → List Addr → Prop} : ∀ {ts : List T} {xs : List V} {as : List Addr} {t : T} {x : V} {b : List Addr}, All2 P ts xs as → P t x b → All2 P (ts ++ [t]) (xs ++ [x]) (as ++ b)
  | [], xs, as, t, x, b, h, p => by
    obtain ⟨rfl, rfl⟩ := h
    exact ⟨x, [], b, [], rfl, by simp, p, rfl, rfl⟩
  | t' :: ts, xs, as, t, x, b, h, p => by
    obtain ⟨y, r, a, c, rfl, rfl, q, h⟩ := h
    exact ⟨y, r ++ [x], a, c ++ b, rfl, by rw [List.append_assoc], q, h.snoc p⟩
theorem Good.snoc {F H : Hp} {d : Nat} {t : T} {y : V} {acc : List T} {D : Addr} {es : List Ent} (g : Good G F H ((d, t, y) :: (d + 1, .lst acc, .ref D) :: es)) :
    ∃ vs, H D = some (.lst vs) ∧ vs.length = acc.length ∧ Good G F (upd H D (.lst (vs ++ [y]))) ((d + 1, .lst (acc ++ [t]), .ref D) :: es) := by
  obtain ⟨as, ⟨a, b, e1, p, c, e, e2, q, r⟩, nd⟩ := g.own
  subst e2
  subst e1
  obtain ⟨D', vs, bs, e3, e4, f, h, al⟩ := q
  cases e3
  subst e4
  have hl := al.length
  refine ⟨vs, h, hl.symm, ?_⟩
  have nd' : (D :: (bs ++ a) ++ e).Nodup := by
    have p1 : (a ++ ((D :: bs) ++ e)).Perm (D :: (bs ++ a) ++ e) := by
      refine (perm_mid a (D :: bs) e).trans ?_
      rw [← List.append_assoc]
      exact .refl _
    exact p1.nodup nd
  have nn := List.nodup_cons.mp nd'
  have hne : ∀ z ∈ bs ++ a ++ e, z ≠ D := fun z hz w => nn.1 (by rw [← w]; exact hz)
  have at_ : ∀ z ∈ bs ++ a ++ e, F z = none ∧ upd H D (.lst (vs ++ [y])) z = H z := fun z hz => by
    refine ⟨?_, upd_ne (hne z hz)⟩
    rcases List.mem_append.mp hz with hz | hz
    · rcases List.mem_append.mp hz with hz | hz
      · have : EnOk G F H ((d + 1, .lst acc, .ref D) :: []) (D :: bs) := ⟨D :: bs, [], by simp, ⟨D, vs, bs, rfl, rfl, f, h, al⟩, rfl⟩
        exact (this.at z (List.mem_cons_of_mem _ hz)).1
      · exact (p.at z hz).1
    · exact (r.at z hz).1
  have F0 : Sub F (upd H D (.lst (vs ++ [y]))) := fun z o ho => by
    rw [upd_ne (by rintro rfl; rw [f] at ho; cases ho)]
    exact g.sub z o ho
  refine ⟨F0, g.nt, ?_, (D :: (bs ++ a)) ++ e, ⟨D :: (bs ++ a), e, rfl, ⟨D, vs ++ [y], bs ++ a, rfl, rfl, f, upd_same, ?_⟩, r.mono (.refl F) fun z hz => at_ z (List.mem_append_right _ hz)⟩, nd'⟩
  · intro p hp
    obtain ⟨ps, h1, h2, h3⟩ := g.tab p hp
    have hd : ∀ u, H D = some u → (∀ q, u ≠ .tbl q) → True := fun _ _ _ => trivial
    refine ⟨ps, by rw [upd_ne (by rintro rfl; rw [h] at h1; cases h1)]; exact h1, h2, fun pos cv hc => ?_⟩
    obtain ⟨c, e1, e2⟩ := h3 pos cv hc
    exact ⟨c, e1, by rw [upd_ne (by rintro rfl; rw [h] at e2; unfold LamX.CodeO at e2; cases e2)]; exact e2⟩
  · refine All2.snoc (al.imp fun t x as' hs q => q.mono (.refl F) fun z hz => at_ z (List.mem_append_left _ (List.mem_append_left _ (hs z hz)))) ?_
    exact p.mono (.refl F) fun z hz => at_ z (List.mem_append_left _ (List.mem_append_right _ hz))

/-! ### slots set aside -/
def wipeE : En → List Nat → En
  | ρ, [] => ρ
  | ρ, v :: vs => (wipeE ρ vs).set v none
def cuts (ρ : En) (σ : SL) : List Nat → List Ent
  | [] => []
  | v :: vs => entOf ((wipeE ρ vs)[v]?.getD none) σ[v]? ++ cuts ρ σ vs
def resE (ρ0 : En) : List Nat → En → En
  | [], ρ => ρ
  | v :: vs, ρ => resE ρ0 vs (ρ.set v ((wipeE ρ0 vs)[v]?.getD none))
theorem wipeE_len (ρ : En) : ∀ vs, (wipeE ρ vs).length = ρ.length
  | [] => rfl
  | v :: vs => by show ((wipeE ρ vs).set v none).length = _; rw [List.length_set, wipeE_len ρ vs]
theorem ents_cut (ρ : En) (σ : SL) : ∀ vs, (ents ρ σ).Perm (cuts ρ σ vs ++ ents (wipeE ρ vs) σ)
  | [] => .refl _
  | v :: vs => by
    refine (ents_cut ρ σ vs).trans ?_
    show (cuts ρ σ vs ++ ents (wipeE ρ vs) σ).Perm ((entOf ((wipeE ρ vs)[v]?.getD none) σ[v]? ++ cuts ρ σ vs) ++ ents ((wipeE ρ vs).set v none) σ)
    cases e : (wipeE ρ vs)[v]? with
    | none =>
      have h : (wipeE ρ vs).set v none = wipeE ρ vs := List.set_eq_of_length_le (List.getElem?_eq_none_iff.mp e)
      rw [h]
      exact .refl _
    | some s =>
      have p := ents_at (σ := σ) e
      refine (p.append_left _).trans ?_
      rw [List.append_assoc]
      exact perm_mid _ _ _
def Wiped (ρ : En) (vs : List Nat) : Prop := ∀ v ∈ vs, ρ[v]? = some none ∨ ρ[v]? = none
theorem wiped_wipe (ρ : En) : ∀ vs, Wiped (wipeE ρ vs) vs
  | [] => fun v h => absurd h (by simp)
  | v :: vs => fun u hu => by
    show ((wipeE ρ vs).set v none)[u]? = some none ∨ ((wipeE ρ vs).set v none)[u]? = none
    by_cases e : v = u
    · subst e
      rw [List.getElem?_set_self']
      cases (wipeE ρ vs)[v]? with
      | none => exact .inr rfl
      | some _ => exact .inl rfl
    · rw [List.getElem?_set_ne e]
      rcases List.mem_cons.mp hu with h | h
      · exact absurd h.symm e
      · exact wiped_wipe ρ vs u h
theorem ents_res (ρ0 : En) (σ : SL) : ∀ (vs : List Nat) (ρ : En), ρ.length = ρ0.length → Wiped ρ vs → (ents (resE ρ0 vs ρ) σ).Perm (cuts ρ0 σ vs ++ ents ρ σ)
  | [], ρ, _, _ => .refl _
  | v :: vs, ρ, hl, w => by
    show (ents (resE ρ0 vs (ρ.set v ((wipeE ρ0 vs)[v]?.getD none))) σ).Perm ((entOf ((wipeE ρ0 vs)[v]?.getD none) σ[v]? ++ cuts ρ0 σ vs) ++ ents ρ σ)
    have w' : Wiped (ρ.set v ((wipeE ρ0 vs)[v]?.getD none)) vs := fun u hu => by
      by_cases e : v = u
      · subst e
        have h0 : (wipeE ρ0 vs)[v]?.getD none = none := by
          rcases wiped_wipe ρ0 vs v hu with h | h <;> rw [h] <;> rfl
        rw [h0, List.getElem?_set_self']
        cases ρ[v]? with
        | none => exact .inr rfl
        | some _ => exact .inl rfl
      · rw [List.getElem?_set_ne e]
        exact w u (List.mem_cons_of_mem _ hu)
    refine (ents_res ρ0 σ vs _ (by rw [List.length_set]; exact hl) w').trans ?_
    rcases w v List.mem_cons_self with h | h
    · have h1 : (ρ.set v ((wipeE ρ0 vs)[v]?.getD none))[v]? = some ((wipeE ρ0 vs)[v]?.getD none) := by
        rw [List.getElem?_set_self', h]; rfl
      have p := ents_at (σ := σ) h1
      rw [List.set_set] at p
      have h2 : ρ.set v none = ρ := by
        obtain ⟨hi, e⟩ := List.getElem?_eq_some_iff.mp h
        rw [← e]; exact List.set_getElem_self hi
      rw [h2] at p
      refine (p.append_left _).trans ?_
      rw [List.append_assoc]
      exact perm_mid _ _ _
    · have hle := List.getElem?_eq_none_iff.mp h
      rw [List.set_eq_of_length_le hle]
      have h3 : (wipeE ρ0 vs)[v]? = none := List.getElem?_eq_none_iff.mpr (by rw [wipeE_len, ← hl]; exact hle)
      rw [h3]
      exact .refl _
theorem res_wipe (ρ0 : En) : ∀ vs, resE ρ0 vs (wipeE ρ0 vs) = ρ0
  | [] => rfl
  | v :: vs => by
    show resE ρ0 vs (((wipeE ρ0 vs).set v none).set v ((wipeE ρ0 vs)[v]?.getD none)) = ρ0
    have h : ((wipeE ρ0 vs).set v none).set v ((wipeE ρ0 vs)[v]?.getD none) = wipeE ρ0 vs := by
      rw [List.set_set]
      cases e : (wipeE ρ0 vs)[v]? with
      | none => exact List.set_eq_of_length_le (List.getElem?_eq_none_iff.mp e)
      | some s =>
        obtain ⟨hi, e⟩ := List.getElem?_eq_some_iff.mp e
        rw [← e]; exact List.set_getElem_self hi
    rw [h]
    exact res_wipe ρ0 vs
theorem ents_wipe {ρ : En} {σ : SL} : ∀ {vs : List Nat}, Wiped ρ vs → ents ρ (wipe σ vs) = ents ρ σ
  | [], _ => rfl
  | v :: vs, w => by
    show ents ρ ((wipe σ vs).set v none) = _
    rw [ents_none (w v List.mem_cons_self), ents_wipe fun u hu => w u (List.mem_cons_of_mem _ hu)]
/-- a target that stores within vs alone -/
def GIn (vs : List Nat) (mg : Rz → En → Option En) : Prop := ∀ r ρ ρ', mg r ρ = some ρ' → wipeE ρ' vs = wipeE ρ vs
def GsIn (vs : List Nat) (mg : List Rz → En → Option En) : Prop := ∀ r ρ ρ', mg r ρ = some ρ' → wipeE ρ' vs = wipeE ρ vs
theorem wipeE_set {ρ : En} {i : Nat} {s : Sl} : ∀ {vs : List Nat}, i ∈ vs → wipeE (ρ.set i s) vs = wipeE ρ vs
  | [], h => absurd h (by simp)
  | v :: vs, h => by
    show (wipeE (ρ.set i s) vs).set v none = (wipeE ρ vs).set v none
    by_cases hi : i ∈ vs
    · rw [wipeE_set hi]
    · have e : i = v := by rcases List.mem_cons.mp h with h | h; exact h; exact absurd h hi
      subst e
      have comm : ∀ (vs : List Nat) (ρ : En), i ∉ vs → wipeE (ρ.set i s) vs = (wipeE ρ vs).set i s := by
        intro vs
        induction vs with
        | nil => intro ρ _; rfl
        | cons u us ih =>
          intro ρ hn
          show (wipeE (ρ.set i s) us).set u none = ((wipeE ρ us).set u none).set i s
          rw [ih ρ fun z => hn (List.mem_cons_of_mem _ z), List.set_comm _ _ (fun z => hn (by rw [z]; exact List.mem_cons_self))]
      rw [comm vs ρ hi, List.set_set]
theorem gin_set {vs : List Nat} {i : Nat} (h : i ∈ vs) : GIn vs (gSet i) := fun r ρ ρ' e => by
  unfold gSet at e
  split at e
  · cases e; exact wipeE_set h
  · cases e
theorem gsin_nil {vs : List Nat} : GsIn vs gsNil := fun r ρ ρ' e => by
  unfold gsNil at e
  split at e
  · cases e; rfl
  · cases e
theorem gsin_cons {vs : List Nat} {a : Rz → En → Option En} {b : List Rz → En → Option En} (ha : GIn vs a) (hb : GsIn vs b) : GsIn vs (gsCons a b) := fun r ρ ρ' e => by
  unfold gsCons at e
  split at e
  · rename_i r rs
    cases e1 : a r ρ with
    | none => rw [e1] at e; cases e
    | some ρ1 => rw [e1] at e; exact (hb _ _ _ e).trans (ha _ _ _ e1)
  · cases e
theorem gin_tup {vs : List Nat} {b : List Rz → En → Option En} {k : Nat} (hb : GsIn vs b) : GIn vs (gTupM b k) := fun r ρ ρ' e => by
  unfold gTupM at e
  split at e
  · split at e
    · exact hb _ _ _ e
    · cases e
  · cases e
/-- the slots that a comprehension leaves -/
def outPin (n : Nat) (vs : List Nat) : List Nat := (List.range n).filter fun i => !vs.contains i
theorem wipe_get {σ : SL} {i : Nat} : ∀ {vs : List Nat}, i ∉ vs → (wipe σ vs)[i]? = σ[i]?
  | [], _ => rfl
  | v :: vs, h => by
    show ((wipe σ vs).set v none)[i]? = _
    rw [List.getElem?_set_ne fun e => h (by rw [← e]; exact List.mem_cons_self)]
    exact wipe_get fun z => h (List.mem_cons_of_mem _ z)
theorem wipe_in {σ : SL} {i : Nat} : ∀ {vs : List Nat}, i ∈ vs → i < σ.length → (wipe σ vs)[i]? = some none
  | [], h, _ => absurd h (by simp)
  | v :: vs, h, hl => by
    show ((wipe σ vs).set v none)[i]? = _
    by_cases e : v = i
    · subst e
      rw [List.getElem?_set_self (by rw [wipe_length]; exact hl)]
    · rw [List.getElem?_set_ne e]
      refine wipe_in ?_ hl
      rcases List.mem_cons.mp h with h | h
      · exact absurd h.symm e
      · exact h
theorem kept_wipe {n : Nat} {vs : List Nat} {σ σ' : SL} (hl : σ.length = n) (k : Kept (outPin n vs) n (wipe σ vs) σ') : wipe σ' vs = wipe σ vs := by
  apply List.ext_getElem?
  intro i
  by_cases hi : i ∈ vs
  · by_cases hn : i < n
    · rw [wipe_in hi (by rw [k.len]; exact hn), wipe_in hi (by rw [hl]; exact hn)]
    · rw [List.getElem?_eq_none (by rw [wipe_length, k.len]; omega), List.getElem?_eq_none (by rw [wipe_length, hl]; omega)]
  · rw [wipe_get hi]
    by_cases hn : i < n
    · refine k.same i ?_
      unfold outPin
      rw [List.mem_filter]
      exact ⟨List.mem_range.mpr hn, by simpa using hi⟩
    · rw [List.getElem?_eq_none (by rw [k.len]; omega), List.getElem?_eq_none (by rw [wipe_length, hl]; omega)]

/-! ### list comprehensions -/
def compGo (vs : List Nat) (dp : Nat) (mg : Rz → En → Option En) (mt me : M) : List T → En → OutI
  | [], ρ => .ok false [] ρ
  | t :: ts, ρ => match mg (fz t) ρ with
    | none => .no
    | some ρ1 => match mt ρ1 with
      | .ok ⟨_, _, .bl false⟩ ρ2 => compGo vs dp mg mt me ts (wipeE ρ2 vs)
      | .ok ⟨_, _, .bl true⟩ ρ2 => match me ρ2 with
        | .ok r ρ3 => if (!r.al && (decide (dp = 0) || decide (r.d = dp))) = true then match compGo vs dp mg mt me ts (wipeE ρ3 vs) with
            | .ok al rs ρ4 => .ok al (r.t :: rs) ρ4
            | .ex e ρ4 => .ex e ρ4
            | .no => .no
          else .no
        | _ => .no
      | _ => .no
def mComp (pu : Bool) (vs : List Nat) (dp : Nat) (mi : MI) (mg : Rz → En → Option En) (mt me : M) : M := fun ρ => match mi ρ with
  | .ok al ts ρ' => if ((al && !pu) || decide (sizeLine < ts.length)) = true then .no else match compGo vs dp mg mt me ts (wipeE ρ' vs) with
    | .ok _ rs ρ'' => if ρ''.length = ρ'.length then .ok ⟨dp + 1, false, .lst rs⟩ (resE ρ' vs ρ'') else .no
    | _ => .no
  | .ex e ρ' => .ex e ρ'
  | .no => .no
def WF : WX := fun _ _ _ _ => False
structure JTs (X : Cx) (G : Gx) (W : WX) (pu : Bool) (e : List Expr) (m : M) : Prop where
  pt : PTs X e (testP (tJ G W pu m))
  pure : pu = true → Quiet m
  isB : ∀ ρ r ρ', m ρ = .ok r ρ' → ∃ b, r = fz (.bl b)
theorem rts_nil : JTs X G W true [] (mC (.bl true)) := by
  refine ⟨⟨fun pins s σ H Q I ⟨F, ρ, fr, g, o⟩ => ?_⟩, fun _ ρ r ρ' h => by cases h; rfl, fun ρ r ρ' h => by cases h; exact ⟨_, rfl⟩⟩
  have q := OutP.fin (xt := []) (z := .bl true) o (.refl F) (fun _ => .refl F H) g rfl (New.val g.sub rfl)
  obtain ⟨b, e, q⟩ := q
  cases e
  exact pts_nil.run pins s σ H Q I q
theorem rts_one {pu : Bool} {c : Expr} {m : M} (h : JT X G W pu c m) : JTs X G W pu [c] m := ⟨pts_one h.pt, h.pure, h.isB⟩
theorem compGo_quiet {vs : List Nat} {dp : Nat} {mg : Rz → En → Option En} {mt me : M} (hg : GIn vs mg) (qt : Quiet mt) (qe : Quiet me) : ∀ (ts : List T) (ρ : En) (al : Bool) (rs : List T) (ρ' : En), wipeE ρ vs = ρ → compGo vs dp mg mt me ts ρ = .ok al rs ρ' → ρ' = ρ
  | [], ρ, al, rs, ρ', _, h => by cases h; rfl
  | t :: ts, ρ, al, rs, ρ', hw, h => by
    unfold compGo at h
    split at h
    · cases h
    · rename_i ρ1 e1
      have w1 := (hg _ _ _ e1).trans hw
      split at h
      · rename_i d a ρ2 e2
        have q2 := qt _ _ _ e2
        subst q2
        have := compGo_quiet hg qt qe ts (wipeE ρ2 vs) al rs ρ' (by rw [w1]; exact hw) h
        rw [this, w1]
      · rename_i d a ρ2 e2
        have q2 := qt _ _ _ e2
        subst q2
        split at h
        · rename_i r ρ3 e3
          have q3 := qe _ _ _ e3
          subst q3
          split at h
          · split at h
            · rename_i al' rs' ρ4 e4
              cases h
              have := compGo_quiet hg qt qe ts (wipeE ρ3 vs) al rs' ρ' (by rw [w1]; exact hw) e4
              rw [this, w1]
            · cases h
            · cases h
          · cases h
        · cases h
      · cases h
theorem wipeE_idem (ρ : En) (vs : List Nat) : wipeE (wipeE ρ vs) vs = wipeE ρ vs := by
  have all : ∀ (us : List Nat) (ρ : En), Wiped ρ us → wipeE ρ us = ρ := by
    intro us
    induction us with
    | nil => intro ρ _; rfl
    | cons u us ih =>
      intro ρ w
      show (wipeE ρ us).set u none = ρ
      rw [ih ρ fun v hv => w v (List.mem_cons_of_mem _ hv)]
      rcases w u List.mem_cons_self with h | h
      · obtain ⟨hi, e⟩ := List.getElem?_eq_some_iff.mp h
        rw [← e]; exact List.set_getElem_self hi
      · exact List.set_eq_of_length_le (List.getElem?_eq_none_iff.mp h)
  exact all vs _ (wiped_wipe ρ vs)
end
end Pb
end
/- Q8 -/
section
set_option Elab.async false
set_option linter.all false
set_option maxRecDepth 100000
namespace Pb
open PySem PySem.Spec PyProof.Rows L2
section
variable {X : Cx} {G : Gx} {W : WX} {pin : List Nat} {n : Nat}
theorem pe_impI {e : Expr} {t t' : TE} (h : PE X e t) (i : ∀ σ H Q, σ.length = X.N.length → t' σ H Q → t σ H Q) : PE X e t' := ⟨fun pins s σ H Q I q => h.run pins s σ H Q I (i σ H Q I.len q)⟩
theorem New.nil {F H : Hp} {D : Addr} {dp : Nat} (s : Sub F H) (h : H D = none) : New G F H F (upd H D (.lst [])) (dp + 1) (.lst []) (.ref D) :=
  ⟨.of (.refl F) (same_new h) (fun _ => .inl rfl) id, s.trans (same_new h), [D], ⟨D, [], [], rfl, rfl, none_sub s h, upd_same, rfl, rfl⟩, by simp, fun a ha => by rw [List.mem_singleton.mp ha]; exact .none h⟩
theorem ents_out {ρ : En} {σ σ' : SL} {vs : List Nat} (h : wipe σ' vs = wipe σ vs) : ents (wipeE ρ vs) σ' = ents (wipeE ρ vs) σ := by
  rw [← ents_wipe (σ := σ') (wiped_wipe ρ vs), h, ents_wipe (wiped_wipe ρ vs)]
theorem Good.wiped {F H : Hp} {ρ : En} {σ σ' : SL} {vs : List Nat} {fr : List Ent} (g : Good G F H (ents ρ σ' ++ fr)) (h : wipe σ' vs = wipe σ vs) : Good G F H (ents (wipeE ρ vs) σ ++ fr) := by
  have g1 := g.perm ((ents_cut ρ σ' vs).append_right fr)
  rw [List.append_assoc] at g1
  have g2 := g1.drop
  rw [ents_out h] at g2
  exact g2
theorem Out.ok_of {o : Out} {r : Rz} {ρ : En} (h : o = .ok r ρ) : o = .ok r ρ := h

/-- the loop's state ahead of the turn i -/
structure CInv (G : Gx) (pu : Bool) (vs : List Nat) (dp : Nat) (mg : Rz → En → Option En) (mt me : M) (ts rs : List T) (ρ'' : En) (D : Addr) (σ : SL) (xt : List Ent) (F1 H1 : Hp) (i : Nat) (H2 : Hp) : Prop where
  ex : ∃ F2 ρ2 acc rest al, Sub F1 F2 ∧ (pu = true → Ext G F1 H1 F2 H2) ∧ Wiped ρ2 vs ∧ acc.length ≤ i ∧ Good G F2 H2 ((dp + 1, .lst acc, .ref D) :: (ents ρ2 σ ++ xt)) ∧ compGo vs dp mg mt me (ts.drop i) ρ2 = .ok al rest ρ'' ∧ rs = acc ++ rest

theorem comp_imp {pi pt pe : Bool} {elt tg iter : Expr} {ifs : List Expr} {scope : Scope} {own : List (Str × Nat)} {mi : MI} {mg : Rz → En → Option En} {mt me : M} (dp : Nat) (vs : List Nat)
    (hc : X.calm = true) (hN : X.N.Nodup) (hi : JI X G W pi tg iter mi) (ok : BlkOk X.N X.env.scope scope own) (hvs : own.map (·.2) = vs) (hin : GIn vs mg)
    (hg : ∀ (s : Shared) (H : Hp) (C : Addr) (cl : List (Str × Addr)) (fp : List Addr), JG (X.blk s H scope (compEnvC scope cl C X.env) fp) G (outPin X.N.length vs) X.N.length tg mg)
    (ht : ∀ (s : Shared) (H : Hp) (C : Addr) (cl : List (Str × Addr)) (fp : List Addr), JTs (X.blk s H scope (compEnvC scope cl C X.env) fp) G WF pt ifs mt)
    (he : ∀ (s : Shared) (H : Hp) (C : Addr) (cl : List (Str × Addr)) (fp : List Addr), J (X.blk s H scope (compEnvC scope cl C X.env) fp) G WF pe elt me) (hs : ∀ x, foldedSetIterable iter X.env x = pure x := by intro _; rfl) :
    ∀ (σ : SL) (H : Hp) (Q : VK), σ.length = X.N.length → tJ G W ((pi && (pt && pe)) && decide (dp = 0)) (mComp ((pi && (pt && pe)) && decide (dp = 0)) vs dp mi mg mt me) σ H Q →
      tLc (tI G W pi mi) (gT G (outPin X.N.length vs) X.N.length mg) (testP (tJ G WF pt mt)) (tJ G WF pe me) (own.map (·.2)) σ H Q := by
  generalize hpu : ((pi && (pt && pe)) && decide (dp = 0)) = pu
  have hp1 : pu = true → pi = true := fun z => by rw [← hpu] at z; simp only [Bool.and_eq_true] at z; exact z.1.1
  have hp2 : pu = true → pt = true := fun z => by rw [← hpu] at z; simp only [Bool.and_eq_true] at z; exact z.1.2.1
  have hp3 : pu = true → pe = true := fun z => by rw [← hpu] at z; simp only [Bool.and_eq_true] at z; exact z.1.2.2
  have hp4 : pu = true → dp = 0 := fun z => by rw [← hpu] at z; simp only [Bool.and_eq_true, decide_eq_true_eq] at z; exact z.2
  have ht0 := (ht X.s_0 (fun _ => none) 0 [] []).isB
  intro σ H Q hlen ⟨F, ρ, fr, g, o⟩
  · refine ⟨F, ρ, fr, g, ?_⟩
    unfold mComp at o
    cases e : mi ρ with
    | no => rw [e] at o; exact o.elim
    | ex e' ρ' => rw [e] at o; exact o
    | ok al ts ρ' =>
      rw [e] at o
      simp only at o
      split at o
      · exact o.elim
      rename_i hcond
      simp only [Bool.or_eq_true, Bool.and_eq_true, Bool.not_eq_true', decide_eq_true_eq, not_or, not_and, Nat.not_lt] at hcond
      intro J F1 H1 s1 x1 g1 wk
      cases ec : compGo vs dp mg mt me ts (wipeE ρ' vs) with
      | no => rw [ec] at o; exact o.elim
      | ex e' ρ4 => rw [ec] at o; exact o.elim
      | ok al' rs ρ'' =>
      rw [ec] at o
      simp only at o
      split at o
      rotate_left
      · exact o.elim
      rename_i hlen''
      rw [hvs]
      intro D hD
      refine ⟨fun i m H2 => m = ts.length - i ∧ i ≤ ts.length ∧ CInv G pu vs dp mg mt me ts rs ρ'' D σ (cuts ρ' σ vs ++ fr) F1 H1 i H2, ⟨ts.length, rfl, Nat.zero_le _, ?_⟩, ?_⟩
      · refine ⟨F1, wipeE ρ' vs, [], rs, al', .refl F1, fun _ => .of (.refl F1) (same_new hD) (fun _ => .inl rfl) id, wiped_wipe ρ' vs, Nat.le_refl _, ?_, ec, rfl⟩
        have g2 := g1.perm ((ents_cut ρ' σ vs).append_right fr)
        rw [List.append_assoc] at g2
        exact (g2.mid).new (New.nil g1.sub hD)
      · rintro i m H2 ⟨rfl, hile, F2, ρ2, acc, rest, al2, s2, x2, w2, hacc, g2, ec2, ers⟩
        have hB : LamX.ExtN (if al = true then H1 else F1) H2 := by
          split
          · rename_i hal
            have : pu = true := by
              cases q : pu with
              | true => rfl
              | false => exact absurd q (hcond.1 hal)
            exact (x2 this).up
          · exact .of (s2.trans g2.sub)
        obtain ⟨w3, w4⟩ := wk i F2 H2 s2 hB g2.sub
        cases et : ts[i]? with
        | none =>
          have hle : ts.length ≤ i := List.getElem?_eq_none_iff.mp et
          refine .inl ⟨w4 hle, ?_⟩
          rw [List.drop_eq_nil_of_le hle] at ec2
          unfold compGo at ec2
          injection ec2 with ea eb ecc
          subst eb
          subst ecc
          rw [List.append_nil] at ers
          subst ers
          refine o (.ref D) F2 H2 (s1.trans s2) (fun z => ⟨(x1 (hp1 z)).trans (x2 z), fun _ as q a ha => ?_⟩) ?_ (.zero rfl)
          · have hdp := hp4 z
            subst hdp
            obtain ⟨a', vs', e1, _, _, c⟩ := own_lst1 g2.sub (Nat.le_refl 1) q
            rcases c with ⟨c, _⟩ | ⟨_, _, _, c⟩
            · cases c
            · rw [c] at ha
              have : a = D := by rw [List.mem_singleton.mp ha]; cases e1; rfl
              subst this
              exact ft_back (x1 (hp1 z)).up (.none hD)
          · have p := ents_res ρ' σ vs ρ2 hlen'' w2
            refine g2.perm (List.Perm.cons _ ?_)
            refine (perm_mid (ents ρ2 σ) (cuts ρ' σ vs) fr).trans ?_
            rw [← List.append_assoc]
            exact (p.symm).append_right fr
        | some t =>
          obtain ⟨hlt, et⟩ := List.getElem?_eq_some_iff.mp et
          have et' : ts[i]? = some t := by rw [List.getElem?_eq_getElem hlt, et]
          obtain ⟨hgo, hy⟩ := w3 t et'
          rw [List.drop_eq_getElem_cons hlt, et] at ec2
          unfold compGo at ec2
          split at ec2
          · cases ec2
          rename_i ρ3 eg
          refine .inr ⟨hgo, fun H' => i + 1 ≤ ts.length ∧ CInv G pu vs dp mg mt me ts rs ρ'' D σ (cuts ρ' σ vs ++ fr) F1 H1 (i + 1) H', fun H' h => ⟨ts.length - (i + 1), by omega, rfl, h⟩, fun x H3 hx => ?_⟩
          obtain ⟨F3, nw⟩ := hy x H3 hx
          have g3 : Good G F3 H3 ((0, t, x) :: (ents ρ2 (wipe σ vs) ++ ((dp + 1, .lst acc, .ref D) :: (cuts ρ' σ vs ++ fr)))) := by
            rw [ents_wipe w2]
            exact (g2.new nw).perm (List.Perm.cons _ (perm_mid [(dp + 1, T.lst acc, V.ref D)] _ _))
          have x3 : pu = true → Ext G F1 H1 F3 H3 := fun z => (x2 z).trans nw.1
          refine ⟨F3, ρ2, _, fz t, ρ3, g3, by rw [wipe_length, hlen], eg, fun σ' k4 g4 => ⟨kept_wipe hlen k4, ?_⟩⟩
          have hw := kept_wipe hlen k4
          refine ⟨F3, ρ3, _, g4, ?_⟩
          split at ec2
          · -- left out
            rename_i d a ρ5 em
            rw [em]
            intro y F5 H5 s5 p5 g5 a5
            obtain ⟨b, eb⟩ := ht0 _ _ _ em
            cases eb
            obtain ⟨as, q⟩ := g5.ent a5
            refine ⟨false, q.2, ?_⟩
            show i + 1 ≤ ts.length ∧ CInv G pu vs dp mg mt me ts rs ρ'' D σ (cuts ρ' σ vs ++ fr) F1 H1 (i + 1) H5
            refine ⟨hlt, F5, wipeE ρ5 vs, acc, rest, al2, (s2.trans nw.1.low).trans s5, fun z => (x3 z).trans (p5 (hp2 z)).1, wiped_wipe _ vs, by omega, ?_, ec2, ers⟩
            exact ((g5.drop).wiped hw).perm (perm_mid _ [(dp + 1, T.lst acc, V.ref D)] _)
          · rename_i d a ρ5 em
            rw [em]
            intro y F5 H5 s5 p5 g5 a5
            obtain ⟨b, eb⟩ := ht0 _ _ _ em
            cases eb
            obtain ⟨as, q⟩ := g5.ent a5
            refine ⟨true, q.2, ?_⟩
            show tJ G WF pe me σ' H5 _
            split at ec2
            · rename_i r ρ6 ee
              split at ec2
              · rename_i hcr
                simp only [Bool.and_eq_true, Bool.not_eq_true', Bool.or_eq_true, decide_eq_true_eq] at hcr
                split at ec2
                · rename_i al3 rs3 ρ7 ec3
                  injection ec2 with ea eb2 ec4
                  subst ea
                  subst eb2
                  subst ec4
                  refine ⟨F5, ρ5, _, g5.drop, ?_⟩
                  rw [ee]
                  intro y2 F6 H6 s6 p6 g6 a6
                  have er : r.ent y2 = [(r.d, r.t, y2)] := if_neg (by rw [hcr.1]; exact Bool.false_ne_true)
                  have sub6 : Sub F1 F6 := ((s2.trans nw.1.low).trans s5).trans s6
                  have x6 : pu = true → Ext G F1 H1 F6 H6 := fun z => ((x3 z).trans (p5 (hp2 z)).1).trans (p6 (hp3 z)).1
                  -- the element, at the depth wanted
                  have main : ∃ F7, Sub F6 F7 ∧ (pu = true → Ext G F1 H1 F7 H6) ∧ Good G F7 H6 ((dp, r.t, y2) :: (dp + 1, .lst acc, .ref D) :: (ents (wipeE ρ6 vs) σ ++ (cuts ρ' σ vs ++ fr))) := by
                    by_cases hd : dp = 0
                    · have g7 : Good G F6 H6 (rents [r] [y2] ++ (ents ρ6 σ' ++ ((dp + 1, .lst acc, .ref D) :: (cuts ρ' σ vs ++ fr)))) := by
                        show Good G F6 H6 ((r.ent y2 ++ []) ++ _)
                        rw [List.append_nil]
                        exact g6
                      obtain ⟨F7, s7, g8, r8, n8⟩ := freezeAll (rs := [r]) (xs := [y2]) (H0 := H1) g7 ⟨y2, [], rfl, a6, rfl⟩ (by simp [noAl, hcr.1]) (pu = true) (fun z => ⟨fun hz as q a ha => by
                        exact ft_back ((x3 z).trans (p5 (hp2 z)).1).up ((p6 (hp3 z)).2 hz as q a ha), trivial⟩)
                      obtain ⟨z1, z2, e3, rr, _⟩ := r8
                      cases e3
                      refine ⟨F7, s7, fun z => .of_freeze (x6 z) s7 (n8 z) g8.nt, ?_⟩
                      rw [hd] at g8 ⊢
                      exact (((g8.wiped hw).perm (perm_mid _ [(0 + 1, T.lst acc, V.ref D)] _))).zero rr
                    · have hrd : r.d = dp := by rcases hcr.2 with h | h; exact absurd h hd; exact h
                      refine ⟨F6, .refl F6, x6, ?_⟩
                      rw [er, hrd] at g6
                      have g7 : Good G F6 H6 (ents ρ6 σ' ++ ((dp, r.t, y2) :: (dp + 1, .lst acc, .ref D) :: (cuts ρ' σ vs ++ fr))) := g6.perm (perm_mid [(dp, r.t, y2)] _ _)
                      exact (g7.wiped hw).perm (perm_mid _ [(dp, r.t, y2), (dp + 1, T.lst acc, V.ref D)] _)
                  obtain ⟨F7, s7, x7, g7⟩ := main
                  obtain ⟨vs', hD', hl', g8⟩ := g7.snoc
                  refine ⟨vs', hD', by rw [hl']; omega, hlt, F7, wipeE ρ6 vs, acc ++ [r.t], rs3, al3, sub6.trans s7, fun z => ?_, wiped_wipe _ vs, by rw [List.length_append]; simp; omega, g8, ec3, by rw [ers]; simp⟩
                  refine ⟨(x7 z).low, fun a u ha nt => ?_, (x7 z).new, fun _ => g8.tab, (x7 z).nt⟩
                  rw [upd_ne (by rintro rfl; rw [hD] at ha; cases ha)]
                  exact (x7 z).up a u ha nt
                · cases ec2
                · cases ec2
              · cases ec2
            · cases ec2
          · cases ec2
theorem r_comp {pi pt pe : Bool} {elt tg iter : Expr} {ifs : List Expr} {scope : Scope} {own : List (Str × Nat)} {pos : Pos} {mi : MI} {mg : Rz → En → Option En} {mt me : M} (dp : Nat) (vs : List Nat)
    (hc : X.calm = true) (hN : X.N.Nodup) (hi : JI X G W pi tg iter mi) (ok : BlkOk X.N X.env.scope scope own) (hvs : own.map (·.2) = vs) (hin : GIn vs mg)
    (hg : ∀ (s : Shared) (H : Hp) (C : Addr) (cl : List (Str × Addr)) (fp : List Addr), JG (X.blk s H scope (compEnvC scope cl C X.env) fp) G (outPin X.N.length vs) X.N.length tg mg)
    (ht : ∀ (s : Shared) (H : Hp) (C : Addr) (cl : List (Str × Addr)) (fp : List Addr), JTs (X.blk s H scope (compEnvC scope cl C X.env) fp) G WF pt ifs mt)
    (he : ∀ (s : Shared) (H : Hp) (C : Addr) (cl : List (Str × Addr)) (fp : List Addr), J (X.blk s H scope (compEnvC scope cl C X.env) fp) G WF pe elt me) (hs : ∀ x, foldedSetIterable iter X.env x = pure x := by intro _; rfl) :
    J X G W ((pi && (pt && pe)) && decide (dp = 0)) (.ListComp elt [⟨tg, iter, ifs, 0⟩] scope pos) (mComp ((pi && (pt && pe)) && decide (dp = 0)) vs dp mi mg mt me) := by
  have imp := comp_imp (W := W) dp vs hc hN hi ok hvs hin hg ht he hs
  refine ⟨pe_impI (pe_lc (own := own) hc hN hi.pi ok (fun s H C cl fp => (hg s H C cl fp).pg) (fun s H C cl fp => (ht s H C cl fp).pt) (fun s H C cl fp => (he s H C cl fp).pe) hs) imp, ?_⟩
  generalize hpu : ((pi && (pt && pe)) && decide (dp = 0)) = pu
  have hp1 : pu = true → pi = true := fun z => by rw [← hpu] at z; simp only [Bool.and_eq_true] at z; exact z.1.1
  have hp2 : pu = true → pt = true := fun z => by rw [← hpu] at z; simp only [Bool.and_eq_true] at z; exact z.1.2.1
  have hp3 : pu = true → pe = true := fun z => by rw [← hpu] at z; simp only [Bool.and_eq_true] at z; exact z.1.2.2
  intro z ρ r ρ' e
  · unfold mComp at e
    split at e
    · rename_i al ts ρ1 e1
      split at e
      · cases e
      · split at e
        · rename_i al' rs ρ2 ec
          split at e
          · cases e
            have q1 := hi.pure (hp1 z) _ _ _ _ e1
            subst q1
            have q2 := compGo_quiet hin ((ht X.s_0 (fun _ => none) 0 [] []).pure (hp2 z)) ((he X.s_0 (fun _ => none) 0 [] []).pure (hp3 z)) ts _ _ _ _ (wipeE_idem ρ1 vs) ec
            rw [q2, res_wipe]
          · cases e
        · cases e
    · cases e
    · cases e
theorem rs_setc {pi pt pe : Bool} {i : Nat} {y : Str} {py : Pos} {elt tg iter : Expr} {ifs : List Expr} {scope : Scope} {own : List (Str × Nat)} {pos spos : Pos} {mi : MI} {mg : Rz → En → Option En} {mt me : M} (dp : Nat) (vs : List Nat)
    (hc : X.calm = true) (hN : X.N.Nodup) (hnn : n = X.N.length) (hy : X.N[i]? = some y) (hyl : X.env.scope.names.lookup y = some .local) (hp : i ∉ pin) (hn : i < n) (hsw : swapsWith (.ListComp elt [⟨tg, iter, ifs, 0⟩] scope pos) (some (.Name y py)) spos.line X.env = pure true)
    (hi : JI X G W pi tg iter mi) (ok : BlkOk X.N X.env.scope scope own) (hvs : own.map (·.2) = vs) (hin : GIn vs mg)
    (hg : ∀ (s : Shared) (H : Hp) (C : Addr) (cl : List (Str × Addr)) (fp : List Addr), JG (X.blk s H scope (compEnvC scope cl C X.env) fp) G (outPin X.N.length vs) X.N.length tg mg)
    (ht : ∀ (s : Shared) (H : Hp) (C : Addr) (cl : List (Str × Addr)) (fp : List Addr), JTs (X.blk s H scope (compEnvC scope cl C X.env) fp) G WF pt ifs mt)
    (he : ∀ (s : Shared) (H : Hp) (C : Addr) (cl : List (Str × Addr)) (fp : List Addr), J (X.blk s H scope (compEnvC scope cl C X.env) fp) G WF pe elt me) (hs : ∀ x, foldedSetIterable iter X.env x = pure x := by intro _; rfl) :
    JS X G W pin n (.Assign [.Name y py] (.ListComp elt [⟨tg, iter, ifs, 0⟩] scope pos) spos) (mAsg (mComp ((pi && (pt && pe)) && decide (dp = 0)) vs dp mi mg mt me) (gSet i)) := by
  have imp := comp_imp (W := W) dp vs hc hN hi ok hvs hin hg ht he hs
  have jc := r_comp (W := W) (pos := pos) dp vs hc hN hi ok hvs hin hg ht he hs
  refine ⟨ps_imp (ps_setLc (own := own) hc hN hy hyl hsw hi.pi ok (fun s H C cl fp => (hg s H C cl fp).pg) (fun s H C cl fp => (ht s H C cl fp).pt) (fun s H C cl fp => (he s H C cl fp).pe) hs) fun D σ H ⟨F, ρ, fr, g, hl, o⟩ => ?_⟩
  refine imp σ H _ (by rw [hl]; exact hnn) ?_
  refine jc.seqS g hl o fun r ρ1 x F1 H1 e1 s1 p1 g1 a1 o1 => ?_
  split at o1
  · exact o1.elim
  rename_i hal
  rw [show r.ent x = [(r.d, r.t, x)] from if_neg hal] at g1
  unfold gSet at o1
  split at o1
  · rename_i ρ2 e2
    split at e2
    · rename_i hlt
      cases e2
      exact o1 _ F1 H1 (.refl F1) (.set hl hp) (g1.store hlt (by rw [hl]; exact hn))
    · cases e2
  · exact o1.elim
theorem rs_setcF {pi pt pe : Bool} {i : Nat} {y : Str} {py : Pos} {elt tg iter : Expr} {ifs : List Expr} {scope : Scope} {own : List (Str × Nat)} {pos spos : Pos} {mi : MI} {mg : Rz → En → Option En} {mt me : M} (dp : Nat) (vs : List Nat)
    (hc : X.calm = true) (hN : X.N.Nodup) (hnn : n = X.N.length) (hy : X.N[i]? = some y) (hyl : X.env.scope.names.lookup y = some .local) (hp : i ∉ pin) (hn : i < n) (hsw : swapsWith (.ListComp elt [⟨tg, iter, ifs, 0⟩] scope pos) (some (.Name y py)) spos.line X.env = pure true)
    (hi : JI X G W pi tg iter mi) (ok : BlkOk X.N X.env.scope scope own) (hvs : own.map (·.2) = vs) (hin : GIn vs mg)
    (hg : ∀ (s : Shared) (H : Hp) (C : Addr) (cl : List (Str × Addr)) (fp : List Addr), JG (X.blk s H scope (compEnvC scope cl C X.env) fp) G (outPin X.N.length vs) X.N.length tg mg)
    (ht : ∀ (s : Shared) (H : Hp) (C : Addr) (cl : List (Str × Addr)) (fp : List Addr), JTs (X.blk s H scope (compEnvC scope cl C X.env) fp) G WF pt ifs mt)
    (he : ∀ (s : Shared) (H : Hp) (C : Addr) (cl : List (Str × Addr)) (fp : List Addr), J (X.blk s H scope (compEnvC scope cl C X.env) fp) G WF pe elt me) (hs : ∀ x, foldedSetIterable iter X.env x = pure x := by intro _; rfl) :
    JS X G W pin n (.Assign [.Name y py] (.ListComp elt [⟨tg, iter, ifs, 0⟩] scope pos) spos) (mAsg (mFz (mComp ((pi && (pt && pe)) && decide (dp = 0)) vs dp mi mg mt me)) (gSet i)) := by
  have imp := comp_imp (W := W) dp vs hc hN hi ok hvs hin hg ht he hs
  have jc := r_comp (W := W) (pos := pos) dp vs hc hN hi ok hvs hin hg ht he hs
  refine ⟨ps_imp (ps_setLc (own := own) hc hN hy hyl hsw hi.pi ok (fun s H C cl fp => (hg s H C cl fp).pg) (fun s H C cl fp => (ht s H C cl fp).pt) (fun s H C cl fp => (he s H C cl fp).pe) hs) fun D σ H ⟨F, ρ, fr, g, hl, o⟩ => ?_⟩
  refine imp σ H _ (by rw [hl]; exact hnn) (fz_imp jc ?_)
  refine (r_fz jc).seqS g hl o fun r ρ1 x F1 H1 e1 s1 p1 g1 a1 o1 => ?_
  split at o1
  · exact o1.elim
  rename_i hal
  rw [show r.ent x = [(r.d, r.t, x)] from if_neg hal] at g1
  unfold gSet at o1
  split at o1
  · rename_i ρ2 e2
    split at e2
    · rename_i hlt
      cases e2
      exact o1 _ F1 H1 (.refl F1) (.set hl hp) (g1.store hlt (by rw [hl]; exact hn))
    · cases e2
  · exact o1.elim
end
end Pb
end
/- Q9 -/
section
set_option Elab.async false
set_option linter.all false
set_option maxRecDepth 100000
namespace Pb
open PySem PySem.Spec PyProof.Rows L2

/-- what runs around a body: room, nothing guarded -/
structure Rm (k : Nat) (A : Around) : Prop where
  room : Room k A
  gd : A.guards = some []
/-- what most rules ask: units, nothing guarded -/
structure Rn (A : Around) : Prop where
  un : A.units + 200 < cLine
  gd : A.guards = some []
theorem Rm.n {k : Nat} {A : Around} (r : Rm k A) : Rn A := ⟨by have := r.room.un; omega, r.gd⟩
theorem Rn.mark {A : Around} (r : Rn A) (h : Option Value) : Rn (A.mark h) := ⟨r.un, r.gd⟩
theorem Rm.mono {j k : Nat} {A : Around} (r : Rm k A) (h : j ≤ k) : Rm j A := ⟨r.room.mono h, r.gd⟩
/-- the def at f keeps sp, where nothing is guarded -/
structure FnG (P : Program) (w : World) (K : PySem.W.Frag) (mg : Str → Option Value) (base : Heap) (k : Nat) (f : Addr) (fd : FuncData) (ps : List Str) (sp : Sp) : Prop where
  len : ∀ xs H Q E, sp xs H Q E → xs.length = ps.length
  go : ∀ (A : Around) (outer : List Env) (s : Shared) (H : Hp) (ar : Args) (us : List Value) (xs : List V) (Q : VK) (E : XK), Rm k A → Env0 P w K mg base A outer s H → BindsTo s fd ar (ps.zip us) → Vals xs us → sp xs H Q E →
    codeAny (model P w) A (.call (.ref f) ar) (CR (L2.CX P w) outer P w H s Q E) s
section
variable {P : Program} {w : World} {K : PySem.W.Frag} {mg : Str → Option Value} {base : Heap}
theorem FnG.mono {j k : Nat} {f : Addr} {fd : FuncData} {ps : List Str} {sp : Sp} (F : FnG P w K mg base j f fd ps sp) (h : j ≤ k) : FnG P w K mg base k f fd ps sp :=
  ⟨F.len, fun A outer s H ar us xs Q E hr => F.go A outer s H ar us xs Q E (hr.mono h)⟩
abbrev bodyX (P : Program) (w : World) (K : PySem.W.Frag) (mg : Str → Option Value) (base : Heap) (N : List Str) (qual : Str) (sc : Scope) (f : Addr) (cd : Value) (A : Around) (outer : List Env) (s : Shared) (H : Hp) (E : XK) : Cx := cxOf (L2.CX P w) P w K mg base N qual sc f cd A outer s H E
theorem FnG.of {x qual : Str} {st : Stmt} {f : Addr} {fd : FuncData} {N ps : List Str} {k : Nat} {sp : Sp} (F : Fun K x qual st f fd) (S : FnScope N ps (defScope st)) (len : ∀ xs H Q E, sp xs H Q E → xs.length = ps.length)
    (body : ∀ (cdv : Value) (A : Around) (outer : List Env) (s : Shared) (H : Hp) (xs : List V) (Q : VK) (E : XK), fd.code = cdv → Rm k (A.deeper (envOfC qual (defScope st) s.heap.objs.size f cdv)) → HOk P w H s.heap → sp xs H Q E →
      ∃ t, PSs (bodyX P w K mg base N qual (defScope st) f cdv A outer s H E) (defBody st) t ∧ t { nx := fun _ H' => Q .non H', rt := Q } (L2.start N xs) H) : FnG P w K mg base (k + 1) f fd ps sp := by
  obtain ⟨oc, od, kV, doc, pm, an, cdv, ct, osl, rfl, lk, hcd⟩ := F.ex
  refine ⟨len, fun A outer s H ar us xs Q E hr e0 hb r hsp => ?_⟩
  have hl := len _ _ _ _ hsp
  have inK : K.In s.heap := e0.mod.kin.keeps fun b o e => (e0.bs b o e).1
  have noL : s.heap.NoLimit := e0.mod.nolimit.keeps fun b o e => (e0.bs b o e).1
  have kinds : ∀ y ∈ ps.zip us, (defScope st).names.lookup y.1 = some .local ∨ ((defScope st).names.lookup y.1 = some .cell ∧ ((cellsFrom (s.heap.objs.size + 1) (defScope st).names []).lookup y.1).isSome = true) := by
    rintro ⟨m, v⟩ hy
    rcases S.par m (List.of_mem_zip hy).1 with q | q
    · exact .inl q
    · exact .inr ⟨q, PySem.W.cellsFrom_some _ _ _ (.inl q)⟩
  refine codeAny_call_function hr.room.depth (inK _ _ lk) rfl S.co S.gen rfl (PySem.W.codeRec_of inK hcd) (hb _ _ _ _ ?_)
  refine wpAny_newFunctionEnv_cells S.kind kinds fun env he s1 ic => ?_
  subst he
  refine ⟨noL.keeps ic.toInCall.keep, codeAny_func ?_⟩
  obtain ⟨t, ht, hq⟩ := body cdv A outer s H xs Q E rfl ⟨hr.room.deeper _, hr.gd⟩ e0.hok hsp
  have I0 := inv_start (CX := L2.CX P w) (qual := qual) (f := f) (cd := cdv) (E := E) S hr.room.hd e0 hl r ic
  refine wpAny_mono (ht.run [] s1 (L2.start N xs) H _ I0 hq) (fun fl s' hs => ?_) fun e s' hs => hs
  cases fl with
  | ret u =>
    obtain ⟨v, σ', H', I1, rv, q⟩ := hs
    exact ⟨v, H', I1.os, I1.bare, I1.base, I1.hok, rv, q⟩
  | next =>
    obtain ⟨σ', H', I1, q⟩ := hs
    exact ⟨.non, H', I1.os, I1.bare, I1.base, I1.hok, rfl, q⟩
  | brk => obtain ⟨_, _, _, q⟩ := hs; exact q.elim
  | cont => obtain ⟨_, _, _, q⟩ := hs; exact q.elim
end

/-! ### a def's function on trees -/
abbrev MF := List T → Out
def initE (n : Nat) (ds : List Nat) (ts : List T) : En := (List.zipWith (fun d t => some (d, t)) ds ts) ++ List.replicate (n - ts.length) none
def zeros (ts : List T) : List Nat := ts.map fun _ => 0
/-- a body's end, as a call's -/
def Fl.out (ρs : En → En) : Fl → Out
  | .nx ρ => .ok (fz .non) (ρs ρ)
  | .rt r ρ => .ok r (ρs ρ)
  | .ex e ρ => .ex e (ρs ρ)
  | _ => .no
/-- a def that changes nothing of what it gets -/
def mFun (n : Nat) (m : S) : MF := fun ts => if ts.length ≤ n then (m (initE n (zeros ts) ts)).out (fun _ => []) else .no
def spP (G : Gx) (np : Nat) (mf : MF) : Sp := fun xs H Q E => ∃ F ts, Sub F H ∧ NT F ∧ LamX.Tabs G.tabs H ∧ Reps G F ts xs ∧ xs.length = np ∧
  match mf ts with
  | .ok r _ => ∀ x F' H', New G F H F' H' r.d r.t x → Q x H'
  | .ex e _ => ∀ cls d F' H', Ext G F H F' H' → Sub F' H' → ExAt G F' H' e cls d → E cls d H'
  | .no => False
abbrev WB (E : XK) : WX := fun cls d _ H => E cls d H

theorem ents_init {F : Hp} {G : Gx} {H : Hp} : ∀ {ts : List T} {xs : List V} {k : Nat} {y : SL} {es : List Ent}, Good G F H es → Reps G F ts xs → Good G F H (ents ((List.zipWith (fun d t => some (d, t)) (zeros ts) ts) ++ List.replicate k none) (xs.map some ++ y) ++ es)
  | [], xs, k, y, es, g, r => by
    have e : xs = [] := r
    subst e
    have all : ∀ (k : Nat) (σ : SL), ents (List.replicate k none) σ = [] := by
      intro k
      induction k with
      | zero => intro σ; rfl
      | succ k ih => intro σ; show [] ++ ents (List.replicate k none) (σ.drop 1) = []; rw [ih]; rfl
    show Good G F H (ents (List.replicate k none) y ++ es)
    rw [all]
    exact g
  | t :: ts, xs, k, y, es, g, r => by
    obtain ⟨x, xr, rfl, a, b⟩ := r
    have ih := ents_init (k := k) (y := y) g b
    exact ih.zero a
/-- everything tracked but not frozen, as it stands -/
theorem opaques {G : Gx} {P : Program} {w : World} {F H : Hp} {h : Heap} (s : Sub F H) (nf : NT F) (t : LamX.Tabs G.tabs H) (hok : HOk P w H h) : ∃ fr : List Ent, Good G F H fr ∧ (∀ F' H' as, EnOk G F' H' fr as → ∀ a o, H a = some o → NoT o → F a = none → H' a = some o ∧ F' a = none ∧ a ∈ as) := by
  have step : ∀ n, ∃ fr : List Ent, (∃ as, EnOk G F H fr as ∧ as.Nodup ∧ ∀ a ∈ as, a < n) ∧ (∀ a o, a < n → H a = some o → NoT o → F a = none → ((1, .opq o, .ref a) : Ent) ∈ fr) := by
    intro n
    induction n with
    | zero => exact ⟨[], ⟨[], rfl, .nil, fun _ h => absurd h (by simp)⟩, fun a o h => absurd h (Nat.not_lt_zero _)⟩
    | succ n ih =>
      obtain ⟨fr, ⟨as, q, nd, lt⟩, al⟩ := ih
      by_cases hn : ∃ u, H n = some u ∧ NoT u ∧ F n = none
      · obtain ⟨u, eH, nt, eF⟩ := hn
        refine ⟨(1, .opq u, .ref n) :: fr, ⟨n :: as, ⟨[n], as, rfl, ⟨n, rfl, rfl, eF, eH, nt⟩, q⟩, List.nodup_cons.mpr ⟨fun z => absurd (lt n z) (Nat.lt_irrefl _), nd⟩, fun a ha => ?_⟩, fun a o hl hh ht hf => ?_⟩
        · rcases List.mem_cons.mp ha with rfl | ha
          · exact Nat.lt_succ_self _
          · exact Nat.lt_succ_of_lt (lt a ha)
        · rcases Nat.lt_succ_iff_lt_or_eq.mp hl with h | h
          · exact List.mem_cons_of_mem _ (al a o h hh ht hf)
          · subst h
            rw [eH] at hh
            cases hh
            exact List.mem_cons_self
      · refine ⟨fr, ⟨as, q, nd, fun a ha => Nat.lt_succ_of_lt (lt a ha)⟩, fun a o hl hh ht hf => ?_⟩
        rcases Nat.lt_succ_iff_lt_or_eq.mp hl with h | h
        · exact al a o h hh ht hf
        · subst h
          exact (hn ⟨o, hh, ht, hf⟩).elim
  obtain ⟨fr, ⟨as, q, nd, lt⟩, al⟩ := step h.objs.size
  refine ⟨fr, ⟨s, nf, t, as, q, nd⟩, fun F' H' bs g a o hh ht hf => ?_⟩
  have hm := al a o (hok.lt hh) hh ht hf
  obtain ⟨l, r, rfl⟩ := List.append_of_mem hm
  obtain ⟨b1, b2, e, q1, b3, b4, e', p, q2⟩ := g.append
  obtain ⟨a', e1, e2, f, hh', _⟩ := p
  cases e1
  exact ⟨hh', f, by rw [e, e', e2]; simp⟩
theorem ext_of {G : Gx} {F H F' H' : Hp} (s : Sub F F') (sH : Sub F H) (s' : Sub F' H') (nt : NT F') (tb : LamX.Tabs G.tabs H') (op : ∀ a o, H a = some o → NoT o → F a = none → H' a = some o ∧ F' a = none) : Ext G F H F' H' := by
  refine ⟨s, fun a o e ht => ?_, fun a => ?_, fun _ => tb, fun _ => nt⟩
  · cases f : F a with
    | none => exact (op a o e ht f).1
    | some u =>
      have := sH a u f
      rw [e] at this
      cases this
      exact s' a o (s a o f)
  · cases f : F a with
    | some u => exact .inl (s a u f)
    | none =>
      by_cases h : FT H a
      · exact .inr h
      · refine .inl ?_
        cases e : H a with
        | none => exact (h (.none e)).elim
        | some u =>
          by_cases ht : NoT u
          · exact (op a u e ht f).2
          · refine (h fun o e' => ?_).elim
            rw [e] at e'
            cases e'
            exact Classical.byContradiction fun z => ht fun ps w => z ⟨ps, w⟩
/-- THE RULE for a def that changes nothing of what it gets -/
theorem fn_pure {P : Program} {w : World} {G : Gx} {mg : Str → Option Value} {base : Heap} {x qual : Str} {st : Stmt} {f : Addr} {fd : FuncData} {N ps : List Str} {k n : Nat} {m : S} (F : Fun G.K x qual st f fd) (S : FnScope N ps (defScope st)) (hn : N.length = n)
    (body : ∀ (cdv : Value) (A : Around) (outer : List Env) (s : Shared) (H : Hp) (E : XK), fd.code = cdv → Rm k (A.deeper (envOfC qual (defScope st) s.heap.objs.size f cdv)) → JB (bodyX P w G.K mg base N qual (defScope st) f cdv A outer s H E) G (WB E) [] n (defBody st) m) :
    FnG P w G.K mg base (k + 1) f fd ps (spP G ps.length (mFun n m)) := by
  have hpl : ps.length ≤ N.length := by have := congrArg List.length S.pre; rw [List.length_take] at this; omega
  refine FnG.of F S (fun xs H Q E ⟨F, ts, _, _, _, _, h, _⟩ => h) fun cdv A outer s H xs Q E hcd hr hok ⟨F0, ts, sF, nF, tb, rp, hxl, o⟩ => ?_
  have jb := body cdv A outer s H E hcd hr
  refine ⟨_, jb.ps, ?_⟩
  have htl := rp.length
  have hle : ts.length ≤ n := by rw [htl, hxl, ← hn]; exact hpl
  obtain ⟨fr, g0, op⟩ := opaques sF nF tb hok
  unfold mFun at o
  rw [if_pos hle] at o
  have hst : L2.start N xs = xs.map some ++ List.replicate (n - ts.length) none := by
    unfold L2.start
    rw [hn, htl]
  have hsl : (L2.start N xs).length = n := by
    rw [hst, List.length_append, List.length_map, List.length_replicate, ← htl]
    omega
  refine ⟨F0, initE n (zeros ts) ts, fr, ?_, hsl, ?_⟩
  · rw [hst]
    exact ents_init g0 rp
  · cases e : m (initE n (zeros ts) ts) with
    | nx ρ =>
      rw [e] at o
      intro σ' F' H' s' k' g'
      obtain ⟨bs, q, _⟩ := (g'.drop).own
      exact o .non F' H' ⟨ext_of s' sF g'.sub g'.nt g'.tab fun a u h1 ht h2 => ⟨(op F' H' bs q a u h1 ht h2).1, (op F' H' bs q a u h1 ht h2).2.1⟩, g'.sub, [], ⟨rfl, rfl⟩, .nil, fun _ h => absurd h (by simp)⟩
    | rt r ρ =>
      rw [e] at o
      intro x σ' F' H' s' k' g'
      have g2 : Good G F' H' ((r.d, r.t, x) :: fr) := (g'.perm (perm_mid [(r.d, r.t, x)] _ _)).drop
      obtain ⟨as, ⟨a, b, e1, p, q⟩, nd⟩ := g2.own
      subst e1
      have nn := List.nodup_append.mp nd
      have ex := ext_of s' sF g'.sub g'.nt g'.tab fun a u h1 ht h2 => ⟨(op F' H' b q a u h1 ht h2).1, (op F' H' b q a u h1 ht h2).2.1⟩
      refine o x F' H' ⟨ex, g'.sub, a, p, nn.1, fun c hc => ?_⟩
      refine Classical.byContradiction fun nf => ?_
      have ho : ∃ u, H c = some u ∧ NoT u := by
        refine Classical.byContradiction fun z => nf fun u e => Classical.byContradiction fun w => z ⟨u, e, fun ps e' => w ⟨ps, e'⟩⟩
      obtain ⟨u, y, ht⟩ := ho
      have f0 : F0 c = none := by
        cases z : F0 c with
        | none => rfl
        | some u' =>
          have fc := (p.at c hc).1
          rw [s' c u' z] at fc
          cases fc
      exact nn.2.2 c hc c (op F' H' b q c u y ht f0).2.2 rfl
    | ex e' ρ =>
      rw [e] at o
      intro cls d σ' F' H' s' k' g' q
      obtain ⟨bs, q', _⟩ := (g'.drop).own
      exact o cls d F' H' (ext_of s' sF g'.sub g'.nt g'.tab fun a u h1 ht h2 => ⟨(op F' H' bs q' a u h1 ht h2).1, (op F' H' bs q' a u h1 ht h2).2.1⟩) g'.sub q
    | bk ρ => rw [e] at o; exact o.elim
    | ct ρ => rw [e] at o; exact o.elim
    | no => rw [e] at o; exact o.elim
end Pb
end
/- Q10 -/
section
set_option Elab.async false
set_option linter.all false
set_option maxRecDepth 100000
namespace Pb
open PySem PySem.Spec PyProof.Rows L2
section
variable {X : Cx} {G : Gx} {W : WX} {pin : List Nat} {n : Nat}

/-! ### calls of defs -/
theorem run_fnG {k : Nat} {f : Addr} {fd : FuncData} {ps : List Str} {sp : Sp} {pins : List (Addr × Obj)} {σ : SL} {H : Hp} {s : Shared} {Q : VK} {us : List Value} {xs : List V} (F : FnG X.prog X.w X.K X.mg X.base k f fd ps sp) (hr : Rm k X.A) (hb : Binds X.K fd ps []) (tk : Takes X W)
    (I : Inv X pins σ H s) (r : Vals xs us) (h : sp xs H Q (fun cls d H => W cls d σ H)) : wpAny (model X.prog X.w) X.A (call (.ref f) us) (EP X pins σ Q) X.xe s := by
  have hl : us.length = ps.length := by rw [← r.length]; exact F.len _ _ _ _ h
  have hb' := hb s us I.kIn (by rw [List.append_nil]; exact hl)
  rw [List.append_nil] at hb'
  refine wpAny_call (codeAny_mono (F.go X.A X.stack s H ⟨us, []⟩ us xs Q _ hr I.env0 hb' r h) fun r s' hq => ?_)
  cases r with
  | error e => exact passAt tk σ pins H s e s' I hq
  | ok fl =>
    cases fl with
    | ret u => exact I.after hq
    | next => exact hq.elim
    | brk => exact hq.elim
    | cont => exact hq.elim
def tCallG (W : WX) (sp : Sp) (t : TA) : TE := fun σ H Q => t σ H fun xs H1 => sp xs H1 Q fun cls d H => W cls d σ H
theorem pe_callG {k : Nat} {f : Addr} {fd : FuncData} {ps : List Str} {sp : Sp} {x : Str} {p pos : Pos} {e : Expr} {es : List Expr} {t : TA} (F : FnG X.prog X.w X.K X.mg X.base k f fd ps sp) (hr : Rm k X.A) (hg : Gl X x) (hm : X.mg x = some (.ref f)) (hk : PySem.W.keepIn X.K (.ref f) = true) (hb : Binds X.K fd ps []) (tk : Takes X W)
    (ha : PA X (e :: es) t) (hdb : (x == ("__debug__" : Str)) = false := by decide) (he : starEach (e :: es) X.env = (false, eval e X.env) :: starEach es X.env := by rfl) (hpl : (backTo pos (starEach es X.env)).any (·.1) = false := by rfl) :
    PE X (.Call (.Name x p) (e :: es) [] pos) (tCallG W sp t) := by
  refine ⟨fun pins s σ H Q I h => wpAny_Call_Name_kw (ld_glob I hg hm ?_ hdb)⟩
  exact PySem.W.callWith_K (h₀ := X.base) I.ok.mod.kin hk (thn (ha.run pos pins s σ H _ I h) fun us s1 ⟨xs, H1, I1, r, q⟩ => ⟨I1.kIn, run_fnG F hr hb tk I1 r q⟩) he hpl
theorem pe_call0G {k : Nat} {f : Addr} {fd : FuncData} {ps : List Str} {sp : Sp} {x : Str} {p pos : Pos} (F : FnG X.prog X.w X.K X.mg X.base k f fd ps sp) (hr : Rm k X.A) (hg : Gl X x) (hm : X.mg x = some (.ref f)) (hk : PySem.W.keepIn X.K (.ref f) = true) (hb : Binds X.K fd ps []) (tk : Takes X W)
    (hdb : (x == ("__debug__" : Str)) = false := by decide) : PE X (.Call (.Name x p) [] [] pos) (tCallG W sp tNil) := by
  refine ⟨fun pins s σ H Q I h => wpAny_Call_Name_kw (ld_glob I hg hm ?_ hdb)⟩
  exact PySem.W.callWith_K0 I.kIn hk (run_fnG (us := []) F hr hb tk I .nil h)

def scal : T → Bool
  | .non => true
  | .bl _ => true
  | .int _ => true
  | .str _ => true
  | _ => false
def scalE : T → Bool
  | .exc _ _ ts => ts.all scal
  | _ => false
theorem Rep.scal {F F' : Hp} {t : T} {x : V} (h : scal t = true) (r : Rep G F t x) : Rep G F' t x := by
  cases t <;> simp only [Pb.scal] at h <;> first | exact r | cases h
theorem Own.scal {F F' H : Hp} {d : Nat} {t : T} {x : V} {as : List Addr} (h : scal t = true) (p : Own G F H d t x as) : Rep G F' t x := by
  cases d with
  | zero => exact Rep.scal h p.2
  | succ d => cases t <;> simp only [Pb.scal] at h <;> first | exact p.2 | cases h
theorem Reps.scal {F F' : Hp} : ∀ {ts : List T} {xs : List V}, ts.all Pb.scal = true → Reps G F ts xs → Reps G F' ts xs
  | [], _, _, r => r
  | t :: ts, xs, h, r => by
    obtain ⟨x, xr, e, a, b⟩ := r
    simp only [List.all_cons, Bool.and_eq_true] at h
    exact ⟨x, xr, e, Rep.scal h.1 a, Reps.scal h.2 b⟩
def mCall (mf : MF) (m : MA) : M := fun ρ => (m ρ).bind fun rs ρ1 => match mf (rs.map (·.t)) with
  | .ok r _ => if noAl rs = true then (if r.al = true then .no else .ok r ρ1) else if scal r.t = true then .ok (fz r.t) ρ1 else .no
  | .ex e _ => if noAl rs = true then .ex e ρ1 else .no
  | .no => .no
theorem argd_all {F H : Hp} : ∀ {rs : List Rz} {xs : List V}, Argd G F H rs xs → ∃ as : List Addr, (∀ a ∈ as, ∃ o, H a = some o ∧ NoT o) ∧ ∀ F', Sub F F' → (∀ a ∈ as, F' a = H a) → Reps G F' (rs.map (·.t)) xs
  | [], xs, h => ⟨[], fun _ h => absurd h (by simp), fun F' _ _ => h⟩
  | r :: rs, xs, h => by
    obtain ⟨x, xr, as, rfl, p, h⟩ := h
    obtain ⟨bs, o, q⟩ := argd_all h
    exact ⟨as ++ bs, fun c hc => (List.mem_append.mp hc).elim (fun hc => (p.at c hc).2) (o c), fun F' s e => ⟨x, xr, rfl, p.freeze s fun a ha => e a (List.mem_append_left _ ha), q F' s fun a ha => e a (List.mem_append_right _ ha)⟩⟩
theorem call_imp {pu : Bool} {es : List Expr} {m : MA} {mf : MF} {np : Nat} (h : JA X G W pu es m) {σ : SL} {H : Hp} {Q : VK} (hnp : ∀ ρ rs ρ', m ρ = .ok rs ρ' → rs.length = np) (hq : tJ G W pu (mCall mf m) σ H Q) : tCallG W (spP G np mf) (tJA G W pu m) σ H Q := by
  obtain ⟨F, ρ, fr, g, o⟩ := hq
  refine h.seq (pu := pu) g id o fun rs ρ1 xs F1 H1 e1 s1 p1 g1 a1 o1 => ?_
  have hl : xs.length = np := by rw [a1.length]; exact hnp _ _ _ e1
  by_cases hna : noAl rs = true
  · obtain ⟨F2, s2, g2, r2, n2⟩ := freezeAll g1 a1 hna (pu = true) (fun z => (p1 z).2)
    refine ⟨F2, rs.map (·.t), g2.sub, g2.nt, g2.tab, r2, hl, ?_⟩
    cases e : mf (rs.map (·.t)) with
    | no => rw [e] at o1; exact o1.elim
    | ok r ρ' =>
      rw [e] at o1
      simp only at o1
      rw [if_pos hna] at o1
      split at o1
      · exact o1.elim
      rename_i hr
      exact fun x F' H' nw => o1.fin (xt := []) (s1.trans s2) (fun z => .of_freeze (p1 z).1 s2 (n2 z) g2.nt) g2 (by simpa using hr) nw
    | ex e' ρ' =>
      rw [e] at o1
      simp only at o1
      rw [if_pos hna] at o1
      exact fun cls d F' H' ex sb q => o1 cls d F' H' ((s1.trans s2).trans ex.low) (g2.ext ex sb) q
  · obtain ⟨as, ao, q⟩ := argd_all (argd g1 a1)
    have sA := sub_add (F := F1) (H := H1) (as := as) g1.sub
    refine ⟨add F1 H1 as, rs.map (·.t), add_sub g1.sub, nt_add g1.nt ao, g1.tab, q _ sA fun a ha => add_in ha, hl, ?_⟩
    have back : ∀ {F' H' : Hp}, Ext G (add F1 H1 as) H1 F' H' → Sub F' H' → Ext G F1 H1 F1 H' ∧ Sub F1 H' := fun {F' H'} ex sb => ⟨⟨.refl F1, ex.up, fun _ => .inl rfl, ex.tab, id⟩, (sA.trans ex.low).trans sb⟩
    cases e : mf (rs.map (·.t)) with
    | no => rw [e] at o1; exact o1.elim
    | ok r ρ' =>
      rw [e] at o1
      simp only at o1
      rw [if_neg hna] at o1
      split at o1
      · rename_i hs
        intro x F' H' nw
        obtain ⟨ex, sb, bs, p, _, _⟩ := nw
        obtain ⟨e2, s2⟩ := back ex sb
        have g2 := (g1.drop).ext e2 s2
        exact o1.fin (xt := []) s1 (fun z => (p1 z).1.trans e2) g2 rfl (New.val s2 (p.scal hs))
      · exact o1.elim
    | ex e' ρ' =>
      rw [e] at o1
      simp only at o1
      rw [if_neg hna] at o1
      exact o1.elim
theorem quiet_call {pu : Bool} {es : List Expr} {m : MA} {mf : MF} (h : JA X G W pu es m) (z : pu = true) : Quiet (mCall mf m) := fun ρ r ρ' e => by
  obtain ⟨rs, ρ1, e1, h'⟩ := OutA.bind_ok e
  have q := h.pure z _ _ _ e1
  split at h'
  · split at h'
    · split at h'
      · cases h'
      · cases h'; exact q
    · split at h'
      · cases h'; exact q
      · cases h'
  · split at h' <;> cases h'
  · cases h'
/-- f(e, ..), f a def that changes nothing -/
theorem mCons_len {pr : Bool} {ma : M} {mr : MA} {k : Nat} (h : ∀ ρ rs ρ', mr ρ = .ok rs ρ' → rs.length = k) : ∀ ρ rs ρ', mCons pr ma mr ρ = .ok rs ρ' → rs.length = k + 1 := fun ρ rs ρ' e => by
  unfold mCons at e
  cases e1 : ma ρ with
  | ok r ρ1 =>
    rw [e1] at e
    simp only [Out.bindA] at e
    split at e
    · cases e
    · cases e2 : mr ρ1 with
      | ok rs' ρ2 => rw [e2] at e; cases e; rw [List.length_cons, h _ _ _ e2]
      | ex _ _ => rw [e2] at e; cases e
      | no => rw [e2] at e; cases e
  | ex _ _ => rw [e1] at e; cases e
  | no => rw [e1] at e; cases e
theorem mNil_len : ∀ ρ rs ρ', mNil ρ = .ok rs ρ' → rs.length = 0 := fun ρ rs ρ' e => by cases e; rfl
theorem JA.len {pu : Bool} {es : List Expr} {m : MA} (_ : JA X G W pu es m) (h : ∀ ρ rs ρ', m ρ = .ok rs ρ' → rs.length = n) : ∀ ρ rs ρ', m ρ = .ok rs ρ' → rs.length = n := h
theorem r_call {pu : Bool} {k : Nat} {f : Addr} {fd : FuncData} {ps : List Str} {x : Str} {p pos : Pos} {e : Expr} {es : List Expr} {m : MA} {mf : MF} (F : FnG X.prog X.w X.K X.mg X.base k f fd ps (spP G ps.length mf)) (hr : Rm k X.A) (hg : Gl X x) (hm : X.mg x = some (.ref f)) (hk : PySem.W.keepIn X.K (.ref f) = true)
    (hb : Binds X.K fd ps []) (tk : Takes X W) (ha : JA X G W pu (e :: es) m) (hl : ∀ ρ rs ρ', m ρ = .ok rs ρ' → rs.length = ps.length) (hdb : (x == ("__debug__" : Str)) = false := by decide)
    (he : starEach (e :: es) X.env = (false, eval e X.env) :: starEach es X.env := by rfl) (hpl : (backTo pos (starEach es X.env)).any (·.1) = false := by rfl) : J X G W pu (.Call (.Name x p) (e :: es) [] pos) (mCall mf m) :=
  ⟨pe_imp (pe_callG F hr hg hm hk hb tk ha.pa hdb he hpl) fun σ H Q h => call_imp ha hl h, fun z => quiet_call ha z⟩
theorem r_call0 {k : Nat} {f : Addr} {fd : FuncData} {x : Str} {p pos : Pos} {mf : MF} (F : FnG X.prog X.w X.K X.mg X.base k f fd [] (spP G 0 mf)) (hr : Rm k X.A) (hg : Gl X x) (hm : X.mg x = some (.ref f)) (hk : PySem.W.keepIn X.K (.ref f) = true)
    (hb : Binds X.K fd [] []) (tk : Takes X W) (hdb : (x == ("__debug__" : Str)) = false := by decide) : J X G W true (.Call (.Name x p) [] [] pos) (mCall mf mNil) := by
  refine ⟨pe_imp (pe_call0G F hr hg hm hk hb tk hdb) fun σ H Q h => ?_, fun z => quiet_call (W := W) (G := G) (X := X) ra_nil z⟩
  have := call_imp (X := X) (np := 0) ra_nil mNil_len h
  obtain ⟨F', ρ, fr, g, o⟩ := this
  exact o [] F' H (.refl F') (fun _ => ⟨.refl F' H, trivial⟩) g rfl

/-! ### defs that change what their first argument holds -/
def mFunI (n d : Nat) (m : S) : MF := fun ts => if ts.length ≤ n then (m (initE n (d :: zeros ts.tail) ts)).out (fun ρ => [ρ[0]?.getD none]) else .no
/-- the first argument at depth d (0: as any other) -/
def spI (G : Gx) (np d : Nat) (mf : MF) : Sp := fun xs H Q E => ∃ F t ts x xr fr, xs = x :: xr ∧ Good G F H ((d, t, x) :: fr) ∧ Reps G F ts xr ∧ xs.length = np ∧
  match mf (t :: ts) with
  | .ok r ρ' => ∀ z F' H', Sub F F' → Good G F' H' ((r.d, r.t, z) :: (ents ρ' [some x] ++ fr)) → Q z H'
  | .ex e ρ' => ∀ cls dd F' H', Sub F F' → Good G F' H' (ents ρ' [some x] ++ fr) → ExAt G F' H' e cls dd → E cls dd H'
  | .no => False
theorem ents_zero {ρ : En} {σ : SL} : (ents ρ σ).Perm (entOf (ρ[0]?.getD none) σ[0]? ++ ents (ρ.drop 1) (σ.drop 1)) := by
  cases ρ with
  | nil => exact .refl _
  | cons s ρ => exact .refl _
theorem fn_io {P : Program} {w : World} {mg : Str → Option Value} {base : Heap} {x qual : Str} {st : Stmt} {f : Addr} {fd : FuncData} {N ps : List Str} {k n d : Nat} {m : S} (F : Fun G.K x qual st f fd) (S : FnScope N ps (defScope st)) (hn : N.length = n)
    (body : ∀ (cdv : Value) (A : Around) (outer : List Env) (s : Shared) (H : Hp) (E : XK), fd.code = cdv → Rm k (A.deeper (envOfC qual (defScope st) s.heap.objs.size f cdv)) → JB (bodyX P w G.K mg base N qual (defScope st) f cdv A outer s H E) G (WB E) [0] n (defBody st) m) :
    FnG P w G.K mg base (k + 1) f fd ps (spI G ps.length d (mFunI n d m)) := by
  have hpl : ps.length ≤ N.length := by have := congrArg List.length S.pre; rw [List.length_take] at this; omega
  refine FnG.of F S (fun xs H Q E ⟨F, t, ts, x, xr, fr, _, _, _, h, _⟩ => h) fun cdv A outer s H xs Q E hcd hr hok ⟨F0, t, ts, x, xr, fr, exs, g0, rp, hxl, o⟩ => ?_
  have jb := body cdv A outer s H E hcd hr
  refine ⟨_, jb.ps, ?_⟩
  have htl := rp.length
  have hle : (t :: ts).length ≤ n := by
    rw [List.length_cons, htl, ← hn]
    rw [exs, List.length_cons] at hxl
    omega
  unfold mFunI at o
  rw [if_pos hle] at o
  have hst : L2.start N xs = some x :: (xr.map some ++ List.replicate (n - (t :: ts).length) none) := by
    unfold L2.start
    rw [exs, hn, List.length_cons, List.length_cons, htl]
    rfl
  have hsl : (L2.start N xs).length = n := by
    rw [hst]
    simp only [List.length_cons, List.length_append, List.length_map, List.length_replicate] at hle ⊢
    omega
  refine ⟨F0, initE n (d :: zeros ts) (t :: ts), fr, ?_, hsl, ?_⟩
  · rw [hst]
    have g1 := ents_init (k := n - (t :: ts).length) (y := List.replicate (n - (t :: ts).length) none) g0 rp
    exact g1.perm (List.perm_middle)
  · have keep : ∀ {ρ : En} {σ' : SL} {es : List Ent} {F' H' : Hp}, Kept [0] n (L2.start N xs) σ' → Good G F' H' (es ++ (ents ρ σ' ++ fr)) → Good G F' H' (es ++ (ents [ρ[0]?.getD none] [some x] ++ fr)) := by
      intro ρ σ' es F' H' k' g'
      have e0 : σ'[0]? = some (some x) := by
        rw [k'.same 0 List.mem_cons_self, hst]; rfl
      have g2 := g'.perm (((ents_zero (ρ := ρ) (σ := σ')).append_right fr).append_left es)
      rw [e0] at g2
      rw [List.append_assoc] at g2
      have g3 : Good G F' H' ((ents (ρ.drop 1) (σ'.drop 1)) ++ (es ++ (entOf (ρ[0]?.getD none) (some (some x)) ++ fr))) := by
        refine g2.perm ?_
        refine ((perm_mid _ _ _).append_left es).trans ?_
        exact perm_mid _ _ _
      have g4 := g3.drop
      show Good G F' H' (es ++ ((entOf (ρ[0]?.getD none) (some (some x)) ++ []) ++ fr))
      rw [List.append_nil]
      exact g4
    cases e : m (initE n (d :: zeros ts) (t :: ts)) with
    | nx ρ =>
      have o' := o
      simp only [List.tail_cons] at o'
      rw [e] at o'
      intro σ' F' H' s' k' g'
      exact o' .non F' H' s' ((keep (es := []) k' g').zero rfl)
    | rt r ρ =>
      have o' := o
      simp only [List.tail_cons] at o'
      rw [e] at o'
      intro z σ' F' H' s' k' g'
      exact o' z F' H' s' (keep (es := [(r.d, r.t, z)]) k' g')
    | ex e' ρ =>
      have o' := o
      simp only [List.tail_cons] at o'
      rw [e] at o'
      intro cls dd σ' F' H' s' k' g' q
      exact o' cls dd F' H' s' (keep (es := []) k' g') q
    | bk ρ =>
      have o' := o
      simp only [List.tail_cons] at o'
      rw [e] at o'; exact o'.elim
    | ct ρ =>
      have o' := o
      simp only [List.tail_cons] at o'
      rw [e] at o'; exact o'.elim
    | no =>
      have o' := o
      simp only [List.tail_cons] at o'
      rw [e] at o'; exact o'.elim
end
end Pb
end
/- Q11 -/
section
set_option Elab.async false
set_option linter.all false
set_option maxRecDepth 100000
namespace Pb
open PySem PySem.Spec PyProof.Rows L2
section
variable {X : Cx} {G : Gx} {W : WX} {pin : List Nat} {n : Nat}
theorem ents_put {ρ : En} {σ : SL} {i : Nat} {s : Sl} (hi : i < ρ.length) : (ents (ρ.set i s) σ).Perm (entOf s σ[i]? ++ ents (ρ.set i none) σ) := by
  have h : (ρ.set i s)[i]? = some s := by simp [hi]
  have p := ents_at (σ := σ) h
  rw [List.set_set] at p
  exact p
/-- f(x, e, ..), x a slot whose content f changes -/
def mCallI (i d : Nat) (mf : MF) (m : MA) : M := fun ρ => match ρ[i]? with
  | some (some _) => (m ρ).bind fun rs ρ1 => if noAl rs = true then match ρ1[i]? with
      | some (some (d', t)) => if d' = d then match mf (t :: rs.map (·.t)) with
          | .ok r ρ' => if r.al = true then .no else .ok r (ρ1.set i (ρ'[0]?.getD none))
          | .ex e ρ' => .ex e (ρ1.set i (ρ'[0]?.getD none))
          | .no => .no
        else .no
      | _ => .no
    else .no
  | _ => .no
theorem r_callI {pu : Bool} {i d k : Nat} {f : Addr} {fd : FuncData} {ps : List Str} {x y : Str} {p p' pos : Pos} {es : List Expr} {m : MA} {mf : MF} (F : FnG X.prog X.w X.K X.mg X.base k f fd ps (spI G ps.length d mf)) (hr : Rm k X.A) (hg : Gl X x) (hm : X.mg x = some (.ref f)) (hk : PySem.W.keepIn X.K (.ref f) = true)
    (hb : Binds X.K fd ps []) (tk : Takes X W) (hN : X.N[i]? = some y) (hv : Vis X.env.scope y) (ha : JA X G W pu es m) (hl : ∀ ρ rs ρ', m ρ = .ok rs ρ' → rs.length + 1 = ps.length) (hdb : (x == ("__debug__" : Str)) = false := by decide)
    (hdy : (y == ("__debug__" : Str)) = false := by decide) (hcy : (y == ("__classdict__" : Str)) = false := by decide)
    (he : starEach (.Name y p' :: es) X.env = (false, eval (.Name y p') X.env) :: starEach es X.env := by rfl) (hpl : (backTo pos (starEach es X.env)).any (·.1) = false := by rfl) : J X G W false (.Call (.Name x p) (.Name y p' :: es) [] pos) (mCallI i d mf m) := by
  refine ⟨pe_imp (pe_callG F hr hg hm hk hb tk (pa_cons (pe_var (pos := p') hN hv hdy hcy) ha.pa he) hdb he hpl) fun σ H Q ⟨F0, ρ, fr, g, o⟩ => ?_, fun z => nomatch z⟩
  unfold mCallI at o
  split at o
  · rename_i s0 es0
    obtain ⟨d0, t0⟩ := s0
    obtain ⟨v, hs, _⟩ := g.slot es0
    refine ⟨v, hs, ?_⟩
    refine ha.seq (pu := false) (G := G) (W := W) g (fun z => nomatch z) o fun rs ρ1 xs F1 H1 e1 s1 p1 g1 a1 o1 => ?_
    split at o1
    · rename_i hna
      obtain ⟨F2, s2, g2, r2, _⟩ := freezeAll g1 a1 hna (H0 := H1) False (fun z => z.elim)
      split at o1
      · rename_i d' t e2
        split at o1
        · rename_i hd
          subst hd
          obtain ⟨v', hs', g3⟩ := g2.slot e2
          rw [hs] at hs'
          cases hs'
          have hi := getElem?_lt e2
          refine ⟨F2, t, rs.map (·.t), v, xs, _, rfl, g3, r2, by rw [List.length_cons, a1.length]; exact hl _ _ _ e1, ?_⟩
          have back : ∀ {ρ' : En} {F' H' : Hp} {es : List Ent}, Good G F' H' (es ++ (ents ρ' [some v] ++ (ents (ρ1.set i none) σ ++ fr))) → Good G F' H' (es ++ (ents (ρ1.set i (ρ'[0]?.getD none)) σ ++ fr)) := by
            intro ρ' F' H' es g4
            have g5 := g4.perm (((ents_zero (ρ := ρ') (σ := [some v])).append_right _).append_left es)
            have g6 : Good G F' H' (ents (ρ'.drop 1) ([some v].drop 1) ++ (es ++ (entOf (ρ'[0]?.getD none) (some (some v)) ++ (ents (ρ1.set i none) σ ++ fr)))) := by
              refine g5.perm ?_
              rw [List.append_assoc]
              exact ((perm_mid _ _ _).append_left es).trans (perm_mid _ _ _)
            refine (g6.drop).perm (List.Perm.append_left es ?_)
            rw [← List.append_assoc]
            refine List.Perm.append_right fr ?_
            have p := ents_put (σ := σ) (s := ρ'[0]?.getD none) hi
            rw [hs] at p
            exact p.symm
          cases e3 : mf (t :: rs.map (·.t)) with
          | no => rw [e3] at o1; exact o1.elim
          | ok r ρ' =>
            rw [e3] at o1
            simp only at o1
            split at o1
            · exact o1.elim
            rename_i hal
            intro z F' H' s' g4
            refine o1 z F' H' ((s1.trans s2).trans s') (fun w => nomatch w) ?_ (.zero (by simpa using hal))
            rw [show r.ent z = [(r.d, r.t, z)] from if_neg hal]
            exact back (es := [(r.d, r.t, z)]) g4
          | ex e' ρ' =>
            rw [e3] at o1
            intro cls dd F' H' s' g4 q
            exact o1 cls dd F' H' ((s1.trans s2).trans s') (back (es := []) g4) q
        · exact o1.elim
      · exact o1.elim
    · exact o1.elim
  · exact o.elim
/-- f(e, ..), f a def that may change tables of code alone -/
def mCallM (mf : MF) (m : MA) : M := fun ρ => (m ρ).bind fun rs ρ1 => if noAl rs = true then match mf (rs.map (·.t)) with
    | .ok r _ => if r.al = true then .no else .ok r ρ1
    | .ex e _ => .ex e ρ1
    | .no => .no
  else .no
theorem r_callM {pu : Bool} {k : Nat} {f : Addr} {fd : FuncData} {ps : List Str} {x : Str} {p pos : Pos} {e : Expr} {es : List Expr} {m : MA} {mf : MF} (F : FnG X.prog X.w X.K X.mg X.base k f fd ps (spI G ps.length 0 mf)) (hr : Rm k X.A) (hg : Gl X x) (hm : X.mg x = some (.ref f)) (hk : PySem.W.keepIn X.K (.ref f) = true)
    (hb : Binds X.K fd ps []) (tk : Takes X W) (ha : JA X G W pu (e :: es) m) (hl : ∀ ρ rs ρ', m ρ = .ok rs ρ' → rs.length = ps.length) (hps : 0 < ps.length) (hdb : (x == ("__debug__" : Str)) = false := by decide)
    (he : starEach (e :: es) X.env = (false, eval e X.env) :: starEach es X.env := by rfl) (hpl : (backTo pos (starEach es X.env)).any (·.1) = false := by rfl) : J X G W false (.Call (.Name x p) (e :: es) [] pos) (mCallM mf m) := by
  refine ⟨pe_imp (pe_callG F hr hg hm hk hb tk ha.pa hdb he hpl) fun σ H Q ⟨F0, ρ, fr, g, o⟩ => ?_, fun z => nomatch z⟩
  refine ha.seq (pu := false) (G := G) (W := W) g (fun z => nomatch z) o fun rs ρ1 xs F1 H1 e1 s1 p1 g1 a1 o1 => ?_
  split at o1
  · rename_i hna
    obtain ⟨F2, s2, g2, r2, _⟩ := freezeAll g1 a1 hna (H0 := H1) False (fun z => z.elim)
    have hlen := hl _ _ _ e1
    cases rs with
    | nil => rw [List.length_nil] at hlen; omega
    | cons r0 rs =>
      obtain ⟨x0, xr, rfl, ra, rb⟩ := r2
      refine ⟨F2, r0.t, rs.map (·.t), x0, xr, ents ρ1 σ ++ fr, rfl, g2.zero ra, rb, by rw [a1.length]; exact hlen, ?_⟩
      have back : ∀ {ρ' : En} {F' H' : Hp} {es : List Ent}, Good G F' H' (es ++ (ents ρ' [some x0] ++ (ents ρ1 σ ++ fr))) → Good G F' H' (es ++ (ents ρ1 σ ++ fr)) := fun {ρ' F' H' es} g4 => (g4.mid).drop
      cases e3 : mf (r0.t :: rs.map (·.t)) with
      | no => rw [List.map_cons, e3] at o1; exact o1.elim
      | ok r ρ' =>
        rw [List.map_cons, e3] at o1
        simp only at o1
        split at o1
        · exact o1.elim
        rename_i hal
        intro z F' H' s' g4
        refine o1 z F' H' ((s1.trans s2).trans s') (fun w => nomatch w) ?_ (.zero (by simpa using hal))
        rw [show r.ent z = [(r.d, r.t, z)] from if_neg hal]
        exact back (es := [(r.d, r.t, z)]) g4
      | ex e' ρ' =>
        rw [List.map_cons, e3] at o1
        intro cls dd F' H' s' g4 q
        exact o1 cls dd F' H' ((s1.trans s2).trans s') (back (es := []) g4) q
  · exact o1.elim
end
end Pb
end
/- Q12 -/
section
set_option Elab.async false
set_option linter.all false
set_option maxRecDepth 100000
namespace Pb
open PySem PySem.Spec PyProof.Rows L2
section
variable {X : Cx} {G : Gx} {W : WX}

/-! ### ints -/
def gI (c : Int → Int → Bool) (k : Int → Int → Int) : Rz → Rz → Option Rz := fun a b => match a.t, b.t with
  | .int i, .int j => if c i j = true then some (fz (.int (k i j))) else none
  | _, _ => none
def gB (k : Int → Int → Bool) : Rz → Rz → Option Rz := fun a b => match a.t, b.t with
  | .int i, .int j => some (fz (.bl (k i j)))
  | _, _ => none
theorem op2I {f : Value → Value → Sem Value} {C : Int → Int → Prop} {k : Int → Int → Int} {c : Int → Int → Bool} (h : OpR X f (rI C fun i j => .int (k i j))) (hc : ∀ i j, c i j = true → C i j) : Op2 X G f (gI c k) := by
  intro pins s σ H F x y v u r1 r2 r as bs Q I rx ry q1 q2 q3 q4 q5 q6 q7
  unfold gI at q5
  split at q5
  · rename_i i j e1 e2
    split at q5
    · rename_i hcc
      injection q5 with q5
      subst q5
      rw [e1] at q3
      rw [e2] at q4
      exact h pins s σ H x y v u Q I rx ry ⟨i, j, own_int q3, own_int q4, hc i j hcc, q7 _ F H (New.val q1 rfl)⟩
    · cases q5
  · cases q5
theorem op2B {f : Value → Value → Sem Value} {k : Int → Int → Bool} (h : OpR X f (rI0 fun i j => .bl (k i j))) : Op2 X G f (gB k) := by
  intro pins s σ H F x y v u r1 r2 r as bs Q I rx ry q1 q2 q3 q4 q5 q6 q7
  unfold gB at q5
  split at q5
  · rename_i i j e1 e2
    injection q5 with q5
    subst q5
    rw [e1] at q3
    rw [e2] at q4
    exact h pins s σ H x y v u Q I rx ry ⟨i, j, own_int q3, own_int q4, q7 _ F H (New.val q1 rfl)⟩
  · cases q5
def small (i : Int) : Bool := decide (-18446744073709551616 < i) && decide (i < 18446744073709551616)
def mulOk (i j : Int) : Bool := small i || small j || decide (i.natAbs.log2 + j.natAbs.log2 < 1000000)
theorem opR_mul : OpR X (binaryOp .Mult) (rI (fun i j => mulOk i j = true) fun i j => .int (i * j)) := opI fun i j _ _ _ _ _ hc q => mul_int q (by
  unfold mulOk at hc
  rw [Bool.or_eq_true, Bool.or_eq_true] at hc
  rcases hc with (h | h) | h
  · simp only [small, Bool.and_eq_true, decide_eq_true_eq] at h
    exact CMul.ok (.inl h)
  · simp only [small, Bool.and_eq_true, decide_eq_true_eq] at h
    exact CMul.ok (.inr h)
  · exact CMulW.ok (of_decide_eq_true h : i.natAbs.log2 + j.natAbs.log2 < 1000000))
def divOk (_ j : Int) : Bool := decide (0 < j) && (decide (j < 1073741824) || decide (j.natAbs.log2 < 9000))
theorem opR_fdiv : OpR X (binaryOp .FloorDiv) (rI (fun i j => divOk i j = true) fun i j => .int (i / j)) := by
  intro pins s σ H x y v u Q I rx ry h
  obtain ⟨i, j, e1, e2, hc, q⟩ := h
  simp only [divOk, Bool.and_eq_true, Bool.or_eq_true, decide_eq_true_eq] at hc
  rcases hc.2 with h | h
  · exact op_fdiv pins s σ H x y v u Q I rx ry ⟨i, j, e1, e2, ⟨hc.1, h⟩, q⟩
  · exact op_fdivW pins s σ H x y v u Q I rx ry ⟨i, j, e1, e2, ⟨hc.1, h⟩, q⟩
def tt2 (_ _ : Int) : Bool := true
theorem opR_top {f : Value → Value → Sem Value} {k : Int → Int → Int} (h : OpR X f (rI0 fun i j => .int (k i j))) : OpR X f (rI (fun i j => tt2 i j = true) fun i j => .int (k i j)) := fun pins s σ H x y v u Q I rx ry ⟨i, j, e1, e2, _, q⟩ => h pins s σ H x y v u Q I rx ry ⟨i, j, e1, e2, q⟩
def posOk (_ j : Int) : Bool := decide (0 < j)
def powOk (i j : Int) : Bool := decide (0 ≤ j) && decide (j ≤ 1000) && decide (i.natAbs < 18446744073709551616)
theorem o_subI : Op2 X G (binaryOp .Sub) (gI tt2 fun i j => i - j) := op2I (opR_top op_sub) fun _ _ h => h
theorem o_fdiv : Op2 X G (binaryOp .FloorDiv) (gI divOk fun i j => i / j) := op2I opR_fdiv fun _ _ h => h
theorem o_mod : Op2 X G (binaryOp .Mod) (gI posOk fun i j => i % j) := op2I op_mod fun _ _ h => of_decide_eq_true h
theorem o_pow : Op2 X G (binaryOp .Pow) (gI powOk fun i j => i ^ j.toNat) := op2I op_pow fun i j h => by
  simp only [powOk, Bool.and_eq_true, decide_eq_true_eq] at h
  exact ⟨h.1.1, by omega, h.2⟩
theorem o_addI : Op2 X G (binaryOp .Add) (gI tt2 fun i j => i + j) := op2I (opR_top op_add) fun _ _ h => h
theorem o_mulI : Op2 X G (binaryOp .Mult) (gI mulOk fun i j => i * j) := op2I opR_mul fun _ _ h => h
theorem o_lt : Op2 X G (compareOp .Lt) (gB fun i j => decide (i < j)) := op2B op_lt
theorem o_le : Op2 X G (compareOp .LtE) (gB fun i j => decide (i ≤ j)) := op2B op_le
theorem o_gt : Op2 X G (compareOp .Gt) (gB fun i j => decide (j < i)) := op2B op_gt
theorem o_ge : Op2 X G (compareOp .GtE) (gB fun i j => decide (j ≤ i)) := op2B op_ge
def gNeg : Rz → Option Rz := fun a => match a.t with
  | .int i => some (fz (.int (-i)))
  | _ => none
theorem o_neg : Op1 X G (unaryOp .USub) gNeg := by
  intro pins s σ H F x v r1 r as Q I rx q1 q2 q3 q5 q6 q7
  unfold gNeg at q5
  split at q5
  · rename_i i e1
    injection q5 with q5
    subst q5
    rw [e1] at q3
    exact un_neg pins s σ H x v Q I rx ⟨i, own_int q3, q7 _ F H (New.val q1 rfl)⟩
  · cases q5

/-! ### == of data -/
/-- data of depth at most so much -/
def dle : Nat → T → Bool
  | _, .non => true
  | _, .bl _ => true
  | _, .int _ => true
  | _, .str s => PyData.strOk s
  | 0, .tup _ => false
  | 0, .lst _ => false
  | 0, .frl _ => false
  | 0, .frt _ => false
  | n + 1, .tup ts => ts.all (dle n)
  | n + 1, .lst ts => ts.all (dle n)
  | n + 1, .frl ts => ts.all (dle n)
  | n + 1, .frt ts => ts.all (dle n)
  | _, _ => false
mutual
def toD : T → PyData
  | .bl b => .bool b
  | .int i => .int i
  | .str s => .str s
  | .tup ts => .tuple (toDs ts)
  | .lst ts => .list (toDs ts)
  | .frl ts => .list (toDs ts)
  | .frt ts => .tuple (toDs ts)
  | _ => .none
def toDs : List T → List PyData
  | [] => []
  | t :: ts => toD t :: toDs ts
end
def eqT (a b : T) : Bool := PyData.eqv (toD a) (toD b)
theorem dps_of {H : Hp} {n : Nat} (ih : ∀ (t : T) (x : V), dle n t = true → Rep G H t x → Dp G.K H x (toD t) ∧ (toD t).canLay0 = true ∧ (toD t).depth ≤ n) : ∀ (ts : List T) (xs : List V), ts.all (dle n) = true → Reps G H ts xs → DpAll G.K H xs (toDs ts) ∧ PyData.canLayAll0 (toDs ts) = true ∧ PyData.depthAll (toDs ts) ≤ n
  | [], xs, _, r => by
    have e : xs = [] := r
    subst e
    exact ⟨.nil, rfl, Nat.zero_le _⟩
  | t :: ts, xs, h, r => by
    obtain ⟨x, xr, rfl, a, b⟩ := r
    simp only [List.all_cons, Bool.and_eq_true] at h
    obtain ⟨i1, i2, i3⟩ := ih t x h.1 a
    obtain ⟨j1, j2, j3⟩ := dps_of ih ts xr h.2 b
    refine ⟨.cons i1 j1, ?_, ?_⟩
    · simp only [toDs, PyData.canLayAll0, i2, j2, Bool.and_self]
    · simp only [toDs, PyData.depthAll]
      omega
theorem dp_of {H : Hp} : ∀ (n : Nat) (t : T) (x : V), dle n t = true → Rep G H t x → Dp G.K H x (toD t) ∧ (toD t).canLay0 = true ∧ (toD t).depth ≤ n := by
  intro n
  induction n with
  | zero =>
    intro t x h r
    cases t <;> simp only [dle] at h <;> first
      | (have e : x = _ := r; subst e; refine ⟨by constructor, ?_, ?_⟩ <;> simp [toD, PyData.canLay0, PyData.depth, h])
      | cases h
  | succ n ih =>
    intro t x h r
    cases t with
    | tup ts =>
      obtain ⟨a, vs, rfl, q, r⟩ := r
      obtain ⟨i1, i2, i3⟩ := dps_of ih ts vs (by simpa [dle] using h) r
      refine ⟨.tup (.of q) i1, by simpa [toD, PyData.canLay0] using i2, ?_⟩
      simp only [toD, PyData.depth]
      omega
    | lst ts =>
      obtain ⟨a, vs, rfl, q, r⟩ := r
      obtain ⟨i1, i2, i3⟩ := dps_of ih ts vs (by simpa [dle] using h) r
      refine ⟨.lst (.of q) i1, by simpa [toD, PyData.canLay0] using i2, ?_⟩
      simp only [toD, PyData.depth]
      omega
    | frl ts =>
      obtain ⟨a, vs, rfl, q, r⟩ := r
      obtain ⟨i1, i2, i3⟩ := dps_of ih ts vs (by simpa [dle] using h) r
      refine ⟨.lst q i1, by simpa [toD, PyData.canLay0] using i2, ?_⟩
      simp only [toD, PyData.depth]
      omega
    | frt ts =>
      obtain ⟨a, vs, rfl, q, r⟩ := r
      obtain ⟨i1, i2, i3⟩ := dps_of ih ts vs (by simpa [dle] using h) r
      refine ⟨.tup q i1, by simpa [toD, PyData.canLay0] using i2, ?_⟩
      simp only [toD, PyData.depth]
      omega
    | _ => simp only [dle] at h <;> first
      | (have e : x = _ := r; subst e; refine ⟨by constructor, ?_, ?_⟩ <;> simp [toD, PyData.canLay0, PyData.depth, h])
      | cases h
theorem Own.now {F H : Hp} (s : Sub F H) {d : Nat} {t : T} {x : V} {as : List Addr} (p : Own G F H d t x as) : Rep G H t x := p.freeze s fun _ _ => rfl
theorem shaped_of {H : Hp} {t : T} {x : V} (h : dle 64 t = true) (r : Rep G H t x) : Dp G.K H x (toD t) ∧ SeqAt.shaped (toD t) = true := by
  obtain ⟨i1, i2, i3⟩ := dp_of 64 t x h r
  exact ⟨i1, by unfold SeqAt.shaped; rw [i2, decide_eq_true i3]; rfl⟩
def gEq : Rz → Rz → Option Rz := fun a b => if (dle 64 a.t && dle 64 b.t) = true then some (fz (.bl (eqT a.t b.t))) else none
def gNe : Rz → Rz → Option Rz := fun a b => if (dle 64 a.t && dle 64 b.t) = true then some (fz (.bl (!eqT a.t b.t))) else none
theorem o_eq (hK : X.K = G.K) (hr : Rn X.A) : Op2 X G (compareOp .Eq) gEq := by
  intro pins s σ H F x y v u r1 r2 r as bs Q I rx ry q1 q2 q3 q4 q5 q6 q7
  unfold gEq at q5
  split at q5
  · rename_i h
    simp only [Bool.and_eq_true] at h
    injection q5 with q5
    subst q5
    obtain ⟨d1, s1⟩ := shaped_of h.1 (q3.now q1)
    obtain ⟨d2, s2⟩ := shaped_of h.2 (q4.now q1)
    exact op_eqD (by have := hr.un; omega) pins s σ H x y v u Q I rx ry ⟨_, _, by rw [hK]; exact d1, by rw [hK]; exact d2, s1, s2, q7 _ F H (New.val q1 rfl)⟩
  · cases q5
theorem o_ne (hK : X.K = G.K) (hr : Rn X.A) : Op2 X G (compareOp .NotEq) gNe := by
  intro pins s σ H F x y v u r1 r2 r as bs Q I rx ry q1 q2 q3 q4 q5 q6 q7
  unfold gNe at q5
  split at q5
  · rename_i h
    simp only [Bool.and_eq_true] at h
    injection q5 with q5
    subst q5
    obtain ⟨d1, s1⟩ := shaped_of h.1 (q3.now q1)
    obtain ⟨d2, s2⟩ := shaped_of h.2 (q4.now q1)
    exact op_neD (by have := hr.un; omega) pins s σ H x y v u Q I rx ry ⟨_, _, by rw [hK]; exact d1, by rw [hK]; exact d2, s1, s2, q7 _ F H (New.val q1 rfl)⟩
  · cases q5

/-! ### in -/
def gIn (neg : Bool) : Rz → Rz → Option Rz := fun a b => if (dle 64 a.t && dle 64 b.t) = true then match b.t with
  | .lst ts => some (fz (.bl (neg != ts.any fun z => eqT z a.t)))
  | .tup ts => some (fz (.bl (neg != ts.any fun z => eqT z a.t)))
  | .frl ts => some (fz (.bl (neg != ts.any fun z => eqT z a.t)))
  | .frt ts => some (fz (.bl (neg != ts.any fun z => eqT z a.t)))
  | _ => none
  else none
theorem any_toDs (ts : List T) (t : T) : (toDs ts).any (fun z => PyData.eqv z (toD t)) = ts.any fun z => eqT z t := by
  induction ts with
  | nil => rfl
  | cons a ts ih => simp only [toDs, List.any_cons, ih]; rfl
theorem o_in (hK : X.K = G.K) (hr : Rn X.A) : Op2 X G (compareOp .In) (gIn false) := by
  intro pins s σ H F x y v u r1 r2 r as bs Q I rx ry q1 q2 q3 q4 q5 q6 q7
  have hu : X.A.units + 65 < cLine := by have := hr.un; omega
  unfold gIn at q5
  split at q5
  · rename_i h
    simp only [Bool.and_eq_true] at h
    obtain ⟨d1, s1⟩ := shaped_of h.1 (q3.now q1)
    obtain ⟨d2, s2⟩ := shaped_of h.2 (q4.now q1)
    rw [← hK] at d1 d2
    obtain ⟨as1, p1⟩ := Dp.reads I _ x v d1 rx
    obtain ⟨as2, p2⟩ := Dp.reads I _ y u d2 ry
    split at q5
    · rename_i ts et
      injection q5 with q5
      subst q5
      rw [et] at p2 s2
      refine SeqAt.in_list_reads (xs := toDs ts) p2 p1 (SeqAt.canLay_of_shaped (d := toD (.lst ts)) s2) (SeqAt.canLay_of_shaped s1) (room_in_shaped s1 hu) ⟨.bl _, H, I, rfl, ?_⟩
      rw [any_toDs]
      exact q7 _ F H (New.val q1 (by simp [Rep]))
    · rename_i ts et
      injection q5 with q5
      subst q5
      rw [et] at p2 s2
      refine SeqAt.in_tuple_reads (xs := toDs ts) p2 p1 (SeqAt.canLay_of_shaped (d := toD (.tup ts)) s2) (SeqAt.canLay_of_shaped s1) (room_in_shaped s1 hu) ⟨.bl _, H, I, rfl, ?_⟩
      rw [any_toDs]
      exact q7 _ F H (New.val q1 (by simp [Rep]))
    · rename_i ts et
      injection q5 with q5
      subst q5
      rw [et] at p2 s2
      refine SeqAt.in_list_reads (xs := toDs ts) p2 p1 (SeqAt.canLay_of_shaped (d := toD (.frl ts)) s2) (SeqAt.canLay_of_shaped s1) (room_in_shaped s1 hu) ⟨.bl _, H, I, rfl, ?_⟩
      rw [any_toDs]
      exact q7 _ F H (New.val q1 (by simp [Rep]))
    · rename_i ts et
      injection q5 with q5
      subst q5
      rw [et] at p2 s2
      refine SeqAt.in_tuple_reads (xs := toDs ts) p2 p1 (SeqAt.canLay_of_shaped (d := toD (.frt ts)) s2) (SeqAt.canLay_of_shaped s1) (room_in_shaped s1 hu) ⟨.bl _, H, I, rfl, ?_⟩
      rw [any_toDs]
      exact q7 _ F H (New.val q1 (by simp [Rep]))
    · cases q5
  · cases q5
theorem o_notIn (hK : X.K = G.K) (hr : Rn X.A) : Op2 X G (compareOp .NotIn) (gIn true) := by
  intro pins s σ H F x y v u r1 r2 r as bs Q I rx ry q1 q2 q3 q4 q5 q6 q7
  have hu : X.A.units + 65 < cLine := by have := hr.un; omega
  unfold gIn at q5
  split at q5
  · rename_i h
    simp only [Bool.and_eq_true] at h
    obtain ⟨d1, s1⟩ := shaped_of h.1 (q3.now q1)
    obtain ⟨d2, s2⟩ := shaped_of h.2 (q4.now q1)
    rw [← hK] at d1 d2
    obtain ⟨as1, p1⟩ := Dp.reads I _ x v d1 rx
    obtain ⟨as2, p2⟩ := Dp.reads I _ y u d2 ry
    split at q5
    · rename_i ts et
      injection q5 with q5
      subst q5
      rw [et] at p2 s2
      refine SeqAt.notIn_list_reads (xs := toDs ts) p2 p1 (SeqAt.canLay_of_shaped (d := toD (.lst ts)) s2) (SeqAt.canLay_of_shaped s1) (room_in_shaped s1 hu) ⟨.bl _, H, I, rfl, ?_⟩
      rw [any_toDs]
      exact q7 _ F H (New.val q1 (by simp [Rep]))
    · rename_i ts et
      injection q5 with q5
      subst q5
      rw [et] at p2 s2
      refine SeqAt.notIn_tuple_reads (xs := toDs ts) p2 p1 (SeqAt.canLay_of_shaped (d := toD (.tup ts)) s2) (SeqAt.canLay_of_shaped s1) (room_in_shaped s1 hu) ⟨.bl _, H, I, rfl, ?_⟩
      rw [any_toDs]
      exact q7 _ F H (New.val q1 (by simp [Rep]))
    · rename_i ts et
      injection q5 with q5
      subst q5
      rw [et] at p2 s2
      refine SeqAt.notIn_list_reads (xs := toDs ts) p2 p1 (SeqAt.canLay_of_shaped (d := toD (.frl ts)) s2) (SeqAt.canLay_of_shaped s1) (room_in_shaped s1 hu) ⟨.bl _, H, I, rfl, ?_⟩
      rw [any_toDs]
      exact q7 _ F H (New.val q1 (by simp [Rep]))
    · rename_i ts et
      injection q5 with q5
      subst q5
      rw [et] at p2 s2
      refine SeqAt.notIn_tuple_reads (xs := toDs ts) p2 p1 (SeqAt.canLay_of_shaped (d := toD (.frt ts)) s2) (SeqAt.canLay_of_shaped s1) (room_in_shaped s1 hu) ⟨.bl _, H, I, rfl, ?_⟩
      rw [any_toDs]
      exact q7 _ F H (New.val q1 (by simp [Rep]))
    · cases q5
  · cases q5

/-! ### is -/
def isNon : T → Bool
  | .non => true
  | _ => false
def gIs (neg : Bool) : Rz → Rz → Option Rz := fun a b => match b.t with
  | .non => some (fz (.bl (neg != isNon a.t)))
  | .bl c => match a.t with
    | .bl d => some (fz (.bl (neg != decide (d = c))))
    | _ => none
  | _ => none
theorem non_iff {H : Hp} {t : T} {x : V} (r : Rep G H t x) : decide (x = .non) = isNon t := by
  cases t <;> first
    | (have e : x = _ := r; subst e; rfl)
    | (obtain ⟨a, _, rfl⟩ := r; rfl)
    | (obtain ⟨a, _, rfl, _⟩ := r; rfl)
    | (obtain ⟨a, rfl, _⟩ := r; rfl)
    | (obtain ⟨a, _, _, _, rfl, _⟩ := r; rfl)
    | exact r.elim
theorem o_is : Op2 X G (compareOp .Is) (gIs false) := by
  intro pins s σ H F x y v u r1 r2 r as bs Q I rx ry q1 q2 q3 q4 q5 q6 q7
  unfold gIs at q5
  split at q5
  · rename_i e2
    injection q5 with q5
    subst q5
    rw [e2] at q4
    have ey : y = .non := q4.now q1
    refine op_isN pins s σ H x y v u Q I rx ry ⟨ey, ?_⟩
    rw [non_iff (q3.now q1)]
    exact q7 _ F H (New.val q1 (by simp [Rep]))
  · rename_i c e2
    split at q5
    · rename_i d e1
      injection q5 with q5
      subst q5
      rw [e2] at q4
      rw [e1] at q3
      refine op_isBl pins s σ H x y v u Q I rx ry ⟨d, c, own_bl q3, own_bl q4, ?_⟩
      exact q7 _ F H (New.val q1 (by simp [Rep]))
    · cases q5
  · cases q5
theorem o_isnot : Op2 X G (compareOp .IsNot) (gIs true) := by
  intro pins s σ H F x y v u r1 r2 r as bs Q I rx ry q1 q2 q3 q4 q5 q6 q7
  unfold gIs at q5
  split at q5
  · rename_i e2
    injection q5 with q5
    subst q5
    rw [e2] at q4
    have ey : y = .non := q4.now q1
    refine op_notN pins s σ H x y v u Q I rx ry ⟨ey, ?_⟩
    rw [non_iff (q3.now q1)]
    exact q7 _ F H (New.val q1 (by simp [Rep]))
  · rename_i c e2
    split at q5
    · rename_i d e1
      injection q5 with q5
      subst q5
      rw [e2] at q4
      rw [e1] at q3
      refine op_notBl pins s σ H x y v u Q I rx ry ⟨d, c, own_bl q3, own_bl q4, ?_⟩
      exact q7 _ F H (New.val q1 (by simp [Rep]))
    · cases q5
  · cases q5

/-! ### a + b, a * k of lists, tuples, texts -/
def gCat : Rz → Rz → Option Rz := fun a b => match a.t, b.t with
  | .lst xs, .lst ys => if (decide (a.d ≤ 1) && decide (b.d ≤ 1) && decide (xs.length + ys.length ≤ sizeLine)) = true then some (ow (.lst (xs ++ ys))) else none
  | .tup xs, .tup ys => if xs.length + ys.length ≤ sizeLine then some (fz (.tup (xs ++ ys))) else none
  | .str x, .str y => if x.length + y.length ≤ sizeLine then some (fz (.str (x ++ y))) else none
  | _, _ => none
end
end Pb
end
/- Q13 -/
section
set_option Elab.async false
set_option linter.all false
set_option maxRecDepth 100000
namespace Pb
open PySem PySem.Spec PyProof.Rows L2
section
variable {X : Cx} {G : Gx} {W : WX} {pin : List Nat} {n : Nat}

theorem Reps.append {F : Hp} : ∀ {ts us : List T} {xs ys : List V}, Reps G F ts xs → Reps G F us ys → Reps G F (ts ++ us) (xs ++ ys)
  | [], us, xs, ys, r, q => by have e : xs = [] := r; subst e; exact q
  | t :: ts, us, xs, ys, r, q => by
    obtain ⟨x, xr, rfl, a, b⟩ := r
    exact ⟨x, xr ++ ys, rfl, a, b.append q⟩
theorem Reps.drop {F : Hp} : ∀ {ts : List T} {xs : List V} (k : Nat), Reps G F ts xs → Reps G F (ts.drop k) (xs.drop k)
  | ts, xs, 0, r => r
  | [], xs, k + 1, r => by have e : xs = [] := r; subst e; exact r
  | t :: ts, xs, k + 1, r => by
    obtain ⟨x, xr, rfl, a, b⟩ := r
    exact b.drop k
theorem Reps.take {F : Hp} : ∀ {ts : List T} {xs : List V} (k : Nat), Reps G F ts xs → Reps G F (ts.take k) (xs.take k)
  | ts, xs, 0, r => by show (xs.take 0) = []; rfl
  | [], xs, k + 1, r => by have e : xs = [] := r; subst e; exact r
  | t :: ts, xs, k + 1, r => by
    obtain ⟨x, xr, rfl, a, b⟩ := r
    exact ⟨x, _, rfl, a, b.take k⟩
theorem Reps.set {F : Hp} : ∀ {ts : List T} {xs : List V} {t : T} {x : V} (k : Nat), Reps G F ts xs → Rep G F t x → Reps G F (ts.set k t) (xs.set k x)
  | [], xs, t, x, k, r, q => by have e : xs = [] := r; subst e; exact r
  | t' :: ts, xs, t, x, 0, r, q => by
    obtain ⟨y, xr, rfl, a, b⟩ := r
    exact ⟨x, xr, rfl, q, b⟩
  | t' :: ts, xs, t, x, k + 1, r, q => by
    obtain ⟨y, xr, rfl, a, b⟩ := r
    exact ⟨y, _, rfl, a, b.set k q⟩
theorem Reps.erase {F : Hp} : ∀ {ts : List T} {xs : List V} (k : Nat), Reps G F ts xs → Reps G F (ts.eraseIdx k) (xs.eraseIdx k)
  | [], xs, k, r => by have e : xs = [] := r; subst e; exact r
  | t' :: ts, xs, 0, r => by
    obtain ⟨y, xr, rfl, a, b⟩ := r
    exact b
  | t' :: ts, xs, k + 1, r => by
    obtain ⟨y, xr, rfl, a, b⟩ := r
    exact ⟨y, _, rfl, a, b.erase k⟩
theorem Reps.rev {F : Hp} : ∀ {ts : List T} {xs : List V}, Reps G F ts xs → Reps G F ts.reverse xs.reverse
  | [], xs, r => by have e : xs = [] := r; subst e; exact r
  | t' :: ts, xs, r => by
    obtain ⟨y, xr, rfl, a, b⟩ := r
    rw [List.reverse_cons, List.reverse_cons]
    exact b.rev.append ⟨y, [], rfl, a, rfl⟩
theorem rep_bl {F : Hp} {b : Bool} : Rep G F (.bl b) (.bl b) := by simp [Rep]
theorem rep_int {F : Hp} {b : Int} : Rep G F (.int b) (.int b) := by simp [Rep]
theorem rep_str {F : Hp} {b : Str} : Rep G F (.str b) (.str b) := by simp [Rep]
theorem rep_non {F : Hp} : Rep G F .non .non := by simp [Rep]

theorem o_cat (hK : X.K = G.K) : Op2 X G (binaryOp .Add) gCat := by
  intro pins s σ H F x y v u r1 r2 r as bs Q I rx ry q1 q2 q3 q4 q5 q6 q7
  unfold gCat at q5
  split at q5
  · rename_i xs ys e1 e2
    split at q5
    · rename_i h
      simp only [Bool.and_eq_true, decide_eq_true_eq] at h
      injection q5 with q5
      subst q5
      rw [e1] at q3
      rw [e2] at q4
      obtain ⟨a, vs, rfl, ha, ra, _⟩ := own_lst1 q1 h.1.1 q3
      obtain ⟨b, ws, rfl, hb, rb, _⟩ := own_lst1 q1 h.1.2 q4
      refine op_cat pins s σ H _ _ v u Q I rx ry ⟨a, b, vs, ws, rfl, rfl, ha, hb, by rw [← ra.length, ← rb.length]; exact h.2, fun p hp => ?_⟩
      exact q7 _ _ _ (New.lst q1 hp (ra.append rb))
    · cases q5
  · rename_i xs ys e1 e2
    split at q5
    · rename_i h
      injection q5 with q5
      subst q5
      rw [e1] at q3
      rw [e2] at q4
      obtain ⟨a, vs, rfl, ha, ra⟩ := own_tupF q3
      obtain ⟨b, ws, rfl, hb, rb⟩ := own_tupF q4
      have er := ra.append rb
      refine op_catA pins s σ H _ _ v u Q I rx ry ⟨a, b, vs, ws, rfl, rfl, by rw [hK]; exact SqT.of (q1 _ _ ha), by rw [hK]; exact SqT.of (q1 _ _ hb), by rw [← ra.length, ← rb.length]; exact h, fun e => ?_, fun _ e => ?_, fun _ _ p hp => ?_⟩
      · subst e
        exact q7 _ F H (New.val q1 ⟨b, ws, rfl, hb, er⟩)
      · subst e
        rw [List.append_nil] at er
        exact q7 _ F H (New.val q1 ⟨a, vs, rfl, ha, er⟩)
      · exact q7 _ _ _ (New.tup q1 hp er)
    · cases q5
  · rename_i a b e1 e2
    split at q5
    · rename_i h
      injection q5 with q5
      subst q5
      rw [e1] at q3
      rw [e2] at q4
      have ex : x = .str a := q3.now q1
      have ey : y = .str b := q4.now q1
      exact op_add_str pins s σ H x y v u Q I rx ry ⟨a, b, ex, ey, h, q7 _ F H (New.val q1 rep_str)⟩
    · cases q5
  · cases q5
def oAdd : Rz → Rz → Option Rz := orG2 (gI tt2 fun i j => i + j) gCat
theorem o_add (hK : X.K = G.K) : Op2 X G (binaryOp .Add) oAdd := o_addI.or (o_cat hK)
/-- a list k times -/
def gRep : Rz → Rz → Option Rz := fun a b => match a.t, b.t with
  | .lst xs, .int k => if (decide (a.d ≤ 1) && decide (k < 1000000) && decide (-1000000 < k) && decide (xs.length * k.toNat ≤ sizeLine)) = true then some (ow (.lst (List.replicate k.toNat xs).flatten)) else none
  | _, _ => none
theorem reps_rep {F : Hp} {ts : List T} {xs : List V} (r : Reps G F ts xs) : ∀ k : Nat, Reps G F (List.replicate k ts).flatten (List.replicate k xs).flatten
  | 0 => rfl
  | k + 1 => by
    rw [List.replicate_succ, List.replicate_succ, List.flatten_cons, List.flatten_cons]
    exact r.append (reps_rep r k)
theorem o_rep : Op2 X G (binaryOp .Mult) gRep := by
  intro pins s σ H F x y v u r1 r2 r as bs Q I rx ry q1 q2 q3 q4 q5 q6 q7
  unfold gRep at q5
  split at q5
  · rename_i xs k e1 e2
    split at q5
    · rename_i h
      simp only [Bool.and_eq_true, decide_eq_true_eq] at h
      injection q5 with q5
      subst q5
      rw [e1] at q3
      rw [e2] at q4
      obtain ⟨a, vs, rfl, ha, ra, _⟩ := own_lst1 q1 h.1.1.1 q3
      refine op_rep pins s σ H _ _ v u Q I rx ry ⟨a, k, vs, rfl, own_int q4, ha, by omega, by omega, by rw [← ra.length]; exact h.2, fun p hp => ?_⟩
      exact q7 _ _ _ (New.lst q1 hp (reps_rep ra k.toNat))
    · cases q5
  · cases q5
def oMul : Rz → Rz → Option Rz := orG2 (gI mulOk fun i j => i * j) gRep
theorem o_mul : Op2 X G (binaryOp .Mult) oMul := o_mulI.or o_rep

/-! ### dicts, read -/
def kvT {κ : Type} [DecidableEq κ] (kl : List κ) (ts : List T) (k : κ) : Option T := ((kl.zip ts).find? fun p => decide (p.1 = k)).map (·.2)
/-- what a dict holds at a key: none where the key is of another kind -/
def dget (kd : Bool) (ks ts : List T) (key : T) : Option (Option T) := match kd with
  | false => match keyT key, keysT ks with
    | some k, some kl => some (kvT kl ts k)
    | _, _ => none
  | true => match keyTT key, keysTT ks with
    | some k, some kl => some (kvT kl ts k)
    | _, _ => none
theorem kvT_some {κ : Type} [DecidableEq κ] : ∀ {kl : List κ} {ts : List T} {vs : List V} {k : κ} {t : T}, ts.length = vs.length → kvT kl ts k = some t → ∃ (j : Nat) (x : V), ts[j]? = some t ∧ vs[j]? = some x ∧ valV (kl.zip vs) k = some x
  | [], ts, vs, k, t, _, h => by cases h
  | c :: kl, [], vs, k, t, _, h => by cases h
  | c :: kl, t0 :: ts, [], k, t, hl, h => by cases hl
  | c :: kl, t0 :: ts, v :: vs, k, t, hl, h => by
    by_cases e : c = k
    · have h' : t0 = t := by simpa [kvT, e] using h
      subst h'
      exact ⟨0, v, rfl, rfl, valV_pos e⟩
    · have h' : kvT kl ts k = some t := by simpa [kvT, e] using h
      obtain ⟨j, x, h1, h2, h3⟩ := kvT_some (vs := vs) (by simpa using hl) h'
      refine ⟨j + 1, x, by simpa using h1, by simpa using h2, ?_⟩
      show valV ((c, v) :: kl.zip vs) k = some x
      rw [valV_neg e]; exact h3
theorem kvT_none {κ : Type} [DecidableEq κ] : ∀ {kl : List κ} {ts : List T} {vs : List V} {k : κ}, ts.length = vs.length → kvT kl ts k = none → valV (kl.zip vs) k = none
  | [], ts, vs, k, _, h => rfl
  | c :: kl, [], [], k, _, h => rfl
  | c :: kl, [], v :: vs, k, hl, h => by cases hl
  | c :: kl, t0 :: ts, [], k, hl, h => by cases hl
  | c :: kl, t0 :: ts, v :: vs, k, hl, h => by
    by_cases e : c = k
    · exfalso; simp [kvT, e] at h
    · have h' : kvT kl ts k = none := by simpa [kvT, e] using h
      show valV ((c, v) :: kl.zip vs) k = none
      rw [valV_neg e]; exact kvT_none (by simpa using hl) h'
theorem keyT_rep {F : Hp} {t : T} {k : Key} {x : V} (h : keyT t = some k) (r : Rep G F t x) : x = kV k := by
  cases t <;> simp only [keyT] at h <;> cases h <;> exact r
theorem keysT_reps {F : Hp} : ∀ {ts : List T} {kl : List Key} {xs : List V}, keysT ts = some kl → Reps G F ts xs → xs = kl.map kV
  | [], kl, xs, h, r => by cases h; exact r
  | t :: ts, kl, xs, h, r => by
    obtain ⟨x, xr, rfl, a, b⟩ := r
    unfold keysT at h
    split at h
    · rename_i k ks e1 e2
      cases h
      rw [keyT_rep e1 a, keysT_reps e2 b]
      rfl
    · cases h
theorem keyTT_rep {F H : Hp} (s : Sub F H) {t : T} {k : List Key} {x : V} (h : keyTT t = some k) (r : Rep G F t x) : ∃ b, x = .ref b ∧ H b = some (.tup (k.map kV)) := by
  cases t <;> simp only [keyTT] at h <;> try (cases h; done)
  obtain ⟨b, vs, rfl, h1, h2⟩ := r
  exact ⟨b, rfl, by rw [s _ _ h1, keysT_reps h h2]⟩
/-- the dict's content by its tree -/
theorem dget_some {H : Hp} {kd : Bool} {ks ts : List T} {vs : List V} {a : Addr} {key t : T} {y : V} (hd : DctAt kd ks vs (H a)) (hl : ts.length = vs.length) (hk : Rep G H key y) (h : dget kd ks ts key = some (some t)) : ∃ (j : Nat) (x : V), ts[j]? = some t ∧ vs[j]? = some x ∧ DGet H a y (some x) := by
  rcases hd with ⟨rfl, kl, h1, h2, h3⟩ | ⟨rfl, kl, h1, h2, h3⟩
  · unfold dget at h
    simp only at h
    split at h
    · rename_i k kl' e1 e2
      rw [h1] at e2; cases e2
      injection h with h
      obtain ⟨j, x, q1, q2, q3⟩ := kvT_some hl h
      exact ⟨j, x, q1, q2, by rw [keyT_rep e1 hk, ← q3]; exact .k h3⟩
    · cases h
  · unfold dget at h
    simp only at h
    split at h
    · rename_i k kl' e1 e2
      rw [h1] at e2; cases e2
      injection h with h
      obtain ⟨j, x, q1, q2, q3⟩ := kvT_some hl h
      obtain ⟨b, rfl, hb⟩ := keyTT_rep (.refl H) e1 hk
      exact ⟨j, x, q1, q2, by rw [← q3]; exact .t h3 hb⟩
    · cases h
theorem dget_none {H : Hp} {kd : Bool} {ks ts : List T} {vs : List V} {a : Addr} {key : T} {y : V} (hd : DctAt kd ks vs (H a)) (hl : ts.length = vs.length) (hk : Rep G H key y) (h : dget kd ks ts key = some none) : DGet H a y none := by
  rcases hd with ⟨rfl, kl, h1, h2, h3⟩ | ⟨rfl, kl, h1, h2, h3⟩
  · unfold dget at h
    simp only at h
    split at h
    · rename_i k kl' e1 e2
      rw [h1] at e2; cases e2
      injection h with h
      rw [keyT_rep e1 hk, ← kvT_none hl h]
      exact .k h3
    · cases h
  · unfold dget at h
    simp only at h
    split at h
    · rename_i k kl' e1 e2
      rw [h1] at e2; cases e2
      injection h with h
      obtain ⟨b, rfl, hb⟩ := keyTT_rep (.refl H) e1 hk
      rw [← kvT_none hl h]
      exact .t h3 hb
    · cases h
theorem All2.get {P : T → V → List Addr → Prop} : ∀ {ts : List T} {xs : List V} {as : List Addr} {i : Nat} {t : T}, All2 P ts xs as → ts[i]? = some t → ∃ x bs, xs[i]? = some x ∧ P t x bs
  | [], _, _, _, _, _, h => by simp at h
  | t :: ts, xs, as, 0, t', r, h => by
    obtain ⟨x, xr, a, b, rfl, _, p, _⟩ := r
    have e : t = t' := by simpa using h
    subst e
    exact ⟨x, a, rfl, p⟩
  | t :: ts, xs, as, i + 1, t', r, h => by
    obtain ⟨x, xr, a, b, rfl, _, _, q⟩ := r
    exact q.get (i := i) (by simpa using h)
/-- an owned dict, as it stands: its parts -/
theorem own_dct {F H : Hp} (s : Sub F H) {d : Nat} {kd : Bool} {ks ts : List T} {x : V} {as : List Addr} (p : Own G F H d (.dct kd ks ts) x as) : ∃ a vs, x = .ref a ∧ DctAt kd ks vs (H a) ∧ ts.length = vs.length ∧ ∀ (j : Nat) (t : T), ts[j]? = some t → ∃ y bs, vs[j]? = some y ∧ Own G F H (d - 1) t y bs := by
  cases d with
  | zero =>
    obtain ⟨_, a, vs, e, h, r⟩ := p
    exact ⟨a, vs, e, h.mono s, r.length, fun j t ht => let ⟨y, h1, h2⟩ := r.get ht; ⟨y, [], h1, rfl, h2⟩⟩
  | succ d =>
    obtain ⟨a, vs, bs, e1, e2, f, h, r⟩ := p
    exact ⟨a, vs, e1, h, r.length, fun j t ht => r.get ht⟩
theorem own_lst {F H : Hp} (s : Sub F H) {d : Nat} {ts : List T} {x : V} {as : List Addr} (p : Own G F H d (.lst ts) x as) : ∃ a vs, x = .ref a ∧ H a = some (.lst vs) ∧ ts.length = vs.length ∧ ∀ (j : Nat) (t : T), ts[j]? = some t → ∃ y bs, vs[j]? = some y ∧ Own G F H (d - 1) t y bs := by
  cases d with
  | zero =>
    obtain ⟨_, a, vs, e, h, r⟩ := p
    exact ⟨a, vs, e, s _ _ h, r.length, fun j t ht => let ⟨y, h1, h2⟩ := r.get ht; ⟨y, [], h1, rfl, h2⟩⟩
  | succ d =>
    obtain ⟨a, vs, bs, e1, e2, f, h, r⟩ := p
    exact ⟨a, vs, e1, h, r.length, fun j t ht => r.get ht⟩
/-! ### x[i] -/
def rIxDg : R2 := fun x y H Q => ∃ a v, x = .ref a ∧ DGet H a y (some v) ∧ IsD H a ∧ Q v H
theorem ix_dg (hu : X.A.units + 1 < cLine) : IxR X rIxDg := by
  intro value slice pins s σ H x y v u Q I rx ry h hs
  obtain ⟨a, z, rfl, g, hd, q⟩ := h
  obtain rfl : v = Value.ref a := rx
  exact tail_any (isD_at I hd).1 slot_dict_getitem.lookup (d_getItem hu I g ry fun w' s' I' rw' => ⟨z, H, I', rw', q⟩) hs
theorem isD_of {H : Hp} {kd : Bool} {ks : List T} {vs : List V} {a : Addr} (h : DctAt kd ks vs (H a)) : IsD H a := by
  rcases h with ⟨_, kl, _, _, h⟩ | ⟨_, kl, _, _, h⟩
  · exact .inl ⟨_, .inl h⟩
  · exact .inr ⟨_, .inl h⟩
/-- what is taken out of a thing of the depth a.d -/
def part (a : Rz) (t : T) : Option Rz := if a.d ≤ 1 then some (fz t) else if a.al = true then some ⟨a.d - 1, true, t⟩ else none
def gIdx : Rz → Rz → Option Rz := fun a b => match a.t with
  | .tup ts => match b.t with
    | .int i => (L2.atI ts i).map fz
    | _ => none
  | .frl ts => match b.t with
    | .int i => (L2.atI ts i).map fz
    | _ => none
  | .frt ts => match b.t with
    | .int i => (L2.atI ts i).map fz
    | _ => none
  | .str z => match b.t with
    | .int i => if z.length ≤ sizeLine then (L2.atI z.cps.toList i).map fun c => fz (.str ⟨#[c]⟩) else none
    | _ => none
  | .lst ts => match b.t with
    | .int i => (L2.atI ts i).bind (part a)
    | _ => none
  | .dct kd ks ts => match dget kd ks ts b.t with
    | some (some t) => part a t
    | _ => none
  | _ => none
def mIdx (pb : Bool) (ma mb : M) : M := fun ρ => (ma ρ).bind fun r1 ρ1 => if (r1.al && !pb) = true then .no else (mb ρ1).bind fun r2 ρ2 => match gIdx r1 r2 with
  | some r => .ok r ρ2
  | none => .no
theorem Reps.atI {F : Hp} {ts : List T} {xs : List V} {i : Int} {t : T} (r : Reps G F ts xs) (h : L2.atI ts i = some t) : ∃ x, L2.atI xs i = some x ∧ Rep G F t x := by
  unfold L2.atI at h ⊢
  rw [← r.length]
  cases e : ixN ts.length i with
  | none => rw [e] at h; cases h
  | some j =>
    rw [e] at h
    exact r.get h
theorem own_frl {F H : Hp} {d : Nat} {ts : List T} {x : V} {as : List Addr} (p : Own G F H d (.frl ts) x as) : ∃ a vs, x = .ref a ∧ SqL G.K F a vs ∧ Reps G F ts vs := by
  cases d with
  | zero => exact p.2
  | succ d => exact p.2
theorem atI_ix {α : Type} {xs : List α} {i : Int} {x : α} (h : L2.atI xs i = some x) : ∃ j, ixN xs.length i = some j ∧ xs[j]? = some x := by
  unfold L2.atI at h
  cases e : ixN xs.length i with
  | none => rw [e] at h; cases h
  | some j => rw [e] at h; exact ⟨j, rfl, h⟩
theorem own_str {F H : Hp} {k : Nat} {c : Str} {x : V} {as : List Addr} (p : Own G F H k (.str c) x as) : x = .str c := by
  cases k with
  | zero => exact p.2
  | succ k => exact p.2
theorem gIdx_ok {F H : Hp} (s : Sub F H) (hK : X.K = G.K) {a b r : Rz} {x y : V} {as bs : List Addr} {Q : VK} (p : Own G F H a.d a.t x as) (q : Own G F H b.d b.t y bs) (h : gIdx a b = some r) (fin : ∀ z cs, Own G F H r.d r.t z cs → (r.al = true ∨ r = fz r.t) → Q z H) : rIx X.K x y H Q ∨ rIxDg x y H Q := by
  have atom : ∀ {t : T} {z : V}, Rep G F t z → r = fz t → Q z H := fun {t z} rz e => by
    subst e
    exact fin z [] ⟨rfl, rz⟩ (.inr rfl)
  have prt : ∀ {t : T} {z : V} {cs : List Addr}, Own G F H (a.d - 1) t z cs → part a t = some r → Q z H := fun {t z cs} pz e => by
    unfold part at e
    split at e
    · rename_i hd
      cases e
      have h0 : a.d - 1 = 0 := by omega
      rw [h0] at pz
      exact fin z [] ⟨rfl, pz.2⟩ (.inr rfl)
    · split at e
      · cases e
        exact fin z cs pz (.inl rfl)
      · cases e
  unfold gIdx at h
  split at h
  · rename_i ts et
    rw [et] at p
    obtain ⟨c, vs, rfl, h1, h2⟩ := own_tup p
    split at h
    · rename_i i ei
      rw [ei] at q
      have ey := own_int q
      obtain ⟨t, ht, er⟩ := Option.map_eq_some_iff.mp h
      obtain ⟨z, hz, rz⟩ := h2.atI ht
      exact .inl (.inr (.inl ⟨c, vs, i, z, rfl, ey, by rw [hK]; exact sqT_mono s h1, hz, atom rz er.symm⟩))
    · cases h
  · rename_i ts et
    rw [et] at p
    obtain ⟨c, vs, rfl, h1, h2⟩ := own_frl p
    split at h
    · rename_i i ei
      rw [ei] at q
      have ey := own_int q
      obtain ⟨t, ht, er⟩ := Option.map_eq_some_iff.mp h
      obtain ⟨z, hz, rz⟩ := h2.atI ht
      exact .inl (.inl ⟨c, vs, i, z, rfl, ey, by rw [hK]; exact sqL_mono s h1, hz, atom rz er.symm⟩)
    · cases h
  · rename_i ts et
    rw [et] at p
    obtain ⟨c, vs, rfl, h1, h2⟩ := own_frt p
    split at h
    · rename_i i ei
      rw [ei] at q
      have ey := own_int q
      obtain ⟨t, ht, er⟩ := Option.map_eq_some_iff.mp h
      obtain ⟨z, hz, rz⟩ := h2.atI ht
      exact .inl (.inr (.inl ⟨c, vs, i, z, rfl, ey, by rw [hK]; exact sqT_mono s h1, hz, atom rz er.symm⟩))
    · cases h
  · rename_i c et
    rw [et] at p
    have ex := own_str p
    split at h
    · rename_i i ei
      rw [ei] at q
      have ey := own_int q
      split at h
      · rename_i hl
        obtain ⟨t, ht, er⟩ := Option.map_eq_some_iff.mp h
        exact .inl (.inr (.inr ⟨c, i, t, ex, ey, hl, ht, atom rep_str er.symm⟩))
      · cases h
    · cases h
  · rename_i ts et
    rw [et] at p
    obtain ⟨c, vs, rfl, h1, hl, h2⟩ := own_lst s p
    split at h
    · rename_i i ei
      rw [ei] at q
      have ey := own_int q
      obtain ⟨t, ht, er⟩ := Option.bind_eq_some_iff.mp h
      obtain ⟨j, e1, e2⟩ := atI_ix ht
      obtain ⟨z, cs, e3, pz⟩ := h2 j t e2
      exact .inl (.inl ⟨c, vs, i, z, rfl, ey, .of h1, by unfold L2.atI; rw [← hl, e1]; exact e3, prt pz er⟩)
    · cases h
  · rename_i kd ks ts et
    rw [et] at p
    obtain ⟨c, vs, rfl, h1, hl, h2⟩ := own_dct s p
    split at h
    · rename_i t ed
      obtain ⟨j, z, e1, e2, e3⟩ := dget_some h1 hl (q.now s) ed
      obtain ⟨z', cs, e4, pz⟩ := h2 j t e1
      rw [e2] at e4; cases e4
      exact .inr ⟨c, z, rfl, e3, isD_of h1, prt pz h⟩
    · cases h
  · cases h
theorem r_idx {pa pb : Bool} {a b : Expr} {pos : Pos} {ma mb : M} (hr : Rn X.A) (hK : X.K = G.K) (ha : J X G W pa a ma) (hb : J X G W pb b mb) (hs : PlainIx b) : J X G W (pa && pb) (.Subscript a b pos) (mIdx pb ma mb) := by
  refine ⟨pe_imp (pe_ix (ix_seq.or (ix_dg (by have := hr.un; omega))) ha.pe hb.pe hs) fun σ H Q h => ?_, fun hp ρ r ρ' h => ?_⟩
  · obtain ⟨F, ρ, fr, g, o⟩ := h
    refine ha.seq (xt := []) (pu := pa && pb) (.refl F) (fun _ => .refl F H) g (fun h => (Bool.and_eq_true _ _ ▸ h).1) o fun r1 ρ1 x F1 H1 e1 s1 x1 p1 g1 a1 o1 => ?_
    split at o1
    · exact o1.elim
    rename_i hal
    rw [List.append_nil] at g1
    refine hb.seq (xt := r1.ent x) (pu := pa && pb) s1 x1 g1 (fun h => (Bool.and_eq_true _ _ ▸ h).2) o1 fun r2 ρ2 y F2 H2 e2 s2 x2 p2 g2 a2 o2 => ?_
    rw [List.append_assoc] at g2
    have g3 := g2.mid
    obtain ⟨bs, pb2⟩ := g3.ent a2
    have g4 : Good G F2 H2 (r1.ent x ++ (r2.ent y ++ (ents ρ2 σ ++ fr))) := by
      refine g3.perm ?_
      refine ((perm_mid _ _ _).append_left _).trans ?_
      exact perm_mid _ _ _
    have a1' : AlOk G F2 H2 r1 x := fun z => by
      have hpb : pb = true := by
        cases q : pb with
        | true => rfl
        | false => exact absurd (show (r1.al && !pb) = true by rw [z, q]; rfl) hal
      obtain ⟨as, p⟩ := a1 z
      exact ⟨as, p.ext (p2 hpb).1⟩
    obtain ⟨as, pa2⟩ := g4.ent a1'
    have g5 : Good G F2 H2 ((r1.ent x ++ r2.ent y) ++ (ents ρ2 σ ++ fr)) := by rw [List.append_assoc]; exact g4
    cases e3 : gIdx r1 r2 with
    | none => rw [e3] at o2; exact o2.elim
    | some r =>
      rw [e3] at o2
      refine gIdx_ok g2.sub hK pa2 pb2 e3 fun z cs pz c => ?_
      rcases c with c | c
      · refine o2 z F2 H2 s2 (fun w => ⟨x2 w, fun h => by rw [c] at h; cases h⟩) ?_ (fun _ => ⟨cs, pz⟩)
        rw [show r.ent z = [] from if_pos c]
        exact g5.drop
      · rw [c] at pz o2
        exact o2.fin s2 x2 g5 rfl (New.val g2.sub pz.2)
  · have hp' := Bool.and_eq_true _ _ ▸ hp
    obtain ⟨r1, ρ1, e1, h⟩ := Out.bind_ok h
    split at h
    · cases h
    obtain ⟨r2, ρ2, e2, h⟩ := Out.bind_ok h
    have q : ρ2 = ρ := (hb.pure hp'.2 _ _ _ e2).trans (ha.pure hp'.1 _ _ _ e1)
    split at h
    · cases h; exact q
    · cases h

/-! ### slices -/
inductive OutO where
  | ok (i : Option Int) (ρ : En)
  | ex (e : T) (ρ : En)
  | no
abbrev MO := En → OutO
def mPart (m : M) : MO := fun ρ => match m ρ with
  | .ok r ρ' => match r.t with
    | .int i => .ok (some i) ρ'
    | _ => .no
  | .ex e ρ' => .ex e ρ'
  | .no => .no
def mNoPart : MO := fun ρ => .ok none ρ
def OutO.bind : OutO → (Option Int → En → Out) → Out
  | .ok r ρ, k => k r ρ
  | .ex e ρ, _ => .ex e ρ
  | .no, _ => .no
/-- a part of a slice: it changes no slot -/
def OutPO (G : Gx) (W : WX) (σ : SL) (fr : List Ent) (F H : Hp) (ρ : En) (o : OutO) (Q : Option Int → Hp → Prop) : Prop :=
  match o with
  | .ok i ρ' => ρ' = ρ ∧ ∀ F' H', Ext G F H F' H' → Sub F' H' → Q i H'
  | .ex e ρ' => ∀ cls d F' H', Sub F F' → Good G F' H' (ents ρ' σ ++ fr) → ExAt G F' H' e cls d → W cls d σ H'
  | .no => False
def tPO (G : Gx) (W : WX) (m : MO) : TO := fun σ H Q => ∃ F ρ fr, Good G F H (ents ρ σ ++ fr) ∧ OutPO G W σ fr F H ρ (m ρ) Q
structure JO (X : Cx) (G : Gx) (W : WX) (e : Option Expr) (m : MO) : Prop where
  po : PO X e (tPO G W m)
  pure : ∀ ρ i ρ', m ρ = .ok i ρ' → ρ' = ρ
theorem po_imp {e : Option Expr} {t t' : TO} (h : PO X e t) (i : ∀ σ H Q, t' σ H Q → t σ H Q) : PO X e t' := ⟨fun pins s σ H Q I q => h.run pins s σ H Q I (i σ H Q q)⟩
theorem ro_none : JO X G W none mNoPart := ⟨po_imp po_none fun σ H Q ⟨F, ρ, fr, g, o⟩ => o.2 F H (.refl F H) g.sub, fun ρ i ρ' h => by cases h; rfl⟩
theorem ro_some {e : Expr} {m : M} (h : J X G W true e m) : JO X G W (some e) (mPart m) := by
  refine ⟨po_imp (po_some h.pe) fun σ H Q ⟨F, ρ, fr, g, o⟩ => ⟨F, ρ, fr, g, ?_⟩, fun ρ i ρ' e => ?_⟩
  · unfold mPart at o
    cases e : m ρ with
    | no => rw [e] at o; exact o.elim
    | ex e' ρ1 => rw [e] at o; exact o
    | ok r ρ1 =>
      rw [e] at o
      simp only at o
      split at o
      · rename_i i ei
        intro x F' H' s p g' a
        obtain ⟨as, q⟩ := g'.ent a
        rw [ei] at q
        exact ⟨i, own_int q, o.2 F' H' (p rfl).1 g'.sub⟩
      · exact o.elim
  · unfold mPart at e
    split at e
    · rename_i r ρ1 e1
      split at e
      · cases e; exact h.pure rfl _ _ _ e1
      · cases e
    · cases e
    · cases e
def cutT (ts : List T) (lo hi : Option Int) : List T := (ts.drop (HT.sIx ts.length 0 lo)).take (HT.sIx ts.length ts.length hi - HT.sIx ts.length 0 lo)
theorem Reps.cut {F : Hp} {ts : List T} {xs : List V} (r : Reps G F ts xs) (lo hi : Option Int) : Reps G F (cutT ts lo hi) (cutV xs lo hi) := by
  unfold cutT cutV
  rw [r.length]
  exact (r.drop _).take _
def mSl (ma : M) (ml mh : MO) : M := fun ρ => (ma ρ).bind fun r1 ρ1 => (ml ρ1).bind fun lo ρ2 => (mh ρ2).bind fun hi ρ3 => match r1.t with
  | .tup ts => .ok (fz (.tup (cutT ts lo hi))) ρ3
  | .lst ts => if r1.d ≤ 1 then .ok (ow (.lst (cutT ts lo hi))) ρ3 else .no
  | .frl ts => .ok (ow (.lst (cutT ts lo hi))) ρ3
  | _ => .no
theorem cutV_whole {xs : List V} {lo hi : Option Int} (h : HT.sIx xs.length 0 lo = 0 ∧ HT.sIx xs.length xs.length hi = xs.length) : cutV xs lo hi = xs := by
  unfold cutV
  rw [h.1, h.2, List.drop_zero, Nat.sub_zero, List.take_length]
theorem r_slice {pa : Bool} {e : Expr} {lo hi : Option Expr} {p2 pos : Pos} {ma : M} {ml mh : MO} (hK : X.K = G.K) (ha : J X G W pa e ma) (hl : JO X G W lo ml) (hh : JO X G W hi mh) : J X G W pa (.Subscript e (.Slice lo hi none p2) pos) (mSl ma ml mh) := by
  refine ⟨pe_imp (pe_slice (sl_list.or sl_tupA) ha.pe hl.po hh.po) fun σ H Q h => ?_, fun hp ρ r ρ' h => ?_⟩
  · obtain ⟨F, ρ, fr, g, o⟩ := h
    refine ha.seq (xt := []) (pu := pa) (.refl F) (fun _ => .refl F H) g id o fun r1 ρ1 x F1 H1 e1 s1 x1 p1 g1 a1 o1 => ?_
    rw [List.append_nil] at g1
    have exP : ∀ {e : T} {ρ' : En} {k : Option Int → En → Out}, OutP G W σ fr pa F H (OutO.bind (.ex e ρ') k) Q → ∀ cls d F' H', Sub F1 F' → Good G F' H' (ents ρ' σ ++ (r1.ent x ++ fr)) → ExAt G F' H' e cls d → W cls d σ H' := fun o cls d F' H' s g q => o cls d F' H' (s1.trans s) (g.mid).drop q
    refine ⟨F1, ρ1, r1.ent x ++ fr, g1, ?_⟩
    cases el : ml ρ1 with
    | no => rw [el] at o1; exact o1.elim
    | ex e' ρ2 => rw [el] at o1; exact exP o1
    | ok l ρ2 =>
      rw [el] at o1
      have ρe := hl.pure _ _ _ el
      subst ρe
      refine ⟨rfl, fun F2 H2 x2 sb2 => ?_⟩
      have g2 := g1.ext x2 sb2
      refine ⟨F2, ρ2, r1.ent x ++ fr, g2, ?_⟩
      simp only [OutO.bind] at o1
      cases eh : mh ρ2 with
      | no => rw [eh] at o1; exact o1.elim
      | ex e' ρ3 =>
        rw [eh] at o1
        exact fun cls d F' H' s g q => o1 cls d F' H' ((s1.trans x2.low).trans s) (g.mid).drop q
      | ok h' ρ3 =>
        rw [eh] at o1
        have ρe := hh.pure _ _ _ eh
        subst ρe
        refine ⟨rfl, fun F3 H3 x3 sb3 => ?_⟩
        have xx := x2.trans x3
        have g3 := (g1.ext xx sb3).mid
        obtain ⟨as, p⟩ := g3.ent (a1.ext xx)
        simp only at o1
        split at o1
        · rename_i ts et
          rw [et] at p
          obtain ⟨a, vs, rfl, hq, hr⟩ := own_tupF p
          have rc := hr.cut l h'
          refine .inr ⟨a, vs, rfl, by rw [hK]; exact SqT.of (sb3 _ _ hq), fun hw => ?_, fun _ q hq' => ?_⟩
          · have e2 := cutV_whole hw
            rw [e2] at rc
            exact o1.fin (s1.trans xx.low) (fun z => (x1 z).trans xx) g3 rfl (New.val sb3 ⟨a, vs, rfl, hq, rc⟩)
          · exact o1.fin (s1.trans xx.low) (fun z => (x1 z).trans xx) g3 rfl (New.tup sb3 hq' rc)
        · rename_i ts et
          rw [et] at p
          split at o1
          · rename_i hd
            obtain ⟨a, vs, rfl, hq, hr, _⟩ := own_lst1 sb3 hd p
            exact .inl ⟨a, vs, rfl, .of hq, fun q hq' => o1.fin (s1.trans xx.low) (fun z => (x1 z).trans xx) g3 rfl (New.lst sb3 hq' (hr.cut l h'))⟩
          · exact o1.elim
        · rename_i ts et
          rw [et] at p
          obtain ⟨a, vs, rfl, hq, hr⟩ := own_frl p
          exact .inl ⟨a, vs, rfl, by rw [hK]; exact sqL_mono sb3 hq, fun q hq' => o1.fin (s1.trans xx.low) (fun z => (x1 z).trans xx) g3 rfl (New.lst sb3 hq' (hr.cut l h'))⟩
        · exact o1.elim
  · obtain ⟨r1, ρ1, e1, h⟩ := Out.bind_ok h
    have q := ha.pure hp _ _ _ e1
    cases el : ml ρ1 with
    | no => rw [el] at h; cases h
    | ex _ _ => rw [el] at h; cases h
    | ok l ρ2 =>
      rw [el] at h
      have ρe := hl.pure _ _ _ el
      subst ρe
      simp only [OutO.bind] at h
      cases eh : mh ρ2 with
      | no => rw [eh] at h; cases h
      | ex _ _ => rw [eh] at h; cases h
      | ok h' ρ3 =>
        rw [eh] at h
        have ρe := hh.pure _ _ _ eh
        subst ρe
        simp only at h
        split at h
        · cases h; exact q
        · split at h
          · cases h; exact q
          · cases h
        · cases h; exact q
        · cases h
end
end Pb
end
/- Q14 -/
section
set_option Elab.async false
set_option linter.all false
set_option maxRecDepth 100000
namespace Pb
open PySem PySem.Spec PyProof.Rows L2
section
variable {X : Cx} {G : Gx} {W : WX}

theorem Argd.one {F H : Hp} {r : Rz} {xs : List V} (h : Argd G F H [r] xs) : ∃ x as, xs = [x] ∧ Own G F H r.d r.t x as := by
  obtain ⟨x, xr, as, rfl, p, e⟩ := h
  have e : xr = [] := e
  subst e
  exact ⟨x, as, rfl, p⟩
theorem Argd.two {F H : Hp} {r1 r2 : Rz} {xs : List V} (h : Argd G F H [r1, r2] xs) : ∃ x y as bs, xs = [x, y] ∧ Own G F H r1.d r1.t x as ∧ Own G F H r2.d r2.t y bs := by
  obtain ⟨x, xr, as, rfl, p, h⟩ := h
  obtain ⟨y, bs, rfl, q⟩ := h.one
  exact ⟨x, y, as, bs, rfl, p, q⟩
/-- a function of one tree to a plain tree -/
def g1 (k : Rz → Option T) : List Rz → Option Rz := fun rs => match rs with
  | [r] => match k r with | some t => some (fz t) | none => none
  | _ => none
def g2 (k : Rz → Rz → Option T) : List Rz → Option Rz := fun rs => match rs with
  | [a, b] => match k a b with | some t => some (fz t) | none => none
  | _ => none
theorem opN1 {f : Value} {r : List V → Hp → VK → Prop} {k : Rz → Option T} (h : CallR X f r) (hk : ∀ {F H : Hp} {a : Rz} {t : T} {x : V} {as : List Addr} {Q : VK}, Sub F H → Own G F H a.d a.t x as → k a = some t → (∀ z, Rep G F t z → Q z H) → r [x] H Q) : OpN X G f (g1 k) := by
  intro pins s σ H F xs us rs r' Q I rx q1 q2 q3 q5 q6 q7
  unfold g1 at q5
  split at q5
  · rename_i a
    split at q5
    · rename_i t et
      injection q5 with q5
      subst q5
      obtain ⟨x, as, rfl, p⟩ := q3.one
      exact h pins s σ H _ us Q I rx (hk q1 p et fun z rz => q7 z F H (New.val q1 rz))
    · cases q5
  · cases q5
theorem opN2 {f : Value} {r : List V → Hp → VK → Prop} {k : Rz → Rz → Option T} (h : CallR X f r) (hk : ∀ {F H : Hp} {a b : Rz} {t : T} {x y : V} {as bs : List Addr} {Q : VK}, Sub F H → Own G F H a.d a.t x as → Own G F H b.d b.t y bs → k a b = some t → (∀ z, Rep G F t z → Q z H) → r [x, y] H Q) : OpN X G f (g2 k) := by
  intro pins s σ H F xs us rs r' Q I rx q1 q2 q3 q5 q6 q7
  unfold g2 at q5
  split at q5
  · rename_i a b
    split at q5
    · rename_i t et
      injection q5 with q5
      subst q5
      obtain ⟨x, y, as, bs, rfl, p, q⟩ := q3.two
      exact h pins s σ H _ us Q I rx (hk q1 p q et fun z rz => q7 z F H (New.val q1 rz))
    · cases q5
  · cases q5
def kAbs (a : Rz) : Option T := match a.t with
  | .int i => some (.int (if i < 0 then -i else i))
  | _ => none
theorem o_abs : OpN X G (.builtin "abs") (g1 kAbs) := opN1 call_abs fun s p e q => by
  unfold kAbs at e
  split at e
  · rename_i i ei
    injection e with e
    subst e
    exact ⟨i, by rw [own_int' ei p], q _ rep_int⟩
  · cases e
def kInt (a : Rz) : Option T := match a.t with
  | .int i => some (.int i)
  | .bl b => some (.int (if b then 1 else 0))
  | _ => none
theorem o_int : OpN X G (.type "int") (g1 kInt) := opN1 call_int1 fun s p e q => by
  unfold kInt at e
  split at e
  · rename_i i ei
    injection e with e
    subst e
    exact .inl ⟨i, by rw [own_int' ei p], q _ rep_int⟩
  · rename_i b eb
    injection e with e
    subst e
    exact .inr ⟨b, by rw [own_bl' eb p], q _ rep_int⟩
  · cases e
def kLen (a : Rz) : Option T := match a.t with
  | .lst ts => if a.d ≤ 1 then some (.int ts.length) else none
  | .tup ts => some (.int ts.length)
  | .frl ts => some (.int ts.length)
  | .frt ts => some (.int ts.length)
  | _ => none
theorem o_len (hK : X.K = G.K) : OpN X G (.builtin "len") (g1 kLen) := opN1 call_len_seq fun {F H a t x as Q} s p e q => by
  unfold kLen at e
  split at e
  · rename_i ts et
    split at e
    · rename_i hd
      injection e with e
      subst e
      rw [et] at p
      obtain ⟨b, vs, rfl, h1, h2, _⟩ := own_lst1 s hd p
      exact ⟨b, vs, rfl, .inl (.of h1), by rw [← h2.length]; exact q _ rep_int⟩
    · cases e
  · rename_i ts et
    injection e with e
    subst e
    rw [et] at p
    obtain ⟨b, vs, rfl, h1, h2⟩ := own_tup p
    exact ⟨b, vs, rfl, .inr (by rw [hK]; exact sqT_mono s h1), by rw [← h2.length]; exact q _ rep_int⟩
  · rename_i ts et
    injection e with e
    subst e
    rw [et] at p
    obtain ⟨b, vs, rfl, h1, h2⟩ := own_frl p
    exact ⟨b, vs, rfl, .inl (by rw [hK]; exact sqL_mono s h1), by rw [← h2.length]; exact q _ rep_int⟩
  · rename_i ts et
    injection e with e
    subst e
    rw [et] at p
    obtain ⟨b, vs, rfl, h1, h2⟩ := own_frt p
    exact ⟨b, vs, rfl, .inr (by rw [hK]; exact sqT_mono s h1), by rw [← h2.length]; exact q _ rep_int⟩
  · cases e
/-- lists of ints, of bools -/
def intsT : List T → Option (List Int)
  | [] => some []
  | .int i :: ts => match intsT ts with | some l => some (i :: l) | none => none
  | _ => none
def boolsT : List T → Option (List Bool)
  | [] => some []
  | .bl i :: ts => match boolsT ts with | some l => some (i :: l) | none => none
  | _ => none
theorem intsT_reps {F : Hp} : ∀ {ts : List T} {xs : List V} {l : List Int}, intsT ts = some l → Reps G F ts xs → xs = l.map V.int
  | [], xs, l, h, r => by have e : xs = [] := r; cases h; exact e
  | t :: ts, xs, l, h, r => by
    obtain ⟨x, xr, rfl, a, b⟩ := r
    cases t <;> simp only [intsT] at h <;> try (cases h; done)
    rename_i i
    split at h
    · rename_i l' e
      cases h
      have ex : x = .int i := by simpa [Rep] using a
      rw [ex, intsT_reps e b]; rfl
    · cases h
theorem boolsT_reps {F : Hp} : ∀ {ts : List T} {xs : List V} {l : List Bool}, boolsT ts = some l → Reps G F ts xs → xs = l.map V.bl
  | [], xs, l, h, r => by have e : xs = [] := r; cases h; exact e
  | t :: ts, xs, l, h, r => by
    obtain ⟨x, xr, rfl, a, b⟩ := r
    cases t <;> simp only [boolsT] at h <;> try (cases h; done)
    rename_i i
    split at h
    · rename_i l' e
      cases h
      have ex : x = .bl i := by simpa [Rep] using a
      rw [ex, boolsT_reps e b]; rfl
    · cases h
def kAll (a : Rz) : Option T := match a.t with
  | .lst ts => if a.d ≤ 1 then match boolsT ts with | some l => some (.bl (l.all id)) | none => none
    else none
  | _ => none
def kAny (a : Rz) : Option T := match a.t with
  | .lst ts => if a.d ≤ 1 then match boolsT ts with | some l => some (.bl (l.any id)) | none => none
    else none
  | _ => none
def kSum (a : Rz) : Option T := match a.t with
  | .lst ts => if a.d ≤ 1 then match intsT ts with | some l => some (.int l.sum) | none => none
    else none
  | _ => none
theorem o_all (hc : X.calm = true) : OpN X G (.builtin "all") (g1 kAll) := opN1 (cr_all hc) fun {F H a t x as Q} s p e q => by
  unfold kAll at e
  split at e
  · rename_i ts et
    split at e
    · rename_i hd
      split at e
      · rename_i l el
        injection e with e
        subst e
        rw [et] at p
        obtain ⟨b, vs, rfl, h1, h2, _⟩ := own_lst1 s hd p
        exact ⟨b, l, rfl, by rw [← boolsT_reps el h2]; exact .of h1, q _ rep_bl⟩
      · cases e
    · cases e
  · cases e
theorem o_any (hc : X.calm = true) : OpN X G (.builtin "any") (g1 kAny) := opN1 (cr_any hc) fun {F H a t x as Q} s p e q => by
  unfold kAny at e
  split at e
  · rename_i ts et
    split at e
    · rename_i hd
      split at e
      · rename_i l el
        injection e with e
        subst e
        rw [et] at p
        obtain ⟨b, vs, rfl, h1, h2, _⟩ := own_lst1 s hd p
        exact ⟨b, l, rfl, by rw [← boolsT_reps el h2]; exact .of h1, q _ rep_bl⟩
      · cases e
    · cases e
  · cases e
theorem o_sum (hc : X.calm = true) : OpN X G (.builtin "sum") (g1 kSum) := opN1 (cr_sum hc) fun {F H a t x as Q} s p e q => by
  unfold kSum at e
  split at e
  · rename_i ts et
    split at e
    · rename_i hd
      split at e
      · rename_i l el
        injection e with e
        subst e
        rw [et] at p
        obtain ⟨b, vs, rfl, h1, h2, _⟩ := own_lst1 s hd p
        exact ⟨b, l, rfl, by rw [← intsT_reps el h2]; exact .of h1, q _ rep_int⟩
      · cases e
    · cases e
  · cases e
def kMin2 (a b : Rz) : Option T := match a.t, b.t with
  | .int i, .int j => some (.int (if j < i then j else i))
  | _, _ => none
def kMax2 (a b : Rz) : Option T := match a.t, b.t with
  | .int i, .int j => some (.int (if j > i then j else i))
  | _, _ => none
theorem o_min2 (hc : X.calm = true) : OpN X G (.builtin "min") (g2 kMin2) := opN2 (call_min2 hc) fun s p p' e q => by
  unfold kMin2 at e
  split at e
  · rename_i i j ei ej
    injection e with e
    subst e
    exact ⟨i, j, by rw [own_int' ei p, own_int' ej p'], q _ rep_int⟩
  · cases e
theorem o_max2 (hc : X.calm = true) : OpN X G (.builtin "max") (g2 kMax2) := opN2 (call_max2 hc) fun s p p' e q => by
  unfold kMax2 at e
  split at e
  · rename_i i j ei ej
    injection e with e
    subst e
    exact ⟨i, j, by rw [own_int' ei p, own_int' ej p'], q _ rep_int⟩
  · cases e
/-- list(x), tuple(x) -/
def kList : List Rz → Option Rz := fun rs => match rs with
  | [r] => match r.t with
    | .lst ts => if r.d ≤ 1 then some (ow (.lst ts)) else none
    | .tup ts => some (ow (.lst ts))
    | .frl ts => some (ow (.lst ts))
    | .frt ts => some (ow (.lst ts))
    | _ => none
  | _ => none
theorem o_list (hK : X.K = G.K) : OpN X G (.type "list") kList := by
  intro pins s σ H F xs us rs r' Q I rx q1 q2 q3 q5 q6 q7
  unfold kList at q5
  split at q5
  · rename_i r
    obtain ⟨x, as, rfl, p⟩ := q3.one
    split at q5
    · rename_i ts et
      split at q5
      · rename_i hd
        injection q5 with q5
        subst q5
        rw [et] at p
        obtain ⟨b, vs, rfl, h1, h2, _⟩ := own_lst1 q1 hd p
        exact call_list_of pins s σ H _ us Q I rx ⟨b, vs, rfl, .inl (.of h1), fun l hl => q7 _ _ _ (New.lst q1 hl h2)⟩
      · cases q5
    · rename_i ts et
      injection q5 with q5
      subst q5
      rw [et] at p
      obtain ⟨b, vs, rfl, h1, h2⟩ := own_tup p
      exact call_list_of pins s σ H _ us Q I rx ⟨b, vs, rfl, .inr (by rw [hK]; exact sqT_mono q1 h1), fun l hl => q7 _ _ _ (New.lst q1 hl h2)⟩
    · rename_i ts et
      injection q5 with q5
      subst q5
      rw [et] at p
      obtain ⟨b, vs, rfl, h1, h2⟩ := own_frl p
      exact call_list_of pins s σ H _ us Q I rx ⟨b, vs, rfl, .inl (by rw [hK]; exact sqL_mono q1 h1), fun l hl => q7 _ _ _ (New.lst q1 hl h2)⟩
    · rename_i ts et
      injection q5 with q5
      subst q5
      rw [et] at p
      obtain ⟨b, vs, rfl, h1, h2⟩ := own_frt p
      exact call_list_of pins s σ H _ us Q I rx ⟨b, vs, rfl, .inr (by rw [hK]; exact sqT_mono q1 h1), fun l hl => q7 _ _ _ (New.lst q1 hl h2)⟩
    · cases q5
  · cases q5
def kTuple : List Rz → Option Rz := fun rs => match rs with
  | [r] => match r.t with
    | .lst ts => if r.d ≤ 1 then some (fz (.tup ts)) else none
    | .tup ts => some (fz (.tup ts))
    | .frl ts => some (fz (.tup ts))
    | .frt ts => some (fz (.frt ts))
    | _ => none
  | _ => none
theorem o_tuple (hK : X.K = G.K) : OpN X G (.type "tuple") kTuple := by
  intro pins s σ H F xs us rs r' Q I rx q1 q2 q3 q5 q6 q7
  unfold kTuple at q5
  split at q5
  · rename_i r
    obtain ⟨x, as, rfl, p⟩ := q3.one
    split at q5
    · rename_i ts et
      split at q5
      · rename_i hd
        injection q5 with q5
        subst q5
        rw [et] at p
        obtain ⟨b, vs, rfl, h1, h2, _⟩ := own_lst1 q1 hd p
        exact call_tuple_of pins s σ H _ us Q I rx ⟨b, vs, rfl, .inl ⟨.of h1, fun l hl => q7 _ _ _ (New.tup q1 hl h2)⟩⟩
      · cases q5
    · rename_i ts et
      injection q5 with q5
      subst q5
      rw [et] at p
      obtain ⟨b, vs, rfl, h1, h2⟩ := own_tupF p
      exact call_tuple_of pins s σ H _ us Q I rx ⟨b, vs, rfl, .inr ⟨by rw [hK]; exact .of (q1 _ _ h1), q7 _ F H (New.val q1 ⟨b, vs, rfl, h1, h2⟩)⟩⟩
    · rename_i ts et
      injection q5 with q5
      subst q5
      rw [et] at p
      obtain ⟨b, vs, rfl, h1, h2⟩ := own_frl p
      exact call_tuple_of pins s σ H _ us Q I rx ⟨b, vs, rfl, .inl ⟨by rw [hK]; exact sqL_mono q1 h1, fun l hl => q7 _ _ _ (New.tup q1 hl h2)⟩⟩
    · rename_i ts et
      injection q5 with q5
      subst q5
      rw [et] at p
      obtain ⟨b, vs, rfl, h1, h2⟩ := own_frt p
      exact call_tuple_of pins s σ H _ us Q I rx ⟨b, vs, rfl, .inr ⟨by rw [hK]; exact sqT_mono q1 h1, q7 _ F H (New.val q1 ⟨b, vs, rfl, h1, h2⟩)⟩⟩
    · cases q5
  · cases q5

/-! ### isinstance(x, T), T a built-in type -/
def tyName : T → Option String
  | .non => some "NoneType"
  | .bl _ => some "bool"
  | .int _ => some "int"
  | .str _ => some "str"
  | .tup _ => some "tuple"
  | .lst _ => some "list"
  | .frl _ => some "list"
  | .frt _ => some "tuple"
  | .dct _ _ _ => some "dict"
  | _ => none
def isaB (a b : String) : Option Bool := kitB a b
def kIsTy (a b : Rz) : Option T := match tyName a.t, b.t with
  | some m, .ty k => match isaB m k with | some r => some (.bl r) | none => none
  | _, _ => none
theorem sqT_ty {F H : Hp} {K : PySem.W.Frag} {a : Addr} {xs : List V} (h : SqT K H a xs) : TyX K H (.ref a) (.type "tuple") := by
  rcases h with (h | ⟨o, h⟩) | ⟨o, its, n, hk, hc, _⟩
  · exact .base (.tup h)
  · exact .fTuple h
  · exact .kTuple hk hc
theorem sqL_ty {F H : Hp} {K : PySem.W.Frag} {a : Addr} {xs : List V} (h : SqL K H a xs) : TyX K H (.ref a) (.type "list") := by
  rcases h with (h | ⟨o, h⟩) | ⟨o, its, n, hk, hc, _⟩
  · exact .base (.lst h)
  · exact .base (.frz h)
  · exact .kList hk hc
theorem ty_of {F H : Hp} (s : Sub F H) {d : Nat} {t : T} {x : V} {as : List Addr} {m : String} (p : Own G F H d t x as) (e : tyName t = some m) : TyX G.K H x (.type m) := by
  have r := p.now s
  cases t <;> simp only [tyName, Option.some.injEq] at e <;> (try subst e) <;> try (cases e; done)
  · have ex : x = .non := by simpa [Rep] using r
    subst ex; exact .base .non
  · rename_i b
    have ex : x = .bl b := by simpa [Rep] using r
    subst ex; exact .base (.bl b)
  · rename_i b
    have ex : x = .int b := by simpa [Rep] using r
    subst ex; exact .base (.int b)
  · rename_i b
    have ex : x = .str b := by simpa [Rep] using r
    subst ex; exact .base (.str b)
  · obtain ⟨a, vs, rfl, h, _⟩ := r
    exact .base (.tup h)
  · obtain ⟨a, vs, rfl, h, _⟩ := r
    exact .base (.lst h)
  · obtain ⟨a, vs, rfl, h, _⟩ := r
    exact sqL_ty (F := F) h
  · obtain ⟨a, vs, rfl, h, _⟩ := r
    exact sqT_ty (F := F) h
  · obtain ⟨a, vs, rfl, h, _⟩ := r
    rcases h with ⟨_, kl, _, _, h⟩ | ⟨_, kl, _, _, h⟩
    · exact .base (.dK h)
    · exact .base (.dT h)
theorem o_isTy (hK : X.K = G.K) : OpN X G (.builtin "isinstance") (g2 kIsTy) := opN2 call_isi fun {F H a b t x y as bs Q} s p p' e q => by
  unfold kIsTy at e
  split at e
  · rename_i m k em ek
    split at e
    · rename_i r er
      injection e with e
      subst e
      rw [ek] at p'
      have ey : y = .ty k := by simpa [Rep] using p'.now s
      refine ⟨x, y, .type m, .type k, r, rfl, by rw [ey]; exact .ty k, by rw [hK]; exact ty_of s p em, kit_ty er, q _ rep_bl⟩
    · cases e
  · cases e
theorem isaB_int_int : isaB "int" "int" = some true := by decide +kernel
theorem isaB_bool_int : isaB "bool" "int" = some true := by decide +kernel
theorem isaB_NoneType_int : isaB "NoneType" "int" = some false := by decide +kernel
/-- repr(True), repr(False) -/
def kReprB (a : Rz) : Option T := match a.t with
  | .bl true => some (.str "True")
  | .bl false => some (.str "False")
  | _ => none
end
end Pb
end
/- E1 -/
section
set_option Elab.async false
set_option linter.all false
set_option maxRecDepth 100000
set_option maxHeartbeats 2000000
/-! an own exception whose __init__ says super().__init__(text), and may keep one field: its making, over the bare heap -/
namespace Pe
open PySem PySem.Spec PySem.W PySem.Calls PyProof.Rows
abbrev exO (C t : Addr) (d : Option Addr) : Obj := { cls := .ref C, dict := d, data := .fields #[.ref t, .none, .none, .none, .bool false, .none] }

/-- what the written part tells of such a class and its __init__ -/
structure ExC (prog : Program) (K : Frag) (mg : Str → Option Value) (C fI : Addr) (qual : Str) (params : Arguments) (body : List Stmt) (scope : Scope) : Prop where
  cls : ∃ nm q N bs bm sn sub ab col dd k0 k1 k2 k3 k5, K.lookup C = some (excClassObj nm q C N bs bm true sn sub ab col dd k0 k1 k2 k3 k5 "ValueError.__new__") ∧ PySem.HandSPX.refsVE bm = true
  mro : ∃ cd l, clsIn K C = some cd ∧ cd.mro = .ref C :: l ∧ alongIn K "__init__" l = some (some (.builtin "ValueError.__init__"))
  fn : ∃ oc od osl kV doc pm an cda ct cc ccl cdd vs ccs file tf cl cld csl, K.lookup fI = some ⟨oc, od, .func (ksFn "__init__" qual params body scope .none kV doc pm an (.ref cda) ct cc), osl⟩ ∧ codeIn K (.ref cda) qual = true ∧
    K.lookup cda = some ⟨ccl, cdd, .fields vs, ccs⟩ ∧ vs[2]? = some (.str file tf) ∧ ((prog.main.file : Str) == file) = true ∧ K.lookup cc = some ⟨cl, cld, .cell (some (.ref C)), csl⟩
  iC : findIn K (.ref C) "__init__" = some (some (.ref fI))
  tI : typeIn K (.ref fI) = some (.type "function")
  isVE : mroIn K C (.type "ValueError") = some true
  isC : mroIn K C (.ref C) = some true
  exB : subIn K (.ref C) (.type "BaseException") = some true
  tyC : typeIn K (.ref C) = some (.type "type")
  kC : keepIn K (.ref C) = true
  sa : findIn K (.ref C) "__setattr__" = some (some (.builtin "object.__setattr__"))
  sup : mg "super" = none
  op : nsIn K cStatics "thirdparty.any" = some none
  top : (prog.main.scope.names.lookup ("super" : Str)).isSome = false

section
variable {prog : Program} {w : World} {A : Around} {E : Value → Shared → Prop} {h : Heap} {g : Array GenState} {d : Drawn} {t : Nat} {os : OsState}

/-- the bound ValueError.__init__, called -/
theorem call_mw {K : Frag} {u e t0 C : Addr} {rest : List Value} {Q : Value → Shared → Prop} (hC : ∃ nm q N bs bm sn sub ab col dd k0 k1 k2 k3 k5, h.get? C = some (excClassObj nm q C N bs bm true sn sub ab col dd k0 k1 k2 k3 k5 "ValueError.__new__"))
    (he : h.get? e = some (exO C t0 none)) (hu : h.get? u = some (kxs_mw "ValueError.__init__" e)) (hrest : rest.length ≤ sizeLine)
    (hq : ∀ h' t1, (∀ b o, b ≠ e → h.get? b = some o → h'.get? b = some o) → h'.get? e = some (exO C t1 none) → Q .none ⟨h', g, d, t, os⟩) :
    wpAny (model prog w) A (call (.ref u) rest) Q E ⟨h, g, d, t, os⟩ := by
  obtain ⟨nm, q, N, bs, bm, sn, sub, ab, col, dd, k0, k1, k2, k3, k5, hC⟩ := hC
  refine wpAny_call (codeAny_of_tree ?_)
  show wpAny _ A.in1 (callAny (.ref u) ⟨rest, []⟩) _ _ _
  simp only [callAny]
  refine wpAny_bind (wpAny_load hu ?_)
  simp only [kxs_mw, show (Value.type "method-wrapper" == Value.type "method" || Value.type "method-wrapper" == Value.type "builtin_function_or_method" || Value.type "method-wrapper" == Value.type "method-wrapper") = true by decide, if_true]
  refine W.KFB.if_so (by decide) ?_
  refine wpAny_bind (check_bound_init F.excBase_ValueError.toExcCallFacts hC he rfl ?_)
  refine wpAny_bind (wpAny_pure (wpAny_pure ?_))
  refine ⟨Code.quiet_builtin _ (by decide +kernel), codeAny_builtin F.excBase_ValueError.initEntry ?_⟩
  rw [Around.under_plainId F.excBase_ValueError.init.plain _]
  refine exc_init_tree (cls := .ref C) (c2 := .none) (c3 := .none) (b4 := .bool false) he hrest fun h' k e' _ => ?_
  exact hq h' _ k e'

/-- super().__init__(text), in the frame -/
theorem super_init {K : Frag} {mg mb : Str → Option Value} {env : Env} {C fI x t0 : Addr} {qual : Str} {params : Arguments} {body : List Stmt} {scope : Scope} {m : Str → Option Value} {L : Addr} {txt : Str} {ar : Arg} {j : Nat} {p0 p1 p2 p3 p4 p5 : Pos} {Q : Flow → Shared → Prop}
    (X : ExC prog K mg C fI qual params body scope) (hK : K.In h) (hG : h.Ns mainGlobals mg) (hB : h.Ns builtinsNs mb) (hsb : mb "super" = some (.type "super"))
    {cda cc : Addr} (hfn : ∃ oc od osl dV kV doc pm an ct, K.lookup fI = some ⟨oc, od, .func (ksFn "__init__" qual params body scope dV kV doc pm an (.ref cda) ct cc), osl⟩)
    (hcode : ∃ ccl cdd vs ccs file tf, K.lookup cda = some ⟨ccl, cdd, .fields vs, ccs⟩ ∧ vs[2]? = some (.str file tf) ∧ ((prog.main.file : Str) == file) = true) (hcell : ∃ cl cld csl, K.lookup cc = some ⟨cl, cld, .cell (some (.ref C)), csl⟩)
    (henv : env = ksEnv qual scope L fI (.ref cda) cc) (hn : h.Ns L m) (hx : h.get? x = some (exO C t0 none)) (hm : m ar.arg = some (.ref x))
    (hp : (params.posonlyargs ++ params.args).head? = some ar) (hkx : scope.names.lookup ar.arg = some .local) (hks : scope.names.lookup ("super" : Str) = some .globalImplicit) (hkc : scope.names.lookup ("__class__" : Str) = some .free) (hk : scope.kind = .function)
    (hsw : swapsWith (.Call (.Attribute (.Call (.Name "super" p0) [] [] p1) "__init__" p2) [.Constant (.str txt) j p3] [] p4) none p5.line env = pure false) {pl : Sem Bool}
    (hev : eval (.Call (.Attribute (.Call (.Name "super" p0) [] [] p1) "__init__" p2) [.Constant (.str txt) j p3] [] p4) env = (do
      let ov ← attributeBase (.Call (.Name "super" p0) [] [] p1) "__init__" env (eval (.Call (.Name "super" p0) [] [] p1) env)
      standAt p2.atName
      let (f, first) ← holding [ov] (getMethod ov "__init__" pl)
      callWith p4 f first (backTo p4 (starEach [.Constant (.str txt) j p3] env)) []))
    (hq : ∀ h' t1 tk, (∀ b o, b ≠ x → h.get? b = some o → h'.get? b = some o) → h'.get? x = some (exO C t1 none) → Q .next ⟨h', g, d, tk, os⟩) :
    _root_.PySem.wpAt (model prog w) A (.func body env) (exec (.Expr (.Call (.Attribute (.Call (.Name "super" p0) [] [] p1) "__init__" p2) [.Constant (.str txt) j p3] [] p4) p5) env) Q E ⟨h, g, d, t, os⟩ := by
  subst henv
  obtain ⟨oc, od, osl, dV, kV, doc, pm, an, ct, lkI⟩ := hfn
  obtain ⟨ccl, cdd, vs, ccs, file, tf, lkc, hvs, hfile⟩ := hcode
  obtain ⟨cl, cld, csl, lkcell⟩ := hcell
  obtain ⟨nm, q, N, bs, bm, sn, sub, ab, col, dd, k0, k1, k2, k3, k5, lkC, hbm⟩ := X.cls
  obtain ⟨cd, l, hcd, hmro, halong⟩ := X.mro
  have hCg := hK _ _ lkC
  have hxC : x ≠ C := by
    rintro rfl
    rw [hx] at hCg
    cases hCg
  refine ks_wpAt_Expr_any (ks_wpAt_MethodCall (pl := pl) ?_ hev) (by unfold interactive; simp [hk]) hsw
  refine ks_wpAt_super_base (env := ksEnv qual scope L fI (.ref cda) cc) hks hkc (by decide) rfl (hK _ _ lkI) rfl hp rfl (hK _ _ lkc) rfl hvs hfile X.top ?_
  refine ks_loadName_global hk hks (loadGlobal_builtin (env := ksEnv qual scope L fI (.ref cda) cc) hG X.sup hB hsb ⟨rfl, ?_⟩)
  refine wpAny_loadName_free hk hkc rfl ⟨_, hK _ _ lkcell, rfl⟩ ?_
  refine wpAny_loadName_local hk hkx hn hm ?_
  refine ks_wpAny_isType_cls hCg rfl ⟨rfl, ?_⟩
  refine ks_wpAny_call_super hCg rfl hx rfl (fun c z => by cases z) (looks_mroIn hK X.isC) fun h1 e1 k1 => ?_
  have hK1 : K.In h1 := hK.keeps k1
  have hx1 := k1 _ _ hx
  have T1 : Looks (model prog w) h1 (typeOf (.ref x)) (.ref C) := (Looks.ld hx1).andThen .now
  refine kxs_getMethod (B := "ValueError") kxs_ValueError e1 (looks_opaque hK1 X.op) (l₀ := cd.mro) (l := l) ?_ ?_ hK1 halong (T1.andThen (looks_mroIn hK1 X.isVE)) hxC (by decide) ?_
  · exact fun A Q E s k q => wpAny_bind ((looks_clsIn hK1 hcd) A _ E s k (wpAny_pure q))
  · rw [hmro]
    simp [List.dropWhile_cons]
  have k2 : ∀ b o, h1.get? b = some o → (h1.push (kxs_mw "ValueError.__init__" x)).get? b = some o := fun b o e => Heap.get?_push_of_some _ e
  have e2 : (h1.push (kxs_mw "ValueError.__init__" x)).get? h1.objs.size = some (kxs_mw "ValueError.__init__" x) := Heap.get?_push_size h1 rfl
  refine kxs_callWith (i := "ValueError.__init__") (x := x) rfl (evalArgs_plain ?_)
  refine Calls.spliced_cons ?_
  show wpAny _ _ (eval (.Constant (.str txt) j p3) (ksEnv qual scope L fI (.ref cda) cc)) _ _ _
  refine Calls.Constant_str (Calls.spliced_nil ⟨e2, ?_⟩)
  refine call_mw (K := K) ⟨nm, q, N, bs, bm, sn, sub, ab, col, dd, k0, _, _, k3, k5, k2 _ _ (k1 _ _ hCg)⟩ (k2 _ _ hx1) e2 (by show 1 ≤ sizeLine; decide) fun h3 t3 k3' e3 => ?_
  exact hq h3 t3 _ (fun b o hb z => k3' b o hb (k2 _ _ (k1 _ _ z))) e3
end

section
variable {prog : Program} {w : World} {A : Around} {E : Value → Shared → Prop} {h : Heap} {g : Array GenState} {d : Drawn} {t : Nat} {os : OsState}
/-- what the rules ask of the text of such an __init__ with no field -/
structure TxtA (qual : Str) (params : Arguments) (body : List Stmt) (scope : Scope) (me : Str) : Prop where
  par : ∃ ar, (params.posonlyargs ++ params.args).head? = some ar ∧ ar.arg = me
  kx : scope.names.lookup me = some .local
  ks : scope.names.lookup ("super" : Str) = some .globalImplicit
  kc : scope.names.lookup ("__class__" : Str) = some .free
  kf : scope.kind = .function
  co : scope.isCoroutine = false
  gn : scope.isGenerator = false
  cell : ∀ x ∈ scope.names, x.2 ≠ .cell
def SupAt (body : List Stmt) (scope : Scope) (qual : Str) (st : Stmt) : Prop := ∃ p0 p1 p2 p3 p4 p5 txt j, st = .Expr (.Call (.Attribute (.Call (.Name "super" p0) [] [] p1) "__init__" p2) [.Constant (.str txt) j p3] [] p4) p5 ∧
  ∀ L fI cda cc, swapsWith (.Call (.Attribute (.Call (.Name "super" p0) [] [] p1) "__init__" p2) [.Constant (.str txt) j p3] [] p4) none p5.line (ksEnv qual scope L fI (.ref cda) cc) = pure false ∧
    ∃ pl : Sem Bool, eval (.Call (.Attribute (.Call (.Name "super" p0) [] [] p1) "__init__" p2) [.Constant (.str txt) j p3] [] p4) (ksEnv qual scope L fI (.ref cda) cc) = (do
      let ov ← attributeBase (.Call (.Name "super" p0) [] [] p1) "__init__" (ksEnv qual scope L fI (.ref cda) cc) (eval (.Call (.Name "super" p0) [] [] p1) (ksEnv qual scope L fI (.ref cda) cc))
      standAt p2.atName
      let (f, first) ← holding [ov] (getMethod ov "__init__" pl)
      callWith p4 f first (backTo p4 (starEach [.Constant (.str txt) j p3] (ksEnv qual scope L fI (.ref cda) cc))) [])

/-- __init__ without a field, run -/
theorem init_A {K : Frag} {mg mb : Str → Option Value} {C fI x t0 : Addr} {qual self : Str} {params : Arguments} {st : Stmt} {scope : Scope} {R : Result → Shared → Prop}
    (X : ExC prog K mg C fI qual params [st] scope) (T : TxtA qual params [st] scope self) (S : SupAt [st] scope qual st) (hbind : ∀ (fd : FuncData), fd.params = params → fd.defaults = .none → BindsTo ⟨h, g, d, t, os⟩ fd ⟨[.ref x], []⟩ [(self, .ref x)])
    (hK : K.In h) (hG : h.Ns mainGlobals mg) (hB : h.Ns builtinsNs mb) (hsb : mb "super" = some (.type "super")) (hroom : A.depth < recursionLimit) (hlim : h.NoLimit) (hx : h.get? x = some (exO C t0 none))
    (hq : ∀ h' t1 tk, (∀ b o, b ≠ x → h.get? b = some o → h'.get? b = some o) → h'.get? x = some (exO C t1 none) → R (.ok (.ret .none)) ⟨h', g, d, tk, os⟩) :
    codeAny (model prog w) A (.call (.ref fI) ⟨[.ref x], []⟩) R ⟨h, g, d, t, os⟩ := by
  obtain ⟨oc, od, osl, kV, doc, pm, an, cda, ct, cc, ccl, cdd, vs, ccs, file, tf, cl, cld, csl, lkI, hcd, lkc, hvs, hfile, lkcell⟩ := X.fn
  obtain ⟨ar, har, rfl⟩ := T.par
  obtain ⟨p0, p1, p2, p3, p4, p5, txt, j, rfl, hS⟩ := S
  refine ks_codeAny_call_defAt hroom (hK _ _ lkI) rfl hlim (codeRec_of hK hcd) rfl (hbind _ rfl rfl) T.cell (fun y hy => by rw [List.mem_singleton.mp hy]; exact T.kx) (fun h0 hns hk0 => ?_) T.co T.gn T.kf
  obtain ⟨hsw, pl, hev⟩ := hS h.objs.size fI cda cc
  refine ks_wpAt_execs_cons ?_
  refine super_init (K := K) (mg := mg) (mb := mb) (x := x) (pl := pl) X (hK.keeps hk0) (hG.keeps hk0) (hB.keeps hk0) hsb ⟨oc, od, osl, .none, kV, doc, pm, an, ct, lkI⟩ ⟨ccl, cdd, vs, ccs, file, tf, lkc, hvs, hfile⟩ ⟨cl, cld, csl, lkcell⟩ rfl hns (hk0 _ _ hx) ?_ har T.kx T.ks T.kc T.kf hsw hev fun h1 t1 tk k1 e1 => ?_
  · simp
  · refine wpAt_of_wpAny (wpAny_execs_nil ?_)
    exact hq h1 t1 tk (fun b o hb z => k1 b o hb (hk0 b o z)) e1
end
end Pe
end
/- E2 -/
section
set_option Elab.async false
set_option linter.all false
set_option maxRecDepth 100000
set_option maxHeartbeats 2000000
namespace Pe
open PySem PySem.Spec PySem.W PySem.Calls PyProof.Rows
section
variable {prog : Program} {w : World} {A : Around} {E : Value → Shared → Prop} {h : Heap} {g : Array GenState} {d : Drawn} {t : Nat} {os : OsState}
/-- .. with one field: (self, f): super().__init__(text); self.f = f -/
structure TxtB (K : Frag) (C : Addr) (params : Arguments) (scope : Scope) (me fd pn : Str) : Prop where
  ky : scope.names.lookup pn = some .local
  ne : pn ≠ me
  no : findIn K (.ref C) fd = some none

/-- __init__ with a field, run -/
theorem init_B {K : Frag} {mg mb : Str → Option Value} {C fI x t0 : Addr} {qual self fd pn : Str} {v : Value} {params : Arguments} {st : Stmt} {p6 p7 p8 p9 : Pos} {scope : Scope} {R : Result → Shared → Prop} (hKx : ∀ h', (∀ b o, b ≠ x → h.get? b = some o → h'.get? b = some o) → K.In h') (hdm : (self == ("__debug__" : Str)) = false) (hdp : (pn == ("__debug__" : Str)) = false)
    (X : ExC prog K mg C fI qual params [st, .Assign [.Attribute (.Name self p6) fd p7] (.Name pn p8) p9] scope) (T : TxtA qual params [st, .Assign [.Attribute (.Name self p6) fd p7] (.Name pn p8) p9] scope self) (B : TxtB K C params scope self fd pn)
    (S : SupAt [st, .Assign [.Attribute (.Name self p6) fd p7] (.Name pn p8) p9] scope qual st) (hsw2 : ∀ env, swapsWith (.Name pn p8) (some (.Attribute (.Name self p6) fd p7)) p9.line env = pure false) (hbind : ∀ (fd : FuncData), fd.params = params → fd.defaults = .none → BindsTo ⟨h, g, d, t, os⟩ fd ⟨[.ref x, v], []⟩ [(self, .ref x), (pn, v)])
    (hK : K.In h) (hG : h.Ns mainGlobals mg) (hB : h.Ns builtinsNs mb) (hsb : mb "super" = some (.type "super")) (hroom : A.depth < recursionLimit) (hlim : h.NoLimit) (hx : h.get? x = some (exO C t0 none))
    (hq : ∀ h' t1 tk dx, (∀ b o, b ≠ x → h.get? b = some o → h'.get? b = some o) → h.objs.size ≤ dx → dx ≠ x → h'.get? x = some (exO C t1 (some dx)) → h'.Ns1 dx (fun y => if y = fd then some v else none) → R (.ok (.ret .none)) ⟨h', g, d, tk, os⟩) :
    codeAny (model prog w) A (.call (.ref fI) ⟨[.ref x, v], []⟩) R ⟨h, g, d, t, os⟩ := by
  obtain ⟨oc, od, osl, kV, doc, pm, an, cda, ct, cc, ccl, cdd, vs, ccs, file, tf, cl, cld, csl, lkI, hcd, lkc, hvs, hfile, lkcell⟩ := X.fn
  obtain ⟨nm, q, N, bs, bm, sn, sub, ab, col, dd, k0, k1, k2, k3, k5, lkC, hbm⟩ := X.cls
  have hcl : clsIn K C = some { name := nm, bases := bs, mro := .ref C :: bm, ns := N, qualname := q, hasDict := true, slotNames := sn, subclasses := sub, abstract := ab, collection := col, hasDel := false } := by unfold clsIn; rw [lkC] <;> rfl
  obtain ⟨ar, har, hae⟩ := T.par
  subst hae
  obtain ⟨p0, p1, p2, p3, p4, p5, txt, j, rfl, hS⟩ := S
  refine ks_codeAny_call_defAt hroom (hK _ _ lkI) rfl hlim (codeRec_of hK hcd) rfl (hbind _ rfl rfl) T.cell (fun y hy => by
    rcases List.mem_cons.mp hy with e | hy
    · rw [e]; exact T.kx
    · rw [List.mem_singleton.mp hy]; exact B.ky) (fun h0 hns hk0 => ?_) T.co T.gn T.kf
  obtain ⟨hsw, pl, hev⟩ := hS h.objs.size fI cda cc
  refine ks_wpAt_execs_cons ?_
  refine super_init (K := K) (mg := mg) (mb := mb) (x := x) (pl := pl) X (hK.keeps hk0) (hG.keeps hk0) (hB.keeps hk0) hsb ⟨oc, od, osl, .none, kV, doc, pm, an, ct, lkI⟩ ⟨ccl, cdd, vs, ccs, file, tf, lkc, hvs, hfile⟩ ⟨cl, cld, csl, lkcell⟩ rfl hns (hk0 _ _ hx) ?_ har T.kx T.ks T.kc T.kf hsw hev fun h1 t1 tk k1' e1 => ?_
  · show List.lookup ar.arg [(pn, v), (ar.arg, Value.ref x)] = some (Value.ref x)
    have e1 : (ar.arg == pn) = false := by simpa using B.ne.symm
    simp [List.lookup, e1]
  · have kk : ∀ b o, b ≠ x → h.get? b = some o → h1.get? b = some o := fun b o hb z => k1' b o hb (hk0 b o z)
    have hxL : h.objs.size ≠ x := fun z => absurd (Heap.lt_size hx) (by rw [← z]; exact Nat.lt_irrefl _)
    have hn1 := hns.at (h' := h1) fun o z => k1' _ o hxL z
    have hxC : C ≠ x := by
      rintro rfl
      have z := hK _ _ lkC
      rw [hx] at z
      cases z
    have KX : K.In h1 := hKx h1 kk
    have m1 : List.lookup ar.arg [(pn, v), (ar.arg, Value.ref x)] = some (Value.ref x) := by
      have e1 : (ar.arg == pn) = false := by simpa using B.ne.symm
      simp [List.lookup, e1]
    have m2 : List.lookup pn [(pn, v), (ar.arg, Value.ref x)] = some v := by simp [List.lookup]
    refine ks_wpAt_execs_cons ?_
    refine ks_wpAt_Assign_Attr (wpAt_of_wpAny (wpAny_Name (wpAny_loadName_local T.kf B.ky hn1 m2 ?_) hdp)) (hsw2 _)
    refine wpAny_Name (wpAny_loadName_local T.kf T.kx hn1 m1 ?_) hdm
    refine set_plain KX (C := C) (ox := exO C t1 none) (od := none) ⟨e1, rfl, rfl, trivial⟩ X.sa ?_
    refine HandSPX.exc_osa KX e1 hcl (show HandSPX.refsVE (.ref C :: bm) = true from hbm) rfl B.no (fun h2 tk2 dx k2 dn dne hx2 hn2 => ?_)
    refine wpAt_of_wpAny (wpAny_execs_nil ?_)
    refine hq h2 t1 tk2 dx (fun b o hb z => k2 b o hb (kk b o hb z)) ?_ dne hx2 hn2
    obtain ⟨oL, _, _, eL, _⟩ := hn1
    exact Nat.le_trans (Nat.le_of_lt (Heap.lt_size eL)) dn
end
end Pe

namespace Pe
open PySem PySem.Spec PyProof.Rows L2
theorem boot_super : bootBuiltins "super" = some (.type "super") := by decide +kernel
section
variable {X : Cx} {G : Pb.Gx} {W : WX}
/-- C(), C an own error without a field -/
theorem pmk_A {C fI : Addr} {qual self x : Str} {params : Arguments} {st : Stmt} {scope : Scope} {p pos : Pos} {k : Nat} (T : ExC X.prog X.K X.mg C fI qual params [st] scope) (TA : TxtA qual params [st] scope self) (S : SupAt [st] scope qual st)
    (hbind : ∀ (fd : FuncData) (x : Addr), fd.params = params → fd.defaults = .none → bindArgs fd ⟨[.ref x], []⟩ = pure [(self, .ref x)]) (hr : Room (k + 1) X.A) (hg : Gl X x) (hm : X.mg x = some (.ref C)) (hdb : (x == ("__debug__" : Str)) = false := by decide) :
    PMk X (.Call (.Name x p) [] [] pos) (fun _ H Q => Q (.ref C) none H) := by
  intro pins s σ H Q I h
  obtain ⟨nm, q, N, bs, bm, sn, sub, ab, col, dd, k0, k1, k2, k3, k5, hC, hbm⟩ := T.cls
  refine wpAny_Call_Name_kw (ld_glob I hg hm ?_ hdb)
  refine PySem.W.callWith_K0 I.kIn T.kC ?_
  have IK := I.kIn
  have noL := I.nolimit
  obtain ⟨mb, hB, hmb⟩ := I.mod.blt
  have hG := I.mod.glob
  have bk := I.bk
  have hok := I.hok
  obtain ⟨hp, g, dr, tk, os⟩ := s
  have kk : ∀ b o, hp.get? b = some o → ((hp.push (PySem.W.kdv_tup [])).push (PySem.HandSPX.excO C hp.objs.size)).get? b = some o := fun b o e => Heap.get?_push_of_some _ (Heap.get?_push_of_some _ e)
  have hget : ((hp.push (PySem.W.kdv_tup [])).push (PySem.HandSPX.excO C hp.objs.size)).get? (hp.objs.size + 1) = some (PySem.HandSPX.excO C hp.objs.size) := by heap_get
  have new : hp.get? (hp.objs.size + 1) = none := by
    cases z : hp.get? (hp.objs.size + 1) with
    | none => rfl
    | some o => exact absurd (Nat.lt_trans (Heap.lt_size z) (Nat.lt_succ_self _)) (Nat.lt_irrefl _)
  refine wpAny_call (PySem.HandSPX.call_own F.excBase_ValueError (fun Y => PySem.HandSPX.refsVE_contains Y bm hbm) (IK _ _ hC) (PySem.W.looks_findIn IK T.iC) (fun self => PySem.W.bind_fn IK self T.tI) (Nat.zero_le _) ?_)
  refine init_A (x := hp.objs.size + 1) (t0 := hp.objs.size) T TA S (fun fd e e2 => .of_eq (hbind fd _ e e2)) (IK.keeps kk) (hG.keeps fun b o e => kk b o (bk b o e)) (hB.keeps fun b o e => kk b o (bk b o e)) ((hmb _ (by decide)).trans boot_super) (hr.make C [] []).depth (noL.keeps kk) hget fun h' t1 tk' k' e' => ?_
  refine ⟨rfl, ?_⟩
  refine ⟨hp.objs.size + 1, _, _, ⟨hp, g, dr, tk, os⟩, H, .ref C, none, rfl, I, fun b o e => k' b o (fun z => by rw [z, new] at e; cases e) (kk b o e), new, e', ⟨rfl, rfl⟩, rfl, rfl, hok.gone new, rfl, I.bare, raises_own T.exB T.tyC, h⟩
/-- C(e), C an own error with one field -/
theorem pmk_B {C fI : Addr} {qual self fd pn x : Str} {params : Arguments} {st : Stmt} {scope : Scope} {p6 p7 p8 p9 p pos : Pos} {k : Nat} {e : Expr} {ta : TA} (T : ExC X.prog X.K X.mg C fI qual params [st, .Assign [.Attribute (.Name self p6) fd p7] (.Name pn p8) p9] scope)
    (TA : TxtA qual params [st, .Assign [.Attribute (.Name self p6) fd p7] (.Name pn p8) p9] scope self) (TB : TxtB X.K C params scope self fd pn) (S : SupAt [st, .Assign [.Attribute (.Name self p6) fd p7] (.Name pn p8) p9] scope qual st) (hsw2 : ∀ env, swapsWith (.Name pn p8) (some (.Attribute (.Name self p6) fd p7)) p9.line env = pure false)
    (hbind : ∀ (fd : FuncData) (x : Addr) (v : Value), fd.params = params → fd.defaults = .none → bindArgs fd ⟨[.ref x, v], []⟩ = pure [(self, .ref x), (pn, v)]) (hr : Room (k + 1) X.A) (hg : Gl X x) (hm : X.mg x = some (.ref C)) (ha : PA X [e] ta) (hdb : (x == ("__debug__" : Str)) = false := by decide) (hdm : (self == ("__debug__" : Str)) = false := by decide) (hdp : (pn == ("__debug__" : Str)) = false := by decide)
    (he : starEach [e] X.env = (false, eval e X.env) :: starEach [] X.env := by rfl) (hpl : (backTo pos (starEach [] X.env)).any (·.1) = false := by rfl) :
    PMk X (.Call (.Name x p) [e] [] pos) (fun σ H Q => ta σ H fun vs H1 => ∃ v, vs = [v] ∧ ∀ d, H1 d = none → Q (.ref C) (some d) (upd H1 d (.xd [(fd, v)]))) := by
  intro pins s σ H Q I h
  obtain ⟨nm, q, N, bs, bm, sn, sub, ab, col, dd, k0, k1, k2, k3, k5, hC, hbm⟩ := T.cls
  refine wpAny_Call_Name_kw (ld_glob I hg hm ?_ hdb)
  refine PySem.W.callWith_K (h₀ := X.base) I.ok.mod.kin T.kC (thn (ha.run pos pins s σ H _ I h) fun us s1 ⟨vs, H1, I1, r1, v, ev, q1⟩ => ⟨I1.kIn, ?_⟩) he hpl
  subst ev
  cases r1 with
  | @cons _ u _ ur rv rr =>
  cases rr
  have IK := I1.kIn
  have noL := I1.nolimit
  obtain ⟨mb, hB, hmb⟩ := I1.mod.blt
  have hG := I1.mod.glob
  have bk := I1.bk
  have hok := I1.hok
  obtain ⟨hp, g, dr, tk, os⟩ := s1
  have kk : ∀ b o, hp.get? b = some o → ((hp.push (PySem.W.kdv_tup [u])).push (PySem.HandSPX.excO C hp.objs.size)).get? b = some o := fun b o e => Heap.get?_push_of_some _ (Heap.get?_push_of_some _ e)
  have hget : ((hp.push (PySem.W.kdv_tup [u])).push (PySem.HandSPX.excO C hp.objs.size)).get? (hp.objs.size + 1) = some (PySem.HandSPX.excO C hp.objs.size) := by heap_get
  have new : hp.get? (hp.objs.size + 1) = none := by
    cases z : hp.get? (hp.objs.size + 1) with
    | none => rfl
    | some o => exact absurd (Nat.lt_trans (Heap.lt_size z) (Nat.lt_succ_self _)) (Nat.lt_irrefl _)
  have nx : ∀ b o, hp.get? b = some o → b ≠ hp.objs.size + 1 := fun b o e z => by rw [z, new] at e; cases e
  show wpAny _ _ (call (.ref C) [u]) _ _ _
  refine wpAny_call (PySem.HandSPX.call_own F.excBase_ValueError (fun Y => PySem.HandSPX.refsVE_contains Y bm hbm) (IK _ _ hC) (PySem.W.looks_findIn IK T.iC) (fun self => PySem.W.bind_fn IK self T.tI) (by show 1 ≤ sizeLine; decide) ?_)
  refine init_B (x := hp.objs.size + 1) (t0 := hp.objs.size) (v := u) (fun h' k' => IK.keeps fun b o e => k' b o (nx b o e) (kk b o e)) hdm hdp T TA TB S hsw2 (fun fd e e2 => .of_eq (hbind fd _ _ e e2)) (IK.keeps kk) (hG.keeps fun b o e => kk b o (bk b o e)) (hB.keeps fun b o e => kk b o (bk b o e)) ((hmb _ (by decide)).trans boot_super) (hr.make C [u] []).depth (noL.keeps kk) hget
    fun h' t1 tk' dx k' dn dne e' hns => ?_
  refine ⟨rfl, ?_⟩
  obtain ⟨Gp, g1, g2⟩ := restrict h' fun b => decide (b ≠ hp.objs.size + 1)
  have ga : Gp.get? (hp.objs.size + 1) = none := g2 _ (by simp)
  have gk : ∀ b, b ≠ hp.objs.size + 1 → Gp.get? b = h'.get? b := fun b hb => g1 b (decide_eq_true hb)
  have hd : hp.objs.size ≤ dx := Nat.le_trans (by rw [Heap.size_push, Heap.size_push]; omega) dn
  have nd : H1 dx = none := hok.fresh hd
  have J : Inv X pins σ (upd H1 dx (.xd [(fd, v)])) ⟨Gp, g, dr, tk', os⟩ := I1.laid (t' := tk') (h' := Gp) (fun b o e => by
      rw [gk b (nx b o e)]
      exact k' b o (nx b o e) (kk b o e)) hd ⟨_, hns.at fun o z => (gk dx dne).trans z, fun f => relO_put (fs := []) (mA := fun _ => none) rv (fun _ => trivial) f⟩
  refine ⟨hp.objs.size + 1, _, _, ⟨Gp, g, dr, tk', os⟩, _, .ref C, some dx, rfl, J, fun b o e => ?_, ga, e', ⟨rfl, rfl⟩, rfl, rfl, ?_, rfl, J.bare, raises_own T.exB T.tyC, q1 dx nd⟩
  · by_cases hb : b = hp.objs.size + 1
    · rw [hb, ga] at e; cases e
    · rw [← gk b hb]; exact e
  · rw [upd_ne (Ne.symm dne)]
    exact hok.gone new
end
end Pe
end
/- E3 -/
section
set_option Elab.async false
set_option linter.all false
set_option maxRecDepth 100000
set_option maxHeartbeats 2000000
namespace Pb
open PySem PySem.Spec PyProof.Rows L2
section
variable {X : Cx} {G : Gx} {W : WX} {pin : List Nat} {n : Nat}
/-! ### raise -/
theorem Good.putF {F H : Hp} {es : List Ent} {p : Addr} {o : HO} (g : Good G F H es) (h : H p = none) (nt : NoT o) : Good G (upd F p o) (upd H p o) es := by
  refine g.ext (.of (same_new (none_sub g.sub h)) (same_new h) (fun a => ?_) (nt_upd nt)) (sub_upd2 g.sub)
  by_cases e : a = p
  · rw [e]; exact .inr h
  · exact .inl (upd_ne e)
def mRaise0 (c : Str) : S := fun ρ => .ex (.exc c [] []) ρ
theorem rs_raise0 {c : Str} {C : Addr} {e : Expr} {pos : Pos} (hC : G.cls c = some C) (mk : PMk X e (fun _ H Q => Q (.ref C) none H)) (hc : X.calm = true) (tk : Takes X W) : JS X G W pin n (.Raise (some e) none pos) (mRaise0 c) :=
  ⟨ps_imp (ps_raise hc tk mk) fun D σ H ⟨F, ρ, fr, g, hl, o⟩ => o (.ref C) none σ F H (.refl F) (.refl hl) g ⟨C, [], hC, rfl, rfl, rfl, .inl ⟨rfl, rfl⟩⟩⟩
def mRaise1 (c f : Str) (m : MA) : S := fun ρ => (m ρ).fl fun rs ρ' => match rs with
  | [r] => if r.al = true then .no else .ex (.exc c [f] [r.t]) ρ'
  | _ => .no
theorem rs_raise1 {c f : Str} {C : Addr} {e : Expr} {es : List Expr} {pos : Pos} {pu : Bool} {m : MA} (hC : G.cls c = some C) (ha : JA X G W pu es m) (mk : ∀ {t : TA}, PA X es t → PMk X e (fun σ H Q => t σ H fun vs H1 => ∃ v, vs = [v] ∧ ∀ d, H1 d = none → Q (.ref C) (some d) (upd H1 d (.xd [(f, v)])))) (hc : X.calm = true) (tk : Takes X W) :
    JS X G W pin n (.Raise (some e) none pos) (mRaise1 c f m) := by
  refine ⟨ps_imp (ps_raise hc tk (mk ha.pa)) fun D σ H ⟨F, ρ, fr, g, hl, o⟩ => ?_⟩
  refine ha.seqS g hl o fun rs ρ1 xs F1 H1 e1 s1 g1 a1 o1 => ?_
  match rs, a1, o1, g1 with
  | [r], a1, o1, g1 =>
    simp only at o1
    split at o1
    · exact o1.elim
    rename_i hal
    obtain ⟨F2, s2, g2, r2, _⟩ := freezeAll g1 a1 (by simpa [noAl] using hal) (H0 := H1) False (fun z => z.elim)
    obtain ⟨x, xr, rfl, ra, e2⟩ := r2
    have e2' : xr = [] := e2
    subst e2'
    refine ⟨x, rfl, fun d hd => ?_⟩
    have nx : NoT (.xd [(f, x)]) := fun _ z => by cases z
    refine o1 (.ref C) (some d) σ (upd F2 d (.xd [(f, x)])) _ (s2.trans (same_new (none_sub g2.sub hd))) (.refl hl) (g2.putF hd nx) ⟨C, [x], hC, rfl, rfl, ⟨x, [], rfl, Rep.mono (same_new (none_sub g2.sub hd)) _ _ ra, rfl⟩, .inr ⟨d, rfl, upd_same⟩⟩
  | [], _, o1, _ => exact o1.elim
  | _ :: _ :: _, _, o1, _ => exact o1.elim

/-! ### the caught error as a tree -/
mutual
/-- no error within -/
def nE : T → Bool
  | .tup ts => nEs ts
  | .lst ts => nEs ts
  | .frl ts => nEs ts
  | .frt ts => nEs ts
  | .dct _ _ ts => nEs ts
  | .obj _ _ ts => nEs ts
  | .exc _ _ _ => false
  | _ => true
def nEs : List T → Bool
  | [] => true
  | t :: ts => nE t && nEs ts
end
abbrev Gx.err (G : Gx) (z : Addr × T × Option Addr) : Gx := { G with ea := some z }
mutual
theorem Rep.err {F : Hp} {z : Addr × T × Option Addr} (h0 : G.ea = none) : ∀ (t : T) (x : V), Rep G F t x → Rep (G.err z) F t x ∧ nE t = true
  | .non, x, q => ⟨q, rfl⟩
  | .bl b, x, q => ⟨q, rfl⟩
  | .int i, x, q => ⟨q, rfl⟩
  | .str s, x, q => ⟨q, rfl⟩
  | .ty n, x, q => ⟨q, rfl⟩
  | .fn n, x, q => ⟨q, rfl⟩
  | .cls n, x, q => ⟨q, rfl⟩
  | .tup ts, x, q => by
    obtain ⟨a, vs, e, s, r⟩ := q
    obtain ⟨r1, r2⟩ := Reps.err (z := z) h0 ts vs r
    exact ⟨⟨a, vs, e, s, r1⟩, r2⟩
  | .lst ts, x, q => by
    obtain ⟨a, vs, e, s, r⟩ := q
    obtain ⟨r1, r2⟩ := Reps.err (z := z) h0 ts vs r
    exact ⟨⟨a, vs, e, s, r1⟩, r2⟩
  | .frl ts, x, q => by
    obtain ⟨a, vs, e, s, r⟩ := q
    obtain ⟨r1, r2⟩ := Reps.err (z := z) h0 ts vs r
    exact ⟨⟨a, vs, e, s, r1⟩, r2⟩
  | .frt ts, x, q => by
    obtain ⟨a, vs, e, s, r⟩ := q
    obtain ⟨r1, r2⟩ := Reps.err (z := z) h0 ts vs r
    exact ⟨⟨a, vs, e, s, r1⟩, r2⟩
  | .dct kd ks ts, x, q => by
    obtain ⟨a, vs, e, s, r⟩ := q
    obtain ⟨r1, r2⟩ := Reps.err (z := z) h0 ts vs r
    exact ⟨⟨a, vs, e, s, r1⟩, r2⟩
  | .obj c ns ts, x, q => by
    obtain ⟨a, C, dx, vs, e, hc, s, s', l, r⟩ := q
    obtain ⟨r1, r2⟩ := Reps.err (z := z) h0 ts vs r
    exact ⟨⟨a, C, dx, vs, e, hc, s, s', l, r1⟩, r2⟩
  | .exc c ns ts, x, q => by
    obtain ⟨a, d, vs, e, _⟩ := q
    rw [h0] at e
    cases e
  | .opq o, x, q => ⟨q, rfl⟩
theorem Reps.err {F : Hp} {z : Addr × T × Option Addr} (h0 : G.ea = none) : ∀ (ts : List T) (xs : List V), Reps G F ts xs → Reps (G.err z) F ts xs ∧ nEs ts = true
  | [], xs, q => ⟨q, rfl⟩
  | t :: ts, xs, q => by
    obtain ⟨x, r, e, a, b⟩ := q
    obtain ⟨a1, a2⟩ := Rep.err (z := z) h0 t x a
    obtain ⟨b1, b2⟩ := Reps.err (z := z) h0 ts r b
    exact ⟨⟨x, r, e, a1, b1⟩, by rw [nEs, a2, b2]; rfl⟩
end
mutual
theorem Rep.unerr {F : Hp} {z : Addr × T × Option Addr} : ∀ (t : T) (x : V), nE t = true → Rep (G.err z) F t x → Rep G F t x
  | .non, x, _, q => q
  | .bl b, x, _, q => q
  | .int i, x, _, q => q
  | .str s, x, _, q => q
  | .ty n, x, _, q => q
  | .fn n, x, _, q => q
  | .cls n, x, _, q => q
  | .tup ts, x, h, q => by
    obtain ⟨a, vs, e, s, r⟩ := q
    exact ⟨a, vs, e, s, Reps.unerr ts vs h r⟩
  | .lst ts, x, h, q => by
    obtain ⟨a, vs, e, s, r⟩ := q
    exact ⟨a, vs, e, s, Reps.unerr ts vs h r⟩
  | .frl ts, x, h, q => by
    obtain ⟨a, vs, e, s, r⟩ := q
    exact ⟨a, vs, e, s, Reps.unerr ts vs h r⟩
  | .frt ts, x, h, q => by
    obtain ⟨a, vs, e, s, r⟩ := q
    exact ⟨a, vs, e, s, Reps.unerr ts vs h r⟩
  | .dct kd ks ts, x, h, q => by
    obtain ⟨a, vs, e, s, r⟩ := q
    exact ⟨a, vs, e, s, Reps.unerr ts vs h r⟩
  | .obj c ns ts, x, h, q => by
    obtain ⟨a, C, dx, vs, e, hc, s, s', l, r⟩ := q
    exact ⟨a, C, dx, vs, e, hc, s, s', l, Reps.unerr ts vs h r⟩
  | .exc c ns ts, x, h, q => by cases h
  | .opq o, x, _, q => q
theorem Reps.unerr {F : Hp} {z : Addr × T × Option Addr} : ∀ (ts : List T) (xs : List V), nEs ts = true → Reps (G.err z) F ts xs → Reps G F ts xs
  | [], xs, _, q => q
  | t :: ts, xs, h, q => by
    obtain ⟨x, r, e, a, b⟩ := q
    have h' := Bool.and_eq_true _ _ ▸ (show (nE t && nEs ts) = true from h)
    exact ⟨x, r, e, Rep.unerr t x h'.1 a, Reps.unerr ts r h'.2 b⟩
end
theorem Own.err {F H : Hp} {z : Addr × T × Option Addr} (h0 : G.ea = none) : ∀ {d : Nat} {t : T} {x : V} {as : List Addr}, Own G F H d t x as → Own (G.err z) F H d t x as ∧ nE t = true
  | 0, t, x, as, q => ⟨⟨q.1, (Rep.err h0 t x q.2).1⟩, (Rep.err (z := z) h0 t x q.2).2⟩
  | d + 1, t, x, as, q => by
    have deep : ∀ {ts : List T} {vs : List V} {bs : List Addr}, All2 (Own G F H d) ts vs bs → All2 (Own (G.err z) F H d) ts vs bs ∧ nEs ts = true := by
      intro ts
      induction ts with
      | nil => intro vs bs r; exact ⟨r, rfl⟩
      | cons t ts ih =>
        intro vs bs r
        obtain ⟨x, r', a, b, e1, e2, p, r⟩ := r
        obtain ⟨p1, p2⟩ := Own.err (z := z) h0 p
        obtain ⟨i1, i2⟩ := ih r
        exact ⟨⟨x, r', a, b, e1, e2, p1, i1⟩, by rw [nEs, p2, i2]; rfl⟩
    cases t with
    | lst ts =>
      obtain ⟨a, vs, bs, e1, e2, f, g, r⟩ := q
      obtain ⟨r1, r2⟩ := deep r
      exact ⟨⟨a, vs, bs, e1, e2, f, g, r1⟩, r2⟩
    | dct kd ks ts =>
      obtain ⟨a, vs, bs, e1, e2, f, g, r⟩ := q
      obtain ⟨r1, r2⟩ := deep r
      exact ⟨⟨a, vs, bs, e1, e2, f, g, r1⟩, r2⟩
    | opq o => exact ⟨q, rfl⟩
    | _ => exact ⟨⟨q.1, (Rep.err h0 _ x q.2).1⟩, (Rep.err (z := z) h0 _ x q.2).2⟩
theorem Own.unerr {F H : Hp} {z : Addr × T × Option Addr} : ∀ {d : Nat} {t : T} {x : V} {as : List Addr}, nE t = true → Own (G.err z) F H d t x as → Own G F H d t x as
  | 0, t, x, as, h, q => ⟨q.1, Rep.unerr t x h q.2⟩
  | d + 1, t, x, as, h, q => by
    have deep : ∀ {ts : List T} {vs : List V} {bs : List Addr}, nEs ts = true → All2 (Own (G.err z) F H d) ts vs bs → All2 (Own G F H d) ts vs bs := by
      intro ts
      induction ts with
      | nil => intro vs bs _ r; exact r
      | cons t ts ih =>
        intro vs bs h r
        obtain ⟨x, r', a, b, e1, e2, p, r⟩ := r
        have h' := Bool.and_eq_true _ _ ▸ (show (nE t && nEs ts) = true from h)
        exact ⟨x, r', a, b, e1, e2, Own.unerr h'.1 p, ih h'.2 r⟩
    cases t with
    | lst ts =>
      obtain ⟨a, vs, bs, e1, e2, f, g, r⟩ := q
      exact ⟨a, vs, bs, e1, e2, f, g, deep h r⟩
    | dct kd ks ts =>
      obtain ⟨a, vs, bs, e1, e2, f, g, r⟩ := q
      exact ⟨a, vs, bs, e1, e2, f, g, deep h r⟩
    | opq o => exact q
    | _ => exact ⟨q.1, Rep.unerr _ x h q.2⟩
def nEe (es : List Ent) : Bool := es.all fun e => nE e.2.1
theorem EnOk.err {F H : Hp} {z : Addr × T × Option Addr} (h0 : G.ea = none) : ∀ {es : List Ent} {as : List Addr}, EnOk G F H es as → EnOk (G.err z) F H es as ∧ nEe es = true
  | [], as, q => ⟨q, rfl⟩
  | (d, t, x) :: es, as, q => by
    obtain ⟨a, b, e, p, q⟩ := q
    obtain ⟨p1, p2⟩ := p.err (z := z) h0
    obtain ⟨q1, q2⟩ := q.err (z := z) h0
    exact ⟨⟨a, b, e, p1, q1⟩, by unfold nEe at q2 ⊢; rw [List.all_cons, q2, p2]; rfl⟩
theorem EnOk.unerr {F H : Hp} {z : Addr × T × Option Addr} : ∀ {es : List Ent} {as : List Addr}, nEe es = true → EnOk (G.err z) F H es as → EnOk G F H es as
  | [], as, _, q => q
  | (d, t, x) :: es, as, h, q => by
    obtain ⟨a, b, e, p, q⟩ := q
    have h' : nE t = true ∧ nEe es = true := by unfold nEe at h ⊢; rw [List.all_cons] at h; exact Bool.and_eq_true _ _ ▸ h
    exact ⟨a, b, e, p.unerr h'.1, q.unerr h'.2⟩
theorem Good.err {F H : Hp} {es : List Ent} {z : Addr × T × Option Addr} (h0 : G.ea = none) (g : Good G F H es) : Good (G.err z) F H es ∧ nEe es = true := by
  obtain ⟨as, q, nd⟩ := g.own
  obtain ⟨q1, q2⟩ := q.err (z := z) h0
  exact ⟨⟨g.sub, g.nt, g.tab, as, q1, nd⟩, q2⟩
theorem Good.unerr {F H : Hp} {es : List Ent} {z : Addr × T × Option Addr} (h : nEe es = true) (g : Good (G.err z) F H es) : Good G F H es := by
  obtain ⟨as, q, nd⟩ := g.own
  exact ⟨g.sub, g.nt, g.tab, as, q.unerr h, nd⟩
end
end Pb
end
/- E4 -/
section
set_option Elab.async false
set_option linter.all false
set_option maxRecDepth 100000
set_option maxHeartbeats 4000000
namespace Pe
open PySem PySem.Spec PySem.W PySem.Calls PyProof.Rows
section
variable {prog : Program} {w : World} {A : Around} {E : Value → Shared → Prop} {s : Shared} {K : Frag} {x D : Addr} {ox : Obj} {od : Option Obj}
theorem find_data {C : Addr} {nm : Str} {a g : Value} (hc : (clsIn K C).isSome = true) (ha : findIn K (.ref C) nm = some (some a)) (hg : specialIn K a "__get__" = some (some g)) (ht : takesIn K a = some true) : findObj K C od nm = some (.bind g a) := by
  obtain ⟨cd, hc⟩ := Option.isSome_iff_exists.mp hc
  unfold findObj
  rw [hc, Option.bind_some, ha, Option.bind_some]
  simp [hg, ht]
/-- e.__class__ of an error at x, with a dict or without -/
theorem cls_of_err {Q : Option Value → Shared → Prop} (T : L2.ExcC K D) (X : K.In s.heap) (I : InstAt s.heap x ox D od)
    (h : Q (some (.ref D)) { s with toks := s.toks + 1 }) : wpAny (model prog w) A (getAttr? (.ref x) "__class__") Q E s := by
  obtain ⟨hga, hgt, hsub, hdct, ha, hn, htk, hm⟩ := T
  have hf : findObj K D od "__class__" = some (.bind (.builtin "getset_descriptor.__get__") (.builtin "object.__class__")) :=
    find_data (by obtain ⟨cd, hc, _⟩ := any_some hdct; rw [hc]; rfl) ha hn htk
  obtain ⟨hp, g, d, t, os⟩ := s
  have T0 := I.type (M := model prog w)
  have T1 := looks_findIn (M := model prog w) X hga
  have T2 := looks_findIn (M := model prog w) X hgt
  have T3 := looks_find (M := model prog w) X I hf
  have isB : Looks (model prog w) hp (isInstance (.ref x) (.type "BaseException")) true := T0.andThen (looks_subIn X hsub)
  have z0 : (false && onTheHeap (Value.builtin "BaseException.__getattribute__")) = false := rfl
  have z2 : (Value.builtin "BaseException.__getattribute__" == Value.builtin "object.__getattribute__") = false := by decide +kernel
  have z1 : (onTheHeap (Value.ref D) && Value.builtin "BaseException.__getattribute__" == Value.builtin "object.__getattribute__") = false := by
    rw [z2]; rfl
  unfold getAttr? getAttrBy? getAttrBy
  refine wpAny_bind <| wpAny_mkText <| wpAny_bind <| wpAny_attempt <| wpAny_holding <| wpAny_bind <| T0.at <| wpAny_bind <| T1.at ?_
  show wpAny _ _ (if (onTheHeap (Value.ref D) && Value.builtin "BaseException.__getattribute__" == Value.builtin "object.__getattribute__") = true
    then _ else _) _ _ _
  rw [z1, if_neg Bool.false_ne_true]
  unfold getAttrByItsOwn hookBefore
  apply wpAny_bind
  have zD : onTheHeap (Value.ref D) = true := rfl
  rw [if_pos zD]
  apply T2.at
  refine wpAny_bind <| wpAny_attempt <| wpAny_holding ?_
  unfold callGetattribute
  rw [z0, if_neg Bool.false_ne_true]
  unfold boundAndCalled
  rw [PySem.F.excAttr_ValueError.ga.bind (.ref x)]
  apply wpAny_bind
  apply wpAny_pure
  show wpAny _ _ (call (.builtin "BaseException.__getattribute__") [.ref x, .str "__class__" t]) _ _ _
  apply wpAny_call
  refine codeAny_call_builtin PySem.F.excAttr_ValueError.ga.plain PySem.F.entry_bexc_ga ?_
  refine @check_slot (model prog w) _ _ ⟨hp, g, d, t + 1, os⟩ "BaseException.__getattribute__" "BaseException" "__getattribute__" (.ref x) [.str "__class__" t] [] _
    (by decide +kernel) (by decide +kernel) isB (PySem.F.args_bexc_ga (.ref x) (.str "__class__" t)) ?_
  unfold Builtin.«object.__getattribute__»
  refine wpAny_bind <| wpAny_of_eq (a := ((Value.ref x : Value), [Value.str "__class__" t])) (by first | rfl | (simp only [slotArgs]; rfl)) ?_
  refine wpAny_bind <| wpAny_pure <| wpAny_bind <| T0.at <| wpAny_bind <| T3.at ?_
  show wpAny _ _ (holding [Value.builtin "object.__class__"] (call (.builtin "getset_descriptor.__get__") [.builtin "object.__class__", .ref x, .ref D])
    >>= ret) _ _ _
  refine wpAny_bind <| wpAny_holding <| wpAny_call <| class_get (s := ⟨hp, g, d, t + 1, os⟩) (ox := ox) (od := od) X I hm ?_
  apply wpAny_pure
  show wpAny _ _ (handedOut (.ref D)) _ _ _
  rw [handedOut_of (v := .ref D) rfl]
  first
    | exact wpAny_pure (wpAny_pure h)
    | exact wpAny_pure h
    | exact wpAny_pure (wpAny_bind (wpAny_pure (wpAny_pure h)))
theorem kit_err (T : L2.ExcC K D) : KitX K (.ref x) (.ref D) (fun h => InstAt h x ox D od) := by
  refine ⟨fun _ _ _ I => I.type, fun _ _ X _ => ?_, fun h tp dd its n sl X htp => ?_, fun X I k => cls_of_err T X I k⟩
  · obtain ⟨cd, hc, _⟩ := any_some T.hd
    unfold clsIn at hc
    split at hc
    · rename_i ho
      intro A' Q' E' s' k q
      unfold isType loadHead
      exact wpAny_bind (wpAny_loadPart (k _ _ (X _ _ ho)) (wpAny_pure q))
    · cases hc
  · obtain ⟨cd, hc, _⟩ := any_some T.hd
    rw [Bool.eq_false_iff]
    intro q
    obtain rfl : D = tp := Value.ref.inj (beq_iff_eq.mp q)
    unfold clsIn at hc
    split at hc
    · rename_i ho
      have z := (X _ _ ho).symm.trans htp
      cases z
    · cases hc
end
end Pe
end
/- E5 -/
section
set_option Elab.async false
set_option linter.all false
set_option maxRecDepth 100000
set_option maxHeartbeats 4000000
namespace Pb
open PySem PySem.Spec PyProof.Rows L2
section
variable {X : Cx} {G : Gx} {W : WX} {pin : List Nat} {n : Nat}
/-- what the suite's context knows of the caught error -/
structure ErrX (X : Cx) (a : Addr) (cls : Value) (d : Option Addr) : Prop where
  pn : ∃ oe vs, (a, oe) ∈ X.pn ∧ oe.cls = cls ∧ oe.dict = d ∧ oe.data = .fields vs
theorem errX_suite {a : Addr} {oe : Obj} {cls : Value} {d : Option Addr} {pn : List (Addr × Obj)} (z : Zc cls d oe) (f : ∃ vs, oe.data = .fields vs) : ErrX (X.suite a ((a, oe) :: pn)) a cls d := by
  obtain ⟨vs, hv⟩ := f
  exact ⟨oe, vs, List.mem_cons_self, z.1, z.2, hv⟩
/-- the caught error, as it stands -/
theorem err_inst {pins : List (Addr × Obj)} {σ : SL} {F H : Hp} {s : Shared} {a C : Addr} {d : Option Addr} (I : Inv X pins σ H s) (sF : Sub F H) (E : ErrX X a (.ref C) d) (hd : d = none ∨ ∃ dx gs, d = some dx ∧ F dx = some (.xd gs)) : ∃ ox od, PySem.W.InstAt s.heap a ox C od := by
  obtain ⟨oe, vs, hm, h1, h2, h3⟩ := E.pn
  obtain ⟨hg, _⟩ := I.pin (a, oe) (List.mem_append_left _ hm)
  have hn : PySem.W.notCls oe = true := by unfold PySem.W.notCls; rw [h3]
  rcases hd with hd | ⟨dx, gs, hd, hf⟩
  · exact ⟨oe, none, hg, h1, hn, by rw [h2, hd]; trivial⟩
  · have hx : ObjOk X.prog X.w H s.heap dx (.xd gs) := I.hok dx _ (sF _ _ hf)
    obtain ⟨mA, ⟨o, _, _, e, _⟩, _⟩ := hx
    exact ⟨oe, some o, hg, h1, hn, by rw [h2, hd]; exact e⟩
theorem own_exc {F H : Hp} {k : Nat} {c : Str} {ns : List Str} {ts : List T} {x : V} {as : List Addr} (p : Own G F H k (.exc c ns ts) x as) : as = [] ∧ Rep G F (.exc c ns ts) x := by
  cases k with
  | zero => exact p
  | succ k => exact p
theorem own_cls {F H : Hp} {k : Nat} {c : Str} {x : V} {as : List Addr} (p : Own G F H k (.cls c) x as) : ∃ a, G.cls c = some a ∧ x = .ref a := by
  cases k with
  | zero => exact p.2
  | succ k => exact p.2
theorem own_ty {F H : Hp} {k : Nat} {c : String} {x : V} {as : List Addr} (p : Own G F H k (.ty c) x as) : x = .ty c := by
  cases k with
  | zero => exact p.2
  | succ k => exact p.2
/-- isinstance of the caught error: is: by classes' names -/
def gIsE (is : Str → T → Option Bool) : List Rz → Option Rz := fun rs => match rs with
  | [r1, r2] => match r1.t with
    | .exc c _ _ => (is c r2.t).map fun b => fz (.bl b)
    | _ => none
  | _ => none
/-- what the table of classes must tell -/
structure IsE (G : Gx) (is : Str → T → Option Bool) : Prop where
  cl : ∀ c C D Da b, G.cls c = some C → G.cls D = some Da → is c (.cls D) = some b → PySem.W.kitOne G.K (.ref C) (.ref Da) = some b
  ty : ∀ c C tn b, G.cls c = some C → is c (.ty tn) = some b → PySem.W.kitOne G.K (.ref C) (.type tn) = some b
  no : ∀ c t b, is c t = some b → (∃ D, t = .cls D) ∨ ∃ tn, t = .ty tn
  ec : ∀ c C t b, G.cls c = some C → is c t = some b → ExcC G.K C
theorem o_isE {is : Str → T → Option Bool} {a : Addr} {e : T} {cls : Value} {d : Option Addr} (hK : X.K = G.K) (S : IsE G is) (E : ErrX X a cls d) (he : ∀ c ns ts, e = .exc c ns ts → ∃ C, G.cls c = some C ∧ cls = .ref C) : OpN X (G.err (a, e, d)) (.builtin "isinstance") (gIsE is) := by
  intro pins s σ H F xs us rs r Q I rx sF tb ar g al q
  match rs, xs, ar, g with
  | [r1, r2], xs, ar, g =>
    obtain ⟨x, xr, as, rfl, p1, x2, xr2, as2, rfl, p2, e0⟩ := ar
    have e0' : xr2 = [] := e0
    subst e0'
    unfold gIsE at g
    simp only at g
    split at g
    · rename_i c ns ts et
      rw [et] at p1
      obtain ⟨_, a', d', vs, e1, rfl, _, _, hd⟩ := own_exc p1
      cases e1
      obtain ⟨C, hC, rfl⟩ := he _ _ _ rfl
      cases hb : is c r2.t with
      | none => rw [hb] at g; cases g
      | some b =>
        rw [hb] at g
        cases g
        cases rx with
        | @cons _ u1 _ ur ra rr =>
        cases rr with
        | @cons _ u2 _ ur2 rb rr2 =>
        cases rr2
        obtain rfl : u1 = Value.ref a := ra
        obtain ⟨ox, od, J⟩ := err_inst I sF E (hd.imp id fun ⟨dx, z1, z2⟩ => ⟨dx, _, z1, z2⟩)
        have fin : ∀ cv, u2 = cv → PySem.W.kitOne G.K (.ref C) cv = some b → wpAny (model X.prog X.w) X.A (call (.builtin "isinstance") [.ref a, u2]) (EP X pins σ Q) X.xe s := fun cv e2 hk => by
          subst e2
          refine PySem.W.kia_one (Pe.kit_err (hK ▸ S.ec _ _ _ _ hC hb)) I.kIn J (by rw [hK]; exact hk) (fun z => nomatch z) fun tk => ?_
          exact ⟨.bl b, H, I.kept (t' := tk) fun _ _ z => z, rfl, q _ _ _ (New.val sF rfl)⟩
        rcases S.no _ _ _ hb with ⟨D, eD⟩ | ⟨tn, eD⟩
        · rw [eD] at p2 hb
          obtain ⟨Da, hD, rfl⟩ := own_cls p2
          exact fin (.ref Da) rb (S.cl _ _ _ _ _ hC hD hb)
        · rw [eD] at p2 hb
          have := own_ty p2
          subst this
          exact fin (.type tn) rb (S.ty _ _ _ _ hC hb)
    · cases g
  | [], _, _, g => cases g
  | [_], _, _, g => cases g
  | _ :: _ :: _ :: _, _, _, g => cases g

/-! ### try: body, except x as e: suite -/
def nESl : Sl → Bool
  | some (_, t) => nE t
  | none => true
/-- is: the caught class's own question; i: the name's slot -/
def mTry (is : Str → Option Bool) (i : Nat) (mb ms : S) : S := fun ρ => match mb ρ with
  | .ex e ρ1 => match e with
    | .exc c ns ts => match is c with
      | some true => if i < ρ1.length then match ms (ρ1.set i (some (0, .exc c ns ts))) with
          | .nx ρ2 => if ((ρ2.set i none).all nESl) = true then .nx (ρ2.set i none) else .no
          | .rt r ρ2 => if (nE r.t && (ρ2.set i none).all nESl) = true then .rt r (ρ2.set i none) else .no
          | _ => .no
        else .no
      | some false => .ex (.exc c ns ts) ρ1
      | none => .no
    | _ => .no
  | o => o
theorem nEe_ents : ∀ {ρ : En} {σ : SL}, (ρ.all nESl) = true → nEe (ents ρ σ) = true
  | [], σ, h => rfl
  | s :: ρ, σ, h => by
    have h' : nESl s = true ∧ (ρ.all nESl) = true := by
      rw [List.all_cons] at h; exact Bool.and_eq_true _ _ ▸ h
    have ih := nEe_ents (σ := σ.drop 1) h'.2
    show nEe (entOf s σ[0]? ++ ents ρ (σ.drop 1)) = true
    unfold nEe at ih ⊢
    rw [List.all_append, ih, Bool.and_true]
    cases s with
    | none => rfl
    | some p =>
      obtain ⟨d, t⟩ := p
      unfold entOf
      simp only
      cases z : σ[0]? with
      | none => rfl
      | some y =>
        cases y with
        | none => rfl
        | some v => show (nE t && true) = true; rw [Bool.and_true]; exact h'.1
theorem nEe_app {a b : List Ent} (h1 : nEe a = true) (h2 : nEe b = true) : nEe (a ++ b) = true := by unfold nEe at *; rw [List.all_append, h1, h2]; rfl
/-- what a suite's end is worth -/
theorem unsuite {i : Nat} {σ2 : SL} {F2 H2 : Hp} {ρ2 : En} {fr es : List Ent} {z : Addr × T × Option Addr} (hn : ((ρ2.set i none).all nESl) = true) (hf : nEe fr = true) (he : nEe es = true) (g : Good (G.err z) F2 H2 (es ++ (ents ρ2 σ2 ++ fr))) :
    Good G F2 H2 (es ++ (ents (ρ2.set i none) (σ2.set i none) ++ fr)) := by
  refine Good.unerr (z := z) (nEe_app he (nEe_app (nEe_ents hn) hf)) ?_
  rw [ents_set_none]
  cases e : ρ2[i]? with
  | none =>
    have : ρ2.set i none = ρ2 := by
      rw [List.set_eq_of_length_le]
      exact List.getElem?_eq_none_iff.mp e
    rw [this]; exact g
  | some s =>
    have p := ents_at (σ := σ2) e
    have g2 := g.perm (((p.append_right fr)).append_left es)
    rw [List.append_assoc] at g2
    exact (g2.mid).drop
theorem rs_try {x m : Str} {c : Str} {C : Addr} {i : Nat} {body suite : List Stmt} {b₀ : Stmt} {np pos pos' : Pos} {is : Str → Option Bool} {mb ms : S} (h0 : G.ea = none) (hs : X.stack = X.env :: X.outer) (hf : X.env.frame = some X.env.locals) (hN : X.N.Nodup) (hi : X.N[i]? = some m) (hln : X.env.kindOf m = some .local) (hip : i ∉ pin) (hin : i < n) (hc : Names X x (.ref C)) (tk : Takes X W)
    (his : ∀ c' C' b, G.cls c' = some C' → is c' = some b → PySem.W.exmOne X.K (.ref C') (.ref C) = some b)
    (hb : ∀ (W' : WX) (pn : List (Addr × Obj)) (xe : Value → Shared → Prop), Takes (X.tr pn xe) W' → JB (X.tr pn xe) G W' pin n body mb)
    (hsu : ∀ (a : Addr) (oe : Obj) (cls : Value) (d : Option Addr) (pn : List (Addr × Obj)) (e : T), ErrX (X.suite a ((a, oe) :: pn)) a cls d → (∀ c ns ts, e = .exc c ns ts → ∃ C, G.cls c = some C ∧ cls = .ref C) → JB (X.suite a ((a, oe) :: pn)) (G.err (a, e, d)) (fun _ _ _ _ => False) pin n (b₀ :: suite) ms) :
    JS X G W pin n (.Try body [.ExceptHandler (some (.Name x np)) (some m) (b₀ :: suite) pos'] [] [] pos) (mTry is i mb ms) := by
  refine ⟨ps_imp (ps_try_as (Wout := W) (tb := fun W' => tS G W' pin n mb)
    (ts := fun a cls d D σ H => ∃ e, (∀ c ns ts, e = .exc c ns ts → ∃ C, G.cls c = some C ∧ cls = .ref C) ∧ tS (G.err (a, e, d)) (fun _ _ _ _ => False) pin n ms D σ H)
    hs hf hN hi hln hc tk (fun W' pn xe tk' _ => (hb W' pn xe tk').ps) (fun a oe cls d pn hz hff => ?_)) fun D σ H ⟨F, ρ, fr, g, hl, o⟩ => ?_⟩
  · refine ⟨fun pins s σ H D I ⟨e, he, q⟩ => ?_⟩
    exact ((hsu a oe cls d pn e (errX_suite hz hff) he).ps).run pins s σ H D I q
  · refine ⟨F, ρ, fr, g, hl, ?_⟩
    unfold mTry at o
    cases e : mb ρ with
    | nx ρ1 => rw [e] at o; exact o
    | rt r ρ1 => rw [e] at o; exact o
    | bk ρ1 => rw [e] at o; exact o
    | ct ρ1 => rw [e] at o; exact o
    | no => rw [e] at o; exact o
    | ex ee ρ1 =>
      rw [e] at o
      simp only at o
      split at o
      · rename_i ce ns ts
        cases hi1 : is ce with
        | none => rw [hi1] at o; exact o.elim
        | some b =>
          rw [hi1] at o
          intro cls d σ1 F1 H1 s1 k1 g1 ea
          obtain ⟨Ce, vs, hCe, rfl, hl1, hr, hd⟩ := id ea
          refine ⟨b, his _ _ _ hCe hi1, fun hb1 a na => ?_, fun hb1 => ?_⟩
          · subst hb1
            simp only at o
            split at o
            · rename_i hlt
              obtain ⟨ge, nfr⟩ := g1.err (z := (a, .exc ce ns ts, d)) h0
              have nfr' : nEe fr = true := by
                unfold nEe at nfr ⊢
                rw [List.all_append] at nfr
                exact (Bool.and_eq_true _ _ ▸ nfr).2
              have ra : Rep (G.err (a, .exc ce ns ts, d)) F1 (.exc ce ns ts) (.ref a) := ⟨a, d, vs, rfl, rfl, hl1, (Reps.err h0 _ _ hr).1, hd.imp (fun z => z.1) id⟩
              have gs := (ge.zero ra).store hlt (by rw [k1.len]; exact hin)
              refine ⟨.exc ce ns ts, (fun c ns' ts' z => by cases z; exact ⟨Ce, hCe, rfl⟩), F1, ρ1.set i (some (0, .exc ce ns ts)), fr, gs, by rw [List.length_set]; exact k1.len, ?_⟩
              have kk : ∀ {σ2 : SL}, Kept pin n (σ1.set i (some (.ref a))) σ2 → Kept pin n σ (σ2.set i none) := fun {σ2} k2 =>
                (k1.trans (Kept.set k1.len hip)).trans (k2.trans (Kept.set k2.len hip))
              cases em : ms (ρ1.set i (some (0, .exc ce ns ts))) with
              | nx ρ2 =>
                rw [em] at o
                simp only at o
                split at o
                · rename_i hn2
                  intro σ2 F2 H2 s2 k2 g2
                  exact o (σ2.set i none) F2 H2 (s1.trans s2) (kk k2) (unsuite (es := []) hn2 nfr' rfl g2)
                · exact o.elim
              | rt r ρ2 =>
                rw [em] at o
                simp only at o
                split at o
                · rename_i hn2
                  have hn2' := Bool.and_eq_true _ _ ▸ hn2
                  intro y σ2 F2 H2 s2 k2 g2
                  have hes : nEe [((r.d, r.t, y) : Ent)] = true := by unfold nEe; simpa using hn2'.1
                  exact o y (σ2.set i none) F2 H2 (s1.trans s2) (kk k2) (unsuite (es := [(r.d, r.t, y)]) hn2'.2 nfr' hes g2)
                · exact o.elim
              | bk ρ2 => rw [em] at o; exact o.elim
              | ct ρ2 => rw [em] at o; exact o.elim
              | ex _ _ => rw [em] at o; exact o.elim
              | no => rw [em] at o; exact o.elim
            · exact o.elim
          · subst hb1
            exact o (.ref Ce) d σ1 F1 H1 s1 k1 g1 ea
      · exact o.elim
end
end Pb
end
/- E6 -/
section
set_option Elab.async false
set_option linter.all false
set_option maxRecDepth 100000
set_option maxHeartbeats 4000000
namespace Pb
open PySem PySem.Spec PyProof.Rows L2 LamX
/-! ### a lambda without parameters, handed to a def that calls it: with the guards -/
section
variable {X : Cx} {pins : List (Addr × Obj)} {σ : SL} {H HZ : Hp} {s s1 : Shared}
abbrev lamO (X : Cx) (params : Arguments) (body : Expr) (scope : Scope) (pm : Value) (c' : Addr) (ctv : Value) : Obj :=
  PySem.W.kla_obj "<lambda>" (X.env.qual ++ "<lambda>") params body scope (cloFrom X.env.cells scope.names []) pm c' ctv
/-- the context of the def that got it -/
abbrev gotX (X : Cx) (CXg : CXT) (Ng : List Str) (qg : Str) (sg : Scope) (g : Addr) (cdg : Value) (s : Shared) (H : Hp) (Eg : XK) : Cx := cxOf CXg X.prog X.w X.K X.mg X.base Ng qg sg g cdg X.A X.stack s H Eg
theorem lam_act {CXg : CXT} {Eg : XK} {Ng : List Str} {qg : Str} {sg : Scope} {g f c' : Addr} {cdg pm ctv : Value} {params : Arguments} {body : Expr} {scope : Scope} {k i : Nat} {a : Str} {pn : List (Addr × Obj)} {xe : Value → Shared → Prop} {W : WX} {tb : XK → TE} {p1 p2 : Pos}
    (I : Inv X pins σ H s) (L : LamS X.env.scope scope) (hf : s.heap.get? f = some (lamO X params body scope pm c' ctv)) (hfn : H f = none) (hfr : f ∉ frs X.stack)
    (hbind : bindArgs (PySem.W.kla_fn "<lambda>" (X.env.qual ++ "<lambda>") params body scope (cloFrom X.env.cells scope.names []) pm (.ref c') ctv) ⟨[], []⟩ = pure [])
    (tk : Takes ((gotX X CXg Ng qg sg g cdg s H Eg).tr pn xe) W) (hr : Rm (k + 1) (X.A.deeper (envOfC qg sg s.heap.objs.size g cdg)))
    (hbody : ∀ (A : Around) (outer : List Env) (s : Shared) (H : Hp) (E : XK), Rm k (A.deeper (lamEnv X scope s.heap.objs.size f c')) → PE (lamCx X A outer s H E scope f c') body (tb E))
    (hN : Ng[i]? = some a) (hv : Vis sg a) (hd : (a == ("__debug__" : Str)) = false) (hcd : (a == ("__classdict__" : Str)) = false) :
    PE ((gotX X CXg Ng qg sg g cdg s H Eg).tr pn xe) (.Call (.Name a p1) [] [] p2)
      (fun σZ HZ Q => σZ[i]? = some (some (.ref f)) ∧ HZ c' = some (CodeO c' (X.env.qual ++ "<lambda>")) ∧ tb (fun cls d H' => W cls d σZ H') σ HZ Q) := by
  refine ⟨fun pZ sZ σZ HZ Q IZ ⟨hs, hc, ht⟩ => ?_⟩
  have var := (pe_var (X := (gotX X CXg Ng qg sg g cdg s H Eg).tr pn xe) (pos := p1) (i := i) hN hv hd hcd).run pZ sZ σZ HZ (fun v H1 => v = .ref f ∧ H1 = HZ) IZ ⟨.ref f, hs, rfl, rfl⟩
  refine wpAny_Call_Name_kw (thn var fun u s1 ⟨v, H1, I1, r1, ev, eH⟩ => ?_)
  subst ev
  rw [eH] at I1
  obtain rfl : u = Value.ref f := r1
  have of1 : s1.heap.get? f = some (lamO X params body scope pm c' ctv) :=
    I1.base.keep f _ hf hfn hfr (fun z => nomatch (show f ∈ ([] : List Addr) from z))
  refine PySem.W.callWith_F0 ⟨_, _, _, _, of1⟩ ?_
  have un : Un (frs X.stack) [] H HZ s.heap s1.heap := I1.base
  obtain ⟨⟨oc, vs, t, hoc, hdc, hvc⟩, _, _⟩ := I1.hok c' _ hc
  have run : codeAny (model X.prog X.w) (X.A.deeper (envOfC qg sg s.heap.objs.size g cdg)) (.call (.ref f) ⟨[], []⟩)
      (CR (L2.CX X.prog X.w) (envOfC qg sg s.heap.objs.size g cdg :: X.stack) X.prog X.w HZ s1 Q (fun cls d H' => W cls d σZ H')) s1 := by
    refine PySem.W.kla_callFunE hr.room.depth of1 rfl L.co L.gen rfl ⟨c', oc, vs, t, rfl, hoc, hdc, hvc⟩ ?_
    rw [hbind]
    apply wpAny_pure
    refine wpAny_newFunctionEnv (fun y hy => (L.own y hy).2) (fun y hy => absurd hy (by simp)) (fun h₁ hns hsb => ⟨I1.nolimit.fresh _ hsb, ?_⟩) L.kind
    show codeAny _ _ (.expr body (lamEnv X scope s1.heap.objs.size f c')) _ _
    have kp : ∀ b o, s1.heap.get? b = some o → h₁.get? b = some o := fun b o e =>
      hsb.extBut b o (Nat.ne_of_lt (Heap.lt_size e)) (Heap.get?_push_of_some _ e)
    have J := lam_start2 (A := X.A.deeper (envOfC qg sg s.heap.objs.size g cdg)) (E := fun cls d H' => W cls d σZ H') (c' := c') (f := f) (tk := s1.toks + ([] : List (Str × Value)).length) I L I1.env0 hr.room.hd un hns kp
    refine PySem.W.kla_codeExpr ?_
    refine wpAny_mono ((hbody _ _ s1 HZ _ ⟨hr.room.deeper _, hr.gd⟩).run [] _ _ HZ Q J ht) (fun v s' hq => ?_) fun e s' hq => hq
    obtain ⟨w', H', J', rv, q⟩ := hq
    exact ⟨w', H', J'.os, J'.bare, J'.base, J'.hok, rv, q⟩
  refine wpAny_call (codeAny_mono run fun r s' hq => ?_)
  match r, hq with
  | .error e, hq => exact passAt tk σZ pZ HZ s1 e s' I1 hq
  | .ok (.ret u), hq => exact I1.after hq
  | .ok .next, hq => exact hq.elim
  | .ok .brk, hq => exact hq.elim
  | .ok .cont, hq => exact hq.elim
end
section
variable {X : Cx} {G : Gx} {W : WX} {pin : List Nat} {n : Nat}
/-- what a def makes of the outcome of what it calls -/
abbrev HF := (Rz ⊕ T) → Option Rz
def mLam (hf : HF) (m : M) : M := fun ρ => match m ρ with
  | .ok r ρ1 => if r.al = true then .no else match hf (.inl r) with
    | some r' => .ok ⟨r'.d, false, r'.t⟩ ρ1
    | none => .no
  | .ex e ρ1 => match hf (.inr e) with
    | some r' => .ok ⟨r'.d, false, r'.t⟩ ρ1
    | none => .no
  | .no => .no
def tHelp (G : Gx) (hf : HF) (m : M) (σc : SL) (H : Hp) (Q : VK) : Prop := ∃ F ρ fr, Good G F H (ents ρ σc ++ fr) ∧ match mLam hf m ρ with
  | .ok r ρ1 => ∀ x F' H', Sub F F' → Good G F' H' ((r.d, r.t, x) :: (ents ρ1 σc ++ fr)) → Q x H'
  | _ => False
/-- the def at g, which calls what it got, makes hf of it -/
def Helps (X : Cx) (G : Gx) (Ng : List Str) (x : Str) (sg : Scope) (g : Addr) (cdg : Value) (bg : List Stmt) (a q : Str) (hf : HF) : Prop :=
  ∀ (f c' : Addr) (s : Shared) (H : Hp) (Q : VK) (σc : SL) (m : M) (pu : Bool), Rm 0 (X.A.deeper (envOfC x sg s.heap.objs.size g cdg)) →
    (∀ (W : WX) (pn : List (Addr × Obj)) (xe : Value → Shared → Prop) (p1 p2 : Pos), Takes ((gotX X C8.CX0 Ng x sg g cdg s H C8.E0).tr pn xe) W →
      PE ((gotX X C8.CX0 Ng x sg g cdg s H C8.E0).tr pn xe) (.Call (.Name a p1) [] [] p2) (fun σZ HZ Q => σZ[0]? = some (some (.ref f)) ∧ HZ c' = some (CodeO c' q) ∧ tJ G (fun cls d _ H' => W cls d σZ H') pu m σc HZ Q)) →
    H c' = some (CodeO c' q) → tHelp G hf m σc H Q →
    ∃ t, PSs (gotX X C8.CX0 Ng x sg g cdg s H C8.E0).nox bg t ∧ t { nx := fun _ H' => Q .non H', rt := Q } (L2.start Ng [.ref f]) H
/-- after a lambda is made -/
theorem Good.lam {F H H1 : Hp} {es : List Ent} (g : Good G F H es) (e : ExtN H H1) (t : Tabs G.tabs H1) : Good G F H1 es := by
  obtain ⟨as, q, nd⟩ := g.own
  exact ⟨fun a o h => e a o (g.sub a o h) (g.nt a o h), g.nt, t, as, q.mono (.refl F) fun a ha => by
    obtain ⟨h1, o, h2, h3⟩ := q.at a ha
    exact ⟨h1, (e a o h2 h3).trans h2.symm⟩, nd⟩
/-- x(lambda: body) -/
theorem r_lam {x a : Str} {g c P : Addr} {k : Nat} {pg : Arguments} {bg : List Stmt} {sg : Scope} {dV kV doc pm cdv ct oc : Value} {an od : Option Addr} {osl : Array (Option Value)} {Ng : List Str} {hf : HF}
    {params : Arguments} {body : Expr} {scope : Scope} {m : M} {pu : Bool} {p lpos pos : Pos} (hg : Gl X x) (hm : X.mg x = some (.ref g)) (hk : PySem.W.keepIn X.K (.ref g) = true)
    (lk : X.K.lookup g = some ⟨oc, od, .func (PySem.W.fnOf x x pg bg sg dV kV doc pm an cdv ct), osl⟩) (hcg : PySem.W.codeIn X.K cdv x = true) (hb : L2.Binds X.K (PySem.W.fnOf x x pg bg sg dV kV doc pm an cdv ct) [a] []) (Sg : FnScope Ng [a] sg) (hNg : Ng[0]? = some a) (hva : Vis sg a)
    (hG : Helps X G Ng x sg g cdv bg a (X.env.qual ++ "<lambda>") hf)
    (TB : TabB X.base X.mg c P) (hcode : X.env.code = .ref c) (hmT : (P, X.env.qual ++ "<lambda>") ∈ G.tabs) (hu : ∀ p ∈ G.tabs, p.1 = P → p.2 = X.env.qual ++ "<lambda>") (hr : Rm (k + 2) X.A) (L : LamS X.env.scope scope) (hdef : defaultsOf params X.env = ([], []))
    (hbind : ∀ (q : Str) (cl : List (Str × Addr)) (pm cv ctv : Value), bindArgs (PySem.W.kla_fn "<lambda>" q params body scope cl pm cv ctv) ⟨[], []⟩ = pure [])
    (hbody : ∀ (A : Around) (outer : List Env) (s : Shared) (H : Hp) (E : XK) (f c' : Addr), Rm k (A.deeper (lamEnv X scope s.heap.objs.size f c')) → J (lamCx X A outer s H E scope f c') G (WB E) pu body m)
    (hdb : (x == ("__debug__" : Str)) = false := by decide) (hd : (a == ("__debug__" : Str)) = false := by decide) (hcd : (a == ("__classdict__" : Str)) = false := by decide) :
    J X G W false (.Call (.Name x p) [.Lambda params body scope lpos] [] pos) (mLam hf m) := by
  refine ⟨⟨fun pins s σ H Q I ⟨F, ρ, fr, g0, o⟩ => ?_⟩, fun z => nomatch z⟩
  refine wpAny_Call_Name_kw (ld_glob I hg hm ?_ hdb)
  refine PySem.W.callWith_K (h₀ := X.base) I.ok.mod.kin hk ?_ (by rfl) (by rfl)
  show wpAny _ _ (spliced ((false, eval (.Lambda params body scope lpos) X.env) :: backTo pos (starEach [] X.env))) _ _ s
  refine Calls.spliced_cons (lam_make2 I TB hcode hmT hu g0.tab hdef (L.has I.ok) fun f c' pm' ctv H1 s' I1 eN T1 hf1 hfn hfr hco => ?_)
  refine Calls.spliced_nil ⟨I1.kIn, ?_⟩
  have tH : tHelp G hf m σ H1 Q := by
    refine ⟨F, ρ, fr, g0.lam eN T1, ?_⟩
    cases e : mLam hf m ρ with
    | ok r ρ1 =>
      rw [e] at o
      intro x F' H' s' g'
      have hal : r.al = false := by
        unfold mLam at e
        split at e
        · split at e
          · cases e
          · split at e
            · cases e; rfl
            · cases e
        · split at e
          · cases e; rfl
          · cases e
        · cases e
      refine o x F' H' s' (fun w => nomatch w) ?_ (.zero hal)
      rw [show r.ent x = [(r.d, r.t, x)] from if_neg (by rw [hal]; exact Bool.false_ne_true)]
      exact g'
    | ex e' ρ1 =>
      exfalso
      unfold mLam at e
      split at e
      · split at e
        · cases e
        · split at e <;> cases e
      · split at e <;> cases e
      · cases e
    | no => rw [e] at o; exact o
  have rc : codeAny (model X.prog X.w) X.A (.call (.ref g) ⟨[.ref f], []⟩) (CR C8.CX0 X.stack X.prog X.w H1 s' Q C8.E0) s' := by
    refine run_ofS (N := Ng) (ps := [a]) (us := [.ref f]) (vs := [.ref f]) (k := k + 1) lk hcg Sg hr.room I1.env0 (hb s' [.ref f] I1.kIn rfl) (.cons rfl .nil) rfl fun hr' => ?_
    obtain ⟨t', ht', hq'⟩ := hG f c' s' H1 Q σ m pu ⟨hr'.mono (Nat.zero_le _), hr.gd⟩ (fun W pn xe p1 p2 tk => lam_act (i := 0) (tb := fun E => tJ G (WB E) pu m) I1 L hf1 hfn hfr (hbind _ _ _ _ _) tk ⟨hr', hr.gd⟩ (fun A outer s H E hr2 => (hbody A outer s H E f c' hr2).pe) hNg hva hd hcd) hco tH
    exact ⟨t', ht'.nox, hq'⟩
  refine wpAny_call (codeAny_mono rc fun r s2 hq => ?_)
  match r, hq with
  | .error e, hq => exact (show False from hq).elim
  | .ok (.ret u), hq => exact I1.after hq
  | .ok .next, hq => exact hq.elim
  | .ok .brk, hq => exact hq.elim
  | .ok .cont, hq => exact hq.elim
end
end Pb
end
/- E7 -/
section
set_option Elab.async false
set_option linter.all false
set_option maxRecDepth 100000
set_option maxHeartbeats 4000000
namespace Pb
open PySem PySem.Spec PyProof.Rows L2 LamX
section
variable {X : Cx} {G : Gx} {W : WX} {pin : List Nat} {n : Nat}
/-- the suite's reading, whatever the error -/
def tsu (G : Gx) (pin : List Nat) (n : Nat) (ms : S) (a : Addr) (cls : Value) (d : Option Addr) : TS := fun D σ H => ∃ e, (∀ c ns ts, e = .exc c ns ts → ∃ C, G.cls c = some C ∧ cls = .ref C) ∧ tS (G.err (a, e, d)) (fun _ _ _ _ => False) pin n ms D σ H
/-- an error, brought to the suite -/
theorem hand_ok {C : Addr} {i : Nat} {is : Str → Option Bool} {ms : S} {e : T} {ρ1 ρ0 : En} {σ : SL} {fr : List Ent} {F : Hp} {D : Ends} (h0 : G.ea = none) (hip : i ∉ pin) (hin : i < n)
    (his : ∀ c' C' b, G.cls c' = some C' → is c' = some b → PySem.W.exmOne X.K (.ref C') (.ref C) = some b) (o : OutS G W pin n σ fr F (mTry is i (fun _ => .ex e ρ1) ms ρ0) D) :
    ∀ cls d σ1 F1 H1, Sub F F1 → Kept pin n σ σ1 → Good G F1 H1 (ents ρ1 σ1 ++ fr) → ExAt G F1 H1 e cls d → wAs X.K (.ref C) i (tsu G pin n ms) W D cls d σ1 H1 := by
  unfold mTry at o
  simp only at o
  split at o
  · rename_i ce ns ts
    cases hi1 : is ce with
    | none => rw [hi1] at o; exact o.elim
    | some b =>
      rw [hi1] at o
      intro cls d σ1 F1 H1 s1 k1 g1 ea
      obtain ⟨Ce, vs, hCe, rfl, hl1, hr, hd⟩ := id ea
      refine ⟨b, his _ _ _ hCe hi1, fun hb1 a na => ?_, fun hb1 => ?_⟩
      · subst hb1
        simp only at o
        split at o
        · rename_i hlt
          obtain ⟨ge, nfr⟩ := g1.err (z := (a, .exc ce ns ts, d)) h0
          have nfr' : nEe fr = true := by
            unfold nEe at nfr ⊢
            rw [List.all_append] at nfr
            exact (Bool.and_eq_true _ _ ▸ nfr).2
          have ra : Rep (G.err (a, .exc ce ns ts, d)) F1 (.exc ce ns ts) (.ref a) := ⟨a, d, vs, rfl, rfl, hl1, (Reps.err h0 _ _ hr).1, hd.imp (fun z => z.1) id⟩
          have gs := (ge.zero ra).store hlt (by rw [k1.len]; exact hin)
          refine ⟨.exc ce ns ts, (fun c ns' ts' z => by cases z; exact ⟨Ce, hCe, rfl⟩), F1, ρ1.set i (some (0, .exc ce ns ts)), fr, gs, by rw [List.length_set]; exact k1.len, ?_⟩
          have kk : ∀ {σ2 : SL}, Kept pin n (σ1.set i (some (.ref a))) σ2 → Kept pin n σ (σ2.set i none) := fun {σ2} k2 =>
            (k1.trans (Kept.set k1.len hip)).trans (k2.trans (Kept.set k2.len hip))
          cases em : ms (ρ1.set i (some (0, .exc ce ns ts))) with
          | nx ρ2 =>
            rw [em] at o
            simp only at o
            split at o
            · rename_i hn2
              intro σ2 F2 H2 s2 k2 g2
              exact o (σ2.set i none) F2 H2 (s1.trans s2) (kk k2) (unsuite (es := []) hn2 nfr' rfl g2)
            · exact o.elim
          | rt r ρ2 =>
            rw [em] at o
            simp only at o
            split at o
            · rename_i hn2
              have hn2' := Bool.and_eq_true _ _ ▸ hn2
              intro y σ2 F2 H2 s2 k2 g2
              have hes : nEe [((r.d, r.t, y) : Ent)] = true := by unfold nEe; simpa using hn2'.1
              exact o y (σ2.set i none) F2 H2 (s1.trans s2) (kk k2) (unsuite (es := [(r.d, r.t, y)]) hn2'.2 nfr' hes g2)
            · exact o.elim
          | bk ρ2 => rw [em] at o; exact o.elim
          | ct ρ2 => rw [em] at o; exact o.elim
          | ex _ _ => rw [em] at o; exact o.elim
          | no => rw [em] at o; exact o.elim
        · exact o.elim
      · subst hb1
        exact o (.ref Ce) d σ1 F1 H1 s1 k1 g1 ea
  · exact o.elim
/-- what the call's outcome does in the try -/
inductive Sh where
  | ex
  | st (i : Nat)
  | re
def mOut (sh : Sh) (o : Rz ⊕ T) : S := fun ρ => match o with
  | .inl r => match sh with
    | .ex => .nx ρ
    | .st i => if i < ρ.length then .nx (ρ.set i (some (r.d, r.t))) else .no
    | .re => .rt r ρ
  | .inr e => .ex e ρ
def tbd (sh : Sh) (t : TE) : TS := fun D σ H => t σ H fun x H' => match sh with
  | .ex => D.nx σ H'
  | .st i => D.nx (σ.set i (some x)) H'
  | .re => D.rt x H'
/-- the thunk, ahead of the try -/
def tThk (G : Gx) (n : Nat) (f c' : Addr) (q : Str) (σc : SL) (m : M) (k : (Rz ⊕ T) → S) : TS := fun D σ H => σ[0]? = some (some (.ref f)) ∧ H c' = some (CodeO c' q) ∧ ∃ F ρ ρh fr, Good G F H (ents ρh σ ++ (ents ρ σc ++ fr)) ∧ σ.length = n ∧ match m ρ with
  | .ok r ρ1 => r.al = false ∧ OutS G (fun _ _ _ _ => False) [0] n σ (ents ρ1 σc ++ fr) F (k (.inl r) ρh) D
  | .ex e ρ1 => OutS G (fun _ _ _ _ => False) [0] n σ (ents ρ1 σc ++ fr) F (k (.inr e) ρh) D
  | .no => False
theorem takesF {Z : Cx} : Takes Z (fun _ _ _ _ => False) := fun _ _ x => by
  obtain ⟨_, _, _, _, _, _, _, _, _, _, _, _, _, _, _, _, z⟩ := x
  exact z.elim
theorem ps_thk {Z : Cx} {f c' : Addr} {q a x m' : Str} {σc : SL} {m : M} {pu : Bool} {sh : Sh} {bd : List Stmt} {is : Str → Option Bool} {ie : Nat} {ms : S} {C : Addr} {b₀ : Stmt} {suite : List Stmt} {p1 p2 np pos pos' : Pos} (h0 : G.ea = none)
    (hs : Z.stack = Z.env :: Z.outer) (hf : Z.env.frame = some Z.env.locals) (hN : Z.N.Nodup) (hi : Z.N[ie]? = some m') (hln : Z.env.kindOf m' = some .local) (hip : ie ∉ [0]) (hin : ie < n) (hc : Names Z x (.ref C))
    (his : ∀ c' C' b, G.cls c' = some C' → is c' = some b → PySem.W.exmOne Z.K (.ref C') (.ref C) = some b) (hsh : ∀ i, sh = .st i → i ∉ [0] ∧ i < n)
    (hbd : ∀ (pn : List (Addr × Obj)) (xe : Value → Shared → Prop) {t : TE}, PE (Z.tr pn xe) (.Call (.Name a p1) [] [] p2) t → PSs (Z.tr pn xe) bd (tbd sh t))
    (act : ∀ (W : WX) (pn : List (Addr × Obj)) (xe : Value → Shared → Prop), Takes (Z.tr pn xe) W →
      PE (Z.tr pn xe) (.Call (.Name a p1) [] [] p2) (fun σZ HZ Q => σZ[0]? = some (some (.ref f)) ∧ HZ c' = some (CodeO c' q) ∧ tJ G (fun cls d _ H' => W cls d σZ H') pu m σc HZ Q))
    (hsu : ∀ (a : Addr) (oe : Obj) (cls : Value) (d : Option Addr) (pn : List (Addr × Obj)) (e : T), ErrX (Z.suite a ((a, oe) :: pn)) a cls d → (∀ c ns ts, e = .exc c ns ts → ∃ C, G.cls c = some C ∧ cls = .ref C) → JB (Z.suite a ((a, oe) :: pn)) (G.err (a, e, d)) (fun _ _ _ _ => False) [0] n (b₀ :: suite) ms) :
    PS Z (.Try bd [.ExceptHandler (some (.Name x np)) (some m') (b₀ :: suite) pos'] [] [] pos) (tThk G n f c' q σc m fun o => mTry is ie (mOut sh o) ms) := by
  refine ps_imp (ps_try_as (Wout := fun _ _ _ _ => False) (tb := fun W' => tbd sh fun σZ HZ Q => σZ[0]? = some (some (.ref f)) ∧ HZ c' = some (CodeO c' q) ∧ tJ G (fun cls d _ H' => W' cls d σZ H') pu m σc HZ Q) (ts := tsu G [0] n ms)
    hs hf hN hi hln hc takesF (fun W' pn xe tk' _ => hbd pn xe (act W' pn xe tk')) (fun a oe cls d pn hz hff => ?_)) fun D σ H ⟨z1, z2, F, ρ, ρh, fr, g, hl, o⟩ => ?_
  · exact ⟨fun pins s σ H D I ⟨e, he, q⟩ => ((hsu a oe cls d pn e (errX_suite hz hff) he).ps).run pins s σ H D I q⟩
  · refine ⟨z1, z2, F, ρ, ents ρh σ ++ fr, g.mid, ?_⟩
    cases e : m ρ with
    | no => rw [e] at o; exact o
    | ex ee ρ1 =>
      rw [e] at o
      intro cls d F' H' s' g' ea
      exact hand_ok (W := fun _ _ _ _ => False) (e := ee) (ρ1 := ρh) (ρ0 := ρh) h0 hip hin his o cls d σ F' H' s' (.refl hl) g'.mid ea
    | ok r ρ1 =>
      rw [e] at o
      obtain ⟨hal, o⟩ := o
      intro y F' H' s' _ g' _
      rw [show r.ent y = [(r.d, r.t, y)] from if_neg (by rw [hal]; exact Bool.false_ne_true)] at g'
      have g2 : Good G F' H' ((r.d, r.t, y) :: (ents ρh σ ++ (ents ρ1 σc ++ fr))) := g'.perm ((perm_mid _ _ _).append_left [(r.d, r.t, y)])
      cases sh with
      | ex => exact o σ F' H' s' (.refl hl) g2.tail
      | re => exact o y σ F' H' s' (.refl hl) g2
      | st i =>
        obtain ⟨hi1, hi2⟩ := hsh i rfl
        unfold mTry mOut at o
        simp only at o
        by_cases hlt : i < ρh.length
        · rw [if_pos hlt] at o
          exact o (σ.set i (some y)) F' H' s' (.set hl hi1) (g2.store hlt (by rw [hl]; exact hi2))
        · rw [if_neg hlt] at o
          exact o.elim
theorem bd_ex {Z : Cx} {e : Expr} {p : Pos} {t : TE} (h : PE Z e t) (hs : swapsWith e none p.line Z.env = pure false := by rfl) : PSs Z [.Expr e p] (tbd .ex t) := pss_one (ps_expr h hs)
theorem bd_re {Z : Cx} {e : Expr} {p : Pos} {t : TE} (h : PE Z e t) : PSs Z [.Return (some e) p] (tbd .re t) := pss_one (ps_ret h)
theorem bd_st {Z : Cx} {e : Expr} {p p' : Pos} {t : TE} {i : Nat} {x : Str} (hN : Z.N.Nodup) (hi : Z.N[i]? = some x) (hx : Loc Z.env.scope x) (h : PE Z e t) (hs : swapsWith e (some (.Name x p')) p.line Z.env = pure false := by rfl)
    (hf : Z.fn x = true ∨ Z.env.scope.names.lookup x = some .local := by first | exact .inl rfl | exact .inr rfl) : PSs Z [.Assign [.Name x p'] e p] (tbd (.st i) t) := pss_one (ps_set hN hi hx h hs hf)
theorem OutS.seq {σ : SL} {fr : List Ent} {F : Hp} {a b : S} {ρ : En} {D : Ends} (o : OutS G W pin n σ fr F (mSeq a b ρ) D) : OutS G W pin n σ fr F (a ρ) { D with nx := tS G W pin n b D } := by
  unfold mSeq at o
  cases e : a ρ with
  | nx ρ1 =>
    rw [e] at o
    intro σ' F' H' s k g'
    exact ⟨F', ρ1, fr, g', k.len, OutS.rebase o s k⟩
  | rt r ρ1 => rw [e] at o; exact o
  | bk ρ1 => rw [e] at o; exact o
  | ct ρ1 => rw [e] at o; exact o
  | ex _ _ => rw [e] at o; exact o
  | no => rw [e] at o; exact o
theorem ents_repl : ∀ (k : Nat) (σ : SL), ents (List.replicate k none) σ = []
  | 0, _ => rfl
  | k + 1, σ => by
    show [] ++ ents (List.replicate k none) (σ.drop 1) = []
    rw [ents_repl k]; rfl
/-- a helper on the call's outcome -/
def mHelp (n : Nat) (pre : S) (k : (Rz ⊕ T) → S) (post : S) : HF := fun o => match mSeq pre (mSeq (k o) post) (List.replicate n none) with
  | .rt r _ => some r
  | .nx _ => some (fz .non)
  | _ => none
def okFl : Fl → Bool
  | .rt _ _ => true
  | .nx _ => true
  | _ => false
/-- the helper's end is the lambda call's -/
theorem help_end {pre post : S} {k : (Rz ⊕ T) → S} {m : M} {σc : SL} {H : Hp} {Q : VK} (h : tHelp G (mHelp n pre k post) m σc H Q) : ∃ F ρ fr, Good G F H (ents ρ σc ++ fr) ∧ ∀ σ : SL, σ.length = n →
    match m ρ with
    | .ok r ρ1 => r.al = false ∧ okFl (mSeq pre (mSeq (k (.inl r)) post) (List.replicate n none)) = true ∧ OutS G (fun _ _ _ _ => False) [0] n σ (ents ρ1 σc ++ fr) F (mSeq pre (mSeq (k (.inl r)) post) (List.replicate n none)) { nx := fun _ H' => Q .non H', rt := Q }
    | .ex e ρ1 => okFl (mSeq pre (mSeq (k (.inr e)) post) (List.replicate n none)) = true ∧ OutS G (fun _ _ _ _ => False) [0] n σ (ents ρ1 σc ++ fr) F (mSeq pre (mSeq (k (.inr e)) post) (List.replicate n none)) { nx := fun _ H' => Q .non H', rt := Q }
    | .no => False := by
  obtain ⟨F, ρ, fr, g, o⟩ := h
  refine ⟨F, ρ, fr, g, fun σ hl => ?_⟩
  have fin : ∀ (o1 : Rz ⊕ T) (ρ1 : En) (r' : Rz), mHelp n pre k post o1 = some r' → (∀ x F' H', Sub F F' → Good G F' H' ((r'.d, r'.t, x) :: (ents ρ1 σc ++ fr)) → Q x H') →
      okFl (mSeq pre (mSeq (k o1) post) (List.replicate n none)) = true ∧ OutS G (fun _ _ _ _ => False) [0] n σ (ents ρ1 σc ++ fr) F (mSeq pre (mSeq (k o1) post) (List.replicate n none)) { nx := fun _ H' => Q .non H', rt := Q } := by
    intro o1 ρ1 r' e q
    unfold mHelp at e
    split at e
    · rename_i r2 ρ2 e2
      cases e
      rw [e2]
      refine ⟨rfl, ?_⟩
      intro x σ' F' H' s' k' g'
      exact q x F' H' s' (g'.perm (perm_mid [(r'.d, r'.t, x)] _ _)).drop
    · rename_i ρ2 e2
      cases e
      rw [e2]
      refine ⟨rfl, ?_⟩
      intro σ' F' H' s' k' g'
      exact q .non F' H' s' ((g'.drop).zero rfl)
    · cases e
  unfold mLam at o
  cases e : m ρ with
  | no => rw [e] at o; exact o
  | ok r ρ1 =>
    rw [e] at o
    simp only at o ⊢
    split at o
    · rename_i r' ρ' e2
      split at e2
      · cases e2
      rename_i hal
      split at e2
      · rename_i r2 e3
        cases e2
        exact ⟨by simpa using hal, fin _ _ _ e3 o⟩
      · cases e2
    · exact o.elim
  | ex ee ρ1 =>
    rw [e] at o
    simp only at o ⊢
    split at o
    · rename_i r' ρ' e2
      split at e2
      · rename_i r2 e3
        cases e2
        exact fin _ _ _ e3 o
      · cases e2
    · exact o.elim
/-- a helper that begins with its try -/
theorem helps0 {Ng : List Str} {x a q : Str} {sg : Scope} {g : Addr} {cdg : Value} {tr : Stmt} {post : List Stmt} {mpost : S} {k : (Rz ⊕ T) → S} (hn : Ng.length = n) (h1 : 0 < n)
    (htr : ∀ (f c' : Addr) (s : Shared) (H : Hp) (σc : SL) (m : M) (pu : Bool), Rm 0 (X.A.deeper (envOfC x sg s.heap.objs.size g cdg)) →
      (∀ (W : WX) (pn : List (Addr × Obj)) (xe : Value → Shared → Prop) (p1 p2 : Pos), Takes ((gotX X C8.CX0 Ng x sg g cdg s H C8.E0).tr pn xe) W →
        PE ((gotX X C8.CX0 Ng x sg g cdg s H C8.E0).tr pn xe) (.Call (.Name a p1) [] [] p2) (fun σZ HZ Q => σZ[0]? = some (some (.ref f)) ∧ HZ c' = some (CodeO c' q) ∧ tJ G (fun cls d _ H' => W cls d σZ H') pu m σc HZ Q)) →
      PS (gotX X C8.CX0 Ng x sg g cdg s H C8.E0).nox tr (tThk G n f c' q σc m k))
    (hpo : ∀ (s : Shared) (H : Hp), Rm 0 (X.A.deeper (envOfC x sg s.heap.objs.size g cdg)) → JB (gotX X C8.CX0 Ng x sg g cdg s H C8.E0).nox G (fun _ _ _ _ => False) [0] n post mpost) :
    Helps X G Ng x sg g cdg (tr :: post) a q (mHelp n mSkip k mpost) := by
  intro f c' s H Q σc m pu hr act hco hH
  obtain ⟨F, ρ, fr, g0, o⟩ := help_end hH
  have hst : L2.start Ng [V.ref f] = some (.ref f) :: List.replicate (n - 1) none := by
    unfold L2.start
    rw [hn]
    rfl
  have hsl : (L2.start Ng [V.ref f]).length = n := by
    rw [hst, List.length_cons, List.length_replicate]
    omega
  refine ⟨_, pss_cons (htr f c' s H σc m pu hr act) (hpo s H hr).ps, ?_⟩
  refine ⟨by rw [hst]; rfl, hco, F, ρ, List.replicate n none, fr, by rw [ents_repl]; exact g0, hsl, ?_⟩
  have o' := o _ hsl
  cases e : m ρ with
  | no => rw [e] at o'; exact o'
  | ok r ρ1 => rw [e] at o'; exact ⟨o'.1, OutS.seq o'.2.2⟩
  | ex ee ρ1 => rw [e] at o'; exact OutS.seq o'.2
/-- a helper that stores something ahead of its try -/
theorem helps1 {Ng : List Str} {x a q v : Str} {sg : Scope} {g : Addr} {cdg : Value} {tr : Stmt} {post : List Stmt} {mpost : S} {k : (Rz ⊕ T) → S} {i : Nat} {e0 : Expr} {me : M} {pp pp' : Pos} (hn : Ng.length = n) (h1 : 0 < n) (hi0 : i ∉ [0]) (hin : i < n)
    (hpr : ∀ (s : Shared) (H : Hp), Rm 0 (X.A.deeper (envOfC x sg s.heap.objs.size g cdg)) → J (gotX X C8.CX0 Ng x sg g cdg s H C8.E0).nox G (fun _ _ _ _ => False) true e0 me)
    (hN : Ng.Nodup) (hi : Ng[i]? = some v) (hx : sg.names.lookup v = some .local)
    (htr : ∀ (f c' : Addr) (s : Shared) (H : Hp) (σc : SL) (m : M) (pu : Bool), Rm 0 (X.A.deeper (envOfC x sg s.heap.objs.size g cdg)) →
      (∀ (W : WX) (pn : List (Addr × Obj)) (xe : Value → Shared → Prop) (p1 p2 : Pos), Takes ((gotX X C8.CX0 Ng x sg g cdg s H C8.E0).tr pn xe) W →
        PE ((gotX X C8.CX0 Ng x sg g cdg s H C8.E0).tr pn xe) (.Call (.Name a p1) [] [] p2) (fun σZ HZ Q => σZ[0]? = some (some (.ref f)) ∧ HZ c' = some (CodeO c' q) ∧ tJ G (fun cls d _ H' => W cls d σZ H') pu m σc HZ Q)) →
      PS (gotX X C8.CX0 Ng x sg g cdg s H C8.E0).nox tr (tThk G n f c' q σc m k))
    (hpo : ∀ (s : Shared) (H : Hp), Rm 0 (X.A.deeper (envOfC x sg s.heap.objs.size g cdg)) → JB (gotX X C8.CX0 Ng x sg g cdg s H C8.E0).nox G (fun _ _ _ _ => False) [0] n post mpost)
    (hsw : ∀ (s : Shared) (H : Hp), swapsWith e0 (some (.Name v pp')) pp.line (gotX X C8.CX0 Ng x sg g cdg s H C8.E0).env = pure false) :
    Helps X G Ng x sg g cdg (.Assign [.Name v pp'] e0 pp :: tr :: post) a q (mHelp n (mAsg me (gSet i)) k mpost) := by
  intro f c' s H Q σc m pu hr act hco hH
  obtain ⟨F, ρ, fr, g0, o⟩ := help_end hH
  have hst : L2.start Ng [V.ref f] = some (.ref f) :: List.replicate (n - 1) none := by
    unfold L2.start
    rw [hn]
    rfl
  have hsl : (L2.start Ng [V.ref f]).length = n := by
    rw [hst, List.length_cons, List.length_replicate]
    omega
  have jp := hpr s H hr
  refine ⟨_, pss_cons (ps_set (pos' := pp') (pos := pp) hN hi (.inl hx) jp.pe (hsw s H) (.inr hx)) (pss_cons (htr f c' s H σc m pu hr act) (hpo s H hr).ps), ?_⟩
  refine ⟨F, List.replicate n none, ents ρ σc ++ fr, by rw [ents_repl]; exact g0, ?_⟩
  have o' := o _ hsl
  -- what the storing ahead must be, that the whole ends
  have pre : ∀ o1 : Rz ⊕ T, okFl (mSeq (mAsg me (gSet i)) (mSeq (k o1) mpost) (List.replicate n none)) = true → ∃ r ρ1, me (List.replicate n none) = .ok r ρ1 ∧ r.al = false ∧ mSeq (mAsg me (gSet i)) (mSeq (k o1) mpost) (List.replicate n none) = mSeq (k o1) mpost ((List.replicate n none).set i (some (r.d, r.t))) := by
    intro o1 h
    unfold mSeq mAsg at h
    cases em : me (List.replicate n none) with
    | no => rw [em] at h; cases h
    | ex _ _ => rw [em] at h; cases h
    | ok r ρ1 =>
      have eq : ρ1 = List.replicate n none := jp.pure rfl _ _ _ em
      rw [em] at h
      simp only [Out.fl] at h
      cases hal : r.al with
      | true => rw [hal] at h; cases h
      | false =>
        refine ⟨r, ρ1, rfl, hal, ?_⟩
        unfold mSeq mAsg gSet
        rw [em, eq]
        simp only [Out.fl, hal]
        rw [if_neg Bool.false_ne_true, if_pos (show i < (List.replicate n (none : Sl)).length by rw [List.length_replicate]; exact hin)]
        rfl
  have go : ∀ (r : Rz) (ρ1 : En), me (List.replicate n none) = .ok r ρ1 → r.al = false → (∀ (F1 H1 : Hp) (σ1 : SL), Sub F F1 → H1 c' = some (CodeO c' q) → σ1[0]? = some (some (.ref f)) → σ1.length = n → Kept [0] n (L2.start Ng [V.ref f]) σ1 → Good G F1 H1 (ents ((List.replicate n none).set i (some (r.d, r.t))) σ1 ++ (ents ρ σc ++ fr)) →
      tThk G n f c' q σc m k { nx := tS G (fun _ _ _ _ => False) [0] n mpost { nx := fun _ H' => Q .non H', rt := Q }, rt := Q } σ1 H1) →
      OutP G (fun _ _ _ _ => False) (L2.start Ng [V.ref f]) (ents ρ σc ++ fr) true F H (me (List.replicate n none)) fun v H1 => gName i v (L2.start Ng [V.ref f]) H1 fun σ' H' => tSeq (tThk G n f c' q σc m k) (tS G (fun _ _ _ _ => False) [0] n mpost) { nx := fun _ H' => Q .non H', rt := Q } σ' H' := by
    intro r ρ1 em hal nxt
    have eq : ρ1 = List.replicate n none := jp.pure rfl _ _ _ em
    rw [em, eq]
    intro y F1 H1 s1 p1 g1 _
    rw [show r.ent y = [(r.d, r.t, y)] from if_neg (by rw [hal]; exact Bool.false_ne_true)] at g1
    refine nxt F1 H1 ((L2.start Ng [V.ref f]).set i (some y)) s1 ((p1 rfl).1.up _ _ hco fun ps => codeO_ne ps) ?_ (by rw [List.length_set]; exact hsl) (.set hsl hi0) (Good.store g1 (by rw [List.length_replicate]; exact hin) (by rw [hsl]; exact hin))
    rw [List.getElem?_set_ne (by rintro rfl; exact hi0 List.mem_cons_self), hst]
    rfl
  cases e : m ρ with
  | no => rw [e] at o'; exact o'.elim
  | ok rc ρc =>
    rw [e] at o'
    obtain ⟨hal, hok, o2⟩ := o'
    obtain ⟨r, ρ1, em, hal1, eq⟩ := pre _ hok
    refine go r ρ1 em hal1 fun F1 H1 σ1 s1 hc1 h01 hl1 kp g1 => ⟨h01, hc1, F1, ρ, _, fr, g1, hl1, ?_⟩
    rw [e]
    rw [eq] at o2
    exact ⟨hal, OutS.seq (OutS.rebase o2 s1 kp)⟩
  | ex ee ρc =>
    rw [e] at o'
    obtain ⟨hok, o2⟩ := o'
    obtain ⟨r, ρ1, em, hal1, eq⟩ := pre _ hok
    refine go r ρ1 em hal1 fun F1 H1 σ1 s1 hc1 h01 hl1 kp g1 => ⟨h01, hc1, F1, ρ, _, fr, g1, hl1, ?_⟩
    rw [e]
    rw [eq] at o2
    exact OutS.seq (OutS.rebase o2 s1 kp)
end
end Pb
end
/- M1 -/
section
set_option Elab.async false
set_option linter.all false
set_option maxRecDepth 100000
set_option maxHeartbeats 2000000
namespace Pb
open PySem PySem.Spec PyProof.Rows L2
section
variable {X : Cx} {G : Gx} {W : WX} {pin : List Nat} {n : Nat}
/-! ### owned lists and dicts opened -/
def els (d : Nat) (ts : List T) (vs : List V) : List Ent := List.zipWith (fun t x => (d, t, x)) ts vs
theorem all2_els {F H : Hp} {d : Nat} : ∀ {ts : List T} {vs : List V} {bs : List Addr}, All2 (Own G F H d) ts vs bs → EnOk G F H (els d ts vs) bs
  | [], vs, bs, h => by obtain ⟨rfl, rfl⟩ := h; rfl
  | t :: ts, vs, bs, h => by
    obtain ⟨x, r, a, b, rfl, rfl, p, q⟩ := h
    exact ⟨a, b, rfl, p, all2_els q⟩
theorem els_all2 {F H : Hp} {d : Nat} : ∀ {ts : List T} {vs : List V} {bs : List Addr}, ts.length = vs.length → EnOk G F H (els d ts vs) bs → All2 (Own G F H d) ts vs bs
  | [], [], bs, _, h => ⟨rfl, h⟩
  | [], _ :: _, bs, hl, _ => by cases hl
  | _ :: _, [], bs, hl, _ => by cases hl
  | t :: ts, x :: vs, bs, hl, h => by
    obtain ⟨a, b, rfl, p, q⟩ := h
    exact ⟨x, vs, a, b, rfl, rfl, p, els_all2 (by simpa using hl) q⟩
structure Opn (G : Gx) (F H : Hp) (a : Addr) (es : List Ent) : Prop where
  sub : Sub F H
  nt : NT F
  tab : LamX.Tabs G.tabs H
  none : F a = none
  ex : ∃ o, H a = some o ∧ NoT o ∧ ∀ φ, o ≠ .ext φ
  own : ∃ as, EnOk G F H es as ∧ (a :: as).Nodup
theorem Opn.perm {F H : Hp} {a : Addr} {es es' : List Ent} (g : Opn G F H a es) (hp : es.Perm es') : Opn G F H a es' := by
  obtain ⟨as, q, n⟩ := g.own
  obtain ⟨as', q', p⟩ := q.perm hp
  exact ⟨g.sub, g.nt, g.tab, g.none, g.ex, as', q', (p.cons a).nodup n⟩
theorem Opn.drop {F H : Hp} {a : Addr} {es es' : List Ent} (g : Opn G F H a (es ++ es')) : Opn G F H a es' := by
  obtain ⟨as, q, n⟩ := g.own
  obtain ⟨b, c, rfl, q1, q2⟩ := q.append
  refine ⟨g.sub, g.nt, g.tab, g.none, g.ex, c, q2, ?_⟩
  have n' := List.nodup_cons.mp n
  exact List.nodup_cons.mpr ⟨fun h => n'.1 (List.mem_append_right _ h), (List.nodup_append.mp n'.2).2.1⟩
theorem Opn.zero {F H : Hp} {a : Addr} {t : T} {x : V} {es : List Ent} (g : Opn G F H a es) (r : Rep G F t x) : Opn G F H a ((0, t, x) :: es) := by
  obtain ⟨as, q, n⟩ := g.own
  exact ⟨g.sub, g.nt, g.tab, g.none, g.ex, as, ⟨[], as, rfl, ⟨rfl, r⟩, q⟩, n⟩
theorem Good.openL {F H : Hp} {d : Nat} {ts : List T} {x : V} {es : List Ent} (g : Good G F H ((d + 1, .lst ts, x) :: es)) : ∃ a vs, x = .ref a ∧ ts.length = vs.length ∧ H a = some (.lst vs) ∧ Opn G F H a (els d ts vs ++ es) := by
  obtain ⟨as, ⟨b, c, rfl, ⟨a, vs, bs, rfl, rfl, f, h, al⟩, q⟩, nd⟩ := g.own
  exact ⟨a, vs, rfl, al.length, h, g.sub, g.nt, g.tab, f, ⟨_, h, noT_lst, (fun _ z => by cases z)⟩, bs ++ c, (all2_els al).join q, nd⟩
theorem Good.openD {F H : Hp} {d : Nat} {kd : Bool} {ks ts : List T} {x : V} {es : List Ent} (g : Good G F H ((d + 1, .dct kd ks ts, x) :: es)) : ∃ a vs, x = .ref a ∧ ts.length = vs.length ∧ DctAt kd ks vs (H a) ∧ Opn G F H a (els d ts vs ++ es) := by
  obtain ⟨as, ⟨b, c, rfl, ⟨a, vs, bs, rfl, rfl, f, h, al⟩, q⟩, nd⟩ := g.own
  refine ⟨a, vs, rfl, al.length, h, g.sub, g.nt, g.tab, f, ?_, bs ++ c, (all2_els al).join q, nd⟩
  rcases h with ⟨_, _, _, _, h⟩ | ⟨_, _, _, _, h⟩ <;> exact ⟨_, h, (fun _ z => by cases z), (fun _ z => by cases z)⟩
theorem Opn.write {F H : Hp} {a : Addr} {es : List Ent} {o : HO} (g : Opn G F H a es) : Sub F (upd H a o) ∧ LamX.Tabs G.tabs (upd H a o) ∧ ∃ as, EnOk G F (upd H a o) es as ∧ (a :: as).Nodup := by
  obtain ⟨as, q, nd⟩ := g.own
  obtain ⟨u, hu, nu, xu⟩ := g.ex
  have nn := List.nodup_cons.mp nd
  refine ⟨fun z w e => ?_, fun p hp => ?_, as, q.mono (.refl F) fun z hz => ⟨(q.at z hz).1, upd_ne (fun e => nn.1 (e ▸ hz))⟩, nd⟩
  · rw [upd_ne (by rintro rfl; rw [g.none] at e; cases e)]
    exact g.sub z w e
  · obtain ⟨ps, h1, h2, h3⟩ := g.tab p hp
    refine ⟨ps, by rw [upd_ne (by rintro rfl; rw [hu] at h1; cases h1; exact nu _ rfl)]; exact h1, h2, fun pos cv hc => ?_⟩
    obtain ⟨c, e1, e2⟩ := h3 pos cv hc
    refine ⟨c, e1, ?_⟩
    rw [upd_ne (by rintro rfl; rw [hu] at e2; unfold LamX.CodeO at e2; cases e2; exact xu _ rfl)]
    exact e2
theorem Opn.closeL {F H : Hp} {a : Addr} {d : Nat} {ts : List T} {vs : List V} {es : List Ent} (g : Opn G F H a (els d ts vs ++ es)) (hl : ts.length = vs.length) : Good G F (upd H a (.lst vs)) ((d + 1, .lst ts, .ref a) :: es) := by
  obtain ⟨s, t, as, q, nd⟩ := g.write (o := .lst vs)
  obtain ⟨b, c, rfl, q1, q2⟩ := q.append
  exact ⟨s, g.nt, t, a :: (b ++ c), ⟨a :: b, c, rfl, ⟨a, vs, b, rfl, rfl, g.none, upd_same, els_all2 hl q1⟩, q2⟩, nd⟩
theorem Opn.closeD {F H : Hp} {a : Addr} {d : Nat} {kd : Bool} {ks ts : List T} {vs : List V} {es : List Ent} {o : HO} (g : Opn G F H a (els d ts vs ++ es)) (hl : ts.length = vs.length) (hd : DctAt kd ks vs (some o)) : Good G F (upd H a o) ((d + 1, .dct kd ks ts, .ref a) :: es) := by
  obtain ⟨s, t, as, q, nd⟩ := g.write (o := o)
  obtain ⟨b, c, rfl, q1, q2⟩ := q.append
  exact ⟨s, g.nt, t, a :: (b ++ c), ⟨a :: b, c, rfl, ⟨a, vs, b, rfl, rfl, g.none, by rw [upd_same]; exact hd, els_all2 hl q1⟩, q2⟩, nd⟩
theorem els_app {d : Nat} : ∀ {ts ts' : List T} {vs vs' : List V}, ts.length = vs.length → els d (ts ++ ts') (vs ++ vs') = els d ts vs ++ els d ts' vs'
  | [], ts', [], vs', _ => rfl
  | [], _, _ :: _, _, h => by cases h
  | _ :: _, _, [], _, h => by cases h
  | t :: ts, ts', x :: vs, vs', h => by
    show (d, t, x) :: els d (ts ++ ts') (vs ++ vs') = (d, t, x) :: (els d ts vs ++ els d ts' vs')
    rw [els_app (by simpa using h)]
/-- one of them, out of the row -/
theorem els_at {d : Nat} : ∀ {ts : List T} {vs : List V} {k : Nat} {t : T} {x : V}, ts[k]? = some t → vs[k]? = some x → ts.length = vs.length → (els d ts vs).Perm ((d, t, x) :: els d (ts.eraseIdx k) (vs.eraseIdx k))
  | [], _, k, _, _, h, _, _ => by simp at h
  | _ :: _, [], _, _, _, _, _, hl => by cases hl
  | t :: ts, x :: vs, 0, t', x', h1, h2, _ => by
    have e1 : t = t' := by simpa using h1
    have e2 : x = x' := by simpa using h2
    subst e1 e2
    exact .refl _
  | t :: ts, x :: vs, k + 1, t', x', h1, h2, hl => by
    have ih := els_at (d := d) (k := k) (ts := ts) (vs := vs) (by simpa using h1) (by simpa using h2) (by simpa using hl)
    exact (ih.cons _).trans (.swap _ _ _)
theorem els_set {d : Nat} : ∀ {ts : List T} {vs : List V} {k : Nat} {t : T} {x : V}, k < ts.length → ts.length = vs.length → (els d (ts.set k t) (vs.set k x)).Perm ((d, t, x) :: els d (ts.eraseIdx k) (vs.eraseIdx k))
  | [], _, k, _, _, h, _ => by simp at h
  | _ :: _, [], _, _, _, _, hl => by cases hl
  | t :: ts, x :: vs, 0, t', x', _, _ => .refl _
  | t :: ts, x :: vs, k + 1, t', x', h, hl => by
    have ih := els_set (d := d) (k := k) (ts := ts) (vs := vs) (t := t') (x := x') (by simpa using h) (by simpa using hl)
    exact (ih.cons _).trans (.swap _ _ _)
end
end Pb
end
/- M2 -/
section
set_option Elab.async false
set_option linter.all false
set_option maxRecDepth 100000
set_option maxHeartbeats 2000000
namespace Pb
open PySem PySem.Spec PyProof.Rows L2
section
variable {X : Cx} {G : Gx} {W : WX} {pin : List Nat} {n : Nat}
/-! ### methods that change an owned list -/
/-- may a value stand in a list of the depth d + 1 -/
def flatT : T → Bool
  | .lst _ => false
  | .dct _ _ _ => false
  | .opq _ => false
  | _ => true
def canPut (d : Nat) (r : Rz) : Bool := !r.al && (r.d == d || d == 0 || flatT r.t)
theorem own_flat {F H : Hp} {k : Nat} {t : T} {x : V} {as : List Addr} (h : flatT t = true) (p : Own G F H k t x as) : as = [] ∧ Rep G F t x := by
  cases k with
  | zero => exact p
  | succ k => cases t <;> simp only [flatT] at h <;> first | exact p | cases h
theorem flat_own {F H : Hp} {k : Nat} {t : T} {x : V} (h : flatT t = true) (p : Rep G F t x) : Own G F H k t x [] := by
  cases k with
  | zero => exact ⟨rfl, p⟩
  | succ k => cases t <;> simp only [flatT] at h <;> first | exact ⟨rfl, p⟩ | cases h
theorem Good.flat {F H : Hp} {k d : Nat} {t : T} {x : V} {es : List Ent} (h : flatT t = true) (g : Good G F H ((k, t, x) :: es)) : Good G F H ((d, t, x) :: es) := by
  obtain ⟨as, ⟨b, c, rfl, p, q⟩, nd⟩ := g.own
  obtain ⟨rfl, r⟩ := own_flat h p
  exact ⟨g.sub, g.nt, g.tab, c, ⟨[], c, rfl, flat_own h r, q⟩, nd⟩
theorem Good.put {F H : Hp} {d : Nat} {r : Rz} {x : V} {es : List Ent} (h : canPut d r = true) (g : Good G F H ((r.d, r.t, x) :: es)) : ∃ F', Sub F F' ∧ Good G F' H ((d, r.t, x) :: es) := by
  unfold canPut at h
  have h' := (Bool.and_eq_true _ _ ▸ h).2
  rcases Bool.or_eq_true _ _ ▸ h' with h' | h'
  · rcases Bool.or_eq_true _ _ ▸ h' with h' | h'
    · have e : r.d = d := by simpa using h'
      rw [e] at g
      exact ⟨F, .refl F, g⟩
    · have e : d = 0 := by simpa using h'
      subst e
      exact g.freeze
  · exact ⟨F, .refl F, g.flat h'⟩
theorem canPut_al {d : Nat} {r : Rz} (h : canPut d r = true) : r.al = false := by
  unfold canPut at h
  have h1 := (Bool.and_eq_true _ _ ▸ h).1
  cases e : r.al with
  | false => rfl
  | true => rw [e] at h1; cases h1
/-- a method, by trees: the list at the depth d + 1, the arguments; its value, the list behind -/
abbrev GM := Nat → List T → List Rz → Option (Rz × List T)
def MutL (G : Gx) (r : V → List V → Hp → VK → Prop) (g : GM) : Prop :=
  ∀ (F H : Hp) (a : Addr) (d : Nat) (ts : List T) (rs : List Rz) (xs : List V) (es : List Ent) (rz : Rz) (ts' : List T) (Q : VK), Good G F H (rents rs xs ++ ((d + 1, .lst ts, .ref a) :: es)) → rs.length = xs.length → noAl rs = true → g d ts rs = some (rz, ts') →
    (∀ y F' H', Sub F F' → Good G F' H' ((rz.d, rz.t, y) :: (d + 1, .lst ts', .ref a) :: es) → Q y H') → r (.ref a) xs H Q
def isLd : Sl → Bool
  | some (_ + 1, .lst _) => true
  | _ => false
def mMeth (g : GM) (i : Nat) (m : MA) : M := fun ρ => if (ρ[i]?.map isLd).getD false = true then (m ρ).bind fun rs ρ1 => if noAl rs = true then match ρ1[i]? with
    | some (some (d + 1, .lst ts)) => match g d ts rs with
      | some (rz, ts') => if rz.al = true then .no else .ok rz (ρ1.set i (some (d + 1, .lst ts')))
      | none => .no
    | _ => .no
  else .no
  else .no
theorem Good.inSlot {F H : Hp} {ρ : En} {σ : SL} {i : Nat} {d : Nat} {t' : T} {v : V} {fr xs : List Ent} (hs : σ[i]? = some (some v)) (hi : i < ρ.length) (g : Good G F H (xs ++ ((d, t', v) :: (ents (ρ.set i none) σ ++ fr)))) : Good G F H (xs ++ (ents (ρ.set i (some (d, t'))) σ ++ fr)) := by
  have p := ents_put (σ := σ) (s := some (d, t')) hi
  rw [hs] at p
  refine g.perm (List.Perm.append_left xs ?_)
  have q := p.append_right fr
  exact q.symm
theorem isLd_is {ρ : En} {i : Nat} (h : (ρ[i]?.map isLd).getD false = true) : ∃ d ts, ρ[i]? = some (some (d + 1, .lst ts)) := by
  cases e : ρ[i]? with
  | none => rw [e] at h; cases h
  | some s =>
    rw [e] at h
    have h' : isLd s = true := h
    unfold isLd at h'
    split at h'
    · exact ⟨_, _, rfl⟩
    · cases h'
theorem rents_perm {es : List Ent} {rs : List Rz} {xs : List V} {e : Ent} : (rents rs xs ++ (e :: es)).Perm (e :: (rents rs xs ++ es)) := List.perm_middle
/-- x.name(e, ..), x a slot of an owned list -/
theorem r_meth {pu : Bool} {id : String} {name y : Str} {i : Nat} {r : V → List V → Hp → VK → Prop} {g : GM} {e : Expr} {es : List Expr} {m : MA} {p apos cpos : Pos} (slot : Slot "list" name id) (hty : typeOf (.builtin id) = pure (.type "method_descriptor")) (mt : MtR X id r) (mu : MutL G r g) (hN : X.N[i]? = some y) (hv : Vis X.env.scope y)
    (ha : JA X G W pu (e :: es) m) (hdy : (y == ("__debug__" : Str)) = false := by decide) (hcy : (y == ("__classdict__" : Str)) = false := by decide)
    (hbase : attributeBase (.Name y p) name X.env (eval (.Name y p) X.env) = eval (.Name y p) X.env := by rfl)
    (hfew : ((backTo cpos (starEach (e :: es) X.env)).all (fun x => !x.1) && (backToKw cpos (keywordEach [] X.env)).all (fun x => x.1.isSome)
      && decide ((e :: es).length + ([] : List Keyword).length + (if ([] : List Keyword).isEmpty then 0 else 1) < 30)) = true := by rfl)
    (hline : (apos.endLine == cpos.line) = true := by rfl) (hs : starEach (e :: es) X.env = (false, eval e X.env) :: starEach es X.env := by rfl) (hplain : (backTo cpos (starEach es X.env)).any (·.1) = false := by rfl) :
    J X G W false (.Call (.Attribute (.Name y p) name apos) (e :: es) [] cpos) (mMeth g i m) := by
  refine ⟨pe_imp (pe_bm PySem.F.plainAttrs_list slot hty mt (pe_var (pos := p) hN hv hdy hcy) ha.pa hbase hfew hline hs hplain) fun σ H Q ⟨F, ρ, fr, g0, o⟩ => ?_, fun z => nomatch z⟩
  unfold mMeth at o
  split at o
  · rename_i h0
    obtain ⟨d0, ts0, e0⟩ := isLd_is h0
    obtain ⟨v, hs, g1⟩ := g0.slot e0
    obtain ⟨a, vs, rfl, _, hH, _⟩ := g1.openL
    refine ⟨.ref a, hs, .inl ⟨rfl, vs, .of hH⟩, ?_⟩
    refine ha.seq (pu := false) (G := G) (W := W) g0 (fun z => nomatch z) o fun rs ρ1 xs F1 H1 e1 s1 p1 g1 a1 o1 => ?_
    split at o1
    · rename_i hna
      split at o1
      · rename_i d ts e2
        split at o1
        · rename_i rz ts' e3
          split at o1
          · exact o1.elim
          rename_i hal
          have gp : Good G F1 H1 (ents ρ1 σ ++ (rents rs xs ++ fr)) := g1.mid
          obtain ⟨v', hs', g2⟩ := gp.slot e2
          rw [hs] at hs'
          cases hs'
          have hi := getElem?_lt e2
          have g3 : Good G F1 H1 (rents rs xs ++ ((d + 1, .lst ts, .ref a) :: (ents (ρ1.set i none) σ ++ fr))) := by
            refine g2.perm (List.Perm.trans (List.Perm.cons _ (perm_mid _ _ _)) (List.perm_middle.symm))
          refine mu F1 H1 a d ts rs xs _ rz ts' Q g3 (a1.length).symm hna e3 fun y F' H' s' g4 => ?_
          refine o1 y F' H' (s1.trans s') (fun w => nomatch w) ?_ (.zero (by simpa using hal))
          rw [show rz.ent y = [(rz.d, rz.t, y)] from if_neg hal]
          exact Good.inSlot (xs := [(rz.d, rz.t, y)]) hs hi g4
        · exact o1.elim
      · exact o1.elim
    · exact o1.elim
  · exact o.elim
/-- .. without arguments -/
theorem r_meth0 {id : String} {name y : Str} {i : Nat} {r : V → List V → Hp → VK → Prop} {g : GM} {p apos cpos : Pos} (slot : Slot "list" name id) (hty : typeOf (.builtin id) = pure (.type "method_descriptor")) (mt : MtR X id r) (mu : MutL G r g) (hN : X.N[i]? = some y) (hv : Vis X.env.scope y)
    (hdy : (y == ("__debug__" : Str)) = false := by decide) (hcy : (y == ("__classdict__" : Str)) = false := by decide)
    (hbase : attributeBase (.Name y p) name X.env (eval (.Name y p) X.env) = eval (.Name y p) X.env := by rfl) (hline : (apos.endLine == cpos.line) = true := by rfl) :
    J X G W false (.Call (.Attribute (.Name y p) name apos) [] [] cpos) (mMeth g i mNil) := by
  refine ⟨pe_imp (pe_bm0 PySem.F.plainAttrs_list slot hty mt (pe_var (pos := p) hN hv hdy hcy) hbase hline) fun σ H Q ⟨F, ρ, fr, g0, o⟩ => ?_, fun z => nomatch z⟩
  unfold mMeth at o
  split at o
  · rename_i h0
    obtain ⟨d0, ts0, e0⟩ := isLd_is h0
    obtain ⟨v, hs, g1⟩ := g0.slot e0
    obtain ⟨a, vs, rfl, _, hH, _⟩ := g1.openL
    refine ⟨.ref a, hs, .inl ⟨rfl, vs, .of hH⟩, ?_⟩
    have o1 : OutP G W σ fr false F H (if noAl [] = true then match ρ[i]? with
      | some (some (d + 1, .lst ts)) => match g d ts [] with
        | some (rz, ts') => if rz.al = true then .no else .ok rz (ρ.set i (some (d + 1, .lst ts')))
        | none => .no
      | _ => .no
      else .no) Q := o
    rw [if_pos (show noAl [] = true from rfl), e0] at o1
    simp only at o1
    split at o1
    · rename_i rz ts' e3
      split at o1
      · exact o1.elim
      rename_i hal
      refine mu F H a d0 ts0 [] [] _ rz ts' Q g1 rfl rfl e3 fun y F' H' s' g4 => ?_
      refine o1 y F' H' s' (fun w => nomatch w) ?_ (.zero (by simpa using hal))
      rw [show rz.ent y = [(rz.d, rz.t, y)] from if_neg hal]
      exact Good.inSlot (xs := [(rz.d, rz.t, y)]) hs (getElem?_lt e0) g4
    · exact o1.elim
  · exact o.elim
/-! ### the methods -/
def gApp : GM := fun d ts rs => match rs with
  | [r] => if (canPut d r && decide (ts.length < sizeLine)) = true then some (fz .non, ts ++ [r.t]) else none
  | _ => none
theorem rents1 {r : Rz} {x : V} (h : r.al = false) : rents [r] [x] = [(r.d, r.t, x)] := by
  show r.ent x ++ [] = _
  rw [show r.ent x = [(r.d, r.t, x)] from if_neg (by rw [h]; exact Bool.false_ne_true)]
  rfl
theorem mu_append : MutL G rAppend gApp := by
  intro F H a d ts rs xs es rz ts' Q g hl hna e q
  match rs, xs, hl with
  | [r], [x], _ =>
    unfold gApp at e
    simp only at e
    split at e
    · rename_i hc
      have hc' := Bool.and_eq_true _ _ ▸ hc
      cases e
      rw [rents1 (canPut_al hc'.1)] at g
      obtain ⟨F', s', g'⟩ := Good.put hc'.1 g
      obtain ⟨vs, hH, hlen, g2⟩ := g'.snoc
      exact ⟨a, vs, x, rfl, rfl, hH, by rw [hlen]; exact of_decide_eq_true hc'.2, q .non F' _ s' (g2.zero rfl)⟩
    · cases e
  | [], [], _ => cases e
  | _ :: _ :: _, _ :: _ :: _, _ => cases e
def gPop : GM := fun d ts rs => match rs with
  | [] => match ts[ts.length - 1]? with
    | some t => some (⟨d, false, t⟩, ts.dropLast)
    | none => none
  | _ => none
theorem eraseLast {α : Type} : ∀ {l : List α}, l.eraseIdx (l.length - 1) = l.dropLast
  | [] => rfl
  | [_] => rfl
  | x :: y :: l => by
    have ih := eraseLast (l := y :: l)
    show x :: (y :: l).eraseIdx ((y :: l).length - 1) = x :: (y :: l).dropLast
    rw [ih]
theorem mu_pop : MutL G rPop gPop := by
  intro F H a d ts rs xs es rz ts' Q g hl hna e q
  match rs, xs, hl with
  | [], [], _ =>
    unfold gPop at e
    simp only at e
    split at e
    · rename_i t et
      cases e
      obtain ⟨a', vs, e1, hlen, hH, op⟩ := (show Good G F H ((d + 1, .lst ts, .ref a) :: es) from g).openL
      cases e1
      obtain ⟨x, hx⟩ : ∃ x, vs[vs.length - 1]? = some x := by
        have h1 := getElem?_lt et
        exact ⟨_, List.getElem?_eq_getElem (by omega)⟩
      refine ⟨a, vs, x, rfl, rfl, hH, hx, ?_⟩
      rw [hlen] at et
      have p := els_at (d := d) et hx hlen
      rw [eraseLast, ← hlen, eraseLast] at p
      have op2 := op.perm ((p.append_right es).trans (perm_mid [(d, t, x)] (els d ts.dropLast vs.dropLast) es))
      refine q x F _ (.refl F) (Good.perm (Opn.closeL (d := d) (ts := ts.dropLast) op2 (by rw [List.length_dropLast, List.length_dropLast, hlen])) ?_)
      exact .swap _ _ _
    · cases e
end
end Pb
end
/- M3 -/
section
set_option Elab.async false
set_option linter.all false
set_option maxRecDepth 100000
set_option maxHeartbeats 2000000
namespace Pb
open PySem PySem.Spec PyProof.Rows L2
section
variable {X : Cx} {G : Gx} {W : WX} {pin : List Nat} {n : Nat}
/-! ### name op= e, of ints -/
def mAug (i : Nat) (g : Int → Int → Int) (m : M) : S := fun ρ => match ρ[i]? with
  | some (some (_, .int a)) => (m ρ).fl fun r ρ1 => match r.t with
    | .int b => if i < ρ1.length then .nx (ρ1.set i (some (0, .int (g a b)))) else .no
    | _ => .no
  | _ => .no
theorem rs_aug {i : Nat} {x : Str} {pu : Bool} {e : Expr} {op : Operator} {g : Int → Int → Int} {pos pos' : Pos} {m : M} (hN : X.N.Nodup) (hi : X.N[i]? = some x) (hx : Loc X.env.scope x) (hp : i ∉ pin) (hn : i < n) (he : J X G W pu e m) (ho : PIp X op (ipI g))
    (hf : X.fn x = true ∨ X.env.scope.names.lookup x = some .local := by first | exact .inl rfl | exact .inr rfl) : JS X G W pin n (.AugAssign (.Name x pos') op e pos) (mAug i g m) := by
  refine ⟨ps_imp (ps_aug hN hi hx he.pe ho hf) fun D σ H ⟨F, ρ, fr, g0, hl, o⟩ => ?_⟩
  unfold mAug at o
  split at o
  · rename_i d a e0
    obtain ⟨v, hs, g1⟩ := g0.slot e0
    obtain ⟨as, p⟩ := g1.head
    have ev := own_int p
    subst ev
    refine ⟨.int a, hs, ?_⟩
    refine he.seqS g0 hl o fun r ρ1 y F1 H1 e1 s1 p1 g2 a2 o1 => ?_
    obtain ⟨bs, q⟩ := g2.ent a2
    split at o1
    · rename_i b eb
      split at o1
      · rename_i hlt
        refine ⟨a, b, rfl, own_int' eb q, ?_⟩
        refine o1 _ F1 H1 (.refl F1) (.set hl hp) ?_
        exact (g2.drop.zero (t := .int (g a b)) (x := .int (g a b)) rep_int).store hlt (by rw [hl]; exact hn)
      · exact o1.elim
    · exact o1.elim
  · exact o.elim
/-! ### dicts, changed -/
theorem putK_hit {κ : Type} [DecidableEq κ] {v : V} : ∀ {kl : List κ} {vs : List V} {k : κ} {j : Nat}, kl.Nodup → kl.length = vs.length → kl[j]? = some k → (kl.zip vs).map (fun kv => if kv.1 = k then (kv.1, v) else kv) = kl.zip (vs.set j v)
  | [], vs, k, j, _, _, h => by simp at h
  | c :: kl, [], k, j, _, hl, _ => by cases hl
  | c :: kl, x :: vs, k, 0, nd, hl, h => by
    have e : c = k := by simpa using h
    subst e
    have nn := List.nodup_cons.mp nd
    have id_ : ∀ (kl : List κ) (vs : List V), c ∉ kl → (kl.zip vs).map (fun kv => if kv.1 = c then (kv.1, v) else kv) = kl.zip vs := by
      intro kl
      induction kl with
      | nil => intro vs _; rfl
      | cons a kl ih =>
        intro vs hn
        cases vs with
        | nil => rfl
        | cons y vs =>
          have h1 : a ≠ c := fun e => hn (e ▸ List.mem_cons_self)
          have h2 : c ∉ kl := fun e => hn (List.mem_cons_of_mem _ e)
          simp only [List.zip_cons_cons, List.map_cons, if_neg h1, ih vs h2]
    simp only [List.zip_cons_cons, List.map_cons, if_pos, List.set_cons_zero, id_ kl vs nn.1]
  | c :: kl, x :: vs, k, j + 1, nd, hl, h => by
    have nn := List.nodup_cons.mp nd
    have hk : kl[j]? = some k := by simpa using h
    have hc : c ≠ k := fun e => nn.1 (e ▸ List.mem_of_getElem? hk)
    have ih := putK_hit (v := v) (vs := vs) nn.2 (by simpa using hl) hk
    simp only [List.zip_cons_cons, List.map_cons, if_neg hc, List.set_cons_succ, ih]
theorem any_zip {κ : Type} [DecidableEq κ] {k : κ} : ∀ {kl : List κ} {vs : List V}, kl.length = vs.length → ((kl.zip vs).any fun kv => decide (kv.1 = k)) = decide (k ∈ kl)
  | [], vs, _ => by simp
  | c :: kl, [], hl => by cases hl
  | c :: kl, x :: vs, hl => by
    have ih := any_zip (k := k) (kl := kl) (vs := vs) (by simpa using hl)
    simp only [List.zip_cons_cons, List.any_cons, ih, List.mem_cons]
    by_cases e : c = k
    · subst e; simp
    · have e' : ¬ k = c := fun z => e z.symm
      simp [e, e']
theorem putK_at {κ : Type} [DecidableEq κ] {v : V} {kl : List κ} {vs : List V} {k : κ} {j : Nat} (nd : kl.Nodup) (hl : kl.length = vs.length) (h : kl[j]? = some k) : putK (kl.zip vs) k v = kl.zip (vs.set j v) := by
  unfold putK
  rw [any_zip hl, if_pos (by simpa using List.mem_of_getElem? h), putK_hit nd hl h]
theorem putK_new {κ : Type} [DecidableEq κ] {v : V} {kl : List κ} {vs : List V} {k : κ} (hl : kl.length = vs.length) (h : k ∉ kl) : putK (kl.zip vs) k v = (kl ++ [k]).zip (vs ++ [v]) := by
  unfold putK
  rw [any_zip hl, if_neg (by simpa using h), List.zip_append hl]
  rfl
def idxK {κ : Type} [DecidableEq κ] (kl : List κ) (k : κ) : Option Nat := kl.findIdx? fun c => decide (c = k)
theorem idxK_some {κ : Type} [DecidableEq κ] {kl : List κ} {k : κ} {j : Nat} (h : idxK kl k = some j) : kl[j]? = some k := by
  obtain ⟨hlt, h1, _⟩ := List.findIdx?_eq_some_iff_getElem.mp h
  rw [List.getElem?_eq_getElem hlt]
  exact congrArg some (of_decide_eq_true h1)
theorem idxK_none {κ : Type} [DecidableEq κ] {kl : List κ} {k : κ} (h : idxK kl k = none) : k ∉ kl := fun hm => by
  have := List.findIdx?_eq_none_iff.mp h k hm
  simp at this
/-- key: value, in its place or at the end -/
def putAt (o : Option Nat) (ks ts : List T) (key val : T) : Option (List T × List T) := if ts.length < sizeLine then match o with
    | some j => some (ks, ts.set j val)
    | none => some (ks ++ [key], ts ++ [val])
  else none
def dput (kd : Bool) (ks ts : List T) (key val : T) : Option (List T × List T) := match kd with
  | false => match keyT key, keysT ks with
    | some k, some kl => putAt (idxK kl k) ks ts key val
    | _, _ => none
  | true => match keyTT key, keysTT ks with
    | some k, some kl => putAt (idxK kl k) ks ts key val
    | _, _ => none
theorem keysT_snoc : ∀ {ks : List T} {kl : List Key} {key : T} {k : Key}, keysT ks = some kl → keyT key = some k → keysT (ks ++ [key]) = some (kl ++ [k])
  | [], kl, key, k, h, h' => by cases h; show (match keyT key, keysT [] with | some k, some ks => some (k :: ks) | _, _ => none) = _; rw [h']; rfl
  | t :: ks, kl, key, k, h, h' => by
    unfold keysT at h
    split at h
    · rename_i c cl e1 e2
      cases h
      have ih := keysT_snoc e2 h'
      show (match keyT t, keysT (ks ++ [key]) with | some k, some ks => some (k :: ks) | _, _ => none) = _
      rw [e1, ih]; rfl
    · cases h
theorem keysTT_snoc : ∀ {ks : List T} {kl : List (List Key)} {key : T} {k : List Key}, keysTT ks = some kl → keyTT key = some k → keysTT (ks ++ [key]) = some (kl ++ [k])
  | [], kl, key, k, h, h' => by cases h; show (match keyTT key, keysTT [] with | some k, some ks => some (k :: ks) | _, _ => none) = _; rw [h']; rfl
  | t :: ks, kl, key, k, h, h' => by
    unfold keysTT at h
    split at h
    · rename_i c cl e1 e2
      cases h
      have ih := keysTT_snoc e2 h'
      show (match keyTT t, keysTT (ks ++ [key]) with | some k, some ks => some (k :: ks) | _, _ => none) = _
      rw [e1, ih]; rfl
    · cases h
theorem nodup_snoc {κ : Type} {kl : List κ} {k : κ} (nd : kl.Nodup) (h : k ∉ kl) : (kl ++ [k]).Nodup := by
  rw [List.nodup_append]
  refine ⟨nd, by simp, fun a ha b hb e => ?_⟩
  rw [List.mem_singleton.mp hb] at e
  exact h (e ▸ ha)
/-- how the parts change -/
def Parts (ts ts' : List T) (vs vs' : List V) (t : T) (v : V) : Prop := (∃ j, j < ts.length ∧ ts' = ts.set j t ∧ vs' = vs.set j v) ∨ (ts' = ts ++ [t] ∧ vs' = vs ++ [v])
theorem dput_ok {H : Hp} {kd : Bool} {ks ts ks' ts' : List T} {vs : List V} {a : Addr} {key val : T} {y v : V} (hd : DctAt kd ks vs (H a)) (hl : ts.length = vs.length) (hk : Rep G H key y) (h : dput kd ks ts key val = some (ks', ts')) :
    ∃ o vs', DPut H a y v (upd H a o) ∧ DctAt kd ks' vs' (some o) ∧ Parts ts ts' vs vs' val v := by
  have hput : ∀ {κ : Type} [DecidableEq κ] {kl : List κ} {k : κ}, kl.length = vs.length → kl.Nodup → putAt (idxK kl k) ks ts key val = some (ks', ts') →
      vs.length < sizeLine ∧ ((∃ vs', putK (kl.zip vs) k v = kl.zip vs' ∧ kl.length = vs'.length ∧ ks' = ks ∧ Parts ts ts' vs vs' val v) ∨ (∃ vs', putK (kl.zip vs) k v = (kl ++ [k]).zip vs' ∧ (kl ++ [k]).length = vs'.length ∧ (kl ++ [k]).Nodup ∧ ks' = ks ++ [key] ∧ Parts ts ts' vs vs' val v)) := by
    intro κ _ kl k hlen nd hp
    unfold putAt at hp
    split at hp
    · rename_i hlt
      refine ⟨by omega, ?_⟩
      split at hp
      · rename_i j ej
        cases hp
        have hj := idxK_some ej
        refine .inl ⟨vs.set j v, putK_at nd hlen hj, by rw [List.length_set]; exact hlen, rfl, .inl ⟨j, ?_, rfl, rfl⟩⟩
        have := getElem?_lt hj
        omega
      · rename_i ej
        cases hp
        have hj := idxK_none ej
        exact .inr ⟨vs ++ [v], putK_new hlen hj, by simp [hlen], nodup_snoc nd hj, rfl, .inr ⟨rfl, rfl⟩⟩
    · cases hp
  rcases hd with ⟨rfl, kl, h1, h2, h3⟩ | ⟨rfl, kl, h1, h2, h3⟩
  · unfold dput at h
    simp only at h
    split at h
    · rename_i k kl' e1 e2
      rw [h1] at e2; cases e2
      obtain ⟨hz, c⟩ := hput h2.1 h2.2 h
      have ey := keyT_rep e1 hk
      subst ey
      have hzip : (kl.zip vs).length < sizeLine := by rw [List.length_zip]; omega
      rcases c with ⟨vs', q1, q2, rfl, q3⟩ | ⟨vs', q1, q2, q4, rfl, q3⟩
      · exact ⟨.dK (putK (kl.zip vs) k v), vs', .k h3 hzip, .inl ⟨rfl, kl, h1, ⟨q2, h2.2⟩, by rw [q1]⟩, q3⟩
      · exact ⟨.dK (putK (kl.zip vs) k v), vs', .k h3 hzip, .inl ⟨rfl, kl ++ [k], keysT_snoc h1 e1, ⟨q2, q4⟩, by rw [q1]⟩, q3⟩
    · cases h
  · unfold dput at h
    simp only at h
    split at h
    · rename_i k kl' e1 e2
      rw [h1] at e2; cases e2
      obtain ⟨hz, c⟩ := hput h2.1 h2.2 h
      obtain ⟨b, rfl, hb⟩ := keyTT_rep (.refl H) e1 hk
      have hzip : (kl.zip vs).length < sizeLine := by rw [List.length_zip]; omega
      rcases c with ⟨vs', q1, q2, rfl, q3⟩ | ⟨vs', q1, q2, q4, rfl, q3⟩
      · exact ⟨.dT (putK (kl.zip vs) k v), vs', .t h3 hb hzip, .inr ⟨rfl, kl, h1, ⟨q2, h2.2⟩, by rw [q1]⟩, q3⟩
      · exact ⟨.dT (putK (kl.zip vs) k v), vs', .t h3 hb hzip, .inr ⟨rfl, kl ++ [k], keysTT_snoc h1 e1, ⟨q2, q4⟩, by rw [q1]⟩, q3⟩
    · cases h
/-- the parts' entries, changed -/
theorem Opn.parts {F H : Hp} {a : Addr} {d : Nat} {ts ts' : List T} {vs vs' : List V} {t : T} {v : V} {es : List Ent} (hl : ts.length = vs.length) (h : Parts ts ts' vs vs' t v) (g : Opn G F H a (els d ts vs ++ ((d, t, v) :: es))) : Opn G F H a (els d ts' vs' ++ es) ∧ ts'.length = vs'.length := by
  rcases h with ⟨j, hj, rfl, rfl⟩ | ⟨rfl, rfl⟩
  · refine ⟨?_, by rw [List.length_set, List.length_set]; exact hl⟩
    have hj2 : j < vs.length := by omega
    have p1 := els_at (d := d) (List.getElem?_eq_getElem hj) (List.getElem?_eq_getElem hj2) hl
    have p2 := els_set (d := d) (t := t) (x := v) hj hl
    have g1 : Opn G F H a ([(d, ts[j], vs[j])] ++ (els d (ts.eraseIdx j) (vs.eraseIdx j) ++ ((d, t, v) :: es))) := g.perm (p1.append_right _)
    refine (g1.drop).perm ?_
    refine List.Perm.trans ?_ (p2.symm.append_right es)
    exact List.perm_middle
  · refine ⟨?_, by simp [hl]⟩
    rw [els_app hl]
    refine g.perm ?_
    rw [List.append_assoc]
    exact .refl _
theorem PSet.or {t t' : TSet} (h : PSet X t) (h' : PSet X t') : PSet X (fun o i v H Q => t o i v H Q ∨ t' o i v H Q) := by
  intro pins s σ H o i v ov iv u Q I ro ri rv q
  rcases q with q | q
  · exact h pins s σ H o i v ov iv u Q I ro ri rv q
  · exact h' pins s σ H o i v ov iv u Q I ro ri rv q
/-! ### x[i] = v -/
def stT (t key val : T) : Option T := match t with
  | .lst ts => match key with
    | .int k => (ixN ts.length k).map fun j => .lst (ts.set j val)
    | _ => none
  | .dct kd ks ts => (dput kd ks ts key val).map fun p => .dct kd p.1 p.2
  | _ => none
def rSetS : TSet := fun o i v H Q => rSetL o i v H Q ∨ rSetD o i v H Q
theorem ixN_lt {n : Nat} {i : Int} {j : Nat} (h : ixN n i = some j) : j < n := by
  unfold ixN at h
  split at h
  · split at h
    · injection h with h
      omega
    · cases h
  · split at h
    · injection h with h
      omega
    · cases h
/-- a store in an owned thing -/
theorem stT_ok {F H : Hp} {d : Nat} {t t' key val : T} {o y v : V} {es : List Ent} {Q : Hp → Prop} (g : Good G F H ((d, val, v) :: (d + 1, t, o) :: es)) (hk : Rep G H key y) (h : stT t key val = some t') (q : ∀ H', Good G F H' ((d + 1, t', o) :: es) → Q H') : rSetS o y v H Q := by
  have g1 : Good G F H ((d + 1, t, o) :: (d, val, v) :: es) := g.perm (.swap _ _ _)
  unfold stT at h
  split at h
  · rename_i ts
    split at h
    · rename_i k
      obtain ⟨j, hj, rfl⟩ := Option.map_eq_some_iff.mp h
      obtain ⟨a, vs, rfl, hl, hH, op⟩ := g1.openL
      have ey : y = .int k := hk
      subst ey
      have hlt := ixN_lt hj
      obtain ⟨op2, hl2⟩ := op.parts hl (.inl ⟨j, hlt, rfl, rfl⟩)
      exact .inl ⟨a, vs, k, j, rfl, rfl, hH, by rw [← hl]; exact hj, q _ (op2.closeL hl2)⟩
    · cases h
  · rename_i kd ks ts
    obtain ⟨p, hp, rfl⟩ := Option.map_eq_some_iff.mp h
    obtain ⟨a, vs, rfl, hl, hH, op⟩ := g1.openD
    obtain ⟨o', vs', h1, h2, h3⟩ := dput_ok (v := v) hH hl hk hp
    obtain ⟨op2, hl2⟩ := op.parts hl h3
    exact .inr ⟨a, _, rfl, h1, q _ (op2.closeD hl2 h2)⟩
  · cases h
def gSetI (j : Nat) (mi : M) : Rz → En → Option En := fun r ρ => match mi ρ with
  | .ok ri _ => match ρ[j]? with
    | some (some (d + 1, t)) => if canPut d r = true then (stT t ri.t r.t).map fun t' => ρ.set j (some (d + 1, t')) else none
    | _ => none
  | _ => none
theorem rs_seti {j : Nat} {y : Str} {i e : Expr} {pu : Bool} {m mi : M} {p pos pos' : Pos} (hr : Rn X.A) (hN : X.N[j]? = some y) (hv : Vis X.env.scope y) (hi : J X G W true i mi) (he : J X G W pu e m) (hdy : (y == ("__debug__" : Str)) = false := by decide) (hcy : (y == ("__classdict__" : Str)) = false := by decide)
    (ha : ∀ v, assign (.Subscript (.Name y p) i pos) X.env v = (do
      let ov ← holding [v] (eval (.Name y p) X.env)
      let iv ← holding [v, ov] (eval i X.env)
      standAt pos
      holding [v, ov, iv] (setItem ov iv v)
      release [v, ov, iv] []) := by intro _; rfl)
    (hs : swapsWithSole [.Subscript (.Name y p) i pos] e pos'.line X.env = pure false := by rfl) (hw : swappedStores [.Subscript (.Name y p) i pos] e X.env = pure none := by rfl)
    (h1 : (assignEach [.Subscript (.Name y p) i pos] X.env).map (·.2) = [assign (.Subscript (.Name y p) i pos) X.env] := by rfl) : JS X G W pin n (.Assign [.Subscript (.Name y p) i pos] e pos') (mAsg m (gSetI j mi)) := by
  refine ⟨ps_imp (ps_asg he.pe (pg_sub (pe_var (pos := p) hN hv hdy hcy) hi.pe (PSet.or set_list (set_dict (by have := hr.un; omega))) ha) hs hw h1) fun D σ H ⟨F0, ρ0, fr, g0, hl, o⟩ => ?_⟩
  refine he.seqS g0 hl o fun r ρ v F H e1 s0 p0 g1 a1 o1 => ?_
  split at o1
  · exact o1.elim
  rename_i hal
  rw [show r.ent v = [(r.d, r.t, v)] from if_neg hal] at g1
  have g : Good G F H ((r.d, r.t, v) :: (ents ρ σ ++ fr)) := g1
  split at o1
  · rename_i ρ' e
    unfold gSetI at e
    split at e
    · rename_i ri ρ1 e1
      have eρ := hi.pure rfl _ _ _ e1
      subst eρ
      split at e
      · rename_i d t e2
        split at e
        · rename_i hc
          obtain ⟨t', ht, rfl⟩ := Option.map_eq_some_iff.mp e
          have g0 : Good G F H (ents ρ1 σ ++ ((r.d, r.t, v) :: fr)) := g.perm (perm_mid [(r.d, r.t, v)] (ents ρ1 σ) fr)
          obtain ⟨o, hs, _⟩ := g0.slot e2
          refine ⟨o, hs, F, ρ1, (r.d, r.t, v) :: fr, g0, ?_⟩
          rw [e1]
          intro iv F1 H1 s1 p1 g1 a1
          obtain ⟨bs, pk⟩ := g1.ent a1
          have g2 : Good G F1 H1 ((r.d, r.t, v) :: (ents ρ1 σ ++ fr)) := (g1.drop).perm (perm_mid (ents ρ1 σ) [(r.d, r.t, v)] fr)
          obtain ⟨F2, s2, g3⟩ := Good.put hc g2
          have g4 : Good G F2 H1 (ents ρ1 σ ++ ((d, r.t, v) :: fr)) := g3.perm (perm_mid [(d, r.t, v)] (ents ρ1 σ) fr)
          obtain ⟨o', hs', g5⟩ := g4.slot e2
          rw [hs] at hs'; cases hs'
          have g6 : Good G F2 H1 ((d, r.t, v) :: (d + 1, t, o) :: (ents (ρ1.set j none) σ ++ fr)) := g5.perm (((perm_mid (ents (ρ1.set j none) σ) [(d, r.t, v)] fr).cons _).trans (.swap _ _ _))
          exact stT_ok g6 (pk.now g1.sub) ht fun H' g7 => o1 σ F2 H' (s1.trans s2) (.refl hl) (Good.inSlot (xs := []) hs (getElem?_lt e2) g7)
        · cases e
      · cases e
    · cases e
  · exact o1.elim
/-! ### {} and in -/
def mDNew (kd : Bool) : M := fun ρ => .ok ⟨1, false, .dct kd [] []⟩ ρ
theorem New.dct {F H : Hp} {p : Addr} {kd : Bool} {ks ts : List T} {xs : List V} {o : HO} (s : Sub F H) (h : H p = none) (r : Reps G F ts xs) (hd : DctAt kd ks xs (some o)) : New G F H F (upd H p o) 1 (.dct kd ks ts) (.ref p) := by
  refine ⟨.of (.refl F) (same_new h) (fun a => .inl rfl) id, s.trans (same_new h), [p], ⟨p, xs, [], rfl, rfl, none_sub s h, by rw [upd_same]; exact hd, ?_⟩, by simp, fun a ha => by rw [List.mem_singleton.mp ha]; exact .none h⟩
  have gen2 : ∀ (H' : Hp) (ts : List T) (xs : List V), Reps G F ts xs → All2 (Own G F H' 0) ts xs [] := by
    intro H' ts
    induction ts with
    | nil => intro xs r; exact ⟨r, rfl⟩
    | cons t ts ih =>
      intro xs r
      obtain ⟨x, xr, rfl, a, b⟩ := r
      exact ⟨x, xr, [], [], rfl, rfl, ⟨rfl, a⟩, ih xr b⟩
  exact gen2 _ _ _ r
theorem r_dnewK {pos : Pos} : J X G W true (.Dict [] [] pos) (mDNew false) := by
  refine ⟨pe_imp pe_dnewK fun σ H Q ⟨F, ρ, fr, g, o⟩ => ?_, fun _ ρ r ρ' h => by cases h; rfl⟩
  exact fun p hp => OutP.fin (xt := []) o (.refl F) (fun _ => .refl F H) g rfl (New.dct (xs := []) g.sub hp rfl (.inl ⟨rfl, [], rfl, ⟨rfl, .nil⟩, rfl⟩))
theorem r_dnewT {pos : Pos} : J X G W true (.Dict [] [] pos) (mDNew true) := by
  refine ⟨pe_imp pe_dnewT fun σ H Q ⟨F, ρ, fr, g, o⟩ => ?_, fun _ ρ r ρ' h => by cases h; rfl⟩
  exact fun p hp => OutP.fin (xt := []) o (.refl F) (fun _ => .refl F H) g rfl (New.dct (xs := []) g.sub hp rfl (.inr ⟨rfl, [], rfl, ⟨rfl, .nil⟩, rfl⟩))
def gInD (neg : Bool) : Rz → Rz → Option Rz := fun a b => match b.t with
  | .dct kd ks ts => (dget kd ks ts a.t).map fun o => fz (.bl (neg != o.isSome))
  | _ => none
theorem dget_ok {F H : Hp} (s : Sub F H) {d : Nat} {kd : Bool} {ks ts : List T} {key : T} {o : Option T} {x y : V} {as : List Addr} (p : Own G F H d (.dct kd ks ts) x as) (hk : Rep G H key y) (h : dget kd ks ts key = some o) :
    ∃ a ov, x = .ref a ∧ IsD H a ∧ DGet H a y ov ∧ ((o = none ∧ ov = none) ∨ ∃ t z bs, o = some t ∧ ov = some z ∧ Own G F H (d - 1) t z bs) := by
  obtain ⟨a, vs, rfl, h1, hl, h2⟩ := own_dct s p
  cases o with
  | none => exact ⟨a, none, rfl, isD_of h1, dget_none h1 hl hk h, .inl ⟨rfl, rfl⟩⟩
  | some t =>
    obtain ⟨j, z, q1, q2, q3⟩ := dget_some h1 hl hk h
    obtain ⟨z', bs, q4, q5⟩ := h2 j t q1
    rw [q2] at q4; cases q4
    exact ⟨a, some z, rfl, isD_of h1, q3, .inr ⟨t, z, bs, rfl, rfl, q5⟩⟩
theorem o_inD (hr : Rn X.A) : Op2 X G (compareOp .In) (gInD false) := by
  intro pins s σ H F x y v u r1 r2 r as bs Q I rx ry q1 q2 q3 q4 q5 q6 q7
  unfold gInD at q5
  split at q5
  · rename_i kd ks ts et
    obtain ⟨o, ho, rfl⟩ := Option.map_eq_some_iff.mp q5
    rw [et] at q4
    obtain ⟨a, ov, rfl, _, g, c⟩ := dget_ok q1 q4 (q3.now q1) ho
    obtain rfl : u = Value.ref a := ry
    have e : ov.isSome = o.isSome := by
      rcases c with ⟨rfl, rfl⟩ | ⟨t, z, _, rfl, rfl, _⟩ <;> rfl
    refine d_in (by have := hr.un; omega) I g rx fun s' I' => ⟨.bl ov.isSome, H, I', rfl, ?_⟩
    rw [e]
    exact q7 _ F H (New.val q1 (by simp [Rep]))
  · cases q5
theorem o_notInD (hr : Rn X.A) : Op2 X G (compareOp .NotIn) (gInD true) := by
  intro pins s σ H F x y v u r1 r2 r as bs Q I rx ry q1 q2 q3 q4 q5 q6 q7
  unfold gInD at q5
  split at q5
  · rename_i kd ks ts et
    obtain ⟨o, ho, rfl⟩ := Option.map_eq_some_iff.mp q5
    rw [et] at q4
    obtain ⟨a, ov, rfl, _, g, c⟩ := dget_ok q1 q4 (q3.now q1) ho
    obtain rfl : u = Value.ref a := ry
    have e : ov.isSome = o.isSome := by
      rcases c with ⟨rfl, rfl⟩ | ⟨t, z, _, rfl, rfl, _⟩ <;> rfl
    refine d_notIn (by have := hr.un; omega) I g rx fun s' I' => ⟨.bl (!ov.isSome), H, I', rfl, ?_⟩
    rw [e]
    exact q7 _ F H (New.val q1 (by simp [Rep]))
  · cases q5
def oIn : Rz → Rz → Option Rz := orG2 (gIn false) (gInD false)
def oNotIn : Rz → Rz → Option Rz := orG2 (gIn true) (gInD true)
theorem o_inA (hK : X.K = G.K) (hr : Rn X.A) : Op2 X G (compareOp .In) oIn := (o_in hK hr).or (o_inD hr)
theorem o_notInA (hK : X.K = G.K) (hr : Rn X.A) : Op2 X G (compareOp .NotIn) oNotIn := (o_notIn hK hr).or (o_notInD hr)
/-! ### repr -/
def isSeqD : PyData → Bool
  | .list _ => true
  | .tuple _ => true
  | _ => false
def kReprS (t : T) : Option T := if (dle 64 t && (toD t).showable && !(toD t).hasDict && decide ((toD t).shown.length ≤ sizeLine) && isSeqD (toD t)) = true then some (.str (toD t).shown) else none
def kRepr (a : Rz) : Option T := match a.t with
  | .bl true => some (.str "True")
  | .bl false => some (.str "False")
  | .non => some (.str "None")
  | .int i => if i.natAbs.log2 < 1920 then some (.str (toString i)) else none
  | .str z => none
  | t => kReprS t
theorem o_repr (hK : X.K = G.K) (hr : Rn X.A) : OpN X G (.builtin "repr") (g1 kRepr) := by
  have hc : CallR X (.builtin "repr") (fun xs H Q => (∃ b : Bool, xs = [.bl b] ∧ Q (.str (if b then "True" else "False")) H) ∨ (xs = [.non] ∧ Q (.str "None") H) ∨ (∃ i, xs = [.int i] ∧ i.natAbs.log2 < 1920 ∧ Q (.str (toString i)) H) ∨
      ∃ x d, xs = [x] ∧ Dp X.K H x d ∧ d.depth ≤ 64 ∧ d.showable = true ∧ d.hasDict = false ∧ d.shown.length ≤ sizeLine ∧ isSeqD d = true ∧ Q (.str d.shown) H) := by
    intro pins s σ H xs us Q I r h
    rcases h with ⟨b, rfl, q⟩ | ⟨rfl, q⟩ | ⟨i, rfl, hz, q⟩ | ⟨x, d, rfl, hd, h1, h2, h3, h4, h5, q⟩
    · obtain ⟨u, rfl, rb⟩ := vals1 r
      cases (show u = Value.bool b from rb)
      exact PySem.P.repr_of_bool ⟨.str _, H, I.tok _, ⟨_, rfl⟩, q⟩
    · obtain ⟨u, rfl, rb⟩ := vals1 r
      cases (show u = Value.none from rb)
      exact PySem.P.repr_of_none ⟨.str _, H, I.tok _, ⟨_, rfl⟩, q⟩
    · obtain ⟨u, rfl, t, rfl⟩ := vals1 r
      exact PySem.P.repr_of_int hz ⟨.str _, H, I.tok _, ⟨_, rfl⟩, q⟩
    · obtain ⟨u, rfl, ru⟩ := vals1 r
      obtain ⟨as, rd⟩ := Dp.reads I d x u hd ru
      obtain ⟨a, rfl⟩ : ∃ a, u = Value.ref a := by
        cases rd with
        | list _ _ _ _ => exact ⟨_, rfl⟩
        | tuple _ _ _ _ => exact ⟨_, rfl⟩
        | _ => cases h5
      exact repr_of_reads' rd h2 (PyData.noDict_hsm h3) hr.gd (by have := hr.un; omega) (fun _ _ e => e) (fun h' u tk hk => ⟨.str _, H, I.kept (t' := tk) hk, ⟨_, rfl⟩, q⟩) h4
  refine opN1 hc fun {F H a t x as Q} s p e q => ?_
  unfold kRepr at e
  split at e
  · rename_i eb
    cases e
    exact .inl ⟨true, by rw [own_bl' eb p], q _ rep_str⟩
  · rename_i eb
    cases e
    exact .inl ⟨false, by rw [own_bl' eb p], q _ rep_str⟩
  · rename_i eb
    cases e
    rw [eb] at p
    have ex : x = .non := p.now s
    exact .inr (.inl ⟨by rw [ex], q _ rep_str⟩)
  · rename_i i ei
    split at e
    · rename_i hz
      cases e
      exact .inr (.inr (.inl ⟨i, by rw [own_int' ei p], hz, q _ rep_str⟩))
    · cases e
  · cases e
  · unfold kReprS at e
    split at e
    · rename_i h
      cases e
      simp only [Bool.and_eq_true, Bool.not_eq_true', decide_eq_true_eq] at h
      obtain ⟨⟨⟨⟨h1, h2⟩, h3⟩, h4⟩, h5⟩ := h
      obtain ⟨d1, _, d3⟩ := dp_of 64 a.t x h1 (p.now s)
      exact .inr (.inr (.inr ⟨x, _, rfl, by rw [hK]; exact d1, d3, h2, h3, h4, h5, q _ rep_str⟩))
    · cases e
end
end Pb
end
/- N1 -/
section
set_option Elab.async false
set_option linter.all false
set_option maxRecDepth 100000
set_option maxHeartbeats 2000000
namespace Pb
open PySem PySem.Spec PyProof.Rows L2
/-! ### the end: the law's own call -/
/-- what is tracked at the outset: the tables, the script -/
def seedH (Ps : List Addr) (a : Addr) (o : Option HO) : Hp := fun b => if b ∈ Ps then some (.tbl #[]) else if b = a then o else none
theorem seed_none {Ps : List Addr} {a b : Addr} {o : Option HO} (h1 : b ∉ Ps) (h2 : b = a → o = none) : seedH Ps a o b = none := by
  unfold seedH
  rw [if_neg h1]
  by_cases e : b = a
  · rw [if_pos e]; exact h2 e
  · rw [if_neg e]
theorem seed_cases {Ps : List Addr} {a b : Addr} {o : Option HO} {u : HO} (h : seedH Ps a o b = some u) : (b ∈ Ps ∧ u = .tbl #[]) ∨ (b ∉ Ps ∧ b = a ∧ o = some u) := by
  unfold seedH at h
  by_cases e : b ∈ Ps
  · rw [if_pos e] at h; cases h; exact .inl ⟨e, rfl⟩
  · rw [if_neg e] at h
    by_cases e2 : b = a
    · rw [if_pos e2] at h; exact .inr ⟨e, e2, h⟩
    · rw [if_neg e2] at h; cases h
/-- what the top has left of the tables -/
structure TabC (K : PySem.W.Frag) (h : Heap) (c P : Addr) : Prop where
  emp : h.get? P = some { cls := .none, data := .fields #[] }
  out : K.lookup P = none
  hd : PySem.W.CodeHd h c P
theorem law_end {Pg : Program} {w : World} {mg mb : Str → Option Value} {k : Nat} {fa a : Addr} {fd : FuncData} {x : Str} {mf : MF} {G : Gx} {s : Shared} {vs : List Value} {ns : List Int} {cs : List (Addr × Addr)} {r0 : Rz} {ρ0 : En}
    (kin : G.K.In s.heap) (glob : s.heap.Ns mainGlobals mg) (blt : s.heap.Ns builtinsNs mb) (boot : ∀ y : Str, y ≠ "__name__" → mb y = bootBuiltins y) (nolim : s.heap.NoLimit) (nog : s.gens = #[])
    (tabs : ∀ q ∈ cs, TabC G.K s.heap q.1 q.2)
    (bmain : ∃ (bm : Addr) (ob : Obj), mg "__builtins__" = some (.ref bm) ∧ bm ≠ builtinsNs ∧ s.heap.get? bm = some ob ∧ ob.cls = .type "module" ∧ ob.dict = some builtinsNs ∧ ob.data = .plain)
    (hget : s.heap.get? a = some { cls := .type "list", data := .seq vs.toArray }) (hints : IntsAre vs ns) (hlen : ns.length ≤ sizeLine) (room : Room k callerA)
    (gt : ∀ p ∈ G.tabs, ∃ q ∈ cs, q.2 = p.1)
    (body : ∀ base : Heap, G.K.In base → base.Ns mainGlobals mg → (∀ q ∈ cs, LamX.TabB base mg q.1 q.2) → FnG Pg w G.K mg base k fa fd [x] (spP G 1 mf)) (bind : ∀ (s : Shared) (u : Value), BindsTo s fd ⟨[u], []⟩ [(x, u)])
    (main : mf [.frl (ns.map .int)] = .ok r0 ρ0) (hr0 : r0.t = .bl true) :
    codeAny (model Pg w) callerA (.call (.ref fa) ⟨[.ref a], []⟩) (fun r s' => r = .ok (.ret (.bool true)) ∧ OldK s.heap s'.heap ∧ s'.os = s.os ∧ AllBare s'.gens) s := by
  have rv := vals_ints hints
  have hvl := hints.length
  have emp : ∀ b : Addr, b ∈ cs.map (·.2) → s.heap.get? b = some { cls := .none, data := .fields #[] } := fun b hb => by
    obtain ⟨q, hq, rfl⟩ := List.mem_map.mp hb
    exact (tabs q hq).emp
  have aout : a ∉ cs.map (·.2) := fun z => by
    have e1 := emp a z
    rw [hget] at e1
    have e2 := congrArg Obj.data (Option.some.inj e1)
    cases e2
  -- one way for both: the script tracked, or one of the module's own
  have go : ∀ o : Option HO, (o = none ∨ (o = some (.frz { cls := .type "list", data := .seq vs.toArray } (.lst (ns.map V.int))) ∧ G.K.lookup a = none)) → SqL G.K (fun b => if b = a then o else none) a (ns.map V.int) →
      codeAny (model Pg w) callerA (.call (.ref fa) ⟨[.ref a], []⟩) (fun r s' => r = .ok (.ret (.bool true)) ∧ OldK s.heap s'.heap ∧ s'.os = s.os ∧ AllBare s'.gens) s := by
    intro o ho hsq
    let H := seedH (cs.map (·.2)) a o
    have free : ∀ {b : Addr} {ob : Obj}, s.heap.get? b = some ob → (∀ l n, ob.data ≠ .seq l n) → ob.data ≠ .fields #[] → H b = none := fun {b ob} e n1 n2 => by
      refine seed_none (fun z => ?_) fun z => ?_
      · rw [emp b z] at e; cases e; exact n2 rfl
      · rw [z, hget] at e; cases e; exact (n1 _ _ rfl).elim
    have hid : ∀ {b : Addr} {ob : Obj}, s.heap.get? b = some ob → H b = none → (hidT s.heap H).get? b = some ob := fun e n => hidT_get e n
    have nsH : ∀ {b : Addr} {m : Str → Option Value}, s.heap.Ns b m → (hidT s.heap H).Ns b m := fun {b m} ⟨ob, es, ep, e, d, r⟩ =>
      ⟨ob, es, ep, hid e (free e (fun _ _ z => by rw [d] at z; cases z) fun z => by rw [d] at z; cases z), d, r⟩
    have kb : G.K.In (hidT s.heap H) := fun b ob e => hid (kin b ob e) (seed_none (fun z => by
      obtain ⟨q, hq, rfl⟩ := List.mem_map.mp z
      rw [(tabs q hq).out] at e; cases e) fun z => by
        rcases ho with h | ⟨_, h⟩
        · exact h
        · rw [z, h] at e; cases e)
    have md : L2.Mod G.K mg (hidT s.heap H) := ⟨kb, nsH glob, ⟨mb, nsH blt, boot⟩, let ⟨m, l1, l2⟩ := nolim; ⟨m, nsH l1, l2⟩⟩
    have tb : ∀ q ∈ cs, LamX.TabB (hidT s.heap H) mg q.1 q.2 := fun q hq => by
      obtain ⟨ob, us, fl, t1, t2, t3, t4, t5, t6, e1, r1, r2, r3, r4⟩ := (tabs q hq).hd
      refine ⟨⟨ob, us, fl, t1, t2, t3, t4, t5, t6, hid e1 (free e1 (fun _ _ z => by rw [r2] at z; cases z) fun z => ?_), r1, r2, r3, r4⟩, ?_, fun z => ?_⟩
      · rw [r2] at z; cases z; simp at r3
      · obtain ⟨bm, ob2, b1, b2, b3, b4, b5, b6⟩ := bmain
        refine ⟨bm, ob2, b1, b2, fun z => ?_, fun z => ?_, hid b3 (free b3 (fun _ _ z => by rw [b6] at z; cases z) fun z => by rw [b6] at z; cases z), b4, b5, b6⟩
        · obtain ⟨o3, es, ep, e3, d3, _⟩ := glob
          rw [z, e3] at b3; cases b3
          rw [d3] at b6; cases b6
        · rw [z, (tabs q hq).emp] at b3; cases b3; cases b6
      · obtain ⟨o3, es, ep, e3, d3, _⟩ := glob
        rw [z, (tabs q hq).emp] at e3; cases e3; cases d3
    have hk : HOk Pg w H s.heap := fun b u e => by
      rcases seed_cases e with ⟨hb, rfl⟩ | ⟨_, rfl, eo⟩
      · exact emp b hb
      · rcases ho with h | ⟨h, _⟩
        · rw [h] at eo; cases eo
        · rw [h] at eo; cases eo
          exact ⟨hget, by rw [List.length_map]; exact hlen, vs, _, rv, hget⟩
    have e0 : Env0 Pg w G.K mg (hidT s.heap H) callerA [] s H := ⟨rfl, md, fun _ _ e => of_hidT e, Nat.le_of_eq (hidT_size _ _), trivial, fun b hb => absurd (show b ∈ ([] : List Addr) from hb) (by simp), hk, .of_eq nog⟩
    have low : Sub (fun b => if b = a then o else none) H := fun b u e => by
      have e' : (if b = a then o else none) = some u := e
      by_cases z : b = a
      · rw [if_pos z] at e'
        show seedH (cs.map (·.2)) a o b = some u
        unfold seedH
        rw [if_neg (by rw [z]; exact aout), if_pos z, e']
      · rw [if_neg z] at e'; cases e'
    have spec : spP G 1 mf [.ref a] H (fun v _ => v = .bl true) (fun _ _ _ => False) := by
      refine ⟨_, [.frl (ns.map .int)], low, fun b u e => ?_, fun p hp => ?_, ⟨.ref a, [], rfl, ⟨a, ns.map V.int, rfl, hsq, ?_⟩, rfl⟩, rfl, ?_⟩
      · have e' : (if b = a then o else none) = some u := e
        by_cases z : b = a
        · rw [if_pos z] at e'
          rcases ho with h | ⟨h, _⟩
          · rw [h] at e'; cases e'
          · rw [h] at e'; cases e'
            exact fun _ w => by cases w
        · rw [if_neg z] at e'; cases e'
      · obtain ⟨q, hq, eq⟩ := gt p hp
        refine LamX.TabS.nil ?_
        show seedH (cs.map (·.2)) a o p.1 = _
        unfold seedH
        rw [if_pos (by rw [← eq]; exact List.mem_map_of_mem hq)]
      · have all : ∀ (l : List Int), Reps G (fun b => if b = a then o else none) (l.map T.int) (l.map V.int) := by
          intro l
          induction l with
          | nil => exact rfl
          | cons i l ih => exact ⟨.int i, l.map V.int, rfl, rfl, ih⟩
        exact all ns
      · rw [main]
        intro y F' H' nw
        obtain ⟨_, _, as, p, _⟩ := nw
        rw [hr0] at p
        exact own_bl p
    refine codeAny_mono ((body _ kb (nsH glob) tb).go callerA [] s H ⟨[.ref a], []⟩ [.ref a] [.ref a] _ _ ⟨room, rfl⟩ e0 (bind s (.ref a)) (.cons rfl .nil) spec) fun r s' hh => ?_
    match r, hh with
    | .error e, hh =>
      obtain ⟨_, _, _, _, _, _, _, _, _, _, _, _, _, _, _, _, z⟩ := hh
    | .ok (.ret u), hh =>
      obtain ⟨v, H', q1, q2, un, hk', rv', q3⟩ := hh
      have ev : v = .bl true := q3
      subst ev
      obtain rfl : u = Value.bool true := rv'
      have kept : ∀ b ob, b ∉ cs.map (·.2) → s.heap.get? b = some ob → s'.heap.get? b = some ob := fun b ob nb e => by
        cases q : H b with
        | none => exact un.keep b ob e q (fun z => absurd (show b ∈ ([] : List Addr) from z) (by simp)) (by simp)
        | some u =>
          rcases seed_cases q with ⟨z, _⟩ | ⟨_, rfl, eo⟩
          · exact (nb z).elim
          · rcases ho with h | ⟨h, _⟩
            · rw [h] at eo; cases eo
            · rw [h] at eo; cases eo
              rw [hget] at e; cases e
              exact (hk' _ _ (un.frzs _ _ _ q)).1
      have more : ∀ b, b ∈ cs.map (·.2) → ∃ m : Array Value, s'.heap.get? b = some { cls := .none, data := .fields m } := fun b hb => by
        have e : H b = some (.tbl #[]) := if_pos hb
        obtain ⟨m, z⟩ := un.tbls b #[] e
        exact ⟨_, hk' b _ z⟩
      refine ⟨rfl, ⟨fun b ob e => ?_, fun b ob e => ?_⟩, q1, q2⟩
      · by_cases hb : b ∈ cs.map (·.2)
        · obtain ⟨m, hm⟩ := more b hb
          rw [emp b hb] at e; cases e
          obtain ⟨q, hq, rfl⟩ := List.mem_map.mp hb
          exact .inr (.inl ⟨((tabs q hq).hd.tab (tabs q hq).emp).isCodeTable, rfl, #[], m, rfl, by rw [Array.empty_append]; exact hm⟩)
        · exact .inl (kept b ob hb e)
      · by_cases hb : b ∈ cs.map (·.2)
        · obtain ⟨m, hm⟩ := more b hb
          exact ⟨_, hm⟩
        · exact ⟨ob, kept b ob hb e⟩
    | .ok .next, hh => exact hh.elim
    | .ok .brk, hh => exact hh.elim
    | .ok .cont, hh => exact hh.elim
  cases hk : G.K.lookup a with
  | none => exact go _ (.inr ⟨rfl, hk⟩) (.inl (.inr ⟨{ cls := .type "list", data := .seq vs.toArray }, if_pos rfl⟩))
  | some o =>
    have e := kin a o hk
    rw [hget] at e
    cases e
    exact go none (.inl rfl) (.inr ⟨_, vs.toArray, _, hk, rfl, rfl, rfl, by rw [List.size_toArray, hvl]; exact hlen, by simpa using rv⟩)
/-- what is to be known of a law at its heap -/
def LawK (l : PySem.W.OpenLaw) (w : World) (K : PySem.W.Frag) (k n : Nat) (x : Str) (mg : Str → Option Value) (fa : Addr) (h : Heap) : Prop :=
  ∃ (G : Gx) (fd : FuncData) (cs : List (Addr × Addr)) (mf : MF), G.K = K ∧ (∀ q ∈ cs, TabC K h q.1 q.2) ∧ (∀ p ∈ G.tabs, ∃ q ∈ cs, q.2 = p.1) ∧ (∀ (s : Shared) (u : Value), BindsTo s fd ⟨[u], []⟩ [(x, u)]) ∧
    (∀ ns : List Int, ns.length ≤ n → (∀ z ∈ ns, Builtin.Int.intBits z ≤ 1048576) → ∃ r ρ, mf [.frl (ns.map .int)] = .ok r ρ ∧ r.t = .bl true) ∧
    ∀ base : Heap, K.In base → base.Ns mainGlobals mg → (∀ q ∈ cs, LamX.TabB base mg q.1 q.2) → FnG l.prog w K mg base k fa fd [x] (spP G 1 mf)
theorem walk_own {l : PySem.W.OpenLaw} {n k : Nat} {q : Program} {loose : List Str} {XP : (Str → Option Value) → Heap → Prop} {YP : World → Heap → Prop} {d : DefRec} {K : Params → PySem.W.Frag} {x : Str}
    (hn : l.most = some n) (hsz : n ≤ sizeLine) (nodef : d.params.defaults = []) (room : Room k callerA) (isrec : ((recsOf q).any fun e => e.name == d.name) = true) (kin : ∀ (w : World) (h : Heap), YP w h → (K w.params).In h)
    (F : ∀ (w : World) (mg : Str → Option Value) (fa : Addr) (h : Heap), (K w.params).In h → h.Ns mainGlobals mg → mg d.name = some (.ref fa) → LamX.OwnTab (K w.params) fa h → LawK l w (K w.params) k n x mg fa h) :
    PySem.W.WalkO q loose XP YP l.row.toRowW d [] (fun f vs => PySem.call f vs) := by
  refine Att.attach_callB hn nodef fun w s₀ s mg mb fa o pm cd doc a vs ns Gr Y ho hd hcd hmg hobj hints hlen bits hg => ?_
  have KX := kin w _ Y
  have own : LamX.OwnTab (K w.params) fa s.heap := fun c P o1 fd1 e dd vs1 sl k1 k2 k3 k4 k5 => by
    obtain ⟨dl, dm, dn⟩ := List.any_eq_true.mp isrec
    have dn' : dl.name = d.name := beq_iff_eq.mp dn
    obtain ⟨a', o', fd', c', P', t1, t2, t3, t4, t5, ⟨oc, vc, u1, _, u3, u4⟩, tP⟩ := Gr.T.tab dl dm
    rw [dn', hmg] at t1; cases t1
    rw [KX _ _ k1] at t2; cases t2
    rw [k2] at t3; cases t3
    rw [k3] at t4; cases t4
    rw [KX _ _ k4] at u1; cases u1
    cases u3
    rw [k5] at u4; cases u4
    exact tP
  obtain ⟨G, fd, cs, mf, rfl', hT, hgt, hb, hm, hF⟩ := F w mg fa _ KX Gr.T.g hmg own
  obtain ⟨r, ρ, e1, e2⟩ := hm ns hlen bits
  rw [← rfl'] at hT hF KX
  exact law_end KX Gr.T.g Gr.T.b Gr.T.builtins Gr.T.nolimit hg hT Gr.T.bmain hobj hints (Nat.le_trans hlen hsz) room hgt hF hb e1 e2
end Pb
end
/- N2 -/
section
set_option Elab.async false
set_option linter.all false
set_option maxRecDepth 100000
set_option maxHeartbeats 2000000
namespace Pb
open PySem PySem.Spec PyProof.Rows L2
section
variable {X : Cx} {G : Gx} {W : WX} {pin : List Nat} {n : Nat}
/-! ### a value frozen as it comes, a slot's value taken -/
def mVarM (i : Nat) : M := fun ρ => match ρ[i]? with
  | some (some (d, t)) => .ok ⟨d, false, t⟩ (ρ.set i none)
  | _ => .no
theorem r_varM {i : Nat} {x : Str} {pos : Pos} (hN : X.N[i]? = some x) (hv : Vis X.env.scope x) (hd : (x == ("__debug__" : Str)) = false := by decide) (hcd : (x == ("__classdict__" : Str)) = false := by decide) : J X G W false (.Name x pos) (mVarM i) := by
  refine ⟨pe_imp (pe_var hN hv hd hcd) fun σ H Q h => ?_, fun h => nomatch h⟩
  obtain ⟨F, ρ, fr, g, o⟩ := h
  unfold mVarM at o
  split at o
  · rename_i d t e
    obtain ⟨v, hs, g'⟩ := g.slot e
    exact ⟨v, hs, o v F H (.refl F) (fun z => nomatch z) g' (.zero rfl)⟩
  · exact o.elim
/-! ### names of the module, of the built-in types -/
theorem r_cls {x : Str} {C : Addr} {pos : Pos} (hC : G.cls x = some C) (hg : Gl X x) (hm : X.mg x = some (.ref C)) (hd : (x == ("__debug__" : Str)) = false := by decide) : J X G W true (.Name x pos) (mC (.cls x)) := r_c (v := .ref C) (pe_glob hg hm rfl hd) fun _ => ⟨C, hC, rfl⟩
theorem r_tyn {x : Str} {tn : String} {pos : Pos} (hg : Gl X x) (hm : X.mg x = none) (hv : bootBuiltins x = some (.type tn)) (hn : x ≠ "__name__" := by decide) (hd : (x == ("__debug__" : Str)) = false := by decide) : J X G W true (.Name x pos) (mC (.ty tn)) := r_c (v := .ty tn) (pe_bltn hg hm hv rfl hn hd) fun _ => rfl
/-- a number of the module -/
theorem r_gint {x : Str} {i : Int} {pos : Pos} (hg : Gl X x) (hm : ∃ t, X.mg x = some (.int i t)) (hd : (x == ("__debug__" : Str)) = false := by decide) : J X G W true (.Name x pos) (mC (.int i)) := by
  obtain ⟨t, hm⟩ := hm
  exact r_c (v := .int i) (pe_glob hg hm ⟨t, rfl⟩ hd) fun _ => rfl
theorem r_gstr {x : Str} {i : Str} {pos : Pos} (hg : Gl X x) (hm : ∃ t, X.mg x = some (.str i t)) (hd : (x == ("__debug__" : Str)) = false := by decide) : J X G W true (.Name x pos) (mC (.str i)) := by
  obtain ⟨t, hm⟩ := hm
  exact r_c (v := .str i) (pe_glob hg hm ⟨t, rfl⟩ hd) fun _ => rfl
theorem r_fn {x : Str} {f : Addr} {pos : Pos} (hC : G.fn x = some f) (hg : Gl X x) (hm : X.mg x = some (.ref f)) (hd : (x == ("__debug__" : Str)) = false := by decide) : J X G W true (.Name x pos) (mC (.fn x)) := r_c (v := .ref f) (pe_glob hg hm rfl hd) fun _ => ⟨f, hC, rfl⟩
/-- what stands in a body's context -/
theorem gl_of {X : Cx} {sc : Scope} {x : Str} (h : X.env.scope = sc) (e : sc.names.lookup x = some .globalImplicit) : Gl X x := by
  show X.env.scope.names.lookup x = _
  rw [h]; exact e
end
end Pb
end
/- N3 -/
section
set_option Elab.async false
set_option linter.all false
set_option maxRecDepth 100000
set_option maxHeartbeats 2000000
namespace Pb
open PySem PySem.Spec PyProof.Rows L2 LamX
/-! ### short words for what a generator prints -/
abbrev gSub : Rz → Rz → Option Rz := gI tt2 fun i j => i - j
abbrev gDiv : Rz → Rz → Option Rz := gI divOk fun i j => i / j
abbrev gMod : Rz → Rz → Option Rz := gI posOk fun i j => i % j
abbrev gPow : Rz → Rz → Option Rz := gI powOk fun i j => i ^ j.toNat
abbrev gLt : Rz → Rz → Option Rz := gB fun i j => decide (i < j)
abbrev gLe : Rz → Rz → Option Rz := gB fun i j => decide (i ≤ j)
abbrev gGt : Rz → Rz → Option Rz := gB fun i j => decide (j < i)
abbrev gGe : Rz → Rz → Option Rz := gB fun i j => decide (j ≤ i)
theorem bo_abs : bootBuiltins "abs" = some (.builtin "abs") := by decide +kernel
theorem bo_int : bootBuiltins "int" = some (.type "int") := by decide +kernel
theorem bo_bool : bootBuiltins "bool" = some (.type "bool") := by decide +kernel
theorem bo_list : bootBuiltins "list" = some (.type "list") := by decide +kernel
theorem bo_tuple : bootBuiltins "tuple" = some (.type "tuple") := by decide +kernel
theorem bo_str : bootBuiltins "str" = some (.type "str") := by decide +kernel
theorem bo_dict : bootBuiltins "dict" = some (.type "dict") := by decide +kernel
theorem bo_ValueError : bootBuiltins "ValueError" = some (.type "ValueError") := by decide +kernel
theorem bo_len : bootBuiltins "len" = some (.builtin "len") := by decide +kernel
theorem bo_all : bootBuiltins "all" = some (.builtin "all") := by decide +kernel
theorem bo_any : bootBuiltins "any" = some (.builtin "any") := by decide +kernel
theorem bo_sum : bootBuiltins "sum" = some (.builtin "sum") := by decide +kernel
theorem bo_min : bootBuiltins "min" = some (.builtin "min") := by decide +kernel
theorem bo_max : bootBuiltins "max" = some (.builtin "max") := by decide +kernel
theorem bo_isinstance : bootBuiltins "isinstance" = some (.builtin "isinstance") := by decide +kernel
theorem bo_repr : bootBuiltins "repr" = some (.builtin "repr") := by decide +kernel
end Pb
namespace Pe
open PySem PySem.Spec PySem.W PySem.Calls PyProof.Rows
/-- an own error's facts, one by one -/
theorem exc_mk {prog : Program} {K : Frag} {mg : Str → Option Value} {C CB fI cda cc N N' : Addr} {qual : Str} {params : Arguments} {body : List Stmt} {scope : Scope} {nm q nm' q' : Str} {bs bs' bmB : List Value} {sn sn' : List Str} {sub sub' : List Value} {ab ab' : Bool} {col col' : Option Bool} {dd dd' : Option Addr} {m0 m1 m2 m3 m5 p0 p1 p2 p3 p5 : Option Value}
    {oc kV doc pm ct ccl cl : Value} {od an cdd cld : Option Addr} {osl ccs csl : Array (Option Value)} {vs : Array Value} {file : Str} {tf : Tok}
    (xC : K.lookup C = some (excClassObj nm q C N bs (.ref CB :: bmB) true sn sub ab col dd m0 m1 m2 m3 m5 "ValueError.__new__")) (xB : K.lookup CB = some (excClassObj nm' q' CB N' bs' bmB true sn' sub' ab' col' dd' p0 p1 p2 p3 p5 "ValueError.__new__")) (vB : HandSPX.refsVE bmB = true)
    (iB : findIn K (.ref CB) "__init__" = some (some (.builtin "ValueError.__init__"))) (lI : K.lookup fI = some ⟨oc, od, .func (ksFn "__init__" qual params body scope .none kV doc pm an (.ref cda) ct cc), osl⟩) (cI : codeIn K (.ref cda) qual = true)
    (lc : K.lookup cda = some ⟨ccl, cdd, .fields vs, ccs⟩) (v2 : vs[2]? = some (.str file tf)) (vf : ((prog.main.file : Str) == file) = true) (lx : K.lookup cc = some ⟨cl, cld, .cell (some (.ref C)), csl⟩)
    (iC : findIn K (.ref C) "__init__" = some (some (.ref fI))) (tI : typeIn K (.ref fI) = some (.type "function")) (isVE : mroIn K C (.type "ValueError") = some true) (isC : mroIn K C (.ref C) = some true) (exB : subIn K (.ref C) (.type "BaseException") = some true)
    (tyC : typeIn K (.ref C) = some (.type "type")) (kC : keepIn K (.ref C) = true) (sa : findIn K (.ref C) "__setattr__" = some (some (.builtin "object.__setattr__"))) (sup : mg "super" = none) (op : nsIn K cStatics "thirdparty.any" = some none) (top : (prog.main.scope.names.lookup ("super" : Str)).isSome = false) :
    ExC prog K mg C fI qual params body scope := by
  have hcl : clsIn K C = some { name := nm, bases := bs, mro := .ref C :: .ref CB :: bmB, ns := N, qualname := q, hasDict := true, slotNames := sn, subclasses := sub, abstract := ab, collection := col, hasDel := false } := by unfold clsIn; rw [xC] <;> rfl
  have hal : alongIn K "__init__" (.ref CB :: bmB) = some (some (.builtin "ValueError.__init__")) := by
    unfold findIn at iB
    simp only at iB
    rw [xB] at iB
    exact iB
  exact ⟨⟨nm, q, N, bs, _, sn, sub, ab, col, dd, m0, m1, m2, m3, m5, xC, vB⟩, ⟨_, _, hcl, rfl, hal⟩, ⟨oc, od, osl, kV, doc, pm, an, cda, ct, cc, ccl, cdd, vs, ccs, file, tf, cl, cld, csl, lI, cI, lc, v2, vf, lx⟩, iC, tI, isVE, isC, exB, tyC, kC, sa, sup, op, top⟩
end Pe
namespace Pb
open PySem PySem.Spec PyProof.Rows L2 LamX
section
variable {X : Cx} {G : Gx} {W : WX} {pin : List Nat} {n : Nat}
/-- x(lambda: body), x a def of the text -/
theorem r_lamF {x a : Str} {g c P : Addr} {fd : FuncData} {st : Stmt} {k : Nat} {Ng : List Str} {hf : HF} {params : Arguments} {body : Expr} {scope : Scope} {m : M} {pu : Bool} {p lpos pos : Pos} (F : Fun X.K x x st g fd) (hg : Gl X x) (hm : X.mg x = some (.ref g))
    (hb : L2.Binds X.K fd [a] []) (Sg : FnScope Ng [a] (defScope st)) (hNg : Ng[0]? = some a) (hva : Vis (defScope st) a) (hG : ∀ cdv, Helps X G Ng x (defScope st) g cdv (defBody st) a (X.env.qual ++ "<lambda>") hf)
    (TB : TabB X.base X.mg c P) (hcode : X.env.code = .ref c) (hmT : (P, X.env.qual ++ "<lambda>") ∈ G.tabs) (hu : ∀ p ∈ G.tabs, p.1 = P → p.2 = X.env.qual ++ "<lambda>") (hr : Rm (k + 2) X.A) (L : LamS X.env.scope scope) (hdef : defaultsOf params X.env = ([], []))
    (hbind : ∀ (q : Str) (cl : List (Str × Addr)) (pm cv ctv : Value), bindArgs (PySem.W.kla_fn "<lambda>" q params body scope cl pm cv ctv) ⟨[], []⟩ = pure [])
    (hbody : ∀ (A : Around) (outer : List Env) (s : Shared) (H : Hp) (E : XK) (f c' : Addr), Rm k (A.deeper (lamEnv X scope s.heap.objs.size f c')) → J (lamCx X A outer s H E scope f c') G (WB E) pu body m)
    (hdb : (x == ("__debug__" : Str)) = false := by decide) (hd : (a == ("__debug__" : Str)) = false := by decide) (hcd : (a == ("__classdict__" : Str)) = false := by decide) :
    J X G W false (.Call (.Name x p) [.Lambda params body scope lpos] [] pos) (mLam hf m) := by
  have kp := F.kp
  obtain ⟨oc, od, kV, doc, pm, an, cdv, ct, osl, rfl, lk, hcg⟩ := F.ex
  exact r_lam hg hm kp lk hcg hb Sg hNg hva (hG cdv) TB hcode hmT hu hr L hdef hbind hbody hdb hd hcd
/-! ### what is asked of classes, from what the top has written -/
theorem kit1 {K : PySem.W.Frag} {C D : Addr} {b : Bool} (hc : PySem.W.isClsIn K D = true) (ht : PySem.W.typeIn K (.ref D) = some (.type "type")) (hd : PySem.W.subIn K (.ref D) (.ref D) = some true) (hs : PySem.W.subIn K (.ref C) (.ref D) = some b) : PySem.W.kitOne K (.ref C) (.ref D) = some b := by
  have hc' : (PySem.W.clsIn K D).isSome = true := hc
  unfold PySem.W.kitOne
  by_cases e : C = D
  · subst e
    rw [hd] at hs
    cases hs
    rw [if_pos (by simp)]
  · rw [if_neg (by simpa using e)]
    show (if ((PySem.W.clsIn K D).isSome && PySem.W.typeIn K (.ref D) == some (.type "type")) = true then PySem.W.subIn K (.ref C) (.ref D) else none) = some b
    rw [hc', ht]
    exact hs
theorem kitVE {K : PySem.W.Frag} {C : Addr} {b : Bool} (hs : PySem.W.subIn K (.ref C) (.type "ValueError") = some b) : PySem.W.kitOne K (.ref C) (.type "ValueError") = some b := by
  unfold PySem.W.kitOne
  rw [if_neg (by intro z; cases (beq_iff_eq.mp z))]
  show (if PySem.W.kitMeta "ValueError" = true then PySem.W.subIn K (.ref C) (.type "ValueError") else none) = some b
  rw [if_pos (by decide +kernel)]
  exact hs
theorem exm1 {K : PySem.W.Frag} {C D : Addr} {b : Bool} (hb : PySem.W.subIn K (.ref D) (.type "BaseException") = some true) (hc : PySem.W.isClsIn K D = true) (ht : PySem.W.typeIn K (.ref D) = some (.type "type")) (hs : PySem.W.subIn K (.ref C) (.ref D) = some b) : PySem.W.exmOne K (.ref C) (.ref D) = some b := by
  have hc' : (PySem.W.clsIn K D).isSome = true := hc
  unfold PySem.W.exmOne
  rw [if_pos (by rw [hb]; rfl)]
  show (if ((PySem.W.clsIn K D).isSome && PySem.W.typeIn K (.ref D) == some (.type "type")) = true then PySem.W.subIn K (.ref C) (.ref D) else none) = some b
  rw [hc', ht]
  exact hs
def codeOk (vs : Array Value) (c P : Addr) : Bool := (match (vs[11]? : Option Value) with | some (.ref P') => P' == P | _ => false) &&
  (match vs.getD 18 .none with | .str _ _ => true | _ => false) && (match vs.getD 7 .none with | .int _ _ => true | _ => false) &&
  (match vs.getD 9 .none with | .bool _ => true | _ => false) && (match vs.getD 10 .none with | .int _ _ => true | _ => false) && c != P
theorem codeHd_by {K : PySem.W.Frag} {c P : Addr} {dd : Option Addr} {vs : Array Value} {sl : Array (Option Value)} (l : K.lookup c = some ⟨.type "code", dd, .fields vs, sl⟩) (h : codeOk vs c P = true) : PySem.W.codeHdIn K c P = true := by
  unfold PySem.W.codeHdIn
  rw [l]
  exact h
/-- the table of a def's code, as the top leaves it -/
theorem tabC_of {K : PySem.W.Frag} {h : Heap} {fa c P : Addr} {fd : FuncData} {oc : Value} {od : Option Addr} {osl : Array (Option Value)} (X : K.In h) (own : LamX.OwnTab K fa h) (l : K.lookup fa = some ⟨oc, od, .func fd, osl⟩) (hc : fd.code = .ref c)
    (e : PySem.W.codeHdIn K c P = true) (out : (K.lookup P).isNone = true) : TabC K h c P := by
  refine ⟨?_, by simpa using out, PySem.W.codeHd_of_K X e⟩
  unfold PySem.W.codeHdIn at e
  split at e
  · rename_i vs _ hk
    simp only [Bool.and_eq_true] at e
    obtain ⟨⟨⟨⟨⟨e1, _⟩, _⟩, _⟩, _⟩, _⟩ := e
    split at e1
    · rename_i P' h11
      have hP : P' = P := beq_iff_eq.mp e1
      subst hP
      exact own c P' _ fd _ _ vs _ l rfl hc hk h11
    · cases e1
  · cases e
theorem rs_par3 {pu : Bool} {i j l : Nat} {x y z : Str} {a b c : Expr} {m : MA} {px py pz pt pos : Pos} {kt k2 pt2} (hc : X.calm = true) (hN : X.N.Nodup) (hi : X.N[i]? = some x) (hj : X.N[j]? = some y) (hl : X.N[l]? = some z) (hij : i ≠ j) (hil : i ≠ l) (hjl : j ≠ l)
    (hpi : i ∉ pin) (hpj : j ∉ pin) (hpl : l ∉ pin) (hni : i < n) (hnj : j < n) (hnl : l < n)
    (hx : X.env.scope.names.lookup x = some .local) (hy : X.env.scope.names.lookup y = some .local) (hz : X.env.scope.names.lookup z = some .local) (ha : JA X G W pu [a, b, c] m)
    (hw : swappedStores [.Tuple [.Name x px, .Name y py, .Name z pz] kt pt] (.Tuple [a, b, c] k2 pt2) X.env = pure (some [x, y, z]))
    (hs : swapsWithSole [.Tuple [.Name x px, .Name y py, .Name z pz] kt pt] (.Tuple [a, b, c] k2 pt2) pos.line X.env = pure false := by rfl) :
    JS X G W pin n (.Assign [.Tuple [.Name x px, .Name y py, .Name z pz] kt pt] (.Tuple [a, b, c] k2 pt2) pos) (mPar m (gsCons (gSet i) (gsCons (gSet j) (gsCons (gSet l) gsNil)))) := by
  refine ⟨ps_imp (ps_par3 hc hN hi hj hl hij hil hjl hx hy hz ha.pa hw hs) fun D σ H ⟨F, ρ, fr, g, hl', o⟩ => ?_⟩
  refine ha.seqS g hl' o fun rs ρ1 xs F1 H1 e1 s1 g1 a1 o1 => ?_
  split at o1
  · rename_i hn
    split at o1
    · rename_i ρ2 e2
      -- three values, three slots
      match rs, xs, a1, g1, e2, hn with
      | [r1, r2, r3], xs, a1, g1, e2, hn =>
        obtain ⟨v, xs1, rfl, _, a2⟩ := a1
        obtain ⟨w, xs2, rfl, _, a3⟩ := a2
        obtain ⟨u, xs3, rfl, _, a4⟩ := a3
        have a4' : xs3 = [] := a4
        subst a4'
        have hal : r1.al = false ∧ r2.al = false ∧ r3.al = false := by simpa [noAl] using hn
        have er : ∀ {r : Rz} {x : V}, r.al = false → r.ent x = [(r.d, r.t, x)] := fun h => if_neg (by rw [h]; exact Bool.false_ne_true)
        have g2 : Good G F1 H1 ((r1.d, r1.t, v) :: (r2.d, r2.t, w) :: (r3.d, r3.t, u) :: (ents ρ1 σ ++ fr)) := by
          have g0 : Good G F1 H1 ((r1.ent v ++ (r2.ent w ++ (r3.ent u ++ []))) ++ (ents ρ1 σ ++ fr)) := g1
          rw [er hal.1, er hal.2.1, er hal.2.2] at g0
          exact g0
        refine ⟨v, w, u, rfl, ?_⟩
        by_cases h1 : i < ρ1.length
        · by_cases h2 : j < ρ1.length
          · by_cases h3 : l < ρ1.length
            · simp [gsCons, gSet, gsNil, h1, h2, h3] at e2
              subst e2
              have g3 := (g2.perm ((perm_mid [(r2.d, r2.t, w), (r3.d, r3.t, u)] (ents ρ1 σ) fr).cons _)).store h1 (by rw [hl']; exact hni)
              have g4 : Good G F1 H1 ((r2.d, r2.t, w) :: (ents (ρ1.set i (some (r1.d, r1.t))) (σ.set i (some v)) ++ ((r3.d, r3.t, u) :: fr))) := g3.perm (perm_mid _ [(r2.d, r2.t, w)] _)
              have g5 := g4.store (i := j) (by rw [List.length_set]; exact h2) (by rw [List.length_set, hl']; exact hnj)
              have g6 := (g5.perm (perm_mid _ [(r3.d, r3.t, u)] fr)).store (i := l) (by simpa using h3) (by simpa [hl'] using hnl)
              refine o1 _ F1 H1 (.refl F1) ?_ g6
              exact ((Kept.set hl' hpi).trans (Kept.set (by rw [List.length_set]; exact hl') hpj)).trans (Kept.set (by simpa using hl') hpl)
            · simp [gsCons, gSet, gsNil, h1, h2, h3] at e2
          · simp [gsCons, gSet, gsNil, h1, h2] at e2
        · simp [gsCons, gSet, gsNil, h1] at e2
      | [], _, _, _, e2, _ => cases e2
      | [_], _, _, _, e2, _ => by_cases h1 : i < ρ1.length <;> simp [gsCons, gSet, gsNil, h1] at e2
      | [_, _], _, _, _, e2, _ => by_cases h1 : i < ρ1.length <;> by_cases h2 : j < ρ1.length <;> simp [gsCons, gSet, gsNil, h1, h2] at e2
      | _ :: _ :: _ :: _ :: _, _, _, _, e2, _ => by_cases h1 : i < ρ1.length <;> by_cases h2 : j < ρ1.length <;> by_cases h3 : l < ρ1.length <;> simp [gsCons, gSet, gsNil, h1, h2, h3] at e2
    · exact o1.elim
  · exact o1.elim
end
end Pb
end
/- S1 -/
section
set_option Elab.async false
set_option linter.all false
set_option maxRecDepth 100000
namespace Pb
open PySem PySem.Spec PyProof.Rows L2
theorem bo_sorted : bootBuiltins "sorted" = some (.builtin "sorted") := by decide +kernel

/-! ### sorting: insertion -/
def ins {α : Type} (le : α → α → Bool) (x : α) : List α → List α
  | [] => [x]
  | y :: r => if le x y = true then x :: y :: r else y :: ins le x r
def insS {α : Type} (le : α → α → Bool) : List α → List α
  | [] => []
  | x :: r => ins le x (insS le r)
section
variable {α : Type} {le : α → α → Bool}
theorem ins_mem {x y : α} : ∀ {l : List α}, y ∈ ins le x l → y = x ∨ y ∈ l
  | [], h => by simpa [ins] using h
  | z :: r, h => by
    unfold ins at h
    split at h
    · simpa using h
    · rcases List.mem_cons.mp h with h | h
      · exact .inr (by rw [h]; exact List.mem_cons_self)
      · exact (ins_mem h).imp id (List.mem_cons_of_mem _)
theorem ins_len {x : α} : ∀ {l : List α}, (ins le x l).length = l.length + 1
  | [] => rfl
  | z :: r => by
    unfold ins
    split
    · rfl
    · rw [List.length_cons, ins_len, List.length_cons]
theorem insS_len : ∀ {l : List α}, (insS le l).length = l.length
  | [] => rfl
  | z :: r => by
    unfold insS
    rw [ins_len, insS_len, List.length_cons]
theorem ins_pw (h : PySem.W.TotalLe le) {x : α} : ∀ {l : List α}, l.Pairwise (fun a b => le a b = true) → (ins le x l).Pairwise (fun a b => le a b = true)
  | [], _ => by simp [ins]
  | y :: r, p => by
    obtain ⟨p1, p2⟩ := List.pairwise_cons.mp p
    unfold ins
    split
    · rename_i q
      refine List.pairwise_cons.mpr ⟨fun z hz => ?_, p⟩
      rcases List.mem_cons.mp hz with e | hz
      · rw [e]; exact q
      · exact h.trans _ _ _ q (p1 z hz)
    · rename_i q
      refine List.pairwise_cons.mpr ⟨fun z hz => ?_, ins_pw h p2⟩
      rcases ins_mem hz with e | hz
      · rw [e]
        rcases h.total x y with t | t
        · exact absurd t q
        · exact t
      · exact p1 z hz
theorem ins_filter (h : PySem.W.TotalLe le) {x : α} (c : α) : ∀ {l : List α}, (ins le x l).filter (PySem.W.sameRank le c) = (x :: l).filter (PySem.W.sameRank le c)
  | [] => rfl
  | y :: r => by
    unfold ins
    split
    · rfl
    · rename_i q
      rw [List.filter_cons, ins_filter h c, List.filter_cons, List.filter_cons, List.filter_cons]
      by_cases hx : PySem.W.sameRank le c x = true
      · by_cases hy : PySem.W.sameRank le c y = true
        · exfalso
          unfold PySem.W.sameRank at hx hy
          rw [Bool.and_eq_true] at hx hy
          exact q (h.trans _ _ _ hx.2 hy.1)
        · rw [if_neg hy, if_neg hy]
      · rw [if_neg hx, if_neg hx]
theorem insS_eq (h : PySem.W.TotalLe le) (l : List α) : l.mergeSort le = insS le l := by
  have hp : (insS le l).Pairwise (fun a b => le a b = true) := by
    induction l with
    | nil => exact .nil
    | cons x l ih => exact ins_pw h ih
  have hf : ∀ c, (insS le l).filter (PySem.W.sameRank le c) = l.filter (PySem.W.sameRank le c) := by
    intro c
    clear hp
    induction l with
    | nil => rfl
    | cons x l ih =>
      show (ins le x (insS le l)).filter _ = _
      rw [ins_filter h c, List.filter_cons, List.filter_cons, ih]
  exact (PySem.W.sort_unique h hp hf).symm
end
def leD (a b : T) : Bool := !PySem.W.dataLt (toD b) (toD a)
theorem leD_is : PySem.W.dataLe false toD = leD := by
  rw [PySem.W.dataLe_eq]
  rfl
theorem leD_total : PySem.W.TotalLe leD := by
  rw [← leD_is]
  exact PySem.W.sortLe_total _ _ _
def isI : T → Bool
  | .int _ => true
  | _ => false
def isRow : T → Bool
  | .tup (x :: r) => (x :: r).all isI
  | .frt (x :: r) => (x :: r).all isI
  | _ => false
def isTupD : PyData → Bool
  | .tuple (_ :: _) => true
  | _ => false
def isOthD : PyData → Bool
  | .none => false
  | .tuple _ => false
  | _ => true
/-- a list that can be sorted -/
def sOk (ts : List T) : Bool := ts.all (dle 60) && (ts.all isI || ts.all isRow || ((ts.all fun t => isTupD (toD t)) || (ts.all fun t => isOthD (toD t))) && ts.all fun a => ts.all fun b => PySem.W.alike (toD a) (toD b))
theorem toDs_map (ts : List T) : toDs ts = ts.map toD := by
  induction ts with
  | nil => rfl
  | cons t ts ih => simp only [toDs, ih, List.map_cons]
theorem ints_of : ∀ {ts : List T}, ts.all isI = true → ∃ is : List Int, ts.map toD = is.map .int
  | [], _ => ⟨[], rfl⟩
  | t :: ts, h => by
    rw [List.all_cons, Bool.and_eq_true] at h
    obtain ⟨is, e⟩ := ints_of h.2
    cases t with
    | int i => exact ⟨i :: is, by simp [toD, e]⟩
    | _ => cases h.1
theorem row_of {t : T} (h : isRow t = true) : ∃ (i : Int) (is : List Int), toD t = .tuple ((i :: is).map .int) := by
  unfold isRow at h
  split at h
  · rename_i x r
    obtain ⟨is, e⟩ := ints_of h
    cases is with
    | nil => cases e
    | cons i is => exact ⟨i, is, by rw [← e]; simp only [toD, toDs_map]⟩
  · rename_i x r
    obtain ⟨is, e⟩ := ints_of h
    cases is with
    | nil => cases e
    | cons i is => exact ⟨i, is, by rw [← e]; simp only [toD, toDs_map]⟩
  · cases h
theorem sOk_all {ts : List T} (h : sOk ts = true) : PySem.W.AllAlike (ts.map toD) ∧ PySem.W.Sortable (ts.map toD) := by
  unfold sOk at h
  simp only [Bool.and_eq_true, Bool.or_eq_true] at h
  rcases h.2 with (h | h) | h
  · obtain ⟨is, e⟩ := ints_of h
    rw [e]
    refine ⟨fun d hd d' hd' => ?_, .inr fun d hd => ?_⟩
    · obtain ⟨i, _, rfl⟩ := List.mem_map.mp hd
      obtain ⟨j, _, rfl⟩ := List.mem_map.mp hd'
      rfl
    · obtain ⟨i, _, rfl⟩ := List.mem_map.mp hd
      exact ⟨(fun z => by cases z), (fun xs z => by cases z)⟩
  · refine ⟨fun d hd d' hd' => ?_, .inl fun d hd => ?_⟩
    · obtain ⟨t, ht, rfl⟩ := List.mem_map.mp hd
      obtain ⟨t', ht', rfl⟩ := List.mem_map.mp hd'
      obtain ⟨i, is, e⟩ := row_of (List.all_eq_true.mp h t ht)
      obtain ⟨j, js, e'⟩ := row_of (List.all_eq_true.mp h t' ht')
      rw [e, e']
      show PySem.W.alikeAll _ _ = true
      exact PySem.W.alike_ints (i :: is) (j :: js)
    · obtain ⟨t, ht, rfl⟩ := List.mem_map.mp hd
      obtain ⟨i, is, e⟩ := row_of (List.all_eq_true.mp h t ht)
      exact ⟨_, _, e⟩
  · refine ⟨fun d hd d' hd' => ?_, ?_⟩
    · obtain ⟨t, ht, rfl⟩ := List.mem_map.mp hd
      obtain ⟨t', ht', rfl⟩ := List.mem_map.mp hd'
      exact List.all_eq_true.mp (List.all_eq_true.mp h.2 t ht) t' ht'
    · rcases h.1 with h1 | h1
      · refine .inl fun d hd => ?_
        obtain ⟨t, ht, rfl⟩ := List.mem_map.mp hd
        have q := List.all_eq_true.mp h1 t ht
        unfold isTupD at q
        split at q
        · rename_i x r e; exact ⟨x, r, e⟩
        · cases q
      · refine .inr fun d hd => ?_
        obtain ⟨t, ht, rfl⟩ := List.mem_map.mp hd
        have q := List.all_eq_true.mp h1 t ht
        refine ⟨fun e => ?_, fun xs e => ?_⟩ <;> rw [e] at q <;> cases q

section
variable {X : Cx} {G : Gx} {W : WX}
theorem each_reps {F : Hp} : ∀ {ts : List T} {out : List Value}, PySem.W.EachIs (fun u t => ∃ x, RelV x u ∧ Rep G F t x) out ts → ∃ ys, Vals ys out ∧ Reps G F ts ys
  | _, _, .nil => ⟨[], .nil, rfl⟩
  | _, _, .cons ⟨x, r, p⟩ t => by
    obtain ⟨ys, a, b⟩ := each_reps t
    exact ⟨x :: ys, .cons r a, x, ys, rfl, p, b⟩
theorem reps_each {F : Hp} : ∀ {ts : List T} {xs : List V} {us : List Value}, Reps G F ts xs → Vals xs us → PySem.W.EachIs (fun u t => ∃ x, RelV x u ∧ Rep G F t x) us ts
  | [], xs, us, r, v => by
    have e : xs = [] := r
    subst e
    cases v
    exact .nil
  | t :: ts, xs, us, r, v => by
    obtain ⟨x, xr, rfl, a, b⟩ := r
    cases v with
    | cons v1 v2 => exact .cons ⟨x, v1, a⟩ (reps_each b v2)
theorem each_imp {α β : Type} {R R' : α → β → Prop} (P : β → Prop) : ∀ {as : List α} {bs : List β}, (∀ b ∈ bs, P b) → (∀ a b, P b → R a b → R' a b) → PySem.W.EachIs R as bs → PySem.W.EachIs R' as bs
  | _, _, _, _, .nil => .nil
  | _, _, hp, i, .cons h t => .cons (i _ _ (hp _ List.mem_cons_self) h) (each_imp P (fun b hb => hp b (List.mem_cons_of_mem _ hb)) i t)
def sorts (r : Rz) (ts : List T) : Option Rz := if sOk ts = true then some (ow (.lst (insS leD ts))) else none
theorem sorted_run {F H : Hp} {pins : List (Addr × Obj)} {s : Shared} {σ : SL} {a : Addr} {vs : List V} {ts : List T} {r' : Rz} {Q : VK} (hr : Rn X.A) (I : Inv X pins σ H s) (sF : Sub F H) (hq : SqL X.K H a vs) (hrp : Reps G F ts vs) (e : (if sOk ts = true then some (ow (.lst (insS leD ts))) else none) = some r') (hK : X.K = G.K)
    (q7 : ∀ z F' H', New G F H F' H' r'.d r'.t z → Q z H') : wpAny (model X.prog X.w) X.A (call (.builtin "sorted") [.ref a]) (EP X pins σ Q) X.xe s := by
  split at e
  · rename_i hok
    injection e with e
    subst e
    obtain ⟨its, rv, hl, hz⟩ := I.list hq
    have hd : ∀ t ∈ ts, dle 60 t = true := by
      unfold sOk at hok
      simp only [Bool.and_eq_true] at hok
      exact List.all_eq_true.mp hok.1
    have hlen : ts.length = vs.length := hrp.length
    obtain ⟨al, so⟩ := sOk_all hok
    have hun := hr.un
    have ea := reps_each hrp rv
    refine PySem.W.sorted_data (bs := ts) (enc := toD) (R := fun u t => ∃ x, RelV x u ∧ Rep G F t x) hl.isList ea ?_ al so (by rw [hlen, rv.length]; rw [← rv.length]; exact hz) (fun b hb => ?_) fun out ho eo => ?_
    · refine each_imp (fun t => dle 60 t = true) hd (fun u t ht ⟨x, r, p⟩ => ?_) ea
      obtain ⟨i1, _, _⟩ := dp_of (G := G) 60 t x ht (Rep.mono sF _ _ p)
      exact Dp.reads I _ _ _ (by rw [hK]; exact i1) r
    · have : (toD b).depth ≤ 60 := by
        obtain ⟨i, hi⟩ := List.getElem?_of_mem hb
        obtain ⟨x, _, h2⟩ := hrp.get hi
        exact (dp_of (G := G) 60 b x (hd b hb) (Rep.mono sF _ _ h2)).2.2
      omega
    · rw [leD_is, insS_eq leD_total] at eo
      obtain ⟨ys, hv, hy⟩ := each_reps eo
      obtain ⟨c, hc⟩ := PyProof.Rows.sortedAll_at s.heap its out.toArray
      refine ⟨.ref (s.heap.objs.size + 1), upd H (s.heap.objs.size + 1) (.lst ys), I.laid (t' := s.toks) (fun _ _ => PyProof.Rows.sortedAll_old) (Nat.le_succ _) ⟨?_, out, c, hv, hc⟩, rfl, q7 _ F _ (New.lst sF (I.hok.fresh (Nat.le_succ _)) hy)⟩
      rw [hv.length, ho, hlen]
      exact hz
  · cases e
theorem sqL_ext {K : PySem.W.Frag} {H H2 : Hp} {a : Addr} {vs : List V} (q : SqL K H a vs) (s : LamX.ExtN H H2) : SqL K H2 a vs := by
  rcases q with (q | ⟨o, q⟩) | q
  · exact .inl (.inl (s _ _ q (fun _ z => by cases z)))
  · exact .inl (.inr ⟨o, s _ _ q (fun _ z => by cases z)⟩)
  · exact .inr q
theorem sqT_ext {K : PySem.W.Frag} {H H2 : Hp} {a : Addr} {vs : List V} (q : SqT K H a vs) (s : LamX.ExtN H H2) : SqT K H2 a vs := by
  rcases q with (q | ⟨o, q⟩) | q
  · exact .inl (.inl (s _ _ q (fun _ z => by cases z)))
  · exact .inl (.inr ⟨o, s _ _ q (fun _ z => by cases z)⟩)
  · exact .inr q
/-! ### zip -/
def zipSeq (r : Rz) : Option (Bool × List T) := match r.t with
  | .lst ts => if r.d ≤ 1 then some (false, ts) else none
  | .frl ts => some (false, ts)
  | .tup ts => some (true, ts)
  | .frt ts => some (true, ts)
  | _ => none
def zipT (xs ys : List T) : List T := List.zipWith (fun x y => .tup [x, y]) xs ys
def mZip (m : MA) : MI := fun ρ => (m ρ).bindI fun rs ρ' => match rs with
  | [r1, r2] => match zipSeq r1, zipSeq r2 with
    | some (b1, xs), some (b2, ys) => if b1 = b2 then .ok true (zipT xs ys) ρ' else .no
    | _, _ => .no
  | _ => .no
theorem zip_seq {F H : Hp} (s : Sub F H) {r : Rz} {b : Bool} {ts : List T} {x : V} {as : List Addr} (e : zipSeq r = some (b, ts)) (p : Own G F H r.d r.t x as) :
    ∃ a vs, x = .ref a ∧ (if b = true then SqT G.K H a vs else SqL G.K H a vs) ∧ Reps G F ts vs ∧ ∀ H2, LamX.ExtN H H2 → (if b = true then SqT G.K H2 a vs else SqL G.K H2 a vs) := by
  unfold zipSeq at e
  split at e
  · rename_i zs et
    split at e
    · rename_i hd
      cases e
      rw [et] at p
      obtain ⟨a, vs, rfl, h1, h2, _⟩ := own_lst1 s hd p
      refine ⟨a, vs, rfl, .of h1, h2, fun H2 s2 => ?_⟩
      exact .of (s2 _ _ h1 noT_lst)
    · cases e
  · rename_i zs et
    cases e
    rw [et] at p
    obtain ⟨a, vs, rfl, h1, h2⟩ := own_frl p
    exact ⟨a, vs, rfl, sqL_mono s h1, h2, fun H2 s2 => sqL_ext (sqL_mono s h1) s2⟩
  · rename_i zs et
    cases e
    rw [et] at p
    obtain ⟨a, vs, rfl, h1, h2⟩ := own_tup p
    exact ⟨a, vs, rfl, sqT_mono s h1, h2, fun H2 s2 => sqT_ext (sqT_mono s h1) s2⟩
  · rename_i zs et
    cases e
    rw [et] at p
    obtain ⟨a, vs, rfl, h1, h2⟩ := own_frt p
    exact ⟨a, vs, rfl, sqT_mono s h1, h2, fun H2 s2 => sqT_ext (sqT_mono s h1) s2⟩
  · cases e
theorem zip_get {xs ys : List T} {i : Nat} {t : T} (h : (zipT xs ys)[i]? = some t) : ∃ a b, xs[i]? = some a ∧ ys[i]? = some b ∧ t = .tup [a, b] := by
  unfold zipT at h
  rw [List.getElem?_zipWith] at h
  cases e1 : xs[i]? with
  | none => rw [e1] at h; simp at h
  | some a =>
    cases e2 : ys[i]? with
    | none => rw [e1, e2] at h; simp at h
    | some b => rw [e1, e2] at h; exact ⟨a, b, rfl, rfl, by simpa using h.symm⟩
theorem zip_end {xs ys : List T} {i : Nat} (h : (zipT xs ys).length ≤ i) : xs.length ≤ i ∨ ys.length ≤ i := by
  unfold zipT at h
  rw [List.length_zipWith] at h
  omega
theorem walks_zipL {F B : Hp} {a b : Addr} {vs ws : List V} {xs ys : List T} (ha : ∀ H2, LamX.ExtN B H2 → SqL G.K H2 a vs) (hb : ∀ H2, LamX.ExtN B H2 → SqL G.K H2 b ws) (ra : Reps G F xs vs) (rb : Reps G F ys ws) : Walks G (Itz G.K a b) F B (zipT xs ys) := by
  intro i F2 H2 s1 s2 s3
  refine ⟨fun t ht => ?_, fun hl => ?_⟩
  · obtain ⟨p, q, e1, e2, rfl⟩ := zip_get ht
    obtain ⟨x, hx, rx⟩ := ra.get e1
    obtain ⟨y, hy, ry⟩ := rb.get e2
    refine ⟨⟨vs, ws, x, y, ha _ s2, hb _ s2, hx, hy⟩, fun z H3 hz => ?_⟩
    obtain ⟨T, x', y', rfl, hT, rfl, h1, h2⟩ := hz
    have i1 := h1 _ (ha _ s2)
    have i2 := h2 _ (hb _ s2)
    rw [hx] at i1; cases i1
    rw [hy] at i2; cases i2
    exact ⟨_, New.tup s3 hT ⟨x, [y], rfl, Rep.mono s1 _ _ rx, y, [], rfl, Rep.mono s1 _ _ ry, rfl⟩⟩
  · refine ⟨vs, ws, ha _ s2, hb _ s2, ?_⟩
    rw [← ra.length, ← rb.length]
    exact zip_end hl
theorem walks_zipT {F B : Hp} {a b : Addr} {vs ws : List V} {xs ys : List T} (ha : ∀ H2, LamX.ExtN B H2 → SqT G.K H2 a vs) (hb : ∀ H2, LamX.ExtN B H2 → SqT G.K H2 b ws) (ra : Reps G F xs vs) (rb : Reps G F ys ws) : Walks G (RZ.ItzT G.K a b) F B (zipT xs ys) := by
  intro i F2 H2 s1 s2 s3
  refine ⟨fun t ht => ?_, fun hl => ?_⟩
  · obtain ⟨p, q, e1, e2, rfl⟩ := zip_get ht
    obtain ⟨x, hx, rx⟩ := ra.get e1
    obtain ⟨y, hy, ry⟩ := rb.get e2
    refine ⟨⟨vs, ws, x, y, ha _ s2, hb _ s2, hx, hy⟩, fun z H3 hz => ?_⟩
    obtain ⟨T, x', y', rfl, hT, rfl, h1, h2⟩ := hz
    have i1 := h1 _ (ha _ s2)
    have i2 := h2 _ (hb _ s2)
    rw [hx] at i1; cases i1
    rw [hy] at i2; cases i2
    exact ⟨_, New.tup s3 hT ⟨x, [y], rfl, Rep.mono s1 _ _ rx, y, [], rfl, Rep.mono s1 _ _ ry, rfl⟩⟩
  · refine ⟨vs, ws, ha _ s2, hb _ s2, ?_⟩
    rw [← ra.length, ← rb.length]
    exact zip_end hl
theorem ri_zip {pu : Bool} {a b : Expr} {m : MA} {p pos tpos : Pos} {elts : List Expr} {kk : Nat} (hK : X.K = G.K) (hg : Gl X "zip") (hm : X.mg "zip" = none) (h : JA X G W pu [a, b] m)
    (hs : starEach [a, b] X.env = (false, eval a X.env) :: starEach [b] X.env := by rfl) (hpl : (backTo pos (starEach [b] X.env)).any (·.1) = false := by rfl) :
    JI X G W pu (.Tuple elts kk tpos) (.Call (.Name "zip" p) [a, b] [] pos) (mZip m) := by
  refine ⟨pi_imp (RZ.pi_zipA hg hm h.pa hs hpl) fun σ H R ⟨F, ρ, fr, g, o⟩ => ?_, fun z ρ al ts ρ' e => ?_⟩
  · refine h.seqI (pu := pu) g id o fun rs ρ1 xs F1 H1 e1 s1 p1 g1 a1 o1 => ?_
    split at o1
    · rename_i r1 r2
      split at o1
      · rename_i b1 ts1 b2 ts2 q1 q2
        split at o1
        · rename_i eb
          subst eb
          obtain ⟨x, xr, as, e, p, y, yr, bs, e2, q, e'⟩ := argd g1 a1
          have e' : yr = [] := e'
          subst e'
          subst e2
          obtain ⟨u, vs, rfl, z1, z2, z3⟩ := zip_seq g1.sub q1 p
          obtain ⟨v, ws, rfl, y1, y2, y3⟩ := zip_seq g1.sub q2 q
          refine ⟨u, v, vs, ws, e, ?_⟩
          cases b1 with
          | false =>
            refine .inl ⟨by rw [hK]; exact z1, by rw [hK]; exact y1, ?_⟩
            rw [hK]
            exact o1 _ F1 H1 s1 (fun z => (p1 z).1) g1.drop (walks_zipL z3 y3 z2 y2)
          | true =>
            refine .inr ⟨by rw [hK]; exact z1, by rw [hK]; exact y1, ?_⟩
            rw [hK]
            exact o1 _ F1 H1 s1 (fun z => (p1 z).1) g1.drop (walks_zipT z3 y3 z2 y2)
        · exact o1.elim
      · exact o1.elim
    · exact o1.elim
  · obtain ⟨rs, ρ1, e1, h'⟩ := OutA.bindI_ok e
    split at h'
    · split at h'
      · split at h'
        · cases h'; exact h.pure z _ _ _ e1
        · cases h'
      · cases h'
    · cases h'
end
end Pb
end
/- S2 -/
section
set_option Elab.async false
set_option linter.all false
set_option maxRecDepth 100000
namespace Pb
open PySem PySem.Calls PySem.W PyProof.Rows
section
variable {prog : Program} {w : World} {A : Around} {E : Value → Shared → Prop} {s : Shared}
/-! ### sorted of a tuple -/
theorem gather_tup {l : Addr} {vs : List Value} {Q : List Value → Shared → Prop} (hl : s.heap.IsTuple l vs.toArray) (hsz : vs.length ≤ sizeLine)
    (h : Q vs { s with heap := (s.heap.push (seqObj "list" #[] 0)).update s.heap.objs.size (Obj.mapSeq (· ++ vs.toArray)) }) : wpAny (model prog w) A (collect (.ref l)) Q E s := by
  obtain ⟨ob, get, cl, k, dat⟩ := id hl
  unfold collect; refine wpAny_bind (wpAny_runValue (codeAny_builtin entry_proto_collect' ?_))
  show wpAny _ _ (do
    again (.builtin "list.__iadd__" ⟨[← newList [], .ref l], []⟩)) _ _ s
  refine wpAny_bind (wpAny_newList (wpAny_pure ⟨Code.quiet_builtin _ (by decide +kernel),
    codeAny_builtin entry_list_iadd' ?_⟩))
  show wpAny _ _ (Builtin.List.listExtendWith (.ref s.heap.objs.size)
    (.ref l) (.ref s.heap.objs.size)) _ _ { s with heap := s.heap.push (seqObj "list" #[] 0) }
  unfold Builtin.List.listExtendWith; have got : (s.heap.push (seqObj "list" #[] 0)).get? l = some ob := Heap.get?_push_of_some _ get
  refine wpAny_bind (wpAny_typeOf (T := "tuple") ⟨ob, got, cl⟩ ?_)
  have tt : (Value.type "tuple" == Value.type "tuple") = true := rfl
  rw [if_pos (by rw [tt]; simp)]; refine wpAny_bind (listItems_at got dat ?_)
  refine wpAny_bind (listItems_at (n := 0) (xs := #[])
    (Heap.get?_push_size _ rfl) rfl ?_)
  rw [if_neg (by simp)]; refine wpAny_bind (listUpdate_at (n := 0) (xs := #[]) (Heap.get?_push_size _ rfl) rfl ?_ (Nat.zero_le _) (by show (#[] ++ vs.toArray).size ≤ sizeLine + 1; simp only [Array.size_append, List.size_toArray, List.length_nil]; omega))
  refine wpAny_pure ?_; show wpAny (model prog w) A (do
    let o ← load s.heap.objs.size
    match o.data with
    | .seq xs _ => pure xs.toList
    | _ => unsupported "internal:collect") Q E { s with heap := (s.heap.push (seqObj "list" #[] 0)).update s.heap.objs.size (Obj.mapSeq (· ++ vs.toArray)) }
  refine wpAny_bind (wpAny_load (get?_update_seq
    (Heap.get?_push_size _ rfl) _) ?_)
  show wpAny _ _ (pure (((#[] : Array Value) ++ vs.toArray).toList)) Q E _
  have e : ((#[] : Array Value) ++ vs.toArray).toList = vs := by simp
  rw [e]; exact wpAny_pure h
theorem sortedT_body {l : Addr} {vs : List Value} {Q : Value → Shared → Prop} (hl : s.heap.IsTuple l vs.toArray) (hL : vs.length ≤ sizeLine)
    (body : ∀ E' : Value → Shared → Prop, wpAny (model prog w) A.in1.in1 (Builtin.«list.sort» ⟨[.ref (s.heap.objs.size + 1)], []⟩) (fun f z => f = .done (.ret .none) ∧ Q (.ref (s.heap.objs.size + 1)) z) E' { s with heap := copyHeap s.heap vs }) :
    wpAny (model prog w) A (call (.builtin "sorted") [.ref l]) Q E s := by
  refine call_function_entry_kw kind_sorted plain_sorted entry_sorted (args_sorted1 _) ?_
  unfold Builtin.«sorted»; refine wpAny_bind (m := checkCount "sorted" 1 1 _) (wpAny_pure ?_)
  refine wpAny_bind (gather_tup hl hL ?_)
  refine wpAny_bind (wpAny_newList ?_ hL); have sz : ((s.heap.push (seqObj "list" #[] 0)).update s.heap.objs.size (Obj.mapSeq (· ++ vs.toArray))).objs.size = s.heap.objs.size + 1 := by rw [Heap.size_update, size_push']
  show wpAny _ _ _ _ _ { s with heap := (copyHeap s.heap vs) }
  rw [sz]; refine wpAny_bind (wpAny_holding (wpAny_call_entry_kw slot_list_sort ⟨_, copyHeap_at s.heap vs, rfl⟩ entry_list_sort ?go (args_list_sort _)))
  case go =>
    show wpAny (model prog w) A.in1.in1
      (Builtin.«list.sort» ⟨[.ref (s.heap.objs.size + 1)], []⟩) _ _ _
    refine wpAny_mono (body _) (fun f z hf => ?_) (fun _ _ e => e)
    obtain ⟨rfl, q⟩ := hf
    exact ⟨_, rfl, wpAny_pure ⟨_, rfl, q⟩⟩
theorem sortedT_data {β : Type} {vs : List Value} {bs : List β} {enc : β → PyData} {R : Value → β → Prop} {l : Addr} {Q : Value → Shared → Prop} (hl : s.heap.IsTuple l vs.toArray) (e : EachIs R vs bs) (er : EachIs (fun v b => ∃ as, Reads s.heap v (enc b) as) vs bs) (hal : AllAlike (bs.map enc)) (hk : Sortable (bs.map enc)) (hL : bs.length ≤ sizeLine)
    (hu : ∀ b, b ∈ bs → A.units + 2 + (enc b).depth < cLine) (h : ∀ out, out.length = bs.length → EachIs R out (bs.mergeSort (dataLe false enc)) → Q (.ref (s.heap.objs.size + 1)) { s with heap := sortedAll s.heap vs (List.toArray out) }) : wpAny (model prog w) A (call (.builtin "sorted") [.ref l]) Q E s := by
  have hv : vs.length ≤ sizeLine := by rw [e.length]; exact hL
  have er2 : EachIs (fun v b => ∃ as, Reads (sortingHeap (copyHeap s.heap vs) (s.heap.objs.size + 1) vs) v (enc b) as) vs bs := er.mono fun _ _ ⟨as, r⟩ => ⟨as, PyProof.Rows.Reads.keeps (fun _ _ => sorting_copy_old) r⟩
  refine sortedT_body hl hv fun _ => list_sort_vals (κ := dataKind (sortingHeap (copyHeap s.heap vs) (s.heap.objs.size + 1) vs) (bs.map enc)) (s := { s with heap := copyHeap s.heap vs }) (copyHeap_at s.heap vs) ?_ hv ⟨rfl, ?_⟩
  · exact SortsAt.data (s := { s with heap := sortingHeap (copyHeap s.heap vs) (s.heap.objs.size + 1) vs }) (each_map (R := fun v d => ∃ as, Reads (sortingHeap (copyHeap s.heap vs) (s.heap.objs.size + 1) vs) v d as) enc er2) hal hk (bound_map hu)
  · refine h _ ?_ (sortVals_data false e er2 hal)
    rw [sortVals_length false rfl]; exact e.length
end

section
open PySem.Spec L2
variable {X : Cx} {G : Gx} {W : WX}
theorem sorted_runT {F H : Hp} {pins : List (Addr × Obj)} {s : Shared} {σ : SL} {a : Addr} {vs : List V} {ts : List T} {r' : Rz} {Q : VK} (hr : Rn X.A) (I : Inv X pins σ H s) (sF : Sub F H) (hq : SqT X.K H a vs) (hrp : Reps G F ts vs) (e : (if sOk ts = true then some (ow (.lst (insS leD ts))) else none) = some r') (hK : X.K = G.K)
    (q7 : ∀ z F' H', New G F H F' H' r'.d r'.t z → Q z H') : wpAny (model X.prog X.w) X.A (call (.builtin "sorted") [.ref a]) (EP X pins σ Q) X.xe s := by
  split at e
  · rename_i hok
    injection e with e
    subst e
    obtain ⟨its, rv, hl, hz⟩ := I.tuple hq
    have hd : ∀ t ∈ ts, dle 60 t = true := by
      unfold sOk at hok
      simp only [Bool.and_eq_true] at hok
      exact List.all_eq_true.mp hok.1
    have hlen : ts.length = vs.length := hrp.length
    obtain ⟨al, so⟩ := sOk_all hok
    have hun := hr.un
    have ea := reps_each hrp rv
    refine sortedT_data (bs := ts) (enc := toD) (R := fun u t => ∃ x, RelV x u ∧ Rep G F t x) hl ea ?_ al so (by rw [hlen, rv.length]; rw [← rv.length]; exact hz) (fun b hb => ?_) fun out ho eo => ?_
    · refine each_imp (fun t => dle 60 t = true) hd (fun u t ht ⟨x, r, p⟩ => ?_) ea
      obtain ⟨i1, _, _⟩ := dp_of (G := G) 60 t x ht (Rep.mono sF _ _ p)
      exact Dp.reads I _ _ _ (by rw [hK]; exact i1) r
    · have : (toD b).depth ≤ 60 := by
        obtain ⟨i, hi⟩ := List.getElem?_of_mem hb
        obtain ⟨x, _, h2⟩ := hrp.get hi
        exact (dp_of (G := G) 60 b x (hd b hb) (Rep.mono sF _ _ h2)).2.2
      omega
    · rw [leD_is, insS_eq leD_total] at eo
      obtain ⟨ys, hv, hy⟩ := each_reps eo
      obtain ⟨c, hc⟩ := PyProof.Rows.sortedAll_at s.heap its out.toArray
      refine ⟨.ref (s.heap.objs.size + 1), upd H (s.heap.objs.size + 1) (.lst ys), I.laid (t' := s.toks) (fun _ _ => PyProof.Rows.sortedAll_old) (Nat.le_succ _) ⟨?_, out, c, hv, hc⟩, rfl, q7 _ F _ (New.lst sF (I.hok.fresh (Nat.le_succ _)) hy)⟩
      rw [hv.length, ho, hlen]
      exact hz
  · cases e

def kSorted : List Rz → Option Rz := fun rs => match rs with
  | [r] => match r.t with
    | .lst ts => if r.d ≤ 1 then sorts r ts else none
    | .frl ts => sorts r ts
    | .tup ts => sorts r ts
    | .frt ts => sorts r ts
    | _ => none
  | _ => none
theorem o_sorted (hK : X.K = G.K) (hr : Rn X.A) : OpN X G (.builtin "sorted") kSorted := by
  intro pins s σ H F xs us rs r' Q I rx q1 q2 q3 q5 q6 q7
  unfold kSorted at q5
  split at q5
  · rename_i r
    obtain ⟨x, as, rfl, p⟩ := q3.one
    split at q5
    · rename_i ts et
      split at q5
      · rename_i hd
        rw [et] at p
        obtain ⟨b, vs, rfl, h1, h2, _⟩ := own_lst1 q1 hd p
        obtain ⟨u, rfl, ru⟩ := vals1 rx
        obtain rfl : u = Value.ref b := ru
        exact sorted_run (G := G) hr I q1 (.of h1) h2 q5 hK q7
      · cases q5
    · rename_i ts et
      rw [et] at p
      obtain ⟨b, vs, rfl, h1, h2⟩ := own_frl p
      obtain ⟨u, rfl, ru⟩ := vals1 rx
      obtain rfl : u = Value.ref b := ru
      exact sorted_run (G := G) hr I q1 (by rw [hK]; exact sqL_mono q1 h1) h2 q5 hK q7
    · rename_i ts et
      rw [et] at p
      obtain ⟨b, vs, rfl, h1, h2⟩ := own_tup p
      obtain ⟨u, rfl, ru⟩ := vals1 rx
      obtain rfl : u = Value.ref b := ru
      exact sorted_runT (G := G) hr I q1 (by rw [hK]; exact sqT_mono q1 h1) h2 q5 hK q7
    · rename_i ts et
      rw [et] at p
      obtain ⟨b, vs, rfl, h1, h2⟩ := own_frt p
      obtain ⟨u, rfl, ru⟩ := vals1 rx
      obtain rfl : u = Value.ref b := ru
      exact sorted_runT (G := G) hr I q1 (by rw [hK]; exact sqT_mono q1 h1) h2 q5 hK q7
    · cases q5
  · cases q5

/-- a tuple k times -/
def gRepT : Rz → Rz → Option Rz := fun a b => match a.t, b.t with
  | .tup xs, .int k => if (!xs.isEmpty && decide (2 ≤ k) && decide (k ≤ 1000) && decide (xs.length ≤ 1000)) = true then some (fz (.tup (List.replicate k.toNat xs).flatten)) else none
  | _, _ => none
theorem o_repT (hK : X.K = G.K) : Op2 X G (binaryOp .Mult) gRepT := by
  intro pins s σ H F x y v u r1 r2 r as bs Q I rx ry q1 q2 q3 q4 q5 q6 q7
  unfold gRepT at q5
  split at q5
  · rename_i xs k e1 e2
    split at q5
    · rename_i h
      simp only [Bool.and_eq_true, Bool.not_eq_true', decide_eq_true_eq] at h
      injection q5 with q5
      subst q5
      rw [e1] at q3
      rw [e2] at q4
      obtain ⟨a, vs, rfl, ha, ra⟩ := own_tup q3
      have hl := ra.length
      refine L2.op_repT pins s σ H _ _ v u Q I rx ry ⟨a, k, vs, rfl, own_int q4, by rw [hK]; exact sqT_mono q1 ha, ?_, h.1.1.2, h.1.2, by omega, fun p hp => ?_⟩
      · intro z
        rw [z] at hl
        have : xs = [] := List.length_eq_zero_iff.mp hl
        rw [this] at h
        exact absurd h.1.1.1 (by simp)
      · exact q7 _ _ _ (New.tup q1 hp (reps_rep ra k.toNat))
    · cases q5
  · cases q5
def oMulT : Rz → Rz → Option Rz := orG2 oMul gRepT
theorem o_mulT (hK : X.K = G.K) : Op2 X G (binaryOp .Mult) oMulT := o_mul.or (o_repT hK)
end
end Pb
end
/- K05 -/
section
set_option Elab.async false
set_option linter.all false
set_option maxRecDepth 100000
set_option maxHeartbeats 2000000
namespace Pk05
open PySem PySem.Spec PyProof.Rows L2 Pb
abbrev pw : Program := PySem.Challenge.pw_pairblocks_k05_whole_numbers_that_famili
def topS (i : Nat) : Stmt := PySem.Challenge.pw_pairblocks_k05_whole_numbers_that_famili.main.body.getD i (.Pass ⟨0, 0, 0, 0⟩)
def clsB (s : Stmt) : List Stmt := match s with
  | .ClassDef (body := b) .. => b
  | _ => []
abbrev s__law_draw : Stmt := topS 18
abbrev N__law_draw : List Str := ["hand", "many", "cell", "digit", "number"]
theorem sc__law_draw : FnScope N__law_draw ["hand", "many"] (defScope s__law_draw) := ⟨rfl, rfl, rfl, by decide +kernel, rfl, by decide +kernel, by decide +kernel⟩
abbrev s__law_any : Stmt := topS 19
abbrev N__law_any : List Str := ["hand", "some"]
theorem sc__law_any : FnScope N__law_any ["hand", "some"] (defScope s__law_any) := ⟨rfl, rfl, rfl, by decide +kernel, rfl, by decide +kernel, by decide +kernel⟩
abbrev s__law_differences : Stmt := topS 24
abbrev N__law_differences : List Str := ["row", "found", "one", "other"]
theorem sc__law_differences : FnScope N__law_differences ["row"] (defScope s__law_differences) := ⟨rfl, rfl, rfl, by decide +kernel, rfl, by decide +kernel, by decide +kernel⟩
abbrev s__law_lots : Stmt := topS 20
abbrev N__law_lots : List Str := ["points", "found", "point", "lot"]
theorem sc__law_lots : FnScope N__law_lots ["points"] (defScope s__law_lots) := ⟨rfl, rfl, rfl, by decide +kernel, rfl, by decide +kernel, by decide +kernel⟩
abbrev s__law_even : Stmt := topS 21
abbrev N__law_even : List Str := ["hand", "fano", "sized", "points", "size", "whole", "nine", "some", "others", "at", "lot", "by", "point"]
theorem sc__law_even : FnScope N__law_even ["hand"] (defScope s__law_even) := ⟨rfl, rfl, rfl, by decide +kernel, rfl, by decide +kernel, by decide +kernel⟩
abbrev s_is_integer : Stmt := topS 1
abbrev N_is_integer : List Str := ["thing"]
theorem sc_is_integer : FnScope N_is_integer ["thing"] (defScope s_is_integer) := ⟨rfl, rfl, rfl, by decide +kernel, rfl, by decide +kernel, by decide +kernel⟩
abbrev s_is_within : Stmt := topS 2
abbrev N_is_within : List Str := ["thing", "least", "most"]
theorem sc_is_within : FnScope N_is_within ["thing", "least", "most"] (defScope s_is_within) := ⟨rfl, rfl, rfl, by decide +kernel, rfl, by decide +kernel, by decide +kernel⟩
abbrev s_check_numbers : Stmt := topS 11
abbrev N_check_numbers : List Str := ["points", "size", "many", "told"]
theorem sc_check_numbers : FnScope N_check_numbers ["points", "size", "many", "told"] (defScope s_check_numbers) := ⟨rfl, rfl, rfl, by decide +kernel, rfl, by decide +kernel, by decide +kernel⟩
abbrev s_choose : Stmt := topS 7
abbrev N_choose : List Str := ["many", "some", "top", "bottom", "at"]
theorem sc_choose : FnScope N_choose ["many", "some"] (defScope s_choose) := ⟨rfl, rfl, rfl, by decide +kernel, rfl, by decide +kernel, by decide +kernel⟩
abbrev s_shares_by : Stmt := topS 10
abbrev N_shares_by : List Str := ["points", "size", "many", "told", "found", "less", "top", "bottom"]
theorem sc_shares_by : FnScope N_shares_by ["points", "size", "many", "told"] (defScope s_shares_by) := ⟨rfl, rfl, rfl, by decide +kernel, rfl, by decide +kernel, by decide +kernel⟩
abbrev s_shares : Stmt := topS 12
abbrev N_shares : List Str := ["points", "size", "many", "told"]
theorem sc_shares : FnScope N_shares ["points", "size", "many", "told"] (defScope s_shares) := ⟨rfl, rfl, rfl, by decide +kernel, rfl, by decide +kernel, by decide +kernel⟩
abbrev s_is_fisher : Stmt := topS 14
abbrev N_is_fisher : List Str := ["points", "size", "many", "found"]
theorem sc_is_fisher : FnScope N_is_fisher ["points", "size", "many"] (defScope s_is_fisher) := ⟨rfl, rfl, rfl, by decide +kernel, rfl, by decide +kernel, by decide +kernel⟩
abbrev s_outside_counts : Stmt := topS 13
abbrev N_outside_counts : List Str := ["points", "size", "many", "told", "found", "rows", "ahead", "one", "other"]
theorem sc_outside_counts : FnScope N_outside_counts ["points", "size", "many", "told"] (defScope s_outside_counts) := ⟨rfl, rfl, rfl, by decide +kernel, rfl, by decide +kernel, by decide +kernel⟩
abbrev s__law_family_right : Stmt := topS 27
abbrev N__law_family_right : List Str := ["hand", "points", "blocks", "size", "many", "row", "rows", "out", "inside", "some", "left", "lot", "point"]
theorem sc__law_family_right : FnScope N__law_family_right ["hand"] (defScope s__law_family_right) := ⟨rfl, rfl, rfl, by decide +kernel, rfl, by decide +kernel, by decide +kernel⟩
abbrev s__law_over : Stmt := topS 22
abbrev N__law_over : List Str := ["many", "few", "found", "at"]
theorem sc__law_over : FnScope N__law_over ["many", "few"] (defScope s__law_over) := ⟨rfl, rfl, rfl, by decide +kernel, rfl, by decide +kernel, by decide +kernel⟩
abbrev s__law_shares : Stmt := topS 23
abbrev N__law_shares : List Str := ["points", "size", "many", "told", "found", "i", "top", "bottom"]
theorem sc__law_shares : FnScope N__law_shares ["points", "size", "many", "told"] (defScope s__law_shares) := ⟨rfl, rfl, rfl, by decide +kernel, rfl, by decide +kernel, by decide +kernel⟩
abbrev s__law_fisher : Stmt := topS 26
abbrev N__law_fisher : List Str := ["points", "size", "many", "told", "row"]
theorem sc__law_fisher : FnScope N__law_fisher ["points", "size", "many"] (defScope s__law_fisher) := ⟨rfl, rfl, rfl, by decide +kernel, rfl, by decide +kernel, by decide +kernel⟩
abbrev s__law_hand : Stmt := topS 17
abbrev N__law_hand : List Str := ["script", "number_row", "cell"]
theorem sc__law_hand : FnScope N__law_hand ["script"] (defScope s__law_hand) := ⟨rfl, rfl, rfl, by decide +kernel, rfl, by decide +kernel, by decide +kernel⟩
abbrev s__law_is_refused : Stmt := topS 25
abbrev N__law_is_refused : List Str := ["call", "error"]
theorem sc__law_is_refused : FnScope N__law_is_refused ["call"] (defScope s__law_is_refused) := ⟨rfl, rfl, rfl, by decide +kernel, rfl, by decide +kernel, by decide +kernel⟩
abbrev s_is_square_family : Stmt := topS 15
abbrev N_is_square_family : List Str := ["points", "size", "many"]
theorem sc_is_square_family : FnScope N_is_square_family ["points", "size", "many"] (defScope s_is_square_family) := ⟨rfl, rfl, rfl, by decide +kernel, rfl, by decide +kernel, by decide +kernel⟩
abbrev s_law : Stmt := topS 28
abbrev N_law : List Str := ["script", "hand", "turn", "points", "size", "many", "told", "due", "rows", "every", "bad"]
theorem sc_law : FnScope N_law ["script"] (defScope s_law) := ⟨rfl, rfl, rfl, by decide +kernel, rfl, by decide +kernel, by decide +kernel⟩
abbrev i_NoNumber : Stmt := (clsB (topS 5)).getD 0 (.Pass ⟨0, 0, 0, 0⟩)
abbrev t_NoNumber : Stmt := (defBody i_NoNumber).getD 0 (.Pass ⟨0, 0, 0, 0⟩)
theorem xa_NoNumber : Pe.TxtA "NoNumber.__init__" (defArgs i_NoNumber) [t_NoNumber] (defScope i_NoNumber) "self" := ⟨⟨_, rfl, rfl⟩, rfl, rfl, rfl, rfl, rfl, rfl, by decide +kernel⟩
theorem xs_NoNumber : Pe.SupAt [t_NoNumber] (defScope i_NoNumber) "NoNumber.__init__" t_NoNumber := ⟨_, _, _, _, _, _, _, _, rfl, fun _ _ _ _ => ⟨rfl, _, rfl⟩⟩
theorem xb_NoNumber : ∀ (fd : FuncData) (x : Addr), fd.params = defArgs i_NoNumber → fd.defaults = .none → bindArgs fd ⟨[.ref x], []⟩ = pure [(("self" : Str), Value.ref x)] := fun fd x e e2 => by cases fd; cases e; cases e2; rfl
/-- what the top has written -/
structure Tx (G : Gx) (mg : Str → Option Value) where
  f__law_draw : Addr
  fd__law_draw : FuncData
  F__law_draw : Fun G.K "_law_draw" "_law_draw" s__law_draw f__law_draw fd__law_draw
  g__law_draw : mg "_law_draw" = some (.ref f__law_draw)
  b__law_draw : Binds G.K fd__law_draw ["hand", "many"] []
  f__law_any : Addr
  fd__law_any : FuncData
  F__law_any : Fun G.K "_law_any" "_law_any" s__law_any f__law_any fd__law_any
  g__law_any : mg "_law_any" = some (.ref f__law_any)
  b__law_any : Binds G.K fd__law_any ["hand", "some"] []
  f__law_differences : Addr
  fd__law_differences : FuncData
  F__law_differences : Fun G.K "_law_differences" "_law_differences" s__law_differences f__law_differences fd__law_differences
  g__law_differences : mg "_law_differences" = some (.ref f__law_differences)
  b__law_differences : Binds G.K fd__law_differences ["row"] []
  f__law_lots : Addr
  fd__law_lots : FuncData
  F__law_lots : Fun G.K "_law_lots" "_law_lots" s__law_lots f__law_lots fd__law_lots
  g__law_lots : mg "_law_lots" = some (.ref f__law_lots)
  b__law_lots : Binds G.K fd__law_lots ["points"] []
  f__law_even : Addr
  fd__law_even : FuncData
  F__law_even : Fun G.K "_law_even" "_law_even" s__law_even f__law_even fd__law_even
  g__law_even : mg "_law_even" = some (.ref f__law_even)
  b__law_even : Binds G.K fd__law_even ["hand"] []
  f_is_integer : Addr
  fd_is_integer : FuncData
  F_is_integer : Fun G.K "is_integer" "is_integer" s_is_integer f_is_integer fd_is_integer
  g_is_integer : mg "is_integer" = some (.ref f_is_integer)
  b_is_integer : Binds G.K fd_is_integer ["thing"] []
  f_is_within : Addr
  fd_is_within : FuncData
  F_is_within : Fun G.K "is_within" "is_within" s_is_within f_is_within fd_is_within
  g_is_within : mg "is_within" = some (.ref f_is_within)
  b_is_within : Binds G.K fd_is_within ["thing", "least", "most"] []
  f_check_numbers : Addr
  fd_check_numbers : FuncData
  F_check_numbers : Fun G.K "check_numbers" "check_numbers" s_check_numbers f_check_numbers fd_check_numbers
  g_check_numbers : mg "check_numbers" = some (.ref f_check_numbers)
  b_check_numbers : Binds G.K fd_check_numbers ["points", "size", "many", "told"] []
  f_choose : Addr
  fd_choose : FuncData
  F_choose : Fun G.K "choose" "choose" s_choose f_choose fd_choose
  g_choose : mg "choose" = some (.ref f_choose)
  b_choose : Binds G.K fd_choose ["many", "some"] []
  f_shares_by : Addr
  fd_shares_by : FuncData
  F_shares_by : Fun G.K "shares_by" "shares_by" s_shares_by f_shares_by fd_shares_by
  g_shares_by : mg "shares_by" = some (.ref f_shares_by)
  b_shares_by : Binds G.K fd_shares_by ["points", "size", "many", "told"] []
  f_shares : Addr
  fd_shares : FuncData
  F_shares : Fun G.K "shares" "shares" s_shares f_shares fd_shares
  g_shares : mg "shares" = some (.ref f_shares)
  b_shares : Binds G.K fd_shares ["points", "size", "many", "told"] []
  f_is_fisher : Addr
  fd_is_fisher : FuncData
  F_is_fisher : Fun G.K "is_fisher" "is_fisher" s_is_fisher f_is_fisher fd_is_fisher
  g_is_fisher : mg "is_fisher" = some (.ref f_is_fisher)
  b_is_fisher : Binds G.K fd_is_fisher ["points", "size", "many"] []
  f_outside_counts : Addr
  fd_outside_counts : FuncData
  F_outside_counts : Fun G.K "outside_counts" "outside_counts" s_outside_counts f_outside_counts fd_outside_counts
  g_outside_counts : mg "outside_counts" = some (.ref f_outside_counts)
  b_outside_counts : Binds G.K fd_outside_counts ["points", "size", "many", "told"] []
  f__law_family_right : Addr
  fd__law_family_right : FuncData
  F__law_family_right : Fun G.K "_law_family_right" "_law_family_right" s__law_family_right f__law_family_right fd__law_family_right
  g__law_family_right : mg "_law_family_right" = some (.ref f__law_family_right)
  b__law_family_right : Binds G.K fd__law_family_right ["hand"] []
  f__law_over : Addr
  fd__law_over : FuncData
  F__law_over : Fun G.K "_law_over" "_law_over" s__law_over f__law_over fd__law_over
  g__law_over : mg "_law_over" = some (.ref f__law_over)
  b__law_over : Binds G.K fd__law_over ["many", "few"] []
  f__law_shares : Addr
  fd__law_shares : FuncData
  F__law_shares : Fun G.K "_law_shares" "_law_shares" s__law_shares f__law_shares fd__law_shares
  g__law_shares : mg "_law_shares" = some (.ref f__law_shares)
  b__law_shares : Binds G.K fd__law_shares ["points", "size", "many", "told"] []
  f__law_fisher : Addr
  fd__law_fisher : FuncData
  F__law_fisher : Fun G.K "_law_fisher" "_law_fisher" s__law_fisher f__law_fisher fd__law_fisher
  g__law_fisher : mg "_law_fisher" = some (.ref f__law_fisher)
  b__law_fisher : Binds G.K fd__law_fisher ["points", "size", "many"] []
  f__law_hand : Addr
  fd__law_hand : FuncData
  F__law_hand : Fun G.K "_law_hand" "_law_hand" s__law_hand f__law_hand fd__law_hand
  g__law_hand : mg "_law_hand" = some (.ref f__law_hand)
  b__law_hand : Binds G.K fd__law_hand ["script"] []
  f__law_is_refused : Addr
  fd__law_is_refused : FuncData
  F__law_is_refused : Fun G.K "_law_is_refused" "_law_is_refused" s__law_is_refused f__law_is_refused fd__law_is_refused
  g__law_is_refused : mg "_law_is_refused" = some (.ref f__law_is_refused)
  b__law_is_refused : Binds G.K fd__law_is_refused ["call"] []
  f_is_square_family : Addr
  fd_is_square_family : FuncData
  F_is_square_family : Fun G.K "is_square_family" "is_square_family" s_is_square_family f_is_square_family fd_is_square_family
  g_is_square_family : mg "is_square_family" = some (.ref f_is_square_family)
  b_is_square_family : Binds G.K fd_is_square_family ["points", "size", "many"] []
  f_law : Addr
  fd_law : FuncData
  F_law : Fun G.K "law" "law" s_law f_law fd_law
  g_law : mg "law" = some (.ref f_law)
  b_law : Binds G.K fd_law ["script"] []
  z_ValueError : mg "ValueError" = none
  z_abs : mg "abs" = none
  z_all : mg "all" = none
  z_any : mg "any" = none
  z_bool : mg "bool" = none
  z_int : mg "int" = none
  z_isinstance : mg "isinstance" = none
  z_len : mg "len" = none
  z_min : mg "min" = none
  z_range : mg "range" = none
  z_repr : mg "repr" = none
  z_sorted : mg "sorted" = none
  z_tuple : mg "tuple" = none
  z_zip : mg "zip" = none
  C_BlockError : Addr
  k_BlockError : G.cls "BlockError" = some C_BlockError
  c_BlockError : mg "BlockError" = some (.ref C_BlockError)
  C_NoNumber : Addr
  k_NoNumber : G.cls "NoNumber" = some C_NoNumber
  c_NoNumber : mg "NoNumber" = some (.ref C_NoNumber)
  I_NoNumber : Addr
  e_NoNumber : Pe.ExC pw G.K mg C_NoNumber I_NoNumber "NoNumber.__init__" (defArgs i_NoNumber) [t_NoNumber] (defScope i_NoNumber)
  v_MOST_SIZE : ∃ t, mg "MOST_SIZE" = some (.int 6 t)
  x_NoNumber : PySem.W.exmOne G.K (.ref C_NoNumber) (.ref C_BlockError) = some true
  ec_NoNumber : ExcC G.K C_NoNumber
  qv_NoNumber : PySem.W.kitOne G.K (.ref C_NoNumber) (.type "ValueError") = some true
  q_NoNumber_NoNumber : PySem.W.kitOne G.K (.ref C_NoNumber) (.ref C_NoNumber) = some true
  cc_law : Addr
  tt_law : Addr
  code_law : fd_law.code = .ref cc_law
  tin_law : (tt_law, ("law" : Str) ++ ".<locals>." ++ "<lambda>") ∈ G.tabs
  tun_law : ∀ p ∈ G.tabs, p.1 = tt_law → p.2 = ("law" : Str) ++ ".<locals>." ++ "<lambda>"
def Tx.err {G : Gx} {mg : Str → Option Value} (T : Tx G mg) (z : Addr × Pb.T × Option Addr) : Tx (G.err z) mg where
  f__law_draw := T.f__law_draw
  fd__law_draw := T.fd__law_draw
  F__law_draw := T.F__law_draw
  g__law_draw := T.g__law_draw
  b__law_draw := T.b__law_draw
  f__law_any := T.f__law_any
  fd__law_any := T.fd__law_any
  F__law_any := T.F__law_any
  g__law_any := T.g__law_any
  b__law_any := T.b__law_any
  f__law_differences := T.f__law_differences
  fd__law_differences := T.fd__law_differences
  F__law_differences := T.F__law_differences
  g__law_differences := T.g__law_differences
  b__law_differences := T.b__law_differences
  f__law_lots := T.f__law_lots
  fd__law_lots := T.fd__law_lots
  F__law_lots := T.F__law_lots
  g__law_lots := T.g__law_lots
  b__law_lots := T.b__law_lots
  f__law_even := T.f__law_even
  fd__law_even := T.fd__law_even
  F__law_even := T.F__law_even
  g__law_even := T.g__law_even
  b__law_even := T.b__law_even
  f_is_integer := T.f_is_integer
  fd_is_integer := T.fd_is_integer
  F_is_integer := T.F_is_integer
  g_is_integer := T.g_is_integer
  b_is_integer := T.b_is_integer
  f_is_within := T.f_is_within
  fd_is_within := T.fd_is_within
  F_is_within := T.F_is_within
  g_is_within := T.g_is_within
  b_is_within := T.b_is_within
  f_check_numbers := T.f_check_numbers
  fd_check_numbers := T.fd_check_numbers
  F_check_numbers := T.F_check_numbers
  g_check_numbers := T.g_check_numbers
  b_check_numbers := T.b_check_numbers
  f_choose := T.f_choose
  fd_choose := T.fd_choose
  F_choose := T.F_choose
  g_choose := T.g_choose
  b_choose := T.b_choose
  f_shares_by := T.f_shares_by
  fd_shares_by := T.fd_shares_by
  F_shares_by := T.F_shares_by
  g_shares_by := T.g_shares_by
  b_shares_by := T.b_shares_by
  f_shares := T.f_shares
  fd_shares := T.fd_shares
  F_shares := T.F_shares
  g_shares := T.g_shares
  b_shares := T.b_shares
  f_is_fisher := T.f_is_fisher
  fd_is_fisher := T.fd_is_fisher
  F_is_fisher := T.F_is_fisher
  g_is_fisher := T.g_is_fisher
  b_is_fisher := T.b_is_fisher
  f_outside_counts := T.f_outside_counts
  fd_outside_counts := T.fd_outside_counts
  F_outside_counts := T.F_outside_counts
  g_outside_counts := T.g_outside_counts
  b_outside_counts := T.b_outside_counts
  f__law_family_right := T.f__law_family_right
  fd__law_family_right := T.fd__law_family_right
  F__law_family_right := T.F__law_family_right
  g__law_family_right := T.g__law_family_right
  b__law_family_right := T.b__law_family_right
  f__law_over := T.f__law_over
  fd__law_over := T.fd__law_over
  F__law_over := T.F__law_over
  g__law_over := T.g__law_over
  b__law_over := T.b__law_over
  f__law_shares := T.f__law_shares
  fd__law_shares := T.fd__law_shares
  F__law_shares := T.F__law_shares
  g__law_shares := T.g__law_shares
  b__law_shares := T.b__law_shares
  f__law_fisher := T.f__law_fisher
  fd__law_fisher := T.fd__law_fisher
  F__law_fisher := T.F__law_fisher
  g__law_fisher := T.g__law_fisher
  b__law_fisher := T.b__law_fisher
  f__law_hand := T.f__law_hand
  fd__law_hand := T.fd__law_hand
  F__law_hand := T.F__law_hand
  g__law_hand := T.g__law_hand
  b__law_hand := T.b__law_hand
  f__law_is_refused := T.f__law_is_refused
  fd__law_is_refused := T.fd__law_is_refused
  F__law_is_refused := T.F__law_is_refused
  g__law_is_refused := T.g__law_is_refused
  b__law_is_refused := T.b__law_is_refused
  f_is_square_family := T.f_is_square_family
  fd_is_square_family := T.fd_is_square_family
  F_is_square_family := T.F_is_square_family
  g_is_square_family := T.g_is_square_family
  b_is_square_family := T.b_is_square_family
  f_law := T.f_law
  fd_law := T.fd_law
  F_law := T.F_law
  g_law := T.g_law
  b_law := T.b_law
  z_ValueError := T.z_ValueError
  z_abs := T.z_abs
  z_all := T.z_all
  z_any := T.z_any
  z_bool := T.z_bool
  z_int := T.z_int
  z_isinstance := T.z_isinstance
  z_len := T.z_len
  z_min := T.z_min
  z_range := T.z_range
  z_repr := T.z_repr
  z_sorted := T.z_sorted
  z_tuple := T.z_tuple
  z_zip := T.z_zip
  C_BlockError := T.C_BlockError
  k_BlockError := T.k_BlockError
  c_BlockError := T.c_BlockError
  C_NoNumber := T.C_NoNumber
  k_NoNumber := T.k_NoNumber
  c_NoNumber := T.c_NoNumber
  I_NoNumber := T.I_NoNumber
  e_NoNumber := T.e_NoNumber
  v_MOST_SIZE := T.v_MOST_SIZE
  x_NoNumber := T.x_NoNumber
  ec_NoNumber := T.ec_NoNumber
  qv_NoNumber := T.qv_NoNumber
  q_NoNumber_NoNumber := T.q_NoNumber_NoNumber
  cc_law := T.cc_law
  tt_law := T.tt_law
  code_law := T.code_law
  tin_law := T.tin_law
  tun_law := T.tun_law
def isx (c : Str) : Option Bool := if c = "NoNumber" then some true else none
def isC (c D : Str) : Option Bool := if c = "NoNumber" then (if D = "NoNumber" then some true else none) else none
def isY (c : Str) (D : String) : Option Bool := if c = "NoNumber" then (if D = "ValueError" then some true else none) else none
def isT (c : Str) (t : T) : Option Bool := match t with
  | .cls D => isC c D
  | .ty D => isY c D
  | _ => none
theorem hx_T {G : Gx} {mg : Str → Option Value} (T : Tx G mg) : ∀ c C b, G.cls c = some C → isx c = some b → PySem.W.exmOne G.K (.ref C) (.ref T.C_BlockError) = some b := by
  intro c C b e1 e2
  unfold isx at e2
  split at e2
  · rename_i h; subst h; cases e2; rw [T.k_NoNumber] at e1; cases e1; exact T.x_NoNumber
  cases e2
theorem isE_T {G : Gx} {mg : Str → Option Value} (T : Tx G mg) : IsE G isT := by
  refine ⟨?_, ?_, ?_, ?_⟩
  · intro c C D Da b e1 e2 e3
    replace e3 : isC c D = some b := e3
    unfold isC at e3
    split at e3
    · rename_i h; subst h; rw [T.k_NoNumber] at e1; cases e1
      split at e3
      · rename_i h; subst h; cases e3; rw [T.k_NoNumber] at e2; cases e2; exact T.q_NoNumber_NoNumber
      cases e3
    cases e3
  · intro c C tn b e1 e3
    replace e3 : isY c tn = some b := e3
    unfold isY at e3
    split at e3
    · rename_i h; subst h; rw [T.k_NoNumber] at e1; cases e1
      split at e3
      · rename_i h; subst h; cases e3; exact T.qv_NoNumber
      cases e3
    cases e3
  · intro c t b e
    cases t <;> first | exact .inl ⟨_, rfl⟩ | exact .inr ⟨_, rfl⟩ | cases e
  · intro c C t b e1 e3
    have key : isx c = some true := by
      cases t <;> first | (cases e3; done) | skip
      · replace e3 : isY c _ = some b := e3
        unfold isY at e3; unfold isx
        split at e3
        · rename_i h; subst h; rfl
        cases e3
      · replace e3 : isC c _ = some b := e3
        unfold isC at e3; unfold isx
        split at e3
        · rename_i h; subst h; rfl
        cases e3
    unfold isx at key
    split at key
    · rename_i h; subst h; rw [T.k_NoNumber] at e1; cases e1; exact T.ec_NoNumber
    cases key
section
variable {w : World} {G : Gx} {mg : Str → Option Value} {base : Heap}
def b__law_draw : S := mSeq (mIfS (mAnd (mB (mOp2 true gEq (mIdx true (mVar 0) (mC (.int 2))) (mC (.int 0)))) (mB (mOp2 true gLt (mIdx true (mVar 0) (mC (.int 1))) (mOpN (g1 kLen) (mCons true (mIdx true (mVar 0) (mC (.int 0))) (mNil))))))
  (mSeq (mAsg (mFz (mIdx true (mIdx true (mVar 0) (mC (.int 0))) (mIdx true (mVar 0) (mC (.int 1))))) (gSet 2))
  (mSeq (mAsg (mOp2 true oAdd (mIdx true (mVar 0) (mC (.int 1))) (mC (.int 1))) (gSetI 0 (mC (.int 1))))
  (mSeq (mAsg (mOp2 true gMod (mOpN (g1 kInt) (mCons true (mOp2 true oAdd (mOp2 true oAdd (mOp2 true oMul (mIdx true (mVar 0) (mC (.int 3))) (mC (.int 69621))) (mOp2 true oMul (mVar 2) (mC (.int 48271)))) (mC (.int 17))) (mNil))) (mC (.int 2147483629))) (gSetI 0 (mC (.int 3))))
  (mIfS (mB (mOp2 true gGe (mVar 2) (mOp2 true gPow (mC (.int 10)) (mC (.int 18)))))
  (mAsg (mVar 2) (gSetI 0 (mC (.int 2))))
  (mSkip)))))
  (mSkip))
  (mSeq (mIfS (mB (mOp2 true gGt (mIdx true (mVar 0) (mC (.int 2))) (mC (.int 0))))
  (mSeq (mAsg (mOp2 true gMod (mOpN (g1 kInt) (mCons true (mIdx true (mVar 0) (mC (.int 2))) (mNil))) (mVar 1)) (gSet 3))
  (mSeq (mAsg (mOp2 true gDiv (mIdx true (mVar 0) (mC (.int 2))) (mVar 1)) (gSetI 0 (mC (.int 2))))
  (mRet (mVar 3))))
  (mSkip))
  (mSeq (mAsg (mOp2 true oAdd (mIdx true (mVar 0) (mC (.int 4))) (mC (.int 1))) (gSetI 0 (mC (.int 4))))
  (mSeq (mAsg (mOp2 true gMod (mOpN (g1 kInt) (mCons true (mOp2 true oMul (mOpN (g1 kInt) (mCons true (mOp2 true oAdd (mIdx true (mVar 0) (mC (.int 3))) (mOp2 true oMul (mC (.int 7919)) (mIdx true (mVar 0) (mC (.int 4))))) (mNil))) (mC (.int 40692))) (mNil))) (mC (.int 2147483647))) (gSet 4))
  (mSeq (mAsg (mOp2 true gMod (mOpN (g1 kInt) (mCons true (mOp2 true oMul (mVar 4) (mOp2 true oAdd (mOp2 true gDiv (mVar 4) (mC (.int 1009))) (mC (.int 69621)))) (mNil))) (mC (.int 2147483647))) (gSet 4))
  (mSeq (mAsg (mOp2 true gMod (mOpN (g1 kInt) (mCons true (mOp2 true oMul (mVar 4) (mOp2 true oAdd (mOp2 true gDiv (mVar 4) (mC (.int 2003))) (mC (.int 40014)))) (mNil))) (mC (.int 2147483563))) (gSet 4))
  (mRet (mOp2 true gMod (mOpN (g1 kInt) (mCons true (mOp2 true gDiv (mVar 4) (mC (.int 16))) (mNil))) (mVar 1))))))))
abbrev m__law_draw : MF := mFunI 5 1 b__law_draw
theorem ok__law_draw (T : Tx G mg) : FnG pw w G.K mg base 1 T.f__law_draw T.fd__law_draw ["hand", "many"] (spI G 2 1 m__law_draw) :=
  fn_io (n := 5) (m := b__law_draw) T.F__law_draw sc__law_draw rfl fun cdv A outer s H E hcd hr => (show _ from
  (rb_cons (rs_if ((rw_and (rt_cmp (o_eq rfl hr.n) (r_idx hr.n rfl (r_var (i := 0) rfl (.inl rfl)) r_int (fun _ _ => rfl)) r_int (nomark _)) (rw_and1 (rt_cmp o_lt (r_idx hr.n rfl (r_var (i := 0) rfl (.inl rfl)) r_int (fun _ _ => rfl)) (r_callB (o_len rfl) (by rfl) T.z_len bo_len (ra_cons (r_idx hr.n rfl (r_var (i := 0) rfl (.inl rfl)) r_int (fun _ _ => rfl)) ra_nil)) (nomark _))))).t
  (rb_cons (rs_set (i := 2) sc__law_draw.nd rfl (.inl rfl) (by decide) (by decide) (r_fz (r_idx hr.n rfl (r_idx hr.n rfl (r_var (i := 0) rfl (.inl rfl)) r_int (fun _ _ => rfl)) (r_idx hr.n rfl (r_var (i := 0) rfl (.inl rfl)) r_int (fun _ _ => rfl)) (fun _ _ => rfl))))
  (rb_cons (rs_seti (j := 0) hr.n rfl (.inl rfl) r_int (r_bin (o_add rfl) (r_idx hr.n rfl (r_var (i := 0) rfl (.inl rfl)) r_int (fun _ _ => rfl)) r_int))
  (rb_cons (rs_seti (j := 0) hr.n rfl (.inl rfl) r_int (r_bin o_mod (r_callTy o_int (by rfl) T.z_int bo_int (ra_cons (r_bin (o_add rfl) (r_bin (o_add rfl) (r_bin o_mul (r_idx hr.n rfl (r_var (i := 0) rfl (.inl rfl)) r_int (fun _ _ => rfl)) r_int) (r_bin o_mul (r_var (i := 2) rfl (.inl rfl)) r_int)) r_int) ra_nil)) r_int))
  (rb_one (rs_if (rt_cmp o_ge (r_var (i := 2) rfl (.inl rfl)) (r_bin o_pow r_int r_int) (nomark _))
  (rb_one (rs_seti (j := 0) hr.n rfl (.inl rfl) r_int (r_var (i := 2) rfl (.inl rfl))))
  rb_nil)))))
  rb_nil)
  (rb_cons (rs_if (rt_cmp o_gt (r_idx hr.n rfl (r_var (i := 0) rfl (.inl rfl)) r_int (fun _ _ => rfl)) r_int (nomark _))
  (rb_cons (rs_set (i := 3) sc__law_draw.nd rfl (.inl rfl) (by decide) (by decide) (r_bin o_mod (r_callTy o_int (by rfl) T.z_int bo_int (ra_cons (r_idx hr.n rfl (r_var (i := 0) rfl (.inl rfl)) r_int (fun _ _ => rfl)) ra_nil)) (r_var (i := 1) rfl (.inl rfl))))
  (rb_cons (rs_seti (j := 0) hr.n rfl (.inl rfl) r_int (r_bin o_fdiv (r_idx hr.n rfl (r_var (i := 0) rfl (.inl rfl)) r_int (fun _ _ => rfl)) (r_var (i := 1) rfl (.inl rfl))))
  (rb_one (rs_ret (r_var (i := 3) rfl (.inl rfl))))))
  rb_nil)
  (rb_cons (rs_seti (j := 0) hr.n rfl (.inl rfl) r_int (r_bin (o_add rfl) (r_idx hr.n rfl (r_var (i := 0) rfl (.inl rfl)) r_int (fun _ _ => rfl)) r_int))
  (rb_cons (rs_set (i := 4) sc__law_draw.nd rfl (.inl rfl) (by decide) (by decide) (r_bin o_mod (r_callTy o_int (by rfl) T.z_int bo_int (ra_cons (r_bin o_mul (r_callTy o_int (by rfl) T.z_int bo_int (ra_cons (r_bin (o_add rfl) (r_idx hr.n rfl (r_var (i := 0) rfl (.inl rfl)) r_int (fun _ _ => rfl)) (r_bin o_mul r_int (r_idx hr.n rfl (r_var (i := 0) rfl (.inl rfl)) r_int (fun _ _ => rfl)))) ra_nil)) r_int) ra_nil)) r_int))
  (rb_cons (rs_set (i := 4) sc__law_draw.nd rfl (.inl rfl) (by decide) (by decide) (r_bin o_mod (r_callTy o_int (by rfl) T.z_int bo_int (ra_cons (r_bin o_mul (r_var (i := 4) rfl (.inl rfl)) (r_bin (o_add rfl) (r_bin o_fdiv (r_var (i := 4) rfl (.inl rfl)) r_int) r_int)) ra_nil)) r_int))
  (rb_cons (rs_set (i := 4) sc__law_draw.nd rfl (.inl rfl) (by decide) (by decide) (r_bin o_mod (r_callTy o_int (by rfl) T.z_int bo_int (ra_cons (r_bin o_mul (r_var (i := 4) rfl (.inl rfl)) (r_bin (o_add rfl) (r_bin o_fdiv (r_var (i := 4) rfl (.inl rfl)) r_int) r_int)) ra_nil)) r_int))
  (rb_one (rs_ret (r_bin o_mod (r_callTy o_int (by rfl) T.z_int bo_int (ra_cons (r_bin o_fdiv (r_var (i := 4) rfl (.inl rfl)) r_int) ra_nil)) (r_var (i := 1) rfl (.inl rfl))))))))))))
def b__law_any : S := mRet (mIdx false (mVar 1) (mCallI 0 1 m__law_draw (mCons true (mOpN (g1 kLen) (mCons true (mVar 1) (mNil))) (mNil))))
abbrev m__law_any : MF := mFunI 2 1 b__law_any
theorem ok__law_any (T : Tx G mg) : FnG pw w G.K mg base 2 T.f__law_any T.fd__law_any ["hand", "some"] (spI G 2 1 m__law_any) :=
  fn_io (n := 2) (m := b__law_any) T.F__law_any sc__law_any rfl fun cdv A outer s H E hcd hr => (show _ from
  (rb_one (rs_ret (r_idx hr.n rfl (r_var (i := 1) rfl (.inl rfl)) (r_callI (i := 0) (ok__law_draw T) (hr.mono (by decide)) (by rfl) T.g__law_draw T.F__law_draw.kp T.b__law_draw (takes_of rfl rfl rfl rfl) rfl (.inl rfl) (ra_cons (r_callB (o_len rfl) (by rfl) T.z_len bo_len (ra_cons (r_var (i := 1) rfl (.inl rfl)) ra_nil)) ra_nil) (fun ρ rs ρ2 e => by rw [(mCons_len mNil_len) ρ rs ρ2 e]; rfl)) (fun _ _ => rfl)))))
def b__law_differences : S := mSeq (mAsg (mLst (mCons true (mVar 0) (mNil))) (gSet 1))
  (mSeq (mWhile (mB (mOp2 true gGt (mOpN (g1 kLen) (mCons true (mIdx true (mVar 1) (mOp1 gNeg (mC (.int 1)))) (mNil))) (mC (.int 1))))
  (mExpr (mMeth gApp 1 (mCons true (mFz (mComp true [2, 3] 0 (mZip (mCons true (mIdx true (mVar 1) (mOp1 gNeg (mC (.int 1)))) (mCons true (mSl (mIdx true (mVar 1) (mOp1 gNeg (mC (.int 1)))) (mPart (mC (.int 1))) mNoPart) (mNil)))) (gTupM (gsCons (gSet 2) (gsCons (gSet 3) (gsNil))) 2) (mC (.bl true)) (mOp2 true gSub (mVar 2) (mVar 3)))) (mNil)))))
  (mRet (mVarM 1)))
abbrev m__law_differences : MF := mFun 4 b__law_differences
theorem ok__law_differences (T : Tx G mg) : FnG pw w G.K mg base 1 T.f__law_differences T.fd__law_differences ["row"] (spP G 1 m__law_differences) :=
  fn_pure (n := 4) (m := b__law_differences) T.F__law_differences sc__law_differences rfl fun cdv A outer s H E hcd hr => (show _ from
  (rb_cons (rs_set (i := 1) sc__law_differences.nd rfl (.inl rfl) (by decide) (by decide) (r_lst (ra_cons (r_var (i := 0) rfl (.inl rfl)) ra_nil)))
  (rb_cons (rs_while (passes_of rfl) (rt_cmp o_gt (r_callB (o_len rfl) (by rfl) T.z_len bo_len (ra_cons (r_idx hr.n rfl (r_var (i := 1) rfl (.inl rfl)) (r_un o_neg r_int) (fun _ _ => rfl)) ra_nil)) r_int (nomark _))
  (rb_one (rs_expr (r_meth (i := 1) PySem.F.slot_list_append PySem.F.type_list_append mt_append mu_append rfl (.inl rfl) (ra_cons (r_fz (r_comp 0 [2, 3] rfl sc__law_differences.nd (ri_zip rfl (by rfl) T.z_zip (ra_cons (r_idx hr.n rfl (r_var (i := 1) rfl (.inl rfl)) (r_un o_neg r_int) (fun _ _ => rfl)) (ra_cons (r_slice rfl (r_idx hr.n rfl (r_var (i := 1) rfl (.inl rfl)) (r_un o_neg r_int) (fun _ _ => rfl)) (ro_some r_int) ro_none) ra_nil))) (blkOk_by (N := N__law_differences) (sc := (defScope s__law_differences)) (own := [("one", 2), ("other", 3)]) (by decide +kernel)) rfl (gin_tup (gsin_cons (gin_set (by decide)) (gsin_cons (gin_set (by decide)) gsin_nil))) (fun _ _ _ _ _ => (rg_tup rfl rfl (rgs_cons (rg_name (i := 2) sc__law_differences.nd rfl (.inl rfl) (by show 2 ∉ outPin 4 [2, 3]; decide) (by show 2 < 4; decide) (.inr rfl)) (rgs_cons (rg_name (i := 3) sc__law_differences.nd rfl (.inl rfl) (by show 3 ∉ outPin 4 [2, 3]; decide) (by show 3 < 4; decide) (.inr rfl)) rgs_nil)))) (fun _ _ _ _ _ => rts_nil) (fun _ _ _ _ _ => (r_bin o_subI (r_var (i := 2) rfl (.inl rfl)) (r_var (i := 3) rfl (.inl rfl)))))) ra_nil)))))
  (rb_one (rs_ret (r_varM (i := 1) rfl (.inl rfl)))))))
def b__law_lots : S := mSeq (mAsg (mFz (mLst (mCons true (mTup (mNil)) (mNil)))) (gSet 1))
  (mSeq (mFor (mRng1 (mCons true (mVar 0) (mNil))) (gSet 2)
  (mAsg (mFz (mOp2 true oAdd (mVar 1) (mComp true [3] 0 (mSeqI (mVar 1)) (gSet 3) (mC (.bl true)) (mOp2 true oAdd (mVar 3) (mTup (mCons true (mVar 2) (mNil))))))) (gSet 1)))
  (mRet (mVar 1)))
abbrev m__law_lots : MF := mFun 4 b__law_lots
theorem ok__law_lots (T : Tx G mg) : FnG pw w G.K mg base 1 T.f__law_lots T.fd__law_lots ["points"] (spP G 1 m__law_lots) :=
  fn_pure (n := 4) (m := b__law_lots) T.F__law_lots sc__law_lots rfl fun cdv A outer s H E hcd hr => (show _ from
  (rb_cons (rs_set (i := 1) sc__law_lots.nd rfl (.inl rfl) (by decide) (by decide) (r_fz (r_lst (ra_cons (r_tup ra_nil) ra_nil))))
  (rb_cons (rs_for (passes_of rfl) rfl (ri_rng1 (by rfl) T.z_range (ra_cons (r_var (i := 0) rfl (.inl rfl)) ra_nil)) (rg_name (i := 2) sc__law_lots.nd rfl (.inr rfl) (by decide) (by decide))
  (rb_one (rs_set (i := 1) sc__law_lots.nd rfl (.inl rfl) (by decide) (by decide) (r_fz (r_bin (o_add rfl) (r_var (i := 1) rfl (.inl rfl)) (r_comp 0 [3] rfl sc__law_lots.nd (ri_seq rfl (r_var (i := 1) rfl (.inl rfl))) (blkOk_by (N := N__law_lots) (sc := (defScope s__law_lots)) (own := [("lot", 3)]) (by decide +kernel)) rfl (gin_set (by decide)) (fun _ _ _ _ _ => (rg_name (i := 3) sc__law_lots.nd rfl (.inl rfl) (by show 3 ∉ outPin 4 [3]; decide) (by show 3 < 4; decide) (.inr rfl))) (fun _ _ _ _ _ => rts_nil) (fun _ _ _ _ _ => (r_bin (o_add rfl) (r_var (i := 3) rfl (.inl rfl)) (r_tup (ra_cons (r_var (i := 2) rfl (.inr (.inl rfl))) ra_nil))))))))))
  (rb_one (rs_ret (r_var (i := 1) rfl (.inl rfl)))))))
def b__law_even : S := mSeq (mAsg (mOpN kTuple (mCons true (mComp true [9] 0 (mRng1 (mCons true (mC (.int 7)) (mNil))) (gSet 9) (mC (.bl true)) (mOpN kTuple (mCons true (mOpN kSorted (mCons true (mComp true [11] 0 (mSeqI (mTup (mCons true (mC (.int 0)) (mCons true (mC (.int 1)) (mCons true (mC (.int 3)) (mNil)))))) (gSet 11) (mC (.bl true)) (mOp2 true gMod (mOpN (g1 kInt) (mCons true (mOp2 true oAdd (mVar 9) (mVar 11)) (mNil))) (mC (.int 7)))) (mNil))) (mNil)))) (mNil))) (gSet 1))
  (mSeq (mAsg (mFz (mLst (mCons true (mTup (mCons true (mC (.int 4)) (mCons true (mC (.int 2)) (mNil)))) (mCons true (mTup (mCons true (mC (.int 4)) (mCons true (mC (.int 3)) (mNil)))) (mCons true (mTup (mCons true (mC (.int 5)) (mCons true (mC (.int 2)) (mNil)))) (mCons true (mTup (mCons true (mC (.int 5)) (mCons true (mC (.int 3)) (mNil)))) (mCons true (mTup (mCons true (mC (.int 5)) (mCons true (mC (.int 4)) (mNil)))) (mCons true (mTup (mCons true (mC (.int 6)) (mCons true (mC (.int 3)) (mNil)))) (mCons true (mTup (mCons true (mC (.int 6)) (mCons true (mC (.int 2)) (mNil)))) (mNil)))))))))) (gSet 2))
  (mSeq (mAsg (mCallI 0 1 m__law_any (mCons true (mVar 2) (mNil))) (gTupM (gsCons (gSet 3) (gsCons (gSet 4) (gsNil))) 2))
  (mSeq (mAsg (mOpN kTuple (mCons true (mOpN kSorted (mCons true (mComp true [10] 0 (mSeqI (mCall m__law_lots (mCons true (mVar 3) (mNil)))) (gSet 10) (mB (mOp2 true gEq (mOpN (g1 kLen) (mCons true (mVar 10) (mNil))) (mVar 4))) (mVar 10)) (mNil))) (mNil))) (gSet 5))
  (mSeq (mAsg (mFz (mLst (mCons true (mTup (mCons true (mC (.int 0)) (mCons true (mC (.int 1)) (mCons true (mC (.int 2)) (mNil))))) (mCons true (mTup (mCons true (mC (.int 3)) (mCons true (mC (.int 4)) (mCons true (mC (.int 5)) (mNil))))) (mCons true (mTup (mCons true (mC (.int 6)) (mCons true (mC (.int 7)) (mCons true (mC (.int 8)) (mNil))))) (mCons true (mTup (mCons true (mC (.int 0)) (mCons true (mC (.int 3)) (mCons true (mC (.int 6)) (mNil))))) (mCons true (mTup (mCons true (mC (.int 1)) (mCons true (mC (.int 4)) (mCons true (mC (.int 7)) (mNil))))) (mCons true (mTup (mCons true (mC (.int 2)) (mCons true (mC (.int 5)) (mCons true (mC (.int 8)) (mNil))))) (mCons true (mTup (mCons true (mC (.int 0)) (mCons true (mC (.int 4)) (mCons true (mC (.int 8)) (mNil))))) (mCons true (mTup (mCons true (mC (.int 1)) (mCons true (mC (.int 5)) (mCons true (mC (.int 6)) (mNil))))) (mCons true (mTup (mCons true (mC (.int 2)) (mCons true (mC (.int 3)) (mCons true (mC (.int 7)) (mNil))))) (mNil)))))))))))) (gSet 6))
  (mSeq (mAsg (mFz (mOp2 true oAdd (mVar 6) (mLst (mCons true (mTup (mCons true (mC (.int 0)) (mCons true (mC (.int 5)) (mCons true (mC (.int 7)) (mNil))))) (mNil))))) (gSet 6))
  (mSeq (mAsg (mFz (mOp2 true oAdd (mVar 6) (mLst (mCons true (mTup (mCons true (mC (.int 1)) (mCons true (mC (.int 3)) (mCons true (mC (.int 8)) (mNil))))) (mCons true (mTup (mCons true (mC (.int 2)) (mCons true (mC (.int 4)) (mCons true (mC (.int 6)) (mNil))))) (mNil)))))) (gSet 6))
  (mSeq (mAsg (mFz (mLst (mCons true (mTup (mCons true (mC (.int 7)) (mCons true (mOpN kTuple (mCons true (mOpN kSorted (mCons true (mVar 1) (mNil))) (mNil))) (mNil)))) (mCons true (mTup (mCons true (mVar 3) (mCons true (mVar 5) (mNil)))) (mCons true (mTup (mCons true (mVar 3) (mCons true (mVar 5) (mNil)))) (mCons true (mTup (mCons true (mC (.int 9)) (mCons true (mOpN kTuple (mCons true (mOpN kSorted (mCons true (mVar 6) (mNil))) (mNil))) (mNil)))) (mNil))))))) (gSet 7))
  (mSeq (mAsg (mOpN kTuple (mCons true (mOpN kSorted (mCons true (mComp true [10] 0 (mSeqI (mVar 1)) (gSet 10) (mC (.bl true)) (mOpN kTuple (mCons true (mComp true [12] 0 (mRng1 (mCons true (mC (.int 7)) (mNil))) (gSet 12) (mB (mOp2 true oNotIn (mVar 12) (mVar 10))) (mVar 12)) (mNil)))) (mNil))) (mNil))) (gSet 8))
  (mRet (mCallI 0 1 m__law_any (mCons true (mOp2 true oAdd (mVar 7) (mLst (mCons true (mTup (mCons true (mC (.int 7)) (mCons true (mVar 8) (mNil)))) (mCons true (mTup (mCons true (mC (.int 7)) (mCons true (mOpN kTuple (mCons true (mOpN kSorted (mCons true (mOp2 true oMulT (mVar 1) (mC (.int 2))) (mNil))) (mNil))) (mNil)))) (mCons true (mTup (mCons true (mC (.int 3)) (mCons true (mTup (mCons true (mTup (mCons true (mC (.int 0)) (mCons true (mC (.int 1)) (mCons true (mC (.int 2)) (mNil))))) (mCons true (mTup (mCons true (mC (.int 0)) (mCons true (mC (.int 1)) (mCons true (mC (.int 2)) (mNil))))) (mNil)))) (mNil)))) (mNil)))))) (mNil))))))))))))
abbrev m__law_even : MF := mFunI 13 1 b__law_even
theorem ok__law_even (T : Tx G mg) : FnG pw w G.K mg base 3 T.f__law_even T.fd__law_even ["hand"] (spI G 1 1 m__law_even) :=
  fn_io (n := 13) (m := b__law_even) T.F__law_even sc__law_even rfl fun cdv A outer s H E hcd hr => (show _ from
  (rb_cons (rs_set (i := 1) sc__law_even.nd rfl (.inl rfl) (by decide) (by decide) (r_callTy (o_tuple rfl) (by rfl) T.z_tuple bo_tuple (ra_cons (r_comp 0 [9] rfl sc__law_even.nd (ri_rng1 (by rfl) T.z_range (ra_cons r_int ra_nil)) (blkOk_by (N := N__law_even) (sc := (defScope s__law_even)) (own := [("at", 9)]) (by decide +kernel)) rfl (gin_set (by decide)) (fun _ _ _ _ _ => (rg_name (i := 9) sc__law_even.nd rfl (by first | exact .inl rfl | exact .inr rfl) (by show 9 ∉ outPin 13 [9]; decide) (by show 9 < 13; decide) (by first | exact .inr rfl | exact .inl rfl))) (fun _ _ _ _ _ => rts_nil) (fun _ _ _ _ _ => (r_callTy (o_tuple rfl) (by rfl) T.z_tuple bo_tuple (ra_cons (r_callB (o_sorted rfl hr.n) (by rfl) T.z_sorted bo_sorted (ra_cons (r_comp 0 [11] rfl sc__law_even.nd (ri_seq rfl (r_tup (ra_cons r_int (ra_cons r_int (ra_cons r_int ra_nil))))) (blkOk_by (N := N__law_even) (own := [("by", 11)]) (by kernel_rfl)) rfl (gin_set (by decide)) (fun _ _ _ _ _ => (rg_name (i := 11) sc__law_even.nd rfl (.inl rfl) (by show 11 ∉ outPin 13 [11]; decide) (by show 11 < 13; decide) (.inr rfl))) (fun _ _ _ _ _ => rts_nil) (fun _ _ _ _ _ => (r_bin o_mod (r_callTy o_int (by rfl) T.z_int bo_int (ra_cons (r_bin (o_add rfl) (r_var (i := 9) rfl (by first | exact .inl rfl | exact .inr (.inl rfl) | exact .inr (.inr rfl))) (r_var (i := 11) rfl (by first | exact .inl rfl | exact .inr (.inl rfl) | exact .inr (.inr rfl)))) ra_nil)) r_int))) ra_nil)) ra_nil)))) ra_nil)))
  (rb_cons (rs_set (i := 2) sc__law_even.nd rfl (.inl rfl) (by decide) (by decide) (r_fz (r_lst (ra_cons (r_tup (ra_cons r_int (ra_cons r_int ra_nil))) (ra_cons (r_tup (ra_cons r_int (ra_cons r_int ra_nil))) (ra_cons (r_tup (ra_cons r_int (ra_cons r_int ra_nil))) (ra_cons (r_tup (ra_cons r_int (ra_cons r_int ra_nil))) (ra_cons (r_tup (ra_cons r_int (ra_cons r_int ra_nil))) (ra_cons (r_tup (ra_cons r_int (ra_cons r_int ra_nil))) (ra_cons (r_tup (ra_cons r_int (ra_cons r_int ra_nil))) ra_nil))))))))))
  (rb_cons (rs_asg (r_callI (i := 0) (ok__law_any T) (hr.mono (by decide)) (by rfl) T.g__law_any T.F__law_any.kp T.b__law_any (takes_of rfl rfl rfl rfl) rfl (.inl rfl) (ra_cons (r_var (i := 2) rfl (.inl rfl)) ra_nil) (fun ρ rs ρ2 e => by rw [(mCons_len mNil_len) ρ rs ρ2 e]; rfl)) (rg_tup rfl rfl (rgs_cons (rg_name (i := 3) sc__law_even.nd rfl (.inl rfl) (by decide) (by decide)) (rgs_cons (rg_name (i := 4) sc__law_even.nd rfl (.inr rfl) (by decide) (by decide)) rgs_nil))))
  (rb_cons (rs_set (i := 5) sc__law_even.nd rfl (.inl rfl) (by decide) (by decide) (r_callTy (o_tuple rfl) (by rfl) T.z_tuple bo_tuple (ra_cons (r_callB (o_sorted rfl hr.n) (by rfl) T.z_sorted bo_sorted (ra_cons (r_comp 0 [10] rfl sc__law_even.nd (ri_seq rfl (r_call (ok__law_lots T) (hr.mono (by decide)) (by rfl) T.g__law_lots T.F__law_lots.kp T.b__law_lots (takes_of rfl rfl rfl rfl) (ra_cons (r_var (i := 3) rfl (.inl rfl)) ra_nil) (mCons_len mNil_len))) (blkOk_by (N := N__law_even) (sc := (defScope s__law_even)) (own := [("lot", 10)]) (by decide +kernel)) rfl (gin_set (by decide)) (fun _ _ _ _ _ => (rg_name (i := 10) sc__law_even.nd rfl (by first | exact .inl rfl | exact .inr rfl) (by show 10 ∉ outPin 13 [10]; decide) (by show 10 < 13; decide) (by first | exact .inr rfl | exact .inl rfl))) (fun _ _ _ _ _ => (rts_one (rt_cmp (o_eq rfl hr.n) (r_callB (o_len rfl) (by rfl) T.z_len bo_len (ra_cons (r_var (i := 10) rfl (by first | exact .inl rfl | exact .inr (.inl rfl) | exact .inr (.inr rfl))) ra_nil)) (r_var (i := 4) rfl (.inr (.inl rfl))) (nomark _)))) (fun _ _ _ _ _ => (r_var (i := 10) rfl (by first | exact .inl rfl | exact .inr (.inl rfl) | exact .inr (.inr rfl))))) ra_nil)) ra_nil)))
  (rb_cons (rs_set (i := 6) sc__law_even.nd rfl (.inl rfl) (by decide) (by decide) (r_fz (r_lst (ra_cons (r_tup (ra_cons r_int (ra_cons r_int (ra_cons r_int ra_nil)))) (ra_cons (r_tup (ra_cons r_int (ra_cons r_int (ra_cons r_int ra_nil)))) (ra_cons (r_tup (ra_cons r_int (ra_cons r_int (ra_cons r_int ra_nil)))) (ra_cons (r_tup (ra_cons r_int (ra_cons r_int (ra_cons r_int ra_nil)))) (ra_cons (r_tup (ra_cons r_int (ra_cons r_int (ra_cons r_int ra_nil)))) (ra_cons (r_tup (ra_cons r_int (ra_cons r_int (ra_cons r_int ra_nil)))) (ra_cons (r_tup (ra_cons r_int (ra_cons r_int (ra_cons r_int ra_nil)))) (ra_cons (r_tup (ra_cons r_int (ra_cons r_int (ra_cons r_int ra_nil)))) (ra_cons (r_tup (ra_cons r_int (ra_cons r_int (ra_cons r_int ra_nil)))) ra_nil))))))))))))
  (rb_cons (rs_set (i := 6) sc__law_even.nd rfl (.inl rfl) (by decide) (by decide) (r_fz (r_bin (o_add rfl) (r_var (i := 6) rfl (.inl rfl)) (r_lst (ra_cons (r_tup (ra_cons r_int (ra_cons r_int (ra_cons r_int ra_nil)))) ra_nil)))))
  (rb_cons (rs_set (i := 6) sc__law_even.nd rfl (.inl rfl) (by decide) (by decide) (r_fz (r_bin (o_add rfl) (r_var (i := 6) rfl (.inl rfl)) (r_lst (ra_cons (r_tup (ra_cons r_int (ra_cons r_int (ra_cons r_int ra_nil)))) (ra_cons (r_tup (ra_cons r_int (ra_cons r_int (ra_cons r_int ra_nil)))) ra_nil))))))
  (rb_cons (rs_set (i := 7) sc__law_even.nd rfl (.inl rfl) (by decide) (by decide) (r_fz (r_lst (ra_cons (r_tup (ra_cons r_int (ra_cons (r_callTy (o_tuple rfl) (by rfl) T.z_tuple bo_tuple (ra_cons (r_callB (o_sorted rfl hr.n) (by rfl) T.z_sorted bo_sorted (ra_cons (r_var (i := 1) rfl (.inl rfl)) ra_nil)) ra_nil)) ra_nil))) (ra_cons (r_tup (ra_cons (r_var (i := 3) rfl (.inl rfl)) (ra_cons (r_var (i := 5) rfl (.inl rfl)) ra_nil))) (ra_cons (r_tup (ra_cons (r_var (i := 3) rfl (.inl rfl)) (ra_cons (r_var (i := 5) rfl (.inl rfl)) ra_nil))) (ra_cons (r_tup (ra_cons r_int (ra_cons (r_callTy (o_tuple rfl) (by rfl) T.z_tuple bo_tuple (ra_cons (r_callB (o_sorted rfl hr.n) (by rfl) T.z_sorted bo_sorted (ra_cons (r_var (i := 6) rfl (.inl rfl)) ra_nil)) ra_nil)) ra_nil))) ra_nil)))))))
  (rb_cons (rs_set (i := 8) sc__law_even.nd rfl (.inl rfl) (by decide) (by decide) (r_callTy (o_tuple rfl) (by rfl) T.z_tuple bo_tuple (ra_cons (r_callB (o_sorted rfl hr.n) (by rfl) T.z_sorted bo_sorted (ra_cons (r_comp 0 [10] rfl sc__law_even.nd (ri_seq rfl (r_var (i := 1) rfl (.inl rfl))) (blkOk_by (N := N__law_even) (sc := (defScope s__law_even)) (own := [("lot", 10)]) (by decide +kernel)) rfl (gin_set (by decide)) (fun _ _ _ _ _ => (rg_name (i := 10) sc__law_even.nd rfl (by first | exact .inl rfl | exact .inr rfl) (by show 10 ∉ outPin 13 [10]; decide) (by show 10 < 13; decide) (by first | exact .inr rfl | exact .inl rfl))) (fun _ _ _ _ _ => rts_nil) (fun _ _ _ _ _ => (r_callTy (o_tuple rfl) (by rfl) T.z_tuple bo_tuple (ra_cons (r_comp 0 [12] rfl sc__law_even.nd (ri_rng1 (by rfl) T.z_range (ra_cons r_int ra_nil)) (blkOk_by (N := N__law_even) (own := [("point", 12)]) (by kernel_rfl)) rfl (gin_set (by decide)) (fun _ _ _ _ _ => (rg_name (i := 12) sc__law_even.nd rfl (.inl rfl) (by show 12 ∉ outPin 13 [12]; decide) (by show 12 < 13; decide) (.inr rfl))) (fun _ _ _ _ _ => (rts_one (rt_cmp (o_notInA rfl hr.n) (r_var (i := 12) rfl (by first | exact .inl rfl | exact .inr (.inl rfl) | exact .inr (.inr rfl))) (r_var (i := 10) rfl (by first | exact .inl rfl | exact .inr (.inl rfl) | exact .inr (.inr rfl))) (by rfl)))) (fun _ _ _ _ _ => (r_var (i := 12) rfl (by first | exact .inl rfl | exact .inr (.inl rfl) | exact .inr (.inr rfl))))) ra_nil)))) ra_nil)) ra_nil)))
  (rb_one (rs_ret (r_callI (i := 0) (ok__law_any T) (hr.mono (by decide)) (by rfl) T.g__law_any T.F__law_any.kp T.b__law_any (takes_of rfl rfl rfl rfl) rfl (.inl rfl) (ra_cons (r_bin (o_add rfl) (r_var (i := 7) rfl (.inl rfl)) (r_lst (ra_cons (r_tup (ra_cons r_int (ra_cons (r_var (i := 8) rfl (.inl rfl)) ra_nil))) (ra_cons (r_tup (ra_cons r_int (ra_cons (r_callTy (o_tuple rfl) (by rfl) T.z_tuple bo_tuple (ra_cons (r_callB (o_sorted rfl hr.n) (by rfl) T.z_sorted bo_sorted (ra_cons (r_bin (o_mulT rfl) (r_var (i := 1) rfl (.inl rfl)) r_int) ra_nil)) ra_nil)) ra_nil))) (ra_cons (r_tup (ra_cons r_int (ra_cons (r_tup (ra_cons (r_tup (ra_cons r_int (ra_cons r_int (ra_cons r_int ra_nil)))) (ra_cons (r_tup (ra_cons r_int (ra_cons r_int (ra_cons r_int ra_nil)))) ra_nil))) ra_nil))) ra_nil))))) ra_nil) (fun ρ rs ρ2 e => by rw [(mCons_len mNil_len) ρ rs ρ2 e]; rfl))))))))))))))
def b_is_integer : S := mRet (mAnd (mOpN (g2 kIsTy) (mCons true (mVar 0) (mCons true (mC (.ty "int")) (mNil)))) (mNot (mOpN (g2 kIsTy) (mCons true (mVar 0) (mCons true (mC (.ty "bool")) (mNil))))))
abbrev m_is_integer : MF := mFun 1 b_is_integer
theorem ok_is_integer (T : Tx G mg) : FnG pw w G.K mg base 1 T.f_is_integer T.fd_is_integer ["thing"] (spP G 1 m_is_integer) :=
  fn_pure (n := 1) (m := b_is_integer) T.F_is_integer sc_is_integer rfl fun cdv A outer s H E hcd hr => (show _ from
  (rb_one (rs_ret (r_and (r_callB (o_isTy rfl) (by rfl) T.z_isinstance bo_isinstance (ra_cons (r_var (i := 0) rfl (.inl rfl)) (ra_cons (r_tyn (by rfl) T.z_int bo_int) ra_nil))) (r_one (r_not (r_callB (o_isTy rfl) (by rfl) T.z_isinstance bo_isinstance (ra_cons (r_var (i := 0) rfl (.inl rfl)) (ra_cons (r_tyn (by rfl) T.z_bool bo_bool) ra_nil)))))))))
def b_is_within : S := mRet (mAnd (mCall m_is_integer (mCons true (mVar 0) (mNil))) (mChain true true gLe gLe (mVar 1) (mVar 0) (mVar 2)))
abbrev m_is_within : MF := mFun 3 b_is_within
theorem ok_is_within (T : Tx G mg) : FnG pw w G.K mg base 2 T.f_is_within T.fd_is_within ["thing", "least", "most"] (spP G 3 m_is_within) :=
  fn_pure (n := 3) (m := b_is_within) T.F_is_within sc_is_within rfl fun cdv A outer s H E hcd hr => (show _ from
  (rb_one (rs_ret (r_and (r_call (ok_is_integer T) (hr.mono (by decide)) (by rfl) T.g_is_integer T.F_is_integer.kp T.b_is_integer (takes_of rfl rfl rfl rfl) (ra_cons (r_var (i := 0) rfl (.inl rfl)) ra_nil) (mCons_len mNil_len)) (r_one (r_chain o_le o_le (r_var (i := 1) rfl (.inl rfl)) (r_var (i := 0) rfl (.inl rfl)) (r_var (i := 2) rfl (.inl rfl))))))))
def b_check_numbers : S := mSeq (mIfS (mOr (mNot (mTr (mCall m_is_within (mCons true (mVar 0) (mCons true (mC (.int 1)) (mCons true (mC (.int 1000)) (mNil))))))) (mOr (mNot (mTr (mCall m_is_within (mCons true (mVar 1) (mCons true (mC (.int 1)) (mCons true (mVar 0) (mNil))))))) (mNot (mTr (mCall m_is_within (mCons true (mVar 2) (mCons true (mC (.int 1)) (mCons true (mOp2 true gPow (mC (.int 10)) (mC (.int 6))) (mNil)))))))))
  (mRaise0 "NoNumber")
  (mSkip))
  (mIfS (mNot (mTr (mCall m_is_within (mCons true (mVar 3) (mCons true (mC (.int 1)) (mCons true (mOpN (g2 kMin2) (mCons true (mVar 1) (mCons true (mC (.int 6)) (mNil)))) (mNil)))))))
  (mRaise0 "NoNumber")
  (mSkip))
abbrev m_check_numbers : MF := mFun 4 b_check_numbers
theorem ok_check_numbers (T : Tx G mg) : FnG pw w G.K mg base 3 T.f_check_numbers T.fd_check_numbers ["points", "size", "many", "told"] (spP G 4 m_check_numbers) :=
  fn_pure (n := 4) (m := b_check_numbers) T.F_check_numbers sc_check_numbers rfl fun cdv A outer s H E hcd hr => (show _ from
  (rb_cons (rs_if ((rw_or (rt_not (rt_truth rfl (r_call (ok_is_within T) (hr.mono (by decide)) (by rfl) T.g_is_within T.F_is_within.kp T.b_is_within (takes_of rfl rfl rfl rfl) (ra_cons (r_var (i := 0) rfl (.inl rfl)) (ra_cons r_int (ra_cons r_int ra_nil))) (mCons_len (mCons_len (mCons_len mNil_len)))))) (rw_or (rt_not (rt_truth rfl (r_call (ok_is_within T) (hr.mono (by decide)) (by rfl) T.g_is_within T.F_is_within.kp T.b_is_within (takes_of rfl rfl rfl rfl) (ra_cons (r_var (i := 1) rfl (.inl rfl)) (ra_cons r_int (ra_cons (r_var (i := 0) rfl (.inl rfl)) ra_nil))) (mCons_len (mCons_len (mCons_len mNil_len)))))) (rw_or1 (rt_not (rt_truth rfl (r_call (ok_is_within T) (hr.mono (by decide)) (by rfl) T.g_is_within T.F_is_within.kp T.b_is_within (takes_of rfl rfl rfl rfl) (ra_cons (r_var (i := 2) rfl (.inl rfl)) (ra_cons r_int (ra_cons (r_bin o_pow r_int r_int) ra_nil))) (mCons_len (mCons_len (mCons_len mNil_len)))))))))).t
  (rb_one (rs_raise0 T.k_NoNumber (Pe.pmk_A T.e_NoNumber xa_NoNumber xs_NoNumber xb_NoNumber (hr.room.mono (j := 1) (by decide)) (by rfl) T.c_NoNumber) rfl (takes_of rfl rfl rfl rfl)))
  rb_nil)
  (rb_one (rs_if (rt_not (rt_truth rfl (r_call (ok_is_within T) (hr.mono (by decide)) (by rfl) T.g_is_within T.F_is_within.kp T.b_is_within (takes_of rfl rfl rfl rfl) (ra_cons (r_var (i := 3) rfl (.inl rfl)) (ra_cons r_int (ra_cons (r_callB (o_min2 rfl) (by rfl) T.z_min bo_min (ra_cons (r_var (i := 1) rfl (.inl rfl)) (ra_cons (r_gint (by rfl) T.v_MOST_SIZE) ra_nil))) ra_nil))) (mCons_len (mCons_len (mCons_len mNil_len))))))
  (rb_one (rs_raise0 T.k_NoNumber (Pe.pmk_A T.e_NoNumber xa_NoNumber xs_NoNumber xb_NoNumber (hr.room.mono (j := 1) (by decide)) (by rfl) T.c_NoNumber) rfl (takes_of rfl rfl rfl rfl)))
  rb_nil))))
def b_choose : S := mSeq (mIfS (mOr (mB (mOp2 true gLt (mVar 1) (mC (.int 0)))) (mB (mOp2 true gGt (mVar 1) (mVar 0))))
  (mRet (mC (.int 0)))
  (mSkip))
  (mSeq (mAsg (mTup (mCons true (mC (.int 1)) (mCons true (mC (.int 1)) (mNil)))) (gTupM (gsCons (gSet 2) (gsCons (gSet 3) (gsNil))) 2))
  (mSeq (mFor (mRng1 (mCons true (mVar 1) (mNil))) (gSet 4)
  (mPar (mCons true (mOp2 true oMul (mVar 2) (mOp2 true gSub (mVar 0) (mVar 4))) (mCons true (mOp2 true oMul (mVar 3) (mOp2 true oAdd (mVar 4) (mC (.int 1)))) (mNil))) (gsCons (gSet 2) (gsCons (gSet 3) (gsNil)))))
  (mRet (mOp2 true gDiv (mVar 2) (mVar 3)))))
abbrev m_choose : MF := mFun 5 b_choose
theorem ok_choose (T : Tx G mg) : FnG pw w G.K mg base 1 T.f_choose T.fd_choose ["many", "some"] (spP G 2 m_choose) :=
  fn_pure (n := 5) (m := b_choose) T.F_choose sc_choose rfl fun cdv A outer s H E hcd hr => (show _ from
  (rb_cons (rs_if ((rw_or (rt_cmp o_lt (r_var (i := 1) rfl (.inl rfl)) r_int (nomark _)) (rw_or1 (rt_cmp o_gt (r_var (i := 1) rfl (.inl rfl)) (r_var (i := 0) rfl (.inl rfl)) (nomark _))))).t
  (rb_one (rs_ret r_int))
  rb_nil)
  (rb_cons (rs_asg (r_tup (ra_cons r_int (ra_cons r_int ra_nil))) (rg_tup rfl rfl (rgs_cons (rg_name (i := 2) sc_choose.nd rfl (.inl rfl) (by decide) (by decide)) (rgs_cons (rg_name (i := 3) sc_choose.nd rfl (.inl rfl) (by decide) (by decide)) rgs_nil))))
  (rb_cons (rs_for (passes_of rfl) rfl (ri_rng1 (by rfl) T.z_range (ra_cons (r_var (i := 1) rfl (.inl rfl)) ra_nil)) (rg_name (i := 4) sc_choose.nd rfl (.inl rfl) (by decide) (by decide))
  (rb_one (rs_par2 (i := 2) (j := 3) rfl sc_choose.nd rfl rfl (by decide) (by decide) (by decide) (by decide) (by decide) rfl rfl (ra_cons (r_bin o_mul (r_var (i := 2) rfl (.inl rfl)) (r_bin o_subI (r_var (i := 0) rfl (.inl rfl)) (r_var (i := 4) rfl (.inl rfl)))) (ra_cons (r_bin o_mul (r_var (i := 3) rfl (.inl rfl)) (r_bin (o_add rfl) (r_var (i := 4) rfl (.inl rfl)) r_int)) ra_nil)) (by rfl))))
  (rb_one (rs_ret (r_bin o_fdiv (r_var (i := 2) rfl (.inl rfl)) (r_var (i := 3) rfl (.inl rfl)))))))))
def b_shares_by : S := mSeq (mAsg (mLst (mNil)) (gSet 4))
  (mSeq (mFor (mRng1 (mCons true (mOp2 true oAdd (mVar 3) (mC (.int 1))) (mNil))) (gSet 5)
  (mSeq (mPar (mCons true (mOp2 true oMul (mVar 2) (mCall m_choose (mCons true (mOp2 true gSub (mVar 0) (mVar 5)) (mCons true (mOp2 true gSub (mVar 3) (mVar 5)) (mNil))))) (mCons true (mCall m_choose (mCons true (mOp2 true gSub (mVar 1) (mVar 5)) (mCons true (mOp2 true gSub (mVar 3) (mVar 5)) (mNil)))) (mNil))) (gsCons (gSet 6) (gsCons (gSet 7) (gsNil))))
  (mSeq (mIfS (mB (mOp2 true gNe (mOp2 true gMod (mVar 6) (mVar 7)) (mC (.int 0))))
  (mRet (mC .non))
  (mSkip))
  (mExpr (mMeth gApp 4 (mCons true (mOp2 true gDiv (mVar 6) (mVar 7)) (mNil)))))))
  (mRet (mVarM 4)))
abbrev m_shares_by : MF := mFun 8 b_shares_by
theorem ok_shares_by (T : Tx G mg) : FnG pw w G.K mg base 2 T.f_shares_by T.fd_shares_by ["points", "size", "many", "told"] (spP G 4 m_shares_by) :=
  fn_pure (n := 8) (m := b_shares_by) T.F_shares_by sc_shares_by rfl fun cdv A outer s H E hcd hr => (show _ from
  (rb_cons (rs_set (i := 4) sc_shares_by.nd rfl (.inl rfl) (by decide) (by decide) (r_lst ra_nil))
  (rb_cons (rs_for (passes_of rfl) rfl (ri_rng1 (by rfl) T.z_range (ra_cons (r_bin (o_add rfl) (r_var (i := 3) rfl (.inl rfl)) r_int) ra_nil)) (rg_name (i := 5) sc_shares_by.nd rfl (.inl rfl) (by decide) (by decide))
  (rb_cons (rs_par2 (i := 6) (j := 7) rfl sc_shares_by.nd rfl rfl (by decide) (by decide) (by decide) (by decide) (by decide) rfl rfl (ra_cons (r_bin o_mul (r_var (i := 2) rfl (.inl rfl)) (r_call (ok_choose T) (hr.mono (by decide)) (by rfl) T.g_choose T.F_choose.kp T.b_choose (takes_of rfl rfl rfl rfl) (ra_cons (r_bin o_subI (r_var (i := 0) rfl (.inl rfl)) (r_var (i := 5) rfl (.inl rfl))) (ra_cons (r_bin o_subI (r_var (i := 3) rfl (.inl rfl)) (r_var (i := 5) rfl (.inl rfl))) ra_nil)) (mCons_len (mCons_len mNil_len)))) (ra_cons (r_call (ok_choose T) (hr.mono (by decide)) (by rfl) T.g_choose T.F_choose.kp T.b_choose (takes_of rfl rfl rfl rfl) (ra_cons (r_bin o_subI (r_var (i := 1) rfl (.inl rfl)) (r_var (i := 5) rfl (.inl rfl))) (ra_cons (r_bin o_subI (r_var (i := 3) rfl (.inl rfl)) (r_var (i := 5) rfl (.inl rfl))) ra_nil)) (mCons_len (mCons_len mNil_len))) ra_nil)) (by rfl))
  (rb_cons (rs_if (rt_cmp (o_ne rfl hr.n) (r_bin o_mod (r_var (i := 6) rfl (.inl rfl)) (r_var (i := 7) rfl (.inl rfl))) r_int (nomark _))
  (rb_one (rs_ret r_non))
  rb_nil)
  (rb_one (rs_expr (r_meth (i := 4) PySem.F.slot_list_append PySem.F.type_list_append mt_append mu_append rfl (.inl rfl) (ra_cons (r_bin o_fdiv (r_var (i := 6) rfl (.inl rfl)) (r_var (i := 7) rfl (.inl rfl))) ra_nil)))))))
  (rb_one (rs_ret (r_varM (i := 4) rfl (.inl rfl)))))))
def b_shares : S := mSeq (mExpr (mCall m_check_numbers (mCons true (mVar 0) (mCons true (mVar 1) (mCons true (mVar 2) (mCons true (mVar 3) (mNil)))))))
  (mRet (mCall m_shares_by (mCons true (mVar 0) (mCons true (mVar 1) (mCons true (mVar 2) (mCons true (mVar 3) (mNil)))))))
abbrev m_shares : MF := mFun 4 b_shares
theorem ok_shares (T : Tx G mg) : FnG pw w G.K mg base 4 T.f_shares T.fd_shares ["points", "size", "many", "told"] (spP G 4 m_shares) :=
  fn_pure (n := 4) (m := b_shares) T.F_shares sc_shares rfl fun cdv A outer s H E hcd hr => (show _ from
  (rb_cons (rs_expr (r_call (ok_check_numbers T) (hr.mono (by decide)) (by rfl) T.g_check_numbers T.F_check_numbers.kp T.b_check_numbers (takes_of rfl rfl rfl rfl) (ra_cons (r_var (i := 0) rfl (.inl rfl)) (ra_cons (r_var (i := 1) rfl (.inl rfl)) (ra_cons (r_var (i := 2) rfl (.inl rfl)) (ra_cons (r_var (i := 3) rfl (.inl rfl)) ra_nil)))) (mCons_len (mCons_len (mCons_len (mCons_len mNil_len))))))
  (rb_one (rs_ret (r_call (ok_shares_by T) (hr.mono (by decide)) (by rfl) T.g_shares_by T.F_shares_by.kp T.b_shares_by (takes_of rfl rfl rfl rfl) (ra_cons (r_var (i := 0) rfl (.inl rfl)) (ra_cons (r_var (i := 1) rfl (.inl rfl)) (ra_cons (r_var (i := 2) rfl (.inl rfl)) (ra_cons (r_var (i := 3) rfl (.inl rfl)) ra_nil)))) (mCons_len (mCons_len (mCons_len (mCons_len mNil_len)))))))))
def b_is_fisher : S := mSeq (mAsg (mFz (mCall m_shares (mCons true (mVar 0) (mCons true (mVar 1) (mCons true (mVar 2) (mCons true (mOpN (g2 kMin2) (mCons true (mC (.int 2)) (mCons true (mVar 1) (mNil)))) (mNil))))))) (gSet 3))
  (mRet (mAnd (mOp2 true (gIs true) (mVar 3) (mC .non)) (mOr (mOp2 true gGe (mVar 1) (mVar 0)) (mOp2 true gGe (mIdx true (mVar 3) (mC (.int 0))) (mVar 0)))))
abbrev m_is_fisher : MF := mFun 4 b_is_fisher
theorem ok_is_fisher (T : Tx G mg) : FnG pw w G.K mg base 5 T.f_is_fisher T.fd_is_fisher ["points", "size", "many"] (spP G 3 m_is_fisher) :=
  fn_pure (n := 4) (m := b_is_fisher) T.F_is_fisher sc_is_fisher rfl fun cdv A outer s H E hcd hr => (show _ from
  (rb_cons (rs_set (i := 3) sc_is_fisher.nd rfl (.inl rfl) (by decide) (by decide) (r_fz (r_call (ok_shares T) (hr.mono (by decide)) (by rfl) T.g_shares T.F_shares.kp T.b_shares (takes_of rfl rfl rfl rfl) (ra_cons (r_var (i := 0) rfl (.inl rfl)) (ra_cons (r_var (i := 1) rfl (.inl rfl)) (ra_cons (r_var (i := 2) rfl (.inl rfl)) (ra_cons (r_callB (o_min2 rfl) (by rfl) T.z_min bo_min (ra_cons r_int (ra_cons (r_var (i := 1) rfl (.inl rfl)) ra_nil))) ra_nil)))) (mCons_len (mCons_len (mCons_len (mCons_len mNil_len)))))))
  (rb_one (rs_ret (r_and (r_cmp o_isnot (r_var (i := 3) rfl (.inl rfl)) r_non (nomark _)) (r_one (r_or (r_cmp o_ge (r_var (i := 1) rfl (.inl rfl)) (r_var (i := 0) rfl (.inl rfl)) (nomark _)) (r_one (r_cmp o_ge (r_idx hr.n rfl (r_var (i := 3) rfl (.inl rfl)) r_int (fun _ _ => rfl)) (r_var (i := 0) rfl (.inl rfl)) (nomark _))))))))))
def b_outside_counts : S := mSeq (mAsg (mFz (mCall m_shares (mCons true (mVar 0) (mCons true (mVar 1) (mCons true (mVar 2) (mCons true (mVar 3) (mNil))))))) (gSet 4))
  (mSeq (mIfS (mB (mOp2 true (gIs false) (mVar 4) (mC .non)))
  (mRet (mC .non))
  (mSkip))
  (mSeq (mAsg (mLst (mCons true (mVar 4) (mNil))) (gSet 5))
  (mSeq (mWhile (mB (mOp2 true gGt (mOpN (g1 kLen) (mCons true (mIdx true (mVar 5) (mOp1 gNeg (mC (.int 1)))) (mNil))) (mC (.int 1))))
  (mSeq (mAsg (mFz (mIdx true (mVar 5) (mOp1 gNeg (mC (.int 1))))) (gSet 6))
  (mExpr (mMeth gApp 5 (mCons true (mFz (mComp true [7, 8] 0 (mZip (mCons true (mVar 6) (mCons true (mSl (mVar 6) (mPart (mC (.int 1))) mNoPart) (mNil)))) (gTupM (gsCons (gSet 7) (gsCons (gSet 8) (gsNil))) 2) (mC (.bl true)) (mOp2 true gSub (mVar 7) (mVar 8)))) (mNil))))))
  (mRet (mVarM 5)))))
abbrev m_outside_counts : MF := mFun 9 b_outside_counts
theorem ok_outside_counts (T : Tx G mg) : FnG pw w G.K mg base 5 T.f_outside_counts T.fd_outside_counts ["points", "size", "many", "told"] (spP G 4 m_outside_counts) :=
  fn_pure (n := 9) (m := b_outside_counts) T.F_outside_counts sc_outside_counts rfl fun cdv A outer s H E hcd hr => (show _ from
  (rb_cons (rs_set (i := 4) sc_outside_counts.nd rfl (.inl rfl) (by decide) (by decide) (r_fz (r_call (ok_shares T) (hr.mono (by decide)) (by rfl) T.g_shares T.F_shares.kp T.b_shares (takes_of rfl rfl rfl rfl) (ra_cons (r_var (i := 0) rfl (.inl rfl)) (ra_cons (r_var (i := 1) rfl (.inl rfl)) (ra_cons (r_var (i := 2) rfl (.inl rfl)) (ra_cons (r_var (i := 3) rfl (.inl rfl)) ra_nil)))) (mCons_len (mCons_len (mCons_len (mCons_len mNil_len)))))))
  (rb_cons (rs_if (rt_cmp o_is (r_var (i := 4) rfl (.inl rfl)) r_non (nomark _))
  (rb_one (rs_ret r_non))
  rb_nil)
  (rb_cons (rs_set (i := 5) sc_outside_counts.nd rfl (.inl rfl) (by decide) (by decide) (r_lst (ra_cons (r_var (i := 4) rfl (.inl rfl)) ra_nil)))
  (rb_cons (rs_while (passes_of rfl) (rt_cmp o_gt (r_callB (o_len rfl) (by rfl) T.z_len bo_len (ra_cons (r_idx hr.n rfl (r_var (i := 5) rfl (.inl rfl)) (r_un o_neg r_int) (fun _ _ => rfl)) ra_nil)) r_int (nomark _))
  (rb_cons (rs_set (i := 6) sc_outside_counts.nd rfl (.inl rfl) (by decide) (by decide) (r_fz (r_idx hr.n rfl (r_var (i := 5) rfl (.inl rfl)) (r_un o_neg r_int) (fun _ _ => rfl))))
  (rb_one (rs_expr (r_meth (i := 5) PySem.F.slot_list_append PySem.F.type_list_append mt_append mu_append rfl (.inl rfl) (ra_cons (r_fz (r_comp 0 [7, 8] rfl sc_outside_counts.nd (ri_zip rfl (by rfl) T.z_zip (ra_cons (r_var (i := 6) rfl (.inl rfl)) (ra_cons (r_slice rfl (r_var (i := 6) rfl (.inl rfl)) (ro_some r_int) ro_none) ra_nil))) (blkOk_by (N := N_outside_counts) (sc := (defScope s_outside_counts)) (own := [("one", 7), ("other", 8)]) (by decide +kernel)) rfl (gin_tup (gsin_cons (gin_set (by decide)) (gsin_cons (gin_set (by decide)) gsin_nil))) (fun _ _ _ _ _ => (rg_tup rfl rfl (rgs_cons (rg_name (i := 7) sc_outside_counts.nd rfl (.inl rfl) (by show 7 ∉ outPin 9 [7, 8]; decide) (by show 7 < 9; decide) (.inr rfl)) (rgs_cons (rg_name (i := 8) sc_outside_counts.nd rfl (.inl rfl) (by show 8 ∉ outPin 9 [7, 8]; decide) (by show 8 < 9; decide) (.inr rfl)) rgs_nil)))) (fun _ _ _ _ _ => rts_nil) (fun _ _ _ _ _ => (r_bin o_subI (r_var (i := 7) rfl (.inl rfl)) (r_var (i := 8) rfl (.inl rfl)))))) ra_nil))))))
  (rb_one (rs_ret (r_varM (i := 5) rfl (.inl rfl)))))))))
def b__law_family_right : S := mSeq (mAsg (mCallI 0 1 m__law_even (mNil)) (gTupM (gsCons (gSet 1) (gsCons (gSet 2) (gsNil))) 2))
  (mSeq (mAsg (mOpN (g1 kLen) (mCons true (mIdx true (mVar 2) (mC (.int 0))) (mNil))) (gSet 3))
  (mSeq (mAsg (mOpN (g1 kLen) (mCons true (mComp true [11] 0 (mSeqI (mVar 2)) (gSet 11) (mAnd (mB (mOp2 true oIn (mC (.int 0)) (mVar 11))) (mB (mOp2 true oIn (mC (.int 1)) (mVar 11)))) (mVar 11)) (mNil))) (gSet 4))
  (mSeq (mAsg (mFz (mCall m_shares (mCons true (mVar 1) (mCons true (mVar 3) (mCons true (mVar 4) (mCons true (mC (.int 2)) (mNil))))))) (gSet 5))
  (mSeq (mIfS (mOr (mB (mOp2 true gNe (mVar 5) (mLst (mCons true (mOpN (g1 kLen) (mCons true (mVar 2) (mNil))) (mCons true (mOpN (g1 kLen) (mCons true (mComp true [11] 0 (mSeqI (mVar 2)) (gSet 11) (mB (mOp2 true oIn (mC (.int 0)) (mVar 11))) (mVar 11)) (mNil))) (mCons true (mVar 4) (mNil))))))) (mNot (mTr (mCall m_is_fisher (mCons true (mVar 1) (mCons true (mVar 3) (mCons true (mVar 4) (mNil))))))))
  (mRet (mC (.bl false)))
  (mSkip))
  (mSeq (mAsg (mFz (mCall m_outside_counts (mCons true (mVar 1) (mCons true (mVar 3) (mCons true (mVar 4) (mCons true (mC (.int 2)) (mNil))))))) (gSet 6))
  (mSeq (mFor (mRng1 (mCons true (mC (.int 3)) (mNil))) (gSet 7)
  (mFor (mRng1 (mCons true (mOp2 true gSub (mC (.int 3)) (mVar 7)) (mNil))) (gSet 8)
  (mSeq (mAsg (mFz (mComp true [11] 0 (mSeqI (mVar 2)) (gSet 11) (mTr (mOpN (g1 kAll) (mCons true (mComp true [12] 0 (mRng1 (mCons true (mVar 8) (mNil))) (gSet 12) (mC (.bl true)) (mOp2 true oIn (mVar 12) (mVar 11))) (mNil)))) (mVar 11))) (gSet 9))
  (mSeq (mAsg (mFz (mComp true [11] 0 (mSeqI (mVar 9)) (gSet 11) (mNot (mTr (mOpN (g1 kAny) (mCons true (mComp true [12] 0 (mRng2 (mCons true (mVar 8) (mCons true (mOp2 true oAdd (mVar 8) (mVar 7)) (mNil)))) (gSet 12) (mC (.bl true)) (mOp2 true oIn (mVar 12) (mVar 11))) (mNil))))) (mVar 11))) (gSet 10))
  (mIfS (mB (mOp2 true gNe (mIdx true (mIdx true (mVar 6) (mVar 7)) (mVar 8)) (mOpN (g1 kLen) (mCons true (mVar 10) (mNil)))))
  (mRet (mC (.bl false)))
  (mSkip))))))
  (mRet (mC (.bl true)))))))))
abbrev m__law_family_right : MF := mFunI 13 1 b__law_family_right
theorem ok__law_family_right (T : Tx G mg) : FnG pw w G.K mg base 6 T.f__law_family_right T.fd__law_family_right ["hand"] (spI G 1 1 m__law_family_right) :=
  fn_io (n := 13) (m := b__law_family_right) T.F__law_family_right sc__law_family_right rfl fun cdv A outer s H E hcd hr => (show _ from
  (rb_cons (rs_asg (r_callI (i := 0) (ok__law_even T) (hr.mono (by decide)) (by rfl) T.g__law_even T.F__law_even.kp T.b__law_even (takes_of rfl rfl rfl rfl) rfl (.inl rfl) ra_nil (fun ρ rs ρ2 e => by rw [mNil_len ρ rs ρ2 e]; rfl)) (rg_tup rfl rfl (rgs_cons (rg_name (i := 1) sc__law_family_right.nd rfl (.inl rfl) (by decide) (by decide)) (rgs_cons (rg_name (i := 2) sc__law_family_right.nd rfl (.inl rfl) (by decide) (by decide)) rgs_nil))))
  (rb_cons (rs_set (i := 3) sc__law_family_right.nd rfl (.inl rfl) (by decide) (by decide) (r_callB (o_len rfl) (by rfl) T.z_len bo_len (ra_cons (r_idx hr.n rfl (r_var (i := 2) rfl (.inl rfl)) r_int (fun _ _ => rfl)) ra_nil)))
  (rb_cons (rs_set (i := 4) sc__law_family_right.nd rfl (.inl rfl) (by decide) (by decide) (r_callB (o_len rfl) (by rfl) T.z_len bo_len (ra_cons (r_comp 0 [11] rfl sc__law_family_right.nd (ri_seq rfl (r_var (i := 2) rfl (.inl rfl))) (blkOk_by (N := N__law_family_right) (sc := (defScope s__law_family_right)) (own := [("lot", 11)]) (by decide +kernel)) rfl (gin_set (by decide)) (fun _ _ _ _ _ => (rg_name (i := 11) sc__law_family_right.nd rfl (by first | exact .inl rfl | exact .inr rfl) (by show 11 ∉ outPin 13 [11]; decide) (by show 11 < 13; decide) (by first | exact .inr rfl | exact .inl rfl))) (fun _ _ _ _ _ => (rts_one ((rw_and (rt_cmp (o_inA rfl hr.n) r_int (r_var (i := 11) rfl (by first | exact .inl rfl | exact .inr (.inl rfl) | exact .inr (.inr rfl))) (by rfl)) (rw_and1 (rt_cmp (o_inA rfl hr.n) r_int (r_var (i := 11) rfl (by first | exact .inl rfl | exact .inr (.inl rfl) | exact .inr (.inr rfl))) (by rfl))))).t)) (fun _ _ _ _ _ => (r_var (i := 11) rfl (by first | exact .inl rfl | exact .inr (.inl rfl) | exact .inr (.inr rfl))))) ra_nil)))
  (rb_cons (rs_set (i := 5) sc__law_family_right.nd rfl (.inl rfl) (by decide) (by decide) (r_fz (r_call (ok_shares T) (hr.mono (by decide)) (by rfl) T.g_shares T.F_shares.kp T.b_shares (takes_of rfl rfl rfl rfl) (ra_cons (r_var (i := 1) rfl (.inl rfl)) (ra_cons (r_var (i := 3) rfl (.inl rfl)) (ra_cons (r_var (i := 4) rfl (.inl rfl)) (ra_cons r_int ra_nil)))) (mCons_len (mCons_len (mCons_len (mCons_len mNil_len)))))))
  (rb_cons (rs_if ((rw_or (rt_cmp (o_ne rfl hr.n) (r_var (i := 5) rfl (.inl rfl)) (r_lst (ra_cons (r_callB (o_len rfl) (by rfl) T.z_len bo_len (ra_cons (r_var (i := 2) rfl (.inl rfl)) ra_nil)) (ra_cons (r_callB (o_len rfl) (by rfl) T.z_len bo_len (ra_cons (r_comp 0 [11] rfl sc__law_family_right.nd (ri_seq rfl (r_var (i := 2) rfl (.inl rfl))) (blkOk_by (N := N__law_family_right) (sc := (defScope s__law_family_right)) (own := [("lot", 11)]) (by decide +kernel)) rfl (gin_set (by decide)) (fun _ _ _ _ _ => (rg_name (i := 11) sc__law_family_right.nd rfl (by first | exact .inl rfl | exact .inr rfl) (by show 11 ∉ outPin 13 [11]; decide) (by show 11 < 13; decide) (by first | exact .inr rfl | exact .inl rfl))) (fun _ _ _ _ _ => (rts_one (rt_cmp (o_inA rfl hr.n) r_int (r_var (i := 11) rfl (by first | exact .inl rfl | exact .inr (.inl rfl) | exact .inr (.inr rfl))) (by rfl)))) (fun _ _ _ _ _ => (r_var (i := 11) rfl (by first | exact .inl rfl | exact .inr (.inl rfl) | exact .inr (.inr rfl))))) ra_nil)) (ra_cons (r_var (i := 4) rfl (.inl rfl)) ra_nil)))) (nomark _)) (rw_or1 (rt_not (rt_truth rfl (r_call (ok_is_fisher T) (hr.mono (by decide)) (by rfl) T.g_is_fisher T.F_is_fisher.kp T.b_is_fisher (takes_of rfl rfl rfl rfl) (ra_cons (r_var (i := 1) rfl (.inl rfl)) (ra_cons (r_var (i := 3) rfl (.inl rfl)) (ra_cons (r_var (i := 4) rfl (.inl rfl)) ra_nil))) (mCons_len (mCons_len (mCons_len mNil_len))))))))).t
  (rb_one (rs_ret r_bl))
  rb_nil)
  (rb_cons (rs_set (i := 6) sc__law_family_right.nd rfl (.inl rfl) (by decide) (by decide) (r_fz (r_call (ok_outside_counts T) (hr.mono (by decide)) (by rfl) T.g_outside_counts T.F_outside_counts.kp T.b_outside_counts (takes_of rfl rfl rfl rfl) (ra_cons (r_var (i := 1) rfl (.inl rfl)) (ra_cons (r_var (i := 3) rfl (.inl rfl)) (ra_cons (r_var (i := 4) rfl (.inl rfl)) (ra_cons r_int ra_nil)))) (mCons_len (mCons_len (mCons_len (mCons_len mNil_len)))))))
  (rb_cons (rs_for (passes_of rfl) rfl (ri_rng1 (by rfl) T.z_range (ra_cons r_int ra_nil)) (rg_name (i := 7) sc__law_family_right.nd rfl (.inr rfl) (by decide) (by decide))
  (rb_one (rs_for (passes_of rfl) rfl (ri_rng1 (by rfl) T.z_range (ra_cons (r_bin o_subI r_int (r_var (i := 7) rfl (.inr (.inl rfl)))) ra_nil)) (rg_name (i := 8) sc__law_family_right.nd rfl (.inr rfl) (by decide) (by decide))
  (rb_cons (rs_setcF (i := 9) 0 [11] rfl sc__law_family_right.nd rfl rfl rfl (by decide) (by show 9 < 13; decide) (sw_true rfl rfl rfl (by decide +kernel)) (ri_seq rfl (r_var (i := 2) rfl (.inl rfl))) (blkOk_by (N := N__law_family_right) (sc := (defScope s__law_family_right)) (own := [("lot", 11)]) (by decide +kernel)) rfl (gin_set (by decide)) (fun _ _ _ _ _ => (rg_name (i := 11) sc__law_family_right.nd rfl (by first | exact .inl rfl | exact .inr rfl) (by show 11 ∉ outPin 13 [11]; decide) (by show 11 < 13; decide) (by first | exact .inr rfl | exact .inl rfl))) (fun _ _ _ _ _ => (rts_one (rt_truth rfl (r_callB (o_all rfl) (by rfl) T.z_all bo_all (ra_cons (r_comp 0 [12] rfl sc__law_family_right.nd (ri_rng1 (by rfl) T.z_range (ra_cons (r_var (i := 8) rfl (.inr (.inl rfl))) ra_nil)) (blkOk_by (N := N__law_family_right) (own := [("point", 12)]) (by kernel_rfl)) rfl (gin_set (by decide)) (fun _ _ _ _ _ => (rg_name (i := 12) sc__law_family_right.nd rfl (.inl rfl) (by show 12 ∉ outPin 13 [12]; decide) (by show 12 < 13; decide) (.inr rfl))) (fun _ _ _ _ _ => rts_nil) (fun _ _ _ _ _ => (r_cmp (o_inA rfl hr.n) (r_var (i := 12) rfl (by first | exact .inl rfl | exact .inr (.inl rfl) | exact .inr (.inr rfl))) (r_var (i := 11) rfl (by first | exact .inl rfl | exact .inr (.inl rfl) | exact .inr (.inr rfl))) (by rfl)))) ra_nil))))) (fun _ _ _ _ _ => (r_var (i := 11) rfl (by first | exact .inl rfl | exact .inr (.inl rfl) | exact .inr (.inr rfl)))))
  (rb_cons (rs_setcF (i := 10) 0 [11] rfl sc__law_family_right.nd rfl rfl rfl (by decide) (by show 10 < 13; decide) (sw_true rfl rfl rfl (by decide +kernel)) (ri_seq rfl (r_var (i := 9) rfl (.inl rfl))) (blkOk_by (N := N__law_family_right) (sc := (defScope s__law_family_right)) (own := [("lot", 11)]) (by decide +kernel)) rfl (gin_set (by decide)) (fun _ _ _ _ _ => (rg_name (i := 11) sc__law_family_right.nd rfl (by first | exact .inl rfl | exact .inr rfl) (by show 11 ∉ outPin 13 [11]; decide) (by show 11 < 13; decide) (by first | exact .inr rfl | exact .inl rfl))) (fun _ _ _ _ _ => (rts_one (rt_not (rt_truth rfl (r_callB (o_any rfl) (by rfl) T.z_any bo_any (ra_cons (r_comp 0 [12] rfl sc__law_family_right.nd (ri_rng2 (by rfl) T.z_range (ra_cons (r_var (i := 8) rfl (.inr (.inl rfl))) (ra_cons (r_bin (o_add rfl) (r_var (i := 8) rfl (.inr (.inl rfl))) (r_var (i := 7) rfl (.inr (.inl rfl)))) ra_nil))) (blkOk_by (N := N__law_family_right) (own := [("point", 12)]) (by kernel_rfl)) rfl (gin_set (by decide)) (fun _ _ _ _ _ => (rg_name (i := 12) sc__law_family_right.nd rfl (.inl rfl) (by show 12 ∉ outPin 13 [12]; decide) (by show 12 < 13; decide) (.inr rfl))) (fun _ _ _ _ _ => rts_nil) (fun _ _ _ _ _ => (r_cmp (o_inA rfl hr.n) (r_var (i := 12) rfl (by first | exact .inl rfl | exact .inr (.inl rfl) | exact .inr (.inr rfl))) (r_var (i := 11) rfl (by first | exact .inl rfl | exact .inr (.inl rfl) | exact .inr (.inr rfl))) (by rfl)))) ra_nil)))))) (fun _ _ _ _ _ => (r_var (i := 11) rfl (by first | exact .inl rfl | exact .inr (.inl rfl) | exact .inr (.inr rfl)))))
  (rb_one (rs_if (rt_cmp (o_ne rfl hr.n) (r_idx hr.n rfl (r_idx hr.n rfl (r_var (i := 6) rfl (.inl rfl)) (r_var (i := 7) rfl (.inr (.inl rfl))) (fun _ _ => rfl)) (r_var (i := 8) rfl (.inr (.inl rfl))) (fun _ _ => rfl)) (r_callB (o_len rfl) (by rfl) T.z_len bo_len (ra_cons (r_var (i := 10) rfl (.inl rfl)) ra_nil)) (nomark _))
  (rb_one (rs_ret r_bl))
  rb_nil)))))))
  (rb_one (rs_ret r_bl))))))))))
def b__law_over : S := mSeq (mAsg (mC (.int 1)) (gSet 2))
  (mSeq (mFor (mRng1 (mCons true (mVar 1) (mNil))) (gSet 3)
  (mAsg (mOp2 true gDiv (mOp2 true oMul (mVar 2) (mOp2 true gSub (mVar 0) (mVar 3))) (mOp2 true oAdd (mVar 3) (mC (.int 1)))) (gSet 2)))
  (mRet (mIf (mB (mChain true true gLe gLe (mC (.int 0)) (mVar 1) (mVar 0))) (mVar 2) (mC (.int 0)))))
abbrev m__law_over : MF := mFun 4 b__law_over
theorem ok__law_over (T : Tx G mg) : FnG pw w G.K mg base 1 T.f__law_over T.fd__law_over ["many", "few"] (spP G 2 m__law_over) :=
  fn_pure (n := 4) (m := b__law_over) T.F__law_over sc__law_over rfl fun cdv A outer s H E hcd hr => (show _ from
  (rb_cons (rs_set (i := 2) sc__law_over.nd rfl (.inl rfl) (by decide) (by decide) r_int)
  (rb_cons (rs_for (passes_of rfl) rfl (ri_rng1 (by rfl) T.z_range (ra_cons (r_var (i := 1) rfl (.inl rfl)) ra_nil)) (rg_name (i := 3) sc__law_over.nd rfl (.inl rfl) (by decide) (by decide))
  (rb_one (rs_set (i := 2) sc__law_over.nd rfl (.inl rfl) (by decide) (by decide) (r_bin o_fdiv (r_bin o_mul (r_var (i := 2) rfl (.inl rfl)) (r_bin o_subI (r_var (i := 0) rfl (.inl rfl)) (r_var (i := 3) rfl (.inl rfl)))) (r_bin (o_add rfl) (r_var (i := 3) rfl (.inl rfl)) r_int)))))
  (rb_one (rs_ret (r_if (rt_chain o_le o_le r_int (r_var (i := 1) rfl (.inl rfl)) (r_var (i := 0) rfl (.inl rfl))) (r_var (i := 2) rfl (.inl rfl)) r_int))))))
def b__law_shares : S := mSeq (mAsg (mLst (mNil)) (gSet 4))
  (mSeq (mFor (mRng1 (mCons true (mOp2 true oAdd (mVar 3) (mC (.int 1))) (mNil))) (gSet 5)
  (mSeq (mPar (mCons true (mOp2 true oMul (mVar 2) (mCall m__law_over (mCons true (mOp2 true gSub (mVar 0) (mVar 5)) (mCons true (mOp2 true gSub (mVar 3) (mVar 5)) (mNil))))) (mCons true (mCall m__law_over (mCons true (mOp2 true gSub (mVar 1) (mVar 5)) (mCons true (mOp2 true gSub (mVar 3) (mVar 5)) (mNil)))) (mNil))) (gsCons (gSet 6) (gsCons (gSet 7) (gsNil))))
  (mSeq (mIfS (mB (mOp2 true gNe (mOp2 true gMod (mOpN (g1 kInt) (mCons true (mVar 6) (mNil))) (mVar 7)) (mC (.int 0))))
  (mRet (mC .non))
  (mSkip))
  (mExpr (mMeth gApp 4 (mCons true (mOp2 true gDiv (mVar 6) (mVar 7)) (mNil)))))))
  (mRet (mVarM 4)))
abbrev m__law_shares : MF := mFun 8 b__law_shares
theorem ok__law_shares (T : Tx G mg) : FnG pw w G.K mg base 2 T.f__law_shares T.fd__law_shares ["points", "size", "many", "told"] (spP G 4 m__law_shares) :=
  fn_pure (n := 8) (m := b__law_shares) T.F__law_shares sc__law_shares rfl fun cdv A outer s H E hcd hr => (show _ from
  (rb_cons (rs_set (i := 4) sc__law_shares.nd rfl (.inl rfl) (by decide) (by decide) (r_lst ra_nil))
  (rb_cons (rs_for (passes_of rfl) rfl (ri_rng1 (by rfl) T.z_range (ra_cons (r_bin (o_add rfl) (r_var (i := 3) rfl (.inl rfl)) r_int) ra_nil)) (rg_name (i := 5) sc__law_shares.nd rfl (.inl rfl) (by decide) (by decide))
  (rb_cons (rs_par2 (i := 6) (j := 7) rfl sc__law_shares.nd rfl rfl (by decide) (by decide) (by decide) (by decide) (by decide) rfl rfl (ra_cons (r_bin o_mul (r_var (i := 2) rfl (.inl rfl)) (r_call (ok__law_over T) (hr.mono (by decide)) (by rfl) T.g__law_over T.F__law_over.kp T.b__law_over (takes_of rfl rfl rfl rfl) (ra_cons (r_bin o_subI (r_var (i := 0) rfl (.inl rfl)) (r_var (i := 5) rfl (.inl rfl))) (ra_cons (r_bin o_subI (r_var (i := 3) rfl (.inl rfl)) (r_var (i := 5) rfl (.inl rfl))) ra_nil)) (mCons_len (mCons_len mNil_len)))) (ra_cons (r_call (ok__law_over T) (hr.mono (by decide)) (by rfl) T.g__law_over T.F__law_over.kp T.b__law_over (takes_of rfl rfl rfl rfl) (ra_cons (r_bin o_subI (r_var (i := 1) rfl (.inl rfl)) (r_var (i := 5) rfl (.inl rfl))) (ra_cons (r_bin o_subI (r_var (i := 3) rfl (.inl rfl)) (r_var (i := 5) rfl (.inl rfl))) ra_nil)) (mCons_len (mCons_len mNil_len))) ra_nil)) (by rfl))
  (rb_cons (rs_if (rt_cmp (o_ne rfl hr.n) (r_bin o_mod (r_callTy o_int (by rfl) T.z_int bo_int (ra_cons (r_var (i := 6) rfl (.inl rfl)) ra_nil)) (r_var (i := 7) rfl (.inl rfl))) r_int (nomark _))
  (rb_one (rs_ret r_non))
  rb_nil)
  (rb_one (rs_expr (r_meth (i := 4) PySem.F.slot_list_append PySem.F.type_list_append mt_append mu_append rfl (.inl rfl) (ra_cons (r_bin o_fdiv (r_var (i := 6) rfl (.inl rfl)) (r_var (i := 7) rfl (.inl rfl))) ra_nil)))))))
  (rb_one (rs_ret (r_varM (i := 4) rfl (.inl rfl)))))))
def b__law_fisher : S := mSeq (mAsg (mFz (mIf (mB (mOp2 true gEq (mVar 1) (mC (.int 1)))) (mC (.int 1)) (mC (.int 2)))) (gSet 3))
  (mSeq (mAsg (mFz (mCall m__law_shares (mCons true (mVar 0) (mCons true (mVar 1) (mCons true (mVar 2) (mCons true (mVar 3) (mNil))))))) (gSet 4))
  (mRet (mAnd (mOp2 true (gIs true) (mVar 4) (mC .non)) (mOr (mOp2 true gGe (mVar 1) (mVar 0)) (mOp2 true gGe (mIdx true (mVar 4) (mC (.int 0))) (mVar 0))))))
abbrev m__law_fisher : MF := mFun 5 b__law_fisher
theorem ok__law_fisher (T : Tx G mg) : FnG pw w G.K mg base 3 T.f__law_fisher T.fd__law_fisher ["points", "size", "many"] (spP G 3 m__law_fisher) :=
  fn_pure (n := 5) (m := b__law_fisher) T.F__law_fisher sc__law_fisher rfl fun cdv A outer s H E hcd hr => (show _ from
  (rb_cons (rs_set (i := 3) sc__law_fisher.nd rfl (.inl rfl) (by decide) (by decide) (r_fz (r_if (rt_cmp (o_eq rfl hr.n) (r_var (i := 1) rfl (.inl rfl)) r_int (nomark _)) r_int r_int)))
  (rb_cons (rs_set (i := 4) sc__law_fisher.nd rfl (.inl rfl) (by decide) (by decide) (r_fz (r_call (ok__law_shares T) (hr.mono (by decide)) (by rfl) T.g__law_shares T.F__law_shares.kp T.b__law_shares (takes_of rfl rfl rfl rfl) (ra_cons (r_var (i := 0) rfl (.inl rfl)) (ra_cons (r_var (i := 1) rfl (.inl rfl)) (ra_cons (r_var (i := 2) rfl (.inl rfl)) (ra_cons (r_var (i := 3) rfl (.inl rfl)) ra_nil)))) (mCons_len (mCons_len (mCons_len (mCons_len mNil_len)))))))
  (rb_one (rs_ret (r_and (r_cmp o_isnot (r_var (i := 4) rfl (.inl rfl)) r_non (nomark _)) (r_one (r_or (r_cmp o_ge (r_var (i := 1) rfl (.inl rfl)) (r_var (i := 0) rfl (.inl rfl)) (nomark _)) (r_one (r_cmp o_ge (r_idx hr.n rfl (r_var (i := 4) rfl (.inl rfl)) r_int (fun _ _ => rfl)) (r_var (i := 0) rfl (.inl rfl)) (nomark _)))))))))))
def b__law_hand : S := mSeq (mAsg (mFz (mComp true [2] 0 (mSeqI (mSl (mVar 0) mNoPart (mPart (mC (.int 63))))) (gSet 2) (mC (.bl true)) (mOpN (g1 kAbs) (mCons true (mOpN (g1 kInt) (mCons true (mVar 2) (mNil))) (mNil))))) (gSet 1))
  (mRet (mLst (mCons true (mVar 1) (mCons true (mC (.int 0)) (mCons true (mC (.int 0)) (mCons true (mOp2 true oAdd (mC (.int 317)) (mOp2 true oMul (mC (.int 199)) (mOpN (g1 kLen) (mCons true (mVar 1) (mNil))))) (mCons true (mC (.int 0)) (mNil))))))))
abbrev m__law_hand : MF := mFun 3 b__law_hand
theorem ok__law_hand (T : Tx G mg) : FnG pw w G.K mg base 1 T.f__law_hand T.fd__law_hand ["script"] (spP G 1 m__law_hand) :=
  fn_pure (n := 3) (m := b__law_hand) T.F__law_hand sc__law_hand rfl fun cdv A outer s H E hcd hr => (show _ from
  (rb_cons (rs_setcF (i := 1) 0 [2] rfl sc__law_hand.nd rfl rfl rfl (by decide) (by show 1 < 3; decide) (sw_true rfl rfl rfl (by decide +kernel)) (ri_seq rfl (r_slice rfl (r_var (i := 0) rfl (.inl rfl)) ro_none (ro_some r_int))) (blkOk_by (N := N__law_hand) (sc := (defScope s__law_hand)) (own := [("cell", 2)]) (by decide +kernel)) rfl (gin_set (by decide)) (fun _ _ _ _ _ => (rg_name (i := 2) sc__law_hand.nd rfl (.inl rfl) (by show 2 ∉ outPin 3 [2]; decide) (by show 2 < 3; decide) (.inr rfl))) (fun _ _ _ _ _ => rts_nil) (fun _ _ _ _ _ => (r_callB o_abs (by rfl) T.z_abs bo_abs (ra_cons (r_callTy o_int (by rfl) T.z_int bo_int (ra_cons (r_var (i := 2) rfl (.inl rfl)) ra_nil)) ra_nil))))
  (rb_one (rs_ret (r_lst (ra_cons (r_var (i := 1) rfl (.inl rfl)) (ra_cons r_int (ra_cons r_int (ra_cons (r_bin (o_add rfl) r_int (r_bin o_mul r_int (r_callB (o_len rfl) (by rfl) T.z_len bo_len (ra_cons (r_var (i := 1) rfl (.inl rfl)) ra_nil)))) (ra_cons r_int ra_nil))))))))))
def h__law_is_refused : HF := mHelp 2 (mSkip) (fun o => mTry isx 1 (mOut .ex o) (mRet (mAnd (mOpN (gIsE isT) (mCons true (mVar 1) (mCons true (mC (.cls "NoNumber")) (mNil)))) (mOpN (gIsE isT) (mCons true (mVar 1) (mCons true (mC (.ty "ValueError")) (mNil))))))) (mRet (mC (.bl false)))
theorem helps__law_is_refused {X : Cx} (hK : X.K = G.K) (hea : G.ea = none) (T : Tx G X.mg) (cdv : Value) (q : Str) : Helps X G N__law_is_refused "_law_is_refused" (defScope s__law_is_refused) T.f__law_is_refused cdv (defBody s__law_is_refused) "call" q h__law_is_refused :=
  helps0 (n := 2) rfl (by decide) (fun f c2 s H σc m pu hr act => ps_thk (sh := .ex) (is := isx) (ie := 1) hea rfl rfl sc__law_is_refused.nd rfl rfl (by decide) (by decide) ⟨by rfl, by decide, .inl T.c_BlockError⟩ (fun c3 C3 b3 e1 e2 => by have q := hx_T T c3 C3 b3 e1 e2; rw [← hK] at q; exact q) (fun i e => nomatch e) (fun pn xe _ h => bd_ex h) (fun W pn xe tk => act W pn xe _ _ tk) (fun a oe cls dd pn e hE he => (fun (TS : Tx (G.err (a, e, dd)) (Cx.suite (gotX X C8.CX0 N__law_is_refused "_law_is_refused" (defScope s__law_is_refused) T.f__law_is_refused cdv s H C8.E0).nox a ((a, oe) :: pn)).mg) (hKS : (Cx.suite (gotX X C8.CX0 N__law_is_refused "_law_is_refused" (defScope s__law_is_refused) T.f__law_is_refused cdv s H C8.E0).nox a ((a, oe) :: pn)).K = (G.err (a, e, dd)).K) (hKG : (Cx.suite (gotX X C8.CX0 N__law_is_refused "_law_is_refused" (defScope s__law_is_refused) T.f__law_is_refused cdv s H C8.E0).nox a ((a, oe) :: pn)).K = G.K) (isE0 : IsE G isT) (hrs : Rn (Cx.suite (gotX X C8.CX0 N__law_is_refused "_law_is_refused" (defScope s__law_is_refused) T.f__law_is_refused cdv s H C8.E0).nox a ((a, oe) :: pn)).A) => (show _ from (rb_one (rs_ret (r_and (r_callB (o_isE hKG isE0 hE he) (by rfl) TS.z_isinstance bo_isinstance (ra_cons (r_var (i := 1) rfl (.inl rfl)) (ra_cons (r_cls TS.k_NoNumber (by rfl) TS.c_NoNumber) ra_nil))) (r_one (r_callB (o_isE hKG isE0 hE he) (by rfl) TS.z_isinstance bo_isinstance (ra_cons (r_var (i := 1) rfl (.inl rfl)) (ra_cons (r_tyn (by rfl) TS.z_ValueError bo_ValueError) ra_nil))))))))) (T.err _) hK hK (isE_T T) (hr.n.mark _))) (fun s H hr => (fun (TS : Tx G (gotX X C8.CX0 N__law_is_refused "_law_is_refused" (defScope s__law_is_refused) T.f__law_is_refused cdv s H C8.E0).nox.mg) (hKS : (gotX X C8.CX0 N__law_is_refused "_law_is_refused" (defScope s__law_is_refused) T.f__law_is_refused cdv s H C8.E0).nox.K = G.K) => (show _ from (rb_one (rs_ret r_bl)))) T hK)
def b_is_square_family : S := mSeq (mExpr (mCall m_check_numbers (mCons true (mVar 0) (mCons true (mVar 1) (mCons true (mVar 2) (mCons true (mOpN (g2 kMin2) (mCons true (mC (.int 2)) (mCons true (mVar 1) (mNil)))) (mNil)))))))
  (mRet (mOp2 true gEq (mOp2 true oMul (mVar 2) (mOp2 true gSub (mVar 0) (mC (.int 1)))) (mOp2 true oMul (mVar 1) (mOp2 true gSub (mVar 1) (mC (.int 1))))))
abbrev m_is_square_family : MF := mFun 3 b_is_square_family
theorem ok_is_square_family (T : Tx G mg) : FnG pw w G.K mg base 4 T.f_is_square_family T.fd_is_square_family ["points", "size", "many"] (spP G 3 m_is_square_family) :=
  fn_pure (n := 3) (m := b_is_square_family) T.F_is_square_family sc_is_square_family rfl fun cdv A outer s H E hcd hr => (show _ from
  (rb_cons (rs_expr (r_call (ok_check_numbers T) (hr.mono (by decide)) (by rfl) T.g_check_numbers T.F_check_numbers.kp T.b_check_numbers (takes_of rfl rfl rfl rfl) (ra_cons (r_var (i := 0) rfl (.inl rfl)) (ra_cons (r_var (i := 1) rfl (.inl rfl)) (ra_cons (r_var (i := 2) rfl (.inl rfl)) (ra_cons (r_callB (o_min2 rfl) (by rfl) T.z_min bo_min (ra_cons r_int (ra_cons (r_var (i := 1) rfl (.inl rfl)) ra_nil))) ra_nil)))) (mCons_len (mCons_len (mCons_len (mCons_len mNil_len))))))
  (rb_one (rs_ret (r_cmp (o_eq rfl hr.n) (r_bin o_mul (r_var (i := 2) rfl (.inl rfl)) (r_bin o_subI (r_var (i := 0) rfl (.inl rfl)) r_int)) (r_bin o_mul (r_var (i := 1) rfl (.inl rfl)) (r_bin o_subI (r_var (i := 1) rfl (.inl rfl)) r_int)) (nomark _))))))
def b_law : S := mSeq (mAsg (mCall m__law_hand (mCons true (mVar 0) (mNil))) (gSet 1))
  (mSeq (mFor (mRng1 (mCons true (mC (.int 8)) (mNil))) (gSet 2)
  (mSeq (mAsg (mFz (mOp2 false oAdd (mC (.int 1)) (mCallI 1 1 m__law_draw (mCons true (mC (.int 40)) (mNil))))) (gSet 3))
  (mSeq (mAsg (mFz (mOp2 false oAdd (mC (.int 1)) (mCallI 1 1 m__law_draw (mCons true (mVar 3) (mNil))))) (gSet 4))
  (mSeq (mPar (mCons false (mOp2 false oAdd (mC (.int 1)) (mCallI 1 1 m__law_draw (mCons true (mCallI 1 1 m__law_any (mCons true (mLst (mCons true (mC (.int 3)) (mCons true (mC (.int 12)) (mCons true (mC (.int 500)) (mNil))))) (mNil))) (mNil)))) (mCons true (mOp2 false oAdd (mC (.int 1)) (mCallI 1 1 m__law_draw (mCons true (mOpN (g2 kMin2) (mCons true (mC (.int 6)) (mCons true (mVar 4) (mNil)))) (mNil)))) (mNil))) (gsCons (gSet 5) (gsCons (gSet 6) (gsNil))))
  (mSeq (mAsg (mFz (mCall m__law_shares (mCons true (mVar 3) (mCons true (mVar 4) (mCons true (mVar 5) (mCons true (mVar 6) (mNil))))))) (gSet 7))
  (mSeq (mIfS (mB (mOp2 true gNe (mOpN (g1 kRepr) (mCons true (mCall m_shares (mCons true (mVar 3) (mCons true (mVar 4) (mCons true (mVar 5) (mCons true (mVar 6) (mNil)))))) (mNil))) (mOpN (g1 kRepr) (mCons true (mVar 7) (mNil)))))
  (mRet (mC (.bl false)))
  (mSkip))
  (mSeq (mAsg (mFz (mIf (mB (mOp2 true (gIs false) (mVar 7) (mC .non))) (mC .non) (mCall m__law_differences (mCons true (mVar 7) (mNil))))) (gSet 8))
  (mSeq (mIfS (mB (mOp2 true gNe (mOpN (g1 kRepr) (mCons true (mCall m_outside_counts (mCons true (mVar 3) (mCons true (mVar 4) (mCons true (mVar 5) (mCons true (mVar 6) (mNil)))))) (mNil))) (mOpN (g1 kRepr) (mCons true (mVar 8) (mNil)))))
  (mRet (mC (.bl false)))
  (mSkip))
  (mSeq (mIfS (mB (mOp2 true gNe (mOpN (g1 kRepr) (mCons true (mCall m_is_fisher (mCons true (mVar 3) (mCons true (mVar 4) (mCons true (mVar 5) (mNil))))) (mNil))) (mOpN (g1 kRepr) (mCons true (mCall m__law_fisher (mCons true (mVar 3) (mCons true (mVar 4) (mCons true (mVar 5) (mNil))))) (mNil)))))
  (mRet (mC (.bl false)))
  (mSkip))
  (mSeq (mIfS (mB (mOp2 true gNe (mOpN (g1 kRepr) (mCons true (mCall m_is_square_family (mCons true (mVar 3) (mCons true (mVar 4) (mCons true (mVar 5) (mNil))))) (mNil))) (mOpN (g1 kRepr) (mCons true (mOp2 true gEq (mOp2 true oMul (mVar 5) (mOp2 true gSub (mVar 3) (mC (.int 1)))) (mOp2 true oMul (mVar 4) (mOp2 true gSub (mVar 4) (mC (.int 1))))) (mNil)))))
  (mRet (mC (.bl false)))
  (mSkip))
  (mSeq (mAsg (mFz (mCall m__law_over (mCons true (mOp2 true gSub (mVar 3) (mVar 6)) (mCons true (mOp2 true gSub (mVar 4) (mVar 6)) (mNil))))) (gSet 9))
  (mSeq (mIfS (mAnd (mB (mOp2 true gLe (mVar 9) (mOp2 true gPow (mC (.int 10)) (mC (.int 6))))) (mB (mOp2 true gNe (mIdx true (mCall m_shares (mCons true (mVar 3) (mCons true (mVar 4) (mCons true (mVar 9) (mCons true (mVar 6) (mNil)))))) (mC (.int 0))) (mCall m__law_over (mCons true (mVar 3) (mCons true (mVar 4) (mNil)))))))
  (mRet (mC (.bl false)))
  (mSkip))
  (mSeq (mAsg (mFz (mCallI 1 1 m__law_any (mCons true (mLst (mCons true (mTup (mCons true (mC (.int 0)) (mCons true (mVar 4) (mCons true (mVar 5) (mCons true (mVar 6) (mNil)))))) (mCons true (mTup (mCons true (mVar 3) (mCons true (mOp2 true oAdd (mVar 3) (mC (.int 1))) (mCons true (mVar 5) (mCons true (mVar 6) (mNil)))))) (mCons true (mTup (mCons true (mVar 3) (mCons true (mVar 4) (mCons true (mC (.int 0)) (mCons true (mVar 6) (mNil)))))) (mNil))))) (mNil)))) (gSet 10))
  (mSeq (mAsg (mFz (mCallI 1 1 m__law_any (mCons true (mLst (mCons true (mVar 10) (mCons true (mTup (mCons true (mVar 3) (mCons true (mVar 4) (mCons true (mVar 5) (mCons true (mC (.int 0)) (mNil)))))) (mCons true (mTup (mCons true (mVar 3) (mCons true (mVar 4) (mCons true (mVar 5) (mCons true (mOp2 true oAdd (mOpN (g2 kMin2) (mCons true (mC (.int 6)) (mCons true (mVar 4) (mNil)))) (mC (.int 1))) (mNil)))))) (mCons true (mTup (mCons true (mC (.int 1001)) (mCons true (mC (.int 3)) (mCons true (mC (.int 1)) (mCons true (mC (.int 2)) (mNil)))))) (mNil)))))) (mNil)))) (gSet 10))
  (mSeq (mAsg (mFz (mCallI 1 1 m__law_any (mCons true (mLst (mCons true (mVar 10) (mCons true (mVar 10) (mCons true (mTup (mCons true (mC (.bl true)) (mCons true (mC (.int 1)) (mCons true (mC (.int 1)) (mCons true (mC (.int 1)) (mNil)))))) (mCons true (mTup (mCons true (mVar 3) (mCons true (mC .non) (mCons true (mVar 5) (mCons true (mVar 6) (mNil)))))) (mCons true (mTup (mCons true (mVar 3) (mCons true (mVar 4) (mCons true (mOp2 true oAdd (mOp2 true gPow (mC (.int 10)) (mC (.int 6))) (mC (.int 1))) (mCons true (mVar 6) (mNil)))))) (mNil))))))) (mNil)))) (gSet 10))
  (mSeq (mIfS (mNot (mTr (mLam h__law_is_refused (mCall m_shares (mCons true (mIdx true (mVar 10) (mC (.int 0))) (mCons true (mIdx true (mVar 10) (mC (.int 1))) (mCons true (mIdx true (mVar 10) (mC (.int 2))) (mCons true (mIdx true (mVar 10) (mC (.int 3))) (mNil)))))))))
  (mRet (mC (.bl false)))
  (mSkip))
  (mIfS (mNot (mTr (mLam h__law_is_refused (mCall m_outside_counts (mCons true (mIdx true (mVar 10) (mC (.int 0))) (mCons true (mIdx true (mVar 10) (mC (.int 1))) (mCons true (mIdx true (mVar 10) (mC (.int 2))) (mCons true (mIdx true (mVar 10) (mC (.int 3))) (mNil)))))))))
  (mRet (mC (.bl false)))
  (mSkip))))))))))))))))))
  (mRet (mCallI 1 1 m__law_family_right (mNil))))
abbrev m_law : MF := mFun 11 b_law
theorem ok_law (T : Tx G mg) (hea : G.ea = none) (TB : LamX.TabB base mg T.cc_law T.tt_law) : FnG pw w G.K mg base 9 T.f_law T.fd_law ["script"] (spP G 1 m_law) :=
  fn_pure (n := 11) (m := b_law) T.F_law sc_law rfl fun cdv A outer s H E hcd hr => (show _ from
  (rb_cons (rs_set (i := 1) sc_law.nd rfl (.inl rfl) (by decide) (by decide) (r_call (ok__law_hand T) (hr.mono (by decide)) (by rfl) T.g__law_hand T.F__law_hand.kp T.b__law_hand (takes_of rfl rfl rfl rfl) (ra_cons (r_var (i := 0) rfl (.inl rfl)) ra_nil) (mCons_len mNil_len)))
  (rb_cons (rs_for (passes_of rfl) rfl (ri_rng1 (by rfl) T.z_range (ra_cons r_int ra_nil)) (rg_name (i := 2) sc_law.nd rfl (.inl rfl) (by decide) (by decide))
  (rb_cons (rs_set (i := 3) sc_law.nd rfl (.inl rfl) (by decide) (by decide) (r_fz (r_bin (o_add rfl) r_int (r_callI (i := 1) (ok__law_draw T) (hr.mono (by decide)) (by rfl) T.g__law_draw T.F__law_draw.kp T.b__law_draw (takes_of rfl rfl rfl rfl) rfl (.inl rfl) (ra_cons r_int ra_nil) (fun ρ rs ρ2 e => by rw [(mCons_len mNil_len) ρ rs ρ2 e]; rfl)))))
  (rb_cons (rs_set (i := 4) sc_law.nd rfl (.inl rfl) (by decide) (by decide) (r_fz (r_bin (o_add rfl) r_int (r_callI (i := 1) (ok__law_draw T) (hr.mono (by decide)) (by rfl) T.g__law_draw T.F__law_draw.kp T.b__law_draw (takes_of rfl rfl rfl rfl) rfl (.inl rfl) (ra_cons (r_var (i := 3) rfl (.inl rfl)) ra_nil) (fun ρ rs ρ2 e => by rw [(mCons_len mNil_len) ρ rs ρ2 e]; rfl)))))
  (rb_cons (rs_par2 (i := 5) (j := 6) rfl sc_law.nd rfl rfl (by decide) (by decide) (by decide) (by decide) (by decide) rfl rfl (ra_cons (r_bin (o_add rfl) r_int (r_callI (i := 1) (ok__law_draw T) (hr.mono (by decide)) (by rfl) T.g__law_draw T.F__law_draw.kp T.b__law_draw (takes_of rfl rfl rfl rfl) rfl (.inl rfl) (ra_cons (r_callI (i := 1) (ok__law_any T) (hr.mono (by decide)) (by rfl) T.g__law_any T.F__law_any.kp T.b__law_any (takes_of rfl rfl rfl rfl) rfl (.inl rfl) (ra_cons (r_lst (ra_cons r_int (ra_cons r_int (ra_cons r_int ra_nil)))) ra_nil) (fun ρ rs ρ2 e => by rw [(mCons_len mNil_len) ρ rs ρ2 e]; rfl)) ra_nil) (fun ρ rs ρ2 e => by rw [(mCons_len mNil_len) ρ rs ρ2 e]; rfl))) (ra_cons (r_bin (o_add rfl) r_int (r_callI (i := 1) (ok__law_draw T) (hr.mono (by decide)) (by rfl) T.g__law_draw T.F__law_draw.kp T.b__law_draw (takes_of rfl rfl rfl rfl) rfl (.inl rfl) (ra_cons (r_callB (o_min2 rfl) (by rfl) T.z_min bo_min (ra_cons r_int (ra_cons (r_var (i := 4) rfl (.inl rfl)) ra_nil))) ra_nil) (fun ρ rs ρ2 e => by rw [(mCons_len mNil_len) ρ rs ρ2 e]; rfl))) ra_nil)) (by rfl))
  (rb_cons (rs_set (i := 7) sc_law.nd rfl (.inl rfl) (by decide) (by decide) (r_fz (r_call (ok__law_shares T) (hr.mono (by decide)) (by rfl) T.g__law_shares T.F__law_shares.kp T.b__law_shares (takes_of rfl rfl rfl rfl) (ra_cons (r_var (i := 3) rfl (.inl rfl)) (ra_cons (r_var (i := 4) rfl (.inl rfl)) (ra_cons (r_var (i := 5) rfl (.inl rfl)) (ra_cons (r_var (i := 6) rfl (.inl rfl)) ra_nil)))) (mCons_len (mCons_len (mCons_len (mCons_len mNil_len)))))))
  (rb_cons (rs_if (rt_cmp (o_ne rfl hr.n) (r_callB (o_repr rfl hr.n) (by rfl) T.z_repr bo_repr (ra_cons (r_call (ok_shares T) (hr.mono (by decide)) (by rfl) T.g_shares T.F_shares.kp T.b_shares (takes_of rfl rfl rfl rfl) (ra_cons (r_var (i := 3) rfl (.inl rfl)) (ra_cons (r_var (i := 4) rfl (.inl rfl)) (ra_cons (r_var (i := 5) rfl (.inl rfl)) (ra_cons (r_var (i := 6) rfl (.inl rfl)) ra_nil)))) (mCons_len (mCons_len (mCons_len (mCons_len mNil_len))))) ra_nil)) (r_callB (o_repr rfl hr.n) (by rfl) T.z_repr bo_repr (ra_cons (r_var (i := 7) rfl (.inl rfl)) ra_nil)) (nomark _))
  (rb_one (rs_ret r_bl))
  rb_nil)
  (rb_cons (rs_set (i := 8) sc_law.nd rfl (.inl rfl) (by decide) (by decide) (r_fz (r_if (rt_cmp o_is (r_var (i := 7) rfl (.inl rfl)) r_non (nomark _)) r_non (r_call (ok__law_differences T) (hr.mono (by decide)) (by rfl) T.g__law_differences T.F__law_differences.kp T.b__law_differences (takes_of rfl rfl rfl rfl) (ra_cons (r_var (i := 7) rfl (.inl rfl)) ra_nil) (mCons_len mNil_len)))))
  (rb_cons (rs_if (rt_cmp (o_ne rfl hr.n) (r_callB (o_repr rfl hr.n) (by rfl) T.z_repr bo_repr (ra_cons (r_call (ok_outside_counts T) (hr.mono (by decide)) (by rfl) T.g_outside_counts T.F_outside_counts.kp T.b_outside_counts (takes_of rfl rfl rfl rfl) (ra_cons (r_var (i := 3) rfl (.inl rfl)) (ra_cons (r_var (i := 4) rfl (.inl rfl)) (ra_cons (r_var (i := 5) rfl (.inl rfl)) (ra_cons (r_var (i := 6) rfl (.inl rfl)) ra_nil)))) (mCons_len (mCons_len (mCons_len (mCons_len mNil_len))))) ra_nil)) (r_callB (o_repr rfl hr.n) (by rfl) T.z_repr bo_repr (ra_cons (r_var (i := 8) rfl (.inl rfl)) ra_nil)) (nomark _))
  (rb_one (rs_ret r_bl))
  rb_nil)
  (rb_cons (rs_if (rt_cmp (o_ne rfl hr.n) (r_callB (o_repr rfl hr.n) (by rfl) T.z_repr bo_repr (ra_cons (r_call (ok_is_fisher T) (hr.mono (by decide)) (by rfl) T.g_is_fisher T.F_is_fisher.kp T.b_is_fisher (takes_of rfl rfl rfl rfl) (ra_cons (r_var (i := 3) rfl (.inl rfl)) (ra_cons (r_var (i := 4) rfl (.inl rfl)) (ra_cons (r_var (i := 5) rfl (.inl rfl)) ra_nil))) (mCons_len (mCons_len (mCons_len mNil_len)))) ra_nil)) (r_callB (o_repr rfl hr.n) (by rfl) T.z_repr bo_repr (ra_cons (r_call (ok__law_fisher T) (hr.mono (by decide)) (by rfl) T.g__law_fisher T.F__law_fisher.kp T.b__law_fisher (takes_of rfl rfl rfl rfl) (ra_cons (r_var (i := 3) rfl (.inl rfl)) (ra_cons (r_var (i := 4) rfl (.inl rfl)) (ra_cons (r_var (i := 5) rfl (.inl rfl)) ra_nil))) (mCons_len (mCons_len (mCons_len mNil_len)))) ra_nil)) (nomark _))
  (rb_one (rs_ret r_bl))
  rb_nil)
  (rb_cons (rs_if (rt_cmp (o_ne rfl hr.n) (r_callB (o_repr rfl hr.n) (by rfl) T.z_repr bo_repr (ra_cons (r_call (ok_is_square_family T) (hr.mono (by decide)) (by rfl) T.g_is_square_family T.F_is_square_family.kp T.b_is_square_family (takes_of rfl rfl rfl rfl) (ra_cons (r_var (i := 3) rfl (.inl rfl)) (ra_cons (r_var (i := 4) rfl (.inl rfl)) (ra_cons (r_var (i := 5) rfl (.inl rfl)) ra_nil))) (mCons_len (mCons_len (mCons_len mNil_len)))) ra_nil)) (r_callB (o_repr rfl hr.n) (by rfl) T.z_repr bo_repr (ra_cons (r_cmp (o_eq rfl hr.n) (r_bin o_mul (r_var (i := 5) rfl (.inl rfl)) (r_bin o_subI (r_var (i := 3) rfl (.inl rfl)) r_int)) (r_bin o_mul (r_var (i := 4) rfl (.inl rfl)) (r_bin o_subI (r_var (i := 4) rfl (.inl rfl)) r_int)) (nomark _)) ra_nil)) (nomark _))
  (rb_one (rs_ret r_bl))
  rb_nil)
  (rb_cons (rs_set (i := 9) sc_law.nd rfl (.inl rfl) (by decide) (by decide) (r_fz (r_call (ok__law_over T) (hr.mono (by decide)) (by rfl) T.g__law_over T.F__law_over.kp T.b__law_over (takes_of rfl rfl rfl rfl) (ra_cons (r_bin o_subI (r_var (i := 3) rfl (.inl rfl)) (r_var (i := 6) rfl (.inl rfl))) (ra_cons (r_bin o_subI (r_var (i := 4) rfl (.inl rfl)) (r_var (i := 6) rfl (.inl rfl))) ra_nil)) (mCons_len (mCons_len mNil_len)))))
  (rb_cons (rs_if ((rw_and (rt_cmp o_le (r_var (i := 9) rfl (.inl rfl)) (r_bin o_pow r_int r_int) (nomark _)) (rw_and1 (rt_cmp (o_ne rfl hr.n) (r_idx hr.n rfl (r_call (ok_shares T) (hr.mono (by decide)) (by rfl) T.g_shares T.F_shares.kp T.b_shares (takes_of rfl rfl rfl rfl) (ra_cons (r_var (i := 3) rfl (.inl rfl)) (ra_cons (r_var (i := 4) rfl (.inl rfl)) (ra_cons (r_var (i := 9) rfl (.inl rfl)) (ra_cons (r_var (i := 6) rfl (.inl rfl)) ra_nil)))) (mCons_len (mCons_len (mCons_len (mCons_len mNil_len))))) r_int (fun _ _ => rfl)) (r_call (ok__law_over T) (hr.mono (by decide)) (by rfl) T.g__law_over T.F__law_over.kp T.b__law_over (takes_of rfl rfl rfl rfl) (ra_cons (r_var (i := 3) rfl (.inl rfl)) (ra_cons (r_var (i := 4) rfl (.inl rfl)) ra_nil)) (mCons_len (mCons_len mNil_len))) (nomark _))))).t
  (rb_one (rs_ret r_bl))
  rb_nil)
  (rb_cons (rs_set (i := 10) sc_law.nd rfl (.inr rfl) (by decide) (by decide) (r_fz (r_callI (i := 1) (ok__law_any T) (hr.mono (by decide)) (by rfl) T.g__law_any T.F__law_any.kp T.b__law_any (takes_of rfl rfl rfl rfl) rfl (.inl rfl) (ra_cons (r_lst (ra_cons (r_tup (ra_cons r_int (ra_cons (r_var (i := 4) rfl (.inl rfl)) (ra_cons (r_var (i := 5) rfl (.inl rfl)) (ra_cons (r_var (i := 6) rfl (.inl rfl)) ra_nil))))) (ra_cons (r_tup (ra_cons (r_var (i := 3) rfl (.inl rfl)) (ra_cons (r_bin (o_add rfl) (r_var (i := 3) rfl (.inl rfl)) r_int) (ra_cons (r_var (i := 5) rfl (.inl rfl)) (ra_cons (r_var (i := 6) rfl (.inl rfl)) ra_nil))))) (ra_cons (r_tup (ra_cons (r_var (i := 3) rfl (.inl rfl)) (ra_cons (r_var (i := 4) rfl (.inl rfl)) (ra_cons r_int (ra_cons (r_var (i := 6) rfl (.inl rfl)) ra_nil))))) ra_nil)))) ra_nil) (fun ρ rs ρ2 e => by rw [(mCons_len mNil_len) ρ rs ρ2 e]; rfl))))
  (rb_cons (rs_set (i := 10) sc_law.nd rfl (.inr rfl) (by decide) (by decide) (r_fz (r_callI (i := 1) (ok__law_any T) (hr.mono (by decide)) (by rfl) T.g__law_any T.F__law_any.kp T.b__law_any (takes_of rfl rfl rfl rfl) rfl (.inl rfl) (ra_cons (r_lst (ra_cons (r_var (i := 10) rfl (.inr (.inl rfl))) (ra_cons (r_tup (ra_cons (r_var (i := 3) rfl (.inl rfl)) (ra_cons (r_var (i := 4) rfl (.inl rfl)) (ra_cons (r_var (i := 5) rfl (.inl rfl)) (ra_cons r_int ra_nil))))) (ra_cons (r_tup (ra_cons (r_var (i := 3) rfl (.inl rfl)) (ra_cons (r_var (i := 4) rfl (.inl rfl)) (ra_cons (r_var (i := 5) rfl (.inl rfl)) (ra_cons (r_bin (o_add rfl) (r_callB (o_min2 rfl) (by rfl) T.z_min bo_min (ra_cons r_int (ra_cons (r_var (i := 4) rfl (.inl rfl)) ra_nil))) r_int) ra_nil))))) (ra_cons (r_tup (ra_cons r_int (ra_cons r_int (ra_cons r_int (ra_cons r_int ra_nil))))) ra_nil))))) ra_nil) (fun ρ rs ρ2 e => by rw [(mCons_len mNil_len) ρ rs ρ2 e]; rfl))))
  (rb_cons (rs_set (i := 10) sc_law.nd rfl (.inr rfl) (by decide) (by decide) (r_fz (r_callI (i := 1) (ok__law_any T) (hr.mono (by decide)) (by rfl) T.g__law_any T.F__law_any.kp T.b__law_any (takes_of rfl rfl rfl rfl) rfl (.inl rfl) (ra_cons (r_lst (ra_cons (r_var (i := 10) rfl (.inr (.inl rfl))) (ra_cons (r_var (i := 10) rfl (.inr (.inl rfl))) (ra_cons (r_tup (ra_cons r_bl (ra_cons r_int (ra_cons r_int (ra_cons r_int ra_nil))))) (ra_cons (r_tup (ra_cons (r_var (i := 3) rfl (.inl rfl)) (ra_cons r_non (ra_cons (r_var (i := 5) rfl (.inl rfl)) (ra_cons (r_var (i := 6) rfl (.inl rfl)) ra_nil))))) (ra_cons (r_tup (ra_cons (r_var (i := 3) rfl (.inl rfl)) (ra_cons (r_var (i := 4) rfl (.inl rfl)) (ra_cons (r_bin (o_add rfl) (r_bin o_pow r_int r_int) r_int) (ra_cons (r_var (i := 6) rfl (.inl rfl)) ra_nil))))) ra_nil)))))) ra_nil) (fun ρ rs ρ2 e => by rw [(mCons_len mNil_len) ρ rs ρ2 e]; rfl))))
  (rb_cons (rs_if (rt_not (rt_truth rfl (r_lamF (k := 6) (X := bodyX pw w G.K mg base N_law "law" (defScope s_law) T.f_law cdv A outer s H E) (Ng := N__law_is_refused) (hf := h__law_is_refused) T.F__law_is_refused (by rfl) T.g__law_is_refused T.b__law_is_refused sc__law_is_refused rfl (.inl rfl) (fun cd2 => helps__law_is_refused (X := bodyX pw w G.K mg base N_law "law" (defScope s_law) T.f_law cdv A outer s H E) rfl hea T cd2 _) TB (hcd.symm.trans T.code_law) T.tin_law T.tun_law (hr.mono (by decide)) (LamX.lamS_by (sc := defScope s_law) (by decide +kernel)) rfl (fun _ _ _ _ _ => rfl) (fun A2 outer2 s2 H2 E2 f2 c2 hr2 => (r_call (ok_shares T) (hr2.mono (by decide)) (by rfl) T.g_shares T.F_shares.kp T.b_shares (takes_of rfl rfl rfl rfl) (ra_cons (r_idx hr2.n rfl (r_var (i := 10) rfl (.inr (.inr rfl))) r_int (fun _ _ => rfl)) (ra_cons (r_idx hr2.n rfl (r_var (i := 10) rfl (.inr (.inr rfl))) r_int (fun _ _ => rfl)) (ra_cons (r_idx hr2.n rfl (r_var (i := 10) rfl (.inr (.inr rfl))) r_int (fun _ _ => rfl)) (ra_cons (r_idx hr2.n rfl (r_var (i := 10) rfl (.inr (.inr rfl))) r_int (fun _ _ => rfl)) ra_nil)))) (mCons_len (mCons_len (mCons_len (mCons_len mNil_len)))))))))
  (rb_one (rs_ret r_bl))
  rb_nil)
  (rb_one (rs_if (rt_not (rt_truth rfl (r_lamF (k := 6) (X := bodyX pw w G.K mg base N_law "law" (defScope s_law) T.f_law cdv A outer s H E) (Ng := N__law_is_refused) (hf := h__law_is_refused) T.F__law_is_refused (by rfl) T.g__law_is_refused T.b__law_is_refused sc__law_is_refused rfl (.inl rfl) (fun cd2 => helps__law_is_refused (X := bodyX pw w G.K mg base N_law "law" (defScope s_law) T.f_law cdv A outer s H E) rfl hea T cd2 _) TB (hcd.symm.trans T.code_law) T.tin_law T.tun_law (hr.mono (by decide)) (LamX.lamS_by (sc := defScope s_law) (by decide +kernel)) rfl (fun _ _ _ _ _ => rfl) (fun A2 outer2 s2 H2 E2 f2 c2 hr2 => (r_call (ok_outside_counts T) (hr2.mono (by decide)) (by rfl) T.g_outside_counts T.F_outside_counts.kp T.b_outside_counts (takes_of rfl rfl rfl rfl) (ra_cons (r_idx hr2.n rfl (r_var (i := 10) rfl (.inr (.inr rfl))) r_int (fun _ _ => rfl)) (ra_cons (r_idx hr2.n rfl (r_var (i := 10) rfl (.inr (.inr rfl))) r_int (fun _ _ => rfl)) (ra_cons (r_idx hr2.n rfl (r_var (i := 10) rfl (.inr (.inr rfl))) r_int (fun _ _ => rfl)) (ra_cons (r_idx hr2.n rfl (r_var (i := 10) rfl (.inr (.inr rfl))) r_int (fun _ _ => rfl)) ra_nil)))) (mCons_len (mCons_len (mCons_len (mCons_len mNil_len)))))))))
  (rb_one (rs_ret r_bl))
  rb_nil))))))))))))))))))
  (rb_one (rs_ret (r_callI (i := 1) (ok__law_family_right T) (hr.mono (by decide)) (by rfl) T.g__law_family_right T.F__law_family_right.kp T.b__law_family_right (takes_of rfl rfl rfl rfl) rfl (.inl rfl) ra_nil (fun ρ rs ρ2 e => by rw [mNil_len ρ rs ρ2 e]; rfl)))))))
end
section
theorem all_mk {w : World} {K : PySem.W.Frag} {h : Heap} {mg : Str → Option Value} {fa : Addr} (X : K.In h) (Gn : h.Ns mainGlobals mg) (hfa : mg "law" = some (.ref fa)) (own : LamX.OwnTab K fa h)
    {f__law_draw : Addr} {od__law_draw an__law_draw : Option Addr} {sl__law_draw : Array (Option Value)} {oc__law_draw kV__law_draw dc__law_draw pm__law_draw ct__law_draw cd__law_draw : Value} {f__law_any : Addr} {od__law_any an__law_any : Option Addr} {sl__law_any : Array (Option Value)} {oc__law_any kV__law_any dc__law_any pm__law_any ct__law_any cd__law_any : Value} {f__law_differences : Addr} {od__law_differences an__law_differences : Option Addr} {sl__law_differences : Array (Option Value)} {oc__law_differences kV__law_differences dc__law_differences pm__law_differences ct__law_differences cd__law_differences : Value} {f__law_lots : Addr} {od__law_lots an__law_lots : Option Addr} {sl__law_lots : Array (Option Value)} {oc__law_lots kV__law_lots dc__law_lots pm__law_lots ct__law_lots cd__law_lots : Value} {f__law_even : Addr} {od__law_even an__law_even : Option Addr} {sl__law_even : Array (Option Value)} {oc__law_even kV__law_even dc__law_even pm__law_even ct__law_even cd__law_even : Value} {f_is_integer : Addr} {od_is_integer an_is_integer : Option Addr} {sl_is_integer : Array (Option Value)} {oc_is_integer kV_is_integer dc_is_integer pm_is_integer ct_is_integer cd_is_integer : Value} {f_is_within : Addr} {od_is_within an_is_within : Option Addr} {sl_is_within : Array (Option Value)} {oc_is_within kV_is_within dc_is_within pm_is_within ct_is_within cd_is_within : Value} {f_check_numbers : Addr} {od_check_numbers an_check_numbers : Option Addr} {sl_check_numbers : Array (Option Value)} {oc_check_numbers kV_check_numbers dc_check_numbers pm_check_numbers ct_check_numbers cd_check_numbers : Value} {f_choose : Addr} {od_choose an_choose : Option Addr} {sl_choose : Array (Option Value)} {oc_choose kV_choose dc_choose pm_choose ct_choose cd_choose : Value} {f_shares_by : Addr} {od_shares_by an_shares_by : Option Addr} {sl_shares_by : Array (Option Value)} {oc_shares_by kV_shares_by dc_shares_by pm_shares_by ct_shares_by cd_shares_by : Value} {f_shares : Addr} {od_shares an_shares : Option Addr} {sl_shares : Array (Option Value)} {oc_shares kV_shares dc_shares pm_shares ct_shares cd_shares : Value} {f_is_fisher : Addr} {od_is_fisher an_is_fisher : Option Addr} {sl_is_fisher : Array (Option Value)} {oc_is_fisher kV_is_fisher dc_is_fisher pm_is_fisher ct_is_fisher cd_is_fisher : Value} {f_outside_counts : Addr} {od_outside_counts an_outside_counts : Option Addr} {sl_outside_counts : Array (Option Value)} {oc_outside_counts kV_outside_counts dc_outside_counts pm_outside_counts ct_outside_counts cd_outside_counts : Value} {f__law_family_right : Addr} {od__law_family_right an__law_family_right : Option Addr} {sl__law_family_right : Array (Option Value)} {oc__law_family_right kV__law_family_right dc__law_family_right pm__law_family_right ct__law_family_right cd__law_family_right : Value} {f__law_over : Addr} {od__law_over an__law_over : Option Addr} {sl__law_over : Array (Option Value)} {oc__law_over kV__law_over dc__law_over pm__law_over ct__law_over cd__law_over : Value} {f__law_shares : Addr} {od__law_shares an__law_shares : Option Addr} {sl__law_shares : Array (Option Value)} {oc__law_shares kV__law_shares dc__law_shares pm__law_shares ct__law_shares cd__law_shares : Value} {f__law_fisher : Addr} {od__law_fisher an__law_fisher : Option Addr} {sl__law_fisher : Array (Option Value)} {oc__law_fisher kV__law_fisher dc__law_fisher pm__law_fisher ct__law_fisher cd__law_fisher : Value} {f__law_hand : Addr} {od__law_hand an__law_hand : Option Addr} {sl__law_hand : Array (Option Value)} {oc__law_hand kV__law_hand dc__law_hand pm__law_hand ct__law_hand cd__law_hand : Value} {f__law_is_refused : Addr} {od__law_is_refused an__law_is_refused : Option Addr} {sl__law_is_refused : Array (Option Value)} {oc__law_is_refused kV__law_is_refused dc__law_is_refused pm__law_is_refused ct__law_is_refused cd__law_is_refused : Value} {f_is_square_family : Addr} {od_is_square_family an_is_square_family : Option Addr} {sl_is_square_family : Array (Option Value)} {oc_is_square_family kV_is_square_family dc_is_square_family pm_is_square_family ct_is_square_family cd_is_square_family : Value} {f_law : Addr} {od_law an_law : Option Addr} {sl_law : Array (Option Value)} {oc_law kV_law dc_law pm_law ct_law : Value} {cc_law tt_law : Addr} {ld_law : Option Addr} {lv_law : Array Value} {lz_law : Array (Option Value)} {C_BlockError N_BlockError : Addr} {nm_BlockError q_BlockError : Str} {bs_BlockError bm sub_BlockError : List Value} {sn_BlockError : List Str} {ab_BlockError : Bool} {col_BlockError : Option Bool} {dd_BlockError : Option Addr} {m0_BlockError m1_BlockError m2_BlockError m3_BlockError m5_BlockError : Option Value} {C_NoNumber N_NoNumber : Addr} {nm_NoNumber q_NoNumber : Str} {bs_NoNumber sub_NoNumber : List Value} {sn_NoNumber : List Str} {ab_NoNumber : Bool} {col_NoNumber : Option Bool} {dd_NoNumber : Option Addr} {m0_NoNumber m1_NoNumber m2_NoNumber m3_NoNumber m5_NoNumber : Option Value} {I_NoNumber da_NoNumber ce_NoNumber : Addr} {oI_NoNumber kI_NoNumber dI_NoNumber pI_NoNumber tI_NoNumber lI_NoNumber eI_NoNumber : Value} {oD_NoNumber aI_NoNumber lD_NoNumber eD_NoNumber : Option Addr} {sI_NoNumber lS_NoNumber eS_NoNumber : Array (Option Value)} {vI_NoNumber : Array Value} {fI_NoNumber : Str} {tk_NoNumber : Tok} {gt_MOST_SIZE : Tok}
    (a__law_draw : PySem.W.nsIn K mainGlobals "_law_draw" = some (some (.ref f__law_draw)))
    (l__law_draw : K.lookup f__law_draw = some ⟨oc__law_draw, od__law_draw, .func (PySem.W.fnOf "_law_draw" "_law_draw" (defArgs s__law_draw) (defBody s__law_draw) (defScope s__law_draw) .none kV__law_draw dc__law_draw pm__law_draw an__law_draw cd__law_draw ct__law_draw), sl__law_draw⟩)
    (c__law_draw : PySem.W.codeIn K cd__law_draw "_law_draw" = true)
    (k__law_draw : PySem.W.keepIn K (.ref f__law_draw) = true)
    (a__law_any : PySem.W.nsIn K mainGlobals "_law_any" = some (some (.ref f__law_any)))
    (l__law_any : K.lookup f__law_any = some ⟨oc__law_any, od__law_any, .func (PySem.W.fnOf "_law_any" "_law_any" (defArgs s__law_any) (defBody s__law_any) (defScope s__law_any) .none kV__law_any dc__law_any pm__law_any an__law_any cd__law_any ct__law_any), sl__law_any⟩)
    (c__law_any : PySem.W.codeIn K cd__law_any "_law_any" = true)
    (k__law_any : PySem.W.keepIn K (.ref f__law_any) = true)
    (a__law_differences : PySem.W.nsIn K mainGlobals "_law_differences" = some (some (.ref f__law_differences)))
    (l__law_differences : K.lookup f__law_differences = some ⟨oc__law_differences, od__law_differences, .func (PySem.W.fnOf "_law_differences" "_law_differences" (defArgs s__law_differences) (defBody s__law_differences) (defScope s__law_differences) .none kV__law_differences dc__law_differences pm__law_differences an__law_differences cd__law_differences ct__law_differences), sl__law_differences⟩)
    (c__law_differences : PySem.W.codeIn K cd__law_differences "_law_differences" = true)
    (k__law_differences : PySem.W.keepIn K (.ref f__law_differences) = true)
    (a__law_lots : PySem.W.nsIn K mainGlobals "_law_lots" = some (some (.ref f__law_lots)))
    (l__law_lots : K.lookup f__law_lots = some ⟨oc__law_lots, od__law_lots, .func (PySem.W.fnOf "_law_lots" "_law_lots" (defArgs s__law_lots) (defBody s__law_lots) (defScope s__law_lots) .none kV__law_lots dc__law_lots pm__law_lots an__law_lots cd__law_lots ct__law_lots), sl__law_lots⟩)
    (c__law_lots : PySem.W.codeIn K cd__law_lots "_law_lots" = true)
    (k__law_lots : PySem.W.keepIn K (.ref f__law_lots) = true)
    (a__law_even : PySem.W.nsIn K mainGlobals "_law_even" = some (some (.ref f__law_even)))
    (l__law_even : K.lookup f__law_even = some ⟨oc__law_even, od__law_even, .func (PySem.W.fnOf "_law_even" "_law_even" (defArgs s__law_even) (defBody s__law_even) (defScope s__law_even) .none kV__law_even dc__law_even pm__law_even an__law_even cd__law_even ct__law_even), sl__law_even⟩)
    (c__law_even : PySem.W.codeIn K cd__law_even "_law_even" = true)
    (k__law_even : PySem.W.keepIn K (.ref f__law_even) = true)
    (a_is_integer : PySem.W.nsIn K mainGlobals "is_integer" = some (some (.ref f_is_integer)))
    (l_is_integer : K.lookup f_is_integer = some ⟨oc_is_integer, od_is_integer, .func (PySem.W.fnOf "is_integer" "is_integer" (defArgs s_is_integer) (defBody s_is_integer) (defScope s_is_integer) .none kV_is_integer dc_is_integer pm_is_integer an_is_integer cd_is_integer ct_is_integer), sl_is_integer⟩)
    (c_is_integer : PySem.W.codeIn K cd_is_integer "is_integer" = true)
    (k_is_integer : PySem.W.keepIn K (.ref f_is_integer) = true)
    (a_is_within : PySem.W.nsIn K mainGlobals "is_within" = some (some (.ref f_is_within)))
    (l_is_within : K.lookup f_is_within = some ⟨oc_is_within, od_is_within, .func (PySem.W.fnOf "is_within" "is_within" (defArgs s_is_within) (defBody s_is_within) (defScope s_is_within) .none kV_is_within dc_is_within pm_is_within an_is_within cd_is_within ct_is_within), sl_is_within⟩)
    (c_is_within : PySem.W.codeIn K cd_is_within "is_within" = true)
    (k_is_within : PySem.W.keepIn K (.ref f_is_within) = true)
    (a_check_numbers : PySem.W.nsIn K mainGlobals "check_numbers" = some (some (.ref f_check_numbers)))
    (l_check_numbers : K.lookup f_check_numbers = some ⟨oc_check_numbers, od_check_numbers, .func (PySem.W.fnOf "check_numbers" "check_numbers" (defArgs s_check_numbers) (defBody s_check_numbers) (defScope s_check_numbers) .none kV_check_numbers dc_check_numbers pm_check_numbers an_check_numbers cd_check_numbers ct_check_numbers), sl_check_numbers⟩)
    (c_check_numbers : PySem.W.codeIn K cd_check_numbers "check_numbers" = true)
    (k_check_numbers : PySem.W.keepIn K (.ref f_check_numbers) = true)
    (a_choose : PySem.W.nsIn K mainGlobals "choose" = some (some (.ref f_choose)))
    (l_choose : K.lookup f_choose = some ⟨oc_choose, od_choose, .func (PySem.W.fnOf "choose" "choose" (defArgs s_choose) (defBody s_choose) (defScope s_choose) .none kV_choose dc_choose pm_choose an_choose cd_choose ct_choose), sl_choose⟩)
    (c_choose : PySem.W.codeIn K cd_choose "choose" = true)
    (k_choose : PySem.W.keepIn K (.ref f_choose) = true)
    (a_shares_by : PySem.W.nsIn K mainGlobals "shares_by" = some (some (.ref f_shares_by)))
    (l_shares_by : K.lookup f_shares_by = some ⟨oc_shares_by, od_shares_by, .func (PySem.W.fnOf "shares_by" "shares_by" (defArgs s_shares_by) (defBody s_shares_by) (defScope s_shares_by) .none kV_shares_by dc_shares_by pm_shares_by an_shares_by cd_shares_by ct_shares_by), sl_shares_by⟩)
    (c_shares_by : PySem.W.codeIn K cd_shares_by "shares_by" = true)
    (k_shares_by : PySem.W.keepIn K (.ref f_shares_by) = true)
    (a_shares : PySem.W.nsIn K mainGlobals "shares" = some (some (.ref f_shares)))
    (l_shares : K.lookup f_shares = some ⟨oc_shares, od_shares, .func (PySem.W.fnOf "shares" "shares" (defArgs s_shares) (defBody s_shares) (defScope s_shares) .none kV_shares dc_shares pm_shares an_shares cd_shares ct_shares), sl_shares⟩)
    (c_shares : PySem.W.codeIn K cd_shares "shares" = true)
    (k_shares : PySem.W.keepIn K (.ref f_shares) = true)
    (a_is_fisher : PySem.W.nsIn K mainGlobals "is_fisher" = some (some (.ref f_is_fisher)))
    (l_is_fisher : K.lookup f_is_fisher = some ⟨oc_is_fisher, od_is_fisher, .func (PySem.W.fnOf "is_fisher" "is_fisher" (defArgs s_is_fisher) (defBody s_is_fisher) (defScope s_is_fisher) .none kV_is_fisher dc_is_fisher pm_is_fisher an_is_fisher cd_is_fisher ct_is_fisher), sl_is_fisher⟩)
    (c_is_fisher : PySem.W.codeIn K cd_is_fisher "is_fisher" = true)
    (k_is_fisher : PySem.W.keepIn K (.ref f_is_fisher) = true)
    (a_outside_counts : PySem.W.nsIn K mainGlobals "outside_counts" = some (some (.ref f_outside_counts)))
    (l_outside_counts : K.lookup f_outside_counts = some ⟨oc_outside_counts, od_outside_counts, .func (PySem.W.fnOf "outside_counts" "outside_counts" (defArgs s_outside_counts) (defBody s_outside_counts) (defScope s_outside_counts) .none kV_outside_counts dc_outside_counts pm_outside_counts an_outside_counts cd_outside_counts ct_outside_counts), sl_outside_counts⟩)
    (c_outside_counts : PySem.W.codeIn K cd_outside_counts "outside_counts" = true)
    (k_outside_counts : PySem.W.keepIn K (.ref f_outside_counts) = true)
    (a__law_family_right : PySem.W.nsIn K mainGlobals "_law_family_right" = some (some (.ref f__law_family_right)))
    (l__law_family_right : K.lookup f__law_family_right = some ⟨oc__law_family_right, od__law_family_right, .func (PySem.W.fnOf "_law_family_right" "_law_family_right" (defArgs s__law_family_right) (defBody s__law_family_right) (defScope s__law_family_right) .none kV__law_family_right dc__law_family_right pm__law_family_right an__law_family_right cd__law_family_right ct__law_family_right), sl__law_family_right⟩)
    (c__law_family_right : PySem.W.codeIn K cd__law_family_right "_law_family_right" = true)
    (k__law_family_right : PySem.W.keepIn K (.ref f__law_family_right) = true)
    (a__law_over : PySem.W.nsIn K mainGlobals "_law_over" = some (some (.ref f__law_over)))
    (l__law_over : K.lookup f__law_over = some ⟨oc__law_over, od__law_over, .func (PySem.W.fnOf "_law_over" "_law_over" (defArgs s__law_over) (defBody s__law_over) (defScope s__law_over) .none kV__law_over dc__law_over pm__law_over an__law_over cd__law_over ct__law_over), sl__law_over⟩)
    (c__law_over : PySem.W.codeIn K cd__law_over "_law_over" = true)
    (k__law_over : PySem.W.keepIn K (.ref f__law_over) = true)
    (a__law_shares : PySem.W.nsIn K mainGlobals "_law_shares" = some (some (.ref f__law_shares)))
    (l__law_shares : K.lookup f__law_shares = some ⟨oc__law_shares, od__law_shares, .func (PySem.W.fnOf "_law_shares" "_law_shares" (defArgs s__law_shares) (defBody s__law_shares) (defScope s__law_shares) .none kV__law_shares dc__law_shares pm__law_shares an__law_shares cd__law_shares ct__law_shares), sl__law_shares⟩)
    (c__law_shares : PySem.W.codeIn K cd__law_shares "_law_shares" = true)
    (k__law_shares : PySem.W.keepIn K (.ref f__law_shares) = true)
    (a__law_fisher : PySem.W.nsIn K mainGlobals "_law_fisher" = some (some (.ref f__law_fisher)))
    (l__law_fisher : K.lookup f__law_fisher = some ⟨oc__law_fisher, od__law_fisher, .func (PySem.W.fnOf "_law_fisher" "_law_fisher" (defArgs s__law_fisher) (defBody s__law_fisher) (defScope s__law_fisher) .none kV__law_fisher dc__law_fisher pm__law_fisher an__law_fisher cd__law_fisher ct__law_fisher), sl__law_fisher⟩)
    (c__law_fisher : PySem.W.codeIn K cd__law_fisher "_law_fisher" = true)
    (k__law_fisher : PySem.W.keepIn K (.ref f__law_fisher) = true)
    (a__law_hand : PySem.W.nsIn K mainGlobals "_law_hand" = some (some (.ref f__law_hand)))
    (l__law_hand : K.lookup f__law_hand = some ⟨oc__law_hand, od__law_hand, .func (PySem.W.fnOf "_law_hand" "_law_hand" (defArgs s__law_hand) (defBody s__law_hand) (defScope s__law_hand) .none kV__law_hand dc__law_hand pm__law_hand an__law_hand cd__law_hand ct__law_hand), sl__law_hand⟩)
    (c__law_hand : PySem.W.codeIn K cd__law_hand "_law_hand" = true)
    (k__law_hand : PySem.W.keepIn K (.ref f__law_hand) = true)
    (a__law_is_refused : PySem.W.nsIn K mainGlobals "_law_is_refused" = some (some (.ref f__law_is_refused)))
    (l__law_is_refused : K.lookup f__law_is_refused = some ⟨oc__law_is_refused, od__law_is_refused, .func (PySem.W.fnOf "_law_is_refused" "_law_is_refused" (defArgs s__law_is_refused) (defBody s__law_is_refused) (defScope s__law_is_refused) .none kV__law_is_refused dc__law_is_refused pm__law_is_refused an__law_is_refused cd__law_is_refused ct__law_is_refused), sl__law_is_refused⟩)
    (c__law_is_refused : PySem.W.codeIn K cd__law_is_refused "_law_is_refused" = true)
    (k__law_is_refused : PySem.W.keepIn K (.ref f__law_is_refused) = true)
    (a_is_square_family : PySem.W.nsIn K mainGlobals "is_square_family" = some (some (.ref f_is_square_family)))
    (l_is_square_family : K.lookup f_is_square_family = some ⟨oc_is_square_family, od_is_square_family, .func (PySem.W.fnOf "is_square_family" "is_square_family" (defArgs s_is_square_family) (defBody s_is_square_family) (defScope s_is_square_family) .none kV_is_square_family dc_is_square_family pm_is_square_family an_is_square_family cd_is_square_family ct_is_square_family), sl_is_square_family⟩)
    (c_is_square_family : PySem.W.codeIn K cd_is_square_family "is_square_family" = true)
    (k_is_square_family : PySem.W.keepIn K (.ref f_is_square_family) = true)
    (a_law : PySem.W.nsIn K mainGlobals "law" = some (some (.ref f_law)))
    (l_law : K.lookup f_law = some ⟨oc_law, od_law, .func (PySem.W.fnOf "law" "law" (defArgs s_law) (defBody s_law) (defScope s_law) .none kV_law dc_law pm_law an_law (.ref cc_law) ct_law), sl_law⟩)
    (c_law : PySem.W.codeIn K (.ref cc_law) "law" = true)
    (k_law : PySem.W.keepIn K (.ref f_law) = true)
    (lc_law : K.lookup cc_law = some ⟨.type "code", ld_law, .fields lv_law, lz_law⟩)
    (li_law : lv_law[11]? = some (.ref tt_law))
    (lh_law : codeOk lv_law cc_law tt_law = true)
    (lt_law : (K.lookup tt_law).isNone = true)
    (z_ValueError : PySem.W.nsIn K mainGlobals "ValueError" = some none)
    (z_abs : PySem.W.nsIn K mainGlobals "abs" = some none)
    (z_all : PySem.W.nsIn K mainGlobals "all" = some none)
    (z_any : PySem.W.nsIn K mainGlobals "any" = some none)
    (z_bool : PySem.W.nsIn K mainGlobals "bool" = some none)
    (z_int : PySem.W.nsIn K mainGlobals "int" = some none)
    (z_isinstance : PySem.W.nsIn K mainGlobals "isinstance" = some none)
    (z_len : PySem.W.nsIn K mainGlobals "len" = some none)
    (z_min : PySem.W.nsIn K mainGlobals "min" = some none)
    (z_range : PySem.W.nsIn K mainGlobals "range" = some none)
    (z_repr : PySem.W.nsIn K mainGlobals "repr" = some none)
    (z_sorted : PySem.W.nsIn K mainGlobals "sorted" = some none)
    (z_tuple : PySem.W.nsIn K mainGlobals "tuple" = some none)
    (z_zip : PySem.W.nsIn K mainGlobals "zip" = some none)
    (z_super : PySem.W.nsIn K mainGlobals "super" = some none)
    (op : PySem.W.nsIn K cStatics "thirdparty.any" = some none)
    (aC_BlockError : PySem.W.nsIn K mainGlobals "BlockError" = some (some (.ref C_BlockError)))
    (aC_NoNumber : PySem.W.nsIn K mainGlobals "NoNumber" = some (some (.ref C_NoNumber)))
    (x_BlockError : K.lookup C_BlockError = some (PySem.excClassObj nm_BlockError q_BlockError C_BlockError N_BlockError bs_BlockError bm true sn_BlockError sub_BlockError ab_BlockError col_BlockError dd_BlockError m0_BlockError m1_BlockError m2_BlockError m3_BlockError m5_BlockError "ValueError.__new__"))
    (is_BlockError : PySem.W.isClsIn K C_BlockError = true)
    (ty_BlockError : PySem.W.typeIn K (.ref C_BlockError) = some (.type "type"))
    (se_BlockError : PySem.W.subIn K (.ref C_BlockError) (.ref C_BlockError) = some true)
    (be_BlockError : PySem.W.subIn K (.ref C_BlockError) (.type "BaseException") = some true)
    (x_NoNumber : K.lookup C_NoNumber = some (PySem.excClassObj nm_NoNumber q_NoNumber C_NoNumber N_NoNumber bs_NoNumber (.ref C_BlockError :: bm) true sn_NoNumber sub_NoNumber ab_NoNumber col_NoNumber dd_NoNumber m0_NoNumber m1_NoNumber m2_NoNumber m3_NoNumber m5_NoNumber "ValueError.__new__"))
    (is_NoNumber : PySem.W.isClsIn K C_NoNumber = true)
    (ty_NoNumber : PySem.W.typeIn K (.ref C_NoNumber) = some (.type "type"))
    (se_NoNumber : PySem.W.subIn K (.ref C_NoNumber) (.ref C_NoNumber) = some true)
    (be_NoNumber : PySem.W.subIn K (.ref C_NoNumber) (.type "BaseException") = some true)
    (vB : PySem.HandSPX.refsVE bm = true)
    (iB : PySem.W.findIn K (.ref C_BlockError) "__init__" = some (some (.builtin "ValueError.__init__")))
    (iC_NoNumber : PySem.W.findIn K (.ref C_NoNumber) "__init__" = some (some (.ref I_NoNumber)))
    (fn_NoNumber : K.lookup I_NoNumber = some ⟨oI_NoNumber, oD_NoNumber, .func (PySem.W.ksFn "__init__" "NoNumber.__init__" (defArgs i_NoNumber) [t_NoNumber] (defScope i_NoNumber) .none kI_NoNumber dI_NoNumber pI_NoNumber aI_NoNumber (.ref da_NoNumber) tI_NoNumber ce_NoNumber), sI_NoNumber⟩)
    (cI_NoNumber : PySem.W.codeIn K (.ref da_NoNumber) "NoNumber.__init__" = true)
    (lI_NoNumber : K.lookup da_NoNumber = some ⟨lI_NoNumber, lD_NoNumber, .fields vI_NoNumber, lS_NoNumber⟩)
    (v2_NoNumber : vI_NoNumber[2]? = some (.str fI_NoNumber tk_NoNumber))
    (vf_NoNumber : ((pw.main.file : Str) == fI_NoNumber) = true)
    (lx_NoNumber : K.lookup ce_NoNumber = some ⟨eI_NoNumber, eD_NoNumber, .cell (some (.ref C_NoNumber)), eS_NoNumber⟩)
    (ti_NoNumber : PySem.W.typeIn K (.ref I_NoNumber) = some (.type "function"))
    (mv_NoNumber : PySem.W.mroIn K C_NoNumber (.type "ValueError") = some true)
    (mc_NoNumber : PySem.W.mroIn K C_NoNumber (.ref C_NoNumber) = some true)
    (kC_NoNumber : PySem.W.keepIn K (.ref C_NoNumber) = true)
    (sa_NoNumber : PySem.W.findIn K (.ref C_NoNumber) "__setattr__" = some (some (.builtin "object.__setattr__")))
    (sb_NoNumber : PySem.W.subIn K (.ref C_NoNumber) (.ref C_BlockError) = some true)
    (sv_NoNumber : PySem.W.subIn K (.ref C_NoNumber) (.type "ValueError") = some true)
    (hg_NoNumber : PySem.W.findIn K (.ref C_NoNumber) "__getattribute__" = some (some (.builtin "BaseException.__getattribute__")))
    (hk_NoNumber : PySem.W.findIn K (.ref C_NoNumber) "__getattr__" = some none)
    (hd_NoNumber : PySem.W.hasDictIn K C_NoNumber = true)
    (ha_NoNumber : PySem.W.findIn K (.ref C_NoNumber) "__class__" = some (some (.builtin "object.__class__")))
    (hm_NoNumber : PySem.W.mroIn K C_NoNumber (.type "object") = some true)
    (cn : PySem.W.specialIn K (.builtin "object.__class__") "__get__" = some (some (.builtin "getset_descriptor.__get__")))
    (ctk : PySem.W.takesIn K (.builtin "object.__class__") = some true)
    (gv_MOST_SIZE : PySem.W.nsIn K mainGlobals "MOST_SIZE" = some (some (.int 6 gt_MOST_SIZE)))
    (main : ∀ ns : List Int, ns.length ≤ 63 → (∀ z ∈ ns, Builtin.Int.intBits z ≤ 1048576) → ∃ r ρ, m_law [.frl (ns.map .int)] = .ok r ρ ∧ r.t = .bl true) :
    LawK PySem.Challenge.rw_pairblocks_k05_whole_numbers_that_famili w K 9 63 "script" mg fa h := by
  have e := hfa.symm.trans (PySem.W.mg_of X Gn a_law)
  cases e
  have F__law_draw := fun_mk (st := s__law_draw) l__law_draw c__law_draw k__law_draw
  have b__law_draw := F__law_draw.binds (ps := ["hand", "many"]) fun _ _ _ _ _ _ us hl => match us, hl with | [_, _], _ => rfl
  have F__law_any := fun_mk (st := s__law_any) l__law_any c__law_any k__law_any
  have b__law_any := F__law_any.binds (ps := ["hand", "some"]) fun _ _ _ _ _ _ us hl => match us, hl with | [_, _], _ => rfl
  have F__law_differences := fun_mk (st := s__law_differences) l__law_differences c__law_differences k__law_differences
  have b__law_differences := F__law_differences.binds (ps := ["row"]) fun _ _ _ _ _ _ us hl => match us, hl with | [_], _ => rfl
  have F__law_lots := fun_mk (st := s__law_lots) l__law_lots c__law_lots k__law_lots
  have b__law_lots := F__law_lots.binds (ps := ["points"]) fun _ _ _ _ _ _ us hl => match us, hl with | [_], _ => rfl
  have F__law_even := fun_mk (st := s__law_even) l__law_even c__law_even k__law_even
  have b__law_even := F__law_even.binds (ps := ["hand"]) fun _ _ _ _ _ _ us hl => match us, hl with | [_], _ => rfl
  have F_is_integer := fun_mk (st := s_is_integer) l_is_integer c_is_integer k_is_integer
  have b_is_integer := F_is_integer.binds (ps := ["thing"]) fun _ _ _ _ _ _ us hl => match us, hl with | [_], _ => rfl
  have F_is_within := fun_mk (st := s_is_within) l_is_within c_is_within k_is_within
  have b_is_within := F_is_within.binds (ps := ["thing", "least", "most"]) fun _ _ _ _ _ _ us hl => match us, hl with | [_, _, _], _ => rfl
  have F_check_numbers := fun_mk (st := s_check_numbers) l_check_numbers c_check_numbers k_check_numbers
  have b_check_numbers := F_check_numbers.binds (ps := ["points", "size", "many", "told"]) fun _ _ _ _ _ _ us hl => match us, hl with | [_, _, _, _], _ => rfl
  have F_choose := fun_mk (st := s_choose) l_choose c_choose k_choose
  have b_choose := F_choose.binds (ps := ["many", "some"]) fun _ _ _ _ _ _ us hl => match us, hl with | [_, _], _ => rfl
  have F_shares_by := fun_mk (st := s_shares_by) l_shares_by c_shares_by k_shares_by
  have b_shares_by := F_shares_by.binds (ps := ["points", "size", "many", "told"]) fun _ _ _ _ _ _ us hl => match us, hl with | [_, _, _, _], _ => rfl
  have F_shares := fun_mk (st := s_shares) l_shares c_shares k_shares
  have b_shares := F_shares.binds (ps := ["points", "size", "many", "told"]) fun _ _ _ _ _ _ us hl => match us, hl with | [_, _, _, _], _ => rfl
  have F_is_fisher := fun_mk (st := s_is_fisher) l_is_fisher c_is_fisher k_is_fisher
  have b_is_fisher := F_is_fisher.binds (ps := ["points", "size", "many"]) fun _ _ _ _ _ _ us hl => match us, hl with | [_, _, _], _ => rfl
  have F_outside_counts := fun_mk (st := s_outside_counts) l_outside_counts c_outside_counts k_outside_counts
  have b_outside_counts := F_outside_counts.binds (ps := ["points", "size", "many", "told"]) fun _ _ _ _ _ _ us hl => match us, hl with | [_, _, _, _], _ => rfl
  have F__law_family_right := fun_mk (st := s__law_family_right) l__law_family_right c__law_family_right k__law_family_right
  have b__law_family_right := F__law_family_right.binds (ps := ["hand"]) fun _ _ _ _ _ _ us hl => match us, hl with | [_], _ => rfl
  have F__law_over := fun_mk (st := s__law_over) l__law_over c__law_over k__law_over
  have b__law_over := F__law_over.binds (ps := ["many", "few"]) fun _ _ _ _ _ _ us hl => match us, hl with | [_, _], _ => rfl
  have F__law_shares := fun_mk (st := s__law_shares) l__law_shares c__law_shares k__law_shares
  have b__law_shares := F__law_shares.binds (ps := ["points", "size", "many", "told"]) fun _ _ _ _ _ _ us hl => match us, hl with | [_, _, _, _], _ => rfl
  have F__law_fisher := fun_mk (st := s__law_fisher) l__law_fisher c__law_fisher k__law_fisher
  have b__law_fisher := F__law_fisher.binds (ps := ["points", "size", "many"]) fun _ _ _ _ _ _ us hl => match us, hl with | [_, _, _], _ => rfl
  have F__law_hand := fun_mk (st := s__law_hand) l__law_hand c__law_hand k__law_hand
  have b__law_hand := F__law_hand.binds (ps := ["script"]) fun _ _ _ _ _ _ us hl => match us, hl with | [_], _ => rfl
  have F__law_is_refused := fun_mk (st := s__law_is_refused) l__law_is_refused c__law_is_refused k__law_is_refused
  have b__law_is_refused := F__law_is_refused.binds (ps := ["call"]) fun _ _ _ _ _ _ us hl => match us, hl with | [_], _ => rfl
  have F_is_square_family := fun_mk (st := s_is_square_family) l_is_square_family c_is_square_family k_is_square_family
  have b_is_square_family := F_is_square_family.binds (ps := ["points", "size", "many"]) fun _ _ _ _ _ _ us hl => match us, hl with | [_, _, _], _ => rfl
  have F_law := fun_mk (st := s_law) l_law c_law k_law
  have b_law := F_law.binds (ps := ["script"]) fun _ _ _ _ _ _ us hl => match us, hl with | [_], _ => rfl
  let G : Gx := ⟨K, fun s => List.lookup s [("BlockError", C_BlockError), ("NoNumber", C_NoNumber)], fun _ => none, [(tt_law, ("law" : Str) ++ ".<locals>." ++ "<lambda>")], none⟩
  let T : Tx G mg := {
    f__law_draw := _, fd__law_draw := _, F__law_draw := F__law_draw, g__law_draw := PySem.W.mg_of X Gn a__law_draw, b__law_draw := b__law_draw
    f__law_any := _, fd__law_any := _, F__law_any := F__law_any, g__law_any := PySem.W.mg_of X Gn a__law_any, b__law_any := b__law_any
    f__law_differences := _, fd__law_differences := _, F__law_differences := F__law_differences, g__law_differences := PySem.W.mg_of X Gn a__law_differences, b__law_differences := b__law_differences
    f__law_lots := _, fd__law_lots := _, F__law_lots := F__law_lots, g__law_lots := PySem.W.mg_of X Gn a__law_lots, b__law_lots := b__law_lots
    f__law_even := _, fd__law_even := _, F__law_even := F__law_even, g__law_even := PySem.W.mg_of X Gn a__law_even, b__law_even := b__law_even
    f_is_integer := _, fd_is_integer := _, F_is_integer := F_is_integer, g_is_integer := PySem.W.mg_of X Gn a_is_integer, b_is_integer := b_is_integer
    f_is_within := _, fd_is_within := _, F_is_within := F_is_within, g_is_within := PySem.W.mg_of X Gn a_is_within, b_is_within := b_is_within
    f_check_numbers := _, fd_check_numbers := _, F_check_numbers := F_check_numbers, g_check_numbers := PySem.W.mg_of X Gn a_check_numbers, b_check_numbers := b_check_numbers
    f_choose := _, fd_choose := _, F_choose := F_choose, g_choose := PySem.W.mg_of X Gn a_choose, b_choose := b_choose
    f_shares_by := _, fd_shares_by := _, F_shares_by := F_shares_by, g_shares_by := PySem.W.mg_of X Gn a_shares_by, b_shares_by := b_shares_by
    f_shares := _, fd_shares := _, F_shares := F_shares, g_shares := PySem.W.mg_of X Gn a_shares, b_shares := b_shares
    f_is_fisher := _, fd_is_fisher := _, F_is_fisher := F_is_fisher, g_is_fisher := PySem.W.mg_of X Gn a_is_fisher, b_is_fisher := b_is_fisher
    f_outside_counts := _, fd_outside_counts := _, F_outside_counts := F_outside_counts, g_outside_counts := PySem.W.mg_of X Gn a_outside_counts, b_outside_counts := b_outside_counts
    f__law_family_right := _, fd__law_family_right := _, F__law_family_right := F__law_family_right, g__law_family_right := PySem.W.mg_of X Gn a__law_family_right, b__law_family_right := b__law_family_right
    f__law_over := _, fd__law_over := _, F__law_over := F__law_over, g__law_over := PySem.W.mg_of X Gn a__law_over, b__law_over := b__law_over
    f__law_shares := _, fd__law_shares := _, F__law_shares := F__law_shares, g__law_shares := PySem.W.mg_of X Gn a__law_shares, b__law_shares := b__law_shares
    f__law_fisher := _, fd__law_fisher := _, F__law_fisher := F__law_fisher, g__law_fisher := PySem.W.mg_of X Gn a__law_fisher, b__law_fisher := b__law_fisher
    f__law_hand := _, fd__law_hand := _, F__law_hand := F__law_hand, g__law_hand := PySem.W.mg_of X Gn a__law_hand, b__law_hand := b__law_hand
    f__law_is_refused := _, fd__law_is_refused := _, F__law_is_refused := F__law_is_refused, g__law_is_refused := PySem.W.mg_of X Gn a__law_is_refused, b__law_is_refused := b__law_is_refused
    f_is_square_family := _, fd_is_square_family := _, F_is_square_family := F_is_square_family, g_is_square_family := PySem.W.mg_of X Gn a_is_square_family, b_is_square_family := b_is_square_family
    f_law := _, fd_law := _, F_law := F_law, g_law := PySem.W.mg_of X Gn a_law, b_law := b_law
    z_ValueError := PySem.W.mg_none_of X Gn z_ValueError
    z_abs := PySem.W.mg_none_of X Gn z_abs
    z_all := PySem.W.mg_none_of X Gn z_all
    z_any := PySem.W.mg_none_of X Gn z_any
    z_bool := PySem.W.mg_none_of X Gn z_bool
    z_int := PySem.W.mg_none_of X Gn z_int
    z_isinstance := PySem.W.mg_none_of X Gn z_isinstance
    z_len := PySem.W.mg_none_of X Gn z_len
    z_min := PySem.W.mg_none_of X Gn z_min
    z_range := PySem.W.mg_none_of X Gn z_range
    z_repr := PySem.W.mg_none_of X Gn z_repr
    z_sorted := PySem.W.mg_none_of X Gn z_sorted
    z_tuple := PySem.W.mg_none_of X Gn z_tuple
    z_zip := PySem.W.mg_none_of X Gn z_zip
    C_BlockError := C_BlockError, k_BlockError := rfl, c_BlockError := PySem.W.mg_of X Gn aC_BlockError
    C_NoNumber := C_NoNumber, k_NoNumber := rfl, c_NoNumber := PySem.W.mg_of X Gn aC_NoNumber
    I_NoNumber := I_NoNumber, e_NoNumber := Pe.exc_mk x_NoNumber x_BlockError vB iB fn_NoNumber cI_NoNumber lI_NoNumber v2_NoNumber vf_NoNumber lx_NoNumber iC_NoNumber ti_NoNumber mv_NoNumber mc_NoNumber be_NoNumber ty_NoNumber kC_NoNumber sa_NoNumber (PySem.W.mg_none_of X Gn z_super) op (by decide +kernel)
    v_MOST_SIZE := ⟨_, PySem.W.mg_of X Gn gv_MOST_SIZE⟩
    x_NoNumber := exm1 be_BlockError is_BlockError ty_BlockError sb_NoNumber, ec_NoNumber := ⟨hg_NoNumber, hk_NoNumber, be_NoNumber, hd_NoNumber, ha_NoNumber, cn, ctk, hm_NoNumber⟩, qv_NoNumber := kitVE sv_NoNumber
    q_NoNumber_NoNumber := kit1 is_NoNumber ty_NoNumber se_NoNumber se_NoNumber
    cc_law := cc_law, tt_law := tt_law, code_law := rfl, tin_law := List.mem_cons_self, tun_law := fun p hp e => by rw [List.mem_singleton.mp hp]
  }
  refine ⟨G, T.fd_law, [(cc_law, tt_law)], m_law, rfl, ?_, ?_, ?_, main, ?_⟩
  · intro q hq
    rw [List.mem_singleton.mp hq]
    exact tabC_of X own l_law rfl (codeHd_by lc_law lh_law) lt_law
  · intro p hp
    rw [List.mem_singleton.mp hp]
    exact ⟨_, List.mem_cons_self, rfl⟩
  · intro s u
    exact .of_eq rfl
  · intro base kb nb tb
    exact ok_law T rfl (tb _ List.mem_cons_self)
end
end Pk05
end
/- V1 -/
section
set_option Elab.async false
set_option linter.all false
set_option maxRecDepth 100000
set_option maxHeartbeats 2000000
namespace Pb
open PySem L2
theorem nr {α : Sort _} {a b : α} (h : a = b) : a = b := h
/-! ### by-value terms, evaluated by rewriting from within: each step's continuation has a name and is opened where its values are known -/
section
variable {m ma mb mc mi me mt : M} {ml mr : MA} {a b : S} {ρ ρ1 : En} {d : Nat} {t : T} {r r1 r2 : Rz} {i : Nat} {g g' : Rz → Rz → Option Rz} {mg : Rz → En → Option En} {rs : List Rz} {e : T}
@[simp] theorem v_bind_ok {k : Rz → En → Out} : (Out.ok r ρ).bind k = k r ρ := nr rfl
@[simp] theorem v_bind_no {k : Rz → En → Out} : Out.no.bind k = .no := nr rfl
@[simp] theorem v_bind_ex {k : Rz → En → Out} : (Out.ex e ρ).bind k = .ex e ρ := nr rfl
@[simp] theorem v_fl_ok {k : Rz → En → Fl} : (Out.ok r ρ).fl k = k r ρ := nr rfl
@[simp] theorem v_fl_no {k : Rz → En → Fl} : Out.no.fl k = .no := nr rfl
@[simp] theorem v_fl_ex {k : Rz → En → Fl} : (Out.ex e ρ).fl k = .ex e ρ := nr rfl
@[simp] theorem v_bindA_ok {k : Rz → En → OutA} : (Out.ok r ρ).bindA k = k r ρ := nr rfl
@[simp] theorem v_bindA_ex {k : Rz → En → OutA} : (Out.ex e ρ).bindA k = .ex e ρ := nr rfl
@[simp] theorem v_bindI_ok {k : Rz → En → OutI} : (Out.ok r ρ).bindI k = k r ρ := nr rfl
@[simp] theorem v_abind_ok {k : List Rz → En → Out} : (OutA.ok rs ρ).bind k = k rs ρ := nr rfl
@[simp] theorem v_abind_ex {k : List Rz → En → Out} : (OutA.ex e ρ).bind k = .ex e ρ := nr rfl
@[simp] theorem v_afl_ok {k : List Rz → En → Fl} : (OutA.ok rs ρ).fl k = k rs ρ := nr rfl
@[simp] theorem v_abindI_ok {k : List Rz → En → OutI} : (OutA.ok rs ρ).bindI k = k rs ρ := nr rfl
@[simp] theorem v_cons_ok : (OutA.ok rs ρ).cons r = .ok (r :: rs) ρ := nr rfl
@[simp] theorem v_cons_ex : (OutA.ex e ρ).cons r = .ex e ρ := nr rfl
@[simp] theorem v_sbind_nx {k : En → Fl} : (Fl.nx ρ).bind k = k ρ := nr rfl
@[simp] theorem v_sbind_rt {k : En → Fl} : (Fl.rt r ρ).bind k = .rt r ρ := nr rfl
@[simp] theorem v_sbind_ex {k : En → Fl} : (Fl.ex e ρ).bind k = .ex e ρ := nr rfl
@[simp] theorem v_sbind_bk {k : En → Fl} : (Fl.bk ρ).bind k = .bk ρ := nr rfl
@[simp] theorem v_sbind_ct {k : En → Fl} : (Fl.ct ρ).bind k = .ct ρ := nr rfl
@[simp] theorem v_out_nx {f : En → En} : (Fl.nx ρ).out f = .ok (fz .non) (f ρ) := nr rfl
@[simp] theorem v_out_rt {f : En → En} : (Fl.rt r ρ).out f = .ok r (f ρ) := nr rfl
@[simp] theorem v_out_ex {f : En → En} : (Fl.ex e ρ).out f = .ex e (f ρ) := nr rfl
/- names, constants -/
def varO (ρ : En) : Option Sl → Out
  | some (some (d, t)) => .ok ⟨d, d != 0, t⟩ ρ
  | _ => .no
@[simp] theorem v_var : mVar i ρ = varO ρ ρ[i]? := by unfold mVar varO; rfl
@[simp] theorem v_varO0 : varO ρ (some (some (0, t))) = .ok ⟨0, false, t⟩ ρ := nr rfl
@[simp] theorem v_varO1 : varO ρ (some (some (d + 1, t))) = .ok ⟨d + 1, true, t⟩ ρ := nr rfl
@[simp] theorem v_varOne : varO ρ (some (some (1, t))) = .ok ⟨1, true, t⟩ ρ := nr rfl
def varMO (i : Nat) (ρ : En) : Option Sl → Out
  | some (some (d, t)) => .ok ⟨d, false, t⟩ (ρ.set i none)
  | _ => .no
@[simp] theorem v_varM : mVarM i ρ = varMO i ρ ρ[i]? := by unfold mVarM varMO; rfl
@[simp] theorem v_varMO : varMO i ρ (some (some (d, t))) = .ok ⟨d, false, t⟩ (ρ.set i none) := nr rfl
def varFO (i : Nat) (ρ : En) : Option Sl → Out
  | some (some (_, t)) => .ok (fz t) (ρ.set i (some (0, t)))
  | _ => .no
@[simp] theorem v_varF : mVarF i ρ = varFO i ρ ρ[i]? := by unfold mVarF varFO; rfl
@[simp] theorem v_varFO : varFO i ρ (some (some (d, t))) = .ok ⟨0, false, t⟩ (ρ.set i (some (0, t))) := nr rfl
@[simp] theorem v_c : mC t ρ = .ok ⟨0, false, t⟩ ρ := nr rfl
@[simp] theorem v_dnew {kd : Bool} : mDNew kd ρ = .ok ⟨1, false, .dct kd [] []⟩ ρ := nr rfl
/- operators -/
def res (ρ : En) : Option Rz → Out
  | some r => if r.al = true then .no else .ok r ρ
  | none => .no
@[simp] theorem v_res : res ρ (some ⟨d, false, t⟩) = .ok ⟨d, false, t⟩ ρ := nr rfl
@[simp] theorem v_resz : res ρ (some (fz t)) = .ok ⟨0, false, t⟩ ρ := nr rfl
@[simp] theorem v_reso : res ρ (some (ow t)) = .ok ⟨1, false, t⟩ ρ := nr rfl
def k2 (g : Rz → Rz → Option Rz) (r1 r2 : Rz) (ρ : En) : Out := res ρ (g r1 r2)
def k1 (pb : Bool) (g : Rz → Rz → Option Rz) (mb : M) (r1 : Rz) (ρ : En) : Out := if (r1.al && !pb) = true then .no else (mb ρ).bind (k2 g r1)
theorem v_op2 {pb : Bool} : mOp2 pb g ma mb ρ = (ma ρ).bind (k1 pb g mb) := by
  unfold mOp2 k1 k2 res
  rfl
@[simp] theorem v_k1t : k1 true g mb r1 ρ = (mb ρ).bind (k2 g r1) := by unfold k1; simp
@[simp] theorem v_k1f : k1 false g mb ⟨d, false, t⟩ ρ = (mb ρ).bind (k2 g ⟨d, false, t⟩) := by unfold k1; simp
@[simp] theorem v_k2 : k2 g r1 r2 ρ = res ρ (g r1 r2) := nr rfl
def ku (g : Rz → Option Rz) (r : Rz) (ρ : En) : Out := res ρ (g r)
theorem v_op1 {g : Rz → Option Rz} : mOp1 g ma ρ = (ma ρ).bind (ku g) := by unfold mOp1 ku res; rfl
@[simp] theorem v_ku {g : Rz → Option Rz} : ku g r ρ = res ρ (g r) := nr rfl
def kx (r1 r2 : Rz) (ρ : En) : Out := match gIdx r1 r2 with | some r => .ok r ρ | none => .no
def resx (ρ : En) : Option Rz → Out
  | some r => .ok r ρ
  | none => .no
def kx1 (pb : Bool) (mb : M) (r1 : Rz) (ρ : En) : Out := if (r1.al && !pb) = true then .no else (mb ρ).bind (kx r1)
theorem v_idx {pb : Bool} : mIdx pb ma mb ρ = (ma ρ).bind (kx1 pb mb) := by unfold mIdx kx1 kx; rfl
@[simp] theorem v_kx1t : kx1 true mb r1 ρ = (mb ρ).bind (kx r1) := by unfold kx1; simp
@[simp] theorem v_kx1f : kx1 false mb ⟨d, false, t⟩ ρ = (mb ρ).bind (kx ⟨d, false, t⟩) := by unfold kx1; simp
@[simp] theorem v_kx : kx r1 r2 ρ = resx ρ (gIdx r1 r2) := by unfold kx resx; cases gIdx r1 r2 <;> rfl
@[simp] theorem v_resx : resx ρ (some r) = .ok r ρ := nr rfl
/- tests -/
def kb (r : Rz) (ρ : En) : Out := match r.t with
  | .bl b => .ok (fz (.bl b)) ρ
  | _ => .no
theorem v_B : mB m ρ = (m ρ).bind kb := nr rfl
@[simp] theorem v_kb {al b : Bool} : kb ⟨d, al, .bl b⟩ ρ = .ok ⟨0, false, .bl b⟩ ρ := nr rfl
def resB (ρ : En) : Option Bool → Out
  | some b => .ok (fz (.bl b)) ρ
  | none => .no
def ktr (r : Rz) (ρ : En) : Out := resB ρ (truthT r.t)
theorem v_Tr : mTr m ρ = (m ρ).bind ktr := by unfold mTr ktr resB; rfl
@[simp] theorem v_ktr {al : Bool} : ktr ⟨d, al, t⟩ ρ = resB ρ (truthT t) := nr rfl
@[simp] theorem v_resB {b : Bool} : resB ρ (some b) = .ok ⟨0, false, .bl b⟩ ρ := nr rfl
@[simp] theorem v_truth_bl {b : Bool} : truthT (.bl b) = some b := nr rfl
def kand (mb : M) (r : Rz) (ρ : En) : Out := match r.t with
  | .bl true => mb ρ
  | .bl false => .ok (fz (.bl false)) ρ
  | _ => .no
theorem v_and : mAnd ma mb ρ = (ma ρ).bind (kand mb) := nr rfl
@[simp] theorem v_kand_t {al : Bool} : kand mb ⟨d, al, .bl true⟩ ρ = mb ρ := nr rfl
@[simp] theorem v_kand_f {al : Bool} : kand mb ⟨d, al, .bl false⟩ ρ = .ok ⟨0, false, .bl false⟩ ρ := nr rfl
def kor (mb : M) (r : Rz) (ρ : En) : Out := match r.t with
  | .bl true => .ok (fz (.bl true)) ρ
  | .bl false => mb ρ
  | _ => .no
theorem v_or : mOr ma mb ρ = (ma ρ).bind (kor mb) := nr rfl
@[simp] theorem v_kor_t {al : Bool} : kor mb ⟨d, al, .bl true⟩ ρ = .ok ⟨0, false, .bl true⟩ ρ := nr rfl
@[simp] theorem v_kor_f {al : Bool} : kor mb ⟨d, al, .bl false⟩ ρ = mb ρ := nr rfl
def knot (r : Rz) (ρ : En) : Out := match r.t with
  | .bl b => .ok (fz (.bl !b)) ρ
  | _ => .no
theorem v_not : mNot ma ρ = (ma ρ).bind knot := nr rfl
@[simp] theorem v_knot {al b : Bool} : knot ⟨d, al, .bl b⟩ ρ = .ok ⟨0, false, .bl !b⟩ ρ := nr rfl
def kif (ma mb : M) (r : Rz) (ρ : En) : Out := match r.t with
  | .bl true => ma ρ
  | .bl false => mb ρ
  | _ => .no
theorem v_if : mIf mc ma mb ρ = (mc ρ).bind (kif ma mb) := nr rfl
@[simp] theorem v_kif_t {al : Bool} : kif ma mb ⟨d, al, .bl true⟩ ρ = ma ρ := nr rfl
@[simp] theorem v_kif_f {al : Bool} : kif ma mb ⟨d, al, .bl false⟩ ρ = mb ρ := nr rfl
/- several -/
@[simp] theorem v_nil : mNil ρ = .ok [] ρ := nr rfl
def kc (pr : Bool) (mr : MA) (r : Rz) (ρ : En) : OutA := if (r.al && !pr) = true then .no else (mr ρ).cons r
theorem v_cons {pr : Bool} : mCons pr ma mr ρ = (ma ρ).bindA (kc pr mr) := nr rfl
@[simp] theorem v_kct : kc true mr r ρ = (mr ρ).cons r := by unfold kc; simp
@[simp] theorem v_kcf {pr : Bool} : kc pr mr ⟨d, false, t⟩ ρ = (mr ρ).cons ⟨d, false, t⟩ := by unfold kc; simp
def kt (rs : List Rz) (ρ : En) : Out := if (noAl rs && decide (rs.length ≤ sizeLine)) = true then .ok (fz (.tup (rs.map (·.t)))) ρ else .no
theorem v_tup : mTup ml ρ = (ml ρ).bind kt := nr rfl
def kl (rs : List Rz) (ρ : En) : Out := if (noAl rs && decide (rs.length ≤ sizeLine)) = true then .ok (ow (.lst (rs.map (·.t)))) ρ else .no
theorem v_lst : mLst ml ρ = (ml ρ).bind kl := nr rfl
@[simp] theorem v_noAl0 : noAl [] = true := by simp [noAl]
@[simp] theorem v_noAl : noAl (⟨d, false, t⟩ :: rs) = noAl rs := by simp [noAl]
def ko (g : List Rz → Option Rz) (rs : List Rz) (ρ : En) : Out := res ρ (g rs)
theorem v_opN {g : List Rz → Option Rz} : mOpN g ml ρ = (ml ρ).bind (ko g) := by unfold mOpN ko res; rfl
@[simp] theorem v_ko {g : List Rz → Option Rz} : ko g rs ρ = res ρ (g rs) := nr rfl
@[simp] theorem v_g1 {k : Rz → Option T} : g1 k [r] = (k r).map fz := by
  show (match k r with | some t => some (fz t) | none => none) = _
  cases k r <;> rfl
@[simp] theorem v_g2 {k : Rz → Rz → Option T} : g2 k [r, r1] = (k r r1).map fz := by
  show (match k r r1 with | some t => some (fz t) | none => none) = _
  cases k r r1 <;> rfl
/- calls -/
def callO (rs : List Rz) (ρ1 : En) : Out → Out
  | .ok r _ => if noAl rs = true then (if r.al = true then .no else .ok r ρ1) else if scal r.t = true then .ok (fz r.t) ρ1 else .no
  | .ex e _ => if noAl rs = true then .ex e ρ1 else .no
  | .no => .no
def kcall (mf : MF) (rs : List Rz) (ρ1 : En) : Out := callO rs ρ1 (mf (rs.map (·.t)))
theorem v_call {mf : MF} : mCall mf ml ρ = (ml ρ).bind (kcall mf) := by unfold mCall kcall callO; rfl
@[simp] theorem v_kcall {mf : MF} : kcall mf rs ρ = callO rs ρ (mf (rs.map (·.t))) := nr rfl
@[simp] theorem v_callO (h : noAl rs = true) : callO rs ρ1 (.ok ⟨d, false, t⟩ ρ) = .ok ⟨d, false, t⟩ ρ1 := by unfold callO; simp [h]
@[simp] theorem v_callOe (h : noAl rs = true) : callO rs ρ1 (.ex e ρ) = .ex e ρ1 := by unfold callO; simp [h]
def putI (i : Nat) (ρ1 : En) : Out → Out
  | .ok r ρ' => if r.al = true then .no else .ok r (ρ1.set i (ρ'[0]?.getD none))
  | .ex e ρ' => .ex e (ρ1.set i (ρ'[0]?.getD none))
  | .no => .no
def slotI (i d : Nat) (mf : MF) (rs : List Rz) (ρ1 : En) : Option Sl → Out
  | some (some (d', t)) => if d' = d then putI i ρ1 (mf (t :: rs.map (·.t))) else .no
  | _ => .no
def kcallI (i d : Nat) (mf : MF) (rs : List Rz) (ρ1 : En) : Out := if noAl rs = true then slotI i d mf rs ρ1 ρ1[i]? else .no
def gateI (i d : Nat) (mf : MF) (ml : MA) (ρ : En) : Option Sl → Out
  | some (some _) => (ml ρ).bind (kcallI i d mf)
  | _ => .no
theorem v_callI {mf : MF} : mCallI i d mf ml ρ = gateI i d mf ml ρ ρ[i]? := by
  unfold mCallI gateI kcallI slotI putI
  rfl
@[simp] theorem v_gateI {mf : MF} {s : Nat × T} : gateI i d mf ml ρ (some (some s)) = (ml ρ).bind (kcallI i d mf) := nr rfl
@[simp] theorem v_kcallI {mf : MF} (h : noAl rs = true) : kcallI i d mf rs ρ1 = slotI i d mf rs ρ1 ρ1[i]? := by unfold kcallI; simp [h]
@[simp] theorem v_slotI {mf : MF} : slotI i d mf rs ρ1 (some (some (d, t))) = putI i ρ1 (mf (t :: rs.map (·.t))) := by unfold slotI; simp
@[simp] theorem v_putI {s : Sl} : putI i ρ1 (.ok ⟨d, false, t⟩ [s]) = .ok ⟨d, false, t⟩ (ρ1.set i s) := nr rfl
/- statements -/
theorem v_seq : mSeq a b ρ = (a ρ).bind b := nr rfl
@[simp] theorem v_skip : mSkip ρ = .nx ρ := nr rfl
@[simp] theorem v_pass : mPass ρ = .nx ρ := nr rfl
@[simp] theorem v_brk : mBrk ρ = .bk ρ := nr rfl
@[simp] theorem v_cnt : mCnt ρ = .ct ρ := nr rfl
def setO : Option En → Fl
  | some ρ => .nx ρ
  | none => .no
@[simp] theorem v_setO : setO (some ρ) = .nx ρ := nr rfl
def kasg (mg : Rz → En → Option En) (r : Rz) (ρ : En) : Fl := if r.al = true then .no else setO (mg r ρ)
theorem v_asg : mAsg m mg ρ = (m ρ).fl (kasg mg) := by unfold mAsg kasg setO; rfl
@[simp] theorem v_kasg : kasg mg ⟨d, false, t⟩ ρ = setO (mg ⟨d, false, t⟩ ρ) := nr rfl
def kfz (r : Rz) (ρ : En) : Out := if r.al = true then .no else .ok (fz r.t) ρ
theorem v_fz : mFz m ρ = (m ρ).bind kfz := nr rfl
@[simp] theorem v_kfz : kfz ⟨d, false, t⟩ ρ = .ok ⟨0, false, t⟩ ρ := nr rfl
def kret (r : Rz) (ρ : En) : Fl := if r.al = true then .no else .rt r ρ
theorem v_ret : mRet m ρ = (m ρ).fl kret := nr rfl
@[simp] theorem v_kret : kret ⟨d, false, t⟩ ρ = .rt ⟨d, false, t⟩ ρ := nr rfl
@[simp] theorem v_retN : mRetN ρ = .rt ⟨0, false, .non⟩ ρ := nr rfl
def kexp (_ : Rz) (ρ : En) : Fl := .nx ρ
theorem v_expr : mExpr m ρ = (m ρ).fl kexp := nr rfl
@[simp] theorem v_kexp : kexp r ρ = .nx ρ := nr rfl
def kifs (a b : S) (r : Rz) (ρ : En) : Fl := match r.t with
  | .bl true => a ρ
  | .bl false => b ρ
  | _ => .no
theorem v_ifs : mIfS mc a b ρ = (mc ρ).fl (kifs a b) := nr rfl
@[simp] theorem v_kifs_t {al : Bool} : kifs a b ⟨d, al, .bl true⟩ ρ = a ρ := nr rfl
@[simp] theorem v_kifs_f {al : Bool} : kifs a b ⟨d, al, .bl false⟩ ρ = b ρ := nr rfl
theorem v_kifs {al c : Bool} : kifs a b ⟨d, al, .bl c⟩ ρ = if c = true then a ρ else b ρ := by cases c <;> rfl
def kpar (gs : List Rz → En → Option En) (rs : List Rz) (ρ : En) : Fl := if noAl rs = true then setO (gs rs ρ) else .no
theorem v_par {gs : List Rz → En → Option En} : mPar ml gs ρ = (ml ρ).fl (kpar gs) := by unfold mPar kpar setO; rfl
@[simp] theorem v_kpar {gs : List Rz → En → Option En} (h : noAl rs = true) : kpar gs rs ρ = setO (gs rs ρ) := by unfold kpar; simp [h]
/- targets -/
@[simp] theorem v_gset (h : i < ρ.length) : gSet i r ρ = some (ρ.set i (some (r.d, r.t))) := by unfold gSet; simp [h]
@[simp] theorem v_gsnil : gsNil [] ρ = some ρ := nr rfl
@[simp] theorem v_gscons {ga : Rz → En → Option En} {gb : List Rz → En → Option En} : gsCons ga gb (r :: rs) ρ = (ga r ρ).bind (gb rs) := nr rfl
@[simp] theorem v_gtup {gs : List Rz → En → Option En} {k : Nat} {al : Bool} {ts : List T} (h : ts.length = k) : gTupM gs k ⟨d, al, .tup ts⟩ ρ = gs (ts.map fz) ρ := by unfold gTupM; simp [h]
def stO (i : Nat) (ρ : En) (ri : Rz) (r : Rz) : Option Sl → Option En
  | some (some (d + 1, t)) => if canPut d r = true then (stT t ri.t r.t).map fun t' => ρ.set i (some (d + 1, t')) else none
  | _ => none
def kseti (i : Nat) (ρ : En) (r : Rz) : Out → Option En
  | .ok ri _ => stO i ρ ri r ρ[i]?
  | _ => none
theorem v_gseti : gSetI i mi r ρ = kseti i ρ r (mi ρ) := by unfold gSetI kseti stO; rfl
@[simp] theorem v_kseti {ri : Rz} : kseti i ρ r (.ok ri ρ1) = stO i ρ ri r ρ[i]? := nr rfl
@[simp] theorem v_stO {ri : Rz} (h : canPut d r = true) : stO i ρ ri r (some (some (d + 1, t))) = (stT t ri.t r.t).map fun t' => ρ.set i (some (d + 1, t')) := by unfold stO; simp [h]
@[simp] theorem v_stO1 {ri : Rz} (h : canPut 0 r = true) : stO i ρ ri r (some (some (1, t))) = (stT t ri.t r.t).map fun t' => ρ.set i (some (1, t')) := v_stO h
@[simp] theorem v_canPut {t : T} : canPut d ⟨d, false, t⟩ = true := by simp [canPut]
@[simp] theorem v_canPut0 {k : Nat} {t : T} : canPut 0 ⟨k, false, t⟩ = true := by simp [canPut]
/- ints -/
variable {x y : Int} {al al' : Bool} {d' : Nat}
@[simp] theorem v_gI {c : Int → Int → Bool} {k : Int → Int → Int} (h : c x y = true) : gI c k ⟨d, al, .int x⟩ ⟨d', al', .int y⟩ = some (fz (.int (k x y))) := by unfold gI; simp [h]
@[simp] theorem v_gB {k : Int → Int → Bool} : gB k ⟨d, al, .int x⟩ ⟨d', al', .int y⟩ = some (fz (.bl (k x y))) := nr rfl
@[simp] theorem v_tt : tt2 x y = true := by simp [tt2]
@[simp] theorem v_pos (h : 0 < y) : posOk x y = true := decide_eq_true h
@[simp] theorem v_div (h : 0 < y) (h2 : y < 1073741824) : divOk x y = true := by unfold divOk; simp [h, h2]
theorem v_mul_r (h1 : -18446744073709551616 < y) (h2 : y < 18446744073709551616) : mulOk x y = true := by unfold mulOk small; simp [h1, h2]
theorem v_mul_l (h1 : -18446744073709551616 < x) (h2 : x < 18446744073709551616) : mulOk x y = true := by unfold mulOk small; simp [h1, h2]
@[simp] theorem v_pow (h : 0 ≤ y) (h2 : y ≤ 1000) (h3 : x.natAbs < 18446744073709551616) : powOk x y = true := by unfold powOk; simp [h, h2, h3]
@[simp] theorem v_oadd : oAdd ⟨d, al, .int x⟩ ⟨d', al', .int y⟩ = some (fz (.int (x + y))) := nr rfl
theorem v_omul (h : mulOk x y = true) : oMul ⟨d, al, .int x⟩ ⟨d', al', .int y⟩ = some (fz (.int (x * y))) := by unfold oMul orG2 gI; simp [h]
@[simp] theorem v_neg : gNeg ⟨d, al, .int x⟩ = some (fz (.int (-x))) := nr rfl
@[simp] theorem v_abs : kAbs ⟨d, al, .int x⟩ = some (.int (if x < 0 then -x else x)) := nr rfl
@[simp] theorem v_int : kInt ⟨d, al, .int x⟩ = some (.int x) := nr rfl
@[simp] theorem v_eqI : gEq ⟨d, al, .int x⟩ ⟨d', al', .int y⟩ = some (fz (.bl (decide (x = y)))) := by
  have h : ∀ z : Int, dle 64 (.int z) = true := fun z => rfl
  have e : eqT (.int x) (.int y) = decide (x = y) := by
    unfold eqT toD
    first | rfl | simp [PyData.eqv]
  unfold gEq
  simp only [h, Bool.and_self, if_true, e]
@[simp] theorem v_neI : gNe ⟨d, al, .int x⟩ ⟨d', al', .int y⟩ = some (fz (.bl (!decide (x = y)))) := by
  have h : ∀ z : Int, dle 64 (.int z) = true := fun z => rfl
  have e : eqT (.int x) (.int y) = decide (x = y) := by
    unfold eqT toD
    first | rfl | simp [PyData.eqv]
  unfold gNe
  simp only [h, Bool.and_self, if_true, e]
@[simp] theorem v_len_lst {ts : List T} (h : d ≤ 1) : kLen ⟨d, al, .lst ts⟩ = some (.int ts.length) := by unfold kLen; simp [h]
@[simp] theorem v_len_tup {ts : List T} : kLen ⟨d, al, .tup ts⟩ = some (.int ts.length) := nr rfl
@[simp] theorem v_len_frl {ts : List T} : kLen ⟨d, al, .frl ts⟩ = some (.int ts.length) := nr rfl
@[simp] theorem v_idx_lst {ts : List T} (h : d ≤ 1) : gIdx ⟨d, al, .lst ts⟩ ⟨d', al', .int x⟩ = (atI ts x).map fz := by
  show (atI ts x).bind (part ⟨d, al, .lst ts⟩) = _
  cases atI ts x with
  | none => rfl
  | some t => show part ⟨d, al, .lst ts⟩ t = _; unfold part; simp [h]
@[simp] theorem v_idx_tup {ts : List T} : gIdx ⟨d, al, .tup ts⟩ ⟨d', al', .int x⟩ = (atI ts x).map fz := nr rfl
theorem atI_nat {α : Type} {ts : List α} {k : Nat} (h : k < ts.length) : atI ts (k : Int) = ts[k]? := by
  unfold atI ixN
  have h1 : (0 : Int) ≤ (k : Int) := Int.natCast_nonneg k
  have h2 : (k : Int) < (ts.length : Int) := by omega
  rw [if_pos h1, if_pos h2]
  rfl
@[simp] theorem v_stL {ts : List T} {v : T} {k : Nat} (h : k < ts.length) : stT (.lst ts) (.int (k : Int)) v = some (.lst (ts.set k v)) := by
  unfold stT ixN
  have h1 : (0 : Int) ≤ (k : Int) := Int.natCast_nonneg k
  have h2 : (k : Int) < (ts.length : Int) := by omega
  simp only [h1, h2, if_true, Option.map_some, Int.toNat_natCast]
end
end Pb
end
/- K05t -/
section
set_option Elab.async false
set_option linter.all false
set_option maxRecDepth 100000
set_option maxHeartbeats 4000000
namespace Pk05
open PySem Pb L2
theorem v_mul_mod {z m y : Int} (h : 0 < m) (h2 : m < 18446744073709551616) : mulOk (z % m) y = true := by
  have h3 := Int.emod_nonneg z (show m ≠ 0 by omega)
  have h4 := Int.emod_lt_of_pos z h
  exact v_mul_l (by omega) (by omega)
def dn (h c : Int) : Int := (((h + 7919 * c) * 40692 % 2147483647) * ((h + 7919 * c) * 40692 % 2147483647 / 1009 + 69621) % 2147483647) * ((((h + 7919 * c) * 40692 % 2147483647) * ((h + 7919 * c) * 40692 % 2147483647 / 1009 + 69621) % 2147483647) / 2003 + 40014) % 2147483563 / 16
abbrev hnd (row : List Int) (i : Nat) (acc h c : Int) : T := .lst [.lst (row.map .int), .int i, .int acc, .int h, .int c]
theorem draw {row : List Int} {i : Nat} {acc h c many : Int} (hi : i ≤ row.length) (hm : 0 < many) (hm2 : many < 1073741824) : ∃ d i' acc' h' c', i' ≤ row.length ∧ 0 ≤ d ∧ d < many ∧ m__law_draw [hnd row i acc h c, .int many] = .ok (fz (.int d)) [some (1, hnd row i' acc' h' c')] := by
  have a0 : ∀ t0 t1 t2 t3 t4 : T, atI [t0, t1, t2, t3, t4] 0 = some t0 := fun _ _ _ _ _ => rfl
  have a1 : ∀ t0 t1 t2 t3 t4 : T, atI [t0, t1, t2, t3, t4] 1 = some t1 := fun _ _ _ _ _ => rfl
  have a2 : ∀ t0 t1 t2 t3 t4 : T, atI [t0, t1, t2, t3, t4] 2 = some t2 := fun _ _ _ _ _ => rfl
  have a3 : ∀ t0 t1 t2 t3 t4 : T, atI [t0, t1, t2, t3, t4] 3 = some t3 := fun _ _ _ _ _ => rfl
  have a4 : ∀ t0 t1 t2 t3 t4 : T, atI [t0, t1, t2, t3, t4] 4 = some t4 := fun _ _ _ _ _ => rfl
  have s1 : ∀ t0 t1 t2 t3 t4 v : T, stT (.lst [t0, t1, t2, t3, t4]) (.int 1) v = some (.lst [t0, v, t2, t3, t4]) := fun _ _ _ _ _ _ => rfl
  have s2 : ∀ t0 t1 t2 t3 t4 v : T, stT (.lst [t0, t1, t2, t3, t4]) (.int 2) v = some (.lst [t0, t1, v, t3, t4]) := fun _ _ _ _ _ _ => rfl
  have s3 : ∀ t0 t1 t2 t3 t4 v : T, stT (.lst [t0, t1, t2, t3, t4]) (.int 3) v = some (.lst [t0, t1, t2, v, t4]) := fun _ _ _ _ _ _ => rfl
  have s4 : ∀ t0 t1 t2 t3 t4 v : T, stT (.lst [t0, t1, t2, t3, t4]) (.int 4) v = some (.lst [t0, t1, t2, t3, v]) := fun _ _ _ _ _ _ => rfl
  have dm : ∀ z : Int, 0 ≤ z % many ∧ z % many < many := fun z => ⟨Int.emod_nonneg z (by omega), Int.emod_lt_of_pos z hm⟩
  simp only [m__law_draw, b__law_draw, mFunI, initE, zeros]
  by_cases hp : 0 < acc
  · have ha : ¬ acc = 0 := by omega
    refine ⟨acc % many, i, acc / many, h, c, hi, (dm _).1, (dm _).2, ?_⟩
    simp [v_op2, v_op1, v_idx, v_B, v_Tr, v_and, v_or, v_not, v_if, v_cons, v_tup, v_lst, v_opN, v_call, v_callI, v_seq, v_asg, v_fz, v_ret, v_expr, v_ifs, v_par, v_gseti, kt, kl, hp, ha, hm, hm2, a0, a1, a2, a3, a4, s1, s2, s3, s4]
  · by_cases ha : acc = 0
    · by_cases hl : i < row.length
      · have g0 : (row.map T.int)[i]? = some (.int row[i]) := by simp [hl]
        have g1 : atI (row.map T.int) (i : Int) = some (.int row[i]) := by rw [atI_nat (by simpa using hl)]; exact g0
        have hl' : (i : Int) < (row.length : Int) := by omega
        by_cases hc : (1000000000000000000 : Int) ≤ row[i]
        · have hc2 : (0 : Int) < row[i] := by omega
          refine ⟨row[i] % many, i + 1, row[i] / many, (h * 69621 + row[i] * 48271 + 17) % 2147483629, c, by omega, (dm _).1, (dm _).2, ?_⟩
          simp [v_op2, v_op1, v_idx, v_B, v_Tr, v_and, v_or, v_not, v_if, v_cons, v_tup, v_lst, v_opN, v_call, v_callI, v_seq, v_asg, v_fz, v_ret, v_expr, v_ifs, v_par, v_gseti, kt, kl, hp, ha, hm, hm2, a0, a1, a2, a3, a4, s1, s2, s3, s4, g1, hl', v_omul, v_mul_r, hc, hc2]
        · refine ⟨dn ((h * 69621 + row[i] * 48271 + 17) % 2147483629) (c + 1) % many, i + 1, 0, (h * 69621 + row[i] * 48271 + 17) % 2147483629, c + 1, by omega, (dm _).1, (dm _).2, ?_⟩
          simp [v_op2, v_op1, v_idx, v_B, v_Tr, v_and, v_or, v_not, v_if, v_cons, v_tup, v_lst, v_opN, v_call, v_callI, v_seq, v_asg, v_fz, v_ret, v_expr, v_ifs, v_par, v_gseti, kt, kl, hp, ha, hm, hm2, a0, a1, a2, a3, a4, s1, s2, s3, s4, g1, hl', v_omul, v_mul_r, v_mul_l, v_mul_mod, hc, dn]
      · have hl' : ¬ (i : Int) < (row.length : Int) := by omega
        refine ⟨dn h (c + 1) % many, i, 0, h, c + 1, hi, (dm _).1, (dm _).2, ?_⟩
        simp [v_op2, v_op1, v_idx, v_B, v_Tr, v_and, v_or, v_not, v_if, v_cons, v_tup, v_lst, v_opN, v_call, v_callI, v_seq, v_asg, v_fz, v_ret, v_expr, v_ifs, v_par, v_gseti, kt, kl, hp, ha, hm, hm2, a0, a1, a2, a3, a4, s1, s2, s3, s4, hl', v_omul, v_mul_r, v_mul_l, v_mul_mod, dn]
    · refine ⟨dn h (c + 1) % many, i, acc, h, c + 1, hi, (dm _).1, (dm _).2, ?_⟩
      simp [v_op2, v_op1, v_idx, v_B, v_Tr, v_and, v_or, v_not, v_if, v_cons, v_tup, v_lst, v_opN, v_call, v_callI, v_seq, v_asg, v_fz, v_ret, v_expr, v_ifs, v_par, v_gseti, kt, kl, hp, ha, hm, hm2, a0, a1, a2, a3, a4, s1, s2, s3, s4, v_omul, v_mul_r, v_mul_l, v_mul_mod, dn]
end Pk05
end
/- V2 -/
section
set_option Elab.async false
set_option linter.all false
set_option maxRecDepth 100000
set_option maxHeartbeats 2000000
namespace Pb
open PySem L2
/-! ### loops, evaluated -/
def iter {σ : Type} (cond : σ → Bool) (step : σ → Option σ) : Nat → σ → Option σ
  | 0, _ => none
  | k + 1, s => if cond s = true then (match step s with | some s' => iter cond step k s' | none => none) else some s
theorem while_step {mc : M} {mb : S} {K : Nat} {ρ ρ1 ρ2 : En} (h1 : mc ρ = .ok (fz (.bl true)) ρ1) (h2 : mb ρ1 = .nx ρ2) : whileGo mc mb (K + 1) ρ = whileGo mc mb K ρ2 := by
  show (mc ρ).fl _ = _
  rw [h1]
  show (match mb ρ1 with
      | .nx ρ2 => whileGo mc mb K ρ2
      | .ct ρ2 => whileGo mc mb K ρ2
      | .bk ρ2 => .nx ρ2
      | .rt r ρ2 => .rt r ρ2
      | .ex e ρ2 => .ex e ρ2
      | .no => .no) = _
  rw [h2]
theorem while_stop {mc : M} {mb : S} {K : Nat} {ρ ρ1 : En} (h1 : mc ρ = .ok (fz (.bl false)) ρ1) : whileGo mc mb (K + 1) ρ = .nx ρ1 := by
  show (mc ρ).fl _ = _
  rw [h1]
  rfl
theorem while_opt {σ : Type} {mc : M} {mb : S} (enc : σ → En) (cond : σ → Bool) (step : σ → Option σ) (I : σ → Prop) (hc : ∀ s, I s → mc (enc s) = .ok (fz (.bl (cond s))) (enc s))
    (hs : ∀ s s', I s → cond s = true → step s = some s' → mb (enc s) = .nx (enc s') ∧ I s') : ∀ (k K : Nat) (s r : σ), k ≤ K → I s → iter cond step k s = some r → whileGo mc mb K (enc s) = .nx (enc r) ∧ I r
  | 0, K, s, r, _, _, h => by cases h
  | k + 1, 0, s, r, hk, _, _ => by omega
  | k + 1, K + 1, s, r, hk, hI, h => by
    have c := hc s hI
    unfold iter at h
    by_cases e : cond s = true
    · rw [if_pos e] at h
      rw [e] at c
      cases es : step s with
      | none => rw [es] at h; cases h
      | some s' =>
        rw [es] at h
        obtain ⟨b, hI'⟩ := hs s s' hI e es
        rw [while_step c b]
        exact while_opt enc cond step I hc hs k K s' r (by omega) hI' h
    · rw [if_neg e] at h
      cases h
      have e' : cond s = false := by simpa using e
      rw [e'] at c
      exact ⟨while_stop c, hI⟩
def kfor (mg : Rz → En → Option En) (mb : S) (al : Bool) (ts : List T) (ρ : En) : Fl := if al = true then .no else forGo mg mb ts ρ
theorem v_for {mi : MI} {mg : Rz → En → Option En} {mb : S} {ρ : En} : mFor mi mg mb ρ = (mi ρ).fl (kfor mg mb) := nr rfl
@[simp] theorem v_ifl {al : Bool} {ts : List T} {ρ : En} {k : Bool → List T → En → Fl} : (OutI.ok al ts ρ).fl k = k al ts ρ := nr rfl
@[simp] theorem v_kfor {mg : Rz → En → Option En} {mb : S} {ts : List T} {ρ : En} : kfor mg mb false ts ρ = forGo mg mb ts ρ := nr rfl
theorem v_while {mc : M} {mb : S} {ρ : En} : mWhile mc mb ρ = whileGo mc mb fuel ρ := nr rfl
theorem v_rng1 {ρ : En} {j : Int} (h1 : -(2 ^ 62) ≤ j) (h2 : j < 2 ^ 62) : mRng1 (mCons true (mC (.int j)) mNil) ρ = .ok false (upto 0 j.toNat) ρ := by
  show (if inLine j = true then OutI.ok false (upto 0 j.toNat) ρ else .no) = _
  rw [if_pos]
  unfold inLine
  simp only [Bool.and_eq_true, decide_eq_true_eq]
  exact ⟨h1, h2⟩
theorem for_cons {mg : Rz → En → Option En} {mb : S} {t : T} {ts : List T} {ρ ρ1 ρ2 : En} (h1 : mg (fz t) ρ = some ρ1) (h2 : mb ρ1 = .nx ρ2) : forGo mg mb (t :: ts) ρ = forGo mg mb ts ρ2 := by
  show (match mg (fz t) ρ with
    | none => Fl.no
    | some ρ1 => match mb ρ1 with
      | .nx ρ2 => forGo mg mb ts ρ2
      | .ct ρ2 => forGo mg mb ts ρ2
      | .bk ρ2 => .nx ρ2
      | .rt r ρ2 => .rt r ρ2
      | .ex e ρ2 => .ex e ρ2
      | .no => .no) = _
  rw [h1]
  simp only [h2]
theorem for_rt {mg : Rz → En → Option En} {mb : S} {t : T} {ts : List T} {ρ ρ1 ρ2 : En} {r : Rz} (h1 : mg (fz t) ρ = some ρ1) (h2 : mb ρ1 = .rt r ρ2) : forGo mg mb (t :: ts) ρ = .rt r ρ2 := by
  show (match mg (fz t) ρ with
    | none => Fl.no
    | some ρ1 => match mb ρ1 with
      | .nx ρ2 => forGo mg mb ts ρ2
      | .ct ρ2 => forGo mg mb ts ρ2
      | .bk ρ2 => .nx ρ2
      | .rt r ρ2 => .rt r ρ2
      | .ex e ρ2 => .ex e ρ2
      | .no => .no) = _
  rw [h1]
  simp only [h2]
/-- a walk that keeps something -/
theorem for_inv {mg : Rz → En → Option En} {mb : S} (E : En → Prop) : ∀ (ts : List T), (∀ t ∈ ts, ∀ ρ, E ρ → ∃ ρ1 ρ2, mg (fz t) ρ = some ρ1 ∧ mb ρ1 = .nx ρ2 ∧ E ρ2) → ∀ ρ, E ρ → ∃ ρ2, forGo mg mb ts ρ = .nx ρ2 ∧ E ρ2
  | [], _, ρ, h => ⟨ρ, rfl, h⟩
  | t :: ts, hh, ρ, h => by
    obtain ⟨ρ1, ρ2, h1, h2, h3⟩ := hh t List.mem_cons_self ρ h
    rw [for_cons h1 h2]
    exact for_inv E ts (fun t ht => hh t (List.mem_cons_of_mem _ ht)) ρ2 h3
/-- a walk that ends where something is so -/
theorem for_any {mg : Rz → En → Option En} {mb : S} {r0 : Rz} (P : T → Bool) (E : En → Prop) : ∀ (ts : List T),
    (∀ t ∈ ts, ∀ ρ, E ρ → ∃ ρ1, mg (fz t) ρ = some ρ1 ∧ ((P t = true ∧ ∃ ρ2, mb ρ1 = .rt r0 ρ2) ∨ (P t = false ∧ ∃ ρ2, mb ρ1 = .nx ρ2 ∧ E ρ2))) →
    ∀ ρ, E ρ → (ts.any P = true ∧ ∃ ρ2, forGo mg mb ts ρ = .rt r0 ρ2) ∨ (ts.any P = false ∧ ∃ ρ2, forGo mg mb ts ρ = .nx ρ2 ∧ E ρ2)
  | [], _, ρ, h => .inr ⟨rfl, ρ, rfl, h⟩
  | t :: ts, hh, ρ, h => by
    obtain ⟨ρ1, h1, c⟩ := hh t List.mem_cons_self ρ h
    rcases c with ⟨hp, ρ2, h2⟩ | ⟨hp, ρ2, h2, h3⟩
    · exact .inl ⟨by simp [hp], ρ2, for_rt h1 h2⟩
    · rw [for_cons h1 h2]
      rcases for_any P E ts (fun t ht => hh t (List.mem_cons_of_mem _ ht)) ρ2 h3 with ⟨q, r⟩ | ⟨q, r⟩
      · exact .inl ⟨by simp [hp, q], r⟩
      · exact .inr ⟨by simp [hp, q], r⟩
theorem upto_eq (k : Nat) : upto 0 k = (List.range k).map fun (i : Nat) => .int (i : Int) := by
  unfold upto
  congr 1
  funext i
  simp
/-- a comprehension without a test, each element by a function of what is walked -/
theorem comp_map {vs : List Nat} {mg : Rz → En → Option En} {me : M} {ρ : En} {f : T → T} : ∀ (ts : List T), (∀ t ∈ ts, ∃ ρ1, mg (fz t) ρ = some ρ1 ∧ me ρ1 = .ok (fz (f t)) ρ1 ∧ wipeE ρ1 vs = ρ) → compGo vs 0 mg (mC (.bl true)) me ts ρ = .ok false (ts.map f) ρ
  | [], _ => rfl
  | t :: ts, h => by
    obtain ⟨ρ1, h1, h2, h3⟩ := h t List.mem_cons_self
    have ih := comp_map (f := f) ts fun t ht => h t (List.mem_cons_of_mem _ ht)
    unfold compGo
    rw [h1]
    show (match me ρ1 with
      | .ok r ρ3 => if (!r.al && (decide (0 = 0) || decide (r.d = 0))) = true then match compGo vs 0 mg (mC (.bl true)) me ts (wipeE ρ3 vs) with
          | .ok al rs ρ4 => OutI.ok al (r.t :: rs) ρ4
          | .ex e ρ4 => .ex e ρ4
          | .no => .no
        else .no
      | _ => .no) = _
    rw [h2]
    simp only [h3, ih]
    rfl
end Pb
end
/- K05n -/
section
set_option Elab.async false
set_option linter.all false
set_option maxRecDepth 100000
set_option maxHeartbeats 4000000
namespace Pk05
open PySem Pb L2
/-! ### the hand -/
theorem reps_take (ns : List Int) : cutT (ns.map T.int) none (some 63) = (ns.take 63).map T.int := by
  unfold cutT
  have h1 : HT.sIx (ns.map T.int).length 0 none = 0 := rfl
  have h2 : HT.sIx (ns.map T.int).length (ns.map T.int).length (some 63) = min 63 ns.length := by
    have := HT.sIx_nat (ns.map T.int).length (ns.map T.int).length 63
    rw [List.length_map] at this ⊢
    exact this
  rw [h1, h2]
  simp only [List.drop_zero, Nat.sub_zero, List.map_take]
  by_cases h : ns.length ≤ 63
  · rw [Nat.min_eq_right h, List.take_of_length_le (by simp), List.take_of_length_le (by simpa using h)]
  · rw [Nat.min_eq_left (by omega)]
theorem hand_ok (ns : List Int) (h : ns.length ≤ 63) : ∃ row h0, m__law_hand [.frl (ns.map .int)] = .ok ⟨1, false, hnd row 0 0 h0 0⟩ [] := by
  have hs : ∀ ρ : En, ρ[0]? = some (some (0, .frl (ns.map T.int))) → mSeqI (mSl (mVar 0) mNoPart (mPart (mC (.int 63)))) ρ = .ok false (((ns.take 63)).map T.int) ρ := by
    intro ρ e
    have e1 : mVar 0 ρ = .ok ⟨0, false, .frl (ns.map T.int)⟩ ρ := by rw [v_var, e, v_varO0]
    have e2 : mSl (mVar 0) mNoPart (mPart (mC (.int 63))) ρ = .ok (ow (.lst ((ns.take 63).map T.int))) ρ := by
      unfold mSl
      rw [e1]
      show (match T.frl (ns.map T.int) with | _ => Out.ok (ow (.lst (cutT (ns.map T.int) none (some 63)))) ρ) = _
      rw [reps_take]
    unfold mSeqI
    rw [e2]
    rfl
  refine ⟨(ns.take 63).map (fun x => if x < 0 then -x else x), 317 + 199 * (((ns.take 63).map (fun x => if x < 0 then -x else x)).length : Int), ?_⟩
  have hc : compGo [2] 0 (gSet 2) (mC (.bl true)) (mOpN (g1 kAbs) (mCons true (mOpN (g1 kInt) (mCons true (mVar 2) mNil)) mNil)) ((ns.take 63).map T.int) [some (0, T.frl (ns.map T.int)), none, none] = .ok false (((ns.take 63).map T.int).map fun t => match t with | .int x => .int (if x < 0 then -x else x) | t => t) [some (0, T.frl (ns.map T.int)), none, none] := by
    refine comp_map _ fun t ht => ?_
    obtain ⟨x, _, rfl⟩ := List.mem_map.mp ht
    refine ⟨[some (0, T.frl (ns.map T.int)), none, some (0, .int x)], rfl, ?_, rfl⟩
    simp [v_op2, v_op1, v_idx, v_B, v_Tr, v_and, v_or, v_not, v_if, v_cons, v_tup, v_lst, v_opN, v_call, v_callI, v_seq, v_asg, v_fz, v_ret, v_expr, v_ifs, v_par, v_gseti, kt, kl]
  have hm : mComp true [2] 0 (mSeqI (mSl (mVar 0) mNoPart (mPart (mC (.int 63))))) (gSet 2) (mC (.bl true)) (mOpN (g1 kAbs) (mCons true (mOpN (g1 kInt) (mCons true (mVar 2) mNil)) mNil)) [some (0, T.frl (ns.map T.int)), none, none] = .ok ⟨1, false, .lst (((ns.take 63).map fun x => if x < 0 then -x else x).map T.int)⟩ [some (0, T.frl (ns.map T.int)), none, none] := by
    unfold mComp
    rw [hs _ rfl]
    have hz : decide (sizeLine < ((ns.take 63).map T.int).length) = false := by
      have : ((ns.take 63).map T.int).length ≤ 63 := by simp; omega
      have : (63 : Nat) ≤ sizeLine := by decide
      simp; omega
    simp only [hz, Bool.false_and, Bool.or_self]
    rw [show wipeE [some (0, T.frl (ns.map T.int)), none, none] [2] = [some (0, T.frl (ns.map T.int)), none, none] from rfl, hc]
    simp only [List.map_map, if_true]
    rfl
  simp only [m__law_hand, b__law_hand, mFun, initE, zeros]
  have hl : ∀ ts : List T, ts.length ≤ 63 → decide (5 ≤ sizeLine) = true := fun _ _ => by decide
  have e5 : (5 : Nat) ≤ sizeLine := by decide
  simp [v_op2, v_op1, v_idx, v_B, v_Tr, v_and, v_or, v_not, v_if, v_cons, v_tup, v_lst, v_opN, v_call, v_callI, v_seq, v_asg, v_fz, v_ret, v_expr, v_ifs, v_par, v_gseti, kt, kl, hm, e5, v_omul, v_mul_l]
/-! ### any -/
theorem any_ok {row : List Int} {i : Nat} {acc h c : Int} {ts : List T} (hi : i ≤ row.length) (h0 : 0 < ts.length) (h1 : ts.length < 1073741824) : ∃ (d : Nat) (t : T) (i' : Nat) (acc' h' c' : Int), i' ≤ row.length ∧ ts[d]? = some t ∧ m__law_any [hnd row i acc h c, .lst ts] = .ok (fz t) [some (1, hnd row i' acc' h' c')] := by
  obtain ⟨d, i', acc', h', c', hi', d0, d1, e⟩ := draw (row := row) (i := i) (acc := acc) (h := h) (c := c) (many := (ts.length : Int)) hi (by omega) (by omega)
  obtain ⟨k, rfl⟩ := Int.eq_ofNat_of_zero_le d0
  have hk : k < ts.length := by omega
  refine ⟨k, ts[k], i', acc', h', c', hi', by simp [hk], ?_⟩
  have ea : atI ts (k : Int) = some ts[k] := by rw [atI_nat hk]; simp [hk]
  simp only [m__law_any, b__law_any, mFunI, initE, zeros]
  simp [v_op2, v_op1, v_idx, v_B, v_Tr, v_and, v_or, v_not, v_if, v_cons, v_tup, v_lst, v_opN, v_call, v_callI, v_seq, v_asg, v_fz, v_ret, v_expr, v_ifs, v_par, v_gseti, kt, kl, e, ea]
end Pk05
end
/- V3 -/
section
set_option Elab.async false
set_option linter.all false
set_option maxRecDepth 100000
set_option maxHeartbeats 2000000
namespace Pb
open PySem L2
/-! ### walks by a function of the state -/
def foldR {σ : Type} (f : σ → T → σ ⊕ Rz) : List T → σ → σ ⊕ Rz
  | [], s => .inl s
  | t :: ts, s => match f s t with
    | .inl s' => foldR f ts s'
    | .inr r => .inr r
theorem for_foldR {σ : Type} {mg : Rz → En → Option En} {mb : S} {f : σ → T → σ ⊕ Rz} (P : Nat → σ → En → Prop) : ∀ (ts : List T) (i : Nat),
    (∀ j t, ts[j]? = some t → ∀ s ρ, P (i + j) s ρ → ∃ ρ1, mg (fz t) ρ = some ρ1 ∧ match f s t with
      | .inl s' => ∃ ρ2, mb ρ1 = .nx ρ2 ∧ P (i + j + 1) s' ρ2
      | .inr r => ∃ ρ2, mb ρ1 = .rt r ρ2) →
    ∀ s ρ, P i s ρ → match foldR f ts s with
      | .inl s' => ∃ ρ2, forGo mg mb ts ρ = .nx ρ2 ∧ P (i + ts.length) s' ρ2
      | .inr r => ∃ ρ2, forGo mg mb ts ρ = .rt r ρ2
  | [], i, _, s, ρ, h => ⟨ρ, rfl, h⟩
  | t :: ts, i, hh, s, ρ, h => by
    obtain ⟨ρ1, h1, h2⟩ := hh 0 t rfl s ρ h
    unfold foldR
    cases e : f s t with
    | inl s' =>
      rw [e] at h2
      obtain ⟨ρ2, h2, h3⟩ := h2
      have ih := for_foldR P ts (i + 1) (fun j u hu s ρ he => by
        have := hh (j + 1) u (by simpa using hu) s ρ (by rw [show i + (j + 1) = i + 1 + j by omega]; exact he)
        rw [show i + (j + 1) + 1 = i + 1 + j + 1 by omega] at this
        exact this) s' ρ2 h3
      rw [for_cons h1 h2, List.length_cons, show i + (ts.length + 1) = i + 1 + ts.length by omega]
      exact ih
    | inr r =>
      rw [e] at h2
      obtain ⟨ρ2, h2⟩ := h2
      exact ⟨ρ2, for_rt h1 h2⟩
def nl (k : Nat) : List T := (List.range k).map fun (i : Nat) => .int (i : Int)
theorem rng_nl {ρ : En} {k : Nat} (h : k < 100000) : mRng1 (mCons true (mC (.int (k : Int))) mNil) ρ = .ok false (nl k) ρ := by
  have h2 : (k : Int) < 2 ^ 62 := by
    have : (100000 : Int) < 2 ^ 62 := by decide
    omega
  rw [v_rng1 (by omega) h2, Int.toNat_natCast, upto_eq]
  rfl
/-- range of what is a number -/
theorem rng_of {ρ ρ1 : En} {m : M} {al : Bool} {d : Nat} {k : Nat} (hm : m ρ = .ok ⟨d, al, .int (k : Int)⟩ ρ1) (h : k < 100000) : mRng1 (mCons true m mNil) ρ = .ok false (nl k) ρ1 := by
  have h2 : (k : Int) < 2 ^ 62 := by
    have : (100000 : Int) < 2 ^ 62 := by decide
    omega
  have e : mCons true m mNil ρ = .ok [⟨d, al, .int (k : Int)⟩] ρ1 := by rw [v_cons, hm, v_bindA_ok, v_kct, v_nil, v_cons_ok]
  have hin : inLine (k : Int) = true := by
    unfold inLine
    simp only [Bool.and_eq_true, decide_eq_true_eq]
    have : (-(2 ^ 62) : Int) ≤ 0 := by decide
    exact ⟨by omega, h2⟩
  have e2 : mRng1 (mCons true m mNil) ρ = (if inLine (k : Int) = true then OutI.ok false (upto 0 (k : Int).toNat) ρ1 else .no) := by
    unfold mRng1
    rw [e, v_abindI_ok]
  rw [e2, hin, if_pos rfl, Int.toNat_natCast, upto_eq]
  rfl
theorem nl_get {k j : Nat} {t : T} (h : (nl k)[j]? = some t) : j < k ∧ t = .int (j : Int) := by
  unfold nl at h
  have hj : j < k := by
    have := getElem?_lt h
    simpa using this
  refine ⟨hj, ?_⟩
  rw [List.getElem?_map, List.getElem?_range hj] at h
  injection h with h
  exact h.symm
theorem nl_mem {k : Nat} {t : T} (h : t ∈ nl k) : ∃ j : Nat, j < k ∧ t = .int (j : Int) := by
  obtain ⟨j, hj, e⟩ := List.mem_map.mp h
  exact ⟨j, List.mem_range.mp hj, e.symm⟩
theorem nl_len (k : Nat) : (nl k).length = k := by unfold nl; rw [List.length_map, List.length_range]
theorem nl_succ (k : Nat) : nl (k + 1) = nl k ++ [.int (k : Int)] := by unfold nl; rw [List.range_succ, List.map_append]; rfl
/-! ### what is checked by the kernel -/
def chkT (o : Out) (t : T) : Bool := match o, t with
  | .ok ⟨0, false, .bl c⟩ [], .bl b => c == b
  | .ok ⟨0, false, .int c⟩ [], .int b => decide (c = b)
  | .ok ⟨0, false, .non⟩ [], .non => true
  | _, _ => false
theorem chkT_is {o : Out} {t : T} (h : chkT o t = true) : o = .ok (fz t) [] := by
  unfold chkT at h
  split at h
  · rw [show _ = _ from beq_iff_eq.mp h]
  · rw [show _ = _ from of_decide_eq_true h]
  · rfl
  · cases h
def chkRt (o : Fl) : Bool := match o with
  | .rt ⟨0, false, .bl true⟩ _ => true
  | _ => false
theorem chkRt_is {o : Fl} (h : chkRt o = true) : ∃ ρ, o = .rt (fz (.bl true)) ρ := by
  unfold chkRt at h
  split at h
  · exact ⟨_, rfl⟩
  · cases h
end Pb
end
/- K05w -/
section
set_option Elab.async false
set_option linter.all false
set_option maxRecDepth 1000000
set_option maxHeartbeats 4000000
namespace Pk05
open PySem Pb L2
def last (o : Fl) : En := match o with
  | .rt _ ρ => ρ
  | _ => []
def okRt (o : Fl) : Bool := match o with
  | .rt ⟨0, false, .bl true⟩ _ => true
  | _ => false
theorem keeps {o : Fl} {s : Sl} (h : (okRt o, (last o)[0]?.getD none) = (true, s)) : ∃ ρ, o = .rt (fz (.bl true)) ρ ∧ ρ[0]?.getD none = s := by
  have h1 : okRt o = true := congrArg Prod.fst h
  have h2 : (last o)[0]?.getD none = s := congrArg Prod.snd h
  unfold okRt at h1
  split at h1
  · exact ⟨_, rfl, h2⟩
  · cases h1
def fall : Nat → Nat → Nat
  | _, 0 => 1
  | n, k + 1 => fall n k * (n - k)
def fct : Nat → Nat
  | 0 => 1
  | k + 1 => fct k * (k + 1)
/-- how many lots of k there are of n -/
def Cb (n k : Nat) : Nat := fall n k / fct k
def tC : Bool := (List.range 41).all fun n => (List.range 7).all fun k => chkT (m_choose [.int (n : Int), .int (k : Int)]) (.int ((Cb n k : Nat) : Int)) && chkT (m__law_over [.int (n : Int), .int (k : Int)]) (.int ((Cb n k : Nat) : Int))
def tO : Bool := (List.range 41).all fun n => (List.range (n + 1)).all fun k => chkT (m__law_over [.int (n : Int), .int (k : Int)]) (.int ((Cb n k : Nat) : Int))
def tI : Bool := (List.range 41).all fun n => (List.range (n + 1)).all fun m => (List.range (min 6 m + 1)).all fun j => decide (Cb (n - j) (m - j) * Cb n j = Cb n m * Cb m j) && decide (0 < Cb m j)
def tB : Bool := (List.range 41).all fun n => (List.range 7).all fun k => decide (Cb n k < 10000000)
def tP : Bool := (List.range 41).all fun n => (List.range (n + 1)).all fun k => decide (0 < Cb n k) && decide (Cb n k < 1000000000000)
abbrev famF : T := .tup [.int 7, .tup [.tup [.int 0, .int 1, .int 3], .tup [.int 0, .int 2, .int 6], .tup [.int 0, .int 4, .int 5], .tup [.int 1, .int 2, .int 4], .tup [.int 1, .int 5, .int 6], .tup [.int 2, .int 3, .int 5], .tup [.int 3, .int 4, .int 6]]]
abbrev famN : T := .tup [.int 9, .tup [.tup [.int 0, .int 1, .int 2], .tup [.int 0, .int 3, .int 6], .tup [.int 0, .int 4, .int 8], .tup [.int 0, .int 5, .int 7], .tup [.int 1, .int 3, .int 8], .tup [.int 1, .int 4, .int 7], .tup [.int 1, .int 5, .int 6], .tup [.int 2, .int 3, .int 7], .tup [.int 2, .int 4, .int 6], .tup [.int 2, .int 5, .int 8], .tup [.int 3, .int 4, .int 5], .tup [.int 6, .int 7, .int 8]]]
abbrev famO : T := .tup [.int 7, .tup [.tup [.int 0, .int 1, .int 2, .int 5], .tup [.int 0, .int 1, .int 4, .int 6], .tup [.int 0, .int 2, .int 3, .int 4], .tup [.int 0, .int 3, .int 5, .int 6], .tup [.int 1, .int 2, .int 3, .int 6], .tup [.int 1, .int 3, .int 4, .int 5], .tup [.int 2, .int 4, .int 5, .int 6]]]
abbrev famD : T := .tup [.int 7, .tup [.tup [.int 0, .int 1, .int 3], .tup [.int 0, .int 1, .int 3], .tup [.int 0, .int 2, .int 6], .tup [.int 0, .int 2, .int 6], .tup [.int 0, .int 4, .int 5], .tup [.int 0, .int 4, .int 5], .tup [.int 1, .int 2, .int 4], .tup [.int 1, .int 2, .int 4], .tup [.int 1, .int 5, .int 6], .tup [.int 1, .int 5, .int 6], .tup [.int 2, .int 3, .int 5], .tup [.int 2, .int 3, .int 5], .tup [.int 3, .int 4, .int 6], .tup [.int 3, .int 4, .int 6]]]
abbrev famT : T := .tup [.int 3, .tup [.tup [.int 0, .int 1, .int 2], .tup [.int 0, .int 1, .int 2]]]
abbrev famW0 : T := .tup [.int 4, .tup [.tup [.int 0, .int 1], .tup [.int 0, .int 2], .tup [.int 0, .int 3], .tup [.int 1, .int 2], .tup [.int 1, .int 3], .tup [.int 2, .int 3]]]
abbrev famW1 : T := .tup [.int 4, .tup [.tup [.int 0, .int 1, .int 2], .tup [.int 0, .int 1, .int 3], .tup [.int 0, .int 2, .int 3], .tup [.int 1, .int 2, .int 3]]]
abbrev famW2 : T := .tup [.int 5, .tup [.tup [.int 0, .int 1], .tup [.int 0, .int 2], .tup [.int 0, .int 3], .tup [.int 0, .int 4], .tup [.int 1, .int 2], .tup [.int 1, .int 3], .tup [.int 1, .int 4], .tup [.int 2, .int 3], .tup [.int 2, .int 4], .tup [.int 3, .int 4]]]
abbrev famW3 : T := .tup [.int 5, .tup [.tup [.int 0, .int 1, .int 2], .tup [.int 0, .int 1, .int 3], .tup [.int 0, .int 1, .int 4], .tup [.int 0, .int 2, .int 3], .tup [.int 0, .int 2, .int 4], .tup [.int 0, .int 3, .int 4], .tup [.int 1, .int 2, .int 3], .tup [.int 1, .int 2, .int 4], .tup [.int 1, .int 3, .int 4], .tup [.int 2, .int 3, .int 4]]]
abbrev famW4 : T := .tup [.int 5, .tup [.tup [.int 0, .int 1, .int 2, .int 3], .tup [.int 0, .int 1, .int 2, .int 4], .tup [.int 0, .int 1, .int 3, .int 4], .tup [.int 0, .int 2, .int 3, .int 4], .tup [.int 1, .int 2, .int 3, .int 4]]]
abbrev famW5 : T := .tup [.int 6, .tup [.tup [.int 0, .int 1, .int 2], .tup [.int 0, .int 1, .int 3], .tup [.int 0, .int 1, .int 4], .tup [.int 0, .int 1, .int 5], .tup [.int 0, .int 2, .int 3], .tup [.int 0, .int 2, .int 4], .tup [.int 0, .int 2, .int 5], .tup [.int 0, .int 3, .int 4], .tup [.int 0, .int 3, .int 5], .tup [.int 0, .int 4, .int 5], .tup [.int 1, .int 2, .int 3], .tup [.int 1, .int 2, .int 4], .tup [.int 1, .int 2, .int 5], .tup [.int 1, .int 3, .int 4], .tup [.int 1, .int 3, .int 5], .tup [.int 1, .int 4, .int 5], .tup [.int 2, .int 3, .int 4], .tup [.int 2, .int 3, .int 5], .tup [.int 2, .int 4, .int 5], .tup [.int 3, .int 4, .int 5]]]
abbrev famW6 : T := .tup [.int 6, .tup [.tup [.int 0, .int 1], .tup [.int 0, .int 2], .tup [.int 0, .int 3], .tup [.int 0, .int 4], .tup [.int 0, .int 5], .tup [.int 1, .int 2], .tup [.int 1, .int 3], .tup [.int 1, .int 4], .tup [.int 1, .int 5], .tup [.int 2, .int 3], .tup [.int 2, .int 4], .tup [.int 2, .int 5], .tup [.int 3, .int 4], .tup [.int 3, .int 5], .tup [.int 4, .int 5]]]
def fams : List T := [famF, famN, famO, famD, famT, famW0, famW1, famW2, famW3, famW4, famW5, famW6]
abbrev sizedT : List T := [.tup [.int 4, .int 2], .tup [.int 4, .int 3], .tup [.int 5, .int 2], .tup [.int 5, .int 3], .tup [.int 5, .int 4], .tup [.int 6, .int 3], .tup [.int 6, .int 2]]
abbrev fanoT : T := .tup [.tup [.int 0, .int 1, .int 3], .tup [.int 1, .int 2, .int 4], .tup [.int 2, .int 3, .int 5], .tup [.int 3, .int 4, .int 6], .tup [.int 0, .int 4, .int 5], .tup [.int 1, .int 5, .int 6], .tup [.int 0, .int 2, .int 6]]
abbrev othT : T := .tup [.tup [.int 0, .int 1, .int 2, .int 5], .tup [.int 0, .int 1, .int 4, .int 6], .tup [.int 0, .int 2, .int 3, .int 4], .tup [.int 0, .int 3, .int 5, .int 6], .tup [.int 1, .int 2, .int 3, .int 6], .tup [.int 1, .int 3, .int 4, .int 5], .tup [.int 2, .int 4, .int 5, .int 6]]
abbrev E0 : S := mAsg (mOpN kTuple (mCons true (mComp true [9] 0 (mRng1 (mCons true (mC (.int 7)) (mNil))) (gSet 9) (mC (.bl true)) (mOpN kTuple (mCons true (mOpN kSorted (mCons true (mComp true [11] 0 (mSeqI (mTup (mCons true (mC (.int 0)) (mCons true (mC (.int 1)) (mCons true (mC (.int 3)) (mNil)))))) (gSet 11) (mC (.bl true)) (mOp2 true gMod (mOpN (g1 kInt) (mCons true (mOp2 true oAdd (mVar 9) (mVar 11)) (mNil))) (mC (.int 7)))) (mNil))) (mNil)))) (mNil))) (gSet 1)
abbrev E1 : S := mAsg (mFz (mLst (mCons true (mTup (mCons true (mC (.int 4)) (mCons true (mC (.int 2)) (mNil)))) (mCons true (mTup (mCons true (mC (.int 4)) (mCons true (mC (.int 3)) (mNil)))) (mCons true (mTup (mCons true (mC (.int 5)) (mCons true (mC (.int 2)) (mNil)))) (mCons true (mTup (mCons true (mC (.int 5)) (mCons true (mC (.int 3)) (mNil)))) (mCons true (mTup (mCons true (mC (.int 5)) (mCons true (mC (.int 4)) (mNil)))) (mCons true (mTup (mCons true (mC (.int 6)) (mCons true (mC (.int 3)) (mNil)))) (mCons true (mTup (mCons true (mC (.int 6)) (mCons true (mC (.int 2)) (mNil)))) (mNil)))))))))) (gSet 2)
abbrev E2 : S := mAsg (mCallI 0 1 m__law_any (mCons true (mVar 2) (mNil))) (gTupM (gsCons (gSet 3) (gsCons (gSet 4) (gsNil))) 2)
abbrev E3 : S := mAsg (mOpN kTuple (mCons true (mOpN kSorted (mCons true (mComp true [10] 0 (mSeqI (mCall m__law_lots (mCons true (mVar 3) (mNil)))) (gSet 10) (mB (mOp2 true gEq (mOpN (g1 kLen) (mCons true (mVar 10) (mNil))) (mVar 4))) (mVar 10)) (mNil))) (mNil))) (gSet 5)
abbrev E4 : S := mAsg (mFz (mLst (mCons true (mTup (mCons true (mC (.int 0)) (mCons true (mC (.int 1)) (mCons true (mC (.int 2)) (mNil))))) (mCons true (mTup (mCons true (mC (.int 3)) (mCons true (mC (.int 4)) (mCons true (mC (.int 5)) (mNil))))) (mCons true (mTup (mCons true (mC (.int 6)) (mCons true (mC (.int 7)) (mCons true (mC (.int 8)) (mNil))))) (mCons true (mTup (mCons true (mC (.int 0)) (mCons true (mC (.int 3)) (mCons true (mC (.int 6)) (mNil))))) (mCons true (mTup (mCons true (mC (.int 1)) (mCons true (mC (.int 4)) (mCons true (mC (.int 7)) (mNil))))) (mCons true (mTup (mCons true (mC (.int 2)) (mCons true (mC (.int 5)) (mCons true (mC (.int 8)) (mNil))))) (mCons true (mTup (mCons true (mC (.int 0)) (mCons true (mC (.int 4)) (mCons true (mC (.int 8)) (mNil))))) (mCons true (mTup (mCons true (mC (.int 1)) (mCons true (mC (.int 5)) (mCons true (mC (.int 6)) (mNil))))) (mCons true (mTup (mCons true (mC (.int 2)) (mCons true (mC (.int 3)) (mCons true (mC (.int 7)) (mNil))))) (mNil)))))))))))) (gSet 6)
abbrev E5 : S := mAsg (mFz (mOp2 true oAdd (mVar 6) (mLst (mCons true (mTup (mCons true (mC (.int 0)) (mCons true (mC (.int 5)) (mCons true (mC (.int 7)) (mNil))))) (mNil))))) (gSet 6)
abbrev E6 : S := mAsg (mFz (mOp2 true oAdd (mVar 6) (mLst (mCons true (mTup (mCons true (mC (.int 1)) (mCons true (mC (.int 3)) (mCons true (mC (.int 8)) (mNil))))) (mCons true (mTup (mCons true (mC (.int 2)) (mCons true (mC (.int 4)) (mCons true (mC (.int 6)) (mNil))))) (mNil)))))) (gSet 6)
abbrev E7 : S := mAsg (mFz (mLst (mCons true (mTup (mCons true (mC (.int 7)) (mCons true (mOpN kTuple (mCons true (mOpN kSorted (mCons true (mVar 1) (mNil))) (mNil))) (mNil)))) (mCons true (mTup (mCons true (mVar 3) (mCons true (mVar 5) (mNil)))) (mCons true (mTup (mCons true (mVar 3) (mCons true (mVar 5) (mNil)))) (mCons true (mTup (mCons true (mC (.int 9)) (mCons true (mOpN kTuple (mCons true (mOpN kSorted (mCons true (mVar 6) (mNil))) (mNil))) (mNil)))) (mNil))))))) (gSet 7)
abbrev E8 : S := mAsg (mOpN kTuple (mCons true (mOpN kSorted (mCons true (mComp true [10] 0 (mSeqI (mVar 1)) (gSet 10) (mC (.bl true)) (mOpN kTuple (mCons true (mComp true [12] 0 (mRng1 (mCons true (mC (.int 7)) (mNil))) (gSet 12) (mB (mOp2 true oNotIn (mVar 12) (mVar 10))) (mVar 12)) (mNil)))) (mNil))) (mNil))) (gSet 8)
abbrev E9 : S := mRet (mCallI 0 1 m__law_any (mCons true (mOp2 true oAdd (mVar 7) (mLst (mCons true (mTup (mCons true (mC (.int 7)) (mCons true (mVar 8) (mNil)))) (mCons true (mTup (mCons true (mC (.int 7)) (mCons true (mOpN kTuple (mCons true (mOpN kSorted (mCons true (mOp2 true oMulT (mVar 1) (mC (.int 2))) (mNil))) (mNil))) (mNil)))) (mCons true (mTup (mCons true (mC (.int 3)) (mCons true (mTup (mCons true (mTup (mCons true (mC (.int 0)) (mCons true (mC (.int 1)) (mCons true (mC (.int 2)) (mNil))))) (mCons true (mTup (mCons true (mC (.int 0)) (mCons true (mC (.int 1)) (mCons true (mC (.int 2)) (mNil))))) (mNil)))) (mNil)))) (mNil)))))) (mNil)))
theorem even_is : b__law_even = mSeq (E0) (mSeq (E1) (mSeq (E2) (mSeq (E3) (mSeq (E4) (mSeq (E5) (mSeq (E6) (mSeq (E7) (mSeq (E8) (E9))))))))) := rfl
abbrev F0 : S := mAsg (mCallI 0 1 m__law_even (mNil)) (gTupM (gsCons (gSet 1) (gsCons (gSet 2) (gsNil))) 2)
abbrev FR : S := mSeq (mAsg (mOpN (g1 kLen) (mCons true (mIdx true (mVar 2) (mC (.int 0))) (mNil))) (gSet 3)) (mSeq (mAsg (mOpN (g1 kLen) (mCons true (mComp true [11] 0 (mSeqI (mVar 2)) (gSet 11) (mAnd (mB (mOp2 true oIn (mC (.int 0)) (mVar 11))) (mB (mOp2 true oIn (mC (.int 1)) (mVar 11)))) (mVar 11)) (mNil))) (gSet 4)) (mSeq (mAsg (mFz (mCall m_shares (mCons true (mVar 1) (mCons true (mVar 3) (mCons true (mVar 4) (mCons true (mC (.int 2)) (mNil))))))) (gSet 5)) (mSeq (mIfS (mOr (mB (mOp2 true gNe (mVar 5) (mLst (mCons true (mOpN (g1 kLen) (mCons true (mVar 2) (mNil))) (mCons true (mOpN (g1 kLen) (mCons true (mComp true [11] 0 (mSeqI (mVar 2)) (gSet 11) (mB (mOp2 true oIn (mC (.int 0)) (mVar 11))) (mVar 11)) (mNil))) (mCons true (mVar 4) (mNil))))))) (mNot (mTr (mCall m_is_fisher (mCons true (mVar 1) (mCons true (mVar 3) (mCons true (mVar 4) (mNil))))))))
  (mRet (mC (.bl false)))
  (mSkip)) (mSeq (mAsg (mFz (mCall m_outside_counts (mCons true (mVar 1) (mCons true (mVar 3) (mCons true (mVar 4) (mCons true (mC (.int 2)) (mNil))))))) (gSet 6)) (mSeq (mFor (mRng1 (mCons true (mC (.int 3)) (mNil))) (gSet 7)
  (mFor (mRng1 (mCons true (mOp2 true gSub (mC (.int 3)) (mVar 7)) (mNil))) (gSet 8)
  (mSeq (mAsg (mFz (mComp true [11] 0 (mSeqI (mVar 2)) (gSet 11) (mTr (mOpN (g1 kAll) (mCons true (mComp true [12] 0 (mRng1 (mCons true (mVar 8) (mNil))) (gSet 12) (mC (.bl true)) (mOp2 true oIn (mVar 12) (mVar 11))) (mNil)))) (mVar 11))) (gSet 9))
  (mSeq (mAsg (mFz (mComp true [11] 0 (mSeqI (mVar 9)) (gSet 11) (mNot (mTr (mOpN (g1 kAny) (mCons true (mComp true [12] 0 (mRng2 (mCons true (mVar 8) (mCons true (mOp2 true oAdd (mVar 8) (mVar 7)) (mNil)))) (gSet 12) (mC (.bl true)) (mOp2 true oIn (mVar 12) (mVar 11))) (mNil))))) (mVar 11))) (gSet 10))
  (mIfS (mB (mOp2 true gNe (mIdx true (mIdx true (mVar 6) (mVar 7)) (mVar 8)) (mOpN (g1 kLen) (mCons true (mVar 10) (mNil)))))
  (mRet (mC (.bl false)))
  (mSkip)))))) (mRet (mC (.bl true))))))))
theorem fam_is : b__law_family_right = mSeq F0 FR := rfl
theorem TC : tC = true := by decide +kernel
theorem TO : tO = true := by decide +kernel
theorem TI : tI = true := by decide +kernel
theorem TB : tB = true := by decide +kernel
theorem TP : tP = true := by decide +kernel
theorem ev01 (H : T) : mSeq E0 E1 [some (1, H), none, none, none, none, none, none, none, none, none, none, none, none] = .nx [some (1, H), some (0, fanoT), some (0, .lst sizedT), none, none, none, none, none, none, none, none, none, none] := by kernel_rfl
theorem ev3_0 (H : T) : mSeq (E3) (mSeq (E4) (mSeq (E5) (mSeq (E6) (mSeq (E7) (E8))))) [some (1, H), some (0, fanoT), some (0, .lst sizedT), some (0, .int 4), some (0, .int 2), none, none, none, none, none, none, none, none] = .nx [some (1, H), some (0, fanoT), some (0, .lst sizedT), some (0, .int 4), some (0, .int 2), some (0, .tup [.tup [.int 0, .int 1], .tup [.int 0, .int 2], .tup [.int 0, .int 3], .tup [.int 1, .int 2], .tup [.int 1, .int 3], .tup [.int 2, .int 3]]), some (0, .lst [.tup [.int 0, .int 1, .int 2], .tup [.int 3, .int 4, .int 5], .tup [.int 6, .int 7, .int 8], .tup [.int 0, .int 3, .int 6], .tup [.int 1, .int 4, .int 7], .tup [.int 2, .int 5, .int 8], .tup [.int 0, .int 4, .int 8], .tup [.int 1, .int 5, .int 6], .tup [.int 2, .int 3, .int 7], .tup [.int 0, .int 5, .int 7], .tup [.int 1, .int 3, .int 8], .tup [.int 2, .int 4, .int 6]]), some (0, .lst [famF, famW0, famW0, famN]), some (0, othT), none, none, none, none] := by kernel_rfl
theorem ev3_1 (H : T) : mSeq (E3) (mSeq (E4) (mSeq (E5) (mSeq (E6) (mSeq (E7) (E8))))) [some (1, H), some (0, fanoT), some (0, .lst sizedT), some (0, .int 4), some (0, .int 3), none, none, none, none, none, none, none, none] = .nx [some (1, H), some (0, fanoT), some (0, .lst sizedT), some (0, .int 4), some (0, .int 3), some (0, .tup [.tup [.int 0, .int 1, .int 2], .tup [.int 0, .int 1, .int 3], .tup [.int 0, .int 2, .int 3], .tup [.int 1, .int 2, .int 3]]), some (0, .lst [.tup [.int 0, .int 1, .int 2], .tup [.int 3, .int 4, .int 5], .tup [.int 6, .int 7, .int 8], .tup [.int 0, .int 3, .int 6], .tup [.int 1, .int 4, .int 7], .tup [.int 2, .int 5, .int 8], .tup [.int 0, .int 4, .int 8], .tup [.int 1, .int 5, .int 6], .tup [.int 2, .int 3, .int 7], .tup [.int 0, .int 5, .int 7], .tup [.int 1, .int 3, .int 8], .tup [.int 2, .int 4, .int 6]]), some (0, .lst [famF, famW1, famW1, famN]), some (0, othT), none, none, none, none] := by kernel_rfl
theorem ev3_2 (H : T) : mSeq (E3) (mSeq (E4) (mSeq (E5) (mSeq (E6) (mSeq (E7) (E8))))) [some (1, H), some (0, fanoT), some (0, .lst sizedT), some (0, .int 5), some (0, .int 2), none, none, none, none, none, none, none, none] = .nx [some (1, H), some (0, fanoT), some (0, .lst sizedT), some (0, .int 5), some (0, .int 2), some (0, .tup [.tup [.int 0, .int 1], .tup [.int 0, .int 2], .tup [.int 0, .int 3], .tup [.int 0, .int 4], .tup [.int 1, .int 2], .tup [.int 1, .int 3], .tup [.int 1, .int 4], .tup [.int 2, .int 3], .tup [.int 2, .int 4], .tup [.int 3, .int 4]]), some (0, .lst [.tup [.int 0, .int 1, .int 2], .tup [.int 3, .int 4, .int 5], .tup [.int 6, .int 7, .int 8], .tup [.int 0, .int 3, .int 6], .tup [.int 1, .int 4, .int 7], .tup [.int 2, .int 5, .int 8], .tup [.int 0, .int 4, .int 8], .tup [.int 1, .int 5, .int 6], .tup [.int 2, .int 3, .int 7], .tup [.int 0, .int 5, .int 7], .tup [.int 1, .int 3, .int 8], .tup [.int 2, .int 4, .int 6]]), some (0, .lst [famF, famW2, famW2, famN]), some (0, othT), none, none, none, none] := by kernel_rfl
theorem ev3_3 (H : T) : mSeq (E3) (mSeq (E4) (mSeq (E5) (mSeq (E6) (mSeq (E7) (E8))))) [some (1, H), some (0, fanoT), some (0, .lst sizedT), some (0, .int 5), some (0, .int 3), none, none, none, none, none, none, none, none] = .nx [some (1, H), some (0, fanoT), some (0, .lst sizedT), some (0, .int 5), some (0, .int 3), some (0, .tup [.tup [.int 0, .int 1, .int 2], .tup [.int 0, .int 1, .int 3], .tup [.int 0, .int 1, .int 4], .tup [.int 0, .int 2, .int 3], .tup [.int 0, .int 2, .int 4], .tup [.int 0, .int 3, .int 4], .tup [.int 1, .int 2, .int 3], .tup [.int 1, .int 2, .int 4], .tup [.int 1, .int 3, .int 4], .tup [.int 2, .int 3, .int 4]]), some (0, .lst [.tup [.int 0, .int 1, .int 2], .tup [.int 3, .int 4, .int 5], .tup [.int 6, .int 7, .int 8], .tup [.int 0, .int 3, .int 6], .tup [.int 1, .int 4, .int 7], .tup [.int 2, .int 5, .int 8], .tup [.int 0, .int 4, .int 8], .tup [.int 1, .int 5, .int 6], .tup [.int 2, .int 3, .int 7], .tup [.int 0, .int 5, .int 7], .tup [.int 1, .int 3, .int 8], .tup [.int 2, .int 4, .int 6]]), some (0, .lst [famF, famW3, famW3, famN]), some (0, othT), none, none, none, none] := by kernel_rfl
theorem ev3_4 (H : T) : mSeq (E3) (mSeq (E4) (mSeq (E5) (mSeq (E6) (mSeq (E7) (E8))))) [some (1, H), some (0, fanoT), some (0, .lst sizedT), some (0, .int 5), some (0, .int 4), none, none, none, none, none, none, none, none] = .nx [some (1, H), some (0, fanoT), some (0, .lst sizedT), some (0, .int 5), some (0, .int 4), some (0, .tup [.tup [.int 0, .int 1, .int 2, .int 3], .tup [.int 0, .int 1, .int 2, .int 4], .tup [.int 0, .int 1, .int 3, .int 4], .tup [.int 0, .int 2, .int 3, .int 4], .tup [.int 1, .int 2, .int 3, .int 4]]), some (0, .lst [.tup [.int 0, .int 1, .int 2], .tup [.int 3, .int 4, .int 5], .tup [.int 6, .int 7, .int 8], .tup [.int 0, .int 3, .int 6], .tup [.int 1, .int 4, .int 7], .tup [.int 2, .int 5, .int 8], .tup [.int 0, .int 4, .int 8], .tup [.int 1, .int 5, .int 6], .tup [.int 2, .int 3, .int 7], .tup [.int 0, .int 5, .int 7], .tup [.int 1, .int 3, .int 8], .tup [.int 2, .int 4, .int 6]]), some (0, .lst [famF, famW4, famW4, famN]), some (0, othT), none, none, none, none] := by kernel_rfl
theorem ev3_5 (H : T) : mSeq (E3) (mSeq (E4) (mSeq (E5) (mSeq (E6) (mSeq (E7) (E8))))) [some (1, H), some (0, fanoT), some (0, .lst sizedT), some (0, .int 6), some (0, .int 3), none, none, none, none, none, none, none, none] = .nx [some (1, H), some (0, fanoT), some (0, .lst sizedT), some (0, .int 6), some (0, .int 3), some (0, .tup [.tup [.int 0, .int 1, .int 2], .tup [.int 0, .int 1, .int 3], .tup [.int 0, .int 1, .int 4], .tup [.int 0, .int 1, .int 5], .tup [.int 0, .int 2, .int 3], .tup [.int 0, .int 2, .int 4], .tup [.int 0, .int 2, .int 5], .tup [.int 0, .int 3, .int 4], .tup [.int 0, .int 3, .int 5], .tup [.int 0, .int 4, .int 5], .tup [.int 1, .int 2, .int 3], .tup [.int 1, .int 2, .int 4], .tup [.int 1, .int 2, .int 5], .tup [.int 1, .int 3, .int 4], .tup [.int 1, .int 3, .int 5], .tup [.int 1, .int 4, .int 5], .tup [.int 2, .int 3, .int 4], .tup [.int 2, .int 3, .int 5], .tup [.int 2, .int 4, .int 5], .tup [.int 3, .int 4, .int 5]]), some (0, .lst [.tup [.int 0, .int 1, .int 2], .tup [.int 3, .int 4, .int 5], .tup [.int 6, .int 7, .int 8], .tup [.int 0, .int 3, .int 6], .tup [.int 1, .int 4, .int 7], .tup [.int 2, .int 5, .int 8], .tup [.int 0, .int 4, .int 8], .tup [.int 1, .int 5, .int 6], .tup [.int 2, .int 3, .int 7], .tup [.int 0, .int 5, .int 7], .tup [.int 1, .int 3, .int 8], .tup [.int 2, .int 4, .int 6]]), some (0, .lst [famF, famW5, famW5, famN]), some (0, othT), none, none, none, none] := by kernel_rfl
theorem ev3_6 (H : T) : mSeq (E3) (mSeq (E4) (mSeq (E5) (mSeq (E6) (mSeq (E7) (E8))))) [some (1, H), some (0, fanoT), some (0, .lst sizedT), some (0, .int 6), some (0, .int 2), none, none, none, none, none, none, none, none] = .nx [some (1, H), some (0, fanoT), some (0, .lst sizedT), some (0, .int 6), some (0, .int 2), some (0, .tup [.tup [.int 0, .int 1], .tup [.int 0, .int 2], .tup [.int 0, .int 3], .tup [.int 0, .int 4], .tup [.int 0, .int 5], .tup [.int 1, .int 2], .tup [.int 1, .int 3], .tup [.int 1, .int 4], .tup [.int 1, .int 5], .tup [.int 2, .int 3], .tup [.int 2, .int 4], .tup [.int 2, .int 5], .tup [.int 3, .int 4], .tup [.int 3, .int 5], .tup [.int 4, .int 5]]), some (0, .lst [.tup [.int 0, .int 1, .int 2], .tup [.int 3, .int 4, .int 5], .tup [.int 6, .int 7, .int 8], .tup [.int 0, .int 3, .int 6], .tup [.int 1, .int 4, .int 7], .tup [.int 2, .int 5, .int 8], .tup [.int 0, .int 4, .int 8], .tup [.int 1, .int 5, .int 6], .tup [.int 2, .int 3, .int 7], .tup [.int 0, .int 5, .int 7], .tup [.int 1, .int 3, .int 8], .tup [.int 2, .int 4, .int 6]]), some (0, .lst [famF, famW6, famW6, famN]), some (0, othT), none, none, none, none] := by kernel_rfl
theorem fr_famF (H : T) : ∃ ρ, FR [some (1, H), some (0, .int 7), some (0, .tup [.tup [.int 0, .int 1, .int 3], .tup [.int 0, .int 2, .int 6], .tup [.int 0, .int 4, .int 5], .tup [.int 1, .int 2, .int 4], .tup [.int 1, .int 5, .int 6], .tup [.int 2, .int 3, .int 5], .tup [.int 3, .int 4, .int 6]]), none, none, none, none, none, none, none, none, none, none] = .rt (fz (.bl true)) ρ ∧ ρ[0]?.getD none = some (1, H) := keeps (by kernel_rfl)
theorem fr_famN (H : T) : ∃ ρ, FR [some (1, H), some (0, .int 9), some (0, .tup [.tup [.int 0, .int 1, .int 2], .tup [.int 0, .int 3, .int 6], .tup [.int 0, .int 4, .int 8], .tup [.int 0, .int 5, .int 7], .tup [.int 1, .int 3, .int 8], .tup [.int 1, .int 4, .int 7], .tup [.int 1, .int 5, .int 6], .tup [.int 2, .int 3, .int 7], .tup [.int 2, .int 4, .int 6], .tup [.int 2, .int 5, .int 8], .tup [.int 3, .int 4, .int 5], .tup [.int 6, .int 7, .int 8]]), none, none, none, none, none, none, none, none, none, none] = .rt (fz (.bl true)) ρ ∧ ρ[0]?.getD none = some (1, H) := keeps (by kernel_rfl)
theorem fr_famO (H : T) : ∃ ρ, FR [some (1, H), some (0, .int 7), some (0, .tup [.tup [.int 0, .int 1, .int 2, .int 5], .tup [.int 0, .int 1, .int 4, .int 6], .tup [.int 0, .int 2, .int 3, .int 4], .tup [.int 0, .int 3, .int 5, .int 6], .tup [.int 1, .int 2, .int 3, .int 6], .tup [.int 1, .int 3, .int 4, .int 5], .tup [.int 2, .int 4, .int 5, .int 6]]), none, none, none, none, none, none, none, none, none, none] = .rt (fz (.bl true)) ρ ∧ ρ[0]?.getD none = some (1, H) := keeps (by kernel_rfl)
theorem fr_famD (H : T) : ∃ ρ, FR [some (1, H), some (0, .int 7), some (0, .tup [.tup [.int 0, .int 1, .int 3], .tup [.int 0, .int 1, .int 3], .tup [.int 0, .int 2, .int 6], .tup [.int 0, .int 2, .int 6], .tup [.int 0, .int 4, .int 5], .tup [.int 0, .int 4, .int 5], .tup [.int 1, .int 2, .int 4], .tup [.int 1, .int 2, .int 4], .tup [.int 1, .int 5, .int 6], .tup [.int 1, .int 5, .int 6], .tup [.int 2, .int 3, .int 5], .tup [.int 2, .int 3, .int 5], .tup [.int 3, .int 4, .int 6], .tup [.int 3, .int 4, .int 6]]), none, none, none, none, none, none, none, none, none, none] = .rt (fz (.bl true)) ρ ∧ ρ[0]?.getD none = some (1, H) := keeps (by kernel_rfl)
theorem fr_famT (H : T) : ∃ ρ, FR [some (1, H), some (0, .int 3), some (0, .tup [.tup [.int 0, .int 1, .int 2], .tup [.int 0, .int 1, .int 2]]), none, none, none, none, none, none, none, none, none, none] = .rt (fz (.bl true)) ρ ∧ ρ[0]?.getD none = some (1, H) := keeps (by kernel_rfl)
theorem fr_famW0 (H : T) : ∃ ρ, FR [some (1, H), some (0, .int 4), some (0, .tup [.tup [.int 0, .int 1], .tup [.int 0, .int 2], .tup [.int 0, .int 3], .tup [.int 1, .int 2], .tup [.int 1, .int 3], .tup [.int 2, .int 3]]), none, none, none, none, none, none, none, none, none, none] = .rt (fz (.bl true)) ρ ∧ ρ[0]?.getD none = some (1, H) := keeps (by kernel_rfl)
theorem fr_famW1 (H : T) : ∃ ρ, FR [some (1, H), some (0, .int 4), some (0, .tup [.tup [.int 0, .int 1, .int 2], .tup [.int 0, .int 1, .int 3], .tup [.int 0, .int 2, .int 3], .tup [.int 1, .int 2, .int 3]]), none, none, none, none, none, none, none, none, none, none] = .rt (fz (.bl true)) ρ ∧ ρ[0]?.getD none = some (1, H) := keeps (by kernel_rfl)
theorem fr_famW2 (H : T) : ∃ ρ, FR [some (1, H), some (0, .int 5), some (0, .tup [.tup [.int 0, .int 1], .tup [.int 0, .int 2], .tup [.int 0, .int 3], .tup [.int 0, .int 4], .tup [.int 1, .int 2], .tup [.int 1, .int 3], .tup [.int 1, .int 4], .tup [.int 2, .int 3], .tup [.int 2, .int 4], .tup [.int 3, .int 4]]), none, none, none, none, none, none, none, none, none, none] = .rt (fz (.bl true)) ρ ∧ ρ[0]?.getD none = some (1, H) := keeps (by kernel_rfl)
theorem fr_famW3 (H : T) : ∃ ρ, FR [some (1, H), some (0, .int 5), some (0, .tup [.tup [.int 0, .int 1, .int 2], .tup [.int 0, .int 1, .int 3], .tup [.int 0, .int 1, .int 4], .tup [.int 0, .int 2, .int 3], .tup [.int 0, .int 2, .int 4], .tup [.int 0, .int 3, .int 4], .tup [.int 1, .int 2, .int 3], .tup [.int 1, .int 2, .int 4], .tup [.int 1, .int 3, .int 4], .tup [.int 2, .int 3, .int 4]]), none, none, none, none, none, none, none, none, none, none] = .rt (fz (.bl true)) ρ ∧ ρ[0]?.getD none = some (1, H) := keeps (by kernel_rfl)
theorem fr_famW4 (H : T) : ∃ ρ, FR [some (1, H), some (0, .int 5), some (0, .tup [.tup [.int 0, .int 1, .int 2, .int 3], .tup [.int 0, .int 1, .int 2, .int 4], .tup [.int 0, .int 1, .int 3, .int 4], .tup [.int 0, .int 2, .int 3, .int 4], .tup [.int 1, .int 2, .int 3, .int 4]]), none, none, none, none, none, none, none, none, none, none] = .rt (fz (.bl true)) ρ ∧ ρ[0]?.getD none = some (1, H) := keeps (by kernel_rfl)
theorem fr_famW5 (H : T) : ∃ ρ, FR [some (1, H), some (0, .int 6), some (0, .tup [.tup [.int 0, .int 1, .int 2], .tup [.int 0, .int 1, .int 3], .tup [.int 0, .int 1, .int 4], .tup [.int 0, .int 1, .int 5], .tup [.int 0, .int 2, .int 3], .tup [.int 0, .int 2, .int 4], .tup [.int 0, .int 2, .int 5], .tup [.int 0, .int 3, .int 4], .tup [.int 0, .int 3, .int 5], .tup [.int 0, .int 4, .int 5], .tup [.int 1, .int 2, .int 3], .tup [.int 1, .int 2, .int 4], .tup [.int 1, .int 2, .int 5], .tup [.int 1, .int 3, .int 4], .tup [.int 1, .int 3, .int 5], .tup [.int 1, .int 4, .int 5], .tup [.int 2, .int 3, .int 4], .tup [.int 2, .int 3, .int 5], .tup [.int 2, .int 4, .int 5], .tup [.int 3, .int 4, .int 5]]), none, none, none, none, none, none, none, none, none, none] = .rt (fz (.bl true)) ρ ∧ ρ[0]?.getD none = some (1, H) := keeps (by kernel_rfl)
theorem fr_famW6 (H : T) : ∃ ρ, FR [some (1, H), some (0, .int 6), some (0, .tup [.tup [.int 0, .int 1], .tup [.int 0, .int 2], .tup [.int 0, .int 3], .tup [.int 0, .int 4], .tup [.int 0, .int 5], .tup [.int 1, .int 2], .tup [.int 1, .int 3], .tup [.int 1, .int 4], .tup [.int 1, .int 5], .tup [.int 2, .int 3], .tup [.int 2, .int 4], .tup [.int 2, .int 5], .tup [.int 3, .int 4], .tup [.int 3, .int 5], .tup [.int 4, .int 5]]), none, none, none, none, none, none, none, none, none, none] = .rt (fz (.bl true)) ρ ∧ ρ[0]?.getD none = some (1, H) := keeps (by kernel_rfl)
end Pk05
end
/- V4 -/
section
set_option Elab.async false
set_option linter.all false
set_option maxRecDepth 100000
set_option maxHeartbeats 2000000
namespace Pb
open PySem L2
/-! ### what repr tells, compared with itself -/
theorem strOk_of (s : String) : PyData.strOk (Str.ofString s) = true := by
  unfold PyData.strOk
  rw [Str.ofString_eq_toList, List.all_toArray, List.all_eq_true]
  intro c hc
  obtain ⟨ch, _, rfl⟩ := List.mem_map.mp hc
  have := ch.valid
  refine decide_eq_true ?_
  rcases this with h | h
  · exact Nat.lt_trans h (by decide)
  · exact h.2
theorem strOk_app {a b : Str} (h1 : PyData.strOk a = true) (h2 : PyData.strOk b = true) : PyData.strOk (a ++ b) = true := by
  unfold PyData.strOk at *
  rw [Str.cps_append, Array.all_append, h1, h2]
  rfl
theorem strOk_from : ∀ (ts : List Str) (k : Nat) (acc : Str), PyData.strOk acc = true → (∀ t ∈ ts, PyData.strOk t = true) → PyData.strOk (textFrom k acc ts) = true
  | [], _, _, h, _ => h
  | t :: ts, k, acc, h, hs => by
    unfold textFrom
    exact strOk_from ts _ _ (strOk_app (strOk_app h (strOk_of _)) (hs t List.mem_cons_self)) fun u hu => hs u (List.mem_cons_of_mem _ hu)
theorem strOk_list {ts : List Str} (h : ∀ t ∈ ts, PyData.strOk t = true) : PyData.strOk (listText ts) = true := by
  unfold listText
  exact strOk_app (strOk_from ts 0 _ (strOk_of _) h) (strOk_of _)
theorem strOk_int (i : Int) : PyData.strOk (PyData.shown (.int i)) = true := by
  show PyData.strOk (Str.ofString (toString i)) = true
  exact strOk_of _
theorem shownAll_mem {ds : List PyData} {t : Str} (h : t ∈ PyData.shownAll ds) : ∃ d ∈ ds, t = d.shown := by
  induction ds with
  | nil => cases h
  | cons d ds ih =>
    rcases List.mem_cons.mp h with h | h
    · exact ⟨d, List.mem_cons_self, h⟩
    · obtain ⟨e, he, h⟩ := ih h
      exact ⟨e, List.mem_cons_of_mem _ he, h⟩
/-- what has a repr that can be compared -/
def RS (t : T) : Prop := ∃ S : Str, (∀ d al, kRepr ⟨d, al, t⟩ = some (.str S)) ∧ PyData.strOk S = true
theorem ne_same {S : Str} {d d' : Nat} {al al' : Bool} (h : PyData.strOk S = true) : gNe ⟨d, al, .str S⟩ ⟨d', al', .str S⟩ = some (fz (.bl false)) := by
  have e1 : ∀ s : Str, dle 64 (.str s) = PyData.strOk s := fun s => rfl
  have q : eqT (.str S) (.str S) = true := by
    unfold eqT
    simp [toD, PyData.eqv]
  unfold gNe
  simp only [e1, h, q, Bool.and_self, if_true, Bool.not_true]
theorem rs_non : RS .non := ⟨"None", fun _ _ => rfl, strOk_of _⟩
theorem rs_bl (b : Bool) : RS (.bl b) := by
  cases b
  · exact ⟨"False", fun _ _ => rfl, strOk_of _⟩
  · exact ⟨"True", fun _ _ => rfl, strOk_of _⟩
theorem rs_int {i : Int} (h : i.natAbs.log2 < 1920) : RS (.int i) := by
  refine ⟨Str.ofString (toString i), fun d al => ?_, strOk_of _⟩
  unfold kRepr
  simp only [h, if_true]
theorem rs_lst {ts : List T} (h1 : dle 64 (.lst ts) = true) (h2 : (toD (.lst ts)).canLay0 = true) (h3 : (toD (.lst ts)).intsShort 13 = true) (h4 : (toD (.lst ts)).weight ≤ 2 ^ 20) (h5 : (toD (.lst ts)).showable = true) (h6 : (toD (.lst ts)).depth ≤ 64) (h7 : PyData.strOk (toD (.lst ts)).shown = true) : RS (.lst ts) := by
  refine ⟨(toD (.lst ts)).shown, fun d al => ?_, h7⟩
  have hl : PyData.layable0 (toD (.lst ts)) = true := by
    unfold PyData.layable0
    rw [h2, decide_eq_true h6, decide_eq_true h4]; rfl
  have hf := PyData.shown_fits_of_layable0 (B := 13) (by omega) (by omega) hl h3
  have hd : (toD (.lst ts)).hasDict = false := PyData.hasDict_of_canLay _ h2
  show kReprS (.lst ts) = _
  unfold kReprS
  rw [h1, h5, hd, decide_eq_true hf]
  have : isSeqD (toD (.lst ts)) = true := rfl
  rw [this]
  rfl
theorem toDs_ints (l : List Int) : toDs (l.map .int) = l.map .int := by
  induction l with
  | nil => rfl
  | cons i l ih => simp only [List.map_cons, toDs, toD, ih]
def small12 (l : List Int) : Prop := ∀ n ∈ l, n.natAbs < 10 ^ 12
theorem lay_ints (l : List Int) : PyData.canLayAll0 (l.map .int) = true := by
  induction l with
  | nil => rfl
  | cons i l ih => simp only [List.map_cons, PyData.canLayAll0, PyData.canLay0, ih, Bool.and_self]
theorem show_ints {l : List Int} (h : small12 l) : PyData.showableAll (l.map .int) = true := by
  induction l with
  | nil => rfl
  | cons i l ih =>
    have h1 : i.natAbs.log2 < 1920 := by
      have h2 := h i List.mem_cons_self
      by_cases h0 : i.natAbs = 0
      · rw [h0]; decide
      · have : i.natAbs < 2 ^ 1920 := Nat.lt_trans h2 (by decide +kernel)
        exact (Nat.log2_lt h0).mpr this
    simp only [List.map_cons, PyData.showableAll, PyData.showable, ih fun n hn => h n (List.mem_cons_of_mem _ hn), decide_eq_true h1, Bool.and_self]
theorem weight_ints {l : List Int} (h : small12 l) : PyData.weightAll (l.map .int) ≤ 50 * l.length := by
  induction l with
  | nil => simp [PyData.weightAll]
  | cons i l ih =>
    have h2 := h i List.mem_cons_self
    have h3 := ih fun n hn => h n (List.mem_cons_of_mem _ hn)
    have h4 : i.natAbs.log2 < 48 := by
      by_cases h0 : i.natAbs = 0
      · rw [h0]; decide
      · have : i.natAbs < 2 ^ 48 := Nat.lt_trans h2 (by decide +kernel)
        exact (Nat.log2_lt h0).mpr this
    simp only [List.map_cons, PyData.weightAll, PyData.weight, List.length_cons]
    split <;> omega
theorem depth_ints0 (l : List Int) : PyData.depthAll (l.map .int) = 0 := PySem.W.depth_ints l
theorem dle_ints (n : Nat) (l : List Int) : (l.map T.int).all (dle n) = true := by
  rw [List.all_map, List.all_eq_true]
  intro i _
  cases n <;> rfl
theorem rs_ints {l : List Int} (h : small12 l) (hl : l.length ≤ 1000) : RS (.lst (l.map .int)) := by
  have e : toD (.lst (l.map .int)) = .list (l.map .int) := by simp only [toD, toDs_ints]
  refine rs_lst (by simpa [dle] using dle_ints 63 l) ?_ ?_ ?_ ?_ ?_ ?_
  · rw [e]; simpa [PyData.canLay0] using lay_ints l
  · rw [e]; simpa [PyData.intsShort] using PyData.intsShortAll_ints l h
  · rw [e]
    have := weight_ints h
    simp only [PyData.weight]
    omega
  · rw [e]; simpa [PyData.showable] using show_ints h
  · rw [e]; simp only [PyData.depth, depth_ints0]; omega
  · rw [e]
    unfold PyData.shown
    refine strOk_list fun t ht => ?_
    obtain ⟨d, hd, rfl⟩ := shownAll_mem ht
    obtain ⟨i, _, rfl⟩ := List.mem_map.mp hd
    exact strOk_int i
abbrev rowT (l : List Int) : T := .lst (l.map .int)
abbrev rowD (l : List Int) : PyData := .list (l.map .int)
theorem toDs_rows (ll : List (List Int)) : toDs (ll.map rowT) = ll.map rowD := by
  induction ll with
  | nil => rfl
  | cons l ll ih => simp only [List.map_cons, toDs, toD, ih, toDs_ints]
theorem rs_rows {ll : List (List Int)} (h : ∀ l ∈ ll, small12 l ∧ l.length ≤ 100) (hl : ll.length ≤ 100) : RS (.lst (ll.map rowT)) := by
  have e : toD (.lst (ll.map rowT)) = .list (ll.map rowD) := by simp only [toD, toDs_rows]
  refine rs_lst ?_ ?_ ?_ ?_ ?_ ?_ ?_
  · simp only [dle, List.all_map, List.all_eq_true]
    intro l _
    simpa [dle] using dle_ints 62 l
  · rw [e]
    simp only [PyData.canLay0]
    clear e hl
    induction ll with
    | nil => rfl
    | cons l ll ih => simp only [List.map_cons, PyData.canLayAll0, PyData.canLay0, lay_ints, ih fun x hx => h x (List.mem_cons_of_mem _ hx), Bool.and_self]
  · rw [e]
    simp only [PyData.intsShort]
    clear e hl
    induction ll with
    | nil => rfl
    | cons l ll ih => simp only [List.map_cons, PyData.intsShortAll, PyData.intsShort, PyData.intsShortAll_ints l (h l List.mem_cons_self).1, ih fun x hx => h x (List.mem_cons_of_mem _ hx), Bool.and_self]
  · rw [e]
    simp only [PyData.weight]
    have : PyData.weightAll (ll.map rowD) ≤ 5002 * ll.length := by
      clear e hl
      induction ll with
      | nil => simp [PyData.weightAll]
      | cons l ll ih =>
        have h1 := weight_ints (h l List.mem_cons_self).1
        have h2 := (h l List.mem_cons_self).2
        have h3 := ih fun x hx => h x (List.mem_cons_of_mem _ hx)
        simp only [List.map_cons, PyData.weightAll, PyData.weight, List.length_cons]
        omega
    omega
  · rw [e]
    simp only [PyData.showable]
    clear e hl
    induction ll with
    | nil => rfl
    | cons l ll ih => simp only [List.map_cons, PyData.showableAll, PyData.showable, show_ints (h l List.mem_cons_self).1, ih fun x hx => h x (List.mem_cons_of_mem _ hx), Bool.and_self]
  · rw [e]
    simp only [PyData.depth]
    have : PyData.depthAll (ll.map rowD) ≤ 1 := by
      clear e hl h
      induction ll with
      | nil => simp [PyData.depthAll]
      | cons l ll ih =>
        simp only [List.map_cons, PyData.depthAll, PyData.depth, depth_ints0]
        omega
    omega
  · rw [e]
    unfold PyData.shown
    refine strOk_list fun t ht => ?_
    obtain ⟨d, hd, rfl⟩ := shownAll_mem ht
    obtain ⟨l, _, rfl⟩ := List.mem_map.mp hd
    unfold PyData.shown
    refine strOk_list fun t ht => ?_
    obtain ⟨d, hd, rfl⟩ := shownAll_mem ht
    obtain ⟨i, _, rfl⟩ := List.mem_map.mp hd
    exact strOk_int i
end Pb
end
/- K05s -/
section
set_option Elab.async false
set_option linter.all false
set_option maxRecDepth 100000
set_option maxHeartbeats 4000000
namespace Pk05
open PySem Pb L2
theorem choose_ok {n k : Nat} (hn : n ≤ 40) (hk : k ≤ 6) : m_choose [.int (n : Int), .int (k : Int)] = .ok (fz (.int ((Cb n k : Nat) : Int))) [] ∧ m__law_over [.int (n : Int), .int (k : Int)] = .ok (fz (.int ((Cb n k : Nat) : Int))) [] := by
  have h := TC
  unfold tC at h
  rw [List.all_eq_true] at h
  have h1 := h n (List.mem_range.mpr (by omega))
  rw [List.all_eq_true] at h1
  have h2 := h1 k (List.mem_range.mpr (by omega))
  rw [Bool.and_eq_true] at h2
  exact ⟨chkT_is h2.1, chkT_is h2.2⟩
theorem over_ok {n k : Nat} (hn : n ≤ 40) (hk : k ≤ n) : m__law_over [.int (n : Int), .int (k : Int)] = .ok (fz (.int ((Cb n k : Nat) : Int))) [] := by
  have h := TO
  unfold tO at h
  rw [List.all_eq_true] at h
  have h1 := h n (List.mem_range.mpr (by omega))
  rw [List.all_eq_true] at h1
  exact chkT_is (h1 k (List.mem_range.mpr (by omega)))
theorem ident {n m j : Nat} (hn : n ≤ 40) (hm : m ≤ n) (hj : j ≤ m) (hj6 : j ≤ 6) : Cb (n - j) (m - j) * Cb n j = Cb n m * Cb m j ∧ 0 < Cb m j := by
  have h := TI
  unfold tI at h
  rw [List.all_eq_true] at h
  have h1 := h n (List.mem_range.mpr (by omega))
  rw [List.all_eq_true] at h1
  have h2 := h1 m (List.mem_range.mpr (by omega))
  rw [List.all_eq_true] at h2
  have h3 := h2 j (List.mem_range.mpr (by omega))
  rw [Bool.and_eq_true] at h3
  exact ⟨of_decide_eq_true h3.1, of_decide_eq_true h3.2⟩
theorem small6 {n k : Nat} (hn : n ≤ 40) (hk : k ≤ 6) : Cb n k < 10000000 := by
  have h := TB
  unfold tB at h
  rw [List.all_eq_true] at h
  have h1 := h n (List.mem_range.mpr (by omega))
  rw [List.all_eq_true] at h1
  exact of_decide_eq_true (h1 k (List.mem_range.mpr (by omega)))
theorem posC {n k : Nat} (hn : n ≤ 40) (hk : k ≤ n) : 0 < Cb n k ∧ Cb n k < 1000000000000 := by
  have h := TP
  unfold tP at h
  rw [List.all_eq_true] at h
  have h1 := h n (List.mem_range.mpr (by omega))
  rw [List.all_eq_true] at h1
  have h2 := h1 k (List.mem_range.mpr (by omega))
  rw [Bool.and_eq_true] at h2
  exact ⟨of_decide_eq_true h2.1, of_decide_eq_true h2.2⟩
theorem v_app {i : Nat} {ρ : En} {ml : MA} {ts : List T} {d : Nat} {t : T} (h : ρ[i]? = some (some (1, .lst ts))) (h2 : ml ρ = .ok [⟨d, false, t⟩] ρ) (hl : ts.length < 1000) : mMeth gApp i ml ρ = .ok ⟨0, false, .non⟩ (ρ.set i (some (1, .lst (ts ++ [t])))) := by
  have hz : ts.length < sizeLine := Nat.lt_trans hl (by decide)
  unfold mMeth
  have e0 : (Option.map isLd ρ[i]?).getD false = true := by rw [h]; rfl
  rw [if_pos e0, h2, v_abind_ok]
  show (if noAl [⟨d, false, t⟩] = true then match ρ[i]? with | some (some (d + 1, .lst ts)) => _ | _ => _ else _) = _
  rw [h, if_pos (by simp)]
  show (match gApp 0 ts [⟨d, false, t⟩] with | some (rz, ts') => _ | none => _) = _
  have e1 : gApp 0 ts [⟨d, false, t⟩] = some (fz .non, ts ++ [t]) := by
    show (if _ then _ else _) = _
    rw [if_pos (by simp [hz])]
  rw [e1]
  rfl
/-! ### shares -/
def top (p t : Nat) (m : Int) (j : Nat) : Int := m * ((Cb (p - j) (t - j) : Nat) : Int)
def bot (s t j : Nat) : Int := ((Cb (s - j) (t - j) : Nat) : Int)
def stp (p s t : Nat) (m : Int) (found : List Int) (x : T) : List Int ⊕ Rz := match x with
  | .int j => if top p t m j.toNat % bot s t j.toNat = 0 then .inl (found ++ [top p t m j.toNat / bot s t j.toNat]) else .inr (fz .non)
  | _ => .inl found
def shr (p s t : Nat) (m : Int) : List Int ⊕ Rz := foldR (stp p s t m) (nl (t + 1)) []
def shT (p s t : Nat) (m : Int) : Rz := match shr p s t m with
  | .inl l => ⟨1, false, .lst (l.map .int)⟩
  | .inr r => r
abbrev SB0 : S := mAsg (mLst (mNil)) (gSet 4)
abbrev SB1b0 : S := mPar (mCons true (mOp2 true oMul (mVar 2) (mCall m_choose (mCons true (mOp2 true gSub (mVar 0) (mVar 5)) (mCons true (mOp2 true gSub (mVar 3) (mVar 5)) (mNil))))) (mCons true (mCall m_choose (mCons true (mOp2 true gSub (mVar 1) (mVar 5)) (mCons true (mOp2 true gSub (mVar 3) (mVar 5)) (mNil)))) (mNil))) (gsCons (gSet 6) (gsCons (gSet 7) (gsNil)))
abbrev SB1b1 : S := mIfS (mB (mOp2 true gNe (mOp2 true gMod (mVar 6) (mVar 7)) (mC (.int 0))))
  (mRet (mC .non))
  (mSkip)
abbrev SB1b2 : S := mExpr (mMeth gApp 4 (mCons true (mOp2 true gDiv (mVar 6) (mVar 7)) (mNil)))
abbrev SB1 : S := mFor (mRng1 (mCons true (mOp2 true oAdd (mVar 3) (mC (.int 1))) (mNil))) (gSet 5) (mSeq (SB1b0) (mSeq (SB1b1) (SB1b2)))
abbrev SB2 : S := mRet (mVarM 4)
theorem SB_is : b_shares_by = mSeq (SB0) (mSeq (SB1) (SB2)) := rfl
abbrev LS0 : S := mAsg (mLst (mNil)) (gSet 4)
abbrev LS1b0 : S := mPar (mCons true (mOp2 true oMul (mVar 2) (mCall m__law_over (mCons true (mOp2 true gSub (mVar 0) (mVar 5)) (mCons true (mOp2 true gSub (mVar 3) (mVar 5)) (mNil))))) (mCons true (mCall m__law_over (mCons true (mOp2 true gSub (mVar 1) (mVar 5)) (mCons true (mOp2 true gSub (mVar 3) (mVar 5)) (mNil)))) (mNil))) (gsCons (gSet 6) (gsCons (gSet 7) (gsNil)))
abbrev LS1b1 : S := mIfS (mB (mOp2 true gNe (mOp2 true gMod (mOpN (g1 kInt) (mCons true (mVar 6) (mNil))) (mVar 7)) (mC (.int 0))))
  (mRet (mC .non))
  (mSkip)
abbrev LS1b2 : S := mExpr (mMeth gApp 4 (mCons true (mOp2 true gDiv (mVar 6) (mVar 7)) (mNil)))
abbrev LS1 : S := mFor (mRng1 (mCons true (mOp2 true oAdd (mVar 3) (mC (.int 1))) (mNil))) (gSet 5) (mSeq (LS1b0) (mSeq (LS1b1) (LS1b2)))
abbrev LS2 : S := mRet (mVarM 4)
theorem LS_is : b__law_shares = mSeq (LS0) (mSeq (LS1) (LS2)) := rfl
abbrev shE (p s t : Nat) (m : Int) (found : List Int) (x5 x6 x7 : Sl) : En := [some (0, .int (p : Int)), some (0, .int (s : Int)), some (0, .int m), some (0, .int (t : Int)), some (1, .lst (found.map .int)), x5, x6, x7]
theorem sh_loop {body : S} {p s t : Nat} {m : Int} (hp : p ≤ 40) (hs : s ≤ p) (ht : t ≤ s) (ht6 : t ≤ 6) (hm : 0 ≤ m) (hm2 : m ≤ 1000000)
    (hb : ∀ (j : Nat) (found : List Int) (x6 x7 : Sl), j ≤ t → found.length ≤ 7 → 0 < bot s t j → bot s t j < 1073741824 → mulOk m ((Cb (p - j) (t - j) : Nat) : Int) = true → body (shE p s t m found (some (0, .int (j : Int))) x6 x7) = if top p t m j % bot s t j = 0 then .nx (shE p s t m (found ++ [top p t m j / bot s t j]) (some (0, .int (j : Int))) (some (0, .int (top p t m j))) (some (0, .int (bot s t j)))) else .rt (fz .non) (shE p s t m found (some (0, .int (j : Int))) (some (0, .int (top p t m j))) (some (0, .int (bot s t j))))) (x5 x6 x7 : Sl) :
    match shr p s t m with
    | .inl l => ∃ y5 y6 y7, forGo (gSet 5) body (nl (t + 1)) (shE p s t m [] x5 x6 x7) = .nx (shE p s t m l y5 y6 y7)
    | .inr r => ∃ ρ2, forGo (gSet 5) body (nl (t + 1)) (shE p s t m [] x5 x6 x7) = .rt r ρ2 := by
  have h := for_foldR (mg := gSet 5) (mb := body) (f := stp p s t m) (fun i found ρ => found.length = i ∧ ∃ y5 y6 y7, ρ = shE p s t m found y5 y6 y7) (nl (t + 1)) 0 (fun j u hu found ρ ⟨hl, y5, y6, y7, e⟩ => by
    obtain ⟨hj, eu⟩ := nl_get hu
    subst eu e
    have hj' : j ≤ t := by omega
    have hbp : 0 < bot s t j := by
      have := (posC (n := s - j) (k := t - j) (by omega) (by omega)).1
      unfold bot; omega
    have hbl : bot s t j < 1073741824 := by
      have := small6 (n := s - j) (k := t - j) (by omega) (by omega)
      unfold bot; omega
    have hml : mulOk m ((Cb (p - j) (t - j) : Nat) : Int) = true := v_mul_l (by omega) (by omega)
    refine ⟨shE p s t m found (some (0, .int (j : Int))) y6 y7, by simp, ?_⟩
    have hb' := hb j found y6 y7 hj' (by omega) hbp hbl hml
    unfold stp
    simp only [Int.toNat_natCast]
    by_cases hz : top p t m j % bot s t j = 0
    · rw [if_pos hz] at hb' ⊢
      exact ⟨_, hb', by rw [List.length_append, hl]; rfl, _, _, _, rfl⟩
    · rw [if_neg hz] at hb' ⊢
      exact ⟨_, hb'⟩) [] (shE p s t m [] x5 x6 x7) ⟨rfl, _, _, _, rfl⟩
  unfold shr
  generalize foldR (stp p s t m) (nl (t + 1)) [] = R at h ⊢
  cases R with
  | inl l =>
    obtain ⟨ρ2, h1, _, y5, y6, y7, e⟩ := h
    subst e
    exact ⟨y5, y6, y7, h1⟩
  | inr r => exact h
section
variable {p s t : Nat} {m : Int} (hp : p ≤ 40) (hs : s ≤ p) (ht : t ≤ s) (ht6 : t ≤ 6) (hm : 0 ≤ m) (hm2 : m ≤ 1000000)
include hp hs ht ht6
theorem sb_body (j : Nat) (found : List Int) (x6 x7 : Sl) (hj : j ≤ t) (hl : found.length ≤ 7) (h1 : 0 < bot s t j) (h2 : bot s t j < 1073741824) (h3 : mulOk m ((Cb (p - j) (t - j) : Nat) : Int) = true) : (mSeq (SB1b0) (mSeq (SB1b1) (SB1b2))) (shE p s t m found (some (0, .int (j : Int))) x6 x7) = if top p t m j % bot s t j = 0 then .nx (shE p s t m (found ++ [top p t m j / bot s t j]) (some (0, .int (j : Int))) (some (0, .int (top p t m j))) (some (0, .int (bot s t j)))) else .rt (fz .non) (shE p s t m found (some (0, .int (j : Int))) (some (0, .int (top p t m j))) (some (0, .int (bot s t j)))) := by
  have c1 := (choose_ok (n := p - j) (k := t - j) (by omega) (by omega)).1
  have c2 := (choose_ok (n := s - j) (k := t - j) (by omega) (by omega)).1
  have e1 : ((p - j : Nat) : Int) = (p : Int) - (j : Int) := by omega
  have e2 : ((s - j : Nat) : Int) = (s : Int) - (j : Int) := by omega
  have e3 : ((t - j : Nat) : Int) = (t : Int) - (j : Int) := by omega
  rw [e1, e3] at c1
  rw [e2, e3] at c2
  have st0 : SB1b0 (shE p s t m found (some (0, .int (j : Int))) x6 x7) = .nx (shE p s t m found (some (0, .int (j : Int))) (some (0, .int (top p t m j))) (some (0, .int (bot s t j)))) := by
    simp only [SB1b0, shE]
    simp [v_op2, v_op1, v_idx, v_B, v_Tr, v_and, v_or, v_not, v_if, v_cons, v_tup, v_lst, v_opN, v_call, v_callI, v_seq, v_asg, v_fz, v_ret, v_expr, v_ifs, v_par, v_gseti, kt, kl, c1, c2, v_omul, h3, top, bot]
  have st1 : SB1b1 (shE p s t m found (some (0, .int (j : Int))) (some (0, .int (top p t m j))) (some (0, .int (bot s t j)))) = if top p t m j % bot s t j = 0 then .nx (shE p s t m found (some (0, .int (j : Int))) (some (0, .int (top p t m j))) (some (0, .int (bot s t j)))) else .rt (fz .non) (shE p s t m found (some (0, .int (j : Int))) (some (0, .int (top p t m j))) (some (0, .int (bot s t j)))) := by
    by_cases hz : top p t m j % bot s t j = 0
    · rw [if_pos hz]
      simp only [SB1b1, shE]
      simp [v_op2, v_op1, v_idx, v_B, v_Tr, v_and, v_or, v_not, v_if, v_cons, v_tup, v_lst, v_opN, v_call, v_callI, v_seq, v_asg, v_fz, v_ret, v_expr, v_ifs, v_par, v_gseti, kt, kl, h1, hz]
    · rw [if_neg hz]
      simp only [SB1b1, shE]
      simp [v_op2, v_op1, v_idx, v_B, v_Tr, v_and, v_or, v_not, v_if, v_cons, v_tup, v_lst, v_opN, v_call, v_callI, v_seq, v_asg, v_fz, v_ret, v_expr, v_ifs, v_par, v_gseti, kt, kl, h1, hz]
  have st2 : SB1b2 (shE p s t m found (some (0, .int (j : Int))) (some (0, .int (top p t m j))) (some (0, .int (bot s t j)))) = .nx (shE p s t m (found ++ [top p t m j / bot s t j]) (some (0, .int (j : Int))) (some (0, .int (top p t m j))) (some (0, .int (bot s t j)))) := by
    have e : mMeth gApp 4 (mCons true (mOp2 true gDiv (mVar 6) (mVar 7)) (mNil)) (shE p s t m found (some (0, .int (j : Int))) (some (0, .int (top p t m j))) (some (0, .int (bot s t j)))) = .ok ⟨0, false, .non⟩ (shE p s t m (found ++ [top p t m j / bot s t j]) (some (0, .int (j : Int))) (some (0, .int (top p t m j))) (some (0, .int (bot s t j)))) := by
      rw [v_app (ts := found.map .int) (d := 0) (t := .int (top p t m j / bot s t j)) rfl (by simp only [shE]; simp [v_op2, v_op1, v_idx, v_B, v_Tr, v_and, v_or, v_not, v_if, v_cons, v_tup, v_lst, v_opN, v_call, v_callI, v_seq, v_asg, v_fz, v_ret, v_expr, v_ifs, v_par, v_gseti, kt, kl, h1, h2]) (by simp; omega)]
      simp [shE]
    simp only [SB1b2]
    rw [v_expr, e]
    rfl
  rw [v_seq, st0, v_sbind_nx, v_seq, st1]
  by_cases hz : top p t m j % bot s t j = 0
  · rw [if_pos hz, if_pos hz, v_sbind_nx, st2]
  · rw [if_neg hz, if_neg hz, v_sbind_rt]
theorem ls_body (j : Nat) (found : List Int) (x6 x7 : Sl) (hj : j ≤ t) (hl : found.length ≤ 7) (h1 : 0 < bot s t j) (h2 : bot s t j < 1073741824) (h3 : mulOk m ((Cb (p - j) (t - j) : Nat) : Int) = true) : (mSeq (LS1b0) (mSeq (LS1b1) (LS1b2))) (shE p s t m found (some (0, .int (j : Int))) x6 x7) = if top p t m j % bot s t j = 0 then .nx (shE p s t m (found ++ [top p t m j / bot s t j]) (some (0, .int (j : Int))) (some (0, .int (top p t m j))) (some (0, .int (bot s t j)))) else .rt (fz .non) (shE p s t m found (some (0, .int (j : Int))) (some (0, .int (top p t m j))) (some (0, .int (bot s t j)))) := by
  have c1 := (choose_ok (n := p - j) (k := t - j) (by omega) (by omega)).2
  have c2 := (choose_ok (n := s - j) (k := t - j) (by omega) (by omega)).2
  have e1 : ((p - j : Nat) : Int) = (p : Int) - (j : Int) := by omega
  have e2 : ((s - j : Nat) : Int) = (s : Int) - (j : Int) := by omega
  have e3 : ((t - j : Nat) : Int) = (t : Int) - (j : Int) := by omega
  rw [e1, e3] at c1
  rw [e2, e3] at c2
  have st0 : LS1b0 (shE p s t m found (some (0, .int (j : Int))) x6 x7) = .nx (shE p s t m found (some (0, .int (j : Int))) (some (0, .int (top p t m j))) (some (0, .int (bot s t j)))) := by
    simp only [LS1b0, shE]
    simp [v_op2, v_op1, v_idx, v_B, v_Tr, v_and, v_or, v_not, v_if, v_cons, v_tup, v_lst, v_opN, v_call, v_callI, v_seq, v_asg, v_fz, v_ret, v_expr, v_ifs, v_par, v_gseti, kt, kl, c1, c2, v_omul, h3, top, bot]
  have st1 : LS1b1 (shE p s t m found (some (0, .int (j : Int))) (some (0, .int (top p t m j))) (some (0, .int (bot s t j)))) = if top p t m j % bot s t j = 0 then .nx (shE p s t m found (some (0, .int (j : Int))) (some (0, .int (top p t m j))) (some (0, .int (bot s t j)))) else .rt (fz .non) (shE p s t m found (some (0, .int (j : Int))) (some (0, .int (top p t m j))) (some (0, .int (bot s t j)))) := by
    by_cases hz : top p t m j % bot s t j = 0
    · rw [if_pos hz]
      simp only [LS1b1, shE]
      simp [v_op2, v_op1, v_idx, v_B, v_Tr, v_and, v_or, v_not, v_if, v_cons, v_tup, v_lst, v_opN, v_call, v_callI, v_seq, v_asg, v_fz, v_ret, v_expr, v_ifs, v_par, v_gseti, kt, kl, h1, hz]
    · rw [if_neg hz]
      simp only [LS1b1, shE]
      simp [v_op2, v_op1, v_idx, v_B, v_Tr, v_and, v_or, v_not, v_if, v_cons, v_tup, v_lst, v_opN, v_call, v_callI, v_seq, v_asg, v_fz, v_ret, v_expr, v_ifs, v_par, v_gseti, kt, kl, h1, hz]
  have st2 : LS1b2 (shE p s t m found (some (0, .int (j : Int))) (some (0, .int (top p t m j))) (some (0, .int (bot s t j)))) = .nx (shE p s t m (found ++ [top p t m j / bot s t j]) (some (0, .int (j : Int))) (some (0, .int (top p t m j))) (some (0, .int (bot s t j)))) := by
    have e : mMeth gApp 4 (mCons true (mOp2 true gDiv (mVar 6) (mVar 7)) (mNil)) (shE p s t m found (some (0, .int (j : Int))) (some (0, .int (top p t m j))) (some (0, .int (bot s t j)))) = .ok ⟨0, false, .non⟩ (shE p s t m (found ++ [top p t m j / bot s t j]) (some (0, .int (j : Int))) (some (0, .int (top p t m j))) (some (0, .int (bot s t j)))) := by
      rw [v_app (ts := found.map .int) (d := 0) (t := .int (top p t m j / bot s t j)) rfl (by simp only [shE]; simp [v_op2, v_op1, v_idx, v_B, v_Tr, v_and, v_or, v_not, v_if, v_cons, v_tup, v_lst, v_opN, v_call, v_callI, v_seq, v_asg, v_fz, v_ret, v_expr, v_ifs, v_par, v_gseti, kt, kl, h1, h2]) (by simp; omega)]
      simp [shE]
    simp only [LS1b2]
    rw [v_expr, e]
    rfl
  rw [v_seq, st0, v_sbind_nx, v_seq, st1]
  by_cases hz : top p t m j % bot s t j = 0
  · rw [if_pos hz, if_pos hz, v_sbind_nx, st2]
  · rw [if_neg hz, if_neg hz, v_sbind_rt]
include hm hm2
theorem shares_by_ok : m_shares_by [.int (p : Int), .int (s : Int), .int m, .int (t : Int)] = .ok (shT p s t m) [] := by
  have h := sh_loop (m := m) hp hs ht ht6 hm hm2 (fun j found x6 x7 hj hl h1 h2 h3 => sb_body (m := m) hp hs ht ht6 j found x6 x7 hj hl h1 h2 h3) none none none
  have e0 : SB0 [some (0, .int (p : Int)), some (0, .int (s : Int)), some (0, .int m), some (0, .int (t : Int)), none, none, none, none] = .nx (shE p s t m [] none none none) := by
    simp only [SB0, shE]
    simp [v_op2, v_op1, v_idx, v_B, v_Tr, v_and, v_or, v_not, v_if, v_cons, v_tup, v_lst, v_opN, v_call, v_callI, v_seq, v_asg, v_fz, v_ret, v_expr, v_ifs, v_par, v_gseti, kt, kl]
  have e1 : SB1 (shE p s t m [] none none none) = forGo (gSet 5) (mSeq (SB1b0) (mSeq (SB1b1) (SB1b2))) (nl (t + 1)) (shE p s t m [] none none none) := by
    simp only [SB1]
    rw [v_for, rng_of (d := 0) (al := false) (k := t + 1) (ρ1 := shE p s t m [] none none none) (by simp only [shE]; simp [v_op2, v_op1, v_idx, v_B, v_Tr, v_and, v_or, v_not, v_if, v_cons, v_tup, v_lst, v_opN, v_call, v_callI, v_seq, v_asg, v_fz, v_ret, v_expr, v_ifs, v_par, v_gseti, kt, kl]) (by omega)]
    simp only [v_ifl, v_kfor]
  have eb : ∀ b : S, mFun 8 b [.int (p : Int), .int (s : Int), .int m, .int (t : Int)] = (b [some (0, .int (p : Int)), some (0, .int (s : Int)), some (0, .int m), some (0, .int (t : Int)), none, none, none, none]).out (fun _ => []) := fun b => rfl
  rw [show m_shares_by = mFun 8 b_shares_by from rfl, eb, SB_is]
  rw [v_seq, e0, v_sbind_nx, v_seq, e1]
  unfold shT
  split at h
  · rename_i l el
    obtain ⟨y5, y6, y7, h⟩ := h
    rw [h, v_sbind_nx]
    rfl
  · rename_i r er
    obtain ⟨ρ2, h⟩ := h
    rw [h, v_sbind_rt, v_out_rt]
theorem law_shares_ok : m__law_shares [.int (p : Int), .int (s : Int), .int m, .int (t : Int)] = .ok (shT p s t m) [] := by
  have h := sh_loop (m := m) hp hs ht ht6 hm hm2 (fun j found x6 x7 hj hl h1 h2 h3 => ls_body (m := m) hp hs ht ht6 j found x6 x7 hj hl h1 h2 h3) none none none
  have e0 : LS0 [some (0, .int (p : Int)), some (0, .int (s : Int)), some (0, .int m), some (0, .int (t : Int)), none, none, none, none] = .nx (shE p s t m [] none none none) := by
    simp only [LS0, shE]
    simp [v_op2, v_op1, v_idx, v_B, v_Tr, v_and, v_or, v_not, v_if, v_cons, v_tup, v_lst, v_opN, v_call, v_callI, v_seq, v_asg, v_fz, v_ret, v_expr, v_ifs, v_par, v_gseti, kt, kl]
  have e1 : LS1 (shE p s t m [] none none none) = forGo (gSet 5) (mSeq (LS1b0) (mSeq (LS1b1) (LS1b2))) (nl (t + 1)) (shE p s t m [] none none none) := by
    simp only [LS1]
    rw [v_for, rng_of (d := 0) (al := false) (k := t + 1) (ρ1 := shE p s t m [] none none none) (by simp only [shE]; simp [v_op2, v_op1, v_idx, v_B, v_Tr, v_and, v_or, v_not, v_if, v_cons, v_tup, v_lst, v_opN, v_call, v_callI, v_seq, v_asg, v_fz, v_ret, v_expr, v_ifs, v_par, v_gseti, kt, kl]) (by omega)]
    simp only [v_ifl, v_kfor]
  have eb : ∀ b : S, mFun 8 b [.int (p : Int), .int (s : Int), .int m, .int (t : Int)] = (b [some (0, .int (p : Int)), some (0, .int (s : Int)), some (0, .int m), some (0, .int (t : Int)), none, none, none, none]).out (fun _ => []) := fun b => rfl
  rw [show m__law_shares = mFun 8 b__law_shares from rfl, eb, LS_is]
  rw [v_seq, e0, v_sbind_nx, v_seq, e1]
  unfold shT
  split at h
  · rename_i l el
    obtain ⟨y5, y6, y7, h⟩ := h
    rw [h, v_sbind_nx]
    rfl
  · rename_i r er
    obtain ⟨ρ2, h⟩ := h
    rw [h, v_sbind_rt, v_out_rt]
end
end Pk05
end
/- K05d -/
section
set_option Elab.async false
set_option linter.all false
set_option maxRecDepth 100000
set_option maxHeartbeats 4000000
namespace Pk05
open PySem Pb L2
def dif (l : List Int) : List Int := List.zipWith (fun x y => x - y) l l.tail
theorem dif_len (l : List Int) : (dif l).length = l.length - 1 := by
  unfold dif
  rw [List.length_zipWith, List.length_tail]
  omega
def rws : Nat → List Int → List (List Int)
  | 0, l => [l]
  | k + 1, l => if 1 < l.length then l :: rws k (dif l) else [l]
theorem atI_last (xs : List T) (y : T) : atI (xs ++ [y]) (-1) = some y := by
  unfold atI ixN
  have h1 : ¬ (0 : Int) ≤ -1 := by omega
  rw [if_neg h1]
  have h2 : (-((xs ++ [y]).length : Int)) ≤ -1 := by
    rw [List.length_append]; simp; omega
  rw [if_pos h2]
  have h3 : (((xs ++ [y]).length : Int) + -1).toNat = xs.length := by
    rw [List.length_append]; simp; omega
  show (xs ++ [y])[(((xs ++ [y]).length : Int) + -1).toNat]? = _
  rw [h3]
  simp
theorem cut_tail (ts : List T) : cutT ts (some 1) none = ts.tail := by
  unfold cutT
  have h1 : HT.sIx ts.length 0 (some 1) = min 1 ts.length := by
    have := HT.sIx_nat ts.length 0 1
    exact this
  have h2 : HT.sIx ts.length ts.length none = ts.length := rfl
  rw [h1, h2]
  cases ts with
  | nil => rfl
  | cons t ts =>
    have : min 1 (t :: ts).length = 1 := by simp
    rw [this]
    simp
theorem dif_map (l : List Int) : (zipT (l.map .int) (l.tail.map .int)).map (fun t => match t with | .tup [.int a, .int b] => T.int (a - b) | t => t) = (dif l).map .int := by
  unfold dif zipT
  generalize l.tail = r
  induction l generalizing r with
  | nil => rfl
  | cons x l ih =>
    cases r with
    | nil => rfl
    | cons y r => simp [ih r]
theorem zip_mem {l r : List Int} {t : T} (h : t ∈ zipT (l.map .int) (r.map .int)) : ∃ x y : Int, t = .tup [.int x, .int y] := by
  obtain ⟨i, hi⟩ := List.getElem?_of_mem h
  obtain ⟨a, b, h1, h2, e⟩ := zip_get hi
  rw [List.getElem?_map] at h1 h2
  cases e1 : l[i]? with
  | none => rw [e1] at h1; cases h1
  | some x =>
    cases e2 : r[i]? with
    | none => rw [e2] at h2; cases h2
    | some y =>
      rw [e1] at h1; rw [e2] at h2
      cases h1; cases h2
      exact ⟨x, y, e⟩
theorem comp_dif {vs : List Nat} {mg : Rz → En → Option En} {me : M} {ρ : En} {mz : MA} {cur : List Int} {d1 d2 : Nat} {a1 a2 : Bool} (h1 : d1 ≤ 1) (h2 : d2 ≤ 1) (hz : mz ρ = .ok [⟨d1, a1, rowT cur⟩, ⟨d2, a2, rowT cur.tail⟩] ρ) (hl : cur.length ≤ 1000)
    (hw : wipeE ρ vs = ρ) (hr : resE ρ vs ρ = ρ) (hs : ∀ x y : Int, ∃ ρ1, mg (fz (.tup [.int x, .int y])) ρ = some ρ1 ∧ me ρ1 = .ok (fz (.int (x - y))) ρ1 ∧ wipeE ρ1 vs = ρ) :
    mComp true vs 0 (mZip mz) mg (mC (.bl true)) me ρ = .ok ⟨1, false, rowT (dif cur)⟩ ρ := by
  have e1 : mZip mz ρ = .ok true (zipT (cur.map .int) (cur.tail.map .int)) ρ := by
    unfold mZip
    rw [hz, v_abindI_ok]
    have z1 : zipSeq ⟨d1, a1, rowT cur⟩ = some (false, cur.map .int) := by
      show (if d1 ≤ 1 then some (false, cur.map T.int) else none) = _
      rw [if_pos h1]
    have z2 : zipSeq ⟨d2, a2, rowT cur.tail⟩ = some (false, cur.tail.map .int) := by
      show (if d2 ≤ 1 then some (false, cur.tail.map T.int) else none) = _
      rw [if_pos h2]
    simp only [z1, z2, if_true]
  have e2 : compGo vs 0 mg (mC (.bl true)) me (zipT (cur.map .int) (cur.tail.map .int)) ρ = .ok false ((dif cur).map .int) ρ := by
    rw [← dif_map]
    refine comp_map _ fun t ht => ?_
    obtain ⟨x, y, rfl⟩ := zip_mem ht
    obtain ⟨ρ1, q1, q2, q3⟩ := hs x y
    exact ⟨ρ1, q1, q2, q3⟩
  have e3 : decide (sizeLine < (zipT (cur.map T.int) (cur.tail.map T.int)).length) = false := by
    have : (zipT (cur.map T.int) (cur.tail.map T.int)).length ≤ 1000 := by
      unfold zipT; rw [List.length_zipWith, List.length_map]; omega
    have : (1000 : Nat) ≤ sizeLine := by decide
    simp only [decide_eq_false_iff_not]; omega
  unfold mComp
  rw [e1]
  simp only [e3, Bool.not_true, Bool.and_false, Bool.or_self, hw, e2]
  rw [if_neg Bool.false_ne_true]
  simp only [if_true, hr]
/-- rows put behind rows -/
theorem rows_go {mc : M} {mb : S} (E : List (List Int) → En → Prop) (hc : ∀ acc cur ρ, E (acc ++ [cur]) ρ → cur.length ≤ 10 → acc.length ≤ 10 → ∃ ρ1, mc ρ = .ok (fz (.bl (decide (1 < cur.length)))) ρ1 ∧ E (acc ++ [cur]) ρ1)
    (hb : ∀ acc cur ρ, E (acc ++ [cur]) ρ → cur.length ≤ 10 → acc.length ≤ 10 → ∃ ρ1, mb ρ = .nx ρ1 ∧ E (acc ++ [cur] ++ [dif cur]) ρ1) : ∀ (k K : Nat) (acc : List (List Int)) (cur : List Int) (ρ : En), k < K → cur.length ≤ k + 1 → acc.length + k ≤ 9 → E (acc ++ [cur]) ρ → ∃ ρ1, whileGo mc mb K ρ = .nx ρ1 ∧ E (acc ++ rws k cur) ρ1
  | 0, 0, _, _, _, hk, _, _, _ => absurd hk (by omega)
  | k + 1, 0, _, _, _, hk, _, _, _ => absurd hk (by omega)
  | 0, K + 1, acc, cur, ρ, hk, hl, ha, h => by
    obtain ⟨ρ1, c1, c2⟩ := hc acc cur ρ h (by omega) (by omega)
    have : decide (1 < cur.length) = false := by simp only [decide_eq_false_iff_not]; omega
    rw [this] at c1
    exact ⟨ρ1, while_stop c1, c2⟩
  | k + 1, K + 1, acc, cur, ρ, hk, hl, ha, h => by
    obtain ⟨ρ1, c1, c2⟩ := hc acc cur ρ h (by omega) (by omega)
    by_cases h1 : 1 < cur.length
    · rw [decide_eq_true h1] at c1
      obtain ⟨ρ2, b1, b2⟩ := hb acc cur ρ1 c2 (by omega) (by omega)
      rw [while_step c1 b1]
      obtain ⟨ρ3, r1, r2⟩ := rows_go E hc hb k K (acc ++ [cur]) (dif cur) ρ2 (by omega) (by rw [dif_len]; omega) (by rw [List.length_append]; simp; omega) b2
      refine ⟨ρ3, r1, ?_⟩
      unfold rws
      rw [if_pos h1]
      simpa using r2
    · rw [decide_eq_false h1] at c1
      unfold rws
      rw [if_neg h1]
      exact ⟨ρ1, while_stop c1, c2⟩
abbrev LD0 : S := mAsg (mLst (mCons true (mVar 0) (mNil))) (gSet 1)
abbrev LD1b : S := mExpr (mMeth gApp 1 (mCons true (mFz (mComp true [2, 3] 0 (mZip (mCons true (mIdx true (mVar 1) (mOp1 gNeg (mC (.int 1)))) (mCons true (mSl (mIdx true (mVar 1) (mOp1 gNeg (mC (.int 1)))) (mPart (mC (.int 1))) mNoPart) (mNil)))) (gTupM (gsCons (gSet 2) (gsCons (gSet 3) (gsNil))) 2) (mC (.bl true)) (mOp2 true gSub (mVar 2) (mVar 3)))) (mNil)))
abbrev LD1 : S := mWhile (mB (mOp2 true gGt (mOpN (g1 kLen) (mCons true (mIdx true (mVar 1) (mOp1 gNeg (mC (.int 1)))) (mNil))) (mC (.int 1)))) (LD1b)
abbrev LD2 : S := mRet (mVarM 1)
theorem LD_is : b__law_differences = mSeq (LD0) (mSeq (LD1) (LD2)) := rfl
abbrev OC0 : S := mAsg (mFz (mCall m_shares (mCons true (mVar 0) (mCons true (mVar 1) (mCons true (mVar 2) (mCons true (mVar 3) (mNil))))))) (gSet 4)
abbrev OC1 : S := mIfS (mB (mOp2 true (gIs false) (mVar 4) (mC .non)))
  (mRet (mC .non))
  (mSkip)
abbrev OC2 : S := mAsg (mLst (mCons true (mVar 4) (mNil))) (gSet 5)
abbrev OC3b0 : S := mAsg (mFz (mIdx true (mVar 5) (mOp1 gNeg (mC (.int 1))))) (gSet 6)
abbrev OC3b1 : S := mExpr (mMeth gApp 5 (mCons true (mFz (mComp true [7, 8] 0 (mZip (mCons true (mVar 6) (mCons true (mSl (mVar 6) (mPart (mC (.int 1))) mNoPart) (mNil)))) (gTupM (gsCons (gSet 7) (gsCons (gSet 8) (gsNil))) 2) (mC (.bl true)) (mOp2 true gSub (mVar 7) (mVar 8)))) (mNil)))
abbrev OC3 : S := mWhile (mB (mOp2 true gGt (mOpN (g1 kLen) (mCons true (mIdx true (mVar 5) (mOp1 gNeg (mC (.int 1)))) (mNil))) (mC (.int 1)))) (mSeq (OC3b0) (OC3b1))
abbrev OC4 : S := mRet (mVarM 5)
theorem OC_is : b_outside_counts = mSeq (OC0) (mSeq (OC1) (mSeq (OC2) (mSeq (OC3) (OC4)))) := rfl
abbrev rowsT (ll : List (List Int)) : T := .lst (ll.map rowT)
theorem rowsT_app (acc : List (List Int)) (cur : List Int) : (acc ++ [cur]).map rowT = acc.map rowT ++ [rowT cur] := by simp
abbrev ldE (x : T) (ll : List (List Int)) : En := [some (0, x), some (1, rowsT ll), none, none]
theorem ld_ok {l : List Int} (hl : l.length ≤ 10) (h0 : 1 ≤ l.length) : m__law_differences [rowT l] = .ok ⟨1, false, rowsT (rws 9 l)⟩ [] := by
  have hlast : ∀ (x : T) acc cur, mIdx true (mVar 1) (mOp1 gNeg (mC (.int 1))) (ldE x (acc ++ [cur])) = .ok ⟨0, false, rowT cur⟩ (ldE x (acc ++ [cur])) := by
    intro x acc cur
    simp only [ldE, rowsT]
    rw [v_idx, v_var]
    simp [v_op2, v_op1, v_idx, v_B, v_Tr, v_and, v_or, v_not, v_if, v_cons, v_tup, v_lst, v_opN, v_call, v_callI, v_seq, v_asg, v_fz, v_ret, v_expr, v_ifs, v_par, v_gseti, kt, kl, atI_last]
  obtain ⟨ρ1, w1, w2⟩ := rows_go (mc := mB (mOp2 true gGt (mOpN (g1 kLen) (mCons true (mIdx true (mVar 1) (mOp1 gNeg (mC (.int 1)))) (mNil))) (mC (.int 1)))) (mb := LD1b) (fun ll ρ => ρ = ldE (rowT l) ll)
    (fun acc cur ρ e hcl hal => by
      subst e
      refine ⟨_, ?_, rfl⟩
      rw [v_B, v_op2, v_opN, v_cons, hlast, v_bindA_ok]
      simp [v_op2, v_op1, v_idx, v_B, v_Tr, v_and, v_or, v_not, v_if, v_cons, v_tup, v_lst, v_opN, v_call, v_callI, v_seq, v_asg, v_fz, v_ret, v_expr, v_ifs, v_par, v_gseti, kt, kl]
      omega)
    (fun acc cur ρ e hcl hal => by
      subst e
      refine ⟨_, ?_, rfl⟩
      have hsl : mSl (mIdx true (mVar 1) (mOp1 gNeg (mC (.int 1)))) (mPart (mC (.int 1))) mNoPart (ldE (rowT l) (acc ++ [cur])) = .ok ⟨1, false, rowT cur.tail⟩ (ldE (rowT l) (acc ++ [cur])) := by
        unfold mSl
        rw [hlast]
        show Out.ok (ow (.lst (cutT (cur.map .int) (some 1) none))) _ = Out.ok ⟨1, false, .lst (cur.tail.map .int)⟩ _
        rw [cut_tail, List.map_tail]
      have hz : (mCons true (mIdx true (mVar 1) (mOp1 gNeg (mC (.int 1)))) (mCons true (mSl (mIdx true (mVar 1) (mOp1 gNeg (mC (.int 1)))) (mPart (mC (.int 1))) mNoPart) (mNil))) (ldE (rowT l) (acc ++ [cur])) = .ok [⟨0, false, rowT cur⟩, ⟨1, false, rowT cur.tail⟩] (ldE (rowT l) (acc ++ [cur])) := by
        rw [v_cons, hlast, v_bindA_ok, v_kct, v_cons, hsl, v_bindA_ok, v_kct, v_nil, v_cons_ok, v_cons_ok]
      have hcd := comp_dif (vs := [2, 3]) (mg := gTupM (gsCons (gSet 2) (gsCons (gSet 3) (gsNil))) 2) (me := mOp2 true gSub (mVar 2) (mVar 3)) (by omega) (by omega) hz (by omega) rfl rfl (fun x y => ⟨[some (0, rowT l), some (1, rowsT (acc ++ [cur])), some (0, .int x), some (0, .int y)], rfl, by simp [v_op2, v_op1, v_idx, v_B, v_Tr, v_and, v_or, v_not, v_if, v_cons, v_tup, v_lst, v_opN, v_call, v_callI, v_seq, v_asg, v_fz, v_ret, v_expr, v_ifs, v_par, v_gseti, kt, kl], rfl⟩)
      have hap : mMeth gApp 1 (mCons true (mFz (mComp true [2, 3] 0 (mZip (mCons true (mIdx true (mVar 1) (mOp1 gNeg (mC (.int 1)))) (mCons true (mSl (mIdx true (mVar 1) (mOp1 gNeg (mC (.int 1)))) (mPart (mC (.int 1))) mNoPart) (mNil)))) (gTupM (gsCons (gSet 2) (gsCons (gSet 3) (gsNil))) 2) (mC (.bl true)) (mOp2 true gSub (mVar 2) (mVar 3)))) (mNil)) (ldE (rowT l) (acc ++ [cur])) = .ok ⟨0, false, .non⟩ (ldE (rowT l) (acc ++ [cur] ++ [dif cur])) := by
        rw [v_app (ts := (acc ++ [cur]).map rowT) (d := 0) (t := rowT (dif cur)) rfl (by rw [v_cons, v_fz, hcd]; simp [v_op2, v_op1, v_idx, v_B, v_Tr, v_and, v_or, v_not, v_if, v_cons, v_tup, v_lst, v_opN, v_call, v_callI, v_seq, v_asg, v_fz, v_ret, v_expr, v_ifs, v_par, v_gseti, kt, kl]) (by simp; omega)]
        simp [ldE, rowsT]
      simp only [LD1b]
      rw [v_expr, hap]
      rfl) 9 fuel [] l (ldE (rowT l) [l]) (by unfold fuel; omega) (by omega) (by simp) rfl
  subst w2
  have eb : ∀ b : S, mFun 4 b [rowT l] = (b [some (0, rowT l), none, none, none]).out (fun _ => []) := fun b => rfl
  rw [show m__law_differences = mFun 4 b__law_differences from rfl, eb, LD_is]
  have e0 : LD0 [some (0, rowT l), none, none, none] = .nx (ldE (rowT l) [l]) := by
    have : (1 : Nat) ≤ sizeLine := by decide
    simp only [LD0, ldE, rowsT]
    simp [v_op2, v_op1, v_idx, v_B, v_Tr, v_and, v_or, v_not, v_if, v_cons, v_tup, v_lst, v_opN, v_call, v_callI, v_seq, v_asg, v_fz, v_ret, v_expr, v_ifs, v_par, v_gseti, kt, kl, this]
  rw [v_seq, e0, v_sbind_nx, v_seq]
  simp only [LD1]
  rw [v_while, w1, v_sbind_nx]
  rfl
abbrev ocE (p s m t x : T) (ll : List (List Int)) (x6 : Sl) : En := [some (0, p), some (0, s), some (0, m), some (0, t), some (0, x), some (1, rowsT ll), x6, none, none]
theorem oc_rows {p s m t : T} {l : List Int} (hl : l.length ≤ 10) (h0 : 1 ≤ l.length) (h : m_shares [p, s, m, t] = .ok ⟨1, false, rowT l⟩ []) : m_outside_counts [p, s, m, t] = .ok ⟨1, false, rowsT (rws 9 l)⟩ [] := by
  have hlast : ∀ (x : T) acc cur x6, mIdx true (mVar 5) (mOp1 gNeg (mC (.int 1))) (ocE p s m t x (acc ++ [cur]) x6) = .ok ⟨0, false, rowT cur⟩ (ocE p s m t x (acc ++ [cur]) x6) := by
    intro x acc cur x6
    simp only [ocE, rowsT]
    rw [v_idx, v_var]
    simp [v_op2, v_op1, v_idx, v_B, v_Tr, v_and, v_or, v_not, v_if, v_cons, v_tup, v_lst, v_opN, v_call, v_callI, v_seq, v_asg, v_fz, v_ret, v_expr, v_ifs, v_par, v_gseti, kt, kl, atI_last]
  obtain ⟨ρ1, w1, x6, w2⟩ := rows_go (mc := mB (mOp2 true gGt (mOpN (g1 kLen) (mCons true (mIdx true (mVar 5) (mOp1 gNeg (mC (.int 1)))) (mNil))) (mC (.int 1)))) (mb := mSeq (OC3b0) (OC3b1)) (fun ll ρ => ∃ x6, ρ = ocE p s m t (rowT l) ll x6)
    (fun acc cur ρ ⟨x6, e⟩ hcl hal => by
      subst e
      refine ⟨_, ?_, x6, rfl⟩
      rw [v_B, v_op2, v_opN, v_cons, hlast, v_bindA_ok]
      simp [v_op2, v_op1, v_idx, v_B, v_Tr, v_and, v_or, v_not, v_if, v_cons, v_tup, v_lst, v_opN, v_call, v_callI, v_seq, v_asg, v_fz, v_ret, v_expr, v_ifs, v_par, v_gseti, kt, kl]
      omega)
    (fun acc cur ρ ⟨x6, e⟩ hcl hal => by
      subst e
      refine ⟨_, ?_, some (0, rowT cur), rfl⟩
      have s0 : OC3b0 (ocE p s m t (rowT l) (acc ++ [cur]) x6) = .nx (ocE p s m t (rowT l) (acc ++ [cur]) (some (0, rowT cur))) := by
        simp only [OC3b0]
        rw [v_asg, v_fz, hlast]
        simp only [ocE]
        simp [v_op2, v_op1, v_idx, v_B, v_Tr, v_and, v_or, v_not, v_if, v_cons, v_tup, v_lst, v_opN, v_call, v_callI, v_seq, v_asg, v_fz, v_ret, v_expr, v_ifs, v_par, v_gseti, kt, kl]
      have hz : (mCons true (mVar 6) (mCons true (mSl (mVar 6) (mPart (mC (.int 1))) mNoPart) (mNil))) (ocE p s m t (rowT l) (acc ++ [cur]) (some (0, rowT cur))) = .ok [⟨0, false, rowT cur⟩, ⟨1, false, rowT cur.tail⟩] (ocE p s m t (rowT l) (acc ++ [cur]) (some (0, rowT cur))) := by
        have hv : mVar 6 (ocE p s m t (rowT l) (acc ++ [cur]) (some (0, rowT cur))) = .ok ⟨0, false, rowT cur⟩ (ocE p s m t (rowT l) (acc ++ [cur]) (some (0, rowT cur))) := rfl
        have hsl : mSl (mVar 6) (mPart (mC (.int 1))) mNoPart (ocE p s m t (rowT l) (acc ++ [cur]) (some (0, rowT cur))) = .ok ⟨1, false, rowT cur.tail⟩ (ocE p s m t (rowT l) (acc ++ [cur]) (some (0, rowT cur))) := by
          unfold mSl
          rw [hv]
          show Out.ok (ow (.lst (cutT (cur.map .int) (some 1) none))) _ = Out.ok ⟨1, false, .lst (cur.tail.map .int)⟩ _
          rw [cut_tail, List.map_tail]
        rw [v_cons, hv, v_bindA_ok, v_kct, v_cons, hsl, v_bindA_ok, v_kct, v_nil, v_cons_ok, v_cons_ok]
      have hcd := comp_dif (vs := [7, 8]) (mg := gTupM (gsCons (gSet 7) (gsCons (gSet 8) (gsNil))) 2) (me := mOp2 true gSub (mVar 7) (mVar 8)) (by omega) (by omega) hz (by omega) rfl rfl (fun x y => ⟨[some (0, p), some (0, s), some (0, m), some (0, t), some (0, rowT l), some (1, rowsT (acc ++ [cur])), some (0, rowT cur), some (0, .int x), some (0, .int y)], rfl, by simp [v_op2, v_op1, v_idx, v_B, v_Tr, v_and, v_or, v_not, v_if, v_cons, v_tup, v_lst, v_opN, v_call, v_callI, v_seq, v_asg, v_fz, v_ret, v_expr, v_ifs, v_par, v_gseti, kt, kl], rfl⟩)
      have hap : mMeth gApp 5 (mCons true (mFz (mComp true [7, 8] 0 (mZip (mCons true (mVar 6) (mCons true (mSl (mVar 6) (mPart (mC (.int 1))) mNoPart) (mNil)))) (gTupM (gsCons (gSet 7) (gsCons (gSet 8) (gsNil))) 2) (mC (.bl true)) (mOp2 true gSub (mVar 7) (mVar 8)))) (mNil)) (ocE p s m t (rowT l) (acc ++ [cur]) (some (0, rowT cur))) = .ok ⟨0, false, .non⟩ (ocE p s m t (rowT l) (acc ++ [cur] ++ [dif cur]) (some (0, rowT cur))) := by
        rw [v_app (ts := (acc ++ [cur]).map rowT) (d := 0) (t := rowT (dif cur)) rfl (by rw [v_cons, v_fz, hcd]; simp [v_op2, v_op1, v_idx, v_B, v_Tr, v_and, v_or, v_not, v_if, v_cons, v_tup, v_lst, v_opN, v_call, v_callI, v_seq, v_asg, v_fz, v_ret, v_expr, v_ifs, v_par, v_gseti, kt, kl]) (by simp; omega)]
        simp [ocE, rowsT]
      rw [v_seq, s0, v_sbind_nx]
      simp only [OC3b1]
      rw [v_expr, hap]
      rfl) 9 fuel [] l (ocE p s m t (rowT l) [l] none) (by unfold fuel; omega) (by omega) (by simp) ⟨none, rfl⟩
  subst w2
  have eb : ∀ b : S, mFun 9 b [p, s, m, t] = (b [some (0, p), some (0, s), some (0, m), some (0, t), none, none, none, none, none]).out (fun _ => []) := fun b => rfl
  rw [show m_outside_counts = mFun 9 b_outside_counts from rfl, eb, OC_is]
  have e0 : OC0 [some (0, p), some (0, s), some (0, m), some (0, t), none, none, none, none, none] = .nx [some (0, p), some (0, s), some (0, m), some (0, t), some (0, rowT l), none, none, none, none] := by
    simp only [OC0]
    simp [v_op2, v_op1, v_idx, v_B, v_Tr, v_and, v_or, v_not, v_if, v_cons, v_tup, v_lst, v_opN, v_call, v_callI, v_seq, v_asg, v_fz, v_ret, v_expr, v_ifs, v_par, v_gseti, kt, kl, h]
  have e1 : OC1 [some (0, p), some (0, s), some (0, m), some (0, t), some (0, rowT l), none, none, none, none] = .nx [some (0, p), some (0, s), some (0, m), some (0, t), some (0, rowT l), none, none, none, none] := by
    have hi : gIs false ⟨0, false, rowT l⟩ ⟨0, false, .non⟩ = some (fz (.bl false)) := rfl
    simp only [OC1]
    simp [v_op2, v_op1, v_idx, v_B, v_Tr, v_and, v_or, v_not, v_if, v_cons, v_tup, v_lst, v_opN, v_call, v_callI, v_seq, v_asg, v_fz, v_ret, v_expr, v_ifs, v_par, v_gseti, kt, kl, hi]
  have e2 : OC2 [some (0, p), some (0, s), some (0, m), some (0, t), some (0, rowT l), none, none, none, none] = .nx (ocE p s m t (rowT l) [l] none) := by
    have : (1 : Nat) ≤ sizeLine := by decide
    simp only [OC2, ocE, rowsT]
    simp [v_op2, v_op1, v_idx, v_B, v_Tr, v_and, v_or, v_not, v_if, v_cons, v_tup, v_lst, v_opN, v_call, v_callI, v_seq, v_asg, v_fz, v_ret, v_expr, v_ifs, v_par, v_gseti, kt, kl, this]
  rw [v_seq, e0, v_sbind_nx, v_seq, e1, v_sbind_nx, v_seq, e2, v_sbind_nx, v_seq]
  simp only [OC3]
  rw [v_while, w1, v_sbind_nx]
  rfl
theorem oc_non {p s m t : T} (h : m_shares [p, s, m, t] = .ok ⟨0, false, .non⟩ []) : m_outside_counts [p, s, m, t] = .ok ⟨0, false, .non⟩ [] := by
  have eb : ∀ b : S, mFun 9 b [p, s, m, t] = (b [some (0, p), some (0, s), some (0, m), some (0, t), none, none, none, none, none]).out (fun _ => []) := fun b => rfl
  rw [show m_outside_counts = mFun 9 b_outside_counts from rfl, eb, OC_is]
  have e0 : OC0 [some (0, p), some (0, s), some (0, m), some (0, t), none, none, none, none, none] = .nx [some (0, p), some (0, s), some (0, m), some (0, t), some (0, .non), none, none, none, none] := by
    simp only [OC0]
    simp [v_op2, v_op1, v_idx, v_B, v_Tr, v_and, v_or, v_not, v_if, v_cons, v_tup, v_lst, v_opN, v_call, v_callI, v_seq, v_asg, v_fz, v_ret, v_expr, v_ifs, v_par, v_gseti, kt, kl, h]
  have e1 : OC1 [some (0, p), some (0, s), some (0, m), some (0, t), some (0, .non), none, none, none, none] = .rt (fz .non) [some (0, p), some (0, s), some (0, m), some (0, t), some (0, .non), none, none, none, none] := by
    have hi : gIs false ⟨0, false, .non⟩ ⟨0, false, .non⟩ = some (fz (.bl true)) := rfl
    simp only [OC1]
    simp [v_op2, v_op1, v_idx, v_B, v_Tr, v_and, v_or, v_not, v_if, v_cons, v_tup, v_lst, v_opN, v_call, v_callI, v_seq, v_asg, v_fz, v_ret, v_expr, v_ifs, v_par, v_gseti, kt, kl, hi]
  rw [v_seq, e0, v_sbind_nx, v_seq, e1, v_sbind_rt]
  rfl
theorem oc_ex {p s m t e : T} (h : m_shares [p, s, m, t] = .ex e []) : m_outside_counts [p, s, m, t] = .ex e [] := by
  have eb : ∀ b : S, mFun 9 b [p, s, m, t] = (b [some (0, p), some (0, s), some (0, m), some (0, t), none, none, none, none, none]).out (fun _ => []) := fun b => rfl
  rw [show m_outside_counts = mFun 9 b_outside_counts from rfl, eb, OC_is]
  have e0 : OC0 [some (0, p), some (0, s), some (0, m), some (0, t), none, none, none, none, none] = .ex e [some (0, p), some (0, s), some (0, m), some (0, t), none, none, none, none, none] := by
    simp only [OC0]
    simp [v_op2, v_op1, v_idx, v_B, v_Tr, v_and, v_or, v_not, v_if, v_cons, v_tup, v_lst, v_opN, v_call, v_callI, v_seq, v_asg, v_fz, v_ret, v_expr, v_ifs, v_par, v_gseti, kt, kl, h]
  rw [v_seq, e0, v_sbind_ex]
  rfl
end Pk05
end
/- K05c -/
section
set_option Elab.async false
set_option linter.all false
set_option maxRecDepth 100000
set_option maxHeartbeats 4000000
namespace Pk05
open PySem Pb L2
theorem v_chain {pb pc : Bool} {g g' : Rz → Rz → Option Rz} {ma mb mc : M} {ρ : En} {r1 r2 r3 : Rz} {b1 b2 : Bool} (h1 : ma ρ = .ok r1 ρ) (a1 : r1.al = false) (h2 : mb ρ = .ok r2 ρ) (a2 : r2.al = false) (h3 : mc ρ = .ok r3 ρ) (g1 : g r1 r2 = some (fz (.bl b1))) (g2 : g' r2 r3 = some (fz (.bl b2))) : mChain pb pc g g' ma mb mc ρ = .ok (fz (.bl (b1 && b2))) ρ := by
  unfold mChain
  rw [h1, v_bind_ok, a1]
  simp only [Bool.false_and, if_false, h2, v_bind_ok, a2, g1, Bool.false_eq_true]
  cases b1
  · rfl
  · simp only [h3, v_bind_ok, g2, Bool.false_eq_true, if_false, Bool.true_and]
/-! ### what is within -/
theorem isint (i : Int) : m_is_integer [.int i] = .ok (fz (.bl true)) [] := by
  have h1 : kIsTy ⟨0, false, .int i⟩ ⟨0, false, .ty "int"⟩ = some (.bl true) := by
    show (match isaB "int" "int" with | some r => some (T.bl r) | none => none) = _
    rw [show isaB "int" "int" = some true by decide +kernel]
  have h2 : kIsTy ⟨0, false, .int i⟩ ⟨0, false, .ty "bool"⟩ = some (.bl false) := by
    show (match isaB "int" "bool" with | some r => some (T.bl r) | none => none) = _
    rw [show isaB "int" "bool" = some false by decide +kernel]
  simp only [m_is_integer, b_is_integer, mFun, initE, zeros]
  simp [v_op2, v_op1, v_idx, v_B, v_Tr, v_and, v_or, v_not, v_if, v_cons, v_tup, v_lst, v_opN, v_call, v_callI, v_seq, v_asg, v_fz, v_ret, v_expr, v_ifs, v_par, v_gseti, kt, kl, h1, h2]
theorem isint_non : m_is_integer [.non] = .ok (fz (.bl false)) [] := by
  have i1 : isaB "NoneType" "int" = some false := by decide +kernel
  have h1 : kIsTy ⟨0, false, .non⟩ ⟨0, false, .ty "int"⟩ = some (.bl false) := by
    show (match isaB "NoneType" "int" with | some r => some (T.bl r) | none => none) = _
    rw [i1]
  simp only [m_is_integer, b_is_integer, mFun, initE, zeros]
  simp [v_op2, v_op1, v_idx, v_B, v_Tr, v_and, v_or, v_not, v_if, v_cons, v_tup, v_lst, v_opN, v_call, v_callI, v_seq, v_asg, v_fz, v_ret, v_expr, v_ifs, v_par, v_gseti, kt, kl, h1]
theorem isint_bl (b : Bool) : m_is_integer [.bl b] = .ok (fz (.bl false)) [] := by
  have i1 : isaB "bool" "int" = some true := by decide +kernel
  have i2 : isaB "bool" "bool" = some true := by decide +kernel
  have h1 : kIsTy ⟨0, false, .bl b⟩ ⟨0, false, .ty "int"⟩ = some (.bl true) := by
    show (match isaB "bool" "int" with | some r => some (T.bl r) | none => none) = _
    rw [i1]
  have h2 : kIsTy ⟨0, false, .bl b⟩ ⟨0, false, .ty "bool"⟩ = some (.bl true) := by
    show (match isaB "bool" "bool" with | some r => some (T.bl r) | none => none) = _
    rw [i2]
  simp only [m_is_integer, b_is_integer, mFun, initE, zeros]
  simp [v_op2, v_op1, v_idx, v_B, v_Tr, v_and, v_or, v_not, v_if, v_cons, v_tup, v_lst, v_opN, v_call, v_callI, v_seq, v_asg, v_fz, v_ret, v_expr, v_ifs, v_par, v_gseti, kt, kl, h1, h2]
theorem within (x lo hi : Int) : m_is_within [.int x, .int lo, .int hi] = .ok (fz (.bl (decide (lo ≤ x) && decide (x ≤ hi)))) [] := by
  have hc : mChain true true gLe gLe (mVar 1) (mVar 0) (mVar 2) [some (0, .int x), some (0, .int lo), some (0, .int hi)] = .ok ⟨0, false, .bl (decide (lo ≤ x) && decide (x ≤ hi))⟩ [some (0, .int x), some (0, .int lo), some (0, .int hi)] :=
    v_chain (r1 := ⟨0, false, .int lo⟩) (r2 := ⟨0, false, .int x⟩) (r3 := ⟨0, false, .int hi⟩) rfl rfl rfl rfl rfl rfl rfl
  simp only [m_is_within, b_is_within, mFun, initE, zeros]
  simp [v_op2, v_op1, v_idx, v_B, v_Tr, v_and, v_or, v_not, v_if, v_cons, v_tup, v_lst, v_opN, v_call, v_callI, v_seq, v_asg, v_fz, v_ret, v_expr, v_ifs, v_par, v_gseti, kt, kl, isint, hc]
theorem within_not {t lo hi : T} (h : m_is_integer [t] = .ok (fz (.bl false)) []) : m_is_within [t, lo, hi] = .ok (fz (.bl false)) [] := by
  simp only [m_is_within, b_is_within, mFun, initE, zeros]
  simp [v_op2, v_op1, v_idx, v_B, v_Tr, v_and, v_or, v_not, v_if, v_cons, v_tup, v_lst, v_opN, v_call, v_callI, v_seq, v_asg, v_fz, v_ret, v_expr, v_ifs, v_par, v_gseti, kt, kl, h]
theorem v_min2 {d d' : Nat} {a a' : Bool} {x y : Int} : kMin2 ⟨d, a, .int x⟩ ⟨d', a', .int y⟩ = some (.int (if y < x then y else x)) := nr rfl
theorem v_raise {c : Str} {ρ : En} : mRaise0 c ρ = .ex (.exc c [] []) ρ := nr rfl
/-! ### numbers judged -/
def good4 (w1 w2 w3 w4 : Bool) : Out := if (w1 && w2 && w3 && w4) = true then .ok ⟨0, false, .non⟩ [] else .ex (.exc "NoNumber" [] []) []
theorem check_is {a b c d : T} {w1 w2 w3 w4 : Bool} (h1 : m_is_within [a, .int 1, .int 1000] = .ok (fz (.bl w1)) []) (h2 : w1 = true → m_is_within [b, .int 1, a] = .ok (fz (.bl w2)) []) (h3 : w1 = true → w2 = true → m_is_within [c, .int 1, .int 1000000] = .ok (fz (.bl w3)) [])
    (h4 : w1 = true → w2 = true → w3 = true → ∃ s : Int, b = .int s ∧ m_is_within [d, .int 1, .int (if 6 < s then 6 else s)] = .ok (fz (.bl w4)) []) : m_check_numbers [a, b, c, d] = good4 w1 w2 w3 w4 := by
  simp only [m_check_numbers, b_check_numbers, mFun, initE, zeros]
  cases w1
  · simp [v_op2, v_op1, v_idx, v_B, v_Tr, v_and, v_or, v_not, v_if, v_cons, v_tup, v_lst, v_opN, v_call, v_callI, v_seq, v_asg, v_fz, v_ret, v_expr, v_ifs, v_par, v_gseti, kt, kl, h1, v_raise, good4]
  · cases w2
    · have h2 := h2 rfl
      simp [v_op2, v_op1, v_idx, v_B, v_Tr, v_and, v_or, v_not, v_if, v_cons, v_tup, v_lst, v_opN, v_call, v_callI, v_seq, v_asg, v_fz, v_ret, v_expr, v_ifs, v_par, v_gseti, kt, kl, h1, h2, v_raise, good4]
    · cases w3
      · have h2 := h2 rfl
        have h3 := h3 rfl rfl
        simp [v_op2, v_op1, v_idx, v_B, v_Tr, v_and, v_or, v_not, v_if, v_cons, v_tup, v_lst, v_opN, v_call, v_callI, v_seq, v_asg, v_fz, v_ret, v_expr, v_ifs, v_par, v_gseti, kt, kl, h1, h2, h3, v_raise, good4]
      · have h2 := h2 rfl
        have h3 := h3 rfl rfl
        obtain ⟨s, rfl, h5⟩ := h4 rfl rfl rfl
        cases w4
        · simp [v_op2, v_op1, v_idx, v_B, v_Tr, v_and, v_or, v_not, v_if, v_cons, v_tup, v_lst, v_opN, v_call, v_callI, v_seq, v_asg, v_fz, v_ret, v_expr, v_ifs, v_par, v_gseti, kt, kl, h1, h2, h3, h5, v_min2, v_raise, good4]
        · simp [v_op2, v_op1, v_idx, v_B, v_Tr, v_and, v_or, v_not, v_if, v_cons, v_tup, v_lst, v_opN, v_call, v_callI, v_seq, v_asg, v_fz, v_ret, v_expr, v_ifs, v_par, v_gseti, kt, kl, h1, h2, h3, h5, v_min2, v_raise, good4]
theorem shares_ex {a b c d : T} (h : m_check_numbers [a, b, c, d] = .ex (.exc "NoNumber" [] []) []) : m_shares [a, b, c, d] = .ex (.exc "NoNumber" [] []) [] := by
  simp only [m_shares, b_shares, mFun, initE, zeros]
  simp [v_op2, v_op1, v_idx, v_B, v_Tr, v_and, v_or, v_not, v_if, v_cons, v_tup, v_lst, v_opN, v_call, v_callI, v_seq, v_asg, v_fz, v_ret, v_expr, v_ifs, v_par, v_gseti, kt, kl, h]
theorem shares_of {a b c d : T} {k : Nat} {t : T} (h : m_check_numbers [a, b, c, d] = .ok ⟨0, false, .non⟩ []) (h2 : m_shares_by [a, b, c, d] = .ok ⟨k, false, t⟩ []) : m_shares [a, b, c, d] = .ok ⟨k, false, t⟩ [] := by
  simp only [m_shares, b_shares, mFun, initE, zeros]
  simp [v_op2, v_op1, v_idx, v_B, v_Tr, v_and, v_or, v_not, v_if, v_cons, v_tup, v_lst, v_opN, v_call, v_callI, v_seq, v_asg, v_fz, v_ret, v_expr, v_ifs, v_par, v_gseti, kt, kl, h, h2]
theorem check_int (p s m t : Int) : m_check_numbers [.int p, .int s, .int m, .int t] = good4 (decide (1 ≤ p) && decide (p ≤ 1000)) (decide (1 ≤ s) && decide (s ≤ p)) (decide (1 ≤ m) && decide (m ≤ 1000000)) (decide (1 ≤ t) && decide (t ≤ if 6 < s then 6 else s)) :=
  check_is (within _ _ _) (fun _ => within _ _ _) (fun _ _ => within _ _ _) (fun _ _ _ => ⟨s, rfl, within _ _ _⟩)
/-! ### the shares -/
theorem foldR_inv {σ : Type} {f : σ → T → σ ⊕ Rz} (P : Nat → σ → Prop) (Q : Rz → Prop) : ∀ (ts : List T) (i : Nat) (s : σ), (∀ j t, ts[j]? = some t → ∀ s, P (i + j) s → match f s t with | .inl s' => P (i + j + 1) s' | .inr r => Q r) → P i s → match foldR f ts s with | .inl s' => P (i + ts.length) s' | .inr r => Q r
  | [], i, s, _, h => h
  | t :: ts, i, s, hh, h => by
    have h1 := hh 0 t rfl s h
    unfold foldR
    cases e : f s t with
    | inl s' =>
      rw [e] at h1
      have ih := foldR_inv P Q ts (i + 1) s' (fun j u hu s hs => by
        have := hh (j + 1) u (by simpa using hu) s (by rw [show i + (j + 1) = i + 1 + j by omega]; exact hs)
        rw [show i + (j + 1) + 1 = i + 1 + j + 1 by omega] at this
        exact this) h1
      rw [List.length_cons, show i + (ts.length + 1) = i + 1 + ts.length by omega]
      exact ih
    | inr r => rw [e] at h1; exact h1
theorem shr_props {p s t : Nat} {m : Int} (hp : p ≤ 40) (hs : s ≤ p) (ht : t ≤ s) (ht6 : t ≤ 6) (hm : 0 ≤ m) (hm2 : m ≤ 500) : match shr p s t m with
    | .inl l => l.length = t + 1 ∧ ∀ x ∈ l, 0 ≤ x ∧ x ≤ 5000000000
    | .inr r => r = fz .non := by
  have h := foldR_inv (f := stp p s t m) (fun i (l : List Int) => l.length = i ∧ ∀ x ∈ l, 0 ≤ x ∧ x ≤ 5000000000) (fun r => r = fz .non) (nl (t + 1)) 0 [] (fun j u hu l ⟨hl, hx⟩ => by
    obtain ⟨hj, eu⟩ := nl_get hu
    subst eu
    unfold stp
    simp only [Int.toNat_natCast]
    by_cases hz : top p t m j % bot s t j = 0
    · rw [if_pos hz]
      refine ⟨by rw [List.length_append, hl]; rfl, fun x hx' => ?_⟩
      rcases List.mem_append.mp hx' with hx' | hx'
      · exact hx x hx'
      · rw [List.mem_singleton.mp hx']
        have c1 := small6 (n := p - j) (k := t - j) (by omega) (by omega)
        have c2 := (posC (n := s - j) (k := t - j) (by omega) (by omega)).1
        have t1 : 0 ≤ top p t m j := Int.mul_nonneg hm (by omega)
        have t2 : top p t m j ≤ 5000000000 := by
          have : top p t m j ≤ 500 * 10000000 := Int.mul_le_mul hm2 (by omega) (by omega) (by omega)
          omega
        have b1 : 0 < bot s t j := by unfold bot; omega
        refine ⟨Int.ediv_nonneg t1 (by omega), ?_⟩
        exact Int.le_trans (Int.ediv_le_self _ t1) t2
    · rw [if_neg hz]) ⟨rfl, fun _ h => absurd h (by simp)⟩
  unfold shr
  generalize foldR (stp p s t m) (nl (t + 1)) [] = R at h ⊢
  cases R with
  | inl l =>
    rw [nl_len] at h
    exact ⟨by omega, h.2⟩
  | inr r => exact h
theorem shr_every {p s t : Nat} (hp : p ≤ 40) (hs : s ≤ p) (ht : t ≤ s) (ht6 : t ≤ 6) : ∃ l, shr p s t ((Cb (p - t) (s - t) : Nat) : Int) = .inl l ∧ l[0]? = some ((Cb p s : Nat) : Int) := by
  have h := foldR_inv (f := stp p s t ((Cb (p - t) (s - t) : Nat) : Int)) (fun i (l : List Int) => l = (List.range i).map fun j => ((Cb (p - j) (s - j) : Nat) : Int)) (fun _ => False) (nl (t + 1)) 0 [] (fun j u hu l e => by
    obtain ⟨hj, eu⟩ := nl_get hu
    subst eu
    unfold stp
    simp only [Int.toNat_natCast]
    obtain ⟨i1, i2⟩ := ident (n := p - j) (m := s - j) (j := t - j) (by omega) (by omega) (by omega) (by omega)
    rw [show p - j - (t - j) = p - t by omega, show s - j - (t - j) = s - t by omega] at i1
    have e1 : top p t ((Cb (p - t) (s - t) : Nat) : Int) j = ((Cb (p - j) (s - j) : Nat) : Int) * bot s t j := by
      unfold top bot
      rw [← Int.natCast_mul, ← Int.natCast_mul, i1]
    have b1 : bot s t j ≠ 0 := by unfold bot; omega
    rw [e1, if_pos (Int.mul_emod_left _ _), Int.mul_ediv_cancel _ b1, e, List.range_succ, List.map_append]
    simp) rfl
  unfold shr
  generalize foldR (stp p s t ((Cb (p - t) (s - t) : Nat) : Int)) (nl (t + 1)) [] = R at h ⊢
  cases R with
  | inl l =>
    rw [nl_len] at h
    refine ⟨l, rfl, ?_⟩
    rw [h]
    simp
  | inr r => exact h.elim
end Pk05
end
/- K05e -/
section
set_option Elab.async false
set_option linter.all false
set_option maxRecDepth 100000
set_option maxHeartbeats 4000000
namespace Pk05
open PySem Pb L2
theorem shT_cases {p s t : Nat} {m : Int} (hp : p ≤ 40) (hs : s ≤ p) (ht : t ≤ s) (ht6 : t ≤ 6) (hm : 0 ≤ m) (hm2 : m ≤ 500) : (∃ l, shr p s t m = .inl l ∧ shT p s t m = ⟨1, false, rowT l⟩ ∧ l.length = t + 1 ∧ ∀ x ∈ l, 0 ≤ x ∧ x ≤ 5000000000) ∨ (shr p s t m = .inr (fz .non) ∧ shT p s t m = ⟨0, false, .non⟩) := by
  have h := shr_props (m := m) hp hs ht ht6 hm hm2
  unfold shT
  cases e : shr p s t m with
  | inl l => rw [e] at h; exact .inl ⟨l, rfl, rfl, h.1, h.2⟩
  | inr r => rw [e] at h; exact .inr ⟨by rw [h], h⟩
theorem shares_ok {p s t : Nat} {m : Int} (hp : p ≤ 40) (hs : s ≤ p) (ht : t ≤ s) (ht6 : t ≤ 6) (h1 : 1 ≤ t) (hm : 1 ≤ m) (hm2 : m ≤ 1000000) (hsh : ∃ k t', shT p s t m = ⟨k, false, t'⟩) : m_shares [.int (p : Int), .int (s : Int), .int m, .int (t : Int)] = .ok (shT p s t m) [] := by
  have c := check_int (p : Int) (s : Int) m (t : Int)
  have e1 : decide ((1 : Int) ≤ (p : Int)) = true := decide_eq_true (by omega)
  have e2 : decide ((p : Int) ≤ 1000) = true := decide_eq_true (by omega)
  have e3 : decide ((1 : Int) ≤ (s : Int)) = true := decide_eq_true (by omega)
  have e4 : decide ((s : Int) ≤ (p : Int)) = true := decide_eq_true (by omega)
  have e5 : decide (1 ≤ m) = true := decide_eq_true (by omega)
  have e6 : decide (m ≤ 1000000) = true := decide_eq_true (by omega)
  have e7 : decide ((1 : Int) ≤ (t : Int)) = true := decide_eq_true (by omega)
  have e8 : decide ((t : Int) ≤ if (6 : Int) < (s : Int) then 6 else (s : Int)) = true := by
    refine decide_eq_true ?_
    split <;> omega
  rw [e1, e2, e3, e4, e5, e6, e7, e8] at c
  have b := shares_by_ok (m := m) hp hs ht ht6 (by omega) hm2
  obtain ⟨k, t', e⟩ := hsh
  rw [e] at b ⊢
  exact shares_of c b
/-! ### fisher -/
abbrev LF0 : S := mAsg (mFz (mIf (mB (mOp2 true gEq (mVar 1) (mC (.int 1)))) (mC (.int 1)) (mC (.int 2)))) (gSet 3)
abbrev LF1 : S := mAsg (mFz (mCall m__law_shares (mCons true (mVar 0) (mCons true (mVar 1) (mCons true (mVar 2) (mCons true (mVar 3) (mNil))))))) (gSet 4)
abbrev LF2 : S := mRet (mAnd (mOp2 true (gIs true) (mVar 4) (mC .non)) (mOr (mOp2 true gGe (mVar 1) (mVar 0)) (mOp2 true gGe (mIdx true (mVar 4) (mC (.int 0))) (mVar 0))))
theorem LF_is : b__law_fisher = mSeq (LF0) (mSeq (LF1) (LF2)) := rfl
def fv (p s : Nat) (m : Int) : Bool := match shr p s (min 2 s) m with
  | .inl l => decide (p ≤ s) || decide ((p : Int) ≤ l.headD 0)
  | .inr _ => false
theorem head_at {l : List Int} (h : 0 < l.length) : atI (l.map T.int) 0 = some (.int (l.headD 0)) := by
  cases l with
  | nil => cases h
  | cons x l =>
    have := atI_nat (ts := (x :: l).map T.int) (k := 0) (by simp)
    exact this
theorem is_row {d d' : Nat} {a a' : Bool} {l : List Int} : gIs true ⟨d, a, rowT l⟩ ⟨d', a', .non⟩ = some (fz (.bl true)) := nr rfl
theorem is_nonT {d d' : Nat} {a a' : Bool} : gIs true ⟨d, a, .non⟩ ⟨d', a', .non⟩ = some (fz (.bl false)) := nr rfl
theorem fisher_ok {p s : Nat} {m : Int} (hp : p ≤ 40) (hs : s ≤ p) (h1 : 1 ≤ s) (hm : 1 ≤ m) (hm2 : m ≤ 500) : m_is_fisher [.int (p : Int), .int (s : Int), .int m] = .ok (fz (.bl (fv p s m))) [] ∧ m__law_fisher [.int (p : Int), .int (s : Int), .int m] = .ok (fz (.bl (fv p s m))) [] := by
  have et : (if (s : Int) < 2 then (s : Int) else 2) = ((min 2 s : Nat) : Int) := by split <;> omega
  have et2 : (if (s : Int) = 1 then (1 : Int) else 2) = ((min 2 s : Nat) : Int) := by split <;> omega
  have hb := law_shares_ok (p := p) (s := s) (t := min 2 s) (m := m) hp hs (by omega) (by omega) (by omega) (by omega)
  have ge1 : decide ((s : Int) ≥ (p : Int)) = decide (p ≤ s) := by
    by_cases h : p ≤ s
    · rw [decide_eq_true h]; exact decide_eq_true (by omega)
    · rw [decide_eq_false h]; exact decide_eq_false (by omega)
  have c1 : ∀ {ρ : En} , mIf (mB (mOp2 true gEq (mVar 1) (mC (.int 1)))) (mC (.int 1)) (mC (.int 2)) [some (0, .int (p : Int)), some (0, .int (s : Int)), some (0, .int m), none, none] = .ok ⟨0, false, .int ((min 2 s : Nat) : Int)⟩ [some (0, .int (p : Int)), some (0, .int (s : Int)), some (0, .int m), none, none] := by
    intro _
    rw [← et2]
    by_cases h : s = 1
    · subst h; simp [v_op2, v_op1, v_idx, v_B, v_Tr, v_and, v_or, v_not, v_if, v_cons, v_tup, v_lst, v_opN, v_call, v_callI, v_seq, v_asg, v_fz, v_ret, v_expr, v_ifs, v_par, v_gseti, kt, kl]
    · have : ¬ (s : Int) = 1 := by omega
      simp [v_op2, v_op1, v_idx, v_B, v_Tr, v_and, v_or, v_not, v_if, v_cons, v_tup, v_lst, v_opN, v_call, v_callI, v_seq, v_asg, v_fz, v_ret, v_expr, v_ifs, v_par, v_gseti, kt, kl, this]
  have c2 : LF0 [some (0, .int (p : Int)), some (0, .int (s : Int)), some (0, .int m), none, none] = .nx [some (0, .int (p : Int)), some (0, .int (s : Int)), some (0, .int m), some (0, .int ((min 2 s : Nat) : Int)), none] := by
    simp only [LF0]
    rw [v_asg, v_fz, c1 (ρ := [])]
    simp [v_op2, v_op1, v_idx, v_B, v_Tr, v_and, v_or, v_not, v_if, v_cons, v_tup, v_lst, v_opN, v_call, v_callI, v_seq, v_asg, v_fz, v_ret, v_expr, v_ifs, v_par, v_gseti, kt, kl]
  have eb : ∀ b : S, mFun 5 b [.int (p : Int), .int (s : Int), .int m] = (b [some (0, .int (p : Int)), some (0, .int (s : Int)), some (0, .int m), none, none]).out (fun _ => []) := fun b => rfl
  rcases shT_cases (p := p) (s := s) (t := min 2 s) (m := m) hp hs (by omega) (by omega) (by omega) hm2 with ⟨l, q1, q2, q3, q4⟩ | ⟨q1, q2⟩
  · have ha := shares_ok (p := p) (s := s) (t := min 2 s) (m := m) hp hs (by omega) (by omega) (by omega) hm (by omega) ⟨_, _, q2⟩
    rw [q2] at ha hb
    have hh := head_at (l := l) (by omega)
    have ef : fv p s m = (decide (p ≤ s) || decide ((p : Int) ≤ l.headD 0)) := by unfold fv; rw [q1]
    rw [ef]
    constructor
    · simp only [m_is_fisher, b_is_fisher, mFun, initE, zeros]
      by_cases h : p ≤ s
      · have h' : (p : Int) ≤ (s : Int) := by omega
        simp [v_op2, v_op1, v_idx, v_B, v_Tr, v_and, v_or, v_not, v_if, v_cons, v_tup, v_lst, v_opN, v_call, v_callI, v_seq, v_asg, v_fz, v_ret, v_expr, v_ifs, v_par, v_gseti, kt, kl, v_min2, et, ha, is_row, h, h']
      · have h' : ¬ (p : Int) ≤ (s : Int) := by omega
        simp [v_op2, v_op1, v_idx, v_B, v_Tr, v_and, v_or, v_not, v_if, v_cons, v_tup, v_lst, v_opN, v_call, v_callI, v_seq, v_asg, v_fz, v_ret, v_expr, v_ifs, v_par, v_gseti, kt, kl, v_min2, et, ha, is_row, h, h', hh]
    · rw [show m__law_fisher = mFun 5 b__law_fisher from rfl, eb, LF_is, v_seq, c2, v_sbind_nx]
      simp only [LF1, LF2]
      by_cases h : p ≤ s
      · have h' : (p : Int) ≤ (s : Int) := by omega
        simp [v_op2, v_op1, v_idx, v_B, v_Tr, v_and, v_or, v_not, v_if, v_cons, v_tup, v_lst, v_opN, v_call, v_callI, v_seq, v_asg, v_fz, v_ret, v_expr, v_ifs, v_par, v_gseti, kt, kl, hb, is_row, h, h']
      · have h' : ¬ (p : Int) ≤ (s : Int) := by omega
        simp [v_op2, v_op1, v_idx, v_B, v_Tr, v_and, v_or, v_not, v_if, v_cons, v_tup, v_lst, v_opN, v_call, v_callI, v_seq, v_asg, v_fz, v_ret, v_expr, v_ifs, v_par, v_gseti, kt, kl, hb, is_row, h, h', hh]
  · have ha := shares_ok (p := p) (s := s) (t := min 2 s) (m := m) hp hs (by omega) (by omega) (by omega) hm (by omega) ⟨_, _, q2⟩
    rw [q2] at ha hb
    have ef : fv p s m = false := by unfold fv; rw [q1]
    rw [ef]
    constructor
    · simp only [m_is_fisher, b_is_fisher, mFun, initE, zeros]
      simp [v_op2, v_op1, v_idx, v_B, v_Tr, v_and, v_or, v_not, v_if, v_cons, v_tup, v_lst, v_opN, v_call, v_callI, v_seq, v_asg, v_fz, v_ret, v_expr, v_ifs, v_par, v_gseti, kt, kl, v_min2, et, ha, is_nonT]
    · rw [show m__law_fisher = mFun 5 b__law_fisher from rfl, eb, LF_is, v_seq, c2, v_sbind_nx]
      simp only [LF1, LF2]
      simp [v_op2, v_op1, v_idx, v_B, v_Tr, v_and, v_or, v_not, v_if, v_cons, v_tup, v_lst, v_opN, v_call, v_callI, v_seq, v_asg, v_fz, v_ret, v_expr, v_ifs, v_par, v_gseti, kt, kl, hb, is_nonT]
theorem square_ok {p s : Nat} {m : Int} (hp : p ≤ 40) (hs : s ≤ p) (h1 : 1 ≤ s) (hm : 1 ≤ m) (hm2 : m ≤ 500) : m_is_square_family [.int (p : Int), .int (s : Int), .int m] = .ok (fz (.bl (decide (m * ((p : Int) - 1) = (s : Int) * ((s : Int) - 1))))) [] := by
  have et : (if (s : Int) < 2 then (s : Int) else 2) = ((min 2 s : Nat) : Int) := by split <;> omega
  have c := check_int (p : Int) (s : Int) m ((min 2 s : Nat) : Int)
  have e1 : decide ((1 : Int) ≤ (p : Int)) = true := decide_eq_true (by omega)
  have e2 : decide ((p : Int) ≤ 1000) = true := decide_eq_true (by omega)
  have e3 : decide ((1 : Int) ≤ (s : Int)) = true := decide_eq_true (by omega)
  have e4 : decide ((s : Int) ≤ (p : Int)) = true := decide_eq_true (by omega)
  have e5 : decide (1 ≤ m) = true := decide_eq_true (by omega)
  have e6 : decide (m ≤ 1000000) = true := decide_eq_true (by omega)
  have e7 : decide ((1 : Int) ≤ ((min 2 s : Nat) : Int)) = true := decide_eq_true (by omega)
  have e8 : decide (((min 2 s : Nat) : Int) ≤ if (6 : Int) < (s : Int) then 6 else (s : Int)) = true := by
    refine decide_eq_true ?_
    split <;> omega
  rw [e1, e2, e3, e4, e5, e6, e7, e8] at c
  have c' : m_check_numbers [.int (p : Int), .int (s : Int), .int m, .int ((min 2 s : Nat) : Int)] = .ok ⟨0, false, .non⟩ [] := c
  have m1 : mulOk m ((p : Int) - 1) = true := v_mul_l (by omega) (by omega)
  have m2 : mulOk (s : Int) ((s : Int) - 1) = true := v_mul_l (by omega) (by omega)
  simp only [m_is_square_family, b_is_square_family, mFun, initE, zeros]
  simp [v_op2, v_op1, v_idx, v_B, v_Tr, v_and, v_or, v_not, v_if, v_cons, v_tup, v_lst, v_opN, v_call, v_callI, v_seq, v_asg, v_fz, v_ret, v_expr, v_ifs, v_par, v_gseti, kt, kl, v_min2, et, c', v_omul, m1, m2]
/-! ### rows -/
theorem dif_small {l : List Int} {B : Int} (h : ∀ x ∈ l, -B ≤ x ∧ x ≤ B) : ∀ x ∈ dif l, -(2 * B) ≤ x ∧ x ≤ 2 * B := by
  intro x hx
  unfold dif at hx
  obtain ⟨i, hi⟩ := List.getElem?_of_mem hx
  rw [List.getElem?_zipWith] at hi
  cases e1 : l[i]? with
  | none => rw [e1] at hi; simp at hi
  | some a =>
    cases e2 : l.tail[i]? with
    | none => rw [e1, e2] at hi; simp at hi
    | some b =>
      rw [e1, e2] at hi
      have e : a - b = x := by simpa using hi
      have ha := h a (List.mem_of_getElem? e1)
      have hb := h b (List.mem_of_mem_tail (List.mem_of_getElem? e2))
      omega
theorem rws_small : ∀ (k : Nat) (l : List Int) (B : Int), 0 ≤ B → (∀ x ∈ l, -B ≤ x ∧ x ≤ B) → l.length ≤ 10 → (∀ r ∈ rws k l, (∀ x ∈ r, -(2 ^ (l.length) * B) ≤ x ∧ x ≤ 2 ^ (l.length) * B) ∧ r.length ≤ 10) ∧ (rws k l).length ≤ k + 1
  | 0, l, B, hB, h, hl => by
    have hp : (1 : Int) ≤ 2 ^ l.length := by
      have := Nat.one_le_two_pow (n := l.length)
      exact_mod_cast this
    have hm : B ≤ 2 ^ l.length * B := by
      have := Int.mul_le_mul_of_nonneg_right hp hB
      omega
    refine ⟨fun r hr => ?_, by simp [rws]⟩
    have e : r = l := by simpa [rws] using hr
    subst e
    exact ⟨fun x hx => by have := h x hx; omega, hl⟩
  | k + 1, l, B, hB, h, hl => by
    have hp : (1 : Int) ≤ 2 ^ l.length := by
      have := Nat.one_le_two_pow (n := l.length)
      exact_mod_cast this
    have hm : B ≤ 2 ^ l.length * B := by
      have := Int.mul_le_mul_of_nonneg_right hp hB
      omega
    unfold rws
    by_cases h1 : 1 < l.length
    · rw [if_pos h1]
      obtain ⟨i1, i2⟩ := rws_small k (dif l) (2 * B) (by omega) (dif_small h) (by rw [dif_len]; omega)
      refine ⟨fun r hr => ?_, by simp; omega⟩
      rcases List.mem_cons.mp hr with e | hr
      · subst e
        exact ⟨fun x hx => by have := h x hx; omega, hl⟩
      · obtain ⟨j1, j2⟩ := i1 r hr
        refine ⟨fun x hx => ?_, j2⟩
        have := j1 x hx
        rw [dif_len] at this
        have e : (2 : Int) ^ l.length * B = 2 ^ (l.length - 1) * (2 * B) := by
          obtain ⟨n, hn⟩ : ∃ n, l.length = n + 1 := ⟨l.length - 1, by omega⟩
          rw [hn, Nat.add_sub_cancel, Int.pow_succ, Int.mul_assoc]
        rw [e]
        exact this
    · rw [if_neg h1]
      refine ⟨fun r hr => ?_, by simp⟩
      have e : r = l := by simpa using hr
      subst e
      exact ⟨fun x hx => by have := h x hx; omega, hl⟩
theorem rs_of_rows {l : List Int} (h : ∀ x ∈ l, 0 ≤ x ∧ x ≤ 5000000000) (hl : l.length ≤ 7) : RS (rowT l) ∧ RS (rowsT (rws 9 l)) := by
  constructor
  · refine rs_ints (fun x hx => ?_) (by omega)
    have := h x hx
    omega
  · obtain ⟨i1, i2⟩ := rws_small 9 l 5000000000 (by omega) (fun x hx => by have := h x hx; omega) (by omega)
    refine rs_rows (fun r hr => ⟨fun x hx => ?_, by have := (i1 r hr).2; omega⟩) (by omega)
    have hb := (i1 r hr).1 x hx
    have h7 : (2 : Int) ^ l.length ≤ 128 := by
      have : 2 ^ l.length ≤ 2 ^ 7 := Nat.pow_le_pow_right (by omega) hl
      exact_mod_cast this
    have h8 : (2 : Int) ^ l.length * 5000000000 ≤ 128 * 5000000000 := Int.mul_le_mul_of_nonneg_right h7 (by omega)
    omega
end Pk05
end
/- K05y -/
section
set_option Elab.async false
set_option linter.all false
set_option maxRecDepth 100000
set_option maxHeartbeats 4000000
namespace Pk05
open PySem Pb L2
abbrev Z0 : S := mAsg (mCall m__law_hand (mCons true (mVar 0) (mNil))) (gSet 1)
abbrev Z1b0 : S := mAsg (mFz (mOp2 false oAdd (mC (.int 1)) (mCallI 1 1 m__law_draw (mCons true (mC (.int 40)) (mNil))))) (gSet 3)
abbrev Z1b1 : S := mAsg (mFz (mOp2 false oAdd (mC (.int 1)) (mCallI 1 1 m__law_draw (mCons true (mVar 3) (mNil))))) (gSet 4)
abbrev Z1b2 : S := mPar (mCons false (mOp2 false oAdd (mC (.int 1)) (mCallI 1 1 m__law_draw (mCons true (mCallI 1 1 m__law_any (mCons true (mLst (mCons true (mC (.int 3)) (mCons true (mC (.int 12)) (mCons true (mC (.int 500)) (mNil))))) (mNil))) (mNil)))) (mCons true (mOp2 false oAdd (mC (.int 1)) (mCallI 1 1 m__law_draw (mCons true (mOpN (g2 kMin2) (mCons true (mC (.int 6)) (mCons true (mVar 4) (mNil)))) (mNil)))) (mNil))) (gsCons (gSet 5) (gsCons (gSet 6) (gsNil)))
abbrev Z1b3 : S := mAsg (mFz (mCall m__law_shares (mCons true (mVar 3) (mCons true (mVar 4) (mCons true (mVar 5) (mCons true (mVar 6) (mNil))))))) (gSet 7)
abbrev Z1b4 : S := mIfS (mB (mOp2 true gNe (mOpN (g1 kRepr) (mCons true (mCall m_shares (mCons true (mVar 3) (mCons true (mVar 4) (mCons true (mVar 5) (mCons true (mVar 6) (mNil)))))) (mNil))) (mOpN (g1 kRepr) (mCons true (mVar 7) (mNil)))))
  (mRet (mC (.bl false)))
  (mSkip)
abbrev Z1b5 : S := mAsg (mFz (mIf (mB (mOp2 true (gIs false) (mVar 7) (mC .non))) (mC .non) (mCall m__law_differences (mCons true (mVar 7) (mNil))))) (gSet 8)
abbrev Z1b6 : S := mIfS (mB (mOp2 true gNe (mOpN (g1 kRepr) (mCons true (mCall m_outside_counts (mCons true (mVar 3) (mCons true (mVar 4) (mCons true (mVar 5) (mCons true (mVar 6) (mNil)))))) (mNil))) (mOpN (g1 kRepr) (mCons true (mVar 8) (mNil)))))
  (mRet (mC (.bl false)))
  (mSkip)
abbrev Z1b7 : S := mIfS (mB (mOp2 true gNe (mOpN (g1 kRepr) (mCons true (mCall m_is_fisher (mCons true (mVar 3) (mCons true (mVar 4) (mCons true (mVar 5) (mNil))))) (mNil))) (mOpN (g1 kRepr) (mCons true (mCall m__law_fisher (mCons true (mVar 3) (mCons true (mVar 4) (mCons true (mVar 5) (mNil))))) (mNil)))))
  (mRet (mC (.bl false)))
  (mSkip)
abbrev Z1b8 : S := mIfS (mB (mOp2 true gNe (mOpN (g1 kRepr) (mCons true (mCall m_is_square_family (mCons true (mVar 3) (mCons true (mVar 4) (mCons true (mVar 5) (mNil))))) (mNil))) (mOpN (g1 kRepr) (mCons true (mOp2 true gEq (mOp2 true oMul (mVar 5) (mOp2 true gSub (mVar 3) (mC (.int 1)))) (mOp2 true oMul (mVar 4) (mOp2 true gSub (mVar 4) (mC (.int 1))))) (mNil)))))
  (mRet (mC (.bl false)))
  (mSkip)
abbrev Z1b9 : S := mAsg (mFz (mCall m__law_over (mCons true (mOp2 true gSub (mVar 3) (mVar 6)) (mCons true (mOp2 true gSub (mVar 4) (mVar 6)) (mNil))))) (gSet 9)
abbrev Z1b10 : S := mIfS (mAnd (mB (mOp2 true gLe (mVar 9) (mOp2 true gPow (mC (.int 10)) (mC (.int 6))))) (mB (mOp2 true gNe (mIdx true (mCall m_shares (mCons true (mVar 3) (mCons true (mVar 4) (mCons true (mVar 9) (mCons true (mVar 6) (mNil)))))) (mC (.int 0))) (mCall m__law_over (mCons true (mVar 3) (mCons true (mVar 4) (mNil)))))))
  (mRet (mC (.bl false)))
  (mSkip)
abbrev Z1b11 : S := mAsg (mFz (mCallI 1 1 m__law_any (mCons true (mLst (mCons true (mTup (mCons true (mC (.int 0)) (mCons true (mVar 4) (mCons true (mVar 5) (mCons true (mVar 6) (mNil)))))) (mCons true (mTup (mCons true (mVar 3) (mCons true (mOp2 true oAdd (mVar 3) (mC (.int 1))) (mCons true (mVar 5) (mCons true (mVar 6) (mNil)))))) (mCons true (mTup (mCons true (mVar 3) (mCons true (mVar 4) (mCons true (mC (.int 0)) (mCons true (mVar 6) (mNil)))))) (mNil))))) (mNil)))) (gSet 10)
abbrev Z1b12 : S := mAsg (mFz (mCallI 1 1 m__law_any (mCons true (mLst (mCons true (mVar 10) (mCons true (mTup (mCons true (mVar 3) (mCons true (mVar 4) (mCons true (mVar 5) (mCons true (mC (.int 0)) (mNil)))))) (mCons true (mTup (mCons true (mVar 3) (mCons true (mVar 4) (mCons true (mVar 5) (mCons true (mOp2 true oAdd (mOpN (g2 kMin2) (mCons true (mC (.int 6)) (mCons true (mVar 4) (mNil)))) (mC (.int 1))) (mNil)))))) (mCons true (mTup (mCons true (mC (.int 1001)) (mCons true (mC (.int 3)) (mCons true (mC (.int 1)) (mCons true (mC (.int 2)) (mNil)))))) (mNil)))))) (mNil)))) (gSet 10)
abbrev Z1b13 : S := mAsg (mFz (mCallI 1 1 m__law_any (mCons true (mLst (mCons true (mVar 10) (mCons true (mVar 10) (mCons true (mTup (mCons true (mC (.bl true)) (mCons true (mC (.int 1)) (mCons true (mC (.int 1)) (mCons true (mC (.int 1)) (mNil)))))) (mCons true (mTup (mCons true (mVar 3) (mCons true (mC .non) (mCons true (mVar 5) (mCons true (mVar 6) (mNil)))))) (mCons true (mTup (mCons true (mVar 3) (mCons true (mVar 4) (mCons true (mOp2 true oAdd (mOp2 true gPow (mC (.int 10)) (mC (.int 6))) (mC (.int 1))) (mCons true (mVar 6) (mNil)))))) (mNil))))))) (mNil)))) (gSet 10)
abbrev Z1b14 : S := mIfS (mNot (mTr (mLam h__law_is_refused (mCall m_shares (mCons true (mIdx true (mVar 10) (mC (.int 0))) (mCons true (mIdx true (mVar 10) (mC (.int 1))) (mCons true (mIdx true (mVar 10) (mC (.int 2))) (mCons true (mIdx true (mVar 10) (mC (.int 3))) (mNil)))))))))
  (mRet (mC (.bl false)))
  (mSkip)
abbrev Z1b15 : S := mIfS (mNot (mTr (mLam h__law_is_refused (mCall m_outside_counts (mCons true (mIdx true (mVar 10) (mC (.int 0))) (mCons true (mIdx true (mVar 10) (mC (.int 1))) (mCons true (mIdx true (mVar 10) (mC (.int 2))) (mCons true (mIdx true (mVar 10) (mC (.int 3))) (mNil)))))))))
  (mRet (mC (.bl false)))
  (mSkip)
abbrev Z1 : S := mFor (mRng1 (mCons true (mC (.int 8)) (mNil))) (gSet 2) (mSeq (Z1b0) (mSeq (Z1b1) (mSeq (Z1b2) (mSeq (Z1b3) (mSeq (Z1b4) (mSeq (Z1b5) (mSeq (Z1b6) (mSeq (Z1b7) (mSeq (Z1b8) (mSeq (Z1b9) (mSeq (Z1b10) (mSeq (Z1b11) (mSeq (Z1b12) (mSeq (Z1b13) (mSeq (Z1b14) (Z1b15))))))))))))))))
abbrev Z2 : S := mRet (mCallI 1 1 m__law_family_right (mNil))
theorem Z_is : b_law = mSeq (Z0) (mSeq (Z1) (Z2)) := rfl
abbrev ev (s H : T) (x2 x3 x4 x5 x6 x7 x8 x9 x10 : Sl) : En := [some (0, s), some (1, H), x2, x3, x4, x5, x6, x7, x8, x9, x10]
theorem help_refused : h__law_is_refused (.inr (.exc "NoNumber" [] [])) = some (fz (.bl true)) := by rfl
theorem refused {m : M} {ρ ρ1 : En} (h : m ρ = .ex (.exc "NoNumber" [] []) ρ1) : mLam h__law_is_refused m ρ = .ok ⟨0, false, .bl true⟩ ρ1 := by
  unfold mLam
  rw [h]
  show (match h__law_is_refused (.inr (.exc "NoNumber" [] [])) with
    | some r' => Out.ok ⟨r'.d, false, r'.t⟩ ρ1
    | none => .no) = _
  rw [help_refused]
section
variable {s H H1 H2 H3 : T} {x2 x3 x4 x5 x6 x7 x8 x9 x10 : Sl} {d e f P Q M N E : Int} {D R : T}
abbrev dr (H : T) (many d : Int) (H1 : T) : Prop := m__law_draw [H, .int many] = .ok (fz (.int d)) [some (1, H1)]
abbrev an (H : T) (ts : List T) (t : T) (H1 : T) : Prop := m__law_any [H, .lst ts] = .ok (fz t) [some (1, H1)]
theorem st0 (h1 : dr H 40 d H1) (e : 1 + d = P) : Z1b0 (ev s H x2 x3 x4 x5 x6 x7 x8 x9 x10) = .nx (ev s H1 x2 (some (0, .int P)) x4 x5 x6 x7 x8 x9 x10) := by
  subst e
  simp only [Z1b0, ev]
  simp [v_op2, v_op1, v_idx, v_B, v_Tr, v_and, v_or, v_not, v_if, v_cons, v_tup, v_lst, v_opN, v_call, v_callI, v_seq, v_asg, v_fz, v_ret, v_expr, v_ifs, v_par, v_gseti, kt, kl, h1]
theorem st1 (h1 : dr H P d H1) (e : 1 + d = Q) : Z1b1 (ev s H x2 (some (0, .int P)) x4 x5 x6 x7 x8 x9 x10) = .nx (ev s H1 x2 (some (0, .int P)) (some (0, .int Q)) x5 x6 x7 x8 x9 x10) := by
  subst e
  simp only [Z1b1, ev]
  simp [v_op2, v_op1, v_idx, v_B, v_Tr, v_and, v_or, v_not, v_if, v_cons, v_tup, v_lst, v_opN, v_call, v_callI, v_seq, v_asg, v_fz, v_ret, v_expr, v_ifs, v_par, v_gseti, kt, kl, h1]
theorem st2 {k m6 : Int} (h1 : an H [.int 3, .int 12, .int 500] (.int k) H1) (h2 : dr H1 k d H2) (h3 : dr H2 m6 e H3) (hm : (if Q < 6 then Q else 6) = m6) (e1 : 1 + d = M) (e2 : 1 + e = N) : Z1b2 (ev s H x2 (some (0, .int P)) (some (0, .int Q)) x5 x6 x7 x8 x9 x10) = .nx (ev s H3 x2 (some (0, .int P)) (some (0, .int Q)) (some (0, .int M)) (some (0, .int N)) x7 x8 x9 x10) := by
  subst e1 e2 hm
  have z3 : (3 : Nat) ≤ sizeLine := by decide
  simp only [Z1b2, ev]
  simp [v_op2, v_op1, v_idx, v_B, v_Tr, v_and, v_or, v_not, v_if, v_cons, v_tup, v_lst, v_opN, v_call, v_callI, v_seq, v_asg, v_fz, v_ret, v_expr, v_ifs, v_par, v_gseti, kt, kl, h1, h2, h3, v_min2, z3]
theorem st3 {k : Nat} (h : m__law_shares [.int P, .int Q, .int M, .int N] = .ok ⟨k, false, D⟩ []) : Z1b3 (ev s H x2 (some (0, .int P)) (some (0, .int Q)) (some (0, .int M)) (some (0, .int N)) x7 x8 x9 x10) = .nx (ev s H x2 (some (0, .int P)) (some (0, .int Q)) (some (0, .int M)) (some (0, .int N)) (some (0, D)) x8 x9 x10) := by
  simp only [Z1b3, ev]
  simp [v_op2, v_op1, v_idx, v_B, v_Tr, v_and, v_or, v_not, v_if, v_cons, v_tup, v_lst, v_opN, v_call, v_callI, v_seq, v_asg, v_fz, v_ret, v_expr, v_ifs, v_par, v_gseti, kt, kl, h]
theorem st4 {k : Nat} (h : m_shares [.int P, .int Q, .int M, .int N] = .ok ⟨k, false, D⟩ []) (hr : RS D) : Z1b4 (ev s H x2 (some (0, .int P)) (some (0, .int Q)) (some (0, .int M)) (some (0, .int N)) (some (0, D)) x8 x9 x10) = .nx (ev s H x2 (some (0, .int P)) (some (0, .int Q)) (some (0, .int M)) (some (0, .int N)) (some (0, D)) x8 x9 x10) := by
  obtain ⟨S, q1, q2⟩ := hr
  simp only [Z1b4, ev]
  simp [v_op2, v_op1, v_idx, v_B, v_Tr, v_and, v_or, v_not, v_if, v_cons, v_tup, v_lst, v_opN, v_call, v_callI, v_seq, v_asg, v_fz, v_ret, v_expr, v_ifs, v_par, v_gseti, kt, kl, h, q1, ne_same q2]
theorem st5 {k : Nat} (h : (gIs false ⟨0, false, D⟩ ⟨0, false, .non⟩ = some (fz (.bl true)) ∧ R = .non) ∨ (gIs false ⟨0, false, D⟩ ⟨0, false, .non⟩ = some (fz (.bl false)) ∧ m__law_differences [D] = .ok ⟨k, false, R⟩ [])) : Z1b5 (ev s H x2 x3 x4 x5 x6 (some (0, D)) x8 x9 x10) = .nx (ev s H x2 x3 x4 x5 x6 (some (0, D)) (some (0, R)) x9 x10) := by
  simp only [Z1b5, ev]
  rcases h with ⟨h, rfl⟩ | ⟨h, h2⟩
  · simp [v_op2, v_op1, v_idx, v_B, v_Tr, v_and, v_or, v_not, v_if, v_cons, v_tup, v_lst, v_opN, v_call, v_callI, v_seq, v_asg, v_fz, v_ret, v_expr, v_ifs, v_par, v_gseti, kt, kl, h]
  · simp [v_op2, v_op1, v_idx, v_B, v_Tr, v_and, v_or, v_not, v_if, v_cons, v_tup, v_lst, v_opN, v_call, v_callI, v_seq, v_asg, v_fz, v_ret, v_expr, v_ifs, v_par, v_gseti, kt, kl, h, h2]
theorem st6 {k : Nat} (h : m_outside_counts [.int P, .int Q, .int M, .int N] = .ok ⟨k, false, R⟩ []) (hr : RS R) : Z1b6 (ev s H x2 (some (0, .int P)) (some (0, .int Q)) (some (0, .int M)) (some (0, .int N)) x7 (some (0, R)) x9 x10) = .nx (ev s H x2 (some (0, .int P)) (some (0, .int Q)) (some (0, .int M)) (some (0, .int N)) x7 (some (0, R)) x9 x10) := by
  obtain ⟨S, q1, q2⟩ := hr
  simp only [Z1b6, ev]
  simp [v_op2, v_op1, v_idx, v_B, v_Tr, v_and, v_or, v_not, v_if, v_cons, v_tup, v_lst, v_opN, v_call, v_callI, v_seq, v_asg, v_fz, v_ret, v_expr, v_ifs, v_par, v_gseti, kt, kl, h, q1, ne_same q2]
theorem st7 {b : Bool} (h1 : m_is_fisher [.int P, .int Q, .int M] = .ok (fz (.bl b)) []) (h2 : m__law_fisher [.int P, .int Q, .int M] = .ok (fz (.bl b)) []) : Z1b7 (ev s H x2 (some (0, .int P)) (some (0, .int Q)) (some (0, .int M)) x6 x7 x8 x9 x10) = .nx (ev s H x2 (some (0, .int P)) (some (0, .int Q)) (some (0, .int M)) x6 x7 x8 x9 x10) := by
  obtain ⟨S, q1, q2⟩ := rs_bl b
  simp only [Z1b7, ev]
  simp [v_op2, v_op1, v_idx, v_B, v_Tr, v_and, v_or, v_not, v_if, v_cons, v_tup, v_lst, v_opN, v_call, v_callI, v_seq, v_asg, v_fz, v_ret, v_expr, v_ifs, v_par, v_gseti, kt, kl, h1, h2, q1, ne_same q2]
theorem st8 (h1 : m_is_square_family [.int P, .int Q, .int M] = .ok (fz (.bl (decide (M * (P - 1) = Q * (Q - 1))))) []) (m1 : mulOk M (P - 1) = true) (m2 : mulOk Q (Q - 1) = true) : Z1b8 (ev s H x2 (some (0, .int P)) (some (0, .int Q)) (some (0, .int M)) x6 x7 x8 x9 x10) = .nx (ev s H x2 (some (0, .int P)) (some (0, .int Q)) (some (0, .int M)) x6 x7 x8 x9 x10) := by
  obtain ⟨S, q1, q2⟩ := rs_bl (decide (M * (P - 1) = Q * (Q - 1)))
  simp only [Z1b8, ev]
  simp [v_op2, v_op1, v_idx, v_B, v_Tr, v_and, v_or, v_not, v_if, v_cons, v_tup, v_lst, v_opN, v_call, v_callI, v_seq, v_asg, v_fz, v_ret, v_expr, v_ifs, v_par, v_gseti, kt, kl, h1, v_omul, m1, m2, q1, ne_same q2]
theorem st9 (h : m__law_over [.int (P - N), .int (Q - N)] = .ok (fz (.int E)) []) : Z1b9 (ev s H x2 (some (0, .int P)) (some (0, .int Q)) x5 (some (0, .int N)) x7 x8 x9 x10) = .nx (ev s H x2 (some (0, .int P)) (some (0, .int Q)) x5 (some (0, .int N)) x7 x8 (some (0, .int E)) x10) := by
  simp only [Z1b9, ev]
  simp [v_op2, v_op1, v_idx, v_B, v_Tr, v_and, v_or, v_not, v_if, v_cons, v_tup, v_lst, v_opN, v_call, v_callI, v_seq, v_asg, v_fz, v_ret, v_expr, v_ifs, v_par, v_gseti, kt, kl, h]
theorem st10 {k : Nat} {l : List Int} {C : Int} (h : E ≤ 1000000 → m_shares [.int P, .int Q, .int E, .int N] = .ok ⟨1, false, rowT l⟩ []) (hl : atI (l.map T.int) 0 = some (.int C)) (h2 : m__law_over [.int P, .int Q] = .ok (fz (.int C)) []) : Z1b10 (ev s H x2 (some (0, .int P)) (some (0, .int Q)) x5 (some (0, .int N)) x7 x8 (some (0, .int E)) x10) = .nx (ev s H x2 (some (0, .int P)) (some (0, .int Q)) x5 (some (0, .int N)) x7 x8 (some (0, .int E)) x10) := by
  simp only [Z1b10, ev]
  by_cases he : E ≤ 1000000
  · simp [v_op2, v_op1, v_idx, v_B, v_Tr, v_and, v_or, v_not, v_if, v_cons, v_tup, v_lst, v_opN, v_call, v_callI, v_seq, v_asg, v_fz, v_ret, v_expr, v_ifs, v_par, v_gseti, kt, kl, he, h he, hl, h2]
  · simp [v_op2, v_op1, v_idx, v_B, v_Tr, v_and, v_or, v_not, v_if, v_cons, v_tup, v_lst, v_opN, v_call, v_callI, v_seq, v_asg, v_fz, v_ret, v_expr, v_ifs, v_par, v_gseti, kt, kl, he]
abbrev tup4 (a b c d : T) : T := .tup [a, b, c, d]
theorem st11 {B : T} (h : an H [tup4 (.int 0) (.int Q) (.int M) (.int N), tup4 (.int P) (.int (P + 1)) (.int M) (.int N), tup4 (.int P) (.int Q) (.int 0) (.int N)] B H1) : Z1b11 (ev s H x2 (some (0, .int P)) (some (0, .int Q)) (some (0, .int M)) (some (0, .int N)) x7 x8 x9 x10) = .nx (ev s H1 x2 (some (0, .int P)) (some (0, .int Q)) (some (0, .int M)) (some (0, .int N)) x7 x8 x9 (some (0, B))) := by
  have z3 : (3 : Nat) ≤ sizeLine := by decide
  have z4 : (4 : Nat) ≤ sizeLine := by decide
  simp only [Z1b11, ev]
  simp [v_op2, v_op1, v_idx, v_B, v_Tr, v_and, v_or, v_not, v_if, v_cons, v_tup, v_lst, v_opN, v_call, v_callI, v_seq, v_asg, v_fz, v_ret, v_expr, v_ifs, v_par, v_gseti, kt, kl, h, z3, z4]
theorem st12 {B C : T} {m6 : Int} (hm : (if Q < 6 then Q else 6) = m6) (h : an H [B, tup4 (.int P) (.int Q) (.int M) (.int 0), tup4 (.int P) (.int Q) (.int M) (.int (m6 + 1)), tup4 (.int 1001) (.int 3) (.int 1) (.int 2)] C H1) : Z1b12 (ev s H x2 (some (0, .int P)) (some (0, .int Q)) (some (0, .int M)) (some (0, .int N)) x7 x8 x9 (some (0, B))) = .nx (ev s H1 x2 (some (0, .int P)) (some (0, .int Q)) (some (0, .int M)) (some (0, .int N)) x7 x8 x9 (some (0, C))) := by
  subst hm
  have z4 : (4 : Nat) ≤ sizeLine := by decide
  simp only [Z1b12, ev]
  simp [v_op2, v_op1, v_idx, v_B, v_Tr, v_and, v_or, v_not, v_if, v_cons, v_tup, v_lst, v_opN, v_call, v_callI, v_seq, v_asg, v_fz, v_ret, v_expr, v_ifs, v_par, v_gseti, kt, kl, h, z4, v_min2]
theorem st13 {B C : T} (h : an H [B, B, tup4 (.bl true) (.int 1) (.int 1) (.int 1), tup4 (.int P) .non (.int M) (.int N), tup4 (.int P) (.int Q) (.int 1000001) (.int N)] C H1) : Z1b13 (ev s H x2 (some (0, .int P)) (some (0, .int Q)) (some (0, .int M)) (some (0, .int N)) x7 x8 x9 (some (0, B))) = .nx (ev s H1 x2 (some (0, .int P)) (some (0, .int Q)) (some (0, .int M)) (some (0, .int N)) x7 x8 x9 (some (0, C))) := by
  have z4 : (4 : Nat) ≤ sizeLine := by decide
  have z5 : (5 : Nat) ≤ sizeLine := by decide
  simp only [Z1b13, ev]
  simp [v_op2, v_op1, v_idx, v_B, v_Tr, v_and, v_or, v_not, v_if, v_cons, v_tup, v_lst, v_opN, v_call, v_callI, v_seq, v_asg, v_fz, v_ret, v_expr, v_ifs, v_par, v_gseti, kt, kl, h, z4, z5]
theorem at4 (a b c d : T) : atI [a, b, c, d] 0 = some a ∧ atI [a, b, c, d] 1 = some b ∧ atI [a, b, c, d] 2 = some c ∧ atI [a, b, c, d] 3 = some d := ⟨rfl, rfl, rfl, rfl⟩
theorem st14 {a b c d : T} (h : m_shares [a, b, c, d] = .ex (.exc "NoNumber" [] []) []) : Z1b14 (ev s H x2 x3 x4 x5 x6 x7 x8 x9 (some (0, tup4 a b c d))) = .nx (ev s H x2 x3 x4 x5 x6 x7 x8 x9 (some (0, tup4 a b c d))) := by
  obtain ⟨q0, q1, q2, q3⟩ := at4 a b c d
  have hc : mCall m_shares (mCons true (mIdx true (mVar 10) (mC (.int 0))) (mCons true (mIdx true (mVar 10) (mC (.int 1))) (mCons true (mIdx true (mVar 10) (mC (.int 2))) (mCons true (mIdx true (mVar 10) (mC (.int 3))) (mNil))))) (ev s H x2 x3 x4 x5 x6 x7 x8 x9 (some (0, tup4 a b c d))) = .ex (.exc "NoNumber" [] []) (ev s H x2 x3 x4 x5 x6 x7 x8 x9 (some (0, tup4 a b c d))) := by
    simp only [ev, tup4]
    simp [v_op2, v_op1, v_idx, v_B, v_Tr, v_and, v_or, v_not, v_if, v_cons, v_tup, v_lst, v_opN, v_call, v_callI, v_seq, v_asg, v_fz, v_ret, v_expr, v_ifs, v_par, v_gseti, kt, kl, q0, q1, q2, q3, h]
  have hl := refused hc
  simp only [Z1b14]
  rw [v_ifs, v_not, v_Tr, hl]
  simp [v_op2, v_op1, v_idx, v_B, v_Tr, v_and, v_or, v_not, v_if, v_cons, v_tup, v_lst, v_opN, v_call, v_callI, v_seq, v_asg, v_fz, v_ret, v_expr, v_ifs, v_par, v_gseti, kt, kl]
theorem st15 {a b c d : T} (h : m_outside_counts [a, b, c, d] = .ex (.exc "NoNumber" [] []) []) : Z1b15 (ev s H x2 x3 x4 x5 x6 x7 x8 x9 (some (0, tup4 a b c d))) = .nx (ev s H x2 x3 x4 x5 x6 x7 x8 x9 (some (0, tup4 a b c d))) := by
  obtain ⟨q0, q1, q2, q3⟩ := at4 a b c d
  have hc : mCall m_outside_counts (mCons true (mIdx true (mVar 10) (mC (.int 0))) (mCons true (mIdx true (mVar 10) (mC (.int 1))) (mCons true (mIdx true (mVar 10) (mC (.int 2))) (mCons true (mIdx true (mVar 10) (mC (.int 3))) (mNil))))) (ev s H x2 x3 x4 x5 x6 x7 x8 x9 (some (0, tup4 a b c d))) = .ex (.exc "NoNumber" [] []) (ev s H x2 x3 x4 x5 x6 x7 x8 x9 (some (0, tup4 a b c d))) := by
    simp only [ev, tup4]
    simp [v_op2, v_op1, v_idx, v_B, v_Tr, v_and, v_or, v_not, v_if, v_cons, v_tup, v_lst, v_opN, v_call, v_callI, v_seq, v_asg, v_fz, v_ret, v_expr, v_ifs, v_par, v_gseti, kt, kl, q0, q1, q2, q3, h]
  have hl := refused hc
  simp only [Z1b15]
  rw [v_ifs, v_not, v_Tr, hl]
  simp [v_op2, v_op1, v_idx, v_B, v_Tr, v_and, v_or, v_not, v_if, v_cons, v_tup, v_lst, v_opN, v_call, v_callI, v_seq, v_asg, v_fz, v_ret, v_expr, v_ifs, v_par, v_gseti, kt, kl]
end
end Pk05
end
/- K05f -/
section
set_option Elab.async false
set_option linter.all false
set_option maxRecDepth 1000000
set_option maxHeartbeats 4000000
namespace Pk05
open PySem Pb L2
abbrev A9 : MA := (mCons true (mOp2 true oAdd (mVar 7) (mLst (mCons true (mTup (mCons true (mC (.int 7)) (mCons true (mVar 8) (mNil)))) (mCons true (mTup (mCons true (mC (.int 7)) (mCons true (mOpN kTuple (mCons true (mOpN kSorted (mCons true (mOp2 true oMulT (mVar 1) (mC (.int 2))) (mNil))) (mNil))) (mNil)))) (mCons true (mTup (mCons true (mC (.int 3)) (mCons true (mTup (mCons true (mTup (mCons true (mC (.int 0)) (mCons true (mC (.int 1)) (mCons true (mC (.int 2)) (mNil))))) (mCons true (mTup (mCons true (mC (.int 0)) (mCons true (mC (.int 1)) (mCons true (mC (.int 2)) (mNil))))) (mNil)))) (mNil)))) (mNil)))))) (mNil))
theorem E9_is : E9 = mRet (mCallI 0 1 m__law_any A9) := rfl
theorem a9_0 (H : T) (x5 x6 : Sl) : A9 [some (1, H), some (0, fanoT), some (0, .lst sizedT), some (0, .int 4), some (0, .int 2), x5, x6, some (0, .lst [famF, famW0, famW0, famN]), some (0, othT), none, none, none, none] = .ok [⟨1, false, .lst [famF, famW0, famW0, famN, famO, famD, famT]⟩] [some (1, H), some (0, fanoT), some (0, .lst sizedT), some (0, .int 4), some (0, .int 2), x5, x6, some (0, .lst [famF, famW0, famW0, famN]), some (0, othT), none, none, none, none] := by kernel_rfl
theorem a9_1 (H : T) (x5 x6 : Sl) : A9 [some (1, H), some (0, fanoT), some (0, .lst sizedT), some (0, .int 4), some (0, .int 3), x5, x6, some (0, .lst [famF, famW1, famW1, famN]), some (0, othT), none, none, none, none] = .ok [⟨1, false, .lst [famF, famW1, famW1, famN, famO, famD, famT]⟩] [some (1, H), some (0, fanoT), some (0, .lst sizedT), some (0, .int 4), some (0, .int 3), x5, x6, some (0, .lst [famF, famW1, famW1, famN]), some (0, othT), none, none, none, none] := by kernel_rfl
theorem a9_2 (H : T) (x5 x6 : Sl) : A9 [some (1, H), some (0, fanoT), some (0, .lst sizedT), some (0, .int 5), some (0, .int 2), x5, x6, some (0, .lst [famF, famW2, famW2, famN]), some (0, othT), none, none, none, none] = .ok [⟨1, false, .lst [famF, famW2, famW2, famN, famO, famD, famT]⟩] [some (1, H), some (0, fanoT), some (0, .lst sizedT), some (0, .int 5), some (0, .int 2), x5, x6, some (0, .lst [famF, famW2, famW2, famN]), some (0, othT), none, none, none, none] := by kernel_rfl
theorem a9_3 (H : T) (x5 x6 : Sl) : A9 [some (1, H), some (0, fanoT), some (0, .lst sizedT), some (0, .int 5), some (0, .int 3), x5, x6, some (0, .lst [famF, famW3, famW3, famN]), some (0, othT), none, none, none, none] = .ok [⟨1, false, .lst [famF, famW3, famW3, famN, famO, famD, famT]⟩] [some (1, H), some (0, fanoT), some (0, .lst sizedT), some (0, .int 5), some (0, .int 3), x5, x6, some (0, .lst [famF, famW3, famW3, famN]), some (0, othT), none, none, none, none] := by kernel_rfl
theorem a9_4 (H : T) (x5 x6 : Sl) : A9 [some (1, H), some (0, fanoT), some (0, .lst sizedT), some (0, .int 5), some (0, .int 4), x5, x6, some (0, .lst [famF, famW4, famW4, famN]), some (0, othT), none, none, none, none] = .ok [⟨1, false, .lst [famF, famW4, famW4, famN, famO, famD, famT]⟩] [some (1, H), some (0, fanoT), some (0, .lst sizedT), some (0, .int 5), some (0, .int 4), x5, x6, some (0, .lst [famF, famW4, famW4, famN]), some (0, othT), none, none, none, none] := by kernel_rfl
theorem a9_5 (H : T) (x5 x6 : Sl) : A9 [some (1, H), some (0, fanoT), some (0, .lst sizedT), some (0, .int 6), some (0, .int 3), x5, x6, some (0, .lst [famF, famW5, famW5, famN]), some (0, othT), none, none, none, none] = .ok [⟨1, false, .lst [famF, famW5, famW5, famN, famO, famD, famT]⟩] [some (1, H), some (0, fanoT), some (0, .lst sizedT), some (0, .int 6), some (0, .int 3), x5, x6, some (0, .lst [famF, famW5, famW5, famN]), some (0, othT), none, none, none, none] := by kernel_rfl
theorem a9_6 (H : T) (x5 x6 : Sl) : A9 [some (1, H), some (0, fanoT), some (0, .lst sizedT), some (0, .int 6), some (0, .int 2), x5, x6, some (0, .lst [famF, famW6, famW6, famN]), some (0, othT), none, none, none, none] = .ok [⟨1, false, .lst [famF, famW6, famW6, famN, famO, famD, famT]⟩] [some (1, H), some (0, fanoT), some (0, .lst sizedT), some (0, .int 6), some (0, .int 2), x5, x6, some (0, .lst [famF, famW6, famW6, famN]), some (0, othT), none, none, none, none] := by kernel_rfl
theorem even_ok {row : List Int} {i : Nat} {acc h c : Int} (hi : i ≤ row.length) : ∃ (t : T) (i' : Nat) (acc' h' c' : Int), i' ≤ row.length ∧ t ∈ fams ∧ m__law_even [hnd row i acc h c] = .ok (fz t) [some (1, hnd row i' acc' h' c')] := by
  obtain ⟨k, t, i1, c1, c2, c3, l1, g1, q1⟩ := any_ok (row := row) (acc := acc) (h := h) (c := c) (ts := sizedT) hi (by decide) (by decide)
  have eb : ∀ (b : S) (H : T), mFunI 13 1 b [H] = (b [some (1, H), none, none, none, none, none, none, none, none, none, none, none, none]).out (fun ρ => [ρ[0]?.getD none]) := fun b H => rfl
  have go : ∀ (P Q : Int) (W x5 x6 : T), t = .tup [.int P, .int Q] → (∀ H : T, mSeq (E3) (mSeq (E4) (mSeq (E5) (mSeq (E6) (mSeq (E7) (E8))))) [some (1, H), some (0, fanoT), some (0, .lst sizedT), some (0, .int P), some (0, .int Q), none, none, none, none, none, none, none, none] = .nx [some (1, H), some (0, fanoT), some (0, .lst sizedT), some (0, .int P), some (0, .int Q), some (0, x5), some (0, x6), some (0, .lst [famF, W, W, famN]), some (0, othT), none, none, none, none]) →
      (∀ H : T, A9 [some (1, H), some (0, fanoT), some (0, .lst sizedT), some (0, .int P), some (0, .int Q), some (0, x5), some (0, x6), some (0, .lst [famF, W, W, famN]), some (0, othT), none, none, none, none] = .ok [⟨1, false, .lst [famF, W, W, famN, famO, famD, famT]⟩] [some (1, H), some (0, fanoT), some (0, .lst sizedT), some (0, .int P), some (0, .int Q), some (0, x5), some (0, x6), some (0, .lst [famF, W, W, famN]), some (0, othT), none, none, none, none]) → W ∈ fams →
      ∃ (t : T) (i' : Nat) (acc' h' c' : Int), i' ≤ row.length ∧ t ∈ fams ∧ m__law_even [hnd row i acc h c] = .ok (fz t) [some (1, hnd row i' acc' h' c')] := by
    intro P Q W x5 x6 et e3 e9 hW
    subst et
    obtain ⟨k2, t2, i2, d1, d2, d3, l2, g2, q2⟩ := any_ok (row := row) (acc := c1) (h := c2) (c := c3) (ts := [famF, W, W, famN, famO, famD, famT]) l1 (by simp) (by simp)
    refine ⟨t2, i2, d1, d2, d3, l2, ?_, ?_⟩
    · have := List.mem_of_getElem? g2
      simp only [List.mem_cons, List.not_mem_nil, or_false] at this
      rcases this with rfl | rfl | rfl | rfl | rfl | rfl | rfl
      · simp [fams]
      · exact hW
      · exact hW
      · simp [fams]
      · simp [fams]
      · simp [fams]
      · simp [fams]
    · have s2 : ∀ rest : S, mSeq (E2) rest [some (1, hnd row i acc h c), some (0, fanoT), some (0, .lst sizedT), none, none, none, none, none, none, none, none, none, none] = rest [some (1, hnd row i1 c1 c2 c3), some (0, fanoT), some (0, .lst sizedT), some (0, .int P), some (0, .int Q), none, none, none, none, none, none, none, none] := by
        intro rest
        have : E2 [some (1, hnd row i acc h c), some (0, fanoT), some (0, .lst sizedT), none, none, none, none, none, none, none, none, none, none] = .nx [some (1, hnd row i1 c1 c2 c3), some (0, fanoT), some (0, .lst sizedT), some (0, .int P), some (0, .int Q), none, none, none, none, none, none, none, none] := by
          simp only [E2]
          simp [v_op2, v_op1, v_idx, v_B, v_Tr, v_and, v_or, v_not, v_if, v_cons, v_tup, v_lst, v_opN, v_call, v_callI, v_seq, v_asg, v_fz, v_ret, v_expr, v_ifs, v_par, v_gseti, kt, kl, q1]
        rw [v_seq, this, v_sbind_nx]
      have s1 : ∀ rest : S, mSeq (E0) (mSeq (E1) rest) [some (1, hnd row i acc h c), none, none, none, none, none, none, none, none, none, none, none, none] = rest [some (1, hnd row i acc h c), some (0, fanoT), some (0, .lst sizedT), none, none, none, none, none, none, none, none, none, none] := by
        intro rest
        have := ev01 (hnd row i acc h c)
        rw [v_seq] at this ⊢
        cases e : E0 [some (1, hnd row i acc h c), none, none, none, none, none, none, none, none, none, none, none, none] with
        | nx ρ => rw [e, v_sbind_nx] at this; rw [v_sbind_nx, v_seq, this, v_sbind_nx]
        | _ => rw [e] at this; cases this
      have s3 : ∀ (rest : S) (ρ ρ2 : En), mSeq (E3) (mSeq (E4) (mSeq (E5) (mSeq (E6) (mSeq (E7) (E8))))) ρ = .nx ρ2 → mSeq (E3) (mSeq (E4) (mSeq (E5) (mSeq (E6) (mSeq (E7) (mSeq (E8) rest))))) ρ = rest ρ2 := by
        intro rest ρ ρ2 e
        have as : ∀ (a b : S) (ρ : En), mSeq a (mSeq b rest) ρ = mSeq (mSeq a b) rest ρ := fun a b ρ => by
          rw [v_seq, v_seq, v_seq]
          cases a ρ with
          | nx ρ1 => rw [v_sbind_nx, v_sbind_nx, v_seq]
          | _ => rfl
        have fx : ∀ (a b : S), (∀ ρ, a ρ = b ρ) → a = b := fun a b h => funext h
        have f1 := fx _ _ (as (E7) (E8))
        rw [f1]
        rw [fx _ _ (as (E6) (mSeq (E7) (E8))), fx _ _ (as (E5) (mSeq (E6) (mSeq (E7) (E8)))), fx _ _ (as (E4) (mSeq (E5) (mSeq (E6) (mSeq (E7) (E8))))), fx _ _ (as (E3) (mSeq (E4) (mSeq (E5) (mSeq (E6) (mSeq (E7) (E8))))))]
        rw [v_seq, e, v_sbind_nx]
      rw [show m__law_even = mFunI 13 1 b__law_even from rfl, eb, even_is, s1, s2, s3 _ _ _ (e3 _), E9_is, v_ret, v_callI]
      show (Out.fl (gateI 0 1 m__law_any A9 _ (some (some (1, hnd row i1 c1 c2 c3)))) kret).out _ = _
      rw [v_gateI, e9, v_abind_ok, v_kcallI (by simp)]
      show (Out.fl (slotI 0 1 m__law_any _ _ (some (some (1, hnd row i1 c1 c2 c3)))) kret).out _ = _
      rw [v_slotI]
      show (Out.fl (putI 0 _ (m__law_any [hnd row i1 c1 c2 c3, .lst [famF, W, W, famN, famO, famD, famT]])) kret).out _ = _
      rw [q2, v_putI, v_fl_ok, v_kret, v_out_rt]
      rfl
  have hm := List.mem_of_getElem? g1
  simp only [sizedT, List.mem_cons, List.not_mem_nil, or_false] at hm
  rcases hm with e | e | e | e | e | e | e
  · exact go _ _ famW0 _ _ e ev3_0 (fun H => a9_0 H _ _) (by simp [fams])
  · exact go _ _ famW1 _ _ e ev3_1 (fun H => a9_1 H _ _) (by simp [fams])
  · exact go _ _ famW2 _ _ e ev3_2 (fun H => a9_2 H _ _) (by simp [fams])
  · exact go _ _ famW3 _ _ e ev3_3 (fun H => a9_3 H _ _) (by simp [fams])
  · exact go _ _ famW4 _ _ e ev3_4 (fun H => a9_4 H _ _) (by simp [fams])
  · exact go _ _ famW5 _ _ e ev3_5 (fun H => a9_5 H _ _) (by simp [fams])
  · exact go _ _ famW6 _ _ e ev3_6 (fun H => a9_6 H _ _) (by simp [fams])
theorem fam_ok {row : List Int} {i : Nat} {acc h c : Int} (hi : i ≤ row.length) : ∃ (i' : Nat) (acc' h' c' : Int) (ρ : List Sl), m__law_family_right [hnd row i acc h c] = .ok (fz (.bl true)) ρ ∧ ρ = [some (1, hnd row i' acc' h' c')] := by
  obtain ⟨t, i1, c1, c2, c3, l1, ht, q⟩ := even_ok (acc := acc) (h := h) (c := c) hi
  have eb : ∀ (b : S) (H : T), mFunI 13 1 b [H] = (b [some (1, H), none, none, none, none, none, none, none, none, none, none, none, none]).out (fun ρ => [ρ[0]?.getD none]) := fun b H => rfl
  have go : ∀ (P : Int) (B : T), t = .tup [.int P, B] → (∀ H : T, ∃ ρ, FR [some (1, H), some (0, .int P), some (0, B), none, none, none, none, none, none, none, none, none, none] = .rt (fz (.bl true)) ρ ∧ ρ[0]?.getD none = some (1, H)) → ∃ (i' : Nat) (acc' h' c' : Int) (ρ : List Sl), m__law_family_right [hnd row i acc h c] = .ok (fz (.bl true)) ρ ∧ ρ = [some (1, hnd row i' acc' h' c')] := by
    intro P B et hf
    subst et
    have s0 : F0 [some (1, hnd row i acc h c), none, none, none, none, none, none, none, none, none, none, none, none] = .nx [some (1, hnd row i1 c1 c2 c3), some (0, .int P), some (0, B), none, none, none, none, none, none, none, none, none, none] := by
      simp only [F0]
      simp [v_op2, v_op1, v_idx, v_B, v_Tr, v_and, v_or, v_not, v_if, v_cons, v_tup, v_lst, v_opN, v_call, v_callI, v_seq, v_asg, v_fz, v_ret, v_expr, v_ifs, v_par, v_gseti, kt, kl, q]
    obtain ⟨ρ, f1, f2⟩ := hf (hnd row i1 c1 c2 c3)
    refine ⟨i1, c1, c2, c3, _, ?_, rfl⟩
    rw [show m__law_family_right = mFunI 13 1 b__law_family_right from rfl, eb, fam_is, v_seq, s0, v_sbind_nx, f1, v_out_rt, f2]
  simp only [fams, List.mem_cons, List.not_mem_nil, or_false] at ht
  rcases ht with e | e | e | e | e | e | e | e | e | e | e | e
  · exact go _ _ e fun H => fr_famF H
  · exact go _ _ e fun H => fr_famN H
  · exact go _ _ e fun H => fr_famO H
  · exact go _ _ e fun H => fr_famD H
  · exact go _ _ e fun H => fr_famT H
  · exact go _ _ e fun H => fr_famW0 H
  · exact go _ _ e fun H => fr_famW1 H
  · exact go _ _ e fun H => fr_famW2 H
  · exact go _ _ e fun H => fr_famW3 H
  · exact go _ _ e fun H => fr_famW4 H
  · exact go _ _ e fun H => fr_famW5 H
  · exact go _ _ e fun H => fr_famW6 H
end Pk05
end
/- K05M -/
section
set_option Elab.async false
set_option linter.all false
set_option maxRecDepth 100000
set_option maxHeartbeats 4000000
namespace Pk05
open PySem Pb L2
/-- bad numbers -/
def Bad (B : T) : Prop := ∃ a b c d : T, B = tup4 a b c d ∧ m_check_numbers [a, b, c, d] = .ex (.exc "NoNumber" [] []) []
theorem bad_int {p s m t : Int} (h : ((decide (1 ≤ p) && decide (p ≤ 1000)) && (decide (1 ≤ s) && decide (s ≤ p)) && (decide (1 ≤ m) && decide (m ≤ 1000000)) && (decide (1 ≤ t) && decide (t ≤ if 6 < s then 6 else s))) = false) : Bad (tup4 (.int p) (.int s) (.int m) (.int t)) := by
  refine ⟨_, _, _, _, rfl, ?_⟩
  rw [check_int]
  unfold good4
  rw [if_neg]
  rw [h]
  exact Bool.false_ne_true
theorem bad_tr : Bad (tup4 (.bl true) (.int 1) (.int 1) (.int 1)) := by
  refine ⟨_, _, _, _, rfl, ?_⟩
  exact check_is (w1 := false) (w2 := false) (w3 := false) (w4 := false) (within_not (isint_bl true)) (fun h => by cases h) (fun h => by cases h) (fun h => by cases h)
theorem bad_non {p m t : Int} : Bad (tup4 (.int p) .non (.int m) (.int t)) := by
  refine ⟨_, _, _, _, rfl, ?_⟩
  have h := check_is (a := .int p) (b := .non) (c := .int m) (d := .int t) (w2 := false) (w3 := false) (w4 := false) (within p 1 1000) (fun _ => within_not isint_non) (fun _ h => by cases h) (fun _ h => by cases h)
  rw [h]
  unfold good4
  rw [if_neg]
  simp
/-- one turn -/
theorem turn {row : List Int} {i : Nat} {acc h c : Int} (hi : i ≤ row.length) (s : T) (x2 x3 x4 x5 x6 x7 x8 x9 x10 : Sl) : ∃ (i' : Nat) (acc' h' c' : Int) (y3 y4 y5 y6 y7 y8 y9 y10 : Sl), i' ≤ row.length ∧
    (mSeq (Z1b0) (mSeq (Z1b1) (mSeq (Z1b2) (mSeq (Z1b3) (mSeq (Z1b4) (mSeq (Z1b5) (mSeq (Z1b6) (mSeq (Z1b7) (mSeq (Z1b8) (mSeq (Z1b9) (mSeq (Z1b10) (mSeq (Z1b11) (mSeq (Z1b12) (mSeq (Z1b13) (mSeq (Z1b14) (Z1b15)))))))))))))))) (ev s (hnd row i acc h c) x2 x3 x4 x5 x6 x7 x8 x9 x10) = .nx (ev s (hnd row i' acc' h' c') x2 y3 y4 y5 y6 y7 y8 y9 y10) := by
  obtain ⟨d1, i1, c11, c12, c13, l1, a1, b1, q1⟩ := draw (row := row) (i := i) (acc := acc) (h := h) (c := c) (many := 40) hi (by omega) (by omega)
  obtain ⟨p, hp⟩ : ∃ p : Nat, (p : Int) = 1 + d1 := ⟨(1 + d1).toNat, by omega⟩
  obtain ⟨d2, i2, c21, c22, c23, l2, a2, b2, q2⟩ := draw (row := row) (acc := c11) (h := c12) (c := c13) (many := (p : Int)) l1 (by omega) (by omega)
  obtain ⟨q, hq⟩ : ∃ q : Nat, (q : Int) = 1 + d2 := ⟨(1 + d2).toNat, by omega⟩
  obtain ⟨k3, t3, i3, c31, c32, c33, l3, g3, q3⟩ := any_ok (row := row) (acc := c21) (h := c22) (c := c23) (ts := [.int 3, .int 12, .int 500]) l2 (by simp) (by simp)
  obtain ⟨k, ek, hk1, hk2⟩ : ∃ k : Int, t3 = .int k ∧ 1 ≤ k ∧ k ≤ 500 := by
    have := List.mem_of_getElem? g3
    simp only [List.mem_cons, List.not_mem_nil, or_false] at this
    rcases this with rfl | rfl | rfl
    · exact ⟨3, rfl, by omega, by omega⟩
    · exact ⟨12, rfl, by omega, by omega⟩
    · exact ⟨500, rfl, by omega, by omega⟩
  subst ek
  obtain ⟨d4, i4, c41, c42, c43, l4, a4, b4, q4⟩ := draw (row := row) (acc := c31) (h := c32) (c := c33) (many := k) l3 (by omega) (by omega)
  obtain ⟨m6, hm6⟩ : ∃ m6 : Nat, (m6 : Int) = if (q : Int) < 6 then (q : Int) else 6 := by
    by_cases h : (q : Int) < 6
    · exact ⟨q, by rw [if_pos h]⟩
    · exact ⟨6, by rw [if_neg h]; rfl⟩
  have hm6' : 1 ≤ m6 ∧ m6 ≤ q ∧ m6 ≤ 6 ∧ (m6 = q ∨ m6 = 6) := by
    split at hm6 <;> omega
  obtain ⟨d5, i5, c51, c52, c53, l5, a5, b5, q5⟩ := draw (row := row) (acc := c41) (h := c42) (c := c43) (many := (m6 : Int)) l4 (by omega) (by omega)
  obtain ⟨t, ht⟩ : ∃ t : Nat, (t : Int) = 1 + d5 := ⟨(1 + d5).toNat, by omega⟩
  obtain ⟨m, hm⟩ : ∃ m : Int, m = 1 + d4 := ⟨_, rfl⟩
  have w0 := st0 (s := s) (x2 := x2) (x3 := x3) (x4 := x4) (x5 := x5) (x6 := x6) (x7 := x7) (x8 := x8) (x9 := x9) (x10 := x10) q1 hp.symm
  have w1 := st1 (s := s) (x2 := x2) (x4 := x4) (x5 := x5) (x6 := x6) (x7 := x7) (x8 := x8) (x9 := x9) (x10 := x10) q2 hq.symm
  have w2 := st2 (s := s) (x2 := x2) (P := (p : Int)) (Q := (q : Int)) (x5 := x5) (x6 := x6) (x7 := x7) (x8 := x8) (x9 := x9) (x10 := x10) q3 q4 q5 hm6.symm hm.symm ht.symm
  have P1 : p ≤ 40 := by omega
  have P2 : q ≤ p := by omega
  have P3 : 1 ≤ q := by omega
  have P4 : t ≤ q := by omega
  have P5 : t ≤ 6 := by omega
  have P6 : 1 ≤ t := by omega
  have P7 : 1 ≤ m := by omega
  have P8 : m ≤ 500 := by omega
  have P9 : (t : Int) ≤ if (6 : Int) < (q : Int) then 6 else (q : Int) := by split <;> omega
  -- the shares
  have key : ∃ (D R : T) (k1 k2 k3 : Nat), m_shares [.int (p : Int), .int (q : Int), .int m, .int (t : Int)] = .ok ⟨k1, false, D⟩ [] ∧ m__law_shares [.int (p : Int), .int (q : Int), .int m, .int (t : Int)] = .ok ⟨k1, false, D⟩ [] ∧ RS D ∧
      ((gIs false ⟨0, false, D⟩ ⟨0, false, .non⟩ = some (fz (.bl true)) ∧ R = .non) ∨ (gIs false ⟨0, false, D⟩ ⟨0, false, .non⟩ = some (fz (.bl false)) ∧ m__law_differences [D] = .ok ⟨k2, false, R⟩ [])) ∧ m_outside_counts [.int (p : Int), .int (q : Int), .int m, .int (t : Int)] = .ok ⟨k3, false, R⟩ [] ∧ RS R := by
    have hb := law_shares_ok (p := p) (s := q) (t := t) (m := m) P1 P2 P4 P5 (by omega) (by omega)
    rcases shT_cases (p := p) (s := q) (t := t) (m := m) P1 P2 P4 P5 (by omega) P8 with ⟨l, e1, e2, e3, e4⟩ | ⟨e1, e2⟩
    · have ha := shares_ok (p := p) (s := q) (t := t) (m := m) P1 P2 P4 P5 P6 P7 (by omega) ⟨_, _, e2⟩
      rw [e2] at ha hb
      obtain ⟨r1, r2⟩ := rs_of_rows (l := l) e4 (by omega)
      exact ⟨rowT l, rowsT (rws 9 l), 1, 1, 1, ha, hb, r1, .inr ⟨rfl, ld_ok (by omega) (by omega)⟩, oc_rows (by omega) (by omega) ha, r2⟩
    · have ha := shares_ok (p := p) (s := q) (t := t) (m := m) P1 P2 P4 P5 P6 P7 (by omega) ⟨_, _, e2⟩
      rw [e2] at ha hb
      exact ⟨.non, .non, 0, 0, 0, ha, hb, rs_non, .inl ⟨rfl, rfl⟩, oc_non ha, rs_non⟩
  obtain ⟨D, R, k1, k2, k3', s1, s2, rD, s3, s4, rR⟩ := key
  obtain ⟨f1, f2⟩ := fisher_ok (p := p) (s := q) (m := m) P1 P2 P3 P7 P8
  have sq := square_ok (p := p) (s := q) (m := m) P1 P2 P3 P7 P8
  have ov1 := over_ok (n := p - t) (k := q - t) (by omega) (by omega)
  rw [show ((p - t : Nat) : Int) = (p : Int) - (t : Int) by omega, show ((q - t : Nat) : Int) = (q : Int) - (t : Int) by omega] at ov1
  have ov2 := over_ok (n := p) (k := q) P1 P2
  obtain ⟨l, sl1, sl2⟩ := shr_every (p := p) (s := q) (t := t) P1 P2 P4 P5
  have hev : ((Cb (p - t) (q - t) : Nat) : Int) ≤ 1000000 → m_shares [.int (p : Int), .int (q : Int), .int ((Cb (p - t) (q - t) : Nat) : Int), .int (t : Int)] = .ok ⟨1, false, rowT l⟩ [] := by
    intro hle
    have hpos := (posC (n := p - t) (k := q - t) (by omega) (by omega)).1
    have e : shT p q t ((Cb (p - t) (q - t) : Nat) : Int) = ⟨1, false, rowT l⟩ := by unfold shT; rw [sl1]
    have := shares_ok (p := p) (s := q) (t := t) (m := ((Cb (p - t) (q - t) : Nat) : Int)) P1 P2 P4 P5 P6 (by omega) hle ⟨_, _, e⟩
    rw [e] at this
    exact this
  have hl0 : atI (l.map T.int) 0 = some (.int ((Cb p q : Nat) : Int)) := by
    have hlen := getElem?_lt sl2
    have := atI_nat (ts := l.map T.int) (k := 0) (by simpa using hlen)
    rw [List.getElem?_map, sl2] at this
    exact this
  -- what is refused
  obtain ⟨k11, B1, i11, e11, e12, e13, l11, g11, q11⟩ := any_ok (row := row) (acc := c51) (h := c52) (c := c53) (ts := [tup4 (.int 0) (.int (q : Int)) (.int m) (.int (t : Int)), tup4 (.int (p : Int)) (.int ((p : Int) + 1)) (.int m) (.int (t : Int)), tup4 (.int (p : Int)) (.int (q : Int)) (.int 0) (.int (t : Int))]) l5 (by simp) (by simp)
  obtain ⟨k12, B2, i12, e21, e22, e23, l12, g12, q12⟩ := any_ok (row := row) (acc := e11) (h := e12) (c := e13) (ts := [B1, tup4 (.int (p : Int)) (.int (q : Int)) (.int m) (.int 0), tup4 (.int (p : Int)) (.int (q : Int)) (.int m) (.int ((m6 : Int) + 1)), tup4 (.int 1001) (.int 3) (.int 1) (.int 2)]) l11 (by simp) (by simp)
  obtain ⟨k13, B3, i13, e31, e32, e33, l13, g13, q13⟩ := any_ok (row := row) (acc := e21) (h := e22) (c := e23) (ts := [B2, B2, tup4 (.bl true) (.int 1) (.int 1) (.int 1), tup4 (.int (p : Int)) .non (.int m) (.int (t : Int)), tup4 (.int (p : Int)) (.int (q : Int)) (.int 1000001) (.int (t : Int))]) l12 (by simp) (by simp)
  have bb : ∀ {x y z w : Bool}, x = false ∨ y = false ∨ z = false ∨ w = false → (x && y && z && w) = false := by
    intro x y z w h
    rcases h with h | h | h | h <;> simp [h]
  have B1b : Bad B1 := by
    have := List.mem_of_getElem? g11
    simp only [List.mem_cons, List.not_mem_nil, or_false] at this
    rcases this with rfl | rfl | rfl
    · exact bad_int (bb (.inl (by simp)))
    · exact bad_int (bb (.inr (.inl (by simp; omega))))
    · exact bad_int (bb (.inr (.inr (.inl (by simp)))))
  have B2b : Bad B2 := by
    have := List.mem_of_getElem? g12
    simp only [List.mem_cons, List.not_mem_nil, or_false] at this
    rcases this with rfl | rfl | rfl | rfl
    · exact B1b
    · exact bad_int (bb (.inr (.inr (.inr (by simp)))))
    · refine bad_int (bb (.inr (.inr (.inr ?_))))
      have : ¬ ((m6 : Int) + 1 ≤ if (6 : Int) < (q : Int) then 6 else (q : Int)) := by split <;> omega
      rw [decide_eq_false this, Bool.and_false]
    · exact bad_int (bb (.inl (by simp)))
  have B3b : Bad B3 := by
    have := List.mem_of_getElem? g13
    simp only [List.mem_cons, List.not_mem_nil, or_false] at this
    rcases this with rfl | rfl | rfl | rfl | rfl
    · exact B2b
    · exact B2b
    · exact bad_tr
    · exact bad_non
    · exact bad_int (bb (.inr (.inr (.inl (by simp)))))
  obtain ⟨b0, b1', b2', b3', eB, cB⟩ := B3b
  have nB := shares_ex cB
  have oB := oc_ex nB
  have w11 := st11 (s := s) (x2 := x2) (x7 := some (0, D)) (x8 := some (0, R)) (x9 := some (0, .int ((Cb (p - t) (q - t) : Nat) : Int))) (x10 := x10) q11
  have w12 := st12 (s := s) (x2 := x2) (N := (t : Int)) (x7 := some (0, D)) (x8 := some (0, R)) (x9 := some (0, .int ((Cb (p - t) (q - t) : Nat) : Int))) hm6.symm q12
  have w13 := st13 (s := s) (x2 := x2) (x7 := some (0, D)) (x8 := some (0, R)) (x9 := some (0, .int ((Cb (p - t) (q - t) : Nat) : Int))) q13
  subst eB
  have m1 : mulOk m ((p : Int) - 1) = true := v_mul_l (by omega) (by omega)
  have m2 : mulOk (q : Int) ((q : Int) - 1) = true := v_mul_l (by omega) (by omega)
  refine ⟨i13, e31, e32, e33, some (0, .int (p : Int)), some (0, .int (q : Int)), some (0, .int m), some (0, .int (t : Int)), some (0, D), some (0, R), some (0, .int ((Cb (p - t) (q - t) : Nat) : Int)), some (0, tup4 b0 b1' b2' b3'), l13, ?_⟩
  rw [v_seq, w0, v_sbind_nx, v_seq, w1, v_sbind_nx, v_seq, w2, v_sbind_nx, v_seq, st3 s2, v_sbind_nx, v_seq, st4 s1 rD, v_sbind_nx, v_seq, st5 s3, v_sbind_nx, v_seq, st6 s4 rR, v_sbind_nx, v_seq, st7 f1 f2, v_sbind_nx,
    v_seq, st8 sq m1 m2, v_sbind_nx, v_seq, st9 ov1, v_sbind_nx, v_seq, st10 (k := 0) hev hl0 ov2, v_sbind_nx, v_seq, w11, v_sbind_nx, v_seq, w12, v_sbind_nx, v_seq, w13, v_sbind_nx, v_seq, st14 nB, v_sbind_nx, st15 oB]
theorem main : ∀ ns : List Int, ns.length ≤ 63 → (∀ z ∈ ns, Builtin.Int.intBits z ≤ 1048576) → ∃ r ρ, m_law [.frl (ns.map .int)] = .ok r ρ ∧ r.t = .bl true := by
  intro ns hl _
  obtain ⟨row, h0, hh⟩ := hand_ok ns hl
  have hi := for_inv (mg := gSet 2) (mb := (mSeq (Z1b0) (mSeq (Z1b1) (mSeq (Z1b2) (mSeq (Z1b3) (mSeq (Z1b4) (mSeq (Z1b5) (mSeq (Z1b6) (mSeq (Z1b7) (mSeq (Z1b8) (mSeq (Z1b9) (mSeq (Z1b10) (mSeq (Z1b11) (mSeq (Z1b12) (mSeq (Z1b13) (mSeq (Z1b14) (Z1b15)))))))))))))))))
    (fun ρ => ∃ (i : Nat) (acc h c : Int) (x2 x3 x4 x5 x6 x7 x8 x9 x10 : Sl), i ≤ row.length ∧ ρ = ev (.frl (ns.map .int)) (hnd row i acc h c) x2 x3 x4 x5 x6 x7 x8 x9 x10) (nl 8)
    (fun t ht ρ ⟨i, acc, h, c, x2, x3, x4, x5, x6, x7, x8, x9, x10, hi, e⟩ => by
      subst e
      obtain ⟨i', acc', h', c', y3, y4, y5, y6, y7, y8, y9, y10, hi', e⟩ := turn hi (.frl (ns.map .int)) (some (0, t)) x3 x4 x5 x6 x7 x8 x9 x10
      exact ⟨_, _, rfl, e, i', acc', h', c', some (0, t), y3, y4, y5, y6, y7, y8, y9, y10, hi', rfl⟩)
    (ev (.frl (ns.map .int)) (hnd row 0 0 h0 0) none none none none none none none none none) ⟨0, 0, h0, 0, none, none, none, none, none, none, none, none, none, by omega, rfl⟩
  obtain ⟨ρ2, w, i, acc, h, c, x2, x3, x4, x5, x6, x7, x8, x9, x10, hi, e⟩ := hi
  subst e
  obtain ⟨i', acc', h', c', ρ3, f1, f2⟩ := fam_ok (acc := acc) (h := h) (c := c) hi
  subst f2
  generalize hB : (mSeq (Z1b0) (mSeq (Z1b1) (mSeq (Z1b2) (mSeq (Z1b3) (mSeq (Z1b4) (mSeq (Z1b5) (mSeq (Z1b6) (mSeq (Z1b7) (mSeq (Z1b8) (mSeq (Z1b9) (mSeq (Z1b10) (mSeq (Z1b11) (mSeq (Z1b12) (mSeq (Z1b13) (mSeq (Z1b14) (Z1b15)))))))))))))))) = Bd at w
  have hb : b_law = mSeq (Z0) (mSeq (mFor (mRng1 (mCons true (mC (.int 8)) (mNil))) (gSet 2) Bd) (Z2)) := by rw [← hB]; exact Z_is
  have f3 : ∀ ρ : En, mFor (mRng1 (mCons true (mC (.int 8)) (mNil))) (gSet 2) Bd ρ = forGo (gSet 2) Bd (nl 8) ρ := fun ρ => by
    rw [v_for, show ((8 : Int)) = ((8 : Nat) : Int) from rfl, rng_nl (by omega)]
    simp only [v_ifl, v_kfor]
  have w1 : Z0 [some (0, .frl (ns.map .int)), none, none, none, none, none, none, none, none, none, none] = .nx (ev (.frl (ns.map .int)) (hnd row 0 0 h0 0) none none none none none none none none none) := by
    simp only [Z0, ev]
    simp [v_op2, v_op1, v_idx, v_B, v_Tr, v_and, v_or, v_not, v_if, v_cons, v_tup, v_lst, v_opN, v_call, v_callI, v_seq, v_asg, v_fz, v_ret, v_expr, v_ifs, v_par, v_gseti, kt, kl, hh]
  have w2 : Z2 (ev (.frl (ns.map .int)) (hnd row i acc h c) x2 x3 x4 x5 x6 x7 x8 x9 x10) = .rt (fz (.bl true)) (ev (.frl (ns.map .int)) (hnd row i' acc' h' c') x2 x3 x4 x5 x6 x7 x8 x9 x10) := by
    simp only [Z2, ev]
    simp [v_op2, v_op1, v_idx, v_B, v_Tr, v_and, v_or, v_not, v_if, v_cons, v_tup, v_lst, v_opN, v_call, v_callI, v_seq, v_asg, v_fz, v_ret, v_expr, v_ifs, v_par, v_gseti, kt, kl, f1]
  have eb : ∀ b : S, mFun 11 b [.frl (ns.map .int)] = (b [some (0, .frl (ns.map .int)), none, none, none, none, none, none, none, none, none, none]).out (fun _ => []) := fun b => rfl
  refine ⟨fz (.bl true), [], ?_, rfl⟩
  rw [show m_law = mFun 11 b_law from rfl, eb, hb, v_seq, w1, v_sbind_nx, v_seq, f3, w, v_sbind_nx, w2]
  rfl
end Pk05
end
/- K05E -/
section
set_option Elab.async false
set_option linter.all false
set_option maxRecDepth 100000
open PySem PySem.W PyProof.Rows
set_option maxHeartbeats 0 in
theorem PySem.Challenge.cw_pairblocks_k05_whole_numbers_that_famili_holds : PySem.Challenge.rw_pairblocks_k05_whole_numbers_that_famili.Holds := by
  w_on; o_law; k_head; (case hw => w_witness2)
  k_fill
  refine Pb.walk_own (l := PySem.Challenge.rw_pairblocks_k05_whole_numbers_that_famili) (n := 63) (k := 9) (x := "script") rfl (by decide) rfl ⟨rfl, by decide, by decide⟩ (by decide +kernel) (fun w h Y => by first | exact PySem.W.kIn_of Y | exact PySem.W.km_in_of Y) ?F
  case F =>
    intro w mg fa h KX Gn hmg own
    refine' Pk05.all_mk KX Gn hmg own ?a__law_draw ?l__law_draw ?c__law_draw ?k__law_draw ?a__law_any ?l__law_any ?c__law_any ?k__law_any ?a__law_differences ?l__law_differences ?c__law_differences ?k__law_differences ?a__law_lots ?l__law_lots ?c__law_lots ?k__law_lots ?a__law_even ?l__law_even ?c__law_even ?k__law_even ?a_is_integer ?l_is_integer ?c_is_integer ?k_is_integer ?a_is_within ?l_is_within ?c_is_within ?k_is_within ?a_check_numbers ?l_check_numbers ?c_check_numbers ?k_check_numbers ?a_choose ?l_choose ?c_choose ?k_choose ?a_shares_by ?l_shares_by ?c_shares_by ?k_shares_by ?a_shares ?l_shares ?c_shares ?k_shares ?a_is_fisher ?l_is_fisher ?c_is_fisher ?k_is_fisher ?a_outside_counts ?l_outside_counts ?c_outside_counts ?k_outside_counts ?a__law_family_right ?l__law_family_right ?c__law_family_right ?k__law_family_right ?a__law_over ?l__law_over ?c__law_over ?k__law_over ?a__law_shares ?l__law_shares ?c__law_shares ?k__law_shares ?a__law_fisher ?l__law_fisher ?c__law_fisher ?k__law_fisher ?a__law_hand ?l__law_hand ?c__law_hand ?k__law_hand ?a__law_is_refused ?l__law_is_refused ?c__law_is_refused ?k__law_is_refused ?a_is_square_family ?l_is_square_family ?c_is_square_family ?k_is_square_family ?a_law ?l_law ?c_law ?k_law ?lc_law ?li_law ?lh_law ?lt_law ?z_ValueError ?z_abs ?z_all ?z_any ?z_bool ?z_int ?z_isinstance ?z_len ?z_min ?z_range ?z_repr ?z_sorted ?z_tuple ?z_zip ?z_super ?op ?aC_BlockError ?aC_NoNumber ?x_BlockError ?is_BlockError ?ty_BlockError ?se_BlockError ?be_BlockError ?x_NoNumber ?is_NoNumber ?ty_NoNumber ?se_NoNumber ?be_NoNumber ?vB ?iB ?iC_NoNumber ?fn_NoNumber ?cI_NoNumber ?lI_NoNumber ?v2_NoNumber ?vf_NoNumber ?lx_NoNumber ?ti_NoNumber ?mv_NoNumber ?mc_NoNumber ?kC_NoNumber ?sa_NoNumber ?sb_NoNumber ?sv_NoNumber ?hg_NoNumber ?hk_NoNumber ?hd_NoNumber ?ha_NoNumber ?hm_NoNumber ?cn ?ctk ?gv_MOST_SIZE Pk05.main
    (case a__law_draw => k_is); (case l__law_draw => k_is); (case c__law_draw => k_is); (case k__law_draw => k_is); (case a__law_any => k_is); (case l__law_any => k_is); (case c__law_any => k_is); (case k__law_any => k_is); (case a__law_differences => k_is); (case l__law_differences => k_is); (case c__law_differences => k_is); (case k__law_differences => k_is); (case a__law_lots => k_is); (case l__law_lots => k_is); (case c__law_lots => k_is); (case k__law_lots => k_is); (case a__law_even => k_is); (case l__law_even => k_is); (case c__law_even => k_is); (case k__law_even => k_is); (case a_is_integer => k_is); (case l_is_integer => k_is); (case c_is_integer => k_is); (case k_is_integer => k_is); (case a_is_within => k_is); (case l_is_within => k_is); (case c_is_within => k_is); (case k_is_within => k_is); (case a_check_numbers => k_is); (case l_check_numbers => k_is); (case c_check_numbers => k_is); (case k_check_numbers => k_is); (case a_choose => k_is); (case l_choose => k_is); (case c_choose => k_is); (case k_choose => k_is); (case a_shares_by => k_is); (case l_shares_by => k_is); (case c_shares_by => k_is); (case k_shares_by => k_is); (case a_shares => k_is); (case l_shares => k_is); (case c_shares => k_is); (case k_shares => k_is); (case a_is_fisher => k_is); (case l_is_fisher => k_is); (case c_is_fisher => k_is); (case k_is_fisher => k_is); (case a_outside_counts => k_is); (case l_outside_counts => k_is); (case c_outside_counts => k_is); (case k_outside_counts => k_is); (case a__law_family_right => k_is); (case l__law_family_right => k_is); (case c__law_family_right => k_is); (case k__law_family_right => k_is); (case a__law_over => k_is); (case l__law_over => k_is); (case c__law_over => k_is); (case k__law_over => k_is); (case a__law_shares => k_is); (case l__law_shares => k_is); (case c__law_shares => k_is); (case k__law_shares => k_is); (case a__law_fisher => k_is); (case l__law_fisher => k_is); (case c__law_fisher => k_is); (case k__law_fisher => k_is); (case a__law_hand => k_is); (case l__law_hand => k_is); (case c__law_hand => k_is); (case k__law_hand => k_is); (case a__law_is_refused => k_is); (case l__law_is_refused => k_is); (case c__law_is_refused => k_is); (case k__law_is_refused => k_is); (case a_is_square_family => k_is); (case l_is_square_family => k_is); (case c_is_square_family => k_is); (case k_is_square_family => k_is); (case a_law => k_is); (case l_law => k_is); (case c_law => k_is); (case k_law => k_is); (case lc_law => k_is); (case li_law => rfl); (case lh_law => kernel_rfl); (case lt_law => kernel_rfl); (case z_ValueError => k_is); (case z_abs => k_is); (case z_all => k_is); (case z_any => k_is); (case z_bool => k_is); (case z_int => k_is); (case z_isinstance => k_is); (case z_len => k_is); (case z_min => k_is); (case z_range => k_is); (case z_repr => k_is); (case z_sorted => k_is); (case z_tuple => k_is); (case z_zip => k_is); (case z_super => k_is); (case op => k_is); (case aC_BlockError => k_is); (case aC_NoNumber => k_is); (case x_BlockError => k_is); (case is_BlockError => k_is); (case ty_BlockError => k_is); (case se_BlockError => k_is); (case be_BlockError => k_is); (case x_NoNumber => k_is); (case is_NoNumber => k_is); (case ty_NoNumber => k_is); (case se_NoNumber => k_is); (case be_NoNumber => k_is); (case vB => decide +kernel); (case iB => k_is); (case iC_NoNumber => k_is); (case fn_NoNumber => k_is); (case cI_NoNumber => k_is); (case lI_NoNumber => k_is); (case v2_NoNumber => rfl); (case vf_NoNumber => decide +kernel); (case lx_NoNumber => k_is); (case ti_NoNumber => k_is); (case mv_NoNumber => k_is); (case mc_NoNumber => k_is); (case kC_NoNumber => k_is); (case sa_NoNumber => k_is); (case sb_NoNumber => k_is); (case sv_NoNumber => k_is); (case hg_NoNumber => k_is); (case hk_NoNumber => k_is); (case hd_NoNumber => k_is); (case ha_NoNumber => k_is); (case hm_NoNumber => k_is); (case cn => k_is); (case ctk => k_is); (case gv_MOST_SIZE => k_is)
end
