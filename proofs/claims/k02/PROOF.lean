import PyProof.Rows.All
import Wide.All
import OpenK.AllK
import Wide.FinOn
import HandS.ForMost
import HandS.TupAny
import HandS.IsInst
import HandS.Gcd
import HandS.Wide
import HandS.Flow
import HandS.Style
import HandS.TupMul
import HandS.Zip
import KE.GoesEnum
import HandS.Deep
import PyProof.ReprBulk
import PyProof.Rows.NestShow
import HandS.SortInts
import HandS.Dict
import HandS.More
import HandS.Iter
import HandS.WordsDict
import HandS.Conv
import HandS.Small
import PyProof.ListMulRoad
import HandS.TupSets
import HandS.Star
import HandS.Keys
import HandS.SetFor
import PyProof.Rows.SumAny
import HandS.WideBits
import PySem.Challenge.RW_heedlore_k02_whole_nets_and_states_of_an
set_option Elab.async false
set_option linter.all false
set_option maxRecDepth 100000
set_option maxHeartbeats 4000000
/-! Gx, part 0: values without the heap, a store of what changes, what stands for what. -/
namespace Gx
open PySem PySem.Spec L2

/-- a value: tuples, and lists that nobody changes any more, are data; what changes is named by its address -/
inductive D where
  | non | bl (b : Bool) | int (i : Int) | str (x : Str) | tup (ds : List D) | lst (ds : List D) | scr (ds : List D) | ref (a : Addr) | ty (n : String)
/-- what changes -/
inductive SO where
  | lst (ds : List D) | dK (kvs : List (Key × D)) | dT (kvs : List (List Key × D)) | dF (od : Obj) (ks : List (Key × V)) (kvs : List (Key × D))
abbrev Sto := Addr → Option SO
def up (S : Sto) (a : Addr) (o : SO) : Sto := fun b => if b = a then some o else S b
theorem up_same {S : Sto} {a : Addr} {o : SO} : up S a o a = some o := by unfold up; rw [if_pos rfl]
theorem up_ne {S : Sto} {a b : Addr} {o : SO} (h : b ≠ a) : up S a o b = S b := by unfold up; rw [if_neg h]
theorem up_up {S : Sto} {a : Addr} {o u : SO} : up (up S a o) a u = up S a u := by
  funext b; unfold up; split <;> rfl
/-- one store and another one beside it -/
def cmb (S F : Sto) : Sto := fun a => match S a with
  | some o => some o
  | none => F a
theorem cmb_l {S F : Sto} {a : Addr} {o : SO} (h : S a = some o) : cmb S F a = some o := by unfold cmb; rw [h]
theorem cmb_r {S F : Sto} {a : Addr} (h : S a = none) : cmb S F a = F a := by unfold cmb; rw [h]
theorem cmb_none {S F : Sto} {a : Addr} (h : cmb S F a = none) : S a = none ∧ F a = none := by
  unfold cmb at h
  split at h
  · cases h
  · exact ⟨by assumption, h⟩
theorem cmb_of_none {S F : Sto} {a : Addr} (h : S a = none) (h' : F a = none) : cmb S F a = none := by rw [cmb_r h, h']

/-- a list that nobody changes: tracked, or one of the module's own -/
def ScrAt (K : PySem.W.Frag) (T : Sto) (H : Hp) (a : Addr) (xs : List V) : Prop := (T a = none ∧ Rd H a (.lst xs)) ∨ SqL K (fun _ => none) a xs
theorem ScrAt.sq {K : PySem.W.Frag} {T : Sto} {H : Hp} {a : Addr} {xs : List V} (h : ScrAt K T H a xs) : SqL K H a xs := by
  rcases h with ⟨_, h⟩ | h | h
  · exact .inl h
  · rcases h with h | ⟨o, h⟩ <;> cases h
  · exact .inr h
section
variable (K : PySem.W.Frag)
mutual
/-- a value stands for a value of the heap -/
def Rp (T : Sto) (H : Hp) : D → V → Prop
  | .non, v => v = .non
  | .bl b, v => v = .bl b
  | .int i, v => v = .int i
  | .str x, v => v = .str x
  | .ref a, v => v = .ref a
  | .ty n, v => v = .ty n
  | .tup ds, v => ∃ a xs, v = .ref a ∧ SqT K H a xs ∧ RpL T H ds xs
  | .lst ds, v => ∃ a xs, v = .ref a ∧ T a = none ∧ H a = some (.lst xs) ∧ RpL T H ds xs
  | .scr ds, v => ∃ a xs, v = .ref a ∧ ScrAt K T H a xs ∧ RpL T H ds xs
def RpL (T : Sto) (H : Hp) : List D → List V → Prop
  | [], xs => xs = []
  | d :: ds, xs => ∃ x r, xs = x :: r ∧ Rp T H d x ∧ RpL T H ds r
end
/-- what stands at an address that changes -/
def StO (T : Sto) (H : Hp) (a : Addr) : SO → Prop
  | .lst ds => ∃ xs, H a = some (.lst xs) ∧ RpL K T H ds xs
  | .dK kvs => ∃ ks, H a = some (.dK ks) ∧ ks.map (·.1) = kvs.map (·.1) ∧ RpL K T H (kvs.map (·.2)) (ks.map (·.2))
  | .dT kvs => ∃ ks, H a = some (.dT ks) ∧ ks.map (·.1) = kvs.map (·.1) ∧ RpL K T H (kvs.map (·.2)) (ks.map (·.2))
  | .dF od ks kvs => H a = some (.frz od (.dK ks)) ∧ ks.map (·.1) = kvs.map (·.1) ∧ RpL K T H (kvs.map (·.2)) (ks.map (·.2))
def Ok (T : Sto) (H : Hp) : Prop := ∀ a o, T a = some o → StO K T H a o
/-- the stores stand apart, and hold -/
structure Wd (S F : Sto) (H : Hp) : Prop where
  dj : ∀ a, S a = none ∨ F a = none
  ok : Ok K (cmb S F) H
end
/-- what does not change stays -/
def Ev (T : Sto) (H : Hp) (T' : Sto) (H' : Hp) : Prop := ∀ a o, H a = some o → T a = none → H' a = some o ∧ T' a = none
theorem Ev.refl {T : Sto} {H : Hp} : Ev T H T H := fun _ _ h1 h2 => ⟨h1, h2⟩
theorem Ev.trans {T T1 T2 : Sto} {H H1 H2 : Hp} (a : Ev T H T1 H1) (b : Ev T1 H1 T2 H2) : Ev T H T2 H2 := fun c o h1 h2 =>
  have q := a c o h1 h2
  b c o q.1 q.2

section
variable {K : PySem.W.Frag} {T T' : Sto} {H H' : Hp} {S S' F F' : Sto}
theorem sto_some {a : Addr} {o : SO} (h : StO K T H a o) : ∃ u, H a = some u ∧ (∀ xs, u ≠ .tup xs) ∧ (∀ ob w, u ≠ .frz ob (.tup w)) := by
  cases o with
  | lst ds => obtain ⟨xs, e, _⟩ := h; exact ⟨_, e, by simp, by simp⟩
  | dK kvs => obtain ⟨xs, e, _⟩ := h; exact ⟨_, e, by simp, by simp⟩
  | dT kvs => obtain ⟨xs, e, _⟩ := h; exact ⟨_, e, by simp, by simp⟩
  | dF od ks kvs => obtain ⟨e, _⟩ := h; exact ⟨_, e, by simp, by simp⟩
theorem Ok.fresh (h : Ok K T H) {p : Addr} (e : H p = none) : T p = none := by
  cases q : T p with
  | none => rfl
  | some o => obtain ⟨u, e', _⟩ := sto_some (h p o q); rw [e] at e'; cases e'
theorem Ok.tup (h : Ok K T H) {p : Addr} {xs : List V} (e : Rd H p (.tup xs)) : T p = none := by
  cases q : T p with
  | none => rfl
  | some o =>
    obtain ⟨u, e', n1, n2⟩ := sto_some (h p o q)
    rcases e with e | ⟨ob, e⟩
    · rw [e] at e'; cases e'; exact absurd rfl (n1 xs)
    · rw [e] at e'; cases e'; exact absurd rfl (n2 _ _)
theorem SqT.ev {a : Addr} {xs : List V} (o : Ok K T H) (ev : Ev T H T' H') (h : SqT K H a xs) : SqT K H' a xs := by
  rcases h with h | h
  · have n := o.tup h
    rcases h with h | ⟨ob, h⟩
    · exact .inl (.inl (ev _ _ h n).1)
    · exact .inl (.inr ⟨ob, (ev _ _ h n).1⟩)
  · exact .inr h
theorem Rd.ev {a : Addr} {u : HO} (n : T a = none) (ev : Ev T H T' H') (h : Rd H a u) : Rd H' a u ∧ T' a = none := by
  rcases h with h | ⟨ob, h⟩
  · exact ⟨.inl (ev _ _ h n).1, (ev _ _ h n).2⟩
  · exact ⟨.inr ⟨ob, (ev _ _ h n).1⟩, (ev _ _ h n).2⟩
mutual
theorem Rp.ev (o : Ok K T H) (ev : Ev T H T' H') : ∀ {d : D} {v : V}, Rp K T H d v → Rp K T' H' d v
  | .non, _, h => h
  | .bl _, _, h => h
  | .int _, _, h => h
  | .str _, _, h => h
  | .ref _, _, h => h
  | .ty _, _, h => h
  | .tup ds, v, h => by
    obtain ⟨a, xs, e, q, r⟩ := h
    exact ⟨a, xs, e, SqT.ev o ev q, RpL.ev o ev r⟩
  | .lst ds, v, h => by
    obtain ⟨a, xs, e, n, q, r⟩ := h
    have z := ev _ _ q n
    exact ⟨a, xs, e, z.2, z.1, RpL.ev o ev r⟩
  | .scr ds, v, h => by
    obtain ⟨a, xs, e, q, r⟩ := h
    exact ⟨a, xs, e, q.imp (fun q => (Rd.ev q.1 ev q.2).symm) id, RpL.ev o ev r⟩
theorem RpL.ev (o : Ok K T H) (ev : Ev T H T' H') : ∀ {ds : List D} {vs : List V}, RpL K T H ds vs → RpL K T' H' ds vs
  | [], _, h => h
  | d :: ds, _, h => by
    obtain ⟨x, r, e, q, q2⟩ := h
    exact ⟨x, r, e, Rp.ev o ev q, RpL.ev o ev q2⟩
end
mutual
/-- fewer things change -/
theorem Rp.sub (f : ∀ a, T a = none → T' a = none) : ∀ {d : D} {v : V}, Rp K T H d v → Rp K T' H d v
  | .non, _, h => h
  | .bl _, _, h => h
  | .int _, _, h => h
  | .str _, _, h => h
  | .ref _, _, h => h
  | .ty _, _, h => h
  | .tup ds, v, h => by
    obtain ⟨a, xs, e, q, r⟩ := h
    exact ⟨a, xs, e, q, RpL.sub f r⟩
  | .lst ds, v, h => by
    obtain ⟨a, xs, e, n, q, r⟩ := h
    exact ⟨a, xs, e, f a n, q, RpL.sub f r⟩
  | .scr ds, v, h => by
    obtain ⟨a, xs, e, q, r⟩ := h
    exact ⟨a, xs, e, q.imp (fun q => ⟨f a q.1, q.2⟩) id, RpL.sub f r⟩
theorem RpL.sub (f : ∀ a, T a = none → T' a = none) : ∀ {ds : List D} {vs : List V}, RpL K T H ds vs → RpL K T' H ds vs
  | [], _, h => h
  | d :: ds, _, h => by
    obtain ⟨x, r, e, q, q2⟩ := h
    exact ⟨x, r, e, Rp.sub f q, RpL.sub f q2⟩
end
theorem sto_mp {a : Addr} {o : SO} (h : StO K T H a o) (g : ∀ u, H a = some u → H' a = some u) (r : ∀ ds vs, RpL K T H ds vs → RpL K T' H' ds vs) : StO K T' H' a o := by
  cases o with
  | lst ds => obtain ⟨xs, e, q⟩ := h; exact ⟨xs, g _ e, r _ _ q⟩
  | dK kvs => obtain ⟨xs, e, k, q⟩ := h; exact ⟨xs, g _ e, k, r _ _ q⟩
  | dT kvs => obtain ⟨xs, e, k, q⟩ := h; exact ⟨xs, g _ e, k, r _ _ q⟩
  | dF od ks kvs => obtain ⟨e, k, q⟩ := h; exact ⟨g _ e, k, r _ _ q⟩

theorem RpL.length : ∀ {ds : List D} {vs : List V}, RpL K T H ds vs → vs.length = ds.length
  | [], _, h => by rw [show _ = [] from h]; rfl
  | d :: ds, _, h => by
    obtain ⟨x, r, e, _, q2⟩ := h
    rw [e, List.length_cons, List.length_cons, RpL.length q2]
theorem RpL.get : ∀ {ds : List D} {vs : List V} {i : Nat} {d : D}, RpL K T H ds vs → ds[i]? = some d → ∃ v, vs[i]? = some v ∧ Rp K T H d v
  | [], _, _, _, _, e => by simp at e
  | d :: ds, _, 0, x, h, e => by
    obtain ⟨y, r, rfl, q, _⟩ := h
    simp at e; subst e
    exact ⟨y, rfl, q⟩
  | d :: ds, _, i + 1, x, h, e => by
    obtain ⟨y, r, rfl, _, q⟩ := h
    obtain ⟨v, h1, h2⟩ := RpL.get (i := i) (d := x) q (by simpa using e)
    exact ⟨v, by simpa using h1, h2⟩
theorem RpL.app : ∀ {ds es : List D} {vs us : List V}, RpL K T H ds vs → RpL K T H es us → RpL K T H (ds ++ es) (vs ++ us)
  | [], _, _, _, h, h' => by rw [show _ = [] from h]; exact h'
  | d :: ds, _, _, _, h, h' => by
    obtain ⟨y, r, rfl, q, q2⟩ := h
    exact ⟨y, r ++ _, rfl, q, RpL.app q2 h'⟩
theorem RpL.set : ∀ {ds : List D} {vs : List V} {d : D} {v : V} (i : Nat), RpL K T H ds vs → Rp K T H d v → RpL K T H (ds.set i d) (vs.set i v)
  | [], _, _, _, _, h, _ => by rw [show _ = [] from h]; exact rfl
  | d :: ds, _, _, _, 0, h, h' => by
    obtain ⟨y, r, rfl, q, q2⟩ := h
    exact ⟨_, r, rfl, h', q2⟩
  | d :: ds, _, _, _, i + 1, h, h' => by
    obtain ⟨y, r, rfl, q, q2⟩ := h
    exact ⟨y, _, rfl, q, RpL.set i q2 h'⟩
theorem RpL.drop : ∀ {ds : List D} {vs : List V} (n : Nat), RpL K T H ds vs → RpL K T H (ds.drop n) (vs.drop n)
  | _, _, 0, h => by simpa using h
  | [], _, n + 1, h => by rw [show _ = [] from h]; exact rfl
  | d :: ds, _, n + 1, h => by
    obtain ⟨y, r, rfl, q, q2⟩ := h
    simpa using RpL.drop n q2
theorem RpL.take : ∀ {ds : List D} {vs : List V} (n : Nat), RpL K T H ds vs → RpL K T H (ds.take n) (vs.take n)
  | _, _, 0, h => by rw [List.take_zero, List.take_zero]; exact rfl
  | [], _, n + 1, h => by rw [show _ = [] from h]; exact rfl
  | d :: ds, _, n + 1, h => by
    obtain ⟨y, r, rfl, q, q2⟩ := h
    exact ⟨y, _, rfl, q, RpL.take n q2⟩
theorem RpL.reverse : ∀ {ds : List D} {vs : List V}, RpL K T H ds vs → RpL K T H ds.reverse vs.reverse
  | [], _, h => by rw [show _ = [] from h]; exact rfl
  | d :: ds, _, h => by
    obtain ⟨y, r, rfl, q, q2⟩ := h
    rw [List.reverse_cons, List.reverse_cons]
    exact RpL.app (RpL.reverse q2) ⟨y, [], rfl, q, rfl⟩
theorem RpL.ints : ∀ {ns : List Int} {vs : List V}, RpL K T H (ns.map D.int) vs → vs = ns.map V.int
  | [], _, h => h
  | n :: ns, _, h => by
    obtain ⟨y, r, rfl, q, q2⟩ := h
    rw [show y = V.int n from q, RpL.ints q2]
    rfl
theorem RpL.bls : ∀ {ns : List Bool} {vs : List V}, RpL K T H (ns.map D.bl) vs → vs = ns.map V.bl
  | [], _, h => h
  | n :: ns, _, h => by
    obtain ⟨y, r, rfl, q, q2⟩ := h
    rw [show y = V.bl n from q, RpL.bls q2]
    rfl
/-! ### how the stores go on -/
theorem ev_new {p : Addr} {o : HO} (hp : H p = none) : Ev T H T (upd H p o) := fun a u e n => ⟨by rw [upd_ne (ne_of_none e hp)]; exact e, n⟩
theorem Ok.new {p : Addr} {o : HO} (h : Ok K T H) (hp : H p = none) : Ok K T (upd H p o) := fun a u e =>
  sto_mp (h a u e) (fun w q => by rw [upd_ne (ne_of_none q hp)]; exact q) fun _ _ r => RpL.ev h (ev_new hp) r
theorem Wd.new {p : Addr} {o : HO} (h : Wd K S F H) (hp : H p = none) : Wd K S F (upd H p o) := ⟨h.dj, h.ok.new hp⟩
theorem cmb_up {a : Addr} {o : SO} : cmb (up S a o) F = up (cmb S F) a o := by
  funext b
  by_cases e : b = a
  · subst e; rw [up_same, cmb_l up_same]
  · rw [up_ne e]; unfold cmb; rw [up_ne e]
theorem cmb_upR {a : Addr} {o : SO} (h : S a = none) : cmb S (up F a o) = up (cmb S F) a o := by
  funext b
  by_cases e : b = a
  · subst e; rw [up_same, cmb_r h, up_same]
  · rw [up_ne e]; unfold cmb; rw [up_ne e]
theorem ev_newS {p : Addr} {o : HO} {u : SO} (hp : H p = none) : Ev T H (up T p u) (upd H p o) := fun a w e n => ⟨by rw [upd_ne (ne_of_none e hp)]; exact e, by rw [up_ne (ne_of_none e hp)]; exact n⟩
/-- a new thing that is to change -/
theorem Ok.newS {p : Addr} {o : HO} {u : SO} (h : Ok K T H) (hp : H p = none) (q : StO K (up T p u) (upd H p o) p u) : Ok K (up T p u) (upd H p o) := fun a w e => by
  by_cases z : a = p
  · subst z; rw [up_same] at e; cases e; exact q
  · rw [up_ne z] at e
    exact sto_mp (h a w e) (fun x y => by rw [upd_ne z]; exact y) fun _ _ r => RpL.ev h (ev_newS hp) r
theorem Wd.newS {p : Addr} {o : HO} {u : SO} (h : Wd K S F H) (hp : H p = none) (q : StO K (up (cmb S F) p u) (upd H p o) p u) : Wd K (up S p u) F (upd H p o) := by
  have n := cmb_none (h.ok.fresh hp)
  refine ⟨fun a => ?_, by rw [cmb_up]; exact h.ok.newS hp q⟩
  by_cases z : a = p
  · subst z; exact .inr n.2
  · rw [up_ne z]; exact h.dj a
theorem Wd.newF {p : Addr} {o : HO} {u : SO} (h : Wd K S F H) (hp : H p = none) (q : StO K (up (cmb S F) p u) (upd H p o) p u) : Wd K S (up F p u) (upd H p o) := by
  have n := cmb_none (h.ok.fresh hp)
  refine ⟨fun a => ?_, by rw [cmb_upR n.1]; exact h.ok.newS hp q⟩
  by_cases z : a = p
  · subst z; exact .inl n.1
  · rw [up_ne z]; exact h.dj a
theorem ev_set {p : Addr} {o : HO} {u w : SO} (hp : T p = some w) : Ev T H (up T p u) (upd H p o) := fun a x e n => by
  have z : a ≠ p := by rintro rfl; rw [hp] at n; cases n
  exact ⟨by rw [upd_ne z]; exact e, by rw [up_ne z]; exact n⟩
/-- a thing that changes -/
theorem Ok.set {p : Addr} {o : HO} {u w : SO} (h : Ok K T H) (hp : T p = some w) (q : StO K (up T p u) (upd H p o) p u) : Ok K (up T p u) (upd H p o) := fun a x e => by
  by_cases z : a = p
  · subst z; rw [up_same] at e; cases e; exact q
  · rw [up_ne z] at e
    exact sto_mp (h a x e) (fun x y => by rw [upd_ne z]; exact y) fun _ _ r => RpL.ev h (ev_set hp) r
theorem Wd.set {p : Addr} {o : HO} {u w : SO} (h : Wd K S F H) (hp : S p = some w) (q : StO K (up (cmb S F) p u) (upd H p o) p u) : Wd K (up S p u) F (upd H p o) := by
  refine ⟨fun a => ?_, by rw [cmb_up]; exact h.ok.set (cmb_l hp) q⟩
  by_cases z : a = p
  · subst z
    rcases h.dj a with n | n
    · rw [hp] at n; cases n
    · exact .inr n
  · rw [up_ne z]; exact h.dj a
theorem Wd.setF {p : Addr} {o : HO} {u w : SO} (h : Wd K S F H) (hp : F p = some w) (q : StO K (up (cmb S F) p u) (upd H p o) p u) : Wd K S (up F p u) (upd H p o) := by
  have n : S p = none := by
    rcases h.dj p with n | n
    · exact n
    · rw [hp] at n; cases n
  refine ⟨fun a => ?_, by rw [cmb_upR n]; exact h.ok.set (by rw [cmb_r n]; exact hp) q⟩
  by_cases z : a = p
  · subst z; exact .inl n
  · rw [up_ne z]; exact h.dj a
/-- a thing is forgotten, or changes no more -/
theorem Wd.less {S' F' : Sto} (h : Wd K S F H) (f : ∀ a o, S' a = some o → S a = some o) (g : ∀ a o, F' a = some o → F a = some o) : Wd K S' F' H := by
  have nn : ∀ a, cmb S F a = none → cmb S' F' a = none := fun a e => by
    obtain ⟨e1, e2⟩ := cmb_none e
    refine cmb_of_none ?_ ?_
    · cases z : S' a with
      | none => rfl
      | some o => rw [f a o z] at e1; cases e1
    · cases z : F' a with
      | none => rfl
      | some o => rw [g a o z] at e2; cases e2
  refine ⟨fun a => ?_, fun a o e => ?_⟩
  · rcases h.dj a with n | n
    · cases z : S' a with
      | none => exact .inl rfl
      | some o => rw [f a o z] at n; cases n
    · cases z : F' a with
      | none => exact .inr rfl
      | some o => rw [g a o z] at n; cases n
  · have e' : cmb S F a = some o := by
      cases z : S' a with
      | some u =>
        rw [cmb_l z] at e; cases e
        exact cmb_l (f a _ z)
      | none =>
        rw [cmb_r z] at e
        rcases h.dj a with n | n
        · rw [cmb_r n]; exact g a _ e
        · rw [g a _ e] at n; cases n
    exact sto_mp (h.ok a o e') (fun _ q => q) fun _ _ r => RpL.sub nn r
theorem ev_less {S' F' : Sto} (f : ∀ a o, S' a = some o → S a = some o) (g : ∀ a o, F' a = some o → F a = some o) : Ev (cmb S F) H (cmb S' F') H := fun a u e n => by
  refine ⟨e, ?_⟩
  obtain ⟨e1, e2⟩ := cmb_none n
  refine cmb_of_none ?_ ?_
  · cases z : S' a with
    | none => rfl
    | some o => rw [f a o z] at e1; cases e1
  · cases z : F' a with
    | none => rfl
    | some o => rw [g a o z] at e2; cases e2
end
end Gx

/-! Gx, part 1: readings over data; names, constants, operators, tests. -/
namespace Gx
open PySem PySem.Spec L2

/-- the slots -/
abbrev Tau := List (Option D)
abbrev QD := D → Sto → Prop
abbrev ET := Tau → Sto → QD → Prop
abbrev TT' := Tau → Sto → (Bool → Sto → Prop) → Prop
abbrev AT := Tau → Sto → (List D → Sto → Prop) → Prop

section
variable (K : PySem.W.Frag)
structure RpS (T : Sto) (H : Hp) (τ : Tau) (σ : St) : Prop where
  len : τ.length = σ.length
  at' : ∀ (i : Nat) (d : D), τ[i]? = some (some d) → ∃ v, σ[i]? = some (some v) ∧ Rp K T H d v
/-- what came behind -/
structure AftF (S F : Sto) (H : Hp) (S' F' : Sto) (H' : Hp) : Prop where
  wd : Wd K S' F' H'
  ev : Ev (cmb S F) H (cmb S' F') H'
abbrev Aft (S F : Sto) (H : Hp) (S' : Sto) (H' : Hp) : Prop := AftF K S F H S' F H'
def LE (t : ET) : TE := fun σ H Q => ∃ (τ : Tau) (S F : Sto) (R : QD), Wd K S F H ∧ RpS K (cmb S F) H τ σ ∧ t τ S R ∧
  ∀ d S' v H', R d S' → Aft K S F H S' H' → Rp K (cmb S' F) H' d v → Q v H'
def LT (t : TT') : TT := fun σ H Q => ∃ (τ : Tau) (S F : Sto) (R : Bool → Sto → Prop), Wd K S F H ∧ RpS K (cmb S F) H τ σ ∧ t τ S R ∧
  ∀ b S' H', R b S' → Aft K S F H S' H' → Q b H'
def LA (t : AT) : TA := fun σ H Q => ∃ (τ : Tau) (S F : Sto) (R : List D → Sto → Prop), Wd K S F H ∧ RpS K (cmb S F) H τ σ ∧ t τ S R ∧
  ∀ ds S' vs H', R ds S' → Aft K S F H S' H' → RpL K (cmb S' F) H' ds vs → Q vs H'
/-- an operation of two values -/
abbrev O2 := D → D → Sto → QD → Prop
def L2O (r : O2) : R2 := fun x y H Q => ∃ (d e : D) (S F : Sto) (R : QD), Wd K S F H ∧ Rp K (cmb S F) H d x ∧ Rp K (cmb S F) H e y ∧ r d e S R ∧
  ∀ d S' v H', R d S' → Aft K S F H S' H' → Rp K (cmb S' F) H' d v → Q v H'
abbrev O1 := D → Sto → QD → Prop
def L1O (r : O1) : V → Hp → VK → Prop := fun x H Q => ∃ (d : D) (S F : Sto) (R : QD), Wd K S F H ∧ Rp K (cmb S F) H d x ∧ r d S R ∧
  ∀ d S' v H', R d S' → Aft K S F H S' H' → Rp K (cmb S' F) H' d v → Q v H'
abbrev OL := List D → Sto → QD → Prop
def LLO (r : OL) : List V → Hp → VK → Prop := fun xs H Q => ∃ (ds : List D) (S F : Sto) (R : QD), Wd K S F H ∧ RpL K (cmb S F) H ds xs ∧ r ds S R ∧
  ∀ d S' v H', R d S' → Aft K S F H S' H' → Rp K (cmb S' F) H' d v → Q v H'
end
def GE (X : Cx) (e : Expr) (t : ET) : Prop := PE X e (LE X.K t)
def GT (X : Cx) (e : Expr) (t : TT') : Prop := PT X e (LT X.K t)
def GW (X : Cx) (e : Expr) (t : TT') : Prop := PW X e (LT X.K t)
def GA (X : Cx) (es : List Expr) (t : AT) : Prop := PA X es (LA X.K t)
def G2 (X : Cx) (f : Value → Value → Sem Value) (r : O2) : Prop := OpR X f (L2O X.K r)
def G1 (X : Cx) (f : Value → Sem Value) (r : O1) : Prop := UnR X f (L1O X.K r)
def GC (X : Cx) (f : Value) (r : OL) : Prop := CallR X f (LLO X.K r)

section
variable {K : PySem.W.Frag} {S S' S1 F F' F1 : Sto} {H H' H1 : Hp} {τ : Tau} {σ : St}
theorem Aft.refl (w : Wd K S F H) : Aft K S F H S H := ⟨w, Ev.refl⟩
theorem AftF.trans (a : AftF K S F H S1 F1 H1) (b : AftF K S1 F1 H1 S' F' H') : AftF K S F H S' F' H' := ⟨b.wd, a.ev.trans b.ev⟩
theorem AftF.rp (a : AftF K S F H S' F' H') (w : Wd K S F H) {d : D} {v : V} (r : Rp K (cmb S F) H d v) : Rp K (cmb S' F') H' d v := Rp.ev w.ok a.ev r
theorem AftF.rpl (a : AftF K S F H S' F' H') (w : Wd K S F H) {d : List D} {v : List V} (r : RpL K (cmb S F) H d v) : RpL K (cmb S' F') H' d v := RpL.ev w.ok a.ev r
theorem AftF.rps (a : AftF K S F H S' F' H') (w : Wd K S F H) (r : RpS K (cmb S F) H τ σ) : RpS K (cmb S' F') H' τ σ :=
  ⟨r.len, fun i d e => let ⟨v, h1, h2⟩ := r.at' i d e; ⟨v, h1, a.rp w h2⟩⟩
theorem Aft.new {p : Addr} {o : HO} (w : Wd K S F H) (hp : H p = none) : Aft K S F H S (upd H p o) := ⟨w.new hp, ev_new hp⟩
theorem Aft.newS {p : Addr} {o : HO} {u : SO} (w : Wd K S F H) (hp : H p = none) (q : StO K (up (cmb S F) p u) (upd H p o) p u) : Aft K S F H (up S p u) (upd H p o) :=
  ⟨w.newS hp q, by rw [cmb_up]; exact ev_newS hp⟩
theorem Aft.set {p : Addr} {o : HO} {u x : SO} (w : Wd K S F H) (hp : S p = some x) (q : StO K (up (cmb S F) p u) (upd H p o) p u) : Aft K S F H (up S p u) (upd H p o) :=
  ⟨w.set hp q, by rw [cmb_up]; exact ev_set (cmb_l hp)⟩
theorem RpS.set (r : RpS K (cmb S F) H τ σ) {d : D} {v : V} (i : Nat) (h : Rp K (cmb S F) H d v) : RpS K (cmb S F) H (τ.set i (some d)) (σ.set i (some v)) := by
  refine ⟨by rw [List.length_set, List.length_set]; exact r.len, fun j e q => ?_⟩
  by_cases z : i = j
  · subst z
    rw [List.getElem?_set_self' ] at q
    cases z : τ[i]? with
    | none => rw [z] at q; cases q
    | some y =>
      rw [z] at q
      cases q
      have hi : i < σ.length := by rw [← r.len]; exact (List.getElem?_eq_some_iff.mp z).1
      exact ⟨v, by rw [List.getElem?_set_self hi], h⟩
  · rw [List.getElem?_set_ne z] at q ⊢
    exact r.at' j e q
/-- two readings in a row -/
theorem le_bin {ta tb : ET} {R : D → D → Sto → Prop} {Z : V → V → Hp → Prop} (h : ∃ (τ : Tau) (S F : Sto), Wd K S F H ∧ RpS K (cmb S F) H τ σ ∧ ta τ S (fun d S1 => tb τ S1 fun e S2 => R d e S2) ∧
      ∀ d e S' v u H', R d e S' → Aft K S F H S' H' → Rp K (cmb S' F) H' d v → Rp K (cmb S' F) H' e u → Z v u H') :
    LE K ta σ H fun x H1 => LE K tb σ H1 fun y H2 => Z x y H2 := by
  obtain ⟨τ, S, F, w, r, q, g⟩ := h
  refine ⟨τ, S, F, _, w, r, q, fun d S1 v H1 q1 a1 r1 => ?_⟩
  exact ⟨τ, S1, F, _, a1.wd, a1.rps w r, q1, fun e S2 u H2 q2 a2 r2 => g d e S2 v u H2 q2 (a1.trans a2) (a2.rp a1.wd r1) r2⟩
end

section
variable {X : Cx} {e a b : Expr} {t ta tb : ET} {pos : Pos}
theorem pe_weak {t t' : TE} (h : PE X e t) (w : ∀ σ H Q, t' σ H Q → t σ H Q) : PE X e t' := ⟨fun pins s σ H Q I q => h.run pins s σ H Q I (w σ H Q q)⟩
theorem pt_weak {t t' : TT} (h : PT X e t) (w : ∀ σ H Q, t' σ H Q → t σ H Q) : PT X e t' := ⟨fun pins s σ H Q I q => h.run pins s σ H Q I (w σ H Q q)⟩
theorem pw_weak {t t' : TT} (h : PW X e t) (w : ∀ σ H Q, t' σ H Q → t σ H Q) : PW X e t' := ⟨fun wh pins s σ H Q I q => h.run wh pins s σ H Q I (w σ H Q q)⟩
theorem pa_weak {es : List Expr} {t t' : TA} (h : PA X es t) (w : ∀ σ H Q, t' σ H Q → t σ H Q) : PA X es t' := ⟨fun p pins s σ H Q I q => h.run p pins s σ H Q I (w σ H Q q)⟩
theorem ps_weak {st : Stmt} {t t' : TS} (h : PS X st t) (w : ∀ D σ H, t' D σ H → t D σ H) : PS X st t' := ⟨fun pins s σ H D I q => h.run pins s σ H D I (w D σ H q)⟩
theorem pss_weak {st : List Stmt} {t t' : TS} (h : PSs X st t) (w : ∀ D σ H, t' D σ H → t D σ H) : PSs X st t' := ⟨fun pins s σ H D I q => h.run pins s σ H D I (w D σ H q)⟩
theorem op_weak {f : Value → Value → Sem Value} {r r' : R2} (h : OpR X f r) (w : ∀ x y H Q, r' x y H Q → r x y H Q) : OpR X f r' := fun pins s σ H x y v u Q I rx ry q => h pins s σ H x y v u Q I rx ry (w _ _ _ _ q)

/-! ### names, constants -/
def eVar (i : Nat) : ET := fun τ S Q => match τ[i]? with
  | some (some d) => Q d S
  | _ => False
def eC (d : D) : ET := fun _ S Q => Q d S
theorem g_var (i : Nat) {x : Str} {pos : Pos} (hN : X.N[i]? = some x := by rfl) (hv : Vis X.env.scope x := by first | exact Or.inl rfl | exact Or.inr (Or.inl rfl) | exact Or.inr (Or.inr rfl)) (hd : (x == ("__debug__" : Str)) = false := by decide)
    (hcd : (x == ("__classdict__" : Str)) = false := by decide) : GE X (.Name x pos) (eVar i) := pe_weak (pe_var hN hv hd hcd) fun σ H Q ⟨τ, S, F, R, w, r, q, g⟩ => by
  unfold eVar at q
  split at q
  · rename_i d hq
    obtain ⟨v, h1, h2⟩ := r.at' i d hq
    exact ⟨v, h1, g _ _ _ _ q (Aft.refl w) h2⟩
  · exact q.elim
theorem ge_const {d : D} {v : V} (h : PE X e (tC v)) (hd : ∀ T H, Rp X.K T H d v) : GE X e (eC d) := pe_weak h fun σ H Q ⟨τ, S, F, R, w, r, q, g⟩ => g _ _ _ _ q (Aft.refl w) (hd _ _)
theorem g_int {i j pos} : GE X (.Constant (.int i) j pos) (eC (.int i)) := ge_const pe_int fun _ _ => rfl
theorem g_bl {i j pos} : GE X (.Constant (.bool i) j pos) (eC (.bl i)) := ge_const pe_bl fun _ _ => rfl
theorem g_non {j pos} : GE X (.Constant .none j pos) (eC .non) := ge_const pe_non fun _ _ => rfl
theorem g_str {x j pos} : GE X (.Constant (.str x) j pos) (eC (.str x)) := ge_const pe_str fun _ _ => rfl
theorem g_glob {x : Str} {d : D} {v : V} {u : Value} {pos : Pos} (hg : Gl X x) (hm : X.mg x = some u) (r : RelV v u) (hd : ∀ T H, Rp X.K T H d v) (h : (x == ("__debug__" : Str)) = false := by decide) : GE X (.Name x pos) (eC d) := ge_const (pe_glob hg hm r h) hd
theorem g_bltn {x : Str} {d : D} {v : V} {u : Value} {pos : Pos} (hg : Gl X x) (hm : X.mg x = none) (hv : bootBuiltins x = some u) (r : RelV v u) (hd : ∀ T H, Rp X.K T H d v) (hn : x ≠ "__name__" := by decide) (h : (x == ("__debug__" : Str)) = false := by decide) :
    GE X (.Name x pos) (eC d) := ge_const (pe_bltn hg hm hv r hn h) hd

/-! ### operators -/
def eBin (r : O2) (ta tb : ET) : ET := fun τ S Q => ta τ S fun d S1 => tb τ S1 fun e S2 => r d e S2 Q
theorem l2_of {r : O2} {σ : St} {H : Hp} {Q : VK} (h : LE X.K (eBin r ta tb) σ H Q) : tOp (L2O X.K r) (LE X.K ta) (LE X.K tb) σ H Q := by
  obtain ⟨τ, S, F, R, w, r, q, g⟩ := h
  refine le_bin ⟨τ, S, F, w, r, q, fun d e S' v u H' q' a' r1 r2 => ?_⟩
  exact ⟨d, e, S', F, R, a'.wd, r1, r2, q', fun d' S2 v' H2 q2 a2 r2 => g _ _ _ _ q2 (a'.trans a2) r2⟩
theorem g_bin {op : Operator} {r : O2} (ho : G2 X (binaryOp op) r) (ha : GE X a ta) (hb : GE X b tb) : GE X (.BinOp a op b pos) (eBin r ta tb) := pe_weak (pe_op ho ha hb) fun σ H Q h => l2_of h
theorem g_cmp {op : CmpOp} {r : O2} (ho : G2 X (compareOp op) r) (ha : GE X a ta) (hb : GE X b tb) (hm : behindInMarks op b = false := by first | exact nomark _ | rfl) : GE X (.Compare a [op] [b] pos) (eBin r ta tb) := pe_weak (pe_cmpR ho ha hb hm) fun σ H Q h => l2_of h
def eUn (r : O1) (ta : ET) : ET := fun τ S Q => ta τ S fun d S1 => r d S1 Q
theorem l1_of {r : O1} {σ : St} {H : Hp} {Q : VK} (h : LE X.K (eUn r ta) σ H Q) : tUn (L1O X.K r) (LE X.K ta) σ H Q := by
  obtain ⟨τ, S, F, R, w, r, q, g⟩ := h
  refine ⟨τ, S, F, _, w, r, q, fun d S1 v H1 q1 a1 r1 => ?_⟩
  exact ⟨d, S1, F, R, a1.wd, r1, q1, fun d' S2 v' H2 q2 a2 r2 => g _ _ _ _ q2 (a1.trans a2) r2⟩
theorem g_un {op : UnaryOp} {r : O1} (ho : G1 X (unaryOp op) r) (ha : GE X a ta) : GE X (.UnaryOp op a pos) (eUn r ta) := pe_weak (pe_un ho ha) fun σ H Q h => l1_of h

/-! ### tests -/
def tBl (t : ET) : TT' := fun τ S Q => t τ S fun d S1 => match d with
  | .bl b => Q b S1
  | _ => False
theorem lt_of {σ : St} {H : Hp} {Q : Bool → Hp → Prop} (h : LT X.K (tBl t) σ H Q) : tB (LE X.K t) σ H Q := by
  obtain ⟨τ, S, F, R, w, r, q, g⟩ := h
  refine ⟨τ, S, F, _, w, r, q, fun d S1 v H1 q1 a1 r1 => ?_⟩
  split at q1
  · exact ⟨_, r1, g _ _ _ q1 a1⟩
  · exact q1.elim
theorem gt_val (h : GE X e t) (he : ∀ whole, isTrue e X.env whole = (do let v ← whole; standAt e.pos; holding [v] (truthy v)) := by intro _; rfl) : GT X e (tBl t) := pt_weak (pt_val h he) fun σ H Q q => lt_of q
theorem gt_cmp {op : CmpOp} {r : O2} (ho : G2 X (compareOp op) r) (ha : GE X a ta) (hb : GE X b tb) (hm : behindInMarks op b = false := by first | exact nomark _ | rfl) : GT X (.Compare a [op] [b] pos) (tBl (eBin r ta tb)) := by
  refine pt_weak (pt_cmpR ho ha hb hm) fun σ H Q h => ?_
  have h' := lt_of h
  obtain ⟨τ, S, F, R, w, r, q, g⟩ := h'
  exact l2_of ⟨τ, S, F, R, w, r, q, g⟩
theorem gw_pt {t : TT'} (h : GW X e t) : GT X e t := PW.pt h
def tAnd' (t u : TT') : TT' := fun τ S Q => t τ S fun c S1 => if c = true then u τ S1 Q else Q false S1
def tOr' (t u : TT') : TT' := fun τ S Q => t τ S fun c S1 => if c = true then Q true S1 else u τ S1 Q
def tNot' (t : TT') : TT' := fun τ S Q => t τ S fun c S1 => Q (!c) S1
variable {tA tB' : TT'} {rest : List Expr}
theorem gw_and1 (ha : GT X a tA) : GW X (.BoolOp .And [a] pos) tA := pw_and1 ha
theorem gw_or1 (ha : GT X a tA) : GW X (.BoolOp .Or [a] pos) tA := pw_or1 ha
theorem gw_and (ha : GT X a tA) (hb : GW X (.BoolOp .And (b :: rest) pos) tB') : GW X (.BoolOp .And (a :: b :: rest) pos) (tAnd' tA tB') := pw_weak (pw_and ha hb) fun σ H Q ⟨τ, S, F, R, w, r, q, g⟩ => by
  refine ⟨τ, S, F, _, w, r, q, fun c S1 H1 q1 a1 => ?_⟩
  cases c with
  | true => exact ⟨τ, S1, F, R, a1.wd, a1.rps w r, q1, fun b S2 H2 q2 a2 => g _ _ _ q2 (a1.trans a2)⟩
  | false => exact g _ _ _ q1 a1
theorem gw_or (ha : GT X a tA) (hb : GW X (.BoolOp .Or (b :: rest) pos) tB') : GW X (.BoolOp .Or (a :: b :: rest) pos) (tOr' tA tB') := pw_weak (pw_or ha hb) fun σ H Q ⟨τ, S, F, R, w, r, q, g⟩ => by
  refine ⟨τ, S, F, _, w, r, q, fun c S1 H1 q1 a1 => ?_⟩
  cases c with
  | false => exact ⟨τ, S1, F, R, a1.wd, a1.rps w r, q1, fun b S2 H2 q2 a2 => g _ _ _ q2 (a1.trans a2)⟩
  | true => exact g _ _ _ q1 a1
theorem gt_not (ha : GT X a tA) : GT X (.UnaryOp .Not a pos) (tNot' tA) := pt_weak (pt_not ha) fun σ H Q ⟨τ, S, F, R, w, r, q, g⟩ =>
  ⟨τ, S, F, _, w, r, q, fun c S1 H1 q1 a1 => g _ _ _ q1 a1⟩
def eAnd (ta tb : ET) : ET := fun τ S Q => ta τ S fun d S1 => match d with
  | .bl b => if b = true then tb τ S1 Q else Q (.bl false) S1
  | _ => False
def eOr (ta tb : ET) : ET := fun τ S Q => ta τ S fun d S1 => match d with
  | .bl b => if b = true then Q (.bl true) S1 else tb τ S1 Q
  | _ => False
def eNot (ta : ET) : ET := fun τ S Q => ta τ S fun d S1 => match d with
  | .bl b => Q (.bl (!b)) S1
  | _ => False
theorem g_one {op} (h : GE X a t) : GE X (.BoolOp op [a] pos) t := pe_one h
theorem g_and (ha : GE X a ta) (hb : GE X (.BoolOp .And (b :: rest) pos) tb) : GE X (.BoolOp .And (a :: b :: rest) pos) (eAnd ta tb) := pe_weak (pe_and ha hb) fun σ H Q ⟨τ, S, F, R, w, r, q, g⟩ => by
  refine ⟨τ, S, F, _, w, r, q, fun d S1 v H1 q1 a1 r1 => ?_⟩
  split at q1
  · rename_i b
    refine ⟨b, r1, ?_⟩
    cases b with
    | true => exact ⟨τ, S1, F, R, a1.wd, a1.rps w r, q1, fun d S2 v H2 q2 a2 r2 => g _ _ _ _ q2 (a1.trans a2) r2⟩
    | false => exact g _ _ _ _ q1 a1 rfl
  · exact q1.elim
theorem g_not (ha : GE X a ta) : GE X (.UnaryOp .Not a pos) (eNot ta) := pe_weak (pe_not ha) fun σ H Q ⟨τ, S, F, R, w, r, q, g⟩ => by
  refine ⟨τ, S, F, _, w, r, q, fun d S1 v H1 q1 a1 r1 => ?_⟩
  split at q1
  · exact ⟨_, r1, g _ _ _ _ q1 a1 rfl⟩
  · exact q1.elim
def eIf (t : TT') (ta tb : ET) : ET := fun τ S Q => t τ S fun c S1 => if c = true then ta τ S1 Q else tb τ S1 Q
theorem g_ifExp {c : Expr} (hc : GT X c tA) (ha : GE X a ta) (hb : GE X b tb) : GE X (.IfExp c a b pos) (eIf tA ta tb) := pe_weak (pe_ifExp hc ha hb) fun σ H Q ⟨τ, S, F, R, w, r, q, g⟩ => by
  refine ⟨τ, S, F, _, w, r, q, fun c S1 H1 q1 a1 => ?_⟩
  cases c with
  | true => exact ⟨τ, S1, F, R, a1.wd, a1.rps w r, q1, fun d S2 v H2 q2 a2 r2 => g _ _ _ _ q2 (a1.trans a2) r2⟩
  | false => exact ⟨τ, S1, F, R, a1.wd, a1.rps w r, q1, fun d S2 v H2 q2 a2 r2 => g _ _ _ _ q2 (a1.trans a2) r2⟩

/-! ### argument lists, displays -/
def aNil : AT := fun _ S Q => Q [] S
def aCons (t : ET) (u : AT) : AT := fun τ S Q => t τ S fun d S1 => u τ S1 fun ds S2 => Q (d :: ds) S2
variable {es : List Expr} {u : AT}
theorem ga_nil : GA X [] aNil := pa_weak pa_nil fun σ H Q ⟨τ, S, F, R, w, r, q, g⟩ => g _ _ _ _ q (Aft.refl w) rfl
theorem ga_cons (ha : GE X e t) (hr : GA X es u) (hs : starEach (e :: es) X.env = (false, eval e X.env) :: starEach es X.env := by rfl) : GA X (e :: es) (aCons t u) := pa_weak (pa_cons ha hr hs) fun σ H Q ⟨τ, S, F, R, w, r, q, g⟩ => by
  refine ⟨τ, S, F, _, w, r, q, fun d S1 v H1 q1 a1 r1 => ?_⟩
  exact ⟨τ, S1, F, _, a1.wd, a1.rps w r, q1, fun ds S2 vs H2 q2 a2 r2 => g _ _ _ _ q2 (a1.trans a2) ⟨v, vs, rfl, a2.rp a1.wd r1, r2⟩⟩
def eTup (u : AT) : ET := fun τ S Q => u τ S fun ds S1 => ds.length ≤ sizeLine ∧ Q (.tup ds) S1
def eLst (u : AT) : ET := fun τ S Q => u τ S fun ds S1 => ds.length ≤ sizeLine ∧ Q (.lst ds) S1
/-- a list that is to change -/
def eLstM (u : AT) : ET := fun τ S Q => u τ S fun ds S1 => ds.length ≤ sizeLine ∧ ∀ p, S1 p = none → Q (.ref p) (up S1 p (.lst ds))
theorem rp_newT {K : PySem.W.Frag} {S F : Sto} {H : Hp} {p : Addr} {ds : List D} {xs : List V} (w : Wd K S F H) (hp : H p = none) (r : RpL K (cmb S F) H ds xs) : Rp K (cmb S F) (upd H p (.tup xs)) (.tup ds) (.ref p) :=
  ⟨p, xs, rfl, SqT.of upd_same, RpL.ev w.ok (ev_new hp) r⟩
theorem rp_newL {K : PySem.W.Frag} {S F : Sto} {H : Hp} {p : Addr} {ds : List D} {xs : List V} (w : Wd K S F H) (hp : H p = none) (r : RpL K (cmb S F) H ds xs) : Rp K (cmb S F) (upd H p (.lst xs)) (.lst ds) (.ref p) :=
  ⟨p, xs, rfl, w.ok.fresh hp, upd_same, RpL.ev w.ok (ev_new hp) r⟩
theorem sto_newL {K : PySem.W.Frag} {S F : Sto} {H : Hp} {p : Addr} {ds : List D} {xs : List V} (w : Wd K S F H) (hp : H p = none) (r : RpL K (cmb S F) H ds xs) : StO K (up (cmb S F) p (.lst ds)) (upd H p (.lst xs)) p (.lst ds) :=
  ⟨xs, upd_same, RpL.ev w.ok (ev_newS hp) r⟩
theorem sto_set {K : PySem.W.Frag} {S F : Sto} {H : Hp} {p : Addr} {x : SO} {ds : List D} {xs : List V} (w : Wd K S F H) (hp : S p = some x) (r : RpL K (cmb S F) H ds xs) : StO K (up (cmb S F) p (.lst ds)) (upd H p (.lst xs)) p (.lst ds) :=
  ⟨xs, upd_same, RpL.ev w.ok (ev_set (cmb_l hp)) r⟩
theorem g_tup {x1} (h : GA X es u) : GE X (.Tuple es x1 pos) (eTup u) := pe_weak (pe_tup h) fun σ H Q ⟨τ, S, F, R, w, r, q, g⟩ => by
  refine ⟨τ, S, F, _, w, r, q, fun ds S1 vs H1 q1 a1 r1 => ⟨by rw [r1.length]; exact q1.1, fun p hp => ?_⟩⟩
  exact g _ _ _ _ q1.2 (a1.trans (Aft.new a1.wd hp)) (rp_newT a1.wd hp r1)
theorem g_lst (h : GA X es u) : GE X (.List es pos) (eLst u) := pe_weak (pe_lst h) fun σ H Q ⟨τ, S, F, R, w, r, q, g⟩ => by
  refine ⟨τ, S, F, _, w, r, q, fun ds S1 vs H1 q1 a1 r1 => ⟨by rw [r1.length]; exact q1.1, fun p hp => ?_⟩⟩
  exact g _ _ _ _ q1.2 (a1.trans (Aft.new a1.wd hp)) (rp_newL a1.wd hp r1)
theorem g_lstM (h : GA X es u) : GE X (.List es pos) (eLstM u) := pe_weak (pe_lst h) fun σ H Q ⟨τ, S, F, R, w, r, q, g⟩ => by
  refine ⟨τ, S, F, _, w, r, q, fun ds S1 vs H1 q1 a1 r1 => ⟨by rw [r1.length]; exact q1.1, fun p hp => ?_⟩⟩
  have n := cmb_none (a1.wd.ok.fresh hp)
  exact g _ _ _ _ (q1.2 p n.1) (a1.trans (Aft.newS a1.wd hp (sto_newL a1.wd hp r1))) rfl

/-! ### calls of built-ins -/
def eCall (r : OL) (u : AT) : ET := fun τ S Q => u τ S fun ds S1 => r ds S1 Q
theorem ll_of {r : OL} {σ : St} {H : Hp} {Q : VK} (h : LE X.K (eCall r u) σ H Q) : tCB (LLO X.K r) (LA X.K u) σ H Q := by
  obtain ⟨τ, S, F, R, w, r, q, g⟩ := h
  exact ⟨τ, S, F, _, w, r, q, fun ds S1 vs H1 q1 a1 r1 => ⟨ds, S1, F, R, a1.wd, r1, q1, fun d S2 v H2 q2 a2 r2 => g _ _ _ _ q2 (a1.trans a2) r2⟩⟩
variable {x : Str} {p : Pos} {id T : String} {r : OL}
theorem g_callB (hc : GC X (.builtin id) r) (hg : Gl X x) (hm : X.mg x = none) (hv : bootBuiltins x = some (.builtin id)) (ha : GA X (e :: es) u) (hn : x ≠ "__name__" := by decide) (hdb : (x == ("__debug__" : Str)) = false := by decide)
    (he : starEach (e :: es) X.env = (false, eval e X.env) :: starEach es X.env := by rfl) (hpl : (backTo pos (starEach es X.env)).any (·.1) = false := by rfl) : GE X (.Call (.Name x p) (e :: es) [] pos) (eCall r u) :=
  pe_weak (pe_callB hc hg hm hv ha hn hdb he hpl) fun σ H Q h => ll_of h
theorem g_callTy (hc : GC X (.type T) r) (hg : Gl X x) (hm : X.mg x = none) (hv : bootBuiltins x = some (.type T)) (ha : GA X (e :: es) u) (hn : x ≠ "__name__" := by decide) (hdb : (x == ("__debug__" : Str)) = false := by decide)
    (he : starEach (e :: es) X.env = (false, eval e X.env) :: starEach es X.env := by rfl) (hpl : (backTo pos (starEach es X.env)).any (·.1) = false := by rfl) : GE X (.Call (.Name x p) (e :: es) [] pos) (eCall r u) :=
  pe_weak (pe_callTy hc hg hm hv ha hn hdb he hpl) fun σ H Q h => ll_of h
theorem g_callBfun (hc : GC X (.builtin id) r) (hg : Gl X x) (hm : X.mg x = some (.builtin id)) (ha : GA X (e :: es) u) (hdb : (x == ("__debug__" : Str)) = false := by decide)
    (he : starEach (e :: es) X.env = (false, eval e X.env) :: starEach es X.env := by rfl) (hpl : (backTo pos (starEach es X.env)).any (·.1) = false := by rfl) : GE X (.Call (.Name x p) (e :: es) [] pos) (eCall r u) :=
  pe_weak (pe_callBfun hc hg hm ha hdb he hpl) fun σ H Q h => ll_of h
end
end Gx

/-! Gx, part 2: statements, targets, loops, comprehensions. -/
namespace Gx
open PySem PySem.Spec L2

structure EndG where
  nx : Tau → Sto → Prop
  rt : QD
  bk : Tau → Sto → Prop := fun _ _ => False
  ct : Tau → Sto → Prop := fun _ _ => False
abbrev ST := EndG → Tau → Sto → Prop
section
variable (K : PySem.W.Frag)
structure LEnds (S F : Sto) (H : Hp) (G : EndG) (D : Ends) : Prop where
  nx : ∀ τ' S' σ' H', G.nx τ' S' → Aft K S F H S' H' → RpS K (cmb S' F) H' τ' σ' → D.nx σ' H'
  rt : ∀ d S' v H', G.rt d S' → Aft K S F H S' H' → Rp K (cmb S' F) H' d v → D.rt v H'
  bk : ∀ τ' S' σ' H', G.bk τ' S' → Aft K S F H S' H' → RpS K (cmb S' F) H' τ' σ' → D.bk σ' H'
  ct : ∀ τ' S' σ' H', G.ct τ' S' → Aft K S F H S' H' → RpS K (cmb S' F) H' τ' σ' → D.ct σ' H'
def LS (t : ST) : TS := fun D σ H => ∃ (τ : Tau) (S F : Sto) (G : EndG), Wd K S F H ∧ RpS K (cmb S F) H τ σ ∧ t G τ S ∧ LEnds K S F H G D
abbrev TG' := D → Tau → Sto → (Tau → Sto → Prop) → Prop
def LG (t : TG') : TG := fun v σ H Q => ∃ (d : D) (τ : Tau) (S F : Sto) (R : Tau → Sto → Prop), Wd K S F H ∧ RpS K (cmb S F) H τ σ ∧ Rp K (cmb S F) H d v ∧ t d τ S R ∧
  ∀ τ' S' σ' H', R τ' S' → Aft K S F H S' H' → RpS K (cmb S' F) H' τ' σ' → Q σ' H'
abbrev TGs' := List D → Tau → Sto → (Tau → Sto → Prop) → Prop
def LGs (t : TGs') : TGs := fun vs σ H Q => ∃ (ds : List D) (τ : Tau) (S F : Sto) (R : Tau → Sto → Prop), Wd K S F H ∧ RpS K (cmb S F) H τ σ ∧ RpL K (cmb S F) H ds vs ∧ t ds τ S R ∧
  ∀ τ' S' σ' H', R τ' S' → Aft K S F H S' H' → RpS K (cmb S' F) H' τ' σ' → Q σ' H'
/-- what a loop walks: its items, while the guard holds -/
structure Srv (J : It) (S F : Sto) (H : Hp) (g : Sto → Prop) (items : List D) : Prop where
  go : ∀ (i : Nat) x S' F' H', items[i]? = some x → AftF K S F H S' F' H' → g S' → J.go i H' ∧ ∀ v H2, J.yld i H' v H2 → Aft K S' F' H' S' H2 ∧ Rp K (cmb S' F') H2 x v
  stop : ∀ S' F' H', AftF K S F H S' F' H' → g S' → J.stop items.length H'
abbrev IT' := Tau → Sto → (List D → (Sto → Prop) → Sto → Prop) → Prop
def LI (t : IT') : TI := fun σ H R => ∃ (τ : Tau) (S F : Sto) (Z : List D → (Sto → Prop) → Sto → Prop), Wd K S F H ∧ RpS K (cmb S F) H τ σ ∧ t τ S Z ∧
  ∀ items g S' J H', Z items g S' → Aft K S F H S' H' → Srv K J S' F H' g items → R J H'
end
def GS (X : Cx) (st : Stmt) (t : ST) : Prop := PS X st (LS X.K t)
def GSs (X : Cx) (st : List Stmt) (t : ST) : Prop := PSs X st (LS X.K t)
def GG (X : Cx) (e : Expr) (t : TG') : Prop := PG X e (LG X.K t)
def GGs (X : Cx) (es : List Expr) (t : TGs') : Prop := PGs X es (LGs X.K t)
def GI (X : Cx) (tg iter : Expr) (t : IT') : Prop := PI X tg iter (LI X.K t)

section
variable {K : PySem.W.Frag} {S S' S1 F : Sto} {H H' H1 : Hp} {τ : Tau} {σ : St} {G : EndG} {D : Ends}
theorem LEnds.after (h : LEnds K S F H G D) (a : Aft K S F H S1 H1) : LEnds K S1 F H1 G D where
  nx := fun τ' S' σ' H' q a' r => h.nx τ' S' σ' H' q (a.trans a') r
  rt := fun d S' v H' q a' r => h.rt d S' v H' q (a.trans a') r
  bk := fun τ' S' σ' H' q a' r => h.bk τ' S' σ' H' q (a.trans a') r
  ct := fun τ' S' σ' H' q a' r => h.ct τ' S' σ' H' q (a.trans a') r
end
section
variable {X : Cx} {e : Expr} {te : ET} {t u : ST} {pos : Pos} {st : Stmt} {rest : List Stmt} {g : TG'} {gs : TGs'}
/-! ### statements -/
def sNext : ST := fun G τ S => G.nx τ S
def sSeq (t u : ST) : ST := fun G τ S => t { G with nx := u G } τ S
theorem gss_nil : GSs X [] sNext := pss_weak pss_nil fun D σ H ⟨τ, S, F, G, w, r, q, l⟩ => l.nx _ _ _ _ q (Aft.refl w) r
theorem gss_cons (h1 : GS X st t) (h2 : GSs X rest u) : GSs X (st :: rest) (sSeq t u) := pss_weak (pss_cons h1 h2) fun D σ H ⟨τ, S, F, G, w, r, q, l⟩ => by
  refine ⟨τ, S, F, _, w, r, q, ⟨fun τ' S' σ' H' q' a' r' => ?_, l.rt, l.bk, l.ct⟩⟩
  exact ⟨τ', S', F, G, a'.wd, r', q', l.after a'⟩
theorem gss_one (h1 : GS X st t) : GSs X [st] t := pss_one h1
def sBreak : ST := fun G τ S => G.bk τ S
def sCont : ST := fun G τ S => G.ct τ S
theorem gs_break : GS X (.Break pos) sBreak := ps_weak ps_break fun D σ H ⟨τ, S, F, G, w, r, q, l⟩ => l.bk _ _ _ _ q (Aft.refl w) r
def sDrop (te : ET) : ST := fun G τ S => te τ S fun _ S1 => G.nx τ S1
theorem gs_expr (he : GE X e te) (hs : swapsWith e none pos.line X.env = pure false := by rfl) : GS X (.Expr e pos) (sDrop te) := ps_weak (ps_expr he hs) fun D σ H ⟨τ, S, F, G, w, r, q, l⟩ =>
  ⟨τ, S, F, _, w, r, q, fun d S' v H' q' a' r' => l.nx _ _ _ _ q' a' (a'.rps w r)⟩
def sRet (te : ET) : ST := fun G τ S => te τ S G.rt
theorem gs_ret (he : GE X e te) : GS X (.Return (some e) pos) (sRet te) := ps_weak (ps_ret he) fun D σ H ⟨τ, S, F, G, w, r, q, l⟩ =>
  ⟨τ, S, F, _, w, r, q, fun d S' v H' q' a' r' => l.rt _ _ _ _ q' a' r'⟩
def sRetN : ST := fun G _ S => G.rt .non S
def sIf (c : TT') (t u : ST) : ST := fun G τ S => c τ S fun b S1 => if b = true then t G τ S1 else u G τ S1
theorem gs_if {c : Expr} {a b : List Stmt} {tc : TT'} (hc : GT X c tc) (ha : GSs X a t) (hb : GSs X b u) : GS X (.If c a b pos) (sIf tc t u) := ps_weak (ps_if hc ha hb) fun D σ H ⟨τ, S, F, G, w, r, q, l⟩ => by
  refine ⟨τ, S, F, _, w, r, q, fun b S1 H1 q1 a1 => ?_⟩
  cases b with
  | true => exact ⟨τ, S1, F, G, a1.wd, a1.rps w r, q1, l.after a1⟩
  | false => exact ⟨τ, S1, F, G, a1.wd, a1.rps w r, q1, l.after a1⟩
def sNever : ST := fun _ _ _ => False
theorem gs_never : GS X st sNever := ps_weak ps_never fun D σ H ⟨τ, S, F, G, w, r, q, l⟩ => q.elim

/-! ### targets -/
def gNm (i : Nat) : TG' := fun d τ S Q => Q (τ.set i (some d)) S
theorem gg_name (i : Nat) {x : Str} (hN : X.N.Nodup) (hi : X.N[i]? = some x := by rfl) (hx : Loc X.env.scope x := by first | exact Or.inl rfl | exact Or.inr rfl) (hf : X.fn x = true ∨ X.env.scope.names.lookup x = some .local := by first | exact .inl rfl | exact .inr rfl | assumption) : GG X (.Name x pos) (gNm i) :=
  ⟨fun pins s σ H v u Q I r h => (pg_name hN hi hx hf).run pins s σ H v u Q I r (by
    obtain ⟨d, τ, S, F, R, w, rs, rd, q, l⟩ := h
    exact l _ _ _ _ q (Aft.refl w) (rs.set i rd))⟩
def gsNil : TGs' := fun ds τ S Q => match ds with
  | [] => Q τ S
  | _ => False
def gsCons (t : TG') (u : TGs') : TGs' := fun ds τ S Q => match ds with
  | d :: ds => t d τ S fun τ' S' => u ds τ' S' Q
  | _ => False
theorem ggs_nil : GGs X [] gsNil := ⟨fun pins s σ H vs us Q I r h => (pgs_nil).run pins s σ H vs us Q I r (by
    obtain ⟨ds, τ, S, F, R, w, rs, rd, q, l⟩ := h
    cases ds with
    | nil => exact ⟨rd, l _ _ _ _ q (Aft.refl w) rs⟩
    | cons _ _ => exact q.elim)⟩
theorem ggs_cons {es : List Expr} (h1 : GG X e g) (h2 : GGs X es gs) (hs : (assignEach (e :: es) X.env).map (·.2) = assign e X.env :: (assignEach es X.env).map (·.2) := by rfl) : GGs X (e :: es) (gsCons g gs) :=
  ⟨fun pins s σ H vs us Q I r h => (pgs_cons h1 h2 hs).run pins s σ H vs us Q I r (by
    obtain ⟨ds, τ, S, F, R, w, rs, rd, q, l⟩ := h
    cases ds with
    | nil => exact q.elim
    | cons d ds =>
      obtain ⟨v, vr, rfl, r1, r2⟩ := rd
      refine ⟨v, vr, rfl, d, τ, S, F, _, w, rs, r1, q, fun τ' S' σ' H' q' a' r' => ?_⟩
      exact ⟨ds, τ', S', F, R, a'.wd, r', a'.rpl w r2, q', fun τ2 S2 σ2 H2 q2 a2 r2 => l _ _ _ _ q2 (a'.trans a2) r2⟩)⟩
/-- a tuple is unpacked -/
def gTupl (n : Nat) (gs : TGs') : TG' := fun d τ S Q => match d with
  | .tup ds => ds.length = n ∧ gs ds τ S Q
  | _ => False
theorem gg_tup {es : List Expr} {k : Nat} {n : Nat} (hc : X.calm = true) (h : GGs X es gs) (hn : (assignEach es X.env).length = n := by rfl) (hst : (assignEach es X.env).findIdx? (·.1) = none := by rfl) : GG X (.Tuple es k pos) (gTupl n gs) :=
  ⟨fun pins s σ H v u Q I r h' => (pg_tup hc h hn hst).run pins s σ H v u Q I r (by
    obtain ⟨d, τ, S, F, R, w, rs, rd, q, l⟩ := h'
    unfold gTupl at q
    split at q
    · rename_i ds
      obtain ⟨a, xs, rfl, hs, rl⟩ := rd
      exact ⟨a, xs, rfl, hs, rl.length.trans q.1, ds, τ, S, F, R, w, rs, rl, q.2, l⟩
    · exact q.elim)⟩
/-- o[i] = v -/
abbrev OSet := D → D → D → Sto → (Sto → Prop) → Prop
def LSet (K : PySem.W.Frag) (t : OSet) : TSet := fun o i v H Q => ∃ (d e f : D) (S F : Sto) (R : Sto → Prop), Wd K S F H ∧ Rp K (cmb S F) H d o ∧ Rp K (cmb S F) H e i ∧ Rp K (cmb S F) H f v ∧ t d e f S R ∧
  ∀ S' H', R S' → Aft K S F H S' H' → Q H'
def GSet (X : Cx) (t : OSet) : Prop := PSet X (LSet X.K t)
def gSubs (to ti : ET) (t : OSet) : TG' := fun f τ S Q => to τ S fun d S1 => ti τ S1 fun e S2 => t d e f S2 fun S3 => Q τ S3
theorem gg_sub {o i : Expr} {to ti : ET} {t : OSet} (ho : GE X o to) (hi : GE X i ti) (hs : GSet X t)
    (ha : ∀ v, assign (.Subscript o i pos) X.env v = (do let ov ← holding [v] (eval o X.env); let iv ← holding [v, ov] (eval i X.env); standAt pos; holding [v, ov, iv] (setItem ov iv v); release [v, ov, iv] []) := by intro _; rfl) : GG X (.Subscript o i pos) (gSubs to ti t) :=
  ⟨fun pins s σ H v u Q I r h' => (pg_sub ho hi hs ha).run pins s σ H v u Q I r (by
    obtain ⟨f, τ, S, F, R, w, rs, rd, q, l⟩ := h'
    refine ⟨τ, S, F, _, w, rs, q, fun d S1 v1 H1 q1 a1 r1 => ?_⟩
    refine ⟨τ, S1, F, _, a1.wd, a1.rps w rs, q1, fun e S2 v2 H2 q2 a2 r2 => ?_⟩
    refine ⟨d, e, f, S2, F, _, a2.wd, a2.rp a1.wd r1, r2, a2.rp a1.wd (a1.rp w rd), q2, fun S3 H3 q3 a3 => ?_⟩
    exact l _ _ _ _ q3 ((a1.trans a2).trans a3) (((a1.trans a2).trans a3).rps w rs))⟩

/-! ### assignments -/
def sAsg (te : ET) (g : TG') : ST := fun G τ S => te τ S fun d S1 => g d τ S1 G.nx
theorem asg_of {D : Ends} {σ : St} {H : Hp} (h : LS X.K (sAsg te g) D σ H) : tAsg (LE X.K te) (LG X.K g) D σ H := by
  obtain ⟨τ, S, F, G, w, r, q, l⟩ := h
  refine ⟨τ, S, F, _, w, r, q, fun d S1 v H1 q1 a1 r1 => ?_⟩
  exact ⟨d, τ, S1, F, _, a1.wd, a1.rps w r, r1, q1, fun τ' S' σ' H' q' a' r' => l.nx _ _ _ _ q' (a1.trans a') r'⟩
theorem gs_asg {tg : Expr} (he : GE X e te) (hg : GG X tg g) (hs : swapsWithSole [tg] e pos.line X.env = pure false := by rfl) (hw : swappedStores [tg] e X.env = pure none := by rfl)
    (h1 : (assignEach [tg] X.env).map (·.2) = [assign tg X.env] := by rfl) : GS X (.Assign [tg] e pos) (sAsg te g) := ps_weak (ps_asg he hg hs hw h1) fun D σ H h => asg_of h
theorem gs_set (i : Nat) {x : Str} {pos' : Pos} (hN : X.N.Nodup) (he : GE X e te) (hi : X.N[i]? = some x := by rfl) (hx : Loc X.env.scope x := by first | exact Or.inl rfl | exact Or.inr rfl) (hs : swapsWith e (some (.Name x pos')) pos.line X.env = pure false := by rfl)
    (hf : X.fn x = true ∨ X.env.scope.names.lookup x = some .local := by first | exact .inl rfl | exact .inr rfl | assumption) : GS X (.Assign [.Name x pos'] e pos) (sAsg te (gNm i)) :=
  ps_weak (ps_set hN hi hx he hs hf) fun D σ H ⟨τ, S, F, G, w, r, q, l⟩ =>
    ⟨τ, S, F, _, w, r, q, fun d S1 v H1 q1 a1 r1 => l.nx _ _ _ _ q1 a1 ((a1.rps w r).set i r1)⟩
def sPar (i j : Nat) (u : AT) : ST := fun G τ S => u τ S fun ds S1 => match ds with
  | [d, e] => G.nx ((τ.set i (some d)).set j (some e)) S1
  | _ => False
theorem gs_par (i j : Nat) {x y : Str} {a b : Expr} {u : AT} {px py pt : Pos} {kt k2 pt2} (hc : X.calm = true) (hN : X.N.Nodup) (ha : GA X [a, b] u) (hi : X.N[i]? = some x := by rfl) (hj : X.N[j]? = some y := by rfl) (hij : i ≠ j := by decide)
    (hx : X.env.scope.names.lookup x = some .local := by rfl) (hy : X.env.scope.names.lookup y = some .local := by rfl)
    (hw : swappedStores [.Tuple [.Name x px, .Name y py] kt pt] (.Tuple [a, b] k2 pt2) X.env = pure (some [x, y]) := by rfl)
    (hs : swapsWithSole [.Tuple [.Name x px, .Name y py] kt pt] (.Tuple [a, b] k2 pt2) pos.line X.env = pure false := by rfl) : GS X (.Assign [.Tuple [.Name x px, .Name y py] kt pt] (.Tuple [a, b] k2 pt2) pos) (sPar i j u) :=
  ps_weak (ps_par hc hN hi hj hij hx hy ha hw hs) fun D σ H ⟨τ, S, F, G, w, r, q, l⟩ => by
    refine ⟨τ, S, F, _, w, r, q, fun ds S1 vs H1 q1 a1 r1 => ?_⟩
    split at q1
    · obtain ⟨v, vr, rfl, rv, z, vr2, rfl, rz, rfl⟩ := r1
      exact ⟨v, z, rfl, l.nx _ _ _ _ q1 a1 (((a1.rps w r).set i rv).set j rz)⟩
    · exact q1.elim
def sPar3 (i j k : Nat) (u : AT) : ST := fun G τ S => u τ S fun ds S1 => match ds with
  | [d, e, f] => G.nx (((τ.set i (some d)).set j (some e)).set k (some f)) S1
  | _ => False
/-! ### loops -/
def forG (g : TG') (tb : ST) (gd : Sto → Prop) : List D → ST
  | [] => fun G τ S => gd S ∧ G.nx τ S
  | x :: xs => fun G τ S => gd S ∧ g x τ S fun τ1 S1 => tb { G with nx := forG g tb gd xs G, ct := forG g tb gd xs G, bk := G.nx } τ1 S1
def sFor (ti : IT') (g : TG') (tb : ST) : ST := fun G τ S => ti τ S fun items gd S1 => forG g tb gd items G τ S1
theorem gs_for {tg iter : Expr} {body : List Stmt} {ti : IT'} {tb : ST} (hp : PassesOwn (model X.prog X.w) X.A X.env X.xe) (hc : X.calm = true) (hi : GI X tg iter ti) (hg : GG X tg g) (hb : GSs X body tb)
    (hs : ∀ x, foldedSetIterable iter X.env x = pure x := by intro _; rfl) : GS X (.For tg iter body [] pos) (sFor ti g tb) := ps_weak (ps_for hp hc hi hg hb hs) fun D σ H ⟨τ, S, F, G, w, r, q, l⟩ => by
  refine ⟨τ, S, F, _, w, r, q, fun items gd S1 J H1 q1 a1 sv => ?_⟩
  refine ⟨fun i m σ' H' => ∃ τ' S', m = items.length - i ∧ i ≤ items.length ∧ Aft X.K S1 F H1 S' H' ∧ RpS X.K (cmb S' F) H' τ' σ' ∧ forG g tb gd (items.drop i) G τ' S', ⟨_, τ, S1, rfl, Nat.zero_le _, Aft.refl a1.wd, a1.rps w r, by simpa using q1⟩, ?_⟩
  rintro i m σ' H' ⟨τ', S', rfl, hi, a', r', q'⟩
  by_cases hlt : i < items.length
  · rw [List.drop_eq_getElem_cons hlt] at q'
    obtain ⟨gd', q'⟩ := q'
    obtain ⟨g1, g2⟩ := sv.go i _ S' F H' (List.getElem?_eq_getElem hlt) a' gd'
    refine .inr ⟨g1, fun σ2 H2 => ∃ τ2 S2, Aft X.K S1 F H1 S2 H2 ∧ RpS X.K (cmb S2 F) H2 τ2 σ2 ∧ forG g tb gd (items.drop (i + 1)) G τ2 S2, fun σ2 H2 ⟨τ2, S2, a2, r2, q2⟩ => ⟨_, by omega, τ2, S2, rfl, hlt, a2, r2, q2⟩, fun v H2 y => ?_⟩
    obtain ⟨a2, rv⟩ := g2 v H2 y
    refine ⟨items[i], τ', S', F, _, a2.wd, a2.rps a'.wd r', rv, q', fun τ3 S3 σ3 H3 q3 a3 r3 => ?_⟩
    refine ⟨τ3, S3, F, _, a3.wd, r3, q3, ⟨fun τ4 S4 σ4 H4 q4 a4 r4 => ⟨τ4, S4, ((a'.trans a2).trans a3).trans a4, r4, q4⟩, fun d S4 v4 H4 q4 a4 r4 => ?_, fun τ4 S4 σ4 H4 q4 a4 r4 => ?_, fun τ4 S4 σ4 H4 q4 a4 r4 => ⟨τ4, S4, ((a'.trans a2).trans a3).trans a4, r4, q4⟩⟩⟩
    · exact l.rt _ _ _ _ q4 (a1.trans (((a'.trans a2).trans a3).trans a4)) r4
    · exact l.nx _ _ _ _ q4 (a1.trans (((a'.trans a2).trans a3).trans a4)) r4
  · have e : i = items.length := by omega
    subst e
    rw [List.drop_length] at q'
    obtain ⟨gd', q'⟩ := q'
    exact .inl ⟨sv.stop S' F H' a' gd', l.nx _ _ _ _ q' (a1.trans a') r'⟩

def whG (c : TT') (tb : ST) : Nat → ST
  | 0 => fun _ _ _ => False
  | n + 1 => fun G τ S => c τ S fun b S1 => if b = true then tb { G with nx := whG c tb n G, ct := whG c tb n G, bk := G.nx } τ S1 else G.nx τ S1
def sWh (c : TT') (tb : ST) : ST := fun G τ S => ∃ n, whG c tb n G τ S
theorem gs_while {c : Expr} {body : List Stmt} {tc : TT'} {tb : ST} (hp : PassesOwn (model X.prog X.w) X.A X.env X.xe) (hc : GT X c tc) (hb : GSs X body tb) : GS X (.While c body [] pos) (sWh tc tb) := ps_weak (ps_while hp hc hb) fun D σ H ⟨τ, S, F, G, w, r, ⟨n, q⟩, l⟩ => by
  refine ⟨fun m σ' H' => ∃ τ' S', Aft X.K S F H S' H' ∧ RpS X.K (cmb S' F) H' τ' σ' ∧ whG tc tb m G τ' S', ⟨n, τ, S, Aft.refl w, r, q⟩, ?_⟩
  rintro m σ' H' ⟨τ', S', a', r', q'⟩
  cases m with
  | zero => exact q'.elim
  | succ m =>
    refine ⟨τ', S', F, _, a'.wd, r', q', fun b S1 H1 q1 a1 => ?_⟩
    cases b with
    | false => exact l.nx _ _ _ _ q1 (a'.trans a1) (a1.rps a'.wd r')
    | true =>
      refine ⟨fun σ2 H2 => ∃ τ2 S2, Aft X.K S F H S2 H2 ∧ RpS X.K (cmb S2 F) H2 τ2 σ2 ∧ whG tc tb m G τ2 S2, fun σ2 H2 z => ⟨m, Nat.lt_succ_self _, z⟩, ?_⟩
      refine ⟨τ', S1, F, _, a1.wd, a1.rps a'.wd r', q1, ⟨fun τ4 S4 σ4 H4 q4 a4 r4 => ⟨τ4, S4, (a'.trans a1).trans a4, r4, q4⟩, fun d S4 v4 H4 q4 a4 r4 => ?_, fun τ4 S4 σ4 H4 q4 a4 r4 => ?_, fun τ4 S4 σ4 H4 q4 a4 r4 => ⟨τ4, S4, (a'.trans a1).trans a4, r4, q4⟩⟩⟩
      · exact l.rt _ _ _ _ q4 ((a'.trans a1).trans a4) r4
      · exact l.nx _ _ _ _ q4 ((a'.trans a1).trans a4) r4
end
end Gx

/-! Gx, part 3: what loops walk. -/
namespace Gx
open PySem PySem.Spec PyProof.Rows L2

/-! ### enumerate over a tuple -/
def IteT (K : PySem.W.Frag) (a : Addr) : It :=
  ⟨fun i H => ∃ (xs : List V) (x : V), SqT K H a xs ∧ xs[i]? = some x, fun i H v H' => ∃ T x, v = .ref T ∧ H T = none ∧ H' = upd H T (.tup [.int (i : Nat), x]) ∧ ∀ xs, SqT K H a xs → xs[i]? = some x, fun i H => ∃ xs : List V, SqT K H a xs ∧ xs.length = i⟩
theorem turn_enumT {P : Program} {w : World} {K : PySem.W.Frag} {elts : List Expr} {kk : Nat} {tpos : Pos} (a e it : Addr) :
    Turn P w K (.Tuple elts kk tpos) (IteT K a) [e, it] e (fun i h => (∃ old, IsEnum h e it ((i : Nat) : Int) old) ∧ h.IsTupleIter it a i ∧ e ≠ it ∧ a ≠ it ∧ e ≠ a) where
  mem := List.mem_cons_self
  obj := fun i h ⟨⟨old, he⟩, ⟨o, ho, hc, hd⟩, _⟩ b hb => by
    rcases List.mem_cons.mp hb with rfl | hb
    · exact ⟨_, he, fun v q => nomatch q⟩
    · rw [List.mem_singleton.mp hb]; exact ⟨o, ho, fun v q => by rw [hd] at q; cases q⟩
  keep := fun i h h' st k => let ⟨⟨old, he⟩, hi, hne⟩ := st; ⟨⟨old, k e List.mem_cons_self _ he⟩, hi.at fun o q => k it (by simp) o q, hne⟩
  item := by
    intro X hP hw hK hc i pins s σ H E I hf st hg
    subst hP hw hK
    obtain ⟨⟨old, he⟩, hit, hne, hai, hea⟩ := st
    obtain ⟨xs, x, hq, hx⟩ := hg
    obtain ⟨its, rv, p, hz⟩ := I.tuple hq
    obtain ⟨u, hu, ru⟩ := rv.get hx
    have hel : e < s.heap.objs.size := Heap.lt_size he
    have hil : it < s.heap.objs.size := by obtain ⟨_, q, _⟩ := hit; exact Heap.lt_size q
    have hlt : i < its.toArray.size := by rw [List.size_toArray]; exact (List.getElem?_eq_some_iff.mp hu).1
    have Dw := Draws.tuple (prog := X.prog) (w := X.w) (A := X.A.in1) (I.ok.hd hc) it a hai its.toArray
    refine wpAny_pyNext_enum_itemC Dw he ⟨hit, p⟩ hlt hne (by simp [hne, hea]) fun u' h' tk hu' ho hst' hT hsz hk => ?_
    have eu : u' = u := by rw [List.getElem?_toArray, hu] at hu'; exact (Option.some.inj hu').symm
    subst eu
    refine ⟨_, rfl, wpAny_letOwnedTupleGo_enum (s := { s with heap := h', toks := tk + 1 }) ho fun h'' he' sb => ?_⟩
    have hT2 : h''.get? s.heap.objs.size = some { cls := .type "tuple", data := .seq #[.int i tk, u'] } := (sb.2 _ (Nat.ne_of_gt hel)).trans hT
    have new : ObjOk X.prog X.w (upd H s.heap.objs.size (.tup [.int (i : Nat), x])) h'' s.heap.objs.size (.tup [.int (i : Nat), x]) :=
      ⟨by show 2 ≤ sizeLine; decide, [.int i tk, u'], .cons ⟨_, rfl⟩ (.cons ru .nil), ⟨_, hT2, rfl, _, rfl⟩⟩
    have I1 : Inv X pins σ (upd H s.heap.objs.size (.tup [.int (i : Nat), x])) { s with heap := h'', toks := tk + 1 } :=
      I.turnedNew (t' := tk + 1) (ch := [e, it]) (fun b ob hb q => (sb.2 b (fun z => hb (by simp [z]))).trans (hk b ob (fun z => hb (by simp [z])) (fun z => hb (by simp [z])) q)) hf (Nat.le_refl _) new
    refine ⟨.ref s.heap.objs.size, _, I1, rfl, ⟨_, x, rfl, I.hok.fresh (Nat.le_refl _), rfl, fun ys hy => by rw [I.tuple_inj hy hq]; exact hx⟩, ⟨⟨u', ?_⟩, hst'.1.at fun o q => (sb.2 it (Ne.symm hne)).trans q, hne, hai, hea⟩, fun b hb => ?_⟩
    · rw [show ((i + 1 : Nat) : Int) = (i : Int) + 1 from by omega]; exact he'
    · have hb' : b < s.heap.objs.size := by
        rcases List.mem_cons.mp hb with rfl | hb
        · exact hel
        · rw [List.mem_singleton.mp hb]; exact hil
      rw [upd_ne (Nat.ne_of_lt hb')]
      exact (hf b hb).1
  done := by
    intro X hP hw hK hc i pins s σ H E I hf st hg
    subst hP hw hK
    obtain ⟨⟨old, he⟩, hit, hne, hai, hea⟩ := st
    obtain ⟨xs, hq, hx⟩ := hg
    obtain ⟨its, rv, p, hz⟩ := I.tuple hq
    obtain ⟨f0, f1, f2, f3, f4, f5⟩ := hf it (by simp)
    have hl : i = its.toArray.size := by rw [List.size_toArray, ← rv.length, hx]
    subst hl
    exact wpAny_pyNext_enum_endD (Draws.tuple (prog := X.prog) (w := X.w) (A := X.A.in1) (I.ok.hd hc) it a hai its.toArray) he ⟨hit, p⟩ fun h' eb => ⟨rfl, I.turned (t' := s.toks) (fun b o hb q => eb b o hb q) f0 f1 f3 f4 f5⟩
  self := fun A i s Q E st h => let ⟨⟨_, he⟩, _⟩ := st; wpAny_pyIter_enum he h
theorem meets_enum1 {v : Value} {o : Obj} {G : Heap → Prop} (B : Begins v o G) :
    Meets (Builtin.«enumerate.__new__» ⟨[.type "enumerate", v], []⟩) (fun _ R s => G s.heap ∧
      R (.ok (.ret (.ref (s.heap.push o).objs.size))) { s with heap := (s.heap.push o).push { cls := .type "enumerate", data := .fields #[.none, .bool false, .ref s.heap.objs.size, rawInt 0, .none, .none] } }) :=
  .of_wp fun prog w A R s h => by
    obtain ⟨hp, g, d, tk, os⟩ := s
    obtain ⟨h1, h⟩ := h
    have hsub := sub_enumerate
    have q1 : ∀ {A' : Around} {E : Value → Shared → Prop} {Q : Value → Shared → Prop}, Q (.ref hp.objs.size) ⟨hp.push o, g, d, tk, os⟩ → wpAny (model prog w) A' (pyIter v) Q E ⟨hp, g, d, tk, os⟩ :=
      fun q => B.iter prog w _ _ ⟨hp, g, d, tk, os⟩ _ h1 q
    wp_walk using q1
    refine wpAny_stack_any fun st => wpAny_pure ?_
    split
    · rename_i c _ _ _ _ _
      cases (c == Value.type "enumerate") <;> (wp_walk using q1; exact ⟨_, rfl, h⟩)
    · (wp_walk using q1; exact ⟨_, rfl, h⟩)
theorem enum_begins1 {prog : Program} {w : World} {A : Around} {E : Value → Shared → Prop} {s : Shared} {v : Value} {o : Obj} {G : Heap → Prop} {Q : Value → Shared → Prop} (B : Begins v o G) (h1 : G s.heap)
    (h : ∀ h', IsEnum h' (s.heap.objs.size + 1) s.heap.objs.size 0 .none → h'.get? s.heap.objs.size = some o → h'.objs.size = s.heap.objs.size + 2 → (∀ b o, s.heap.get? b = some o → h'.get? b = some o) → Q (.ref (s.heap.objs.size + 1)) { s with heap := h' }) :
    wpAny (model prog w) A (call (.type "enumerate") [v]) Q E s := by
  refine callType_new F.called_enumerate (by decide) (F.typeCall_enumerate_1 _) (F.newCall_enumerate_1 _) (fun obj => F.args_object_init_2 obj _) F.entry_enumerate_new (meets_enum1 B) ⟨h1, ?_⟩
  have hz : (s.heap.push o).objs.size = s.heap.objs.size + 1 := Heap.size_push ..
  show _ ∧ _
  rw [hz]
  have he : IsEnum ((s.heap.push o).push { cls := .type "enumerate", data := .fields #[.none, .bool false, .ref s.heap.objs.size, rawInt 0, .none, .none] }) (s.heap.objs.size + 1) s.heap.objs.size 0 .none := by
    have e := Heap.get?_push_size (s.heap.push o) (o := { cls := .type "enumerate", data := .fields #[.none, .bool false, .ref s.heap.objs.size, rawInt 0, .none, .none] }) rfl
    rw [hz] at e; exact e
  exact ⟨⟨_, he, rfl⟩, h _ he (Heap.get?_push_of_some _ (Heap.get?_push_size _ B.free)) (by rw [Heap.size_push, hz]) fun b o x => Heap.get?_push_of_some _ (Heap.get?_push_of_some _ x)⟩
def iEnumT (K : PySem.W.Frag) (ta : TA) : TI := fun σ H R => ta σ H fun vs H1 => ∃ a xs, vs = [.ref a] ∧ ((SqL K H1 a xs ∧ R (Ite K a) H1) ∨ (SqT K H1 a xs ∧ R (IteT K a) H1))
theorem pi_enumT {X : Cx} {e : Expr} {ta : TA} {p pos tpos : Pos} {elts : List Expr} {kk : Nat} (hg : Gl X "enumerate") (hm : X.mg "enumerate" = none) (ha : PA X [e] ta) (hs : starEach [e] X.env = [(false, eval e X.env)] := by rfl) :
    PI X (.Tuple elts kk tpos) (.Call (.Name "enumerate" p) [e] [] pos) (iEnumT X.K ta) := by
  refine ⟨fun pins s σ H R I h => ?_⟩
  refine Call_ (ld_blt I hg hm boot_enumerate (PyProof.Rows.callWith_type1 (thn (ha.run pos pins s σ H _ I h) fun us s1 ⟨vs, H1, I1, r1, q1⟩ => ?_) hs rfl))
  obtain ⟨a, xs, rfl, q1⟩ := q1
  cases r1 with
  | cons r rr =>
    cases rr
    cases r
    have fresh2 : ∀ c ∈ [s1.heap.objs.size + 1, s1.heap.objs.size], FpOk X pins H1 c := fun c hcm => by
      have hle : s1.heap.objs.size ≤ c := by
        rcases List.mem_cons.mp hcm with rfl | hcm
        · exact Nat.le_succ _
        · rw [List.mem_singleton.mp hcm]; exact Nat.le_refl _
      exact I1.fpOk hle (I1.hok.fresh hle)
    rcases q1 with ⟨hq, q⟩ | ⟨hq, q⟩
    · obtain ⟨its, rv, p', hz⟩ := I1.list hq
      refine call_enumerate_list p'.isList fun h' he hit hsz hk => wpAny_pyIter_enum he ?_
      exact ⟨s1.heap.objs.size + 1, [s1.heap.objs.size + 1, s1.heap.objs.size], _, _, H1, rfl, I1.kept (t' := s1.toks) hk, turn_enum a (s1.heap.objs.size + 1) s1.heap.objs.size, ⟨⟨.none, he⟩, hit, Nat.succ_ne_self _⟩, fresh2, q⟩
    · obtain ⟨its, rv, p', hz⟩ := I1.tuple hq
      have hal : a < s1.heap.objs.size := by obtain ⟨o, ho, _⟩ := id p'; exact Heap.lt_size ho
      have hen : ∀ (h' : Heap), IsEnum h' (s1.heap.objs.size + 1) s1.heap.objs.size 0 .none → h'.get? s1.heap.objs.size = some { cls := .type "tuple_iterator", data := .fields #[.ref a, .int 0 0] } → (∀ b o, s1.heap.get? b = some o → h'.get? b = some o) →
          wpAny (model X.prog X.w) X.A (pyIter (.ref (s1.heap.objs.size + 1))) (PIE X pins σ (.Tuple elts kk tpos) R) X.xe { s1 with heap := h' } := fun h' he hit hk => by
        refine wpAny_pyIter_enum he ?_
        exact ⟨s1.heap.objs.size + 1, [s1.heap.objs.size + 1, s1.heap.objs.size], _, _, H1, rfl, I1.kept (t' := s1.toks) hk, turn_enumT a (s1.heap.objs.size + 1) s1.heap.objs.size,
          ⟨⟨.none, he⟩, ⟨_, hit, rfl, rfl⟩, Nat.succ_ne_self _, Nat.ne_of_lt hal, Nat.ne_of_gt (Nat.lt_succ_of_lt hal)⟩, fresh2, q⟩
      exact enum_begins1 (begins_tuple a its.toArray) (show s1.heap.IsTuple a its.toArray from p') fun h' he hit hsz hk => hen h' he hit hk
end Gx

/-! Gx, part 4: sources of loops and comprehensions over data; comprehensions. -/
namespace Gx
open PySem PySem.Spec PyProof.Rows L2

section
variable {K : PySem.W.Frag} {S S' S1 F : Sto} {H H' H1 : Hp} {T : Sto}
/-- the items of a list or a tuple, and what has to stay that they do -/
def seqG (S : Sto) (Z : List D → (Sto → Prop) → Sto → Prop) : D → Prop
  | .tup ds => Z ds (fun _ => True) S
  | .lst ds => Z ds (fun _ => True) S
  | .scr ds => Z ds (fun _ => True) S
  | .ref p => match S p with
    | some (.lst ds) => Z ds (fun S' => S' p = some (.lst ds)) S
    | _ => False
  | _ => False
/-- a list that is read: pure, the script, or one that changes -/
def ListAt (K : PySem.W.Frag) (S F : Sto) (H : Hp) (a : Addr) (ds : List D) (g : Sto → Prop) : Prop :=
  ∀ S' F' H', AftF K S F H S' F' H' → g S' → ∃ xs, SqL K H' a xs ∧ RpL K (cmb S' F') H' ds xs
def TupAt (K : PySem.W.Frag) (S F : Sto) (H : Hp) (a : Addr) (ds : List D) (g : Sto → Prop) : Prop :=
  ∀ S' F' H', AftF K S F H S' F' H' → g S' → ∃ xs, SqT K H' a xs ∧ RpL K (cmb S' F') H' ds xs
theorem seq_cases {d : D} {v : V} {Z : List D → (Sto → Prop) → Sto → Prop} (w : Wd K S F H) (r : Rp K (cmb S F) H d v) (h : seqG S Z d) :
    ∃ a ds g, v = .ref a ∧ Z ds g S ∧ g S ∧ (ListAt K S F H a ds g ∨ TupAt K S F H a ds g) := by
  unfold seqG at h
  split at h
  · rename_i ds
    obtain ⟨a, xs, rfl, hs, rl⟩ := r
    exact ⟨a, ds, _, rfl, h, trivial, .inr fun S' F' H' af _ => ⟨xs, SqT.ev w.ok af.ev hs, af.rpl w rl⟩⟩
  · rename_i ds
    obtain ⟨a, xs, rfl, n, hs, rl⟩ := r
    exact ⟨a, ds, _, rfl, h, trivial, .inl fun S' F' H' af _ => ⟨xs, .of (af.ev _ _ hs n).1, af.rpl w rl⟩⟩
  · rename_i ds
    obtain ⟨a, xs, rfl, hs, rl⟩ := r
    exact ⟨a, ds, _, rfl, h, trivial, .inl fun S' F' H' af _ => ⟨xs, hs.elim (fun hs => .inl (Rd.ev hs.1 af.ev hs.2).1) (fun hs => ScrAt.sq (T := S') (.inr hs)), af.rpl w rl⟩⟩
  · rename_i p
    split at h
    · rename_i ds e
      refine ⟨p, ds, _, r, h, e, .inl fun S' F' H' af e' => ?_⟩
      obtain ⟨xs, q, rl⟩ := af.wd.ok p _ (cmb_l e')
      exact ⟨xs, .of q, rl⟩
    · exact h.elim
  · exact h.elim
end
section
variable {K : PySem.W.Frag} {S S' S1 F : Sto} {H H' H1 : Hp}
theorem srv_l {a : Addr} {ds : List D} {g : Sto → Prop} (h : ListAt K S F H a ds g) : Srv K (Itl K a) S F H g ds where
  go := fun i x S' F' H' e af gs => by
    obtain ⟨xs, q, rl⟩ := h S' F' H' af gs
    obtain ⟨v, e1, rv⟩ := rl.get e
    refine ⟨⟨xs, v, q, e1⟩, fun u H2 ⟨e2, y⟩ => ?_⟩
    subst e2
    have z := y xs q
    rw [e1] at z; cases z
    exact ⟨Aft.refl af.wd, rv⟩
  stop := fun S' F' H' af gs => by
    obtain ⟨xs, q, rl⟩ := h S' F' H' af gs
    exact ⟨xs, q, Nat.le_of_eq rl.length⟩
theorem srv_t {a : Addr} {ds : List D} {g : Sto → Prop} (h : TupAt K S F H a ds g) : Srv K (Itt K a) S F H g ds where
  go := fun i x S' F' H' e af gs => by
    obtain ⟨xs, q, rl⟩ := h S' F' H' af gs
    obtain ⟨v, e1, rv⟩ := rl.get e
    refine ⟨⟨xs, v, q, e1⟩, fun u H2 ⟨e2, y⟩ => ?_⟩
    subst e2
    have z := y xs q
    rw [e1] at z; cases z
    exact ⟨Aft.refl af.wd, rv⟩
  stop := fun S' F' H' af gs => by
    obtain ⟨xs, q, rl⟩ := h S' F' H' af gs
    exact ⟨xs, q, Nat.le_of_eq rl.length⟩
theorem aft_pair {T : Addr} {x y : V} {d e : D} (w : Wd K S F H) (hT : H T = none) (r1 : Rp K (cmb S F) H d x) (r2 : Rp K (cmb S F) H e y) :
    Aft K S F H S (upd H T (.tup [x, y])) ∧ Rp K (cmb S F) (upd H T (.tup [x, y])) (.tup [d, e]) (.ref T) :=
  ⟨Aft.new w hT, rp_newT w hT ⟨x, [y], rfl, r1, y, [], rfl, r2, rfl⟩⟩
def enumD (k : Int) : List D → List D
  | [] => []
  | d :: ds => .tup [.int k, d] :: enumD (k + 1) ds
theorem enumD_get : ∀ {ds : List D} {k : Int} {i : Nat} {x : D}, (enumD k ds)[i]? = some x → ∃ d, ds[i]? = some d ∧ x = .tup [.int (k + i), d]
  | [], _, _, _, h => by simp [enumD] at h
  | d :: ds, k, 0, x, h => by
    simp [enumD] at h
    exact ⟨d, rfl, by subst h; simp⟩
  | d :: ds, k, i + 1, x, h => by
    have h' : (enumD (k + 1) ds)[i]? = some x := by simpa [enumD] using h
    obtain ⟨e, h1, h2⟩ := enumD_get h'
    refine ⟨e, by simpa using h1, ?_⟩
    rw [h2]
    have z : k + 1 + (i : Int) = k + ((i + 1 : Nat) : Int) := by omega
    rw [z]
theorem enumD_length : ∀ {ds : List D} {k : Int}, (enumD k ds).length = ds.length
  | [], _ => rfl
  | d :: ds, k => by show (enumD (k + 1) ds).length + 1 = _; rw [enumD_length]; rfl
theorem srv_el {a : Addr} {ds : List D} {g : Sto → Prop} (h : ListAt K S F H a ds g) : Srv K (Ite K a) S F H g (enumD 0 ds) where
  go := fun i x S' F' H' e af gs => by
    obtain ⟨xs, q, rl⟩ := h S' F' H' af gs
    obtain ⟨d, e0, rfl⟩ := enumD_get e
    obtain ⟨v, e1, rv⟩ := rl.get e0
    refine ⟨⟨xs, v, q, e1⟩, fun u H2 ⟨T, y, e2, hT, e3, z⟩ => ?_⟩
    subst e2 e3
    have z := z xs q
    rw [e1] at z; cases z
    exact aft_pair af.wd hT (by show V.int _ = V.int _; congr 1; omega) rv
  stop := fun S' F' H' af gs => by
    obtain ⟨xs, q, rl⟩ := h S' F' H' af gs
    exact ⟨xs, q, by rw [enumD_length]; exact Nat.le_of_eq rl.length⟩
theorem srv_et {a : Addr} {ds : List D} {g : Sto → Prop} (h : TupAt K S F H a ds g) : Srv K (IteT K a) S F H g (enumD 0 ds) where
  go := fun i x S' F' H' e af gs => by
    obtain ⟨xs, q, rl⟩ := h S' F' H' af gs
    obtain ⟨d, e0, rfl⟩ := enumD_get e
    obtain ⟨v, e1, rv⟩ := rl.get e0
    refine ⟨⟨xs, v, q, e1⟩, fun u H2 ⟨T, y, e2, hT, e3, z⟩ => ?_⟩
    subst e2 e3
    have z := z xs q
    rw [e1] at z; cases z
    exact aft_pair af.wd hT (by show V.int _ = V.int _; congr 1; omega) rv
  stop := fun S' F' H' af gs => by
    obtain ⟨xs, q, rl⟩ := h S' F' H' af gs
    exact ⟨xs, q, by rw [enumD_length]; exact rl.length⟩
def zipD : List D → List D → List D
  | d :: ds, e :: es => .tup [d, e] :: zipD ds es
  | _, _ => []
/-- lo, lo + 1, .. -/
def rngD (lo : Int) : Nat → List D
  | 0 => []
  | n + 1 => .int lo :: rngD (lo + 1) n
theorem rngD_get : ∀ {n : Nat} {lo : Int} {i : Nat} {x : D}, (rngD lo n)[i]? = some x → i < n ∧ x = .int (lo + i)
  | 0, _, _, _, h => by simp [rngD] at h
  | n + 1, lo, 0, x, h => by
    simp [rngD] at h
    exact ⟨Nat.succ_pos _, by subst h; simp⟩
  | n + 1, lo, i + 1, x, h => by
    have h' : (rngD (lo + 1) n)[i]? = some x := by simpa [rngD] using h
    obtain ⟨h1, h2⟩ := rngD_get h'
    refine ⟨Nat.succ_lt_succ h1, ?_⟩
    rw [h2]
    have z : lo + 1 + (i : Int) = lo + ((i + 1 : Nat) : Int) := by omega
    rw [z]
theorem rngD_length : ∀ {n : Nat} {lo : Int}, (rngD lo n).length = n
  | 0, _ => rfl
  | n + 1, lo => by show (rngD (lo + 1) n).length + 1 = _; rw [rngD_length]
theorem srv_r {lo : Int} {n : Nat} : Srv K (Itr lo n) S F H (fun _ => True) (rngD lo n) where
  go := fun i x S' F' H' e af _ => by
    obtain ⟨h1, rfl⟩ := rngD_get e
    exact ⟨h1, fun u H2 ⟨e2, y⟩ => by subst e2 y; exact ⟨Aft.refl af.wd, rfl⟩⟩
  stop := fun S' F' H' af _ => by rw [rngD_length]; exact Nat.le_refl _
end

section
variable {X : Cx} {e : Expr} {te : ET} {u : AT} {tg : Expr}
def iSeq (te : ET) : IT' := fun τ S Z => te τ S fun d S1 => seqG S1 Z d
theorem gi_seq (he : GE X e te) : GI X tg e (iSeq te) := by
  refine ⟨fun pins s σ H R I h => ?_⟩
  obtain ⟨τ, S, F, Z, w, r, q, l⟩ := h
  let Q : VK := fun v H1 => (∃ a xs, v = .ref a ∧ SqL X.K H1 a xs ∧ R (Itl X.K a) H1) ∨ (∃ a xs, v = .ref a ∧ SqT X.K H1 a xs ∧ R (Itt X.K a) H1)
  have hq : LE X.K te σ H Q := ⟨τ, S, F, _, w, r, q, fun d S1 v H1 q1 a1 r1 => by
    obtain ⟨a, ds, g, rfl, z, gs, c | c⟩ := seq_cases a1.wd r1 q1
    · obtain ⟨xs, hx, _⟩ := c S1 F H1 (Aft.refl a1.wd) gs
      exact .inl ⟨a, xs, rfl, hx, l _ _ _ _ _ z a1 (srv_l c)⟩
    · obtain ⟨xs, hx, _⟩ := c S1 F H1 (Aft.refl a1.wd) gs
      exact .inr ⟨a, xs, rfl, hx, l _ _ _ _ _ z a1 (srv_t c)⟩⟩
  refine thn (he.run pins s σ H Q I hq) fun v s1 ⟨x, H1, I1, r1, q1⟩ => ?_
  have fo : ∀ b ∈ [s1.heap.objs.size], FpOk X pins H1 b := fun b hb => by
    rw [List.mem_singleton.mp hb]; exact I1.fpOk (Nat.le_refl _) (I1.hok.fresh (Nat.le_refl _))
  rcases q1 with ⟨a, xs, rfl, hx, q⟩ | ⟨a, xs, rfl, hx, q⟩
  · cases r1
    obtain ⟨its, rv, p, hz⟩ := I1.list hx
    refine wpAny_pyIter_list p.isList ?_
    exact ⟨s1.heap.objs.size, [s1.heap.objs.size], _, _, H1, rfl, I1.kept (t' := s1.toks) fun b o e => Heap.get?_push_of_some _ e, turn_list a _, ⟨_, Heap.get?_push_size _ rfl, rfl, rfl⟩, fo, q⟩
  · cases r1
    obtain ⟨its, rv, p, hz⟩ := I1.tuple hx
    refine wpAny_pyIter_tuple (show s1.heap.IsTuple a its.toArray from p) ?_
    exact ⟨s1.heap.objs.size, [s1.heap.objs.size], _, _, H1, rfl, I1.kept (t' := s1.toks) fun b o e => Heap.get?_push_of_some _ e, turn_tuple a _, ⟨_, Heap.get?_push_size _ rfl, rfl, rfl⟩, fo, q⟩
theorem pi_weak {iter : Expr} {t t' : TI} (h : PI X tg iter t) (w : ∀ σ H R, t' σ H R → t σ H R) : PI X tg iter t' := ⟨fun pins s σ H R I q => h.run pins s σ H R I (w σ H R q)⟩
def iRange1 (u : AT) : IT' := fun τ S Z => u τ S fun ds S1 => match ds with
  | [.int j] => (-(2 ^ 62) ≤ j ∧ j < 2 ^ 62) ∧ Z (rngD 0 j.toNat) (fun _ => True) S1
  | _ => False
def iRange2 (u : AT) : IT' := fun τ S Z => u τ S fun ds S1 => match ds with
  | [.int i, .int j] => (-(2 ^ 62) ≤ i ∧ i < 2 ^ 62 ∧ -(2 ^ 62) ≤ j ∧ j < 2 ^ 62) ∧ Z (rngD i (j - i).toNat) (fun _ => True) S1
  | _ => False
theorem gi_range1 {a : Expr} {p pos : Pos} (hg : Gl X "range") (hm : X.mg "range" = none) (ha : GA X [a] u) (hs : starEach [a] X.env = [(false, eval a X.env)] := by rfl) : GI X tg (.Call (.Name "range" p) [a] [] pos) (iRange1 u) :=
  pi_weak (pi_range1 hg hm ha hs) fun σ H R ⟨τ, S, F, Z, w, r, q, l⟩ => ⟨τ, S, F, _, w, r, q, fun ds S1 vs H1 q1 a1 r1 => by
    split at q1
    · obtain ⟨y, _, rfl, e, rfl⟩ := r1
      cases e
      exact ⟨_, rfl, q1.1.1, q1.1.2, l _ _ _ _ _ q1.2 a1 srv_r⟩
    · exact q1.elim⟩
def iEnumG (u : AT) : IT' := fun τ S Z => u τ S fun ds S1 => match ds with
  | [d] => seqG S1 (fun ds g S => Z (enumD 0 ds) g S) d
  | _ => False
theorem gi_enum {e : Expr} {p pos tpos : Pos} {elts : List Expr} {kk : Nat} (hg : Gl X "enumerate") (hm : X.mg "enumerate" = none) (ha : GA X [e] u) (hs : starEach [e] X.env = [(false, eval e X.env)] := by rfl) :
    GI X (.Tuple elts kk tpos) (.Call (.Name "enumerate" p) [e] [] pos) (iEnumG u) :=
  pi_weak (pi_enumT hg hm ha hs) fun σ H R ⟨τ, S, F, Z, w, r, q, l⟩ => ⟨τ, S, F, _, w, r, q, fun ds S1 vs H1 q1 a1 r1 => by
    split at q1
    · obtain ⟨y, _, rfl, e, rfl⟩ := r1
      obtain ⟨a, ds, g, rfl, z, gs, c | c⟩ := seq_cases a1.wd e q1
      · obtain ⟨xs, hx, _⟩ := c S1 F H1 (Aft.refl a1.wd) gs
        exact ⟨a, xs, rfl, .inl ⟨hx, l _ _ _ _ _ z a1 (srv_el c)⟩⟩
      · obtain ⟨xs, hx, _⟩ := c S1 F H1 (Aft.refl a1.wd) gs
        exact ⟨a, xs, rfl, .inr ⟨hx, l _ _ _ _ _ z a1 (srv_et c)⟩⟩
    · exact q1.elim⟩
def isTupD : D → Bool
  | .tup _ => true
  | _ => false
/-- both lists, or both tuples -/
def iZipG (u : AT) : IT' := fun τ S Z => u τ S fun ds S1 => match ds with
  | [d, e] => isTupD d = isTupD e ∧ seqG S1 (fun ds g S => seqG S (fun es g' S => Z (zipD ds es) (fun S' => g S' ∧ g' S') S) e) d
  | _ => False
end

/-! ### comprehensions -/
def wipeD (τ : Tau) : List Nat → Tau
  | [] => τ
  | v :: vs => (wipeD τ vs).set v none
section
variable {K : PySem.W.Frag} {T : Sto} {H : Hp} {τ : Tau} {σ : L2.St}
theorem RpS.unset (r : RpS K T H τ σ) (i : Nat) : RpS K T H (τ.set i none) (σ.set i none) := by
  refine ⟨by rw [List.length_set, List.length_set]; exact r.len, fun j e q => ?_⟩
  by_cases z : i = j
  · subst z
    rw [List.getElem?_set_self'] at q
    cases z : τ[i]? with
    | none => rw [z] at q; cases q
    | some y => rw [z] at q; cases q
  · rw [List.getElem?_set_ne z] at q ⊢
    exact r.at' j e q
theorem RpS.wipe (r : RpS K T H τ σ) : ∀ vs, RpS K T H (wipeD τ vs) (L2.wipe σ vs)
  | [] => r
  | v :: vs => (RpS.wipe r vs).unset v
end
/-- a comprehension's target: it touches the comprehension's own names alone -/
def LGc (K : PySem.W.Frag) (vs : List Nat) (t : TG') : TG := fun v σ H Q => ∃ (d : D) (τ : Tau) (S F : Sto) (R : Tau → Sto → Prop), Wd K S F H ∧ RpS K (cmb S F) H τ σ ∧ Rp K (cmb S F) H d v ∧ t d τ S R ∧
  ∀ τ' S' σ' H', R τ' S' → Aft K S F H S' H' → RpS K (cmb S' F) H' τ' σ' → L2.wipe σ' vs = L2.wipe σ vs → Q σ' H'
def GGc (X : Cx) (vs : List Nat) (e : Expr) (t : TG') : Prop := PG X e (LGc X.K vs t)
def LGcs (K : PySem.W.Frag) (vs : List Nat) (t : TGs') : TGs := fun us σ H Q => ∃ (ds : List D) (τ : Tau) (S F : Sto) (R : Tau → Sto → Prop), Wd K S F H ∧ RpS K (cmb S F) H τ σ ∧ RpL K (cmb S F) H ds us ∧ t ds τ S R ∧
  ∀ τ' S' σ' H', R τ' S' → Aft K S F H S' H' → RpS K (cmb S' F) H' τ' σ' → L2.wipe σ' vs = L2.wipe σ vs → Q σ' H'
def GGcs (X : Cx) (vs : List Nat) (es : List Expr) (t : TGs') : Prop := PGs X es (LGcs X.K vs t)
theorem wipe_set {σ : L2.St} {x : V} : ∀ {vs : List Nat} {i : Nat}, i ∈ vs → L2.wipe (σ.set i (some x)) vs = L2.wipe σ vs
  | v :: vs, i, h => by
    show (L2.wipe (σ.set i (some x)) vs).set v none = (L2.wipe σ vs).set v none
    by_cases e : i ∈ vs
    · rw [wipe_set e]
    · have hv : i = v := by
        rcases List.mem_cons.mp h with h | h
        · exact h
        · exact absurd h e
      subst hv
      have aux : ∀ (ws : List Nat) (ρ : L2.St), (L2.wipe (ρ.set i (some x)) ws).set i none = (L2.wipe ρ ws).set i none := by
        intro ws
        induction ws with
        | nil => intro ρ; show (ρ.set i (some x)).set i none = ρ.set i none; rw [List.set_set]
        | cons w ws ih =>
          intro ρ
          show ((L2.wipe (ρ.set i (some x)) ws).set w none).set i none = ((L2.wipe ρ ws).set w none).set i none
          by_cases hw : w = i
          · subst hw; rw [List.set_set, List.set_set]; exact ih ρ
          · rw [List.set_comm _ _ hw, ih ρ, ← List.set_comm _ _ hw]
      exact aux vs σ
theorem wipe_wipe (σ : L2.St) : ∀ vs : List Nat, L2.wipe (L2.wipe σ vs) vs = L2.wipe σ vs := by
  have aux : ∀ (ws : List Nat) (ρ : L2.St) (i : Nat), L2.wipe (ρ.set i none) ws = (L2.wipe ρ ws).set i none := by
    intro ws
    induction ws with
    | nil => intro ρ i; rfl
    | cons w ws ih =>
      intro ρ i
      show (L2.wipe (ρ.set i none) ws).set w none = ((L2.wipe ρ ws).set w none).set i none
      rw [ih]
      by_cases h : w = i
      · subst h; rfl
      · rw [List.set_comm _ _ h]
  intro vs
  induction vs with
  | nil => rfl
  | cons v vs ih =>
    show (L2.wipe ((L2.wipe σ vs).set v none) vs).set v none = (L2.wipe σ vs).set v none
    rw [aux, ih, List.set_set]
section
variable {X : Cx} {vs : List Nat} {g : TG'} {gs : TGs'} {pos : Pos} {e : Expr}
theorem ggc_name (i : Nat) {x : Str} (hN : X.N.Nodup) (hv : i ∈ vs := by decide) (hi : X.N[i]? = some x := by rfl) (hx : Loc X.env.scope x := by first | exact Or.inl rfl | exact Or.inr rfl) (hf : X.fn x = true ∨ X.env.scope.names.lookup x = some .local := by first | exact .inl rfl | exact .inr rfl | assumption) : GGc X vs (.Name x pos) (gNm i) :=
  ⟨fun pins s σ H v u Q I r h => (pg_name hN hi hx hf).run pins s σ H v u Q I r (by
    obtain ⟨d, τ, S, F, R, w, rs, rd, q, l⟩ := h
    exact l _ _ _ _ q (Aft.refl w) (rs.set i rd) (wipe_set hv))⟩
theorem ggcs_nil : GGcs X vs [] gsNil := ⟨fun pins s σ H us us' Q I r h => (pgs_nil).run pins s σ H us us' Q I r (by
    obtain ⟨ds, τ, S, F, R, w, rs, rd, q, l⟩ := h
    cases ds with
    | nil => exact ⟨rd, l _ _ _ _ q (Aft.refl w) rs rfl⟩
    | cons _ _ => exact q.elim)⟩
theorem ggcs_cons {es : List Expr} (h1 : GGc X vs e g) (h2 : GGcs X vs es gs) (hs : (assignEach (e :: es) X.env).map (·.2) = assign e X.env :: (assignEach es X.env).map (·.2) := by rfl) : GGcs X vs (e :: es) (gsCons g gs) :=
  ⟨fun pins s σ H us us' Q I r h => (pgs_cons h1 h2 hs).run pins s σ H us us' Q I r (by
    obtain ⟨ds, τ, S, F, R, w, rs, rd, q, l⟩ := h
    cases ds with
    | nil => exact q.elim
    | cons d ds =>
      obtain ⟨v, vr, rfl, r1, r2⟩ := rd
      refine ⟨v, vr, rfl, d, τ, S, F, _, w, rs, r1, q, fun τ' S' σ' H' q' a' r' w' => ?_⟩
      exact ⟨ds, τ', S', F, R, a'.wd, r', a'.rpl w r2, q', fun τ2 S2 σ2 H2 q2 a2 r2 w2 => l _ _ _ _ q2 (a'.trans a2) r2 (w2.trans w')⟩)⟩
theorem ggc_tup {es : List Expr} {k : Nat} {n : Nat} (hc : X.calm = true) (h : GGcs X vs es gs) (hn : (assignEach es X.env).length = n := by rfl) (hst : (assignEach es X.env).findIdx? (·.1) = none := by rfl) : GGc X vs (.Tuple es k pos) (gTupl n gs) :=
  ⟨fun pins s σ H v u Q I r h' => (pg_tup hc h hn hst).run pins s σ H v u Q I r (by
    obtain ⟨d, τ, S, F, R, w, rs, rd, q, l⟩ := h'
    unfold gTupl at q
    split at q
    · rename_i ds
      obtain ⟨a, xs, rfl, hs, rl⟩ := rd
      exact ⟨a, xs, rfl, hs, rl.length.trans q.1, ds, τ, S, F, R, w, rs, rl, q.2, l⟩
    · exact q.elim)⟩
end
def GTs (X : Cx) (ifs : List Expr) (t : TT') : Prop := PTs X ifs (LT X.K t)
def tYes' : TT' := fun _ S Q => Q true S
section
variable {X : Cx} {e : Expr} {t : TT'}
theorem gts_nil : GTs X [] tYes' := ⟨fun pins s σ H Q I ⟨τ, S, F, R, w, r, q, l⟩ => (pts_nil).run pins s σ H Q I (l _ _ _ q (Aft.refl w))⟩
end
/-- the turns of a comprehension: the items, what is made so far -/
def cmpG (g : TG') (tt : TT') (te : ET) (gd : Sto → Prop) (vs : List Nat) (τ : Tau) (Z : List D → Sto → Prop) : List D → List D → Sto → Prop
  | [], acc => fun S => gd S ∧ Z acc S
  | x :: xs, acc => fun S => gd S ∧ g x (wipeD τ vs) S fun τ2 S2 => tt τ2 S2 fun b S3 => if b = true then te τ2 S3 fun y S4 => acc.length < sizeLine ∧ cmpG g tt te gd vs τ Z xs (acc ++ [y]) S4 else cmpG g tt te gd vs τ Z xs acc S3
/-- a list that is read -/
def eLc (ti : IT') (g : TG') (tt : TT') (te : ET) (vs : List Nat) : ET := fun τ S Q => ti τ S fun items gd S1 => cmpG g tt te gd vs τ (fun acc S2 => Q (.lst acc) S2) items [] S1
/-- a list that is to change -/
def eLcM (ti : IT') (g : TG') (tt : TT') (te : ET) (vs : List Nat) : ET := fun τ S Q => ti τ S fun items gd S1 => cmpG g tt te gd vs τ (fun acc S2 => ∀ p, S2 p = none → Q (.ref p) (up S2 p (.lst acc))) items [] S1
section
variable {K : PySem.W.Frag} {ti : IT'} {g : TG'} {tt : TT'} {te : ET} {vs : List Nat}
theorem lc_of {τ : Tau} {σ : L2.St} {S F : Sto} {H : Hp} {J : It} {items : List D} {gd : Sto → Prop} {Z : List D → Sto → Prop} {Q : VK} (w : Wd K S F H) (r : RpS K (cmb S F) H τ σ) (sv : Srv K J S F H gd items) (h : cmpG g tt te gd vs τ Z items [] S)
    (hZ : ∀ acc S' H' D, Z acc S' → H D = none → Wd K S' (up F D (.lst acc)) H' → Aft K S F H S' H' → Q (.ref D) H') :
    ∀ D, H D = none → ∃ W : Nat → Nat → Hp → Prop, (∃ m, W 0 m (upd H D (.lst []))) ∧ ∀ i m H', W i m H' →
      (J.stop i H' ∧ Q (.ref D) H') ∨ (J.go i H' ∧ ∃ Nx : Hp → Prop, (∀ H'', Nx H'' → ∃ m', m' < m ∧ W (i + 1) m' H'') ∧ ∀ x H'', J.yld i H' x H'' → LGc K vs g x (L2.wipe σ vs) H'' fun σ2 H2 => L2.wipe σ2 vs = L2.wipe σ vs ∧ LT K tt σ2 H2 fun b H3 =>
        if b = true then LE K te σ2 H3 fun y H4 => ∃ acc, H4 D = some (.lst acc) ∧ acc.length < sizeLine ∧ Nx (upd H4 D (.lst (acc ++ [y]))) else Nx H3) := by
  intro D hD
  have n := cmb_none (w.ok.fresh hD)
  -- what holds ahead of a turn: the made list lies beside
  have sub : ∀ {S' : Sto} {o : SO} {H' : Hp}, Wd K S' (up F D o) H' → Wd K S' F H' ∧ ∀ a, cmb S' (up F D o) a = none → cmb S' F a = none := fun {S' o H'} w' => by
    have g : ∀ a u, F a = some u → (up F D o) a = some u := fun a u e => by rw [up_ne (by rintro rfl; rw [n.2] at e; cases e)]; exact e
    refine ⟨w'.less (fun _ _ e => e) g, fun a e => ?_⟩
    obtain ⟨e1, e2⟩ := cmb_none e
    refine cmb_of_none e1 ?_
    cases z : F a with
    | none => rfl
    | some u => rw [g a u z] at e2; cases e2
  let Pv : Nat → Hp → Prop := fun i H' => ∃ acc S', AftF K S F H S' (up F D (.lst acc)) H' ∧ cmpG g tt te gd vs τ Z (items.drop i) acc S'
  have drop : ∀ {S' : Sto} {o : SO} {H' : Hp}, AftF K S F H S' (up F D o) H' → Aft K S F H S' H' := fun {S' o H'} a => ⟨(sub a.wd).1, fun b u e1 e2 => ⟨(a.ev b u e1 e2).1, (sub a.wd).2 _ (a.ev b u e1 e2).2⟩⟩
  have p0 : Pv 0 (upd H D (.lst [])) := by
    refine ⟨[], S, ⟨w.newF hD ⟨[], upd_same, rfl⟩, ?_⟩, by simpa using h⟩
    rw [cmb_upR n.1]
    exact ev_newS hD
  refine ⟨fun i m H' => m = items.length - i ∧ i ≤ items.length ∧ Pv i H', ⟨_, rfl, Nat.zero_le _, p0⟩, ?_⟩
  rintro i m H' ⟨rfl, hi, acc, S', a', q'⟩
  by_cases hlt : i < items.length
  · rw [List.drop_eq_getElem_cons hlt] at q'
    obtain ⟨gd', q'⟩ := q'
    obtain ⟨g1, g2⟩ := sv.go i _ S' _ H' (List.getElem?_eq_getElem hlt) a' gd'
    refine .inr ⟨g1, Pv (i + 1), fun H2 p2 => ⟨_, by omega, rfl, hlt, p2⟩, fun v H2 y => ?_⟩
    obtain ⟨a2, rv⟩ := g2 v H2 y
    refine ⟨items[i], wipeD τ vs, S', up F D (.lst acc), _, a2.wd, (((a'.trans a2).rps w r).wipe vs), rv, q', fun τ3 S3 σ3 H3 q3 a3 r3 w3 => ⟨w3.trans (wipe_wipe σ vs), ?_⟩⟩
    refine ⟨τ3, S3, _, _, a3.wd, r3, q3, fun b S4 H4 q4 a4 => ?_⟩
    cases b with
    | false => exact ⟨acc, S4, ((a'.trans a2).trans a3).trans a4, q4⟩
    | true =>
      refine ⟨τ3, S4, _, _, a4.wd, a4.rps a3.wd r3, q4, fun d S5 v5 H5 q5 a5 r5 => ?_⟩
      have n5 : S5 D = none := by
        rcases a5.wd.dj D with z | z
        · exact z
        · rw [up_same] at z; cases z
      obtain ⟨xs, e5, rl5⟩ := a5.wd.ok D (.lst acc) (by rw [cmb_r n5, up_same])
      refine ⟨xs, e5, by rw [rl5.length]; exact q5.1, acc ++ [d], S5, ?_, q5.2⟩
      have st : StO K (up (cmb S5 (up F D (.lst acc))) D (.lst (acc ++ [d]))) (upd H5 D (.lst (xs ++ [v5]))) D (.lst (acc ++ [d])) :=
        ⟨_, upd_same, RpL.ev a5.wd.ok (ev_set (by rw [cmb_r n5, up_same])) (RpL.app rl5 ⟨v5, [], rfl, r5, rfl⟩)⟩
      have wn := a5.wd.setF (p := D) up_same st
      rw [up_up] at wn
      refine ⟨wn, ?_⟩
      have ev5 := ((((a'.trans a2).trans a3).trans a4).trans a5).ev
      intro b u e1 e2
      have z := ev5 b u e1 e2
      have hb : b ≠ D := by rintro rfl; rw [hD] at e1; cases e1
      refine ⟨by rw [upd_ne hb]; exact z.1, ?_⟩
      obtain ⟨z1, z2⟩ := cmb_none z.2
      refine cmb_of_none z1 ?_
      rw [up_ne hb] at z2 ⊢
      exact z2
  · have e : i = items.length := by omega
    subst e
    rw [List.drop_length] at q'
    obtain ⟨gd', q'⟩ := q'
    exact .inl ⟨sv.stop S' _ H' a' gd', hZ acc S' H' D q' hD a'.wd (drop a')⟩
end
end Gx

/-! Gx, part 5: comprehensions as expressions; defs and their calls. -/
namespace Gx
open PySem PySem.Spec PyProof.Rows L2

section
variable {X : Cx} {ti : IT'} {g : TG'} {tt : TT'} {te : ET} {elt tg iter : Expr} {ifs : List Expr} {scope : Scope} {own : List (Str × Nat)} {pos spos py : Pos}
theorem lc_pure {σ : L2.St} {H : Hp} {Q : VK} (h : LE X.K (eLc ti g tt te (own.map (·.2))) σ H Q) : tLc (LI X.K ti) (LGc X.K (own.map (·.2)) g) (LT X.K tt) (LE X.K te) (own.map (·.2)) σ H Q := by
  obtain ⟨τ, S, F, R, w, r, q, l⟩ := h
  refine ⟨τ, S, F, _, w, r, q, fun items gd S1 J H1 q1 a1 sv => ?_⟩
  refine lc_of a1.wd (a1.rps w r) sv q1 fun acc S' H' D z hD wd a' => ?_
  have n := cmb_none (a1.wd.ok.fresh hD)
  have n5 : S' D = none := by
    rcases wd.dj D with z | z
    · exact z
    · rw [up_same] at z; cases z
  obtain ⟨xs, e5, rl5⟩ := wd.ok D (.lst acc) (by rw [cmb_r n5, up_same])
  refine l _ _ _ _ z (a1.trans a') ⟨D, xs, rfl, cmb_of_none n5 n.2, e5, RpL.sub (fun a e => ?_) rl5⟩
  obtain ⟨e1, e2⟩ := cmb_none e
  refine cmb_of_none e1 ?_
  by_cases hb : a = D
  · subst hb; exact n.2
  · rw [up_ne hb] at e2; exact e2
theorem g_lc (hc : X.calm = true) (hN : X.N.Nodup) (hi : GI X tg iter ti) (ok : BlkOk X.N X.env.scope scope own)
    (hg : ∀ (s : Shared) (H : Hp) (C : Addr) (cl : List (Str × Addr)) (fp : List Addr), GGc (X.blk s H scope (compEnvC scope cl C X.env) fp) (own.map (·.2)) tg g) (ht : ∀ (s : Shared) (H : Hp) (C : Addr) (cl : List (Str × Addr)) (fp : List Addr), GTs (X.blk s H scope (compEnvC scope cl C X.env) fp) ifs tt)
    (he : ∀ (s : Shared) (H : Hp) (C : Addr) (cl : List (Str × Addr)) (fp : List Addr), GE (X.blk s H scope (compEnvC scope cl C X.env) fp) elt te) (hs : ∀ x, foldedSetIterable iter X.env x = pure x := by intro _; rfl) :
    GE X (.ListComp elt [⟨tg, iter, ifs, 0⟩] scope pos) (eLc ti g tt te (own.map (·.2))) := pe_weak (pe_lc (g := LGc X.K (own.map fun q : Str × Nat => q.2) g) (tt := LT X.K tt) (te := LE X.K te) hc hN hi ok hg ht he hs) fun σ H Q h => lc_pure h
end

/-! ### defs -/
/-- what a def of the text promises over data: no error leaves it -/
structure GFn (P : Program) (w : World) (K : PySem.W.Frag) (mg : Str → Option Value) (base : Heap) (k : Nat) (f : Addr) (fd : FuncData) (ps : List Str) (γ : OL) : Prop where
  len : ∀ ds S R, γ ds S R → ds.length = ps.length
  run : ∀ (A : Around) (outer : List Env) (s : Shared) (H : Hp) (args : Args) (us : List Value) (vs : List V) (Q : VK), Room k A → A.guards = some [] → Env0 P w K mg base A outer s H → BindsTo s fd args (ps.zip us) → Vals vs us → LLO K γ vs H Q →
    codeAny (model P w) A (.call (.ref f) args) (CR CX0 outer P w H s Q E0) s
theorem GFn.mono {P : Program} {w : World} {K : PySem.W.Frag} {mg : Str → Option Value} {base : Heap} {j k : Nat} {f : Addr} {fd : FuncData} {ps : List Str} {γ : OL} (G : GFn P w K mg base j f fd ps γ) (h : j ≤ k) : GFn P w K mg base k f fd ps γ :=
  ⟨G.len, fun A outer s H args us vs Q hr => G.run A outer s H args us vs Q (hr.mono h)⟩
theorem llo_imp {K : PySem.W.Frag} {γ γ' : OL} (h : ∀ ds S R, γ' ds S R → γ ds S R) {vs : List V} {H : Hp} {Q : VK} (q : LLO K γ' vs H Q) : LLO K γ vs H Q :=
  let ⟨ds, S, F, R, w, r, q, l⟩ := q
  ⟨ds, S, F, R, w, r, h _ _ _ q, l⟩
theorem GFn.imp {P : Program} {w : World} {K : PySem.W.Frag} {mg : Str → Option Value} {base : Heap} {k : Nat} {f : Addr} {fd : FuncData} {ps : List Str} {γ γ' : OL} (G : GFn P w K mg base k f fd ps γ) (h : ∀ ds S R, γ' ds S R → γ ds S R) : GFn P w K mg base k f fd ps γ' :=
  ⟨fun ds S R q => G.len ds S R (h _ _ _ q), fun A outer s H args us vs Q hr hg e0 hb hv q => G.run A outer s H args us vs Q hr hg e0 hb hv (llo_imp h q)⟩

theorem guards_deeper {A : Around} {env : Env} (h : A.guards = some []) : (A.deeper env).guards = some [] := by
  first | exact h | (simp [Around.deeper, h])
/-- the data's slots at the entry -/
def startD (n : Nat) (ds : List D) : Tau := ds.map some ++ List.replicate (n - ds.length) none
theorem rps_start {K : PySem.W.Frag} {T : Sto} {H : Hp} {N : List Str} {ds : List D} {vs : List V} (r : RpL K T H ds vs) : RpS K T H (startD N.length ds) (L2.start N vs) := by
  have hl := r.length
  refine ⟨by unfold startD L2.start; simp [hl], fun i d e => ?_⟩
  unfold startD at e
  by_cases hi : i < ds.length
  · rw [List.getElem?_append_left (by simpa using hi), List.getElem?_map] at e
    cases z : ds[i]? with
    | none => rw [z] at e; cases e
    | some x =>
      rw [z] at e; cases e
      obtain ⟨v, hv, rv⟩ := r.get z
      refine ⟨v, ?_, rv⟩
      unfold L2.start
      rw [List.getElem?_append_left (by rw [List.length_map, hl]; exact hi), List.getElem?_map, hv]
      rfl
  · rw [List.getElem?_append_right (by simpa using hi), List.getElem?_replicate] at e
    split at e <;> cases e

mutual
/-- what is handed out: lists that change no more -/
inductive Fz (S S' : Sto) : D → D → Prop
  | same (d : D) : Fz S S' d d
  | ref {p : Addr} {es ds : List D} : S p = some (.lst es) → S' p = none → FzL S S' es ds → Fz S S' (.ref p) (.lst ds)
  | tup {es ds : List D} : FzL S S' es ds → Fz S S' (.tup es) (.tup ds)
  | lst {es ds : List D} : FzL S S' es ds → Fz S S' (.lst es) (.lst ds)
inductive FzL (S S' : Sto) : List D → List D → Prop
  | nil : FzL S S' [] []
  | cons {e d : D} {es ds : List D} : Fz S S' e d → FzL S S' es ds → FzL S S' (e :: es) (d :: ds)
end
theorem FzL.same {S S' : Sto} : ∀ ds : List D, FzL S S' ds ds
  | [] => .nil
  | d :: ds => .cons (.same d) (FzL.same ds)
mutual
theorem Fz.rp {K : PySem.W.Frag} {S S' F : Sto} {H : Hp} (w : Wd K S F H) (hs : ∀ a o, S' a = some o → S a = some o) : ∀ {e d : D} {v : V}, Fz S S' e d → Rp K (cmb S F) H e v → Rp K (cmb S' F) H d v
  | _, _, _, .same d, r => Rp.sub (fun a e => by
      obtain ⟨e1, e2⟩ := cmb_none e
      refine cmb_of_none ?_ e2
      cases z : S' a with
      | none => rfl
      | some o => rw [hs a o z] at e1; cases e1) r
  | _, _, _, .ref (p := p) h1 h2 h3, r => by
    cases r
    obtain ⟨xs, e, rl⟩ := w.ok p _ (cmb_l h1)
    have n : F p = none := by
      rcases w.dj p with z | z
      · rw [h1] at z; cases z
      · exact z
    exact ⟨p, xs, rfl, cmb_of_none h2 n, e, FzL.rp w hs h3 rl⟩
  | _, _, _, .tup h, r => by
    obtain ⟨a, xs, e, q, rl⟩ := r
    exact ⟨a, xs, e, q, FzL.rp w hs h rl⟩
  | _, _, _, .lst h, r => by
    obtain ⟨a, xs, e, n, q, rl⟩ := r
    refine ⟨a, xs, e, ?_, q, FzL.rp w hs h rl⟩
    obtain ⟨e1, e2⟩ := cmb_none n
    refine cmb_of_none ?_ e2
    cases z : S' a with
    | none => rfl
    | some o => rw [hs a o z] at e1; cases e1
theorem FzL.rp {K : PySem.W.Frag} {S S' F : Sto} {H : Hp} (w : Wd K S F H) (hs : ∀ a o, S' a = some o → S a = some o) : ∀ {e d : List D} {v : List V}, FzL S S' e d → RpL K (cmb S F) H e v → RpL K (cmb S' F) H d v
  | _, _, _, .nil, r => r
  | _, _, _, .cons h1 h2, r => by
    obtain ⟨x, xs, e, r1, r2⟩ := r
    exact ⟨x, xs, e, Fz.rp w hs h1 r1, FzL.rp w hs h2 r2⟩
end
/-- a def's end: what is of its own is forgotten, what it hands out changes no more -/
def Fin (R : QD) (d : D) (S : Sto) : Prop := ∃ S' d', (∀ a o, S' a = some o → S a = some o) ∧ Fz S S' d d' ∧ R d' S'
theorem Fin.plain {R : QD} {d : D} {S : Sto} (h : R d S) : Fin R d S := ⟨S, d, fun _ _ e => e, .same d, h⟩

section
variable {P : Program} {w : World} {K : PySem.W.Frag} {mg : Str → Option Value} {base : Heap}
/-- THE RULE for a def, over data -/
theorem gfn_of {x qual : Str} {st : Stmt} {f : Addr} {fd : FuncData} {N ps : List Str} {k : Nat} {γ : OL} (F : Fun K x qual st f fd) (Sc : FnScope N ps (defScope st)) (len : ∀ ds S R, γ ds S R → ds.length = ps.length)
    (hbody : ∀ (cdv : Value) (A : Around) (outer : List Env) (s : Shared) (H : Hp), Room k (A.deeper (envOfC qual (defScope st) s.heap.objs.size f cdv)) → (A.deeper (envOfC qual (defScope st) s.heap.objs.size f cdv)).guards = some [] →
      ∃ t, GSs (cxOf CX0 P w K mg base N qual (defScope st) f cdv A outer s H E0).nox (defBody st) t ∧ ∀ ds S R, γ ds S R → t { nx := fun _ S' => Fin R .non S', rt := Fin R } (startD N.length ds) S) : GFn P w K mg base (k + 1) f fd ps γ := by
  obtain ⟨oc, od, kV, doc, pm, an, cdv, ct, osl, rfl, lk, hcd⟩ := F.ex
  refine ⟨len, fun A outer s H args us vs Q hr hgd e0 hb r hsp => ?_⟩
  obtain ⟨ds, S, Fr, R, wd, rl, q, l⟩ := hsp
  have KX : K.In s.heap := e0.mod.kin.keeps fun b o e => (e0.bs b o e).1
  have lim : s.heap.NoLimit := e0.mod.nolimit.keeps fun b o e => (e0.bs b o e).1
  have hl : vs.length = ps.length := rl.length.trans (len ds S R q)
  have hk : ∀ y ∈ ps.zip us, (defScope st).names.lookup y.1 = some .local ∨ ((defScope st).names.lookup y.1 = some .cell ∧ ((cellsFrom (s.heap.objs.size + 1) (defScope st).names []).lookup y.1).isSome = true) := fun y hy =>
    (Sc.par y.1 (List.of_mem_zip hy).1).imp (fun z => z) fun z => ⟨z, PySem.W.cellsFrom_some _ _ _ (.inl z)⟩
  refine codeAny_call_function hr.depth (KX _ _ lk) rfl Sc.co Sc.gen rfl (PySem.W.codeRec_of KX hcd) (hb _ _ _ _ ?_)
  refine wpAny_newFunctionEnv_cells Sc.kind hk fun env he s1 x => ?_
  subst he
  refine ⟨lim.keeps x.toInCall.keep, codeAny_func ?_⟩
  obtain ⟨t, ht, hq⟩ := hbody cdv A outer s H (hr.deeper _) (guards_deeper hgd)
  have I := inv_start (CX := CX0) (E := E0) (cd := cdv) (qual := qual) (f := f) (mg := mg) Sc hr.hd e0 hl r x
  have fin : ∀ {d : D} {S' : Sto} {v : V} {H' : Hp}, Fin R d S' → Aft K S Fr H S' H' → Rp K (cmb S' Fr) H' d v → Q v H' := fun {d S' v H'} ⟨S2, d2, hs, fz, h⟩ a rv =>
    l d2 S2 v H' h ⟨a.wd.less hs fun _ _ e => e, a.ev.trans (ev_less hs fun _ _ e => e)⟩ (Fz.rp a.wd hs fz rv)
  have hD : LS K t { nx := fun _ H' => Q .non H', rt := Q } (L2.start N vs) H := ⟨_, S, Fr, _, wd, rps_start rl, hq ds S R q,
    ⟨fun τ' S' σ' H' z a _ => fin z a rfl, fun d S' v H' z a rv => fin z a rv, fun _ _ _ _ z => z.elim, fun _ _ _ _ z => z.elim⟩⟩
  refine wpAny_mono ((PSs.nox ht).run [] s1 (L2.start N vs) H _ I hD) (fun fl s' hs => ?_) fun e s' hs => hs
  cases fl with
  | ret u =>
    obtain ⟨v, σ', H', J, rv, z⟩ := hs
    exact ⟨v, H', J.os, J.bare, J.base, J.hok, rv, z⟩
  | next =>
    obtain ⟨σ', H', J, z⟩ := hs
    exact ⟨.non, H', J.os, J.bare, J.base, J.hok, rfl, z⟩
  | brk =>
    obtain ⟨_, _, _, z⟩ := hs
    exact z.elim
  | cont =>
    obtain ⟨_, _, _, z⟩ := hs
    exact z.elim
end

/-! ### calls -/
/-- the def that stands under a global name, and how it is called -/
structure Has (P : Program) (w : World) (K : PySem.W.Frag) (mg : Str → Option Value) (base : Heap) (k : Nat) (x : Str) (f : Addr) (fd : FuncData) (ps : List Str) (γ : OL) : Prop where
  fn : GFn P w K mg base k f fd ps γ
  mg : mg x = some (.ref f)
  kp : PySem.W.keepIn K (.ref f) = true
  bd : Binds K fd ps []
section
variable {X : Cx} {k j : Nat} {f : Addr} {fd : FuncData} {ps : List Str} {γ : OL} {x : Str} {p pos : Pos} {e : Expr} {es : List Expr} {u : AT}
theorem run_gfn {pins : List (Addr × Obj)} {σ : L2.St} {H : Hp} {s : Shared} {Q : VK} {us : List Value} {vs : List V} (G : GFn X.prog X.w X.K X.mg X.base k f fd ps γ) (hr : Room k X.A) (hg : X.A.guards = some []) (hb : Binds X.K fd ps [])
    (I : Inv X pins σ H s) (r : Vals vs us) (h : LLO X.K γ vs H Q) : wpAny (model X.prog X.w) X.A (call (.ref f) us) (EP X pins σ Q) X.xe s := by
  have hl : (us ++ []).length = ps.length := by
    obtain ⟨ds, S, F, R, w, rl, q, _⟩ := h
    rw [List.append_nil, ← r.length, rl.length]
    exact G.len _ _ _ q
  have hbd := hb s us I.kIn hl
  rw [List.append_nil] at hbd
  refine wpAny_call (codeAny_mono (G.run X.A X.stack s H ⟨us, []⟩ us vs Q hr hg I.env0 hbd r h) fun r s' hq => ?_)
  cases r with
  | error e => exact False.elim hq
  | ok fl =>
    cases fl with
    | ret u => exact I.after hq
    | next => exact False.elim hq
    | brk => exact False.elim hq
    | cont => exact False.elim hq
theorem gcall_of {σ : L2.St} {H : Hp} {Q : VK} (h : LE X.K (eCall γ u) σ H Q) : LA X.K u σ H fun vs H1 => LLO X.K γ vs H1 Q := by
  obtain ⟨τ, S, F, R, w, r, q, g⟩ := h
  exact ⟨τ, S, F, _, w, r, q, fun ds S1 vs H1 q1 a1 r1 => ⟨ds, S1, F, R, a1.wd, r1, q1, fun d S2 v H2 q2 a2 r2 => g _ _ _ _ q2 (a1.trans a2) r2⟩⟩
theorem g_call (h : Has X.prog X.w X.K X.mg X.base j x f fd ps γ) (hr : Room k X.A) (hg : X.A.guards = some []) (hjk : j ≤ k) (hgl : Gl X x) (ha : GA X (e :: es) u) (hdb : (x == ("__debug__" : Str)) = false := by decide)
    (he : starEach (e :: es) X.env = (false, eval e X.env) :: starEach es X.env := by rfl) (hpl : (backTo pos (starEach es X.env)).any (·.1) = false := by rfl) : GE X (.Call (.Name x p) (e :: es) [] pos) (eCall γ u) := by
  refine ⟨fun pins s σ H Q I q => ?_⟩
  refine wpAny_Call_Name_kw (ld_glob I hgl h.mg ?_ hdb)
  exact PySem.W.callWith_K (h₀ := X.base) I.ok.mod.kin h.kp (thn (ha.run pos pins s σ H _ I (gcall_of q)) fun us s1 ⟨vs, H1, I1, r, q⟩ => ⟨I1.kIn, run_gfn h.fn (hr.mono hjk) hg h.bd I1 r q⟩) he hpl
end
end Gx

/-! Gx, part 6: what operators and built-ins do to data. -/
namespace Gx
open PySem PySem.Spec PyProof.Rows L2

/-- a list that changes, as it stands -/
def rs (S : Sto) : D → D
  | .ref p => match S p with
    | some (.lst ds) => .lst ds
    | _ => .ref p
  | d => d
section
variable {K : PySem.W.Frag} {S F : Sto} {H : Hp}
theorem rs_lst {d : D} {v : V} {ds : List D} (w : Wd K S F H) (r : Rp K (cmb S F) H d v) (e : rs S d = .lst ds) : ∃ a xs, v = .ref a ∧ H a = some (.lst xs) ∧ RpL K (cmb S F) H ds xs := by
  cases d with
  | ref p =>
    simp only [rs] at e
    split at e
    · rename_i es h
      cases e
      obtain ⟨xs, q, rl⟩ := w.ok p _ (cmb_l h)
      exact ⟨p, xs, r, q, rl⟩
    · cases e
  | lst es =>
    cases e
    obtain ⟨a, xs, e, _, q, rl⟩ := r
    exact ⟨a, xs, e, q, rl⟩
  | _ => cases e
theorem rs_other {d e : D} (h : rs S d = e) (n : ∀ ds, e ≠ .lst ds) : d = e := by
  unfold rs at h
  split at h
  · split at h
    · exact absurd h.symm (n _)
    · exact h
  · exact h
theorem rs_non {S : Sto} : rs S .non = .non := rfl
theorem rs_bl {S : Sto} {b : Bool} : rs S (.bl b) = .bl b := rfl
theorem rs_int {S : Sto} {i : Int} : rs S (.int i) = .int i := rfl
theorem rs_str {S : Sto} {x : Str} : rs S (.str x) = .str x := rfl
theorem rs_tup {S : Sto} {ds : List D} : rs S (.tup ds) = .tup ds := rfl
theorem rs_lst' {S : Sto} {ds : List D} : rs S (.lst ds) = .lst ds := rfl
theorem rs_scr {S : Sto} {ds : List D} : rs S (.scr ds) = .scr ds := rfl
theorem rs_ref {S : Sto} {p : Addr} {ds : List D} (h : S p = some (.lst ds)) : rs S (.ref p) = .lst ds := by simp only [rs, h]
/-- the items of what may be read by places -/
def itemsOf : D → Option (List D)
  | .tup ds => some ds
  | .lst ds => some ds
  | .scr ds => some ds
  | _ => none
theorem seq_view {d : D} {v : V} {ds : List D} (w : Wd K S F H) (r : Rp K (cmb S F) H d v) (e : itemsOf (rs S d) = some ds) :
    ∃ a xs, v = .ref a ∧ (SqL K H a xs ∨ SqT K H a xs) ∧ RpL K (cmb S F) H ds xs := by
  cases z : rs S d with
  | lst es =>
    rw [z] at e; cases e
    obtain ⟨a, xs, e, q, rl⟩ := rs_lst w r z
    exact ⟨a, xs, e, .inl (.of q), rl⟩
  | tup es =>
    rw [z] at e; cases e
    have z := rs_other z (by intro ds; simp)
    subst z
    obtain ⟨a, xs, e, q, rl⟩ := r
    exact ⟨a, xs, e, .inr q, rl⟩
  | scr es =>
    rw [z] at e; cases e
    have z := rs_other z (by intro ds; simp)
    subst z
    obtain ⟨a, xs, e, q, rl⟩ := r
    exact ⟨a, xs, e, .inl q.sq, rl⟩
  | _ => rw [z] at e; cases e
end

section
variable {X : Cx} {f : Value → Value → Sem Value}
/-- an operator of two ints -/
def oI (C : Int → Int → Prop) (g : Int → Int → D) : O2 := fun d e S R => match d, e with
  | .int i, .int j => C i j ∧ R (g i j) S
  | _, _ => False
def oI0 (g : Int → Int → D) : O2 := fun d e S R => match d, e with
  | .int i, .int j => R (g i j) S
  | _, _ => False
theorem g2_I {C C' : Int → Int → Prop} {g : Int → Int → Int} {g' : Int → Int → Int} (h : OpR X f (rI C fun i j => .int (g i j))) (hc : ∀ i j, C' i j → C i j) (hg : ∀ i j, C' i j → g i j = g' i j) : G2 X f (oI C' fun i j => .int (g' i j)) :=
  op_weak h fun x y H Q ⟨d, e, S, F, R, w, r1, r2, q, l⟩ => by
    unfold oI at q
    split at q
    · cases r1; cases r2
      exact ⟨_, _, rfl, rfl, hc _ _ q.1, by show Q (V.int (g _ _)) H; rw [hg _ _ q.1]; exact l _ _ _ _ q.2 (Aft.refl w) rfl⟩
    · exact q.elim
theorem g2_I0 {g : Int → Int → Int} (h : OpR X f (rI0 fun i j => .int (g i j))) : G2 X f (oI0 fun i j => .int (g i j)) :=
  op_weak h fun x y H Q ⟨d, e, S, F, R, w, r1, r2, q, l⟩ => by
    unfold oI0 at q
    split at q
    · cases r1; cases r2
      exact ⟨_, _, rfl, rfl, l _ _ _ _ q (Aft.refl w) rfl⟩
    · exact q.elim
theorem g2_B0 {g : Int → Int → Bool} (h : OpR X f (rI0 fun i j => .bl (g i j))) : G2 X f (oI0 fun i j => .bl (g i j)) :=
  op_weak h fun x y H Q ⟨d, e, S, F, R, w, r1, r2, q, l⟩ => by
    unfold oI0 at q
    split at q
    · cases r1; cases r2
      exact ⟨_, _, rfl, rfl, l _ _ _ _ q (Aft.refl w) rfl⟩
    · exact q.elim
def MulOk (i j : Int) : Prop := IntMulOk i j
theorem MulOk.of {i j : Int} {a b : Nat} (ha : i.natAbs < 2 ^ a) (hb : j.natAbs < 2 ^ b) (h : a + b ≤ 1000000 := by decide) : MulOk i j := by
  by_cases h0 : a = 0
  · subst h0
    have : i = 0 := by omega
    subst this
    exact .of_left (by decide)
  · by_cases h1 : b = 0
    · subst h1
      have : j = 0 := by omega
      subst this
      exact .of_right (by decide)
    · exact (wide_mul ha hb (by omega) (by omega) h).ok
theorem MulOk.left {i j : Int} (h1 : -(2 ^ 64) < i) (h2 : i < 2 ^ 64) : MulOk i j := .of_left (intBits_le_64 h1 h2)
theorem MulOk.right {i j : Int} (h1 : -(2 ^ 64) < j) (h2 : j < 2 ^ 64) : MulOk i j := .of_right (intBits_le_64 h1 h2)
theorem op_mulG : OpR X (binaryOp .Mult) (rI MulOk fun i j => .int (i * j)) := opI fun _ _ _ _ _ _ _ hc q => mul_int q hc
def DivOk (j : Int) : Prop := j ≠ 0 ∧ j.natAbs.log2 < 9000
theorem DivOk.of {j : Int} {b : Nat} (h : j ≠ 0) (hb : j.natAbs < 2 ^ b) (hb9 : b ≤ 9000 := by decide) : DivOk j := by
  refine ⟨h, ?_⟩
  by_cases h0 : b = 0
  · subst h0; omega
  · exact Nat.lt_of_lt_of_le (PySem.Flt.log2_lt_of (by omega) hb) hb9
theorem op_fdivG : OpR X (binaryOp .FloorDiv) (rI (fun _ j => DivOk j) fun i j => .int (i.fdiv j)) := opI fun _ _ _ _ _ _ _ hc q => floordiv_int hc.1 q (.inl (PyProof.noPylong_of_log2 hc.2))
def oSub : O2 := oI0 fun i j => .int (i - j)
def oFdiv : O2 := oI (fun _ j => DivOk j) fun i j => .int (i.fdiv j)
def oMod : O2 := oI (fun _ j => j ≠ 0) fun i j => .int (i.fmod j)
def PowOk (i j : Int) : Prop := 0 ≤ j ∧ (Builtin.Int.intBits i : Int) * j ≤ 2 ^ 27
theorem PowOk.of {i j : Int} (b : Nat) (h0 : 0 ≤ j := by decide) (hb : i.natAbs < 2 ^ b) (h : (b : Int) * j ≤ 2 ^ 27 := by decide) : PowOk i j := by
  refine ⟨h0, Int.le_trans (Int.mul_le_mul_of_nonneg_right ?_ h0) h⟩
  have : Builtin.Int.intBits i ≤ b := intBits_le hb
  omega
theorem op_powG : OpR X (binaryOp .Pow) (rI PowOk fun i j => .int (i ^ j.toNat)) := opI fun _ _ _ _ _ _ _ hc q => pow_int hc.1 hc.2 q
def oPow : O2 := oI PowOk fun i j => .int (i ^ j.toNat)
def oShl : O2 := oI CPow fun i j => .int (i * 2 ^ j.toNat)
def oShr : O2 := oI (fun _ j => 0 ≤ j) fun i j => .int (i / 2 ^ j.toNat)
def oAnd : O2 := oI0 fun i j => .int (Builtin.bitAnd i j)
def oOr : O2 := oI0 fun i j => .int (Builtin.bitOr i j)
def oXor : O2 := oI0 fun i j => .int (Builtin.bitXor i j)
theorem o_sub : G2 X (binaryOp .Sub) oSub := g2_I0 op_sub
theorem o_fdiv : G2 X (binaryOp .FloorDiv) oFdiv := g2_I op_fdivG (fun _ _ h => h) fun _ _ _ => rfl
theorem o_mod : G2 X (binaryOp .Mod) oMod := g2_I op_modN (fun _ _ h => h) fun _ _ _ => rfl
theorem o_pow : G2 X (binaryOp .Pow) oPow := g2_I op_powG (fun _ _ h => h) fun _ _ _ => rfl
theorem o_shl : G2 X (binaryOp .LShift) oShl := g2_I op_shl (fun _ _ h => h) fun _ _ _ => rfl
theorem o_shr : G2 X (binaryOp .RShift) oShr := g2_I op_shr (fun _ _ h => h) fun _ _ _ => rfl
theorem o_and : G2 X (binaryOp .BitAnd) oAnd := g2_I0 op_and
def oLt : O2 := oI0 fun i j => .bl (decide (i < j))
def oLe : O2 := oI0 fun i j => .bl (decide (i ≤ j))
def oGt : O2 := oI0 fun i j => .bl (decide (j < i))
def oGe : O2 := oI0 fun i j => .bl (decide (j ≤ i))
theorem o_lt : G2 X (compareOp .Lt) oLt := g2_B0 op_lt
theorem o_le : G2 X (compareOp .LtE) oLe := g2_B0 op_le
theorem o_gt : G2 X (compareOp .Gt) oGt := g2_B0 op_gt
theorem o_ge : G2 X (compareOp .GtE) oGe := g2_B0 op_ge
def oNeg : O1 := fun d S R => match d with
  | .int i => R (.int (-i)) S
  | _ => False
theorem o_neg : G1 X (unaryOp .USub) oNeg := fun pins s σ H x v Q I rx ⟨d, S, F, R, w, r1, q, l⟩ => un_neg pins s σ H x v Q I rx (by
    unfold oNeg at q
    split at q
    · cases r1
      exact ⟨_, rfl, l _ _ _ _ q (Aft.refl w) rfl⟩
    · exact q.elim)
/-- is None, is not None -/
def isNon : D → Bool
  | .non => true
  | _ => false
def oIsN : O2 := fun d e S R => match e with
  | .non => R (.bl (isNon d)) S
  | _ => False
def oNotN : O2 := fun d e S R => match e with
  | .non => R (.bl (!isNon d)) S
  | _ => False
/-! ### plus, times -/
def oAdd' (S : Sto) (R : QD) : D → D → Prop
  | .int i, .int j => R (.int (i + j)) S
  | .str x, .str y => x.length + y.length ≤ sizeLine ∧ R (.str (x ++ y)) S
  | .tup xs, .tup ys => xs.length + ys.length ≤ sizeLine ∧ R (.tup (xs ++ ys)) S
  | .lst xs, .lst ys => xs.length + ys.length ≤ sizeLine ∧ R (.lst (xs ++ ys)) S
  | _, _ => False
def oAdd : O2 := fun d e S R => oAdd' S R (rs S d) (rs S e)
theorem o_add : G2 X (binaryOp .Add) oAdd := fun pins s σ H x y v u Q I rx ry ⟨d, e, S, F, R, w, r1, r2, q, l⟩ => by
  unfold oAdd at q
  generalize z1 : rs S d = d' at q
  generalize z2 : rs S e = e' at q
  unfold oAdd' at q
  split at q
  · have z1 := rs_other z1 (by intro ds; simp)
    have z2 := rs_other z2 (by intro ds; simp)
    subst z1 z2
    cases r1; cases r2
    exact op_add pins s σ H _ _ v u Q I rx ry ⟨_, _, rfl, rfl, l _ _ _ _ q (Aft.refl w) rfl⟩
  · have z1 := rs_other z1 (by intro ds; simp)
    have z2 := rs_other z2 (by intro ds; simp)
    subst z1 z2
    cases r1; cases r2
    exact op_add_str pins s σ H _ _ v u Q I rx ry ⟨_, _, rfl, rfl, q.1, l _ _ _ _ q.2 (Aft.refl w) rfl⟩
  · have z1 := rs_other z1 (by intro ds; simp)
    have z2 := rs_other z2 (by intro ds; simp)
    subst z1 z2
    obtain ⟨a, xs, rfl, h1, l1⟩ := r1
    obtain ⟨b, ys, rfl, h2, l2⟩ := r2
    refine op_catA pins s σ H _ _ v u Q I rx ry ⟨a, b, xs, ys, rfl, rfl, h1, h2, by rw [l1.length, l2.length]; exact q.1, fun e => ?_, fun e e' => ?_, fun _ _ p hp => ?_⟩
    · subst e
      have : _ = [] := List.eq_nil_of_length_eq_zero (by rw [← l1.length]; rfl)
      subst this
      exact l _ _ _ _ q.2 (Aft.refl w) ⟨b, ys, rfl, h2, l2⟩
    · subst e'
      have : _ = [] := List.eq_nil_of_length_eq_zero (by rw [← l2.length]; rfl)
      subst this
      exact l _ _ _ _ q.2 (Aft.refl w) ⟨a, xs, rfl, h1, by rw [List.append_nil]; exact l1⟩
    · exact l _ _ _ _ q.2 (Aft.new w hp) (rp_newT w hp (l1.app l2))
  · obtain ⟨a, xs, rfl, h1, l1⟩ := rs_lst w r1 z1
    obtain ⟨b, ys, rfl, h2, l2⟩ := rs_lst w r2 z2
    refine op_cat pins s σ H _ _ v u Q I rx ry ⟨a, b, xs, ys, rfl, rfl, h1, h2, by rw [l1.length, l2.length]; exact q.1, fun p hp => ?_⟩
    exact l _ _ _ _ q.2 (Aft.new w hp) (rp_newL w hp (l1.app l2))
  · exact q.elim
theorem RpL.rep {K : PySem.W.Frag} {T : Sto} {H : Hp} {ds : List D} {xs : List V} (r : RpL K T H ds xs) : ∀ k : Nat, RpL K T H (List.replicate k ds).flatten (List.replicate k xs).flatten
  | 0 => rfl
  | k + 1 => by
    rw [List.replicate_succ, List.replicate_succ, List.flatten_cons, List.flatten_cons]
    exact r.app (RpL.rep r k)
def oMul' (S : Sto) (R : QD) : D → D → Prop
  | .int i, .int j => MulOk i j ∧ R (.int (i * j)) S
  | .lst xs, .int k => (-(2 ^ 63) ≤ k ∧ k < 2 ^ 63 ∧ xs.length * k.toNat ≤ sizeLine) ∧ R (.lst (List.replicate k.toNat xs).flatten) S
  | _, _ => False
def oMul : O2 := fun d e S R => oMul' S R (rs S d) e
theorem o_mul : G2 X (binaryOp .Mult) oMul := fun pins s σ H x y v u Q I rx ry ⟨d, e, S, F, R, w, r1, r2, q, l⟩ => by
  unfold oMul at q
  generalize z1 : rs S d = d' at q
  unfold oMul' at q
  split at q
  · have z1 := rs_other z1 (by intro ds; simp)
    subst z1
    cases r1; cases r2
    exact op_mulG pins s σ H _ _ v u Q I rx ry ⟨_, _, rfl, rfl, q.1, l _ _ _ _ q.2 (Aft.refl w) rfl⟩
  · obtain ⟨a, xs, rfl, h1, l1⟩ := rs_lst w r1 z1
    cases r2
    refine op_rep pins s σ H _ _ v u Q I rx ry ⟨a, _, xs, rfl, rfl, h1, q.1.1, q.1.2.1, by rw [l1.length]; exact q.1.2.2, fun p hp => ?_⟩
    exact l _ _ _ _ q.2 (Aft.new w hp) (rp_newL w hp (l1.rep _))
  · exact q.elim
/-- [..] * k, a list that is to change -/
def oMulM : O2 := fun d e S R => match rs S d, e with
  | .lst xs, .int k => (-(2 ^ 63) ≤ k ∧ k < 2 ^ 63 ∧ xs.length * k.toNat ≤ sizeLine) ∧ ∀ p, S p = none → R (.ref p) (up S p (.lst (List.replicate k.toNat xs).flatten))
  | _, _ => False
/-! ### == and != -/
mutual
def pyD : D → PyData
  | .non => .none
  | .bl b => .bool b
  | .int i => .int i
  | .str x => .str x
  | .tup ds => .tuple (pyDL ds)
  | .lst ds => .list (pyDL ds)
  | .scr ds => .list (pyDL ds)
  | .ref _ => .none
  | .ty _ => .none
def pyDL : List D → List PyData
  | [] => []
  | d :: ds => pyD d :: pyDL ds
end
/-- data, at most so deep -/
def pl : Nat → D → Bool
  | _, .non => true
  | _, .bl _ => true
  | _, .int _ => true
  | _, .str x => PyData.strOk x
  | n + 1, .tup ds => ds.all (pl n)
  | n + 1, .lst ds => ds.all (pl n)
  | n + 1, .scr ds => ds.all (pl n)
  | _, _ => false
def eqD (d e : D) : Bool := PyData.eqv (pyD d) (pyD e)
mutual
theorem pl_shape : ∀ (d : D) (n : Nat), pl n d = true → (pyD d).canLay0 = true ∧ (pyD d).depth ≤ n
  | .non, n, _ => ⟨rfl, Nat.zero_le _⟩
  | .bl _, n, _ => ⟨rfl, Nat.zero_le _⟩
  | .int _, n, _ => ⟨rfl, Nat.zero_le _⟩
  | .str x, n, h => ⟨by cases n <;> exact h, Nat.zero_le _⟩
  | .tup ds, 0, h => nomatch h
  | .lst ds, 0, h => nomatch h
  | .scr ds, 0, h => nomatch h
  | .ref _, 0, h => nomatch h
  | .ty _, 0, h => nomatch h
  | .ref _, _ + 1, h => nomatch h
  | .ty _, _ + 1, h => nomatch h
  | .tup ds, n + 1, h => by
    have z := pl_shapeL ds n h
    exact ⟨z.1, Nat.succ_le_succ z.2⟩
  | .lst ds, n + 1, h => by
    have z := pl_shapeL ds n h
    exact ⟨z.1, Nat.succ_le_succ z.2⟩
  | .scr ds, n + 1, h => by
    have z := pl_shapeL ds n h
    exact ⟨z.1, Nat.succ_le_succ z.2⟩
theorem pl_shapeL : ∀ (ds : List D) (n : Nat), ds.all (pl n) = true → PyData.canLayAll0 (pyDL ds) = true ∧ PyData.depthAll (pyDL ds) ≤ n
  | [], n, _ => ⟨rfl, Nat.zero_le _⟩
  | d :: ds, n, h => by
    rw [List.all_cons, Bool.and_eq_true] at h
    have a := pl_shape d n h.1
    have b := pl_shapeL ds n h.2
    refine ⟨?_, ?_⟩
    · show ((pyD d).canLay0 && PyData.canLayAll0 (pyDL ds)) = true
      rw [a.1, b.1]; rfl
    · show max (pyD d).depth (PyData.depthAll (pyDL ds)) ≤ n
      exact Nat.max_le.mpr ⟨a.2, b.2⟩
end
theorem pl_shaped {d : D} {n : Nat} (h : pl n d = true) (hn : n ≤ 64 := by decide) : SeqAt.shaped (pyD d) = true := by
  have z := pl_shape d n h
  unfold SeqAt.shaped
  rw [z.1, decide_eq_true (Nat.le_trans z.2 hn)]
  rfl
section
variable {K : PySem.W.Frag} {T : Sto} {H : Hp}
mutual
theorem dp_of : ∀ (d : D) (n : Nat) (v : V), pl n d = true → Rp K T H d v → Dp K H v (pyD d)
  | .non, n, v, _, r => by cases r; exact .non
  | .bl b, n, v, _, r => by cases r; exact .bl b
  | .int i, n, v, _, r => by cases r; exact .int i
  | .str x, n, v, _, r => by cases r; exact .str x
  | .tup ds, 0, _, h, _ => nomatch h
  | .lst ds, 0, _, h, _ => nomatch h
  | .scr ds, 0, _, h, _ => nomatch h
  | .ref _, 0, _, h, _ => nomatch h
  | .ty _, 0, _, h, _ => nomatch h
  | .ref _, _ + 1, _, h, _ => nomatch h
  | .ty _, _ + 1, _, h, _ => nomatch h
  | .tup ds, n + 1, v, h, r => by
    obtain ⟨a, xs, rfl, q, rl⟩ := r
    exact .tup q (dpL_of ds n xs h rl)
  | .lst ds, n + 1, v, h, r => by
    obtain ⟨a, xs, rfl, _, q, rl⟩ := r
    exact .lst (.of q) (dpL_of ds n xs h rl)
  | .scr ds, n + 1, v, h, r => by
    obtain ⟨a, xs, rfl, q, rl⟩ := r
    exact .lst q.sq (dpL_of ds n xs h rl)
theorem dpL_of : ∀ (ds : List D) (n : Nat) (vs : List V), ds.all (pl n) = true → RpL K T H ds vs → DpAll K H vs (pyDL ds)
  | [], n, vs, _, r => by rw [show vs = [] from r]; exact .nil
  | d :: ds, n, vs, h, r => by
    obtain ⟨x, xs, rfl, r1, r2⟩ := r
    rw [List.all_cons, Bool.and_eq_true] at h
    exact .cons (dp_of d n x h.1 r1) (dpL_of ds n xs h.2 r2)
end
end
/-- a list that changes may stand on top -/
theorem dp_rs {K : PySem.W.Frag} {S F : Sto} {H : Hp} {d : D} {v : V} {n : Nat} (w : Wd K S F H) (r : Rp K (cmb S F) H d v) (h : pl n (rs S d) = true) : Dp K H v (pyD (rs S d)) := by
  cases z : rs S d with
  | lst es =>
    rw [z] at h
    obtain ⟨a, xs, rfl, q, rl⟩ := rs_lst w r z
    cases n with
    | zero => cases h
    | succ n => exact .lst (.of q) (dpL_of es n xs h rl)
  | _ =>
    have z' := rs_other z (by intro ds; simp)
    subst z'
    rw [z] at h
    exact dp_of _ n _ h r
def oEq : O2 := fun d e S R => (pl 60 (rs S d) = true ∧ pl 60 (rs S e) = true) ∧ R (.bl (eqD (rs S d) (rs S e))) S
def oNe : O2 := fun d e S R => (pl 60 (rs S d) = true ∧ pl 60 (rs S e) = true) ∧ R (.bl (!eqD (rs S d) (rs S e))) S
theorem o_eq (hu : X.A.units + 64 < cLine) : G2 X (compareOp .Eq) oEq := op_weak (op_eqD hu) fun x y H Q ⟨d, e, S, F, R, w, r1, r2, q, l⟩ =>
  ⟨_, _, dp_rs w r1 q.1.1, dp_rs w r2 q.1.2, pl_shaped q.1.1, pl_shaped q.1.2, l _ _ _ _ q.2 (Aft.refl w) rfl⟩
theorem o_ne (hu : X.A.units + 64 < cLine) : G2 X (compareOp .NotEq) oNe := op_weak (op_neD hu) fun x y H Q ⟨d, e, S, F, R, w, r1, r2, q, l⟩ =>
  ⟨_, _, dp_rs w r1 q.1.1, dp_rs w r2 q.1.2, pl_shaped q.1.1, pl_shaped q.1.2, l _ _ _ _ q.2 (Aft.refl w) rfl⟩
/-- strs of any signs -/
def oEqS : O2 := fun d e S R => match d, e with
  | .str x, .str y => R (.bl (decide (x = y))) S
  | _, _ => False
def oNeS : O2 := fun d e S R => match d, e with
  | .str x, .str y => R (.bl (!decide (x = y))) S
  | _, _ => False
theorem dec_strV {x y : Str} : decide (V.str x = V.str y) = decide (x = y) := by
  by_cases h : x = y
  · subst h; simp
  · simp [h]
theorem o_neS : G2 X (compareOp .NotEq) oNeS := op_weak op_ne fun x y H Q ⟨d, e, S, F, R, w, r1, r2, q, l⟩ => by
  unfold oNeS at q
  split at q
  · cases r1; cases r2
    exact ⟨rfl, by rw [dec_strV]; exact l _ _ _ _ q (Aft.refl w) rfl⟩
  · exact q.elim
end
end Gx

/-! Gx, part 7: places, slices, methods, built-in functions. -/
namespace Gx
open PySem PySem.Spec PyProof.Rows L2

section
variable {K : PySem.W.Frag} {S F : Sto} {H : Hp} {T : Sto}
theorem RpL.atI {ds : List D} {xs : List V} {i : Int} {d : D} (r : RpL K T H ds xs) (h : L2.atI ds i = some d) : ∃ v, L2.atI xs i = some v ∧ Rp K T H d v := by
  unfold L2.atI at h ⊢
  rw [r.length]
  cases z : ixN ds.length i with
  | none => rw [z] at h; cases h
  | some j =>
    rw [z] at h
    obtain ⟨v, h1, h2⟩ := r.get (show ds[j]? = some d from h)
    exact ⟨v, h1, h2⟩
def cutD (ds : List D) (lo hi : Option Int) : List D := (ds.drop (HT.sIx ds.length 0 lo)).take (HT.sIx ds.length ds.length hi - HT.sIx ds.length 0 lo)
theorem RpL.cut {ds : List D} {xs : List V} {lo hi : Option Int} (r : RpL K T H ds xs) : RpL K T H (cutD ds lo hi) (cutV xs lo hi) := by
  unfold cutD cutV
  rw [r.length]
  exact (r.drop _).take _
end

section
variable {X : Cx} {e a b : Expr} {t ta tb : ET} {pos : Pos}
/-! ### a[i] -/
def GIx (X : Cx) (r : O2) : Prop := IxR X (L2O X.K r)
theorem g_ix {r : O2} (hr : GIx X r) (ha : GE X a ta) (hb : GE X b tb) (hs : PlainIx b := by exact fun _ _ => rfl) : GE X (.Subscript a b pos) (eBin r ta tb) := pe_weak (pe_ix hr ha hb hs) fun σ H Q h => l2_of h
def oIx : O2 := fun d e S R => match itemsOf (rs S d), e with
  | some ds, .int i => (match L2.atI ds i with
    | some x => R x S
    | none => False)
  | _, _ => False
theorem o_ix : GIx X oIx := fun value slice pins s σ H x y v u Q I rx ry ⟨d, e, S, F, R, w, r1, r2, q, l⟩ hs => by
  refine ix_seq value slice pins s σ H x y v u Q I rx ry ?_ hs
  unfold oIx at q
  split at q
  · rename_i ds i hd
    split at q
    · rename_i z hz
      obtain ⟨a, xs, rfl, hx, rl⟩ := seq_view w r1 hd
      cases r2
      obtain ⟨v, h1, h2⟩ := rl.atI hz
      rcases hx with hx | hx
      · exact .inl ⟨a, xs, _, v, rfl, rfl, hx, h1, l _ _ _ _ q (Aft.refl w) h2⟩
      · exact .inr (.inl ⟨a, xs, _, v, rfl, rfl, hx, h1, l _ _ _ _ q (Aft.refl w) h2⟩)
    · exact q.elim
  · exact q.elim

/-! ### a[i:j] -/
abbrev TO' := Tau → Sto → (Option Int → Sto → Prop) → Prop
def LO (K : PySem.W.Frag) (t : TO') : TO := fun σ H Q => ∃ (τ : Tau) (S F : Sto) (R : Option Int → Sto → Prop), Wd K S F H ∧ RpS K (cmb S F) H τ σ ∧ t τ S R ∧ ∀ o S' H', R o S' → Aft K S F H S' H' → Q o H'
def GO (X : Cx) (e : Option Expr) (t : TO') : Prop := PO X e (LO X.K t)
def pNone : TO' := fun _ S Q => Q none S
def pSome (t : ET) : TO' := fun τ S Q => t τ S fun d S1 => match d with
  | .int i => Q (some i) S1
  | _ => False
theorem go_none : GO X none pNone := ⟨fun pins s σ H Q I ⟨τ, S, F, R, w, r, q, l⟩ => po_none.run pins s σ H Q I (l _ _ _ q (Aft.refl w))⟩
theorem go_some (h : GE X e t) : GO X (some e) (pSome t) := ⟨fun pins s σ H Q I ⟨τ, S, F, R, w, r, q, l⟩ => (po_some h).run pins s σ H Q I (by
  refine ⟨τ, S, F, _, w, r, q, fun d S1 v H1 q1 a1 r1 => ?_⟩
  split at q1
  · cases r1
    exact ⟨_, rfl, l _ _ _ q1 a1⟩
  · exact q1.elim)⟩
def oCut (lo hi : Option Int) (S : Sto) (R : QD) : D → Prop
  | .tup ds => R (.tup (cutD ds lo hi)) S
  | .lst ds => R (.lst (cutD ds lo hi)) S
  | .scr ds => R (.lst (cutD ds lo hi)) S
  | _ => False
def eSl (te : ET) (tl th : TO') : ET := fun τ S Q => te τ S fun d S1 => tl τ S1 fun lo S2 => th τ S2 fun hi S3 => oCut lo hi S3 Q (rs S3 d)
def rSlX (K : PySem.W.Frag) : V → Option Int → Option Int → Hp → VK → Prop := fun x lo hi H Q => rSlA K x lo hi H Q ∨ rSlL K x lo hi H Q
theorem sl_X : SlR X (rSlX X.K) := sl_tupA.or sl_list
theorem cutD_whole {ds : List D} {lo hi : Option Int} (h : HT.sIx ds.length 0 lo = 0 ∧ HT.sIx ds.length ds.length hi = ds.length) : cutD ds lo hi = ds := by
  unfold cutD
  rw [h.1, h.2, List.drop_zero, Nat.sub_zero, List.take_length]
theorem g_slice {lo hi : Option Expr} {tl th : TO'} {p2 : Pos} (he : GE X e t) (hl : GO X lo tl) (hu : GO X hi th) : GE X (.Subscript e (.Slice lo hi none p2) pos) (eSl t tl th) :=
  pe_weak (pe_slice sl_X he hl hu) fun σ H Q ⟨τ, S, F, R, w, r, q, g⟩ => by
    refine ⟨τ, S, F, _, w, r, q, fun d S1 v H1 q1 a1 r1 => ?_⟩
    refine ⟨τ, S1, F, _, a1.wd, a1.rps w r, q1, fun lo S2 H2 q2 a2 => ?_⟩
    refine ⟨τ, S2, F, _, a2.wd, (a1.trans a2).rps w r, q2, fun hi S3 H3 q3 a3 => ?_⟩
    have rd := (a2.trans a3).rp a1.wd r1
    have a13 := (a1.trans a2).trans a3
    generalize z : rs S3 d = d' at q3
    unfold oCut at q3
    split at q3
    · have z := rs_other z (by intro ds; simp)
      subst z
      obtain ⟨a, xs, rfl, hs, rl⟩ := rd
      refine .inl ⟨a, xs, rfl, hs, fun h => ?_, fun h p hp => ?_⟩
      · rw [rl.length] at h
        rw [cutD_whole h] at q3
        exact g _ _ _ _ q3 a13 ⟨a, xs, rfl, hs, rl⟩
      · exact g _ _ _ _ q3 (a13.trans (Aft.new a3.wd hp)) (rp_newT a3.wd hp rl.cut)
    · obtain ⟨a, xs, rfl, hs, rl⟩ := rs_lst a3.wd rd z
      exact .inr ⟨a, xs, rfl, .of hs, fun p hp => g _ _ _ _ q3 (a13.trans (Aft.new a3.wd hp)) (rp_newL a3.wd hp rl.cut)⟩
    · have z := rs_other z (by intro ds; simp)
      subst z
      obtain ⟨a, xs, rfl, hs, rl⟩ := rd
      exact .inr ⟨a, xs, rfl, hs.sq, fun p hp => g _ _ _ _ q3 (a13.trans (Aft.new a3.wd hp)) (rp_newL a3.wd hp rl.cut)⟩
    · exact q3.elim

/-! ### xs[i] = v -/
def oSet : OSet := fun d e f S R => match d, e with
  | .ref p, .int i => (match S p with
    | some (.lst ds) => (match ixN ds.length i with
      | some j => R (up S p (.lst (ds.set j f)))
      | none => False)
    | _ => False)
  | _, _ => False
theorem o_set : GSet X oSet := fun pins s σ H o i v u1 u2 u3 Q I ro ri rv ⟨d, e, f, S, F, R, w, r1, r2, r3, q, l⟩ => by
  refine set_list pins s σ H o i v u1 u2 u3 Q I ro ri rv ?_
  unfold oSet at q
  split at q
  · rename_i p k
    split at q
    · rename_i ds hp
      split at q
      · rename_i j hj
        cases r1; cases r2
        obtain ⟨xs, hx, rl⟩ := w.ok p _ (cmb_l hp)
        exact ⟨p, xs, k, j, rfl, rfl, hx, by rw [rl.length]; exact hj, l _ _ q (Aft.set w hp (sto_set w hp (rl.set j r3)))⟩
      · exact q.elim
    · exact q.elim
  · exact q.elim

/-! ### methods of lists -/
def GM (X : Cx) (id : String) (r : D → OL) : Prop := MtR X id (fun x xs H Q => ∃ (d : D) (ds : List D) (S F : Sto) (R : QD), Wd X.K S F H ∧ Rp X.K (cmb S F) H d x ∧ RpL X.K (cmb S F) H ds xs ∧ r d ds S R ∧
  ∀ d S' v H', R d S' → Aft X.K S F H S' H' → Rp X.K (cmb S' F) H' d v → Q v H')
/-- of the kind of a list -/
def isL (S : Sto) (d : D) : Prop := match rs S d with
  | .lst _ => True
  | .scr _ => True
  | _ => False
theorem tyV_l {K : PySem.W.Frag} {S F : Sto} {H : Hp} {d : D} {v : V} (w : Wd K S F H) (r : Rp K (cmb S F) H d v) (h : isL S d) : tyV K "list" v H := by
  unfold isL at h
  split at h
  · rename_i ds z
    obtain ⟨a, xs, rfl, hs, rl⟩ := rs_lst w r z
    exact .inl ⟨rfl, xs, .of hs⟩
  · rename_i ds z
    have z := rs_other z (by intro ds; simp)
    subst z
    obtain ⟨a, xs, rfl, hs, rl⟩ := r
    exact .inl ⟨rfl, xs, hs.sq⟩
  · exact h.elim
variable {o : Expr} {to : ET} {u : AT} {es : List Expr} {name : Str} {apos cpos : Pos} {id : String} {r : D → OL}
def eMt (r : D → OL) (to : ET) (u : AT) : ET := fun τ S Q => to τ S fun d S1 => isL S1 d ∧ u τ S1 fun ds S2 => r d ds S2 Q
theorem g_mt (slot : Slot "list" name id) (hty : typeOf (.builtin id) = pure (.type "method_descriptor")) (hm : GM X id r) (ho : GE X o to) (ha : GA X (e :: es) u)
    (hbase : attributeBase o name X.env (eval o X.env) = eval o X.env := by rfl)
    (hfew : ((backTo cpos (starEach (e :: es) X.env)).all (fun x => !x.1) && (backToKw cpos (keywordEach [] X.env)).all (fun x => x.1.isSome) && decide ((e :: es).length + ([] : List Keyword).length + (if ([] : List Keyword).isEmpty then 0 else 1) < 30)) = true := by rfl)
    (hline : (apos.endLine == cpos.line) = true := by rfl) (hs : starEach (e :: es) X.env = (false, eval e X.env) :: starEach es X.env := by rfl) (hplain : (backTo cpos (starEach es X.env)).any (·.1) = false := by rfl) :
    GE X (.Call (.Attribute o name apos) (e :: es) [] cpos) (eMt r to u) :=
  pe_weak (pe_bm PySem.F.plainAttrs_list slot hty hm ho ha hbase hfew hline hs hplain) fun σ H Q ⟨τ, S, F, R, w, rs, q, g⟩ => by
    refine ⟨τ, S, F, _, w, rs, q, fun d S1 v H1 q1 a1 r1 => ⟨tyV_l a1.wd r1 q1.1, ?_⟩⟩
    exact ⟨τ, S1, F, _, a1.wd, a1.rps w rs, q1.2, fun ds S2 vs H2 q2 a2 r2 => ⟨d, ds, S2, F, R, a2.wd, a2.rp a1.wd r1, r2, q2, fun d S3 v H3 q3 a3 r3 => g _ _ _ _ q3 ((a1.trans a2).trans a3) r3⟩⟩
def eMt0 (r : D → OL) (to : ET) : ET := fun τ S Q => to τ S fun d S1 => isL S1 d ∧ r d [] S1 Q
def mAppend : D → OL := fun d ds S R => match d, ds with
  | .ref p, [y] => (match S p with
    | some (.lst xs) => xs.length < sizeLine ∧ R .non (up S p (.lst (xs ++ [y])))
    | _ => False)
  | _, _ => False
theorem m_append : GM X "list.append" mAppend := fun pins s σ H x xs v us Q I rx rv ⟨d, ds, S, F, R, w, r1, r2, q, l⟩ => by
  refine mt_append pins s σ H x xs v us Q I rx rv ?_
  unfold mAppend at q
  split at q
  · rename_i p y
    split at q
    · rename_i es hp
      cases r1
      obtain ⟨x1, _, rfl, ry, rfl⟩ := r2
      obtain ⟨zs, hx, rl⟩ := w.ok p _ (cmb_l hp)
      refine ⟨p, zs, x1, rfl, rfl, hx, by rw [rl.length]; exact q.1, l _ _ _ _ q.2 (Aft.set w hp (sto_set w hp (rl.app ⟨x1, [], rfl, ry, rfl⟩))) rfl⟩
    · exact q.elim
  · exact q.elim
end

/-! ### built-in functions -/
section
variable {X : Cx}
def cLen : OL := fun ds S R => match ds with
  | [d] => (match itemsOf (rs S d) with
    | some es => R (.int es.length) S
    | none => (match d with
      | .str x => x.length ≤ sizeLine ∧ R (.int x.length) S
      | _ => False))
  | _ => False
theorem c_len : GC X (.builtin "len") cLen := fun pins s σ H vs us Q I r ⟨ds, S, F, R, w, r1, q, l⟩ => by
  unfold cLen at q
  split at q
  · rename_i d
    obtain ⟨x, _, rfl, rx, rfl⟩ := r1
    split at q
    · rename_i es he
      obtain ⟨a, xs, rfl, hx, rl⟩ := seq_view w rx he
      exact call_len_seq pins s σ H _ us Q I r ⟨a, xs, rfl, hx, by rw [rl.length]; exact l _ _ _ _ q (Aft.refl w) rfl⟩
    · split at q
      · cases rx
        exact call_len_str pins s σ H _ us Q I r ⟨_, rfl, q.1, l _ _ _ _ q.2 (Aft.refl w) rfl⟩
      · exact q.elim
  · exact q.elim
def cList : OL := fun ds S R => match ds with
  | [d] => (match itemsOf (rs S d) with
    | some es => R (.lst es) S
    | none => False)
  | _ => False
theorem c_list : GC X (.type "list") cList := fun pins s σ H vs us Q I r ⟨ds, S, F, R, w, r1, q, l⟩ => by
  refine call_list_of pins s σ H vs us Q I r ?_
  unfold cList at q
  split at q
  · rename_i d
    obtain ⟨x, _, rfl, rx, rfl⟩ := r1
    split at q
    · rename_i es he
      obtain ⟨a, xs, rfl, hx, rl⟩ := seq_view w rx he
      exact ⟨a, xs, rfl, hx, fun p hp => l _ _ _ _ q (Aft.new w hp) (rp_newL w hp rl)⟩
    · exact q.elim
  · exact q.elim
/-- list(xs), a list that is to change -/
def cListM : OL := fun ds S R => match ds with
  | [d] => (match itemsOf (rs S d) with
    | some es => ∀ p, S p = none → R (.ref p) (up S p (.lst es))
    | none => False)
  | _ => False
def cTuple : OL := fun ds S R => match ds with
  | [d] => (match itemsOf (rs S d) with
    | some es => R (.tup es) S
    | none => False)
  | _ => False
theorem c_tuple : GC X (.type "tuple") cTuple := fun pins s σ H vs us Q I r ⟨ds, S, F, R, w, r1, q, l⟩ => by
  refine call_tuple_of pins s σ H vs us Q I r ?_
  unfold cTuple at q
  split at q
  · rename_i d
    obtain ⟨x, _, rfl, rx, rfl⟩ := r1
    split at q
    · rename_i es he
      obtain ⟨a, xs, rfl, hx, rl⟩ := seq_view w rx he
      refine ⟨a, xs, rfl, hx.imp (fun hx => ⟨hx, fun p hp => l _ _ _ _ q (Aft.new w hp) (rp_newT w hp rl)⟩) fun hx => ⟨hx, l _ _ _ _ q (Aft.refl w) ⟨a, xs, rfl, hx, rl⟩⟩⟩
    · exact q.elim
  · exact q.elim
theorem list_of_seq {K : PySem.W.Frag} {S F : Sto} {H : Hp} {d : D} {v : V} {ds : List D} (w : Wd K S F H) (r : Rp K (cmb S F) H d v) (h : rs S d = .lst ds) : ∃ a xs, v = .ref a ∧ SqL K H a xs ∧ RpL K (cmb S F) H ds xs := by
  obtain ⟨a, xs, e, q, rl⟩ := rs_lst w r h
  exact ⟨a, xs, e, .of q, rl⟩
/-- the ints, the truth values of data -/
def intsOf : List D → Option (List Int)
  | [] => some []
  | .int i :: ds => (intsOf ds).map (i :: ·)
  | _ :: _ => none
def blsOf : List D → Option (List Bool)
  | [] => some []
  | .bl i :: ds => (blsOf ds).map (i :: ·)
  | _ :: _ => none
theorem intsOf_map : ∀ ns : List Int, intsOf (ns.map D.int) = some ns
  | [] => rfl
  | n :: ns => by show (intsOf (ns.map D.int)).map (n :: ·) = _; rw [intsOf_map ns]; rfl
theorem blsOf_map : ∀ ns : List Bool, blsOf (ns.map D.bl) = some ns
  | [] => rfl
  | n :: ns => by show (blsOf (ns.map D.bl)).map (n :: ·) = _; rw [blsOf_map ns]; rfl
theorem intsOf_eq : ∀ {ds : List D} {ns : List Int}, intsOf ds = some ns → ds = ns.map D.int
  | [], ns, h => by cases h; rfl
  | .int i :: ds, ns, h => by
    have h : (intsOf ds).map (i :: ·) = some ns := h
    cases z : intsOf ds with
    | none => rw [z] at h; cases h
    | some ms => rw [z] at h; cases h; rw [intsOf_eq z]; rfl
  | .non :: _, _, h | .bl _ :: _, _, h | .str _ :: _, _, h | .tup _ :: _, _, h | .lst _ :: _, _, h | .scr _ :: _, _, h | .ref _ :: _, _, h | .ty _ :: _, _, h => nomatch h
theorem blsOf_eq : ∀ {ds : List D} {ns : List Bool}, blsOf ds = some ns → ds = ns.map D.bl
  | [], ns, h => by cases h; rfl
  | .bl i :: ds, ns, h => by
    have h : (blsOf ds).map (i :: ·) = some ns := h
    cases z : blsOf ds with
    | none => rw [z] at h; cases h
    | some ms => rw [z] at h; cases h; rw [blsOf_eq z]; rfl
  | .non :: _, _, h | .int _ :: _, _, h | .str _ :: _, _, h | .tup _ :: _, _, h | .lst _ :: _, _, h | .scr _ :: _, _, h | .ref _ :: _, _, h | .ty _ :: _, _, h => nomatch h
def lstInts (S : Sto) (d : D) : Option (List Int) := match rs S d with
  | .lst es => intsOf es
  | _ => none
def lstBls (S : Sto) (d : D) : Option (List Bool) := match rs S d with
  | .lst es => blsOf es
  | _ => none
theorem ints_view {K : PySem.W.Frag} {S F : Sto} {H : Hp} {d : D} {v : V} {ns : List Int} (w : Wd K S F H) (r : Rp K (cmb S F) H d v) (h : lstInts S d = some ns) : ∃ a, v = .ref a ∧ SqL K H a (ns.map V.int) := by
  unfold lstInts at h
  split at h
  · rename_i es z
    obtain ⟨a, xs, e, q, rl⟩ := list_of_seq w r z
    rw [intsOf_eq h] at rl
    rw [RpL.ints rl] at q
    exact ⟨a, e, q⟩
  · cases h
theorem bls_view {K : PySem.W.Frag} {S F : Sto} {H : Hp} {d : D} {v : V} {ns : List Bool} (w : Wd K S F H) (r : Rp K (cmb S F) H d v) (h : lstBls S d = some ns) : ∃ a, v = .ref a ∧ SqL K H a (ns.map V.bl) := by
  unfold lstBls at h
  split at h
  · rename_i es z
    obtain ⟨a, xs, e, q, rl⟩ := list_of_seq w r z
    rw [blsOf_eq h] at rl
    rw [RpL.bls rl] at q
    exact ⟨a, e, q⟩
  · cases h
def cSum : OL := fun ds S R => match ds with
  | [d] => (match lstInts S d with
    | some ns => R (.int ns.sum) S
    | none => False)
  | _ => False
theorem c_sum (hc : X.calm = true) : GC X (.builtin "sum") cSum := fun pins s σ H vs us Q I r ⟨ds, S, F, R, w, r1, q, l⟩ => by
  refine cr_sum hc pins s σ H vs us Q I r ?_
  unfold cSum at q
  split at q
  · obtain ⟨x, _, rfl, rx, rfl⟩ := r1
    split at q
    · rename_i es he
      obtain ⟨a, rfl, hx⟩ := ints_view w rx he
      exact ⟨a, _, rfl, hx, l _ _ _ _ q (Aft.refl w) rfl⟩
    · exact q.elim
  · exact q.elim
def cAll : OL := fun ds S R => match ds with
  | [d] => (match lstBls S d with
    | some ns => R (.bl (ns.all id)) S
    | none => False)
  | _ => False
theorem c_all (hc : X.calm = true) : GC X (.builtin "all") cAll := fun pins s σ H vs us Q I r ⟨ds, S, F, R, w, r1, q, l⟩ => by
  refine cr_all hc pins s σ H vs us Q I r ?_
  unfold cAll at q
  split at q
  · obtain ⟨x, _, rfl, rx, rfl⟩ := r1
    split at q
    · rename_i es he
      obtain ⟨a, rfl, hx⟩ := bls_view w rx he
      exact ⟨a, _, rfl, hx, l _ _ _ _ q (Aft.refl w) rfl⟩
    · exact q.elim
  · exact q.elim
def cAny : OL := fun ds S R => match ds with
  | [d] => (match lstBls S d with
    | some ns => R (.bl (ns.any id)) S
    | none => False)
  | _ => False
def cInt : OL := fun ds S R => match ds with
  | [.int i] => R (.int i) S
  | [.bl b] => R (.int (if b then 1 else 0)) S
  | _ => False
theorem c_int : GC X (.type "int") cInt := fun pins s σ H vs us Q I r ⟨ds, S, F, R, w, r1, q, l⟩ => by
  refine call_int1 pins s σ H vs us Q I r ?_
  unfold cInt at q
  split at q
  · obtain ⟨x, _, rfl, rx, rfl⟩ := r1
    cases rx
    exact .inl ⟨_, rfl, l _ _ _ _ q (Aft.refl w) rfl⟩
  · obtain ⟨x, _, rfl, rx, rfl⟩ := r1
    cases rx
    exact .inr ⟨_, rfl, l _ _ _ _ q (Aft.refl w) rfl⟩
  · exact q.elim
def cAbs : OL := fun ds S R => match ds with
  | [.int i] => R (.int (if i < 0 then -i else i)) S
  | _ => False
theorem c_abs : GC X (.builtin "abs") cAbs := fun pins s σ H vs us Q I r ⟨ds, S, F, R, w, r1, q, l⟩ => by
  refine call_abs pins s σ H vs us Q I r ?_
  unfold cAbs at q
  split at q
  · obtain ⟨x, _, rfl, rx, rfl⟩ := r1
    cases rx
    exact ⟨_, rfl, l _ _ _ _ q (Aft.refl w) rfl⟩
  · exact q.elim
def cMax2 : OL := fun ds S R => match ds with
  | [.int i, .int j] => R (.int (if j > i then j else i)) S
  | _ => False
def cMin2 : OL := fun ds S R => match ds with
  | [.int i, .int j] => R (.int (if j < i then j else i)) S
  | _ => False
theorem c_max2 (hc : X.calm = true) : GC X (.builtin "max") cMax2 := fun pins s σ H vs us Q I r ⟨ds, S, F, R, w, r1, q, l⟩ => by
  refine call_max2 hc pins s σ H vs us Q I r ?_
  unfold cMax2 at q
  split at q
  · obtain ⟨x, _, rfl, rx, y, _, rfl, ry, rfl⟩ := r1
    cases rx; cases ry
    exact ⟨_, _, rfl, l _ _ _ _ q (Aft.refl w) rfl⟩
  · exact q.elim
theorem c_min2 (hc : X.calm = true) : GC X (.builtin "min") cMin2 := fun pins s σ H vs us Q I r ⟨ds, S, F, R, w, r1, q, l⟩ => by
  refine call_min2 hc pins s σ H vs us Q I r ?_
  unfold cMin2 at q
  split at q
  · obtain ⟨x, _, rfl, rx, y, _, rfl, ry, rfl⟩ := r1
    cases rx; cases ry
    exact ⟨_, _, rfl, l _ _ _ _ q (Aft.refl w) rfl⟩
  · exact q.elim
def cDivmod : OL := fun ds S R => match ds with
  | [.int i, .int j] => CDiv i j ∧ R (.tup [.int (i / j), .int (i % j)]) S
  | _ => False
theorem c_divmod : GC X (.builtin "divmod") cDivmod := fun pins s σ H vs us Q I r ⟨ds, S, F, R, w, r1, q, l⟩ => by
  refine call_divmod pins s σ H vs us Q I r ?_
  unfold cDivmod at q
  split at q
  · obtain ⟨x, _, rfl, rx, y, _, rfl, ry, rfl⟩ := r1
    cases rx; cases ry
    exact ⟨_, _, rfl, q.1, fun p hp => l _ _ _ _ q.2 (Aft.new w hp) (rp_newT w hp ⟨_, _, rfl, rfl, _, _, rfl, rfl, rfl⟩)⟩
  · exact q.elim
def cGcd : OL := fun ds S R => match ds with
  | [.int i, .int j] => R (.int ((Nat.gcd i.natAbs j.natAbs : Nat) : Int)) S
  | _ => False
theorem c_gcd : GC X (.builtin "math.gcd") cGcd := fun pins s σ H vs us Q I r ⟨ds, S, F, R, w, r1, q, l⟩ => by
  refine cr_gcd pins s σ H vs us Q I r ?_
  unfold cGcd at q
  split at q
  · obtain ⟨x, _, rfl, rx, y, _, rfl, ry, rfl⟩ := r1
    cases rx; cases ry
    exact ⟨_, _, rfl, l _ _ _ _ q (Aft.refl w) rfl⟩
  · exact q.elim
/-! isinstance by a built-in class -/
def isiD (n : String) : D → Bool
  | .non => false
  | .bl _ => n == "bool" || n == "int"
  | .int _ => n == "int"
  | .str _ => n == "str"
  | .tup _ => n == "tuple"
  | .lst _ => n == "list"
  | .scr _ => n == "list"
  | _ => false
def tyN : D → String
  | .non => "NoneType"
  | .bl _ => "bool"
  | .int _ => "int"
  | .str _ => "str"
  | .tup _ => "tuple"
  | _ => "list"
def isPlainTop : D → Bool
  | .ref _ => false
  | .ty _ => false
  | _ => true
def cIsi : OL := fun ds S R => match ds with
  | [d, .ty n] => (isPlainTop (rs S d) = true ∧ n ∈ ["int", "bool", "str", "tuple", "list", "dict"]) ∧ R (.bl (isiD n (rs S d))) S
  | _ => False
theorem kit_all : ∀ a ∈ ["NoneType", "bool", "int", "str", "tuple", "list"], ∀ b ∈ ["int", "bool", "str", "tuple", "list", "dict"], kitB a b = some (a == b || (a == "bool" && b == "int")) := by decide +kernel
theorem isiD_eq {d : D} {n : String} (h : isPlainTop d = true) (hn : n ∈ ["int", "bool", "str", "tuple", "list", "dict"]) : kitB (tyN d) n = some (isiD n d) := by
  have z : ∀ a ∈ ["NoneType", "bool", "int", "str", "tuple", "list"], ∀ b ∈ ["int", "bool", "str", "tuple", "list", "dict"], ∀ d : D, isPlainTop d = true → tyN d = a → (a == b || (a == "bool" && b == "int")) = isiD b d := by
    intro a ha b hb d hd e
    subst e
    simp only [List.mem_cons, List.not_mem_nil, or_false] at hb
    cases d <;> first | (rcases hb with rfl | rfl | rfl | rfl | rfl | rfl <;> rfl) | (exact nomatch hd)
  have ma : tyN d ∈ ["NoneType", "bool", "int", "str", "tuple", "list"] := by cases d <;> first | simp [tyN] | (exact nomatch h)
  rw [kit_all _ ma _ hn, z _ ma _ hn d h rfl]
theorem tyX_of {K : PySem.W.Frag} {S F : Sto} {H : Hp} {d : D} {v : V} (w : Wd K S F H) (r : Rp K (cmb S F) H d v) (h : isPlainTop (rs S d) = true) : TyX K H v (.type (tyN (rs S d))) := by
  cases z : rs S d with
  | lst ds =>
    obtain ⟨a, xs, rfl, q, _⟩ := rs_lst w r z
    exact .base (.lst q)
  | tup ds =>
    have z := rs_other z (by intro ds; simp)
    subst z
    obtain ⟨a, xs, rfl, q, _⟩ := r
    rcases q with (q | ⟨ob, q⟩) | ⟨ob, its, n, q, c, _⟩
    · exact .base (.tup q)
    · exact .fTuple q
    · exact .kTuple q c
  | scr ds =>
    have z := rs_other z (by intro ds; simp)
    subst z
    obtain ⟨a, xs, rfl, q, _⟩ := r
    rcases q.sq with (q | ⟨ob, q⟩) | ⟨ob, its, n, q, c, _⟩
    · exact .base (.lst q)
    · exact .base (.frz q)
    · exact .kList q c
  | ref p => rw [z] at h; cases h
  | ty n => rw [z] at h; cases h
  | non =>
    have z := rs_other z (by intro ds; simp)
    subst z
    cases r
    exact .base .non
  | bl b =>
    have z := rs_other z (by intro ds; simp)
    subst z
    cases r
    exact .base (.bl b)
  | int b =>
    have z := rs_other z (by intro ds; simp)
    subst z
    cases r
    exact .base (.int b)
  | str b =>
    have z := rs_other z (by intro ds; simp)
    subst z
    cases r
    exact .base (.str b)
theorem c_isi : GC X (.builtin "isinstance") cIsi := fun pins s σ H vs us Q I r ⟨ds, S, F, R, w, r1, q, l⟩ => by
  refine call_isi pins s σ H vs us Q I r ?_
  unfold cIsi at q
  split at q
  · obtain ⟨x, _, rfl, rx, y, _, rfl, ry, rfl⟩ := r1
    cases ry
    exact ⟨x, _, _, _, _, rfl, .ty _, tyX_of w rx q.1.1, kit_ty (isiD_eq q.1.1 q.1.2), l _ _ _ _ q.2 (Aft.refl w) rfl⟩
  · exact q.elim
end
end Gx

/-! Gx, part 8: in, chains, repr, keywords, constants, the names of built-ins. -/
namespace Gx
open PySem PySem.Spec PyProof.Rows L2

section
variable {X : Cx} {a b c : Expr} {ta tb tc : ET} {pos : Pos}
/-! ### in -/
/-- x in xs, a list or a tuple of data -/
def inD (d : D) (ds : List D) : Bool := ds.any fun e => eqD e d
def oIn : O2 := fun d e S R => match rs S e with
  | .lst ds => (pl 60 d = true ∧ pl 60 (.lst ds) = true) ∧ R (.bl (inD d ds)) S
  | .tup ds => (pl 60 d = true ∧ pl 60 (.tup ds) = true) ∧ R (.bl (inD d ds)) S
  | _ => False
def oNin : O2 := fun d e S R => match rs S e with
  | .lst ds => (pl 60 d = true ∧ pl 60 (.lst ds) = true) ∧ R (.bl (!inD d ds)) S
  | .tup ds => (pl 60 d = true ∧ pl 60 (.tup ds) = true) ∧ R (.bl (!inD d ds)) S
  | _ => False
/-! ### a < b < c -/
def eChain (r r' : O2) (ta tb tc : ET) : ET := fun τ S Q => ta τ S fun d S1 => tb τ S1 fun e S2 => r d e S2 fun z S3 => match z with
  | .bl b => if b = true then tc τ S3 fun f S4 => r' e f S4 Q else Q (.bl false) S3
  | _ => False
theorem chain_of {r r' : O2} {σ : L2.St} {H : Hp} {Q : VK} (h : LE X.K (eChain r r' ta tb tc) σ H Q) : tChain (L2O X.K r) (L2O X.K r') (LE X.K ta) (LE X.K tb) (LE X.K tc) σ H Q := by
  obtain ⟨τ, S, F, R, w, rs, q, g⟩ := h
  refine le_bin ⟨τ, S, F, w, rs, q, fun d e S' v u H' q' a' r1 r2 => ?_⟩
  refine ⟨d, e, S', F, _, a'.wd, r1, r2, q', fun z S2 v' H2 q2 a2 r2' => ?_⟩
  have a02 := a'.trans a2
  split at q2
  · rename_i b
    refine ⟨b, r2', ?_⟩
    cases b with
    | true =>
      refine ⟨τ, S2, F, _, a2.wd, a02.rps w rs, q2, fun f S3 v3 H3 q3 a3 r3 => ?_⟩
      exact ⟨e, f, S3, F, R, a3.wd, (a2.trans a3).rp a'.wd r2, r3, q3, fun d' S4 v4 H4 q4 a4 r4 => g _ _ _ _ q4 ((a02.trans a3).trans a4) r4⟩
    | false => exact g _ _ _ _ q2 a02 rfl
  · exact q2.elim
theorem g_chain {op op' : CmpOp} {r r' : O2} (ho : G2 X (compareOp op) r) (ho' : G2 X (compareOp op') r') (ha : GE X a ta) (hb : GE X b tb) (hc : GE X c tc) (hm : lastMarks [op, op'] [b, c] = false := by with_unfolding_all rfl) :
    GE X (.Compare a [op, op'] [b, c] pos) (eChain r r' ta tb tc) := pe_weak (pe_chain ho ho' ha hb hc hm) fun σ H Q h => chain_of h
theorem gt_chain {op op' : CmpOp} {r r' : O2} (ho : G2 X (compareOp op) r) (ho' : G2 X (compareOp op') r') (ha : GE X a ta) (hb : GE X b tb) (hc : GE X c tc) (hm : lastMarks [op, op'] [b, c] = false := by with_unfolding_all rfl) :
    GT X (.Compare a [op, op'] [b, c] pos) (tBl (eChain r r' ta tb tc)) := pt_weak (pt_chain ho ho' ha hb hc hm) fun σ H Q h => by
  obtain ⟨τ, S, F, R, w, r, q, g⟩ := lt_of h
  exact chain_of ⟨τ, S, F, R, w, r, q, g⟩

/-! ### a comprehension within a comprehension -/
section
variable {X0 : Cx} {s0 : Shared} {H0 : Hp} {sc : Scope} {cl0 : List (Str × Addr)} {C0 : Addr} {fp0 : List Addr} {N : List Str} {osc : Scope} {ti : IT'} {g : TG'} {tt : TT'} {te : ET} {elt tg iter : Expr} {ifs : List Expr} {scope : Scope} {own : List (Str × Nat)}
end
end

/-! ### repr -/
mutual
/-- leaves that are told in few signs -/
def okL : D → Bool
  | .int i => decide (i.natAbs.log2 < 1920)
  | .str x => x.cps.toList.all fun c => decide (c < 16 ^ 8)
  | .tup ds => okLs ds
  | .lst ds => okLs ds
  | .scr ds => okLs ds
  | _ => true
def okLs : List D → Bool
  | [] => true
  | d :: ds => okL d && okLs ds
end
mutual
def szD : D → Nat
  | .str x => x.cps.size
  | .tup ds => szDs ds
  | .lst ds => szDs ds
  | .scr ds => szDs ds
  | _ => 0
def szDs : List D → Nat
  | [] => 0
  | d :: ds => szD d + 1 + szDs ds
end
mutual
theorem okL_py : ∀ d : D, okL d = true → (pyD d).showable = true ∧ (pyD d).leavesShort 1940 = true ∧ (pyD d).bulk = szD d ∧ (pyD d).hasDict = false
  | .non, _ => ⟨rfl, rfl, rfl, rfl⟩
  | .bl _, _ => ⟨rfl, rfl, rfl, rfl⟩
  | .ref _, _ => ⟨rfl, rfl, rfl, rfl⟩
  | .ty _, _ => ⟨rfl, rfl, rfl, rfl⟩
  | .int i, h => by
    have h' : i.natAbs.log2 < 1920 := of_decide_eq_true h
    refine ⟨h, decide_eq_true ?_, rfl, rfl⟩
    have z := int_text_len_1921 h'
    show (Str.ofString (toString i)).length ≤ 1940
    omega
  | .str x, h => ⟨rfl, h, rfl, rfl⟩
  | .tup ds, h => okLs_py ds h
  | .lst ds, h => okLs_py ds h
  | .scr ds, h => okLs_py ds h
theorem okLs_py : ∀ ds : List D, okLs ds = true → PyData.showableAll (pyDL ds) = true ∧ PyData.leavesShortAll 1940 (pyDL ds) = true ∧ PyData.bulkAll (pyDL ds) = szDs ds ∧ PyData.hasDictAll (pyDL ds) = false
  | [], _ => ⟨rfl, rfl, rfl, rfl⟩
  | d :: ds, h => by
    have h : (okL d && okLs ds) = true := h
    rw [Bool.and_eq_true] at h
    obtain ⟨a1, a2, a3, a4⟩ := okL_py d h.1
    obtain ⟨b1, b2, b3, b4⟩ := okLs_py ds h.2
    refine ⟨?_, ?_, ?_, ?_⟩
    · show ((pyD d).showable && PyData.showableAll (pyDL ds)) = true
      rw [a1, b1]; rfl
    · show ((pyD d).leavesShort 1940 && PyData.leavesShortAll 1940 (pyDL ds)) = true
      rw [a2, b2]; rfl
    · show (pyD d).bulk + 1 + PyData.bulkAll (pyDL ds) = szD d + 1 + szDs ds
      rw [a3, b3]
    · show ((pyD d).hasDict || PyData.hasDictAll (pyDL ds)) = false
      rw [a4, b4]; rfl
end
def rpOk (d : D) : Prop := pl 60 d = true ∧ okL d = true ∧ szD d ≤ 8000
def reprD (d : D) : Str := (pyD d).shown
theorem rp_len {d : D} (h : rpOk d) : (reprD d).length ≤ sizeLine := by
  obtain ⟨a1, a2, a3, a4⟩ := okL_py d h.2.1
  have z := PyData.shown_le_bulk 1940 (by decide) (pyD d) a2
  rw [a3] at z
  have h3 := h.2.2
  rw [sizeLine_eq]
  unfold reprD
  omega
section
variable {X : Cx}
def cRepr : OL := fun ds S R => match ds with
  | [d] => rpOk (rs S d) ∧ R (.str (reprD (rs S d))) S
  | _ => False
theorem c_repr {k : Nat} (hr : Room k X.A) (hg : X.A.guards = some []) : GC X (.builtin "repr") cRepr := fun pins s σ H vs us Q I r ⟨ds, S, F, R, w, r1, q, l⟩ => by
  unfold cRepr at q
  split at q
  · rename_i d
    obtain ⟨x, _, rfl, rx, rfl⟩ := r1
    obtain ⟨ok, q⟩ := q
    have len := rp_len ok
    obtain ⟨a1, a2, a3, a4⟩ := okL_py _ ok.2.1
    obtain ⟨u, rfl, ru⟩ := vals1 r
    have dp := dp_rs w rx (n := 60) ok.1
    obtain ⟨as, rd⟩ := Dp.reads I _ x u dp ru
    have fin : ∀ {s' : Shared}, Inv X pins σ H s' → EP X pins σ Q (.str (reprD (rs S d)) s'.toks) { s' with toks := s'.toks + 1 } := fun {s'} I' =>
      ⟨.str _, H, I'.tok _, ⟨_, rfl⟩, l _ _ _ _ q (Aft.refl w) rfl⟩
    by_cases hd : isDisplay (pyD (rs S d)) = true
    · obtain ⟨a, rfl⟩ := isRef_of_reads rd hd
      have hdep := (pl_shape _ 60 ok.1).2
      have hun := hr.un
      exact repr_of_reads' rd a1 (PyData.noDict_hsm a4) hg (by omega) (fun _ _ e => e) (fun h' tk t hk => ⟨.str _, H, I.kept (h' := h') (t' := t) hk, ⟨_, rfl⟩, l _ _ _ _ q (Aft.refl w) rfl⟩) len
    · generalize rs S d = d' at *
      cases d' with
      | non => cases rd; exact PySem.P.repr_of_none (fin I)
      | bl b => cases rd; exact PySem.P.repr_of_bool (fin I)
      | int i => cases rd; exact PySem.P.repr_of_int (of_decide_eq_true ok.2.1) (fin I)
      | str z => cases rd; exact PySem.P.repr_of_str (fin I) len
      | tup _ => exact absurd rfl hd
      | lst _ => exact absurd rfl hd
      | scr _ => exact absurd rfl hd
      | ref _ => exact nomatch ok.1
      | ty _ => exact nomatch ok.1
  · exact q.elim
end

/-! ### keywords -/
/-- the places of a list in a new order -/
def pick {α : Type} (perm : List Nat) (xs : List α) : List α := perm.filterMap fun i => xs[i]?
theorem rpl_pick {K : PySem.W.Frag} {T : Sto} {H : Hp} {ds : List D} {vs : List V} (r : RpL K T H ds vs) : ∀ perm : List Nat, RpL K T H (pick perm ds) (pick perm vs)
  | [] => rfl
  | i :: perm => by
    have ih := rpl_pick r perm
    unfold pick at ih ⊢
    cases e : ds[i]? with
    | none =>
      have e' : vs[i]? = none := by
        rw [List.getElem?_eq_none_iff] at e ⊢
        rw [r.length]; exact e
      rw [List.filterMap_cons_none e, List.filterMap_cons_none e']
      exact ih
    | some d =>
      obtain ⟨v, e', rv⟩ := r.get e
      rw [List.filterMap_cons_some e, List.filterMap_cons_some e']
      exact ⟨v, _, rfl, rv, ih⟩
theorem vals_pick {vs : List V} {us : List Value} (r : Vals vs us) : ∀ perm : List Nat, Vals (pick perm vs) (pick perm us)
  | [] => .nil
  | i :: perm => by
    have ih := vals_pick r perm
    unfold pick at ih ⊢
    cases e : vs[i]? with
    | none => rw [List.filterMap_cons_none e, List.filterMap_cons_none (r.none_of e)]; exact ih
    | some v =>
      obtain ⟨u, e', rv⟩ := r.get e
      rw [List.filterMap_cons_some e, List.filterMap_cons_some e']
      exact .cons rv ih
/-- how keywords bind: n arguments by position, the rest by the names ks -/
def KB (fd : FuncData) (ps ks : List Str) (n : Nat) (perm : List Nat) : Prop := ∀ us ws : List Value, us.length = n → ws.length = ks.length → bindArgs fd ⟨us, ks.zip ws⟩ = pure (ps.zip (pick perm (us ++ ws)))
theorem kb_mk {K : PySem.W.Frag} {x qual : Str} {st : Stmt} {f : Addr} {fd : FuncData} {ps ks : List Str} {n : Nat} {perm : List Nat} (F : Fun K x qual st f fd)
    (h : ∀ (kV doc pm : Value) (an : Option Addr) (cdv ct : Value) (us ws : List Value), us.length = n → ws.length = ks.length → bindArgs (PySem.W.fnOf x qual (defArgs st) (defBody st) (defScope st) .none kV doc pm an cdv ct) ⟨us, ks.zip ws⟩ = pure (ps.zip (pick perm (us ++ ws)))) : KB fd ps ks n perm := by
  obtain ⟨oc, od, kV, doc, pm, an, cdv, ct, osl, rfl, lk, hcd⟩ := F.ex
  exact h kV doc pm an cdv ct
def LK (X : Cx) (kws : List Keyword) (u : AT) : Prop := PK X kws (LA X.K u)
section
variable {X : Cx} {k j n : Nat} {f : Addr} {fd : FuncData} {ps ks : List Str} {γ : OL} {x : Str} {p pos kpos : Pos} {e : Expr} {es : List Expr} {kws : List Keyword} {t : ET} {u v : AT} {perm : List Nat} {nm : Option Str}
theorem gk_nil : LK X [] aNil := ⟨fun pos pins s σ H Q I ⟨τ, S, F, R, w, r, q, g⟩ => pk_nil.run pos pins s σ H Q I (g _ _ _ _ q (Aft.refl w) rfl)⟩
theorem gk_cons (ha : GE X e t) (hr : LK X kws u) : LK X (⟨nm, e, kpos⟩ :: kws) (aCons t u) := ⟨fun pos pins s σ H Q I ⟨τ, S, F, R, w, r, q, g⟩ => (pk_cons ha hr).run pos pins s σ H Q I
  ⟨τ, S, F, _, w, r, q, fun d S1 v H1 q1 a1 r1 => ⟨τ, S1, F, _, a1.wd, a1.rps w r, q1, fun ds S2 vs H2 q2 a2 r2 => g _ _ _ _ q2 (a1.trans a2) ⟨v, vs, rfl, a2.rp a1.wd r1, r2⟩⟩⟩⟩
theorem run_gfnK {pins : List (Addr × Obj)} {σ : L2.St} {H : Hp} {s : Shared} {Q : VK} {us ws : List Value} {vs zs : List V} (G : GFn X.prog X.w X.K X.mg X.base k f fd ps γ) (hr : Room k X.A) (hg : X.A.guards = some []) (hb : KB fd ps ks n perm) (hn : us.length = n) (hw : ws.length = ks.length)
    (I : Inv X pins σ H s) (r : Vals (vs ++ zs) (us ++ ws)) (h : LLO X.K γ (pick perm (vs ++ zs)) H Q) : wpAny (model X.prog X.w) X.A (call (.ref f) us (ks.zip ws)) (EP X pins σ Q) X.xe s := by
  refine wpAny_call (codeAny_mono (G.run X.A X.stack s H ⟨us, ks.zip ws⟩ (pick perm (us ++ ws)) _ Q hr hg I.env0 (.of_eq (hb us ws hn hw)) (vals_pick r perm) h) fun r s' hq => ?_)
  cases r with
  | error e => exact False.elim hq
  | ok fl =>
    cases fl with
    | ret u => exact I.after hq
    | next => exact False.elim hq
    | brk => exact False.elim hq
    | cont => exact False.elim hq
def eCallK (γ : OL) (n m : Nat) (perm : List Nat) (u v : AT) : ET := fun τ S Q => u τ S fun ds S1 => v τ S1 fun es S2 => (ds.length = n ∧ es.length = m) ∧ γ (pick perm (ds ++ es)) S2 Q
theorem g_callK0 (h : Has X.prog X.w X.K X.mg X.base j x f fd ps γ) (hb : KB fd ps ks 0 perm) (hr : Room k X.A) (hg : X.A.guards = some []) (hjk : j ≤ k) (hgl : Gl X x) (hkw : LK X kws v) (hall : (backToKw pos (keywordEach kws X.env)).all (·.1.isSome) = true := by rfl) (hks : (backToKw pos (keywordEach kws X.env)).filterMap (·.1) = ks := by rfl)
    (hdb : (x == ("__debug__" : Str)) = false := by decide) (hpl : ((backTo pos (starEach [] X.env)).any (·.1) || (backToKw pos (keywordEach kws X.env)).any (·.1.isNone)) = false := by rfl) : GE X (.Call (.Name x p) [] kws pos) (eCallK γ 0 ks.length perm aNil v) := by
  refine ⟨fun pins s σ H Q I ⟨τ, S, F, R, w, r, q, g⟩ => ?_⟩
  refine wpAny_Call_Name_kw (ld_glob I hgl h.mg ?_ hdb)
  have hq : LA X.K v σ H fun zs H1 => zs.length = ks.length ∧ LLO X.K γ (pick perm ([] ++ zs)) H1 Q := ⟨τ, S, F, _, w, r, q, fun es S1 vs H1 q1 a1 r1 => by
    refine ⟨r1.length.trans q1.1.2, pick perm ([] ++ es), S1, F, R, a1.wd, rpl_pick r1 perm, q1.2, fun d S2 v H2 q2 a2 r2 => g _ _ _ _ q2 (a1.trans a2) r2⟩⟩
  refine PySem.W.callWith_KW0 (h₀ := X.base) I.ok.mod.kin h.kp hall (thn (hkw.run pos pins s σ H _ I hq) fun ws s2 ⟨zs, H2, I2, rz, q2⟩ => ⟨I2.kIn, ?_⟩) hpl
  rw [hks]
  exact run_gfnK (us := []) (vs := []) (n := 0) h.fn (hr.mono hjk) hg hb rfl (rz.length.symm.trans q2.1) I2 rz q2.2
end

/-! ### constants of the module -/
structure Cst (K : PySem.W.Frag) (mg : Str → Option Value) (x : Str) (d : D) : Prop where
  ex : ∃ v u, mg x = some u ∧ RelV v u ∧ ∀ T H, Rp K T H d v
theorem g_cst {X : Cx} {x : Str} {d : D} {pos : Pos} (c : Cst X.K X.mg x d) (hg : Gl X x) (h : (x == ("__debug__" : Str)) = false := by decide) : GE X (.Name x pos) (eC d) :=
  let ⟨_, _, h1, h2, h3⟩ := c.ex
  g_glob hg h1 h2 h3 h
theorem cst_int {K : PySem.W.Frag} {mg : Str → Option Value} {x : Str} {i : Int} {t : Tok} (h : mg x = some (.int i t)) : Cst K mg x (.int i) := ⟨.int i, _, h, ⟨_, rfl⟩, fun _ _ => rfl⟩
theorem cst_pair {K : PySem.W.Frag} {mg : Str → Option Value} {x : Str} {i j : Int} {t u : Tok} {a : Addr} {o : Obj} {n : Nat} (h : mg x = some (.ref a)) (ho : K.lookup a = some o) (hc : o.cls = .type "tuple") (hd : o.data = .seq #[.int i t, .int j u] n) : Cst K mg x (.tup [.int i, .int j]) :=
  ⟨.ref a, _, h, rfl, fun T H => ⟨a, [.int i, .int j], rfl, .inr ⟨o, _, n, ho, hc, hd, by show 2 ≤ sizeLine; decide, .cons ⟨_, rfl⟩ (.cons ⟨_, rfl⟩ .nil)⟩, _, _, rfl, rfl, _, _, rfl, rfl, rfl⟩⟩

/-! ### the names of built-ins -/
/-- no name of these is the module's own -/
structure Blt (mg : Str → Option Value) : Prop where
  abs : mg "abs" = none
  all : mg "all" = none
  any : mg "any" = none
  bool : mg "bool" = none
  dict : mg "dict" = none
  divmod : mg "divmod" = none
  enumerate : mg "enumerate" = none
  int : mg "int" = none
  isinstance : mg "isinstance" = none
  len : mg "len" = none
  list : mg "list" = none
  max : mg "max" = none
  min : mg "min" = none
  range : mg "range" = none
  repr : mg "repr" = none
  set : mg "set" = none
  sorted : mg "sorted" = none
  str : mg "str" = none
  sum : mg "sum" = none
  tuple : mg "tuple" = none
  zip : mg "zip" = none
theorem bt_abs : bootBuiltins "abs" = some (.builtin "abs") := by decide +kernel
theorem bt_all : bootBuiltins "all" = some (.builtin "all") := by decide +kernel
theorem bt_bool : bootBuiltins "bool" = some (.type "bool") := by decide +kernel
theorem bt_divmod : bootBuiltins "divmod" = some (.builtin "divmod") := by decide +kernel
theorem bt_int : bootBuiltins "int" = some (.type "int") := by decide +kernel
theorem bt_isinstance : bootBuiltins "isinstance" = some (.builtin "isinstance") := by decide +kernel
theorem bt_len : bootBuiltins "len" = some (.builtin "len") := by decide +kernel
theorem bt_list : bootBuiltins "list" = some (.type "list") := by decide +kernel
theorem bt_max : bootBuiltins "max" = some (.builtin "max") := by decide +kernel
theorem bt_min : bootBuiltins "min" = some (.builtin "min") := by decide +kernel
theorem bt_repr : bootBuiltins "repr" = some (.builtin "repr") := by decide +kernel
theorem bt_sum : bootBuiltins "sum" = some (.builtin "sum") := by decide +kernel
theorem bt_tuple : bootBuiltins "tuple" = some (.type "tuple") := by decide +kernel
end Gx

/-! Gx, part 9: the law's own call, at the program's end. -/
namespace Gx
open PySem PySem.Spec PyProof.Rows L2
section
variable {P : Program} {w : World} {K : PySem.W.Frag} {mg : Str → Option Value} {base : Heap}
/-- the def that a name of the module stands for -/
theorem has_mk {x : Str} {st : Stmt} {f : Addr} {fd : FuncData} {ps : List Str} {γ : OL} {j k : Nat} (F : Fun K x x st f fd) (hm : mg x = some (.ref f)) (hb : Binds K fd ps []) (G : GFn P w K mg base j f fd ps γ) (hjk : j ≤ k) : Has P w K mg base k x f fd ps γ :=
  ⟨G.mono hjk, hm, F.kp, hb⟩
theorem gx_call {mb : Str → Option Value} {k : Nat} {fa a : Addr} {fd : FuncData} {x : Str} {γ : OL} {sh : Shared} {vs : List Value} {ns : List Int}
    (KX : K.In sh.heap) (hm : sh.heap.Ns mainGlobals mg) (hb : sh.heap.Ns builtinsNs mb) (hbb : ∀ y : Str, y ≠ "__name__" → mb y = bootBuiltins y) (hlim : sh.heap.NoLimit) (hg : sh.gens = #[])
    (ha : sh.heap.get? a = some { cls := .type "list", data := .seq vs.toArray }) (hi : IntsAre vs ns) (hl : ns.length ≤ sizeLine) (hr : Room k callerA)
    (F : ∀ bs : Heap, K.In bs → bs.Ns mainGlobals mg → GFn P w K mg bs k fa fd [x] γ) (hbind : ∀ (s : Shared) (u : Value), BindsTo s fd ⟨[u], []⟩ [(x, u)])
    (hγ : ∀ (R : QD) (S : Sto), R (.bl true) S → γ [.scr (ns.map .int)] S R) :
    codeAny (model P w) callerA (.call (.ref fa) ⟨[.ref a], []⟩) (fun r s' => r = .ok (.ret (.bool true)) ∧ OldK sh.heap s'.heap ∧ s'.os = sh.os ∧ AllBare s'.gens) sh := by
  have rv := vals_ints hi
  let obj : Obj := { cls := .type "list", data := .seq vs.toArray }
  let H : Hp := fun b => if b = a ∧ K.lookup a = none then some (.frz obj (.lst (ns.map V.int))) else none
  have Hyes : ∀ {b : Addr} {u : HO}, H b = some u → b = a ∧ K.lookup a = none ∧ u = .frz obj (.lst (ns.map V.int)) := fun {b u} e => by
    by_cases c : b = a ∧ K.lookup a = none
    · have e : (if b = a ∧ K.lookup a = none then some (HO.frz obj (.lst (ns.map V.int))) else none) = some u := e
      rw [if_pos c] at e
      cases e
      exact ⟨c.1, c.2, rfl⟩
    · have e : (if b = a ∧ K.lookup a = none then some (HO.frz obj (.lst (ns.map V.int))) else none) = some u := e
      rw [if_neg c] at e
      cases e
  have Hno : ∀ {b : Addr} {o : Obj}, sh.heap.get? b = some o → o ≠ obj → H b = none := fun {b o} e n => by
    cases q : H b with
    | none => rfl
    | some u =>
      obtain ⟨rfl, _⟩ := Hyes q
      rw [ha] at e
      cases e
      exact absurd rfl n
  have dictNe : ∀ {o : Obj} {es : Array DictEntry} {ep : Nat}, o.data = .dict es ep → o ≠ obj := fun {o es ep} d e => by
    rw [e] at d
    cases d
  have nsT : ∀ {b : Addr} {m : Str → Option Value}, sh.heap.Ns b m → (hidT sh.heap H).Ns b m := fun {b m} z => by
    obtain ⟨o, es, ep, e, d, r⟩ := z
    exact ⟨o, es, ep, hidT_get e (Hno e (dictNe d)), d, r⟩
  have KT : K.In (hidT sh.heap H) := fun b o e => hidT_get (KX b o e) (by
    cases q : H b with
    | none => rfl
    | some u =>
      obtain ⟨rfl, n, _⟩ := Hyes q
      rw [n] at e; cases e)
  have hM : Mod K mg (hidT sh.heap H) := ⟨KT, nsT hm, ⟨mb, nsT hb, hbb⟩, hlim.elim fun mc z => ⟨mc, nsT z.1, z.2⟩⟩
  have hok : HOk P w H sh.heap := fun b u e => by
    obtain ⟨rfl, _, rfl⟩ := Hyes e
    exact ⟨ha, by rw [List.length_map]; exact hl, vs, _, rv, ha⟩
  have e0 : Env0 P w K mg (hidT sh.heap H) callerA [] sh H := ⟨rfl, hM, fun b o e => of_hidT e, Nat.le_of_eq (hidT_size _ _), trivial, (fun b (z : b ∈ ([] : List Addr)) => nomatch z), hok, .of_eq hg⟩
  have len := hi.length
  have sc : ScrAt K (fun _ => none) H a (ns.map V.int) := by
    cases q : K.lookup a with
    | none => exact .inl ⟨rfl, .inr ⟨obj, if_pos ⟨rfl, q⟩⟩⟩
    | some o =>
      have e := KX a o q
      rw [ha] at e
      cases e
      exact .inr (.inr ⟨_, vs.toArray, _, q, rfl, rfl, rfl, by rw [List.size_toArray, len]; exact hl, by simpa using rv⟩)
  have rl : ∀ ms : List Int, RpL K (cmb (fun _ => none) (fun _ => none)) H (ms.map D.int) (ms.map V.int) := fun ms => by
    induction ms with
    | nil => rfl
    | cons m ms ih => exact ⟨_, _, rfl, rfl, ih⟩
  have lo : LLO K γ [.ref a] H (fun v _ => v = .bl true) :=
    ⟨[.scr (ns.map .int)], fun _ => none, fun _ => none, fun d _ => d = .bl true, ⟨fun _ => .inl rfl, fun _ _ z => by cases z⟩, ⟨_, _, rfl, ⟨a, ns.map V.int, rfl, sc, rl ns⟩, rfl⟩, hγ _ _ rfl, fun d _ v _ q _ rd => by
      subst q
      exact rd⟩
  refine codeAny_mono ((F _ KT (nsT hm)).run callerA [] sh H ⟨[.ref a], []⟩ [.ref a] [.ref a] _ hr rfl e0 (hbind sh (.ref a)) (.cons rfl .nil) lo) fun r s' h => ?_
  cases r with
  | error e => exact False.elim h
  | ok fl =>
    cases fl with
    | next => exact False.elim h
    | brk => exact False.elim h
    | cont => exact False.elim h
    | ret u =>
      obtain ⟨v, H', os, bare, un, hok', rr, q⟩ := h
      have q : v = .bl true := q
      subst q
      obtain rfl : u = Value.bool true := rr
      refine ⟨rfl, OldK.of_keep fun b o e => ?_, os, bare⟩
      cases q : H b with
      | none => exact un.keep b o e q (fun (z : b ∈ ([] : List Addr)) => nomatch z) (fun z => nomatch z)
      | some u =>
        obtain ⟨rfl, _, rfl⟩ := Hyes q
        obtain ⟨e2, _⟩ := hok' b _ (un.frzs b _ _ q)
        rw [ha] at e
        cases e
        exact e2
end
theorem gx_walk {l : PySem.W.OpenLaw} {n k : Nat} {q : Program} {loose : List Str} {XP : (Str → Option Value) → Heap → Prop} {YP : World → Heap → Prop} {d : DefRec} {K : Params → PySem.W.Frag} {γ : OL} {x : Str}
    (hn : l.most = some n) (hn2 : n ≤ sizeLine) (hdf : d.params.defaults = []) (hr : Room k callerA) (hY : ∀ (w : World) (h : Heap), YP w h → (K w.params).In h)
    (F : ∀ (w : World) (mg : Str → Option Value) (fa : Addr) (h : Heap), (K w.params).In h → h.Ns mainGlobals mg → mg d.name = some (.ref fa) →
      ∃ fd : FuncData, (∀ (s : Shared) (u : Value), BindsTo s fd ⟨[u], []⟩ [(x, u)]) ∧ ∀ bs : Heap, (K w.params).In bs → bs.Ns mainGlobals mg → GFn l.prog w (K w.params) mg bs k fa fd [x] γ)
    (hγ : ∀ ns : List Int, ns.length ≤ n → ∀ (R : QD) (S : Sto), R (.bl true) S → γ [.scr (ns.map .int)] S R) :
    PySem.W.WalkO q loose XP YP l.row.toRowW d [] (fun f vs => PySem.call f vs) := by
  refine Att.attach_call hn hdf fun w s₀ sh mg mb fa o pm cd doc a vs ns G Y _ _ _ hmg hobj hints hlen hg => ?_
  have KX := hY w _ Y
  obtain ⟨fd, hb, hF⟩ := F w mg fa _ KX G.T.g hmg
  exact gx_call KX G.T.g G.T.b G.T.builtins G.T.nolimit hg hobj hints (Nat.le_trans hlen hn2) hr hF hb fun R S h => hγ ns hlen R S h
end Gx

/-! Gx, part 10: further calls: the greatest and the least of a list, sorted, index, extend, pop. -/
namespace Gx
open PySem PySem.Spec PyProof.Rows L2
section
variable {X : Cx}
/-- the greatest of some ints -/
def cMaxL : OL := fun ds S R => match ds with
  | [d] => (match lstInts S d with
    | some ns => ns ≠ [] ∧ ∀ m, m ∈ ns → (∀ y, y ∈ ns → y ≤ m) → R (.int m) S
    | none => False)
  | _ => False
def cMinL : OL := fun ds S R => match ds with
  | [d] => (match lstInts S d with
    | some ns => ns ≠ [] ∧ ∀ m, m ∈ ns → (∀ y, y ∈ ns → m ≤ y) → R (.int m) S
    | none => False)
  | _ => False
/-- sorted ints -/
def cSortedI : OL := fun ds S R => match ds with
  | [d] => (match lstInts S d with
    | some ns => ∀ ns' : List Int, ns'.Perm ns → ns'.Pairwise (· ≤ ·) → R (.lst (ns'.map .int)) S
    | none => False)
  | _ => False
/-- where a thing first stands -/
def mIndex : D → OL := fun d ds S R => match rs S d, ds with
  | .lst xs, [y] => (pl 60 (.lst xs) = true ∧ pl 60 (rs S y) = true) ∧ ∃ (j : Nat) (z : D), xs[j]? = some z ∧ eqD z (rs S y) = true ∧ (∀ m z', m < j → xs[m]? = some z' → eqD z' (rs S y) = false) ∧ R (.int j) S
  | _, _ => False
end
end Gx

/-! Gx, part 11: comprehensions with two sources. -/
namespace Gx
open PySem PySem.Spec PyProof.Rows L2
section
variable {K : PySem.W.Frag} {ti ti1 : IT'} {g g1 : TG'} {tt tt1 : TT'} {te : ET} {vs vs1 : List Nat}
end
section
variable {X : Cx} {ti ti1 : IT'} {g g1 : TG'} {tt tt1 : TT'} {te : ET} {elt tg iter tg1 iter1 : Expr} {ifs ifs1 : List Expr} {scope : Scope} {own : List (Str × Nat)} {vs1 : List Nat} {pos spos py : Pos}
end
end Gx

/-! G12: zip of a tuple and a list, and of a list and a tuple (a side: true for a tuple, false for a list). -/
namespace Gx
open PySem L2
open PySem.Sem (wp)
/-- what stands at an address: a tuple, or a list -/
def SideAt (t : Bool) (h : Heap) (l : Addr) (xs : Array Value) : Prop := if t then h.IsTuple l xs else h.IsList l xs
def TurnAt (t : Bool) (h : Heap) (a l : Addr) (i : Nat) : Prop := if t then h.IsTupleIter a l i else h.IsListIter a l i
theorem SideAt.ext {t : Bool} {h h' : Heap} {a b items} (x : SideAt t h a items) (hs : Heap.ExtBut b h h') (hab : a ≠ b) : SideAt t h' a items := by
  cases t
  · exact Heap.IsList.extBut (show h.IsList a items from x) hs hab
  · exact Heap.IsTuple.extBut (show h.IsTuple a items from x) hs hab
theorem TurnAt.ext {t : Bool} {h h' : Heap} {a b l i} (x : TurnAt t h a l i) (hs : Heap.ExtBut b h h') (hab : a ≠ b) : TurnAt t h' a l i := by
  cases t
  · exact Heap.IsListIter.extBut (show h.IsListIter a l i from x) hs hab
  · exact Heap.IsTupleIter.extBut (show h.IsTupleIter a l i from x) hs hab
theorem TurnAt.at {t : Bool} {h h' : Heap} {a l i} (x : TurnAt t h a l i) (e : ∀ o, h.get? a = some o → h'.get? a = some o) : TurnAt t h' a l i := by
  cases t
  · exact Heap.IsListIter.at (show h.IsListIter a l i from x) e
  · exact Heap.IsTupleIter.at (show h.IsTupleIter a l i from x) e
theorem TurnAt.lt {t : Bool} {h : Heap} {a l i} (x : TurnAt t h a l i) : a < h.objs.size := by
  cases t
  · obtain ⟨_, e, _⟩ := (show h.IsListIter a l i from x); exact Heap.lt_size e
  · obtain ⟨_, e, _⟩ := (show h.IsTupleIter a l i from x); exact Heap.lt_size e
section
variable {prog : Program} {w : World} {A : Around} {E : Value → Shared → Prop} {s : Shared}
end
section
variable {prog : Program} {w : World} {A : Around} {E : Value → Shared → Prop} {s : Shared}
end
end Gx

/-! G13: zip of a tuple and a list, over data. -/
namespace Gx
open PySem PySem.Spec PyProof.Rows L2
section
variable {X : Cx} {pins : List (Addr × Obj)} {σ : L2.St} {H : Hp} {s : Shared} {a : Addr} {xs ys : List V}
end
theorem TurnAt.obj {t : Bool} {h : Heap} {a l i} (x : TurnAt t h a l i) : ∃ o, h.get? a = some o ∧ o.data = .fields #[.ref l, .int i 0] := by
  cases t
  · obtain ⟨o, e, _, d⟩ := (show h.IsListIter a l i from x); exact ⟨o, e, d⟩
  · obtain ⟨o, e, _, d⟩ := (show h.IsTupleIter a l i from x); exact ⟨o, e, d⟩
theorem SideAt.lt {t : Bool} {h : Heap} {a xs} (x : SideAt t h a xs) : a < h.objs.size := by
  cases t
  · obtain ⟨o, e, _⟩ := (show h.IsList a xs from x); exact Heap.lt_size e
  · obtain ⟨o, e, _⟩ := (show h.IsTuple a xs from x); exact Heap.lt_size e
section
variable {K : PySem.W.Frag} {S F : Sto} {H : Hp}
end
/-- zip of two, each a list or a tuple -/
def iZip2G (u : AT) : IT' := fun τ S Z => u τ S fun ds S1 => match ds with
  | [d, e] => seqG S1 (fun ds g S => seqG S (fun es g' S => Z (zipD ds es) (fun S' => g S' ∧ g' S') S) e) d
  | _ => False
end Gx

/-! Gx, part 14: dicts, by address. -/
namespace Gx
open PySem PySem.Spec PyProof.Rows L2

/-! ### keys, entries -/
def keyD : Key → D
  | .inl i => .int i
  | .inr x => .str x
def keyOf : D → Option Key
  | .int i => some (.inl i)
  | .str x => some (.inr x)
  | _ => none
def valD {κ : Type} [DecidableEq κ] (kvs : List (κ × D)) (k : κ) : Option D := (kvs.find? fun kv => decide (kv.1 = k)).map (·.2)
def putD {κ : Type} [DecidableEq κ] (kvs : List (κ × D)) (k : κ) (d : D) : List (κ × D) :=
  if (kvs.any fun kv => decide (kv.1 = k)) = true then kvs.map fun kv => if kv.1 = k then (kv.1, d) else kv else kvs ++ [(k, d)]
/-- the entries of a dict, changing or no more -/
def dctAt (S : Sto) : D → Option (List (Key × D))
  | .ref p => (match S p with
    | some (.dK kvs) => some kvs
    | some (.dF _ _ kvs) => some kvs
    | _ => none)
  | _ => none
section
variable {K : PySem.W.Frag} {T : Sto} {H : Hp} {S F : Sto}
variable {κ : Type} [DecidableEq κ]
/-- entries stand for entries -/
def Ent (K : PySem.W.Frag) (T : Sto) (H : Hp) (kvs : List (κ × D)) (ks : List (κ × V)) : Prop := ks.map (·.1) = kvs.map (·.1) ∧ RpL K T H (kvs.map (·.2)) (ks.map (·.2))
theorem Ent.nil : Ent K T H ([] : List (κ × D)) ([] : List (κ × V)) := ⟨rfl, rfl⟩
theorem Ent.cases {kv : κ × D} {kvs : List (κ × D)} {ks : List (κ × V)} (h : Ent K T H (kv :: kvs) ks) : ∃ v ks', ks = (kv.1, v) :: ks' ∧ Rp K T H kv.2 v ∧ Ent K T H kvs ks' := by
  obtain ⟨h1, h2⟩ := h
  cases ks with
  | nil => cases h1
  | cons u ks =>
    obtain ⟨x, r, e, rx, rr⟩ := h2
    rw [List.map_cons, List.map_cons] at h1
    injection h1 with h1 h3
    rw [List.map_cons] at e
    injection e with e1 e2
    subst e1 e2
    refine ⟨u.2, ks, ?_, rx, h3, rr⟩
    rw [← h1]
theorem Ent.cons {k : κ} {d : D} {v : V} {kvs : List (κ × D)} {ks : List (κ × V)} (r : Rp K T H d v) (h : Ent K T H kvs ks) : Ent K T H ((k, d) :: kvs) ((k, v) :: ks) :=
  ⟨by rw [List.map_cons, List.map_cons, h.1], ⟨_, _, rfl, r, h.2⟩⟩
theorem Ent.val : ∀ {kvs : List (κ × D)} {ks : List (κ × V)}, Ent K T H kvs ks → ∀ k, (valD kvs k = none ∧ valV ks k = none) ∨ ∃ d v, valD kvs k = some d ∧ valV ks k = some v ∧ Rp K T H d v
  | [], ks, h, k => by
    obtain ⟨h1, _⟩ := h
    cases ks with
    | nil => exact .inl ⟨rfl, rfl⟩
    | cons u ks => cases h1
  | kv :: kvs, ks, h, k => by
    obtain ⟨v, ks', rfl, r, h'⟩ := h.cases
    by_cases z : kv.1 = k
    · exact .inr ⟨kv.2, v, by unfold valD; rw [List.find?_cons_of_pos (by simpa using z)]; rfl, by unfold valV; rw [List.find?_cons_of_pos (by simpa using z)]; rfl, r⟩
    · have e1 : valD (kv :: kvs) k = valD kvs k := by unfold valD; rw [List.find?_cons_of_neg (by simpa using z)]
      have e2 : valV ((kv.1, v) :: ks') k = valV ks' k := by unfold valV; rw [List.find?_cons_of_neg (by simpa using z)]
      rw [e1, e2]
      exact Ent.val h' k
theorem Ent.app : ∀ {kvs kvs' : List (κ × D)} {ks ks' : List (κ × V)}, Ent K T H kvs ks → Ent K T H kvs' ks' → Ent K T H (kvs ++ kvs') (ks ++ ks') := fun h h' =>
  ⟨by rw [List.map_append, List.map_append, h.1, h'.1], by rw [List.map_append, List.map_append]; exact RpL.app h.2 h'.2⟩
theorem Ent.sub {k : κ} {d : D} {v : V} (r : Rp K T H d v) : ∀ {kvs : List (κ × D)} {ks : List (κ × V)}, Ent K T H kvs ks → Ent K T H (kvs.map fun kv => if kv.1 = k then (kv.1, d) else kv) (ks.map fun kv => if kv.1 = k then (kv.1, v) else kv)
  | [], ks, h => by
    obtain ⟨h1, _⟩ := h
    cases ks with
    | nil => exact .nil
    | cons u ks => cases h1
  | kv :: kvs, ks, h => by
    obtain ⟨u, ks', rfl, ru, h'⟩ := h.cases
    rw [List.map_cons, List.map_cons]
    by_cases z : kv.1 = k
    · rw [if_pos z, if_pos z]
      exact .cons r (Ent.sub r h')
    · rw [if_neg z, if_neg z]
      exact .cons ru (Ent.sub r h')
theorem Ent.length {kvs : List (κ × D)} {ks : List (κ × V)} (h : Ent K T H kvs ks) : ks.length = kvs.length := by
  have := congrArg List.length h.1
  rw [List.length_map, List.length_map] at this
  exact this
theorem Ent.ev {T' : Sto} {H' : Hp} (o : Ok K T H) (ev : Ev T H T' H') {kvs : List (κ × D)} {ks : List (κ × V)} (h : Ent K T H kvs ks) : Ent K T' H' kvs ks := ⟨h.1, RpL.ev o ev h.2⟩
/-- a dict's entries in the heap -/
theorem dct_view {d : D} {v : V} {kvs : List (Key × D)} (w : Wd K S F H) (r : Rp K (cmb S F) H d v) (e : dctAt S d = some kvs) : ∃ a ks, v = .ref a ∧ Rd H a (.dK ks) ∧ Ent K (cmb S F) H kvs ks := by
  unfold dctAt at e
  split at e
  · rename_i p
    split at e
    · rename_i kvs' h
      cases e
      obtain ⟨ks, e, k, q⟩ := w.ok p _ (cmb_l h)
      exact ⟨p, ks, r, .inl e, k, q⟩
    · rename_i od ks kvs' h
      cases e
      obtain ⟨e, k, q⟩ := w.ok p _ (cmb_l h)
      exact ⟨p, ks, r, .inr ⟨od, e⟩, k, q⟩
    · cases e
  · cases e
end

section
variable {X : Cx} {e a b : Expr} {t ta tb : ET} {pos : Pos}
/-! ### displays -/
def eDic0 : ET := fun _ S Q => ∀ p, S p = none → Q (.ref p) (up S p (.dK []))
theorem g_dic0 : GE X (.Dict [] [] pos) eDic0 := pe_weak pe_dnewK fun σ H Q ⟨τ, S, F, R, w, r, q, g⟩ => fun p hp => by
  have n := cmb_none (w.ok.fresh hp)
  exact g _ _ _ _ (q p n.1) (Aft.newS w hp ⟨[], upd_same, rfl, rfl⟩) rfl
/-- one entry -/
def eDic1 (ta tb : ET) : ET := fun τ S Q => ∀ p, S p = none → ta τ (up S p (.dK [])) fun d S1 => tb τ S1 fun e S2 => S2 p = some (.dK []) ∧ match keyOf d with
  | some k => Q (.ref p) (up S2 p (.dK [(k, e)]))
  | none => False
/-! ### d[k], k in d, d[k] = v -/
def oDix : O2 := fun d e S R => match dctAt S d, keyOf e with
  | some kvs, some k => (match valD kvs k with
    | some x => R x S
    | none => False)
  | _, _ => False
theorem Rd.get {H : Hp} {a : Addr} {ks : List (Key × V)} {k : Key} (h : Rd H a (.dK ks)) : DGet H a (kV k) (valV ks k) := .inl ⟨ks, k, h, rfl, rfl⟩
def oDin : O2 := fun e d S R => match dctAt S d, keyOf e with
  | some kvs, some k => R (.bl (valD kvs k).isSome) S
  | _, _ => False
def oDnin : O2 := fun e d S R => match dctAt S d, keyOf e with
  | some kvs, some k => R (.bl (!(valD kvs k).isSome)) S
  | _, _ => False
def oDset : OSet := fun d e f S R => match d, keyOf e with
  | .ref p, some k => (match S p with
    | some (.dK kvs) => kvs.length < sizeLine ∧ R (up S p (.dK (putD kvs k f)))
    | _ => False)
  | _, _ => False
/-! ### for k in d: behind it the dict changes no more -/
def keysG (S : Sto) (Z : List D → (Sto → Prop) → Sto → Prop) : D → Prop
  | .ref p => match S p with
    | some (.dK kvs) => ∀ od ks, Z (kvs.map fun kv => keyD kv.1) (fun S' => S' p = some (.dF od ks kvs)) (up S p (.dF od ks kvs))
    | some (.dF od ks kvs) => Z (kvs.map fun kv => keyD kv.1) (fun S' => S' p = some (.dF od ks kvs)) S
    | _ => False
  | _ => False
def iKeysG (te : ET) : IT' := fun τ S Z => te τ S fun d S1 => keysG S1 Z d
/-! ### sorted(d), list(d), len(d); also of lists -/
def intKeys : List (Key × D) → Option (List Int)
  | [] => some []
  | (.inl i, _) :: kvs => (intKeys kvs).map (i :: ·)
  | _ => none
def cSortedE : OL := fun ds S R => match ds with
  | [d] => (match dctAt S d with
    | some kvs => (match intKeys kvs with
      | some ns => ns.length < 64 ∧ ∀ ns' : List Int, ns'.Perm ns → ns'.Pairwise (· ≤ ·) → R (.lst (ns'.map .int)) S
      | none => False)
    | none => cSortedI [d] S R)
  | _ => False
def cListD : OL := fun ds S R => match ds with
  | [d] => (match dctAt S d with
    | some kvs => R (.lst (kvs.map fun kv => keyD kv.1)) S
    | none => False)
  | _ => False
end
end Gx

/-! Gx, part 15: a tuple times a number from 1 on. -/
namespace Gx
open PySem PySem.Spec PyProof.Rows L2
section
variable {X : Cx}
/-- (..) * k -/
def oMulT : O2 := fun d e S R => match d, e with
  | .tup xs, .int k => (1 ≤ k ∧ k ≤ 1000 ∧ 1 ≤ xs.length ∧ xs.length ≤ 1000) ∧ R (.tup (List.replicate k.toNat xs).flatten) S
  | _, _ => False
end
end Gx

/-! Gx, part 16: a truth value less another one; dicts with keys that are tuples; sorted pairs. -/
namespace Gx
open PySem PySem.Spec PyProof.Rows L2
def bi (b : Bool) : Int := if b = true then 1 else 0
section
variable {X : Cx}
def oSubB : O2 := fun d e S R => match d, e with
  | .bl a, .bl b => R (.int (bi a - bi b)) S
  | _, _ => False
/-! ### dicts with keys that are tuples -/
def keysOf : List D → Option (List Key)
  | [] => some []
  | d :: ds => match keyOf d, keysOf ds with
    | some k, some ks => some (k :: ks)
    | _, _ => none
def dctT (S : Sto) : D → Option (List (List Key × D))
  | .ref p => (match S p with
    | some (.dT kvs) => some kvs
    | _ => none)
  | _ => none
end
section
variable {K : PySem.W.Frag} {T : Sto} {H : Hp} {S F : Sto}
theorem RpL.perm : ∀ {xs ys : List V}, xs.Perm ys → ∀ {ds : List D}, RpL K T H ds xs → ∃ es, es.Perm ds ∧ RpL K T H es ys := by
  intro xs ys h
  induction h with
  | nil =>
    intro ds r
    exact ⟨ds, .refl _, r⟩
  | cons x h ih =>
    intro ds r
    cases ds with
    | nil => cases r
    | cons d ds =>
      obtain ⟨y, r', e, ry, rr⟩ := r
      injection e with e1 e2
      subst e1 e2
      obtain ⟨es, p, q⟩ := ih rr
      exact ⟨d :: es, p.cons d, _, _, rfl, ry, q⟩
  | swap x y l =>
    intro ds r
    cases ds with
    | nil => cases r
    | cons d ds =>
      obtain ⟨y', r', e, ry, rr⟩ := r
      injection e with e1 e2
      subst e1 e2
      cases ds with
      | nil => cases rr
      | cons d' ds =>
        obtain ⟨x', r'', e, rx, rr⟩ := rr
        injection e with e1 e2
        subst e1 e2
        exact ⟨d' :: d :: ds, .swap d d' ds, _, _, rfl, rx, _, _, rfl, ry, rr⟩
  | trans h1 h2 ih1 ih2 =>
    intro ds r
    obtain ⟨es, p, q⟩ := ih1 r
    obtain ⟨fs, p', q'⟩ := ih2 q
    exact ⟨fs, p'.trans p, q'⟩
end
section
variable {X : Cx} {a b : Expr} {ta tb : ET} {pos p2 : Pos} {es : List Expr} {u : AT} {n : Nat}
def eDicT0 : ET := fun _ S Q => ∀ p, S p = none → Q (.ref p) (up S p (.dT []))
/-- d[i, j] -/
def eDixT (ta : ET) (u : AT) : ET := fun τ S Q => ta τ S fun d S1 => u τ S1 fun ds S2 => ds.length ≤ sizeLine ∧ match dctT S2 d, keysOf ds with
  | some kvs, some ks => (match valD kvs ks with
    | some x => Q x S2
    | none => False)
  | _, _ => False
/-- d[i, j] = v -/
def gSubsT (ta : ET) (u : AT) : TG' := fun f τ S Q => ta τ S fun d S1 => u τ S1 fun ds S2 => ds.length ≤ sizeLine ∧ match d, keysOf ds with
  | .ref p, some ks => (match S2 p with
    | some (.dT kvs) => kvs.length < sizeLine ∧ Q τ (up S2 p (.dT (putD kvs ks f)))
    | _ => False)
  | _, _ => False
/-- list(d) -/
def cListT : OL := fun ds S R => match ds with
  | [d] => (match dctT S d with
    | some kvs => R (.lst (kvs.map fun kv => .tup (kv.1.map keyD))) S
    | none => False)
  | _ => False
/-! ### sorted pairs -/
def pairD (p : Int × Int) : D := .tup [.int p.1, .int p.2]
def pairsOf : List D → Option (List (Int × Int))
  | [] => some []
  | .tup [.int i, .int j] :: ds => (pairsOf ds).map ((i, j) :: ·)
  | _ => none
def leP (p q : Int × Int) : Prop := p.1 < q.1 ∨ (p.1 = q.1 ∧ p.2 ≤ q.2)
/-- sorted(xs), xs pairs of numbers from 0 on, below 1000 -/
def cSortedP : OL := fun ds S R => match ds with
  | [d] => (match rs S d with
    | .lst es => (match pairsOf es with
      | some ps => (ps.length < 64 ∧ ∀ p ∈ ps, (0 ≤ p.1 ∧ p.1 < 1000) ∧ 0 ≤ p.2 ∧ p.2 < 1000) ∧ ∀ qs : List (Int × Int), qs.Perm ps → qs.Pairwise leP → R (.lst (qs.map pairD)) S
      | none => False)
    | _ => False)
  | _ => False
end
end Gx

/-! Gx, part 17: stars in displays; list(range(..)). -/
namespace Gx
open PySem PySem.Spec PyProof.Rows L2
section
variable {X : Cx} {e a : Expr} {es : List Expr} {t : ET} {u : AT} {p pos : Pos}
/-- *e ahead of others -/
def aStar (t : ET) (u : AT) : AT := fun τ S Q => t τ S fun d S1 => match itemsOf (rs S1 d) with
  | some xs => u τ S1 fun ys S2 => Q (xs ++ ys) S2
  | none => False
/-- list(range(n)) -/
def eLstRg (t : ET) : ET := fun τ S Q => t τ S fun d S1 => match d with
  | .int n => (0 ≤ n ∧ n ≤ 1000) ∧ Q (.lst ((List.range n.toNat).map fun i : Nat => D.int (i : Int))) S1
  | _ => False
end
end Gx

set_option maxHeartbeats 8000000
/-! Gx, part 18: how many unlike ones there are among tuples of whole numbers: len(set(x)), x a tuple of them. -/
namespace Gx
open PySem PySem.Spec PyProof.Rows L2
section
variable {P : Program} {w : World} {A : Around} {E : Value → Shared → Prop} {s : Shared}
end
section
variable {X : Cx}
def eLenT (t : ET) : ET := fun τ S Q => t τ S fun d S1 => ∃ nss : List (List Int), d = .tup (nss.map fun ns => .tup (ns.map .int)) ∧ (nss.length < 64 ∧ nss.Nodup) ∧ Q (.int (nss.length : Nat)) S1
end
end Gx

/-! Gx, part 19: sorted(set(x)), x a list of whole numbers; sorted(x), x a list of tuples of whole numbers of unlike lengths. -/
namespace Gx
open PySem PySem.Spec PyProof.Rows L2
section
variable {P : Program} {w : World} {A : Around} {E : Value → Shared → Prop} {s : Shared}
end
section
variable {X : Cx}
def eSortSet (t : ET) : ET := fun τ S Q => t τ S fun d S1 => ∃ ns : List Int, lstInts S1 d = some ns ∧ ns.length < 64 ∧ ∀ out : List Int, out.Pairwise (· < ·) → (∀ k, k ∈ out ↔ k ∈ ns) → Q (.lst (out.map .int)) S1
end

/-! ### tuples of unlike lengths -/
section
variable {prog : Program} {w : World} {A : Around} {E : Value → Shared → Prop} {s : Shared} {Q : Bool → Shared → Prop}
end
/-- tuples of one number or more -/
def TupsUn (h : Heap) (L : Nat) (B : Int) (vs : List Value) : Prop := ∀ v, v ∈ vs → ∃ ns, TS.TupInts h v ns ∧ (ns ≠ [] ∨ vs.length ≤ 1) ∧ ns.length ≤ L ∧ TS.Bd B ns
theorem TupsUn.keeps {h h' : Heap} {L : Nat} {B : Int} {vs : List Value} (x : TupsUn h L B vs) (k : ∀ b o, h.get? b = some o → o.cls = .type "tuple" → h'.get? b = some o) : TupsUn h' L B vs := fun v hv =>
  have ⟨ns, t, r⟩ := x v hv
  ⟨ns, t.keeps k, r⟩
section
variable {prog : Program} {w : World} {A : Around} {E : Value → Shared → Prop} {s : Shared}
end
section
variable {X : Cx}
end
end Gx

/-! Gx, part 20: whole numbers as tests. -/
namespace Gx
open PySem PySem.Spec PyProof.Rows L2
section
variable {X : Cx} {e : Expr} {t : ET}
def tBi (t : ET) : TT' := fun τ S Q => t τ S fun d S1 => match d with
  | .int i => Q (decide (i ≠ 0)) S1
  | _ => False
end
end Gx

/-! Gx, part 21: is True, is False. -/
namespace Gx
open PySem PySem.Spec PyProof.Rows L2
section
variable {X : Cx}
def oIsB : O2 := fun d e S R => match d, e with
  | .bl b, .bl c => R (.bl (decide (b = c))) S
  | _, _ => False
end
end Gx

/-! Gx, part 22: the sum of a tuple of whole numbers. -/
namespace Gx
open PySem PySem.Spec PyProof.Rows L2
section
variable {prog : Program} {w : World} {A : Around} {E : Value → Shared → Prop} {s : Shared} {l : Addr} {xs : Array (Int × Tok)}
end
section
variable {X : Cx}
/-- sum(x), x a tuple of whole numbers -/
def cSumT : OL := fun ds S R => match ds with
  | [.tup es] => (match intsOf es with
    | some ns => R (.int ns.sum) S
    | none => False)
  | _ => False
end
end Gx

/-! Gx, part 23: x.bit_length(). -/
namespace Gx
open PySem PySem.Spec PyProof.Rows L2
section
variable {X : Cx} {o : Expr} {t : ET}
def eBits (t : ET) : ET := fun τ S Q => t τ S fun d S1 => match d with
  | .int i => Q (.int (Builtin.Int.intBits i : Nat)) S1
  | _ => False
end
end Gx

/-! Gx, part 24: len(set(x)), x a list of unlike whole numbers. -/
namespace Gx
open PySem PySem.Spec PyProof.Rows L2
section
variable {X : Cx}
def eLenI (t : ET) : ET := fun τ S Q => t τ S fun d S1 => ∃ ns : List Int, lstInts S1 d = some ns ∧ (ns.length < 64 ∧ ns.Nodup) ∧ Q (.int (ns.length : Nat)) S1
end
end Gx

/-! Gx, part 25: x[::-1]. -/
namespace Gx
open PySem PySem.Spec PyProof.Rows L2
theorem fm_map {α β : Type} {f : α → Option β} {g : α → β} : ∀ {l : List α}, (∀ k ∈ l, f k = some (g k)) → l.filterMap f = l.map g
  | [], _ => rfl
  | a :: l, h => by
    rw [List.filterMap_cons_some (h a List.mem_cons_self), List.map_cons, fm_map fun k hk => h k (List.mem_cons_of_mem _ hk)]
theorem rev_pick (its : List Value) {f : Nat → Option Value} (hf : ∀ k, k < its.length → f k = its[its.length - 1 - k]?) : (List.range its.length).filterMap f = its.reverse := by
  rw [fm_map (g := fun k => its.getD (its.length - 1 - k) Value.none) fun k hk => by
    have hk := List.mem_range.mp hk
    rw [hf k hk, List.getElem?_eq_getElem (show its.length - 1 - k < its.length by omega), List.getD_eq_getElem?_getD, List.getElem?_eq_getElem (show its.length - 1 - k < its.length by omega)]; rfl]
  apply List.ext_getElem
  · simp
  · intro i h1 h2
    rw [List.getElem_map, List.getElem_range, List.getElem_reverse, List.getD_eq_getElem?_getD, List.getElem?_eq_getElem]; rfl
theorem slicePick_rev (its : List Value) : slicePick its.toArray none none (some (-1)) = its.reverse.toArray := by
  unfold slicePick
  have hb : sliceBounds none none (some (-1)) its.toArray.size = ((its.length : Int) - 1, -1, -1) := rfl
  rw [hb]
  unfold sliceRange
  have hc : (if (-1 : Int) > 0 then (if (its.length : Int) - 1 < -1 then (-1 - ((its.length : Int) - 1) + -1 - 1) / -1 else 0) else (if (its.length : Int) - 1 > -1 then (((its.length : Int) - 1) - -1 - -1 - 1) / (- -1) else 0)).toNat = its.length := by
    rw [if_neg (by decide)]
    by_cases z : (its.length : Int) - 1 > -1
    · rw [if_pos z, show (- -1 : Int) = 1 from rfl, Int.ediv_one]; omega
    · rw [if_neg z]; omega
  simp only [hc]
  congr 1
  rw [List.filterMap_map]
  refine rev_pick its fun k hk => ?_
  show its.toArray[((its.length : Int) - 1 + -1 * (k : Int)).toNat]? = _
  rw [show ((its.length : Int) - 1 + -1 * (k : Int)).toNat = its.length - 1 - k by omega, List.getElem?_toArray]
section
variable {prog : Program} {w : World} {A : Around} {E : Value → Shared → Prop} {s : Shared}
theorem applied_rev {sl : Addr} {t : Tok} {n : Nat} {Q : Int × Int × Nat → Shared → Prop} (hs : s.heap.IsSliceOf sl .none .none (.int (-1) t))
    (h : Q ((n : Int) - 1, -1, n) s) : wpAny (model prog w) A (Builtin.Slice.sliceApplied (.ref sl) (pure (n : Int))) Q E s := by
  obtain ⟨os, hos, hcs, hds⟩ := id hs
  unfold Builtin.Slice.sliceApplied Builtin.Slice.sliceFields
  refine wpAny_bind (wpAny_bind (wpAny_field hos hds (x := .none) rfl (wpAny_bind (wpAny_field hos hds (x := .none) rfl (wpAny_bind (wpAny_field hos hds (x := .int (-1) t) rfl (wpAny_pure ?_)))))))
  refine wpAny_bind (HT.slicePart_ (.int (-1) t) ?_)
  show wpAny _ _ (if ((-1 : Int) == 0) = true then _ else _) _ _ s
  rw [if_neg (by decide)]
  refine wpAny_bind (HT.slicePart_ .none (wpAny_bind (HT.slicePart_ .none (wpAny_bind (wpAny_pure ?_)))))
  have hp : Builtin.Slice.slicePlaces ((n : Int) - 1) (-1) (-1) = n := by
    unfold Builtin.Slice.slicePlaces
    rw [if_neg (by decide)]
    by_cases z : (n : Int) - 1 > -1
    · rw [if_pos z, show (- -1 : Int) = 1 from rfl, Int.ediv_one]; omega
    · rw [if_neg z]; omega
  show wpAny _ _ (pure ((n : Int) - 1, (-1 : Int), Builtin.Slice.slicePlaces ((n : Int) - 1) (-1) (-1))) _ _ s
  rw [hp]
  exact wpAny_pure h
theorem getItem_tuple_rev {t sl : Addr} {its : List Value} {tk : Tok} {Q : Value → Shared → Prop} (ht : IsTup s.heap t its.toArray) (hs : s.heap.IsSliceOf sl .none .none (.int (-1) tk))
    (h : Q (.ref s.heap.objs.size) { s with heap := s.heap.push { cls := .type "tuple", data := .seq its.reverse.toArray } }) (hsz : its.length ≤ sizeLine) : wpAny (model prog w) A (getItem (.ref t) (.ref sl)) Q E s := by
  have htake : sizeOk (.seq its.reverse.toArray) := by
    show its.reverse.toArray.size ≤ sizeLine
    rw [List.size_toArray, List.length_reverse]; exact hsz
  obtain ⟨os, hos, hcs, hds⟩ := id hs
  have hTs : s.TypeIs (.ref sl) "slice" := ⟨os, hos, hcs⟩
  unfold getItem
  try with_reducible refine wpAny_holding ?_
  first | refine wpAny_bind (wpAny_pure ?_) | skip
  refine wpAny_bind (wpAny_sequenceKey ht.typeIs (by decide) ?_)
  refine wpAny_bind (wpAny_callSpecial?_slot (name := Str.ofString "__getitem__") ht.typeIs PyProof.Rows.slot_tuple_getitem
    (wpAny_call_entry PyProof.Rows.slot_tuple_getitem ht.typeIs PyProof.Rows.entry_tuple_getitem ?_ (PyProof.Rows.args_tuple_getitem _ _)))
  show wpAny _ _ (Builtin.Tuple.tupleItemsOf (.ref t) >>= _) _ _ s
  refine wpAny_bind (PyProof.Rows.tupleItemsOf_ ht ?_)
  refine wpAny_bind (wpAny_typeOf hTs ?_)
  rw [if_pos (by decide)]
  refine wpAny_bind (applied_rev (n := its.toArray.size) hs ?_)
  have hno : ¬ ((((its.toArray.size : Int) - 1) == 0 && (-1 : Int) == 1 && its.toArray.size == its.toArray.size) = true) := by
    intro q
    rw [Bool.and_eq_true, Bool.and_eq_true] at q
    exact absurd q.1.2 (by decide)
  show wpAny _ _ (if (((its.toArray.size : Int) - 1) == 0 && (-1 : Int) == 1 && its.toArray.size == its.toArray.size) = true then _ else _) _ _ s
  have hp : ((List.range its.toArray.size).filterMap fun (m : Nat) => its.toArray[(((its.toArray.size : Int) - 1) + (m : Int) * -1).toNat]?).toArray = its.reverse.toArray := by
    congr 1
    refine rev_pick its fun k hk => ?_
    rw [List.size_toArray, show ((its.length : Int) - 1 + (k : Int) * -1).toNat = its.length - 1 - k by omega, List.getElem?_toArray]
  rw [if_neg hno, hp]
  first
    | exact wpAny_bind (m := Builtin.Tuple.tupleExact _) (wpAny_newObj_type (wpAny_pure ⟨_, rfl, wpAny_pure h⟩) htake)
    | exact wpAny_bind (m := Builtin.Tuple.tupleExact _) (wpAny_newObj_type (wpAny_bind (wpAny_pure (wpAny_pure ⟨_, rfl, wpAny_pure h⟩))) htake)
    | exact wpAny_bind (wpAny_bind (m := Builtin.Tuple.tupleExact _) (wpAny_newObj_type (wpAny_pure (wpAny_pure ⟨_, rfl, wpAny_pure h⟩)) htake))
    | exact wpAny_bind (wpAny_bind (m := Builtin.Tuple.tupleExact _) (wpAny_newObj_type (wpAny_pure ⟨_, rfl, wpAny_pure h⟩) htake))
end
section
variable {X : Cx} {e st : Expr} {te ts : TE} {t : ET} {p2 pos : Pos}
/-- x[::-1] -/
def rRev (K : PySem.W.Frag) (x : V) (H : Hp) (Q : VK) : Prop := ∃ a xs, x = .ref a ∧ ((SqT K H a xs ∧ ∀ p, H p = none → Q (.ref p) (upd H p (.tup xs.reverse))) ∨ (SqL K H a xs ∧ ∀ p, H p = none → Q (.ref p) (upd H p (.lst xs.reverse))))
theorem pe_rev (he : PE X e te) (hs : PE X st ts) : PE X (.Subscript e (.Slice none none (some st) p2) pos) (fun σ H Q => te σ H fun x H1 => ts σ H1 fun y H2 => y = .int (-1) ∧ rRev X.K x H2 Q) := by
  refine ⟨fun pins s σ H Q I h => ?_⟩
  refine Subscript_ (thn (he.run pins s σ H _ I h) fun v s1 ⟨x, H1, I1, r1, q1⟩ => ?_)
  refine wpAny_Slice ?_
  rw [evalPart_none]
  refine wpAny_pure ?_
  refine wpAny_pure ?_
  rw [evalPart_some]
  refine thn (hs.run pins s1 σ H1 _ I1 q1) fun vy s3 ⟨y, H3, I3, ry, hy, q3⟩ => ?_
  subst hy
  obtain ⟨tk, rfl⟩ := ry
  have I4 : Inv X pins σ H3 { s3 with heap := s3.heap.push { cls := .type "slice", data := .fields #[.none, .none, .int (-1) tk] } } := I3.kept (t' := s3.toks) fun b ob q => Heap.get?_push_of_some _ q
  have hsl : ({ s3 with heap := s3.heap.push { cls := .type "slice", data := .fields #[.none, .none, .int (-1) tk] } } : Shared).heap.IsSliceOf s3.heap.objs.size .none .none (.int (-1) tk) := Heap.IsSliceOf.new ..
  obtain ⟨a, xs, rfl, q3⟩ := q3
  cases r1
  rcases q3 with ⟨hx, q⟩ | ⟨hx, q⟩
  · obtain ⟨its, r, ht, hz⟩ := I4.tuple hx
    refine tail_any (ops := [.ref a, .ref s3.heap.objs.size]) ht.typeIs PyProof.Rows.slot_tuple_getitem.lookup ?_ (by with_unfolding_all rfl)
    refine getItem_tuple_rev ht hsl ?_ (by have := r.length; omega)
    refine ⟨.ref _, _, I4.laid (t' := s3.toks) (o := .tup xs.reverse) (fun b ob q => Heap.get?_push_of_some _ q) (Nat.le_refl _) ?_, rfl, q _ (I4.hok.fresh (Nat.le_refl _))⟩
    exact ⟨by rw [List.length_reverse]; exact hz, _, r.reverse, IsTup.new _ _⟩
  · obtain ⟨its, r, ht, hz⟩ := I4.list hx
    refine tail_any (ops := [.ref a, .ref s3.heap.objs.size]) ht.isList.typeIs slot_list_getitem.lookup ?_ (by with_unfolding_all rfl)
    refine wpAny_getItem_list_slice ht.isList hsl .none .none (.int (-1) tk) (by simp) ?_ (by rw [List.size_toArray]; have := r.length; omega)
    rw [slicePick_rev]
    refine ⟨.ref _, _, I4.laid (t' := s3.toks) (o := .lst xs.reverse) (fun b ob q => Heap.get?_push_of_some _ q) (Nat.le_refl _) ?_, rfl, q _ (I4.hok.fresh (Nat.le_refl _))⟩
    exact ⟨by rw [List.length_reverse]; exact hz, _, 0, r.reverse, Heap.get?_push_size _ rfl⟩
theorem RpL.rev {K : PySem.W.Frag} {T : Sto} {H : Hp} {ds : List D} {xs : List V} (h : RpL K T H ds xs) : RpL K T H ds.reverse xs.reverse := by
  induction ds generalizing xs with
  | nil => have h : xs = [] := h; subst h; exact rfl
  | cons d ds ih =>
    obtain ⟨x, ys, rfl, r, r2⟩ := h
    rw [List.reverse_cons, List.reverse_cons]
    exact (ih r2).app ⟨x, [], rfl, r, rfl⟩
def eRev (t : ET) : ET := fun τ S Q => t τ S fun d S1 => match rs S1 d with
  | .tup ds => Q (.tup ds.reverse) S1
  | .lst ds => Q (.lst ds.reverse) S1
  | _ => False
theorem g_rev (h : GE X e t) (h2 : GE X st (eUn oNeg (eC (.int 1)))) : GE X (.Subscript e (.Slice none none (some st) p2) pos) (eRev t) :=
  pe_weak (pe_rev h h2) fun σ H Q ⟨τ, S, F, R, w, r, q, g⟩ => by
    refine ⟨τ, S, F, _, w, r, q, fun d S1 v H1 q1 a1 r1 => ?_⟩
    refine ⟨τ, S1, F, fun d2 S2 => d2 = .int (-1) ∧ S2 = S1, a1.wd, a1.rps w r, ⟨rfl, rfl⟩, fun d2 S2 v2 H2 ⟨e1, e2⟩ a2 r2 => ?_⟩
    subst e1 e2
    refine ⟨by cases r2; rfl, ?_⟩
    have rd := a2.rp a1.wd r1
    generalize z : rs S2 d = d' at q1
    split at q1
    · have z := rs_other z (by intro ds; simp)
      subst z
      obtain ⟨a, xs, rfl, hs, rl⟩ := rd
      exact ⟨a, xs, rfl, .inl ⟨hs, fun p hp => g _ _ _ _ q1 ((a1.trans a2).trans (Aft.new a2.wd hp)) (rp_newT a2.wd hp rl.rev)⟩⟩
    · obtain ⟨a, xs, rfl, hs, rl⟩ := rs_lst a2.wd rd z
      exact ⟨a, xs, rfl, .inr ⟨.of hs, fun p hp => g _ _ _ _ q1 ((a1.trans a2).trans (Aft.new a2.wd hp)) (rp_newL a2.wd hp rl.rev)⟩⟩
    · exact q1.elim
end
end Gx

/-! Gx, part 26: isinstance of dicts too. -/
namespace Gx
open PySem PySem.Spec PyProof.Rows L2
section
variable {X : Cx}
def cIsiA : OL := fun ds S R => cIsi ds S R ∨ ∃ (d : D) (kvs : List (Key × D)) (n : String), ds = [d, .ty n] ∧ dctAt S d = some kvs ∧ n ∈ ["int", "bool", "str", "tuple", "list", "dict"] ∧ R (.bl (n == "dict")) S
theorem kit_dict : ∀ b ∈ ["int", "bool", "str", "tuple", "list", "dict"], kitB "dict" b = some (b == "dict") := by decide +kernel
theorem tyX_dct {K : PySem.W.Frag} {H : Hp} {a : Addr} {ks : List (Key × V)} (h : Rd H a (.dK ks)) : TyX K H (.ref a) (.type "dict") := by
  rcases h with h | ⟨ob, h⟩
  · exact .base (.dK h)
  · exact .fDict h
theorem c_isiA : GC X (.builtin "isinstance") cIsiA := fun pins s σ H vs us Q I r ⟨ds, S, F, R, w, r1, q, l⟩ => by
  rcases q with q | ⟨d, kvs, n, rfl, hd, hn, q⟩
  · exact c_isi pins s σ H vs us Q I r ⟨ds, S, F, R, w, r1, q, l⟩
  · refine call_isi pins s σ H vs us Q I r ?_
    obtain ⟨x, _, rfl, rx, y, _, rfl, ry, rfl⟩ := r1
    cases ry
    obtain ⟨a, ks, rfl, rd, _⟩ := dct_view w rx hd
    exact ⟨.ref a, _, _, _, _, rfl, .ty _, tyX_dct rd, kit_ty (kit_dict n hn), l _ _ _ _ q (Aft.refl w) rfl⟩
end
end Gx

/-! Gx, data side 1: whole numbers, fractions. -/
namespace Gx
open PySem L2
theorem rs_plain {S : Sto} {d : D} (h : isPlainTop d = true) : rs S d = d := by cases d <;> first | rfl | cases h
theorem itemsOf_tup (ds : List D) : itemsOf (.tup ds) = some ds := rfl
theorem itemsOf_lst (ds : List D) : itemsOf (.lst ds) = some ds := rfl
theorem itemsOf_scr (ds : List D) : itemsOf (.scr ds) = some ds := rfl
theorem seqG_tup (S : Sto) (Z : List D → (Sto → Prop) → Sto → Prop) (ds : List D) : seqG S Z (.tup ds) = Z ds (fun _ => True) S := rfl
theorem seqG_lst (S : Sto) (Z : List D → (Sto → Prop) → Sto → Prop) (ds : List D) : seqG S Z (.lst ds) = Z ds (fun _ => True) S := rfl
theorem seqG_scr (S : Sto) (Z : List D → (Sto → Prop) → Sto → Prop) (ds : List D) : seqG S Z (.scr ds) = Z ds (fun _ => True) S := rfl
theorem td_tup (ds : List D) : isTupD (.tup ds) = true := rfl
theorem td_lst (ds : List D) : isTupD (.lst ds) = false := rfl
theorem td_scr (ds : List D) : isTupD (.scr ds) = false := rfl
theorem cu_tup (lo hi : Option Int) (S : Sto) (R : QD) (ds : List D) : oCut lo hi S R (.tup ds) = R (.tup (cutD ds lo hi)) S := rfl
theorem cu_lst (lo hi : Option Int) (S : Sto) (R : QD) (ds : List D) : oCut lo hi S R (.lst ds) = R (.lst (cutD ds lo hi)) S := rfl
theorem cu_scr (lo hi : Option Int) (S : Sto) (R : QD) (ds : List D) : oCut lo hi S R (.scr ds) = R (.lst (cutD ds lo hi)) S := rfl
/-- the end of a def -/
abbrev Ed (R : QD) : EndG := { nx := fun _ S' => Fin R .non S', rt := Fin R }
theorem fin_of {R : QD} {d : D} {S : Sto} (h : R d S) : Fin R d S := Fin.plain h
/-- the law of a def: what it promises follows from its reading -/
def Law (n : Nat) (γ : OL) (body : ST) : Prop := ∀ ds S R, γ ds S R → body (Ed R) (startD n ds) S

/-! ### whole numbers, tuples -/
def isWh : D → Bool
  | .int _ => true
  | _ => false
def γ_is_whole : OL := fun ds S R => match ds with
  | [d] => isPlainTop d = true ∧ R (.bl (isWh d)) S
  | _ => False
def body_is_whole : ST := sRet (eAnd (eCall cIsi (aCons (eVar 0) (aCons (eC (.ty "int")) (aNil)))) (eNot (eCall cIsi (aCons (eVar 0) (aCons (eC (.ty "bool")) (aNil))))))
local macro_rules | `(tactic| simp_arith [$xs,*]) => `(tactic| try simp only [eVar, eC, eBin, eUn, tBl, tAnd', tOr', tNot', eAnd, eOr, eNot, eIf, aNil, aCons, eTup, eLst, eLstM, eCall, eCallK, pick, sNext, sSeq, sBreak, sCont, sDrop, sRet, sRetN, sIf, sNever, gNm, gsNil, gsCons, gTupl, gSubs, sAsg, sPar, sPar3, sFor, iSeq, seqG_tup, seqG_lst, seqG_scr, iRange1, iRange2, iEnumG, iZipG, td_tup, td_lst, td_scr, eLc, eLcM, tYes', pNone, pSome, eSl, cu_tup, cu_lst, cu_scr, eMt, eMt0, mAppend, isL, rs_non, rs_bl, rs_int, rs_str, rs_tup, rs_lst', rs_scr, itemsOf_tup, itemsOf_lst, itemsOf_scr, oI, oI0, oSub, oFdiv, oMod, oPow, oShl, oShr, oAnd, oOr, oXor, oLt, oLe, oGt, oGe, oNeg, oIsN, oNotN, Gx.isNon, oAdd, oAdd', oMul, oMul', oMulM, oEq, oNe, oEqS, oNeS, oIn, oNin, eChain, oIx, oSet, cLen, cList, cListM, cTuple, cSum, cAll, cAny, cInt, cAbs, cMax2, cMin2, cDivmod, cGcd, cIsi, cRepr, lstInts, lstBls, startD, wipeD, List.map_cons, List.map_nil, List.length_cons, List.length_nil, List.cons_append, List.nil_append, List.replicate_succ, List.replicate_zero, List.set_cons_succ, List.set_cons_zero, List.getElem?_cons_succ, List.getElem?_cons_zero, List.filterMap_cons_some, List.filterMap_nil, Nat.reduceAdd, Nat.reduceSub, Nat.sub_self, Nat.reduceLT, Nat.reduceMul, Nat.zero_add, Nat.add_zero, if_true, if_false, and_true, true_and, and_false, false_and, or_true, true_or, or_false, false_or, not_true_eq_false, not_false_eq_true, Bool.not_true, Bool.not_false, Bool.false_eq_true, ite_true, ite_false, reduceIte, reduceCtorEq, eq_self, $xs,*])
/-- a whole number from lo up to hi -/
def isBw (lo hi : Int) : D → Bool
  | .int i => decide (lo ≤ i) && decide (i ≤ hi)
  | _ => false
def γ_is_between : OL := fun ds S R => match ds with
  | [d, .int lo, .int hi] => isPlainTop d = true ∧ R (.bl (isBw lo hi d)) S
  | _ => False
def body_is_between (γ_is_whole : OL) : ST := sRet (eAnd (eCall γ_is_whole (aCons (eVar 0) (aNil))) (eChain oLe oLe (eVar 1) (eVar 0) (eVar 2)))
def isTp (n : Int) : D → Bool
  | .tup ds => decide ((ds.length : Int) = n)
  | _ => false
theorem eqD_int (i j : Int) : eqD (.int i) (.int j) = decide (i = j) := by
  show (i == j) = decide (i = j)
  by_cases h : i = j
  · subst h; simp
  · simp [h]
theorem pl_int {n : Nat} {i : Int} : pl n (.int i) = true := by cases n <;> rfl
theorem pl_bl {n : Nat} {i : Bool} : pl n (.bl i) = true := by cases n <;> rfl
def γ_is_tuple_of : OL := fun ds S R => match ds with
  | [d, .int n] => isPlainTop d = true ∧ R (.bl (isTp n d)) S
  | _ => False
def body_is_tuple_of : ST := sRet (eAnd (eCall cIsi (aCons (eVar 0) (aCons (eC (.ty "tuple")) (aNil)))) (eBin oEq (eCall cLen (aCons (eVar 0) (aNil))) (eVar 1)))
/-! ### fractions -/
def encR (q : Rat) : D := .tup [.int q.num, .int q.den]
theorem encR_inj {a b : Rat} : encR a = encR b ↔ a = b := by
  refine ⟨fun h => ?_, fun h => by rw [h]⟩
  simp only [encR, D.tup.injEq, List.cons.injEq, D.int.injEq, and_true] at h
  exact Rat.ext h.1 (by have := h.2; omega)
/-- whether a value is a fraction -/
def isFr : D → Bool
  | .tup [.int n, .int m] => decide (0 < m) && decide (Nat.gcd n.natAbs m.natAbs = 1)
  | _ => false
theorem isFr_enc (q : Rat) : isFr (encR q) = true := by
  have h1 := q.den_pos
  have h2 : Nat.gcd q.num.natAbs q.den = 1 := q.reduced
  simp [isFr, encR, h1, h2]
theorem isFr_of {d : D} (h : isFr d = true) : ∃ q : Rat, d = encR q := by
  unfold isFr at h
  split at h
  · rename_i n m
    simp only [Bool.and_eq_true, decide_eq_true_eq] at h
    refine ⟨⟨n, m.toNat, by omega, ?_⟩, ?_⟩
    · show Nat.gcd n.natAbs m.toNat = 1
      have : m.natAbs = m.toNat := by omega
      rw [← this]; exact h.2
    · simp only [encR, D.tup.injEq, List.cons.injEq, D.int.injEq, and_true, true_and]
      omega
  · cases h
def γ_is_ratio : OL := fun ds S R => match ds with
  | [d] => isPlainTop d = true ∧ (∀ es, d = .tup es → ∀ e ∈ es, isPlainTop e = true) ∧ R (.bl (isFr d)) S
  | _ => False
def body_is_ratio (γ_is_tuple_of γ_is_whole : OL) : ST := sSeq (sIf (tOr' (tNot' (tBl (eCall γ_is_tuple_of (aCons (eVar 0) (aCons (eC (.int 2)) (aNil)))))) (tOr' (tNot' (tBl (eCall γ_is_whole (aCons (eBin oIx (eVar 0) (eC (.int 0))) (aNil))))) (tNot' (tBl (eCall γ_is_whole (aCons (eBin oIx (eVar 0) (eC (.int 1))) (aNil))))))) (sRet (eC (.bl false))) (sNext))
  (sRet (eAnd (eBin oGt (eBin oIx (eVar 0) (eC (.int 1))) (eC (.int 0))) (eBin oEq (eCall cGcd (aCons (eBin oIx (eVar 0) (eC (.int 0))) (aCons (eBin oIx (eVar 0) (eC (.int 1))) (aNil)))) (eC (.int 1)))))
theorem atI_0 {α : Type} {x : α} {xs : List α} : L2.atI (x :: xs) 0 = some x := by
  have := L2.atI_nat (xs := x :: xs) (j := 0) (v := x) rfl
  simpa using this
theorem atI_1 {α : Type} {x y : α} {xs : List α} : L2.atI (x :: y :: xs) 1 = some y := by
  have := L2.atI_nat (xs := x :: y :: xs) (j := 1) (v := y) rfl
  simpa using this
theorem atI_2 {α : Type} {x y z : α} {xs : List α} : L2.atI (x :: y :: z :: xs) 2 = some z := by
  have := L2.atI_nat (xs := x :: y :: z :: xs) (j := 2) (v := z) rfl
  simpa using this
theorem natcast_eq_one {a b : Nat} : decide (((Nat.gcd a b : Nat) : Int) = 1) = decide (Nat.gcd a b = 1) := by
  by_cases h : Nat.gcd a b = 1
  · simp [h]
  · have : ¬ ((Nat.gcd a b : Nat) : Int) = 1 := by omega
    simp [h, this]
/-- the fraction of two whole numbers -/
theorem divInt_parts {a b : Int} (hb : b ≠ 0) (g : Int) (hg : g = if 0 < b then (Nat.gcd a.natAbs b.natAbs : Int) else -(Nat.gcd a.natAbs b.natAbs : Int)) :
    a.fdiv g = (Rat.divInt a b).num ∧ b.fdiv g = ((Rat.divInt a b).den : Int) ∧ g ≠ 0 ∧ g.natAbs ≤ b.natAbs := by
  have hp : 0 < Nat.gcd a.natAbs b.natAbs := Nat.gcd_pos_of_pos_right _ (by omega)
  have hgc : Int.gcd b a = Nat.gcd a.natAbs b.natAbs := by rw [Int.gcd, Nat.gcd_comm]
  have ha : ((Nat.gcd a.natAbs b.natAbs : Nat) : Int) ∣ a := Int.ofNat_dvd_left.mpr (Nat.gcd_dvd_left _ _)
  have hbd : ((Nat.gcd a.natAbs b.natAbs : Nat) : Int) ∣ b := Int.ofNat_dvd_left.mpr (Nat.gcd_dvd_right _ _)
  have hle : Nat.gcd a.natAbs b.natAbs ≤ b.natAbs := Nat.gcd_le_right _ (by omega)
  obtain ⟨x, hx⟩ := ha
  obtain ⟨y, hy⟩ := hbd
  generalize hG : Nat.gcd a.natAbs b.natAbs = G at *
  have hG0 : (G : Int) ≠ 0 := by omega
  rw [Rat.num_divInt, Rat.den_divInt, if_neg hb, hgc]
  by_cases h : 0 < b
  · rw [if_pos h] at hg
    subst hg
    refine ⟨?_, ?_, hG0, by omega⟩
    · rw [Int.sign_eq_one_of_pos h, Int.one_mul, hx, Int.mul_comm, Int.mul_fdiv_cancel _ hG0, Int.mul_ediv_cancel _ hG0]
    · have e : (b.natAbs : Int) = b := by omega
      rw [Int.natCast_ediv, e, hy, Int.mul_comm, Int.mul_fdiv_cancel _ hG0, Int.mul_ediv_cancel _ hG0]
  · rw [if_neg h] at hg
    subst hg
    have hb' : b < 0 := by omega
    refine ⟨?_, ?_, by omega, by omega⟩
    · rw [Int.sign_eq_neg_one_of_neg hb']
      have e : a = (-x) * (-(G : Int)) := by rw [hx]; rw [Int.neg_mul_neg, Int.mul_comm]
      have e2 : -1 * a = (-x) * (G : Int) := by rw [hx, Int.neg_mul, Int.one_mul, Int.neg_mul, Int.mul_comm]
      rw [e2, Int.mul_ediv_cancel _ hG0]
      conv => lhs; rw [e]
      exact Int.mul_fdiv_cancel _ (by omega)
    · have e : (b.natAbs : Int) = -b := by omega
      have e1 : b = (-y) * (-(G : Int)) := by rw [hy]; rw [Int.neg_mul_neg, Int.mul_comm]
      have e2 : -b = (-y) * (G : Int) := by rw [hy, Int.neg_mul, Int.mul_comm]
      rw [Int.natCast_ediv, e, e2, Int.mul_ediv_cancel _ hG0]
      conv => lhs; rw [e1]
      exact Int.mul_fdiv_cancel _ (by omega)
theorem log2_le_of_le {a b : Nat} (h : a ≤ b) (hb : b < 2 ^ 9000) : a.log2 < 9000 := by
  by_cases z : a = 0
  · subst z; decide
  · exact (Nat.log2_lt z).mpr (by omega)
def γ_ratio : OL := fun ds S R => match ds with
  | [.int a, .int b] => (b ≠ 0 ∧ b.natAbs < 2 ^ 9000) ∧ R (encR (Rat.divInt a b)) S
  | _ => False
/-! ### sizes -/
/-- few figures: the upper number below 2 ^ a, the lower one below 2 ^ b -/
def Sz (a b : Nat) (q : Rat) : Prop := q.num.natAbs < 2 ^ a ∧ q.den < 2 ^ b
theorem Sz.mono {a b c d : Nat} {q : Rat} (h : Sz a b q) (h1 : a ≤ c := by decide) (h2 : b ≤ d := by decide) : Sz c d q :=
  ⟨Nat.lt_of_lt_of_le h.1 (Nat.pow_le_pow_right (by decide) h1), Nat.lt_of_lt_of_le h.2 (Nat.pow_le_pow_right (by decide) h2)⟩
theorem pow2_le {a b : Nat} (h : a ≤ b) : 2 ^ a ≤ 2 ^ b := Nat.pow_le_pow_right (by decide) h
theorem mul_lt2 {x y a b : Nat} (h : x < 2 ^ a) (h' : y < 2 ^ b) : x * y < 2 ^ (a + b) := by
  rw [Nat.pow_add]
  exact Nat.mul_lt_mul'' h h'
/-- what a reduced fraction of a / b needs -/
theorem sz_divInt {n m : Int} {a b : Nat} (h1 : n.natAbs < 2 ^ a) (h2 : m.natAbs < 2 ^ b) (hm : m ≠ 0) : Sz a b (Rat.divInt n m) := by
  have e1 := Rat.num_divInt n m
  have e2 := Rat.den_divInt n m
  rw [if_neg hm] at e2
  refine ⟨?_, ?_⟩
  · rw [e1]
    refine Nat.lt_of_le_of_lt ?_ h1
    rw [Int.natAbs_ediv_of_dvd, Int.natAbs_mul]
    · have : m.sign.natAbs = 1 := by
        rcases Int.lt_trichotomy m 0 with h | h | h
        · rw [Int.sign_eq_neg_one_of_neg h]; rfl
        · exact absurd h hm
        · rw [Int.sign_eq_one_of_pos h]; rfl
      rw [this, Nat.one_mul]
      exact Nat.div_le_self _ _
    · exact Int.dvd_trans (Int.gcd_dvd_right _ _) (Int.dvd_mul_left _ _)
  · rw [e2]
    exact Nat.lt_of_le_of_lt (Nat.div_le_self _ _) h2
/-! the operations -/
end Gx

/-! Gx, data side 2: comprehensions and loops; the laws' own draws. -/
namespace Gx
open PySem L2
local macro_rules | `(tactic| simp_arith [$xs,*]) => `(tactic| try simp only [eVar, eC, eBin, eUn, tBl, tAnd', tOr', tNot', eAnd, eOr, eNot, eIf, aNil, aCons, eTup, eLst, eLstM, eCall, eCallK, pick, sNext, sSeq, sBreak, sCont, sDrop, sRet, sRetN, sIf, sNever, gNm, gsNil, gsCons, gTupl, gSubs, sAsg, sPar, sPar3, sFor, iSeq, seqG_tup, seqG_lst, seqG_scr, iRange1, iRange2, iEnumG, iZipG, td_tup, td_lst, td_scr, eLc, eLcM, tYes', pNone, pSome, eSl, cu_tup, cu_lst, cu_scr, eMt, eMt0, mAppend, isL, rs_non, rs_bl, rs_int, rs_str, rs_tup, rs_lst', rs_scr, itemsOf_tup, itemsOf_lst, itemsOf_scr, oI, oI0, oSub, oFdiv, oMod, oPow, oShl, oShr, oAnd, oOr, oXor, oLt, oLe, oGt, oGe, oNeg, oIsN, oNotN, Gx.isNon, oAdd, oAdd', oMul, oMul', oMulM, oEq, oNe, oEqS, oNeS, oIn, oNin, eChain, oIx, oSet, cLen, cList, cListM, cTuple, cSum, cAll, cAny, cInt, cAbs, cMax2, cMin2, cDivmod, cGcd, cIsi, cRepr, lstInts, lstBls, startD, wipeD, List.map_cons, List.map_nil, List.length_cons, List.length_nil, List.cons_append, List.nil_append, List.replicate_succ, List.replicate_zero, List.set_cons_succ, List.set_cons_zero, List.getElem?_cons_succ, List.getElem?_cons_zero, List.filterMap_cons_some, List.filterMap_nil, Nat.reduceAdd, Nat.reduceSub, Nat.sub_self, Nat.reduceLT, Nat.reduceMul, Nat.zero_add, Nat.add_zero, if_true, if_false, and_true, true_and, and_false, false_and, or_true, true_or, or_false, false_or, not_true_eq_false, not_false_eq_true, Bool.not_true, Bool.not_false, Bool.false_eq_true, ite_true, ite_false, reduceIte, reduceCtorEq, eq_self, $xs,*])

/-! ### comprehensions -/
section
variable {g : TG'} {tt : TT'} {te : ET} {gd : Sto → Prop} {vs : List Nat} {τ : Tau} {Z : List D → Sto → Prop} {S : Sto}
theorem cmp_map (f : D → D) : ∀ (items acc : List D), (∀ x ∈ items, ∀ Q : QD, Q (f x) S → g x (wipeD τ vs) S fun τ2 S2 => te τ2 S2 Q) → gd S → acc.length + items.length ≤ sizeLine → Z (acc ++ items.map f) S → cmpG g tYes' te gd vs τ Z items acc S
  | [], acc, _, hg, _, h => ⟨hg, by simpa using h⟩
  | x :: xs, acc, hel, hg, hz, h => by
    refine ⟨hg, ?_⟩
    have hx := hel x List.mem_cons_self (fun y S4 => acc.length < sizeLine ∧ cmpG g tYes' te gd vs τ Z xs (acc ++ [y]) S4) ⟨by rw [List.length_cons] at hz; omega, cmp_map f xs (acc ++ [f x]) (fun y hy => hel y (List.mem_cons_of_mem _ hy)) hg (by rw [List.length_append, List.length_singleton]; rw [List.length_cons] at hz; omega) (by simpa using h)⟩
    simpa only [tYes', if_true] using hx
end
theorem rngD_map : ∀ (n : Nat) (lo : Int), rngD lo n = (List.range n).map fun i : Nat => D.int (lo + i)
  | 0, _ => rfl
  | n + 1, lo => by
    rw [List.range_succ_eq_map, List.map_cons, List.map_map]
    show D.int lo :: rngD (lo + 1) n = _
    rw [rngD_map n (lo + 1)]
    congr 1
    · simp
    · apply List.map_congr_left
      intro i _
      show D.int (lo + 1 + i) = D.int (lo + ((i + 1 : Nat) : Int))
      congr 1
      omega
theorem rngD_zero (n : Nat) : rngD 0 n = (List.range n).map fun i : Nat => D.int (i : Int) := by
  rw [rngD_map]
  apply List.map_congr_left
  intro i _
  show D.int (0 + (i : Int)) = D.int i
  rw [Int.zero_add]
theorem enumD_map {α : Type} (f : α → D) : ∀ (xs : List α) (k : Nat), enumD k (xs.map f) = (xs.zipIdx k).map fun p => .tup [.int p.2, f p.1]
  | [], _ => rfl
  | x :: xs, k => by
    have ih := enumD_map f xs (k + 1)
    show D.tup [.int k, f x] :: enumD ((k : Int) + 1) (xs.map f) = _
    rw [List.zipIdx_cons, List.map_cons]
    congr 1

theorem enumD_map0 {α : Type} (f : α → D) (xs : List α) : enumD 0 (xs.map f) = xs.zipIdx.map fun p => .tup [.int p.2, f p.1] := enumD_map f xs 0
/-! ### a store's change at one place -/
/-- all but what stands at p is as it was -/
def But (p : Addr) (S S' : Sto) : Prop := ∀ b, b ≠ p → S' b = S b
theorem But.refl {p : Addr} {S : Sto} : But p S S := fun _ _ => rfl
theorem But.trans {p : Addr} {S S1 S2 : Sto} (a : But p S S1) (b : But p S1 S2) : But p S S2 := fun c h => (b c h).trans (a c h)
theorem But.up {p : Addr} {S : Sto} {o : SO} : But p S (up S p o) := fun _ h => up_ne h
/-- a well stands at p -/
def Well (p : Addr) (S : Sto) : Prop := ∃ a m c : Int, S p = some (.lst [.int a, .int m, .int c])
/-- something was drawn from the well at p -/
structure Drw (p : Addr) (S S' : Sto) : Prop where
  but : But p S S'
  well : Well p S'
theorem Drw.trans {p : Addr} {S S1 S2 : Sto} (a : Drw p S S1) (b : Drw p S1 S2) : Drw p S S2 := ⟨a.but.trans b.but, b.well⟩
theorem Drw.refl {p : Addr} {S : Sto} (h : Well p S) : Drw p S S := ⟨.refl, h⟩
/-- the end of a def that drew: what is of its own is forgotten -/
theorem fin_drw {R : QD} {d : D} {p : Addr} {S S' Se : Sto} (h : R d S') (hs : ∀ a o, S' a = some o → Se a = some o) : Fin R d Se := ⟨S', d, hs, .same d, h⟩

/-! ### draws -/
/-- a number from 0 to few - 1 -/
def γ_draw : OL := fun ds S R => ∃ (p : Addr) (few : Int), ds = [.ref p, .int few] ∧ Well p S ∧ (0 < few ∧ few < 1073741824) ∧ ∀ r S', 0 ≤ r → r < few → Drw p S S' → R (.int r) S'
def body_draw : ST := sSeq (sIf (tBl (eBin oGt (eBin oIx (eVar 0) (eC (.int 0))) (eC (.int 0)))) (sSeq (sAsg (eCall cDivmod (aCons (eBin oIx (eVar 0) (eC (.int 0))) (aCons (eVar 1) (aNil)))) (gTupl 2 (gsCons (gSubs (eVar 0) (eC (.int 0)) oSet) (gsCons (gNm 3) (gsNil)))))
  (sRet (eVar 3))) (sNext))
  (sSeq (sAsg (eBin oAdd (eBin oIx (eVar 0) (eC (.int 2))) (eC (.int 1))) (gSubs (eVar 0) (eC (.int 2)) oSet))
  (sSeq (sAsg (eBin oMod (eCall cInt (aCons (eBin oAdd (eBin oMul (eBin oIx (eVar 0) (eC (.int 1))) (eC (.int 48271))) (eBin oMul (eC (.int 15017)) (eBin oIx (eVar 0) (eC (.int 2))))) (aNil))) (eC (.int 2147483489))) (gNm 2))
  (sSeq (sAsg (eBin oMod (eCall cInt (aCons (eBin oAdd (eBin oMul (eVar 2) (eBin oAdd (eBin oMod (eCall cInt (aCons (eVar 2) (aNil))) (eC (.int 5003))) (eC (.int 20021)))) (eBin oIx (eVar 0) (eC (.int 2)))) (aNil))) (eC (.int 2147483489))) (gSubs (eVar 0) (eC (.int 1)) oSet))
  (sRet (eBin oMod (eCall cInt (aCons (eBin oFdiv (eBin oIx (eVar 0) (eC (.int 1))) (eC (.int 1009))) (aNil))) (eVar 1))))))
theorem ixN_0 {n : Nat} : ixN (n + 1) 0 = some 0 := by unfold ixN; rw [if_pos (by omega), if_pos (by omega)]; rfl
theorem ixN_1 {n : Nat} : ixN (n + 2) 1 = some 1 := by unfold ixN; rw [if_pos (by omega), if_pos (by omega)]; rfl
theorem ixN_2 {n : Nat} : ixN (n + 3) 2 = some 2 := by unfold ixN; rw [if_pos (by omega), if_pos (by omega)]; rfl
theorem ixN_30 : ixN 3 0 = some 0 := ixN_0
theorem ixN_31 : ixN 3 1 = some 1 := ixN_1
theorem ixN_32 : ixN 3 2 = some 2 := ixN_2
theorem fmod_lo (a : Int) {b : Int} (h : 0 < b) : 0 ≤ a.fmod b := Int.fmod_nonneg_of_pos _ h
theorem fmod_hi (a : Int) {b : Int} (h : 0 < b) : a.fmod b < b := Int.fmod_lt_of_pos _ h
theorem law_draw : Law 4 γ_draw body_draw := by
  intro ds S R ⟨p, few, e, ⟨a, m, c, hw⟩, ⟨h0, h1⟩, h⟩
  subst e
  unfold body_draw
  by_cases z : 0 < a
  · simp_arith [rs_ref hw, hw, atI_0, z, decide_true, ixN_30]
    refine ⟨⟨h0, h1⟩, fin_of (h _ _ (Int.emod_nonneg _ (by omega)) (Int.emod_lt_of_pos _ h0) ⟨.up, ?_⟩)⟩
    exact ⟨_, _, _, up_same⟩
  · simp_arith [rs_ref hw, hw, atI_0, atI_2, z, decide_false, ixN_32, rs_ref up_same, up_same, atI_1, ixN_31, ixN_30, up_up]
    refine ⟨.right (by decide) (by decide), .left (by decide) (by decide), by decide, by decide, .right ?_ ?_, by decide, ⟨by decide, by decide⟩, by omega, fin_of (h _ _ (fmod_lo _ h0) (fmod_hi _ h0) ⟨.up, ?_⟩)⟩
    · have := fmod_lo ((m * 48271 + 15017 * (c + 1)).fmod 2147483489) (b := 5003) (by decide)
      omega
    · have := fmod_hi ((m * 48271 + 15017 * (c + 1)).fmod 2147483489) (b := 5003) (by decide)
      omega
    · exact ⟨_, _, _, up_same⟩
/-- one of some things -/
def γ_one : OL := fun ds S R => ∃ (p : Addr) (d : D) (es : List D), ds = [.ref p, d] ∧ itemsOf d = some es ∧ Well p S ∧ (0 < es.length ∧ es.length < 1073741824) ∧ ∀ e S', e ∈ es → Drw p S S' → R e S'
def body_one (γ_draw : OL) : ST := sRet (eBin oIx (eVar 1) (eCall γ_draw (aCons (eVar 0) (aCons (eCall cLen (aCons (eVar 1) (aNil))) (aNil)))))
theorem itemsOf_top {d : D} {es : List D} (h : itemsOf d = some es) : isPlainTop d = true := by cases d <;> first | rfl | cases h
theorem law_one : Law 2 γ_one (body_one γ_draw) := by
  intro ds S R ⟨p, d, es, e, hd, hw, ⟨h0, h1⟩, h⟩
  subst e
  have ht := itemsOf_top hd
  have hr : ∀ S, rs S d = d := fun S => rs_plain ht
  unfold body_one γ_draw
  simp only [sRet, eBin, eVar, eCall, aCons, aNil, startD, List.map_cons, List.map_nil, List.length_cons, List.length_nil, Nat.zero_add, Nat.reduceAdd, Nat.sub_self, List.replicate_zero, List.cons_append, List.nil_append, List.getElem?_cons_succ, List.getElem?_cons_zero, cLen, hr, hd, oIx]
  refine ⟨p, _, rfl, hw, ⟨by omega, by omega⟩, fun r S' r0 r1 dr => ?_⟩
  obtain ⟨n, rfl⟩ := Int.eq_ofNat_of_zero_le r0
  have hn : n < es.length := by omega
  simp only [hr, hd, L2.atI_nat (List.getElem?_eq_getElem hn)]
  exact fin_of (h _ _ (List.getElem_mem hn) dr)
/-- where the draws of one lap come from -/
def γ_well : OL := fun ds S R => ∃ (ns : List Int) (lap : Int), ds = [.scr (ns.map .int), .int lap] ∧ 0 ≤ lap ∧ ∀ p S', S p = none → But p S S' → Well p S' → R (.ref p) S'
def body_well (c : Int) : ST := sSeq (sAsg (eBin oAdd (eC (.int c)) (eBin oMul (eC (.int 7919)) (eVar 1))) (gNm 2))
  (sSeq (sFor (iSeq (eSl (eVar 0) (pNone) (pSome (eC (.int 10))))) (gNm 3) (sAsg (eBin oMod (eCall cInt (aCons (eBin oAdd (eBin oAdd (eBin oMul (eVar 2) (eC (.int 52361))) (eBin oMul (eBin oMod (eCall cInt (aCons (eVar 3) (aNil))) (eC (.int 2147483489))) (eC (.int 7)))) (eC (.int 19))) (aNil))) (eC (.int 2147483489))) (gNm 2)))
  (sSeq (sAsg (eIf (tBl (eBin oLt (eVar 1) (eCall cLen (aCons (eVar 0) (aNil))))) (eCall cInt (aCons (eBin oIx (eVar 0) (eVar 1)) (aNil))) (eC (.int 0))) (gNm 4))
  (sSeq (sAsg (eBin oMod (eCall cInt (aCons (eBin oAdd (eBin oAdd (eBin oMul (eVar 2) (eC (.int 47))) (eBin oMul (eBin oMod (eCall cInt (aCons (eVar 4) (aNil))) (eC (.int 2147483489))) (eC (.int 30109)))) (eC (.int 5))) (aNil))) (eC (.int 2147483489))) (gNm 2))
  (sRet (eLstM (aCons (eIf (tOr' (tBl (eBin oLt (eVar 4) (eC (.int 0)))) (tBl (eBin oGe (eVar 4) (eBin oPow (eC (.int 10)) (eC (.int 14)))))) (eCall cAbs (aCons (eVar 4) (aNil))) (eC (.int 0))) (aCons (eVar 2) (aCons (eC (.int 0)) (aNil)))))))))
theorem cutD_map (ns : List Int) (lo hi : Option Int) : ∃ ms : List Int, cutD (ns.map D.int) lo hi = ms.map D.int := by
  unfold cutD
  exact ⟨_, by rw [← List.map_drop, ← List.map_take]⟩
theorem well_loop (x0 x1 : Option D) (G : EndG) (S : Sto) (h : ∀ (i : Int) x3, G.nx [x0, x1, some (.int i), x3, none] S) : ∀ (ms : List Int) (i : Int) x3,
    forG (gNm 3) (sAsg (eBin oMod (eCall cInt (aCons (eBin oAdd (eBin oAdd (eBin oMul (eVar 2) (eC (.int 52361))) (eBin oMul (eBin oMod (eCall cInt (aCons (eVar 3) (aNil))) (eC (.int 2147483489))) (eC (.int 7)))) (eC (.int 19))) (aNil))) (eC (.int 2147483489))) (gNm 2)) (fun _ => True) (ms.map D.int) G [x0, x1, some (.int i), x3, none] S
  | [], i, x3 => ⟨trivial, h i x3⟩
  | m :: ms, i, x3 => by
    refine ⟨trivial, ?_⟩
    simp_arith []
    exact ⟨.right (by decide) (by decide), by decide, .right (by decide) (by decide), by decide, well_loop x0 x1 G S h ms _ _⟩
theorem law_well (c : Int) : Law 5 γ_well (body_well c) := by
  intro ds S R ⟨ns, lap, e, hl, h⟩
  subst e
  unfold body_well
  simp_arith []
  refine ⟨.left (by decide) (by decide), ?_⟩
  obtain ⟨ms, em⟩ := cutD_map ns none (some 10)
  rw [em]
  refine well_loop _ _ _ _ (fun i x3 => ?_) ms _ _
  have fin : ∀ (a b : Int) (p : Addr), S p = none → Fin R (.ref p) (up S p (.lst [.int a, .int b, .int 0])) := fun a b p hp => fin_of (h p _ hp .up ⟨_, _, _, up_same⟩)
  have key : ∀ own : Int, MulOk i 47 ∧ (2147483489 : Int) ≠ 0 ∧ MulOk (own.fmod 2147483489) 30109 ∧ (2147483489 : Int) ≠ 0 := fun own => ⟨.right (by decide) (by decide), by decide, .right (by decide) (by decide), by decide⟩
  have cp : PowOk 10 14 := .of 4 (by decide) (by decide) (by decide)
  by_cases z : lap < (ns.length : Int)
  · obtain ⟨n, rfl⟩ := Int.eq_ofNat_of_zero_le hl
    have hn : n < ns.length := by omega
    have ha : L2.atI (ns.map D.int) (n : Int) = some (.int ns[n]) := L2.atI_nat (by rw [List.getElem?_map, List.getElem?_eq_getElem hn]; rfl)
    simp_arith [List.length_map, z, decide_true, ha]
    refine ⟨(key ns[n]).1, by decide, (key ns[n]).2.2.1, by decide, ?_⟩
    by_cases z1 : ns[n] < 0
    · simp_arith [z1, decide_true]
      exact ⟨by decide, fun p hp => fin _ _ p hp⟩
    · simp_arith [z1, decide_false]
      refine ⟨cp, ?_⟩
      by_cases z2 : (10 : Int) ^ (14 : Int).toNat ≤ ns[n]
      · simp_arith [z2, decide_true]
        exact ⟨by decide, fun p hp => fin _ _ p hp⟩
      · simp_arith [z2, decide_false]
        exact ⟨by decide, fun p hp => fin _ _ p hp⟩
  · simp_arith [List.length_map, z, decide_false]
    refine ⟨(key 0).1, by decide, (key 0).2.2.1, by decide, ?_⟩
    refine ⟨cp, ?_⟩
    by_cases z2 : (10 : Int) ^ (14 : Int).toNat ≤ 0
    · simp_arith [z2, decide_true]
      exact ⟨by decide, fun p hp => fin _ _ p hp⟩
    · simp_arith [z2, decide_false]
      exact ⟨by decide, fun p hp => fin _ _ p hp⟩
end Gx

/-! Gx, data side 3: bounds of fractions, sums, Euclid's loop. -/
namespace Gx
open PySem L2
local macro_rules | `(tactic| simp_arith [$xs,*]) => `(tactic| try simp only [eVar, eC, eBin, eUn, tBl, tAnd', tOr', tNot', eAnd, eOr, eNot, eIf, aNil, aCons, eTup, eLst, eLstM, eCall, eCallK, pick, sNext, sSeq, sBreak, sCont, sDrop, sRet, sRetN, sIf, sNever, gNm, gsNil, gsCons, gTupl, gSubs, sAsg, sPar, sPar3, sFor, iSeq, seqG_tup, seqG_lst, seqG_scr, iRange1, iRange2, iEnumG, iZipG, td_tup, td_lst, td_scr, eLc, eLcM, tYes', pNone, pSome, eSl, cu_tup, cu_lst, cu_scr, eMt, eMt0, mAppend, isL, rs_non, rs_bl, rs_int, rs_str, rs_tup, rs_lst', rs_scr, itemsOf_tup, itemsOf_lst, itemsOf_scr, oI, oI0, oSub, oFdiv, oMod, oPow, oShl, oShr, oAnd, oOr, oXor, oLt, oLe, oGt, oGe, oNeg, oIsN, oNotN, Gx.isNon, oAdd, oAdd', oMul, oMul', oMulM, oEq, oNe, oEqS, oNeS, oIn, oNin, eChain, oIx, oSet, cLen, cList, cListM, cTuple, cSum, cAll, cAny, cInt, cAbs, cMax2, cMin2, cDivmod, cGcd, cIsi, cRepr, lstInts, lstBls, startD, wipeD, List.map_cons, List.map_nil, List.length_cons, List.length_nil, List.cons_append, List.nil_append, List.replicate_succ, List.replicate_zero, List.set_cons_succ, List.set_cons_zero, List.getElem?_cons_succ, List.getElem?_cons_zero, List.filterMap_cons_some, List.filterMap_nil, Nat.reduceAdd, Nat.reduceSub, Nat.sub_self, Nat.reduceLT, Nat.reduceMul, Nat.zero_add, Nat.add_zero, if_true, if_false, and_true, true_and, and_false, false_and, or_true, true_or, or_false, false_or, not_true_eq_false, not_false_eq_true, Bool.not_true, Bool.not_false, Bool.false_eq_true, ite_true, ite_false, reduceIte, reduceCtorEq, eq_self, $xs,*])

/-- up to A in size, the lower number below 2 ^ b -/
def Bd (A b : Nat) (q : Rat) : Prop := q.num.natAbs ≤ A * q.den ∧ q.den < 2 ^ b
theorem Bd.mono {A B b c : Nat} {q : Rat} (h : Bd A b q) (h1 : A ≤ B) (h2 : b ≤ c) : Bd B c q :=
  ⟨Nat.le_trans h.1 (Nat.mul_le_mul_right _ h1), Nat.lt_of_lt_of_le h.2 (pow2_le h2)⟩
theorem divInt_cross {n m : Int} (hm : m ≠ 0) : (Rat.divInt n m).num * m = n * (Rat.divInt n m).den := by
  have h := Rat.num_divInt_den (Rat.divInt n m)
  exact (Rat.divInt_eq_divInt_iff (by have := (Rat.divInt n m).den_pos; omega) hm).mp h
theorem bd_divInt {n : Int} {m A b : Nat} (hm : 0 < m) (h1 : n.natAbs ≤ A * m) (h2 : m < 2 ^ b) : Bd A b (Rat.divInt n m) := by
  have hc := divInt_cross (n := n) (m := m) (by omega)
  refine ⟨?_, ?_⟩
  · have e : (Rat.divInt n m).num.natAbs * m = n.natAbs * (Rat.divInt n m).den := by
      have := congrArg Int.natAbs hc
      rw [Int.natAbs_mul, Int.natAbs_mul] at this
      exact this
    refine Nat.le_of_mul_le_mul_right (c := m) ?_ hm
    rw [e]
    calc n.natAbs * (Rat.divInt n m).den ≤ A * m * (Rat.divInt n m).den := Nat.mul_le_mul_right _ h1
      _ = A * (Rat.divInt n m).den * m := by rw [Nat.mul_assoc, Nat.mul_assoc, Nat.mul_comm m]
  · exact (sz_divInt (a := n.natAbs) (b := b) Nat.lt_two_pow_self (by rw [Int.natAbs_natCast]; exact h2) (by omega)).2
theorem Bd.sz {A b a c : Nat} {q : Rat} (h : Bd A b q) (hA : A < 2 ^ a) (hc : a + b ≤ c := by decide) : Sz c b q :=
  ⟨Nat.lt_of_le_of_lt h.1 (Nat.lt_of_lt_of_le (mul_lt2 hA h.2) (pow2_le hc)), h.2⟩
/-! ### sums -/
def sumR (qs : List Rat) : Rat := qs.foldl (· + ·) 0
/-! ### Euclid's loop -/
def body_lean : ST := sSeq (sPar 2 3 (aCons (eCall cAbs (aCons (eVar 0) (aNil))) (aCons (eCall cAbs (aCons (eVar 1) (aNil))) (aNil))))
  (sSeq (sWh (tBl (eBin oGt (eVar 3) (eC (.int 0)))) (sPar 2 3 (aCons (eVar 3) (aCons (eBin oMod (eCall cInt (aCons (eVar 2) (aNil))) (eVar 3)) (aNil)))))
  (sSeq (sAsg (eIf (tBl (eBin oGt (eVar 1) (eC (.int 0)))) (eVar 2) (eBin oSub (eC (.int 0)) (eVar 2))) (gNm 2))
  (sRet (eTup (aCons (eBin oFdiv (eVar 0) (eVar 2)) (aCons (eBin oFdiv (eVar 1) (eVar 2)) (aNil)))))))
theorem euclid (x0 x1 : Option D) (G : EndG) (S : Sto) : ∀ (b a : Nat), (G.nx [x0, x1, some (.int (Nat.gcd a b : Nat)), some (.int 0)] S) →
    ∃ n, whG (tBl (eBin oGt (eVar 3) (eC (.int 0)))) (sPar 2 3 (aCons (eVar 3) (aCons (eBin oMod (eCall cInt (aCons (eVar 2) (aNil))) (eVar 3)) (aNil)))) n G [x0, x1, some (.int a), some (.int b)] S := by
  intro b
  induction b using Nat.strongRecOn with
  | _ b ih =>
    intro a h
    by_cases z : b = 0
    · subst z
      refine ⟨1, ?_⟩
      unfold whG
      simp_arith [Int.ofNat_eq_natCast, Int.cast_ofNat_Int, Int.lt_irrefl, decide_false]
      rw [Nat.gcd_zero_right] at h
      exact h
    · have hlt : a % b < b := Nat.mod_lt _ (by omega)
      have h' : G.nx [x0, x1, some (.int (Nat.gcd b (a % b) : Nat)), some (.int 0)] S := by
        have e : Nat.gcd b (a % b) = Nat.gcd a b := by rw [Nat.gcd_comm b, ← Nat.gcd_rec, Nat.gcd_comm]
        rw [e]
        exact h
      obtain ⟨n, q⟩ := ih (a % b) hlt b h'
      refine ⟨n + 1, ?_⟩
      unfold whG
      have hb : (0 : Int) < (b : Int) := by omega
      simp_arith [hb, decide_true]
      refine ⟨by omega, ?_⟩
      rw [Int.fmod_eq_emod_of_nonneg _ (by omega), ← Int.natCast_emod]
      exact q
/-- the fraction of two whole numbers, the lower one not 0 -/
theorem law_lean : Law 4 γ_ratio body_lean := by
  intro ds S R h
  unfold γ_ratio at h
  split at h
  · rename_i a b
    obtain ⟨⟨hb, hb9⟩, h⟩ := h
    unfold body_lean
    simp_arith []
    have ea : ∀ i : Int, (if i < 0 then -i else i) = (i.natAbs : Int) := fun i => by split <;> omega
    rw [ea, ea]
    refine euclid _ _ _ _ _ _ ?_
    obtain ⟨q1, q2, q3, q4⟩ := divInt_parts (a := a) hb _ rfl
    have q := fin_of h
    unfold encR at q
    rw [← q1, ← q2] at q
    have dv := log2_le_of_le q4 hb9
    by_cases z : 0 < b
    · rw [if_pos z] at q q3 q4 dv
      simp_arith [z, decide_true]
      exact ⟨⟨q3, dv⟩, ⟨q3, dv⟩, by decide, q⟩
    · rw [if_neg z] at q q3 q4 dv
      simp_arith [z, decide_false, Int.zero_sub]
      exact ⟨⟨q3, dv⟩, ⟨q3, dv⟩, by decide, q⟩
  · exact h.elim
end Gx

/-! Gx, data side 4: nets and states. -/
namespace Gx
open PySem L2
local macro_rules | `(tactic| simp_arith [$xs,*]) => `(tactic| try simp only [eVar, eC, eBin, eUn, tBl, tAnd', tOr', tNot', eAnd, eOr, eNot, eIf, aNil, aCons, eTup, eLst, eLstM, eCall, eCallK, pick, sNext, sSeq, sBreak, sCont, sDrop, sRet, sRetN, sIf, sNever, gNm, gsNil, gsCons, gTupl, gSubs, sAsg, sPar, sPar3, sFor, iSeq, seqG_tup, seqG_lst, seqG_scr, iRange1, iRange2, iEnumG, iZipG, td_tup, td_lst, td_scr, eLc, eLcM, tYes', pNone, pSome, eSl, cu_tup, cu_lst, cu_scr, eMt, eMt0, mAppend, isL, rs_non, rs_bl, rs_int, rs_str, rs_tup, rs_lst', rs_scr, itemsOf_tup, itemsOf_lst, itemsOf_scr, oI, oI0, oSub, oFdiv, oMod, oPow, oShl, oShr, oAnd, oOr, oXor, oLt, oLe, oGt, oGe, oNeg, oIsN, oNotN, Gx.isNon, oAdd, oAdd', oMul, oMul', oMulM, oEq, oNe, oEqS, oNeS, oIn, oNin, eChain, oIx, oSet, cLen, cList, cListM, cTuple, cSum, cAll, cAny, cInt, cAbs, cMax2, cMin2, cDivmod, cGcd, cIsi, cRepr, lstInts, lstBls, startD, wipeD, List.map_cons, List.map_nil, List.length_cons, List.length_nil, List.cons_append, List.nil_append, List.replicate_succ, List.replicate_zero, List.set_cons_succ, List.set_cons_zero, List.getElem?_cons_succ, List.getElem?_cons_zero, List.filterMap_cons_some, List.filterMap_nil, Nat.reduceAdd, Nat.reduceSub, Nat.sub_self, Nat.reduceLT, Nat.reduceMul, Nat.zero_add, Nat.add_zero, if_true, if_false, and_true, true_and, and_false, false_and, or_true, true_or, or_false, false_or, not_true_eq_false, not_false_eq_true, Bool.not_true, Bool.not_false, Bool.false_eq_true, ite_true, ite_false, reduceIte, reduceCtorEq, eq_self, $xs,*])

/-! ### plain data -/
theorem pl_top {n : Nat} {d : D} (h : pl n d = true) : isPlainTop d = true := by
  cases d <;> cases n <;> first | rfl | exact nomatch h
theorem pl_up : ∀ (n : Nat) (d : D), pl n d = true → pl (n + 1) d = true
  | n, .non, _ => rfl
  | n, .bl _, _ => rfl
  | n, .int _, _ => rfl
  | 0, .str _, h => h
  | n + 1, .str _, h => h
  | n + 1, .tup ds, h => by
    have h : ds.all (pl n) = true := h
    show ds.all (pl (n + 1)) = true
    rw [List.all_eq_true] at h ⊢
    exact fun x hx => pl_up n x (h x hx)
  | n + 1, .lst ds, h => by
    have h : ds.all (pl n) = true := h
    show ds.all (pl (n + 1)) = true
    rw [List.all_eq_true] at h ⊢
    exact fun x hx => pl_up n x (h x hx)
  | n + 1, .scr ds, h => by
    have h : ds.all (pl n) = true := h
    show ds.all (pl (n + 1)) = true
    rw [List.all_eq_true] at h ⊢
    exact fun x hx => pl_up n x (h x hx)
  | 0, .tup _, h => nomatch h
  | 0, .lst _, h => nomatch h
  | 0, .scr _, h => nomatch h
  | 0, .ref _, h => nomatch h
  | n + 1, .ref _, h => nomatch h
  | 0, .ty _, h => nomatch h
  | n + 1, .ty _, h => nomatch h
theorem pl_tup {n : Nat} {ds : List D} (h : pl (n + 1) (.tup ds) = true) : ∀ x ∈ ds, pl (n + 1) x = true := by
  have h : ds.all (pl n) = true := h
  rw [List.all_eq_true] at h
  exact fun x hx => pl_up n x (h x hx)
theorem pl_of_tup {n : Nat} {ds : List D} (h : ∀ x ∈ ds, pl n x = true) : pl (n + 1) (.tup ds) = true := by
  show ds.all (pl n) = true
  rw [List.all_eq_true]
  exact h
theorem pl_mono {n m : Nat} {d : D} (h : pl n d = true) (hm : n ≤ m) : pl m d = true := by
  induction hm with
  | refl => exact h
  | step _ ih => exact pl_up _ _ ih
theorem lstBls_map {α : Type} (xs : List α) (p : α → Bool) : blsOf (xs.map fun x => D.bl (p x)) = some (xs.map p) := by
  rw [← blsOf_map (xs.map p), List.map_map]; rfl
/-! ### rows and nets -/
def encRow (r : List Rat) : D := .tup (r.map encR)
def isRowD (n : Int) : D → Bool
  | .tup es => decide ((es.length : Int) = n) && es.all isFr
  | _ => false
theorem isRowD_tup (n : Int) (es : List D) : isRowD n (.tup es) = (decide ((es.length : Int) = n) && es.all isFr) := rfl
theorem isRow_enc (r : List Rat) : isRowD r.length (encRow r) = true := by
  unfold isRowD encRow
  simp [isFr_enc]
theorem isRow_of {n : Int} {d : D} (h : isRowD n d = true) : ∃ r, d = encRow r ∧ (r.length : Int) = n := by
  unfold isRowD at h
  split at h
  · rename_i es
    rw [Bool.and_eq_true, decide_eq_true_eq, List.all_eq_true] at h
    obtain ⟨h1, h2⟩ := h
    have : ∃ r : List Rat, es = r.map encR := by
      clear h1
      induction es with
      | nil => exact ⟨[], rfl⟩
      | cons x xs ih =>
        obtain ⟨r, hr⟩ := ih fun y hy => h2 y (List.mem_cons_of_mem _ hy)
        obtain ⟨q, hq⟩ := isFr_of (h2 x List.mem_cons_self)
        exact ⟨q :: r, by rw [hr, hq]; rfl⟩
    obtain ⟨r, rfl⟩ := this
    exact ⟨r, rfl, by simpa using h1⟩
  · cases h
def γ_is_row : OL := fun ds S R => match ds with
  | [d, .int n] => (pl 60 d = true ∧ n ≤ 1000) ∧ R (.bl (isRowD n d)) S
  | _ => False
def body_is_row (γ_is_tuple_of γ_is_ratio : OL) : ST := sRet (eAnd (eCall γ_is_tuple_of (aCons (eVar 0) (aCons (eVar 1) (aNil)))) (eCall cAll (aCons (eLc (iSeq (eVar 0)) (gNm 2) (tYes') (eCall γ_is_ratio (aCons (eVar 2) (aNil))) [2]) (aNil))))
theorem sz1000 {n : Nat} (h : n ≤ 1000) : n ≤ sizeLine := Nat.le_trans h (by decide)
/-! ### equal data of one kind -/
mutual
def cl : D → Bool
  | .non => true
  | .int _ => true
  | .str _ => true
  | .tup ds => clL ds
  | _ => false
def clL : List D → Bool
  | [] => true
  | d :: ds => cl d && clL ds
end
mutual
theorem eqD_cl : ∀ d e : D, cl d = true → cl e = true → (eqD d e = true ↔ d = e)
  | .non, .non, _, _ => ⟨fun _ => rfl, fun _ => rfl⟩
  | .int i, .int j, _, _ => by
    show (i == j) = true ↔ _
    rw [beq_iff_eq, D.int.injEq]
  | .str i, .str j, _, _ => by
    show (i == j) = true ↔ _
    rw [beq_iff_eq, D.str.injEq]
  | .tup ds, .tup es, h, h' => by
    show PyData.eqvAll (pyDL ds) (pyDL es) = true ↔ _
    rw [eqD_clL ds es h h', D.tup.injEq]
  | .non, .int _, _, _ => ⟨(nomatch ·), (nomatch ·)⟩
  | .non, .str _, _, _ => ⟨(nomatch ·), (nomatch ·)⟩
  | .non, .tup _, _, _ => ⟨(nomatch ·), (nomatch ·)⟩
  | .int _, .non, _, _ => ⟨(nomatch ·), (nomatch ·)⟩
  | .int _, .str _, _, _ => ⟨(nomatch ·), (nomatch ·)⟩
  | .int _, .tup _, _, _ => ⟨(nomatch ·), (nomatch ·)⟩
  | .str _, .non, _, _ => ⟨(nomatch ·), (nomatch ·)⟩
  | .str _, .int _, _, _ => ⟨(nomatch ·), (nomatch ·)⟩
  | .str _, .tup _, _, _ => ⟨(nomatch ·), (nomatch ·)⟩
  | .tup _, .non, _, _ => ⟨(nomatch ·), (nomatch ·)⟩
  | .tup _, .int _, _, _ => ⟨(nomatch ·), (nomatch ·)⟩
  | .tup _, .str _, _, _ => ⟨(nomatch ·), (nomatch ·)⟩
theorem eqD_clL : ∀ ds es : List D, clL ds = true → clL es = true → (PyData.eqvAll (pyDL ds) (pyDL es) = true ↔ ds = es)
  | [], [], _, _ => ⟨fun _ => rfl, fun _ => rfl⟩
  | [], _ :: _, _, _ => ⟨(nomatch ·), (nomatch ·)⟩
  | _ :: _, [], _, _ => ⟨(nomatch ·), (nomatch ·)⟩
  | d :: ds, e :: es, h, h' => by
    have h : (cl d && clL ds) = true := h
    have h' : (cl e && clL es) = true := h'
    rw [Bool.and_eq_true] at h h'
    show (PyData.eqv (pyD d) (pyD e) && PyData.eqvAll (pyDL ds) (pyDL es)) = true ↔ _
    rw [Bool.and_eq_true, eqD_clL ds es h.2 h'.2, List.cons.injEq]
    exact and_congr_left' (eqD_cl d e h.1 h'.1)
end
theorem eqD_dec [DecidableEq α] {f : α → D} (inj : ∀ x y, f x = f y ↔ x = y) (hc : ∀ x, cl (f x) = true) (x y : α) : eqD (f x) (f y) = decide (x = y) := by
  have h := (eqD_cl _ _ (hc x) (hc y)).trans (inj x y)
  by_cases z : x = y
  · rw [decide_eq_true z, h.mpr z]
  · rw [decide_eq_false z]
    cases e : eqD (f x) (f y) with
    | false => rfl
    | true => exact absurd (h.mp e) z
theorem cl_encR (q : Rat) : cl (encR q) = true := rfl
theorem eqD_encR (p q : Rat) : eqD (encR p) (encR q) = decide (p = q) := eqD_dec (fun _ _ => encR_inj) cl_encR p q
/-! ### comprehensions over things that are laid as data -/
section
variable {α : Type} {g : TG'} {tt : TT'} {te : ET} {gd : Sto → Prop} {vs : List Nat} {τ : Tau} {Z : List D → Sto → Prop} {S : Sto}
theorem lc_map (enc f : α → D) : ∀ (xs : List α) (acc : List D), (∀ x ∈ xs, ∀ Q : QD, Q (f x) S → g (enc x) (wipeD τ vs) S fun τ2 S2 => te τ2 S2 Q) → gd S → acc.length + xs.length ≤ sizeLine → Z (acc ++ xs.map f) S → cmpG g tYes' te gd vs τ Z (xs.map enc) acc S
  | [], acc, _, hg, _, h => ⟨hg, by simpa using h⟩
  | x :: xs, acc, hel, hg, hz, h => by
    refine ⟨hg, ?_⟩
    have hx := hel x List.mem_cons_self (fun y S4 => acc.length < sizeLine ∧ cmpG g tYes' te gd vs τ Z (xs.map enc) (acc ++ [y]) S4) ⟨by rw [List.length_cons] at hz; omega, lc_map enc f xs (acc ++ [f x]) (fun y hy => hel y (List.mem_cons_of_mem _ hy)) hg (by rw [List.length_append, List.length_singleton]; rw [List.length_cons] at hz; omega) (by simpa using h)⟩
    simpa only [tYes', if_true] using hx
/-- over 0 .. n - 1 -/
theorem rng_map (f : Nat → D) (n : Nat) (hel : ∀ i, i < n → ∀ Q : QD, Q (f i) S → g (.int i) (wipeD τ vs) S fun τ2 S2 => te τ2 S2 Q) (hg : gd S) (hz : n ≤ sizeLine) (h : Z ((List.range n).map f) S) : cmpG g tYes' te gd vs τ Z (rngD 0 n) [] S := by
  rw [rngD_zero]
  exact lc_map (fun i : Nat => .int (i : Int)) f (List.range n) [] (fun i hi => hel i (List.mem_range.mp hi)) hg (by simpa using hz) (by simpa using h)
end
/-- an element by its index -/
theorem atI_map {α : Type} {f : α → D} {xs : List α} {i : Nat} (h : i < xs.length) : L2.atI (xs.map f) (i : Int) = some (f xs[i]) := L2.atI_nat (by rw [List.getElem?_map, List.getElem?_eq_getElem h]; rfl)
theorem atI_mapD {α : Type} {f : α → D} {xs : List α} {i : Nat} (z : α) (h : i < xs.length) : L2.atI (xs.map f) (i : Int) = some (f (xs.getD i z)) := by
  rw [atI_map h, List.getD_eq_getElem?_getD, List.getElem?_eq_getElem h]; rfl
end Gx

/-! Gx, data side 5: nets and states. -/
namespace Gx
open PySem L2
local macro_rules | `(tactic| simp_arith [$xs,*]) => `(tactic| try simp only [eVar, eC, eBin, eUn, tBl, tAnd', tOr', tNot', eAnd, eOr, eNot, eIf, aNil, aCons, eTup, eLst, eLstM, eCall, eCallK, pick, sNext, sSeq, sBreak, sCont, sDrop, sRet, sRetN, sIf, sNever, gNm, gsNil, gsCons, gTupl, gSubs, sAsg, sPar, sPar3, sFor, iSeq, seqG_tup, seqG_lst, seqG_scr, iRange1, iRange2, iEnumG, iZipG, td_tup, td_lst, td_scr, eLc, eLcM, tYes', pNone, pSome, eSl, cu_tup, cu_lst, cu_scr, eMt, eMt0, mAppend, isL, rs_non, rs_bl, rs_int, rs_str, rs_tup, rs_lst', rs_scr, itemsOf_tup, itemsOf_lst, itemsOf_scr, oI, oI0, oSub, oFdiv, oMod, oPow, oShl, oShr, oAnd, oOr, oXor, oLt, oLe, oGt, oGe, oNeg, oIsN, oNotN, Gx.isNon, oAdd, oAdd', oMul, oMul', oMulM, oEq, oNe, oEqS, oNeS, oIn, oNin, eChain, oIx, oSet, cLen, cList, cListM, cTuple, cSum, cAll, cAny, cInt, cAbs, cMax2, cMin2, cDivmod, cGcd, cIsi, cRepr, lstInts, lstBls, startD, wipeD, List.map_cons, List.map_nil, List.length_cons, List.length_nil, List.cons_append, List.nil_append, List.replicate_succ, List.replicate_zero, List.set_cons_succ, List.set_cons_zero, List.getElem?_cons_succ, List.getElem?_cons_zero, List.filterMap_cons_some, List.filterMap_nil, Nat.reduceAdd, Nat.reduceSub, Nat.sub_self, Nat.reduceLT, Nat.reduceMul, Nat.zero_add, Nat.add_zero, if_true, if_false, and_true, true_and, and_false, false_and, or_true, true_or, or_false, false_or, not_true_eq_false, not_false_eq_true, Bool.not_true, Bool.not_false, Bool.false_eq_true, ite_true, ite_false, reduceIte, reduceCtorEq, eq_self, $xs,*])

/-! ### nets -/
structure Net where
  ws : List (List Rat)
  ms : List Rat
def Net.n (N : Net) : Nat := N.ms.length
def encW (ws : List (List Rat)) : D := .tup (ws.map encRow)
def encN (N : Net) : D := .tup [encW N.ws, encRow N.ms]
def wrow (N : Net) (i : Nat) : List Rat := N.ws.getD i []
def wt (N : Net) (i j : Nat) : Rat := (wrow N i).getD j 0
def mk' (N : Net) (i : Nat) : Rat := N.ms.getD i 0
structure Net.Ok (N : Net) : Prop where
  pos : 1 ≤ N.n
  few : N.n ≤ 8
  sq : N.ws.length = N.n
  row : ∀ r ∈ N.ws, r.length = N.n
  dia : ∀ i, i < N.n → wt N i i = 0
theorem pl_encR (q : Rat) : pl 1 (encR q) = true := rfl
theorem pl_encRow (r : List Rat) : pl 2 (encRow r) = true := pl_of_tup fun x hx => by
  obtain ⟨q, _, rfl⟩ := List.mem_map.mp hx
  exact pl_encR q
theorem pl_encN (N : Net) : pl 4 (encN N) = true := pl_of_tup fun x hx => by
  simp only [List.mem_cons, List.not_mem_nil, or_false] at hx
  rcases hx with rfl | rfl
  · exact pl_of_tup fun x hx => by
      obtain ⟨q, _, rfl⟩ := List.mem_map.mp hx
      exact pl_encRow q
  · exact pl_mono (pl_encRow _) (by decide)
def nth (ds : List D) (i : Nat) : D := ds.getD i .non
def cellD (rows : List D) (i : Nat) : D := match nth rows i with
  | .tup es => nth es i
  | _ => .non
def isNetD : D → Bool
  | .tup [.tup rows, m] => (decide (1 ≤ (rows.length : Int)) && decide ((rows.length : Int) ≤ 8)) && (rows.all (isRowD rows.length) && isRowD rows.length m && (List.range rows.length).all fun i => eqD (cellD rows i) (encR 0))
  | _ => false
theorem isNetD_tup (rows : List D) (m : D) : isNetD (.tup [.tup rows, m]) = ((decide (1 ≤ (rows.length : Int)) && decide ((rows.length : Int) ≤ 8)) && (rows.all (isRowD rows.length) && isRowD rows.length m && (List.range rows.length).all fun i => eqD (cellD rows i) (encR 0))) := rfl
theorem cellD_enc {ws : List (List Rat)} {n i : Nat} (hl : ws.length = n) (hr : ∀ r ∈ ws, r.length = n) (hi : i < n) : cellD (ws.map encRow) i = encR ((ws.getD i []).getD i 0) := by
  have h1 : i < ws.length := by omega
  unfold cellD nth
  rw [List.getD_eq_getElem?_getD, List.getElem?_map, List.getElem?_eq_getElem h1]
  have h2 := hr ws[i] (List.getElem_mem h1)
  show nth (ws[i].map encR) i = _
  unfold nth
  rw [List.getD_eq_getElem?_getD, List.getElem?_map, List.getElem?_eq_getElem (by omega)]
  simp only [List.getD_eq_getElem?_getD]
  rw [List.getElem?_eq_getElem h1, Option.getD_some, List.getElem?_eq_getElem (by omega)]
  rfl
theorem rows_of {n : Int} : ∀ {es : List D}, es.all (isRowD n) = true → ∃ ws : List (List Rat), es = ws.map encRow ∧ ∀ r ∈ ws, (r.length : Int) = n
  | [], _ => ⟨[], rfl, fun _ h => nomatch h⟩
  | e :: es, h => by
    rw [List.all_cons, Bool.and_eq_true] at h
    obtain ⟨r, rfl, hr⟩ := isRow_of h.1
    obtain ⟨ws, rfl, hw⟩ := rows_of h.2
    refine ⟨r :: ws, rfl, fun x hx => ?_⟩
    rcases List.mem_cons.mp hx with rfl | hx
    · exact hr
    · exact hw x hx
theorem isNet_enc {N : Net} (h : N.Ok) : isNetD (encN N) = true := by
  have hs := h.sq
  have hn : N.n = N.ms.length := rfl
  unfold encN encW
  rw [isNetD_tup, List.length_map]
  simp only [Bool.and_eq_true, decide_eq_true_eq, List.all_eq_true]
  have := h.pos
  have := h.few
  refine ⟨⟨by omega, by omega⟩, ⟨fun x hx => ?_, ?_⟩, fun i hi => ?_⟩
  · obtain ⟨r, hr, rfl⟩ := List.mem_map.mp hx
    rw [hs, ← h.row r hr]
    exact isRow_enc r
  · rw [hs]; exact isRow_enc N.ms
  · rw [cellD_enc hs (fun r hr => h.row r hr) (by have := List.mem_range.mp hi; omega), eqD_encR, decide_eq_true_eq]
    exact h.dia i (by have := List.mem_range.mp hi; omega)
def γ_is_net_by : OL := fun ds S R => match ds with
  | [d] => pl 60 d = true ∧ R (.bl (isNetD d)) S
  | _ => False
def body_is_net_by (γ_is_tuple_of γ_is_row : OL) (d_MOST_CELLS d_ZERO : D) : ST := sSeq (sIf (tOr' (tNot' (tBl (eCall γ_is_tuple_of (aCons (eVar 0) (aCons (eC (.int 2)) (aNil)))))) (tOr' (tNot' (tBl (eCall cIsi (aCons (eBin oIx (eVar 0) (eC (.int 0))) (aCons (eC (.ty "tuple")) (aNil)))))) (tNot' (tBl (eChain oLe oLe (eC (.int 1)) (eCall cLen (aCons (eBin oIx (eVar 0) (eC (.int 0))) (aNil))) (eC d_MOST_CELLS)))))) (sRet (eC (.bl false))) (sNext))
  (sSeq (sAsg (eCall cLen (aCons (eBin oIx (eVar 0) (eC (.int 0))) (aNil))) (gNm 1))
  (sSeq (sIf (tOr' (tNot' (tBl (eCall cAll (aCons (eLc (iSeq (eBin oIx (eVar 0) (eC (.int 0)))) (gNm 3) (tYes') (eCall γ_is_row (aCons (eVar 3) (aCons (eVar 1) (aNil)))) [3]) (aNil))))) (tNot' (tBl (eCall γ_is_row (aCons (eBin oIx (eVar 0) (eC (.int 1))) (aCons (eVar 1) (aNil))))))) (sRet (eC (.bl false))) (sNext))
  (sRet (eCall cAll (aCons (eLc (iRange1 (aCons (eVar 1) (aNil))) (gNm 2) (tYes') (eBin oEq (eBin oIx (eBin oIx (eBin oIx (eVar 0) (eC (.int 0))) (eVar 2)) (eVar 2)) (eC d_ZERO)) [2]) (aNil))))))
def γ_many_cells : OL := fun ds S R => ∃ N : Net, ds = [encN N] ∧ R (.int (N.n : Nat)) S
def body_many_cells : ST := sRet (eCall cLen (aCons (eBin oIx (eVar 0) (eC (.int 1))) (aNil)))
theorem law_many_cells : Law 1 γ_many_cells body_many_cells := by
  intro ds S R ⟨N, e, h⟩
  subst e
  unfold body_many_cells encN encRow
  simp_arith [atI_1, List.length_map]
  exact fin_of h

/-! ### states -/
def bit (b : Bool) : Int := if b then 1 else 0
def encB (b : Bool) : D := .int (bit b)
def encS (s : List Bool) : D := .tup (s.map encB)
theorem pl_encS (s : List Bool) : pl 1 (encS s) = true := pl_of_tup fun x hx => by
  obtain ⟨q, _, rfl⟩ := List.mem_map.mp hx
  rfl
def isStD (n : Nat) : D → Bool
  | .tup es => decide ((es.length : Int) = n) && es.all (isBw 0 1)
  | _ => false
theorem isStD_tup (n : Nat) (es : List D) : isStD n (.tup es) = (decide ((es.length : Int) = n) && es.all (isBw 0 1)) := rfl
theorem isBw_bit (b : Bool) : isBw 0 1 (encB b) = true := by cases b <;> rfl
theorem isSt_enc {n : Nat} {s : List Bool} (h : s.length = n) : isStD n (encS s) = true := by
  unfold encS
  rw [isStD_tup, List.length_map, h, decide_eq_true rfl, Bool.true_and, List.all_eq_true]
  intro x hx
  obtain ⟨b, _, rfl⟩ := List.mem_map.mp hx
  exact isBw_bit b
def γ_is_state_by : OL := fun ds S R => ∃ (N : Net) (d : D), ds = [encN N, d] ∧ (N.n ≤ 8 ∧ pl 60 d = true) ∧ R (.bl (isStD N.n d)) S
def body_is_state_by (γ_is_tuple_of γ_many_cells γ_is_between : OL) : ST := sRet (eAnd (eCall γ_is_tuple_of (aCons (eVar 1) (aCons (eCall γ_many_cells (aCons (eVar 0) (aNil))) (aNil)))) (eCall cAll (aCons (eLc (iSeq (eVar 1)) (gNm 2) (tYes') (eCall γ_is_between (aCons (eVar 2) (aCons (eC (.int 0)) (aCons (eC (.int 1)) (aNil))))) [2]) (aNil))))
/-- numbers of cells; some states -/
def encI (ns : List Nat) : D := .tup (ns.map fun i : Nat => .int (i : Int))
def encSs (ss : List (List Bool)) : D := .tup (ss.map encS)
/-! ### what the readings ask of them -/
section
variable {S : Sto} {N : Net} {ws : List (List Rat)} {r : List Rat} {q : Rat} {b : List Bool} {Z : List D → (Sto → Prop) → Sto → Prop}
theorem rs_N : rs S (encN N) = encN N := rfl
theorem rs_W : rs S (encW ws) = encW ws := rfl
theorem rs_Row : rs S (encRow r) = encRow r := rfl
theorem rs_R : rs S (encR q) = encR q := rfl
theorem rs_S : rs S (encS b) = encS b := rfl
theorem rs_B {x : Bool} : rs S (encB x) = encB x := rfl
theorem it_N : itemsOf (encN N) = some [encW N.ws, encRow N.ms] := rfl
theorem it_W : itemsOf (encW ws) = some (ws.map encRow) := rfl
theorem it_Row : itemsOf (encRow r) = some (r.map encR) := rfl
theorem it_R : itemsOf (encR q) = some [.int q.num, .int q.den] := rfl
theorem it_S : itemsOf (encS b) = some (b.map encB) := rfl
theorem sq_W : seqG S Z (encW ws) = Z (ws.map encRow) (fun _ => True) S := rfl
theorem sq_Row : seqG S Z (encRow r) = Z (r.map encR) (fun _ => True) S := rfl
theorem sq_S : seqG S Z (encS b) = Z (b.map encB) (fun _ => True) S := rfl
theorem rs_I {ns : List Nat} : rs S (encI ns) = encI ns := rfl
theorem it_I {ns : List Nat} : itemsOf (encI ns) = some (ns.map fun i : Nat => .int (i : Int)) := rfl
theorem sq_I {ns : List Nat} : seqG S Z (encI ns) = Z (ns.map fun i : Nat => .int (i : Int)) (fun _ => True) S := rfl
theorem td_I {ns : List Nat} : isTupD (encI ns) = true := rfl
theorem rs_Ss {ns : List (List Bool)} : rs S (encSs ns) = encSs ns := rfl
theorem it_Ss {ns : List (List Bool)} : itemsOf (encSs ns) = some (ns.map encS) := rfl
theorem sq_Ss {ns : List (List Bool)} : seqG S Z (encSs ns) = Z (ns.map encS) (fun _ => True) S := rfl
theorem td_Ss {ns : List (List Bool)} : isTupD (encSs ns) = true := rfl
theorem td_N : isTupD (encN N) = true := rfl
theorem td_W : isTupD (encW ws) = true := rfl
theorem td_Row : isTupD (encRow r) = true := rfl
theorem td_S : isTupD (encS b) = true := rfl
end
section
variable {S : Sto} {R : QD} {lo hi : Option Int}
theorem cu_S {s : List Bool} : oCut lo hi S R (encS s) = R (.tup (cutD (s.map encB) lo hi)) S := rfl
theorem cu_W {s : List (List Rat)} : oCut lo hi S R (encW s) = R (.tup (cutD (s.map encRow) lo hi)) S := rfl
theorem cu_Row {s : List Rat} : oCut lo hi S R (encRow s) = R (.tup (cutD (s.map encR) lo hi)) S := rfl
end
end Gx

/-! Gx, data side 6: what a cell hears, what the cells want. -/
namespace Gx
open PySem L2
local macro_rules | `(tactic| simp_arith [$xs,*]) => `(tactic| try simp only [eVar, eC, eBin, eUn, tBl, tAnd', tOr', tNot', eAnd, eOr, eNot, eIf, aNil, aCons, eTup, eLst, eLstM, eCall, eCallK, pick, sNext, sSeq, sBreak, sCont, sDrop, sRet, sRetN, sIf, sNever, gNm, gsNil, gsCons, gTupl, gSubs, sAsg, sPar, sPar3, sFor, iSeq, seqG_tup, seqG_lst, seqG_scr, iRange1, iRange2, iEnumG, iZipG, td_tup, td_lst, td_scr, eLc, eLcM, tYes', pNone, pSome, eSl, cu_tup, cu_lst, cu_scr, eMt, eMt0, mAppend, isL, rs_non, rs_bl, rs_int, rs_str, rs_tup, rs_lst', rs_scr, itemsOf_tup, itemsOf_lst, itemsOf_scr, oI, oI0, oSub, oFdiv, oMod, oPow, oShl, oShr, oAnd, oOr, oXor, oLt, oLe, oGt, oGe, oNeg, oIsN, oNotN, Gx.isNon, oAdd, oAdd', oMul, oMul', oMulM, oEq, oNe, oEqS, oNeS, oIn, oNin, eChain, oIx, oSet, cLen, cList, cListM, cTuple, cSum, cAll, cAny, cInt, cAbs, cMax2, cMin2, cDivmod, cGcd, cIsi, cRepr, lstInts, lstBls, startD, wipeD, List.map_cons, List.map_nil, List.length_cons, List.length_nil, List.cons_append, List.nil_append, List.replicate_succ, List.replicate_zero, List.set_cons_succ, List.set_cons_zero, List.getElem?_cons_succ, List.getElem?_cons_zero, List.filterMap_cons_some, List.filterMap_nil, Nat.reduceAdd, Nat.reduceSub, Nat.sub_self, Nat.reduceLT, Nat.reduceMul, Nat.zero_add, Nat.add_zero, if_true, if_false, and_true, true_and, and_false, false_and, or_true, true_or, or_false, false_or, not_true_eq_false, not_false_eq_true, Bool.not_true, Bool.not_false, Bool.false_eq_true, ite_true, ite_false, reduceIte, reduceCtorEq, eq_self, $xs,*])
local macro_rules | `(tactic| simp_arith! [$xs,*]) => `(tactic| try simp only [eVar, eC, eBin, eUn, tBl, tAnd', tOr', tNot', eAnd, eOr, eNot, eIf, aNil, aCons, eTup, eLst, eLstM, eCall, eCallK, pick, sNext, sSeq, sBreak, sCont, sDrop, sRet, sRetN, sIf, sNever, gNm, gsNil, gsCons, gTupl, gSubs, sAsg, sPar, sPar3, sFor, iSeq, seqG_tup, seqG_lst, seqG_scr, iRange1, iRange2, iEnumG, iZipG, td_tup, td_lst, td_scr, eLc, eLcM, tYes', pNone, pSome, eSl, cu_tup, cu_lst, cu_scr, eMt, eMt0, mAppend, isL, rs_non, rs_bl, rs_int, rs_str, rs_tup, rs_lst', rs_scr, itemsOf_tup, itemsOf_lst, itemsOf_scr, oI, oI0, oSub, oFdiv, oMod, oPow, oShl, oShr, oAnd, oOr, oXor, oLt, oLe, oGt, oGe, oNeg, oIsN, oNotN, Gx.isNon, oAdd, oAdd', oMul, oMul', oMulM, oEq, oNe, oEqS, oNeS, oIn, oNin, eChain, oIx, oSet, cLen, cList, cListM, cTuple, cSum, cAll, cAny, cInt, cAbs, cMax2, cMin2, cDivmod, cGcd, cIsi, cRepr, lstInts, lstBls, startD, wipeD, List.map_cons, List.map_nil, List.length_cons, List.length_nil, List.cons_append, List.nil_append, List.replicate_succ, List.replicate_zero, List.set_cons_succ, List.set_cons_zero, List.getElem?_cons_succ, List.getElem?_cons_zero, List.filterMap_cons_some, List.filterMap_nil, Nat.reduceAdd, Nat.reduceSub, Nat.sub_self, Nat.reduceLT, Nat.reduceMul, Nat.zero_add, Nat.add_zero, if_true, if_false, and_true, true_and, and_false, false_and, or_true, true_or, or_false, false_or, not_true_eq_false, not_false_eq_true, Bool.not_true, Bool.not_false, Bool.false_eq_true, ite_true, ite_false, reduceIte, reduceCtorEq, eq_self, rs_N, rs_W, rs_Row, rs_S, rs_R, rs_B, it_N, it_W, it_Row, it_S, it_R, sq_W, sq_Row, sq_S, td_N, td_W, td_Row, td_S, rs_I, it_I, sq_I, td_I, rs_Ss, it_Ss, sq_Ss, td_Ss, cu_S, cu_W, cu_Row, atI_0, atI_1, $xs,*])

/-! ### states by their numbers -/
def stateOf (n k : Nat) : List Bool := (List.range n).map fun i => k.testBit i
theorem stateOf_length (n k : Nat) : (stateOf n k).length = n := by unfold stateOf; simp
def allS (n : Nat) : List (List Bool) := (List.range (2 ^ n)).map (stateOf n)
theorem bit_testBit (k i : Nat) : (k : Int) / 2 ^ i % 2 = bit (k.testBit i) := by
  have h : k.testBit i = decide (k / 2 ^ i % 2 = 1) := Nat.testBit_eq_decide_div_mod_eq
  have e : (k : Int) / 2 ^ i % 2 = ((k / 2 ^ i % 2 : Nat) : Int) := by
    rw [Int.natCast_emod, Int.natCast_ediv, ← PySem.W.kbt_cast]; rfl
  rw [e, h]
  rcases Nat.mod_two_eq_zero_or_one (k / 2 ^ i) with z | z <;> rw [z] <;> rfl
theorem encS_of (n k : Nat) : encS (stateOf n k) = .tup ((List.range n).map fun i => encB (k.testBit i)) := by
  unfold encS stateOf
  rw [List.map_map]; rfl
def γ_state_by : OL := fun ds S R => ∃ n k : Nat, ds = [.int n, .int k] ∧ n ≤ 1000 ∧ R (encS (stateOf n k)) S
def body_state_by : ST := sRet (eCall cTuple (aCons (eLc (iRange1 (aCons (eVar 0) (aNil))) (gNm 2) (tYes') (eBin oAnd (eBin oShr (eVar 1) (eVar 2)) (eC (.int 1))) [2]) (aNil)))
theorem law_state_by : Law 3 γ_state_by body_state_by := by
  intro ds S R ⟨n, k, e, hn, h⟩
  subst e
  have q := fin_of h
  unfold body_state_by
  simp_arith []
  refine ⟨⟨by omega, by omega⟩, ?_⟩
  rw [Int.toNat_natCast]
  refine rng_map (fun i => encB (k.testBit i)) n (fun i hi Q hq => ?_) trivial (sz1000 hn) ?_
  · have e : Builtin.bitAnd ((k : Int) / 2 ^ i) 1 = bit (k.testBit i) := by rw [PyProof.Rows.bitAnd_m1, bit_testBit]
    simp_arith [wipeD, Int.toNat_natCast, e]
    exact ⟨by omega, hq⟩
  · rw [encS_of] at q
    exact q
theorem pow8 {n : Nat} (h : n ≤ 8) : 2 ^ n ≤ 256 := Nat.pow_le_pow_right (by decide) h
/-! ### what a cell hears -/
def pickW (ws : List Rat) (s : List Bool) : List Rat := ((List.zip ws s).filter (·.2)).map (·.1)
def hear (N : Net) (i : Nat) (s : List Bool) : Rat := sumR (pickW (wrow N i) s)
/-- few figures -/
def SmB (A b : Nat) (N : Net) : Prop := (∀ r ∈ N.ws, ∀ q ∈ r, Bd A b q) ∧ ∀ q ∈ N.ms, Bd A b q
theorem SmB.mono {A b B c : Nat} {N : Net} (h : SmB A b N) (h1 : A ≤ B) (h2 : b ≤ c) : SmB B c N := ⟨fun r hr q hq => (h.1 r hr q hq).mono h1 h2, fun q hq => (h.2 q hq).mono h1 h2⟩
theorem wrow_mem {N : Net} {i : Nat} (h : i < N.ws.length) : wrow N i ∈ N.ws := by
  unfold wrow
  rw [List.getD_eq_getElem?_getD, List.getElem?_eq_getElem h]
  exact List.getElem_mem h
theorem Net.Ok.wrow {N : Net} (h : N.Ok) {i : Nat} (hi : i < N.n) : (wrow N i).length = N.n := h.row _ (wrow_mem (by rw [h.sq]; exact hi))
/-! ### what the cells want -/
def wants (N : Net) (s : List Bool) : List Bool := (List.range N.n).map fun i => decide (mk' N i < hear N i s)
end Gx

/-! Gx, data side 7: movers, moves, rests. -/
namespace Gx
open PySem L2
local macro_rules | `(tactic| simp_arith [$xs,*]) => `(tactic| try simp only [eVar, eC, eBin, eUn, tBl, tAnd', tOr', tNot', eAnd, eOr, eNot, eIf, aNil, aCons, eTup, eLst, eLstM, eCall, eCallK, pick, sNext, sSeq, sBreak, sCont, sDrop, sRet, sRetN, sIf, sNever, gNm, gsNil, gsCons, gTupl, gSubs, sAsg, sPar, sPar3, sFor, iSeq, seqG_tup, seqG_lst, seqG_scr, iRange1, iRange2, iEnumG, iZipG, td_tup, td_lst, td_scr, eLc, eLcM, tYes', pNone, pSome, eSl, cu_tup, cu_lst, cu_scr, eMt, eMt0, mAppend, isL, rs_non, rs_bl, rs_int, rs_str, rs_tup, rs_lst', rs_scr, itemsOf_tup, itemsOf_lst, itemsOf_scr, oI, oI0, oSub, oFdiv, oMod, oPow, oShl, oShr, oAnd, oOr, oXor, oLt, oLe, oGt, oGe, oNeg, oIsN, oNotN, Gx.isNon, oAdd, oAdd', oMul, oMul', oMulM, oEq, oNe, oEqS, oNeS, oIn, oNin, eChain, oIx, oSet, cLen, cList, cListM, cTuple, cSum, cAll, cAny, cInt, cAbs, cMax2, cMin2, cDivmod, cGcd, cIsi, cRepr, lstInts, lstBls, startD, wipeD, List.map_cons, List.map_nil, List.length_cons, List.length_nil, List.cons_append, List.nil_append, List.replicate_succ, List.replicate_zero, List.set_cons_succ, List.set_cons_zero, List.getElem?_cons_succ, List.getElem?_cons_zero, List.filterMap_cons_some, List.filterMap_nil, Nat.reduceAdd, Nat.reduceSub, Nat.sub_self, Nat.reduceLT, Nat.reduceMul, Nat.zero_add, Nat.add_zero, if_true, if_false, and_true, true_and, and_false, false_and, or_true, true_or, or_false, false_or, not_true_eq_false, not_false_eq_true, Bool.not_true, Bool.not_false, Bool.false_eq_true, ite_true, ite_false, reduceIte, reduceCtorEq, eq_self, $xs,*])
local macro_rules | `(tactic| simp_arith! [$xs,*]) => `(tactic| try simp only [eVar, eC, eBin, eUn, tBl, tAnd', tOr', tNot', eAnd, eOr, eNot, eIf, aNil, aCons, eTup, eLst, eLstM, eCall, eCallK, pick, sNext, sSeq, sBreak, sCont, sDrop, sRet, sRetN, sIf, sNever, gNm, gsNil, gsCons, gTupl, gSubs, sAsg, sPar, sPar3, sFor, iSeq, seqG_tup, seqG_lst, seqG_scr, iRange1, iRange2, iEnumG, iZipG, td_tup, td_lst, td_scr, eLc, eLcM, tYes', pNone, pSome, eSl, cu_tup, cu_lst, cu_scr, eMt, eMt0, mAppend, isL, rs_non, rs_bl, rs_int, rs_str, rs_tup, rs_lst', rs_scr, itemsOf_tup, itemsOf_lst, itemsOf_scr, oI, oI0, oSub, oFdiv, oMod, oPow, oShl, oShr, oAnd, oOr, oXor, oLt, oLe, oGt, oGe, oNeg, oIsN, oNotN, Gx.isNon, oAdd, oAdd', oMul, oMul', oMulM, oEq, oNe, oEqS, oNeS, oIn, oNin, eChain, oIx, oSet, cLen, cList, cListM, cTuple, cSum, cAll, cAny, cInt, cAbs, cMax2, cMin2, cDivmod, cGcd, cIsi, cRepr, lstInts, lstBls, startD, wipeD, List.map_cons, List.map_nil, List.length_cons, List.length_nil, List.cons_append, List.nil_append, List.replicate_succ, List.replicate_zero, List.set_cons_succ, List.set_cons_zero, List.getElem?_cons_succ, List.getElem?_cons_zero, List.filterMap_cons_some, List.filterMap_nil, Nat.reduceAdd, Nat.reduceSub, Nat.sub_self, Nat.reduceLT, Nat.reduceMul, Nat.zero_add, Nat.add_zero, if_true, if_false, and_true, true_and, and_false, false_and, or_true, true_or, or_false, false_or, not_true_eq_false, not_false_eq_true, Bool.not_true, Bool.not_false, Bool.false_eq_true, ite_true, ite_false, reduceIte, reduceCtorEq, eq_self, rs_N, rs_W, rs_Row, rs_S, rs_R, rs_B, it_N, it_W, it_Row, it_S, it_R, sq_W, sq_Row, sq_S, td_N, td_W, td_Row, td_S, rs_I, it_I, sq_I, td_I, rs_Ss, it_Ss, sq_Ss, td_Ss, cu_S, cu_W, cu_Row, atI_0, atI_1, $xs,*])

/-! ### slices -/
/-! ### movers -/
def movers (N : Net) (s : List Bool) : List Nat := (List.range N.n).filter fun i => (wants N s).getD i false != s.getD i false
theorem getD_eq {α : Type} {xs : List α} {i : Nat} {d : α} (h : i < xs.length) : xs.getD i d = xs[i] := by
  rw [List.getD_eq_getElem?_getD, List.getElem?_eq_getElem h]; rfl
/-! ### moves -/
/-! ### rests -/
def rest (N : Net) (s : List Bool) : Bool := decide (wants N s = s)
def rests (N : Net) : List (List Bool) := (allS N.n).filter (rest N)
/-! ### what is asked of arguments -/
def γ_check_net : OL := fun ds S R => ∃ (N : Net), ds = [encN N] ∧ N.Ok ∧ R .non S
def body_check_net (γ_is_net_by : OL) : ST := sIf (tNot' (tBl (eCall γ_is_net_by (aCons (eVar 0) (aNil))))) (sNever) (sNext)
def γ_check_state : OL := fun ds S R => ∃ (N : Net) (s : List Bool), ds = [encN N, encS s] ∧ (N.n ≤ 8 ∧ s.length = N.n) ∧ R .non S
def body_check_state (γ_is_state_by : OL) : ST := sIf (tNot' (tBl (eCall γ_is_state_by (aCons (eVar 0) (aCons (eVar 1) (aNil)))))) (sNever) (sNext)
def γ_check_both : OL := fun ds S R => ∃ (N : Net) (s : List Bool), ds = [encN N, encS s] ∧ (N.Ok ∧ s.length = N.n) ∧ R .non S
def body_check_both (γ_check_net γ_check_state : OL) : ST := sSeq (sDrop (eCall γ_check_net (aCons (eVar 0) (aNil))))
  (sDrop (eCall γ_check_state (aCons (eVar 0) (aCons (eVar 1) (aNil)))))
/-! ### the functions -/
theorem eqD_nat (a b : Nat) : eqD (.int a) (.int b) = decide (a = b) := eqD_dec (f := fun i : Nat => D.int (i : Int)) (fun x y => by rw [D.int.injEq]; omega) (fun _ => rfl) a b
end Gx

/-! Gx, data side 8: drawn nets. -/
namespace Gx
open PySem L2
local macro_rules | `(tactic| simp_arith [$xs,*]) => `(tactic| try simp only [eVar, eC, eBin, eUn, tBl, tAnd', tOr', tNot', eAnd, eOr, eNot, eIf, aNil, aCons, eTup, eLst, eLstM, eCall, eCallK, pick, sNext, sSeq, sBreak, sCont, sDrop, sRet, sRetN, sIf, sNever, gNm, gsNil, gsCons, gTupl, gSubs, sAsg, sPar, sPar3, sFor, iSeq, seqG_tup, seqG_lst, seqG_scr, iRange1, iRange2, iEnumG, iZipG, td_tup, td_lst, td_scr, eLc, eLcM, tYes', pNone, pSome, eSl, cu_tup, cu_lst, cu_scr, eMt, eMt0, mAppend, isL, rs_non, rs_bl, rs_int, rs_str, rs_tup, rs_lst', rs_scr, itemsOf_tup, itemsOf_lst, itemsOf_scr, oI, oI0, oSub, oFdiv, oMod, oPow, oShl, oShr, oAnd, oOr, oXor, oLt, oLe, oGt, oGe, oNeg, oIsN, oNotN, Gx.isNon, oAdd, oAdd', oMul, oMul', oMulM, oEq, oNe, oEqS, oNeS, oIn, oNin, eChain, oIx, oSet, cLen, cList, cListM, cTuple, cSum, cAll, cAny, cInt, cAbs, cMax2, cMin2, cDivmod, cGcd, cIsi, cRepr, lstInts, lstBls, startD, wipeD, List.map_cons, List.map_nil, List.length_cons, List.length_nil, List.cons_append, List.nil_append, List.replicate_succ, List.replicate_zero, List.set_cons_succ, List.set_cons_zero, List.getElem?_cons_succ, List.getElem?_cons_zero, List.filterMap_cons_some, List.filterMap_nil, Nat.reduceAdd, Nat.reduceSub, Nat.sub_self, Nat.reduceLT, Nat.reduceMul, Nat.zero_add, Nat.add_zero, if_true, if_false, and_true, true_and, and_false, false_and, or_true, true_or, or_false, false_or, not_true_eq_false, not_false_eq_true, Bool.not_true, Bool.not_false, Bool.false_eq_true, ite_true, ite_false, reduceIte, reduceCtorEq, eq_self, $xs,*])

/-! ### the store while a def draws -/
/-- what was there is there yet, the well at p drawn from -/
structure Ext (p : Addr) (S0 S : Sto) : Prop where
  of : ∀ b o, b ≠ p → S0 b = some o → S b = some o
  well : Well p S
/-- a list of the def's own -/
def Own (p : Addr) (S0 : Sto) (q : Addr) : Prop := S0 q = none ∧ q ≠ p
section
variable {p q : Addr} {S0 S S' : Sto} {o : SO}
theorem Ext.refl (h : Well p S) : Ext p S S := ⟨fun _ _ _ h => h, h⟩
theorem Ext.drw (e : Ext p S0 S) (d : Drw p S S') : Ext p S0 S' := ⟨fun b o h1 h2 => by rw [d.but b h1]; exact e.of b o h1 h2, d.well⟩
theorem Well.up {S : Sto} (h : Well p S) (hq : q ≠ p) : Well p (up S q o) := by
  obtain ⟨a, m, c, e⟩ := h
  exact ⟨a, m, c, by rw [up_ne (Ne.symm hq)]; exact e⟩
theorem Ext.set (e : Ext p S0 S) (h : Own p S0 q) : Ext p S0 (up S q o) := ⟨fun b o' h1 h2 => by
  have : b ≠ q := fun z => by rw [z, h.1] at h2; cases h2
  rw [up_ne this]; exact e.of b o' h1 h2, e.well.up h.2⟩
theorem Well.ne {S : Sto} (h : Well p S) (hq : S q = none) : q ≠ p := fun z => by
  obtain ⟨a, m, c, e⟩ := h
  rw [z, e] at hq; cases hq
theorem Ext.own (e : Ext p S0 S) (h : S q = none) : Own p S0 q := by
  have hp := e.well.ne h
  refine ⟨?_, hp⟩
  cases z : S0 q with
  | none => rfl
  | some o => rw [e.of q o hp z] at h; cases h
theorem Ext.new (e : Ext p S0 S) (h : S q = none) : Ext p S0 (up S q o) := e.set (e.own h)
theorem Ext.fin {R : QD} {d : D} (e : Ext p S0 S) (h : ∀ S', Drw p S0 S' → R d S') : Fin R d S := by
  refine ⟨fun b => if b = p then S p else S0 b, d, fun b o hb => ?_, .same d, h _ ⟨fun b hb => if_neg hb, ?_⟩⟩
  · by_cases z : b = p
    · subst z
      simpa using hb
    · simp only [if_neg z] at hb
      exact e.of b o z hb
  · obtain ⟨a, m, c, h⟩ := e.well
    exact ⟨a, m, c, by simpa using h⟩
theorem Drw.at (d : Drw p S S') (h : q ≠ p) : S' q = S q := d.but q h
end
/-- one statement at a time -/
theorem seqK {a b : ST} {G : EndG} {τ : Tau} {S : Sto} (h : ∀ k, k = b G → a { G with nx := k } τ S) : sSeq a b G τ S := h _ rfl
/-! ### tuples of constants -/
abbrev Kc (e : ET) (d : D) : Prop := ∀ (τ : Tau) (S : Sto) (Q : QD), Q d S → e τ S Q
abbrev KcA (u : AT) (ds : List D) : Prop := ∀ (τ : Tau) (S : Sto) (Q : List D → Sto → Prop), Q ds S → u τ S Q
theorem kc_c (d : D) : Kc (eC d) d := fun _ _ _ h => h
theorem kc_neg (i : Int) : Kc (eUn oNeg (eC (.int i))) (.int (-i)) := fun τ S Q h => by
  simp_arith []
  exact h
theorem kca_nil : KcA aNil [] := fun _ _ _ h => h
theorem kca_cons {e : ET} {u : AT} {d : D} {ds : List D} (h1 : Kc e d) (h2 : KcA u ds) : KcA (aCons e u) (d :: ds) := fun τ S Q h => h1 _ _ _ (h2 _ _ _ h)
theorem kc_tup {u : AT} {ds : List D} (h : KcA u ds) (hl : ds.length ≤ sizeLine := by decide) : Kc (eTup u) (.tup ds) := fun τ S Q q => h _ _ _ ⟨hl, q⟩
/-! ### drawn fractions -/
def bdD (A b : Nat) : D → Bool
  | .tup [.int n, .int m] => isFr (.tup [.int n, .int m]) && decide (n.natAbs ≤ A * m.natAbs) && decide (m.natAbs < 2 ^ b)
  | _ => false
theorem bdD_of {A b : Nat} {d : D} (h : bdD A b d = true) : ∃ q, d = encR q ∧ Bd A b q := by
  unfold bdD at h
  split at h
  · rename_i n m
    simp only [Bool.and_eq_true, decide_eq_true_eq] at h
    obtain ⟨⟨h1, h2⟩, h3⟩ := h
    obtain ⟨q, e⟩ := isFr_of h1
    refine ⟨q, e, ?_⟩
    simp only [encR, D.tup.injEq, List.cons.injEq, D.int.injEq, and_true] at e
    rw [e.1, e.2, Int.natAbs_natCast] at h2
    rw [e.2, Int.natAbs_natCast] at h3
    exact ⟨h2, h3⟩
  · cases h
def half : Rat := ⟨1, 2, by decide, by decide⟩
/-- a drawn fraction -/
def γ_frac (P : Rat → Prop) : OL := fun ds S R => ∃ p : Addr, ds = [.ref p] ∧ Well p S ∧ ∀ q S', P q → Drw p S S' → R (encR q) S'
def body_weight (γ__law_draw γ__law_one γ__law_lean : OL) (es : ET) : ST := sSeq (sAsg (eCall γ__law_draw (aCons (eVar 0) (aCons (eC (.int 12)) (aNil)))) (gNm 1))
  (sSeq (sIf (tBl (eBin oLt (eVar 1) (eC (.int 11)))) (sRet (eCall γ__law_one (aCons (eVar 0) (aCons es (aNil))))) (sNext))
  (sRet (eCall γ__law_lean (aCons (eBin oSub (eCall γ__law_draw (aCons (eVar 0) (aCons (eC (.int 2000001)) (aNil)))) (eC (.int 1000000))) (aCons (eBin oAdd (eC (.int 1)) (eCall γ__law_draw (aCons (eVar 0) (aCons (eC (.int 60)) (aNil))))) (aNil))))))
theorem law_weight {es : ET} {xs : List D} (he : ∀ τ S Q, Q (.tup xs) S → es τ S Q) (h0 : xs.all (bdD 1000000 6) = true) (h1 : 0 < xs.length ∧ xs.length < 1073741824) : Law 2 (γ_frac (Bd 1000000 6)) (body_weight γ_draw γ_one γ_ratio es) := by
  intro ds S R ⟨p, e, hw, h⟩
  subst e
  unfold body_weight γ_draw γ_one γ_ratio
  simp_arith []
  refine ⟨p, _, rfl, hw, ⟨by decide, by decide⟩, fun r S1 r0 r1 d1 => ?_⟩
  by_cases z : r < 11
  · simp_arith [z, decide_true]
    apply he
    refine ⟨p, _, _, rfl, rfl, d1.well, h1, fun x S2 hx d2 => ?_⟩
    rw [List.all_eq_true] at h0
    obtain ⟨q, rfl, hq⟩ := bdD_of (h0 x hx)
    exact fin_of (h q S2 hq (d1.trans d2))
  · simp_arith [z, decide_false]
    refine ⟨p, _, rfl, d1.well, ⟨by decide, by decide⟩, fun r2 S2 r20 r21 d2 => ?_⟩
    refine ⟨p, _, rfl, d2.well, ⟨by decide, by decide⟩, fun r3 S3 r30 r31 d3 => ?_⟩
    refine ⟨⟨by omega, Nat.lt_of_le_of_lt (m := 60) (by omega) (Nat.lt_of_lt_of_le (m := 2 ^ 6) (by decide) (Nat.pow_le_pow_right (by decide) (by decide)))⟩, fin_of (h _ S3 ?_ ((d1.trans d2).trans d3))⟩
    obtain ⟨m, hm⟩ := Int.eq_ofNat_of_zero_le (show 0 ≤ 1 + r3 by omega)
    rw [hm]
    refine bd_divInt (by omega) ?_ ?_
    · have : r2 - 1000000 ≤ 1000000 ∧ -1000000 ≤ r2 - 1000000 := by omega
      have h2 : (r2 - 1000000).natAbs ≤ 1000000 := by omega
      have h3 : 1 ≤ m := by omega
      calc (r2 - 1000000).natAbs ≤ 1000000 * 1 := by omega
        _ ≤ 1000000 * m := Nat.mul_le_mul_left _ h3
    · have : m ≤ 60 := by omega
      omega
def body_mark (γ__law_one : OL) (es : ET) : ST := sRet (eCall γ__law_one (aCons (eVar 0) (aCons es (aNil))))
theorem law_mark {A b : Nat} {es : ET} {xs : List D} (he : ∀ τ S Q, Q (.tup xs) S → es τ S Q) (h0 : xs.all (bdD A b) = true) (h1 : 0 < xs.length ∧ xs.length < 1073741824) : Law 1 (γ_frac (Bd A b)) (body_mark γ_one es) := by
  intro ds S R ⟨p, e, hw, h⟩
  subst e
  unfold body_mark γ_one
  simp_arith []
  apply he
  refine ⟨p, _, _, rfl, rfl, hw, h1, fun x S2 hx d2 => ?_⟩
  rw [List.all_eq_true] at h0
  obtain ⟨q, rfl, hq⟩ := bdD_of (h0 x hx)
  exact fin_of (h q S2 hq d2)

/-! ### drawn nets -/
/-- the weights of one size, the marks of another one -/
structure Drn (P M : Rat → Prop) (N : Net) : Prop where
  w : ∀ r ∈ N.ws, ∀ q ∈ r, P q
  m : ∀ q ∈ N.ms, M q
def body_net (γ__law_weight γ__law_mark : OL) : ST := sSeq (sPar 3 4 (aCons (eLstM (aNil)) (aCons (eLstM (aNil)) (aNil))))
  (sSeq (sFor (iRange1 (aCons (eVar 1) (aNil))) (gNm 2) (sSeq (sAsg (eLstM (aNil)) (gNm 5))
  (sSeq (sFor (iRange1 (aCons (eVar 1) (aNil))) (gNm 6) (sDrop (eMt mAppend (eVar 5) (aCons (eIf (tBl (eBin oNe (eVar 6) (eVar 2))) (eCall γ__law_weight (aCons (eVar 0) (aNil))) (eTup (aCons (eC (.int 0)) (aCons (eC (.int 1)) (aNil))))) (aNil)))))
  (sSeq (sDrop (eMt mAppend (eVar 3) (aCons (eCall cTuple (aCons (eVar 5) (aNil))) (aNil))))
  (sDrop (eMt mAppend (eVar 4) (aCons (eCall γ__law_mark (aCons (eVar 0) (aNil))) (aNil))))))))
  (sRet (eTup (aCons (eCall cTuple (aCons (eVar 3) (aNil))) (aCons (eCall cTuple (aCons (eVar 4) (aNil))) (aNil))))))
/-- the rows that stand so far -/
structure NetAt (P M : Rat → Prop) (p p3 p4 : Addr) (n i : Nat) (S0 S : Sto) (ws : List (List Rat)) (ms : List Rat) : Prop where
  ext : Ext p S0 S
  rows : S p3 = some (.lst (ws.map encRow))
  marks : S p4 = some (.lst (ms.map encR))
  lw : ws.length = i
  lm : ms.length = i
  lr : ∀ r ∈ ws, r.length = n
  hp : ∀ r ∈ ws, ∀ q ∈ r, P q
  hm : ∀ q ∈ ms, M q
  dia : ∀ j, j < i → (ws.getD j []).getD j 0 = 0
theorem getD_snoc {α : Type} {xs : List α} {x d : α} {i j : Nat} (hl : xs.length = i) (hj : j < i + 1) : (xs ++ [x]).getD j d = if j < i then xs.getD j d else x := by
  rw [List.getD_eq_getElem?_getD, List.getD_eq_getElem?_getD]
  split
  · rw [List.getElem?_append_left (by omega)]
  · have : j = i := by omega
    subst this
    rw [List.getElem?_append_right (by omega), hl, Nat.sub_self]; rfl
end Gx

/-! Gx, data side 9: nets with scales. -/
namespace Gx
open PySem L2
local macro_rules | `(tactic| simp_arith [$xs,*]) => `(tactic| try simp only [eVar, eC, eBin, eUn, tBl, tAnd', tOr', tNot', eAnd, eOr, eNot, eIf, aNil, aCons, eTup, eLst, eLstM, eCall, eCallK, pick, sNext, sSeq, sBreak, sCont, sDrop, sRet, sRetN, sIf, sNever, gNm, gsNil, gsCons, gTupl, gSubs, sAsg, sPar, sPar3, sFor, iSeq, seqG_tup, seqG_lst, seqG_scr, iRange1, iRange2, iEnumG, iZipG, td_tup, td_lst, td_scr, eLc, eLcM, tYes', pNone, pSome, eSl, cu_tup, cu_lst, cu_scr, eMt, eMt0, mAppend, isL, rs_non, rs_bl, rs_int, rs_str, rs_tup, rs_lst', rs_scr, itemsOf_tup, itemsOf_lst, itemsOf_scr, oI, oI0, oSub, oFdiv, oMod, oPow, oShl, oShr, oAnd, oOr, oXor, oLt, oLe, oGt, oGe, oNeg, oIsN, oNotN, Gx.isNon, oAdd, oAdd', oMul, oMul', oMulM, oEq, oNe, oEqS, oNeS, oIn, oNin, eChain, oIx, oSet, cLen, cList, cListM, cTuple, cSum, cAll, cAny, cInt, cAbs, cMax2, cMin2, cDivmod, cGcd, cIsi, cRepr, lstInts, lstBls, startD, wipeD, List.map_cons, List.map_nil, List.length_cons, List.length_nil, List.cons_append, List.nil_append, List.replicate_succ, List.replicate_zero, List.set_cons_succ, List.set_cons_zero, List.getElem?_cons_succ, List.getElem?_cons_zero, List.filterMap_cons_some, List.filterMap_nil, Nat.reduceAdd, Nat.reduceSub, Nat.sub_self, Nat.reduceLT, Nat.reduceMul, Nat.zero_add, Nat.add_zero, if_true, if_false, and_true, true_and, and_false, false_and, or_true, true_or, or_false, false_or, not_true_eq_false, not_false_eq_true, Bool.not_true, Bool.not_false, Bool.false_eq_true, ite_true, ite_false, reduceIte, reduceCtorEq, eq_self, $xs,*])
local macro_rules | `(tactic| simp_arith! [$xs,*]) => `(tactic| try simp only [eVar, eC, eBin, eUn, tBl, tAnd', tOr', tNot', eAnd, eOr, eNot, eIf, aNil, aCons, eTup, eLst, eLstM, eCall, eCallK, pick, sNext, sSeq, sBreak, sCont, sDrop, sRet, sRetN, sIf, sNever, gNm, gsNil, gsCons, gTupl, gSubs, sAsg, sPar, sPar3, sFor, iSeq, seqG_tup, seqG_lst, seqG_scr, iRange1, iRange2, iEnumG, iZipG, td_tup, td_lst, td_scr, eLc, eLcM, tYes', pNone, pSome, eSl, cu_tup, cu_lst, cu_scr, eMt, eMt0, mAppend, isL, rs_non, rs_bl, rs_int, rs_str, rs_tup, rs_lst', rs_scr, itemsOf_tup, itemsOf_lst, itemsOf_scr, oI, oI0, oSub, oFdiv, oMod, oPow, oShl, oShr, oAnd, oOr, oXor, oLt, oLe, oGt, oGe, oNeg, oIsN, oNotN, Gx.isNon, oAdd, oAdd', oMul, oMul', oMulM, oEq, oNe, oEqS, oNeS, oIn, oNin, eChain, oIx, oSet, cLen, cList, cListM, cTuple, cSum, cAll, cAny, cInt, cAbs, cMax2, cMin2, cDivmod, cGcd, cIsi, cRepr, lstInts, lstBls, startD, wipeD, List.map_cons, List.map_nil, List.length_cons, List.length_nil, List.cons_append, List.nil_append, List.replicate_succ, List.replicate_zero, List.set_cons_succ, List.set_cons_zero, List.getElem?_cons_succ, List.getElem?_cons_zero, List.filterMap_cons_some, List.filterMap_nil, Nat.reduceAdd, Nat.reduceSub, Nat.sub_self, Nat.reduceLT, Nat.reduceMul, Nat.zero_add, Nat.add_zero, if_true, if_false, and_true, true_and, and_false, false_and, or_true, true_or, or_false, false_or, not_true_eq_false, not_false_eq_true, Bool.not_true, Bool.not_false, Bool.false_eq_true, ite_true, ite_false, reduceIte, reduceCtorEq, eq_self, rs_N, rs_W, rs_Row, rs_S, rs_R, rs_B, it_N, it_W, it_Row, it_S, it_R, sq_W, sq_Row, sq_S, td_N, td_W, td_Row, td_S, rs_I, it_I, sq_I, td_I, rs_Ss, it_Ss, sq_Ss, td_Ss, cu_S, cu_W, cu_Row, atI_0, atI_1, $xs,*])

/-! ### rows that change -/
structure RowsAt (p : Addr) (S0 : Sto) (qs : List Addr) (S : Sto) (ws : List (List Rat)) : Prop where
  len : qs.length = ws.length
  nd : qs.Nodup
  row : ∀ i, i < qs.length → S (qs.getD i 0) = some (.lst ((ws.getD i []).map encR))
  own : ∀ q ∈ qs, Own p S0 q
theorem getD_mem {α : Type} {xs : List α} {i : Nat} {d : α} (h : i < xs.length) : xs.getD i d ∈ xs := by
  rw [getD_eq h]
  exact List.getElem_mem h
theorem nodup_ne {qs : List Addr} (h : qs.Nodup) {i j : Nat} (hi : i < qs.length) (hj : j < qs.length) (n : i ≠ j) : qs.getD i 0 ≠ qs.getD j 0 := by
  rw [getD_eq hi, getD_eq hj]
  intro e
  exact n ((List.getElem_inj h).mp e)
theorem getD_set {α : Type} {xs : List α} {i j : Nat} {x d : α} (h : i < xs.length) : (xs.set i x).getD j d = if i = j then x else xs.getD j d := by
  rw [List.getD_eq_getElem?_getD, List.getD_eq_getElem?_getD, List.getElem?_set]
  by_cases z : i = j
  · subst z
    rw [if_pos rfl, if_pos h, if_pos rfl]; rfl
  · rw [if_neg z, if_neg z]
theorem RowsAt.same {p : Addr} {S0 S S' : Sto} {qs : List Addr} {ws : List (List Rat)} (a : RowsAt p S0 qs S ws) (h : ∀ q ∈ qs, S' q = S q) : RowsAt p S0 qs S' ws :=
  ⟨a.len, a.nd, fun i hi => by rw [h _ (getD_mem hi)]; exact a.row i hi, a.own⟩
theorem RowsAt.set {p : Addr} {S0 S : Sto} {qs : List Addr} {ws : List (List Rat)} (a : RowsAt p S0 qs S ws) {i : Nat} (hi : i < qs.length) (r : List Rat) :
    RowsAt p S0 qs (up S (qs.getD i 0) (.lst (r.map encR))) (ws.set i r) :=
  ⟨by rw [List.length_set]; exact a.len, a.nd, fun j hj => by
    rw [getD_set (by rw [← a.len]; exact hi)]
    by_cases z : i = j
    · subst z
      rw [if_pos rfl, up_same]
    · rw [if_neg z, up_ne (Ne.symm (nodup_ne a.nd hi hj z))]
      exact a.row j hj, a.own⟩
theorem RowsAt.zip {p : Addr} {S0 S : Sto} {qs : List Addr} {ws : List (List Rat)} (a : RowsAt p S0 qs S ws) {z : Addr × List Rat} (hz : z ∈ List.zip qs ws) : S z.1 = some (.lst (z.2.map encR)) := by
  obtain ⟨i, hi, e⟩ := List.getElem_of_mem hz
  have h := hi
  rw [List.length_zip] at h
  rw [List.getElem_zip] at e
  have := a.row i (by omega)
  rw [getD_eq (by omega), getD_eq (by omega)] at this
  rw [← e]
  exact this
def refs (qs : List Addr) : List D := qs.map .ref
/-! ### scales -/
/-- a scale: above 0, of few figures -/
structure Scl (q : Rat) : Prop where
  pos : 0 < q
  bd : Bd 3 2 q
  inv : Bd 2 2 q⁻¹
/-- the weights below the diagonal so that scales are kept -/
def scW (N : Net) (sc : List Rat) (i j : Nat) : Rat := sc.getD j 0 * wt N j i / sc.getD i 0
/-- how far the rows are led on -/
structure Led (N : Net) (sc : List Rat) (a t : Nat) (ws : List (List Rat)) : Prop where
  lw : ws.length = N.n
  lr : ∀ r ∈ ws, r.length = N.n
  val : ∀ i j, i < N.n → j < N.n → (ws.getD i []).getD j 0 = if (i < a ∧ j < i) ∨ (i = a ∧ j < t) then scW N sc i j else wt N i j
theorem Led.row {N : Net} {sc : List Rat} {a t : Nat} {ws : List (List Rat)} (l : Led N sc a t ws) {i : Nat} (hi : i < N.n) : (ws.getD i []).length = N.n := l.lr _ (getD_mem (by rw [l.lw]; exact hi))
theorem Led.next {N : Net} {sc : List Rat} {a : Nat} {ws : List (List Rat)} (l : Led N sc a a ws) : Led N sc (a + 1) 0 ws :=
  ⟨l.lw, l.lr, fun i j hi hj => by
    rw [l.val i j hi hj]
    by_cases z : (i < a ∧ j < i) ∨ (i = a ∧ j < a)
    · rw [if_pos z, if_pos (by omega)]
    · rw [if_neg z, if_neg (by omega)]⟩
theorem Scl.ne {q : Rat} (h : Scl q) : q ≠ 0 := fun z => by have := h.pos; rw [z] at this; exact absurd this (by decide)
/-! ### one weight otherwise -/
section
variable {N : Net} {a t : Nat} {q : Rat}
end
end Gx

/-! Gx, data side 10: what the laws reckon of nets. -/
namespace Gx
open PySem L2
local macro_rules | `(tactic| simp_arith [$xs,*]) => `(tactic| try simp only [eVar, eC, eBin, eUn, tBl, tAnd', tOr', tNot', eAnd, eOr, eNot, eIf, aNil, aCons, eTup, eLst, eLstM, eCall, eCallK, pick, sNext, sSeq, sBreak, sCont, sDrop, sRet, sRetN, sIf, sNever, gNm, gsNil, gsCons, gTupl, gSubs, sAsg, sPar, sPar3, sFor, iSeq, seqG_tup, seqG_lst, seqG_scr, iRange1, iRange2, iEnumG, iZipG, td_tup, td_lst, td_scr, eLc, eLcM, tYes', pNone, pSome, eSl, cu_tup, cu_lst, cu_scr, eMt, eMt0, mAppend, isL, rs_non, rs_bl, rs_int, rs_str, rs_tup, rs_lst', rs_scr, itemsOf_tup, itemsOf_lst, itemsOf_scr, oI, oI0, oSub, oFdiv, oMod, oPow, oShl, oShr, oAnd, oOr, oXor, oLt, oLe, oGt, oGe, oNeg, oIsN, oNotN, Gx.isNon, oAdd, oAdd', oMul, oMul', oMulM, oEq, oNe, oEqS, oNeS, oIn, oNin, eChain, oIx, oSet, cLen, cList, cListM, cTuple, cSum, cAll, cAny, cInt, cAbs, cMax2, cMin2, cDivmod, cGcd, cIsi, cRepr, lstInts, lstBls, startD, wipeD, List.map_cons, List.map_nil, List.length_cons, List.length_nil, List.cons_append, List.nil_append, List.replicate_succ, List.replicate_zero, List.set_cons_succ, List.set_cons_zero, List.getElem?_cons_succ, List.getElem?_cons_zero, List.filterMap_cons_some, List.filterMap_nil, Nat.reduceAdd, Nat.reduceSub, Nat.sub_self, Nat.reduceLT, Nat.reduceMul, Nat.zero_add, Nat.add_zero, if_true, if_false, and_true, true_and, and_false, false_and, or_true, true_or, or_false, false_or, not_true_eq_false, not_false_eq_true, Bool.not_true, Bool.not_false, Bool.false_eq_true, ite_true, ite_false, reduceIte, reduceCtorEq, eq_self, $xs,*])
local macro_rules | `(tactic| simp_arith! [$xs,*]) => `(tactic| try simp only [eVar, eC, eBin, eUn, tBl, tAnd', tOr', tNot', eAnd, eOr, eNot, eIf, aNil, aCons, eTup, eLst, eLstM, eCall, eCallK, pick, sNext, sSeq, sBreak, sCont, sDrop, sRet, sRetN, sIf, sNever, gNm, gsNil, gsCons, gTupl, gSubs, sAsg, sPar, sPar3, sFor, iSeq, seqG_tup, seqG_lst, seqG_scr, iRange1, iRange2, iEnumG, iZipG, td_tup, td_lst, td_scr, eLc, eLcM, tYes', pNone, pSome, eSl, cu_tup, cu_lst, cu_scr, eMt, eMt0, mAppend, isL, rs_non, rs_bl, rs_int, rs_str, rs_tup, rs_lst', rs_scr, itemsOf_tup, itemsOf_lst, itemsOf_scr, oI, oI0, oSub, oFdiv, oMod, oPow, oShl, oShr, oAnd, oOr, oXor, oLt, oLe, oGt, oGe, oNeg, oIsN, oNotN, Gx.isNon, oAdd, oAdd', oMul, oMul', oMulM, oEq, oNe, oEqS, oNeS, oIn, oNin, eChain, oIx, oSet, cLen, cList, cListM, cTuple, cSum, cAll, cAny, cInt, cAbs, cMax2, cMin2, cDivmod, cGcd, cIsi, cRepr, lstInts, lstBls, startD, wipeD, List.map_cons, List.map_nil, List.length_cons, List.length_nil, List.cons_append, List.nil_append, List.replicate_succ, List.replicate_zero, List.set_cons_succ, List.set_cons_zero, List.getElem?_cons_succ, List.getElem?_cons_zero, List.filterMap_cons_some, List.filterMap_nil, Nat.reduceAdd, Nat.reduceSub, Nat.sub_self, Nat.reduceLT, Nat.reduceMul, Nat.zero_add, Nat.add_zero, if_true, if_false, and_true, true_and, and_false, false_and, or_true, true_or, or_false, false_or, not_true_eq_false, not_false_eq_true, Bool.not_true, Bool.not_false, Bool.false_eq_true, ite_true, ite_false, reduceIte, reduceCtorEq, eq_self, rs_N, rs_W, rs_Row, rs_S, rs_R, rs_B, it_N, it_W, it_Row, it_S, it_R, sq_W, sq_Row, sq_S, td_N, td_W, td_Row, td_S, rs_I, it_I, sq_I, td_I, rs_Ss, it_Ss, sq_Ss, td_Ss, cu_S, cu_W, cu_Row, atI_0, atI_1, $xs,*])

/-! ### heard -/
end Gx

set_option exponentiation.threshold 3000
/-! Gx, data side 11: what is told as text; rests and movers. -/
namespace Gx
open PySem L2

/-! ### repr -/
/-- of so many leaves at most -/
structure RP (k n : Nat) (d : D) : Prop where
  pl : pl k d = true
  ok : okL d = true
  sz : szD d ≤ n
theorem RP.rp {k n : Nat} {d : D} (h : RP k n d) (hk : k ≤ 60 := by decide) (hn : n ≤ 8000 := by decide) : rpOk d := ⟨pl_mono h.pl hk, h.ok, Nat.le_trans h.sz hn⟩
theorem RP.mono {k n k' n' : Nat} {d : D} (h : RP k n d) (hk : k ≤ k' := by decide) (hn : n ≤ n' := by decide) : RP k' n' d := ⟨pl_mono h.pl hk, h.ok, Nat.le_trans h.sz hn⟩
inductive RPs : Nat → Nat → List D → Prop
  | nil {k : Nat} : RPs k 0 []
  | cons {k a b : Nat} {d : D} {ds : List D} : RP k a d → RPs k b ds → RPs k (a + 1 + b) (d :: ds)
theorem RPs.all {k n : Nat} {ds : List D} (h : RPs k n ds) : ds.all (Gx.pl k) = true ∧ okLs ds = true ∧ szDs ds ≤ n := by
  induction h with
  | nil => exact ⟨rfl, rfl, Nat.le_refl _⟩
  | cons h1 _ ih =>
    obtain ⟨i1, i2, i3⟩ := ih
    refine ⟨?_, ?_, ?_⟩
    · rw [List.all_cons, h1.pl, i1]; rfl
    · show (okL _ && okLs _) = true
      rw [h1.ok, i2]; rfl
    · show szD _ + 1 + szDs _ ≤ _
      have := h1.sz
      omega
theorem RPs.lst {k n : Nat} {ds : List D} (h : RPs k n ds) : RP (k + 1) n (.lst ds) := ⟨h.all.1, h.all.2.1, h.all.2.2⟩
theorem RPs.tup {k n : Nat} {ds : List D} (h : RPs k n ds) : RP (k + 1) n (.tup ds) := ⟨h.all.1, h.all.2.1, h.all.2.2⟩
theorem RPs.map {α : Type} {k n : Nat} {f : α → D} : ∀ {xs : List α}, (∀ x ∈ xs, RP k n (f x)) → RPs k ((n + 1) * xs.length) (xs.map f)
  | [], _ => .nil
  | x :: xs, h => by
    have := RPs.cons (h x List.mem_cons_self) (RPs.map (xs := xs) fun y hy => h y (List.mem_cons_of_mem _ hy))
    rw [List.length_cons, Nat.mul_succ, Nat.add_comm]
    exact this
theorem log2_lt {a b : Nat} (hb : 0 < b) (h : a < 2 ^ b) : a.log2 < b := by
  by_cases z : a = 0
  · subst z; rw [Nat.log2_zero]; exact hb
  · exact (Nat.log2_lt z).mpr h
theorem rp_int {k : Nat} {i : Int} (h : i.natAbs < 2 ^ 1920) : RP k 0 (.int i) := ⟨pl_int, decide_eq_true (log2_lt (by decide) h), Nat.le_refl _⟩
theorem rp_bl {k : Nat} {b : Bool} : RP k 0 (.bl b) := ⟨pl_bl, rfl, Nat.le_refl _⟩
theorem rp_S (s : List Bool) : RP 1 s.length (encS s) := by
  have := (RPs.map (k := 0) (n := 0) (f := encB) (xs := s) fun x _ => rp_int (by cases x <;> decide)).tup
  rw [Nat.zero_add, Nat.one_mul] at this
  exact this
theorem not_dec_self (x : Str) : (!decide (x = x)) = false := by rw [decide_eq_true rfl]; rfl

/-! ### rests have no movers -/
end Gx

/-! Gx, data side 12: states by their numbers, there and back. -/
namespace Gx
open PySem L2
def numOf : List Bool → Nat
  | [] => 0
  | b :: s => (if b = true then 1 else 0) + 2 * numOf s
theorem numOf_cons (b : Bool) (s : List Bool) : numOf (b :: s) = (if b = true then 1 else 0) + 2 * numOf s := rfl
theorem stateOf_succ (n k : Nat) : stateOf (n + 1) k = decide (k % 2 = 1) :: stateOf n (k / 2) := by
  unfold stateOf
  rw [List.range_succ_eq_map, List.map_cons, List.map_map, Nat.testBit_zero]
  congr 1
  apply List.map_congr_left
  intro i _
  exact Nat.testBit_succ k i
theorem numOf_stateOf : ∀ (n k : Nat), k < 2 ^ n → numOf (stateOf n k) = k
  | 0, k, h => by
    have : k = 0 := by rw [Nat.pow_zero] at h; omega
    subst this; rfl
  | n + 1, k, h => by
    rw [Nat.pow_succ] at h
    rw [stateOf_succ]
    have ih := numOf_stateOf n (k / 2) (by omega)
    rw [numOf_cons]
    rw [ih]
    by_cases z : k % 2 = 1
    · rw [if_pos (decide_eq_true z)]; omega
    · rw [if_neg (by simpa using z)]; omega
end Gx

/-! Gx, data side 13: spares and lifted marks. -/
namespace Gx
open PySem L2
local macro_rules | `(tactic| simp_arith [$xs,*]) => `(tactic| try simp only [eVar, eC, eBin, eUn, tBl, tAnd', tOr', tNot', eAnd, eOr, eNot, eIf, aNil, aCons, eTup, eLst, eLstM, eCall, eCallK, pick, sNext, sSeq, sBreak, sCont, sDrop, sRet, sRetN, sIf, sNever, gNm, gsNil, gsCons, gTupl, gSubs, sAsg, sPar, sPar3, sFor, iSeq, seqG_tup, seqG_lst, seqG_scr, iRange1, iRange2, iEnumG, iZipG, td_tup, td_lst, td_scr, eLc, eLcM, tYes', pNone, pSome, eSl, cu_tup, cu_lst, cu_scr, eMt, eMt0, mAppend, isL, rs_non, rs_bl, rs_int, rs_str, rs_tup, rs_lst', rs_scr, itemsOf_tup, itemsOf_lst, itemsOf_scr, oI, oI0, oSub, oFdiv, oMod, oPow, oShl, oShr, oAnd, oOr, oXor, oLt, oLe, oGt, oGe, oNeg, oIsN, oNotN, Gx.isNon, oAdd, oAdd', oMul, oMul', oMulM, oEq, oNe, oEqS, oNeS, oIn, oNin, eChain, oIx, oSet, cLen, cList, cListM, cTuple, cSum, cAll, cAny, cInt, cAbs, cMax2, cMin2, cDivmod, cGcd, cIsi, cRepr, lstInts, lstBls, startD, wipeD, List.map_cons, List.map_nil, List.length_cons, List.length_nil, List.cons_append, List.nil_append, List.replicate_succ, List.replicate_zero, List.set_cons_succ, List.set_cons_zero, List.getElem?_cons_succ, List.getElem?_cons_zero, List.filterMap_cons_some, List.filterMap_nil, Nat.reduceAdd, Nat.reduceSub, Nat.sub_self, Nat.reduceLT, Nat.reduceMul, Nat.zero_add, Nat.add_zero, if_true, if_false, and_true, true_and, and_false, false_and, or_true, true_or, or_false, false_or, not_true_eq_false, not_false_eq_true, Bool.not_true, Bool.not_false, Bool.false_eq_true, ite_true, ite_false, reduceIte, reduceCtorEq, eq_self, $xs,*])
local macro_rules | `(tactic| simp_arith! [$xs,*]) => `(tactic| try simp only [eVar, eC, eBin, eUn, tBl, tAnd', tOr', tNot', eAnd, eOr, eNot, eIf, aNil, aCons, eTup, eLst, eLstM, eCall, eCallK, pick, sNext, sSeq, sBreak, sCont, sDrop, sRet, sRetN, sIf, sNever, gNm, gsNil, gsCons, gTupl, gSubs, sAsg, sPar, sPar3, sFor, iSeq, seqG_tup, seqG_lst, seqG_scr, iRange1, iRange2, iEnumG, iZipG, td_tup, td_lst, td_scr, eLc, eLcM, tYes', pNone, pSome, eSl, cu_tup, cu_lst, cu_scr, eMt, eMt0, mAppend, isL, rs_non, rs_bl, rs_int, rs_str, rs_tup, rs_lst', rs_scr, itemsOf_tup, itemsOf_lst, itemsOf_scr, oI, oI0, oSub, oFdiv, oMod, oPow, oShl, oShr, oAnd, oOr, oXor, oLt, oLe, oGt, oGe, oNeg, oIsN, oNotN, Gx.isNon, oAdd, oAdd', oMul, oMul', oMulM, oEq, oNe, oEqS, oNeS, oIn, oNin, eChain, oIx, oSet, cLen, cList, cListM, cTuple, cSum, cAll, cAny, cInt, cAbs, cMax2, cMin2, cDivmod, cGcd, cIsi, cRepr, lstInts, lstBls, startD, wipeD, List.map_cons, List.map_nil, List.length_cons, List.length_nil, List.cons_append, List.nil_append, List.replicate_succ, List.replicate_zero, List.set_cons_succ, List.set_cons_zero, List.getElem?_cons_succ, List.getElem?_cons_zero, List.filterMap_cons_some, List.filterMap_nil, Nat.reduceAdd, Nat.reduceSub, Nat.sub_self, Nat.reduceLT, Nat.reduceMul, Nat.zero_add, Nat.add_zero, if_true, if_false, and_true, true_and, and_false, false_and, or_true, true_or, or_false, false_or, not_true_eq_false, not_false_eq_true, Bool.not_true, Bool.not_false, Bool.false_eq_true, ite_true, ite_false, reduceIte, reduceCtorEq, eq_self, rs_N, rs_W, rs_Row, rs_S, rs_R, rs_B, it_N, it_W, it_Row, it_S, it_R, sq_W, sq_Row, sq_S, td_N, td_W, td_Row, td_S, rs_I, it_I, sq_I, td_I, rs_Ss, it_Ss, sq_Ss, td_Ss, cu_S, cu_W, cu_Row, atI_0, atI_1, $xs,*])

/-! ### the least of some fractions -/
def mn (f e : Rat) : Rat := if e < f then e else f
/-! ### spares -/
def overs (N : Net) (i : Nat) : List Rat := (allS N.n).map fun s => hear N i s - mk' N i
/-- the least one above 0 -/
def mnO (f : Option Rat) (x : Rat) : Option Rat := if 0 < x then (match f with
  | none => some x
  | some f => some (mn f x)) else f
def spareR (N : Net) (i : Nat) : Option Rat := (overs N i).foldl mnO none
def stepR (N : Net) (i : Nat) : Rat := match spareR N i with
  | none => 1
  | some q => half * q
def lifted (N : Net) : Net := ⟨N.ws, (List.range N.n).map fun i => mk' N i + stepR N i⟩
theorem zipIdx_range {α : Type} (d : α) (xs : List α) : xs.zipIdx = (List.range xs.length).map fun i => (xs.getD i d, i) := by
  apply List.ext_getElem
  · simp
  · intro i h1 h2
    rw [List.length_zipIdx] at h1
    rw [List.getElem_zipIdx, List.getElem_map, List.getElem_range, getD_eq h1, Nat.zero_add]
end Gx

/-! Gx, data side 14: loops by what holds behind each turn; what the laws reckon of numbers of states. -/
namespace Gx
open PySem L2
local macro_rules | `(tactic| simp_arith [$xs,*]) => `(tactic| try simp only [eVar, eC, eBin, eUn, tBl, tAnd', tOr', tNot', eAnd, eOr, eNot, eIf, aNil, aCons, eTup, eLst, eLstM, eCall, eCallK, pick, sNext, sSeq, sBreak, sCont, sDrop, sRet, sRetN, sIf, sNever, gNm, gsNil, gsCons, gTupl, gSubs, sAsg, sPar, sPar3, sFor, iSeq, seqG_tup, seqG_lst, seqG_scr, iRange1, iRange2, iEnumG, iZipG, td_tup, td_lst, td_scr, eLc, eLcM, tYes', pNone, pSome, eSl, cu_tup, cu_lst, cu_scr, eMt, eMt0, mAppend, isL, rs_non, rs_bl, rs_int, rs_str, rs_tup, rs_lst', rs_scr, itemsOf_tup, itemsOf_lst, itemsOf_scr, oI, oI0, oSub, oFdiv, oMod, oPow, oShl, oShr, oAnd, oOr, oXor, oLt, oLe, oGt, oGe, oNeg, oIsN, oNotN, Gx.isNon, oAdd, oAdd', oMul, oMul', oMulM, oEq, oNe, oEqS, oNeS, oIn, oNin, eChain, oIx, oSet, cLen, cList, cListM, cTuple, cSum, cAll, cAny, cInt, cAbs, cMax2, cMin2, cDivmod, cGcd, cIsi, cRepr, lstInts, lstBls, startD, wipeD, List.map_cons, List.map_nil, List.length_cons, List.length_nil, List.cons_append, List.nil_append, List.replicate_succ, List.replicate_zero, List.set_cons_succ, List.set_cons_zero, List.getElem?_cons_succ, List.getElem?_cons_zero, List.filterMap_cons_some, List.filterMap_nil, Nat.reduceAdd, Nat.reduceSub, Nat.sub_self, Nat.reduceLT, Nat.reduceMul, Nat.zero_add, Nat.add_zero, if_true, if_false, and_true, true_and, and_false, false_and, or_true, true_or, or_false, false_or, not_true_eq_false, not_false_eq_true, Bool.not_true, Bool.not_false, Bool.false_eq_true, ite_true, ite_false, reduceIte, reduceCtorEq, eq_self, $xs,*])
local macro_rules | `(tactic| simp_arith! [$xs,*]) => `(tactic| try simp only [eVar, eC, eBin, eUn, tBl, tAnd', tOr', tNot', eAnd, eOr, eNot, eIf, aNil, aCons, eTup, eLst, eLstM, eCall, eCallK, pick, sNext, sSeq, sBreak, sCont, sDrop, sRet, sRetN, sIf, sNever, gNm, gsNil, gsCons, gTupl, gSubs, sAsg, sPar, sPar3, sFor, iSeq, seqG_tup, seqG_lst, seqG_scr, iRange1, iRange2, iEnumG, iZipG, td_tup, td_lst, td_scr, eLc, eLcM, tYes', pNone, pSome, eSl, cu_tup, cu_lst, cu_scr, eMt, eMt0, mAppend, isL, rs_non, rs_bl, rs_int, rs_str, rs_tup, rs_lst', rs_scr, itemsOf_tup, itemsOf_lst, itemsOf_scr, oI, oI0, oSub, oFdiv, oMod, oPow, oShl, oShr, oAnd, oOr, oXor, oLt, oLe, oGt, oGe, oNeg, oIsN, oNotN, Gx.isNon, oAdd, oAdd', oMul, oMul', oMulM, oEq, oNe, oEqS, oNeS, oIn, oNin, eChain, oIx, oSet, cLen, cList, cListM, cTuple, cSum, cAll, cAny, cInt, cAbs, cMax2, cMin2, cDivmod, cGcd, cIsi, cRepr, lstInts, lstBls, startD, wipeD, List.map_cons, List.map_nil, List.length_cons, List.length_nil, List.cons_append, List.nil_append, List.replicate_succ, List.replicate_zero, List.set_cons_succ, List.set_cons_zero, List.getElem?_cons_succ, List.getElem?_cons_zero, List.filterMap_cons_some, List.filterMap_nil, Nat.reduceAdd, Nat.reduceSub, Nat.sub_self, Nat.reduceLT, Nat.reduceMul, Nat.zero_add, Nat.add_zero, if_true, if_false, and_true, true_and, and_false, false_and, or_true, true_or, or_false, false_or, not_true_eq_false, not_false_eq_true, Bool.not_true, Bool.not_false, Bool.false_eq_true, ite_true, ite_false, reduceIte, reduceCtorEq, eq_self, rs_N, rs_W, rs_Row, rs_S, rs_R, rs_B, it_N, it_W, it_Row, it_S, it_R, sq_W, sq_Row, sq_S, td_N, td_W, td_Row, td_S, rs_I, it_I, sq_I, td_I, rs_Ss, it_Ss, sq_Ss, td_Ss, cu_S, cu_W, cu_Row, atI_0, atI_1, $xs,*])

/-! ### loops -/
/-! ### a cell's bit of a number -/
/-! ### heard, by numbers -/
/-! ### what is wanted, by numbers -/
theorem shl_rng {n : Nat} (h : n ≤ 8) : CPow 1 n ∧ -(2 : Int) ^ 62 ≤ ((2 ^ n : Nat) : Int) ∧ ((2 ^ n : Nat) : Int) < 2 ^ 62 :=
  ⟨⟨by omega, by omega, by decide⟩, Int.le_trans (by decide) (Int.natCast_nonneg (2 ^ n)), Int.lt_of_le_of_lt (Int.ofNat_le.mpr (pow8 h)) (by decide)⟩
/-! ### a number with one bit otherwise -/
end Gx

/-! Gx, data side 15: energies, in plain sums. -/
namespace Gx
open PySem L2
/-! ### the words of nets -/
def xs (s : List Bool) (i : Nat) : Rat := if s.getD i false = true then 1 else 0
end Gx

/-! Gx, data side 16: the second family of drawn nets (any, with scales, wheels). -/
namespace Gx
open PySem L2
local macro_rules | `(tactic| simp_arith [$xs,*]) => `(tactic| try simp only [eVar, eC, eBin, eUn, tBl, tAnd', tOr', tNot', eAnd, eOr, eNot, eIf, aNil, aCons, eTup, eLst, eLstM, eCall, eCallK, pick, sNext, sSeq, sBreak, sCont, sDrop, sRet, sRetN, sIf, sNever, gNm, gsNil, gsCons, gTupl, gSubs, sAsg, sPar, sPar3, sFor, iSeq, seqG_tup, seqG_lst, seqG_scr, iRange1, iRange2, iEnumG, iZipG, td_tup, td_lst, td_scr, eLc, eLcM, tYes', pNone, pSome, eSl, cu_tup, cu_lst, cu_scr, eMt, eMt0, mAppend, isL, rs_non, rs_bl, rs_int, rs_str, rs_tup, rs_lst', rs_scr, itemsOf_tup, itemsOf_lst, itemsOf_scr, oI, oI0, oSub, oFdiv, oMod, oPow, oShl, oShr, oAnd, oOr, oXor, oLt, oLe, oGt, oGe, oNeg, oIsN, oNotN, Gx.isNon, oAdd, oAdd', oMul, oMul', oMulM, oEq, oNe, oEqS, oNeS, oIn, oNin, eChain, oIx, oSet, cLen, cList, cListM, cTuple, cSum, cAll, cAny, cInt, cAbs, cMax2, cMin2, cDivmod, cGcd, cIsi, cRepr, lstInts, lstBls, startD, wipeD, List.map_cons, List.map_nil, List.length_cons, List.length_nil, List.cons_append, List.nil_append, List.replicate_succ, List.replicate_zero, List.set_cons_succ, List.set_cons_zero, List.getElem?_cons_succ, List.getElem?_cons_zero, List.filterMap_cons_some, List.filterMap_nil, Nat.reduceAdd, Nat.reduceSub, Nat.sub_self, Nat.reduceLT, Nat.reduceMul, Nat.zero_add, Nat.add_zero, if_true, if_false, and_true, true_and, and_false, false_and, or_true, true_or, or_false, false_or, not_true_eq_false, not_false_eq_true, Bool.not_true, Bool.not_false, Bool.false_eq_true, ite_true, ite_false, reduceIte, reduceCtorEq, eq_self, $xs,*])
/-! ### drawn marks -/
/-- a list of fractions that grows -/
structure Grw (M : Rat → Prop) (p q : Addr) (S0 S : Sto) (ms : List Rat) (i : Nat) : Prop where
  ext : Ext p S0 S
  own : Own p S0 q
  at' : S q = some (.lst (ms.map encR))
  len : ms.length = i
  ok : ∀ x ∈ ms, M x
theorem Grw.drw {M : Rat → Prop} {p q : Addr} {S0 S S' : Sto} {ms : List Rat} {i : Nat} (g : Grw M p q S0 S ms i) (d : Drw p S S') : Grw M p q S0 S' ms i :=
  ⟨g.ext.drw d, g.own, by rw [d.at g.own.2]; exact g.at', g.len, g.ok⟩
theorem Grw.room {M : Rat → Prop} {p q : Addr} {S0 S : Sto} {ms : List Rat} {i : Nat} (g : Grw M p q S0 S ms i) (h : i ≤ 1000) : (ms.map encR).length < sizeLine :=
  Nat.lt_of_lt_of_le (m := 1001) (by rw [List.length_map, g.len]; omega) (by decide)
end Gx

/-! Gx, data side 17: nets of the second family. -/
namespace Gx
open PySem L2
local macro_rules | `(tactic| simp_arith [$xs,*]) => `(tactic| try simp only [eVar, eC, eBin, eUn, tBl, tAnd', tOr', tNot', eAnd, eOr, eNot, eIf, aNil, aCons, eTup, eLst, eLstM, eCall, eCallK, pick, sNext, sSeq, sBreak, sCont, sDrop, sRet, sRetN, sIf, sNever, gNm, gsNil, gsCons, gTupl, gSubs, sAsg, sPar, sPar3, sFor, iSeq, seqG_tup, seqG_lst, seqG_scr, iRange1, iRange2, iEnumG, iZipG, td_tup, td_lst, td_scr, eLc, eLcM, tYes', pNone, pSome, eSl, cu_tup, cu_lst, cu_scr, eMt, eMt0, mAppend, isL, rs_non, rs_bl, rs_int, rs_str, rs_tup, rs_lst', rs_scr, itemsOf_tup, itemsOf_lst, itemsOf_scr, oI, oI0, oSub, oFdiv, oMod, oPow, oShl, oShr, oAnd, oOr, oXor, oLt, oLe, oGt, oGe, oNeg, oIsN, oNotN, Gx.isNon, oAdd, oAdd', oMul, oMul', oMulM, oEq, oNe, oEqS, oNeS, oIn, oNin, eChain, oIx, oSet, cLen, cList, cListM, cTuple, cSum, cAll, cAny, cInt, cAbs, cMax2, cMin2, cDivmod, cGcd, cIsi, cRepr, lstInts, lstBls, startD, wipeD, List.map_cons, List.map_nil, List.length_cons, List.length_nil, List.cons_append, List.nil_append, List.replicate_succ, List.replicate_zero, List.set_cons_succ, List.set_cons_zero, List.getElem?_cons_succ, List.getElem?_cons_zero, List.filterMap_cons_some, List.filterMap_nil, Nat.reduceAdd, Nat.reduceSub, Nat.sub_self, Nat.reduceLT, Nat.reduceMul, Nat.zero_add, Nat.add_zero, if_true, if_false, and_true, true_and, and_false, false_and, or_true, true_or, or_false, false_or, not_true_eq_false, not_false_eq_true, Bool.not_true, Bool.not_false, Bool.false_eq_true, ite_true, ite_false, reduceIte, reduceCtorEq, eq_self, $xs,*])
/-- rows that grow -/
structure Mat (P : Rat → Prop) (n : Nat) (p q : Addr) (S0 S : Sto) (ws : List (List Rat)) (i : Nat) : Prop where
  ext : Ext p S0 S
  own : Own p S0 q
  at' : S q = some (.lst (ws.map encRow))
  len : ws.length = i
  row : ∀ r ∈ ws, r.length = n
  ok : ∀ r ∈ ws, ∀ x ∈ r, P x
  dia : ∀ j, j < i → (ws.getD j []).getD j 0 = 0
theorem Mat.keep {P : Rat → Prop} {n : Nat} {p q : Addr} {S0 S S' : Sto} {ws : List (List Rat)} {i : Nat} (g : Mat P n p q S0 S ws i) (e : Ext p S0 S') (h : S' q = S q) : Mat P n p q S0 S' ws i :=
  ⟨e, g.own, by rw [h]; exact g.at', g.len, g.row, g.ok, g.dia⟩
theorem Mat.net {P M : Rat → Prop} {n : Nat} {p q : Addr} {S0 S : Sto} {ws : List (List Rat)} (g : Mat P n p q S0 S ws n) {ms : List Rat} (hm : ms.length = n) (h1 : 1 ≤ n) (h8 : n ≤ 8) (ok : ∀ x ∈ ms, M x) : (⟨ws, ms⟩ : Net).Ok ∧ Drn P M ⟨ws, ms⟩ :=
  ⟨⟨by show 1 ≤ ms.length; omega, by show ms.length ≤ 8; omega, by show ws.length = ms.length; rw [hm]; exact g.len, fun r hr => by show r.length = ms.length; rw [hm]; exact g.row r hr, fun i hi => g.dia i (by have hi : i < ms.length := hi; omega)⟩, ⟨g.ok, ok⟩⟩
/-! ### rows of zeros -/
end Gx

/-! Gx, data side 18: rows of zeros that are filled: nets with scales, wheels. -/
namespace Gx
open PySem L2
local macro_rules | `(tactic| simp_arith [$xs,*]) => `(tactic| try simp only [eVar, eC, eBin, eUn, tBl, tAnd', tOr', tNot', eAnd, eOr, eNot, eIf, aNil, aCons, eTup, eLst, eLstM, eCall, eCallK, pick, sNext, sSeq, sBreak, sCont, sDrop, sRet, sRetN, sIf, sNever, gNm, gsNil, gsCons, gTupl, gSubs, sAsg, sPar, sPar3, sFor, iSeq, seqG_tup, seqG_lst, seqG_scr, iRange1, iRange2, iEnumG, iZipG, td_tup, td_lst, td_scr, eLc, eLcM, tYes', pNone, pSome, eSl, cu_tup, cu_lst, cu_scr, eMt, eMt0, mAppend, isL, rs_non, rs_bl, rs_int, rs_str, rs_tup, rs_lst', rs_scr, itemsOf_tup, itemsOf_lst, itemsOf_scr, oI, oI0, oSub, oFdiv, oMod, oPow, oShl, oShr, oAnd, oOr, oXor, oLt, oLe, oGt, oGe, oNeg, oIsN, oNotN, Gx.isNon, oAdd, oAdd', oMul, oMul', oMulM, oEq, oNe, oEqS, oNeS, oIn, oNin, eChain, oIx, oSet, cLen, cList, cListM, cTuple, cSum, cAll, cAny, cInt, cAbs, cMax2, cMin2, cDivmod, cGcd, cIsi, cRepr, lstInts, lstBls, startD, wipeD, List.map_cons, List.map_nil, List.length_cons, List.length_nil, List.cons_append, List.nil_append, List.replicate_succ, List.replicate_zero, List.set_cons_succ, List.set_cons_zero, List.getElem?_cons_succ, List.getElem?_cons_zero, List.filterMap_cons_some, List.filterMap_nil, Nat.reduceAdd, Nat.reduceSub, Nat.sub_self, Nat.reduceLT, Nat.reduceMul, Nat.zero_add, Nat.add_zero, if_true, if_false, and_true, true_and, and_false, false_and, or_true, true_or, or_false, false_or, not_true_eq_false, not_false_eq_true, Bool.not_true, Bool.not_false, Bool.false_eq_true, ite_true, ite_false, reduceIte, reduceCtorEq, eq_self, $xs,*])
def ent (ws : List (List Rat)) (i j : Nat) : Rat := (ws.getD i []).getD j 0
structure Sq (n : Nat) (ws : List (List Rat)) : Prop where
  len : ws.length = n
  row : ∀ r ∈ ws, r.length = n
theorem Sq.at {n : Nat} {ws : List (List Rat)} (s : Sq n ws) {i : Nat} (hi : i < n) : (ws.getD i []).length = n := s.row _ (getD_mem (by rw [s.len]; exact hi))
/-- where it begins: rows of zeros, a list of them -/
structure Fil (n : Nat) (p p3 : Addr) (qs : List Addr) (S0 S : Sto) (ws : List (List Rat)) : Prop where
  ext : Ext p S0 S
  rows : RowsAt p S0 qs S ws
  own : Own p S0 p3
  nin : p3 ∉ qs
  at' : S p3 = some (.lst (refs qs))
  sq : Sq n ws
theorem Fil.len {n : Nat} {p p3 : Addr} {qs : List Addr} {S0 S : Sto} {ws : List (List Rat)} (f : Fil n p p3 qs S0 S ws) : qs.length = n := by rw [f.rows.len, f.sq.len]
theorem Fil.drw {n : Nat} {p p3 : Addr} {qs : List Addr} {S0 S S' : Sto} {ws : List (List Rat)} (f : Fil n p p3 qs S0 S ws) (d : Drw p S S') : Fil n p p3 qs S0 S' ws :=
  ⟨f.ext.drw d, f.rows.same fun q hq => d.at (f.rows.own q hq).2, f.own, f.nin, by rw [d.at f.own.2]; exact f.at', f.sq⟩
theorem Fil.other {n : Nat} {p p3 q : Addr} {qs : List Addr} {S0 S : Sto} {ws : List (List Rat)} (f : Fil n p p3 qs S0 S ws) (o : SO) (hq : Own p S0 q) (h3 : q ≠ p3) (hn : q ∉ qs) : Fil n p p3 qs S0 (up S q o) ws :=
  ⟨f.ext.set hq, f.rows.same fun x hx => up_ne fun z => hn (by rw [← z]; exact hx), f.own, f.nin, by rw [up_ne (Ne.symm h3)]; exact f.at', f.sq⟩
/-! ### wheels -/
end Gx

/-! Gx, data side 19: nets with scales, the second family. -/
namespace Gx
open PySem L2
local macro_rules | `(tactic| simp_arith [$xs,*]) => `(tactic| try simp only [eVar, eC, eBin, eUn, tBl, tAnd', tOr', tNot', eAnd, eOr, eNot, eIf, aNil, aCons, eTup, eLst, eLstM, eCall, eCallK, pick, sNext, sSeq, sBreak, sCont, sDrop, sRet, sRetN, sIf, sNever, gNm, gsNil, gsCons, gTupl, gSubs, sAsg, sPar, sPar3, sFor, iSeq, seqG_tup, seqG_lst, seqG_scr, iRange1, iRange2, iEnumG, iZipG, td_tup, td_lst, td_scr, eLc, eLcM, tYes', pNone, pSome, eSl, cu_tup, cu_lst, cu_scr, eMt, eMt0, mAppend, isL, rs_non, rs_bl, rs_int, rs_str, rs_tup, rs_lst', rs_scr, itemsOf_tup, itemsOf_lst, itemsOf_scr, oI, oI0, oSub, oFdiv, oMod, oPow, oShl, oShr, oAnd, oOr, oXor, oLt, oLe, oGt, oGe, oNeg, oIsN, oNotN, Gx.isNon, oAdd, oAdd', oMul, oMul', oMulM, oEq, oNe, oEqS, oNeS, oIn, oNin, eChain, oIx, oSet, cLen, cList, cListM, cTuple, cSum, cAll, cAny, cInt, cAbs, cMax2, cMin2, cDivmod, cGcd, cIsi, cRepr, lstInts, lstBls, startD, wipeD, List.map_cons, List.map_nil, List.length_cons, List.length_nil, List.cons_append, List.nil_append, List.replicate_succ, List.replicate_zero, List.set_cons_succ, List.set_cons_zero, List.getElem?_cons_succ, List.getElem?_cons_zero, List.filterMap_cons_some, List.filterMap_nil, Nat.reduceAdd, Nat.reduceSub, Nat.sub_self, Nat.reduceLT, Nat.reduceMul, Nat.zero_add, Nat.add_zero, if_true, if_false, and_true, true_and, and_false, false_and, or_true, true_or, or_false, false_or, not_true_eq_false, not_false_eq_true, Bool.not_true, Bool.not_false, Bool.false_eq_true, ite_true, ite_false, reduceIte, reduceCtorEq, eq_self, $xs,*])
end Gx

/-! Gx, data side 20: lifted marks and energies, as the laws reckon them. -/
namespace Gx
open PySem L2
local macro_rules | `(tactic| simp_arith [$xs,*]) => `(tactic| try simp only [eVar, eC, eBin, eUn, tBl, tAnd', tOr', tNot', eAnd, eOr, eNot, eIf, aNil, aCons, eTup, eLst, eLstM, eCall, eCallK, pick, sNext, sSeq, sBreak, sCont, sDrop, sRet, sRetN, sIf, sNever, gNm, gsNil, gsCons, gTupl, gSubs, sAsg, sPar, sPar3, sFor, iSeq, seqG_tup, seqG_lst, seqG_scr, iRange1, iRange2, iEnumG, iZipG, td_tup, td_lst, td_scr, eLc, eLcM, tYes', pNone, pSome, eSl, cu_tup, cu_lst, cu_scr, eMt, eMt0, mAppend, isL, rs_non, rs_bl, rs_int, rs_str, rs_tup, rs_lst', rs_scr, itemsOf_tup, itemsOf_lst, itemsOf_scr, oI, oI0, oSub, oFdiv, oMod, oPow, oShl, oShr, oAnd, oOr, oXor, oLt, oLe, oGt, oGe, oNeg, oIsN, oNotN, Gx.isNon, oAdd, oAdd', oMul, oMul', oMulM, oEq, oNe, oEqS, oNeS, oIn, oNin, eChain, oIx, oSet, cLen, cList, cListM, cTuple, cSum, cAll, cAny, cInt, cAbs, cMax2, cMin2, cDivmod, cGcd, cIsi, cRepr, lstInts, lstBls, startD, wipeD, List.map_cons, List.map_nil, List.length_cons, List.length_nil, List.cons_append, List.nil_append, List.replicate_succ, List.replicate_zero, List.set_cons_succ, List.set_cons_zero, List.getElem?_cons_succ, List.getElem?_cons_zero, List.filterMap_cons_some, List.filterMap_nil, Nat.reduceAdd, Nat.reduceSub, Nat.sub_self, Nat.reduceLT, Nat.reduceMul, Nat.zero_add, Nat.add_zero, if_true, if_false, and_true, true_and, and_false, false_and, or_true, true_or, or_false, false_or, not_true_eq_false, not_false_eq_true, Bool.not_true, Bool.not_false, Bool.false_eq_true, ite_true, ite_false, reduceIte, reduceCtorEq, eq_self, $xs,*])
local macro_rules | `(tactic| simp_arith! [$xs,*]) => `(tactic| try simp only [eVar, eC, eBin, eUn, tBl, tAnd', tOr', tNot', eAnd, eOr, eNot, eIf, aNil, aCons, eTup, eLst, eLstM, eCall, eCallK, pick, sNext, sSeq, sBreak, sCont, sDrop, sRet, sRetN, sIf, sNever, gNm, gsNil, gsCons, gTupl, gSubs, sAsg, sPar, sPar3, sFor, iSeq, seqG_tup, seqG_lst, seqG_scr, iRange1, iRange2, iEnumG, iZipG, td_tup, td_lst, td_scr, eLc, eLcM, tYes', pNone, pSome, eSl, cu_tup, cu_lst, cu_scr, eMt, eMt0, mAppend, isL, rs_non, rs_bl, rs_int, rs_str, rs_tup, rs_lst', rs_scr, itemsOf_tup, itemsOf_lst, itemsOf_scr, oI, oI0, oSub, oFdiv, oMod, oPow, oShl, oShr, oAnd, oOr, oXor, oLt, oLe, oGt, oGe, oNeg, oIsN, oNotN, Gx.isNon, oAdd, oAdd', oMul, oMul', oMulM, oEq, oNe, oEqS, oNeS, oIn, oNin, eChain, oIx, oSet, cLen, cList, cListM, cTuple, cSum, cAll, cAny, cInt, cAbs, cMax2, cMin2, cDivmod, cGcd, cIsi, cRepr, lstInts, lstBls, startD, wipeD, List.map_cons, List.map_nil, List.length_cons, List.length_nil, List.cons_append, List.nil_append, List.replicate_succ, List.replicate_zero, List.set_cons_succ, List.set_cons_zero, List.getElem?_cons_succ, List.getElem?_cons_zero, List.filterMap_cons_some, List.filterMap_nil, Nat.reduceAdd, Nat.reduceSub, Nat.sub_self, Nat.reduceLT, Nat.reduceMul, Nat.zero_add, Nat.add_zero, if_true, if_false, and_true, true_and, and_false, false_and, or_true, true_or, or_false, false_or, not_true_eq_false, not_false_eq_true, Bool.not_true, Bool.not_false, Bool.false_eq_true, ite_true, ite_false, reduceIte, reduceCtorEq, eq_self, rs_N, rs_W, rs_Row, rs_S, rs_R, rs_B, it_N, it_W, it_Row, it_S, it_R, sq_W, sq_Row, sq_S, td_N, td_W, td_Row, td_S, rs_I, it_I, sq_I, td_I, rs_Ss, it_Ss, sq_Ss, td_Ss, cu_S, cu_W, cu_Row, atI_0, atI_1, $xs,*])
/-! ### energies -/
section
variable {N : Net} (ok : N.Ok) (sb : SmB (2 ^ 50) 10 N) {sc : List Rat} (ls : sc.length = N.n) (hs : ∀ q ∈ sc, Scl q)
include ok sb
include ls hs
end
end Gx

/-! Gx, data side 21: helping nets, lots, spreading. -/
namespace Gx
open PySem L2

/-! ### states by cells -/
def joinS (s t : List Bool) : List Bool := List.zipWith (fun a b => a || b) s t
/-! ### nets that help -/
def helping (N : Net) : Bool := N.ws.all fun r => r.all fun q => decide (0 ≤ q)
def rise (N : Net) (s : List Bool) : List Bool := joinS s (wants N s)
def clo (N : Net) : Nat → List Bool → List Bool
  | 0, s => s
  | k + 1, s => if rise N s = s then s else clo N k (rise N s)
/-- all that comes on, from these on -/
def cls (N : Net) (s : List Bool) : List Bool := clo N N.n s
section
variable {N : Net} {s : List Bool}
end
end Gx

/-! Gx, data side 22: helping nets, lots: the library's defs. -/
namespace Gx
open PySem L2
local macro_rules | `(tactic| simp_arith [$xs,*]) => `(tactic| try simp only [eVar, eC, eBin, eUn, tBl, tAnd', tOr', tNot', eAnd, eOr, eNot, eIf, aNil, aCons, eTup, eLst, eLstM, eCall, eCallK, pick, sNext, sSeq, sBreak, sCont, sDrop, sRet, sRetN, sIf, sNever, gNm, gsNil, gsCons, gTupl, gSubs, sAsg, sPar, sPar3, sFor, iSeq, seqG_tup, seqG_lst, seqG_scr, iRange1, iRange2, iEnumG, iZipG, td_tup, td_lst, td_scr, eLc, eLcM, tYes', pNone, pSome, eSl, cu_tup, cu_lst, cu_scr, eMt, eMt0, mAppend, isL, rs_non, rs_bl, rs_int, rs_str, rs_tup, rs_lst', rs_scr, itemsOf_tup, itemsOf_lst, itemsOf_scr, oI, oI0, oSub, oFdiv, oMod, oPow, oShl, oShr, oAnd, oOr, oXor, oLt, oLe, oGt, oGe, oNeg, oIsN, oNotN, Gx.isNon, oAdd, oAdd', oMul, oMul', oMulM, oEq, oNe, oEqS, oNeS, oIn, oNin, eChain, oIx, oSet, cLen, cList, cListM, cTuple, cSum, cAll, cAny, cInt, cAbs, cMax2, cMin2, cDivmod, cGcd, cIsi, cRepr, lstInts, lstBls, startD, wipeD, List.map_cons, List.map_nil, List.length_cons, List.length_nil, List.cons_append, List.nil_append, List.replicate_succ, List.replicate_zero, List.set_cons_succ, List.set_cons_zero, List.getElem?_cons_succ, List.getElem?_cons_zero, List.filterMap_cons_some, List.filterMap_nil, Nat.reduceAdd, Nat.reduceSub, Nat.sub_self, Nat.reduceLT, Nat.reduceMul, Nat.zero_add, Nat.add_zero, if_true, if_false, and_true, true_and, and_false, false_and, or_true, true_or, or_false, false_or, not_true_eq_false, not_false_eq_true, Bool.not_true, Bool.not_false, Bool.false_eq_true, ite_true, ite_false, reduceIte, reduceCtorEq, eq_self, $xs,*])
local macro_rules | `(tactic| simp_arith! [$xs,*]) => `(tactic| try simp only [eVar, eC, eBin, eUn, tBl, tAnd', tOr', tNot', eAnd, eOr, eNot, eIf, aNil, aCons, eTup, eLst, eLstM, eCall, eCallK, pick, sNext, sSeq, sBreak, sCont, sDrop, sRet, sRetN, sIf, sNever, gNm, gsNil, gsCons, gTupl, gSubs, sAsg, sPar, sPar3, sFor, iSeq, seqG_tup, seqG_lst, seqG_scr, iRange1, iRange2, iEnumG, iZipG, td_tup, td_lst, td_scr, eLc, eLcM, tYes', pNone, pSome, eSl, cu_tup, cu_lst, cu_scr, eMt, eMt0, mAppend, isL, rs_non, rs_bl, rs_int, rs_str, rs_tup, rs_lst', rs_scr, itemsOf_tup, itemsOf_lst, itemsOf_scr, oI, oI0, oSub, oFdiv, oMod, oPow, oShl, oShr, oAnd, oOr, oXor, oLt, oLe, oGt, oGe, oNeg, oIsN, oNotN, Gx.isNon, oAdd, oAdd', oMul, oMul', oMulM, oEq, oNe, oEqS, oNeS, oIn, oNin, eChain, oIx, oSet, cLen, cList, cListM, cTuple, cSum, cAll, cAny, cInt, cAbs, cMax2, cMin2, cDivmod, cGcd, cIsi, cRepr, lstInts, lstBls, startD, wipeD, List.map_cons, List.map_nil, List.length_cons, List.length_nil, List.cons_append, List.nil_append, List.replicate_succ, List.replicate_zero, List.set_cons_succ, List.set_cons_zero, List.getElem?_cons_succ, List.getElem?_cons_zero, List.filterMap_cons_some, List.filterMap_nil, Nat.reduceAdd, Nat.reduceSub, Nat.sub_self, Nat.reduceLT, Nat.reduceMul, Nat.zero_add, Nat.add_zero, if_true, if_false, and_true, true_and, and_false, false_and, or_true, true_or, or_false, false_or, not_true_eq_false, not_false_eq_true, Bool.not_true, Bool.not_false, Bool.false_eq_true, ite_true, ite_false, reduceIte, reduceCtorEq, eq_self, rs_N, rs_W, rs_Row, rs_S, rs_R, rs_B, it_N, it_W, it_Row, it_S, it_R, sq_W, sq_Row, sq_S, td_N, td_W, td_Row, td_S, rs_I, it_I, sq_I, td_I, rs_Ss, it_Ss, sq_Ss, td_Ss, cu_S, cu_W, cu_Row, atI_0, atI_1, $xs,*])
/-! ### lots -/
/-! ### lit cells -/
def lit (n : Nat) (l : List Nat) : List Bool := (List.range n).map fun i => decide (i ∈ l)
/-! ### spreading -/
end Gx

/-! Gx, data side 23: drawn nets of the first family. -/
namespace Gx
open PySem L2
local macro_rules | `(tactic| simp_arith [$xs,*]) => `(tactic| try simp only [eVar, eC, eBin, eUn, tBl, tAnd', tOr', tNot', eAnd, eOr, eNot, eIf, aNil, aCons, eTup, eLst, eLstM, eCall, eCallK, pick, sNext, sSeq, sBreak, sCont, sDrop, sRet, sRetN, sIf, sNever, gNm, gsNil, gsCons, gTupl, gSubs, sAsg, sPar, sPar3, sFor, iSeq, seqG_tup, seqG_lst, seqG_scr, iRange1, iRange2, iEnumG, iZipG, td_tup, td_lst, td_scr, eLc, eLcM, tYes', pNone, pSome, eSl, cu_tup, cu_lst, cu_scr, eMt, eMt0, mAppend, isL, rs_non, rs_bl, rs_int, rs_str, rs_tup, rs_lst', rs_scr, itemsOf_tup, itemsOf_lst, itemsOf_scr, oI, oI0, oSub, oFdiv, oMod, oPow, oShl, oShr, oAnd, oOr, oXor, oLt, oLe, oGt, oGe, oNeg, oIsN, oNotN, Gx.isNon, oAdd, oAdd', oMul, oMul', oMulM, oEq, oNe, oEqS, oNeS, oIn, oNin, eChain, oIx, oSet, cLen, cList, cListM, cTuple, cSum, cAll, cAny, cInt, cAbs, cMax2, cMin2, cDivmod, cGcd, cIsi, cRepr, lstInts, lstBls, startD, wipeD, List.map_cons, List.map_nil, List.length_cons, List.length_nil, List.cons_append, List.nil_append, List.replicate_succ, List.replicate_zero, List.set_cons_succ, List.set_cons_zero, List.getElem?_cons_succ, List.getElem?_cons_zero, List.filterMap_cons_some, List.filterMap_nil, Nat.reduceAdd, Nat.reduceSub, Nat.sub_self, Nat.reduceLT, Nat.reduceMul, Nat.zero_add, Nat.add_zero, if_true, if_false, and_true, true_and, and_false, false_and, or_true, true_or, or_false, false_or, not_true_eq_false, not_false_eq_true, Bool.not_true, Bool.not_false, Bool.false_eq_true, ite_true, ite_false, reduceIte, reduceCtorEq, eq_self, $xs,*])
local macro_rules | `(tactic| simp_arith! [$xs,*]) => `(tactic| try simp only [eVar, eC, eBin, eUn, tBl, tAnd', tOr', tNot', eAnd, eOr, eNot, eIf, aNil, aCons, eTup, eLst, eLstM, eCall, eCallK, pick, sNext, sSeq, sBreak, sCont, sDrop, sRet, sRetN, sIf, sNever, gNm, gsNil, gsCons, gTupl, gSubs, sAsg, sPar, sPar3, sFor, iSeq, seqG_tup, seqG_lst, seqG_scr, iRange1, iRange2, iEnumG, iZipG, td_tup, td_lst, td_scr, eLc, eLcM, tYes', pNone, pSome, eSl, cu_tup, cu_lst, cu_scr, eMt, eMt0, mAppend, isL, rs_non, rs_bl, rs_int, rs_str, rs_tup, rs_lst', rs_scr, itemsOf_tup, itemsOf_lst, itemsOf_scr, oI, oI0, oSub, oFdiv, oMod, oPow, oShl, oShr, oAnd, oOr, oXor, oLt, oLe, oGt, oGe, oNeg, oIsN, oNotN, Gx.isNon, oAdd, oAdd', oMul, oMul', oMulM, oEq, oNe, oEqS, oNeS, oIn, oNin, eChain, oIx, oSet, cLen, cList, cListM, cTuple, cSum, cAll, cAny, cInt, cAbs, cMax2, cMin2, cDivmod, cGcd, cIsi, cRepr, lstInts, lstBls, startD, wipeD, List.map_cons, List.map_nil, List.length_cons, List.length_nil, List.cons_append, List.nil_append, List.replicate_succ, List.replicate_zero, List.set_cons_succ, List.set_cons_zero, List.getElem?_cons_succ, List.getElem?_cons_zero, List.filterMap_cons_some, List.filterMap_nil, Nat.reduceAdd, Nat.reduceSub, Nat.sub_self, Nat.reduceLT, Nat.reduceMul, Nat.zero_add, Nat.add_zero, if_true, if_false, and_true, true_and, and_false, false_and, or_true, true_or, or_false, false_or, not_true_eq_false, not_false_eq_true, Bool.not_true, Bool.not_false, Bool.false_eq_true, ite_true, ite_false, reduceIte, reduceCtorEq, eq_self, rs_N, rs_W, rs_Row, rs_S, rs_R, rs_B, it_N, it_W, it_Row, it_S, it_R, sq_W, sq_Row, sq_S, td_N, td_W, td_Row, td_S, rs_I, it_I, sq_I, td_I, rs_Ss, it_Ss, sq_Ss, td_Ss, cu_S, cu_W, cu_Row, atI_0, atI_1, $xs,*])
abbrev PW : Rat → Prop := Bd 6000000 10
/-! ### cells that chase one another -/
theorem NetAt.drw {P M : Rat → Prop} {p p3 p4 : Addr} {n i : Nat} {S0 S S' : Sto} {ws : List (List Rat)} {ms : List Rat} (a : NetAt P M p p3 p4 n i S0 S ws ms) (o3 : Own p S0 p3) (o4 : Own p S0 p4) (d : Drw p S S') : NetAt P M p p3 p4 n i S0 S' ws ms :=
  ⟨a.ext.drw d, by rw [d.at o3.2]; exact a.rows, by rw [d.at o4.2]; exact a.marks, a.lw, a.lm, a.lr, a.hp, a.hm, a.dia⟩
end Gx

/-! Gx, data side 24: the end of most laws. -/
namespace Gx
open PySem L2
local macro_rules | `(tactic| simp_arith [$xs,*]) => `(tactic| try simp only [eVar, eC, eBin, eUn, tBl, tAnd', tOr', tNot', eAnd, eOr, eNot, eIf, aNil, aCons, eTup, eLst, eLstM, eCall, eCallK, pick, sNext, sSeq, sBreak, sCont, sDrop, sRet, sRetN, sIf, sNever, gNm, gsNil, gsCons, gTupl, gSubs, sAsg, sPar, sPar3, sFor, iSeq, seqG_tup, seqG_lst, seqG_scr, iRange1, iRange2, iEnumG, iZipG, td_tup, td_lst, td_scr, eLc, eLcM, tYes', pNone, pSome, eSl, cu_tup, cu_lst, cu_scr, eMt, eMt0, mAppend, isL, rs_non, rs_bl, rs_int, rs_str, rs_tup, rs_lst', rs_scr, itemsOf_tup, itemsOf_lst, itemsOf_scr, oI, oI0, oSub, oFdiv, oMod, oPow, oShl, oShr, oAnd, oOr, oXor, oLt, oLe, oGt, oGe, oNeg, oIsN, oNotN, Gx.isNon, oAdd, oAdd', oMul, oMul', oMulM, oEq, oNe, oEqS, oNeS, oIn, oNin, eChain, oIx, oSet, cLen, cList, cListM, cTuple, cSum, cAll, cAny, cInt, cAbs, cMax2, cMin2, cDivmod, cGcd, cIsi, cRepr, lstInts, lstBls, startD, wipeD, List.map_cons, List.map_nil, List.length_cons, List.length_nil, List.cons_append, List.nil_append, List.replicate_succ, List.replicate_zero, List.set_cons_succ, List.set_cons_zero, List.getElem?_cons_succ, List.getElem?_cons_zero, List.filterMap_cons_some, List.filterMap_nil, Nat.reduceAdd, Nat.reduceSub, Nat.sub_self, Nat.reduceLT, Nat.reduceMul, Nat.zero_add, Nat.add_zero, if_true, if_false, and_true, true_and, and_false, false_and, or_true, true_or, or_false, false_or, not_true_eq_false, not_false_eq_true, Bool.not_true, Bool.not_false, Bool.false_eq_true, ite_true, ite_false, reduceIte, reduceCtorEq, eq_self, $xs,*])
/-- one lap of a law -/
def γ_lap : OL := fun ds S R => ∃ p : Addr, ds = [.ref p] ∧ Well p S ∧ ∀ S', Drw p S S' → R (.bl true) S'
end Gx

/-! Gx, data side 25: which numbers are come to from one; rings; ends. Plain. -/
namespace Gx
open PySem L2
/-! ### lists without doubles -/
theorem nd_len {α : Type} [DecidableEq α] : ∀ {l m : List α}, l.Nodup → (∀ x ∈ l, x ∈ m) → l.length ≤ m.length
  | [], _, _, _ => Nat.zero_le _
  | x :: l, m, h, hs => by
    rw [List.nodup_cons] at h
    have hx := hs x List.mem_cons_self
    have ih := nd_len (m := m.erase x) h.2 fun y hy => (List.mem_erase_of_ne (fun z => by subst z; exact h.1 hy)).mpr (hs y (List.mem_cons_of_mem _ hy))
    rw [List.length_erase_of_mem hx] at ih
    have := List.length_pos_of_mem hx
    rw [List.length_cons]
    omega
theorem nd_lt {l : List Nat} {m : Nat} (h : l.Nodup) (hs : ∀ x ∈ l, x < m) : l.length ≤ m := by
  have := nd_len (m := List.range m) h fun x hx => List.mem_range.mpr (hs x hx)
  rw [List.length_range] at this
  exact this
/-- sorted numbers -/
def srt (l : List Nat) : List Nat := l.mergeSort fun a b => decide (a ≤ b)
/-! ### moves -/
abbrev Gr := List (List Nat)
def rw' (ms : Gr) (i : Nat) : List Nat := ms.getD i []
structure GOk (ms : Gr) : Prop where
  lt : ∀ i, ∀ j ∈ rw' ms i, j < ms.length
  nd : ∀ i, (rw' ms i).Nodup
def bStep (ms : Gr) (l : List Nat) (t : Nat) : List Nat := match l[t]? with
  | some x => l ++ (rw' ms x).filter fun y => decide (y ∉ l)
  | none => l
def bfs (ms : Gr) (s : Nat) : Nat → List Nat
  | 0 => [s]
  | t + 1 => bStep ms (bfs ms s t) t
/-- all that is come to -/
def reach (ms : Gr) (s : Nat) : List Nat := bfs ms s ms.length
section
variable {ms : Gr} {s : Nat}
/-! ### rings, ends -/
def cyc (ms : Gr) (n : Nat) : Bool := (rw' ms n).any fun e => decide (n ∈ reach ms e)
def calm (ms : Gr) (s : Nat) : Bool := !(reach ms s).any (cyc ms)
def isEnd (ms : Gr) (n : Nat) : Bool := decide (rw' ms n = [])
def endsN (ms : Gr) (s : Nat) : List Nat := (srt (reach ms s)).filter (isEnd ms)
def sure (ms : Gr) (s : Nat) : Bool := calm ms s && decide ((endsN ms s).length = 1)
/-! ### how long rows of moves may be -/
end
end Gx

--W2
/-! Gx, data side 26: moves as numbers, what is come to, ends. -/
namespace Gx
open PySem L2
local macro_rules | `(tactic| simp_arith [$xs,*]) => `(tactic| try simp only [eVar, eC, eBin, eUn, tBl, tAnd', tOr', tNot', eAnd, eOr, eNot, eIf, aNil, aCons, eTup, eLst, eLstM, eCall, eCallK, pick, sNext, sSeq, sBreak, sCont, sDrop, sRet, sRetN, sIf, sNever, gNm, gsNil, gsCons, gTupl, gSubs, sAsg, sPar, sPar3, sFor, iSeq, seqG_tup, seqG_lst, seqG_scr, iRange1, iRange2, iEnumG, iZipG, td_tup, td_lst, td_scr, eLc, eLcM, tYes', pNone, pSome, eSl, cu_tup, cu_lst, cu_scr, eMt, eMt0, mAppend, isL, rs_non, rs_bl, rs_int, rs_str, rs_tup, rs_lst', rs_scr, itemsOf_tup, itemsOf_lst, itemsOf_scr, oI, oI0, oSub, oFdiv, oMod, oPow, oShl, oShr, oAnd, oOr, oXor, oLt, oLe, oGt, oGe, oNeg, oIsN, oNotN, Gx.isNon, oAdd, oAdd', oMul, oMul', oMulM, oEq, oNe, oEqS, oNeS, oIn, oNin, eChain, oIx, oSet, cLen, cList, cListM, cTuple, cSum, cAll, cAny, cInt, cAbs, cMax2, cMin2, cDivmod, cGcd, cIsi, cRepr, lstInts, lstBls, startD, wipeD, List.map_cons, List.map_nil, List.length_cons, List.length_nil, List.cons_append, List.nil_append, List.replicate_succ, List.replicate_zero, List.set_cons_succ, List.set_cons_zero, List.getElem?_cons_succ, List.getElem?_cons_zero, List.filterMap_cons_some, List.filterMap_nil, Nat.reduceAdd, Nat.reduceSub, Nat.sub_self, Nat.reduceLT, Nat.reduceMul, Nat.zero_add, Nat.add_zero, if_true, if_false, and_true, true_and, and_false, false_and, or_true, true_or, or_false, false_or, not_true_eq_false, not_false_eq_true, Bool.not_true, Bool.not_false, Bool.false_eq_true, ite_true, ite_false, reduceIte, reduceCtorEq, eq_self, eDicT0, eDixT, gSubsT, keysOf, cListT, cSortedP, oSubB, oMulT, iZip2G, eDic0, eDic1, oDix, oDin, oDnin, oDset, iKeysG, cSortedE, cListD, Gx.keyOf, cMaxL, cMinL, cSortedI, mIndex, $xs,*])
local macro_rules | `(tactic| simp_arith! [$xs,*]) => `(tactic| try simp only [eVar, eC, eBin, eUn, tBl, tAnd', tOr', tNot', eAnd, eOr, eNot, eIf, aNil, aCons, eTup, eLst, eLstM, eCall, eCallK, pick, sNext, sSeq, sBreak, sCont, sDrop, sRet, sRetN, sIf, sNever, gNm, gsNil, gsCons, gTupl, gSubs, sAsg, sPar, sPar3, sFor, iSeq, seqG_tup, seqG_lst, seqG_scr, iRange1, iRange2, iEnumG, iZipG, td_tup, td_lst, td_scr, eLc, eLcM, tYes', pNone, pSome, eSl, cu_tup, cu_lst, cu_scr, eMt, eMt0, mAppend, isL, rs_non, rs_bl, rs_int, rs_str, rs_tup, rs_lst', rs_scr, itemsOf_tup, itemsOf_lst, itemsOf_scr, oI, oI0, oSub, oFdiv, oMod, oPow, oShl, oShr, oAnd, oOr, oXor, oLt, oLe, oGt, oGe, oNeg, oIsN, oNotN, Gx.isNon, oAdd, oAdd', oMul, oMul', oMulM, oEq, oNe, oEqS, oNeS, oIn, oNin, eChain, oIx, oSet, cLen, cList, cListM, cTuple, cSum, cAll, cAny, cInt, cAbs, cMax2, cMin2, cDivmod, cGcd, cIsi, cRepr, lstInts, lstBls, startD, wipeD, List.map_cons, List.map_nil, List.length_cons, List.length_nil, List.cons_append, List.nil_append, List.replicate_succ, List.replicate_zero, List.set_cons_succ, List.set_cons_zero, List.getElem?_cons_succ, List.getElem?_cons_zero, List.filterMap_cons_some, List.filterMap_nil, Nat.reduceAdd, Nat.reduceSub, Nat.sub_self, Nat.reduceLT, Nat.reduceMul, Nat.zero_add, Nat.add_zero, if_true, if_false, and_true, true_and, and_false, false_and, or_true, true_or, or_false, false_or, not_true_eq_false, not_false_eq_true, Bool.not_true, Bool.not_false, Bool.false_eq_true, ite_true, ite_false, reduceIte, reduceCtorEq, eq_self, eDicT0, eDixT, gSubsT, keysOf, cListT, cSortedP, oSubB, oMulT, iZip2G, eDic0, eDic1, oDix, oDin, oDnin, oDset, iKeysG, cSortedE, cListD, Gx.keyOf, cMaxL, cMinL, cSortedI, mIndex, rs_N, rs_W, rs_Row, rs_S, rs_R, rs_B, it_N, it_W, it_Row, it_S, it_R, sq_W, sq_Row, sq_S, td_N, td_W, td_Row, td_S, rs_I, it_I, sq_I, td_I, rs_Ss, it_Ss, sq_Ss, td_Ss, cu_S, cu_W, cu_Row, atI_0, atI_1, $xs,*])
/-! ### while -/
/-! ### numbers of states -/
theorem sum_bits' : ∀ s : List Bool, ((List.range s.length).map fun i : Nat => bit (s.getD i false) * (2 : Int) ^ i).sum = (numOf s : Nat)
  | [] => rfl
  | b :: s => by
    have ih := sum_bits' s
    rw [List.length_cons, List.range_succ_eq_map, List.map_cons, List.map_map, List.sum_cons, numOf_cons]
    have e : (List.range s.length).map ((fun i : Nat => bit ((b :: s).getD i false) * (2 : Int) ^ i) ∘ Nat.succ) = ((List.range s.length).map fun i : Nat => bit (s.getD i false) * (2 : Int) ^ i).map (2 * ·) := by
      rw [List.map_map]
      apply List.map_congr_left
      intro i _
      show bit ((b :: s).getD (i + 1) false) * (2 : Int) ^ (i + 1) = 2 * (bit (s.getD i false) * 2 ^ i)
      rw [show (b :: s).getD (i + 1) false = s.getD i false from rfl, Int.pow_succ, ← Int.mul_assoc, Int.mul_comm]
    have dbl : ∀ l : List Int, (l.map (2 * ·)).sum = 2 * l.sum := fun l => by
      induction l with
      | nil => rfl
      | cons x l ih => rw [List.map_cons, List.sum_cons, List.sum_cons, ih]; omega
    rw [e, dbl, ih]
    show bit b * (2 : Int) ^ 0 + _ = _
    rw [Int.pow_zero, Int.mul_one]
    cases b
    · show (0 : Int) + _ = ((0 + 2 * numOf s : Nat) : Int)
      omega
    · show (1 : Int) + _ = ((1 + 2 * numOf s : Nat) : Int)
      omega
def γ_num : OL := fun ds S R => ∃ s : List Bool, ds = [encS s] ∧ s.length ≤ 1000 ∧ R (.int (numOf s : Nat)) S
def body_num : ST := sRet (eCall cSum (aCons (eLc (iEnumG (aCons (eVar 0) (aNil))) (gTupl 2 (gsCons (gNm 1) (gsCons (gNm 2) (gsNil)))) (tYes') (eBin oShl (eVar 2) (eVar 1)) [1, 2]) (aNil)))
theorem law_num : Law 3 γ_num body_num := by
  intro ds S R ⟨s, e, hl, h⟩
  subst e
  have q := fin_of h
  unfold body_num
  simp_arith! []
  rw [enumD_map0, zipIdx_range false, List.map_map]
  refine lc_map (fun i : Nat => .tup [.int i, encB (s.getD i false)]) (fun i : Nat => .int (bit (s.getD i false) * (2 : Int) ^ i)) (List.range s.length) [] (fun i hi Q hQ => ?_) trivial (sz1000 (by rw [List.length_range, List.length_nil]; omega)) ?_
  · have hi := List.mem_range.mp hi
    simp_arith [wipeD, encB, Int.toNat_natCast]
    refine ⟨⟨by omega, by omega, ?_⟩, hQ⟩
    cases s.getD i false <;> decide
  · have e : (List.range s.length).map (fun i : Nat => D.int (bit (s.getD i false) * (2 : Int) ^ i)) = ((List.range s.length).map fun i : Nat => bit (s.getD i false) * (2 : Int) ^ i).map .int := by rw [List.map_map]; rfl
    rw [List.nil_append, e]
    simp_arith [intsOf_map]
    rw [sum_bits']
    exact q

/-! ### all moves -/
end Gx

--W2
/-! Gx, data side 27: what is come to from a number; how long rows of moves may be. -/
namespace Gx
open PySem L2
local macro_rules | `(tactic| simp_arith [$xs,*]) => `(tactic| try simp only [eVar, eC, eBin, eUn, tBl, tAnd', tOr', tNot', eAnd, eOr, eNot, eIf, aNil, aCons, eTup, eLst, eLstM, eCall, eCallK, pick, sNext, sSeq, sBreak, sCont, sDrop, sRet, sRetN, sIf, sNever, gNm, gsNil, gsCons, gTupl, gSubs, sAsg, sPar, sPar3, sFor, iSeq, seqG_tup, seqG_lst, seqG_scr, iRange1, iRange2, iEnumG, iZipG, td_tup, td_lst, td_scr, eLc, eLcM, tYes', pNone, pSome, eSl, cu_tup, cu_lst, cu_scr, eMt, eMt0, mAppend, isL, rs_non, rs_bl, rs_int, rs_str, rs_tup, rs_lst', rs_scr, itemsOf_tup, itemsOf_lst, itemsOf_scr, oI, oI0, oSub, oFdiv, oMod, oPow, oShl, oShr, oAnd, oOr, oXor, oLt, oLe, oGt, oGe, oNeg, oIsN, oNotN, Gx.isNon, oAdd, oAdd', oMul, oMul', oMulM, oEq, oNe, oEqS, oNeS, oIn, oNin, eChain, oIx, oSet, cLen, cList, cListM, cTuple, cSum, cAll, cAny, cInt, cAbs, cMax2, cMin2, cDivmod, cGcd, cIsi, cRepr, lstInts, lstBls, startD, wipeD, List.map_cons, List.map_nil, List.length_cons, List.length_nil, List.cons_append, List.nil_append, List.replicate_succ, List.replicate_zero, List.set_cons_succ, List.set_cons_zero, List.getElem?_cons_succ, List.getElem?_cons_zero, List.filterMap_cons_some, List.filterMap_nil, Nat.reduceAdd, Nat.reduceSub, Nat.sub_self, Nat.reduceLT, Nat.reduceMul, Nat.zero_add, Nat.add_zero, if_true, if_false, and_true, true_and, and_false, false_and, or_true, true_or, or_false, false_or, not_true_eq_false, not_false_eq_true, Bool.not_true, Bool.not_false, Bool.false_eq_true, ite_true, ite_false, reduceIte, reduceCtorEq, eq_self, eDicT0, eDixT, gSubsT, keysOf, cListT, cSortedP, oSubB, oMulT, iZip2G, eDic0, eDic1, oDix, oDin, oDnin, oDset, iKeysG, cSortedE, cListD, Gx.keyOf, cMaxL, cMinL, cSortedI, mIndex, $xs,*])
/-! ### reached_from -/
abbrev keyN (i : Nat) : Key := Sum.inl (i : Int)
theorem dct_of {S : Sto} {p : Addr} {kvs : List (Key × D)} (h : S p = some (.dK kvs)) : dctAt S (.ref p) = some kvs := by simp only [dctAt, h]
/-- the moves of a net of some cells -/
structure GB (ms : Gr) : Prop extends GOk ms where
  few : ms.length ≤ 256
end Gx

--W2
/-! Gx, data side 28: how many moves can be made. -/
namespace Gx
open PySem L2
local macro_rules | `(tactic| simp_arith [$xs,*]) => `(tactic| try simp only [eVar, eC, eBin, eUn, tBl, tAnd', tOr', tNot', eAnd, eOr, eNot, eIf, aNil, aCons, eTup, eLst, eLstM, eCall, eCallK, pick, sNext, sSeq, sBreak, sCont, sDrop, sRet, sRetN, sIf, sNever, gNm, gsNil, gsCons, gTupl, gSubs, sAsg, sPar, sPar3, sFor, iSeq, seqG_tup, seqG_lst, seqG_scr, iRange1, iRange2, iEnumG, iZipG, td_tup, td_lst, td_scr, eLc, eLcM, tYes', pNone, pSome, eSl, cu_tup, cu_lst, cu_scr, eMt, eMt0, mAppend, isL, rs_non, rs_bl, rs_int, rs_str, rs_tup, rs_lst', rs_scr, itemsOf_tup, itemsOf_lst, itemsOf_scr, oI, oI0, oSub, oFdiv, oMod, oPow, oShl, oShr, oAnd, oOr, oXor, oLt, oLe, oGt, oGe, oNeg, oIsN, oNotN, Gx.isNon, oAdd, oAdd', oMul, oMul', oMulM, oEq, oNe, oEqS, oNeS, oIn, oNin, eChain, oIx, oSet, cLen, cList, cListM, cTuple, cSum, cAll, cAny, cInt, cAbs, cMax2, cMin2, cDivmod, cGcd, cIsi, cRepr, lstInts, lstBls, startD, wipeD, List.map_cons, List.map_nil, List.length_cons, List.length_nil, List.cons_append, List.nil_append, List.replicate_succ, List.replicate_zero, List.set_cons_succ, List.set_cons_zero, List.getElem?_cons_succ, List.getElem?_cons_zero, List.filterMap_cons_some, List.filterMap_nil, Nat.reduceAdd, Nat.reduceSub, Nat.sub_self, Nat.reduceLT, Nat.reduceMul, Nat.zero_add, Nat.add_zero, if_true, if_false, and_true, true_and, and_false, false_and, or_true, true_or, or_false, false_or, not_true_eq_false, not_false_eq_true, Bool.not_true, Bool.not_false, Bool.false_eq_true, ite_true, ite_false, reduceIte, reduceCtorEq, eq_self, eDicT0, eDixT, gSubsT, keysOf, cListT, cSortedP, oSubB, oMulT, iZip2G, eDic0, eDic1, oDix, oDin, oDnin, oDset, iKeysG, cSortedE, cListD, Gx.keyOf, cMaxL, cMinL, cSortedI, mIndex, $xs,*])
def nn (f : List (Option Nat)) : Nat := f.countP (·.isNone)
structure HtP (ms : Gr) (f : List (Option Nat)) : Prop where
  len : f.length = ms.length
  z : ∀ i, i < ms.length → rw' ms i = [] → f.getD i none = some 0
  so : ∀ i v, i < ms.length → f.getD i none = some v → ∀ j ∈ rw' ms i, ∃ w, f.getD j none = some w ∧ w < v
  ex : ∀ i v, i < ms.length → f.getD i none = some v → (rw' ms i = [] ∧ v = 0) ∨ ∃ j ∈ rw' ms i, ∃ w, f.getD j none = some w ∧ v = w + 1
theorem getD_setO {f : List (Option Nat)} {i j : Nat} {o : Option Nat} (hi : i < f.length) : (f.set i o).getD j none = if j = i then o else f.getD j none := by
  rw [List.getD_eq_getElem?_getD, List.getD_eq_getElem?_getD, List.getElem?_set]
  by_cases z : j = i
  · subst z; rw [if_pos rfl, if_pos rfl, if_pos hi]; rfl
  · rw [if_neg (Ne.symm z), if_neg z]
theorem HtP.set {ms : Gr} {f : List (Option Nat)} (h : HtP ms f) {i : Nat} (hi : i < ms.length) (e : f.getD i none = none) {m : Nat}
    (hj : ∀ j ∈ rw' ms i, ∃ w, f.getD j none = some w ∧ w ≤ m) (hm : ∃ j ∈ rw' ms i, f.getD j none = some m) : HtP ms (f.set i (some (m + 1))) := by
  have hl : i < f.length := by rw [h.len]; exact hi
  have ne : ∀ j w, f.getD j none = some w → j ≠ i := fun j w e1 y => by rw [y, e] at e1; cases e1
  have keep : ∀ j w, f.getD j none = some w → (f.set i (some (m + 1))).getD j none = some w := fun j w e1 => by rw [getD_setO hl, if_neg (ne j w e1), e1]
  refine ⟨by rw [List.length_set]; exact h.len, fun a ha z => ?_, fun a v ha z j hj' => ?_, fun a v ha z => ?_⟩
  · exact keep a 0 (h.z a ha z)
  · rw [getD_setO hl] at z
    by_cases y : a = i
    · rw [if_pos y] at z
      cases z
      rw [y] at hj'
      obtain ⟨w, e1, l⟩ := hj j hj'
      exact ⟨w, keep j w e1, by omega⟩
    · rw [if_neg y] at z
      obtain ⟨w, e1, l⟩ := h.so a v ha z j hj'
      exact ⟨w, keep j w e1, l⟩
  · rw [getD_setO hl] at z
    by_cases y : a = i
    · rw [if_pos y] at z
      cases z
      obtain ⟨j, hj', e1⟩ := hm
      rw [y]
      exact .inr ⟨j, hj', m, keep j m e1, rfl⟩
    · rw [if_neg y] at z
      rcases h.ex a v ha z with h1 | ⟨j, hj', w, e1, l⟩
      · exact .inl h1
      · exact .inr ⟨j, hj', w, keep j w e1, l⟩
end Gx

--W2
/-! Gx, data side 29: ends, sure ends, folds; the same as the laws reckon them. -/
namespace Gx
open PySem L2
local macro_rules | `(tactic| simp_arith [$xs,*]) => `(tactic| try simp only [eVar, eC, eBin, eUn, tBl, tAnd', tOr', tNot', eAnd, eOr, eNot, eIf, aNil, aCons, eTup, eLst, eLstM, eCall, eCallK, pick, sNext, sSeq, sBreak, sCont, sDrop, sRet, sRetN, sIf, sNever, gNm, gsNil, gsCons, gTupl, gSubs, sAsg, sPar, sPar3, sFor, iSeq, seqG_tup, seqG_lst, seqG_scr, iRange1, iRange2, iEnumG, iZipG, td_tup, td_lst, td_scr, eLc, eLcM, tYes', pNone, pSome, eSl, cu_tup, cu_lst, cu_scr, eMt, eMt0, mAppend, isL, rs_non, rs_bl, rs_int, rs_str, rs_tup, rs_lst', rs_scr, itemsOf_tup, itemsOf_lst, itemsOf_scr, oI, oI0, oSub, oFdiv, oMod, oPow, oShl, oShr, oAnd, oOr, oXor, oLt, oLe, oGt, oGe, oNeg, oIsN, oNotN, Gx.isNon, oAdd, oAdd', oMul, oMul', oMulM, oEq, oNe, oEqS, oNeS, oIn, oNin, eChain, oIx, oSet, cLen, cList, cListM, cTuple, cSum, cAll, cAny, cInt, cAbs, cMax2, cMin2, cDivmod, cGcd, cIsi, cRepr, lstInts, lstBls, startD, wipeD, List.map_cons, List.map_nil, List.length_cons, List.length_nil, List.cons_append, List.nil_append, List.replicate_succ, List.replicate_zero, List.set_cons_succ, List.set_cons_zero, List.getElem?_cons_succ, List.getElem?_cons_zero, List.filterMap_cons_some, List.filterMap_nil, Nat.reduceAdd, Nat.reduceSub, Nat.sub_self, Nat.reduceLT, Nat.reduceMul, Nat.zero_add, Nat.add_zero, if_true, if_false, and_true, true_and, and_false, false_and, or_true, true_or, or_false, false_or, not_true_eq_false, not_false_eq_true, Bool.not_true, Bool.not_false, Bool.false_eq_true, ite_true, ite_false, reduceIte, reduceCtorEq, eq_self, eDicT0, eDixT, gSubsT, keysOf, cListT, cSortedP, oSubB, oMulT, iZip2G, eDic0, eDic1, oDix, oDin, oDnin, oDset, iKeysG, cSortedE, cListD, Gx.keyOf, cMaxL, cMinL, cSortedI, mIndex, $xs,*])
/-! ### end_numbers -/
/-! ### states_of -/
/-! ### come_by, ends_by -/
/-! ### sure ends -/
/-! ### what is asked -/
end Gx

--W2
/-! Gx, data side 30: moves, what is come to, rings and ends as the laws reckon them, by numbers. -/
namespace Gx
open PySem L2
local macro_rules | `(tactic| simp_arith [$xs,*]) => `(tactic| try simp only [eVar, eC, eBin, eUn, tBl, tAnd', tOr', tNot', eAnd, eOr, eNot, eIf, aNil, aCons, eTup, eLst, eLstM, eCall, eCallK, pick, sNext, sSeq, sBreak, sCont, sDrop, sRet, sRetN, sIf, sNever, gNm, gsNil, gsCons, gTupl, gSubs, sAsg, sPar, sPar3, sFor, iSeq, seqG_tup, seqG_lst, seqG_scr, iRange1, iRange2, iEnumG, iZipG, td_tup, td_lst, td_scr, eLc, eLcM, tYes', pNone, pSome, eSl, cu_tup, cu_lst, cu_scr, eMt, eMt0, mAppend, isL, rs_non, rs_bl, rs_int, rs_str, rs_tup, rs_lst', rs_scr, itemsOf_tup, itemsOf_lst, itemsOf_scr, oI, oI0, oSub, oFdiv, oMod, oPow, oShl, oShr, oAnd, oOr, oXor, oLt, oLe, oGt, oGe, oNeg, oIsN, oNotN, Gx.isNon, oAdd, oAdd', oMul, oMul', oMulM, oEq, oNe, oEqS, oNeS, oIn, oNin, eChain, oIx, oSet, cLen, cList, cListM, cTuple, cSum, cAll, cAny, cInt, cAbs, cMax2, cMin2, cDivmod, cGcd, cIsi, cRepr, lstInts, lstBls, startD, wipeD, List.map_cons, List.map_nil, List.length_cons, List.length_nil, List.cons_append, List.nil_append, List.replicate_succ, List.replicate_zero, List.set_cons_succ, List.set_cons_zero, List.getElem?_cons_succ, List.getElem?_cons_zero, List.filterMap_cons_some, List.filterMap_nil, Nat.reduceAdd, Nat.reduceSub, Nat.sub_self, Nat.reduceLT, Nat.reduceMul, Nat.zero_add, Nat.add_zero, if_true, if_false, and_true, true_and, and_false, false_and, or_true, true_or, or_false, false_or, not_true_eq_false, not_false_eq_true, Bool.not_true, Bool.not_false, Bool.false_eq_true, ite_true, ite_false, reduceIte, reduceCtorEq, eq_self, eDicT0, eDixT, gSubsT, keysOf, cListT, cSortedP, oSubB, oMulT, iZip2G, eDic0, eDic1, oDix, oDin, oDnin, oDset, iKeysG, cSortedE, cListD, Gx.keyOf, cMaxL, cMinL, cSortedI, mIndex, $xs,*])
/-! ### movers, moves -/
/-! ### what is come to -/
/-! ### rings -/
/-! ### ends, sure ones -/
end Gx

--W2
/-! Gx, data side 31: drawn nets of the second family. -/
namespace Gx
open PySem L2
local macro_rules | `(tactic| simp_arith [$xs,*]) => `(tactic| try simp only [eVar, eC, eBin, eUn, tBl, tAnd', tOr', tNot', eAnd, eOr, eNot, eIf, aNil, aCons, eTup, eLst, eLstM, eCall, eCallK, pick, sNext, sSeq, sBreak, sCont, sDrop, sRet, sRetN, sIf, sNever, gNm, gsNil, gsCons, gTupl, gSubs, sAsg, sPar, sPar3, sFor, iSeq, seqG_tup, seqG_lst, seqG_scr, iRange1, iRange2, iEnumG, iZipG, td_tup, td_lst, td_scr, eLc, eLcM, tYes', pNone, pSome, eSl, cu_tup, cu_lst, cu_scr, eMt, eMt0, mAppend, isL, rs_non, rs_bl, rs_int, rs_str, rs_tup, rs_lst', rs_scr, itemsOf_tup, itemsOf_lst, itemsOf_scr, oI, oI0, oSub, oFdiv, oMod, oPow, oShl, oShr, oAnd, oOr, oXor, oLt, oLe, oGt, oGe, oNeg, oIsN, oNotN, Gx.isNon, oAdd, oAdd', oMul, oMul', oMulM, oEq, oNe, oEqS, oNeS, oIn, oNin, eChain, oIx, oSet, cLen, cList, cListM, cTuple, cSum, cAll, cAny, cInt, cAbs, cMax2, cMin2, cDivmod, cGcd, cIsi, cRepr, lstInts, lstBls, startD, wipeD, List.map_cons, List.map_nil, List.length_cons, List.length_nil, List.cons_append, List.nil_append, List.replicate_succ, List.replicate_zero, List.set_cons_succ, List.set_cons_zero, List.getElem?_cons_succ, List.getElem?_cons_zero, List.filterMap_cons_some, List.filterMap_nil, Nat.reduceAdd, Nat.reduceSub, Nat.sub_self, Nat.reduceLT, Nat.reduceMul, Nat.zero_add, Nat.add_zero, if_true, if_false, and_true, true_and, and_false, false_and, or_true, true_or, or_false, false_or, not_true_eq_false, not_false_eq_true, Bool.not_true, Bool.not_false, Bool.false_eq_true, ite_true, ite_false, reduceIte, reduceCtorEq, eq_self, eDicT0, eDixT, gSubsT, keysOf, cListT, cSortedP, oSubB, oMulT, iZip2G, eDic0, eDic1, oDix, oDin, oDnin, oDset, iKeysG, cSortedE, cListD, Gx.keyOf, cMaxL, cMinL, cSortedI, mIndex, $xs,*])
end Gx

--W2
/-! Gx, data side 32: drawn helping nets; movers as a tuple. -/
namespace Gx
open PySem L2
local macro_rules | `(tactic| simp_arith [$xs,*]) => `(tactic| try simp only [eVar, eC, eBin, eUn, tBl, tAnd', tOr', tNot', eAnd, eOr, eNot, eIf, aNil, aCons, eTup, eLst, eLstM, eCall, eCallK, pick, sNext, sSeq, sBreak, sCont, sDrop, sRet, sRetN, sIf, sNever, gNm, gsNil, gsCons, gTupl, gSubs, sAsg, sPar, sPar3, sFor, iSeq, seqG_tup, seqG_lst, seqG_scr, iRange1, iRange2, iEnumG, iZipG, td_tup, td_lst, td_scr, eLc, eLcM, tYes', pNone, pSome, eSl, cu_tup, cu_lst, cu_scr, eMt, eMt0, mAppend, isL, rs_non, rs_bl, rs_int, rs_str, rs_tup, rs_lst', rs_scr, itemsOf_tup, itemsOf_lst, itemsOf_scr, oI, oI0, oSub, oFdiv, oMod, oPow, oShl, oShr, oAnd, oOr, oXor, oLt, oLe, oGt, oGe, oNeg, oIsN, oNotN, Gx.isNon, oAdd, oAdd', oMul, oMul', oMulM, oEq, oNe, oEqS, oNeS, oIn, oNin, eChain, oIx, oSet, cLen, cList, cListM, cTuple, cSum, cAll, cAny, cInt, cAbs, cMax2, cMin2, cDivmod, cGcd, cIsi, cRepr, lstInts, lstBls, startD, wipeD, List.map_cons, List.map_nil, List.length_cons, List.length_nil, List.cons_append, List.nil_append, List.replicate_succ, List.replicate_zero, List.set_cons_succ, List.set_cons_zero, List.getElem?_cons_succ, List.getElem?_cons_zero, List.filterMap_cons_some, List.filterMap_nil, Nat.reduceAdd, Nat.reduceSub, Nat.sub_self, Nat.reduceLT, Nat.reduceMul, Nat.zero_add, Nat.add_zero, if_true, if_false, and_true, true_and, and_false, false_and, or_true, true_or, or_false, false_or, not_true_eq_false, not_false_eq_true, Bool.not_true, Bool.not_false, Bool.false_eq_true, ite_true, ite_false, reduceIte, reduceCtorEq, eq_self, eDicT0, eDixT, gSubsT, keysOf, cListT, cSortedP, oSubB, oMulT, iZip2G, eDic0, eDic1, oDix, oDin, oDnin, oDset, iKeysG, cSortedE, cListD, Gx.keyOf, cMaxL, cMinL, cSortedI, mIndex, $xs,*])
local macro_rules | `(tactic| simp_arith! [$xs,*]) => `(tactic| try simp only [eVar, eC, eBin, eUn, tBl, tAnd', tOr', tNot', eAnd, eOr, eNot, eIf, aNil, aCons, eTup, eLst, eLstM, eCall, eCallK, pick, sNext, sSeq, sBreak, sCont, sDrop, sRet, sRetN, sIf, sNever, gNm, gsNil, gsCons, gTupl, gSubs, sAsg, sPar, sPar3, sFor, iSeq, seqG_tup, seqG_lst, seqG_scr, iRange1, iRange2, iEnumG, iZipG, td_tup, td_lst, td_scr, eLc, eLcM, tYes', pNone, pSome, eSl, cu_tup, cu_lst, cu_scr, eMt, eMt0, mAppend, isL, rs_non, rs_bl, rs_int, rs_str, rs_tup, rs_lst', rs_scr, itemsOf_tup, itemsOf_lst, itemsOf_scr, oI, oI0, oSub, oFdiv, oMod, oPow, oShl, oShr, oAnd, oOr, oXor, oLt, oLe, oGt, oGe, oNeg, oIsN, oNotN, Gx.isNon, oAdd, oAdd', oMul, oMul', oMulM, oEq, oNe, oEqS, oNeS, oIn, oNin, eChain, oIx, oSet, cLen, cList, cListM, cTuple, cSum, cAll, cAny, cInt, cAbs, cMax2, cMin2, cDivmod, cGcd, cIsi, cRepr, lstInts, lstBls, startD, wipeD, List.map_cons, List.map_nil, List.length_cons, List.length_nil, List.cons_append, List.nil_append, List.replicate_succ, List.replicate_zero, List.set_cons_succ, List.set_cons_zero, List.getElem?_cons_succ, List.getElem?_cons_zero, List.filterMap_cons_some, List.filterMap_nil, Nat.reduceAdd, Nat.reduceSub, Nat.sub_self, Nat.reduceLT, Nat.reduceMul, Nat.zero_add, Nat.add_zero, if_true, if_false, and_true, true_and, and_false, false_and, or_true, true_or, or_false, false_or, not_true_eq_false, not_false_eq_true, Bool.not_true, Bool.not_false, Bool.false_eq_true, ite_true, ite_false, reduceIte, reduceCtorEq, eq_self, eDicT0, eDixT, gSubsT, keysOf, cListT, cSortedP, oSubB, oMulT, iZip2G, eDic0, eDic1, oDix, oDin, oDnin, oDset, iKeysG, cSortedE, cListD, Gx.keyOf, cMaxL, cMinL, cSortedI, mIndex, rs_N, rs_W, rs_Row, rs_S, rs_R, rs_B, it_N, it_W, it_Row, it_S, it_R, sq_W, sq_Row, sq_S, td_N, td_W, td_Row, td_S, rs_I, it_I, sq_I, td_I, rs_Ss, it_Ss, sq_Ss, td_Ss, cu_S, cu_W, cu_Row, atI_0, atI_1, $xs,*])
end Gx

--W2
/-! Gx, data side 33: helping nets: from some states all moves lead to one rest. Plain. -/
namespace Gx
open PySem L2
/-! ### rising -/
section
variable {N : Net} (ok : N.Ok) (hp : helping N = true)
include ok hp
/-! ### falling -/
end
section
variable {N : Net} (ok : N.Ok) (hp : helping N = true)
include ok hp
end
/-! ### what that means for ends -/
end Gx

--W2
/-! Gx, data side 34: rests of helping nets. -/
namespace Gx
open PySem L2
local macro_rules | `(tactic| simp_arith [$xs,*]) => `(tactic| try simp only [eVar, eC, eBin, eUn, tBl, tAnd', tOr', tNot', eAnd, eOr, eNot, eIf, aNil, aCons, eTup, eLst, eLstM, eCall, eCallK, pick, sNext, sSeq, sBreak, sCont, sDrop, sRet, sRetN, sIf, sNever, gNm, gsNil, gsCons, gTupl, gSubs, sAsg, sPar, sPar3, sFor, iSeq, seqG_tup, seqG_lst, seqG_scr, iRange1, iRange2, iEnumG, iZipG, td_tup, td_lst, td_scr, eLc, eLcM, tYes', pNone, pSome, eSl, cu_tup, cu_lst, cu_scr, eMt, eMt0, mAppend, isL, rs_non, rs_bl, rs_int, rs_str, rs_tup, rs_lst', rs_scr, itemsOf_tup, itemsOf_lst, itemsOf_scr, oI, oI0, oSub, oFdiv, oMod, oPow, oShl, oShr, oAnd, oOr, oXor, oLt, oLe, oGt, oGe, oNeg, oIsN, oNotN, Gx.isNon, oAdd, oAdd', oMul, oMul', oMulM, oEq, oNe, oEqS, oNeS, oIn, oNin, eChain, oIx, oSet, cLen, cList, cListM, cTuple, cSum, cAll, cAny, cInt, cAbs, cMax2, cMin2, cDivmod, cGcd, cIsi, cRepr, lstInts, lstBls, startD, wipeD, List.map_cons, List.map_nil, List.length_cons, List.length_nil, List.cons_append, List.nil_append, List.replicate_succ, List.replicate_zero, List.set_cons_succ, List.set_cons_zero, List.getElem?_cons_succ, List.getElem?_cons_zero, List.filterMap_cons_some, List.filterMap_nil, Nat.reduceAdd, Nat.reduceSub, Nat.sub_self, Nat.reduceLT, Nat.reduceMul, Nat.zero_add, Nat.add_zero, if_true, if_false, and_true, true_and, and_false, false_and, or_true, true_or, or_false, false_or, not_true_eq_false, not_false_eq_true, Bool.not_true, Bool.not_false, Bool.false_eq_true, ite_true, ite_false, reduceIte, reduceCtorEq, eq_self, eDicT0, eDixT, gSubsT, keysOf, cListT, cSortedP, oSubB, oMulT, iZip2G, eDic0, eDic1, oDix, oDin, oDnin, oDset, iKeysG, cSortedE, cListD, Gx.keyOf, cMaxL, cMinL, cSortedI, mIndex, $xs,*])
local macro_rules | `(tactic| simp_arith! [$xs,*]) => `(tactic| try simp only [eVar, eC, eBin, eUn, tBl, tAnd', tOr', tNot', eAnd, eOr, eNot, eIf, aNil, aCons, eTup, eLst, eLstM, eCall, eCallK, pick, sNext, sSeq, sBreak, sCont, sDrop, sRet, sRetN, sIf, sNever, gNm, gsNil, gsCons, gTupl, gSubs, sAsg, sPar, sPar3, sFor, iSeq, seqG_tup, seqG_lst, seqG_scr, iRange1, iRange2, iEnumG, iZipG, td_tup, td_lst, td_scr, eLc, eLcM, tYes', pNone, pSome, eSl, cu_tup, cu_lst, cu_scr, eMt, eMt0, mAppend, isL, rs_non, rs_bl, rs_int, rs_str, rs_tup, rs_lst', rs_scr, itemsOf_tup, itemsOf_lst, itemsOf_scr, oI, oI0, oSub, oFdiv, oMod, oPow, oShl, oShr, oAnd, oOr, oXor, oLt, oLe, oGt, oGe, oNeg, oIsN, oNotN, Gx.isNon, oAdd, oAdd', oMul, oMul', oMulM, oEq, oNe, oEqS, oNeS, oIn, oNin, eChain, oIx, oSet, cLen, cList, cListM, cTuple, cSum, cAll, cAny, cInt, cAbs, cMax2, cMin2, cDivmod, cGcd, cIsi, cRepr, lstInts, lstBls, startD, wipeD, List.map_cons, List.map_nil, List.length_cons, List.length_nil, List.cons_append, List.nil_append, List.replicate_succ, List.replicate_zero, List.set_cons_succ, List.set_cons_zero, List.getElem?_cons_succ, List.getElem?_cons_zero, List.filterMap_cons_some, List.filterMap_nil, Nat.reduceAdd, Nat.reduceSub, Nat.sub_self, Nat.reduceLT, Nat.reduceMul, Nat.zero_add, Nat.add_zero, if_true, if_false, and_true, true_and, and_false, false_and, or_true, true_or, or_false, false_or, not_true_eq_false, not_false_eq_true, Bool.not_true, Bool.not_false, Bool.false_eq_true, ite_true, ite_false, reduceIte, reduceCtorEq, eq_self, eDicT0, eDixT, gSubsT, keysOf, cListT, cSortedP, oSubB, oMulT, iZip2G, eDic0, eDic1, oDix, oDin, oDnin, oDset, iKeysG, cSortedE, cListD, Gx.keyOf, cMaxL, cMinL, cSortedI, mIndex, rs_N, rs_W, rs_Row, rs_S, rs_R, rs_B, it_N, it_W, it_Row, it_S, it_R, sq_W, sq_Row, sq_S, td_N, td_W, td_Row, td_S, rs_I, it_I, sq_I, td_I, rs_Ss, it_Ss, sq_Ss, td_Ss, cu_S, cu_W, cu_Row, atI_0, atI_1, $xs,*])
/-! ### what two states share -/
/-! ### sunk -/
/-! ### what is asked -/
/-! ### settling, as the laws do it -/
end Gx

--W2
/-! Gx, data side 35: states below one another, lists of the laws' own; one of them; the end of laws whose first lap is told. -/
namespace Gx
open PySem L2
local macro_rules | `(tactic| simp_arith [$xs,*]) => `(tactic| try simp only [eVar, eC, eBin, eUn, tBl, tAnd', tOr', tNot', eAnd, eOr, eNot, eIf, aNil, aCons, eTup, eLst, eLstM, eCall, eCallK, pick, sNext, sSeq, sBreak, sCont, sDrop, sRet, sRetN, sIf, sNever, gNm, gsNil, gsCons, gTupl, gSubs, sAsg, sPar, sPar3, sFor, iSeq, seqG_tup, seqG_lst, seqG_scr, iRange1, iRange2, iEnumG, iZipG, td_tup, td_lst, td_scr, eLc, eLcM, tYes', pNone, pSome, eSl, cu_tup, cu_lst, cu_scr, eMt, eMt0, mAppend, isL, rs_non, rs_bl, rs_int, rs_str, rs_tup, rs_lst', rs_scr, itemsOf_tup, itemsOf_lst, itemsOf_scr, oI, oI0, oSub, oFdiv, oMod, oPow, oShl, oShr, oAnd, oOr, oXor, oLt, oLe, oGt, oGe, oNeg, oIsN, oNotN, Gx.isNon, oAdd, oAdd', oMul, oMul', oMulM, oEq, oNe, oEqS, oNeS, oIn, oNin, eChain, oIx, oSet, cLen, cList, cListM, cTuple, cSum, cAll, cAny, cInt, cAbs, cMax2, cMin2, cDivmod, cGcd, cIsi, cRepr, lstInts, lstBls, startD, wipeD, List.map_cons, List.map_nil, List.length_cons, List.length_nil, List.cons_append, List.nil_append, List.replicate_succ, List.replicate_zero, List.set_cons_succ, List.set_cons_zero, List.getElem?_cons_succ, List.getElem?_cons_zero, List.filterMap_cons_some, List.filterMap_nil, Nat.reduceAdd, Nat.reduceSub, Nat.sub_self, Nat.reduceLT, Nat.reduceMul, Nat.zero_add, Nat.add_zero, if_true, if_false, and_true, true_and, and_false, false_and, or_true, true_or, or_false, false_or, not_true_eq_false, not_false_eq_true, Bool.not_true, Bool.not_false, Bool.false_eq_true, ite_true, ite_false, reduceIte, reduceCtorEq, eq_self, eDicT0, eDixT, gSubsT, keysOf, cListT, cSortedP, oSubB, oMulT, iZip2G, eDic0, eDic1, oDix, oDin, oDnin, oDset, iKeysG, cSortedE, cListD, Gx.keyOf, cMaxL, cMinL, cSortedI, mIndex, $xs,*])
local macro_rules | `(tactic| simp_arith! [$xs,*]) => `(tactic| try simp only [eVar, eC, eBin, eUn, tBl, tAnd', tOr', tNot', eAnd, eOr, eNot, eIf, aNil, aCons, eTup, eLst, eLstM, eCall, eCallK, pick, sNext, sSeq, sBreak, sCont, sDrop, sRet, sRetN, sIf, sNever, gNm, gsNil, gsCons, gTupl, gSubs, sAsg, sPar, sPar3, sFor, iSeq, seqG_tup, seqG_lst, seqG_scr, iRange1, iRange2, iEnumG, iZipG, td_tup, td_lst, td_scr, eLc, eLcM, tYes', pNone, pSome, eSl, cu_tup, cu_lst, cu_scr, eMt, eMt0, mAppend, isL, rs_non, rs_bl, rs_int, rs_str, rs_tup, rs_lst', rs_scr, itemsOf_tup, itemsOf_lst, itemsOf_scr, oI, oI0, oSub, oFdiv, oMod, oPow, oShl, oShr, oAnd, oOr, oXor, oLt, oLe, oGt, oGe, oNeg, oIsN, oNotN, Gx.isNon, oAdd, oAdd', oMul, oMul', oMulM, oEq, oNe, oEqS, oNeS, oIn, oNin, eChain, oIx, oSet, cLen, cList, cListM, cTuple, cSum, cAll, cAny, cInt, cAbs, cMax2, cMin2, cDivmod, cGcd, cIsi, cRepr, lstInts, lstBls, startD, wipeD, List.map_cons, List.map_nil, List.length_cons, List.length_nil, List.cons_append, List.nil_append, List.replicate_succ, List.replicate_zero, List.set_cons_succ, List.set_cons_zero, List.getElem?_cons_succ, List.getElem?_cons_zero, List.filterMap_cons_some, List.filterMap_nil, Nat.reduceAdd, Nat.reduceSub, Nat.sub_self, Nat.reduceLT, Nat.reduceMul, Nat.zero_add, Nat.add_zero, if_true, if_false, and_true, true_and, and_false, false_and, or_true, true_or, or_false, false_or, not_true_eq_false, not_false_eq_true, Bool.not_true, Bool.not_false, Bool.false_eq_true, ite_true, ite_false, reduceIte, reduceCtorEq, eq_self, eDicT0, eDixT, gSubsT, keysOf, cListT, cSortedP, oSubB, oMulT, iZip2G, eDic0, eDic1, oDix, oDin, oDnin, oDset, iKeysG, cSortedE, cListD, Gx.keyOf, cMaxL, cMinL, cSortedI, mIndex, rs_N, rs_W, rs_Row, rs_S, rs_R, rs_B, it_N, it_W, it_Row, it_S, it_R, sq_W, sq_Row, sq_S, td_N, td_W, td_Row, td_S, rs_I, it_I, sq_I, td_I, rs_Ss, it_Ss, sq_Ss, td_Ss, cu_S, cu_W, cu_Row, atI_0, atI_1, $xs,*])
/-! ### lists that stand somewhere, or are handed about -/
/-! ### laws whose first lap is told -/
end Gx

--W2
/-! Gx, data side 36: the draws of the third family; fractions, states, what is the same. -/
namespace Gx
open PySem L2
local macro_rules | `(tactic| simp_arith [$xs,*]) => `(tactic| try simp only [eVar, eC, eBin, eUn, tBl, tAnd', tOr', tNot', eAnd, eOr, eNot, eIf, aNil, aCons, eTup, eLst, eLstM, eCall, eCallK, pick, sNext, sSeq, sBreak, sCont, sDrop, sRet, sRetN, sIf, sNever, gNm, gsNil, gsCons, gTupl, gSubs, sAsg, sPar, sPar3, sFor, iSeq, seqG_tup, seqG_lst, seqG_scr, iRange1, iRange2, iEnumG, iZipG, td_tup, td_lst, td_scr, eLc, eLcM, tYes', pNone, pSome, eSl, cu_tup, cu_lst, cu_scr, eMt, eMt0, mAppend, isL, rs_non, rs_bl, rs_int, rs_str, rs_tup, rs_lst', rs_scr, itemsOf_tup, itemsOf_lst, itemsOf_scr, oI, oI0, oSub, oFdiv, oMod, oPow, oShl, oShr, oAnd, oOr, oXor, oLt, oLe, oGt, oGe, oNeg, oIsN, oNotN, Gx.isNon, oAdd, oAdd', oMul, oMul', oMulM, oEq, oNe, oEqS, oNeS, oIn, oNin, eChain, oIx, oSet, cLen, cList, cListM, cTuple, cSum, cAll, cAny, cInt, cAbs, cMax2, cMin2, cDivmod, cGcd, cIsi, cRepr, lstInts, lstBls, startD, wipeD, List.map_cons, List.map_nil, List.length_cons, List.length_nil, List.cons_append, List.nil_append, List.replicate_succ, List.replicate_zero, List.set_cons_succ, List.set_cons_zero, List.getElem?_cons_succ, List.getElem?_cons_zero, List.filterMap_cons_some, List.filterMap_nil, Nat.reduceAdd, Nat.reduceSub, Nat.sub_self, Nat.reduceLT, Nat.reduceMul, Nat.zero_add, Nat.add_zero, if_true, if_false, and_true, true_and, and_false, false_and, or_true, true_or, or_false, false_or, not_true_eq_false, not_false_eq_true, Bool.not_true, Bool.not_false, Bool.false_eq_true, ite_true, ite_false, reduceIte, reduceCtorEq, eq_self, eDicT0, eDixT, gSubsT, keysOf, cListT, cSortedP, oSubB, oMulT, iZip2G, eDic0, eDic1, oDix, oDin, oDnin, oDset, iKeysG, cSortedE, cListD, Gx.keyOf, cMaxL, cMinL, cSortedI, mIndex, $xs,*])
/-! ### fractions -/
/-! ### states -/
/-! ### the same -/
end Gx

--W2
/-! Gx, data side 37: drawn nets of the third family. -/
namespace Gx
open PySem L2
/-! ### comprehensions that draw -/
/-! ### the net -/
structure Bn (n : Nat) (p p3 p4 : Addr) (qs : List Addr) (S0 S : Sto) (ws : List (List Rat)) : Prop where
  f : Fil n p p3 qs S0 S ws
  gr : Grw (Bd 24 2) p p4 S0 S [] 0
  hb : ∀ a b, a < n → b < n → Bd 3 2 (ent ws a b)
  hd : ∀ a, a < n → ent ws a a = 0
theorem Bn.drw {n : Nat} {p p3 p4 : Addr} {qs : List Addr} {S0 S S' : Sto} {ws : List (List Rat)} (b : Bn n p p3 p4 qs S0 S ws) (d : Drw p S S') : Bn n p p3 p4 qs S0 S' ws := ⟨b.f.drw d, b.gr.drw d, b.hb, b.hd⟩
abbrev PT : Rat → Prop := Bd 12 4
end Gx

--W2
set_option maxHeartbeats 16000000
/-! Gx, data side 38: drawn nets of the third family: the walk. -/
namespace Gx
open PySem L2
local macro_rules | `(tactic| simp_arith [$xs,*]) => `(tactic| try simp only [eVar, eC, eBin, eUn, tBl, tAnd', tOr', tNot', eAnd, eOr, eNot, eIf, aNil, aCons, eTup, eLst, eLstM, eCall, eCallK, pick, sNext, sSeq, sBreak, sCont, sDrop, sRet, sRetN, sIf, sNever, gNm, gsNil, gsCons, gTupl, gSubs, sAsg, sPar, sPar3, sFor, iSeq, seqG_tup, seqG_lst, seqG_scr, iRange1, iRange2, iEnumG, iZipG, td_tup, td_lst, td_scr, eLc, eLcM, tYes', pNone, pSome, eSl, cu_tup, cu_lst, cu_scr, eMt, eMt0, mAppend, isL, rs_non, rs_bl, rs_int, rs_str, rs_tup, rs_lst', rs_scr, itemsOf_tup, itemsOf_lst, itemsOf_scr, oI, oI0, oSub, oFdiv, oMod, oPow, oShl, oShr, oAnd, oOr, oXor, oLt, oLe, oGt, oGe, oNeg, oIsN, oNotN, Gx.isNon, oAdd, oAdd', oMul, oMul', oMulM, oEq, oNe, oEqS, oNeS, oIn, oNin, eChain, oIx, oSet, cLen, cList, cListM, cTuple, cSum, cAll, cAny, cInt, cAbs, cMax2, cMin2, cDivmod, cGcd, cIsi, cRepr, lstInts, lstBls, startD, wipeD, List.map_cons, List.map_nil, List.length_cons, List.length_nil, List.cons_append, List.nil_append, List.replicate_succ, List.replicate_zero, List.set_cons_succ, List.set_cons_zero, List.getElem?_cons_succ, List.getElem?_cons_zero, List.filterMap_cons_some, List.filterMap_nil, Nat.reduceAdd, Nat.reduceSub, Nat.sub_self, Nat.reduceLT, Nat.reduceMul, Nat.zero_add, Nat.add_zero, if_true, if_false, and_true, true_and, and_false, false_and, or_true, true_or, or_false, false_or, not_true_eq_false, not_false_eq_true, Bool.not_true, Bool.not_false, Bool.false_eq_true, ite_true, ite_false, reduceIte, reduceCtorEq, eq_self, eDicT0, eDixT, gSubsT, keysOf, cListT, cSortedP, oSubB, oMulT, iZip2G, eDic0, eDic1, oDix, oDin, oDnin, oDset, iKeysG, cSortedE, cListD, Gx.keyOf, cMaxL, cMinL, cSortedI, mIndex, $xs,*])
local macro_rules | `(tactic| simp_arith! [$xs,*]) => `(tactic| try simp only [eVar, eC, eBin, eUn, tBl, tAnd', tOr', tNot', eAnd, eOr, eNot, eIf, aNil, aCons, eTup, eLst, eLstM, eCall, eCallK, pick, sNext, sSeq, sBreak, sCont, sDrop, sRet, sRetN, sIf, sNever, gNm, gsNil, gsCons, gTupl, gSubs, sAsg, sPar, sPar3, sFor, iSeq, seqG_tup, seqG_lst, seqG_scr, iRange1, iRange2, iEnumG, iZipG, td_tup, td_lst, td_scr, eLc, eLcM, tYes', pNone, pSome, eSl, cu_tup, cu_lst, cu_scr, eMt, eMt0, mAppend, isL, rs_non, rs_bl, rs_int, rs_str, rs_tup, rs_lst', rs_scr, itemsOf_tup, itemsOf_lst, itemsOf_scr, oI, oI0, oSub, oFdiv, oMod, oPow, oShl, oShr, oAnd, oOr, oXor, oLt, oLe, oGt, oGe, oNeg, oIsN, oNotN, Gx.isNon, oAdd, oAdd', oMul, oMul', oMulM, oEq, oNe, oEqS, oNeS, oIn, oNin, eChain, oIx, oSet, cLen, cList, cListM, cTuple, cSum, cAll, cAny, cInt, cAbs, cMax2, cMin2, cDivmod, cGcd, cIsi, cRepr, lstInts, lstBls, startD, wipeD, List.map_cons, List.map_nil, List.length_cons, List.length_nil, List.cons_append, List.nil_append, List.replicate_succ, List.replicate_zero, List.set_cons_succ, List.set_cons_zero, List.getElem?_cons_succ, List.getElem?_cons_zero, List.filterMap_cons_some, List.filterMap_nil, Nat.reduceAdd, Nat.reduceSub, Nat.sub_self, Nat.reduceLT, Nat.reduceMul, Nat.zero_add, Nat.add_zero, if_true, if_false, and_true, true_and, and_false, false_and, or_true, true_or, or_false, false_or, not_true_eq_false, not_false_eq_true, Bool.not_true, Bool.not_false, Bool.false_eq_true, ite_true, ite_false, reduceIte, reduceCtorEq, eq_self, eDicT0, eDixT, gSubsT, keysOf, cListT, cSortedP, oSubB, oMulT, iZip2G, eDic0, eDic1, oDix, oDin, oDnin, oDset, iKeysG, cSortedE, cListD, Gx.keyOf, cMaxL, cMinL, cSortedI, mIndex, rs_N, rs_W, rs_Row, rs_S, rs_R, rs_B, it_N, it_W, it_Row, it_S, it_R, sq_W, sq_Row, sq_S, td_N, td_W, td_Row, td_S, rs_I, it_I, sq_I, td_I, rs_Ss, it_Ss, sq_Ss, td_Ss, cu_S, cu_W, cu_Row, atI_0, atI_1, $xs,*])
end Gx

--W2
/-! Gx, data side 39: next states, whole weights. -/
namespace Gx
open PySem L2
local macro_rules | `(tactic| simp_arith [$xs,*]) => `(tactic| try simp only [eVar, eC, eBin, eUn, tBl, tAnd', tOr', tNot', eAnd, eOr, eNot, eIf, aNil, aCons, eTup, eLst, eLstM, eCall, eCallK, pick, sNext, sSeq, sBreak, sCont, sDrop, sRet, sRetN, sIf, sNever, gNm, gsNil, gsCons, gTupl, gSubs, sAsg, sPar, sPar3, sFor, iSeq, seqG_tup, seqG_lst, seqG_scr, iRange1, iRange2, iEnumG, iZipG, td_tup, td_lst, td_scr, eLc, eLcM, tYes', pNone, pSome, eSl, cu_tup, cu_lst, cu_scr, eMt, eMt0, mAppend, isL, rs_non, rs_bl, rs_int, rs_str, rs_tup, rs_lst', rs_scr, itemsOf_tup, itemsOf_lst, itemsOf_scr, oI, oI0, oSub, oFdiv, oMod, oPow, oShl, oShr, oAnd, oOr, oXor, oLt, oLe, oGt, oGe, oNeg, oIsN, oNotN, Gx.isNon, oAdd, oAdd', oMul, oMul', oMulM, oEq, oNe, oEqS, oNeS, oIn, oNin, eChain, oIx, oSet, cLen, cList, cListM, cTuple, cSum, cAll, cAny, cInt, cAbs, cMax2, cMin2, cDivmod, cGcd, cIsi, cRepr, lstInts, lstBls, startD, wipeD, List.map_cons, List.map_nil, List.length_cons, List.length_nil, List.cons_append, List.nil_append, List.replicate_succ, List.replicate_zero, List.set_cons_succ, List.set_cons_zero, List.getElem?_cons_succ, List.getElem?_cons_zero, List.filterMap_cons_some, List.filterMap_nil, Nat.reduceAdd, Nat.reduceSub, Nat.sub_self, Nat.reduceLT, Nat.reduceMul, Nat.zero_add, Nat.add_zero, if_true, if_false, and_true, true_and, and_false, false_and, or_true, true_or, or_false, false_or, not_true_eq_false, not_false_eq_true, Bool.not_true, Bool.not_false, Bool.false_eq_true, ite_true, ite_false, reduceIte, reduceCtorEq, eq_self, eDicT0, eDixT, gSubsT, keysOf, cListT, cSortedP, oSubB, oMulT, iZip2G, eDic0, eDic1, oDix, oDin, oDnin, oDset, iKeysG, cSortedE, cListD, Gx.keyOf, cMaxL, cMinL, cSortedI, mIndex, $xs,*])
local macro_rules | `(tactic| simp_arith! [$xs,*]) => `(tactic| try simp only [eVar, eC, eBin, eUn, tBl, tAnd', tOr', tNot', eAnd, eOr, eNot, eIf, aNil, aCons, eTup, eLst, eLstM, eCall, eCallK, pick, sNext, sSeq, sBreak, sCont, sDrop, sRet, sRetN, sIf, sNever, gNm, gsNil, gsCons, gTupl, gSubs, sAsg, sPar, sPar3, sFor, iSeq, seqG_tup, seqG_lst, seqG_scr, iRange1, iRange2, iEnumG, iZipG, td_tup, td_lst, td_scr, eLc, eLcM, tYes', pNone, pSome, eSl, cu_tup, cu_lst, cu_scr, eMt, eMt0, mAppend, isL, rs_non, rs_bl, rs_int, rs_str, rs_tup, rs_lst', rs_scr, itemsOf_tup, itemsOf_lst, itemsOf_scr, oI, oI0, oSub, oFdiv, oMod, oPow, oShl, oShr, oAnd, oOr, oXor, oLt, oLe, oGt, oGe, oNeg, oIsN, oNotN, Gx.isNon, oAdd, oAdd', oMul, oMul', oMulM, oEq, oNe, oEqS, oNeS, oIn, oNin, eChain, oIx, oSet, cLen, cList, cListM, cTuple, cSum, cAll, cAny, cInt, cAbs, cMax2, cMin2, cDivmod, cGcd, cIsi, cRepr, lstInts, lstBls, startD, wipeD, List.map_cons, List.map_nil, List.length_cons, List.length_nil, List.cons_append, List.nil_append, List.replicate_succ, List.replicate_zero, List.set_cons_succ, List.set_cons_zero, List.getElem?_cons_succ, List.getElem?_cons_zero, List.filterMap_cons_some, List.filterMap_nil, Nat.reduceAdd, Nat.reduceSub, Nat.sub_self, Nat.reduceLT, Nat.reduceMul, Nat.zero_add, Nat.add_zero, if_true, if_false, and_true, true_and, and_false, false_and, or_true, true_or, or_false, false_or, not_true_eq_false, not_false_eq_true, Bool.not_true, Bool.not_false, Bool.false_eq_true, ite_true, ite_false, reduceIte, reduceCtorEq, eq_self, eDicT0, eDixT, gSubsT, keysOf, cListT, cSortedP, oSubB, oMulT, iZip2G, eDic0, eDic1, oDix, oDin, oDnin, oDset, iKeysG, cSortedE, cListD, Gx.keyOf, cMaxL, cMinL, cSortedI, mIndex, rs_N, rs_W, rs_Row, rs_S, rs_R, rs_B, it_N, it_W, it_Row, it_S, it_R, sq_W, sq_Row, sq_S, td_N, td_W, td_Row, td_S, rs_I, it_I, sq_I, td_I, rs_Ss, it_Ss, sq_Ss, td_Ss, cu_S, cu_W, cu_Row, atI_0, atI_1, $xs,*])
/-! ### the rows -/
/-! ### the next states of all states -/
end Gx

--W2
/-! Gx, data side 40: who truly heeds whom: the plain law. -/
namespace Gx
open PySem L2
/-! ### who heeds whom -/
def nxB (N : Net) (x i : Nat) : Bool := (wants N (stateOf N.n x)).getD i false
def shown (N : Net) (i j : Nat) : List Nat := (List.range (2 ^ N.n)).filter fun x => !x.testBit j && (nxB N x i != nxB N (x + 2 ^ j) i)
def heeds (N : Net) (i j : Nat) : Bool := decide (j ≠ i) && decide (shown N i j ≠ [])
def prs (N : Net) : List (Nat × Nat) := (List.range N.n).flatMap fun i => ((List.range N.n).filter fun j => heeds N i j).map fun j => (i, j)
theorem mem_prs {N : Net} {i j : Nat} : (i, j) ∈ prs N ↔ i < N.n ∧ j < N.n ∧ heeds N i j = true := by
  unfold prs
  rw [List.mem_flatMap]
  constructor
  · rintro ⟨a, ha, h⟩
    obtain ⟨b, hb, e⟩ := List.mem_map.mp h
    injection e with e1 e2
    subst e1 e2
    obtain ⟨h1, h2⟩ := List.mem_filter.mp hb
    exact ⟨List.mem_range.mp ha, List.mem_range.mp h1, h2⟩
  · rintro ⟨h1, h2, h3⟩
    exact ⟨i, List.mem_range.mpr h1, List.mem_map.mpr ⟨j, List.mem_filter.mpr ⟨List.mem_range.mpr h2, h3⟩, rfl⟩⟩
theorem heeds_iff {N : Net} {i j : Nat} : heeds N i j = true ↔ j ≠ i ∧ ∃ x, x ∈ shown N i j := by
  unfold heeds
  rw [Bool.and_eq_true, decide_eq_true_eq, decide_eq_true_eq]
  refine and_congr Iff.rfl ⟨fun h => List.exists_mem_of_ne_nil _ h, fun ⟨x, hx⟩ z => by rw [z] at hx; cases hx⟩
/-! ### the bare net -/
theorem heeds_not {N : Net} {i : Nat} : heeds N i i = false := by
  unfold heeds
  rw [decide_eq_false (by simp)]
  rfl
end Gx

--W2
/-! Gx, data side 41: who truly heeds whom: the package's walks. -/
namespace Gx
open PySem L2
local macro_rules | `(tactic| simp_arith [$xs,*]) => `(tactic| try simp only [eVar, eC, eBin, eUn, tBl, tAnd', tOr', tNot', eAnd, eOr, eNot, eIf, aNil, aCons, eTup, eLst, eLstM, eCall, eCallK, pick, sNext, sSeq, sBreak, sCont, sDrop, sRet, sRetN, sIf, sNever, gNm, gsNil, gsCons, gTupl, gSubs, sAsg, sPar, sPar3, sFor, iSeq, seqG_tup, seqG_lst, seqG_scr, iRange1, iRange2, iEnumG, iZipG, td_tup, td_lst, td_scr, eLc, eLcM, tYes', pNone, pSome, eSl, cu_tup, cu_lst, cu_scr, eMt, eMt0, mAppend, isL, rs_non, rs_bl, rs_int, rs_str, rs_tup, rs_lst', rs_scr, itemsOf_tup, itemsOf_lst, itemsOf_scr, oI, oI0, oSub, oFdiv, oMod, oPow, oShl, oShr, oAnd, oOr, oXor, oLt, oLe, oGt, oGe, oNeg, oIsN, oNotN, Gx.isNon, oAdd, oAdd', oMul, oMul', oMulM, oEq, oNe, oEqS, oNeS, oIn, oNin, eChain, oIx, oSet, cLen, cList, cListM, cTuple, cSum, cAll, cAny, cInt, cAbs, cMax2, cMin2, cDivmod, cGcd, cIsi, cRepr, lstInts, lstBls, startD, wipeD, List.map_cons, List.map_nil, List.length_cons, List.length_nil, List.cons_append, List.nil_append, List.replicate_succ, List.replicate_zero, List.set_cons_succ, List.set_cons_zero, List.getElem?_cons_succ, List.getElem?_cons_zero, List.filterMap_cons_some, List.filterMap_nil, Nat.reduceAdd, Nat.reduceSub, Nat.sub_self, Nat.reduceLT, Nat.reduceMul, Nat.zero_add, Nat.add_zero, if_true, if_false, and_true, true_and, and_false, false_and, or_true, true_or, or_false, false_or, not_true_eq_false, not_false_eq_true, Bool.not_true, Bool.not_false, Bool.false_eq_true, ite_true, ite_false, reduceIte, reduceCtorEq, eq_self, eDicT0, eDixT, gSubsT, keysOf, cListT, cSortedP, oSubB, oMulT, iZip2G, eDic0, eDic1, oDix, oDin, oDnin, oDset, iKeysG, cSortedE, cListD, Gx.keyOf, cMaxL, cMinL, cSortedI, mIndex, $xs,*])
local macro_rules | `(tactic| simp_arith! [$xs,*]) => `(tactic| try simp only [eVar, eC, eBin, eUn, tBl, tAnd', tOr', tNot', eAnd, eOr, eNot, eIf, aNil, aCons, eTup, eLst, eLstM, eCall, eCallK, pick, sNext, sSeq, sBreak, sCont, sDrop, sRet, sRetN, sIf, sNever, gNm, gsNil, gsCons, gTupl, gSubs, sAsg, sPar, sPar3, sFor, iSeq, seqG_tup, seqG_lst, seqG_scr, iRange1, iRange2, iEnumG, iZipG, td_tup, td_lst, td_scr, eLc, eLcM, tYes', pNone, pSome, eSl, cu_tup, cu_lst, cu_scr, eMt, eMt0, mAppend, isL, rs_non, rs_bl, rs_int, rs_str, rs_tup, rs_lst', rs_scr, itemsOf_tup, itemsOf_lst, itemsOf_scr, oI, oI0, oSub, oFdiv, oMod, oPow, oShl, oShr, oAnd, oOr, oXor, oLt, oLe, oGt, oGe, oNeg, oIsN, oNotN, Gx.isNon, oAdd, oAdd', oMul, oMul', oMulM, oEq, oNe, oEqS, oNeS, oIn, oNin, eChain, oIx, oSet, cLen, cList, cListM, cTuple, cSum, cAll, cAny, cInt, cAbs, cMax2, cMin2, cDivmod, cGcd, cIsi, cRepr, lstInts, lstBls, startD, wipeD, List.map_cons, List.map_nil, List.length_cons, List.length_nil, List.cons_append, List.nil_append, List.replicate_succ, List.replicate_zero, List.set_cons_succ, List.set_cons_zero, List.getElem?_cons_succ, List.getElem?_cons_zero, List.filterMap_cons_some, List.filterMap_nil, Nat.reduceAdd, Nat.reduceSub, Nat.sub_self, Nat.reduceLT, Nat.reduceMul, Nat.zero_add, Nat.add_zero, if_true, if_false, and_true, true_and, and_false, false_and, or_true, true_or, or_false, false_or, not_true_eq_false, not_false_eq_true, Bool.not_true, Bool.not_false, Bool.false_eq_true, ite_true, ite_false, reduceIte, reduceCtorEq, eq_self, eDicT0, eDixT, gSubsT, keysOf, cListT, cSortedP, oSubB, oMulT, iZip2G, eDic0, eDic1, oDix, oDin, oDnin, oDset, iKeysG, cSortedE, cListD, Gx.keyOf, cMaxL, cMinL, cSortedI, mIndex, rs_N, rs_W, rs_Row, rs_S, rs_R, rs_B, it_N, it_W, it_Row, it_S, it_R, sq_W, sq_Row, sq_S, td_N, td_W, td_Row, td_S, rs_I, it_I, sq_I, td_I, rs_Ss, it_Ss, sq_Ss, td_Ss, cu_S, cu_W, cu_Row, atI_0, atI_1, $xs,*])
/-! ### the pairs -/
/-! ### the sign of a number -/
/-! ### dicts -/
section
variable {κ : Type} [DecidableEq κ]
theorem valD_cons (kv : κ × D) (kvs : List (κ × D)) (k : κ) : valD (kv :: kvs) k = if kv.1 = k then some kv.2 else valD kvs k := by
  unfold valD
  by_cases z : kv.1 = k
  · rw [List.find?_cons_of_pos (by simpa using z), if_pos z]; rfl
  · rw [List.find?_cons_of_neg (by simpa using z), if_neg z]
theorem val_mem (k : κ) : ∀ kvs : List (κ × D), (valD kvs k).isSome = decide (k ∈ kvs.map (·.1))
  | [] => rfl
  | kv :: kvs => by
    rw [valD_cons, List.map_cons]
    by_cases z : kv.1 = k
    · rw [if_pos z]
      exact (decide_eq_true (by rw [← z]; exact List.mem_cons_self)).symm
    · rw [if_neg z, val_mem k kvs]
      refine decide_eq_decide.mpr ⟨List.mem_cons_of_mem _, fun h => ?_⟩
      rcases List.mem_cons.mp h with h | h
      · exact absurd h.symm z
      · exact h
end
/-! ### a list of dicts -/
structure DcsAt (S0 : Sto) (qs : List Addr) (S : Sto) (ks : List (List (Key × D))) : Prop where
  len : qs.length = ks.length
  nd : qs.Nodup
  row : ∀ i, i < qs.length → S (qs.getD i 0) = some (.dK (ks.getD i []))
  new : ∀ q ∈ qs, S0 q = none
  sub : ∀ a o, S0 a = some o → S a = some o
theorem DcsAt.nin {S0 S : Sto} {qs : List Addr} {ks : List (List (Key × D))} (a : DcsAt S0 qs S ks) {q : Addr} (h : S q = none) : ∀ x ∈ qs, x ≠ q := fun x hx z => by
  subst z
  obtain ⟨i, hi, e⟩ := List.getElem_of_mem hx
  have := a.row i hi
  rw [getD_eq hi, e, h] at this
  cases this
theorem DcsAt.other {S0 S : Sto} {qs : List Addr} {ks : List (List (Key × D))} (a : DcsAt S0 qs S ks) {q : Addr} (o : SO) (h0 : S0 q = none) (hn : q ∉ qs) : DcsAt S0 qs (up S q o) ks :=
  ⟨a.len, a.nd, fun i hi => by rw [up_ne fun z => hn (by rw [← z]; exact getD_mem hi)]; exact a.row i hi, a.new, fun b u hb => by rw [up_ne fun z => by rw [z, h0] at hb; cases hb]; exact a.sub b u hb⟩
/-! ### for each cell those that it heeds -/
/-! ### the bare net -/
end Gx

--W2
/-! Gx, data side 42: the law's own true heeds. -/
namespace Gx
open PySem L2
local macro_rules | `(tactic| simp_arith [$xs,*]) => `(tactic| try simp only [eVar, eC, eBin, eUn, tBl, tAnd', tOr', tNot', eAnd, eOr, eNot, eIf, aNil, aCons, eTup, eLst, eLstM, eCall, eCallK, pick, sNext, sSeq, sBreak, sCont, sDrop, sRet, sRetN, sIf, sNever, gNm, gsNil, gsCons, gTupl, gSubs, sAsg, sPar, sPar3, sFor, iSeq, seqG_tup, seqG_lst, seqG_scr, iRange1, iRange2, iEnumG, iZipG, td_tup, td_lst, td_scr, eLc, eLcM, tYes', pNone, pSome, eSl, cu_tup, cu_lst, cu_scr, eMt, eMt0, mAppend, isL, rs_non, rs_bl, rs_int, rs_str, rs_tup, rs_lst', rs_scr, itemsOf_tup, itemsOf_lst, itemsOf_scr, oI, oI0, oSub, oFdiv, oMod, oPow, oShl, oShr, oAnd, oOr, oXor, oLt, oLe, oGt, oGe, oNeg, oIsN, oNotN, Gx.isNon, oAdd, oAdd', oMul, oMul', oMulM, oEq, oNe, oEqS, oNeS, oIn, oNin, eChain, oIx, oSet, cLen, cList, cListM, cTuple, cSum, cAll, cAny, cInt, cAbs, cMax2, cMin2, cDivmod, cGcd, cIsi, cRepr, lstInts, lstBls, startD, wipeD, List.map_cons, List.map_nil, List.length_cons, List.length_nil, List.cons_append, List.nil_append, List.replicate_succ, List.replicate_zero, List.set_cons_succ, List.set_cons_zero, List.getElem?_cons_succ, List.getElem?_cons_zero, List.filterMap_cons_some, List.filterMap_nil, Nat.reduceAdd, Nat.reduceSub, Nat.sub_self, Nat.reduceLT, Nat.reduceMul, Nat.zero_add, Nat.add_zero, if_true, if_false, and_true, true_and, and_false, false_and, or_true, true_or, or_false, false_or, not_true_eq_false, not_false_eq_true, Bool.not_true, Bool.not_false, Bool.false_eq_true, ite_true, ite_false, reduceIte, reduceCtorEq, eq_self, eDicT0, eDixT, gSubsT, keysOf, cListT, cSortedP, oSubB, oMulT, iZip2G, eDic0, eDic1, oDix, oDin, oDnin, oDset, iKeysG, cSortedE, cListD, Gx.keyOf, cMaxL, cMinL, cSortedI, mIndex, $xs,*])
local macro_rules | `(tactic| simp_arith! [$xs,*]) => `(tactic| try simp only [eVar, eC, eBin, eUn, tBl, tAnd', tOr', tNot', eAnd, eOr, eNot, eIf, aNil, aCons, eTup, eLst, eLstM, eCall, eCallK, pick, sNext, sSeq, sBreak, sCont, sDrop, sRet, sRetN, sIf, sNever, gNm, gsNil, gsCons, gTupl, gSubs, sAsg, sPar, sPar3, sFor, iSeq, seqG_tup, seqG_lst, seqG_scr, iRange1, iRange2, iEnumG, iZipG, td_tup, td_lst, td_scr, eLc, eLcM, tYes', pNone, pSome, eSl, cu_tup, cu_lst, cu_scr, eMt, eMt0, mAppend, isL, rs_non, rs_bl, rs_int, rs_str, rs_tup, rs_lst', rs_scr, itemsOf_tup, itemsOf_lst, itemsOf_scr, oI, oI0, oSub, oFdiv, oMod, oPow, oShl, oShr, oAnd, oOr, oXor, oLt, oLe, oGt, oGe, oNeg, oIsN, oNotN, Gx.isNon, oAdd, oAdd', oMul, oMul', oMulM, oEq, oNe, oEqS, oNeS, oIn, oNin, eChain, oIx, oSet, cLen, cList, cListM, cTuple, cSum, cAll, cAny, cInt, cAbs, cMax2, cMin2, cDivmod, cGcd, cIsi, cRepr, lstInts, lstBls, startD, wipeD, List.map_cons, List.map_nil, List.length_cons, List.length_nil, List.cons_append, List.nil_append, List.replicate_succ, List.replicate_zero, List.set_cons_succ, List.set_cons_zero, List.getElem?_cons_succ, List.getElem?_cons_zero, List.filterMap_cons_some, List.filterMap_nil, Nat.reduceAdd, Nat.reduceSub, Nat.sub_self, Nat.reduceLT, Nat.reduceMul, Nat.zero_add, Nat.add_zero, if_true, if_false, and_true, true_and, and_false, false_and, or_true, true_or, or_false, false_or, not_true_eq_false, not_false_eq_true, Bool.not_true, Bool.not_false, Bool.false_eq_true, ite_true, ite_false, reduceIte, reduceCtorEq, eq_self, eDicT0, eDixT, gSubsT, keysOf, cListT, cSortedP, oSubB, oMulT, iZip2G, eDic0, eDic1, oDix, oDin, oDnin, oDset, iKeysG, cSortedE, cListD, Gx.keyOf, cMaxL, cMinL, cSortedI, mIndex, rs_N, rs_W, rs_Row, rs_S, rs_R, rs_B, it_N, it_W, it_Row, it_S, it_R, sq_W, sq_Row, sq_S, td_N, td_W, td_Row, td_S, rs_I, it_I, sq_I, td_I, rs_Ss, it_Ss, sq_Ss, td_Ss, cu_S, cu_W, cu_Row, atI_0, atI_1, $xs,*])
theorem val_some {κ : Type} [DecidableEq κ] {k : κ} {kvs : List (κ × D)} : (valD kvs k).isSome = true ↔ k ∈ kvs.map (·.1) := by
  rw [val_mem, decide_eq_true_eq]
def ltP (p q : Nat × Nat) : Prop := p.1 < q.1 ∨ (p.1 = q.1 ∧ p.2 < q.2)
theorem prs_asc (N : Net) : (prs N).Pairwise ltP := by
  unfold prs
  rw [List.pairwise_flatMap]
  refine ⟨fun i _ => ?_, List.pairwise_lt_range.imp fun {a b} h x hx y hy => ?_⟩
  · rw [List.pairwise_map]
    exact (List.pairwise_lt_range.filter _).imp fun {a b} h => .inr ⟨rfl, h⟩
  · obtain ⟨j, _, rfl⟩ := List.mem_map.mp hx
    obtain ⟨k, _, rfl⟩ := List.mem_map.mp hy
    exact .inl h
theorem prs_nd (N : Net) : (prs N).Nodup := (prs_asc N).imp fun {a b} h e => by
  subst e
  unfold ltP at h
  omega
theorem prs_len {N : Net} (h8 : N.n ≤ 8) : (prs N).length ≤ 56 := by
  have : ∀ l : List Nat, (∀ i ∈ l, i < N.n) → (l.flatMap fun i => ((List.range N.n).filter fun j => heeds N i j).map fun j => (i, j)).length ≤ 7 * l.length := fun l => by
    induction l with
    | nil => exact fun _ => Nat.le_refl _
    | cons i l ih =>
      intro h
      have hi := h i List.mem_cons_self
      have lt : ((List.range N.n).filter fun j => heeds N i j).length < (List.range N.n).length := List.length_filter_lt_length_iff_exists.mpr ⟨i, List.mem_range.mpr hi, by rw [heeds_not]; decide⟩
      have := ih fun x hx => h x (List.mem_cons_of_mem _ hx)
      rw [List.length_range] at lt
      rw [List.flatMap_cons, List.length_append, List.length_map, List.length_cons]
      omega
  have := this (List.range N.n) fun i hi => List.mem_range.mp hi
  rw [List.length_range] at this
  exact Nat.le_trans this (by omega)
abbrev keyP (i j : Nat) : List Key := [keyN i, keyN j]
theorem keyP_inj {i j a b : Nat} (h : keyP i j = keyP a b) : i = a ∧ j = b := by
  injection h with h1 h2
  injection h2 with h2 _
  injection h1 with h1
  injection h2 with h2
  omega
structure Fd (N : Net) (kvs : List (List Key × D)) (P : Nat → Nat → Nat → Prop) : Prop where
  nd : (kvs.map (·.1)).Nodup
  val : ∀ k d, valD kvs k = some d → ∃ i j x, k = keyP i j ∧ (i, j) ∈ prs N ∧ x ∈ shown N i j ∧ d = encS (stateOf N.n x)
  cov : ∀ i j x, i < N.n → j < N.n → j ≠ i → x ∈ shown N i j → P i j x → (valD kvs (keyP i j)).isSome = true
theorem Fd.mono {N : Net} {kvs : List (List Key × D)} {P Q : Nat → Nat → Nat → Prop} (f : Fd N kvs P) (h : ∀ i j x, i < N.n → j < N.n → j ≠ i → x ∈ shown N i j → Q i j x → P i j x) : Fd N kvs Q :=
  ⟨f.nd, f.val, fun i j x hi hj hn hx hq => f.cov i j x hi hj hn hx (h i j x hi hj hn hx hq)⟩
theorem Fd.keys {N : Net} {kvs : List (List Key × D)} {P : Nat → Nat → Nat → Prop} (f : Fd N kvs P) : ∀ k ∈ kvs.map (·.1), k ∈ (prs N).map fun p => keyP p.1 p.2 := fun k hk => by
  obtain ⟨d, hd⟩ := Option.isSome_iff_exists.mp (val_some.mpr hk)
  obtain ⟨i, j, _, e, hp, _⟩ := f.val k d hd
  exact List.mem_map.mpr ⟨(i, j), hp, e.symm⟩
theorem Fd.few {N : Net} (h8 : N.n ≤ 8) {kvs : List (List Key × D)} {P : Nat → Nat → Nat → Prop} (f : Fd N kvs P) : kvs.length ≤ 56 := by
  have h := nd_len f.nd f.keys
  rw [List.length_map, List.length_map] at h
  exact Nat.le_trans h (prs_len h8)
theorem Fd.perm {N : Net} {kvs : List (List Key × D)} (f : Fd N kvs fun _ _ _ => True) : ∃ l : List (Nat × Nat), kvs.map (·.1) = l.map (fun p => keyP p.1 p.2) ∧ l.Perm (prs N) := by
  have ex : ∀ ks : List (List Key), (∀ k ∈ ks, k ∈ (prs N).map fun p => keyP p.1 p.2) → ∃ l : List (Nat × Nat), ks = l.map (fun p => keyP p.1 p.2) ∧ ∀ p ∈ l, p ∈ prs N := fun ks => by
    induction ks with
    | nil => exact fun _ => ⟨[], rfl, fun _ h => nomatch h⟩
    | cons k ks ih =>
      intro h
      obtain ⟨p, hp, e⟩ := List.mem_map.mp (h k List.mem_cons_self)
      obtain ⟨l, el, hl⟩ := ih fun x hx => h x (List.mem_cons_of_mem _ hx)
      exact ⟨p :: l, by rw [List.map_cons, e, el], fun q hq => by
        rcases List.mem_cons.mp hq with rfl | hq
        · exact hp
        · exact hl q hq⟩
  obtain ⟨l, e, hl⟩ := ex _ f.keys
  refine ⟨l, e, ?_⟩
  have lnd : l.Nodup := by
    have := f.nd
    rw [e] at this
    exact (List.pairwise_map.mp this).imp fun h e => h (by rw [e])
  refine (List.perm_ext_iff_of_nodup lnd (prs_nd N)).mpr fun p => ⟨hl p, fun hp => ?_⟩
  obtain ⟨i, j⟩ := p
  obtain ⟨hi, hj, hh⟩ := mem_prs.mp hp
  obtain ⟨hn, x, hx⟩ := heeds_iff.mp hh
  have := f.cov i j x hi hj hn hx trivial
  have m := val_some.mp this
  rw [e] at m
  obtain ⟨q, hq, eq⟩ := List.mem_map.mp m
  obtain ⟨e1, e2⟩ := keyP_inj eq
  have : q = (i, j) := by rw [← e1, ← e2]
  rw [← this]
  exact hq
end Gx

--W2
/-! Gx, data side 43: words for the third family's laws. -/
namespace Gx
open PySem L2
/-! ### what is the same as itself -/
/-! ### laps -/
end Gx

--W2
/-! Gx, data side 45: how long rows of moves may be, by turns; rounds. -/
namespace Gx
open PySem L2
local macro_rules | `(tactic| simp_arith [$xs,*]) => `(tactic| try simp only [eVar, eC, eBin, eUn, tBl, tAnd', tOr', tNot', eAnd, eOr, eNot, eIf, aNil, aCons, eTup, eLst, eLstM, eCall, eCallK, pick, sNext, sSeq, sBreak, sCont, sDrop, sRet, sRetN, sIf, sNever, gNm, gsNil, gsCons, gTupl, gSubs, sAsg, sPar, sPar3, sFor, iSeq, seqG_tup, seqG_lst, seqG_scr, iRange1, iRange2, iEnumG, iZipG, td_tup, td_lst, td_scr, eLc, eLcM, tYes', pNone, pSome, eSl, cu_tup, cu_lst, cu_scr, eMt, eMt0, mAppend, isL, rs_non, rs_bl, rs_int, rs_str, rs_tup, rs_lst', rs_scr, itemsOf_tup, itemsOf_lst, itemsOf_scr, oI, oI0, oSub, oFdiv, oMod, oPow, oShl, oShr, oAnd, oOr, oXor, oLt, oLe, oGt, oGe, oNeg, oIsN, oNotN, Gx.isNon, oAdd, oAdd', oMul, oMul', oMulM, oEq, oNe, oEqS, oNeS, oIn, oNin, eChain, oIx, oSet, cLen, cList, cListM, cTuple, cSum, cAll, cAny, cInt, cAbs, cMax2, cMin2, cDivmod, cGcd, cIsi, cRepr, lstInts, lstBls, startD, wipeD, List.map_cons, List.map_nil, List.length_cons, List.length_nil, List.cons_append, List.nil_append, List.replicate_succ, List.replicate_zero, List.set_cons_succ, List.set_cons_zero, List.getElem?_cons_succ, List.getElem?_cons_zero, List.filterMap_cons_some, List.filterMap_nil, Nat.reduceAdd, Nat.reduceSub, Nat.sub_self, Nat.reduceLT, Nat.reduceMul, Nat.zero_add, Nat.add_zero, if_true, if_false, and_true, true_and, and_false, false_and, or_true, true_or, or_false, false_or, not_true_eq_false, not_false_eq_true, Bool.not_true, Bool.not_false, Bool.false_eq_true, ite_true, ite_false, reduceIte, reduceCtorEq, eq_self, aStar, eLstRg, eDicT0, eDixT, gSubsT, keysOf, cListT, cSortedP, oSubB, oMulT, iZip2G, eDic0, eDic1, oDix, oDin, oDnin, oDset, iKeysG, cSortedE, cListD, Gx.keyOf, cMaxL, cMinL, cSortedI, mIndex, $xs,*])
local macro_rules | `(tactic| simp_arith! [$xs,*]) => `(tactic| try simp only [eVar, eC, eBin, eUn, tBl, tAnd', tOr', tNot', eAnd, eOr, eNot, eIf, aNil, aCons, eTup, eLst, eLstM, eCall, eCallK, pick, sNext, sSeq, sBreak, sCont, sDrop, sRet, sRetN, sIf, sNever, gNm, gsNil, gsCons, gTupl, gSubs, sAsg, sPar, sPar3, sFor, iSeq, seqG_tup, seqG_lst, seqG_scr, iRange1, iRange2, iEnumG, iZipG, td_tup, td_lst, td_scr, eLc, eLcM, tYes', pNone, pSome, eSl, cu_tup, cu_lst, cu_scr, eMt, eMt0, mAppend, isL, rs_non, rs_bl, rs_int, rs_str, rs_tup, rs_lst', rs_scr, itemsOf_tup, itemsOf_lst, itemsOf_scr, oI, oI0, oSub, oFdiv, oMod, oPow, oShl, oShr, oAnd, oOr, oXor, oLt, oLe, oGt, oGe, oNeg, oIsN, oNotN, Gx.isNon, oAdd, oAdd', oMul, oMul', oMulM, oEq, oNe, oEqS, oNeS, oIn, oNin, eChain, oIx, oSet, cLen, cList, cListM, cTuple, cSum, cAll, cAny, cInt, cAbs, cMax2, cMin2, cDivmod, cGcd, cIsi, cRepr, lstInts, lstBls, startD, wipeD, List.map_cons, List.map_nil, List.length_cons, List.length_nil, List.cons_append, List.nil_append, List.replicate_succ, List.replicate_zero, List.set_cons_succ, List.set_cons_zero, List.getElem?_cons_succ, List.getElem?_cons_zero, List.filterMap_cons_some, List.filterMap_nil, Nat.reduceAdd, Nat.reduceSub, Nat.sub_self, Nat.reduceLT, Nat.reduceMul, Nat.zero_add, Nat.add_zero, if_true, if_false, and_true, true_and, and_false, false_and, or_true, true_or, or_false, false_or, not_true_eq_false, not_false_eq_true, Bool.not_true, Bool.not_false, Bool.false_eq_true, ite_true, ite_false, reduceIte, reduceCtorEq, eq_self, aStar, eLstRg, eDicT0, eDixT, gSubsT, keysOf, cListT, cSortedP, oSubB, oMulT, iZip2G, eDic0, eDic1, oDix, oDin, oDnin, oDset, iKeysG, cSortedE, cListD, Gx.keyOf, cMaxL, cMinL, cSortedI, mIndex, rs_N, rs_W, rs_Row, rs_S, rs_R, rs_B, it_N, it_W, it_Row, it_S, it_R, sq_W, sq_Row, sq_S, td_N, td_W, td_Row, td_S, rs_I, it_I, sq_I, td_I, rs_Ss, it_Ss, sq_Ss, td_Ss, cu_S, cu_W, cu_Row, atI_0, atI_1, $xs,*])
/-! ### there is one table of heights alone -/
/-! ### where moves lead, by the law -/
/-! ### heights by turns -/
structure HtQ (ms : Gr) (f : List (Option Nat)) : Prop where
  len : f.length = ms.length
  so : ∀ i v, i < ms.length → f.getD i none = some v → ∀ j ∈ rw' ms i, ∃ w, f.getD j none = some w ∧ w < v
  ex : ∀ i v, i < ms.length → f.getD i none = some v → (rw' ms i = [] ∧ v = 0) ∨ ∃ j ∈ rw' ms i, ∃ w, f.getD j none = some w ∧ v = w + 1
/-- a height that can be told -/
structure Fr (ms : Gr) (f : List (Option Nat)) (i v : Nat) : Prop where
  no : f.getD i none = none
  so : ∀ j ∈ rw' ms i, ∃ w, f.getD j none = some w ∧ w < v
  ex : (rw' ms i = [] ∧ v = 0) ∨ ∃ j ∈ rw' ms i, ∃ w, f.getD j none = some w ∧ v = w + 1
def Ups (f g : List (Option Nat)) : Prop := ∀ j w, f.getD j none = some w → g.getD j none = some w
theorem Fr.up {f g : List (Option Nat)} {i v : Nat} (h : Fr ms f i v) (u : Ups f g) (no : g.getD i none = none) : Fr ms g i v := by
  refine ⟨no, fun j hj => ?_, ?_⟩
  · obtain ⟨w, e, l⟩ := h.so j hj
    exact ⟨w, u j w e, l⟩
  · rcases h.ex with h | ⟨j, hj, w, e, l⟩
    · exact .inl h
    · exact .inr ⟨j, hj, w, u j w e, l⟩
theorem HtQ.set {f : List (Option Nat)} (h : HtQ ms f) {i v : Nat} (hi : i < ms.length) (q : Fr ms f i v) : HtQ ms (f.set i (some v)) ∧ Ups f (f.set i (some v)) := by
  have hl : i < f.length := by rw [h.len]; exact hi
  have keep : Ups f (f.set i (some v)) := fun j w e1 => by rw [getD_setO hl, if_neg (fun z => by rw [z, q.no] at e1; cases e1), e1]
  refine ⟨⟨by rw [List.length_set]; exact h.len, fun a u ha z j hj => ?_, fun a u ha z => ?_⟩, keep⟩
  · rw [getD_setO hl] at z
    by_cases y : a = i
    · rw [if_pos y] at z
      cases z
      rw [y] at hj
      obtain ⟨w, e1, l⟩ := q.so j hj
      exact ⟨w, keep j w e1, l⟩
    · rw [if_neg y] at z
      obtain ⟨w, e1, l⟩ := h.so a u ha z j hj
      exact ⟨w, keep j w e1, l⟩
  · rw [getD_setO hl] at z
    by_cases y : a = i
    · rw [if_pos y] at z
      cases z
      rw [y]
      rcases q.ex with h1 | ⟨j, hj, w, e1, l⟩
      · exact .inl h1
      · exact .inr ⟨j, hj, w, keep j w e1, l⟩
    · rw [if_neg y] at z
      rcases h.ex a u ha z with h1 | ⟨j, hj, w, e1, l⟩
      · exact .inl h1
      · exact .inr ⟨j, hj, w, keep j w e1, l⟩
end Gx

--W2
/-! Gx, data side 46: heights or a round. -/
namespace Gx
open PySem L2
local macro_rules | `(tactic| simp_arith [$xs,*]) => `(tactic| try simp only [eVar, eC, eBin, eUn, tBl, tAnd', tOr', tNot', eAnd, eOr, eNot, eIf, aNil, aCons, eTup, eLst, eLstM, eCall, eCallK, pick, sNext, sSeq, sBreak, sCont, sDrop, sRet, sRetN, sIf, sNever, gNm, gsNil, gsCons, gTupl, gSubs, sAsg, sPar, sPar3, sFor, iSeq, seqG_tup, seqG_lst, seqG_scr, iRange1, iRange2, iEnumG, iZipG, td_tup, td_lst, td_scr, eLc, eLcM, tYes', pNone, pSome, eSl, cu_tup, cu_lst, cu_scr, eMt, eMt0, mAppend, isL, rs_non, rs_bl, rs_int, rs_str, rs_tup, rs_lst', rs_scr, itemsOf_tup, itemsOf_lst, itemsOf_scr, oI, oI0, oSub, oFdiv, oMod, oPow, oShl, oShr, oAnd, oOr, oXor, oLt, oLe, oGt, oGe, oNeg, oIsN, oNotN, Gx.isNon, oAdd, oAdd', oMul, oMul', oMulM, oEq, oNe, oEqS, oNeS, oIn, oNin, eChain, oIx, oSet, cLen, cList, cListM, cTuple, cSum, cAll, cAny, cInt, cAbs, cMax2, cMin2, cDivmod, cGcd, cIsi, cRepr, lstInts, lstBls, startD, wipeD, List.map_cons, List.map_nil, List.length_cons, List.length_nil, List.cons_append, List.nil_append, List.replicate_succ, List.replicate_zero, List.set_cons_succ, List.set_cons_zero, List.getElem?_cons_succ, List.getElem?_cons_zero, List.filterMap_cons_some, List.filterMap_nil, Nat.reduceAdd, Nat.reduceSub, Nat.sub_self, Nat.reduceLT, Nat.reduceMul, Nat.zero_add, Nat.add_zero, if_true, if_false, and_true, true_and, and_false, false_and, or_true, true_or, or_false, false_or, not_true_eq_false, not_false_eq_true, Bool.not_true, Bool.not_false, Bool.false_eq_true, ite_true, ite_false, reduceIte, reduceCtorEq, eq_self, aStar, eLstRg, eDicT0, eDixT, gSubsT, keysOf, cListT, cSortedP, oSubB, oMulT, iZip2G, eDic0, eDic1, oDix, oDin, oDnin, oDset, iKeysG, cSortedE, cListD, Gx.keyOf, cMaxL, cMinL, cSortedI, mIndex, $xs,*])
/-! ### the walks -/
end Gx

--W2
/-! Gx, data side 47: what is come to from some states, and ways back: the plain law. -/
namespace Gx
open PySem L2
section
variable {ms : Gr} {L0 : List Nat}
/-! ### ways back -/
/-- whom one is come to behind -/
def wbk (a : List (Nat × Nat)) (x : Nat) : Option Nat := (a.find? fun p => decide (p.1 = x)).map (·.2)
def wb (a : List (Nat × Nat)) : Nat → List Nat → List Nat
  | 0, w => w
  | m + 1, w => match wbk a (w.headD 0) with
    | some y => wb a m (y :: w)
    | none => w
/-! ### on, round -/
end
end Gx

--W2
/-! Gx, data side 48: coming back: the package's walks. -/
namespace Gx
open PySem L2
local macro_rules | `(tactic| simp_arith [$xs,*]) => `(tactic| try simp only [eVar, eC, eBin, eUn, tBl, tAnd', tOr', tNot', eAnd, eOr, eNot, eIf, aNil, aCons, eTup, eLst, eLstM, eCall, eCallK, pick, sNext, sSeq, sBreak, sCont, sDrop, sRet, sRetN, sIf, sNever, gNm, gsNil, gsCons, gTupl, gSubs, sAsg, sPar, sPar3, sFor, iSeq, seqG_tup, seqG_lst, seqG_scr, iRange1, iRange2, iEnumG, iZipG, td_tup, td_lst, td_scr, eLc, eLcM, tYes', pNone, pSome, eSl, cu_tup, cu_lst, cu_scr, eMt, eMt0, mAppend, isL, rs_non, rs_bl, rs_int, rs_str, rs_tup, rs_lst', rs_scr, itemsOf_tup, itemsOf_lst, itemsOf_scr, oI, oI0, oSub, oFdiv, oMod, oPow, oShl, oShr, oAnd, oOr, oXor, oLt, oLe, oGt, oGe, oNeg, oIsN, oNotN, Gx.isNon, oAdd, oAdd', oMul, oMul', oMulM, oEq, oNe, oEqS, oNeS, oIn, oNin, eChain, oIx, oSet, cLen, cList, cListM, cTuple, cSum, cAll, cAny, cInt, cAbs, cMax2, cMin2, cDivmod, cGcd, cIsi, cRepr, lstInts, lstBls, startD, wipeD, List.map_cons, List.map_nil, List.length_cons, List.length_nil, List.cons_append, List.nil_append, List.replicate_succ, List.replicate_zero, List.set_cons_succ, List.set_cons_zero, List.getElem?_cons_succ, List.getElem?_cons_zero, List.filterMap_cons_some, List.filterMap_nil, Nat.reduceAdd, Nat.reduceSub, Nat.sub_self, Nat.reduceLT, Nat.reduceMul, Nat.zero_add, Nat.add_zero, if_true, if_false, and_true, true_and, and_false, false_and, or_true, true_or, or_false, false_or, not_true_eq_false, not_false_eq_true, Bool.not_true, Bool.not_false, Bool.false_eq_true, ite_true, ite_false, reduceIte, reduceCtorEq, eq_self, aStar, eLstRg, eDicT0, eDixT, gSubsT, keysOf, cListT, cSortedP, oSubB, oMulT, iZip2G, eDic0, eDic1, oDix, oDin, oDnin, oDset, iKeysG, cSortedE, cListD, Gx.keyOf, cMaxL, cMinL, cSortedI, mIndex, $xs,*])
local macro_rules | `(tactic| simp_arith! [$xs,*]) => `(tactic| try simp only [eVar, eC, eBin, eUn, tBl, tAnd', tOr', tNot', eAnd, eOr, eNot, eIf, aNil, aCons, eTup, eLst, eLstM, eCall, eCallK, pick, sNext, sSeq, sBreak, sCont, sDrop, sRet, sRetN, sIf, sNever, gNm, gsNil, gsCons, gTupl, gSubs, sAsg, sPar, sPar3, sFor, iSeq, seqG_tup, seqG_lst, seqG_scr, iRange1, iRange2, iEnumG, iZipG, td_tup, td_lst, td_scr, eLc, eLcM, tYes', pNone, pSome, eSl, cu_tup, cu_lst, cu_scr, eMt, eMt0, mAppend, isL, rs_non, rs_bl, rs_int, rs_str, rs_tup, rs_lst', rs_scr, itemsOf_tup, itemsOf_lst, itemsOf_scr, oI, oI0, oSub, oFdiv, oMod, oPow, oShl, oShr, oAnd, oOr, oXor, oLt, oLe, oGt, oGe, oNeg, oIsN, oNotN, Gx.isNon, oAdd, oAdd', oMul, oMul', oMulM, oEq, oNe, oEqS, oNeS, oIn, oNin, eChain, oIx, oSet, cLen, cList, cListM, cTuple, cSum, cAll, cAny, cInt, cAbs, cMax2, cMin2, cDivmod, cGcd, cIsi, cRepr, lstInts, lstBls, startD, wipeD, List.map_cons, List.map_nil, List.length_cons, List.length_nil, List.cons_append, List.nil_append, List.replicate_succ, List.replicate_zero, List.set_cons_succ, List.set_cons_zero, List.getElem?_cons_succ, List.getElem?_cons_zero, List.filterMap_cons_some, List.filterMap_nil, Nat.reduceAdd, Nat.reduceSub, Nat.sub_self, Nat.reduceLT, Nat.reduceMul, Nat.zero_add, Nat.add_zero, if_true, if_false, and_true, true_and, and_false, false_and, or_true, true_or, or_false, false_or, not_true_eq_false, not_false_eq_true, Bool.not_true, Bool.not_false, Bool.false_eq_true, ite_true, ite_false, reduceIte, reduceCtorEq, eq_self, aStar, eLstRg, eDicT0, eDixT, gSubsT, keysOf, cListT, cSortedP, oSubB, oMulT, iZip2G, eDic0, eDic1, oDix, oDin, oDnin, oDset, iKeysG, cSortedE, cListD, Gx.keyOf, cMaxL, cMinL, cSortedI, mIndex, rs_N, rs_W, rs_Row, rs_S, rs_R, rs_B, it_N, it_W, it_Row, it_S, it_R, sq_W, sq_Row, sq_S, td_N, td_W, td_Row, td_S, rs_I, it_I, sq_I, td_I, rs_Ss, it_Ss, sq_Ss, td_Ss, cu_S, cu_W, cu_Row, atI_0, atI_1, $xs,*])
/-! ### from behind -/
/-! ### how unlike two states are -/
/-! ### walked on -/
end Gx

--W2
/-! Gx, data side 49: rows away. -/
namespace Gx
open PySem L2
local macro_rules | `(tactic| simp_arith [$xs,*]) => `(tactic| try simp only [eVar, eC, eBin, eUn, tBl, tAnd', tOr', tNot', eAnd, eOr, eNot, eIf, aNil, aCons, eTup, eLst, eLstM, eCall, eCallK, pick, sNext, sSeq, sBreak, sCont, sDrop, sRet, sRetN, sIf, sNever, gNm, gsNil, gsCons, gTupl, gSubs, sAsg, sPar, sPar3, sFor, iSeq, seqG_tup, seqG_lst, seqG_scr, iRange1, iRange2, iEnumG, iZipG, td_tup, td_lst, td_scr, eLc, eLcM, tYes', pNone, pSome, eSl, cu_tup, cu_lst, cu_scr, eMt, eMt0, mAppend, isL, rs_non, rs_bl, rs_int, rs_str, rs_tup, rs_lst', rs_scr, itemsOf_tup, itemsOf_lst, itemsOf_scr, oI, oI0, oSub, oFdiv, oMod, oPow, oShl, oShr, oAnd, oOr, oXor, oLt, oLe, oGt, oGe, oNeg, oIsN, oNotN, Gx.isNon, oAdd, oAdd', oMul, oMul', oMulM, oEq, oNe, oEqS, oNeS, oIn, oNin, eChain, oIx, oSet, cLen, cList, cListM, cTuple, cSum, cAll, cAny, cInt, cAbs, cMax2, cMin2, cDivmod, cGcd, cIsi, cRepr, lstInts, lstBls, startD, wipeD, List.map_cons, List.map_nil, List.length_cons, List.length_nil, List.cons_append, List.nil_append, List.replicate_succ, List.replicate_zero, List.set_cons_succ, List.set_cons_zero, List.getElem?_cons_succ, List.getElem?_cons_zero, List.filterMap_cons_some, List.filterMap_nil, Nat.reduceAdd, Nat.reduceSub, Nat.sub_self, Nat.reduceLT, Nat.reduceMul, Nat.zero_add, Nat.add_zero, if_true, if_false, and_true, true_and, and_false, false_and, or_true, true_or, or_false, false_or, not_true_eq_false, not_false_eq_true, Bool.not_true, Bool.not_false, Bool.false_eq_true, ite_true, ite_false, reduceIte, reduceCtorEq, eq_self, aStar, eLstRg, eDicT0, eDixT, gSubsT, keysOf, cListT, cSortedP, oSubB, oMulT, iZip2G, eDic0, eDic1, oDix, oDin, oDnin, oDset, iKeysG, cSortedE, cListD, Gx.keyOf, cMaxL, cMinL, cSortedI, mIndex, $xs,*])
def way (a : List (Nat × Nat)) (x : Nat) : List Nat := wb a a.length [x]
/-! ### where it goes wrong -/
/-! ### on and round -/
/-! ### numbers away -/
end Gx

--W2
/-! Gx, data side 50: coming back: what the package tells. -/
namespace Gx
open PySem L2
local macro_rules | `(tactic| simp_arith [$xs,*]) => `(tactic| try simp only [eVar, eC, eBin, eUn, tBl, tAnd', tOr', tNot', eAnd, eOr, eNot, eIf, aNil, aCons, eTup, eLst, eLstM, eCall, eCallK, pick, sNext, sSeq, sBreak, sCont, sDrop, sRet, sRetN, sIf, sNever, gNm, gsNil, gsCons, gTupl, gSubs, sAsg, sPar, sPar3, sFor, iSeq, seqG_tup, seqG_lst, seqG_scr, iRange1, iRange2, iEnumG, iZipG, td_tup, td_lst, td_scr, eLc, eLcM, tYes', pNone, pSome, eSl, cu_tup, cu_lst, cu_scr, eMt, eMt0, mAppend, isL, rs_non, rs_bl, rs_int, rs_str, rs_tup, rs_lst', rs_scr, itemsOf_tup, itemsOf_lst, itemsOf_scr, oI, oI0, oSub, oFdiv, oMod, oPow, oShl, oShr, oAnd, oOr, oXor, oLt, oLe, oGt, oGe, oNeg, oIsN, oNotN, Gx.isNon, oAdd, oAdd', oMul, oMul', oMulM, oEq, oNe, oEqS, oNeS, oIn, oNin, eChain, oIx, oSet, cLen, cList, cListM, cTuple, cSum, cAll, cAny, cInt, cAbs, cMax2, cMin2, cDivmod, cGcd, cIsi, cRepr, lstInts, lstBls, startD, wipeD, List.map_cons, List.map_nil, List.length_cons, List.length_nil, List.cons_append, List.nil_append, List.replicate_succ, List.replicate_zero, List.set_cons_succ, List.set_cons_zero, List.getElem?_cons_succ, List.getElem?_cons_zero, List.filterMap_cons_some, List.filterMap_nil, Nat.reduceAdd, Nat.reduceSub, Nat.sub_self, Nat.reduceLT, Nat.reduceMul, Nat.zero_add, Nat.add_zero, if_true, if_false, and_true, true_and, and_false, false_and, or_true, true_or, or_false, false_or, not_true_eq_false, not_false_eq_true, Bool.not_true, Bool.not_false, Bool.false_eq_true, ite_true, ite_false, reduceIte, reduceCtorEq, eq_self, aStar, eLstRg, eDicT0, eDixT, gSubsT, keysOf, cListT, cSortedP, oSubB, oMulT, iZip2G, eDic0, eDic1, oDix, oDin, oDnin, oDset, iKeysG, cSortedE, cListD, Gx.keyOf, cMaxL, cMinL, cSortedI, mIndex, $xs,*])
def γ_check_many : OL := fun ds S R => ∃ v lo hi : Int, ds = [.int v, .int lo, .int hi] ∧ (lo ≤ v ∧ v ≤ hi) ∧ R .non S
def body_check_many (γ_is_between : OL) : ST := sIf (tNot' (tBl (eCall γ_is_between (aCons (eVar 0) (aCons (eVar 1) (aCons (eVar 2) (aNil))))))) (sNever) (sNext)
end Gx

--W2
/-! Gx, data side 51: coming back, by the law. -/
namespace Gx
open PySem L2
local macro_rules | `(tactic| simp_arith [$xs,*]) => `(tactic| try simp only [eVar, eC, eBin, eUn, tBl, tAnd', tOr', tNot', eAnd, eOr, eNot, eIf, aNil, aCons, eTup, eLst, eLstM, eCall, eCallK, pick, sNext, sSeq, sBreak, sCont, sDrop, sRet, sRetN, sIf, sNever, gNm, gsNil, gsCons, gTupl, gSubs, sAsg, sPar, sPar3, sFor, iSeq, seqG_tup, seqG_lst, seqG_scr, iRange1, iRange2, iEnumG, iZipG, td_tup, td_lst, td_scr, eLc, eLcM, tYes', pNone, pSome, eSl, cu_tup, cu_lst, cu_scr, eMt, eMt0, mAppend, isL, rs_non, rs_bl, rs_int, rs_str, rs_tup, rs_lst', rs_scr, itemsOf_tup, itemsOf_lst, itemsOf_scr, oI, oI0, oSub, oFdiv, oMod, oPow, oShl, oShr, oAnd, oOr, oXor, oLt, oLe, oGt, oGe, oNeg, oIsN, oNotN, Gx.isNon, oAdd, oAdd', oMul, oMul', oMulM, oEq, oNe, oEqS, oNeS, oIn, oNin, eChain, oIx, oSet, cLen, cList, cListM, cTuple, cSum, cAll, cAny, cInt, cAbs, cMax2, cMin2, cDivmod, cGcd, cIsi, cRepr, lstInts, lstBls, startD, wipeD, List.map_cons, List.map_nil, List.length_cons, List.length_nil, List.cons_append, List.nil_append, List.replicate_succ, List.replicate_zero, List.set_cons_succ, List.set_cons_zero, List.getElem?_cons_succ, List.getElem?_cons_zero, List.filterMap_cons_some, List.filterMap_nil, Nat.reduceAdd, Nat.reduceSub, Nat.sub_self, Nat.reduceLT, Nat.reduceMul, Nat.zero_add, Nat.add_zero, if_true, if_false, and_true, true_and, and_false, false_and, or_true, true_or, or_false, false_or, not_true_eq_false, not_false_eq_true, Bool.not_true, Bool.not_false, Bool.false_eq_true, ite_true, ite_false, reduceIte, reduceCtorEq, eq_self, aStar, eLstRg, eDicT0, eDixT, gSubsT, keysOf, cListT, cSortedP, oSubB, oMulT, iZip2G, eDic0, eDic1, oDix, oDin, oDnin, oDset, iKeysG, cSortedE, cListD, Gx.keyOf, cMaxL, cMinL, cSortedI, mIndex, $xs,*])
local macro_rules | `(tactic| simp_arith! [$xs,*]) => `(tactic| try simp only [eVar, eC, eBin, eUn, tBl, tAnd', tOr', tNot', eAnd, eOr, eNot, eIf, aNil, aCons, eTup, eLst, eLstM, eCall, eCallK, pick, sNext, sSeq, sBreak, sCont, sDrop, sRet, sRetN, sIf, sNever, gNm, gsNil, gsCons, gTupl, gSubs, sAsg, sPar, sPar3, sFor, iSeq, seqG_tup, seqG_lst, seqG_scr, iRange1, iRange2, iEnumG, iZipG, td_tup, td_lst, td_scr, eLc, eLcM, tYes', pNone, pSome, eSl, cu_tup, cu_lst, cu_scr, eMt, eMt0, mAppend, isL, rs_non, rs_bl, rs_int, rs_str, rs_tup, rs_lst', rs_scr, itemsOf_tup, itemsOf_lst, itemsOf_scr, oI, oI0, oSub, oFdiv, oMod, oPow, oShl, oShr, oAnd, oOr, oXor, oLt, oLe, oGt, oGe, oNeg, oIsN, oNotN, Gx.isNon, oAdd, oAdd', oMul, oMul', oMulM, oEq, oNe, oEqS, oNeS, oIn, oNin, eChain, oIx, oSet, cLen, cList, cListM, cTuple, cSum, cAll, cAny, cInt, cAbs, cMax2, cMin2, cDivmod, cGcd, cIsi, cRepr, lstInts, lstBls, startD, wipeD, List.map_cons, List.map_nil, List.length_cons, List.length_nil, List.cons_append, List.nil_append, List.replicate_succ, List.replicate_zero, List.set_cons_succ, List.set_cons_zero, List.getElem?_cons_succ, List.getElem?_cons_zero, List.filterMap_cons_some, List.filterMap_nil, Nat.reduceAdd, Nat.reduceSub, Nat.sub_self, Nat.reduceLT, Nat.reduceMul, Nat.zero_add, Nat.add_zero, if_true, if_false, and_true, true_and, and_false, false_and, or_true, true_or, or_false, false_or, not_true_eq_false, not_false_eq_true, Bool.not_true, Bool.not_false, Bool.false_eq_true, ite_true, ite_false, reduceIte, reduceCtorEq, eq_self, aStar, eLstRg, eDicT0, eDixT, gSubsT, keysOf, cListT, cSortedP, oSubB, oMulT, iZip2G, eDic0, eDic1, oDix, oDin, oDnin, oDset, iKeysG, cSortedE, cListD, Gx.keyOf, cMaxL, cMinL, cSortedI, mIndex, rs_N, rs_W, rs_Row, rs_S, rs_R, rs_B, it_N, it_W, it_Row, it_S, it_R, sq_W, sq_Row, sq_S, td_N, td_W, td_Row, td_S, rs_I, it_I, sq_I, td_I, rs_Ss, it_Ss, sq_Ss, td_Ss, cu_S, cu_W, cu_Row, atI_0, atI_1, $xs,*])
/-! ### how unlike -/
/-! ### what is come to -/
/-! ### whether it comes back -/
/-! ### a told row away -/
end Gx

--W2
/-! Gx, data side 52: a told row away, by the law. -/
namespace Gx
open PySem L2
local macro_rules | `(tactic| simp_arith [$xs,*]) => `(tactic| try simp only [eVar, eC, eBin, eUn, tBl, tAnd', tOr', tNot', eAnd, eOr, eNot, eIf, aNil, aCons, eTup, eLst, eLstM, eCall, eCallK, pick, sNext, sSeq, sBreak, sCont, sDrop, sRet, sRetN, sIf, sNever, gNm, gsNil, gsCons, gTupl, gSubs, sAsg, sPar, sPar3, sFor, iSeq, seqG_tup, seqG_lst, seqG_scr, iRange1, iRange2, iEnumG, iZipG, td_tup, td_lst, td_scr, eLc, eLcM, tYes', pNone, pSome, eSl, cu_tup, cu_lst, cu_scr, eMt, eMt0, mAppend, isL, rs_non, rs_bl, rs_int, rs_str, rs_tup, rs_lst', rs_scr, itemsOf_tup, itemsOf_lst, itemsOf_scr, oI, oI0, oSub, oFdiv, oMod, oPow, oShl, oShr, oAnd, oOr, oXor, oLt, oLe, oGt, oGe, oNeg, oIsN, oNotN, Gx.isNon, oAdd, oAdd', oMul, oMul', oMulM, oEq, oNe, oEqS, oNeS, oIn, oNin, eChain, oIx, oSet, cLen, cList, cListM, cTuple, cSum, cAll, cAny, cInt, cAbs, cMax2, cMin2, cDivmod, cGcd, cIsi, cRepr, lstInts, lstBls, startD, wipeD, List.map_cons, List.map_nil, List.length_cons, List.length_nil, List.cons_append, List.nil_append, List.replicate_succ, List.replicate_zero, List.set_cons_succ, List.set_cons_zero, List.getElem?_cons_succ, List.getElem?_cons_zero, List.filterMap_cons_some, List.filterMap_nil, Nat.reduceAdd, Nat.reduceSub, Nat.sub_self, Nat.reduceLT, Nat.reduceMul, Nat.zero_add, Nat.add_zero, if_true, if_false, and_true, true_and, and_false, false_and, or_true, true_or, or_false, false_or, not_true_eq_false, not_false_eq_true, Bool.not_true, Bool.not_false, Bool.false_eq_true, ite_true, ite_false, reduceIte, reduceCtorEq, eq_self, aStar, eLstRg, eDicT0, eDixT, gSubsT, keysOf, cListT, cSortedP, oSubB, oMulT, iZip2G, eDic0, eDic1, oDix, oDin, oDnin, oDset, iKeysG, cSortedE, cListD, Gx.keyOf, cMaxL, cMinL, cSortedI, mIndex, $xs,*])
local macro_rules | `(tactic| simp_arith! [$xs,*]) => `(tactic| try simp only [eVar, eC, eBin, eUn, tBl, tAnd', tOr', tNot', eAnd, eOr, eNot, eIf, aNil, aCons, eTup, eLst, eLstM, eCall, eCallK, pick, sNext, sSeq, sBreak, sCont, sDrop, sRet, sRetN, sIf, sNever, gNm, gsNil, gsCons, gTupl, gSubs, sAsg, sPar, sPar3, sFor, iSeq, seqG_tup, seqG_lst, seqG_scr, iRange1, iRange2, iEnumG, iZipG, td_tup, td_lst, td_scr, eLc, eLcM, tYes', pNone, pSome, eSl, cu_tup, cu_lst, cu_scr, eMt, eMt0, mAppend, isL, rs_non, rs_bl, rs_int, rs_str, rs_tup, rs_lst', rs_scr, itemsOf_tup, itemsOf_lst, itemsOf_scr, oI, oI0, oSub, oFdiv, oMod, oPow, oShl, oShr, oAnd, oOr, oXor, oLt, oLe, oGt, oGe, oNeg, oIsN, oNotN, Gx.isNon, oAdd, oAdd', oMul, oMul', oMulM, oEq, oNe, oEqS, oNeS, oIn, oNin, eChain, oIx, oSet, cLen, cList, cListM, cTuple, cSum, cAll, cAny, cInt, cAbs, cMax2, cMin2, cDivmod, cGcd, cIsi, cRepr, lstInts, lstBls, startD, wipeD, List.map_cons, List.map_nil, List.length_cons, List.length_nil, List.cons_append, List.nil_append, List.replicate_succ, List.replicate_zero, List.set_cons_succ, List.set_cons_zero, List.getElem?_cons_succ, List.getElem?_cons_zero, List.filterMap_cons_some, List.filterMap_nil, Nat.reduceAdd, Nat.reduceSub, Nat.sub_self, Nat.reduceLT, Nat.reduceMul, Nat.zero_add, Nat.add_zero, if_true, if_false, and_true, true_and, and_false, false_and, or_true, true_or, or_false, false_or, not_true_eq_false, not_false_eq_true, Bool.not_true, Bool.not_false, Bool.false_eq_true, ite_true, ite_false, reduceIte, reduceCtorEq, eq_self, aStar, eLstRg, eDicT0, eDixT, gSubsT, keysOf, cListT, cSortedP, oSubB, oMulT, iZip2G, eDic0, eDic1, oDix, oDin, oDnin, oDset, iKeysG, cSortedE, cListD, Gx.keyOf, cMaxL, cMinL, cSortedI, mIndex, rs_N, rs_W, rs_Row, rs_S, rs_R, rs_B, it_N, it_W, it_Row, it_S, it_R, sq_W, sq_Row, sq_S, td_N, td_W, td_Row, td_S, rs_I, it_I, sq_I, td_I, rs_Ss, it_Ss, sq_Ss, td_Ss, cu_S, cu_W, cu_Row, atI_0, atI_1, $xs,*])
end Gx

--W2
/-! Gx, data side 53: nets that lean on their scales. -/
namespace Gx
open PySem L2
local macro_rules | `(tactic| simp_arith [$xs,*]) => `(tactic| try simp only [eVar, eC, eBin, eUn, tBl, tAnd', tOr', tNot', eAnd, eOr, eNot, eIf, aNil, aCons, eTup, eLst, eLstM, eCall, eCallK, pick, sNext, sSeq, sBreak, sCont, sDrop, sRet, sRetN, sIf, sNever, gNm, gsNil, gsCons, gTupl, gSubs, sAsg, sPar, sPar3, sFor, iSeq, seqG_tup, seqG_lst, seqG_scr, iRange1, iRange2, iEnumG, iZipG, td_tup, td_lst, td_scr, eLc, eLcM, tYes', pNone, pSome, eSl, cu_tup, cu_lst, cu_scr, eMt, eMt0, mAppend, isL, rs_non, rs_bl, rs_int, rs_str, rs_tup, rs_lst', rs_scr, itemsOf_tup, itemsOf_lst, itemsOf_scr, oI, oI0, oSub, oFdiv, oMod, oPow, oShl, oShr, oAnd, oOr, oXor, oLt, oLe, oGt, oGe, oNeg, oIsN, oNotN, Gx.isNon, oAdd, oAdd', oMul, oMul', oMulM, oEq, oNe, oEqS, oNeS, oIn, oNin, eChain, oIx, oSet, cLen, cList, cListM, cTuple, cSum, cAll, cAny, cInt, cAbs, cMax2, cMin2, cDivmod, cGcd, cIsi, cRepr, lstInts, lstBls, startD, wipeD, List.map_cons, List.map_nil, List.length_cons, List.length_nil, List.cons_append, List.nil_append, List.replicate_succ, List.replicate_zero, List.set_cons_succ, List.set_cons_zero, List.getElem?_cons_succ, List.getElem?_cons_zero, List.filterMap_cons_some, List.filterMap_nil, Nat.reduceAdd, Nat.reduceSub, Nat.sub_self, Nat.reduceLT, Nat.reduceMul, Nat.zero_add, Nat.add_zero, if_true, if_false, and_true, true_and, and_false, false_and, or_true, true_or, or_false, false_or, not_true_eq_false, not_false_eq_true, Bool.not_true, Bool.not_false, Bool.false_eq_true, ite_true, ite_false, reduceIte, reduceCtorEq, eq_self, aStar, eLstRg, eDicT0, eDixT, gSubsT, keysOf, cListT, cSortedP, oSubB, oMulT, iZip2G, eDic0, eDic1, oDix, oDin, oDnin, oDset, iKeysG, cSortedE, cListD, Gx.keyOf, cMaxL, cMinL, cSortedI, mIndex, $xs,*])
local macro_rules | `(tactic| simp_arith! [$xs,*]) => `(tactic| try simp only [eVar, eC, eBin, eUn, tBl, tAnd', tOr', tNot', eAnd, eOr, eNot, eIf, aNil, aCons, eTup, eLst, eLstM, eCall, eCallK, pick, sNext, sSeq, sBreak, sCont, sDrop, sRet, sRetN, sIf, sNever, gNm, gsNil, gsCons, gTupl, gSubs, sAsg, sPar, sPar3, sFor, iSeq, seqG_tup, seqG_lst, seqG_scr, iRange1, iRange2, iEnumG, iZipG, td_tup, td_lst, td_scr, eLc, eLcM, tYes', pNone, pSome, eSl, cu_tup, cu_lst, cu_scr, eMt, eMt0, mAppend, isL, rs_non, rs_bl, rs_int, rs_str, rs_tup, rs_lst', rs_scr, itemsOf_tup, itemsOf_lst, itemsOf_scr, oI, oI0, oSub, oFdiv, oMod, oPow, oShl, oShr, oAnd, oOr, oXor, oLt, oLe, oGt, oGe, oNeg, oIsN, oNotN, Gx.isNon, oAdd, oAdd', oMul, oMul', oMulM, oEq, oNe, oEqS, oNeS, oIn, oNin, eChain, oIx, oSet, cLen, cList, cListM, cTuple, cSum, cAll, cAny, cInt, cAbs, cMax2, cMin2, cDivmod, cGcd, cIsi, cRepr, lstInts, lstBls, startD, wipeD, List.map_cons, List.map_nil, List.length_cons, List.length_nil, List.cons_append, List.nil_append, List.replicate_succ, List.replicate_zero, List.set_cons_succ, List.set_cons_zero, List.getElem?_cons_succ, List.getElem?_cons_zero, List.filterMap_cons_some, List.filterMap_nil, Nat.reduceAdd, Nat.reduceSub, Nat.sub_self, Nat.reduceLT, Nat.reduceMul, Nat.zero_add, Nat.add_zero, if_true, if_false, and_true, true_and, and_false, false_and, or_true, true_or, or_false, false_or, not_true_eq_false, not_false_eq_true, Bool.not_true, Bool.not_false, Bool.false_eq_true, ite_true, ite_false, reduceIte, reduceCtorEq, eq_self, aStar, eLstRg, eDicT0, eDixT, gSubsT, keysOf, cListT, cSortedP, oSubB, oMulT, iZip2G, eDic0, eDic1, oDix, oDin, oDnin, oDset, iKeysG, cSortedE, cListD, Gx.keyOf, cMaxL, cMinL, cSortedI, mIndex, rs_N, rs_W, rs_Row, rs_S, rs_R, rs_B, it_N, it_W, it_Row, it_S, it_R, sq_W, sq_Row, sq_S, td_N, td_W, td_Row, td_S, rs_I, it_I, sq_I, td_I, rs_Ss, it_Ss, sq_Ss, td_Ss, cu_S, cu_W, cu_Row, atI_0, atI_1, $xs,*])
/-! ### scales -/
structure Sc3 (q : Rat) : Prop where
  ne : q ≠ 0
  bd : Bd 2 2 q
  inv : Bd 3 2 q⁻¹
def third : Rat := ⟨1, 3, by decide, by decide⟩
def two : Rat := ⟨2, 1, by decide, by decide⟩
/-! ### what stands there -/
abbrev LP : Rat → Prop := Bd 9 3
structure Ln (n : Nat) (p p4 p5 p6 p7 : Addr) (qs : List Addr) (S0 S : Sto) (ws : List (List Rat)) (sg : List Int) (sc : List Rat) : Prop where
  f : Fil n p p4 qs S0 S ws
  o5 : Own p S0 p5
  o6 : Own p S0 p6
  o7 : Own p S0 p7
  n5 : p5 ∉ qs
  n6 : p6 ∉ qs
  n7 : p7 ∉ qs
  at5 : S p5 = some (.lst (sg.map .int))
  at6 : S p6 = some (.lst (sc.map encR))
  at7 : S p7 = some (.lst [])
  hb : ∀ a b, a < n → b < n → LP (ent ws a b)
  hd : ∀ a, a < n → ent ws a a = 0
theorem Ln.drw {n : Nat} {p p4 p5 p6 p7 : Addr} {qs : List Addr} {S0 S S' : Sto} {ws : List (List Rat)} {sg : List Int} {sc : List Rat} (l : Ln n p p4 p5 p6 p7 qs S0 S ws sg sc) (d : Drw p S S') : Ln n p p4 p5 p6 p7 qs S0 S' ws sg sc :=
  ⟨l.f.drw d, l.o5, l.o6, l.o7, l.n5, l.n6, l.n7, by rw [d.at l.o5.2]; exact l.at5, by rw [d.at l.o6.2]; exact l.at6, by rw [d.at l.o7.2]; exact l.at7, l.hb, l.hd⟩
/-- signs and scales that stand so far -/
structure Sgn (p p5 p6 p7 : Addr) (S0 S : Sto) (sg : List Int) (sc : List Rat) (i j : Nat) : Prop where
  e : Ext p S0 S
  o5 : Own p S0 p5
  o6 : Own p S0 p6
  o7 : Own p S0 p7
  n56 : p5 ≠ p6
  n57 : p5 ≠ p7
  n67 : p6 ≠ p7
  at5 : S p5 = some (.lst (sg.map .int))
  at6 : S p6 = some (.lst (sc.map encR))
  at7 : S p7 = some (.lst [])
  l5 : sg.length = i
  l6 : sc.length = j
  hg : ∀ x ∈ sg, x = 1 ∨ x = -1
  hc : ∀ q ∈ sc, Sc3 q
theorem Sgn.drw {p p5 p6 p7 : Addr} {S0 S S' : Sto} {sg : List Int} {sc : List Rat} {i j : Nat} (g : Sgn p p5 p6 p7 S0 S sg sc i j) (d : Drw p S S') : Sgn p p5 p6 p7 S0 S' sg sc i j :=
  ⟨g.e.drw d, g.o5, g.o6, g.o7, g.n56, g.n57, g.n67, by rw [d.at g.o5.2]; exact g.at5, by rw [d.at g.o6.2]; exact g.at6, by rw [d.at g.o7.2]; exact g.at7, g.l5, g.l6, g.hg, g.hc⟩
/-! ### leads -/
end Gx

/-! Gx, data side 54: drawn nets of the family of k21 .. k32. -/
namespace Gx
open PySem L2
local macro_rules | `(tactic| simp_arith [$xs,*]) => `(tactic| try simp only [eVar, eC, eBin, eUn, tBl, tAnd', tOr', tNot', eAnd, eOr, eNot, eIf, aNil, aCons, eTup, eLst, eLstM, eCall, eCallK, pick, sNext, sSeq, sBreak, sCont, sDrop, sRet, sRetN, sIf, sNever, gNm, gsNil, gsCons, gTupl, gSubs, sAsg, sPar, sPar3, sFor, iSeq, seqG_tup, seqG_lst, seqG_scr, iRange1, iRange2, iEnumG, iZipG, td_tup, td_lst, td_scr, eLc, eLcM, tYes', pNone, pSome, eSl, cu_tup, cu_lst, cu_scr, eMt, eMt0, mAppend, isL, rs_non, rs_bl, rs_int, rs_str, rs_tup, rs_lst', rs_scr, itemsOf_tup, itemsOf_lst, itemsOf_scr, oI, oI0, oSub, oFdiv, oMod, oPow, oShl, oShr, oAnd, oOr, oXor, oLt, oLe, oGt, oGe, oNeg, oIsN, oNotN, Gx.isNon, oAdd, oAdd', oMul, oMul', oMulM, oEq, oNe, oEqS, oNeS, oIn, oNin, eChain, oIx, oSet, cLen, cList, cListM, cTuple, cSum, cAll, cAny, cInt, cAbs, cMax2, cMin2, cDivmod, cGcd, cIsi, cRepr, lstInts, lstBls, startD, wipeD, List.map_cons, List.map_nil, List.length_cons, List.length_nil, List.cons_append, List.nil_append, List.replicate_succ, List.replicate_zero, List.set_cons_succ, List.set_cons_zero, List.getElem?_cons_succ, List.getElem?_cons_zero, List.filterMap_cons_some, List.filterMap_nil, Nat.reduceAdd, Nat.reduceSub, Nat.sub_self, Nat.reduceLT, Nat.reduceMul, Nat.zero_add, Nat.add_zero, if_true, if_false, and_true, true_and, and_false, false_and, or_true, true_or, or_false, false_or, not_true_eq_false, not_false_eq_true, Bool.not_true, Bool.not_false, Bool.false_eq_true, ite_true, ite_false, reduceIte, reduceCtorEq, eq_self, $xs,*])
local macro_rules | `(tactic| simp_arith! [$xs,*]) => `(tactic| try simp only [eVar, eC, eBin, eUn, tBl, tAnd', tOr', tNot', eAnd, eOr, eNot, eIf, aNil, aCons, eTup, eLst, eLstM, eCall, eCallK, pick, sNext, sSeq, sBreak, sCont, sDrop, sRet, sRetN, sIf, sNever, gNm, gsNil, gsCons, gTupl, gSubs, sAsg, sPar, sPar3, sFor, iSeq, seqG_tup, seqG_lst, seqG_scr, iRange1, iRange2, iEnumG, iZipG, td_tup, td_lst, td_scr, eLc, eLcM, tYes', pNone, pSome, eSl, cu_tup, cu_lst, cu_scr, eMt, eMt0, mAppend, isL, rs_non, rs_bl, rs_int, rs_str, rs_tup, rs_lst', rs_scr, itemsOf_tup, itemsOf_lst, itemsOf_scr, oI, oI0, oSub, oFdiv, oMod, oPow, oShl, oShr, oAnd, oOr, oXor, oLt, oLe, oGt, oGe, oNeg, oIsN, oNotN, Gx.isNon, oAdd, oAdd', oMul, oMul', oMulM, oEq, oNe, oEqS, oNeS, oIn, oNin, eChain, oIx, oSet, cLen, cList, cListM, cTuple, cSum, cAll, cAny, cInt, cAbs, cMax2, cMin2, cDivmod, cGcd, cIsi, cRepr, lstInts, lstBls, startD, wipeD, List.map_cons, List.map_nil, List.length_cons, List.length_nil, List.cons_append, List.nil_append, List.replicate_succ, List.replicate_zero, List.set_cons_succ, List.set_cons_zero, List.getElem?_cons_succ, List.getElem?_cons_zero, List.filterMap_cons_some, List.filterMap_nil, Nat.reduceAdd, Nat.reduceSub, Nat.sub_self, Nat.reduceLT, Nat.reduceMul, Nat.zero_add, Nat.add_zero, if_true, if_false, and_true, true_and, and_false, false_and, or_true, true_or, or_false, false_or, not_true_eq_false, not_false_eq_true, Bool.not_true, Bool.not_false, Bool.false_eq_true, ite_true, ite_false, reduceIte, reduceCtorEq, eq_self, rs_N, rs_W, rs_Row, rs_S, rs_R, rs_B, it_N, it_W, it_Row, it_S, it_R, sq_W, sq_Row, sq_S, td_N, td_W, td_Row, td_S, rs_I, it_I, sq_I, td_I, rs_Ss, it_Ss, sq_Ss, td_Ss, cu_S, cu_W, cu_Row, atI_0, atI_1, $xs,*])
end Gx

--W2
/-! Gx, data side 55: pictures, margins. -/
namespace Gx
open PySem L2
local macro_rules | `(tactic| simp_arith [$xs,*]) => `(tactic| try simp only [eVar, eC, eBin, eUn, tBl, tAnd', tOr', tNot', eAnd, eOr, eNot, eIf, aNil, aCons, eTup, eLst, eLstM, eCall, eCallK, pick, sNext, sSeq, sBreak, sCont, sDrop, sRet, sRetN, sIf, sNever, gNm, gsNil, gsCons, gTupl, gSubs, sAsg, sPar, sPar3, sFor, iSeq, seqG_tup, seqG_lst, seqG_scr, iRange1, iRange2, iEnumG, iZipG, td_tup, td_lst, td_scr, eLc, eLcM, tYes', pNone, pSome, eSl, cu_tup, cu_lst, cu_scr, eMt, eMt0, mAppend, isL, rs_non, rs_bl, rs_int, rs_str, rs_tup, rs_lst', rs_scr, itemsOf_tup, itemsOf_lst, itemsOf_scr, oI, oI0, oSub, oFdiv, oMod, oPow, oShl, oShr, oAnd, oOr, oXor, oLt, oLe, oGt, oGe, oNeg, oIsN, oNotN, Gx.isNon, oAdd, oAdd', oMul, oMul', oMulM, oEq, oNe, oEqS, oNeS, oIn, oNin, eChain, oIx, oSet, cLen, cList, cListM, cTuple, cSum, cAll, cAny, cInt, cAbs, cMax2, cMin2, cDivmod, cGcd, cIsi, cRepr, lstInts, lstBls, startD, wipeD, List.map_cons, List.map_nil, List.length_cons, List.length_nil, List.cons_append, List.nil_append, List.replicate_succ, List.replicate_zero, List.set_cons_succ, List.set_cons_zero, List.getElem?_cons_succ, List.getElem?_cons_zero, List.filterMap_cons_some, List.filterMap_nil, Nat.reduceAdd, Nat.reduceSub, Nat.sub_self, Nat.reduceLT, Nat.reduceMul, Nat.zero_add, Nat.add_zero, if_true, if_false, and_true, true_and, and_false, false_and, or_true, true_or, or_false, false_or, not_true_eq_false, not_false_eq_true, Bool.not_true, Bool.not_false, Bool.false_eq_true, ite_true, ite_false, reduceIte, reduceCtorEq, eq_self, aStar, eLstRg, eDicT0, eDixT, gSubsT, keysOf, cListT, cSortedP, oSubB, oMulT, iZip2G, eDic0, eDic1, oDix, oDin, oDnin, oDset, iKeysG, cSortedE, cListD, Gx.keyOf, cMaxL, cMinL, cSortedI, mIndex, eSortSet, eLenT, $xs,*])
local macro_rules | `(tactic| simp_arith! [$xs,*]) => `(tactic| try simp only [eVar, eC, eBin, eUn, tBl, tAnd', tOr', tNot', eAnd, eOr, eNot, eIf, aNil, aCons, eTup, eLst, eLstM, eCall, eCallK, pick, sNext, sSeq, sBreak, sCont, sDrop, sRet, sRetN, sIf, sNever, gNm, gsNil, gsCons, gTupl, gSubs, sAsg, sPar, sPar3, sFor, iSeq, seqG_tup, seqG_lst, seqG_scr, iRange1, iRange2, iEnumG, iZipG, td_tup, td_lst, td_scr, eLc, eLcM, tYes', pNone, pSome, eSl, cu_tup, cu_lst, cu_scr, eMt, eMt0, mAppend, isL, rs_non, rs_bl, rs_int, rs_str, rs_tup, rs_lst', rs_scr, itemsOf_tup, itemsOf_lst, itemsOf_scr, oI, oI0, oSub, oFdiv, oMod, oPow, oShl, oShr, oAnd, oOr, oXor, oLt, oLe, oGt, oGe, oNeg, oIsN, oNotN, Gx.isNon, oAdd, oAdd', oMul, oMul', oMulM, oEq, oNe, oEqS, oNeS, oIn, oNin, eChain, oIx, oSet, cLen, cList, cListM, cTuple, cSum, cAll, cAny, cInt, cAbs, cMax2, cMin2, cDivmod, cGcd, cIsi, cRepr, lstInts, lstBls, startD, wipeD, List.map_cons, List.map_nil, List.length_cons, List.length_nil, List.cons_append, List.nil_append, List.replicate_succ, List.replicate_zero, List.set_cons_succ, List.set_cons_zero, List.getElem?_cons_succ, List.getElem?_cons_zero, List.filterMap_cons_some, List.filterMap_nil, Nat.reduceAdd, Nat.reduceSub, Nat.sub_self, Nat.reduceLT, Nat.reduceMul, Nat.zero_add, Nat.add_zero, if_true, if_false, and_true, true_and, and_false, false_and, or_true, true_or, or_false, false_or, not_true_eq_false, not_false_eq_true, Bool.not_true, Bool.not_false, Bool.false_eq_true, ite_true, ite_false, reduceIte, reduceCtorEq, eq_self, aStar, eLstRg, eDicT0, eDixT, gSubsT, keysOf, cListT, cSortedP, oSubB, oMulT, iZip2G, eDic0, eDic1, oDix, oDin, oDnin, oDset, iKeysG, cSortedE, cListD, Gx.keyOf, cMaxL, cMinL, cSortedI, mIndex, eSortSet, eLenT, rs_N, rs_W, rs_Row, rs_S, rs_R, rs_B, it_N, it_W, it_Row, it_S, it_R, sq_W, sq_Row, sq_S, td_N, td_W, td_Row, td_S, rs_I, it_I, sq_I, td_I, rs_Ss, it_Ss, sq_Ss, td_Ss, cu_S, cu_W, cu_Row, atI_0, atI_1, $xs,*])
/-! ### pictures -/
/-! ### kept -/
def keeps (N : Net) (ks : List Nat) : Bool := ks.all fun k => rest N (stateOf N.n k)
/-! ### margins -/
def room (N : Net) (s : List Bool) (i : Nat) : Rat := if s.getD i false = true then hear N i s - mk' N i else -(hear N i s - mk' N i)
end Gx

--W2
/-! Gx, data side 56: pictures and margins, by the laws. -/
namespace Gx
open PySem L2
local macro_rules | `(tactic| simp_arith [$xs,*]) => `(tactic| try simp only [eVar, eC, eBin, eUn, tBl, tAnd', tOr', tNot', eAnd, eOr, eNot, eIf, aNil, aCons, eTup, eLst, eLstM, eCall, eCallK, pick, sNext, sSeq, sBreak, sCont, sDrop, sRet, sRetN, sIf, sNever, gNm, gsNil, gsCons, gTupl, gSubs, sAsg, sPar, sPar3, sFor, iSeq, seqG_tup, seqG_lst, seqG_scr, iRange1, iRange2, iEnumG, iZipG, td_tup, td_lst, td_scr, eLc, eLcM, tYes', pNone, pSome, eSl, cu_tup, cu_lst, cu_scr, eMt, eMt0, mAppend, isL, rs_non, rs_bl, rs_int, rs_str, rs_tup, rs_lst', rs_scr, itemsOf_tup, itemsOf_lst, itemsOf_scr, oI, oI0, oSub, oFdiv, oMod, oPow, oShl, oShr, oAnd, oOr, oXor, oLt, oLe, oGt, oGe, oNeg, oIsN, oNotN, Gx.isNon, oAdd, oAdd', oMul, oMul', oMulM, oEq, oNe, oEqS, oNeS, oIn, oNin, eChain, oIx, oSet, cLen, cList, cListM, cTuple, cSum, cAll, cAny, cInt, cAbs, cMax2, cMin2, cDivmod, cGcd, cIsi, cRepr, lstInts, lstBls, startD, wipeD, List.map_cons, List.map_nil, List.length_cons, List.length_nil, List.cons_append, List.nil_append, List.replicate_succ, List.replicate_zero, List.set_cons_succ, List.set_cons_zero, List.getElem?_cons_succ, List.getElem?_cons_zero, List.filterMap_cons_some, List.filterMap_nil, Nat.reduceAdd, Nat.reduceSub, Nat.sub_self, Nat.reduceLT, Nat.reduceMul, Nat.zero_add, Nat.add_zero, if_true, if_false, and_true, true_and, and_false, false_and, or_true, true_or, or_false, false_or, not_true_eq_false, not_false_eq_true, Bool.not_true, Bool.not_false, Bool.false_eq_true, ite_true, ite_false, reduceIte, reduceCtorEq, eq_self, aStar, eLstRg, eDicT0, eDixT, gSubsT, keysOf, cListT, cSortedP, oSubB, oMulT, iZip2G, eDic0, eDic1, oDix, oDin, oDnin, oDset, iKeysG, cSortedE, cListD, Gx.keyOf, cMaxL, cMinL, cSortedI, mIndex, eSortSet, eLenT, $xs,*])
local macro_rules | `(tactic| simp_arith! [$xs,*]) => `(tactic| try simp only [eVar, eC, eBin, eUn, tBl, tAnd', tOr', tNot', eAnd, eOr, eNot, eIf, aNil, aCons, eTup, eLst, eLstM, eCall, eCallK, pick, sNext, sSeq, sBreak, sCont, sDrop, sRet, sRetN, sIf, sNever, gNm, gsNil, gsCons, gTupl, gSubs, sAsg, sPar, sPar3, sFor, iSeq, seqG_tup, seqG_lst, seqG_scr, iRange1, iRange2, iEnumG, iZipG, td_tup, td_lst, td_scr, eLc, eLcM, tYes', pNone, pSome, eSl, cu_tup, cu_lst, cu_scr, eMt, eMt0, mAppend, isL, rs_non, rs_bl, rs_int, rs_str, rs_tup, rs_lst', rs_scr, itemsOf_tup, itemsOf_lst, itemsOf_scr, oI, oI0, oSub, oFdiv, oMod, oPow, oShl, oShr, oAnd, oOr, oXor, oLt, oLe, oGt, oGe, oNeg, oIsN, oNotN, Gx.isNon, oAdd, oAdd', oMul, oMul', oMulM, oEq, oNe, oEqS, oNeS, oIn, oNin, eChain, oIx, oSet, cLen, cList, cListM, cTuple, cSum, cAll, cAny, cInt, cAbs, cMax2, cMin2, cDivmod, cGcd, cIsi, cRepr, lstInts, lstBls, startD, wipeD, List.map_cons, List.map_nil, List.length_cons, List.length_nil, List.cons_append, List.nil_append, List.replicate_succ, List.replicate_zero, List.set_cons_succ, List.set_cons_zero, List.getElem?_cons_succ, List.getElem?_cons_zero, List.filterMap_cons_some, List.filterMap_nil, Nat.reduceAdd, Nat.reduceSub, Nat.sub_self, Nat.reduceLT, Nat.reduceMul, Nat.zero_add, Nat.add_zero, if_true, if_false, and_true, true_and, and_false, false_and, or_true, true_or, or_false, false_or, not_true_eq_false, not_false_eq_true, Bool.not_true, Bool.not_false, Bool.false_eq_true, ite_true, ite_false, reduceIte, reduceCtorEq, eq_self, aStar, eLstRg, eDicT0, eDixT, gSubsT, keysOf, cListT, cSortedP, oSubB, oMulT, iZip2G, eDic0, eDic1, oDix, oDin, oDnin, oDset, iKeysG, cSortedE, cListD, Gx.keyOf, cMaxL, cMinL, cSortedI, mIndex, eSortSet, eLenT, rs_N, rs_W, rs_Row, rs_S, rs_R, rs_B, it_N, it_W, it_Row, it_S, it_R, sq_W, sq_Row, sq_S, td_N, td_W, td_Row, td_S, rs_I, it_I, sq_I, td_I, rs_Ss, it_Ss, sq_Ss, td_Ss, cu_S, cu_W, cu_Row, atI_0, atI_1, $xs,*])
/-! ### some moves -/
/-! ### the margin -/
/-! ### lifted marks -/
end Gx

--W2
/-! Gx, data side 60: the draws of the fourth family (k53 .. k76). -/
namespace Gx
open PySem L2
local macro_rules | `(tactic| simp_arith [$xs,*]) => `(tactic| try simp only [eVar, eC, eBin, eUn, tBl, tAnd', tOr', tNot', eAnd, eOr, eNot, eIf, aNil, aCons, eTup, eLst, eLstM, eCall, eCallK, pick, sNext, sSeq, sBreak, sCont, sDrop, sRet, sRetN, sIf, sNever, gNm, gsNil, gsCons, gTupl, gSubs, sAsg, sPar, sPar3, sFor, iSeq, seqG_tup, seqG_lst, seqG_scr, iRange1, iRange2, iEnumG, iZipG, td_tup, td_lst, td_scr, eLc, eLcM, tYes', pNone, pSome, eSl, cu_tup, cu_lst, cu_scr, eMt, eMt0, mAppend, isL, rs_non, rs_bl, rs_int, rs_str, rs_tup, rs_lst', rs_scr, itemsOf_tup, itemsOf_lst, itemsOf_scr, oI, oI0, oSub, oFdiv, oMod, oPow, oShl, oShr, oAnd, oOr, oXor, oLt, oLe, oGt, oGe, oNeg, oIsN, oNotN, Gx.isNon, oAdd, oAdd', oMul, oMul', oMulM, oEq, oNe, oEqS, oNeS, oIn, oNin, eChain, oIx, oSet, cLen, cList, cListM, cTuple, cSum, cAll, cAny, cInt, cAbs, cMax2, cMin2, cDivmod, cGcd, cIsi, cRepr, lstInts, lstBls, startD, wipeD, List.map_cons, List.map_nil, List.length_cons, List.length_nil, List.cons_append, List.nil_append, List.replicate_succ, List.replicate_zero, List.set_cons_succ, List.set_cons_zero, List.getElem?_cons_succ, List.getElem?_cons_zero, List.filterMap_cons_some, List.filterMap_nil, Nat.reduceAdd, Nat.reduceSub, Nat.sub_self, Nat.reduceLT, Nat.reduceMul, Nat.zero_add, Nat.add_zero, if_true, if_false, and_true, true_and, and_false, false_and, or_true, true_or, or_false, false_or, not_true_eq_false, not_false_eq_true, Bool.not_true, Bool.not_false, Bool.false_eq_true, ite_true, ite_false, reduceIte, reduceCtorEq, eq_self, aStar, eLstRg, eDicT0, eDixT, gSubsT, keysOf, cListT, cSortedP, oSubB, oMulT, iZip2G, eDic0, eDic1, oDix, oDin, oDnin, oDset, iKeysG, cSortedE, cListD, Gx.keyOf, cMaxL, cMinL, cSortedI, mIndex, eSortSet, eLenT, tBi, $xs,*])
section
variable {α : Type} {g : TG'} {tt : TT'} {te : ET} {gd : Sto → Prop} {vs : List Nat} {τ : Tau} {Z : List D → Sto → Prop}
end
abbrev PS : Rat → Prop := Bd 6 3
end Gx

--W2
/-! Gx, data side 61: drawn nets of the fourth family. -/
namespace Gx
open PySem L2
local macro_rules | `(tactic| simp_arith [$xs,*]) => `(tactic| try simp only [eVar, eC, eBin, eUn, tBl, tAnd', tOr', tNot', eAnd, eOr, eNot, eIf, aNil, aCons, eTup, eLst, eLstM, eCall, eCallK, pick, sNext, sSeq, sBreak, sCont, sDrop, sRet, sRetN, sIf, sNever, gNm, gsNil, gsCons, gTupl, gSubs, sAsg, sPar, sPar3, sFor, iSeq, seqG_tup, seqG_lst, seqG_scr, iRange1, iRange2, iEnumG, iZipG, td_tup, td_lst, td_scr, eLc, eLcM, tYes', pNone, pSome, eSl, cu_tup, cu_lst, cu_scr, eMt, eMt0, mAppend, isL, rs_non, rs_bl, rs_int, rs_str, rs_tup, rs_lst', rs_scr, itemsOf_tup, itemsOf_lst, itemsOf_scr, oI, oI0, oSub, oFdiv, oMod, oPow, oShl, oShr, oAnd, oOr, oXor, oLt, oLe, oGt, oGe, oNeg, oIsN, oNotN, Gx.isNon, oAdd, oAdd', oMul, oMul', oMulM, oEq, oNe, oEqS, oNeS, oIn, oNin, eChain, oIx, oSet, cLen, cList, cListM, cTuple, cSum, cAll, cAny, cInt, cAbs, cMax2, cMin2, cDivmod, cGcd, cIsi, cRepr, lstInts, lstBls, startD, wipeD, List.map_cons, List.map_nil, List.length_cons, List.length_nil, List.cons_append, List.nil_append, List.replicate_succ, List.replicate_zero, List.set_cons_succ, List.set_cons_zero, List.getElem?_cons_succ, List.getElem?_cons_zero, List.filterMap_cons_some, List.filterMap_nil, Nat.reduceAdd, Nat.reduceSub, Nat.sub_self, Nat.reduceLT, Nat.reduceMul, Nat.zero_add, Nat.add_zero, if_true, if_false, and_true, true_and, and_false, false_and, or_true, true_or, or_false, false_or, not_true_eq_false, not_false_eq_true, Bool.not_true, Bool.not_false, Bool.false_eq_true, ite_true, ite_false, reduceIte, reduceCtorEq, eq_self, aStar, eLstRg, eDicT0, eDixT, gSubsT, keysOf, cListT, cSortedP, oSubB, oMulT, iZip2G, eDic0, eDic1, oDix, oDin, oDnin, oDset, iKeysG, cSortedE, cListD, Gx.keyOf, cMaxL, cMinL, cSortedI, mIndex, eSortSet, eLenT, tBi, $xs,*])
end Gx

--W2
/-! Gx, data side 62: next states by numbers, states, pictures of the fourth family. -/
namespace Gx
open PySem L2
local macro_rules | `(tactic| simp_arith [$xs,*]) => `(tactic| try simp only [eVar, eC, eBin, eUn, tBl, tAnd', tOr', tNot', eAnd, eOr, eNot, eIf, aNil, aCons, eTup, eLst, eLstM, eCall, eCallK, pick, sNext, sSeq, sBreak, sCont, sDrop, sRet, sRetN, sIf, sNever, gNm, gsNil, gsCons, gTupl, gSubs, sAsg, sPar, sPar3, sFor, iSeq, seqG_tup, seqG_lst, seqG_scr, iRange1, iRange2, iEnumG, iZipG, td_tup, td_lst, td_scr, eLc, eLcM, tYes', pNone, pSome, eSl, cu_tup, cu_lst, cu_scr, eMt, eMt0, mAppend, isL, rs_non, rs_bl, rs_int, rs_str, rs_tup, rs_lst', rs_scr, itemsOf_tup, itemsOf_lst, itemsOf_scr, oI, oI0, oSub, oFdiv, oMod, oPow, oShl, oShr, oAnd, oOr, oXor, oLt, oLe, oGt, oGe, oNeg, oIsN, oNotN, Gx.isNon, oAdd, oAdd', oMul, oMul', oMulM, oEq, oNe, oEqS, oNeS, oIn, oNin, eChain, oIx, oSet, cLen, cList, cListM, cTuple, cSum, cAll, cAny, cInt, cAbs, cMax2, cMin2, cDivmod, cGcd, cIsi, cRepr, lstInts, lstBls, startD, wipeD, List.map_cons, List.map_nil, List.length_cons, List.length_nil, List.cons_append, List.nil_append, List.replicate_succ, List.replicate_zero, List.set_cons_succ, List.set_cons_zero, List.getElem?_cons_succ, List.getElem?_cons_zero, List.filterMap_cons_some, List.filterMap_nil, Nat.reduceAdd, Nat.reduceSub, Nat.sub_self, Nat.reduceLT, Nat.reduceMul, Nat.zero_add, Nat.add_zero, if_true, if_false, and_true, true_and, and_false, false_and, or_true, true_or, or_false, false_or, not_true_eq_false, not_false_eq_true, Bool.not_true, Bool.not_false, Bool.false_eq_true, ite_true, ite_false, reduceIte, reduceCtorEq, eq_self, aStar, eLstRg, eDicT0, eDixT, gSubsT, keysOf, cListT, cSortedP, oSubB, oMulT, iZip2G, eDic0, eDic1, oDix, oDin, oDnin, oDset, iKeysG, cSortedE, cListD, Gx.keyOf, cMaxL, cMinL, cSortedI, mIndex, eSortSet, eLenT, tBi, $xs,*])
local macro_rules | `(tactic| simp_arith! [$xs,*]) => `(tactic| try simp only [eVar, eC, eBin, eUn, tBl, tAnd', tOr', tNot', eAnd, eOr, eNot, eIf, aNil, aCons, eTup, eLst, eLstM, eCall, eCallK, pick, sNext, sSeq, sBreak, sCont, sDrop, sRet, sRetN, sIf, sNever, gNm, gsNil, gsCons, gTupl, gSubs, sAsg, sPar, sPar3, sFor, iSeq, seqG_tup, seqG_lst, seqG_scr, iRange1, iRange2, iEnumG, iZipG, td_tup, td_lst, td_scr, eLc, eLcM, tYes', pNone, pSome, eSl, cu_tup, cu_lst, cu_scr, eMt, eMt0, mAppend, isL, rs_non, rs_bl, rs_int, rs_str, rs_tup, rs_lst', rs_scr, itemsOf_tup, itemsOf_lst, itemsOf_scr, oI, oI0, oSub, oFdiv, oMod, oPow, oShl, oShr, oAnd, oOr, oXor, oLt, oLe, oGt, oGe, oNeg, oIsN, oNotN, Gx.isNon, oAdd, oAdd', oMul, oMul', oMulM, oEq, oNe, oEqS, oNeS, oIn, oNin, eChain, oIx, oSet, cLen, cList, cListM, cTuple, cSum, cAll, cAny, cInt, cAbs, cMax2, cMin2, cDivmod, cGcd, cIsi, cRepr, lstInts, lstBls, startD, wipeD, List.map_cons, List.map_nil, List.length_cons, List.length_nil, List.cons_append, List.nil_append, List.replicate_succ, List.replicate_zero, List.set_cons_succ, List.set_cons_zero, List.getElem?_cons_succ, List.getElem?_cons_zero, List.filterMap_cons_some, List.filterMap_nil, Nat.reduceAdd, Nat.reduceSub, Nat.sub_self, Nat.reduceLT, Nat.reduceMul, Nat.zero_add, Nat.add_zero, if_true, if_false, and_true, true_and, and_false, false_and, or_true, true_or, or_false, false_or, not_true_eq_false, not_false_eq_true, Bool.not_true, Bool.not_false, Bool.false_eq_true, ite_true, ite_false, reduceIte, reduceCtorEq, eq_self, aStar, eLstRg, eDicT0, eDixT, gSubsT, keysOf, cListT, cSortedP, oSubB, oMulT, iZip2G, eDic0, eDic1, oDix, oDin, oDnin, oDset, iKeysG, cSortedE, cListD, Gx.keyOf, cMaxL, cMinL, cSortedI, mIndex, eSortSet, eLenT, tBi, rs_N, rs_W, rs_Row, rs_S, rs_R, rs_B, it_N, it_W, it_Row, it_S, it_R, sq_W, sq_Row, sq_S, td_N, td_W, td_Row, td_S, rs_I, it_I, sq_I, td_I, rs_Ss, it_Ss, sq_Ss, td_Ss, cu_S, cu_W, cu_Row, atI_0, atI_1, $xs,*])
end Gx

--W3
/-! Gx, data side 63: bearings, steadiness: plain, and the package's walks. -/
namespace Gx
open PySem L2
/-! ### bearings -/
def oth (s : List Bool) (i : Nat) : List Nat := (List.range s.length).filter fun j => s.getD j false && decide (j ≠ i)
def bear (N : Net) (s : List Bool) (i : Nat) : Rat := room N s i / (((oth s i).length + 1 : Nat) : Rat)
def cells (n : Nat) (ks : List Nat) : List (Nat × Nat) := ks.flatMap fun k => (List.range n).map fun i => (k, i)
def bq (N : Net) (c : Nat × Nat) : Rat := bear N (stateOf N.n c.1) c.2
def onc (N : Net) (c : Nat × Nat) : Bool := (stateOf N.n c.1).getD c.2 false
def wayB (N : Net) (c : Nat × Nat) (a : Rat) : Bool := if onc N c = true then !decide (a < bq N c) else decide (bq N c < a)
def stand (N : Net) (ks : List Nat) (a : Rat) : Bool := (cells N.n ks).all fun c => !wayB N c a
/-! ### what they say -/
end Gx

--W3
/-! Gx, data side 64: bearings, steadiness, shakes: the package's walks. -/
namespace Gx
open PySem L2
local macro_rules | `(tactic| simp_arith [$xs,*]) => `(tactic| try simp only [eVar, eC, eBin, eUn, tBl, tAnd', tOr', tNot', eAnd, eOr, eNot, eIf, aNil, aCons, eTup, eLst, eLstM, eCall, eCallK, pick, sNext, sSeq, sBreak, sCont, sDrop, sRet, sRetN, sIf, sNever, gNm, gsNil, gsCons, gTupl, gSubs, sAsg, sPar, sPar3, sFor, iSeq, seqG_tup, seqG_lst, seqG_scr, iRange1, iRange2, iEnumG, iZipG, td_tup, td_lst, td_scr, eLc, eLcM, tYes', pNone, pSome, eSl, cu_tup, cu_lst, cu_scr, eMt, eMt0, mAppend, isL, rs_non, rs_bl, rs_int, rs_str, rs_tup, rs_lst', rs_scr, itemsOf_tup, itemsOf_lst, itemsOf_scr, oI, oI0, oSub, oFdiv, oMod, oPow, oShl, oShr, oAnd, oOr, oXor, oLt, oLe, oGt, oGe, oNeg, oIsN, oNotN, Gx.isNon, oAdd, oAdd', oMul, oMul', oMulM, oEq, oNe, oEqS, oNeS, oIn, oNin, eChain, oIx, oSet, cLen, cList, cListM, cTuple, cSum, cAll, cAny, cInt, cAbs, cMax2, cMin2, cDivmod, cGcd, cIsi, cRepr, lstInts, lstBls, startD, wipeD, List.map_cons, List.map_nil, List.length_cons, List.length_nil, List.cons_append, List.nil_append, List.replicate_succ, List.replicate_zero, List.set_cons_succ, List.set_cons_zero, List.getElem?_cons_succ, List.getElem?_cons_zero, List.filterMap_cons_some, List.filterMap_nil, Nat.reduceAdd, Nat.reduceSub, Nat.sub_self, Nat.reduceLT, Nat.reduceMul, Nat.zero_add, Nat.add_zero, if_true, if_false, and_true, true_and, and_false, false_and, or_true, true_or, or_false, false_or, not_true_eq_false, not_false_eq_true, Bool.not_true, Bool.not_false, Bool.false_eq_true, ite_true, ite_false, reduceIte, reduceCtorEq, eq_self, aStar, eLstRg, eDicT0, eDixT, gSubsT, keysOf, cListT, cSortedP, oSubB, oMulT, iZip2G, eDic0, eDic1, oDix, oDin, oDnin, oDset, iKeysG, cSortedE, cListD, Gx.keyOf, cMaxL, cMinL, cSortedI, mIndex, eSortSet, eLenT, tBi, oIsB, $xs,*])
local macro_rules | `(tactic| simp_arith! [$xs,*]) => `(tactic| try simp only [eVar, eC, eBin, eUn, tBl, tAnd', tOr', tNot', eAnd, eOr, eNot, eIf, aNil, aCons, eTup, eLst, eLstM, eCall, eCallK, pick, sNext, sSeq, sBreak, sCont, sDrop, sRet, sRetN, sIf, sNever, gNm, gsNil, gsCons, gTupl, gSubs, sAsg, sPar, sPar3, sFor, iSeq, seqG_tup, seqG_lst, seqG_scr, iRange1, iRange2, iEnumG, iZipG, td_tup, td_lst, td_scr, eLc, eLcM, tYes', pNone, pSome, eSl, cu_tup, cu_lst, cu_scr, eMt, eMt0, mAppend, isL, rs_non, rs_bl, rs_int, rs_str, rs_tup, rs_lst', rs_scr, itemsOf_tup, itemsOf_lst, itemsOf_scr, oI, oI0, oSub, oFdiv, oMod, oPow, oShl, oShr, oAnd, oOr, oXor, oLt, oLe, oGt, oGe, oNeg, oIsN, oNotN, Gx.isNon, oAdd, oAdd', oMul, oMul', oMulM, oEq, oNe, oEqS, oNeS, oIn, oNin, eChain, oIx, oSet, cLen, cList, cListM, cTuple, cSum, cAll, cAny, cInt, cAbs, cMax2, cMin2, cDivmod, cGcd, cIsi, cRepr, lstInts, lstBls, startD, wipeD, List.map_cons, List.map_nil, List.length_cons, List.length_nil, List.cons_append, List.nil_append, List.replicate_succ, List.replicate_zero, List.set_cons_succ, List.set_cons_zero, List.getElem?_cons_succ, List.getElem?_cons_zero, List.filterMap_cons_some, List.filterMap_nil, Nat.reduceAdd, Nat.reduceSub, Nat.sub_self, Nat.reduceLT, Nat.reduceMul, Nat.zero_add, Nat.add_zero, if_true, if_false, and_true, true_and, and_false, false_and, or_true, true_or, or_false, false_or, not_true_eq_false, not_false_eq_true, Bool.not_true, Bool.not_false, Bool.false_eq_true, ite_true, ite_false, reduceIte, reduceCtorEq, eq_self, aStar, eLstRg, eDicT0, eDixT, gSubsT, keysOf, cListT, cSortedP, oSubB, oMulT, iZip2G, eDic0, eDic1, oDix, oDin, oDnin, oDset, iKeysG, cSortedE, cListD, Gx.keyOf, cMaxL, cMinL, cSortedI, mIndex, eSortSet, eLenT, tBi, oIsB, rs_N, rs_W, rs_Row, rs_S, rs_R, rs_B, it_N, it_W, it_Row, it_S, it_R, sq_W, sq_Row, sq_S, td_N, td_W, td_Row, td_S, rs_I, it_I, sq_I, td_I, rs_Ss, it_Ss, sq_Ss, td_Ss, cu_S, cu_W, cu_Row, atI_0, atI_1, $xs,*])
end Gx

--W3
/-! Gx, data side 65: a shaken net; bearings of the law. -/
namespace Gx
open PySem L2
local macro_rules | `(tactic| simp_arith [$xs,*]) => `(tactic| try simp only [eVar, eC, eBin, eUn, tBl, tAnd', tOr', tNot', eAnd, eOr, eNot, eIf, aNil, aCons, eTup, eLst, eLstM, eCall, eCallK, pick, sNext, sSeq, sBreak, sCont, sDrop, sRet, sRetN, sIf, sNever, gNm, gsNil, gsCons, gTupl, gSubs, sAsg, sPar, sPar3, sFor, iSeq, seqG_tup, seqG_lst, seqG_scr, iRange1, iRange2, iEnumG, iZipG, td_tup, td_lst, td_scr, eLc, eLcM, tYes', pNone, pSome, eSl, cu_tup, cu_lst, cu_scr, eMt, eMt0, mAppend, isL, rs_non, rs_bl, rs_int, rs_str, rs_tup, rs_lst', rs_scr, itemsOf_tup, itemsOf_lst, itemsOf_scr, oI, oI0, oSub, oFdiv, oMod, oPow, oShl, oShr, oAnd, oOr, oXor, oLt, oLe, oGt, oGe, oNeg, oIsN, oNotN, Gx.isNon, oAdd, oAdd', oMul, oMul', oMulM, oEq, oNe, oEqS, oNeS, oIn, oNin, eChain, oIx, oSet, cLen, cList, cListM, cTuple, cSum, cAll, cAny, cInt, cAbs, cMax2, cMin2, cDivmod, cGcd, cIsi, cRepr, lstInts, lstBls, startD, wipeD, List.map_cons, List.map_nil, List.length_cons, List.length_nil, List.cons_append, List.nil_append, List.replicate_succ, List.replicate_zero, List.set_cons_succ, List.set_cons_zero, List.getElem?_cons_succ, List.getElem?_cons_zero, List.filterMap_cons_some, List.filterMap_nil, Nat.reduceAdd, Nat.reduceSub, Nat.sub_self, Nat.reduceLT, Nat.reduceMul, Nat.zero_add, Nat.add_zero, if_true, if_false, and_true, true_and, and_false, false_and, or_true, true_or, or_false, false_or, not_true_eq_false, not_false_eq_true, Bool.not_true, Bool.not_false, Bool.false_eq_true, ite_true, ite_false, reduceIte, reduceCtorEq, eq_self, aStar, eLstRg, eDicT0, eDixT, gSubsT, keysOf, cListT, cSortedP, oSubB, oMulT, iZip2G, eDic0, eDic1, oDix, oDin, oDnin, oDset, iKeysG, cSortedE, cListD, Gx.keyOf, cMaxL, cMinL, cSortedI, mIndex, eSortSet, eLenT, tBi, oIsB, $xs,*])
local macro_rules | `(tactic| simp_arith! [$xs,*]) => `(tactic| try simp only [eVar, eC, eBin, eUn, tBl, tAnd', tOr', tNot', eAnd, eOr, eNot, eIf, aNil, aCons, eTup, eLst, eLstM, eCall, eCallK, pick, sNext, sSeq, sBreak, sCont, sDrop, sRet, sRetN, sIf, sNever, gNm, gsNil, gsCons, gTupl, gSubs, sAsg, sPar, sPar3, sFor, iSeq, seqG_tup, seqG_lst, seqG_scr, iRange1, iRange2, iEnumG, iZipG, td_tup, td_lst, td_scr, eLc, eLcM, tYes', pNone, pSome, eSl, cu_tup, cu_lst, cu_scr, eMt, eMt0, mAppend, isL, rs_non, rs_bl, rs_int, rs_str, rs_tup, rs_lst', rs_scr, itemsOf_tup, itemsOf_lst, itemsOf_scr, oI, oI0, oSub, oFdiv, oMod, oPow, oShl, oShr, oAnd, oOr, oXor, oLt, oLe, oGt, oGe, oNeg, oIsN, oNotN, Gx.isNon, oAdd, oAdd', oMul, oMul', oMulM, oEq, oNe, oEqS, oNeS, oIn, oNin, eChain, oIx, oSet, cLen, cList, cListM, cTuple, cSum, cAll, cAny, cInt, cAbs, cMax2, cMin2, cDivmod, cGcd, cIsi, cRepr, lstInts, lstBls, startD, wipeD, List.map_cons, List.map_nil, List.length_cons, List.length_nil, List.cons_append, List.nil_append, List.replicate_succ, List.replicate_zero, List.set_cons_succ, List.set_cons_zero, List.getElem?_cons_succ, List.getElem?_cons_zero, List.filterMap_cons_some, List.filterMap_nil, Nat.reduceAdd, Nat.reduceSub, Nat.sub_self, Nat.reduceLT, Nat.reduceMul, Nat.zero_add, Nat.add_zero, if_true, if_false, and_true, true_and, and_false, false_and, or_true, true_or, or_false, false_or, not_true_eq_false, not_false_eq_true, Bool.not_true, Bool.not_false, Bool.false_eq_true, ite_true, ite_false, reduceIte, reduceCtorEq, eq_self, aStar, eLstRg, eDicT0, eDixT, gSubsT, keysOf, cListT, cSortedP, oSubB, oMulT, iZip2G, eDic0, eDic1, oDix, oDin, oDnin, oDset, iKeysG, cSortedE, cListD, Gx.keyOf, cMaxL, cMinL, cSortedI, mIndex, eSortSet, eLenT, tBi, oIsB, rs_N, rs_W, rs_Row, rs_S, rs_R, rs_B, it_N, it_W, it_Row, it_S, it_R, sq_W, sq_Row, sq_S, td_N, td_W, td_Row, td_S, rs_I, it_I, sq_I, td_I, rs_Ss, it_Ss, sq_Ss, td_Ss, cu_S, cu_W, cu_Row, atI_0, atI_1, $xs,*])
def Lp (l : Rat) (j : Nat) (q : Rat) : Prop := ∃ (w : Rat) (k : Nat), q = w + (k : Rat) * l ∧ Bd (2 ^ 50000) 200 w ∧ k ≤ j
theorem Lp.mono {l q : Rat} {j j' : Nat} (h : Lp l j q) (z : j ≤ j') : Lp l j' q := by
  obtain ⟨w, k, e, hw, hk⟩ := h
  exact ⟨w, k, e, hw, by omega⟩
end Gx

--W3
/-! Gx, data side 66: the law's bearings, steadiness; what is the same. -/
namespace Gx
open PySem L2
local macro_rules | `(tactic| simp_arith [$xs,*]) => `(tactic| try simp only [eVar, eC, eBin, eUn, tBl, tAnd', tOr', tNot', eAnd, eOr, eNot, eIf, aNil, aCons, eTup, eLst, eLstM, eCall, eCallK, pick, sNext, sSeq, sBreak, sCont, sDrop, sRet, sRetN, sIf, sNever, gNm, gsNil, gsCons, gTupl, gSubs, sAsg, sPar, sPar3, sFor, iSeq, seqG_tup, seqG_lst, seqG_scr, iRange1, iRange2, iEnumG, iZipG, td_tup, td_lst, td_scr, eLc, eLcM, tYes', pNone, pSome, eSl, cu_tup, cu_lst, cu_scr, eMt, eMt0, mAppend, isL, rs_non, rs_bl, rs_int, rs_str, rs_tup, rs_lst', rs_scr, itemsOf_tup, itemsOf_lst, itemsOf_scr, oI, oI0, oSub, oFdiv, oMod, oPow, oShl, oShr, oAnd, oOr, oXor, oLt, oLe, oGt, oGe, oNeg, oIsN, oNotN, Gx.isNon, oAdd, oAdd', oMul, oMul', oMulM, oEq, oNe, oEqS, oNeS, oIn, oNin, eChain, oIx, oSet, cLen, cList, cListM, cTuple, cSum, cAll, cAny, cInt, cAbs, cMax2, cMin2, cDivmod, cGcd, cIsi, cRepr, lstInts, lstBls, startD, wipeD, List.map_cons, List.map_nil, List.length_cons, List.length_nil, List.cons_append, List.nil_append, List.replicate_succ, List.replicate_zero, List.set_cons_succ, List.set_cons_zero, List.getElem?_cons_succ, List.getElem?_cons_zero, List.filterMap_cons_some, List.filterMap_nil, Nat.reduceAdd, Nat.reduceSub, Nat.sub_self, Nat.reduceLT, Nat.reduceMul, Nat.zero_add, Nat.add_zero, if_true, if_false, and_true, true_and, and_false, false_and, or_true, true_or, or_false, false_or, not_true_eq_false, not_false_eq_true, Bool.not_true, Bool.not_false, Bool.false_eq_true, ite_true, ite_false, reduceIte, reduceCtorEq, eq_self, aStar, eLstRg, eDicT0, eDixT, gSubsT, keysOf, cListT, cSortedP, oSubB, oMulT, iZip2G, eDic0, eDic1, oDix, oDin, oDnin, oDset, iKeysG, cSortedE, cListD, Gx.keyOf, cMaxL, cMinL, cSortedI, mIndex, eSortSet, eLenT, tBi, oIsB, cSumT, $xs,*])
local macro_rules | `(tactic| simp_arith! [$xs,*]) => `(tactic| try simp only [eVar, eC, eBin, eUn, tBl, tAnd', tOr', tNot', eAnd, eOr, eNot, eIf, aNil, aCons, eTup, eLst, eLstM, eCall, eCallK, pick, sNext, sSeq, sBreak, sCont, sDrop, sRet, sRetN, sIf, sNever, gNm, gsNil, gsCons, gTupl, gSubs, sAsg, sPar, sPar3, sFor, iSeq, seqG_tup, seqG_lst, seqG_scr, iRange1, iRange2, iEnumG, iZipG, td_tup, td_lst, td_scr, eLc, eLcM, tYes', pNone, pSome, eSl, cu_tup, cu_lst, cu_scr, eMt, eMt0, mAppend, isL, rs_non, rs_bl, rs_int, rs_str, rs_tup, rs_lst', rs_scr, itemsOf_tup, itemsOf_lst, itemsOf_scr, oI, oI0, oSub, oFdiv, oMod, oPow, oShl, oShr, oAnd, oOr, oXor, oLt, oLe, oGt, oGe, oNeg, oIsN, oNotN, Gx.isNon, oAdd, oAdd', oMul, oMul', oMulM, oEq, oNe, oEqS, oNeS, oIn, oNin, eChain, oIx, oSet, cLen, cList, cListM, cTuple, cSum, cAll, cAny, cInt, cAbs, cMax2, cMin2, cDivmod, cGcd, cIsi, cRepr, lstInts, lstBls, startD, wipeD, List.map_cons, List.map_nil, List.length_cons, List.length_nil, List.cons_append, List.nil_append, List.replicate_succ, List.replicate_zero, List.set_cons_succ, List.set_cons_zero, List.getElem?_cons_succ, List.getElem?_cons_zero, List.filterMap_cons_some, List.filterMap_nil, Nat.reduceAdd, Nat.reduceSub, Nat.sub_self, Nat.reduceLT, Nat.reduceMul, Nat.zero_add, Nat.add_zero, if_true, if_false, and_true, true_and, and_false, false_and, or_true, true_or, or_false, false_or, not_true_eq_false, not_false_eq_true, Bool.not_true, Bool.not_false, Bool.false_eq_true, ite_true, ite_false, reduceIte, reduceCtorEq, eq_self, aStar, eLstRg, eDicT0, eDixT, gSubsT, keysOf, cListT, cSortedP, oSubB, oMulT, iZip2G, eDic0, eDic1, oDix, oDin, oDnin, oDset, iKeysG, cSortedE, cListD, Gx.keyOf, cMaxL, cMinL, cSortedI, mIndex, eSortSet, eLenT, tBi, oIsB, cSumT, rs_N, rs_W, rs_Row, rs_S, rs_R, rs_B, it_N, it_W, it_Row, it_S, it_R, sq_W, sq_Row, sq_S, td_N, td_W, td_Row, td_S, rs_I, it_I, sq_I, td_I, rs_Ss, it_Ss, sq_Ss, td_Ss, cu_S, cu_W, cu_Row, atI_0, atI_1, $xs,*])
/-! ### how many are on -/
end Gx

--W3
/-! Gx, data side 67: what is the same, lists too. -/
namespace Gx
open PySem L2
local macro_rules | `(tactic| simp_arith [$xs,*]) => `(tactic| try simp only [eVar, eC, eBin, eUn, tBl, tAnd', tOr', tNot', eAnd, eOr, eNot, eIf, aNil, aCons, eTup, eLst, eLstM, eCall, eCallK, pick, sNext, sSeq, sBreak, sCont, sDrop, sRet, sRetN, sIf, sNever, gNm, gsNil, gsCons, gTupl, gSubs, sAsg, sPar, sPar3, sFor, iSeq, seqG_tup, seqG_lst, seqG_scr, iRange1, iRange2, iEnumG, iZipG, td_tup, td_lst, td_scr, eLc, eLcM, tYes', pNone, pSome, eSl, cu_tup, cu_lst, cu_scr, eMt, eMt0, mAppend, isL, rs_non, rs_bl, rs_int, rs_str, rs_tup, rs_lst', rs_scr, itemsOf_tup, itemsOf_lst, itemsOf_scr, oI, oI0, oSub, oFdiv, oMod, oPow, oShl, oShr, oAnd, oOr, oXor, oLt, oLe, oGt, oGe, oNeg, oIsN, oNotN, Gx.isNon, oAdd, oAdd', oMul, oMul', oMulM, oEq, oNe, oEqS, oNeS, oIn, oNin, eChain, oIx, oSet, cLen, cList, cListM, cTuple, cSum, cAll, cAny, cInt, cAbs, cMax2, cMin2, cDivmod, cGcd, cIsi, cRepr, lstInts, lstBls, startD, wipeD, List.map_cons, List.map_nil, List.length_cons, List.length_nil, List.cons_append, List.nil_append, List.replicate_succ, List.replicate_zero, List.set_cons_succ, List.set_cons_zero, List.getElem?_cons_succ, List.getElem?_cons_zero, List.filterMap_cons_some, List.filterMap_nil, Nat.reduceAdd, Nat.reduceSub, Nat.sub_self, Nat.reduceLT, Nat.reduceMul, Nat.zero_add, Nat.add_zero, if_true, if_false, and_true, true_and, and_false, false_and, or_true, true_or, or_false, false_or, not_true_eq_false, not_false_eq_true, Bool.not_true, Bool.not_false, Bool.false_eq_true, ite_true, ite_false, reduceIte, reduceCtorEq, eq_self, aStar, eLstRg, eDicT0, eDixT, gSubsT, keysOf, cListT, cSortedP, oSubB, oMulT, iZip2G, eDic0, eDic1, oDix, oDin, oDnin, oDset, iKeysG, cSortedE, cListD, Gx.keyOf, cMaxL, cMinL, cSortedI, mIndex, eSortSet, eLenT, tBi, oIsB, cSumT, $xs,*])
end Gx

--W3
/-! Gx, data side 68: pictures, drawn nets with a state of the fourth family. -/
namespace Gx
open PySem L2
local macro_rules | `(tactic| simp_arith [$xs,*]) => `(tactic| try simp only [eVar, eC, eBin, eUn, tBl, tAnd', tOr', tNot', eAnd, eOr, eNot, eIf, aNil, aCons, eTup, eLst, eLstM, eCall, eCallK, pick, sNext, sSeq, sBreak, sCont, sDrop, sRet, sRetN, sIf, sNever, gNm, gsNil, gsCons, gTupl, gSubs, sAsg, sPar, sPar3, sFor, iSeq, seqG_tup, seqG_lst, seqG_scr, iRange1, iRange2, iEnumG, iZipG, td_tup, td_lst, td_scr, eLc, eLcM, tYes', pNone, pSome, eSl, cu_tup, cu_lst, cu_scr, eMt, eMt0, mAppend, isL, rs_non, rs_bl, rs_int, rs_str, rs_tup, rs_lst', rs_scr, itemsOf_tup, itemsOf_lst, itemsOf_scr, oI, oI0, oSub, oFdiv, oMod, oPow, oShl, oShr, oAnd, oOr, oXor, oLt, oLe, oGt, oGe, oNeg, oIsN, oNotN, Gx.isNon, oAdd, oAdd', oMul, oMul', oMulM, oEq, oNe, oEqS, oNeS, oIn, oNin, eChain, oIx, oSet, cLen, cList, cListM, cTuple, cSum, cAll, cAny, cInt, cAbs, cMax2, cMin2, cDivmod, cGcd, cIsi, cRepr, lstInts, lstBls, startD, wipeD, List.map_cons, List.map_nil, List.length_cons, List.length_nil, List.cons_append, List.nil_append, List.replicate_succ, List.replicate_zero, List.set_cons_succ, List.set_cons_zero, List.getElem?_cons_succ, List.getElem?_cons_zero, List.filterMap_cons_some, List.filterMap_nil, Nat.reduceAdd, Nat.reduceSub, Nat.sub_self, Nat.reduceLT, Nat.reduceMul, Nat.zero_add, Nat.add_zero, if_true, if_false, and_true, true_and, and_false, false_and, or_true, true_or, or_false, false_or, not_true_eq_false, not_false_eq_true, Bool.not_true, Bool.not_false, Bool.false_eq_true, ite_true, ite_false, reduceIte, reduceCtorEq, eq_self, aStar, eLstRg, eDicT0, eDixT, gSubsT, keysOf, cListT, cSortedP, oSubB, oMulT, iZip2G, eDic0, eDic1, oDix, oDin, oDnin, oDset, iKeysG, cSortedE, cListD, Gx.keyOf, cMaxL, cMinL, cSortedI, mIndex, eSortSet, eLenT, tBi, oIsB, cSumT, $xs,*])
local macro_rules | `(tactic| simp_arith! [$xs,*]) => `(tactic| try simp only [eVar, eC, eBin, eUn, tBl, tAnd', tOr', tNot', eAnd, eOr, eNot, eIf, aNil, aCons, eTup, eLst, eLstM, eCall, eCallK, pick, sNext, sSeq, sBreak, sCont, sDrop, sRet, sRetN, sIf, sNever, gNm, gsNil, gsCons, gTupl, gSubs, sAsg, sPar, sPar3, sFor, iSeq, seqG_tup, seqG_lst, seqG_scr, iRange1, iRange2, iEnumG, iZipG, td_tup, td_lst, td_scr, eLc, eLcM, tYes', pNone, pSome, eSl, cu_tup, cu_lst, cu_scr, eMt, eMt0, mAppend, isL, rs_non, rs_bl, rs_int, rs_str, rs_tup, rs_lst', rs_scr, itemsOf_tup, itemsOf_lst, itemsOf_scr, oI, oI0, oSub, oFdiv, oMod, oPow, oShl, oShr, oAnd, oOr, oXor, oLt, oLe, oGt, oGe, oNeg, oIsN, oNotN, Gx.isNon, oAdd, oAdd', oMul, oMul', oMulM, oEq, oNe, oEqS, oNeS, oIn, oNin, eChain, oIx, oSet, cLen, cList, cListM, cTuple, cSum, cAll, cAny, cInt, cAbs, cMax2, cMin2, cDivmod, cGcd, cIsi, cRepr, lstInts, lstBls, startD, wipeD, List.map_cons, List.map_nil, List.length_cons, List.length_nil, List.cons_append, List.nil_append, List.replicate_succ, List.replicate_zero, List.set_cons_succ, List.set_cons_zero, List.getElem?_cons_succ, List.getElem?_cons_zero, List.filterMap_cons_some, List.filterMap_nil, Nat.reduceAdd, Nat.reduceSub, Nat.sub_self, Nat.reduceLT, Nat.reduceMul, Nat.zero_add, Nat.add_zero, if_true, if_false, and_true, true_and, and_false, false_and, or_true, true_or, or_false, false_or, not_true_eq_false, not_false_eq_true, Bool.not_true, Bool.not_false, Bool.false_eq_true, ite_true, ite_false, reduceIte, reduceCtorEq, eq_self, aStar, eLstRg, eDicT0, eDixT, gSubsT, keysOf, cListT, cSortedP, oSubB, oMulT, iZip2G, eDic0, eDic1, oDix, oDin, oDnin, oDset, iKeysG, cSortedE, cListD, Gx.keyOf, cMaxL, cMinL, cSortedI, mIndex, eSortSet, eLenT, tBi, oIsB, cSumT, rs_N, rs_W, rs_Row, rs_S, rs_R, rs_B, it_N, it_W, it_Row, it_S, it_R, sq_W, sq_Row, sq_S, td_N, td_W, td_Row, td_S, rs_I, it_I, sq_I, td_I, rs_Ss, it_Ss, sq_Ss, td_Ss, cu_S, cu_W, cu_Row, atI_0, atI_1, $xs,*])
end Gx

--W3
/-! Gx, data side 69: drawn nets of the fourth family with a state; with bearings alike. -/
namespace Gx
open PySem L2
local macro_rules | `(tactic| simp_arith [$xs,*]) => `(tactic| try simp only [eVar, eC, eBin, eUn, tBl, tAnd', tOr', tNot', eAnd, eOr, eNot, eIf, aNil, aCons, eTup, eLst, eLstM, eCall, eCallK, pick, sNext, sSeq, sBreak, sCont, sDrop, sRet, sRetN, sIf, sNever, gNm, gsNil, gsCons, gTupl, gSubs, sAsg, sPar, sPar3, sFor, iSeq, seqG_tup, seqG_lst, seqG_scr, iRange1, iRange2, iEnumG, iZipG, td_tup, td_lst, td_scr, eLc, eLcM, tYes', pNone, pSome, eSl, cu_tup, cu_lst, cu_scr, eMt, eMt0, mAppend, isL, rs_non, rs_bl, rs_int, rs_str, rs_tup, rs_lst', rs_scr, itemsOf_tup, itemsOf_lst, itemsOf_scr, oI, oI0, oSub, oFdiv, oMod, oPow, oShl, oShr, oAnd, oOr, oXor, oLt, oLe, oGt, oGe, oNeg, oIsN, oNotN, Gx.isNon, oAdd, oAdd', oMul, oMul', oMulM, oEq, oNe, oEqS, oNeS, oIn, oNin, eChain, oIx, oSet, cLen, cList, cListM, cTuple, cSum, cAll, cAny, cInt, cAbs, cMax2, cMin2, cDivmod, cGcd, cIsi, cRepr, lstInts, lstBls, startD, wipeD, List.map_cons, List.map_nil, List.length_cons, List.length_nil, List.cons_append, List.nil_append, List.replicate_succ, List.replicate_zero, List.set_cons_succ, List.set_cons_zero, List.getElem?_cons_succ, List.getElem?_cons_zero, List.filterMap_cons_some, List.filterMap_nil, Nat.reduceAdd, Nat.reduceSub, Nat.sub_self, Nat.reduceLT, Nat.reduceMul, Nat.zero_add, Nat.add_zero, if_true, if_false, and_true, true_and, and_false, false_and, or_true, true_or, or_false, false_or, not_true_eq_false, not_false_eq_true, Bool.not_true, Bool.not_false, Bool.false_eq_true, ite_true, ite_false, reduceIte, reduceCtorEq, eq_self, aStar, eLstRg, eDicT0, eDixT, gSubsT, keysOf, cListT, cSortedP, oSubB, oMulT, iZip2G, eDic0, eDic1, oDix, oDin, oDnin, oDset, iKeysG, cSortedE, cListD, Gx.keyOf, cMaxL, cMinL, cSortedI, mIndex, eSortSet, eLenT, tBi, oIsB, cSumT, $xs,*])
local macro_rules | `(tactic| simp_arith! [$xs,*]) => `(tactic| try simp only [eVar, eC, eBin, eUn, tBl, tAnd', tOr', tNot', eAnd, eOr, eNot, eIf, aNil, aCons, eTup, eLst, eLstM, eCall, eCallK, pick, sNext, sSeq, sBreak, sCont, sDrop, sRet, sRetN, sIf, sNever, gNm, gsNil, gsCons, gTupl, gSubs, sAsg, sPar, sPar3, sFor, iSeq, seqG_tup, seqG_lst, seqG_scr, iRange1, iRange2, iEnumG, iZipG, td_tup, td_lst, td_scr, eLc, eLcM, tYes', pNone, pSome, eSl, cu_tup, cu_lst, cu_scr, eMt, eMt0, mAppend, isL, rs_non, rs_bl, rs_int, rs_str, rs_tup, rs_lst', rs_scr, itemsOf_tup, itemsOf_lst, itemsOf_scr, oI, oI0, oSub, oFdiv, oMod, oPow, oShl, oShr, oAnd, oOr, oXor, oLt, oLe, oGt, oGe, oNeg, oIsN, oNotN, Gx.isNon, oAdd, oAdd', oMul, oMul', oMulM, oEq, oNe, oEqS, oNeS, oIn, oNin, eChain, oIx, oSet, cLen, cList, cListM, cTuple, cSum, cAll, cAny, cInt, cAbs, cMax2, cMin2, cDivmod, cGcd, cIsi, cRepr, lstInts, lstBls, startD, wipeD, List.map_cons, List.map_nil, List.length_cons, List.length_nil, List.cons_append, List.nil_append, List.replicate_succ, List.replicate_zero, List.set_cons_succ, List.set_cons_zero, List.getElem?_cons_succ, List.getElem?_cons_zero, List.filterMap_cons_some, List.filterMap_nil, Nat.reduceAdd, Nat.reduceSub, Nat.sub_self, Nat.reduceLT, Nat.reduceMul, Nat.zero_add, Nat.add_zero, if_true, if_false, and_true, true_and, and_false, false_and, or_true, true_or, or_false, false_or, not_true_eq_false, not_false_eq_true, Bool.not_true, Bool.not_false, Bool.false_eq_true, ite_true, ite_false, reduceIte, reduceCtorEq, eq_self, aStar, eLstRg, eDicT0, eDixT, gSubsT, keysOf, cListT, cSortedP, oSubB, oMulT, iZip2G, eDic0, eDic1, oDix, oDin, oDnin, oDset, iKeysG, cSortedE, cListD, Gx.keyOf, cMaxL, cMinL, cSortedI, mIndex, eSortSet, eLenT, tBi, oIsB, cSumT, rs_N, rs_W, rs_Row, rs_S, rs_R, rs_B, it_N, it_W, it_Row, it_S, it_R, sq_W, sq_Row, sq_S, td_N, td_W, td_Row, td_S, rs_I, it_I, sq_I, td_I, rs_Ss, it_Ss, sq_Ss, td_Ss, cu_S, cu_W, cu_Row, atI_0, atI_1, $xs,*])
end Gx

--W3
/-! Gx, data side 70: a drawn net of the fourth family in which bearings are alike. -/
namespace Gx
open PySem L2
local macro_rules | `(tactic| simp_arith [$xs,*]) => `(tactic| try simp only [eVar, eC, eBin, eUn, tBl, tAnd', tOr', tNot', eAnd, eOr, eNot, eIf, aNil, aCons, eTup, eLst, eLstM, eCall, eCallK, pick, sNext, sSeq, sBreak, sCont, sDrop, sRet, sRetN, sIf, sNever, gNm, gsNil, gsCons, gTupl, gSubs, sAsg, sPar, sPar3, sFor, iSeq, seqG_tup, seqG_lst, seqG_scr, iRange1, iRange2, iEnumG, iZipG, td_tup, td_lst, td_scr, eLc, eLcM, tYes', pNone, pSome, eSl, cu_tup, cu_lst, cu_scr, eMt, eMt0, mAppend, isL, rs_non, rs_bl, rs_int, rs_str, rs_tup, rs_lst', rs_scr, itemsOf_tup, itemsOf_lst, itemsOf_scr, oI, oI0, oSub, oFdiv, oMod, oPow, oShl, oShr, oAnd, oOr, oXor, oLt, oLe, oGt, oGe, oNeg, oIsN, oNotN, Gx.isNon, oAdd, oAdd', oMul, oMul', oMulM, oEq, oNe, oEqS, oNeS, oIn, oNin, eChain, oIx, oSet, cLen, cList, cListM, cTuple, cSum, cAll, cAny, cInt, cAbs, cMax2, cMin2, cDivmod, cGcd, cIsi, cRepr, lstInts, lstBls, startD, wipeD, List.map_cons, List.map_nil, List.length_cons, List.length_nil, List.cons_append, List.nil_append, List.replicate_succ, List.replicate_zero, List.set_cons_succ, List.set_cons_zero, List.getElem?_cons_succ, List.getElem?_cons_zero, List.filterMap_cons_some, List.filterMap_nil, Nat.reduceAdd, Nat.reduceSub, Nat.sub_self, Nat.reduceLT, Nat.reduceMul, Nat.zero_add, Nat.add_zero, if_true, if_false, and_true, true_and, and_false, false_and, or_true, true_or, or_false, false_or, not_true_eq_false, not_false_eq_true, Bool.not_true, Bool.not_false, Bool.false_eq_true, ite_true, ite_false, reduceIte, reduceCtorEq, eq_self, aStar, eLstRg, eDicT0, eDixT, gSubsT, keysOf, cListT, cSortedP, oSubB, oMulT, iZip2G, eDic0, eDic1, oDix, oDin, oDnin, oDset, iKeysG, cSortedE, cListD, Gx.keyOf, cMaxL, cMinL, cSortedI, mIndex, eSortSet, eLenT, tBi, oIsB, cSumT, $xs,*])
local macro_rules | `(tactic| simp_arith! [$xs,*]) => `(tactic| try simp only [eVar, eC, eBin, eUn, tBl, tAnd', tOr', tNot', eAnd, eOr, eNot, eIf, aNil, aCons, eTup, eLst, eLstM, eCall, eCallK, pick, sNext, sSeq, sBreak, sCont, sDrop, sRet, sRetN, sIf, sNever, gNm, gsNil, gsCons, gTupl, gSubs, sAsg, sPar, sPar3, sFor, iSeq, seqG_tup, seqG_lst, seqG_scr, iRange1, iRange2, iEnumG, iZipG, td_tup, td_lst, td_scr, eLc, eLcM, tYes', pNone, pSome, eSl, cu_tup, cu_lst, cu_scr, eMt, eMt0, mAppend, isL, rs_non, rs_bl, rs_int, rs_str, rs_tup, rs_lst', rs_scr, itemsOf_tup, itemsOf_lst, itemsOf_scr, oI, oI0, oSub, oFdiv, oMod, oPow, oShl, oShr, oAnd, oOr, oXor, oLt, oLe, oGt, oGe, oNeg, oIsN, oNotN, Gx.isNon, oAdd, oAdd', oMul, oMul', oMulM, oEq, oNe, oEqS, oNeS, oIn, oNin, eChain, oIx, oSet, cLen, cList, cListM, cTuple, cSum, cAll, cAny, cInt, cAbs, cMax2, cMin2, cDivmod, cGcd, cIsi, cRepr, lstInts, lstBls, startD, wipeD, List.map_cons, List.map_nil, List.length_cons, List.length_nil, List.cons_append, List.nil_append, List.replicate_succ, List.replicate_zero, List.set_cons_succ, List.set_cons_zero, List.getElem?_cons_succ, List.getElem?_cons_zero, List.filterMap_cons_some, List.filterMap_nil, Nat.reduceAdd, Nat.reduceSub, Nat.sub_self, Nat.reduceLT, Nat.reduceMul, Nat.zero_add, Nat.add_zero, if_true, if_false, and_true, true_and, and_false, false_and, or_true, true_or, or_false, false_or, not_true_eq_false, not_false_eq_true, Bool.not_true, Bool.not_false, Bool.false_eq_true, ite_true, ite_false, reduceIte, reduceCtorEq, eq_self, aStar, eLstRg, eDicT0, eDixT, gSubsT, keysOf, cListT, cSortedP, oSubB, oMulT, iZip2G, eDic0, eDic1, oDix, oDin, oDnin, oDset, iKeysG, cSortedE, cListD, Gx.keyOf, cMaxL, cMinL, cSortedI, mIndex, eSortSet, eLenT, tBi, oIsB, cSumT, rs_N, rs_W, rs_Row, rs_S, rs_R, rs_B, it_N, it_W, it_Row, it_S, it_R, sq_W, sq_Row, sq_S, td_N, td_W, td_Row, td_S, rs_I, it_I, sq_I, td_I, rs_Ss, it_Ss, sq_Ss, td_Ss, cu_S, cu_W, cu_Row, atI_0, atI_1, $xs,*])
end Gx

--W3
/-! Gx, data side 71: steadiness of fewer pictures, of a net some times as great. -/
namespace Gx
open PySem L2
/-! ### one picture of them -/
/-! ### some times as great -/
end Gx

--W4
/-! Gx, data side 72: rows of moves (k14). -/
namespace Gx
open PySem L2
local macro_rules | `(tactic| simp_arith [$xs,*]) => `(tactic| try simp only [eVar, eC, eBin, eUn, tBl, tAnd', tOr', tNot', eAnd, eOr, eNot, eIf, aNil, aCons, eTup, eLst, eLstM, eCall, eCallK, pick, sNext, sSeq, sBreak, sCont, sDrop, sRet, sRetN, sIf, sNever, gNm, gsNil, gsCons, gTupl, gSubs, sAsg, sPar, sPar3, sFor, iSeq, seqG_tup, seqG_lst, seqG_scr, iRange1, iRange2, iEnumG, iZipG, td_tup, td_lst, td_scr, eLc, eLcM, tYes', pNone, pSome, eSl, cu_tup, cu_lst, cu_scr, eMt, eMt0, mAppend, isL, rs_non, rs_bl, rs_int, rs_str, rs_tup, rs_lst', rs_scr, itemsOf_tup, itemsOf_lst, itemsOf_scr, oI, oI0, oSub, oFdiv, oMod, oPow, oShl, oShr, oAnd, oOr, oXor, oLt, oLe, oGt, oGe, oNeg, oIsN, oNotN, Gx.isNon, oAdd, oAdd', oMul, oMul', oMulM, oEq, oNe, oEqS, oNeS, oIn, oNin, eChain, oIx, oSet, cLen, cList, cListM, cTuple, cSum, cAll, cAny, cInt, cAbs, cMax2, cMin2, cDivmod, cGcd, cIsi, cRepr, lstInts, lstBls, startD, wipeD, List.map_cons, List.map_nil, List.length_cons, List.length_nil, List.cons_append, List.nil_append, List.replicate_succ, List.replicate_zero, List.set_cons_succ, List.set_cons_zero, List.getElem?_cons_succ, List.getElem?_cons_zero, List.filterMap_cons_some, List.filterMap_nil, Nat.reduceAdd, Nat.reduceSub, Nat.sub_self, Nat.reduceLT, Nat.reduceMul, Nat.zero_add, Nat.add_zero, if_true, if_false, and_true, true_and, and_false, false_and, or_true, true_or, or_false, false_or, not_true_eq_false, not_false_eq_true, Bool.not_true, Bool.not_false, Bool.false_eq_true, ite_true, ite_false, reduceIte, reduceCtorEq, eq_self, aStar, eLstRg, eDicT0, eDixT, gSubsT, keysOf, cListT, cSortedP, oSubB, oMulT, iZip2G, eDic0, eDic1, oDix, oDin, oDnin, oDset, iKeysG, cSortedE, cListD, Gx.keyOf, cMaxL, cMinL, cSortedI, mIndex, eSortSet, eLenT, tBi, oIsB, cSumT, eBits, $xs,*])
local macro_rules | `(tactic| simp_arith! [$xs,*]) => `(tactic| try simp only [eVar, eC, eBin, eUn, tBl, tAnd', tOr', tNot', eAnd, eOr, eNot, eIf, aNil, aCons, eTup, eLst, eLstM, eCall, eCallK, pick, sNext, sSeq, sBreak, sCont, sDrop, sRet, sRetN, sIf, sNever, gNm, gsNil, gsCons, gTupl, gSubs, sAsg, sPar, sPar3, sFor, iSeq, seqG_tup, seqG_lst, seqG_scr, iRange1, iRange2, iEnumG, iZipG, td_tup, td_lst, td_scr, eLc, eLcM, tYes', pNone, pSome, eSl, cu_tup, cu_lst, cu_scr, eMt, eMt0, mAppend, isL, rs_non, rs_bl, rs_int, rs_str, rs_tup, rs_lst', rs_scr, itemsOf_tup, itemsOf_lst, itemsOf_scr, oI, oI0, oSub, oFdiv, oMod, oPow, oShl, oShr, oAnd, oOr, oXor, oLt, oLe, oGt, oGe, oNeg, oIsN, oNotN, Gx.isNon, oAdd, oAdd', oMul, oMul', oMulM, oEq, oNe, oEqS, oNeS, oIn, oNin, eChain, oIx, oSet, cLen, cList, cListM, cTuple, cSum, cAll, cAny, cInt, cAbs, cMax2, cMin2, cDivmod, cGcd, cIsi, cRepr, lstInts, lstBls, startD, wipeD, List.map_cons, List.map_nil, List.length_cons, List.length_nil, List.cons_append, List.nil_append, List.replicate_succ, List.replicate_zero, List.set_cons_succ, List.set_cons_zero, List.getElem?_cons_succ, List.getElem?_cons_zero, List.filterMap_cons_some, List.filterMap_nil, Nat.reduceAdd, Nat.reduceSub, Nat.sub_self, Nat.reduceLT, Nat.reduceMul, Nat.zero_add, Nat.add_zero, if_true, if_false, and_true, true_and, and_false, false_and, or_true, true_or, or_false, false_or, not_true_eq_false, not_false_eq_true, Bool.not_true, Bool.not_false, Bool.false_eq_true, ite_true, ite_false, reduceIte, reduceCtorEq, eq_self, aStar, eLstRg, eDicT0, eDixT, gSubsT, keysOf, cListT, cSortedP, oSubB, oMulT, iZip2G, eDic0, eDic1, oDix, oDin, oDnin, oDset, iKeysG, cSortedE, cListD, Gx.keyOf, cMaxL, cMinL, cSortedI, mIndex, eSortSet, eLenT, tBi, oIsB, cSumT, eBits, rs_N, rs_W, rs_Row, rs_S, rs_R, rs_B, it_N, it_W, it_Row, it_S, it_R, sq_W, sq_Row, sq_S, td_N, td_W, td_Row, td_S, rs_I, it_I, sq_I, td_I, rs_Ss, it_Ss, sq_Ss, td_Ss, cu_S, cu_W, cu_Row, atI_0, atI_1, $xs,*])
/-! ### one cell settled -/
/-! ### a row -/
end Gx

--W4
/-! Gx, data side 73: rows by the law's own walk (k14). -/
namespace Gx
open PySem L2
local macro_rules | `(tactic| simp_arith [$xs,*]) => `(tactic| try simp only [eVar, eC, eBin, eUn, tBl, tAnd', tOr', tNot', eAnd, eOr, eNot, eIf, aNil, aCons, eTup, eLst, eLstM, eCall, eCallK, pick, sNext, sSeq, sBreak, sCont, sDrop, sRet, sRetN, sIf, sNever, gNm, gsNil, gsCons, gTupl, gSubs, sAsg, sPar, sPar3, sFor, iSeq, seqG_tup, seqG_lst, seqG_scr, iRange1, iRange2, iEnumG, iZipG, td_tup, td_lst, td_scr, eLc, eLcM, tYes', pNone, pSome, eSl, cu_tup, cu_lst, cu_scr, eMt, eMt0, mAppend, isL, rs_non, rs_bl, rs_int, rs_str, rs_tup, rs_lst', rs_scr, itemsOf_tup, itemsOf_lst, itemsOf_scr, oI, oI0, oSub, oFdiv, oMod, oPow, oShl, oShr, oAnd, oOr, oXor, oLt, oLe, oGt, oGe, oNeg, oIsN, oNotN, Gx.isNon, oAdd, oAdd', oMul, oMul', oMulM, oEq, oNe, oEqS, oNeS, oIn, oNin, eChain, oIx, oSet, cLen, cList, cListM, cTuple, cSum, cAll, cAny, cInt, cAbs, cMax2, cMin2, cDivmod, cGcd, cIsi, cRepr, lstInts, lstBls, startD, wipeD, List.map_cons, List.map_nil, List.length_cons, List.length_nil, List.cons_append, List.nil_append, List.replicate_succ, List.replicate_zero, List.set_cons_succ, List.set_cons_zero, List.getElem?_cons_succ, List.getElem?_cons_zero, List.filterMap_cons_some, List.filterMap_nil, Nat.reduceAdd, Nat.reduceSub, Nat.sub_self, Nat.reduceLT, Nat.reduceMul, Nat.zero_add, Nat.add_zero, if_true, if_false, and_true, true_and, and_false, false_and, or_true, true_or, or_false, false_or, not_true_eq_false, not_false_eq_true, Bool.not_true, Bool.not_false, Bool.false_eq_true, ite_true, ite_false, reduceIte, reduceCtorEq, eq_self, aStar, eLstRg, eDicT0, eDixT, gSubsT, keysOf, cListT, cSortedP, oSubB, oMulT, iZip2G, eDic0, eDic1, oDix, oDin, oDnin, oDset, iKeysG, cSortedE, cListD, Gx.keyOf, cMaxL, cMinL, cSortedI, mIndex, eSortSet, eLenT, tBi, oIsB, cSumT, eBits, $xs,*])
local macro_rules | `(tactic| simp_arith! [$xs,*]) => `(tactic| try simp only [eVar, eC, eBin, eUn, tBl, tAnd', tOr', tNot', eAnd, eOr, eNot, eIf, aNil, aCons, eTup, eLst, eLstM, eCall, eCallK, pick, sNext, sSeq, sBreak, sCont, sDrop, sRet, sRetN, sIf, sNever, gNm, gsNil, gsCons, gTupl, gSubs, sAsg, sPar, sPar3, sFor, iSeq, seqG_tup, seqG_lst, seqG_scr, iRange1, iRange2, iEnumG, iZipG, td_tup, td_lst, td_scr, eLc, eLcM, tYes', pNone, pSome, eSl, cu_tup, cu_lst, cu_scr, eMt, eMt0, mAppend, isL, rs_non, rs_bl, rs_int, rs_str, rs_tup, rs_lst', rs_scr, itemsOf_tup, itemsOf_lst, itemsOf_scr, oI, oI0, oSub, oFdiv, oMod, oPow, oShl, oShr, oAnd, oOr, oXor, oLt, oLe, oGt, oGe, oNeg, oIsN, oNotN, Gx.isNon, oAdd, oAdd', oMul, oMul', oMulM, oEq, oNe, oEqS, oNeS, oIn, oNin, eChain, oIx, oSet, cLen, cList, cListM, cTuple, cSum, cAll, cAny, cInt, cAbs, cMax2, cMin2, cDivmod, cGcd, cIsi, cRepr, lstInts, lstBls, startD, wipeD, List.map_cons, List.map_nil, List.length_cons, List.length_nil, List.cons_append, List.nil_append, List.replicate_succ, List.replicate_zero, List.set_cons_succ, List.set_cons_zero, List.getElem?_cons_succ, List.getElem?_cons_zero, List.filterMap_cons_some, List.filterMap_nil, Nat.reduceAdd, Nat.reduceSub, Nat.sub_self, Nat.reduceLT, Nat.reduceMul, Nat.zero_add, Nat.add_zero, if_true, if_false, and_true, true_and, and_false, false_and, or_true, true_or, or_false, false_or, not_true_eq_false, not_false_eq_true, Bool.not_true, Bool.not_false, Bool.false_eq_true, ite_true, ite_false, reduceIte, reduceCtorEq, eq_self, aStar, eLstRg, eDicT0, eDixT, gSubsT, keysOf, cListT, cSortedP, oSubB, oMulT, iZip2G, eDic0, eDic1, oDix, oDin, oDnin, oDset, iKeysG, cSortedE, cListD, Gx.keyOf, cMaxL, cMinL, cSortedI, mIndex, eSortSet, eLenT, tBi, oIsB, cSumT, eBits, rs_N, rs_W, rs_Row, rs_S, rs_R, rs_B, it_N, it_W, it_Row, it_S, it_R, sq_W, sq_Row, sq_S, td_N, td_W, td_Row, td_S, rs_I, it_I, sq_I, td_I, rs_Ss, it_Ss, sq_Ss, td_Ss, cu_S, cu_W, cu_Row, atI_0, atI_1, $xs,*])
/-! ### judged -/
theorem rp_lst2 {k n m : Nat} {a b : D} (h : RP k n a) (h' : RP k m b) : RP (k + 1) (n + m + 2) (.lst [a, b]) := by
  have := (RPs.cons h (.cons h' .nil)).lst
  have e : n + 1 + (m + 1 + 0) = n + m + 2 := by omega
  rw [e] at this
  exact this
end Gx

--W4
/-! Gx, data side 74: the nearest first, with the one ahead of each. -/
namespace Gx
open PySem L2
local macro_rules | `(tactic| simp_arith [$xs,*]) => `(tactic| try simp only [eVar, eC, eBin, eUn, tBl, tAnd', tOr', tNot', eAnd, eOr, eNot, eIf, aNil, aCons, eTup, eLst, eLstM, eCall, eCallK, pick, sNext, sSeq, sBreak, sCont, sDrop, sRet, sRetN, sIf, sNever, gNm, gsNil, gsCons, gTupl, gSubs, sAsg, sPar, sPar3, sFor, iSeq, seqG_tup, seqG_lst, seqG_scr, iRange1, iRange2, iEnumG, iZipG, td_tup, td_lst, td_scr, eLc, eLcM, tYes', pNone, pSome, eSl, cu_tup, cu_lst, cu_scr, eMt, eMt0, mAppend, isL, rs_non, rs_bl, rs_int, rs_str, rs_tup, rs_lst', rs_scr, itemsOf_tup, itemsOf_lst, itemsOf_scr, oI, oI0, oSub, oFdiv, oMod, oPow, oShl, oShr, oAnd, oOr, oXor, oLt, oLe, oGt, oGe, oNeg, oIsN, oNotN, Gx.isNon, oAdd, oAdd', oMul, oMul', oMulM, oEq, oNe, oEqS, oNeS, oIn, oNin, eChain, oIx, oSet, cLen, cList, cListM, cTuple, cSum, cAll, cAny, cInt, cAbs, cMax2, cMin2, cDivmod, cGcd, cIsi, cRepr, lstInts, lstBls, startD, wipeD, List.map_cons, List.map_nil, List.length_cons, List.length_nil, List.cons_append, List.nil_append, List.replicate_succ, List.replicate_zero, List.set_cons_succ, List.set_cons_zero, List.getElem?_cons_succ, List.getElem?_cons_zero, List.filterMap_cons_some, List.filterMap_nil, Nat.reduceAdd, Nat.reduceSub, Nat.sub_self, Nat.reduceLT, Nat.reduceMul, Nat.zero_add, Nat.add_zero, if_true, if_false, and_true, true_and, and_false, false_and, or_true, true_or, or_false, false_or, not_true_eq_false, not_false_eq_true, Bool.not_true, Bool.not_false, Bool.false_eq_true, ite_true, ite_false, reduceIte, reduceCtorEq, eq_self, aStar, eLstRg, eDicT0, eDixT, gSubsT, keysOf, cListT, cSortedP, oSubB, oMulT, iZip2G, eDic0, eDic1, oDix, oDin, oDnin, oDset, iKeysG, cSortedE, cListD, Gx.keyOf, cMaxL, cMinL, cSortedI, mIndex, eSortSet, eLenT, tBi, oIsB, cSumT, eBits, $xs,*])
section
variable {ms : Gr} {s : Nat}
end
end Gx

--W4
/-! Gx, data side 75: the nearest first: what it says of ways. -/
namespace Gx
open PySem L2
/-- there is a way of so many moves -/
def Pth (ms : Gr) (s : Nat) : Nat → Nat → Prop
  | 0, y => y = s
  | d + 1, y => ∃ x, Pth ms s d x ∧ y ∈ rw' ms x
abbrev T3 := Nat × Nat × Nat
def at3 (l : List T3) (j : Nat) : T3 := l.getD j (0, 0, 0)
/-- how many moves away -/
def dep (l : List T3) : Nat → Nat → Nat
  | 0, _ => 0
  | _ + 1, 0 => 0
  | f + 1, j + 1 => dep l f (at3 l (j + 1)).2.2 + 1
section
variable {ms : Gr} {s t : Nat} {l : List T3}
def dp (l : List T3) (j : Nat) : Nat := dep l j j
end
end Gx

--W4
/-! Gx, data side 76: the way to a state. -/
namespace Gx
open PySem L2
local macro_rules | `(tactic| simp_arith [$xs,*]) => `(tactic| try simp only [eVar, eC, eBin, eUn, tBl, tAnd', tOr', tNot', eAnd, eOr, eNot, eIf, aNil, aCons, eTup, eLst, eLstM, eCall, eCallK, pick, sNext, sSeq, sBreak, sCont, sDrop, sRet, sRetN, sIf, sNever, gNm, gsNil, gsCons, gTupl, gSubs, sAsg, sPar, sPar3, sFor, iSeq, seqG_tup, seqG_lst, seqG_scr, iRange1, iRange2, iEnumG, iZipG, td_tup, td_lst, td_scr, eLc, eLcM, tYes', pNone, pSome, eSl, cu_tup, cu_lst, cu_scr, eMt, eMt0, mAppend, isL, rs_non, rs_bl, rs_int, rs_str, rs_tup, rs_lst', rs_scr, itemsOf_tup, itemsOf_lst, itemsOf_scr, oI, oI0, oSub, oFdiv, oMod, oPow, oShl, oShr, oAnd, oOr, oXor, oLt, oLe, oGt, oGe, oNeg, oIsN, oNotN, Gx.isNon, oAdd, oAdd', oMul, oMul', oMulM, oEq, oNe, oEqS, oNeS, oIn, oNin, eChain, oIx, oSet, cLen, cList, cListM, cTuple, cSum, cAll, cAny, cInt, cAbs, cMax2, cMin2, cDivmod, cGcd, cIsi, cRepr, lstInts, lstBls, startD, wipeD, List.map_cons, List.map_nil, List.length_cons, List.length_nil, List.cons_append, List.nil_append, List.replicate_succ, List.replicate_zero, List.set_cons_succ, List.set_cons_zero, List.getElem?_cons_succ, List.getElem?_cons_zero, List.filterMap_cons_some, List.filterMap_nil, Nat.reduceAdd, Nat.reduceSub, Nat.sub_self, Nat.reduceLT, Nat.reduceMul, Nat.zero_add, Nat.add_zero, if_true, if_false, and_true, true_and, and_false, false_and, or_true, true_or, or_false, false_or, not_true_eq_false, not_false_eq_true, Bool.not_true, Bool.not_false, Bool.false_eq_true, ite_true, ite_false, reduceIte, reduceCtorEq, eq_self, aStar, eLstRg, eDicT0, eDixT, gSubsT, keysOf, cListT, cSortedP, oSubB, oMulT, iZip2G, eDic0, eDic1, oDix, oDin, oDnin, oDset, iKeysG, cSortedE, cListD, Gx.keyOf, cMaxL, cMinL, cSortedI, mIndex, eSortSet, eLenT, tBi, oIsB, cSumT, eBits, $xs,*])
section
variable {ms : Gr} {s t : Nat} {l : List T3}
end
end Gx

--W4
/-! Gx, data side 77: rows that lead to a state. -/
namespace Gx
open PySem L2
local macro_rules | `(tactic| simp_arith [$xs,*]) => `(tactic| try simp only [eVar, eC, eBin, eUn, tBl, tAnd', tOr', tNot', eAnd, eOr, eNot, eIf, aNil, aCons, eTup, eLst, eLstM, eCall, eCallK, pick, sNext, sSeq, sBreak, sCont, sDrop, sRet, sRetN, sIf, sNever, gNm, gsNil, gsCons, gTupl, gSubs, sAsg, sPar, sPar3, sFor, iSeq, seqG_tup, seqG_lst, seqG_scr, iRange1, iRange2, iEnumG, iZipG, td_tup, td_lst, td_scr, eLc, eLcM, tYes', pNone, pSome, eSl, cu_tup, cu_lst, cu_scr, eMt, eMt0, mAppend, isL, rs_non, rs_bl, rs_int, rs_str, rs_tup, rs_lst', rs_scr, itemsOf_tup, itemsOf_lst, itemsOf_scr, oI, oI0, oSub, oFdiv, oMod, oPow, oShl, oShr, oAnd, oOr, oXor, oLt, oLe, oGt, oGe, oNeg, oIsN, oNotN, Gx.isNon, oAdd, oAdd', oMul, oMul', oMulM, oEq, oNe, oEqS, oNeS, oIn, oNin, eChain, oIx, oSet, cLen, cList, cListM, cTuple, cSum, cAll, cAny, cInt, cAbs, cMax2, cMin2, cDivmod, cGcd, cIsi, cRepr, lstInts, lstBls, startD, wipeD, List.map_cons, List.map_nil, List.length_cons, List.length_nil, List.cons_append, List.nil_append, List.replicate_succ, List.replicate_zero, List.set_cons_succ, List.set_cons_zero, List.getElem?_cons_succ, List.getElem?_cons_zero, List.filterMap_cons_some, List.filterMap_nil, Nat.reduceAdd, Nat.reduceSub, Nat.sub_self, Nat.reduceLT, Nat.reduceMul, Nat.zero_add, Nat.add_zero, if_true, if_false, and_true, true_and, and_false, false_and, or_true, true_or, or_false, false_or, not_true_eq_false, not_false_eq_true, Bool.not_true, Bool.not_false, Bool.false_eq_true, ite_true, ite_false, reduceIte, reduceCtorEq, eq_self, aStar, eLstRg, eDicT0, eDixT, gSubsT, keysOf, cListT, cSortedP, oSubB, oMulT, iZip2G, eDic0, eDic1, oDix, oDin, oDnin, oDset, iKeysG, cSortedE, cListD, Gx.keyOf, cMaxL, cMinL, cSortedI, mIndex, eSortSet, eLenT, tBi, oIsB, cSumT, eBits, $xs,*])
/-! ### the cells of a way -/
/-! ### a shortest row -/
end Gx

--W5
/-! Gx, data side 78: rounds. -/
namespace Gx
open PySem L2
local macro_rules | `(tactic| simp_arith [$xs,*]) => `(tactic| try simp only [eVar, eC, eBin, eUn, tBl, tAnd', tOr', tNot', eAnd, eOr, eNot, eIf, aNil, aCons, eTup, eLst, eLstM, eCall, eCallK, pick, sNext, sSeq, sBreak, sCont, sDrop, sRet, sRetN, sIf, sNever, gNm, gsNil, gsCons, gTupl, gSubs, sAsg, sPar, sPar3, sFor, iSeq, seqG_tup, seqG_lst, seqG_scr, iRange1, iRange2, iEnumG, iZipG, td_tup, td_lst, td_scr, eLc, eLcM, tYes', pNone, pSome, eSl, cu_tup, cu_lst, cu_scr, eMt, eMt0, mAppend, isL, rs_non, rs_bl, rs_int, rs_str, rs_tup, rs_lst', rs_scr, itemsOf_tup, itemsOf_lst, itemsOf_scr, oI, oI0, oSub, oFdiv, oMod, oPow, oShl, oShr, oAnd, oOr, oXor, oLt, oLe, oGt, oGe, oNeg, oIsN, oNotN, Gx.isNon, oAdd, oAdd', oMul, oMul', oMulM, oEq, oNe, oEqS, oNeS, oIn, oNin, eChain, oIx, oSet, cLen, cList, cListM, cTuple, cSum, cAll, cAny, cInt, cAbs, cMax2, cMin2, cDivmod, cGcd, cIsi, cRepr, lstInts, lstBls, startD, wipeD, List.map_cons, List.map_nil, List.length_cons, List.length_nil, List.cons_append, List.nil_append, List.replicate_succ, List.replicate_zero, List.set_cons_succ, List.set_cons_zero, List.getElem?_cons_succ, List.getElem?_cons_zero, List.filterMap_cons_some, List.filterMap_nil, Nat.reduceAdd, Nat.reduceSub, Nat.sub_self, Nat.reduceLT, Nat.reduceMul, Nat.zero_add, Nat.add_zero, if_true, if_false, and_true, true_and, and_false, false_and, or_true, true_or, or_false, false_or, not_true_eq_false, not_false_eq_true, Bool.not_true, Bool.not_false, Bool.false_eq_true, ite_true, ite_false, reduceIte, reduceCtorEq, eq_self, aStar, eLstRg, eDicT0, eDixT, gSubsT, keysOf, cListT, cSortedP, oSubB, oMulT, iZip2G, eDic0, eDic1, oDix, oDin, oDnin, oDset, iKeysG, cSortedE, cListD, Gx.keyOf, cMaxL, cMinL, cSortedI, mIndex, eSortSet, eLenT, tBi, oIsB, cSumT, eBits, eLenI, $xs,*])
end Gx

--W5
/-! Gx, data side 79: rounds told, and by the law. -/
namespace Gx
open PySem L2
local macro_rules | `(tactic| simp_arith [$xs,*]) => `(tactic| try simp only [eVar, eC, eBin, eUn, tBl, tAnd', tOr', tNot', eAnd, eOr, eNot, eIf, aNil, aCons, eTup, eLst, eLstM, eCall, eCallK, pick, sNext, sSeq, sBreak, sCont, sDrop, sRet, sRetN, sIf, sNever, gNm, gsNil, gsCons, gTupl, gSubs, sAsg, sPar, sPar3, sFor, iSeq, seqG_tup, seqG_lst, seqG_scr, iRange1, iRange2, iEnumG, iZipG, td_tup, td_lst, td_scr, eLc, eLcM, tYes', pNone, pSome, eSl, cu_tup, cu_lst, cu_scr, eMt, eMt0, mAppend, isL, rs_non, rs_bl, rs_int, rs_str, rs_tup, rs_lst', rs_scr, itemsOf_tup, itemsOf_lst, itemsOf_scr, oI, oI0, oSub, oFdiv, oMod, oPow, oShl, oShr, oAnd, oOr, oXor, oLt, oLe, oGt, oGe, oNeg, oIsN, oNotN, Gx.isNon, oAdd, oAdd', oMul, oMul', oMulM, oEq, oNe, oEqS, oNeS, oIn, oNin, eChain, oIx, oSet, cLen, cList, cListM, cTuple, cSum, cAll, cAny, cInt, cAbs, cMax2, cMin2, cDivmod, cGcd, cIsi, cRepr, lstInts, lstBls, startD, wipeD, List.map_cons, List.map_nil, List.length_cons, List.length_nil, List.cons_append, List.nil_append, List.replicate_succ, List.replicate_zero, List.set_cons_succ, List.set_cons_zero, List.getElem?_cons_succ, List.getElem?_cons_zero, List.filterMap_cons_some, List.filterMap_nil, Nat.reduceAdd, Nat.reduceSub, Nat.sub_self, Nat.reduceLT, Nat.reduceMul, Nat.zero_add, Nat.add_zero, if_true, if_false, and_true, true_and, and_false, false_and, or_true, true_or, or_false, false_or, not_true_eq_false, not_false_eq_true, Bool.not_true, Bool.not_false, Bool.false_eq_true, ite_true, ite_false, reduceIte, reduceCtorEq, eq_self, aStar, eLstRg, eDicT0, eDixT, gSubsT, keysOf, cListT, cSortedP, oSubB, oMulT, iZip2G, eDic0, eDic1, oDix, oDin, oDnin, oDset, iKeysG, cSortedE, cListD, Gx.keyOf, cMaxL, cMinL, cSortedI, mIndex, eSortSet, eLenT, tBi, oIsB, cSumT, eBits, eLenI, $xs,*])
local macro_rules | `(tactic| simp_arith! [$xs,*]) => `(tactic| try simp only [eVar, eC, eBin, eUn, tBl, tAnd', tOr', tNot', eAnd, eOr, eNot, eIf, aNil, aCons, eTup, eLst, eLstM, eCall, eCallK, pick, sNext, sSeq, sBreak, sCont, sDrop, sRet, sRetN, sIf, sNever, gNm, gsNil, gsCons, gTupl, gSubs, sAsg, sPar, sPar3, sFor, iSeq, seqG_tup, seqG_lst, seqG_scr, iRange1, iRange2, iEnumG, iZipG, td_tup, td_lst, td_scr, eLc, eLcM, tYes', pNone, pSome, eSl, cu_tup, cu_lst, cu_scr, eMt, eMt0, mAppend, isL, rs_non, rs_bl, rs_int, rs_str, rs_tup, rs_lst', rs_scr, itemsOf_tup, itemsOf_lst, itemsOf_scr, oI, oI0, oSub, oFdiv, oMod, oPow, oShl, oShr, oAnd, oOr, oXor, oLt, oLe, oGt, oGe, oNeg, oIsN, oNotN, Gx.isNon, oAdd, oAdd', oMul, oMul', oMulM, oEq, oNe, oEqS, oNeS, oIn, oNin, eChain, oIx, oSet, cLen, cList, cListM, cTuple, cSum, cAll, cAny, cInt, cAbs, cMax2, cMin2, cDivmod, cGcd, cIsi, cRepr, lstInts, lstBls, startD, wipeD, List.map_cons, List.map_nil, List.length_cons, List.length_nil, List.cons_append, List.nil_append, List.replicate_succ, List.replicate_zero, List.set_cons_succ, List.set_cons_zero, List.getElem?_cons_succ, List.getElem?_cons_zero, List.filterMap_cons_some, List.filterMap_nil, Nat.reduceAdd, Nat.reduceSub, Nat.sub_self, Nat.reduceLT, Nat.reduceMul, Nat.zero_add, Nat.add_zero, if_true, if_false, and_true, true_and, and_false, false_and, or_true, true_or, or_false, false_or, not_true_eq_false, not_false_eq_true, Bool.not_true, Bool.not_false, Bool.false_eq_true, ite_true, ite_false, reduceIte, reduceCtorEq, eq_self, aStar, eLstRg, eDicT0, eDixT, gSubsT, keysOf, cListT, cSortedP, oSubB, oMulT, iZip2G, eDic0, eDic1, oDix, oDin, oDnin, oDset, iKeysG, cSortedE, cListD, Gx.keyOf, cMaxL, cMinL, cSortedI, mIndex, eSortSet, eLenT, tBi, oIsB, cSumT, eBits, eLenI, rs_N, rs_W, rs_Row, rs_S, rs_R, rs_B, it_N, it_W, it_Row, it_S, it_R, sq_W, sq_Row, sq_S, td_N, td_W, td_Row, td_S, rs_I, it_I, sq_I, td_I, rs_Ss, it_Ss, sq_Ss, td_Ss, cu_S, cu_W, cu_Row, atI_0, atI_1, $xs,*])
/-! ### kinds, by the law -/
end Gx

--W5
/-! Gx, data side 80: how far the states are, by the law's layers. -/
namespace Gx
open PySem L2
local macro_rules | `(tactic| simp_arith [$xs,*]) => `(tactic| try simp only [eVar, eC, eBin, eUn, tBl, tAnd', tOr', tNot', eAnd, eOr, eNot, eIf, aNil, aCons, eTup, eLst, eLstM, eCall, eCallK, pick, sNext, sSeq, sBreak, sCont, sDrop, sRet, sRetN, sIf, sNever, gNm, gsNil, gsCons, gTupl, gSubs, sAsg, sPar, sPar3, sFor, iSeq, seqG_tup, seqG_lst, seqG_scr, iRange1, iRange2, iEnumG, iZipG, td_tup, td_lst, td_scr, eLc, eLcM, tYes', pNone, pSome, eSl, cu_tup, cu_lst, cu_scr, eMt, eMt0, mAppend, isL, rs_non, rs_bl, rs_int, rs_str, rs_tup, rs_lst', rs_scr, itemsOf_tup, itemsOf_lst, itemsOf_scr, oI, oI0, oSub, oFdiv, oMod, oPow, oShl, oShr, oAnd, oOr, oXor, oLt, oLe, oGt, oGe, oNeg, oIsN, oNotN, Gx.isNon, oAdd, oAdd', oMul, oMul', oMulM, oEq, oNe, oEqS, oNeS, oIn, oNin, eChain, oIx, oSet, cLen, cList, cListM, cTuple, cSum, cAll, cAny, cInt, cAbs, cMax2, cMin2, cDivmod, cGcd, cIsi, cRepr, lstInts, lstBls, startD, wipeD, List.map_cons, List.map_nil, List.length_cons, List.length_nil, List.cons_append, List.nil_append, List.replicate_succ, List.replicate_zero, List.set_cons_succ, List.set_cons_zero, List.getElem?_cons_succ, List.getElem?_cons_zero, List.filterMap_cons_some, List.filterMap_nil, Nat.reduceAdd, Nat.reduceSub, Nat.sub_self, Nat.reduceLT, Nat.reduceMul, Nat.zero_add, Nat.add_zero, if_true, if_false, and_true, true_and, and_false, false_and, or_true, true_or, or_false, false_or, not_true_eq_false, not_false_eq_true, Bool.not_true, Bool.not_false, Bool.false_eq_true, ite_true, ite_false, reduceIte, reduceCtorEq, eq_self, aStar, eLstRg, eDicT0, eDixT, gSubsT, keysOf, cListT, cSortedP, oSubB, oMulT, iZip2G, eDic0, eDic1, oDix, oDin, oDnin, oDset, iKeysG, cSortedE, cListD, Gx.keyOf, cMaxL, cMinL, cSortedI, mIndex, eSortSet, eLenT, tBi, oIsB, cSumT, eBits, eLenI, $xs,*])
def fat (f : List (Option Nat)) (y : Nat) : Option Nat := f.getD y none
theorem pth_lt {ms : Gr} (ok : GOk ms) {s : Nat} (hs : s < ms.length) : ∀ (d y : Nat), Pth ms s d y → y < ms.length
  | 0, y, h => by have h : y = s := h; omega
  | d + 1, y, ⟨x, _, hy⟩ => ok.lt x y hy
/-- within one turn -/
structure Lay (ms : Gr) (t : Nat) (f0 f : List (Option Nat)) (dn A fr : List Nat) : Prop where
  len : f.length = ms.length
  val : ∀ y, y < ms.length → fat f y = if y ∈ A then some t else fat f0 y
  nd : A.Nodup
  sub : ∀ x ∈ A, x ∈ dn ∧ fat f0 x = none
  rest : ∀ x ∈ dn, x ∉ A → fat f0 x ≠ none
  fr : fr = A.flatMap (rw' ms)
/-- between the turns -/
structure Dst (ms : Gr) (s t : Nat) (f : List (Option Nat)) (L : List Nat) : Prop where
  len : f.length = ms.length
  least : ∀ y, y < ms.length → ∀ d, fat f y = some d → d < t ∧ Pth ms s d y ∧ ∀ d', Pth ms s d' y → d ≤ d'
  all : ∀ y, y < ms.length → ∀ d, d < t → Pth ms s d y → fat f y ≠ none
  lay : ∀ y ∈ L, Pth ms s t y
  cov : ∀ y, y < ms.length → Pth ms s t y → fat f y = none → y ∈ L
section
variable {ms : Gr} {s t : Nat} {f0 f : List (Option Nat)} {dn A fr L : List Nat}
theorem Lay.zero (h : f0.length = ms.length) : Lay ms t f0 f0 [] [] [] := ⟨h, fun y _ => by rw [if_neg (by simp)], List.nodup_nil, (fun _ h => nomatch h), (fun _ h => nomatch h), rfl⟩
theorem Lay.skip (l : Lay ms t f0 f dn A fr) {x : Nat} (hx : x < ms.length) (h : fat f x ≠ none) : Lay ms t f0 f (dn ++ [x]) A fr := by
  refine ⟨l.len, l.val, l.nd, fun y hy => ⟨List.mem_append_left _ (l.sub y hy).1, (l.sub y hy).2⟩, fun y hy hn => ?_, l.fr⟩
  rcases List.mem_append.mp hy with hy | hy
  · exact l.rest y hy hn
  · rw [List.mem_singleton.mp hy] at hn ⊢
    rw [l.val x hx, if_neg hn] at h
    exact h
theorem Lay.take (l : Lay ms t f0 f dn A fr) {x : Nat} (hx : x < ms.length) (h : fat f x = none) : Lay ms t f0 (f.set x (some t)) (dn ++ [x]) (A ++ [x]) (fr ++ rw' ms x) := by
  have hn : x ∉ A := fun c => by rw [l.val x hx, if_pos c] at h; cases h
  have h0 : fat f0 x = none := by rw [l.val x hx, if_neg hn] at h; exact h
  refine ⟨by rw [List.length_set]; exact l.len, fun y hy => ?_, ?_, fun y hy => ?_, fun y hy hna => ?_, ?_⟩
  · have e : fat (f.set x (some t)) y = if x = y then some t else fat f y := by
      unfold fat
      rw [getD_eq (by rw [List.length_set, l.len]; exact hy), List.getElem_set]
      split
      · rfl
      · rw [getD_eq (by rw [l.len]; exact hy)]
    rw [e, l.val y hy]
    by_cases z : x = y
    · rw [if_pos z, if_pos (by rw [z]; simp)]
    · rw [if_neg z]
      by_cases w : y ∈ A
      · rw [if_pos w, if_pos (List.mem_append_left _ w)]
      · rw [if_neg w, if_neg fun c => by
          rcases List.mem_append.mp c with c | c
          · exact w c
          · exact z (List.mem_singleton.mp c).symm]
  · rw [List.nodup_append]
    exact ⟨l.nd, by simp, fun a ha b hb e => hn (by rw [List.mem_singleton] at hb; rw [← hb, ← e]; exact ha)⟩
  · rcases List.mem_append.mp hy with hy | hy
    · exact ⟨List.mem_append_left _ (l.sub y hy).1, (l.sub y hy).2⟩
    · rw [List.mem_singleton.mp hy]
      exact ⟨by simp, h0⟩
  · rcases List.mem_append.mp hy with hy | hy
    · exact l.rest y hy fun c => hna (List.mem_append_left _ c)
    · exact absurd (List.mem_append_right _ hy) hna
  · rw [l.fr, List.flatMap_append, List.flatMap_cons, List.flatMap_nil, List.append_nil]
theorem flat_len (ok : GOk ms) : ∀ A : List Nat, (A.flatMap (rw' ms)).length ≤ ms.length * A.length
  | [] => Nat.zero_le _
  | a :: A => by
    have := flat_len ok A
    have h : (rw' ms a).length ≤ ms.length := nd_lt (ok.nd a) (ok.lt a)
    rw [List.flatMap_cons, List.length_append, List.length_cons, Nat.mul_succ]
    omega
theorem Lay.few (gb : GB ms) (hs : s < ms.length) (l : Lay ms t f0 f dn A fr) (h : ∀ x ∈ dn, x < ms.length) : fr.length ≤ 65536 := by
  rw [l.fr]
  have h1 := flat_len gb.toGOk A
  have h2 : A.length ≤ ms.length := nd_lt l.nd fun x hx => h x (l.sub x hx).1
  have h3 := gb.few
  exact Nat.le_trans h1 (Nat.mul_le_mul h3 (Nat.le_trans h2 h3))
theorem Dst.zero (hs : s < ms.length) : Dst ms s 0 (List.replicate ms.length none) [s] := by
  have e : ∀ y, fat (List.replicate ms.length none) y = none := fun y => by
    unfold fat
    rw [List.getD_eq_getElem?_getD, List.getElem?_replicate]
    split <;> rfl
  exact ⟨List.length_replicate, fun y _ d h => (by rw [e] at h; cases h), fun y _ d h => (by omega), fun y hy => List.mem_singleton.mp hy, fun y _ h _ => List.mem_singleton.mpr h⟩
theorem Dst.step (ok : GOk ms) (hs : s < ms.length) (d : Dst ms s t f0 L) (l : Lay ms t f0 f L A fr) : Dst ms s (t + 1) f fr := by
  have all' : ∀ y, y < ms.length → ∀ e, e < t + 1 → Pth ms s e y → fat f y ≠ none := fun y hy e he hp => by
    rw [l.val y hy]
    by_cases w : y ∈ A
    · rw [if_pos w]; intro c; cases c
    · rw [if_neg w]
      by_cases z : e < t
      · exact d.all y hy e z hp
      · have : e = t := by omega
        subst this
        intro c
        exact l.rest y (d.cov y hy hp c) w c
  refine ⟨l.len, fun y hy e he => ?_, all', fun y hy => ?_, fun y hy hp hn => ?_⟩
  · rw [l.val y hy] at he
    by_cases w : y ∈ A
    · rw [if_pos w] at he
      cases he
      obtain ⟨w1, w2⟩ := l.sub y w
      refine ⟨by omega, d.lay y w1, fun d' hp => ?_⟩
      by_cases z : d' < t
      · exact absurd w2 (d.all y hy d' z hp)
      · omega
    · rw [if_neg w] at he
      obtain ⟨a, b⟩ := d.least y hy e he
      exact ⟨by omega, b⟩
  · rw [l.fr] at hy
    obtain ⟨x, hx, hy⟩ := List.mem_flatMap.mp hy
    exact ⟨x, d.lay x (l.sub x hx).1, hy⟩
  · obtain ⟨x, hx, hxy⟩ := hp
    have xl := pth_lt ok hs t x hx
    cases z : fat f0 x with
    | none =>
      have xL := d.cov x xl hx z
      have xA : x ∈ A := by
        by_cases w : x ∈ A
        · exact w
        · exact absurd z (l.rest x xL w)
      rw [l.fr]
      exact List.mem_flatMap.mpr ⟨x, xA, hxy⟩
    | some e =>
      obtain ⟨a, b, _⟩ := d.least x xl e z
      exact absurd hn (all' y hy (e + 1) (by omega) ⟨x, b, hxy⟩)
end
end Gx

--W6
/-! Gx, data side 81: values of any kind, empty dicts among them (k02). -/
namespace Gx
open PySem L2
local macro_rules | `(tactic| simp_arith [$xs,*]) => `(tactic| try simp only [eVar, eC, eBin, eUn, tBl, tAnd', tOr', tNot', eAnd, eOr, eNot, eIf, aNil, aCons, eTup, eLst, eLstM, eCall, eCallK, pick, sNext, sSeq, sBreak, sCont, sDrop, sRet, sRetN, sIf, sNever, gNm, gsNil, gsCons, gTupl, gSubs, sAsg, sPar, sPar3, sFor, iSeq, seqG_tup, seqG_lst, seqG_scr, iRange1, iRange2, iEnumG, iZipG, td_tup, td_lst, td_scr, eLc, eLcM, tYes', pNone, pSome, eSl, cu_tup, cu_lst, cu_scr, eMt, eMt0, mAppend, isL, rs_non, rs_bl, rs_int, rs_str, rs_tup, rs_lst', rs_scr, itemsOf_tup, itemsOf_lst, itemsOf_scr, oI, oI0, oSub, oFdiv, oMod, oPow, oShl, oShr, oAnd, oOr, oXor, oLt, oLe, oGt, oGe, oNeg, oIsN, oNotN, Gx.isNon, oAdd, oAdd', oMul, oMul', oMulM, oEq, oNe, oEqS, oNeS, oIn, oNin, eChain, oIx, oSet, cLen, cList, cListM, cTuple, cSum, cAll, cAny, cInt, cAbs, cMax2, cMin2, cDivmod, cGcd, cIsi, cRepr, lstInts, lstBls, startD, wipeD, List.map_cons, List.map_nil, List.length_cons, List.length_nil, List.cons_append, List.nil_append, List.replicate_succ, List.replicate_zero, List.set_cons_succ, List.set_cons_zero, List.getElem?_cons_succ, List.getElem?_cons_zero, List.filterMap_cons_some, List.filterMap_nil, Nat.reduceAdd, Nat.reduceSub, Nat.sub_self, Nat.reduceLT, Nat.reduceMul, Nat.zero_add, Nat.add_zero, if_true, if_false, and_true, true_and, and_false, false_and, or_true, true_or, or_false, false_or, not_true_eq_false, not_false_eq_true, Bool.not_true, Bool.not_false, Bool.false_eq_true, ite_true, ite_false, reduceIte, reduceCtorEq, eq_self, aStar, eLstRg, eDicT0, eDixT, gSubsT, keysOf, cListT, cSortedP, oSubB, oMulT, iZip2G, eDic0, eDic1, oDix, oDin, oDnin, oDset, iKeysG, cSortedE, cListD, Gx.keyOf, cMaxL, cMinL, cSortedI, mIndex, eSortSet, eLenT, tBi, oIsB, cSumT, eBits, eLenI, eRev, cIsiA, $xs,*])
/-- a dict in the store -/
def IsDc (S : Sto) (d : D) : Prop := ∃ q kvs, d = .ref q ∧ S q = some (.dK kvs)
/-- a value that is told by itself, or a dict -/
def TopA (S : Sto) (d : D) : Prop := isPlainTop d = true ∨ IsDc S d
def isiX (n : String) : D → Bool
  | .ref _ => n == "dict"
  | d => isiD n d
theorem isi_top {S : Sto} {d : D} {n : String} {R : QD} (h : TopA S d) (hn : n ∈ ["int", "bool", "str", "tuple", "list", "dict"]) (hR : R (.bl (isiX n d)) S) : cIsiA [d, .ty n] S R := by
  rcases h with h | ⟨q, kvs, rfl, h⟩
  · refine .inl ?_
    show (isPlainTop (rs S d) = true ∧ _) ∧ R (.bl (isiD n (rs S d))) S
    rw [rs_plain h]
    have e : isiX n d = isiD n d := by cases d <;> first | rfl | (exact nomatch h)
    rw [e] at hR
    exact ⟨⟨h, hn⟩, hR⟩
  · exact .inr ⟨_, kvs, n, rfl, dct_of h, hn, hR⟩
def γ_itA : OL := fun ds S R => ∃ (d : D) (n : Int), ds = [d, .int n] ∧ TopA S d ∧ R (.bl (isTp n d)) S
def body_itA : ST := sRet (eAnd (eCall cIsiA (aCons (eVar 0) (aCons (eC (.ty "tuple")) (aNil)))) (eBin oEq (eCall cLen (aCons (eVar 0) (aNil))) (eVar 1)))
theorem law_itA : Law 2 γ_itA body_itA := by
  intro ds S R ⟨d, n, e, ht, h⟩
  subst e
  have q := fin_of h
  have tn : "tuple" ∈ ["int", "bool", "str", "tuple", "list", "dict"] := by decide
  unfold body_itA
  simp only [sRet, eAnd, eCall, aCons, aNil, eVar, eC, startD, List.map_cons, List.map_nil, List.length_cons, List.length_nil, Nat.zero_add, Nat.reduceAdd, Nat.sub_self, List.replicate_zero, List.cons_append, List.nil_append, List.getElem?_cons_zero, List.getElem?_cons_succ]
  refine isi_top ht tn ?_
  cases d with
  | tup es =>
    simp_arith [show isiX "tuple" (.tup es) = true from rfl, pl_int, eqD_int]
    exact q
  | _ => exact q
def γ_iwA : OL := fun ds S R => ∃ d : D, ds = [d] ∧ TopA S d ∧ R (.bl (isWh d)) S
def body_iwA : ST := sRet (eAnd (eCall cIsiA (aCons (eVar 0) (aCons (eC (.ty "int")) (aNil)))) (eNot (eCall cIsiA (aCons (eVar 0) (aCons (eC (.ty "bool")) (aNil))))))
theorem law_iwA : Law 1 γ_iwA body_iwA := by
  intro ds S R ⟨d, e, ht, h⟩
  subst e
  have q := fin_of h
  have int : "int" ∈ ["int", "bool", "str", "tuple", "list", "dict"] := by decide
  have bn : "bool" ∈ ["int", "bool", "str", "tuple", "list", "dict"] := by decide
  unfold body_iwA
  simp only [sRet, eAnd, eNot, eCall, aCons, aNil, eVar, eC, startD, List.map_cons, List.map_nil, List.length_cons, List.length_nil, Nat.zero_add, Nat.reduceAdd, Nat.sub_self, List.replicate_zero, List.cons_append, List.nil_append, List.getElem?_cons_zero, List.getElem?_cons_succ]
  refine isi_top ht int ?_
  cases d with
  | int i =>
    refine isi_top ht bn ?_
    exact q
  | bl b =>
    refine isi_top ht bn ?_
    exact q
  | _ => exact q
def γ_btA : OL := fun ds S R => ∃ (d : D) (lo hi : Int), ds = [d, .int lo, .int hi] ∧ TopA S d ∧ R (.bl (isBw lo hi d)) S
def body_btA (γ_is_whole : OL) : ST := sRet (eAnd (eCall γ_is_whole (aCons (eVar 0) (aNil))) (eChain oLe oLe (eVar 1) (eVar 0) (eVar 2)))
theorem law_btA : Law 3 γ_btA (body_btA γ_iwA) := by
  intro ds S R ⟨d, lo, hi, e, ht, h⟩
  subst e
  have q := fin_of h
  unfold body_btA γ_iwA
  simp_arith []
  refine ⟨d, rfl, ht, ?_⟩
  cases d with
  | int i =>
    have e1 : isWh (.int i) = true := rfl
    simp_arith [e1]
    have e2 : isBw lo hi (.int i) = (decide (lo ≤ i) && decide (i ≤ hi)) := rfl
    rw [e2] at q
    by_cases a : lo ≤ i
    · have da : decide (lo ≤ i) = true := decide_eq_true a
      rw [da] at q
      simp_arith [da]
      exact q
    · have da : decide (lo ≤ i) = false := decide_eq_false a
      rw [da] at q
      simp_arith [da]
      exact q
  | _ => exact q
def γ_frA : OL := fun ds S R => ∃ d : D, ds = [d] ∧ (TopA S d ∧ ∀ es, d = .tup es → ∀ e ∈ es, TopA S e) ∧ R (.bl (isFr d)) S
theorem isTp2_of {d : D} (hd : ¬ ∃ x y, d = .tup [x, y]) : isTp 2 d = false := by
  cases d with
  | tup es =>
    match es, hd with
    | [], _ => rfl
    | [_], _ => rfl
    | [x, y], hd => exact absurd ⟨x, y, rfl⟩ hd
    | _ :: _ :: _ :: es, _ =>
      simp only [isTp, List.length_cons, decide_eq_false_iff_not]
      omega
  | _ => rfl
theorem isFr_not {d : D} (hd : ¬ ∃ x y, d = .tup [x, y]) : isFr d = false := by
  unfold isFr
  split
  · exact absurd ⟨_, _, rfl⟩ hd
  · rfl
theorem isFr_x {x y : D} (h : isWh x = false ∨ isWh y = false) : isFr (.tup [x, y]) = false := by
  unfold isFr
  split
  · rename_i n m e
    cases e
    rcases h with h | h <;> cases h
  · rfl
theorem law_frA : Law 1 γ_frA (body_is_ratio γ_itA γ_iwA) := by
  intro ds S R ⟨d, e, ⟨ht, he⟩, h⟩
  subst e
  have q := fin_of h
  unfold body_is_ratio
  refine seqK fun k hk => ?_
  unfold γ_itA γ_iwA
  by_cases hd : ∃ x y, d = .tup [x, y]
  · obtain ⟨x, y, rfl⟩ := hd
    have px := he _ rfl x (by simp)
    have py := he _ rfl y (by simp)
    simp_arith []
    refine ⟨_, _, rfl, ht, ?_⟩
    simp_arith [show isTp 2 (.tup [x, y]) = true from rfl, atI_0]
    refine ⟨x, rfl, px, ?_⟩
    cases zx : isWh x with
    | false =>
      rw [isFr_x (.inl zx)] at q
      simp_arith []
      exact q
    | true =>
      simp_arith [atI_1]
      refine ⟨y, rfl, py, ?_⟩
      cases zy : isWh y with
      | false =>
        rw [isFr_x (.inr zy)] at q
        simp_arith []
        exact q
      | true =>
        obtain ⟨n, rfl⟩ : ∃ n, x = .int n := by cases x <;> first | exact ⟨_, rfl⟩ | cases zx
        obtain ⟨m, rfl⟩ : ∃ m, y = .int m := by cases y <;> first | exact ⟨_, rfl⟩ | cases zy
        simp_arith []
        rw [hk]
        have eF : isFr (.tup [.int n, .int m]) = (decide (0 < m) && decide (Nat.gcd n.natAbs m.natAbs = 1)) := rfl
        rw [eF] at q
        simp_arith [atI_0, atI_1, pl_int, eqD_int, natcast_eq_one]
        by_cases a : 0 < m
        · have da : decide (0 < m) = true := decide_eq_true a
          rw [da] at q
          simp_arith [da]
          exact q
        · have da : decide (0 < m) = false := decide_eq_false a
          rw [da] at q
          simp_arith [da]
          exact q
  · rw [isFr_not hd] at q
    simp_arith []
    refine ⟨_, _, rfl, ht, ?_⟩
    simp_arith [isTp2_of hd]
    exact q
/-- of any kind, so deep -/
def AnA (S : Sto) : Nat → D → Prop
  | 0, d => TopA S d
  | n + 1, d => TopA S d ∧ ∀ es, d = .tup es → ∀ e ∈ es, AnA S n e
theorem AnA.top {S : Sto} {n : Nat} {d : D} (h : AnA S n d) : TopA S d := by
  cases n with
  | zero => exact h
  | succ n => exact h.1
def γ_rowA : OL := fun ds S R => ∃ (d : D) (n : Int), ds = [d, .int n] ∧ (AnA S 2 d ∧ n ≤ 1000) ∧ R (.bl (isRowD n d)) S
def body_rowA (γ_is_tuple_of γ_is_ratio : OL) : ST := sRet (eAnd (eCall γ_is_tuple_of (aCons (eVar 0) (aCons (eVar 1) (aNil)))) (eCall cAll (aCons (eLc (iSeq (eVar 0)) (gNm 2) (tYes') (eCall γ_is_ratio (aCons (eVar 2) (aNil))) [2]) (aNil))))
theorem law_rowA : Law 3 γ_rowA (body_rowA γ_itA γ_frA) := by
  intro ds S R ⟨d, n, e, ⟨ha, hn⟩, h⟩
  subst e
  have q := fin_of h
  unfold body_rowA γ_itA γ_frA
  simp_arith []
  refine ⟨d, n, rfl, ha.top, ?_⟩
  cases z : isTp n d with
  | false =>
    have : isRowD n d = false := by
      cases d with
      | tup es =>
        have z : decide ((es.length : Int) = n) = false := z
        rw [isRowD_tup, z, Bool.false_and]
      | _ => rfl
    rw [this] at q
    simp_arith []
    exact q
  | true =>
    cases d with
    | tup es =>
      have z : decide ((es.length : Int) = n) = true := z
      have hl := of_decide_eq_true z
      rw [isRowD_tup, z, Bool.true_and] at q
      simp_arith []
      refine cmp_map (fun x => .bl (isFr x)) es [] (fun x hx Q hQ => ?_) trivial (sz1000 (by rw [List.length_nil]; omega)) ?_
      · have hx := ha.2 es rfl x hx
        simp_arith [wipeD]
        exact ⟨x, rfl, ⟨hx.1, fun es' e' y hy => hx.2 es' e' y hy⟩, hQ⟩
      · simp_arith [lstBls_map, List.all_map, Function.id_comp]
        exact q
    | _ => cases z
end Gx

--W5
/-! Gx, data side 82: nets and states among values of any kind (k02). -/
namespace Gx
open PySem L2
local macro_rules | `(tactic| simp_arith [$xs,*]) => `(tactic| try simp only [eVar, eC, eBin, eUn, tBl, tAnd', tOr', tNot', eAnd, eOr, eNot, eIf, aNil, aCons, eTup, eLst, eLstM, eCall, eCallK, pick, sNext, sSeq, sBreak, sCont, sDrop, sRet, sRetN, sIf, sNever, gNm, gsNil, gsCons, gTupl, gSubs, sAsg, sPar, sPar3, sFor, iSeq, seqG_tup, seqG_lst, seqG_scr, iRange1, iRange2, iEnumG, iZipG, td_tup, td_lst, td_scr, eLc, eLcM, tYes', pNone, pSome, eSl, cu_tup, cu_lst, cu_scr, eMt, eMt0, mAppend, isL, rs_non, rs_bl, rs_int, rs_str, rs_tup, rs_lst', rs_scr, itemsOf_tup, itemsOf_lst, itemsOf_scr, oI, oI0, oSub, oFdiv, oMod, oPow, oShl, oShr, oAnd, oOr, oXor, oLt, oLe, oGt, oGe, oNeg, oIsN, oNotN, Gx.isNon, oAdd, oAdd', oMul, oMul', oMulM, oEq, oNe, oEqS, oNeS, oIn, oNin, eChain, oIx, oSet, cLen, cList, cListM, cTuple, cSum, cAll, cAny, cInt, cAbs, cMax2, cMin2, cDivmod, cGcd, cIsi, cRepr, lstInts, lstBls, startD, wipeD, List.map_cons, List.map_nil, List.length_cons, List.length_nil, List.cons_append, List.nil_append, List.replicate_succ, List.replicate_zero, List.set_cons_succ, List.set_cons_zero, List.getElem?_cons_succ, List.getElem?_cons_zero, List.filterMap_cons_some, List.filterMap_nil, Nat.reduceAdd, Nat.reduceSub, Nat.sub_self, Nat.reduceLT, Nat.reduceMul, Nat.zero_add, Nat.add_zero, if_true, if_false, and_true, true_and, and_false, false_and, or_true, true_or, or_false, false_or, not_true_eq_false, not_false_eq_true, Bool.not_true, Bool.not_false, Bool.false_eq_true, ite_true, ite_false, reduceIte, reduceCtorEq, eq_self, aStar, eLstRg, eDicT0, eDixT, gSubsT, keysOf, cListT, cSortedP, oSubB, oMulT, iZip2G, eDic0, eDic1, oDix, oDin, oDnin, oDset, iKeysG, cSortedE, cListD, Gx.keyOf, cMaxL, cMinL, cSortedI, mIndex, eSortSet, eLenT, tBi, oIsB, cSumT, eBits, eLenI, $xs,*])
--GX
theorem AnA.sub {S : Sto} {n : Nat} {es : List D} (h : AnA S (n + 1) (.tup es)) : ∀ e ∈ es, AnA S n e := h.2 es rfl
theorem AnA.down {S : Sto} : ∀ {n : Nat} {d : D}, AnA S (n + 1) d → AnA S n d
  | 0, _, h => h.1
  | _ + 1, _, h => ⟨h.1, fun es e x hx => (h.2 es e x hx).down⟩
theorem tup_in : "tuple" ∈ ["int", "bool", "str", "tuple", "list", "dict"] := by decide
def γ_netA : OL := fun ds S R => ∃ d : D, ds = [d] ∧ AnA S 4 d ∧ R (.bl (isNetD d)) S
def body_netA (γ_is_tuple_of γ_is_row : OL) (d_MOST_CELLS d_ZERO : D) : ST := sSeq (sIf (tOr' (tNot' (tBl (eCall γ_is_tuple_of (aCons (eVar 0) (aCons (eC (.int 2)) (aNil)))))) (tOr' (tNot' (tBl (eCall cIsiA (aCons (eBin oIx (eVar 0) (eC (.int 0))) (aCons (eC (.ty "tuple")) (aNil)))))) (tNot' (tBl (eChain oLe oLe (eC (.int 1)) (eCall cLen (aCons (eBin oIx (eVar 0) (eC (.int 0))) (aNil))) (eC d_MOST_CELLS)))))) (sRet (eC (.bl false))) (sNext))
  (sSeq (sAsg (eCall cLen (aCons (eBin oIx (eVar 0) (eC (.int 0))) (aNil))) (gNm 1))
  (sSeq (sIf (tOr' (tNot' (tBl (eCall cAll (aCons (eLc (iSeq (eBin oIx (eVar 0) (eC (.int 0)))) (gNm 3) (tYes') (eCall γ_is_row (aCons (eVar 3) (aCons (eVar 1) (aNil)))) [3]) (aNil))))) (tNot' (tBl (eCall γ_is_row (aCons (eBin oIx (eVar 0) (eC (.int 1))) (aCons (eVar 1) (aNil))))))) (sRet (eC (.bl false))) (sNext))
  (sRet (eCall cAll (aCons (eLc (iRange1 (aCons (eVar 1) (aNil))) (gNm 2) (tYes') (eBin oEq (eBin oIx (eBin oIx (eBin oIx (eVar 0) (eC (.int 0))) (eVar 2)) (eVar 2)) (eC d_ZERO)) [2]) (aNil))))))

theorem isNet_not {d : D} (z : ¬ ∃ rows m, d = .tup [.tup rows, m]) : isNetD d = false := by
  unfold isNetD
  split
  · exact absurd ⟨_, _, rfl⟩ z
  · rfl
theorem two_of {d : D} (e2 : isTp 2 d = true) : ∃ x y, d = .tup [x, y] := by
  cases d with
  | tup es =>
    match es, e2 with
    | [x, y], _ => exact ⟨x, y, rfl⟩
    | [], e2 => exact nomatch e2
    | [_], e2 => exact nomatch e2
    | _ :: _ :: _ :: es, e2 => simp only [isTp, decide_eq_true_eq, List.length_cons] at e2; omega
  | _ => exact nomatch e2
theorem isiX_not {x : D} (z : ¬ ∃ rows, x = .tup rows) : isiX "tuple" x = false := by
  cases x with
  | tup rows => exact absurd ⟨_, rfl⟩ z
  | _ => rfl
theorem law_netA : Law 4 γ_netA (body_netA γ_itA γ_rowA (.int 8) (.tup [.int 0, .int 1])) := by
  intro ds S R ⟨d, e, ha, h2⟩
  subst e
  have q := fin_of h2
  unfold body_netA γ_itA γ_rowA
  simp_arith []
  refine ⟨d, _, rfl, ha.top, ?_⟩
  cases e2 : isTp 2 d with
  | false =>
    have z : ¬ ∃ rows m, d = .tup [.tup rows, m] := by
      rintro ⟨rows, m, rfl⟩
      exact nomatch e2
    rw [isNet_not z] at q
    simp_arith []
    exact q
  | true =>
    obtain ⟨x, m, rfl⟩ := two_of e2
    have px := ha.sub x (by simp)
    have pm := (ha.sub m (by simp)).down
    simp_arith [atI_0]
    refine isi_top px.top tup_in ?_
    by_cases zx : ∃ rows, x = .tup rows
    · obtain ⟨rows, rfl⟩ := zx
      rw [isNetD_tup] at q
      simp_arith [show isiX "tuple" (.tup rows) = true from rfl, atI_0]
      by_cases a : (1 : Int) ≤ rows.length
      · by_cases b : (rows.length : Int) ≤ 8
        · simp only [a, b, decide_true, Bool.true_and] at q
          simp_arith [a, b, decide_true, atI_0]
          refine cmp_map (fun x => .bl (isRowD rows.length x)) rows [] (fun x hx Q hq => ?_) trivial (sz1000 (by rw [List.length_nil]; omega)) ?_
          · simp_arith [wipeD]
            exact ⟨x, _, rfl, ⟨px.sub x hx, by omega⟩, hq⟩
          · simp_arith [lstBls_map, List.all_map, Function.id_comp]
            by_cases c : rows.all (isRowD rows.length) = true
            · simp only [c, Bool.true_and] at q
              simp_arith [c, atI_1]
              refine ⟨m, _, rfl, ⟨pm, by omega⟩, ?_⟩
              by_cases e : isRowD rows.length m = true
              · simp only [e, Bool.true_and] at q
                simp_arith [e]
                refine ⟨⟨by omega, by omega⟩, ?_⟩
                obtain ⟨ws, rfl, hw⟩ := rows_of c
                rw [List.length_map] at *
                rw [Int.toNat_natCast]
                refine rng_map (fun i => .bl (eqD (cellD (ws.map encRow) i) (encR 0))) _ (fun i hi Q hq => ?_) trivial (sz1000 (by omega)) ?_
                · have hrow := hw (ws.getD i []) (by rw [List.getD_eq_getElem?_getD, List.getElem?_eq_getElem hi]; exact List.getElem_mem hi)
                  have g1 : L2.atI (ws.map encRow) (i : Int) = some (encRow (ws.getD i [])) := atI_mapD [] hi
                  have g2 : L2.atI ((ws.getD i []).map encR) (i : Int) = some (encR ((ws.getD i []).getD i 0)) := atI_mapD 0 (by omega)
                  have hc := cellD_enc (ws := ws) (n := ws.length) (i := i) rfl (fun r hr => by have := hw r hr; omega) hi
                  rw [hc] at hq
                  simp_arith [wipeD, atI_0, g1, encRow, g2, encR]
                  exact ⟨⟨pl_mono (pl_encR _) (by decide), rfl⟩, hq⟩
                · simp_arith [lstBls_map, List.all_map, Function.id_comp]
                  exact q
              · have e : isRowD rows.length m = false := by simpa using e
                simp only [e, Bool.false_and] at q
                simp_arith [e]
                exact q
            · have c : rows.all (isRowD rows.length) = false := by simpa using c
              simp only [c, Bool.false_and] at q
              simp_arith [c]
              exact q
        · simp only [b, decide_false, Bool.false_and, Bool.and_false] at q
          simp_arith [a, b, decide_true, decide_false, atI_0]
          exact q
      · simp only [a, decide_false, Bool.false_and] at q
        simp_arith [a, decide_false, atI_0]
        exact q
    · have z : ¬ ∃ rows m', D.tup [x, m] = .tup [.tup rows, m'] := by
        rintro ⟨rows, m', e⟩
        exact zx ⟨rows, by injection e with e; injection e⟩
      rw [isNet_not z] at q
      simp_arith [isiX_not zx]
      exact q
def γ_stA : OL := fun ds S R => ∃ (N : Net) (d : D), ds = [encN N, d] ∧ (N.n ≤ 8 ∧ AnA S 1 d) ∧ R (.bl (isStD N.n d)) S
theorem isSt_tp {n : Nat} {d : D} (z : isTp (n : Nat) d = false) : isStD n d = false := by
  cases d with
  | tup es =>
    have z : decide ((es.length : Int) = n) = false := z
    rw [isStD_tup, z, Bool.false_and]
  | _ => rfl
theorem law_stA : Law 3 γ_stA (body_is_state_by γ_itA γ_many_cells γ_btA) := by
  intro ds S R ⟨N, d, e, ⟨h8, h1⟩, h2⟩
  subst e
  have q := fin_of h2
  unfold body_is_state_by γ_itA γ_many_cells γ_btA
  simp_arith []
  refine ⟨N, rfl, d, _, rfl, h1.top, ?_⟩
  cases z : isTp (N.n : Nat) d with
  | true =>
    cases d with
    | tup es =>
      have hes : (es.length : Int) = (N.n : Nat) := of_decide_eq_true z
      rw [isStD_tup, decide_eq_true hes, Bool.true_and] at q
      simp_arith []
      refine cmp_map (fun x => .bl (isBw 0 1 x)) es [] (fun x hx Q hq => ?_) trivial (sz1000 (by rw [List.length_nil]; omega)) ?_
      · simp_arith [wipeD]
        exact ⟨x, _, _, rfl, (h1.sub x hx).top, hq⟩
      · simp_arith [lstBls_map, List.all_map, Function.id_comp]
        exact q
    | _ => exact nomatch z
  | false =>
    rw [isSt_tp z] at q
    simp_arith []
    exact q
/-! ### the law's own looks -/
def γ_lstA : OL := fun ds S R => ∃ (d : D) (n : Nat), ds = [d, .int n] ∧ (n ≤ 1000 ∧ AnA S 1 d) ∧ R (.bl (isStD n d)) S
def body_lstA (γ__law_is_tuple γ__law_is_whole : OL) : ST := sRet (eAnd (eCall γ__law_is_tuple (aCons (eVar 0) (aCons (eVar 1) (aNil)))) (eCall cAll (aCons (eLc (iSeq (eVar 0)) (gNm 2) (tYes') (eAnd (eCall γ__law_is_whole (aCons (eVar 2) (aNil))) (eChain oLe oLe (eC (.int 0)) (eVar 2) (eC (.int 1)))) [2]) (aNil))))

theorem law_lstA : Law 3 γ_lstA (body_lstA γ_itA γ_iwA) := by
  intro ds S R ⟨d, n, e, ⟨h8, h1⟩, h2⟩
  subst e
  have q := fin_of h2
  unfold body_lstA γ_itA γ_iwA
  simp_arith []
  refine ⟨d, _, rfl, h1.top, ?_⟩
  cases z : isTp (n : Nat) d with
  | true =>
    cases d with
    | tup es =>
      have hes : (es.length : Int) = (n : Nat) := of_decide_eq_true z
      rw [isStD_tup, decide_eq_true hes, Bool.true_and] at q
      simp_arith []
      refine cmp_map (fun x => .bl (isBw 0 1 x)) es [] (fun x hx Q hq => ?_) trivial (sz1000 (by rw [List.length_nil]; omega)) ?_
      · simp_arith [wipeD]
        refine ⟨x, rfl, (h1.sub x hx).top, ?_⟩
        cases x with
        | int i =>
          have e2 : isBw 0 1 (.int i) = (decide (0 ≤ i) && decide (i ≤ 1)) := rfl
          rw [e2] at hq
          simp_arith [show isWh (.int i) = true from rfl]
          by_cases a : 0 ≤ i
          · have da : decide (0 ≤ i) = true := decide_eq_true a
            rw [da] at hq
            simp_arith [da]
            exact hq
          · have da : decide (0 ≤ i) = false := decide_eq_false a
            rw [da] at hq
            simp_arith [da]
            exact hq
        | _ => exact hq
      · simp_arith [lstBls_map, List.all_map, Function.id_comp]
        exact q
    | _ => exact nomatch z
  | false =>
    rw [isSt_tp z] at q
    simp_arith []
    exact q
end Gx

--W5
/-! Gx, data side 83: the law's own looks at values of any kind (k02). -/
namespace Gx
open PySem L2
local macro_rules | `(tactic| simp_arith [$xs,*]) => `(tactic| try simp only [eVar, eC, eBin, eUn, tBl, tAnd', tOr', tNot', eAnd, eOr, eNot, eIf, aNil, aCons, eTup, eLst, eLstM, eCall, eCallK, pick, sNext, sSeq, sBreak, sCont, sDrop, sRet, sRetN, sIf, sNever, gNm, gsNil, gsCons, gTupl, gSubs, sAsg, sPar, sPar3, sFor, iSeq, seqG_tup, seqG_lst, seqG_scr, iRange1, iRange2, iEnumG, iZipG, td_tup, td_lst, td_scr, eLc, eLcM, tYes', pNone, pSome, eSl, cu_tup, cu_lst, cu_scr, eMt, eMt0, mAppend, isL, rs_non, rs_bl, rs_int, rs_str, rs_tup, rs_lst', rs_scr, itemsOf_tup, itemsOf_lst, itemsOf_scr, oI, oI0, oSub, oFdiv, oMod, oPow, oShl, oShr, oAnd, oOr, oXor, oLt, oLe, oGt, oGe, oNeg, oIsN, oNotN, Gx.isNon, oAdd, oAdd', oMul, oMul', oMulM, oEq, oNe, oEqS, oNeS, oIn, oNin, eChain, oIx, oSet, cLen, cList, cListM, cTuple, cSum, cAll, cAny, cInt, cAbs, cMax2, cMin2, cDivmod, cGcd, cIsi, cRepr, lstInts, lstBls, startD, wipeD, List.map_cons, List.map_nil, List.length_cons, List.length_nil, List.cons_append, List.nil_append, List.replicate_succ, List.replicate_zero, List.set_cons_succ, List.set_cons_zero, List.getElem?_cons_succ, List.getElem?_cons_zero, List.filterMap_cons_some, List.filterMap_nil, Nat.reduceAdd, Nat.reduceSub, Nat.sub_self, Nat.reduceLT, Nat.reduceMul, Nat.zero_add, Nat.add_zero, if_true, if_false, and_true, true_and, and_false, false_and, or_true, true_or, or_false, false_or, not_true_eq_false, not_false_eq_true, Bool.not_true, Bool.not_false, Bool.false_eq_true, ite_true, ite_false, reduceIte, reduceCtorEq, eq_self, aStar, eLstRg, eDicT0, eDixT, gSubsT, keysOf, cListT, cSortedP, oSubB, oMulT, iZip2G, eDic0, eDic1, oDix, oDin, oDnin, oDset, iKeysG, cSortedE, cListD, Gx.keyOf, cMaxL, cMinL, cSortedI, mIndex, eSortSet, eLenT, tBi, oIsB, cSumT, eBits, eLenI, $xs,*])
--GX
/-! ### the law's own looks at fractions -/
def SmI (d : D) : Prop := ∀ i : Int, d = .int i → i.natAbs < 2 ^ 9000
def AnB (S : Sto) : Nat → D → Prop
  | 0, d => TopA S d ∧ SmI d
  | n + 1, d => (TopA S d ∧ SmI d) ∧ ∀ es, d = .tup es → ∀ e ∈ es, AnB S n e
theorem AnB.top {S : Sto} {n : Nat} {d : D} (h : AnB S n d) : TopA S d ∧ SmI d := by
  cases n with
  | zero => exact h
  | succ n => exact h.1
theorem AnB.sub {S : Sto} {n : Nat} {es : List D} (h : AnB S (n + 1) (.tup es)) : ∀ e ∈ es, AnB S n e := h.2 es rfl
theorem AnB.down {S : Sto} : ∀ {n : Nat} {d : D}, AnB S (n + 1) d → AnB S n d
  | 0, _, h => h.1
  | _ + 1, _, h => ⟨h.1, fun es e x hx => (h.2 es e x hx).down⟩
theorem AnB.an {S : Sto} : ∀ {n : Nat} {d : D}, AnB S n d → AnA S n d
  | 0, _, h => h.1
  | _ + 1, _, h => ⟨h.1.1, fun es e x hx => (h.2 es e x hx).an⟩
theorem eqD_part {n m : Int} (hm : 0 < m) : eqD (encR (Rat.divInt n m)) (.tup [.int n, .int m]) = isFr (.tup [.int n, .int m]) := by
  cases z : isFr (.tup [.int n, .int m]) with
  | true =>
    obtain ⟨q, hq⟩ := isFr_of z
    have e : Rat.divInt n m = q := by
      simp only [encR, D.tup.injEq, List.cons.injEq, D.int.injEq, and_true] at hq
      rw [hq.1, hq.2]
      exact Rat.num_divInt_den q
    rw [hq, e, eqD_encR, decide_eq_true rfl]
  | false =>
    cases y : eqD (encR (Rat.divInt n m)) (.tup [.int n, .int m]) with
    | false => rfl
    | true =>
      have := (eqD_cl _ _ rfl rfl).mp y
      rw [← this, isFr_enc] at z
      cases z
def γ_lpA : OL := fun ds S R => ∃ d : D, ds = [d] ∧ AnB S 1 d ∧ R (.bl (isFr d)) S
def body_lpA (γ__law_is_tuple γ__law_is_whole γ__law_lean : OL) : ST := sSeq (sIf (tOr' (tNot' (tBl (eCall γ__law_is_tuple (aCons (eVar 0) (aCons (eC (.int 2)) (aNil)))))) (tOr' (tNot' (tBl (eCall γ__law_is_whole (aCons (eBin oIx (eVar 0) (eC (.int 0))) (aNil))))) (tNot' (tBl (eCall γ__law_is_whole (aCons (eBin oIx (eVar 0) (eC (.int 1))) (aNil))))))) (sRet (eC (.bl false))) (sNext))
  (sRet (eAnd (eBin oGt (eBin oIx (eVar 0) (eC (.int 1))) (eC (.int 0))) (eBin oEq (eCall γ__law_lean (aCons (eBin oIx (eVar 0) (eC (.int 0))) (aCons (eBin oIx (eVar 0) (eC (.int 1))) (aNil)))) (eVar 0))))

theorem law_lpA : Law 1 γ_lpA (body_lpA γ_itA γ_iwA γ_ratio) := by
  intro ds S R ⟨d, e, ha, h⟩
  subst e
  have q := fin_of h
  unfold body_lpA γ_itA γ_iwA γ_ratio
  simp_arith []
  refine ⟨_, _, rfl, ha.top.1, ?_⟩
  cases e2 : isTp 2 d with
  | false =>
    have : isFr d = false := isFr_not fun ⟨x, y, e⟩ => by subst e; exact nomatch e2
    rw [this] at q
    simp_arith []
    exact q
  | true =>
    obtain ⟨x, y, rfl⟩ := two_of e2
    have px := ha.sub x (by simp)
    have py := ha.sub y (by simp)
    simp_arith [atI_0]
    refine ⟨x, rfl, px.1, ?_⟩
    cases zx : isWh x with
    | false =>
      rw [isFr_x (.inl zx)] at q
      simp_arith []
      exact q
    | true =>
      simp_arith [atI_1]
      refine ⟨y, rfl, py.1, ?_⟩
      cases zy : isWh y with
      | false =>
        rw [isFr_x (.inr zy)] at q
        simp_arith []
        exact q
      | true =>
        obtain ⟨n, rfl⟩ : ∃ n, x = .int n := by cases x <;> first | exact ⟨_, rfl⟩ | cases zx
        obtain ⟨m, rfl⟩ : ∃ m, y = .int m := by cases y <;> first | exact ⟨_, rfl⟩ | cases zy
        simp_arith [atI_0, atI_1]
        by_cases a : 0 < m
        · have da : decide (0 < m) = true := decide_eq_true a
          simp_arith [da, atI_0, atI_1]
          refine ⟨⟨by omega, py.2 m rfl⟩, ⟨pl_mono (pl_encR _) (by decide), rfl⟩, ?_⟩
          rw [rs_R, eqD_part a]
          exact q
        · have da : decide (0 < m) = false := decide_eq_false a
          have eF : isFr (.tup [.int n, .int m]) = (decide (0 < m) && decide (Nat.gcd n.natAbs m.natAbs = 1)) := rfl
          rw [eF, da] at q
          simp_arith [da]
          exact q
def γ_lrowA : OL := fun ds S R => ∃ (d : D) (n : Int), ds = [d, .int n] ∧ (AnB S 2 d ∧ n ≤ 1000) ∧ R (.bl (isRowD n d)) S
def body_lrowA (γ__law_is_tuple γ__law_is_part : OL) : ST := sRet (eAnd (eCall γ__law_is_tuple (aCons (eVar 0) (aCons (eVar 1) (aNil)))) (eCall cAll (aCons (eLc (iSeq (eVar 0)) (gNm 2) (tYes') (eCall γ__law_is_part (aCons (eVar 2) (aNil))) [2]) (aNil))))

theorem isRow_tp {n : Int} {d : D} (z : isTp n d = false) : isRowD n d = false := by
  cases d with
  | tup es =>
    have z : decide ((es.length : Int) = n) = false := z
    rw [isRowD_tup, z, Bool.false_and]
  | _ => rfl
theorem law_lrowA : Law 3 γ_lrowA (body_lrowA γ_itA γ_lpA) := by
  intro ds S R ⟨d, n, e, ⟨ha, hn⟩, h⟩
  subst e
  have q := fin_of h
  unfold body_lrowA γ_itA γ_lpA
  simp_arith []
  refine ⟨d, n, rfl, ha.top.1, ?_⟩
  cases z : isTp n d with
  | false =>
    rw [isRow_tp z] at q
    simp_arith []
    exact q
  | true =>
    cases d with
    | tup es =>
      have z : decide ((es.length : Int) = n) = true := z
      have hl := of_decide_eq_true z
      rw [isRowD_tup, z, Bool.true_and] at q
      simp_arith []
      refine cmp_map (fun x => .bl (isFr x)) es [] (fun x hx Q hQ => ?_) trivial (sz1000 (by rw [List.length_nil]; omega)) ?_
      · simp_arith [wipeD]
        exact ⟨x, rfl, ha.sub x hx, hQ⟩
      · simp_arith [lstBls_map, List.all_map, Function.id_comp]
        exact q
    | _ => cases z
def γ_lnetA : OL := fun ds S R => ∃ d : D, ds = [d] ∧ AnB S 4 d ∧ R (.bl (isNetD d)) S
def body_lnetA (γ__law_is_tuple γ__law_is_row : OL) : ST := sSeq (sIf (tOr' (tNot' (tBl (eCall γ__law_is_tuple (aCons (eVar 0) (aCons (eC (.int 2)) (aNil)))))) (tOr' (tNot' (tBl (eCall cIsiA (aCons (eBin oIx (eVar 0) (eC (.int 0))) (aCons (eC (.ty "tuple")) (aNil)))))) (tNot' (tBl (eChain oLe oLe (eC (.int 1)) (eCall cLen (aCons (eBin oIx (eVar 0) (eC (.int 0))) (aNil))) (eC (.int 8))))))) (sRet (eC (.bl false))) (sNext))
  (sSeq (sAsg (eCall cLen (aCons (eBin oIx (eVar 0) (eC (.int 0))) (aNil))) (gNm 1))
  (sSeq (sIf (tOr' (tNot' (tBl (eCall γ__law_is_row (aCons (eBin oIx (eVar 0) (eC (.int 1))) (aCons (eVar 1) (aNil)))))) (tNot' (tBl (eCall cAll (aCons (eLc (iSeq (eBin oIx (eVar 0) (eC (.int 0)))) (gNm 3) (tYes') (eCall γ__law_is_row (aCons (eVar 3) (aCons (eVar 1) (aNil)))) [3]) (aNil)))))) (sRet (eC (.bl false))) (sNext))
  (sRet (eCall cAll (aCons (eLc (iRange1 (aCons (eVar 1) (aNil))) (gNm 2) (tYes') (eBin oEq (eBin oIx (eBin oIx (eBin oIx (eVar 0) (eC (.int 0))) (eVar 2)) (eVar 2)) (eTup (aCons (eC (.int 0)) (aCons (eC (.int 1)) (aNil))))) [2]) (aNil))))))

theorem law_lnetA : Law 4 γ_lnetA (body_lnetA γ_itA γ_lrowA) := by
  intro ds S R ⟨d, e, ha, h2⟩
  subst e
  have q := fin_of h2
  unfold body_lnetA γ_itA γ_lrowA
  simp_arith []
  refine ⟨d, _, rfl, ha.top.1, ?_⟩
  cases e2 : isTp 2 d with
  | false =>
    have z : ¬ ∃ rows m, d = .tup [.tup rows, m] := by
      rintro ⟨rows, m, rfl⟩
      exact nomatch e2
    rw [isNet_not z] at q
    simp_arith []
    exact q
  | true =>
    obtain ⟨x, m, rfl⟩ := two_of e2
    have px := ha.sub x (by simp)
    have pm := (ha.sub m (by simp)).down
    simp_arith [atI_0]
    refine isi_top px.top.1 tup_in ?_
    by_cases zx : ∃ rows, x = .tup rows
    · obtain ⟨rows, rfl⟩ := zx
      rw [isNetD_tup] at q
      simp_arith [show isiX "tuple" (.tup rows) = true from rfl, atI_0]
      by_cases a : (1 : Int) ≤ rows.length
      · by_cases b : (rows.length : Int) ≤ 8
        · simp only [a, b, decide_true, Bool.true_and] at q
          simp_arith [a, b, decide_true, atI_0, atI_1]
          refine ⟨m, _, rfl, ⟨pm, by omega⟩, ?_⟩
          cases e : isRowD rows.length m with
          | false =>
            simp only [e, Bool.false_and, Bool.and_false] at q
            simp_arith [e]
            exact q
          | true =>
            simp only [e, Bool.true_and, Bool.and_true] at q
            simp_arith [e, atI_0]
            refine cmp_map (fun x => .bl (isRowD rows.length x)) rows [] (fun x hx Q hq => ?_) trivial (sz1000 (by rw [List.length_nil]; omega)) ?_
            · simp_arith [wipeD]
              exact ⟨x, _, rfl, ⟨px.sub x hx, by omega⟩, hq⟩
            · simp_arith [lstBls_map, List.all_map, Function.id_comp]
              cases c : rows.all (isRowD rows.length) with
              | false =>
                simp only [c, Bool.false_and] at q
                simp_arith [c]
                exact q
              | true =>
                simp only [c, Bool.true_and] at q
                simp_arith [c]
                refine ⟨⟨by omega, by omega⟩, ?_⟩
                obtain ⟨ws, rfl, hw⟩ := rows_of c
                rw [List.length_map] at *
                rw [Int.toNat_natCast]
                refine rng_map (fun i => .bl (eqD (cellD (ws.map encRow) i) (encR 0))) _ (fun i hi Q hq => ?_) trivial (sz1000 (by omega)) ?_
                · have hrow := hw (ws.getD i []) (by rw [List.getD_eq_getElem?_getD, List.getElem?_eq_getElem hi]; exact List.getElem_mem hi)
                  have g1 : L2.atI (ws.map encRow) (i : Int) = some (encRow (ws.getD i [])) := atI_mapD [] hi
                  have g2 : L2.atI ((ws.getD i []).map encR) (i : Int) = some (encR ((ws.getD i []).getD i 0)) := atI_mapD 0 (by omega)
                  have hc := cellD_enc (ws := ws) (n := ws.length) (i := i) rfl (fun r hr => by have := hw r hr; omega) hi
                  rw [hc] at hq
                  simp_arith [wipeD, atI_0, g1, encRow, g2, encR]
                  exact ⟨by decide, ⟨pl_mono (pl_encR _) (by decide), rfl⟩, hq⟩
                · simp_arith [lstBls_map, List.all_map, Function.id_comp]
                  exact q
        · simp only [b, decide_false, Bool.false_and, Bool.and_false] at q
          simp_arith [a, b, decide_true, decide_false, atI_0]
          exact q
      · simp only [a, decide_false, Bool.false_and] at q
        simp_arith [a, decide_false, atI_0]
        exact q
    · have z : ¬ ∃ rows m', D.tup [x, m] = .tup [.tup rows, m'] := by
        rintro ⟨rows, m', e⟩
        exact zx ⟨rows, by injection e with e; injection e⟩
      rw [isNet_not z] at q
      simp_arith [isiX_not zx]
      exact q
end Gx

--W5
/-! Gx, data side 84: draws of values of any kind (k02). -/
namespace Gx
open PySem L2
local macro_rules | `(tactic| simp_arith [$xs,*]) => `(tactic| try simp only [eVar, eC, eBin, eUn, tBl, tAnd', tOr', tNot', eAnd, eOr, eNot, eIf, aNil, aCons, eTup, eLst, eLstM, eCall, eCallK, pick, sNext, sSeq, sBreak, sCont, sDrop, sRet, sRetN, sIf, sNever, gNm, gsNil, gsCons, gTupl, gSubs, sAsg, sPar, sPar3, sFor, iSeq, seqG_tup, seqG_lst, seqG_scr, iRange1, iRange2, iEnumG, iZipG, td_tup, td_lst, td_scr, eLc, eLcM, tYes', pNone, pSome, eSl, cu_tup, cu_lst, cu_scr, eMt, eMt0, mAppend, isL, rs_non, rs_bl, rs_int, rs_str, rs_tup, rs_lst', rs_scr, itemsOf_tup, itemsOf_lst, itemsOf_scr, oI, oI0, oSub, oFdiv, oMod, oPow, oShl, oShr, oAnd, oOr, oXor, oLt, oLe, oGt, oGe, oNeg, oIsN, oNotN, Gx.isNon, oAdd, oAdd', oMul, oMul', oMulM, oEq, oNe, oEqS, oNeS, oIn, oNin, eChain, oIx, oSet, cLen, cList, cListM, cTuple, cSum, cAll, cAny, cInt, cAbs, cMax2, cMin2, cDivmod, cGcd, cIsi, cRepr, lstInts, lstBls, startD, wipeD, List.map_cons, List.map_nil, List.length_cons, List.length_nil, List.cons_append, List.nil_append, List.replicate_succ, List.replicate_zero, List.set_cons_succ, List.set_cons_zero, List.getElem?_cons_succ, List.getElem?_cons_zero, List.filterMap_cons_some, List.filterMap_nil, Nat.reduceAdd, Nat.reduceSub, Nat.sub_self, Nat.reduceLT, Nat.reduceMul, Nat.zero_add, Nat.add_zero, if_true, if_false, and_true, true_and, and_false, false_and, or_true, true_or, or_false, false_or, not_true_eq_false, not_false_eq_true, Bool.not_true, Bool.not_false, Bool.false_eq_true, ite_true, ite_false, reduceIte, reduceCtorEq, eq_self, aStar, eLstRg, eDicT0, eDixT, gSubsT, keysOf, cListT, cSortedP, oSubB, oMulT, iZip2G, eDic0, eDic1, oDix, oDin, oDnin, oDset, iKeysG, cSortedE, cListD, Gx.keyOf, cMaxL, cMinL, cSortedI, mIndex, eSortSet, eLenT, tBi, oIsB, cSumT, eBits, eLenI, $xs,*])
--GX
/-! ### of any kind at all depths -/
def AN (S : Sto) (d : D) : Prop := ∀ n, AnB S n d
theorem AN.sub {S : Sto} {es : List D} (h : AN S (.tup es)) : ∀ e ∈ es, AN S e := fun e he n => (h (n + 1)).sub e he
theorem AN.tup {S : Sto} {es : List D} (h : ∀ e ∈ es, AN S e) : AN S (.tup es) := fun n => by
  cases n with
  | zero => exact ⟨.inl rfl, fun i e => nomatch e⟩
  | succ n => exact ⟨⟨.inl rfl, fun i e => nomatch e⟩, fun es' e x hx => by cases e; exact h x hx n⟩
theorem AN.leaf {S : Sto} {d : D} (h : TopA S d) (h2 : SmI d) (h3 : ∀ es, d ≠ .tup es) : AN S d := fun n => by
  cases n with
  | zero => exact ⟨h, h2⟩
  | succ n => exact ⟨⟨h, h2⟩, fun es e => absurd e (h3 es)⟩
theorem AN.int {S : Sto} {i : Int} (h : i.natAbs < 2 ^ 9000) : AN S (.int i) := .leaf (.inl rfl) (fun j e => by cases e; exact h) (fun _ e => nomatch e)
theorem AN.bl {S : Sto} {b : Bool} : AN S (.bl b) := .leaf (.inl rfl) (fun _ e => nomatch e) (fun _ e => nomatch e)
theorem AN.lst {S : Sto} {es : List D} : AN S (.lst es) := .leaf (.inl rfl) (fun _ e => nomatch e) (fun _ e => nomatch e)
theorem AN.dc {S : Sto} {q : Addr} {kvs} (h : S q = some (.dK kvs)) : AN S (.ref q) := .leaf (.inr ⟨q, kvs, rfl, h⟩) (fun _ e => nomatch e) (fun _ e => nomatch e)
theorem AN.top {S : Sto} {d : D} (h : AN S d) : TopA S d := (h 0).1
def okd : Nat → D → Bool
  | 0, _ => false
  | n + 1, .tup es => es.all (okd n)
  | _ + 1, .int i => decide (i.natAbs < 2 ^ 200)
  | _ + 1, .ref _ => false
  | _ + 1, .ty _ => false
  | _ + 1, _ => true
theorem small_int {i : Int} (h : i.natAbs < 2 ^ 200) : i.natAbs < 2 ^ 9000 := Nat.lt_of_lt_of_le h (Nat.pow_le_pow_right (by decide) (by decide))
theorem okd_an {S : Sto} : ∀ {n : Nat} {d : D}, okd n d = true → AN S d
  | 0, _, h => nomatch h
  | n + 1, .tup es, h => by
    have h : es.all (okd n) = true := h
    rw [List.all_eq_true] at h
    exact .tup fun e he => okd_an (h e he)
  | n + 1, .int i, h => .int (small_int (of_decide_eq_true h))
  | n + 1, .ref _, h => nomatch h
  | n + 1, .ty _, h => nomatch h
  | n + 1, .non, _ => .leaf (.inl rfl) (fun _ e => nomatch e) (fun _ e => nomatch e)
  | n + 1, .bl _, _ => .bl
  | n + 1, .str _, _ => .leaf (.inl rfl) (fun _ e => nomatch e) (fun _ e => nomatch e)
  | n + 1, .lst _, _ => .lst
  | n + 1, .scr _, _ => .leaf (.inl rfl) (fun _ e => nomatch e) (fun _ e => nomatch e)
/-- something was drawn, and dicts may have come -/
structure Drx (p : Addr) (S S' : Sto) : Prop where
  keep : ∀ b o, b ≠ p → S b = some o → S' b = some o
  well : Well p S'
theorem Drw.drx {p : Addr} {S S' : Sto} (h : Drw p S S') : Drx p S S' := ⟨fun b o hb e => by rw [h.but b hb]; exact e, h.well⟩
theorem Drx.refl {p : Addr} {S : Sto} (h : Well p S) : Drx p S S := ⟨fun _ _ _ e => e, h⟩
theorem Drx.trans {p : Addr} {S S1 S2 : Sto} (a : Drx p S S1) (b : Drx p S1 S2) : Drx p S S2 := ⟨fun q o hq e => b.keep q o hq (a.keep q o hq e), b.well⟩
theorem Drx.dc {p : Addr} {S S' : Sto} (a : Drx p S S') (hw : Well p S) {q : Addr} {kvs} (h : S q = some (.dK kvs)) : S' q = some (.dK kvs) := by
  refine a.keep q _ (fun e => ?_) h
  subst e
  obtain ⟨_, _, _, e⟩ := hw
  rw [e] at h
  cases h
theorem TopA.go {p : Addr} {S S' : Sto} {d : D} (h : TopA S d) (hw : Well p S) (a : Drx p S S') : TopA S' d := by
  rcases h with h | ⟨q, kvs, rfl, h⟩
  · exact .inl h
  · exact .inr ⟨q, kvs, rfl, a.dc hw h⟩
theorem AnB.go {p : Addr} {S S' : Sto} (hw : Well p S) (a : Drx p S S') : ∀ {n : Nat} {d : D}, AnB S n d → AnB S' n d
  | 0, _, h => ⟨h.1.go hw a, h.2⟩
  | _ + 1, _, h => ⟨⟨h.1.1.go hw a, h.1.2⟩, fun es e x hx => (h.2 es e x hx).go hw a⟩
theorem AN.go {p : Addr} {S S' : Sto} {d : D} (h : AN S d) (hw : Well p S) (a : Drx p S S') : AN S' d := fun n => (h n).go hw a
theorem well_up {p q : Addr} {S : Sto} {o : SO} (h : Well p S) (hq : S q = none) : Well p (up S q o) := by
  obtain ⟨a, b, c, e⟩ := h
  refine ⟨a, b, c, ?_⟩
  rw [up_ne (fun h => by subst h; rw [hq] at e; cases e)]
  exact e
theorem drx_up {p q : Addr} {S : Sto} {o : SO} (h : Well p S) (hq : S q = none) : Drx p S (up S q o) :=
  ⟨fun b o' _ e => by rw [up_ne (fun h => by subst h; rw [hq] at e; cases e)]; exact e, well_up h hq⟩
/-! ### a value of any kind -/
def γ_oddA : OL := fun ds S R => ∃ p : Addr, ds = [.ref p] ∧ Well p S ∧ ∀ d S', AN S' d → Drx p S S' → R d S'
def body_oddA (γ__law_one : OL) : ST := sSeq (sAsg (eTup (aCons (eC .non) (aCons (eC (.bl true)) (aCons (eC (.bl false)) (aCons (eC (.int 0)) (aCons (eC (.int 1)) (aCons (eC (.int 2)) (aCons (eUn oNeg (eC (.int 1))) (aCons (eC (.int 7)) (aCons (eC (.int 256)) (aCons (eC (.str "")) (aCons (eC (.str "a")) (aCons (eC (.str "pairs")) (aCons (eTup (aNil)) (aCons (eTup (aCons (eC (.int 0)) (aNil))) (aCons (eTup (aCons (eC (.int 1)) (aNil))) (aCons (eTup (aCons (eC (.int 0)) (aCons (eC (.int 1)) (aNil)))) (aCons (eTup (aCons (eC (.int 1)) (aCons (eC (.int 0)) (aNil)))) (aCons (eTup (aCons (eC (.int 0)) (aCons (eC (.int 0)) (aNil)))) (aCons (eTup (aCons (eC (.int 1)) (aCons (eC (.int 2)) (aNil)))) (aNil))))))))))))))))))))) (gNm 1))
  (sSeq (sAsg (eTup (aCons (eTup (aCons (eC (.int 1)) (aCons (eC (.int 1)) (aNil)))) (aCons (eTup (aCons (eC (.int 3)) (aCons (eUn oNeg (eC (.int 2))) (aNil)))) (aCons (eTup (aCons (eC (.bl true)) (aCons (eC (.int 1)) (aNil)))) (aCons (eTup (aCons (eC (.int 0)) (aCons (eC (.bl true)) (aNil)))) (aCons (eTup (aCons (eTup (aCons (eC (.int 0)) (aCons (eC (.int 1)) (aNil)))) (aNil))) (aCons (eTup (aCons (eTup (aCons (eC (.int 1)) (aCons (eC (.int 1)) (aNil)))) (aNil))) (aCons (eTup (aCons (eTup (aCons (eC (.int 0)) (aCons (eC (.int 1)) (aNil)))) (aCons (eTup (aCons (eC (.int 1)) (aCons (eC (.int 2)) (aNil)))) (aNil)))) (aCons (eTup (aCons (eTup (aCons (eTup (aCons (eC (.int 0)) (aCons (eC (.int 1)) (aNil)))) (aNil))) (aNil))) (aCons (eTup (aCons (eC (.int 2)) (aCons (eC (.int 4)) (aNil)))) (aNil))))))))))) (gNm 2))
  (sSeq (sAsg (eBin oAdd (eVar 2) (eTup (aCons (eTup (aCons (eTup (aCons (eC (.int 0)) (aCons (eC (.int 1)) (aNil)))) (aCons (eTup (aCons (eC (.int 0)) (aCons (eC (.int 1)) (aNil)))) (aNil)))) (aCons (eLst (aNil)) (aCons (eLst (aCons (eC (.int 1)) (aNil))) (aCons (eLst (aCons (eTup (aCons (eC (.int 0)) (aCons (eC (.int 1)) (aNil)))) (aNil))) (aCons (eDic0) (aCons (eTup (aCons (eC .non) (aNil))) (aCons (eTup (aCons (eTup (aNil)) (aNil))) (aCons (eBin oPow (eC (.int 10)) (eC (.int 20))) (aCons (eTup (aCons (eC (.int 0)) (aCons (eC (.int 1)) (aCons (eC (.int 2)) (aNil))))) (aCons (eTup (aCons (eC (.int 0)) (aCons (eC (.int 1)) (aCons (eC (.int 1)) (aNil))))) (aCons (eTup (aCons (eC (.int 1)) (aCons (eC (.int 0)) (aCons (eC (.int 1)) (aNil))))) (aNil)))))))))))))) (gNm 2))
  (sRet (eCall γ__law_one (aCons (eVar 0) (aCons (eBin oAdd (eVar 1) (eVar 2)) (aNil)))))))

theorem law_oddA : Law 3 γ_oddA (body_oddA γ_one) := by
  intro ds S R ⟨p, e, hw, h⟩
  subst e
  unfold body_oddA γ_one
  simp_arith []
  have k0 : ∀ n, n ≤ 39 → n ≤ sizeLine := fun n hn => sz1000 (by omega)
  simp only [k0 _ (show (2 : Nat) ≤ 39 by decide), k0 _ (show (19 : Nat) ≤ 39 by decide), k0 _ (show (9 : Nat) ≤ 39 by decide), k0 _ (show (0 : Nat) ≤ 39 by decide), k0 _ (show (1 : Nat) ≤ 39 by decide), k0 _ (show (3 : Nat) ≤ 39 by decide), k0 _ (show (11 : Nat) ≤ 39 by decide), k0 _ (show (20 : Nat) ≤ 39 by decide), k0 _ (show (39 : Nat) ≤ 39 by decide), true_and]
  intro q hq
  have cp : PowOk 10 20 := .of 4 (by decide) (by decide) (by decide)
  refine ⟨cp, p, _, _, rfl, rfl, well_up hw hq, ⟨by simp only [List.length_cons, List.length_nil]; omega, by simp only [List.length_cons, List.length_nil]; omega⟩, fun e S' he dr => ?_⟩
  refine fin_of (h e S' ?_ ((drx_up hw hq).trans dr.drx))
  have hq' : S' q = some (.dK []) := dr.drx.dc (well_up hw hq) up_same
  simp only [List.mem_cons, List.not_mem_nil, or_false] at he
  have k1 : ∀ d, okd 6 d = true → AN S' d := fun d h => okd_an h
  rcases he with rfl | rfl | rfl | rfl | rfl | rfl | rfl | rfl | rfl | rfl | rfl | rfl | rfl | rfl | rfl | rfl | rfl | rfl | rfl | rfl | rfl | rfl | rfl | rfl | rfl | rfl | rfl | rfl | rfl | rfl | rfl | rfl | rfl | rfl | rfl | rfl | rfl | rfl | rfl
  all_goals first
    | exact AN.dc hq'
    | exact k1 _ (by decide +kernel)
    | skip
end Gx

--W5
/-! Gx, data side 85: bends of values of any kind (k02). -/
namespace Gx
open PySem L2
local macro_rules | `(tactic| simp_arith [$xs,*]) => `(tactic| try simp only [eVar, eC, eBin, eUn, tBl, tAnd', tOr', tNot', eAnd, eOr, eNot, eIf, aNil, aCons, eTup, eLst, eLstM, eCall, eCallK, pick, sNext, sSeq, sBreak, sCont, sDrop, sRet, sRetN, sIf, sNever, gNm, gsNil, gsCons, gTupl, gSubs, sAsg, sPar, sPar3, sFor, iSeq, seqG_tup, seqG_lst, seqG_scr, iRange1, iRange2, iEnumG, iZipG, td_tup, td_lst, td_scr, eLc, eLcM, tYes', pNone, pSome, eSl, cu_tup, cu_lst, cu_scr, eMt, eMt0, mAppend, isL, rs_non, rs_bl, rs_int, rs_str, rs_tup, rs_lst', rs_scr, itemsOf_tup, itemsOf_lst, itemsOf_scr, oI, oI0, oSub, oFdiv, oMod, oPow, oShl, oShr, oAnd, oOr, oXor, oLt, oLe, oGt, oGe, oNeg, oIsN, oNotN, Gx.isNon, oAdd, oAdd', oMul, oMul', oMulM, oEq, oNe, oEqS, oNeS, oIn, oNin, eChain, oIx, oSet, cLen, cList, cListM, cTuple, cSum, cAll, cAny, cInt, cAbs, cMax2, cMin2, cDivmod, cGcd, cIsi, cRepr, lstInts, lstBls, startD, wipeD, List.map_cons, List.map_nil, List.length_cons, List.length_nil, List.cons_append, List.nil_append, List.replicate_succ, List.replicate_zero, List.set_cons_succ, List.set_cons_zero, List.getElem?_cons_succ, List.getElem?_cons_zero, List.filterMap_cons_some, List.filterMap_nil, Nat.reduceAdd, Nat.reduceSub, Nat.sub_self, Nat.reduceLT, Nat.reduceMul, Nat.zero_add, Nat.add_zero, if_true, if_false, and_true, true_and, and_false, false_and, or_true, true_or, or_false, false_or, not_true_eq_false, not_false_eq_true, Bool.not_true, Bool.not_false, Bool.false_eq_true, ite_true, ite_false, reduceIte, reduceCtorEq, eq_self, aStar, eLstRg, eDicT0, eDixT, gSubsT, keysOf, cListT, cSortedP, oSubB, oMulT, iZip2G, eDic0, eDic1, oDix, oDin, oDnin, oDset, iKeysG, cSortedE, cListD, Gx.keyOf, cMaxL, cMinL, cSortedI, mIndex, eSortSet, eLenT, tBi, oIsB, cSumT, eBits, eLenI, $xs,*])
--GX
/-! ### plain things, not wide -/
def okw : Nat → D → Bool
  | 0, _ => false
  | n + 1, .tup es => decide (es.length ≤ 50) && es.all (okw n)
  | _ + 1, .int i => decide (i.natAbs < 2 ^ 200)
  | _ + 1, .bl _ => true
  | _ + 1, .non => true
  | _ + 1, _ => false
theorem okw_tup {n : Nat} {es : List D} : okw (n + 1) (.tup es) = (decide (es.length ≤ 50) && es.all (okw n)) := rfl
theorem okw_of {n : Nat} {es : List D} (h : es.length ≤ 50) (h2 : ∀ e ∈ es, okw n e = true) : okw (n + 1) (.tup es) = true := by
  rw [okw_tup, decide_eq_true h, Bool.true_and, List.all_eq_true]
  exact h2
theorem okw_len {n : Nat} {es : List D} (h : okw n (.tup es) = true) : es.length ≤ 50 := by
  cases n with
  | zero => cases h
  | succ n => rw [okw_tup, Bool.and_eq_true, decide_eq_true_eq] at h; exact h.1
theorem okw_in {n : Nat} {es : List D} (h : okw (n + 1) (.tup es) = true) : ∀ e ∈ es, okw n e = true := by
  rw [okw_tup, Bool.and_eq_true, List.all_eq_true] at h
  exact h.2
theorem okw_up : ∀ {n : Nat} {d : D}, okw n d = true → okw (n + 1) d = true
  | 0, _, h => nomatch h
  | n + 1, .tup es, h => okw_of (okw_len h) fun e he => okw_up (okw_in h e he)
  | n + 1, .int i, h => h
  | n + 1, .bl _, _ => rfl
  | n + 1, .non, _ => rfl
  | n + 1, .ref _, h => nomatch h
  | n + 1, .ty _, h => nomatch h
  | n + 1, .str _, h => nomatch h
  | n + 1, .lst _, h => nomatch h
  | n + 1, .scr _, h => nomatch h
theorem okw_sub {n : Nat} {es : List D} (h : okw n (.tup es) = true) : ∀ e ∈ es, okw n e = true := by
  cases n with
  | zero => cases h
  | succ n => exact fun e he => okw_up (okw_in h e he)
theorem okw_pl : ∀ {n : Nat} {d : D}, okw n d = true → pl n d = true
  | 0, _, h => nomatch h
  | n + 1, .tup es, h => pl_of_tup fun e he => okw_pl (okw_in h e he)
  | n + 1, .int i, h => rfl
  | n + 1, .bl _, _ => rfl
  | n + 1, .non, _ => rfl
  | n + 1, .ref _, h => nomatch h
  | n + 1, .ty _, h => nomatch h
  | n + 1, .str _, h => nomatch h
  | n + 1, .lst _, h => nomatch h
  | n + 1, .scr _, h => nomatch h
theorem okw_okd : ∀ {n : Nat} {d : D}, okw n d = true → okd n d = true
  | 0, _, h => nomatch h
  | n + 1, .tup es, h => by
    show es.all (okd n) = true
    rw [List.all_eq_true]
    exact fun e he => okw_okd (okw_in h e he)
  | n + 1, .int i, h => h
  | n + 1, .bl _, _ => rfl
  | n + 1, .non, _ => rfl
  | n + 1, .ref _, h => nomatch h
  | n + 1, .ty _, h => nomatch h
  | n + 1, .str _, h => nomatch h
  | n + 1, .lst _, h => nomatch h
  | n + 1, .scr _, h => nomatch h
theorem okw_an {S : Sto} {n : Nat} {d : D} (h : okw n d = true) : AN S d := okd_an (okw_okd h)
theorem okw_plain {n : Nat} {d : D} (h : okw n d = true) : isPlainTop d = true := pl_top (okw_pl h)
theorem cut_mem {ds : List D} {lo hi : Option Int} {x : D} (h : x ∈ cutD ds lo hi) : x ∈ ds := List.mem_of_mem_drop (List.mem_of_mem_take h)
theorem cut_len {ds : List D} {lo hi : Option Int} : (cutD ds lo hi).length ≤ ds.length := by
  unfold cutD
  rw [List.length_take, List.length_drop]
  omega
theorem eqD_emp (es : List D) (h : okw 20 (.tup es) = true) : eqD (.tup es) (.tup []) = es.isEmpty := by
  cases es <;> rfl
/-- one step of the way down -/
def PathOk (l : List D) : Prop := ∀ x ∈ l, ∃ (es : List D) (a : Nat), x = .tup [.tup es, .int a] ∧ okw 20 (.tup es) = true ∧ a < es.length
def bent_dn (γ__law_draw : OL) : ST := sSeq (sIf (tOr' (tNot' (tBl (eCall cIsiA (aCons (eVar 5) (aCons (eC (.ty "tuple")) (aNil)))))) (tBl (eBin oEq (eVar 5) (eTup (aNil))))) (sBreak) (sNext))
  (sSeq (sAsg (eCall γ__law_draw (aCons (eVar 0) (aCons (eCall cLen (aCons (eVar 5) (aNil))) (aNil)))) (gNm 6))
  (sSeq (sDrop (eMt mAppend (eVar 4) (aCons (eTup (aCons (eVar 5) (aCons (eVar 6) (aNil)))) (aNil))))
  (sAsg (eBin oIx (eVar 5) (eVar 6)) (gNm 5))))
theorem bent_walk {p pp : Addr} {S0 : Sto} {x1 x3 x7 : Option D} (hp : pp ≠ p) (h0 : S0 pp = none) (G : EndG) (hG : ∀ x2 here x6 path S, okw 20 here = true → PathOk path → S pp = some (.lst path) → Drx p S0 S → G.nx [some (.ref p), x1, x2, x3, some (.ref pp), some here, x6, x7] S) :
    ∀ (items : List D) here x2 x6 path S, path.length + items.length ≤ 1000 → okw 20 here = true → PathOk path → S pp = some (.lst path) → Drx p S0 S → forG (gNm 2) (bent_dn γ_draw) (fun _ => True) items G [some (.ref p), x1, x2, x3, some (.ref pp), some here, x6, x7] S
  | [], here, x2, x6, path, S, _, ok, po, hS, dr => ⟨trivial, hG _ _ _ _ _ ok po hS dr⟩
  | it :: items, here, x2, x6, path, S, hl, ok, po, hS, dr => by
    refine ⟨trivial, ?_⟩
    rw [List.length_cons] at hl
    show gNm 2 it _ _ _
    simp only [gNm, List.set_cons_succ, List.set_cons_zero]
    unfold bent_dn γ_draw
    simp_arith []
    refine isi_top (.inl (okw_plain ok)) tup_in ?_
    by_cases z : ∃ es, here = .tup es
    · obtain ⟨es, rfl⟩ := z
      simp_arith [show isiX "tuple" (.tup es) = true from rfl, eqD_emp es ok]
      refine ⟨by decide, ⟨pl_mono (okw_pl ok) (by decide), rfl⟩, ?_⟩
      by_cases e : es.isEmpty = true
      · rw [if_pos e]
        exact hG _ _ _ _ _ ok po hS dr
      · rw [if_neg e]
        have hl0 : 0 < es.length := by
          cases es with
          | nil => exact absurd rfl e
          | cons _ _ => simp
        have hl5 := okw_len ok
        refine ⟨p, _, rfl, dr.well, ⟨by omega, by omega⟩, fun r S' r0 r1 d => ?_⟩
        obtain ⟨a, rfl⟩ := Int.eq_ofNat_of_zero_le r0
        have ha : a < es.length := by omega
        have hS' : S' pp = some (.lst path) := by rw [d.but pp hp]; exact hS
        have e1 : rs S' (.ref pp) = .lst path := rs_ref hS'
        rw [e1, hS']
        refine ⟨trivial, by decide, Nat.lt_of_lt_of_le (show path.length < 1000 by omega) (by decide), ?_⟩
        rw [L2.atI_nat (List.getElem?_eq_getElem ha)]
        refine bent_walk hp h0 G hG items _ _ _ (path ++ [.tup [.tup es, .int (a : Nat)]]) _ (by rw [List.length_append, List.length_singleton]; omega) (okw_sub ok _ (List.getElem_mem ha)) (fun x hx => ?_) up_same ⟨fun b o hb e => ?_, ?_⟩
        · rcases List.mem_append.mp hx with hx | hx
          · exact po x hx
          · rw [List.mem_singleton] at hx
            exact ⟨es, a, hx, ok, ha⟩
        · have : b ≠ pp := fun z => by subst z; rw [h0] at e; cases e
          rw [up_ne this]
          exact d.drx.keep b o hb (dr.keep b o hb e)
        · exact d.well.up hp
    · simp_arith [isiX_not z]
      exact hG _ _ _ _ _ ok po hS dr
def bent_bk : ST := sAsg (eBin oAdd (eBin oAdd (eSl (eVar 7) (pNone) (pSome (eVar 6))) (eTup (aCons (eVar 5) (aNil)))) (eSl (eVar 7) (pSome (eBin oAdd (eVar 6) (eC (.int 1)))) (pNone))) (gNm 5)
theorem bent_back {x0 x1 x2 x3 x4 : Option D} {S : Sto} (G : EndG) (hG : ∀ here x6 x7, AN S here → G.nx [x0, x1, x2, x3, x4, some here, x6, x7] S) :
    ∀ (items : List D) here x6 x7, PathOk items → AN S here → forG (gTupl 2 (gsCons (gNm 7) (gsCons (gNm 6) (gsNil)))) bent_bk (fun _ => True) items G [x0, x1, x2, x3, x4, some here, x6, x7] S
  | [], here, x6, x7, _, an => ⟨trivial, hG _ _ _ an⟩
  | it :: items, here, x6, x7, po, an => by
    refine ⟨trivial, ?_⟩
    obtain ⟨es, a, rfl, ok, ha⟩ := po it List.mem_cons_self
    show gTupl 2 _ (.tup [.tup es, .int a]) _ _ _
    unfold bent_bk
    simp_arith [oCut]
    have h5 := okw_len ok
    have c1 : (cutD es none (some (a : Int))).length ≤ es.length := cut_len
    have c2 : (cutD es (some ((a : Int) + 1)) none).length ≤ es.length := cut_len
    have k0 : ∀ n, n ≤ 1000 → n ≤ sizeLine := fun n hn => sz1000 hn
    refine ⟨by decide, k0 _ (by omega), k0 _ (by rw [List.length_append, List.length_singleton]; omega), ?_⟩
    refine bent_back G hG items _ _ _ (fun x hx => po x (List.mem_cons_of_mem _ hx)) (.tup fun x hx => ?_)
    rcases List.mem_append.mp hx with hx | hx
    · rcases List.mem_append.mp hx with hx | hx
      · exact okw_an (okw_sub ok _ (cut_mem hx))
      · rw [List.mem_singleton] at hx
        subst hx
        exact an
    · exact okw_an (okw_sub ok _ (cut_mem hx))
theorem near_int {i j : Int} (h : i.natAbs < 2 ^ 200) (hj : j.natAbs ≤ i.natAbs + 1) : j.natAbs < 2 ^ 9000 := by
  have h1 : j.natAbs < 2 ^ 201 := by
    rw [Nat.pow_succ]
    generalize (2 : Nat) ^ 200 = M at h ⊢
    omega
  exact Nat.lt_of_lt_of_le h1 (Nat.pow_le_pow_right (by decide) (by decide))
theorem atI_go {ds : List D} {w : Int} {P : D → Prop} (h0 : 0 ≤ w) (h1 : w < ds.length) (h : ∀ x ∈ ds, P x) : match L2.atI ds w with
    | some x => P x
    | none => False := by
  obtain ⟨a, rfl⟩ := Int.eq_ofNat_of_zero_le h0
  have ha : a < ds.length := by omega
  rw [L2.atI_nat (List.getElem?_eq_getElem ha)]
  exact h _ (List.getElem_mem ha)
/-! ### a thing with a part of it another way -/
def γ_bentA : OL := fun ds S R => ∃ (p : Addr) (d : D), ds = [.ref p, d] ∧ (okw 20 d = true ∧ Well p S) ∧ ∀ e S', AN S' e → Drx p S S' → R e S'
def body_bentA (γ__law_draw γ__law_is_whole γ__law_odd : OL) : ST := sSeq (sPar 4 5 (aCons (eLstM (aNil)) (aCons (eVar 1) (aNil))))
  (sSeq (sFor (iRange1 (aCons (eCall γ__law_draw (aCons (eVar 0) (aCons (eC (.int 5)) (aNil)))) (aNil))) (gNm 2) (sSeq (sIf (tOr' (tNot' (tBl (eCall cIsiA (aCons (eVar 5) (aCons (eC (.ty "tuple")) (aNil)))))) (tBl (eBin oEq (eVar 5) (eTup (aNil))))) (sBreak) (sNext))
  (sSeq (sAsg (eCall γ__law_draw (aCons (eVar 0) (aCons (eCall cLen (aCons (eVar 5) (aNil))) (aNil)))) (gNm 6))
  (sSeq (sDrop (eMt mAppend (eVar 4) (aCons (eTup (aCons (eVar 5) (aCons (eVar 6) (aNil)))) (aNil))))
  (sAsg (eBin oIx (eVar 5) (eVar 6)) (gNm 5))))))
  (sSeq (sAsg (eCall γ__law_draw (aCons (eVar 0) (aCons (eC (.int 8)) (aNil)))) (gNm 3))
  (sSeq (sIf (tAnd' (tBl (eCall cIsiA (aCons (eVar 5) (aCons (eC (.ty "tuple")) (aNil))))) (tBl (eBin oLt (eVar 3) (eC (.int 5))))) (sAsg (eBin oIx (eTup (aCons (eCall cList (aCons (eVar 5) (aNil))) (aCons (eSl (eVar 5) (pNone) (pSome (eUn oNeg (eC (.int 1))))) (aCons (eBin oAdd (eVar 5) (eSl (eVar 5) (pNone) (pSome (eC (.int 1))))) (aCons (eSl (eVar 5) (pSome (eC (.int 1))) (pNone)) (aCons (eRev (eVar 5)) (aNil))))))) (eVar 3)) (gNm 5)) (sIf (tAnd' (tBl (eCall γ__law_is_whole (aCons (eVar 5) (aNil)))) (tBl (eBin oLt (eVar 3) (eC (.int 5))))) (sAsg (eBin oIx (eTup (aCons (eBin oAdd (eVar 5) (eC (.int 1))) (aCons (eBin oSub (eVar 5) (eC (.int 1))) (aCons (eBin oSub (eC (.int 0)) (eVar 5)) (aCons (eBin oGt (eVar 5) (eC (.int 0))) (aCons (eBin oSub (eC (.int 1)) (eVar 5)) (aNil))))))) (eVar 3)) (gNm 5)) (sAsg (eCall γ__law_odd (aCons (eVar 0) (aNil))) (gNm 5))))
  (sSeq (sFor (iSeq (eRev (eVar 4))) (gTupl 2 (gsCons (gNm 7) (gsCons (gNm 6) (gsNil)))) (sAsg (eBin oAdd (eBin oAdd (eSl (eVar 7) (pNone) (pSome (eVar 6))) (eTup (aCons (eVar 5) (aNil)))) (eSl (eVar 7) (pSome (eBin oAdd (eVar 6) (eC (.int 1)))) (pNone))) (gNm 5)))
  (sRet (eVar 5))))))

theorem law_bentA : Law 8 γ_bentA (body_bentA γ_draw γ_iwA γ_oddA) := by
  intro ds S R ⟨p, d, e, ⟨ok, hw⟩, h⟩
  subst e
  unfold body_bentA
  refine seqK fun k hk => ?_
  simp_arith []
  refine ⟨by decide, fun pp hpp => ?_⟩
  rw [hk]
  have hp : pp ≠ p := hw.ne hpp
  refine seqK fun k2 hk2 => ?_
  unfold γ_draw
  simp_arith []
  refine ⟨p, _, rfl, well_up hw hpp, ⟨by decide, by decide⟩, fun r S1 r0 r1 dr1 => ?_⟩
  refine ⟨⟨by omega, by omega⟩, ?_⟩
  have hS1 : S1 pp = some (.lst []) := by rw [dr1.but pp hp]; exact up_same
  refine bent_walk (x1 := some d) hp hpp _ (fun x2 here x6 path S2 ok2 po hS2 dr2 => ?_) (rngD 0 r.toNat) d none none [] S1 ?_ ok (fun _ hx => nomatch hx) hS1 ((drx_up hw hpp).trans dr1.drx)
  · show k2 _ _
    rw [hk2]
    refine seqK fun k3 hk3 => ?_
    unfold γ_draw
    simp_arith []
    refine ⟨p, _, rfl, dr2.well, ⟨by decide, by decide⟩, fun w S3 w0 w1 dr3 => ?_⟩
    rw [hk3]
    refine seqK fun k4 hk4 => ?_
    have hS3 : S3 pp = some (.lst path) := by rw [dr3.but pp hp]; exact hS2
    have dr23 := dr2.trans dr3.drx
    have fin : ∀ here' S4, AN S4 here' → Drx p S S4 → S4 pp = some (.lst path) → k4 [some (.ref p), some d, x2, some (.int w), some (.ref pp), some here', x6, none] S4 := by
      intro here' S4 an dr4 hS4
      rw [hk4]
      simp_arith [eRev]
      rw [rs_ref hS4]
      simp_arith []
      refine bent_back _ (fun y x6 x7 an => ?_) path.reverse here' _ _ (fun x hx => po x (List.mem_reverse.mp hx)) an
      simp_arith []
      exact fin_of (h _ _ an dr4)
    have odd : γ_oddA [.ref p] S3 fun y S4 => k4 [some (.ref p), some d, x2, some (.int w), some (.ref pp), some y, x6, none] S4 :=
      ⟨p, rfl, dr3.well, fun y S4 an dr4 => fin y S4 an (dr23.trans dr4) (dr4.keep _ _ hp hS3)⟩
    have k0 : ∀ n, n ≤ 1000 → n ≤ sizeLine := fun n hn => sz1000 hn
    simp_arith []
    refine isi_top (.inl (okw_plain ok2)) tup_in ?_
    by_cases z : ∃ es, here = .tup es
    · obtain ⟨es, rfl⟩ := z
      simp_arith [show isiX "tuple" (.tup es) = true from rfl]
      by_cases y : w < 5
      · simp_arith [y, decide_true, eRev, oCut]
        have h5 := okw_len ok2
        have c1 : (cutD es none (some 1)).length ≤ es.length := cut_len
        have sub := okw_sub ok2
        refine ⟨k0 _ (by omega), by decide, ?_⟩
        refine atI_go w0 (by simp only [List.length_cons, List.length_nil]; omega) (fun x hx => fin x S3 ?_ dr23 hS3)
        simp only [List.mem_cons, List.not_mem_nil, or_false] at hx
        rcases hx with rfl | rfl | rfl | rfl | rfl
        · exact .lst
        · exact .tup fun x hx => okw_an (sub _ (cut_mem hx))
        · exact .tup fun x hx => okw_an (sub _ ((List.mem_append.mp hx).elim id cut_mem))
        · exact .tup fun x hx => okw_an (sub _ (cut_mem hx))
        · exact .tup fun x hx => okw_an (sub _ (List.mem_reverse.mp hx))
      · unfold γ_iwA
        simp_arith [y, decide_false]
        refine ⟨_, rfl, .inl rfl, ?_⟩
        simp_arith [show isWh (.tup es) = false from rfl]
        exact odd
    · unfold γ_iwA
      simp_arith [isiX_not z]
      refine ⟨_, rfl, .inl (okw_plain ok2), ?_⟩
      cases zw : isWh here with
      | false =>
        simp_arith []
        exact odd
      | true =>
        obtain ⟨i, rfl⟩ : ∃ n, here = .int n := by cases here <;> first | exact ⟨_, rfl⟩ | cases zw
        by_cases y : w < 5
        · simp_arith [y, decide_true]
          have hi : i.natAbs < 2 ^ 200 := of_decide_eq_true ok2
          refine ⟨by decide, atI_go w0 (by simp only [List.length_cons, List.length_nil]; omega) (fun x hx => fin x S3 ?_ dr23 hS3)⟩
          simp only [List.mem_cons, List.not_mem_nil, or_false] at hx
          rcases hx with rfl | rfl | rfl | rfl | rfl
          · exact .int (near_int hi (by omega))
          · exact .int (near_int hi (by omega))
          · exact .int (near_int hi (by omega))
          · exact .bl
          · exact .int (near_int hi (by omega))
        · simp_arith [y, decide_false]
          exact odd
  · rw [rngD_length]
    simp only [List.length_nil]
    omega
end Gx

/-! Gx, data side 86: drawn nets of nine cells too, values of any kind (k02). -/
namespace Gx
open PySem L2
local macro_rules | `(tactic| simp_arith [$xs,*]) => `(tactic| try simp only [eVar, eC, eBin, eUn, tBl, tAnd', tOr', tNot', eAnd, eOr, eNot, eIf, aNil, aCons, eTup, eLst, eLstM, eCall, eCallK, pick, sNext, sSeq, sBreak, sCont, sDrop, sRet, sRetN, sIf, sNever, gNm, gsNil, gsCons, gTupl, gSubs, sAsg, sPar, sPar3, sFor, iSeq, seqG_tup, seqG_lst, seqG_scr, iRange1, iRange2, iEnumG, iZipG, td_tup, td_lst, td_scr, eLc, eLcM, tYes', pNone, pSome, eSl, cu_tup, cu_lst, cu_scr, eMt, eMt0, mAppend, isL, rs_non, rs_bl, rs_int, rs_str, rs_tup, rs_lst', rs_scr, itemsOf_tup, itemsOf_lst, itemsOf_scr, oI, oI0, oSub, oFdiv, oMod, oPow, oShl, oShr, oAnd, oOr, oXor, oLt, oLe, oGt, oGe, oNeg, oIsN, oNotN, Gx.isNon, oAdd, oAdd', oMul, oMul', oMulM, oEq, oNe, oEqS, oNeS, oIn, oNin, eChain, oIx, oSet, cLen, cList, cListM, cTuple, cSum, cAll, cAny, cInt, cAbs, cMax2, cMin2, cDivmod, cGcd, cIsi, cRepr, lstInts, lstBls, startD, wipeD, List.map_cons, List.map_nil, List.length_cons, List.length_nil, List.cons_append, List.nil_append, List.replicate_succ, List.replicate_zero, List.set_cons_succ, List.set_cons_zero, List.getElem?_cons_succ, List.getElem?_cons_zero, List.filterMap_cons_some, List.filterMap_nil, Nat.reduceAdd, Nat.reduceSub, Nat.sub_self, Nat.reduceLT, Nat.reduceMul, Nat.zero_add, Nat.add_zero, if_true, if_false, and_true, true_and, and_false, false_and, or_true, true_or, or_false, false_or, not_true_eq_false, not_false_eq_true, Bool.not_true, Bool.not_false, Bool.false_eq_true, ite_true, ite_false, reduceIte, reduceCtorEq, eq_self, $xs,*])
--GX
section
variable {p q : Addr} {o : SO} {S S' : Sto}
def γ_net9 (P M : Rat → Prop) : OL := fun ds S R => ∃ (p : Addr) (n : Nat), ds = [.ref p, .int n] ∧ Well p S ∧ (1 ≤ n ∧ n ≤ 9) ∧ ∀ N S', (N.n ≤ 8 → N.Ok) → N.ws.length = N.n → (∀ r ∈ N.ws, r.length = N.n) → N.n = n → Drn P M N → Drw p S S' → R (encN N) S'
theorem net_inner9 {P : Rat → Prop} (hP : P 0) {p p5 : Addr} {n i : Nat} (hi : i < n) (h8 : n ≤ 9) (h5 : p5 ≠ p) {G : EndG} {x3 x4 : Option D} {S0 : Sto}
    (h : ∀ (r : List Rat) (x6 : Option D) (S : Sto), r.length = n → (∀ q ∈ r, P q) → r.getD i 0 = 0 → Well p S → (∀ b, b ≠ p → b ≠ p5 → S b = S0 b) → S p5 = some (.lst (r.map encR)) → G.nx [some (.ref p), some (.int n), some (.int i), x3, x4, some (.ref p5), x6] S) :
    ∀ (m j : Nat) (r : List Rat) x6 S, j + m = n → r.length = j → (∀ q ∈ r, P q) → (i < j → r.getD i 0 = 0) → Well p S → (∀ b, b ≠ p → b ≠ p5 → S b = S0 b) → S p5 = some (.lst (r.map encR)) →
    forG (gNm 6) (sDrop (eMt mAppend (eVar 5) (aCons (eIf (tBl (eBin oNe (eVar 6) (eVar 2))) (eCall (γ_frac P) (aCons (eVar 0) (aNil))) (eTup (aCons (eC (.int 0)) (aCons (eC (.int 1)) (aNil))))) (aNil)))) (fun _ => True) (rngD j m) G [some (.ref p), some (.int n), some (.int i), x3, x4, some (.ref p5), x6] S
  | 0, j, r, x6, S, hj, hl, hr, hz, hw, hb, hs => ⟨trivial, h r x6 S (by omega) hr (hz (by omega)) hw hb hs⟩
  | m + 1, j, r, x6, S, hj, hl, hr, hz, hw, hb, hs => by
    refine ⟨trivial, ?_⟩
    have e1 : ((j : Int) + 1) = ((j + 1 : Nat) : Int) := by omega
    have step : ∀ q S', P q → (j = i → q = 0) → Drw p S S' → r.length < sizeLine ∧ forG (gNm 6) (sDrop (eMt mAppend (eVar 5) (aCons (eIf (tBl (eBin oNe (eVar 6) (eVar 2))) (eCall (γ_frac P) (aCons (eVar 0) (aNil))) (eTup (aCons (eC (.int 0)) (aCons (eC (.int 1)) (aNil))))) (aNil)))) (fun _ => True) (rngD ((j : Int) + 1) m) G [some (.ref p), some (.int n), some (.int i), x3, x4, some (.ref p5), some (.int j)] (up S' p5 (.lst (r.map encR ++ [encR q]))) := fun q S' hq hq0 d => by
      refine ⟨Nat.lt_of_lt_of_le (m := 1000) (by omega) (by decide), ?_⟩
      rw [e1]
      refine net_inner9 hP hi h8 h5 h m (j + 1) (r ++ [q]) _ _ (by omega) (by rw [List.length_append]; simp [hl]) (fun x hx => ?_) (fun hij => ?_) (d.well.up h5) (fun b b1 b2 => ?_) (by rw [up_same, List.map_append]; rfl)
      · rcases List.mem_append.mp hx with hx | hx
        · exact hr x hx
        · rw [List.mem_singleton] at hx; subst hx; exact hq
      · by_cases z : i < j
        · rw [List.getD_eq_getElem?_getD, List.getElem?_append_left (by omega), ← List.getD_eq_getElem?_getD]
          exact hz z
        · have : i = j := by omega
          subst this
          rw [List.getD_eq_getElem?_getD, List.getElem?_append_right (by omega), hl, Nat.sub_self]
          exact hq0 rfl
      · rw [up_ne b2, d.but b b1]; exact hb b b1 b2
    show gNm 6 (.int j) _ S _
    unfold γ_frac
    simp_arith [rs_ref hs, pl_int, eqD_nat]
    by_cases z : j = i
    · subst z
      simp_arith [decide_true, hs, List.length_map]
      have := step 0 S hP (fun _ => rfl) (.refl hw)
      exact ⟨by decide, this⟩
    · simp_arith [z, decide_false]
      refine ⟨p, rfl, hw, fun q S' hq d => ?_⟩
      have h5' : S' p5 = some (.lst (r.map encR)) := by rw [d.at h5]; exact hs
      simp_arith [h5', List.length_map]
      exact step q S' hq (fun y => absurd y z) d
theorem net_outer9 {P M : Rat → Prop} (hP : P 0) {p p3 p4 : Addr} {n : Nat} (h8 : n ≤ 9) {S0 : Sto} (o3 : Own p S0 p3) (o4 : Own p S0 p4) (h34 : p3 ≠ p4) {G : EndG}
    (h : ∀ (ws : List (List Rat)) (ms : List Rat) (x2 x5 x6 : Option D) (S : Sto), NetAt P M p p3 p4 n n S0 S ws ms → G.nx [some (.ref p), some (.int n), x2, some (.ref p3), some (.ref p4), x5, x6] S) :
    ∀ (m i : Nat) (ws : List (List Rat)) (ms : List Rat) (x2 x5 x6 : Option D) (S : Sto), i + m = n → NetAt P M p p3 p4 n i S0 S ws ms →
    forG (gNm 2) (sSeq (sAsg (eLstM (aNil)) (gNm 5))
  (sSeq (sFor (iRange1 (aCons (eVar 1) (aNil))) (gNm 6) (sDrop (eMt mAppend (eVar 5) (aCons (eIf (tBl (eBin oNe (eVar 6) (eVar 2))) (eCall (γ_frac P) (aCons (eVar 0) (aNil))) (eTup (aCons (eC (.int 0)) (aCons (eC (.int 1)) (aNil))))) (aNil)))))
  (sSeq (sDrop (eMt mAppend (eVar 3) (aCons (eCall cTuple (aCons (eVar 5) (aNil))) (aNil))))
  (sDrop (eMt mAppend (eVar 4) (aCons (eCall (γ_frac M) (aCons (eVar 0) (aNil))) (aNil))))))) (fun _ => True) (rngD i m) G [some (.ref p), some (.int n), x2, some (.ref p3), some (.ref p4), x5, x6] S
  | 0, i, ws, ms, x2, x5, x6, S, hi, a => ⟨trivial, by have : i = n := by omega
                                                       subst this; exact h ws ms x2 x5 x6 S a⟩
  | m + 1, i, ws, ms, x2, x5, x6, S, hi, a => by
    refine ⟨trivial, ?_⟩
    show gNm 2 (.int i) _ S _
    simp_arith []
    refine ⟨by decide, fun p5 hp5 => ⟨⟨by omega, by omega⟩, ?_⟩⟩
    have e1 := a.ext.new (o := .lst []) hp5
    have h5 := (a.ext.own hp5)
    have n3 : p5 ≠ p3 := fun z => by rw [z, a.rows] at hp5; cases hp5
    have n4 : p5 ≠ p4 := fun z => by rw [z, a.marks] at hp5; cases hp5
    rw [Int.toNat_natCast]
    refine net_inner9 hP (S0 := up S p5 (.lst [])) (i := i) (by omega) h8 h5.2 (fun r x6 S1 hl hr hd hw hb hs => ?_) n 0 [] x6 _ (by omega) rfl (fun _ h => nomatch h) (fun h => by omega) e1.well (fun _ _ _ => rfl) up_same
    have r3 : S1 p3 = some (.lst (ws.map encRow)) := by rw [hb p3 o3.2 (Ne.symm n3), up_ne (Ne.symm n3)]; exact a.rows
    have r4 : S1 p4 = some (.lst (ms.map encR)) := by rw [hb p4 o4.2 (Ne.symm n4), up_ne (Ne.symm n4)]; exact a.marks
    have ex1 : Ext p S0 S1 := ⟨fun b o h1 h2 => by
      have : b ≠ p5 := fun z => by rw [z, h5.1] at h2; cases h2
      rw [hb b h1 this, up_ne this]; exact a.ext.of b o h1 h2, hw⟩
    unfold γ_frac
    simp_arith [rs_ref r3, rs_ref hs, r3, List.length_map, rs_ref (show up S1 p3 (.lst (ws.map encRow ++ [.tup (r.map encR)])) p4 = some (.lst (ms.map encR)) by rw [up_ne (Ne.symm h34)]; exact r4)]
    have ex2 := ex1.set (o := .lst (ws.map encRow ++ [.tup (r.map encR)])) o3
    refine ⟨Nat.lt_of_lt_of_le (m := 1000) (by have := a.lw; omega) (by decide), p, rfl, ex2.well, fun q S2 hq d => ?_⟩
    have r4' : S2 p4 = some (.lst (ms.map encR)) := by rw [d.at o4.2, up_ne (Ne.symm h34)]; exact r4
    have r3' : S2 p3 = some (.lst (ws.map encRow ++ [.tup (r.map encR)])) := by rw [d.at o3.2, up_same]
    simp_arith [r4', List.length_map]
    refine ⟨Nat.lt_of_lt_of_le (m := 1000) (by have := a.lm; omega) (by decide), ?_⟩
    have e1 : ((i : Int) + 1) = ((i + 1 : Nat) : Int) := by omega
    rw [e1]
    refine net_outer9 hP h8 o3 o4 h34 h m (i + 1) (ws ++ [r]) (ms ++ [q]) _ _ _ _ (by omega) ⟨(ex2.drw d).set o4, ?_, ?_, ?_, ?_, ?_, ?_, ?_, ?_⟩
    · rw [up_ne h34, r3', List.map_append]; rfl
    · rw [up_same, List.map_append]; rfl
    · rw [List.length_append, a.lw]; rfl
    · rw [List.length_append, a.lm]; rfl
    · intro x hx
      rcases List.mem_append.mp hx with hx | hx
      · exact a.lr x hx
      · rw [List.mem_singleton] at hx; subst hx; exact hl
    · intro x hx
      rcases List.mem_append.mp hx with hx | hx
      · exact a.hp x hx
      · rw [List.mem_singleton] at hx; subst hx; exact hr
    · intro x hx
      rcases List.mem_append.mp hx with hx | hx
      · exact a.hm x hx
      · rw [List.mem_singleton] at hx; subst hx; exact hq
    · intro j hj
      rw [getD_snoc a.lw hj]
      split
      · rename_i z; exact a.dia j z
      · have : j = i := by omega
        subst this; exact hd
theorem law_net9 {P M : Rat → Prop} (hP : P 0) : Law 7 (γ_net9 P M) (body_net (γ_frac P) (γ_frac M)) := by
  intro ds S R ⟨p, n, e, hw, ⟨h1, h8⟩, h⟩
  subst e
  unfold body_net
  simp_arith []
  refine ⟨by decide, fun p3 hp3 => ⟨by decide, fun p4 hp4 => ⟨⟨by omega, by omega⟩, ?_⟩⟩⟩
  have e0 := Ext.refl hw
  have e1 := e0.new (o := .lst []) hp3
  have e2 := e1.new (o := .lst []) hp4
  have o3 := e0.own hp3
  have o4 := e1.own hp4
  have h34 : p3 ≠ p4 := fun z => by rw [← z, up_same] at hp4; cases hp4
  have n43 : S p4 = none := by rw [up_ne (Ne.symm h34)] at hp4; exact hp4
  have o4' := e0.own n43
  rw [Int.toNat_natCast]
  refine net_outer9 hP h8 o3 o4' h34 (fun ws ms x2 x5 x6 S' a => ?_) n 0 [] [] _ _ _ _ (by omega) ⟨e2, ?_, up_same, rfl, rfl, (fun _ h => nomatch h), (fun _ h => nomatch h), (fun _ h => nomatch h), (fun _ h => by omega)⟩
  · simp_arith [rs_ref a.rows, rs_ref a.marks]
    refine ⟨by decide, ?_⟩
    refine a.ext.fin fun S2 d => h ⟨ws, ms⟩ S2 (fun h8 => ⟨?_, h8, ?_, ?_, ?_⟩) ?_ ?_ a.lm ⟨a.hp, a.hm⟩ d
    · show 1 ≤ ms.length; rw [a.lm]; exact h1
    · show ws.length = ms.length; rw [a.lm, a.lw]
    · intro r hr; show r.length = ms.length; rw [a.lm]; exact a.lr r hr
    · intro i hi; exact a.dia i (by have hi : i < ms.length := hi; rw [a.lm] at hi; exact hi)
    · show ws.length = ms.length; rw [a.lm, a.lw]
    · intro r hr; show r.length = ms.length; rw [a.lm]; exact a.lr r hr
  · rw [up_ne h34, up_same]; rfl
end
end Gx

--W5
/-! Gx, data side 87: words values of any kind (k02). -/
namespace Gx
open PySem L2
local macro_rules | `(tactic| simp_arith [$xs,*]) => `(tactic| try simp only [eVar, eC, eBin, eUn, tBl, tAnd', tOr', tNot', eAnd, eOr, eNot, eIf, aNil, aCons, eTup, eLst, eLstM, eCall, eCallK, pick, sNext, sSeq, sBreak, sCont, sDrop, sRet, sRetN, sIf, sNever, gNm, gsNil, gsCons, gTupl, gSubs, sAsg, sPar, sPar3, sFor, iSeq, seqG_tup, seqG_lst, seqG_scr, iRange1, iRange2, iEnumG, iZipG, td_tup, td_lst, td_scr, eLc, eLcM, tYes', pNone, pSome, eSl, cu_tup, cu_lst, cu_scr, eMt, eMt0, mAppend, isL, rs_non, rs_bl, rs_int, rs_str, rs_tup, rs_lst', rs_scr, itemsOf_tup, itemsOf_lst, itemsOf_scr, oI, oI0, oSub, oFdiv, oMod, oPow, oShl, oShr, oAnd, oOr, oXor, oLt, oLe, oGt, oGe, oNeg, oIsN, oNotN, Gx.isNon, oAdd, oAdd', oMul, oMul', oMulM, oEq, oNe, oEqS, oNeS, oIn, oNin, eChain, oIx, oSet, cLen, cList, cListM, cTuple, cSum, cAll, cAny, cInt, cAbs, cMax2, cMin2, cDivmod, cGcd, cIsi, cRepr, lstInts, lstBls, startD, wipeD, List.map_cons, List.map_nil, List.length_cons, List.length_nil, List.cons_append, List.nil_append, List.replicate_succ, List.replicate_zero, List.set_cons_succ, List.set_cons_zero, List.getElem?_cons_succ, List.getElem?_cons_zero, List.filterMap_cons_some, List.filterMap_nil, Nat.reduceAdd, Nat.reduceSub, Nat.sub_self, Nat.reduceLT, Nat.reduceMul, Nat.zero_add, Nat.add_zero, if_true, if_false, and_true, true_and, and_false, false_and, or_true, true_or, or_false, false_or, not_true_eq_false, not_false_eq_true, Bool.not_true, Bool.not_false, Bool.false_eq_true, ite_true, ite_false, reduceIte, reduceCtorEq, eq_self, aStar, eLstRg, eDicT0, eDixT, gSubsT, keysOf, cListT, cSortedP, oSubB, oMulT, iZip2G, eDic0, eDic1, oDix, oDin, oDnin, oDset, iKeysG, cSortedE, cListD, Gx.keyOf, cMaxL, cMinL, cSortedI, mIndex, eSortSet, eLenT, tBi, oIsB, cSumT, eBits, eLenI, $xs,*])
--GX
theorem okw_le {n m : Nat} {d : D} (h : okw n d = true) (hm : n ≤ m) : okw m d = true := by
  induction hm with
  | refl => exact h
  | step _ ih => exact okw_up ih
theorem okw_R {q : Rat} (h : Bd 1000000 6 q) : okw 2 (encR q) = true := by
  have h1 := h.1
  have h2 : q.den < 64 := h.2
  refine okw_of (by simp only [List.length_cons, List.length_nil]; omega) fun e he => ?_
  simp only [List.mem_cons, List.not_mem_nil, or_false] at he
  rcases he with rfl | rfl
  · exact decide_eq_true (Nat.lt_of_lt_of_le (show q.num.natAbs < 64000000 by omega) (by decide))
  · exact decide_eq_true (Nat.lt_of_lt_of_le (show (q.den : Int).natAbs < 64 by omega) (by decide))
theorem okw_Row {r : List Rat} (hl : r.length ≤ 50) (h : ∀ q ∈ r, Bd 1000000 6 q) : okw 3 (encRow r) = true := by
  refine okw_of (by rw [List.length_map]; exact hl) fun e he => ?_
  obtain ⟨q, hq, rfl⟩ := List.mem_map.mp he
  exact okw_R (h q hq)
theorem okw_N {N : Net} (hd : Drn (Bd 1000000 6) (Bd 3 2) N) (h9 : N.n ≤ 9) (hs : N.ws.length = N.n) (hr : ∀ r ∈ N.ws, r.length = N.n) : okw 20 (encN N) = true := by
  refine okw_le (n := 5) (okw_of (by simp only [List.length_cons, List.length_nil]; omega) fun e he => ?_) (by decide)
  simp only [List.mem_cons, List.not_mem_nil, or_false] at he
  rcases he with rfl | rfl
  · refine okw_of (by rw [List.length_map]; omega) fun e he => ?_
    obtain ⟨r, hr', rfl⟩ := List.mem_map.mp he
    exact okw_Row (by rw [hr r hr']; omega) (hd.w r hr')
  · have hn : N.ms.length = N.n := rfl
    exact okw_up (okw_Row (by omega) fun q hq => (hd.m q hq).mono (by decide) (by decide))
theorem okw_S {s : List Bool} (hl : s.length ≤ 50) : okw 20 (encS s) = true := by
  refine okw_le (n := 2) (okw_of (by rw [List.length_map]; exact hl) fun e he => ?_) (by decide)
  obtain ⟨b, _, rfl⟩ := List.mem_map.mp he
  cases b <;> rfl
/-! ### as it is, bent, or of any kind -/
def γ_maybeA : OL := γ_bentA
def body_maybeA (γ__law_draw γ__law_bent γ__law_odd : OL) : ST := sSeq (sAsg (eCall γ__law_draw (aCons (eVar 0) (aCons (eC (.int 10)) (aNil)))) (gNm 2))
  (sSeq (sIf (tBl (eBin oLt (eVar 2) (eC (.int 5)))) (sRet (eVar 1)) (sNext))
  (sRet (eIf (tBl (eBin oLt (eVar 2) (eC (.int 9)))) (eCall γ__law_bent (aCons (eVar 0) (aCons (eVar 1) (aNil)))) (eCall γ__law_odd (aCons (eVar 0) (aNil))))))

theorem law_maybeA : Law 3 γ_maybeA (body_maybeA γ_draw γ_bentA γ_oddA) := by
  intro ds S R ⟨p, d, e, ⟨ok, hw⟩, h⟩
  subst e
  unfold body_maybeA γ_draw
  simp_arith []
  refine ⟨p, _, rfl, hw, ⟨by decide, by decide⟩, fun w S1 w0 w1 dr => ?_⟩
  by_cases a : w < 5
  · simp_arith [a, decide_true]
    exact fin_of (h _ _ (okw_an ok) dr.drx)
  · simp_arith [a, decide_false]
    by_cases b : w < 9
    · simp_arith [b, decide_true]
      exact ⟨p, d, rfl, ⟨ok, dr.well⟩, fun e S2 an d2 => fin_of (h e S2 an (dr.drx.trans d2))⟩
    · simp_arith [b, decide_false]
      exact ⟨p, rfl, dr.well, fun e S2 an d2 => fin_of (h e S2 an (dr.drx.trans d2))⟩
/-! ### the program's words over values of any kind -/
def γ_isnetA : OL := γ_netA
def body_isnetA (γ_is_net_by : OL) : ST := sRet (eCall γ_is_net_by (aCons (eVar 0) (aNil)))

theorem law_isnetA : Law 1 γ_isnetA (body_isnetA γ_netA) := by
  intro ds S R ⟨d, e, ha, h⟩
  subst e
  unfold body_isnetA
  simp_arith []
  exact ⟨d, rfl, ha, fin_of h⟩
/-- a right net is let by -/
def γ_cknetA : OL := fun ds S R => ∃ N : Net, ds = [encN N] ∧ N.Ok ∧ R .non S
def body_cknetA (γ_is_net_by : OL) : ST := sIf (tNot' (tBl (eCall γ_is_net_by (aCons (eVar 0) (aNil))))) (sNever) (sNext)

theorem an_pl {S : Sto} : ∀ {n m : Nat} {d : D}, pl m d = true → AnA S n d
  | 0, m, d, h => .inl (pl_top h)
  | n + 1, m, d, h => ⟨.inl (pl_top h), fun es e x hx => by
      subst e
      cases m with
      | zero => cases h
      | succ m => exact an_pl (pl_tup h x hx)⟩
theorem law_cknetA : Law 1 γ_cknetA (body_cknetA γ_netA) := by
  intro ds S R ⟨N, e, ok, h⟩
  subst e
  unfold body_cknetA
  simp_arith []
  refine ⟨_, rfl, an_pl (pl_encN N), ?_⟩
  rw [isNet_enc ok]
  simp_arith []
  exact fin_of h
def γ_isstA : OL := fun ds S R => ∃ (N : Net) (d : D), ds = [encN N, d] ∧ (N.Ok ∧ AnA S 1 d) ∧ R (.bl (isStD N.n d)) S
def body_isstA (γ_check_net γ_is_state_by : OL) : ST := sSeq (sDrop (eCall γ_check_net (aCons (eVar 0) (aNil))))
  (sRet (eCall γ_is_state_by (aCons (eVar 0) (aCons (eVar 1) (aNil)))))

theorem law_isstA : Law 2 γ_isstA (body_isstA γ_cknetA γ_stA) := by
  intro ds S R ⟨N, d, e, ⟨ok, ha⟩, h⟩
  subst e
  unfold body_isstA
  simp_arith []
  exact ⟨N, rfl, ok, N, d, rfl, ⟨ok.few, ha⟩, fin_of h⟩
def γ_ckmanyA : OL := fun ds S R => ∃ v lo hi : Int, ds = [.int v, .int lo, .int hi] ∧ (lo ≤ v ∧ v ≤ hi) ∧ R .non S
def body_ckmanyA (γ_is_between : OL) : ST := sIf (tNot' (tBl (eCall γ_is_between (aCons (eVar 0) (aCons (eVar 1) (aCons (eVar 2) (aNil))))))) (sNever) (sNext)

theorem law_ckmanyA : Law 3 γ_ckmanyA (body_ckmanyA γ_btA) := by
  intro ds S R ⟨v, lo, hi, e, ⟨h1, h2⟩, h⟩
  subst e
  unfold body_ckmanyA
  simp_arith []
  refine ⟨_, _, _, rfl, .inl rfl, ?_⟩
  rw [show isBw lo hi (.int v) = (decide (lo ≤ v) && decide (v ≤ hi)) from rfl, decide_eq_true h1, decide_eq_true h2]
  simp_arith []
  exact fin_of h
def γ_cknumA : OL := fun ds S R => ∃ (N : Net) (k : Nat), ds = [encN N, .int k] ∧ (N.Ok ∧ k < 2 ^ N.n) ∧ R .non S
def body_cknumA (γ_check_many γ_many_cells : OL) : ST := sDrop (eCall γ_check_many (aCons (eVar 1) (aCons (eC (.int 0)) (aCons (eBin oSub (eBin oShl (eC (.int 1)) (eCall γ_many_cells (aCons (eVar 0) (aNil)))) (eC (.int 1))) (aNil)))))

theorem law_cknumA : Law 2 γ_cknumA (body_cknumA γ_ckmanyA γ_many_cells) := by
  intro ds S R ⟨N, k, e, ⟨ok, hk⟩, h⟩
  subst e
  have h8 := ok.few
  unfold body_cknumA γ_ckmanyA γ_many_cells
  simp_arith []
  refine ⟨N, rfl, (shl_rng h8).1, k, 0, _, rfl, ⟨by omega, ?_⟩, fin_of h⟩
  rw [Int.toNat_natCast, Int.one_mul]
  have : ((2 : Int) ^ N.n) = ((2 ^ N.n : Nat) : Int) := by rw [Int.natCast_pow]; rfl
  omega
def γ_stofA : OL := fun ds S R => ∃ (N : Net) (k : Nat), ds = [encN N, .int k] ∧ (N.Ok ∧ k < 2 ^ N.n) ∧ R (encS (stateOf N.n k)) S
def body_stofA (γ_check_net γ_check_number γ_state_by γ_many_cells : OL) : ST := sSeq (sDrop (eCall γ_check_net (aCons (eVar 0) (aNil))))
  (sSeq (sDrop (eCall γ_check_number (aCons (eVar 0) (aCons (eVar 1) (aNil)))))
  (sRet (eCall γ_state_by (aCons (eCall γ_many_cells (aCons (eVar 0) (aNil))) (aCons (eVar 1) (aNil))))))

theorem law_stofA : Law 2 γ_stofA (body_stofA γ_cknetA γ_cknumA γ_state_by γ_many_cells) := by
  intro ds S R ⟨N, k, e, ⟨ok, hk⟩, h⟩
  subst e
  have h8 := ok.few
  unfold body_stofA γ_cknetA γ_cknumA γ_state_by γ_many_cells
  simp_arith []
  refine ⟨N, rfl, ok, N, k, rfl, ⟨ok, hk⟩, N, rfl, N.n, k, rfl, by omega, fin_of h⟩
def γ_ckstA : OL := fun ds S R => ∃ (N : Net) (s : List Bool), ds = [encN N, encS s] ∧ (N.n ≤ 8 ∧ s.length = N.n) ∧ R .non S
def body_ckstA (γ_is_state_by : OL) : ST := sIf (tNot' (tBl (eCall γ_is_state_by (aCons (eVar 0) (aCons (eVar 1) (aNil)))))) (sNever) (sNext)

theorem law_ckstA : Law 2 γ_ckstA (body_ckstA γ_stA) := by
  intro ds S R ⟨N, s, e, ⟨h8, hs⟩, h⟩
  subst e
  unfold body_ckstA
  simp_arith []
  refine ⟨N, _, rfl, ⟨h8, an_pl (pl_encS s)⟩, ?_⟩
  rw [isSt_enc hs]
  simp_arith []
  exact fin_of h
def γ_ckboA : OL := fun ds S R => ∃ (N : Net) (s : List Bool), ds = [encN N, encS s] ∧ (N.Ok ∧ s.length = N.n) ∧ R .non S
def body_ckboA (γ_check_net γ_check_state : OL) : ST := sSeq (sDrop (eCall γ_check_net (aCons (eVar 0) (aNil))))
  (sDrop (eCall γ_check_state (aCons (eVar 0) (aCons (eVar 1) (aNil)))))

theorem law_ckboA : Law 2 γ_ckboA (body_ckboA γ_cknetA γ_ckstA) := by
  intro ds S R ⟨N, s, e, ⟨ok, hs⟩, h⟩
  subst e
  unfold body_ckboA γ_cknetA γ_ckstA
  simp_arith []
  exact ⟨N, rfl, ok, N, s, rfl, ⟨ok.few, hs⟩, fin_of h⟩
def γ_nuofA : OL := fun ds S R => ∃ (N : Net) (s : List Bool), ds = [encN N, encS s] ∧ (N.Ok ∧ s.length = N.n) ∧ R (.int (numOf s : Nat)) S
def body_nuofA (γ_check_both γ_number_by : OL) : ST := sSeq (sDrop (eCall γ_check_both (aCons (eVar 0) (aCons (eVar 1) (aNil)))))
  (sRet (eCall γ_number_by (aCons (eVar 1) (aNil))))

theorem law_nuofA : Law 2 γ_nuofA (body_nuofA γ_ckboA γ_num) := by
  intro ds S R ⟨N, s, e, ⟨ok, hs⟩, h⟩
  subst e
  have h8 := ok.few
  unfold body_nuofA γ_ckboA γ_num
  simp_arith []
  exact ⟨N, s, rfl, ⟨ok, hs⟩, s, rfl, by omega, fin_of h⟩
end Gx

namespace K02
open PySem L2 Gx
/-- _law_draw(well, few): slots 0 well 1 few 2 mixed 3 figure -/
def body__law_draw : ST := sSeq (sIf (tBl (eBin oGt (eBin oIx (eVar 0) (eC (.int 0))) (eC (.int 0)))) (sSeq (sAsg (eCall cDivmod (aCons (eBin oIx (eVar 0) (eC (.int 0))) (aCons (eVar 1) (aNil)))) (gTupl 2 (gsCons (gSubs (eVar 0) (eC (.int 0)) oSet) (gsCons (gNm 3) (gsNil)))))
  (sRet (eVar 3))) (sNext))
  (sSeq (sAsg (eBin oAdd (eBin oIx (eVar 0) (eC (.int 2))) (eC (.int 1))) (gSubs (eVar 0) (eC (.int 2)) oSet))
  (sSeq (sAsg (eBin oMod (eCall cInt (aCons (eBin oAdd (eBin oMul (eBin oIx (eVar 0) (eC (.int 1))) (eC (.int 48271))) (eBin oMul (eC (.int 15017)) (eBin oIx (eVar 0) (eC (.int 2))))) (aNil))) (eC (.int 2147483489))) (gNm 2))
  (sSeq (sAsg (eBin oMod (eCall cInt (aCons (eBin oAdd (eBin oMul (eVar 2) (eBin oAdd (eBin oMod (eCall cInt (aCons (eVar 2) (aNil))) (eC (.int 5003))) (eC (.int 20021)))) (eBin oIx (eVar 0) (eC (.int 2)))) (aNil))) (eC (.int 2147483489))) (gSubs (eVar 0) (eC (.int 1)) oSet))
  (sRet (eBin oMod (eCall cInt (aCons (eBin oFdiv (eBin oIx (eVar 0) (eC (.int 1))) (eC (.int 1009))) (aNil))) (eVar 1))))))
/-- _law_one(well, some): slots 0 well 1 some -/
def body__law_one (γ__law_draw : OL) : ST := sRet (eBin oIx (eVar 1) (eCall γ__law_draw (aCons (eVar 0) (aCons (eCall cLen (aCons (eVar 1) (aNil))) (aNil)))))
/-- _law_lean(top, base): slots 0 top 1 base 2 far 3 rest -/
def body__law_lean : ST := sSeq (sPar 2 3 (aCons (eCall cAbs (aCons (eVar 0) (aNil))) (aCons (eCall cAbs (aCons (eVar 1) (aNil))) (aNil))))
  (sSeq (sWh (tBl (eBin oGt (eVar 3) (eC (.int 0)))) (sPar 2 3 (aCons (eVar 3) (aCons (eBin oMod (eCall cInt (aCons (eVar 2) (aNil))) (eVar 3)) (aNil)))))
  (sSeq (sAsg (eIf (tBl (eBin oGt (eVar 1) (eC (.int 0)))) (eVar 2) (eBin oSub (eC (.int 0)) (eVar 2))) (gNm 2))
  (sRet (eTup (aCons (eBin oFdiv (eVar 0) (eVar 2)) (aCons (eBin oFdiv (eVar 1) (eVar 2)) (aNil)))))))
/-- _law_weight(well): slots 0 well 1 way -/
def body__law_weight (γ__law_draw γ__law_one γ__law_lean : OL) : ST := sSeq (sAsg (eCall γ__law_draw (aCons (eVar 0) (aCons (eC (.int 12)) (aNil)))) (gNm 1))
  (sSeq (sIf (tBl (eBin oLt (eVar 1) (eC (.int 11)))) (sRet (eCall γ__law_one (aCons (eVar 0) (aCons (eTup (aCons (eTup (aCons (eC (.int 0)) (aCons (eC (.int 1)) (aNil)))) (aCons (eTup (aCons (eC (.int 0)) (aCons (eC (.int 1)) (aNil)))) (aCons (eTup (aCons (eC (.int 1)) (aCons (eC (.int 1)) (aNil)))) (aCons (eTup (aCons (eUn oNeg (eC (.int 1))) (aCons (eC (.int 1)) (aNil)))) (aCons (eTup (aCons (eC (.int 2)) (aCons (eC (.int 1)) (aNil)))) (aCons (eTup (aCons (eUn oNeg (eC (.int 2))) (aCons (eC (.int 1)) (aNil)))) (aCons (eTup (aCons (eC (.int 1)) (aCons (eC (.int 2)) (aNil)))) (aCons (eTup (aCons (eUn oNeg (eC (.int 1))) (aCons (eC (.int 2)) (aNil)))) (aCons (eTup (aCons (eC (.int 3)) (aCons (eC (.int 1)) (aNil)))) (aCons (eTup (aCons (eC (.int 0)) (aCons (eC (.int 1)) (aNil)))) (aNil)))))))))))) (aNil))))) (sNext))
  (sRet (eCall γ__law_lean (aCons (eBin oSub (eCall γ__law_draw (aCons (eVar 0) (aCons (eC (.int 2000001)) (aNil)))) (eC (.int 1000000))) (aCons (eBin oAdd (eC (.int 1)) (eCall γ__law_draw (aCons (eVar 0) (aCons (eC (.int 60)) (aNil))))) (aNil))))))
/-- _law_mark(well): slots 0 well -/
def body__law_mark (γ__law_one : OL) : ST := sRet (eCall γ__law_one (aCons (eVar 0) (aCons (eTup (aCons (eTup (aCons (eC (.int 0)) (aCons (eC (.int 1)) (aNil)))) (aCons (eTup (aCons (eC (.int 1)) (aCons (eC (.int 2)) (aNil)))) (aCons (eTup (aCons (eUn oNeg (eC (.int 1))) (aCons (eC (.int 2)) (aNil)))) (aCons (eTup (aCons (eC (.int 1)) (aCons (eC (.int 1)) (aNil)))) (aCons (eTup (aCons (eC (.int 0)) (aCons (eC (.int 1)) (aNil)))) (aCons (eTup (aCons (eUn oNeg (eC (.int 1))) (aCons (eC (.int 1)) (aNil)))) (aCons (eTup (aCons (eC (.int 3)) (aCons (eC (.int 2)) (aNil)))) (aCons (eTup (aCons (eC (.int 2)) (aCons (eC (.int 1)) (aNil)))) (aCons (eTup (aCons (eC (.int 1)) (aCons (eC (.int 3)) (aNil)))) (aCons (eTup (aCons (eUn oNeg (eC (.int 5))) (aCons (eC (.int 2)) (aNil)))) (aNil)))))))))))) (aNil))))
/-- _law_net(well, few): slots 0 well 1 few 2 at 3 rows 4 marks 5 row 6 to -/
def body__law_net (γ__law_weight γ__law_mark : OL) : ST := sSeq (sPar 3 4 (aCons (eLstM (aNil)) (aCons (eLstM (aNil)) (aNil))))
  (sSeq (sFor (iRange1 (aCons (eVar 1) (aNil))) (gNm 2) (sSeq (sAsg (eLstM (aNil)) (gNm 5))
  (sSeq (sFor (iRange1 (aCons (eVar 1) (aNil))) (gNm 6) (sDrop (eMt mAppend (eVar 5) (aCons (eIf (tBl (eBin oNe (eVar 6) (eVar 2))) (eCall γ__law_weight (aCons (eVar 0) (aNil))) (eTup (aCons (eC (.int 0)) (aCons (eC (.int 1)) (aNil))))) (aNil)))))
  (sSeq (sDrop (eMt mAppend (eVar 3) (aCons (eCall cTuple (aCons (eVar 5) (aNil))) (aNil))))
  (sDrop (eMt mAppend (eVar 4) (aCons (eCall γ__law_mark (aCons (eVar 0) (aNil))) (aNil))))))))
  (sRet (eTup (aCons (eCall cTuple (aCons (eVar 3) (aNil))) (aCons (eCall cTuple (aCons (eVar 4) (aNil))) (aNil))))))
/-- _law_odd(well): slots 0 well 1 some 2 more -/
def body__law_odd (γ__law_one : OL) : ST := sSeq (sAsg (eTup (aCons (eC .non) (aCons (eC (.bl true)) (aCons (eC (.bl false)) (aCons (eC (.int 0)) (aCons (eC (.int 1)) (aCons (eC (.int 2)) (aCons (eUn oNeg (eC (.int 1))) (aCons (eC (.int 7)) (aCons (eC (.int 256)) (aCons (eC (.str "")) (aCons (eC (.str "a")) (aCons (eC (.str "pairs")) (aCons (eTup (aNil)) (aCons (eTup (aCons (eC (.int 0)) (aNil))) (aCons (eTup (aCons (eC (.int 1)) (aNil))) (aCons (eTup (aCons (eC (.int 0)) (aCons (eC (.int 1)) (aNil)))) (aCons (eTup (aCons (eC (.int 1)) (aCons (eC (.int 0)) (aNil)))) (aCons (eTup (aCons (eC (.int 0)) (aCons (eC (.int 0)) (aNil)))) (aCons (eTup (aCons (eC (.int 1)) (aCons (eC (.int 2)) (aNil)))) (aNil))))))))))))))))))))) (gNm 1))
  (sSeq (sAsg (eTup (aCons (eTup (aCons (eC (.int 1)) (aCons (eC (.int 1)) (aNil)))) (aCons (eTup (aCons (eC (.int 3)) (aCons (eUn oNeg (eC (.int 2))) (aNil)))) (aCons (eTup (aCons (eC (.bl true)) (aCons (eC (.int 1)) (aNil)))) (aCons (eTup (aCons (eC (.int 0)) (aCons (eC (.bl true)) (aNil)))) (aCons (eTup (aCons (eTup (aCons (eC (.int 0)) (aCons (eC (.int 1)) (aNil)))) (aNil))) (aCons (eTup (aCons (eTup (aCons (eC (.int 1)) (aCons (eC (.int 1)) (aNil)))) (aNil))) (aCons (eTup (aCons (eTup (aCons (eC (.int 0)) (aCons (eC (.int 1)) (aNil)))) (aCons (eTup (aCons (eC (.int 1)) (aCons (eC (.int 2)) (aNil)))) (aNil)))) (aCons (eTup (aCons (eTup (aCons (eTup (aCons (eC (.int 0)) (aCons (eC (.int 1)) (aNil)))) (aNil))) (aNil))) (aCons (eTup (aCons (eC (.int 2)) (aCons (eC (.int 4)) (aNil)))) (aNil))))))))))) (gNm 2))
  (sSeq (sAsg (eBin oAdd (eVar 2) (eTup (aCons (eTup (aCons (eTup (aCons (eC (.int 0)) (aCons (eC (.int 1)) (aNil)))) (aCons (eTup (aCons (eC (.int 0)) (aCons (eC (.int 1)) (aNil)))) (aNil)))) (aCons (eLst (aNil)) (aCons (eLst (aCons (eC (.int 1)) (aNil))) (aCons (eLst (aCons (eTup (aCons (eC (.int 0)) (aCons (eC (.int 1)) (aNil)))) (aNil))) (aCons (eDic0) (aCons (eTup (aCons (eC .non) (aNil))) (aCons (eTup (aCons (eTup (aNil)) (aNil))) (aCons (eBin oPow (eC (.int 10)) (eC (.int 20))) (aCons (eTup (aCons (eC (.int 0)) (aCons (eC (.int 1)) (aCons (eC (.int 2)) (aNil))))) (aCons (eTup (aCons (eC (.int 0)) (aCons (eC (.int 1)) (aCons (eC (.int 1)) (aNil))))) (aCons (eTup (aCons (eC (.int 1)) (aCons (eC (.int 0)) (aCons (eC (.int 1)) (aNil))))) (aNil)))))))))))))) (gNm 2))
  (sRet (eCall γ__law_one (aCons (eVar 0) (aCons (eBin oAdd (eVar 1) (eVar 2)) (aNil)))))))
/-- _law_is_whole(thing): slots 0 thing -/
def body__law_is_whole : ST := sRet (eAnd (eCall cIsiA (aCons (eVar 0) (aCons (eC (.ty "int")) (aNil)))) (eNot (eCall cIsiA (aCons (eVar 0) (aCons (eC (.ty "bool")) (aNil))))))
/-- _law_bent(well, thing): slots 0 well 1 thing 2 turn 3 way 4 path 5 here 6 at 7 whole -/
def body__law_bent (γ__law_draw γ__law_is_whole γ__law_odd : OL) : ST := sSeq (sPar 4 5 (aCons (eLstM (aNil)) (aCons (eVar 1) (aNil))))
  (sSeq (sFor (iRange1 (aCons (eCall γ__law_draw (aCons (eVar 0) (aCons (eC (.int 5)) (aNil)))) (aNil))) (gNm 2) (sSeq (sIf (tOr' (tNot' (tBl (eCall cIsiA (aCons (eVar 5) (aCons (eC (.ty "tuple")) (aNil)))))) (tBl (eBin oEq (eVar 5) (eTup (aNil))))) (sBreak) (sNext))
  (sSeq (sAsg (eCall γ__law_draw (aCons (eVar 0) (aCons (eCall cLen (aCons (eVar 5) (aNil))) (aNil)))) (gNm 6))
  (sSeq (sDrop (eMt mAppend (eVar 4) (aCons (eTup (aCons (eVar 5) (aCons (eVar 6) (aNil)))) (aNil))))
  (sAsg (eBin oIx (eVar 5) (eVar 6)) (gNm 5))))))
  (sSeq (sAsg (eCall γ__law_draw (aCons (eVar 0) (aCons (eC (.int 8)) (aNil)))) (gNm 3))
  (sSeq (sIf (tAnd' (tBl (eCall cIsiA (aCons (eVar 5) (aCons (eC (.ty "tuple")) (aNil))))) (tBl (eBin oLt (eVar 3) (eC (.int 5))))) (sAsg (eBin oIx (eTup (aCons (eCall cList (aCons (eVar 5) (aNil))) (aCons (eSl (eVar 5) (pNone) (pSome (eUn oNeg (eC (.int 1))))) (aCons (eBin oAdd (eVar 5) (eSl (eVar 5) (pNone) (pSome (eC (.int 1))))) (aCons (eSl (eVar 5) (pSome (eC (.int 1))) (pNone)) (aCons (eRev (eVar 5)) (aNil))))))) (eVar 3)) (gNm 5)) (sIf (tAnd' (tBl (eCall γ__law_is_whole (aCons (eVar 5) (aNil)))) (tBl (eBin oLt (eVar 3) (eC (.int 5))))) (sAsg (eBin oIx (eTup (aCons (eBin oAdd (eVar 5) (eC (.int 1))) (aCons (eBin oSub (eVar 5) (eC (.int 1))) (aCons (eBin oSub (eC (.int 0)) (eVar 5)) (aCons (eBin oGt (eVar 5) (eC (.int 0))) (aCons (eBin oSub (eC (.int 1)) (eVar 5)) (aNil))))))) (eVar 3)) (gNm 5)) (sAsg (eCall γ__law_odd (aCons (eVar 0) (aNil))) (gNm 5))))
  (sSeq (sFor (iSeq (eRev (eVar 4))) (gTupl 2 (gsCons (gNm 7) (gsCons (gNm 6) (gsNil)))) (sAsg (eBin oAdd (eBin oAdd (eSl (eVar 7) (pNone) (pSome (eVar 6))) (eTup (aCons (eVar 5) (aNil)))) (eSl (eVar 7) (pSome (eBin oAdd (eVar 6) (eC (.int 1)))) (pNone))) (gNm 5)))
  (sRet (eVar 5))))))
/-- _law_maybe(well, thing): slots 0 well 1 thing 2 way -/
def body__law_maybe (γ__law_draw γ__law_bent γ__law_odd : OL) : ST := sSeq (sAsg (eCall γ__law_draw (aCons (eVar 0) (aCons (eC (.int 10)) (aNil)))) (gNm 2))
  (sSeq (sIf (tBl (eBin oLt (eVar 2) (eC (.int 5)))) (sRet (eVar 1)) (sNext))
  (sRet (eIf (tBl (eBin oLt (eVar 2) (eC (.int 9)))) (eCall γ__law_bent (aCons (eVar 0) (aCons (eVar 1) (aNil)))) (eCall γ__law_odd (aCons (eVar 0) (aNil))))))
/-- _law_is_tuple(thing, few): slots 0 thing 1 few -/
def body__law_is_tuple : ST := sRet (eAnd (eCall cIsiA (aCons (eVar 0) (aCons (eC (.ty "tuple")) (aNil)))) (eBin oEq (eCall cLen (aCons (eVar 0) (aNil))) (eVar 1)))
/-- _law_is_part(thing): slots 0 thing -/
def body__law_is_part (γ__law_is_tuple γ__law_is_whole γ__law_lean : OL) : ST := sSeq (sIf (tOr' (tNot' (tBl (eCall γ__law_is_tuple (aCons (eVar 0) (aCons (eC (.int 2)) (aNil)))))) (tOr' (tNot' (tBl (eCall γ__law_is_whole (aCons (eBin oIx (eVar 0) (eC (.int 0))) (aNil))))) (tNot' (tBl (eCall γ__law_is_whole (aCons (eBin oIx (eVar 0) (eC (.int 1))) (aNil))))))) (sRet (eC (.bl false))) (sNext))
  (sRet (eAnd (eBin oGt (eBin oIx (eVar 0) (eC (.int 1))) (eC (.int 0))) (eBin oEq (eCall γ__law_lean (aCons (eBin oIx (eVar 0) (eC (.int 0))) (aCons (eBin oIx (eVar 0) (eC (.int 1))) (aNil)))) (eVar 0))))
/-- _law_is_row(thing, few): slots 0 thing 1 few 2 x -/
def body__law_is_row (γ__law_is_tuple γ__law_is_part : OL) : ST := sRet (eAnd (eCall γ__law_is_tuple (aCons (eVar 0) (aCons (eVar 1) (aNil)))) (eCall cAll (aCons (eLc (iSeq (eVar 0)) (gNm 2) (tYes') (eCall γ__law_is_part (aCons (eVar 2) (aNil))) [2]) (aNil))))
/-- _law_is_net(thing): slots 0 thing 1 few 2 at 3 row -/
def body__law_is_net (γ__law_is_tuple γ__law_is_row : OL) : ST := sSeq (sIf (tOr' (tNot' (tBl (eCall γ__law_is_tuple (aCons (eVar 0) (aCons (eC (.int 2)) (aNil)))))) (tOr' (tNot' (tBl (eCall cIsiA (aCons (eBin oIx (eVar 0) (eC (.int 0))) (aCons (eC (.ty "tuple")) (aNil)))))) (tNot' (tBl (eChain oLe oLe (eC (.int 1)) (eCall cLen (aCons (eBin oIx (eVar 0) (eC (.int 0))) (aNil))) (eC (.int 8))))))) (sRet (eC (.bl false))) (sNext))
  (sSeq (sAsg (eCall cLen (aCons (eBin oIx (eVar 0) (eC (.int 0))) (aNil))) (gNm 1))
  (sSeq (sIf (tOr' (tNot' (tBl (eCall γ__law_is_row (aCons (eBin oIx (eVar 0) (eC (.int 1))) (aCons (eVar 1) (aNil)))))) (tNot' (tBl (eCall cAll (aCons (eLc (iSeq (eBin oIx (eVar 0) (eC (.int 0)))) (gNm 3) (tYes') (eCall γ__law_is_row (aCons (eVar 3) (aCons (eVar 1) (aNil)))) [3]) (aNil)))))) (sRet (eC (.bl false))) (sNext))
  (sRet (eCall cAll (aCons (eLc (iRange1 (aCons (eVar 1) (aNil))) (gNm 2) (tYes') (eBin oEq (eBin oIx (eBin oIx (eBin oIx (eVar 0) (eC (.int 0))) (eVar 2)) (eVar 2)) (eTup (aCons (eC (.int 0)) (aCons (eC (.int 1)) (aNil))))) [2]) (aNil))))))
/-- is_tuple_of(value, many): slots 0 value 1 many -/
def body_is_tuple_of : ST := sRet (eAnd (eCall cIsiA (aCons (eVar 0) (aCons (eC (.ty "tuple")) (aNil)))) (eBin oEq (eCall cLen (aCons (eVar 0) (aNil))) (eVar 1)))
/-- is_whole(value): slots 0 value -/
def body_is_whole : ST := sRet (eAnd (eCall cIsiA (aCons (eVar 0) (aCons (eC (.ty "int")) (aNil)))) (eNot (eCall cIsiA (aCons (eVar 0) (aCons (eC (.ty "bool")) (aNil))))))
/-- is_ratio(value): slots 0 value -/
def body_is_ratio (γ_is_tuple_of γ_is_whole : OL) : ST := sSeq (sIf (tOr' (tNot' (tBl (eCall γ_is_tuple_of (aCons (eVar 0) (aCons (eC (.int 2)) (aNil)))))) (tOr' (tNot' (tBl (eCall γ_is_whole (aCons (eBin oIx (eVar 0) (eC (.int 0))) (aNil))))) (tNot' (tBl (eCall γ_is_whole (aCons (eBin oIx (eVar 0) (eC (.int 1))) (aNil))))))) (sRet (eC (.bl false))) (sNext))
  (sRet (eAnd (eBin oGt (eBin oIx (eVar 0) (eC (.int 1))) (eC (.int 0))) (eBin oEq (eCall cGcd (aCons (eBin oIx (eVar 0) (eC (.int 0))) (aCons (eBin oIx (eVar 0) (eC (.int 1))) (aNil)))) (eC (.int 1)))))
/-- is_row(value, many): slots 0 value 1 many 2 each -/
def body_is_row (γ_is_tuple_of γ_is_ratio : OL) : ST := sRet (eAnd (eCall γ_is_tuple_of (aCons (eVar 0) (aCons (eVar 1) (aNil)))) (eCall cAll (aCons (eLc (iSeq (eVar 0)) (gNm 2) (tYes') (eCall γ_is_ratio (aCons (eVar 2) (aNil))) [2]) (aNil))))
/-- is_net_by(value): slots 0 value 1 many 2 cell 3 row -/
def body_is_net_by (γ_is_tuple_of γ_is_row : OL) (d_MOST_CELLS d_ZERO : D) : ST := sSeq (sIf (tOr' (tNot' (tBl (eCall γ_is_tuple_of (aCons (eVar 0) (aCons (eC (.int 2)) (aNil)))))) (tOr' (tNot' (tBl (eCall cIsiA (aCons (eBin oIx (eVar 0) (eC (.int 0))) (aCons (eC (.ty "tuple")) (aNil)))))) (tNot' (tBl (eChain oLe oLe (eC (.int 1)) (eCall cLen (aCons (eBin oIx (eVar 0) (eC (.int 0))) (aNil))) (eC d_MOST_CELLS)))))) (sRet (eC (.bl false))) (sNext))
  (sSeq (sAsg (eCall cLen (aCons (eBin oIx (eVar 0) (eC (.int 0))) (aNil))) (gNm 1))
  (sSeq (sIf (tOr' (tNot' (tBl (eCall cAll (aCons (eLc (iSeq (eBin oIx (eVar 0) (eC (.int 0)))) (gNm 3) (tYes') (eCall γ_is_row (aCons (eVar 3) (aCons (eVar 1) (aNil)))) [3]) (aNil))))) (tNot' (tBl (eCall γ_is_row (aCons (eBin oIx (eVar 0) (eC (.int 1))) (aCons (eVar 1) (aNil))))))) (sRet (eC (.bl false))) (sNext))
  (sRet (eCall cAll (aCons (eLc (iRange1 (aCons (eVar 1) (aNil))) (gNm 2) (tYes') (eBin oEq (eBin oIx (eBin oIx (eBin oIx (eVar 0) (eC (.int 0))) (eVar 2)) (eVar 2)) (eC d_ZERO)) [2]) (aNil))))))
/-- is_net(value): slots 0 value -/
def body_is_net (γ_is_net_by : OL) : ST := sRet (eCall γ_is_net_by (aCons (eVar 0) (aNil)))
/-- _law_state(few, number): slots 0 few 1 number 2 at -/
def body__law_state : ST := sRet (eCall cTuple (aCons (eLc (iRange1 (aCons (eVar 0) (aNil))) (gNm 2) (tYes') (eBin oAnd (eBin oShr (eVar 1) (eVar 2)) (eC (.int 1))) [2]) (aNil)))
/-- _law_is_state(thing, few): slots 0 thing 1 few 2 bit -/
def body__law_is_state (γ__law_is_tuple γ__law_is_whole : OL) : ST := sRet (eAnd (eCall γ__law_is_tuple (aCons (eVar 0) (aCons (eVar 1) (aNil)))) (eCall cAll (aCons (eLc (iSeq (eVar 0)) (gNm 2) (tYes') (eAnd (eCall γ__law_is_whole (aCons (eVar 2) (aNil))) (eChain oLe oLe (eC (.int 0)) (eVar 2) (eC (.int 1)))) [2]) (aNil))))
/-- check_net(value): slots 0 value -/
def body_check_net (γ_is_net_by : OL) : ST := sIf (tNot' (tBl (eCall γ_is_net_by (aCons (eVar 0) (aNil))))) (sNever) (sNext)
/-- many_cells(net): slots 0 net -/
def body_many_cells : ST := sRet (eCall cLen (aCons (eBin oIx (eVar 0) (eC (.int 1))) (aNil)))
/-- is_between(value, low, high): slots 0 value 1 low 2 high -/
def body_is_between (γ_is_whole : OL) : ST := sRet (eAnd (eCall γ_is_whole (aCons (eVar 0) (aNil))) (eChain oLe oLe (eVar 1) (eVar 0) (eVar 2)))
/-- is_state_by(net, value): slots 0 net 1 value 2 each -/
def body_is_state_by (γ_is_tuple_of γ_many_cells γ_is_between : OL) : ST := sRet (eAnd (eCall γ_is_tuple_of (aCons (eVar 1) (aCons (eCall γ_many_cells (aCons (eVar 0) (aNil))) (aNil)))) (eCall cAll (aCons (eLc (iSeq (eVar 1)) (gNm 2) (tYes') (eCall γ_is_between (aCons (eVar 2) (aCons (eC (.int 0)) (aCons (eC (.int 1)) (aNil))))) [2]) (aNil))))
/-- is_state(net, value): slots 0 net 1 value -/
def body_is_state (γ_check_net γ_is_state_by : OL) : ST := sSeq (sDrop (eCall γ_check_net (aCons (eVar 0) (aNil))))
  (sRet (eCall γ_is_state_by (aCons (eVar 0) (aCons (eVar 1) (aNil)))))
/-- check_many(value, low, high): slots 0 value 1 low 2 high -/
def body_check_many (γ_is_between : OL) : ST := sIf (tNot' (tBl (eCall γ_is_between (aCons (eVar 0) (aCons (eVar 1) (aCons (eVar 2) (aNil))))))) (sNever) (sNext)
/-- check_number(net, value): slots 0 net 1 value -/
def body_check_number (γ_check_many γ_many_cells : OL) : ST := sDrop (eCall γ_check_many (aCons (eVar 1) (aCons (eC (.int 0)) (aCons (eBin oSub (eBin oShl (eC (.int 1)) (eCall γ_many_cells (aCons (eVar 0) (aNil)))) (eC (.int 1))) (aNil)))))
/-- state_by(many, number): slots 0 many 1 number 2 cell -/
def body_state_by : ST := sRet (eCall cTuple (aCons (eLc (iRange1 (aCons (eVar 0) (aNil))) (gNm 2) (tYes') (eBin oAnd (eBin oShr (eVar 1) (eVar 2)) (eC (.int 1))) [2]) (aNil)))
/-- state_of(net, number): slots 0 net 1 number -/
def body_state_of (γ_check_net γ_check_number γ_state_by γ_many_cells : OL) : ST := sSeq (sDrop (eCall γ_check_net (aCons (eVar 0) (aNil))))
  (sSeq (sDrop (eCall γ_check_number (aCons (eVar 0) (aCons (eVar 1) (aNil)))))
  (sRet (eCall γ_state_by (aCons (eCall γ_many_cells (aCons (eVar 0) (aNil))) (aCons (eVar 1) (aNil))))))
/-- check_state(net, value): slots 0 net 1 value -/
def body_check_state (γ_is_state_by : OL) : ST := sIf (tNot' (tBl (eCall γ_is_state_by (aCons (eVar 0) (aCons (eVar 1) (aNil)))))) (sNever) (sNext)
/-- check_both(net, state): slots 0 net 1 state -/
def body_check_both (γ_check_net γ_check_state : OL) : ST := sSeq (sDrop (eCall γ_check_net (aCons (eVar 0) (aNil))))
  (sDrop (eCall γ_check_state (aCons (eVar 0) (aCons (eVar 1) (aNil)))))
/-- number_by(state): slots 0 state 1 cell 2 each -/
def body_number_by : ST := sRet (eCall cSum (aCons (eLc (iEnumG (aCons (eVar 0) (aNil))) (gTupl 2 (gsCons (gNm 1) (gsCons (gNm 2) (gsNil)))) (tYes') (eBin oShl (eVar 2) (eVar 1)) [1, 2]) (aNil)))
/-- number_of(net, state): slots 0 net 1 state -/
def body_number_of (γ_check_both γ_number_by : OL) : ST := sSeq (sDrop (eCall γ_check_both (aCons (eVar 0) (aCons (eVar 1) (aNil)))))
  (sRet (eCall γ_number_by (aCons (eVar 1) (aNil))))
/-- _law_right(well): slots 0 well 1 turn 2 net 3 each 4 few 5 small 6 state 7 other 8 number 9 due 10 bit -/
def body__law_right (γ__law_net γ__law_one γ__law_odd γ__law_maybe γ__law_bent γ__law_is_net γ_is_net γ__law_draw γ__law_state γ__law_is_state γ_is_state γ_state_of γ_number_of : OL) : ST := sSeq (sFor (iRange1 (aCons (eC (.int 4)) (aNil))) (gNm 1) (sSeq (sAsg (eCall γ__law_net (aCons (eVar 0) (aCons (eCall γ__law_one (aCons (eVar 0) (aCons (eTup (aCons (eC (.int 1)) (aCons (eC (.int 2)) (aCons (eC (.int 3)) (aCons (eC (.int 3)) (aCons (eC (.int 4)) (aCons (eC (.int 8)) (aCons (eC (.int 9)) (aNil))))))))) (aNil)))) (aNil)))) (gNm 2))
  (sSeq (sFor (iSeq (eTup (aCons (eVar 2) (aCons (eCall γ__law_bent (aCons (eVar 0) (aCons (eVar 2) (aNil)))) (aCons (eCall γ__law_maybe (aCons (eVar 0) (aCons (eVar 2) (aNil)))) (aCons (eCall γ__law_odd (aCons (eVar 0) (aNil))) (aCons (eRev (eVar 2)) (aNil)))))))) (gNm 3) (sSeq (sAsg (eCall γ__law_is_net (aCons (eVar 3) (aNil))) (gNm 9))
  (sIf (tBl (eBin oNeS (eCall cRepr (aCons (eLst (aCons (eCall γ_is_net (aCons (eVar 3) (aNil))) (aCons (eCallK γ_is_net 0 1 [0] aNil (aCons (eVar 3) (aNil))) (aNil)))) (aNil))) (eCall cRepr (aCons (eLst (aCons (eVar 9) (aCons (eVar 9) (aNil)))) (aNil))))) (sRet (eC (.bl false))) (sNext))))
  (sSeq (sAsg (eBin oAdd (eC (.int 1)) (eCall γ__law_draw (aCons (eVar 0) (aCons (eC (.int 4)) (aNil))))) (gNm 4))
  (sSeq (sAsg (eCall γ__law_net (aCons (eVar 0) (aCons (eVar 4) (aNil)))) (gNm 5))
  (sSeq (sAsg (eCall γ__law_state (aCons (eVar 4) (aCons (eCall γ__law_draw (aCons (eVar 0) (aCons (eBin oShl (eC (.int 1)) (eVar 4)) (aNil)))) (aNil)))) (gNm 6))
  (sSeq (sAsg (eCall cTuple (aCons (eLc (iSeq (eVar 6)) (gNm 10) (tYes') (eBin oEq (eVar 10) (eC (.int 1))) [10]) (aNil))) (gNm 7))
  (sSeq (sFor (iSeq (eTup (aCons (eVar 6) (aCons (eCall γ__law_bent (aCons (eVar 0) (aCons (eVar 6) (aNil)))) (aCons (eCall γ__law_maybe (aCons (eVar 0) (aCons (eVar 6) (aNil)))) (aCons (eCall γ__law_odd (aCons (eVar 0) (aNil))) (aCons (eVar 7) (aCons (eBin oAdd (eVar 6) (eTup (aCons (eC (.int 0)) (aNil)))) (aNil))))))))) (gNm 3) (sSeq (sAsg (eCall γ__law_is_state (aCons (eVar 3) (aCons (eVar 4) (aNil)))) (gNm 9))
  (sIf (tBl (eBin oNeS (eCall cRepr (aCons (eLst (aCons (eCall γ_is_state (aCons (eVar 5) (aCons (eVar 3) (aNil)))) (aCons (eCallK γ_is_state 0 2 [1, 0] aNil (aCons (eVar 3) (aCons (eVar 5) (aNil)))) (aNil)))) (aNil))) (eCall cRepr (aCons (eLst (aCons (eVar 9) (aCons (eVar 9) (aNil)))) (aNil))))) (sRet (eC (.bl false))) (sNext))))
  (sFor (iRange1 (aCons (eBin oShl (eC (.int 1)) (eVar 4)) (aNil))) (gNm 8) (sSeq (sAsg (eCall γ__law_state (aCons (eVar 4) (aCons (eVar 8) (aNil)))) (gNm 6))
  (sSeq (sIf (tBl (eBin oNeS (eCall cRepr (aCons (eLst (aCons (eCall γ_state_of (aCons (eVar 5) (aCons (eVar 8) (aNil)))) (aCons (eCallK γ_state_of 0 2 [1, 0] aNil (aCons (eVar 8) (aCons (eVar 5) (aNil)))) (aNil)))) (aNil))) (eCall cRepr (aCons (eLst (aCons (eVar 6) (aCons (eVar 6) (aNil)))) (aNil))))) (sRet (eC (.bl false))) (sNext))
  (sIf (tBl (eBin oNeS (eCall cRepr (aCons (eLst (aCons (eCall γ_number_of (aCons (eVar 5) (aCons (eVar 6) (aNil)))) (aCons (eCallK γ_number_of 0 2 [1, 0] aNil (aCons (eVar 6) (aCons (eVar 5) (aNil)))) (aNil)))) (aNil))) (eCall cRepr (aCons (eLst (aCons (eVar 8) (aCons (eVar 8) (aNil)))) (aNil))))) (sRet (eC (.bl false))) (sNext)))))))))))))
  (sRet (eC (.bl true)))
/-- _law_well(script, lap): slots 0 script 1 lap 2 mixed 3 cell 4 own -/
def body__law_well : ST := sSeq (sAsg (eBin oAdd (eC (.int 30013)) (eBin oMul (eC (.int 7919)) (eVar 1))) (gNm 2))
  (sSeq (sFor (iSeq (eSl (eVar 0) (pNone) (pSome (eC (.int 10))))) (gNm 3) (sAsg (eBin oMod (eCall cInt (aCons (eBin oAdd (eBin oAdd (eBin oMul (eVar 2) (eC (.int 52361))) (eBin oMul (eBin oMod (eCall cInt (aCons (eVar 3) (aNil))) (eC (.int 2147483489))) (eC (.int 7)))) (eC (.int 19))) (aNil))) (eC (.int 2147483489))) (gNm 2)))
  (sSeq (sAsg (eIf (tBl (eBin oLt (eVar 1) (eCall cLen (aCons (eVar 0) (aNil))))) (eCall cInt (aCons (eBin oIx (eVar 0) (eVar 1)) (aNil))) (eC (.int 0))) (gNm 4))
  (sSeq (sAsg (eBin oMod (eCall cInt (aCons (eBin oAdd (eBin oAdd (eBin oMul (eVar 2) (eC (.int 47))) (eBin oMul (eBin oMod (eCall cInt (aCons (eVar 4) (aNil))) (eC (.int 2147483489))) (eC (.int 30109)))) (eC (.int 5))) (aNil))) (eC (.int 2147483489))) (gNm 2))
  (sRet (eLstM (aCons (eIf (tOr' (tBl (eBin oLt (eVar 4) (eC (.int 0)))) (tBl (eBin oGe (eVar 4) (eBin oPow (eC (.int 10)) (eC (.int 14)))))) (eCall cAbs (aCons (eVar 4) (aNil))) (eC (.int 0))) (aCons (eVar 2) (aCons (eC (.int 0)) (aNil)))))))))
/-- law(script): slots 0 script 1 lap -/
def body_law (γ__law_right γ__law_well : OL) : ST := sRet (eCall cAll (aCons (eLc (iRange1 (aCons (eCall cMax2 (aCons (eC (.int 2)) (aCons (eCall cMin2 (aCons (eCall cLen (aCons (eVar 0) (aNil))) (aCons (eC (.int 4)) (aNil)))) (aNil)))) (aNil))) (gNm 1) (tYes') (eCall γ__law_right (aCons (eCall γ__law_well (aCons (eVar 0) (aCons (eVar 1) (aNil)))) (aNil))) [1]) (aNil)))
end K02

--W5
/-! k02: what the law asks. -/
namespace K02
open PySem L2 Gx
local macro_rules | `(tactic| simp_arith [$xs,*]) => `(tactic| try simp only [eVar, eC, eBin, eUn, tBl, tAnd', tOr', tNot', eAnd, eOr, eNot, eIf, aNil, aCons, eTup, eLst, eLstM, eCall, eCallK, pick, sNext, sSeq, sBreak, sCont, sDrop, sRet, sRetN, sIf, sNever, gNm, gsNil, gsCons, gTupl, gSubs, sAsg, sPar, sPar3, sFor, iSeq, seqG_tup, seqG_lst, seqG_scr, iRange1, iRange2, iEnumG, iZipG, td_tup, td_lst, td_scr, eLc, eLcM, tYes', pNone, pSome, eSl, cu_tup, cu_lst, cu_scr, eMt, eMt0, mAppend, isL, rs_non, rs_bl, rs_int, rs_str, rs_tup, rs_lst', rs_scr, itemsOf_tup, itemsOf_lst, itemsOf_scr, oI, oI0, oSub, oFdiv, oMod, oPow, oShl, oShr, oAnd, oOr, oXor, oLt, oLe, oGt, oGe, oNeg, oIsN, oNotN, Gx.isNon, oAdd, oAdd', oMul, oMul', oMulM, oEq, oNe, oEqS, oNeS, oIn, oNin, eChain, oIx, oSet, cLen, cList, cListM, cTuple, cSum, cAll, cAny, cInt, cAbs, cMax2, cMin2, cDivmod, cGcd, cIsi, cRepr, lstInts, lstBls, startD, wipeD, List.map_cons, List.map_nil, List.length_cons, List.length_nil, List.cons_append, List.nil_append, List.replicate_succ, List.replicate_zero, List.set_cons_succ, List.set_cons_zero, List.getElem?_cons_succ, List.getElem?_cons_zero, List.filterMap_cons_some, List.filterMap_nil, Nat.reduceAdd, Nat.reduceSub, Nat.sub_self, Nat.reduceLT, Nat.reduceMul, Nat.zero_add, Nat.add_zero, if_true, if_false, and_true, true_and, and_false, false_and, or_true, true_or, or_false, false_or, not_true_eq_false, not_false_eq_true, Bool.not_true, Bool.not_false, Bool.false_eq_true, ite_true, ite_false, reduceIte, reduceCtorEq, eq_self, aStar, eLstRg, eDicT0, eDixT, gSubsT, keysOf, cListT, cSortedP, oSubB, oMulT, iZip2G, eDic0, eDic1, oDix, oDin, oDnin, oDset, iKeysG, cSortedE, cListD, Gx.keyOf, cMaxL, cMinL, cSortedI, mIndex, eSortSet, eLenT, tBi, oIsB, cSumT, eBits, eLenI, $xs,*])
theorem law_weight' : Law 2 (γ_frac (Bd 1000000 6)) (body__law_weight γ_draw γ_one γ_ratio) := by
  refine law_weight (xs := [.tup [.int 0, .int 1], .tup [.int 0, .int 1], .tup [.int 1, .int 1], .tup [.int (-1), .int 1], .tup [.int 2, .int 1], .tup [.int (-2), .int 1], .tup [.int 1, .int 2], .tup [.int (-1), .int 2], .tup [.int 3, .int 1], .tup [.int 0, .int 1]]) (by repeat' (first | exact kc_c _ | exact kc_neg _ | exact kca_nil | refine kca_cons ?_ ?_ | refine kc_tup ?_)) (by decide) (by decide)
theorem law_mark' : Law 1 (γ_frac (Bd 3 2)) (body__law_mark γ_one) := by
  refine law_mark (xs := [.tup [.int 0, .int 1], .tup [.int 1, .int 2], .tup [.int (-1), .int 2], .tup [.int 1, .int 1], .tup [.int 0, .int 1], .tup [.int (-1), .int 1], .tup [.int 3, .int 2], .tup [.int 2, .int 1], .tup [.int 1, .int 3], .tup [.int (-5), .int 2]]) (by repeat' (first | exact kc_c _ | exact kc_neg _ | exact kca_nil | refine kca_cons ?_ ?_ | refine kc_tup ?_)) (by decide) (by decide)
theorem law_net9' : Law 7 (γ_net9 (Bd 1000000 6) (Bd 3 2)) (body__law_net (γ_frac (Bd 1000000 6)) (γ_frac (Bd 3 2))) := law_net9 ⟨by decide, by decide⟩
def nets_bd (γ__law_is_net γ_is_net : OL) : ST := sSeq (sAsg (eCall γ__law_is_net (aCons (eVar 3) (aNil))) (gNm 9))
  (sIf (tBl (eBin oNeS (eCall cRepr (aCons (eLst (aCons (eCall γ_is_net (aCons (eVar 3) (aNil))) (aCons (eCallK γ_is_net 0 1 [0] aNil (aCons (eVar 3) (aNil))) (aNil)))) (aNil))) (eCall cRepr (aCons (eLst (aCons (eVar 9) (aCons (eVar 9) (aNil)))) (aNil))))) (sRet (eC (.bl false))) (sNext))
theorem two_rp {b : Bool} : rpOk (.lst [.bl b, .bl b]) := (rp_lst2 (k := 0) rp_bl rp_bl).rp (by decide) (by decide)
theorem nets_loop {x0 x1 x2 x4 x5 x6 x7 x8 x10 : Option D} {S : Sto} (G : EndG) (hG : ∀ x3 x9, G.nx [x0, x1, x2, x3, x4, x5, x6, x7, x8, x9, x10] S) : ∀ (items : List D) x3 x9, (∀ x ∈ items, AN S x) →
    forG (gNm 3) (nets_bd γ_lnetA γ_isnetA) (fun _ => True) items G [x0, x1, x2, x3, x4, x5, x6, x7, x8, x9, x10] S
  | [], x3, x9, _ => ⟨trivial, hG _ _⟩
  | y :: ys, x3, x9, h => by
    refine ⟨trivial, ?_⟩
    show gNm 3 y _ _ _
    have hy := h y List.mem_cons_self
    have next := fun x3 x9 => nets_loop G hG ys x3 x9 fun x hx => h x (List.mem_cons_of_mem _ hx)
    unfold nets_bd γ_lnetA γ_isnetA γ_netA
    simp_arith []
    refine ⟨y, rfl, hy 4, y, rfl, (hy 4).an, y, rfl, (hy 4).an, ?_⟩
    refine ⟨by decide, two_rp, by decide, two_rp, ?_⟩
    simp_arith [not_dec_self]
    exact next _ _
def states_bd (γ__law_is_state γ_is_state : OL) : ST := sSeq (sAsg (eCall γ__law_is_state (aCons (eVar 3) (aCons (eVar 4) (aNil)))) (gNm 9))
  (sIf (tBl (eBin oNeS (eCall cRepr (aCons (eLst (aCons (eCall γ_is_state (aCons (eVar 5) (aCons (eVar 3) (aNil)))) (aCons (eCallK γ_is_state 0 2 [1, 0] aNil (aCons (eVar 3) (aCons (eVar 5) (aNil)))) (aNil)))) (aNil))) (eCall cRepr (aCons (eLst (aCons (eVar 9) (aCons (eVar 9) (aNil)))) (aNil))))) (sRet (eC (.bl false))) (sNext))
theorem states_loop {x0 x1 x2 x6 x7 x8 x10 : Option D} {S : Sto} {N : Net} (ok : N.Ok) (G : EndG) (hG : ∀ x3 x9, G.nx [x0, x1, x2, x3, some (.int N.n), some (encN N), x6, x7, x8, x9, x10] S) : ∀ (items : List D) x3 x9, (∀ x ∈ items, AN S x) →
    forG (gNm 3) (states_bd γ_lstA γ_isstA) (fun _ => True) items G [x0, x1, x2, x3, some (.int N.n), some (encN N), x6, x7, x8, x9, x10] S
  | [], x3, x9, _ => ⟨trivial, hG _ _⟩
  | y :: ys, x3, x9, h => by
    refine ⟨trivial, ?_⟩
    show gNm 3 y _ _ _
    have hy := h y List.mem_cons_self
    have h8 := ok.few
    have next := fun x3 x9 => states_loop ok G hG ys x3 x9 fun x hx => h x (List.mem_cons_of_mem _ hx)
    unfold states_bd γ_lstA γ_isstA
    simp_arith []
    refine ⟨y, N.n, rfl, ⟨by omega, (hy 1).an⟩, N, y, rfl, ⟨ok, (hy 1).an⟩, N, y, rfl, ⟨ok, (hy 1).an⟩, ?_⟩
    refine ⟨by decide, two_rp, by decide, two_rp, ?_⟩
    simp_arith [not_dec_self]
    exact next _ _
def nums_bd (γ__law_state γ_state_of γ_number_of : OL) : ST := sSeq (sAsg (eCall γ__law_state (aCons (eVar 4) (aCons (eVar 8) (aNil)))) (gNm 6))
  (sSeq (sIf (tBl (eBin oNeS (eCall cRepr (aCons (eLst (aCons (eCall γ_state_of (aCons (eVar 5) (aCons (eVar 8) (aNil)))) (aCons (eCallK γ_state_of 0 2 [1, 0] aNil (aCons (eVar 8) (aCons (eVar 5) (aNil)))) (aNil)))) (aNil))) (eCall cRepr (aCons (eLst (aCons (eVar 6) (aCons (eVar 6) (aNil)))) (aNil))))) (sRet (eC (.bl false))) (sNext))
  (sIf (tBl (eBin oNeS (eCall cRepr (aCons (eLst (aCons (eCall γ_number_of (aCons (eVar 5) (aCons (eVar 6) (aNil)))) (aCons (eCallK γ_number_of 0 2 [1, 0] aNil (aCons (eVar 6) (aCons (eVar 5) (aNil)))) (aNil)))) (aNil))) (eCall cRepr (aCons (eLst (aCons (eVar 8) (aCons (eVar 8) (aNil)))) (aNil))))) (sRet (eC (.bl false))) (sNext)))
theorem nums_loop {x0 x1 x2 x3 x7 x9 x10 : Option D} {S : Sto} {N : Net} (ok : N.Ok) (G : EndG) (hG : ∀ x6 x8, G.nx [x0, x1, x2, x3, some (.int N.n), some (encN N), x6, x7, x8, x9, x10] S) : ∀ (m j : Nat) x6 x8, j + m ≤ 2 ^ N.n →
    forG (gNm 8) (nums_bd γ_state_by γ_stofA γ_nuofA) (fun _ => True) (rngD j m) G [x0, x1, x2, x3, some (.int N.n), some (encN N), x6, x7, x8, x9, x10] S
  | 0, j, x6, x8, _ => ⟨trivial, hG _ _⟩
  | m + 1, j, x6, x8, hj => by
    refine ⟨trivial, ?_⟩
    show gNm 8 (.int j) _ _ _
    have h8 := ok.few
    have e1 : ((j : Int) + 1) = ((j + 1 : Nat) : Int) := by omega
    have hk : j < 2 ^ N.n := by omega
    have next := fun x6 x8 => nums_loop ok G hG m (j + 1) x6 x8 (by omega)
    unfold nums_bd γ_state_by γ_stofA γ_nuofA
    simp_arith []
    refine ⟨N.n, j, rfl, by omega, N, j, rfl, ⟨ok, hk⟩, N, j, rfl, ⟨ok, hk⟩, ?_⟩
    have rp1 := rp_S (stateOf N.n j)
    have ln := stateOf_length N.n j
    have rs2 : rpOk (.lst [encS (stateOf N.n j), encS (stateOf N.n j)]) := (rp_lst2 rp1 rp1).rp (by decide) (by omega)
    have hpow : 2 ^ N.n ≤ 2 ^ 8 := Nat.pow_le_pow_right (by decide) h8
    have rpi : RP 0 0 (.int (j : Nat)) := rp_int (by rw [Int.natAbs_natCast]; exact Nat.lt_of_lt_of_le (show j < 256 by omega) (by decide))
    have rn2 : rpOk (.lst [.int (j : Nat), .int (j : Nat)]) := (rp_lst2 rpi rpi).rp (by decide) (by decide)
    refine ⟨by decide, rs2, by decide, rs2, ?_⟩
    simp_arith [not_dec_self]
    refine ⟨N, _, rfl, ⟨ok, ln⟩, N, _, rfl, ⟨ok, ln⟩, by decide, ?_⟩
    rw [numOf_stateOf _ _ hk]
    refine ⟨rn2, by decide, rn2, ?_⟩
    simp_arith [not_dec_self]
    rw [e1]
    exact next _ _
end K02

--W5
/-! k02: one lap, and the law. -/
namespace K02
open PySem L2 Gx
local macro_rules | `(tactic| simp_arith [$xs,*]) => `(tactic| try simp only [eVar, eC, eBin, eUn, tBl, tAnd', tOr', tNot', eAnd, eOr, eNot, eIf, aNil, aCons, eTup, eLst, eLstM, eCall, eCallK, pick, sNext, sSeq, sBreak, sCont, sDrop, sRet, sRetN, sIf, sNever, gNm, gsNil, gsCons, gTupl, gSubs, sAsg, sPar, sPar3, sFor, iSeq, seqG_tup, seqG_lst, seqG_scr, iRange1, iRange2, iEnumG, iZipG, td_tup, td_lst, td_scr, eLc, eLcM, tYes', pNone, pSome, eSl, cu_tup, cu_lst, cu_scr, eMt, eMt0, mAppend, isL, rs_non, rs_bl, rs_int, rs_str, rs_tup, rs_lst', rs_scr, itemsOf_tup, itemsOf_lst, itemsOf_scr, oI, oI0, oSub, oFdiv, oMod, oPow, oShl, oShr, oAnd, oOr, oXor, oLt, oLe, oGt, oGe, oNeg, oIsN, oNotN, Gx.isNon, oAdd, oAdd', oMul, oMul', oMulM, oEq, oNe, oEqS, oNeS, oIn, oNin, eChain, oIx, oSet, cLen, cList, cListM, cTuple, cSum, cAll, cAny, cInt, cAbs, cMax2, cMin2, cDivmod, cGcd, cIsi, cRepr, lstInts, lstBls, startD, wipeD, List.map_cons, List.map_nil, List.length_cons, List.length_nil, List.cons_append, List.nil_append, List.replicate_succ, List.replicate_zero, List.set_cons_succ, List.set_cons_zero, List.getElem?_cons_succ, List.getElem?_cons_zero, List.filterMap_cons_some, List.filterMap_nil, Nat.reduceAdd, Nat.reduceSub, Nat.sub_self, Nat.reduceLT, Nat.reduceMul, Nat.zero_add, Nat.add_zero, if_true, if_false, and_true, true_and, and_false, false_and, or_true, true_or, or_false, false_or, not_true_eq_false, not_false_eq_true, Bool.not_true, Bool.not_false, Bool.false_eq_true, ite_true, ite_false, reduceIte, reduceCtorEq, eq_self, aStar, eLstRg, eDicT0, eDixT, gSubsT, keysOf, cListT, cSortedP, oSubB, oMulT, iZip2G, eDic0, eDic1, oDix, oDin, oDnin, oDset, iKeysG, cSortedE, cListD, Gx.keyOf, cMaxL, cMinL, cSortedI, mIndex, eSortSet, eLenT, tBi, oIsB, cSumT, eBits, eLenI, $xs,*])
def turn_bd (γ__law_net γ__law_one γ__law_odd γ__law_maybe γ__law_bent γ__law_is_net γ_is_net γ__law_draw γ__law_state γ__law_is_state γ_is_state γ_state_of γ_number_of : OL) : ST := sSeq (sAsg (eCall γ__law_net (aCons (eVar 0) (aCons (eCall γ__law_one (aCons (eVar 0) (aCons (eTup (aCons (eC (.int 1)) (aCons (eC (.int 2)) (aCons (eC (.int 3)) (aCons (eC (.int 3)) (aCons (eC (.int 4)) (aCons (eC (.int 8)) (aCons (eC (.int 9)) (aNil))))))))) (aNil)))) (aNil)))) (gNm 2))
  (sSeq (sFor (iSeq (eTup (aCons (eVar 2) (aCons (eCall γ__law_bent (aCons (eVar 0) (aCons (eVar 2) (aNil)))) (aCons (eCall γ__law_maybe (aCons (eVar 0) (aCons (eVar 2) (aNil)))) (aCons (eCall γ__law_odd (aCons (eVar 0) (aNil))) (aCons (eRev (eVar 2)) (aNil)))))))) (gNm 3) (sSeq (sAsg (eCall γ__law_is_net (aCons (eVar 3) (aNil))) (gNm 9))
  (sIf (tBl (eBin oNeS (eCall cRepr (aCons (eLst (aCons (eCall γ_is_net (aCons (eVar 3) (aNil))) (aCons (eCallK γ_is_net 0 1 [0] aNil (aCons (eVar 3) (aNil))) (aNil)))) (aNil))) (eCall cRepr (aCons (eLst (aCons (eVar 9) (aCons (eVar 9) (aNil)))) (aNil))))) (sRet (eC (.bl false))) (sNext))))
  (sSeq (sAsg (eBin oAdd (eC (.int 1)) (eCall γ__law_draw (aCons (eVar 0) (aCons (eC (.int 4)) (aNil))))) (gNm 4))
  (sSeq (sAsg (eCall γ__law_net (aCons (eVar 0) (aCons (eVar 4) (aNil)))) (gNm 5))
  (sSeq (sAsg (eCall γ__law_state (aCons (eVar 4) (aCons (eCall γ__law_draw (aCons (eVar 0) (aCons (eBin oShl (eC (.int 1)) (eVar 4)) (aNil)))) (aNil)))) (gNm 6))
  (sSeq (sAsg (eCall cTuple (aCons (eLc (iSeq (eVar 6)) (gNm 10) (tYes') (eBin oEq (eVar 10) (eC (.int 1))) [10]) (aNil))) (gNm 7))
  (sSeq (sFor (iSeq (eTup (aCons (eVar 6) (aCons (eCall γ__law_bent (aCons (eVar 0) (aCons (eVar 6) (aNil)))) (aCons (eCall γ__law_maybe (aCons (eVar 0) (aCons (eVar 6) (aNil)))) (aCons (eCall γ__law_odd (aCons (eVar 0) (aNil))) (aCons (eVar 7) (aCons (eBin oAdd (eVar 6) (eTup (aCons (eC (.int 0)) (aNil)))) (aNil))))))))) (gNm 3) (sSeq (sAsg (eCall γ__law_is_state (aCons (eVar 3) (aCons (eVar 4) (aNil)))) (gNm 9))
  (sIf (tBl (eBin oNeS (eCall cRepr (aCons (eLst (aCons (eCall γ_is_state (aCons (eVar 5) (aCons (eVar 3) (aNil)))) (aCons (eCallK γ_is_state 0 2 [1, 0] aNil (aCons (eVar 3) (aCons (eVar 5) (aNil)))) (aNil)))) (aNil))) (eCall cRepr (aCons (eLst (aCons (eVar 9) (aCons (eVar 9) (aNil)))) (aNil))))) (sRet (eC (.bl false))) (sNext))))
  (sFor (iRange1 (aCons (eBin oShl (eC (.int 1)) (eVar 4)) (aNil))) (gNm 8) (sSeq (sAsg (eCall γ__law_state (aCons (eVar 4) (aCons (eVar 8) (aNil)))) (gNm 6))
  (sSeq (sIf (tBl (eBin oNeS (eCall cRepr (aCons (eLst (aCons (eCall γ_state_of (aCons (eVar 5) (aCons (eVar 8) (aNil)))) (aCons (eCallK γ_state_of 0 2 [1, 0] aNil (aCons (eVar 8) (aCons (eVar 5) (aNil)))) (aNil)))) (aNil))) (eCall cRepr (aCons (eLst (aCons (eVar 6) (aCons (eVar 6) (aNil)))) (aNil))))) (sRet (eC (.bl false))) (sNext))
  (sIf (tBl (eBin oNeS (eCall cRepr (aCons (eLst (aCons (eCall γ_number_of (aCons (eVar 5) (aCons (eVar 6) (aNil)))) (aCons (eCallK γ_number_of 0 2 [1, 0] aNil (aCons (eVar 6) (aCons (eVar 5) (aNil)))) (aNil)))) (aNil))) (eCall cRepr (aCons (eLst (aCons (eVar 8) (aCons (eVar 8) (aNil)))) (aNil))))) (sRet (eC (.bl false))) (sNext)))))))))))
theorem turn_one {p : Addr} {S0 S : Sto} (G : EndG) (hG : ∀ x1 x2 x3 x4 x5 x6 x7 x8 x9 x10 S', Drx p S0 S' → G.nx [some (.ref p), x1, x2, x3, x4, x5, x6, x7, x8, x9, x10] S') {x1 x2 x3 x4 x5 x6 x7 x8 x9 x10 : Option D} (dr : Drx p S0 S) :
    turn_bd (γ_net9 (Bd 1000000 6) (Bd 3 2)) γ_one γ_oddA γ_maybeA γ_bentA γ_lnetA γ_isnetA γ_draw γ_state_by γ_lstA γ_isstA γ_stofA γ_nuofA G [some (.ref p), x1, x2, x3, x4, x5, x6, x7, x8, x9, x10] S := by
  unfold turn_bd
  refine seqK fun k hk => ?_
  unfold γ_one
  simp_arith []
  refine ⟨by decide, p, _, _, rfl, rfl, dr.well, ⟨by decide, by decide⟩, fun e S1 he d1 => ?_⟩
  obtain ⟨n, rfl, n1, n9⟩ : ∃ n : Nat, e = .int n ∧ 1 ≤ n ∧ n ≤ 9 := by
    simp only [List.mem_cons, List.not_mem_nil, or_false] at he
    rcases he with rfl | rfl | rfl | rfl | rfl | rfl | rfl
    · exact ⟨1, rfl, by decide, by decide⟩
    · exact ⟨2, rfl, by decide, by decide⟩
    · exact ⟨3, rfl, by decide, by decide⟩
    · exact ⟨3, rfl, by decide, by decide⟩
    · exact ⟨4, rfl, by decide, by decide⟩
    · exact ⟨8, rfl, by decide, by decide⟩
    · exact ⟨9, rfl, by decide, by decide⟩
  refine ⟨p, n, rfl, d1.well, ⟨n1, n9⟩, fun N S2 okN hs hr hn dN d2 => ?_⟩
  rw [hk]
  have okw1 := okw_N dN (by omega) hs hr
  refine seqK fun k2 hk2 => ?_
  unfold γ_maybeA γ_bentA γ_oddA
  simp_arith []
  refine ⟨p, _, rfl, ⟨okw1, d2.well⟩, fun e1 S3 a1 d3 => ⟨p, _, rfl, ⟨okw1, d3.well⟩, fun e2 S4 a2 d4 => ⟨p, rfl, d4.well, fun e3 S5 a3 d5 => ?_⟩⟩⟩
  simp_arith [eRev, rs_N, encN]
  refine ⟨by decide, nets_loop _ (fun x3 x9 => ?_) _ _ _ (fun x hx => ?_)⟩
  rotate_left
  · simp only [List.reverse_cons, List.reverse_nil, List.nil_append, List.cons_append, List.mem_cons, List.not_mem_nil, or_false] at hx
    rcases hx with rfl | rfl | rfl | rfl | rfl
    · exact okw_an okw1
    · exact (a1.go d3.well d4).go d4.well d5
    · exact a2.go d4.well d5
    · exact a3
    · refine .tup fun x hx => okw_an (okw_sub okw1 x ?_)
      simp only [List.mem_cons, List.not_mem_nil, or_false] at hx ⊢
      exact hx.symm
  have dr5 : Drx p S0 S5 := ((((dr.trans d1.drx).trans d2.drx).trans d3).trans d4).trans d5
  show k2 _ _
  rw [hk2]
  refine seqK fun k3 hk3 => ?_
  unfold γ_draw
  simp_arith []
  refine ⟨p, _, rfl, d5.well, ⟨by decide, by decide⟩, fun r S6 r0 r1 d6 => ?_⟩
  obtain ⟨m, em, m1, m4⟩ : ∃ m : Nat, 1 + r = (m : Int) ∧ 1 ≤ m ∧ m ≤ 4 := ⟨(1 + r).toNat, by omega, by omega, by omega⟩
  rw [em, hk3]
  refine seqK fun k4 hk4 => ?_
  simp_arith []
  refine ⟨p, m, rfl, d6.well, ⟨m1, by omega⟩, fun N2 S7 ok2 hs2 hr2 hn2 dN2 d7 => ?_⟩
  have ok := ok2 (by omega)
  subst hn2
  rw [hk4]
  refine seqK fun k5 hk5 => ?_
  unfold γ_draw γ_state_by
  simp_arith []
  have h8 := ok.few
  have epw : (1 : Int) * 2 ^ ((N2.n : Nat) : Int).toNat = ((2 ^ N2.n : Nat) : Int) := by rw [Int.toNat_natCast, Int.one_mul, Int.natCast_pow]; rfl
  have hpow : 2 ^ N2.n ≤ 2 ^ 8 := Nat.pow_le_pow_right (by decide) h8
  have hpos : 0 < 2 ^ N2.n := Nat.pow_pos (by decide)
  rw [epw]
  refine ⟨(shl_rng h8).1, p, _, rfl, d7.well, ⟨by omega, by omega⟩, fun w S8 w0 w1 d8 => ?_⟩
  obtain ⟨w, rfl⟩ := Int.eq_ofNat_of_zero_le w0
  refine ⟨N2.n, w, rfl, by omega, ?_⟩
  have ls := stateOf_length N2.n w
  generalize stateOf N2.n w = s at ls ⊢
  rw [hk5]
  refine seqK fun k6 hk6 => ?_
  simp_arith [encS]
  refine cmp_map (fun x => .bl (eqD x (.int 1))) (s.map encB) [] (fun x hx Q hq => ?_) trivial (sz1000 (by rw [List.length_nil, List.length_map]; omega)) ?_
  · obtain ⟨b, _, rfl⟩ := List.mem_map.mp hx
    simp_arith [wipeD, encB]
    exact ⟨⟨pl_int, pl_int⟩, hq⟩
  rw [List.nil_append]
  simp_arith []
  rw [hk6]
  refine seqK fun k7 hk7 => ?_
  unfold γ_maybeA γ_bentA γ_oddA
  have oks : okw 20 (encS s) = true := okw_S (by omega)
  simp_arith []
  refine ⟨p, _, rfl, ⟨oks, d8.well⟩, fun e4 S9 a4 d9 => ⟨p, _, rfl, ⟨oks, d9.well⟩, fun e5 S10 a5 d10 => ⟨p, rfl, d10.well, fun e6 S11 a6 d11 => ?_⟩⟩⟩
  simp_arith []
  refine ⟨by decide, sz1000 (by rw [List.length_map]; omega), by decide, states_loop ok _ (fun x3 x9 => ?_) _ _ _ (fun x hx => ?_)⟩
  rotate_left
  · simp only [List.mem_cons, List.not_mem_nil, or_false] at hx
    rcases hx with rfl | rfl | rfl | rfl | rfl | rfl
    · exact okw_an oks
    · exact (a4.go d9.well d10).go d10.well d11
    · exact a5.go d10.well d11
    · exact a6
    · refine .tup fun x hx => ?_
      obtain ⟨y, _, rfl⟩ := List.mem_map.mp hx
      exact .bl
    · refine .tup fun x hx => ?_
      rcases List.mem_append.mp hx with hx | hx
      · exact okw_an (okw_sub oks x hx)
      · rw [List.mem_singleton] at hx
        subst hx
        exact .int (small_int (by decide))
  have dr11 : Drx p S0 S11 := (((((dr5.trans d6.drx).trans d7.drx).trans d8.drx).trans d9).trans d10).trans d11
  show k7 _ _
  rw [hk7]
  simp_arith []
  rw [epw]
  refine ⟨(shl_rng h8).1, ⟨by omega, by omega⟩, ?_⟩
  rw [Int.toNat_natCast]
  exact nums_loop ok _ (fun x6 x8 => hG _ _ _ _ _ _ _ _ _ _ _ dr11) (2 ^ N2.n) 0 _ _ (by omega)
theorem turn_loop {p : Addr} {S0 : Sto} (G : EndG) (hG : ∀ x1 x2 x3 x4 x5 x6 x7 x8 x9 x10 S', Drx p S0 S' → G.nx [some (.ref p), x1, x2, x3, x4, x5, x6, x7, x8, x9, x10] S') : ∀ (items : List D) x1 x2 x3 x4 x5 x6 x7 x8 x9 x10 S, Drx p S0 S →
    forG (gNm 1) (turn_bd (γ_net9 (Bd 1000000 6) (Bd 3 2)) γ_one γ_oddA γ_maybeA γ_bentA γ_lnetA γ_isnetA γ_draw γ_state_by γ_lstA γ_isstA γ_stofA γ_nuofA) (fun _ => True) items G [some (.ref p), x1, x2, x3, x4, x5, x6, x7, x8, x9, x10] S
  | [], _, _, _, _, _, _, _, _, _, _, _, dr => ⟨trivial, hG _ _ _ _ _ _ _ _ _ _ _ dr⟩
  | y :: ys, x1, x2, x3, x4, x5, x6, x7, x8, x9, x10, S, dr => by
    refine ⟨trivial, ?_⟩
    show gNm 1 y _ _ _
    simp only [gNm, List.set_cons_succ, List.set_cons_zero]
    exact turn_one _ (fun _ _ _ _ _ _ _ _ _ _ S' d => turn_loop G hG ys _ _ _ _ _ _ _ _ _ _ S' d) dr
def γ_lap : OL := fun ds S R => ∃ p : Addr, ds = [.ref p] ∧ Well p S ∧ ∀ S', Drw p S S' → R (.bl true) S'
open Classical in
theorem law_right : Law 11 γ_lap (body__law_right (γ_net9 (Bd 1000000 6) (Bd 3 2)) γ_one γ_oddA γ_maybeA γ_bentA γ_lnetA γ_isnetA γ_draw γ_state_by γ_lstA γ_isstA γ_stofA γ_nuofA) := by
  intro ds S R ⟨p, e, hw, h⟩
  subst e
  unfold body__law_right
  refine seqK fun k hk => ?_
  simp only [sFor, iRange1, aCons, aNil, eC]
  refine ⟨by decide, ?_⟩
  refine turn_loop _ (fun x1 x2 x3 x4 x5 x6 x7 x8 x9 x10 S' d => ?_) [.int 0, .int 1, .int 2, .int 3] none none none none none none none none none none S (.refl hw)
  show k _ S'
  rw [hk]
  simp_arith []
  refine fin_drw (p := p) (S := S) (S' := fun b => if b = p then S' p else S b) (h _ ⟨fun b hb => if_neg hb, ?_⟩) (fun a o e => ?_)
  · obtain ⟨a, b, c, e⟩ := d.well
    exact ⟨a, b, c, by show (if p = p then S' p else S p) = _; rw [if_pos rfl]; exact e⟩
  · by_cases z : a = p
    · subst z
      simpa using e
    · exact d.keep a o z (by simpa [z] using e)
/-! ### the law -/
def γ_law : OL := fun ds S R => ∃ ns : List Int, ds = [.scr (ns.map .int)] ∧ ns.length ≤ 63 ∧ R (.bl true) S
theorem all_loop {ns : List Int} {S0 : Sto} {R : QD} (h : R (.bl true) S0) : ∀ (m i k : Nat) (S : Sto), i + m ≤ 100 → k ≤ i → (∀ a o, S0 a = some o → S a = some o) →
    cmpG (gNm 1) tYes' (eCall γ_lap (aCons (eCall γ_well (aCons (eVar 0) (aCons (eVar 1) (aNil)))) (aNil))) (fun _ => True) [1] [some (.scr (ns.map .int)), none] (fun acc S2 => cAll [.lst acc] S2 (Fin R)) (rngD i m) ((List.replicate k true).map .bl) S
  | 0, i, k, S, _, _, hs => by
    refine ⟨trivial, ?_⟩
    have e : (List.replicate k true).all id = true := by
      rw [List.all_eq_true]
      intro x hx
      rw [List.eq_of_mem_replicate hx]; rfl
    simp_arith [blsOf_map, e]
    exact ⟨S0, _, hs, .same _, h⟩
  | m + 1, i, k, S, hi, hk, hs => by
    refine ⟨trivial, ?_⟩
    show gNm 1 (.int i) _ S _
    unfold γ_lap γ_well
    simp_arith [wipeD]
    refine ⟨ns, i, rfl, by omega, fun p S1 hp bt hw => ⟨p, rfl, hw, fun S2 d => ⟨Nat.lt_of_lt_of_le (m := 1000) (by rw [List.length_map, List.length_replicate]; omega) (by decide), ?_⟩⟩⟩
    have e1 : ((i : Int) + 1) = ((i + 1 : Nat) : Int) := by omega
    have e2 : (List.replicate k true).map D.bl ++ [D.bl true] = (List.replicate (k + 1) true).map D.bl := by rw [List.replicate_succ', List.map_append]; rfl
    rw [e1, e2]
    refine all_loop h m (i + 1) (k + 1) S2 (by omega) (by omega) fun a o e => ?_
    have : a ≠ p := fun z => by
      have := hs a o e
      rw [z, hp] at this; cases this
    rw [d.but a this, bt a this]
    exact hs a o e
theorem law_law : Law 2 γ_law (body_law γ_lap γ_well) := by
  intro ds S R ⟨ns, e, hl, h⟩
  subst e
  unfold body_law
  simp only [sRet, eCall, aCons, aNil, eLc, iRange1, eC, eVar, startD, List.map_cons, List.map_nil, List.length_cons, List.length_nil, Nat.reduceAdd, Nat.reduceSub, List.replicate_succ, List.replicate_zero, List.cons_append, List.nil_append, List.getElem?_cons_zero, cMax2, cMin2, cLen, rs_scr, itemsOf_scr]
  generalize hj : (if (if (4 : Int) < ((ns.map D.int).length : Nat) then (4 : Int) else ((ns.map D.int).length : Nat)) > 2 then (if (4 : Int) < ((ns.map D.int).length : Nat) then (4 : Int) else ((ns.map D.int).length : Nat)) else 2) = j
  have h0 : 0 ≤ j ∧ j ≤ 4 := by
    rw [← hj]
    repeat' split
    all_goals omega
  refine ⟨⟨by omega, by omega⟩, ?_⟩
  exact all_loop h j.toNat 0 0 S (by omega) (by omega) fun _ _ e => e
end K02

namespace K02
open PySem PySem.Spec PyProof.Rows L2 Gx
def topS (i : Nat) : Stmt := PySem.Challenge.pw_heedlore_k02_whole_nets_and_states_of_an.main.body.getD i (.Pass ⟨0, 0, 0, 0⟩)
section
variable {P : Program} {w : World} {K : PySem.W.Frag} {mg : Str → Option Value} {base : Heap} {k : Nat}
abbrev s__law_draw : Stmt := topS 34
abbrev N__law_draw : List Str := ["well", "few", "mixed", "figure"]
theorem sc__law_draw : FnScope N__law_draw ["well", "few"] (defScope s__law_draw) := ⟨rfl, rfl, rfl, by decide +kernel, rfl, by decide +kernel, by decide +kernel⟩
theorem tm__law_draw {f : Addr} {cdv : Value} {A : Around} {outer : List Env} {s : Shared} {H : Hp} (B : Blt mg)
    (hr : Room k (A.deeper (envOfC "_law_draw" (defScope s__law_draw) s.heap.objs.size f cdv))) (hgd : (A.deeper (envOfC "_law_draw" (defScope s__law_draw) s.heap.objs.size f cdv)).guards = some []) :
    GSs (cxOf CX0 P w K mg base N__law_draw "_law_draw" (defScope s__law_draw) f cdv A outer s H E0).nox (defBody s__law_draw) (body__law_draw) := by
  exact gss_cons (gs_if (gt_cmp o_gt (g_ix o_ix (g_var 0) (g_int)) (g_int)) (gss_cons (gs_asg (g_callB c_divmod (by rfl) B.divmod bt_divmod (ga_cons (g_ix o_ix (g_var 0) (g_int)) (ga_cons (g_var 1) (ga_nil)))) (gg_tup rfl (ggs_cons (gg_sub (g_var 0) (g_int) o_set) (ggs_cons (gg_name 3 sc__law_draw.nd) (ggs_nil)))))
    (gss_one (gs_ret (g_var 3)))) (gss_nil))
    (gss_cons (gs_asg (g_bin o_add (g_ix o_ix (g_var 0) (g_int)) (g_int)) (gg_sub (g_var 0) (g_int) o_set))
    (gss_cons (gs_set 2 sc__law_draw.nd (g_bin o_mod (g_callTy c_int (by rfl) B.int bt_int (ga_cons (g_bin o_add (g_bin o_mul (g_ix o_ix (g_var 0) (g_int)) (g_int)) (g_bin o_mul (g_int) (g_ix o_ix (g_var 0) (g_int)))) (ga_nil))) (g_int)))
    (gss_cons (gs_asg (g_bin o_mod (g_callTy c_int (by rfl) B.int bt_int (ga_cons (g_bin o_add (g_bin o_mul (g_var 2) (g_bin o_add (g_bin o_mod (g_callTy c_int (by rfl) B.int bt_int (ga_cons (g_var 2) (ga_nil))) (g_int)) (g_int))) (g_ix o_ix (g_var 0) (g_int))) (ga_nil))) (g_int)) (gg_sub (g_var 0) (g_int) o_set))
    (gss_one (gs_ret (g_bin o_mod (g_callTy c_int (by rfl) B.int bt_int (ga_cons (g_bin o_fdiv (g_ix o_ix (g_var 0) (g_int)) (g_int)) (ga_nil))) (g_var 1)))))))
abbrev s__law_one : Stmt := topS 35
abbrev N__law_one : List Str := ["well", "some"]
theorem sc__law_one : FnScope N__law_one ["well", "some"] (defScope s__law_one) := ⟨rfl, rfl, rfl, by decide +kernel, rfl, by decide +kernel, by decide +kernel⟩
theorem tm__law_one {γ__law_draw : OL} {f__law_draw : Addr} {fd__law_draw : FuncData} {f : Addr} {cdv : Value} {A : Around} {outer : List Env} {s : Shared} {H : Hp} (B : Blt mg) (h__law_draw : Has P w K mg base k "_law_draw" f__law_draw fd__law_draw ["well", "few"] γ__law_draw)
    (hr : Room k (A.deeper (envOfC "_law_one" (defScope s__law_one) s.heap.objs.size f cdv))) (hgd : (A.deeper (envOfC "_law_one" (defScope s__law_one) s.heap.objs.size f cdv)).guards = some []) :
    GSs (cxOf CX0 P w K mg base N__law_one "_law_one" (defScope s__law_one) f cdv A outer s H E0).nox (defBody s__law_one) (body__law_one γ__law_draw) := by
  exact gss_one (gs_ret (g_ix o_ix (g_var 1) (g_call h__law_draw hr hgd (Nat.le_refl _) (by rfl) (ga_cons (g_var 0) (ga_cons (g_callB c_len (by rfl) B.len bt_len (ga_cons (g_var 1) (ga_nil))) (ga_nil))))))
abbrev s__law_lean : Stmt := topS 36
abbrev N__law_lean : List Str := ["top", "base", "far", "rest"]
theorem sc__law_lean : FnScope N__law_lean ["top", "base"] (defScope s__law_lean) := ⟨rfl, rfl, rfl, by decide +kernel, rfl, by decide +kernel, by decide +kernel⟩
theorem tm__law_lean {f : Addr} {cdv : Value} {A : Around} {outer : List Env} {s : Shared} {H : Hp} (B : Blt mg)
    (hr : Room k (A.deeper (envOfC "_law_lean" (defScope s__law_lean) s.heap.objs.size f cdv))) (hgd : (A.deeper (envOfC "_law_lean" (defScope s__law_lean) s.heap.objs.size f cdv)).guards = some []) :
    GSs (cxOf CX0 P w K mg base N__law_lean "_law_lean" (defScope s__law_lean) f cdv A outer s H E0).nox (defBody s__law_lean) (body__law_lean) := by
  exact gss_cons (gs_par 2 3 rfl sc__law_lean.nd (ga_cons (g_callB c_abs (by rfl) B.abs bt_abs (ga_cons (g_var 0) (ga_nil))) (ga_cons (g_callB c_abs (by rfl) B.abs bt_abs (ga_cons (g_var 1) (ga_nil))) (ga_nil))))
    (gss_cons (gs_while PassesOwn.never (gt_cmp o_gt (g_var 3) (g_int)) (gss_one (gs_par 2 3 rfl sc__law_lean.nd (ga_cons (g_var 3) (ga_cons (g_bin o_mod (g_callTy c_int (by rfl) B.int bt_int (ga_cons (g_var 2) (ga_nil))) (g_var 3)) (ga_nil))))))
    (gss_cons (gs_set 2 sc__law_lean.nd (g_ifExp (gt_cmp o_gt (g_var 1) (g_int)) (g_var 2) (g_bin o_sub (g_int) (g_var 2))))
    (gss_one (gs_ret (g_tup (ga_cons (g_bin o_fdiv (g_var 0) (g_var 2)) (ga_cons (g_bin o_fdiv (g_var 1) (g_var 2)) (ga_nil))))))))
abbrev s__law_weight : Stmt := topS 44
abbrev N__law_weight : List Str := ["well", "way"]
theorem sc__law_weight : FnScope N__law_weight ["well"] (defScope s__law_weight) := ⟨rfl, rfl, rfl, by decide +kernel, rfl, by decide +kernel, by decide +kernel⟩
theorem tm__law_weight {γ__law_draw γ__law_one γ__law_lean : OL} {f__law_draw f__law_one f__law_lean : Addr} {fd__law_draw fd__law_one fd__law_lean : FuncData} {f : Addr} {cdv : Value} {A : Around} {outer : List Env} {s : Shared} {H : Hp} (B : Blt mg) (h__law_draw : Has P w K mg base k "_law_draw" f__law_draw fd__law_draw ["well", "few"] γ__law_draw) (h__law_one : Has P w K mg base k "_law_one" f__law_one fd__law_one ["well", "some"] γ__law_one) (h__law_lean : Has P w K mg base k "_law_lean" f__law_lean fd__law_lean ["top", "base"] γ__law_lean)
    (hr : Room k (A.deeper (envOfC "_law_weight" (defScope s__law_weight) s.heap.objs.size f cdv))) (hgd : (A.deeper (envOfC "_law_weight" (defScope s__law_weight) s.heap.objs.size f cdv)).guards = some []) :
    GSs (cxOf CX0 P w K mg base N__law_weight "_law_weight" (defScope s__law_weight) f cdv A outer s H E0).nox (defBody s__law_weight) (body__law_weight γ__law_draw γ__law_one γ__law_lean) := by
  exact gss_cons (gs_set 1 sc__law_weight.nd (g_call h__law_draw hr hgd (Nat.le_refl _) (by rfl) (ga_cons (g_var 0) (ga_cons (g_int) (ga_nil)))))
    (gss_cons (gs_if (gt_cmp o_lt (g_var 1) (g_int)) (gss_one (gs_ret (g_call h__law_one hr hgd (Nat.le_refl _) (by rfl) (ga_cons (g_var 0) (ga_cons (g_tup (ga_cons (g_tup (ga_cons (g_int) (ga_cons (g_int) (ga_nil)))) (ga_cons (g_tup (ga_cons (g_int) (ga_cons (g_int) (ga_nil)))) (ga_cons (g_tup (ga_cons (g_int) (ga_cons (g_int) (ga_nil)))) (ga_cons (g_tup (ga_cons (g_un o_neg (g_int)) (ga_cons (g_int) (ga_nil)))) (ga_cons (g_tup (ga_cons (g_int) (ga_cons (g_int) (ga_nil)))) (ga_cons (g_tup (ga_cons (g_un o_neg (g_int)) (ga_cons (g_int) (ga_nil)))) (ga_cons (g_tup (ga_cons (g_int) (ga_cons (g_int) (ga_nil)))) (ga_cons (g_tup (ga_cons (g_un o_neg (g_int)) (ga_cons (g_int) (ga_nil)))) (ga_cons (g_tup (ga_cons (g_int) (ga_cons (g_int) (ga_nil)))) (ga_cons (g_tup (ga_cons (g_int) (ga_cons (g_int) (ga_nil)))) (ga_nil)))))))))))) (ga_nil)))))) (gss_nil))
    (gss_one (gs_ret (g_call h__law_lean hr hgd (Nat.le_refl _) (by rfl) (ga_cons (g_bin o_sub (g_call h__law_draw hr hgd (Nat.le_refl _) (by rfl) (ga_cons (g_var 0) (ga_cons (g_int) (ga_nil)))) (g_int)) (ga_cons (g_bin o_add (g_int) (g_call h__law_draw hr hgd (Nat.le_refl _) (by rfl) (ga_cons (g_var 0) (ga_cons (g_int) (ga_nil))))) (ga_nil)))))))
abbrev s__law_mark : Stmt := topS 45
abbrev N__law_mark : List Str := ["well"]
theorem sc__law_mark : FnScope N__law_mark ["well"] (defScope s__law_mark) := ⟨rfl, rfl, rfl, by decide +kernel, rfl, by decide +kernel, by decide +kernel⟩
theorem tm__law_mark {γ__law_one : OL} {f__law_one : Addr} {fd__law_one : FuncData} {f : Addr} {cdv : Value} {A : Around} {outer : List Env} {s : Shared} {H : Hp} (B : Blt mg) (h__law_one : Has P w K mg base k "_law_one" f__law_one fd__law_one ["well", "some"] γ__law_one)
    (hr : Room k (A.deeper (envOfC "_law_mark" (defScope s__law_mark) s.heap.objs.size f cdv))) (hgd : (A.deeper (envOfC "_law_mark" (defScope s__law_mark) s.heap.objs.size f cdv)).guards = some []) :
    GSs (cxOf CX0 P w K mg base N__law_mark "_law_mark" (defScope s__law_mark) f cdv A outer s H E0).nox (defBody s__law_mark) (body__law_mark γ__law_one) := by
  exact gss_one (gs_ret (g_call h__law_one hr hgd (Nat.le_refl _) (by rfl) (ga_cons (g_var 0) (ga_cons (g_tup (ga_cons (g_tup (ga_cons (g_int) (ga_cons (g_int) (ga_nil)))) (ga_cons (g_tup (ga_cons (g_int) (ga_cons (g_int) (ga_nil)))) (ga_cons (g_tup (ga_cons (g_un o_neg (g_int)) (ga_cons (g_int) (ga_nil)))) (ga_cons (g_tup (ga_cons (g_int) (ga_cons (g_int) (ga_nil)))) (ga_cons (g_tup (ga_cons (g_int) (ga_cons (g_int) (ga_nil)))) (ga_cons (g_tup (ga_cons (g_un o_neg (g_int)) (ga_cons (g_int) (ga_nil)))) (ga_cons (g_tup (ga_cons (g_int) (ga_cons (g_int) (ga_nil)))) (ga_cons (g_tup (ga_cons (g_int) (ga_cons (g_int) (ga_nil)))) (ga_cons (g_tup (ga_cons (g_int) (ga_cons (g_int) (ga_nil)))) (ga_cons (g_tup (ga_cons (g_un o_neg (g_int)) (ga_cons (g_int) (ga_nil)))) (ga_nil)))))))))))) (ga_nil)))))
abbrev s__law_net : Stmt := topS 46
abbrev N__law_net : List Str := ["well", "few", "at", "rows", "marks", "row", "to"]
theorem sc__law_net : FnScope N__law_net ["well", "few"] (defScope s__law_net) := ⟨rfl, rfl, rfl, by decide +kernel, rfl, by decide +kernel, by decide +kernel⟩
theorem tm__law_net {γ__law_weight γ__law_mark : OL} {f__law_weight f__law_mark : Addr} {fd__law_weight fd__law_mark : FuncData} {f : Addr} {cdv : Value} {A : Around} {outer : List Env} {s : Shared} {H : Hp} (B : Blt mg) (h__law_weight : Has P w K mg base k "_law_weight" f__law_weight fd__law_weight ["well"] γ__law_weight) (h__law_mark : Has P w K mg base k "_law_mark" f__law_mark fd__law_mark ["well"] γ__law_mark)
    (hr : Room k (A.deeper (envOfC "_law_net" (defScope s__law_net) s.heap.objs.size f cdv))) (hgd : (A.deeper (envOfC "_law_net" (defScope s__law_net) s.heap.objs.size f cdv)).guards = some []) :
    GSs (cxOf CX0 P w K mg base N__law_net "_law_net" (defScope s__law_net) f cdv A outer s H E0).nox (defBody s__law_net) (body__law_net γ__law_weight γ__law_mark) := by
  exact gss_cons (gs_par 3 4 rfl sc__law_net.nd (ga_cons (g_lstM (ga_nil)) (ga_cons (g_lstM (ga_nil)) (ga_nil))))
    (gss_cons (gs_for PassesOwn.never rfl (gi_range1 (by rfl) B.range (ga_cons (g_var 1) (ga_nil))) (gg_name 2 sc__law_net.nd) (gss_cons (gs_set 5 sc__law_net.nd (g_lstM (ga_nil)))
    (gss_cons (gs_for PassesOwn.never rfl (gi_range1 (by rfl) B.range (ga_cons (g_var 1) (ga_nil))) (gg_name 6 sc__law_net.nd) (gss_one (gs_expr (g_mt F.slot_list_append F.type_list_append m_append (g_var 5) (ga_cons (g_ifExp (gt_cmp (o_ne hr.units) (g_var 6) (g_var 2)) (g_call h__law_weight hr hgd (Nat.le_refl _) (by rfl) (ga_cons (g_var 0) (ga_nil))) (g_tup (ga_cons (g_int) (ga_cons (g_int) (ga_nil))))) (ga_nil))))))
    (gss_cons (gs_expr (g_mt F.slot_list_append F.type_list_append m_append (g_var 3) (ga_cons (g_callTy c_tuple (by rfl) B.tuple bt_tuple (ga_cons (g_var 5) (ga_nil))) (ga_nil))))
    (gss_one (gs_expr (g_mt F.slot_list_append F.type_list_append m_append (g_var 4) (ga_cons (g_call h__law_mark hr hgd (Nat.le_refl _) (by rfl) (ga_cons (g_var 0) (ga_nil))) (ga_nil)))))))))
    (gss_one (gs_ret (g_tup (ga_cons (g_callTy c_tuple (by rfl) B.tuple bt_tuple (ga_cons (g_var 3) (ga_nil))) (ga_cons (g_callTy c_tuple (by rfl) B.tuple bt_tuple (ga_cons (g_var 4) (ga_nil))) (ga_nil)))))))
abbrev s__law_odd : Stmt := topS 41
abbrev N__law_odd : List Str := ["well", "some", "more"]
theorem sc__law_odd : FnScope N__law_odd ["well"] (defScope s__law_odd) := ⟨rfl, rfl, rfl, by decide +kernel, rfl, by decide +kernel, by decide +kernel⟩
theorem tm__law_odd {γ__law_one : OL} {f__law_one : Addr} {fd__law_one : FuncData} {f : Addr} {cdv : Value} {A : Around} {outer : List Env} {s : Shared} {H : Hp} (B : Blt mg) (h__law_one : Has P w K mg base k "_law_one" f__law_one fd__law_one ["well", "some"] γ__law_one)
    (hr : Room k (A.deeper (envOfC "_law_odd" (defScope s__law_odd) s.heap.objs.size f cdv))) (hgd : (A.deeper (envOfC "_law_odd" (defScope s__law_odd) s.heap.objs.size f cdv)).guards = some []) :
    GSs (cxOf CX0 P w K mg base N__law_odd "_law_odd" (defScope s__law_odd) f cdv A outer s H E0).nox (defBody s__law_odd) (body__law_odd γ__law_one) := by
  exact gss_cons (gs_set 1 sc__law_odd.nd (g_tup (ga_cons (g_non) (ga_cons (g_bl) (ga_cons (g_bl) (ga_cons (g_int) (ga_cons (g_int) (ga_cons (g_int) (ga_cons (g_un o_neg (g_int)) (ga_cons (g_int) (ga_cons (g_int) (ga_cons (g_str) (ga_cons (g_str) (ga_cons (g_str) (ga_cons (g_tup (ga_nil)) (ga_cons (g_tup (ga_cons (g_int) (ga_nil))) (ga_cons (g_tup (ga_cons (g_int) (ga_nil))) (ga_cons (g_tup (ga_cons (g_int) (ga_cons (g_int) (ga_nil)))) (ga_cons (g_tup (ga_cons (g_int) (ga_cons (g_int) (ga_nil)))) (ga_cons (g_tup (ga_cons (g_int) (ga_cons (g_int) (ga_nil)))) (ga_cons (g_tup (ga_cons (g_int) (ga_cons (g_int) (ga_nil)))) (ga_nil))))))))))))))))))))))
    (gss_cons (gs_set 2 sc__law_odd.nd (g_tup (ga_cons (g_tup (ga_cons (g_int) (ga_cons (g_int) (ga_nil)))) (ga_cons (g_tup (ga_cons (g_int) (ga_cons (g_un o_neg (g_int)) (ga_nil)))) (ga_cons (g_tup (ga_cons (g_bl) (ga_cons (g_int) (ga_nil)))) (ga_cons (g_tup (ga_cons (g_int) (ga_cons (g_bl) (ga_nil)))) (ga_cons (g_tup (ga_cons (g_tup (ga_cons (g_int) (ga_cons (g_int) (ga_nil)))) (ga_nil))) (ga_cons (g_tup (ga_cons (g_tup (ga_cons (g_int) (ga_cons (g_int) (ga_nil)))) (ga_nil))) (ga_cons (g_tup (ga_cons (g_tup (ga_cons (g_int) (ga_cons (g_int) (ga_nil)))) (ga_cons (g_tup (ga_cons (g_int) (ga_cons (g_int) (ga_nil)))) (ga_nil)))) (ga_cons (g_tup (ga_cons (g_tup (ga_cons (g_tup (ga_cons (g_int) (ga_cons (g_int) (ga_nil)))) (ga_nil))) (ga_nil))) (ga_cons (g_tup (ga_cons (g_int) (ga_cons (g_int) (ga_nil)))) (ga_nil))))))))))))
    (gss_cons (gs_set 2 sc__law_odd.nd (g_bin o_add (g_var 2) (g_tup (ga_cons (g_tup (ga_cons (g_tup (ga_cons (g_int) (ga_cons (g_int) (ga_nil)))) (ga_cons (g_tup (ga_cons (g_int) (ga_cons (g_int) (ga_nil)))) (ga_nil)))) (ga_cons (g_lst (ga_nil)) (ga_cons (g_lst (ga_cons (g_int) (ga_nil))) (ga_cons (g_lst (ga_cons (g_tup (ga_cons (g_int) (ga_cons (g_int) (ga_nil)))) (ga_nil))) (ga_cons (g_dic0) (ga_cons (g_tup (ga_cons (g_non) (ga_nil))) (ga_cons (g_tup (ga_cons (g_tup (ga_nil)) (ga_nil))) (ga_cons (g_bin o_pow (g_int) (g_int)) (ga_cons (g_tup (ga_cons (g_int) (ga_cons (g_int) (ga_cons (g_int) (ga_nil))))) (ga_cons (g_tup (ga_cons (g_int) (ga_cons (g_int) (ga_cons (g_int) (ga_nil))))) (ga_cons (g_tup (ga_cons (g_int) (ga_cons (g_int) (ga_cons (g_int) (ga_nil))))) (ga_nil)))))))))))))))
    (gss_one (gs_ret (g_call h__law_one hr hgd (Nat.le_refl _) (by rfl) (ga_cons (g_var 0) (ga_cons (g_bin o_add (g_var 1) (g_var 2)) (ga_nil))))))))
abbrev s__law_is_whole : Stmt := topS 37
abbrev N__law_is_whole : List Str := ["thing"]
theorem sc__law_is_whole : FnScope N__law_is_whole ["thing"] (defScope s__law_is_whole) := ⟨rfl, rfl, rfl, by decide +kernel, rfl, by decide +kernel, by decide +kernel⟩
theorem tm__law_is_whole {f : Addr} {cdv : Value} {A : Around} {outer : List Env} {s : Shared} {H : Hp} (B : Blt mg)
    (hr : Room k (A.deeper (envOfC "_law_is_whole" (defScope s__law_is_whole) s.heap.objs.size f cdv))) (hgd : (A.deeper (envOfC "_law_is_whole" (defScope s__law_is_whole) s.heap.objs.size f cdv)).guards = some []) :
    GSs (cxOf CX0 P w K mg base N__law_is_whole "_law_is_whole" (defScope s__law_is_whole) f cdv A outer s H E0).nox (defBody s__law_is_whole) (body__law_is_whole) := by
  exact gss_one (gs_ret (g_and (g_callB c_isiA (by rfl) B.isinstance bt_isinstance (ga_cons (g_var 0) (ga_cons (g_bltn (d := .ty "int") (v := .ty "int") (by rfl) B.int bt_int rfl (fun _ _ => rfl)) (ga_nil)))) (g_one (g_not (g_callB c_isiA (by rfl) B.isinstance bt_isinstance (ga_cons (g_var 0) (ga_cons (g_bltn (d := .ty "bool") (v := .ty "bool") (by rfl) B.bool bt_bool rfl (fun _ _ => rfl)) (ga_nil))))))))
abbrev s__law_bent : Stmt := topS 42
abbrev N__law_bent : List Str := ["well", "thing", "turn", "way", "path", "here", "at", "whole"]
theorem sc__law_bent : FnScope N__law_bent ["well", "thing"] (defScope s__law_bent) := ⟨rfl, rfl, rfl, by decide +kernel, rfl, by decide +kernel, by decide +kernel⟩
theorem tm__law_bent {γ__law_draw γ__law_is_whole γ__law_odd : OL} {f__law_draw f__law_is_whole f__law_odd : Addr} {fd__law_draw fd__law_is_whole fd__law_odd : FuncData} {f : Addr} {cdv : Value} {A : Around} {outer : List Env} {s : Shared} {H : Hp} (B : Blt mg) (h__law_draw : Has P w K mg base k "_law_draw" f__law_draw fd__law_draw ["well", "few"] γ__law_draw) (h__law_is_whole : Has P w K mg base k "_law_is_whole" f__law_is_whole fd__law_is_whole ["thing"] γ__law_is_whole) (h__law_odd : Has P w K mg base k "_law_odd" f__law_odd fd__law_odd ["well"] γ__law_odd)
    (hr : Room k (A.deeper (envOfC "_law_bent" (defScope s__law_bent) s.heap.objs.size f cdv))) (hgd : (A.deeper (envOfC "_law_bent" (defScope s__law_bent) s.heap.objs.size f cdv)).guards = some []) :
    GSs (cxOf CX0 P w K mg base N__law_bent "_law_bent" (defScope s__law_bent) f cdv A outer s H E0).nox (defBody s__law_bent) (body__law_bent γ__law_draw γ__law_is_whole γ__law_odd) := by
  exact gss_cons (gs_par 4 5 rfl sc__law_bent.nd (ga_cons (g_lstM (ga_nil)) (ga_cons (g_var 1) (ga_nil))))
    (gss_cons (gs_for PassesOwn.never rfl (gi_range1 (by rfl) B.range (ga_cons (g_call h__law_draw hr hgd (Nat.le_refl _) (by rfl) (ga_cons (g_var 0) (ga_cons (g_int) (ga_nil)))) (ga_nil))) (gg_name 2 sc__law_bent.nd) (gss_cons (gs_if (gw_pt (gw_or (gt_not (gt_val (g_callB c_isiA (by rfl) B.isinstance bt_isinstance (ga_cons (g_var 5) (ga_cons (g_bltn (d := .ty "tuple") (v := .ty "tuple") (by rfl) B.tuple bt_tuple rfl (fun _ _ => rfl)) (ga_nil)))))) (gw_or1 (gt_cmp (o_eq hr.units) (g_var 5) (g_tup (ga_nil)))))) (gss_one (gs_break)) (gss_nil))
    (gss_cons (gs_set 6 sc__law_bent.nd (g_call h__law_draw hr hgd (Nat.le_refl _) (by rfl) (ga_cons (g_var 0) (ga_cons (g_callB c_len (by rfl) B.len bt_len (ga_cons (g_var 5) (ga_nil))) (ga_nil)))))
    (gss_cons (gs_expr (g_mt F.slot_list_append F.type_list_append m_append (g_var 4) (ga_cons (g_tup (ga_cons (g_var 5) (ga_cons (g_var 6) (ga_nil)))) (ga_nil))))
    (gss_one (gs_set 5 sc__law_bent.nd (g_ix o_ix (g_var 5) (g_var 6))))))))
    (gss_cons (gs_set 3 sc__law_bent.nd (g_call h__law_draw hr hgd (Nat.le_refl _) (by rfl) (ga_cons (g_var 0) (ga_cons (g_int) (ga_nil)))))
    (gss_cons (gs_if (gw_pt (gw_and (gt_val (g_callB c_isiA (by rfl) B.isinstance bt_isinstance (ga_cons (g_var 5) (ga_cons (g_bltn (d := .ty "tuple") (v := .ty "tuple") (by rfl) B.tuple bt_tuple rfl (fun _ _ => rfl)) (ga_nil))))) (gw_and1 (gt_cmp o_lt (g_var 3) (g_int))))) (gss_one (gs_set 5 sc__law_bent.nd (g_ix o_ix (g_tup (ga_cons (g_callTy c_list (by rfl) B.list bt_list (ga_cons (g_var 5) (ga_nil))) (ga_cons (g_slice (g_var 5) (go_none) (go_some (g_un o_neg (g_int)))) (ga_cons (g_bin o_add (g_var 5) (g_slice (g_var 5) (go_none) (go_some (g_int)))) (ga_cons (g_slice (g_var 5) (go_some (g_int)) (go_none)) (ga_cons (g_rev (g_var 5) (g_un o_neg (g_int))) (ga_nil))))))) (g_var 3)))) (gss_one (gs_if (gw_pt (gw_and (gt_val (g_call h__law_is_whole hr hgd (Nat.le_refl _) (by rfl) (ga_cons (g_var 5) (ga_nil)))) (gw_and1 (gt_cmp o_lt (g_var 3) (g_int))))) (gss_one (gs_set 5 sc__law_bent.nd (g_ix o_ix (g_tup (ga_cons (g_bin o_add (g_var 5) (g_int)) (ga_cons (g_bin o_sub (g_var 5) (g_int)) (ga_cons (g_bin o_sub (g_int) (g_var 5)) (ga_cons (g_cmp o_gt (g_var 5) (g_int)) (ga_cons (g_bin o_sub (g_int) (g_var 5)) (ga_nil))))))) (g_var 3)))) (gss_one (gs_set 5 sc__law_bent.nd (g_call h__law_odd hr hgd (Nat.le_refl _) (by rfl) (ga_cons (g_var 0) (ga_nil))))))))
    (gss_cons (gs_for PassesOwn.never rfl (gi_seq (g_rev (g_var 4) (g_un o_neg (g_int)))) (gg_tup rfl (ggs_cons (gg_name 7 sc__law_bent.nd) (ggs_cons (gg_name 6 sc__law_bent.nd) (ggs_nil)))) (gss_one (gs_set 5 sc__law_bent.nd (g_bin o_add (g_bin o_add (g_slice (g_var 7) (go_none) (go_some (g_var 6))) (g_tup (ga_cons (g_var 5) (ga_nil)))) (g_slice (g_var 7) (go_some (g_bin o_add (g_var 6) (g_int))) (go_none))))))
    (gss_one (gs_ret (g_var 5)))))))
abbrev s__law_maybe : Stmt := topS 43
abbrev N__law_maybe : List Str := ["well", "thing", "way"]
theorem sc__law_maybe : FnScope N__law_maybe ["well", "thing"] (defScope s__law_maybe) := ⟨rfl, rfl, rfl, by decide +kernel, rfl, by decide +kernel, by decide +kernel⟩
theorem tm__law_maybe {γ__law_draw γ__law_bent γ__law_odd : OL} {f__law_draw f__law_bent f__law_odd : Addr} {fd__law_draw fd__law_bent fd__law_odd : FuncData} {f : Addr} {cdv : Value} {A : Around} {outer : List Env} {s : Shared} {H : Hp} (B : Blt mg) (h__law_draw : Has P w K mg base k "_law_draw" f__law_draw fd__law_draw ["well", "few"] γ__law_draw) (h__law_bent : Has P w K mg base k "_law_bent" f__law_bent fd__law_bent ["well", "thing"] γ__law_bent) (h__law_odd : Has P w K mg base k "_law_odd" f__law_odd fd__law_odd ["well"] γ__law_odd)
    (hr : Room k (A.deeper (envOfC "_law_maybe" (defScope s__law_maybe) s.heap.objs.size f cdv))) (hgd : (A.deeper (envOfC "_law_maybe" (defScope s__law_maybe) s.heap.objs.size f cdv)).guards = some []) :
    GSs (cxOf CX0 P w K mg base N__law_maybe "_law_maybe" (defScope s__law_maybe) f cdv A outer s H E0).nox (defBody s__law_maybe) (body__law_maybe γ__law_draw γ__law_bent γ__law_odd) := by
  exact gss_cons (gs_set 2 sc__law_maybe.nd (g_call h__law_draw hr hgd (Nat.le_refl _) (by rfl) (ga_cons (g_var 0) (ga_cons (g_int) (ga_nil)))))
    (gss_cons (gs_if (gt_cmp o_lt (g_var 2) (g_int)) (gss_one (gs_ret (g_var 1))) (gss_nil))
    (gss_one (gs_ret (g_ifExp (gt_cmp o_lt (g_var 2) (g_int)) (g_call h__law_bent hr hgd (Nat.le_refl _) (by rfl) (ga_cons (g_var 0) (ga_cons (g_var 1) (ga_nil)))) (g_call h__law_odd hr hgd (Nat.le_refl _) (by rfl) (ga_cons (g_var 0) (ga_nil)))))))
abbrev s__law_is_tuple : Stmt := topS 38
abbrev N__law_is_tuple : List Str := ["thing", "few"]
theorem sc__law_is_tuple : FnScope N__law_is_tuple ["thing", "few"] (defScope s__law_is_tuple) := ⟨rfl, rfl, rfl, by decide +kernel, rfl, by decide +kernel, by decide +kernel⟩
theorem tm__law_is_tuple {f : Addr} {cdv : Value} {A : Around} {outer : List Env} {s : Shared} {H : Hp} (B : Blt mg)
    (hr : Room k (A.deeper (envOfC "_law_is_tuple" (defScope s__law_is_tuple) s.heap.objs.size f cdv))) (hgd : (A.deeper (envOfC "_law_is_tuple" (defScope s__law_is_tuple) s.heap.objs.size f cdv)).guards = some []) :
    GSs (cxOf CX0 P w K mg base N__law_is_tuple "_law_is_tuple" (defScope s__law_is_tuple) f cdv A outer s H E0).nox (defBody s__law_is_tuple) (body__law_is_tuple) := by
  exact gss_one (gs_ret (g_and (g_callB c_isiA (by rfl) B.isinstance bt_isinstance (ga_cons (g_var 0) (ga_cons (g_bltn (d := .ty "tuple") (v := .ty "tuple") (by rfl) B.tuple bt_tuple rfl (fun _ _ => rfl)) (ga_nil)))) (g_one (g_cmp (o_eq hr.units) (g_callB c_len (by rfl) B.len bt_len (ga_cons (g_var 0) (ga_nil))) (g_var 1)))))
abbrev s__law_is_part : Stmt := topS 39
abbrev N__law_is_part : List Str := ["thing"]
theorem sc__law_is_part : FnScope N__law_is_part ["thing"] (defScope s__law_is_part) := ⟨rfl, rfl, rfl, by decide +kernel, rfl, by decide +kernel, by decide +kernel⟩
theorem tm__law_is_part {γ__law_is_tuple γ__law_is_whole γ__law_lean : OL} {f__law_is_tuple f__law_is_whole f__law_lean : Addr} {fd__law_is_tuple fd__law_is_whole fd__law_lean : FuncData} {f : Addr} {cdv : Value} {A : Around} {outer : List Env} {s : Shared} {H : Hp} (B : Blt mg) (h__law_is_tuple : Has P w K mg base k "_law_is_tuple" f__law_is_tuple fd__law_is_tuple ["thing", "few"] γ__law_is_tuple) (h__law_is_whole : Has P w K mg base k "_law_is_whole" f__law_is_whole fd__law_is_whole ["thing"] γ__law_is_whole) (h__law_lean : Has P w K mg base k "_law_lean" f__law_lean fd__law_lean ["top", "base"] γ__law_lean)
    (hr : Room k (A.deeper (envOfC "_law_is_part" (defScope s__law_is_part) s.heap.objs.size f cdv))) (hgd : (A.deeper (envOfC "_law_is_part" (defScope s__law_is_part) s.heap.objs.size f cdv)).guards = some []) :
    GSs (cxOf CX0 P w K mg base N__law_is_part "_law_is_part" (defScope s__law_is_part) f cdv A outer s H E0).nox (defBody s__law_is_part) (body__law_is_part γ__law_is_tuple γ__law_is_whole γ__law_lean) := by
  exact gss_cons (gs_if (gw_pt (gw_or (gt_not (gt_val (g_call h__law_is_tuple hr hgd (Nat.le_refl _) (by rfl) (ga_cons (g_var 0) (ga_cons (g_int) (ga_nil)))))) (gw_or (gt_not (gt_val (g_call h__law_is_whole hr hgd (Nat.le_refl _) (by rfl) (ga_cons (g_ix o_ix (g_var 0) (g_int)) (ga_nil))))) (gw_or1 (gt_not (gt_val (g_call h__law_is_whole hr hgd (Nat.le_refl _) (by rfl) (ga_cons (g_ix o_ix (g_var 0) (g_int)) (ga_nil))))))))) (gss_one (gs_ret (g_bl))) (gss_nil))
    (gss_one (gs_ret (g_and (g_cmp o_gt (g_ix o_ix (g_var 0) (g_int)) (g_int)) (g_one (g_cmp (o_eq hr.units) (g_call h__law_lean hr hgd (Nat.le_refl _) (by rfl) (ga_cons (g_ix o_ix (g_var 0) (g_int)) (ga_cons (g_ix o_ix (g_var 0) (g_int)) (ga_nil)))) (g_var 0))))))
abbrev s__law_is_row : Stmt := topS 40
abbrev N__law_is_row : List Str := ["thing", "few", "x"]
theorem sc__law_is_row : FnScope N__law_is_row ["thing", "few"] (defScope s__law_is_row) := ⟨rfl, rfl, rfl, by decide +kernel, rfl, by decide +kernel, by decide +kernel⟩
theorem tm__law_is_row {γ__law_is_tuple γ__law_is_part : OL} {f__law_is_tuple f__law_is_part : Addr} {fd__law_is_tuple fd__law_is_part : FuncData} {f : Addr} {cdv : Value} {A : Around} {outer : List Env} {s : Shared} {H : Hp} (B : Blt mg) (h__law_is_tuple : Has P w K mg base k "_law_is_tuple" f__law_is_tuple fd__law_is_tuple ["thing", "few"] γ__law_is_tuple) (h__law_is_part : Has P w K mg base k "_law_is_part" f__law_is_part fd__law_is_part ["thing"] γ__law_is_part)
    (hr : Room k (A.deeper (envOfC "_law_is_row" (defScope s__law_is_row) s.heap.objs.size f cdv))) (hgd : (A.deeper (envOfC "_law_is_row" (defScope s__law_is_row) s.heap.objs.size f cdv)).guards = some []) :
    GSs (cxOf CX0 P w K mg base N__law_is_row "_law_is_row" (defScope s__law_is_row) f cdv A outer s H E0).nox (defBody s__law_is_row) (body__law_is_row γ__law_is_tuple γ__law_is_part) := by
  exact gss_one (gs_ret (g_and (g_call h__law_is_tuple hr hgd (Nat.le_refl _) (by rfl) (ga_cons (g_var 0) (ga_cons (g_var 1) (ga_nil)))) (g_one (g_callB (c_all rfl) (by rfl) B.all bt_all (ga_cons (g_lc (own := [("x", 2)])  rfl sc__law_is_row.nd (gi_seq (g_var 0)) (blkOk_by (own := [("x", 2)]) (N := N__law_is_row) (sc := defScope s__law_is_row) (by decide +kernel)) (fun _ _ _ _ _ => ggc_name 2 sc__law_is_row.nd) (fun _ _ _ _ _ => gts_nil) (fun _ _ _ _ _ => g_call h__law_is_part hr hgd (Nat.le_refl _) (by rfl) (ga_cons (g_var 2) (ga_nil)))) (ga_nil))))))
abbrev s__law_is_net : Stmt := topS 49
abbrev N__law_is_net : List Str := ["thing", "few", "at", "row"]
theorem sc__law_is_net : FnScope N__law_is_net ["thing"] (defScope s__law_is_net) := ⟨rfl, rfl, rfl, by decide +kernel, rfl, by decide +kernel, by decide +kernel⟩
theorem tm__law_is_net {γ__law_is_tuple γ__law_is_row : OL} {f__law_is_tuple f__law_is_row : Addr} {fd__law_is_tuple fd__law_is_row : FuncData} {f : Addr} {cdv : Value} {A : Around} {outer : List Env} {s : Shared} {H : Hp} (B : Blt mg) (h__law_is_tuple : Has P w K mg base k "_law_is_tuple" f__law_is_tuple fd__law_is_tuple ["thing", "few"] γ__law_is_tuple) (h__law_is_row : Has P w K mg base k "_law_is_row" f__law_is_row fd__law_is_row ["thing", "few"] γ__law_is_row)
    (hr : Room k (A.deeper (envOfC "_law_is_net" (defScope s__law_is_net) s.heap.objs.size f cdv))) (hgd : (A.deeper (envOfC "_law_is_net" (defScope s__law_is_net) s.heap.objs.size f cdv)).guards = some []) :
    GSs (cxOf CX0 P w K mg base N__law_is_net "_law_is_net" (defScope s__law_is_net) f cdv A outer s H E0).nox (defBody s__law_is_net) (body__law_is_net γ__law_is_tuple γ__law_is_row) := by
  exact gss_cons (gs_if (gw_pt (gw_or (gt_not (gt_val (g_call h__law_is_tuple hr hgd (Nat.le_refl _) (by rfl) (ga_cons (g_var 0) (ga_cons (g_int) (ga_nil)))))) (gw_or (gt_not (gt_val (g_callB c_isiA (by rfl) B.isinstance bt_isinstance (ga_cons (g_ix o_ix (g_var 0) (g_int)) (ga_cons (g_bltn (d := .ty "tuple") (v := .ty "tuple") (by rfl) B.tuple bt_tuple rfl (fun _ _ => rfl)) (ga_nil)))))) (gw_or1 (gt_not (gt_chain o_le o_le (g_int) (g_callB c_len (by rfl) B.len bt_len (ga_cons (g_ix o_ix (g_var 0) (g_int)) (ga_nil))) (g_int))))))) (gss_one (gs_ret (g_bl))) (gss_nil))
    (gss_cons (gs_set 1 sc__law_is_net.nd (g_callB c_len (by rfl) B.len bt_len (ga_cons (g_ix o_ix (g_var 0) (g_int)) (ga_nil))))
    (gss_cons (gs_if (gw_pt (gw_or (gt_not (gt_val (g_call h__law_is_row hr hgd (Nat.le_refl _) (by rfl) (ga_cons (g_ix o_ix (g_var 0) (g_int)) (ga_cons (g_var 1) (ga_nil)))))) (gw_or1 (gt_not (gt_val (g_callB (c_all rfl) (by rfl) B.all bt_all (ga_cons (g_lc (own := [("row", 3)])  rfl sc__law_is_net.nd (gi_seq (g_ix o_ix (g_var 0) (g_int))) (blkOk_by (own := [("row", 3)]) (N := N__law_is_net) (sc := defScope s__law_is_net) (by decide +kernel)) (fun _ _ _ _ _ => ggc_name 3 sc__law_is_net.nd) (fun _ _ _ _ _ => gts_nil) (fun _ _ _ _ _ => g_call h__law_is_row hr hgd (Nat.le_refl _) (by rfl) (ga_cons (g_var 3) (ga_cons (g_var 1) (ga_nil))))) (ga_nil)))))))) (gss_one (gs_ret (g_bl))) (gss_nil))
    (gss_one (gs_ret (g_callB (c_all rfl) (by rfl) B.all bt_all (ga_cons (g_lc (own := [("at", 2)])  rfl sc__law_is_net.nd (gi_range1 (by rfl) B.range (ga_cons (g_var 1) (ga_nil))) (blkOk_by (own := [("at", 2)]) (N := N__law_is_net) (sc := defScope s__law_is_net) (by decide +kernel)) (fun _ _ _ _ _ => ggc_name 2 sc__law_is_net.nd) (fun _ _ _ _ _ => gts_nil) (fun _ _ _ _ _ => g_cmp (o_eq hr.units) (g_ix o_ix (g_ix o_ix (g_ix o_ix (g_var 0) (g_int)) (g_var 2)) (g_var 2)) (g_tup (ga_cons (g_int) (ga_cons (g_int) (ga_nil)))))) (ga_nil)))))))
abbrev s_is_tuple_of : Stmt := topS 9
abbrev N_is_tuple_of : List Str := ["value", "many"]
theorem sc_is_tuple_of : FnScope N_is_tuple_of ["value", "many"] (defScope s_is_tuple_of) := ⟨rfl, rfl, rfl, by decide +kernel, rfl, by decide +kernel, by decide +kernel⟩
theorem tm_is_tuple_of {f : Addr} {cdv : Value} {A : Around} {outer : List Env} {s : Shared} {H : Hp} (B : Blt mg)
    (hr : Room k (A.deeper (envOfC "is_tuple_of" (defScope s_is_tuple_of) s.heap.objs.size f cdv))) (hgd : (A.deeper (envOfC "is_tuple_of" (defScope s_is_tuple_of) s.heap.objs.size f cdv)).guards = some []) :
    GSs (cxOf CX0 P w K mg base N_is_tuple_of "is_tuple_of" (defScope s_is_tuple_of) f cdv A outer s H E0).nox (defBody s_is_tuple_of) (body_is_tuple_of) := by
  exact gss_one (gs_ret (g_and (g_callB c_isiA (by rfl) B.isinstance bt_isinstance (ga_cons (g_var 0) (ga_cons (g_bltn (d := .ty "tuple") (v := .ty "tuple") (by rfl) B.tuple bt_tuple rfl (fun _ _ => rfl)) (ga_nil)))) (g_one (g_cmp (o_eq hr.units) (g_callB c_len (by rfl) B.len bt_len (ga_cons (g_var 0) (ga_nil))) (g_var 1)))))
abbrev s_is_whole : Stmt := topS 7
abbrev N_is_whole : List Str := ["value"]
theorem sc_is_whole : FnScope N_is_whole ["value"] (defScope s_is_whole) := ⟨rfl, rfl, rfl, by decide +kernel, rfl, by decide +kernel, by decide +kernel⟩
theorem tm_is_whole {f : Addr} {cdv : Value} {A : Around} {outer : List Env} {s : Shared} {H : Hp} (B : Blt mg)
    (hr : Room k (A.deeper (envOfC "is_whole" (defScope s_is_whole) s.heap.objs.size f cdv))) (hgd : (A.deeper (envOfC "is_whole" (defScope s_is_whole) s.heap.objs.size f cdv)).guards = some []) :
    GSs (cxOf CX0 P w K mg base N_is_whole "is_whole" (defScope s_is_whole) f cdv A outer s H E0).nox (defBody s_is_whole) (body_is_whole) := by
  exact gss_one (gs_ret (g_and (g_callB c_isiA (by rfl) B.isinstance bt_isinstance (ga_cons (g_var 0) (ga_cons (g_bltn (d := .ty "int") (v := .ty "int") (by rfl) B.int bt_int rfl (fun _ _ => rfl)) (ga_nil)))) (g_one (g_not (g_callB c_isiA (by rfl) B.isinstance bt_isinstance (ga_cons (g_var 0) (ga_cons (g_bltn (d := .ty "bool") (v := .ty "bool") (by rfl) B.bool bt_bool rfl (fun _ _ => rfl)) (ga_nil))))))))
abbrev s_is_ratio : Stmt := topS 12
abbrev N_is_ratio : List Str := ["value"]
theorem sc_is_ratio : FnScope N_is_ratio ["value"] (defScope s_is_ratio) := ⟨rfl, rfl, rfl, by decide +kernel, rfl, by decide +kernel, by decide +kernel⟩
theorem tm_is_ratio {γ_is_tuple_of γ_is_whole : OL} {f_is_tuple_of f_is_whole : Addr} {fd_is_tuple_of fd_is_whole : FuncData} {f : Addr} {cdv : Value} {A : Around} {outer : List Env} {s : Shared} {H : Hp} (B : Blt mg) (h_is_tuple_of : Has P w K mg base k "is_tuple_of" f_is_tuple_of fd_is_tuple_of ["value", "many"] γ_is_tuple_of) (h_is_whole : Has P w K mg base k "is_whole" f_is_whole fd_is_whole ["value"] γ_is_whole) (m_gcd : mg "gcd" = some (.builtin "math.gcd"))
    (hr : Room k (A.deeper (envOfC "is_ratio" (defScope s_is_ratio) s.heap.objs.size f cdv))) (hgd : (A.deeper (envOfC "is_ratio" (defScope s_is_ratio) s.heap.objs.size f cdv)).guards = some []) :
    GSs (cxOf CX0 P w K mg base N_is_ratio "is_ratio" (defScope s_is_ratio) f cdv A outer s H E0).nox (defBody s_is_ratio) (body_is_ratio γ_is_tuple_of γ_is_whole) := by
  exact gss_cons (gs_if (gw_pt (gw_or (gt_not (gt_val (g_call h_is_tuple_of hr hgd (Nat.le_refl _) (by rfl) (ga_cons (g_var 0) (ga_cons (g_int) (ga_nil)))))) (gw_or (gt_not (gt_val (g_call h_is_whole hr hgd (Nat.le_refl _) (by rfl) (ga_cons (g_ix o_ix (g_var 0) (g_int)) (ga_nil))))) (gw_or1 (gt_not (gt_val (g_call h_is_whole hr hgd (Nat.le_refl _) (by rfl) (ga_cons (g_ix o_ix (g_var 0) (g_int)) (ga_nil))))))))) (gss_one (gs_ret (g_bl))) (gss_nil))
    (gss_one (gs_ret (g_and (g_cmp o_gt (g_ix o_ix (g_var 0) (g_int)) (g_int)) (g_one (g_cmp (o_eq hr.units) (g_callBfun c_gcd (by rfl) m_gcd (ga_cons (g_ix o_ix (g_var 0) (g_int)) (ga_cons (g_ix o_ix (g_var 0) (g_int)) (ga_nil)))) (g_int))))))
abbrev s_is_row : Stmt := topS 13
abbrev N_is_row : List Str := ["value", "many", "each"]
theorem sc_is_row : FnScope N_is_row ["value", "many"] (defScope s_is_row) := ⟨rfl, rfl, rfl, by decide +kernel, rfl, by decide +kernel, by decide +kernel⟩
theorem tm_is_row {γ_is_tuple_of γ_is_ratio : OL} {f_is_tuple_of f_is_ratio : Addr} {fd_is_tuple_of fd_is_ratio : FuncData} {f : Addr} {cdv : Value} {A : Around} {outer : List Env} {s : Shared} {H : Hp} (B : Blt mg) (h_is_tuple_of : Has P w K mg base k "is_tuple_of" f_is_tuple_of fd_is_tuple_of ["value", "many"] γ_is_tuple_of) (h_is_ratio : Has P w K mg base k "is_ratio" f_is_ratio fd_is_ratio ["value"] γ_is_ratio)
    (hr : Room k (A.deeper (envOfC "is_row" (defScope s_is_row) s.heap.objs.size f cdv))) (hgd : (A.deeper (envOfC "is_row" (defScope s_is_row) s.heap.objs.size f cdv)).guards = some []) :
    GSs (cxOf CX0 P w K mg base N_is_row "is_row" (defScope s_is_row) f cdv A outer s H E0).nox (defBody s_is_row) (body_is_row γ_is_tuple_of γ_is_ratio) := by
  exact gss_one (gs_ret (g_and (g_call h_is_tuple_of hr hgd (Nat.le_refl _) (by rfl) (ga_cons (g_var 0) (ga_cons (g_var 1) (ga_nil)))) (g_one (g_callB (c_all rfl) (by rfl) B.all bt_all (ga_cons (g_lc (own := [("each", 2)])  rfl sc_is_row.nd (gi_seq (g_var 0)) (blkOk_by (own := [("each", 2)]) (N := N_is_row) (sc := defScope s_is_row) (by decide +kernel)) (fun _ _ _ _ _ => ggc_name 2 sc_is_row.nd) (fun _ _ _ _ _ => gts_nil) (fun _ _ _ _ _ => g_call h_is_ratio hr hgd (Nat.le_refl _) (by rfl) (ga_cons (g_var 2) (ga_nil)))) (ga_nil))))))
abbrev s_is_net_by : Stmt := topS 16
abbrev N_is_net_by : List Str := ["value", "many", "cell", "row"]
theorem sc_is_net_by : FnScope N_is_net_by ["value"] (defScope s_is_net_by) := ⟨rfl, rfl, rfl, by decide +kernel, rfl, by decide +kernel, by decide +kernel⟩
theorem tm_is_net_by {γ_is_tuple_of γ_is_row : OL} {f_is_tuple_of f_is_row : Addr} {fd_is_tuple_of fd_is_row : FuncData} {d_MOST_CELLS d_ZERO : D} {f : Addr} {cdv : Value} {A : Around} {outer : List Env} {s : Shared} {H : Hp} (B : Blt mg) (h_is_tuple_of : Has P w K mg base k "is_tuple_of" f_is_tuple_of fd_is_tuple_of ["value", "many"] γ_is_tuple_of) (c_MOST_CELLS : Cst K mg "MOST_CELLS" d_MOST_CELLS) (h_is_row : Has P w K mg base k "is_row" f_is_row fd_is_row ["value", "many"] γ_is_row) (c_ZERO : Cst K mg "ZERO" d_ZERO)
    (hr : Room k (A.deeper (envOfC "is_net_by" (defScope s_is_net_by) s.heap.objs.size f cdv))) (hgd : (A.deeper (envOfC "is_net_by" (defScope s_is_net_by) s.heap.objs.size f cdv)).guards = some []) :
    GSs (cxOf CX0 P w K mg base N_is_net_by "is_net_by" (defScope s_is_net_by) f cdv A outer s H E0).nox (defBody s_is_net_by) (body_is_net_by γ_is_tuple_of γ_is_row d_MOST_CELLS d_ZERO) := by
  exact gss_cons (gs_if (gw_pt (gw_or (gt_not (gt_val (g_call h_is_tuple_of hr hgd (Nat.le_refl _) (by rfl) (ga_cons (g_var 0) (ga_cons (g_int) (ga_nil)))))) (gw_or (gt_not (gt_val (g_callB c_isiA (by rfl) B.isinstance bt_isinstance (ga_cons (g_ix o_ix (g_var 0) (g_int)) (ga_cons (g_bltn (d := .ty "tuple") (v := .ty "tuple") (by rfl) B.tuple bt_tuple rfl (fun _ _ => rfl)) (ga_nil)))))) (gw_or1 (gt_not (gt_chain o_le o_le (g_int) (g_callB c_len (by rfl) B.len bt_len (ga_cons (g_ix o_ix (g_var 0) (g_int)) (ga_nil))) (g_cst c_MOST_CELLS (by rfl)))))))) (gss_one (gs_ret (g_bl))) (gss_nil))
    (gss_cons (gs_set 1 sc_is_net_by.nd (g_callB c_len (by rfl) B.len bt_len (ga_cons (g_ix o_ix (g_var 0) (g_int)) (ga_nil))))
    (gss_cons (gs_if (gw_pt (gw_or (gt_not (gt_val (g_callB (c_all rfl) (by rfl) B.all bt_all (ga_cons (g_lc (own := [("row", 3)])  rfl sc_is_net_by.nd (gi_seq (g_ix o_ix (g_var 0) (g_int))) (blkOk_by (own := [("row", 3)]) (N := N_is_net_by) (sc := defScope s_is_net_by) (by decide +kernel)) (fun _ _ _ _ _ => ggc_name 3 sc_is_net_by.nd) (fun _ _ _ _ _ => gts_nil) (fun _ _ _ _ _ => g_call h_is_row hr hgd (Nat.le_refl _) (by rfl) (ga_cons (g_var 3) (ga_cons (g_var 1) (ga_nil))))) (ga_nil))))) (gw_or1 (gt_not (gt_val (g_call h_is_row hr hgd (Nat.le_refl _) (by rfl) (ga_cons (g_ix o_ix (g_var 0) (g_int)) (ga_cons (g_var 1) (ga_nil))))))))) (gss_one (gs_ret (g_bl))) (gss_nil))
    (gss_one (gs_ret (g_callB (c_all rfl) (by rfl) B.all bt_all (ga_cons (g_lc (own := [("cell", 2)])  rfl sc_is_net_by.nd (gi_range1 (by rfl) B.range (ga_cons (g_var 1) (ga_nil))) (blkOk_by (own := [("cell", 2)]) (N := N_is_net_by) (sc := defScope s_is_net_by) (by decide +kernel)) (fun _ _ _ _ _ => ggc_name 2 sc_is_net_by.nd) (fun _ _ _ _ _ => gts_nil) (fun _ _ _ _ _ => g_cmp (o_eq hr.units) (g_ix o_ix (g_ix o_ix (g_ix o_ix (g_var 0) (g_int)) (g_var 2)) (g_var 2)) (g_cst c_ZERO (by rfl)))) (ga_nil)))))))
abbrev s_is_net : Stmt := topS 28
abbrev N_is_net : List Str := ["value"]
theorem sc_is_net : FnScope N_is_net ["value"] (defScope s_is_net) := ⟨rfl, rfl, rfl, by decide +kernel, rfl, by decide +kernel, by decide +kernel⟩
theorem tm_is_net {γ_is_net_by : OL} {f_is_net_by : Addr} {fd_is_net_by : FuncData} {f : Addr} {cdv : Value} {A : Around} {outer : List Env} {s : Shared} {H : Hp} (B : Blt mg) (h_is_net_by : Has P w K mg base k "is_net_by" f_is_net_by fd_is_net_by ["value"] γ_is_net_by)
    (hr : Room k (A.deeper (envOfC "is_net" (defScope s_is_net) s.heap.objs.size f cdv))) (hgd : (A.deeper (envOfC "is_net" (defScope s_is_net) s.heap.objs.size f cdv)).guards = some []) :
    GSs (cxOf CX0 P w K mg base N_is_net "is_net" (defScope s_is_net) f cdv A outer s H E0).nox (defBody s_is_net) (body_is_net γ_is_net_by) := by
  exact gss_one (gs_ret (g_call h_is_net_by hr hgd (Nat.le_refl _) (by rfl) (ga_cons (g_var 0) (ga_nil))))
abbrev s__law_state : Stmt := topS 47
abbrev N__law_state : List Str := ["few", "number", "at"]
theorem sc__law_state : FnScope N__law_state ["few", "number"] (defScope s__law_state) := ⟨rfl, rfl, rfl, by decide +kernel, rfl, by decide +kernel, by decide +kernel⟩
theorem tm__law_state {f : Addr} {cdv : Value} {A : Around} {outer : List Env} {s : Shared} {H : Hp} (B : Blt mg)
    (hr : Room k (A.deeper (envOfC "_law_state" (defScope s__law_state) s.heap.objs.size f cdv))) (hgd : (A.deeper (envOfC "_law_state" (defScope s__law_state) s.heap.objs.size f cdv)).guards = some []) :
    GSs (cxOf CX0 P w K mg base N__law_state "_law_state" (defScope s__law_state) f cdv A outer s H E0).nox (defBody s__law_state) (body__law_state) := by
  exact gss_one (gs_ret (g_callTy c_tuple (by rfl) B.tuple bt_tuple (ga_cons (g_lc (own := [("at", 2)])  rfl sc__law_state.nd (gi_range1 (by rfl) B.range (ga_cons (g_var 0) (ga_nil))) (blkOk_by (own := [("at", 2)]) (N := N__law_state) (sc := defScope s__law_state) (by decide +kernel)) (fun _ _ _ _ _ => ggc_name 2 sc__law_state.nd) (fun _ _ _ _ _ => gts_nil) (fun _ _ _ _ _ => g_bin o_and (g_bin o_shr (g_var 1) (g_var 2)) (g_int))) (ga_nil))))
abbrev s__law_is_state : Stmt := topS 48
abbrev N__law_is_state : List Str := ["thing", "few", "bit"]
theorem sc__law_is_state : FnScope N__law_is_state ["thing", "few"] (defScope s__law_is_state) := ⟨rfl, rfl, rfl, by decide +kernel, rfl, by decide +kernel, by decide +kernel⟩
theorem tm__law_is_state {γ__law_is_tuple γ__law_is_whole : OL} {f__law_is_tuple f__law_is_whole : Addr} {fd__law_is_tuple fd__law_is_whole : FuncData} {f : Addr} {cdv : Value} {A : Around} {outer : List Env} {s : Shared} {H : Hp} (B : Blt mg) (h__law_is_tuple : Has P w K mg base k "_law_is_tuple" f__law_is_tuple fd__law_is_tuple ["thing", "few"] γ__law_is_tuple) (h__law_is_whole : Has P w K mg base k "_law_is_whole" f__law_is_whole fd__law_is_whole ["thing"] γ__law_is_whole)
    (hr : Room k (A.deeper (envOfC "_law_is_state" (defScope s__law_is_state) s.heap.objs.size f cdv))) (hgd : (A.deeper (envOfC "_law_is_state" (defScope s__law_is_state) s.heap.objs.size f cdv)).guards = some []) :
    GSs (cxOf CX0 P w K mg base N__law_is_state "_law_is_state" (defScope s__law_is_state) f cdv A outer s H E0).nox (defBody s__law_is_state) (body__law_is_state γ__law_is_tuple γ__law_is_whole) := by
  exact gss_one (gs_ret (g_and (g_call h__law_is_tuple hr hgd (Nat.le_refl _) (by rfl) (ga_cons (g_var 0) (ga_cons (g_var 1) (ga_nil)))) (g_one (g_callB (c_all rfl) (by rfl) B.all bt_all (ga_cons (g_lc (own := [("bit", 2)])  rfl sc__law_is_state.nd (gi_seq (g_var 0)) (blkOk_by (own := [("bit", 2)]) (N := N__law_is_state) (sc := defScope s__law_is_state) (by decide +kernel)) (fun _ _ _ _ _ => ggc_name 2 sc__law_is_state.nd) (fun _ _ _ _ _ => gts_nil) (fun _ _ _ _ _ => g_and (g_call h__law_is_whole hr hgd (Nat.le_refl _) (by rfl) (ga_cons (g_var 2) (ga_nil))) (g_one (g_chain o_le o_le (g_int) (g_var 2) (g_int))))) (ga_nil))))))
abbrev s_check_net : Stmt := topS 22
abbrev N_check_net : List Str := ["value"]
theorem sc_check_net : FnScope N_check_net ["value"] (defScope s_check_net) := ⟨rfl, rfl, rfl, by decide +kernel, rfl, by decide +kernel, by decide +kernel⟩
theorem tm_check_net {γ_is_net_by : OL} {f_is_net_by : Addr} {fd_is_net_by : FuncData} {f : Addr} {cdv : Value} {A : Around} {outer : List Env} {s : Shared} {H : Hp} (B : Blt mg) (h_is_net_by : Has P w K mg base k "is_net_by" f_is_net_by fd_is_net_by ["value"] γ_is_net_by)
    (hr : Room k (A.deeper (envOfC "check_net" (defScope s_check_net) s.heap.objs.size f cdv))) (hgd : (A.deeper (envOfC "check_net" (defScope s_check_net) s.heap.objs.size f cdv)).guards = some []) :
    GSs (cxOf CX0 P w K mg base N_check_net "check_net" (defScope s_check_net) f cdv A outer s H E0).nox (defBody s_check_net) (body_check_net γ_is_net_by) := by
  exact gss_one (gs_if (gt_not (gt_val (g_call h_is_net_by hr hgd (Nat.le_refl _) (by rfl) (ga_cons (g_var 0) (ga_nil))))) (gss_one (gs_never)) (gss_nil))
abbrev s_many_cells : Stmt := topS 17
abbrev N_many_cells : List Str := ["net"]
theorem sc_many_cells : FnScope N_many_cells ["net"] (defScope s_many_cells) := ⟨rfl, rfl, rfl, by decide +kernel, rfl, by decide +kernel, by decide +kernel⟩
theorem tm_many_cells {f : Addr} {cdv : Value} {A : Around} {outer : List Env} {s : Shared} {H : Hp} (B : Blt mg)
    (hr : Room k (A.deeper (envOfC "many_cells" (defScope s_many_cells) s.heap.objs.size f cdv))) (hgd : (A.deeper (envOfC "many_cells" (defScope s_many_cells) s.heap.objs.size f cdv)).guards = some []) :
    GSs (cxOf CX0 P w K mg base N_many_cells "many_cells" (defScope s_many_cells) f cdv A outer s H E0).nox (defBody s_many_cells) (body_many_cells) := by
  exact gss_one (gs_ret (g_callB c_len (by rfl) B.len bt_len (ga_cons (g_ix o_ix (g_var 0) (g_int)) (ga_nil))))
abbrev s_is_between : Stmt := topS 8
abbrev N_is_between : List Str := ["value", "low", "high"]
theorem sc_is_between : FnScope N_is_between ["value", "low", "high"] (defScope s_is_between) := ⟨rfl, rfl, rfl, by decide +kernel, rfl, by decide +kernel, by decide +kernel⟩
theorem tm_is_between {γ_is_whole : OL} {f_is_whole : Addr} {fd_is_whole : FuncData} {f : Addr} {cdv : Value} {A : Around} {outer : List Env} {s : Shared} {H : Hp} (B : Blt mg) (h_is_whole : Has P w K mg base k "is_whole" f_is_whole fd_is_whole ["value"] γ_is_whole)
    (hr : Room k (A.deeper (envOfC "is_between" (defScope s_is_between) s.heap.objs.size f cdv))) (hgd : (A.deeper (envOfC "is_between" (defScope s_is_between) s.heap.objs.size f cdv)).guards = some []) :
    GSs (cxOf CX0 P w K mg base N_is_between "is_between" (defScope s_is_between) f cdv A outer s H E0).nox (defBody s_is_between) (body_is_between γ_is_whole) := by
  exact gss_one (gs_ret (g_and (g_call h_is_whole hr hgd (Nat.le_refl _) (by rfl) (ga_cons (g_var 0) (ga_nil))) (g_one (g_chain o_le o_le (g_var 1) (g_var 0) (g_var 2)))))
abbrev s_is_state_by : Stmt := topS 18
abbrev N_is_state_by : List Str := ["net", "value", "each"]
theorem sc_is_state_by : FnScope N_is_state_by ["net", "value"] (defScope s_is_state_by) := ⟨rfl, rfl, rfl, by decide +kernel, rfl, by decide +kernel, by decide +kernel⟩
theorem tm_is_state_by {γ_is_tuple_of γ_many_cells γ_is_between : OL} {f_is_tuple_of f_many_cells f_is_between : Addr} {fd_is_tuple_of fd_many_cells fd_is_between : FuncData} {f : Addr} {cdv : Value} {A : Around} {outer : List Env} {s : Shared} {H : Hp} (B : Blt mg) (h_is_tuple_of : Has P w K mg base k "is_tuple_of" f_is_tuple_of fd_is_tuple_of ["value", "many"] γ_is_tuple_of) (h_many_cells : Has P w K mg base k "many_cells" f_many_cells fd_many_cells ["net"] γ_many_cells) (h_is_between : Has P w K mg base k "is_between" f_is_between fd_is_between ["value", "low", "high"] γ_is_between)
    (hr : Room k (A.deeper (envOfC "is_state_by" (defScope s_is_state_by) s.heap.objs.size f cdv))) (hgd : (A.deeper (envOfC "is_state_by" (defScope s_is_state_by) s.heap.objs.size f cdv)).guards = some []) :
    GSs (cxOf CX0 P w K mg base N_is_state_by "is_state_by" (defScope s_is_state_by) f cdv A outer s H E0).nox (defBody s_is_state_by) (body_is_state_by γ_is_tuple_of γ_many_cells γ_is_between) := by
  exact gss_one (gs_ret (g_and (g_call h_is_tuple_of hr hgd (Nat.le_refl _) (by rfl) (ga_cons (g_var 1) (ga_cons (g_call h_many_cells hr hgd (Nat.le_refl _) (by rfl) (ga_cons (g_var 0) (ga_nil))) (ga_nil)))) (g_one (g_callB (c_all rfl) (by rfl) B.all bt_all (ga_cons (g_lc (own := [("each", 2)])  rfl sc_is_state_by.nd (gi_seq (g_var 1)) (blkOk_by (own := [("each", 2)]) (N := N_is_state_by) (sc := defScope s_is_state_by) (by decide +kernel)) (fun _ _ _ _ _ => ggc_name 2 sc_is_state_by.nd) (fun _ _ _ _ _ => gts_nil) (fun _ _ _ _ _ => g_call h_is_between hr hgd (Nat.le_refl _) (by rfl) (ga_cons (g_var 2) (ga_cons (g_int) (ga_cons (g_int) (ga_nil)))))) (ga_nil))))))
abbrev s_is_state : Stmt := topS 29
abbrev N_is_state : List Str := ["net", "value"]
theorem sc_is_state : FnScope N_is_state ["net", "value"] (defScope s_is_state) := ⟨rfl, rfl, rfl, by decide +kernel, rfl, by decide +kernel, by decide +kernel⟩
theorem tm_is_state {γ_check_net γ_is_state_by : OL} {f_check_net f_is_state_by : Addr} {fd_check_net fd_is_state_by : FuncData} {f : Addr} {cdv : Value} {A : Around} {outer : List Env} {s : Shared} {H : Hp} (B : Blt mg) (h_check_net : Has P w K mg base k "check_net" f_check_net fd_check_net ["value"] γ_check_net) (h_is_state_by : Has P w K mg base k "is_state_by" f_is_state_by fd_is_state_by ["net", "value"] γ_is_state_by)
    (hr : Room k (A.deeper (envOfC "is_state" (defScope s_is_state) s.heap.objs.size f cdv))) (hgd : (A.deeper (envOfC "is_state" (defScope s_is_state) s.heap.objs.size f cdv)).guards = some []) :
    GSs (cxOf CX0 P w K mg base N_is_state "is_state" (defScope s_is_state) f cdv A outer s H E0).nox (defBody s_is_state) (body_is_state γ_check_net γ_is_state_by) := by
  exact gss_cons (gs_expr (g_call h_check_net hr hgd (Nat.le_refl _) (by rfl) (ga_cons (g_var 0) (ga_nil))))
    (gss_one (gs_ret (g_call h_is_state_by hr hgd (Nat.le_refl _) (by rfl) (ga_cons (g_var 0) (ga_cons (g_var 1) (ga_nil))))))
abbrev s_check_many : Stmt := topS 25
abbrev N_check_many : List Str := ["value", "low", "high"]
theorem sc_check_many : FnScope N_check_many ["value", "low", "high"] (defScope s_check_many) := ⟨rfl, rfl, rfl, by decide +kernel, rfl, by decide +kernel, by decide +kernel⟩
theorem tm_check_many {γ_is_between : OL} {f_is_between : Addr} {fd_is_between : FuncData} {f : Addr} {cdv : Value} {A : Around} {outer : List Env} {s : Shared} {H : Hp} (B : Blt mg) (h_is_between : Has P w K mg base k "is_between" f_is_between fd_is_between ["value", "low", "high"] γ_is_between)
    (hr : Room k (A.deeper (envOfC "check_many" (defScope s_check_many) s.heap.objs.size f cdv))) (hgd : (A.deeper (envOfC "check_many" (defScope s_check_many) s.heap.objs.size f cdv)).guards = some []) :
    GSs (cxOf CX0 P w K mg base N_check_many "check_many" (defScope s_check_many) f cdv A outer s H E0).nox (defBody s_check_many) (body_check_many γ_is_between) := by
  exact gss_one (gs_if (gt_not (gt_val (g_call h_is_between hr hgd (Nat.le_refl _) (by rfl) (ga_cons (g_var 0) (ga_cons (g_var 1) (ga_cons (g_var 2) (ga_nil))))))) (gss_one (gs_never)) (gss_nil))
abbrev s_check_number : Stmt := topS 26
abbrev N_check_number : List Str := ["net", "value"]
theorem sc_check_number : FnScope N_check_number ["net", "value"] (defScope s_check_number) := ⟨rfl, rfl, rfl, by decide +kernel, rfl, by decide +kernel, by decide +kernel⟩
theorem tm_check_number {γ_check_many γ_many_cells : OL} {f_check_many f_many_cells : Addr} {fd_check_many fd_many_cells : FuncData} {f : Addr} {cdv : Value} {A : Around} {outer : List Env} {s : Shared} {H : Hp} (B : Blt mg) (h_check_many : Has P w K mg base k "check_many" f_check_many fd_check_many ["value", "low", "high"] γ_check_many) (h_many_cells : Has P w K mg base k "many_cells" f_many_cells fd_many_cells ["net"] γ_many_cells)
    (hr : Room k (A.deeper (envOfC "check_number" (defScope s_check_number) s.heap.objs.size f cdv))) (hgd : (A.deeper (envOfC "check_number" (defScope s_check_number) s.heap.objs.size f cdv)).guards = some []) :
    GSs (cxOf CX0 P w K mg base N_check_number "check_number" (defScope s_check_number) f cdv A outer s H E0).nox (defBody s_check_number) (body_check_number γ_check_many γ_many_cells) := by
  exact gss_one (gs_expr (g_call h_check_many hr hgd (Nat.le_refl _) (by rfl) (ga_cons (g_var 1) (ga_cons (g_int) (ga_cons (g_bin o_sub (g_bin o_shl (g_int) (g_call h_many_cells hr hgd (Nat.le_refl _) (by rfl) (ga_cons (g_var 0) (ga_nil)))) (g_int)) (ga_nil))))))
abbrev s_state_by : Stmt := topS 20
abbrev N_state_by : List Str := ["many", "number", "cell"]
theorem sc_state_by : FnScope N_state_by ["many", "number"] (defScope s_state_by) := ⟨rfl, rfl, rfl, by decide +kernel, rfl, by decide +kernel, by decide +kernel⟩
theorem tm_state_by {f : Addr} {cdv : Value} {A : Around} {outer : List Env} {s : Shared} {H : Hp} (B : Blt mg)
    (hr : Room k (A.deeper (envOfC "state_by" (defScope s_state_by) s.heap.objs.size f cdv))) (hgd : (A.deeper (envOfC "state_by" (defScope s_state_by) s.heap.objs.size f cdv)).guards = some []) :
    GSs (cxOf CX0 P w K mg base N_state_by "state_by" (defScope s_state_by) f cdv A outer s H E0).nox (defBody s_state_by) (body_state_by) := by
  exact gss_one (gs_ret (g_callTy c_tuple (by rfl) B.tuple bt_tuple (ga_cons (g_lc (own := [("cell", 2)])  rfl sc_state_by.nd (gi_range1 (by rfl) B.range (ga_cons (g_var 0) (ga_nil))) (blkOk_by (own := [("cell", 2)]) (N := N_state_by) (sc := defScope s_state_by) (by decide +kernel)) (fun _ _ _ _ _ => ggc_name 2 sc_state_by.nd) (fun _ _ _ _ _ => gts_nil) (fun _ _ _ _ _ => g_bin o_and (g_bin o_shr (g_var 1) (g_var 2)) (g_int))) (ga_nil))))
abbrev s_state_of : Stmt := topS 31
abbrev N_state_of : List Str := ["net", "number"]
theorem sc_state_of : FnScope N_state_of ["net", "number"] (defScope s_state_of) := ⟨rfl, rfl, rfl, by decide +kernel, rfl, by decide +kernel, by decide +kernel⟩
theorem tm_state_of {γ_check_net γ_check_number γ_state_by γ_many_cells : OL} {f_check_net f_check_number f_state_by f_many_cells : Addr} {fd_check_net fd_check_number fd_state_by fd_many_cells : FuncData} {f : Addr} {cdv : Value} {A : Around} {outer : List Env} {s : Shared} {H : Hp} (B : Blt mg) (h_check_net : Has P w K mg base k "check_net" f_check_net fd_check_net ["value"] γ_check_net) (h_check_number : Has P w K mg base k "check_number" f_check_number fd_check_number ["net", "value"] γ_check_number) (h_state_by : Has P w K mg base k "state_by" f_state_by fd_state_by ["many", "number"] γ_state_by) (h_many_cells : Has P w K mg base k "many_cells" f_many_cells fd_many_cells ["net"] γ_many_cells)
    (hr : Room k (A.deeper (envOfC "state_of" (defScope s_state_of) s.heap.objs.size f cdv))) (hgd : (A.deeper (envOfC "state_of" (defScope s_state_of) s.heap.objs.size f cdv)).guards = some []) :
    GSs (cxOf CX0 P w K mg base N_state_of "state_of" (defScope s_state_of) f cdv A outer s H E0).nox (defBody s_state_of) (body_state_of γ_check_net γ_check_number γ_state_by γ_many_cells) := by
  exact gss_cons (gs_expr (g_call h_check_net hr hgd (Nat.le_refl _) (by rfl) (ga_cons (g_var 0) (ga_nil))))
    (gss_cons (gs_expr (g_call h_check_number hr hgd (Nat.le_refl _) (by rfl) (ga_cons (g_var 0) (ga_cons (g_var 1) (ga_nil)))))
    (gss_one (gs_ret (g_call h_state_by hr hgd (Nat.le_refl _) (by rfl) (ga_cons (g_call h_many_cells hr hgd (Nat.le_refl _) (by rfl) (ga_cons (g_var 0) (ga_nil))) (ga_cons (g_var 1) (ga_nil)))))))
abbrev s_check_state : Stmt := topS 23
abbrev N_check_state : List Str := ["net", "value"]
theorem sc_check_state : FnScope N_check_state ["net", "value"] (defScope s_check_state) := ⟨rfl, rfl, rfl, by decide +kernel, rfl, by decide +kernel, by decide +kernel⟩
theorem tm_check_state {γ_is_state_by : OL} {f_is_state_by : Addr} {fd_is_state_by : FuncData} {f : Addr} {cdv : Value} {A : Around} {outer : List Env} {s : Shared} {H : Hp} (B : Blt mg) (h_is_state_by : Has P w K mg base k "is_state_by" f_is_state_by fd_is_state_by ["net", "value"] γ_is_state_by)
    (hr : Room k (A.deeper (envOfC "check_state" (defScope s_check_state) s.heap.objs.size f cdv))) (hgd : (A.deeper (envOfC "check_state" (defScope s_check_state) s.heap.objs.size f cdv)).guards = some []) :
    GSs (cxOf CX0 P w K mg base N_check_state "check_state" (defScope s_check_state) f cdv A outer s H E0).nox (defBody s_check_state) (body_check_state γ_is_state_by) := by
  exact gss_one (gs_if (gt_not (gt_val (g_call h_is_state_by hr hgd (Nat.le_refl _) (by rfl) (ga_cons (g_var 0) (ga_cons (g_var 1) (ga_nil)))))) (gss_one (gs_never)) (gss_nil))
abbrev s_check_both : Stmt := topS 24
abbrev N_check_both : List Str := ["net", "state"]
theorem sc_check_both : FnScope N_check_both ["net", "state"] (defScope s_check_both) := ⟨rfl, rfl, rfl, by decide +kernel, rfl, by decide +kernel, by decide +kernel⟩
theorem tm_check_both {γ_check_net γ_check_state : OL} {f_check_net f_check_state : Addr} {fd_check_net fd_check_state : FuncData} {f : Addr} {cdv : Value} {A : Around} {outer : List Env} {s : Shared} {H : Hp} (B : Blt mg) (h_check_net : Has P w K mg base k "check_net" f_check_net fd_check_net ["value"] γ_check_net) (h_check_state : Has P w K mg base k "check_state" f_check_state fd_check_state ["net", "value"] γ_check_state)
    (hr : Room k (A.deeper (envOfC "check_both" (defScope s_check_both) s.heap.objs.size f cdv))) (hgd : (A.deeper (envOfC "check_both" (defScope s_check_both) s.heap.objs.size f cdv)).guards = some []) :
    GSs (cxOf CX0 P w K mg base N_check_both "check_both" (defScope s_check_both) f cdv A outer s H E0).nox (defBody s_check_both) (body_check_both γ_check_net γ_check_state) := by
  exact gss_cons (gs_expr (g_call h_check_net hr hgd (Nat.le_refl _) (by rfl) (ga_cons (g_var 0) (ga_nil))))
    (gss_one (gs_expr (g_call h_check_state hr hgd (Nat.le_refl _) (by rfl) (ga_cons (g_var 0) (ga_cons (g_var 1) (ga_nil))))))
abbrev s_number_by : Stmt := topS 19
abbrev N_number_by : List Str := ["state", "cell", "each"]
theorem sc_number_by : FnScope N_number_by ["state"] (defScope s_number_by) := ⟨rfl, rfl, rfl, by decide +kernel, rfl, by decide +kernel, by decide +kernel⟩
theorem tm_number_by {f : Addr} {cdv : Value} {A : Around} {outer : List Env} {s : Shared} {H : Hp} (B : Blt mg)
    (hr : Room k (A.deeper (envOfC "number_by" (defScope s_number_by) s.heap.objs.size f cdv))) (hgd : (A.deeper (envOfC "number_by" (defScope s_number_by) s.heap.objs.size f cdv)).guards = some []) :
    GSs (cxOf CX0 P w K mg base N_number_by "number_by" (defScope s_number_by) f cdv A outer s H E0).nox (defBody s_number_by) (body_number_by) := by
  exact gss_one (gs_ret (g_callB (c_sum rfl) (by rfl) B.sum bt_sum (ga_cons (g_lc (own := [("cell", 1), ("each", 2)])  rfl sc_number_by.nd (gi_enum (by rfl) B.enumerate (ga_cons (g_var 0) (ga_nil))) (blkOk_by (own := [("cell", 1), ("each", 2)]) (N := N_number_by) (sc := defScope s_number_by) (by decide +kernel)) (fun _ _ _ _ _ => ggc_tup rfl (ggcs_cons (ggc_name 1 sc_number_by.nd) (ggcs_cons (ggc_name 2 sc_number_by.nd) (ggcs_nil)))) (fun _ _ _ _ _ => gts_nil) (fun _ _ _ _ _ => g_bin o_shl (g_var 2) (g_var 1))) (ga_nil))))
abbrev s_number_of : Stmt := topS 30
abbrev N_number_of : List Str := ["net", "state"]
theorem sc_number_of : FnScope N_number_of ["net", "state"] (defScope s_number_of) := ⟨rfl, rfl, rfl, by decide +kernel, rfl, by decide +kernel, by decide +kernel⟩
theorem tm_number_of {γ_check_both γ_number_by : OL} {f_check_both f_number_by : Addr} {fd_check_both fd_number_by : FuncData} {f : Addr} {cdv : Value} {A : Around} {outer : List Env} {s : Shared} {H : Hp} (B : Blt mg) (h_check_both : Has P w K mg base k "check_both" f_check_both fd_check_both ["net", "state"] γ_check_both) (h_number_by : Has P w K mg base k "number_by" f_number_by fd_number_by ["state"] γ_number_by)
    (hr : Room k (A.deeper (envOfC "number_of" (defScope s_number_of) s.heap.objs.size f cdv))) (hgd : (A.deeper (envOfC "number_of" (defScope s_number_of) s.heap.objs.size f cdv)).guards = some []) :
    GSs (cxOf CX0 P w K mg base N_number_of "number_of" (defScope s_number_of) f cdv A outer s H E0).nox (defBody s_number_of) (body_number_of γ_check_both γ_number_by) := by
  exact gss_cons (gs_expr (g_call h_check_both hr hgd (Nat.le_refl _) (by rfl) (ga_cons (g_var 0) (ga_cons (g_var 1) (ga_nil)))))
    (gss_one (gs_ret (g_call h_number_by hr hgd (Nat.le_refl _) (by rfl) (ga_cons (g_var 1) (ga_nil)))))
abbrev s__law_right : Stmt := topS 50
abbrev N__law_right : List Str := ["well", "turn", "net", "each", "few", "small", "state", "other", "number", "due", "bit"]
theorem sc__law_right : FnScope N__law_right ["well"] (defScope s__law_right) := ⟨rfl, rfl, rfl, by decide +kernel, rfl, by decide +kernel, by decide +kernel⟩
theorem tm__law_right {γ__law_net γ__law_one γ__law_odd γ__law_maybe γ__law_bent γ__law_is_net γ_is_net γ__law_draw γ__law_state γ__law_is_state γ_is_state γ_state_of γ_number_of : OL} {f__law_net f__law_one f__law_odd f__law_maybe f__law_bent f__law_is_net f_is_net f__law_draw f__law_state f__law_is_state f_is_state f_state_of f_number_of : Addr} {fd__law_net fd__law_one fd__law_odd fd__law_maybe fd__law_bent fd__law_is_net fd_is_net fd__law_draw fd__law_state fd__law_is_state fd_is_state fd_state_of fd_number_of : FuncData} {f : Addr} {cdv : Value} {A : Around} {outer : List Env} {s : Shared} {H : Hp} (B : Blt mg) (h__law_net : Has P w K mg base k "_law_net" f__law_net fd__law_net ["well", "few"] γ__law_net) (h__law_one : Has P w K mg base k "_law_one" f__law_one fd__law_one ["well", "some"] γ__law_one) (h__law_odd : Has P w K mg base k "_law_odd" f__law_odd fd__law_odd ["well"] γ__law_odd) (h__law_maybe : Has P w K mg base k "_law_maybe" f__law_maybe fd__law_maybe ["well", "thing"] γ__law_maybe) (h__law_bent : Has P w K mg base k "_law_bent" f__law_bent fd__law_bent ["well", "thing"] γ__law_bent) (h__law_is_net : Has P w K mg base k "_law_is_net" f__law_is_net fd__law_is_net ["thing"] γ__law_is_net) (h_is_net : Has P w K mg base k "is_net" f_is_net fd_is_net ["value"] γ_is_net) (h__law_draw : Has P w K mg base k "_law_draw" f__law_draw fd__law_draw ["well", "few"] γ__law_draw) (h__law_state : Has P w K mg base k "_law_state" f__law_state fd__law_state ["few", "number"] γ__law_state) (h__law_is_state : Has P w K mg base k "_law_is_state" f__law_is_state fd__law_is_state ["thing", "few"] γ__law_is_state) (h_is_state : Has P w K mg base k "is_state" f_is_state fd_is_state ["net", "value"] γ_is_state) (h_state_of : Has P w K mg base k "state_of" f_state_of fd_state_of ["net", "number"] γ_state_of) (h_number_of : Has P w K mg base k "number_of" f_number_of fd_number_of ["net", "state"] γ_number_of) (kb_is_net_0 : KB fd_is_net ["value"] ["value"] 0 [0]) (kb_is_state_0 : KB fd_is_state ["net", "value"] ["value", "net"] 0 [1, 0]) (kb_state_of_0 : KB fd_state_of ["net", "number"] ["number", "net"] 0 [1, 0]) (kb_number_of_0 : KB fd_number_of ["net", "state"] ["state", "net"] 0 [1, 0])
    (hr : Room k (A.deeper (envOfC "_law_right" (defScope s__law_right) s.heap.objs.size f cdv))) (hgd : (A.deeper (envOfC "_law_right" (defScope s__law_right) s.heap.objs.size f cdv)).guards = some []) :
    GSs (cxOf CX0 P w K mg base N__law_right "_law_right" (defScope s__law_right) f cdv A outer s H E0).nox (defBody s__law_right) (body__law_right γ__law_net γ__law_one γ__law_odd γ__law_maybe γ__law_bent γ__law_is_net γ_is_net γ__law_draw γ__law_state γ__law_is_state γ_is_state γ_state_of γ_number_of) := by
  exact gss_cons (gs_for PassesOwn.never rfl (gi_range1 (by rfl) B.range (ga_cons (g_int) (ga_nil))) (gg_name 1 sc__law_right.nd) (gss_cons (gs_set 2 sc__law_right.nd (g_call h__law_net hr hgd (Nat.le_refl _) (by rfl) (ga_cons (g_var 0) (ga_cons (g_call h__law_one hr hgd (Nat.le_refl _) (by rfl) (ga_cons (g_var 0) (ga_cons (g_tup (ga_cons (g_int) (ga_cons (g_int) (ga_cons (g_int) (ga_cons (g_int) (ga_cons (g_int) (ga_cons (g_int) (ga_cons (g_int) (ga_nil))))))))) (ga_nil)))) (ga_nil)))))
    (gss_cons (gs_for PassesOwn.never rfl (gi_seq (g_tup (ga_cons (g_var 2) (ga_cons (g_call h__law_bent hr hgd (Nat.le_refl _) (by rfl) (ga_cons (g_var 0) (ga_cons (g_var 2) (ga_nil)))) (ga_cons (g_call h__law_maybe hr hgd (Nat.le_refl _) (by rfl) (ga_cons (g_var 0) (ga_cons (g_var 2) (ga_nil)))) (ga_cons (g_call h__law_odd hr hgd (Nat.le_refl _) (by rfl) (ga_cons (g_var 0) (ga_nil))) (ga_cons (g_rev (g_var 2) (g_un o_neg (g_int))) (ga_nil)))))))) (gg_name 3 sc__law_right.nd) (gss_cons (gs_set 9 sc__law_right.nd (g_call h__law_is_net hr hgd (Nat.le_refl _) (by rfl) (ga_cons (g_var 3) (ga_nil))))
    (gss_one (gs_if (gt_cmp o_neS (g_callB (c_repr hr hgd) (by rfl) B.repr bt_repr (ga_cons (g_lst (ga_cons (g_call h_is_net hr hgd (Nat.le_refl _) (by rfl) (ga_cons (g_var 3) (ga_nil))) (ga_cons (g_callK0 h_is_net kb_is_net_0 hr hgd (Nat.le_refl _) (by rfl) (gk_cons (g_var 3) (gk_nil))) (ga_nil)))) (ga_nil))) (g_callB (c_repr hr hgd) (by rfl) B.repr bt_repr (ga_cons (g_lst (ga_cons (g_var 9) (ga_cons (g_var 9) (ga_nil)))) (ga_nil)))) (gss_one (gs_ret (g_bl))) (gss_nil)))))
    (gss_cons (gs_set 4 sc__law_right.nd (g_bin o_add (g_int) (g_call h__law_draw hr hgd (Nat.le_refl _) (by rfl) (ga_cons (g_var 0) (ga_cons (g_int) (ga_nil))))))
    (gss_cons (gs_set 5 sc__law_right.nd (g_call h__law_net hr hgd (Nat.le_refl _) (by rfl) (ga_cons (g_var 0) (ga_cons (g_var 4) (ga_nil)))))
    (gss_cons (gs_set 6 sc__law_right.nd (g_call h__law_state hr hgd (Nat.le_refl _) (by rfl) (ga_cons (g_var 4) (ga_cons (g_call h__law_draw hr hgd (Nat.le_refl _) (by rfl) (ga_cons (g_var 0) (ga_cons (g_bin o_shl (g_int) (g_var 4)) (ga_nil)))) (ga_nil)))))
    (gss_cons (gs_set 7 sc__law_right.nd (g_callTy c_tuple (by rfl) B.tuple bt_tuple (ga_cons (g_lc (own := [("bit", 10)])  rfl sc__law_right.nd (gi_seq (g_var 6)) (blkOk_by (own := [("bit", 10)]) (N := N__law_right) (sc := defScope s__law_right) (by decide +kernel)) (fun _ _ _ _ _ => ggc_name 10 sc__law_right.nd) (fun _ _ _ _ _ => gts_nil) (fun _ _ _ _ _ => g_cmp (o_eq hr.units) (g_var 10) (g_int))) (ga_nil))))
    (gss_cons (gs_for PassesOwn.never rfl (gi_seq (g_tup (ga_cons (g_var 6) (ga_cons (g_call h__law_bent hr hgd (Nat.le_refl _) (by rfl) (ga_cons (g_var 0) (ga_cons (g_var 6) (ga_nil)))) (ga_cons (g_call h__law_maybe hr hgd (Nat.le_refl _) (by rfl) (ga_cons (g_var 0) (ga_cons (g_var 6) (ga_nil)))) (ga_cons (g_call h__law_odd hr hgd (Nat.le_refl _) (by rfl) (ga_cons (g_var 0) (ga_nil))) (ga_cons (g_var 7) (ga_cons (g_bin o_add (g_var 6) (g_tup (ga_cons (g_int) (ga_nil)))) (ga_nil))))))))) (gg_name 3 sc__law_right.nd) (gss_cons (gs_set 9 sc__law_right.nd (g_call h__law_is_state hr hgd (Nat.le_refl _) (by rfl) (ga_cons (g_var 3) (ga_cons (g_var 4) (ga_nil)))))
    (gss_one (gs_if (gt_cmp o_neS (g_callB (c_repr hr hgd) (by rfl) B.repr bt_repr (ga_cons (g_lst (ga_cons (g_call h_is_state hr hgd (Nat.le_refl _) (by rfl) (ga_cons (g_var 5) (ga_cons (g_var 3) (ga_nil)))) (ga_cons (g_callK0 h_is_state kb_is_state_0 hr hgd (Nat.le_refl _) (by rfl) (gk_cons (g_var 3) (gk_cons (g_var 5) (gk_nil)))) (ga_nil)))) (ga_nil))) (g_callB (c_repr hr hgd) (by rfl) B.repr bt_repr (ga_cons (g_lst (ga_cons (g_var 9) (ga_cons (g_var 9) (ga_nil)))) (ga_nil)))) (gss_one (gs_ret (g_bl))) (gss_nil)))))
    (gss_one (gs_for PassesOwn.never rfl (gi_range1 (by rfl) B.range (ga_cons (g_bin o_shl (g_int) (g_var 4)) (ga_nil))) (gg_name 8 sc__law_right.nd) (gss_cons (gs_set 6 sc__law_right.nd (g_call h__law_state hr hgd (Nat.le_refl _) (by rfl) (ga_cons (g_var 4) (ga_cons (g_var 8) (ga_nil)))))
    (gss_cons (gs_if (gt_cmp o_neS (g_callB (c_repr hr hgd) (by rfl) B.repr bt_repr (ga_cons (g_lst (ga_cons (g_call h_state_of hr hgd (Nat.le_refl _) (by rfl) (ga_cons (g_var 5) (ga_cons (g_var 8) (ga_nil)))) (ga_cons (g_callK0 h_state_of kb_state_of_0 hr hgd (Nat.le_refl _) (by rfl) (gk_cons (g_var 8) (gk_cons (g_var 5) (gk_nil)))) (ga_nil)))) (ga_nil))) (g_callB (c_repr hr hgd) (by rfl) B.repr bt_repr (ga_cons (g_lst (ga_cons (g_var 6) (ga_cons (g_var 6) (ga_nil)))) (ga_nil)))) (gss_one (gs_ret (g_bl))) (gss_nil))
    (gss_one (gs_if (gt_cmp o_neS (g_callB (c_repr hr hgd) (by rfl) B.repr bt_repr (ga_cons (g_lst (ga_cons (g_call h_number_of hr hgd (Nat.le_refl _) (by rfl) (ga_cons (g_var 5) (ga_cons (g_var 6) (ga_nil)))) (ga_cons (g_callK0 h_number_of kb_number_of_0 hr hgd (Nat.le_refl _) (by rfl) (gk_cons (g_var 6) (gk_cons (g_var 5) (gk_nil)))) (ga_nil)))) (ga_nil))) (g_callB (c_repr hr hgd) (by rfl) B.repr bt_repr (ga_cons (g_lst (ga_cons (g_var 8) (ga_cons (g_var 8) (ga_nil)))) (ga_nil)))) (gss_one (gs_ret (g_bl))) (gss_nil)))))))))))))))
    (gss_one (gs_ret (g_bl)))
abbrev s__law_well : Stmt := topS 33
abbrev N__law_well : List Str := ["script", "lap", "mixed", "cell", "own"]
theorem sc__law_well : FnScope N__law_well ["script", "lap"] (defScope s__law_well) := ⟨rfl, rfl, rfl, by decide +kernel, rfl, by decide +kernel, by decide +kernel⟩
theorem tm__law_well {f : Addr} {cdv : Value} {A : Around} {outer : List Env} {s : Shared} {H : Hp} (B : Blt mg)
    (hr : Room k (A.deeper (envOfC "_law_well" (defScope s__law_well) s.heap.objs.size f cdv))) (hgd : (A.deeper (envOfC "_law_well" (defScope s__law_well) s.heap.objs.size f cdv)).guards = some []) :
    GSs (cxOf CX0 P w K mg base N__law_well "_law_well" (defScope s__law_well) f cdv A outer s H E0).nox (defBody s__law_well) (body__law_well) := by
  exact gss_cons (gs_set 2 sc__law_well.nd (g_bin o_add (g_int) (g_bin o_mul (g_int) (g_var 1))))
    (gss_cons (gs_for PassesOwn.never rfl (gi_seq (g_slice (g_var 0) (go_none) (go_some (g_int)))) (gg_name 3 sc__law_well.nd) (gss_one (gs_set 2 sc__law_well.nd (g_bin o_mod (g_callTy c_int (by rfl) B.int bt_int (ga_cons (g_bin o_add (g_bin o_add (g_bin o_mul (g_var 2) (g_int)) (g_bin o_mul (g_bin o_mod (g_callTy c_int (by rfl) B.int bt_int (ga_cons (g_var 3) (ga_nil))) (g_int)) (g_int))) (g_int)) (ga_nil))) (g_int)))))
    (gss_cons (gs_set 4 sc__law_well.nd (g_ifExp (gt_cmp o_lt (g_var 1) (g_callB c_len (by rfl) B.len bt_len (ga_cons (g_var 0) (ga_nil)))) (g_callTy c_int (by rfl) B.int bt_int (ga_cons (g_ix o_ix (g_var 0) (g_var 1)) (ga_nil))) (g_int)))
    (gss_cons (gs_set 2 sc__law_well.nd (g_bin o_mod (g_callTy c_int (by rfl) B.int bt_int (ga_cons (g_bin o_add (g_bin o_add (g_bin o_mul (g_var 2) (g_int)) (g_bin o_mul (g_bin o_mod (g_callTy c_int (by rfl) B.int bt_int (ga_cons (g_var 4) (ga_nil))) (g_int)) (g_int))) (g_int)) (ga_nil))) (g_int)))
    (gss_one (gs_ret (g_lstM (ga_cons (g_ifExp (gw_pt (gw_or (gt_cmp o_lt (g_var 4) (g_int)) (gw_or1 (gt_cmp o_ge (g_var 4) (g_bin o_pow (g_int) (g_int)))))) (g_callB c_abs (by rfl) B.abs bt_abs (ga_cons (g_var 4) (ga_nil))) (g_int)) (ga_cons (g_var 2) (ga_cons (g_int) (ga_nil))))))))))
abbrev s_law : Stmt := topS 51
abbrev N_law : List Str := ["script", "lap"]
theorem sc_law : FnScope N_law ["script"] (defScope s_law) := ⟨rfl, rfl, rfl, by decide +kernel, rfl, by decide +kernel, by decide +kernel⟩
theorem tm_law {γ__law_right γ__law_well : OL} {f__law_right f__law_well : Addr} {fd__law_right fd__law_well : FuncData} {f : Addr} {cdv : Value} {A : Around} {outer : List Env} {s : Shared} {H : Hp} (B : Blt mg) (h__law_right : Has P w K mg base k "_law_right" f__law_right fd__law_right ["well"] γ__law_right) (h__law_well : Has P w K mg base k "_law_well" f__law_well fd__law_well ["script", "lap"] γ__law_well)
    (hr : Room k (A.deeper (envOfC "law" (defScope s_law) s.heap.objs.size f cdv))) (hgd : (A.deeper (envOfC "law" (defScope s_law) s.heap.objs.size f cdv)).guards = some []) :
    GSs (cxOf CX0 P w K mg base N_law "law" (defScope s_law) f cdv A outer s H E0).nox (defBody s_law) (body_law γ__law_right γ__law_well) := by
  exact gss_one (gs_ret (g_callB (c_all rfl) (by rfl) B.all bt_all (ga_cons (g_lc (own := [("lap", 1)])  rfl sc_law.nd (gi_range1 (by rfl) B.range (ga_cons (g_callB (c_max2 rfl) (by rfl) B.max bt_max (ga_cons (g_int) (ga_cons (g_callB (c_min2 rfl) (by rfl) B.min bt_min (ga_cons (g_callB c_len (by rfl) B.len bt_len (ga_cons (g_var 0) (ga_nil))) (ga_cons (g_int) (ga_nil)))) (ga_nil)))) (ga_nil))) (blkOk_by (own := [("lap", 1)]) (N := N_law) (sc := defScope s_law) (by decide +kernel)) (fun _ _ _ _ _ => ggc_name 1 sc_law.nd) (fun _ _ _ _ _ => gts_nil) (fun _ _ _ _ _ => g_call h__law_right hr hgd (Nat.le_refl _) (by rfl) (ga_cons (g_call h__law_well hr hgd (Nat.le_refl _) (by rfl) (ga_cons (g_var 0) (ga_cons (g_var 1) (ga_nil)))) (ga_nil)))) (ga_nil))))
end
end K02

namespace K02
open PySem PySem.Spec PyProof.Rows L2 Gx
section
variable {P : Program} {w : World} {K : PySem.W.Frag} {mg : Str → Option Value} {base : Heap} {k : Nat}
theorem gf__law_draw {f : Addr} {fd : FuncData} (F : Fun K "_law_draw" "_law_draw" s__law_draw f fd) (B : Blt mg) : GFn P w K mg base (k + 1) f fd ["well", "few"] (γ_draw) :=
  gfn_of F sc__law_draw (by intro ds S R h; unfold γ_draw at h; first | (obtain ⟨e, _⟩ := h; subst e; rfl) | (split at h <;> first | rfl | exact h.elim) | (obtain ⟨_, e, _⟩ := h; subst e; rfl) | (obtain ⟨_, _, e, _⟩ := h; subst e; rfl) | (obtain ⟨_, _, _, e, _⟩ := h; subst e; rfl) | (obtain ⟨_, _, _, _, e, _⟩ := h; subst e; rfl) | (obtain ⟨_, _, _, _, _, e, _⟩ := h; subst e; rfl) | (obtain ⟨_, _, _, _, _, _, e, _⟩ := h; subst e; rfl)) fun cdv A outer s H hr hgd => ⟨_, tm__law_draw B hr hgd, fun ds S R q => (law_draw) ds S R q⟩
theorem gf__law_one {f__law_draw : Addr} {fd__law_draw : FuncData} {f : Addr} {fd : FuncData} (F : Fun K "_law_one" "_law_one" s__law_one f fd) (B : Blt mg) (h__law_draw : Has P w K mg base k "_law_draw" f__law_draw fd__law_draw ["well", "few"] (γ_draw)) : GFn P w K mg base (k + 1) f fd ["well", "some"] (γ_one) :=
  gfn_of F sc__law_one (by intro ds S R h; unfold γ_one at h; first | (obtain ⟨e, _⟩ := h; subst e; rfl) | (split at h <;> first | rfl | exact h.elim) | (obtain ⟨_, e, _⟩ := h; subst e; rfl) | (obtain ⟨_, _, e, _⟩ := h; subst e; rfl) | (obtain ⟨_, _, _, e, _⟩ := h; subst e; rfl) | (obtain ⟨_, _, _, _, e, _⟩ := h; subst e; rfl) | (obtain ⟨_, _, _, _, _, e, _⟩ := h; subst e; rfl) | (obtain ⟨_, _, _, _, _, _, e, _⟩ := h; subst e; rfl)) fun cdv A outer s H hr hgd => ⟨_, tm__law_one B h__law_draw hr hgd, fun ds S R q => (law_one) ds S R q⟩
theorem gf__law_lean {f : Addr} {fd : FuncData} (F : Fun K "_law_lean" "_law_lean" s__law_lean f fd) (B : Blt mg) : GFn P w K mg base (k + 1) f fd ["top", "base"] (γ_ratio) :=
  gfn_of F sc__law_lean (by intro ds S R h; unfold γ_ratio at h; first | (obtain ⟨e, _⟩ := h; subst e; rfl) | (split at h <;> first | rfl | exact h.elim) | (obtain ⟨_, e, _⟩ := h; subst e; rfl) | (obtain ⟨_, _, e, _⟩ := h; subst e; rfl) | (obtain ⟨_, _, _, e, _⟩ := h; subst e; rfl) | (obtain ⟨_, _, _, _, e, _⟩ := h; subst e; rfl) | (obtain ⟨_, _, _, _, _, e, _⟩ := h; subst e; rfl) | (obtain ⟨_, _, _, _, _, _, e, _⟩ := h; subst e; rfl)) fun cdv A outer s H hr hgd => ⟨_, tm__law_lean B hr hgd, fun ds S R q => (law_lean) ds S R q⟩
theorem gf__law_weight {f__law_draw f__law_one f__law_lean : Addr} {fd__law_draw fd__law_one fd__law_lean : FuncData} {f : Addr} {fd : FuncData} (F : Fun K "_law_weight" "_law_weight" s__law_weight f fd) (B : Blt mg) (h__law_draw : Has P w K mg base k "_law_draw" f__law_draw fd__law_draw ["well", "few"] (γ_draw)) (h__law_one : Has P w K mg base k "_law_one" f__law_one fd__law_one ["well", "some"] (γ_one)) (h__law_lean : Has P w K mg base k "_law_lean" f__law_lean fd__law_lean ["top", "base"] (γ_ratio)) : GFn P w K mg base (k + 1) f fd ["well"] (γ_frac (Bd 1000000 6)) :=
  gfn_of F sc__law_weight (by intro ds S R h; unfold γ_frac at h; first | (obtain ⟨e, _⟩ := h; subst e; rfl) | (split at h <;> first | rfl | exact h.elim) | (obtain ⟨_, e, _⟩ := h; subst e; rfl) | (obtain ⟨_, _, e, _⟩ := h; subst e; rfl) | (obtain ⟨_, _, _, e, _⟩ := h; subst e; rfl) | (obtain ⟨_, _, _, _, e, _⟩ := h; subst e; rfl) | (obtain ⟨_, _, _, _, _, e, _⟩ := h; subst e; rfl) | (obtain ⟨_, _, _, _, _, _, e, _⟩ := h; subst e; rfl)) fun cdv A outer s H hr hgd => ⟨_, tm__law_weight B h__law_draw h__law_one h__law_lean hr hgd, fun ds S R q => (law_weight') ds S R q⟩
theorem gf__law_mark {f__law_one : Addr} {fd__law_one : FuncData} {f : Addr} {fd : FuncData} (F : Fun K "_law_mark" "_law_mark" s__law_mark f fd) (B : Blt mg) (h__law_one : Has P w K mg base k "_law_one" f__law_one fd__law_one ["well", "some"] (γ_one)) : GFn P w K mg base (k + 1) f fd ["well"] (γ_frac (Bd 3 2)) :=
  gfn_of F sc__law_mark (by intro ds S R h; unfold γ_frac at h; first | (obtain ⟨e, _⟩ := h; subst e; rfl) | (split at h <;> first | rfl | exact h.elim) | (obtain ⟨_, e, _⟩ := h; subst e; rfl) | (obtain ⟨_, _, e, _⟩ := h; subst e; rfl) | (obtain ⟨_, _, _, e, _⟩ := h; subst e; rfl) | (obtain ⟨_, _, _, _, e, _⟩ := h; subst e; rfl) | (obtain ⟨_, _, _, _, _, e, _⟩ := h; subst e; rfl) | (obtain ⟨_, _, _, _, _, _, e, _⟩ := h; subst e; rfl)) fun cdv A outer s H hr hgd => ⟨_, tm__law_mark B h__law_one hr hgd, fun ds S R q => (law_mark') ds S R q⟩
theorem gf__law_net {f__law_weight f__law_mark : Addr} {fd__law_weight fd__law_mark : FuncData} {f : Addr} {fd : FuncData} (F : Fun K "_law_net" "_law_net" s__law_net f fd) (B : Blt mg) (h__law_weight : Has P w K mg base k "_law_weight" f__law_weight fd__law_weight ["well"] (γ_frac (Bd 1000000 6))) (h__law_mark : Has P w K mg base k "_law_mark" f__law_mark fd__law_mark ["well"] (γ_frac (Bd 3 2))) : GFn P w K mg base (k + 1) f fd ["well", "few"] (γ_net9 (Bd 1000000 6) (Bd 3 2)) :=
  gfn_of F sc__law_net (by intro ds S R h; unfold γ_net9 at h; first | (obtain ⟨e, _⟩ := h; subst e; rfl) | (split at h <;> first | rfl | exact h.elim) | (obtain ⟨_, e, _⟩ := h; subst e; rfl) | (obtain ⟨_, _, e, _⟩ := h; subst e; rfl) | (obtain ⟨_, _, _, e, _⟩ := h; subst e; rfl) | (obtain ⟨_, _, _, _, e, _⟩ := h; subst e; rfl) | (obtain ⟨_, _, _, _, _, e, _⟩ := h; subst e; rfl) | (obtain ⟨_, _, _, _, _, _, e, _⟩ := h; subst e; rfl)) fun cdv A outer s H hr hgd => ⟨_, tm__law_net B h__law_weight h__law_mark hr hgd, fun ds S R q => (law_net9') ds S R q⟩
theorem gf__law_odd {f__law_one : Addr} {fd__law_one : FuncData} {f : Addr} {fd : FuncData} (F : Fun K "_law_odd" "_law_odd" s__law_odd f fd) (B : Blt mg) (h__law_one : Has P w K mg base k "_law_one" f__law_one fd__law_one ["well", "some"] (γ_one)) : GFn P w K mg base (k + 1) f fd ["well"] (γ_oddA) :=
  gfn_of F sc__law_odd (by intro ds S R h; unfold γ_oddA at h; first | (obtain ⟨e, _⟩ := h; subst e; rfl) | (split at h <;> first | rfl | exact h.elim) | (obtain ⟨_, e, _⟩ := h; subst e; rfl) | (obtain ⟨_, _, e, _⟩ := h; subst e; rfl) | (obtain ⟨_, _, _, e, _⟩ := h; subst e; rfl) | (obtain ⟨_, _, _, _, e, _⟩ := h; subst e; rfl) | (obtain ⟨_, _, _, _, _, e, _⟩ := h; subst e; rfl) | (obtain ⟨_, _, _, _, _, _, e, _⟩ := h; subst e; rfl)) fun cdv A outer s H hr hgd => ⟨_, tm__law_odd B h__law_one hr hgd, fun ds S R q => (law_oddA) ds S R q⟩
theorem gf__law_is_whole {f : Addr} {fd : FuncData} (F : Fun K "_law_is_whole" "_law_is_whole" s__law_is_whole f fd) (B : Blt mg) : GFn P w K mg base (k + 1) f fd ["thing"] (γ_iwA) :=
  gfn_of F sc__law_is_whole (by intro ds S R h; unfold γ_iwA at h; first | (obtain ⟨e, _⟩ := h; subst e; rfl) | (split at h <;> first | rfl | exact h.elim) | (obtain ⟨_, e, _⟩ := h; subst e; rfl) | (obtain ⟨_, _, e, _⟩ := h; subst e; rfl) | (obtain ⟨_, _, _, e, _⟩ := h; subst e; rfl) | (obtain ⟨_, _, _, _, e, _⟩ := h; subst e; rfl) | (obtain ⟨_, _, _, _, _, e, _⟩ := h; subst e; rfl) | (obtain ⟨_, _, _, _, _, _, e, _⟩ := h; subst e; rfl)) fun cdv A outer s H hr hgd => ⟨_, tm__law_is_whole B hr hgd, fun ds S R q => (law_iwA) ds S R q⟩
theorem gf__law_bent {f__law_draw f__law_is_whole f__law_odd : Addr} {fd__law_draw fd__law_is_whole fd__law_odd : FuncData} {f : Addr} {fd : FuncData} (F : Fun K "_law_bent" "_law_bent" s__law_bent f fd) (B : Blt mg) (h__law_draw : Has P w K mg base k "_law_draw" f__law_draw fd__law_draw ["well", "few"] (γ_draw)) (h__law_is_whole : Has P w K mg base k "_law_is_whole" f__law_is_whole fd__law_is_whole ["thing"] (γ_iwA)) (h__law_odd : Has P w K mg base k "_law_odd" f__law_odd fd__law_odd ["well"] (γ_oddA)) : GFn P w K mg base (k + 1) f fd ["well", "thing"] (γ_bentA) :=
  gfn_of F sc__law_bent (by intro ds S R h; unfold γ_bentA at h; first | (obtain ⟨e, _⟩ := h; subst e; rfl) | (split at h <;> first | rfl | exact h.elim) | (obtain ⟨_, e, _⟩ := h; subst e; rfl) | (obtain ⟨_, _, e, _⟩ := h; subst e; rfl) | (obtain ⟨_, _, _, e, _⟩ := h; subst e; rfl) | (obtain ⟨_, _, _, _, e, _⟩ := h; subst e; rfl) | (obtain ⟨_, _, _, _, _, e, _⟩ := h; subst e; rfl) | (obtain ⟨_, _, _, _, _, _, e, _⟩ := h; subst e; rfl)) fun cdv A outer s H hr hgd => ⟨_, tm__law_bent B h__law_draw h__law_is_whole h__law_odd hr hgd, fun ds S R q => (law_bentA) ds S R q⟩
theorem gf__law_maybe {f__law_draw f__law_bent f__law_odd : Addr} {fd__law_draw fd__law_bent fd__law_odd : FuncData} {f : Addr} {fd : FuncData} (F : Fun K "_law_maybe" "_law_maybe" s__law_maybe f fd) (B : Blt mg) (h__law_draw : Has P w K mg base k "_law_draw" f__law_draw fd__law_draw ["well", "few"] (γ_draw)) (h__law_bent : Has P w K mg base k "_law_bent" f__law_bent fd__law_bent ["well", "thing"] (γ_bentA)) (h__law_odd : Has P w K mg base k "_law_odd" f__law_odd fd__law_odd ["well"] (γ_oddA)) : GFn P w K mg base (k + 1) f fd ["well", "thing"] (γ_maybeA) :=
  gfn_of F sc__law_maybe (by intro ds S R h; unfold γ_maybeA at h; first | (obtain ⟨e, _⟩ := h; subst e; rfl) | (split at h <;> first | rfl | exact h.elim) | (obtain ⟨_, e, _⟩ := h; subst e; rfl) | (obtain ⟨_, _, e, _⟩ := h; subst e; rfl) | (obtain ⟨_, _, _, e, _⟩ := h; subst e; rfl) | (obtain ⟨_, _, _, _, e, _⟩ := h; subst e; rfl) | (obtain ⟨_, _, _, _, _, e, _⟩ := h; subst e; rfl) | (obtain ⟨_, _, _, _, _, _, e, _⟩ := h; subst e; rfl)) fun cdv A outer s H hr hgd => ⟨_, tm__law_maybe B h__law_draw h__law_bent h__law_odd hr hgd, fun ds S R q => (law_maybeA) ds S R q⟩
theorem gf__law_is_tuple {f : Addr} {fd : FuncData} (F : Fun K "_law_is_tuple" "_law_is_tuple" s__law_is_tuple f fd) (B : Blt mg) : GFn P w K mg base (k + 1) f fd ["thing", "few"] (γ_itA) :=
  gfn_of F sc__law_is_tuple (by intro ds S R h; unfold γ_itA at h; first | (obtain ⟨e, _⟩ := h; subst e; rfl) | (split at h <;> first | rfl | exact h.elim) | (obtain ⟨_, e, _⟩ := h; subst e; rfl) | (obtain ⟨_, _, e, _⟩ := h; subst e; rfl) | (obtain ⟨_, _, _, e, _⟩ := h; subst e; rfl) | (obtain ⟨_, _, _, _, e, _⟩ := h; subst e; rfl) | (obtain ⟨_, _, _, _, _, e, _⟩ := h; subst e; rfl) | (obtain ⟨_, _, _, _, _, _, e, _⟩ := h; subst e; rfl)) fun cdv A outer s H hr hgd => ⟨_, tm__law_is_tuple B hr hgd, fun ds S R q => (law_itA) ds S R q⟩
theorem gf__law_is_part {f__law_is_tuple f__law_is_whole f__law_lean : Addr} {fd__law_is_tuple fd__law_is_whole fd__law_lean : FuncData} {f : Addr} {fd : FuncData} (F : Fun K "_law_is_part" "_law_is_part" s__law_is_part f fd) (B : Blt mg) (h__law_is_tuple : Has P w K mg base k "_law_is_tuple" f__law_is_tuple fd__law_is_tuple ["thing", "few"] (γ_itA)) (h__law_is_whole : Has P w K mg base k "_law_is_whole" f__law_is_whole fd__law_is_whole ["thing"] (γ_iwA)) (h__law_lean : Has P w K mg base k "_law_lean" f__law_lean fd__law_lean ["top", "base"] (γ_ratio)) : GFn P w K mg base (k + 1) f fd ["thing"] (γ_lpA) :=
  gfn_of F sc__law_is_part (by intro ds S R h; unfold γ_lpA at h; first | (obtain ⟨e, _⟩ := h; subst e; rfl) | (split at h <;> first | rfl | exact h.elim) | (obtain ⟨_, e, _⟩ := h; subst e; rfl) | (obtain ⟨_, _, e, _⟩ := h; subst e; rfl) | (obtain ⟨_, _, _, e, _⟩ := h; subst e; rfl) | (obtain ⟨_, _, _, _, e, _⟩ := h; subst e; rfl) | (obtain ⟨_, _, _, _, _, e, _⟩ := h; subst e; rfl) | (obtain ⟨_, _, _, _, _, _, e, _⟩ := h; subst e; rfl)) fun cdv A outer s H hr hgd => ⟨_, tm__law_is_part B h__law_is_tuple h__law_is_whole h__law_lean hr hgd, fun ds S R q => (law_lpA) ds S R q⟩
theorem gf__law_is_row {f__law_is_tuple f__law_is_part : Addr} {fd__law_is_tuple fd__law_is_part : FuncData} {f : Addr} {fd : FuncData} (F : Fun K "_law_is_row" "_law_is_row" s__law_is_row f fd) (B : Blt mg) (h__law_is_tuple : Has P w K mg base k "_law_is_tuple" f__law_is_tuple fd__law_is_tuple ["thing", "few"] (γ_itA)) (h__law_is_part : Has P w K mg base k "_law_is_part" f__law_is_part fd__law_is_part ["thing"] (γ_lpA)) : GFn P w K mg base (k + 1) f fd ["thing", "few"] (γ_lrowA) :=
  gfn_of F sc__law_is_row (by intro ds S R h; unfold γ_lrowA at h; first | (obtain ⟨e, _⟩ := h; subst e; rfl) | (split at h <;> first | rfl | exact h.elim) | (obtain ⟨_, e, _⟩ := h; subst e; rfl) | (obtain ⟨_, _, e, _⟩ := h; subst e; rfl) | (obtain ⟨_, _, _, e, _⟩ := h; subst e; rfl) | (obtain ⟨_, _, _, _, e, _⟩ := h; subst e; rfl) | (obtain ⟨_, _, _, _, _, e, _⟩ := h; subst e; rfl) | (obtain ⟨_, _, _, _, _, _, e, _⟩ := h; subst e; rfl)) fun cdv A outer s H hr hgd => ⟨_, tm__law_is_row B h__law_is_tuple h__law_is_part hr hgd, fun ds S R q => (law_lrowA) ds S R q⟩
theorem gf__law_is_net {f__law_is_tuple f__law_is_row : Addr} {fd__law_is_tuple fd__law_is_row : FuncData} {f : Addr} {fd : FuncData} (F : Fun K "_law_is_net" "_law_is_net" s__law_is_net f fd) (B : Blt mg) (h__law_is_tuple : Has P w K mg base k "_law_is_tuple" f__law_is_tuple fd__law_is_tuple ["thing", "few"] (γ_itA)) (h__law_is_row : Has P w K mg base k "_law_is_row" f__law_is_row fd__law_is_row ["thing", "few"] (γ_lrowA)) : GFn P w K mg base (k + 1) f fd ["thing"] (γ_lnetA) :=
  gfn_of F sc__law_is_net (by intro ds S R h; unfold γ_lnetA at h; first | (obtain ⟨e, _⟩ := h; subst e; rfl) | (split at h <;> first | rfl | exact h.elim) | (obtain ⟨_, e, _⟩ := h; subst e; rfl) | (obtain ⟨_, _, e, _⟩ := h; subst e; rfl) | (obtain ⟨_, _, _, e, _⟩ := h; subst e; rfl) | (obtain ⟨_, _, _, _, e, _⟩ := h; subst e; rfl) | (obtain ⟨_, _, _, _, _, e, _⟩ := h; subst e; rfl) | (obtain ⟨_, _, _, _, _, _, e, _⟩ := h; subst e; rfl)) fun cdv A outer s H hr hgd => ⟨_, tm__law_is_net B h__law_is_tuple h__law_is_row hr hgd, fun ds S R q => (law_lnetA) ds S R q⟩
theorem gf_is_tuple_of {f : Addr} {fd : FuncData} (F : Fun K "is_tuple_of" "is_tuple_of" s_is_tuple_of f fd) (B : Blt mg) : GFn P w K mg base (k + 1) f fd ["value", "many"] (γ_itA) :=
  gfn_of F sc_is_tuple_of (by intro ds S R h; unfold γ_itA at h; first | (obtain ⟨e, _⟩ := h; subst e; rfl) | (split at h <;> first | rfl | exact h.elim) | (obtain ⟨_, e, _⟩ := h; subst e; rfl) | (obtain ⟨_, _, e, _⟩ := h; subst e; rfl) | (obtain ⟨_, _, _, e, _⟩ := h; subst e; rfl) | (obtain ⟨_, _, _, _, e, _⟩ := h; subst e; rfl) | (obtain ⟨_, _, _, _, _, e, _⟩ := h; subst e; rfl) | (obtain ⟨_, _, _, _, _, _, e, _⟩ := h; subst e; rfl)) fun cdv A outer s H hr hgd => ⟨_, tm_is_tuple_of B hr hgd, fun ds S R q => (law_itA) ds S R q⟩
theorem gf_is_whole {f : Addr} {fd : FuncData} (F : Fun K "is_whole" "is_whole" s_is_whole f fd) (B : Blt mg) : GFn P w K mg base (k + 1) f fd ["value"] (γ_iwA) :=
  gfn_of F sc_is_whole (by intro ds S R h; unfold γ_iwA at h; first | (obtain ⟨e, _⟩ := h; subst e; rfl) | (split at h <;> first | rfl | exact h.elim) | (obtain ⟨_, e, _⟩ := h; subst e; rfl) | (obtain ⟨_, _, e, _⟩ := h; subst e; rfl) | (obtain ⟨_, _, _, e, _⟩ := h; subst e; rfl) | (obtain ⟨_, _, _, _, e, _⟩ := h; subst e; rfl) | (obtain ⟨_, _, _, _, _, e, _⟩ := h; subst e; rfl) | (obtain ⟨_, _, _, _, _, _, e, _⟩ := h; subst e; rfl)) fun cdv A outer s H hr hgd => ⟨_, tm_is_whole B hr hgd, fun ds S R q => (law_iwA) ds S R q⟩
theorem gf_is_ratio {f_is_tuple_of f_is_whole : Addr} {fd_is_tuple_of fd_is_whole : FuncData} {f : Addr} {fd : FuncData} (F : Fun K "is_ratio" "is_ratio" s_is_ratio f fd) (B : Blt mg) (h_is_tuple_of : Has P w K mg base k "is_tuple_of" f_is_tuple_of fd_is_tuple_of ["value", "many"] (γ_itA)) (h_is_whole : Has P w K mg base k "is_whole" f_is_whole fd_is_whole ["value"] (γ_iwA)) (m_gcd : mg "gcd" = some (.builtin "math.gcd")) : GFn P w K mg base (k + 1) f fd ["value"] (γ_frA) :=
  gfn_of F sc_is_ratio (by intro ds S R h; unfold γ_frA at h; first | (obtain ⟨e, _⟩ := h; subst e; rfl) | (split at h <;> first | rfl | exact h.elim) | (obtain ⟨_, e, _⟩ := h; subst e; rfl) | (obtain ⟨_, _, e, _⟩ := h; subst e; rfl) | (obtain ⟨_, _, _, e, _⟩ := h; subst e; rfl) | (obtain ⟨_, _, _, _, e, _⟩ := h; subst e; rfl) | (obtain ⟨_, _, _, _, _, e, _⟩ := h; subst e; rfl) | (obtain ⟨_, _, _, _, _, _, e, _⟩ := h; subst e; rfl)) fun cdv A outer s H hr hgd => ⟨_, tm_is_ratio B h_is_tuple_of h_is_whole m_gcd hr hgd, fun ds S R q => (law_frA) ds S R q⟩
theorem gf_is_row {f_is_tuple_of f_is_ratio : Addr} {fd_is_tuple_of fd_is_ratio : FuncData} {f : Addr} {fd : FuncData} (F : Fun K "is_row" "is_row" s_is_row f fd) (B : Blt mg) (h_is_tuple_of : Has P w K mg base k "is_tuple_of" f_is_tuple_of fd_is_tuple_of ["value", "many"] (γ_itA)) (h_is_ratio : Has P w K mg base k "is_ratio" f_is_ratio fd_is_ratio ["value"] (γ_frA)) : GFn P w K mg base (k + 1) f fd ["value", "many"] (γ_rowA) :=
  gfn_of F sc_is_row (by intro ds S R h; unfold γ_rowA at h; first | (obtain ⟨e, _⟩ := h; subst e; rfl) | (split at h <;> first | rfl | exact h.elim) | (obtain ⟨_, e, _⟩ := h; subst e; rfl) | (obtain ⟨_, _, e, _⟩ := h; subst e; rfl) | (obtain ⟨_, _, _, e, _⟩ := h; subst e; rfl) | (obtain ⟨_, _, _, _, e, _⟩ := h; subst e; rfl) | (obtain ⟨_, _, _, _, _, e, _⟩ := h; subst e; rfl) | (obtain ⟨_, _, _, _, _, _, e, _⟩ := h; subst e; rfl)) fun cdv A outer s H hr hgd => ⟨_, tm_is_row B h_is_tuple_of h_is_ratio hr hgd, fun ds S R q => (law_rowA) ds S R q⟩
theorem gf_is_net_by {f_is_tuple_of f_is_row : Addr} {fd_is_tuple_of fd_is_row : FuncData} {f : Addr} {fd : FuncData} (F : Fun K "is_net_by" "is_net_by" s_is_net_by f fd) (B : Blt mg) (h_is_tuple_of : Has P w K mg base k "is_tuple_of" f_is_tuple_of fd_is_tuple_of ["value", "many"] (γ_itA)) (c_MOST_CELLS : Cst K mg "MOST_CELLS" (.int 8)) (h_is_row : Has P w K mg base k "is_row" f_is_row fd_is_row ["value", "many"] (γ_rowA)) (c_ZERO : Cst K mg "ZERO" (.tup [.int 0, .int 1])) : GFn P w K mg base (k + 1) f fd ["value"] (γ_netA) :=
  gfn_of F sc_is_net_by (by intro ds S R h; unfold γ_netA at h; first | (obtain ⟨e, _⟩ := h; subst e; rfl) | (split at h <;> first | rfl | exact h.elim) | (obtain ⟨_, e, _⟩ := h; subst e; rfl) | (obtain ⟨_, _, e, _⟩ := h; subst e; rfl) | (obtain ⟨_, _, _, e, _⟩ := h; subst e; rfl) | (obtain ⟨_, _, _, _, e, _⟩ := h; subst e; rfl) | (obtain ⟨_, _, _, _, _, e, _⟩ := h; subst e; rfl) | (obtain ⟨_, _, _, _, _, _, e, _⟩ := h; subst e; rfl)) fun cdv A outer s H hr hgd => ⟨_, tm_is_net_by B h_is_tuple_of c_MOST_CELLS h_is_row c_ZERO hr hgd, fun ds S R q => (law_netA) ds S R q⟩
theorem gf_is_net {f_is_net_by : Addr} {fd_is_net_by : FuncData} {f : Addr} {fd : FuncData} (F : Fun K "is_net" "is_net" s_is_net f fd) (B : Blt mg) (h_is_net_by : Has P w K mg base k "is_net_by" f_is_net_by fd_is_net_by ["value"] (γ_netA)) : GFn P w K mg base (k + 1) f fd ["value"] (γ_isnetA) :=
  gfn_of F sc_is_net (by intro ds S R h; unfold γ_isnetA at h; first | (obtain ⟨e, _⟩ := h; subst e; rfl) | (split at h <;> first | rfl | exact h.elim) | (obtain ⟨_, e, _⟩ := h; subst e; rfl) | (obtain ⟨_, _, e, _⟩ := h; subst e; rfl) | (obtain ⟨_, _, _, e, _⟩ := h; subst e; rfl) | (obtain ⟨_, _, _, _, e, _⟩ := h; subst e; rfl) | (obtain ⟨_, _, _, _, _, e, _⟩ := h; subst e; rfl) | (obtain ⟨_, _, _, _, _, _, e, _⟩ := h; subst e; rfl)) fun cdv A outer s H hr hgd => ⟨_, tm_is_net B h_is_net_by hr hgd, fun ds S R q => (law_isnetA) ds S R q⟩
theorem gf__law_state {f : Addr} {fd : FuncData} (F : Fun K "_law_state" "_law_state" s__law_state f fd) (B : Blt mg) : GFn P w K mg base (k + 1) f fd ["few", "number"] (γ_state_by) :=
  gfn_of F sc__law_state (by intro ds S R h; unfold γ_state_by at h; first | (obtain ⟨e, _⟩ := h; subst e; rfl) | (split at h <;> first | rfl | exact h.elim) | (obtain ⟨_, e, _⟩ := h; subst e; rfl) | (obtain ⟨_, _, e, _⟩ := h; subst e; rfl) | (obtain ⟨_, _, _, e, _⟩ := h; subst e; rfl) | (obtain ⟨_, _, _, _, e, _⟩ := h; subst e; rfl) | (obtain ⟨_, _, _, _, _, e, _⟩ := h; subst e; rfl) | (obtain ⟨_, _, _, _, _, _, e, _⟩ := h; subst e; rfl)) fun cdv A outer s H hr hgd => ⟨_, tm__law_state B hr hgd, fun ds S R q => (law_state_by) ds S R q⟩
theorem gf__law_is_state {f__law_is_tuple f__law_is_whole : Addr} {fd__law_is_tuple fd__law_is_whole : FuncData} {f : Addr} {fd : FuncData} (F : Fun K "_law_is_state" "_law_is_state" s__law_is_state f fd) (B : Blt mg) (h__law_is_tuple : Has P w K mg base k "_law_is_tuple" f__law_is_tuple fd__law_is_tuple ["thing", "few"] (γ_itA)) (h__law_is_whole : Has P w K mg base k "_law_is_whole" f__law_is_whole fd__law_is_whole ["thing"] (γ_iwA)) : GFn P w K mg base (k + 1) f fd ["thing", "few"] (γ_lstA) :=
  gfn_of F sc__law_is_state (by intro ds S R h; unfold γ_lstA at h; first | (obtain ⟨e, _⟩ := h; subst e; rfl) | (split at h <;> first | rfl | exact h.elim) | (obtain ⟨_, e, _⟩ := h; subst e; rfl) | (obtain ⟨_, _, e, _⟩ := h; subst e; rfl) | (obtain ⟨_, _, _, e, _⟩ := h; subst e; rfl) | (obtain ⟨_, _, _, _, e, _⟩ := h; subst e; rfl) | (obtain ⟨_, _, _, _, _, e, _⟩ := h; subst e; rfl) | (obtain ⟨_, _, _, _, _, _, e, _⟩ := h; subst e; rfl)) fun cdv A outer s H hr hgd => ⟨_, tm__law_is_state B h__law_is_tuple h__law_is_whole hr hgd, fun ds S R q => (law_lstA) ds S R q⟩
theorem gf_check_net {f_is_net_by : Addr} {fd_is_net_by : FuncData} {f : Addr} {fd : FuncData} (F : Fun K "check_net" "check_net" s_check_net f fd) (B : Blt mg) (h_is_net_by : Has P w K mg base k "is_net_by" f_is_net_by fd_is_net_by ["value"] (γ_netA)) : GFn P w K mg base (k + 1) f fd ["value"] (γ_cknetA) :=
  gfn_of F sc_check_net (by intro ds S R h; unfold γ_cknetA at h; first | (obtain ⟨e, _⟩ := h; subst e; rfl) | (split at h <;> first | rfl | exact h.elim) | (obtain ⟨_, e, _⟩ := h; subst e; rfl) | (obtain ⟨_, _, e, _⟩ := h; subst e; rfl) | (obtain ⟨_, _, _, e, _⟩ := h; subst e; rfl) | (obtain ⟨_, _, _, _, e, _⟩ := h; subst e; rfl) | (obtain ⟨_, _, _, _, _, e, _⟩ := h; subst e; rfl) | (obtain ⟨_, _, _, _, _, _, e, _⟩ := h; subst e; rfl)) fun cdv A outer s H hr hgd => ⟨_, tm_check_net B h_is_net_by hr hgd, fun ds S R q => (law_cknetA) ds S R q⟩
theorem gf_many_cells {f : Addr} {fd : FuncData} (F : Fun K "many_cells" "many_cells" s_many_cells f fd) (B : Blt mg) : GFn P w K mg base (k + 1) f fd ["net"] (γ_many_cells) :=
  gfn_of F sc_many_cells (by intro ds S R h; unfold γ_many_cells at h; first | (obtain ⟨e, _⟩ := h; subst e; rfl) | (split at h <;> first | rfl | exact h.elim) | (obtain ⟨_, e, _⟩ := h; subst e; rfl) | (obtain ⟨_, _, e, _⟩ := h; subst e; rfl) | (obtain ⟨_, _, _, e, _⟩ := h; subst e; rfl) | (obtain ⟨_, _, _, _, e, _⟩ := h; subst e; rfl) | (obtain ⟨_, _, _, _, _, e, _⟩ := h; subst e; rfl) | (obtain ⟨_, _, _, _, _, _, e, _⟩ := h; subst e; rfl)) fun cdv A outer s H hr hgd => ⟨_, tm_many_cells B hr hgd, fun ds S R q => (law_many_cells) ds S R q⟩
theorem gf_is_between {f_is_whole : Addr} {fd_is_whole : FuncData} {f : Addr} {fd : FuncData} (F : Fun K "is_between" "is_between" s_is_between f fd) (B : Blt mg) (h_is_whole : Has P w K mg base k "is_whole" f_is_whole fd_is_whole ["value"] (γ_iwA)) : GFn P w K mg base (k + 1) f fd ["value", "low", "high"] (γ_btA) :=
  gfn_of F sc_is_between (by intro ds S R h; unfold γ_btA at h; first | (obtain ⟨e, _⟩ := h; subst e; rfl) | (split at h <;> first | rfl | exact h.elim) | (obtain ⟨_, e, _⟩ := h; subst e; rfl) | (obtain ⟨_, _, e, _⟩ := h; subst e; rfl) | (obtain ⟨_, _, _, e, _⟩ := h; subst e; rfl) | (obtain ⟨_, _, _, _, e, _⟩ := h; subst e; rfl) | (obtain ⟨_, _, _, _, _, e, _⟩ := h; subst e; rfl) | (obtain ⟨_, _, _, _, _, _, e, _⟩ := h; subst e; rfl)) fun cdv A outer s H hr hgd => ⟨_, tm_is_between B h_is_whole hr hgd, fun ds S R q => (law_btA) ds S R q⟩
theorem gf_is_state_by {f_is_tuple_of f_many_cells f_is_between : Addr} {fd_is_tuple_of fd_many_cells fd_is_between : FuncData} {f : Addr} {fd : FuncData} (F : Fun K "is_state_by" "is_state_by" s_is_state_by f fd) (B : Blt mg) (h_is_tuple_of : Has P w K mg base k "is_tuple_of" f_is_tuple_of fd_is_tuple_of ["value", "many"] (γ_itA)) (h_many_cells : Has P w K mg base k "many_cells" f_many_cells fd_many_cells ["net"] (γ_many_cells)) (h_is_between : Has P w K mg base k "is_between" f_is_between fd_is_between ["value", "low", "high"] (γ_btA)) : GFn P w K mg base (k + 1) f fd ["net", "value"] (γ_stA) :=
  gfn_of F sc_is_state_by (by intro ds S R h; unfold γ_stA at h; first | (obtain ⟨e, _⟩ := h; subst e; rfl) | (split at h <;> first | rfl | exact h.elim) | (obtain ⟨_, e, _⟩ := h; subst e; rfl) | (obtain ⟨_, _, e, _⟩ := h; subst e; rfl) | (obtain ⟨_, _, _, e, _⟩ := h; subst e; rfl) | (obtain ⟨_, _, _, _, e, _⟩ := h; subst e; rfl) | (obtain ⟨_, _, _, _, _, e, _⟩ := h; subst e; rfl) | (obtain ⟨_, _, _, _, _, _, e, _⟩ := h; subst e; rfl)) fun cdv A outer s H hr hgd => ⟨_, tm_is_state_by B h_is_tuple_of h_many_cells h_is_between hr hgd, fun ds S R q => (law_stA) ds S R q⟩
theorem gf_is_state {f_check_net f_is_state_by : Addr} {fd_check_net fd_is_state_by : FuncData} {f : Addr} {fd : FuncData} (F : Fun K "is_state" "is_state" s_is_state f fd) (B : Blt mg) (h_check_net : Has P w K mg base k "check_net" f_check_net fd_check_net ["value"] (γ_cknetA)) (h_is_state_by : Has P w K mg base k "is_state_by" f_is_state_by fd_is_state_by ["net", "value"] (γ_stA)) : GFn P w K mg base (k + 1) f fd ["net", "value"] (γ_isstA) :=
  gfn_of F sc_is_state (by intro ds S R h; unfold γ_isstA at h; first | (obtain ⟨e, _⟩ := h; subst e; rfl) | (split at h <;> first | rfl | exact h.elim) | (obtain ⟨_, e, _⟩ := h; subst e; rfl) | (obtain ⟨_, _, e, _⟩ := h; subst e; rfl) | (obtain ⟨_, _, _, e, _⟩ := h; subst e; rfl) | (obtain ⟨_, _, _, _, e, _⟩ := h; subst e; rfl) | (obtain ⟨_, _, _, _, _, e, _⟩ := h; subst e; rfl) | (obtain ⟨_, _, _, _, _, _, e, _⟩ := h; subst e; rfl)) fun cdv A outer s H hr hgd => ⟨_, tm_is_state B h_check_net h_is_state_by hr hgd, fun ds S R q => (law_isstA) ds S R q⟩
theorem gf_check_many {f_is_between : Addr} {fd_is_between : FuncData} {f : Addr} {fd : FuncData} (F : Fun K "check_many" "check_many" s_check_many f fd) (B : Blt mg) (h_is_between : Has P w K mg base k "is_between" f_is_between fd_is_between ["value", "low", "high"] (γ_btA)) : GFn P w K mg base (k + 1) f fd ["value", "low", "high"] (γ_ckmanyA) :=
  gfn_of F sc_check_many (by intro ds S R h; unfold γ_ckmanyA at h; first | (obtain ⟨e, _⟩ := h; subst e; rfl) | (split at h <;> first | rfl | exact h.elim) | (obtain ⟨_, e, _⟩ := h; subst e; rfl) | (obtain ⟨_, _, e, _⟩ := h; subst e; rfl) | (obtain ⟨_, _, _, e, _⟩ := h; subst e; rfl) | (obtain ⟨_, _, _, _, e, _⟩ := h; subst e; rfl) | (obtain ⟨_, _, _, _, _, e, _⟩ := h; subst e; rfl) | (obtain ⟨_, _, _, _, _, _, e, _⟩ := h; subst e; rfl)) fun cdv A outer s H hr hgd => ⟨_, tm_check_many B h_is_between hr hgd, fun ds S R q => (law_ckmanyA) ds S R q⟩
theorem gf_check_number {f_check_many f_many_cells : Addr} {fd_check_many fd_many_cells : FuncData} {f : Addr} {fd : FuncData} (F : Fun K "check_number" "check_number" s_check_number f fd) (B : Blt mg) (h_check_many : Has P w K mg base k "check_many" f_check_many fd_check_many ["value", "low", "high"] (γ_ckmanyA)) (h_many_cells : Has P w K mg base k "many_cells" f_many_cells fd_many_cells ["net"] (γ_many_cells)) : GFn P w K mg base (k + 1) f fd ["net", "value"] (γ_cknumA) :=
  gfn_of F sc_check_number (by intro ds S R h; unfold γ_cknumA at h; first | (obtain ⟨e, _⟩ := h; subst e; rfl) | (split at h <;> first | rfl | exact h.elim) | (obtain ⟨_, e, _⟩ := h; subst e; rfl) | (obtain ⟨_, _, e, _⟩ := h; subst e; rfl) | (obtain ⟨_, _, _, e, _⟩ := h; subst e; rfl) | (obtain ⟨_, _, _, _, e, _⟩ := h; subst e; rfl) | (obtain ⟨_, _, _, _, _, e, _⟩ := h; subst e; rfl) | (obtain ⟨_, _, _, _, _, _, e, _⟩ := h; subst e; rfl)) fun cdv A outer s H hr hgd => ⟨_, tm_check_number B h_check_many h_many_cells hr hgd, fun ds S R q => (law_cknumA) ds S R q⟩
theorem gf_state_by {f : Addr} {fd : FuncData} (F : Fun K "state_by" "state_by" s_state_by f fd) (B : Blt mg) : GFn P w K mg base (k + 1) f fd ["many", "number"] (γ_state_by) :=
  gfn_of F sc_state_by (by intro ds S R h; unfold γ_state_by at h; first | (obtain ⟨e, _⟩ := h; subst e; rfl) | (split at h <;> first | rfl | exact h.elim) | (obtain ⟨_, e, _⟩ := h; subst e; rfl) | (obtain ⟨_, _, e, _⟩ := h; subst e; rfl) | (obtain ⟨_, _, _, e, _⟩ := h; subst e; rfl) | (obtain ⟨_, _, _, _, e, _⟩ := h; subst e; rfl) | (obtain ⟨_, _, _, _, _, e, _⟩ := h; subst e; rfl) | (obtain ⟨_, _, _, _, _, _, e, _⟩ := h; subst e; rfl)) fun cdv A outer s H hr hgd => ⟨_, tm_state_by B hr hgd, fun ds S R q => (law_state_by) ds S R q⟩
theorem gf_state_of {f_check_net f_check_number f_state_by f_many_cells : Addr} {fd_check_net fd_check_number fd_state_by fd_many_cells : FuncData} {f : Addr} {fd : FuncData} (F : Fun K "state_of" "state_of" s_state_of f fd) (B : Blt mg) (h_check_net : Has P w K mg base k "check_net" f_check_net fd_check_net ["value"] (γ_cknetA)) (h_check_number : Has P w K mg base k "check_number" f_check_number fd_check_number ["net", "value"] (γ_cknumA)) (h_state_by : Has P w K mg base k "state_by" f_state_by fd_state_by ["many", "number"] (γ_state_by)) (h_many_cells : Has P w K mg base k "many_cells" f_many_cells fd_many_cells ["net"] (γ_many_cells)) : GFn P w K mg base (k + 1) f fd ["net", "number"] (γ_stofA) :=
  gfn_of F sc_state_of (by intro ds S R h; unfold γ_stofA at h; first | (obtain ⟨e, _⟩ := h; subst e; rfl) | (split at h <;> first | rfl | exact h.elim) | (obtain ⟨_, e, _⟩ := h; subst e; rfl) | (obtain ⟨_, _, e, _⟩ := h; subst e; rfl) | (obtain ⟨_, _, _, e, _⟩ := h; subst e; rfl) | (obtain ⟨_, _, _, _, e, _⟩ := h; subst e; rfl) | (obtain ⟨_, _, _, _, _, e, _⟩ := h; subst e; rfl) | (obtain ⟨_, _, _, _, _, _, e, _⟩ := h; subst e; rfl)) fun cdv A outer s H hr hgd => ⟨_, tm_state_of B h_check_net h_check_number h_state_by h_many_cells hr hgd, fun ds S R q => (law_stofA) ds S R q⟩
theorem gf_check_state {f_is_state_by : Addr} {fd_is_state_by : FuncData} {f : Addr} {fd : FuncData} (F : Fun K "check_state" "check_state" s_check_state f fd) (B : Blt mg) (h_is_state_by : Has P w K mg base k "is_state_by" f_is_state_by fd_is_state_by ["net", "value"] (γ_stA)) : GFn P w K mg base (k + 1) f fd ["net", "value"] (γ_ckstA) :=
  gfn_of F sc_check_state (by intro ds S R h; unfold γ_ckstA at h; first | (obtain ⟨e, _⟩ := h; subst e; rfl) | (split at h <;> first | rfl | exact h.elim) | (obtain ⟨_, e, _⟩ := h; subst e; rfl) | (obtain ⟨_, _, e, _⟩ := h; subst e; rfl) | (obtain ⟨_, _, _, e, _⟩ := h; subst e; rfl) | (obtain ⟨_, _, _, _, e, _⟩ := h; subst e; rfl) | (obtain ⟨_, _, _, _, _, e, _⟩ := h; subst e; rfl) | (obtain ⟨_, _, _, _, _, _, e, _⟩ := h; subst e; rfl)) fun cdv A outer s H hr hgd => ⟨_, tm_check_state B h_is_state_by hr hgd, fun ds S R q => (law_ckstA) ds S R q⟩
theorem gf_check_both {f_check_net f_check_state : Addr} {fd_check_net fd_check_state : FuncData} {f : Addr} {fd : FuncData} (F : Fun K "check_both" "check_both" s_check_both f fd) (B : Blt mg) (h_check_net : Has P w K mg base k "check_net" f_check_net fd_check_net ["value"] (γ_cknetA)) (h_check_state : Has P w K mg base k "check_state" f_check_state fd_check_state ["net", "value"] (γ_ckstA)) : GFn P w K mg base (k + 1) f fd ["net", "state"] (γ_ckboA) :=
  gfn_of F sc_check_both (by intro ds S R h; unfold γ_ckboA at h; first | (obtain ⟨e, _⟩ := h; subst e; rfl) | (split at h <;> first | rfl | exact h.elim) | (obtain ⟨_, e, _⟩ := h; subst e; rfl) | (obtain ⟨_, _, e, _⟩ := h; subst e; rfl) | (obtain ⟨_, _, _, e, _⟩ := h; subst e; rfl) | (obtain ⟨_, _, _, _, e, _⟩ := h; subst e; rfl) | (obtain ⟨_, _, _, _, _, e, _⟩ := h; subst e; rfl) | (obtain ⟨_, _, _, _, _, _, e, _⟩ := h; subst e; rfl)) fun cdv A outer s H hr hgd => ⟨_, tm_check_both B h_check_net h_check_state hr hgd, fun ds S R q => (law_ckboA) ds S R q⟩
theorem gf_number_by {f : Addr} {fd : FuncData} (F : Fun K "number_by" "number_by" s_number_by f fd) (B : Blt mg) : GFn P w K mg base (k + 1) f fd ["state"] (γ_num) :=
  gfn_of F sc_number_by (by intro ds S R h; unfold γ_num at h; first | (obtain ⟨e, _⟩ := h; subst e; rfl) | (split at h <;> first | rfl | exact h.elim) | (obtain ⟨_, e, _⟩ := h; subst e; rfl) | (obtain ⟨_, _, e, _⟩ := h; subst e; rfl) | (obtain ⟨_, _, _, e, _⟩ := h; subst e; rfl) | (obtain ⟨_, _, _, _, e, _⟩ := h; subst e; rfl) | (obtain ⟨_, _, _, _, _, e, _⟩ := h; subst e; rfl) | (obtain ⟨_, _, _, _, _, _, e, _⟩ := h; subst e; rfl)) fun cdv A outer s H hr hgd => ⟨_, tm_number_by B hr hgd, fun ds S R q => (law_num) ds S R q⟩
theorem gf_number_of {f_check_both f_number_by : Addr} {fd_check_both fd_number_by : FuncData} {f : Addr} {fd : FuncData} (F : Fun K "number_of" "number_of" s_number_of f fd) (B : Blt mg) (h_check_both : Has P w K mg base k "check_both" f_check_both fd_check_both ["net", "state"] (γ_ckboA)) (h_number_by : Has P w K mg base k "number_by" f_number_by fd_number_by ["state"] (γ_num)) : GFn P w K mg base (k + 1) f fd ["net", "state"] (γ_nuofA) :=
  gfn_of F sc_number_of (by intro ds S R h; unfold γ_nuofA at h; first | (obtain ⟨e, _⟩ := h; subst e; rfl) | (split at h <;> first | rfl | exact h.elim) | (obtain ⟨_, e, _⟩ := h; subst e; rfl) | (obtain ⟨_, _, e, _⟩ := h; subst e; rfl) | (obtain ⟨_, _, _, e, _⟩ := h; subst e; rfl) | (obtain ⟨_, _, _, _, e, _⟩ := h; subst e; rfl) | (obtain ⟨_, _, _, _, _, e, _⟩ := h; subst e; rfl) | (obtain ⟨_, _, _, _, _, _, e, _⟩ := h; subst e; rfl)) fun cdv A outer s H hr hgd => ⟨_, tm_number_of B h_check_both h_number_by hr hgd, fun ds S R q => (law_nuofA) ds S R q⟩
theorem gf__law_right {f__law_net f__law_one f__law_odd f__law_maybe f__law_bent f__law_is_net f_is_net f__law_draw f__law_state f__law_is_state f_is_state f_state_of f_number_of : Addr} {fd__law_net fd__law_one fd__law_odd fd__law_maybe fd__law_bent fd__law_is_net fd_is_net fd__law_draw fd__law_state fd__law_is_state fd_is_state fd_state_of fd_number_of : FuncData} {f : Addr} {fd : FuncData} (F : Fun K "_law_right" "_law_right" s__law_right f fd) (B : Blt mg) (h__law_net : Has P w K mg base k "_law_net" f__law_net fd__law_net ["well", "few"] (γ_net9 (Bd 1000000 6) (Bd 3 2))) (h__law_one : Has P w K mg base k "_law_one" f__law_one fd__law_one ["well", "some"] (γ_one)) (h__law_odd : Has P w K mg base k "_law_odd" f__law_odd fd__law_odd ["well"] (γ_oddA)) (h__law_maybe : Has P w K mg base k "_law_maybe" f__law_maybe fd__law_maybe ["well", "thing"] (γ_maybeA)) (h__law_bent : Has P w K mg base k "_law_bent" f__law_bent fd__law_bent ["well", "thing"] (γ_bentA)) (h__law_is_net : Has P w K mg base k "_law_is_net" f__law_is_net fd__law_is_net ["thing"] (γ_lnetA)) (h_is_net : Has P w K mg base k "is_net" f_is_net fd_is_net ["value"] (γ_isnetA)) (h__law_draw : Has P w K mg base k "_law_draw" f__law_draw fd__law_draw ["well", "few"] (γ_draw)) (h__law_state : Has P w K mg base k "_law_state" f__law_state fd__law_state ["few", "number"] (γ_state_by)) (h__law_is_state : Has P w K mg base k "_law_is_state" f__law_is_state fd__law_is_state ["thing", "few"] (γ_lstA)) (h_is_state : Has P w K mg base k "is_state" f_is_state fd_is_state ["net", "value"] (γ_isstA)) (h_state_of : Has P w K mg base k "state_of" f_state_of fd_state_of ["net", "number"] (γ_stofA)) (h_number_of : Has P w K mg base k "number_of" f_number_of fd_number_of ["net", "state"] (γ_nuofA)) (kb_is_net_0 : KB fd_is_net ["value"] ["value"] 0 [0]) (kb_is_state_0 : KB fd_is_state ["net", "value"] ["value", "net"] 0 [1, 0]) (kb_state_of_0 : KB fd_state_of ["net", "number"] ["number", "net"] 0 [1, 0]) (kb_number_of_0 : KB fd_number_of ["net", "state"] ["state", "net"] 0 [1, 0]) : GFn P w K mg base (k + 1) f fd ["well"] (γ_lap) :=
  gfn_of F sc__law_right (by intro ds S R h; unfold γ_lap at h; first | (obtain ⟨e, _⟩ := h; subst e; rfl) | (split at h <;> first | rfl | exact h.elim) | (obtain ⟨_, e, _⟩ := h; subst e; rfl) | (obtain ⟨_, _, e, _⟩ := h; subst e; rfl) | (obtain ⟨_, _, _, e, _⟩ := h; subst e; rfl) | (obtain ⟨_, _, _, _, e, _⟩ := h; subst e; rfl) | (obtain ⟨_, _, _, _, _, e, _⟩ := h; subst e; rfl) | (obtain ⟨_, _, _, _, _, _, e, _⟩ := h; subst e; rfl)) fun cdv A outer s H hr hgd => ⟨_, tm__law_right B h__law_net h__law_one h__law_odd h__law_maybe h__law_bent h__law_is_net h_is_net h__law_draw h__law_state h__law_is_state h_is_state h_state_of h_number_of kb_is_net_0 kb_is_state_0 kb_state_of_0 kb_number_of_0 hr hgd, fun ds S R q => (law_right) ds S R q⟩
theorem gf__law_well {f : Addr} {fd : FuncData} (F : Fun K "_law_well" "_law_well" s__law_well f fd) (B : Blt mg) : GFn P w K mg base (k + 1) f fd ["script", "lap"] (γ_well) :=
  gfn_of F sc__law_well (by intro ds S R h; unfold γ_well at h; first | (obtain ⟨e, _⟩ := h; subst e; rfl) | (split at h <;> first | rfl | exact h.elim) | (obtain ⟨_, e, _⟩ := h; subst e; rfl) | (obtain ⟨_, _, e, _⟩ := h; subst e; rfl) | (obtain ⟨_, _, _, e, _⟩ := h; subst e; rfl) | (obtain ⟨_, _, _, _, e, _⟩ := h; subst e; rfl) | (obtain ⟨_, _, _, _, _, e, _⟩ := h; subst e; rfl) | (obtain ⟨_, _, _, _, _, _, e, _⟩ := h; subst e; rfl)) fun cdv A outer s H hr hgd => ⟨_, tm__law_well B hr hgd, fun ds S R q => (law_well 30013) ds S R q⟩
theorem gf_law {f__law_right f__law_well : Addr} {fd__law_right fd__law_well : FuncData} {f : Addr} {fd : FuncData} (F : Fun K "law" "law" s_law f fd) (B : Blt mg) (h__law_right : Has P w K mg base k "_law_right" f__law_right fd__law_right ["well"] (γ_lap)) (h__law_well : Has P w K mg base k "_law_well" f__law_well fd__law_well ["script", "lap"] (γ_well)) : GFn P w K mg base (k + 1) f fd ["script"] (γ_law) :=
  gfn_of F sc_law (by intro ds S R h; unfold γ_law at h; first | (obtain ⟨e, _⟩ := h; subst e; rfl) | (split at h <;> first | rfl | exact h.elim) | (obtain ⟨_, e, _⟩ := h; subst e; rfl) | (obtain ⟨_, _, e, _⟩ := h; subst e; rfl) | (obtain ⟨_, _, _, e, _⟩ := h; subst e; rfl) | (obtain ⟨_, _, _, _, e, _⟩ := h; subst e; rfl) | (obtain ⟨_, _, _, _, _, e, _⟩ := h; subst e; rfl) | (obtain ⟨_, _, _, _, _, _, e, _⟩ := h; subst e; rfl)) fun cdv A outer s H hr hgd => ⟨_, tm_law B h__law_right h__law_well hr hgd, fun ds S R q => (law_law) ds S R q⟩
end
theorem all_mk {l : PySem.W.OpenLaw} {w : World} {K : PySem.W.Frag} {h : Heap} {mg : Str → Option Value} {fa f0 f1 f2 f3 f4 f5 f6 f7 f8 f9 f10 f11 f12 f13 f14 f15 f16 f17 f18 f19 f20 f21 f22 f23 f24 f25 f26 f27 f28 f29 f30 f31 f32 f33 f34 f35 f36 f37 : Addr} (X : K.In h) (G : h.Ns mainGlobals mg) (hfa : mg "law" = some (.ref fa))
    {od0 an0 : Option Addr} {sl0 : Array (Option Value)} {oc0 kV0 dc0 pm0 cd0 ct0 : Value}
    (a0 : PySem.W.nsIn K mainGlobals "_law_draw" = some (some (.ref f0))) (l0 : K.lookup f0 = some ⟨oc0, od0, .func (PySem.W.fnOf "_law_draw" "_law_draw" (defArgs s__law_draw) (defBody s__law_draw) (defScope s__law_draw) .none kV0 dc0 pm0 an0 cd0 ct0), sl0⟩) (c0 : PySem.W.codeIn K cd0 "_law_draw" = true) (k0 : PySem.W.keepIn K (.ref f0) = true)
    {od1 an1 : Option Addr} {sl1 : Array (Option Value)} {oc1 kV1 dc1 pm1 cd1 ct1 : Value}
    (a1 : PySem.W.nsIn K mainGlobals "_law_one" = some (some (.ref f1))) (l1 : K.lookup f1 = some ⟨oc1, od1, .func (PySem.W.fnOf "_law_one" "_law_one" (defArgs s__law_one) (defBody s__law_one) (defScope s__law_one) .none kV1 dc1 pm1 an1 cd1 ct1), sl1⟩) (c1 : PySem.W.codeIn K cd1 "_law_one" = true) (k1 : PySem.W.keepIn K (.ref f1) = true)
    {od2 an2 : Option Addr} {sl2 : Array (Option Value)} {oc2 kV2 dc2 pm2 cd2 ct2 : Value}
    (a2 : PySem.W.nsIn K mainGlobals "_law_lean" = some (some (.ref f2))) (l2 : K.lookup f2 = some ⟨oc2, od2, .func (PySem.W.fnOf "_law_lean" "_law_lean" (defArgs s__law_lean) (defBody s__law_lean) (defScope s__law_lean) .none kV2 dc2 pm2 an2 cd2 ct2), sl2⟩) (c2 : PySem.W.codeIn K cd2 "_law_lean" = true) (k2 : PySem.W.keepIn K (.ref f2) = true)
    {od3 an3 : Option Addr} {sl3 : Array (Option Value)} {oc3 kV3 dc3 pm3 cd3 ct3 : Value}
    (a3 : PySem.W.nsIn K mainGlobals "_law_weight" = some (some (.ref f3))) (l3 : K.lookup f3 = some ⟨oc3, od3, .func (PySem.W.fnOf "_law_weight" "_law_weight" (defArgs s__law_weight) (defBody s__law_weight) (defScope s__law_weight) .none kV3 dc3 pm3 an3 cd3 ct3), sl3⟩) (c3 : PySem.W.codeIn K cd3 "_law_weight" = true) (k3 : PySem.W.keepIn K (.ref f3) = true)
    {od4 an4 : Option Addr} {sl4 : Array (Option Value)} {oc4 kV4 dc4 pm4 cd4 ct4 : Value}
    (a4 : PySem.W.nsIn K mainGlobals "_law_mark" = some (some (.ref f4))) (l4 : K.lookup f4 = some ⟨oc4, od4, .func (PySem.W.fnOf "_law_mark" "_law_mark" (defArgs s__law_mark) (defBody s__law_mark) (defScope s__law_mark) .none kV4 dc4 pm4 an4 cd4 ct4), sl4⟩) (c4 : PySem.W.codeIn K cd4 "_law_mark" = true) (k4 : PySem.W.keepIn K (.ref f4) = true)
    {od5 an5 : Option Addr} {sl5 : Array (Option Value)} {oc5 kV5 dc5 pm5 cd5 ct5 : Value}
    (a5 : PySem.W.nsIn K mainGlobals "_law_net" = some (some (.ref f5))) (l5 : K.lookup f5 = some ⟨oc5, od5, .func (PySem.W.fnOf "_law_net" "_law_net" (defArgs s__law_net) (defBody s__law_net) (defScope s__law_net) .none kV5 dc5 pm5 an5 cd5 ct5), sl5⟩) (c5 : PySem.W.codeIn K cd5 "_law_net" = true) (k5 : PySem.W.keepIn K (.ref f5) = true)
    {od6 an6 : Option Addr} {sl6 : Array (Option Value)} {oc6 kV6 dc6 pm6 cd6 ct6 : Value}
    (a6 : PySem.W.nsIn K mainGlobals "_law_odd" = some (some (.ref f6))) (l6 : K.lookup f6 = some ⟨oc6, od6, .func (PySem.W.fnOf "_law_odd" "_law_odd" (defArgs s__law_odd) (defBody s__law_odd) (defScope s__law_odd) .none kV6 dc6 pm6 an6 cd6 ct6), sl6⟩) (c6 : PySem.W.codeIn K cd6 "_law_odd" = true) (k6 : PySem.W.keepIn K (.ref f6) = true)
    {od7 an7 : Option Addr} {sl7 : Array (Option Value)} {oc7 kV7 dc7 pm7 cd7 ct7 : Value}
    (a7 : PySem.W.nsIn K mainGlobals "_law_is_whole" = some (some (.ref f7))) (l7 : K.lookup f7 = some ⟨oc7, od7, .func (PySem.W.fnOf "_law_is_whole" "_law_is_whole" (defArgs s__law_is_whole) (defBody s__law_is_whole) (defScope s__law_is_whole) .none kV7 dc7 pm7 an7 cd7 ct7), sl7⟩) (c7 : PySem.W.codeIn K cd7 "_law_is_whole" = true) (k7 : PySem.W.keepIn K (.ref f7) = true)
    {od8 an8 : Option Addr} {sl8 : Array (Option Value)} {oc8 kV8 dc8 pm8 cd8 ct8 : Value}
    (a8 : PySem.W.nsIn K mainGlobals "_law_bent" = some (some (.ref f8))) (l8 : K.lookup f8 = some ⟨oc8, od8, .func (PySem.W.fnOf "_law_bent" "_law_bent" (defArgs s__law_bent) (defBody s__law_bent) (defScope s__law_bent) .none kV8 dc8 pm8 an8 cd8 ct8), sl8⟩) (c8 : PySem.W.codeIn K cd8 "_law_bent" = true) (k8 : PySem.W.keepIn K (.ref f8) = true)
    {od9 an9 : Option Addr} {sl9 : Array (Option Value)} {oc9 kV9 dc9 pm9 cd9 ct9 : Value}
    (a9 : PySem.W.nsIn K mainGlobals "_law_maybe" = some (some (.ref f9))) (l9 : K.lookup f9 = some ⟨oc9, od9, .func (PySem.W.fnOf "_law_maybe" "_law_maybe" (defArgs s__law_maybe) (defBody s__law_maybe) (defScope s__law_maybe) .none kV9 dc9 pm9 an9 cd9 ct9), sl9⟩) (c9 : PySem.W.codeIn K cd9 "_law_maybe" = true) (k9 : PySem.W.keepIn K (.ref f9) = true)
    {od10 an10 : Option Addr} {sl10 : Array (Option Value)} {oc10 kV10 dc10 pm10 cd10 ct10 : Value}
    (a10 : PySem.W.nsIn K mainGlobals "_law_is_tuple" = some (some (.ref f10))) (l10 : K.lookup f10 = some ⟨oc10, od10, .func (PySem.W.fnOf "_law_is_tuple" "_law_is_tuple" (defArgs s__law_is_tuple) (defBody s__law_is_tuple) (defScope s__law_is_tuple) .none kV10 dc10 pm10 an10 cd10 ct10), sl10⟩) (c10 : PySem.W.codeIn K cd10 "_law_is_tuple" = true) (k10 : PySem.W.keepIn K (.ref f10) = true)
    {od11 an11 : Option Addr} {sl11 : Array (Option Value)} {oc11 kV11 dc11 pm11 cd11 ct11 : Value}
    (a11 : PySem.W.nsIn K mainGlobals "_law_is_part" = some (some (.ref f11))) (l11 : K.lookup f11 = some ⟨oc11, od11, .func (PySem.W.fnOf "_law_is_part" "_law_is_part" (defArgs s__law_is_part) (defBody s__law_is_part) (defScope s__law_is_part) .none kV11 dc11 pm11 an11 cd11 ct11), sl11⟩) (c11 : PySem.W.codeIn K cd11 "_law_is_part" = true) (k11 : PySem.W.keepIn K (.ref f11) = true)
    {od12 an12 : Option Addr} {sl12 : Array (Option Value)} {oc12 kV12 dc12 pm12 cd12 ct12 : Value}
    (a12 : PySem.W.nsIn K mainGlobals "_law_is_row" = some (some (.ref f12))) (l12 : K.lookup f12 = some ⟨oc12, od12, .func (PySem.W.fnOf "_law_is_row" "_law_is_row" (defArgs s__law_is_row) (defBody s__law_is_row) (defScope s__law_is_row) .none kV12 dc12 pm12 an12 cd12 ct12), sl12⟩) (c12 : PySem.W.codeIn K cd12 "_law_is_row" = true) (k12 : PySem.W.keepIn K (.ref f12) = true)
    {od13 an13 : Option Addr} {sl13 : Array (Option Value)} {oc13 kV13 dc13 pm13 cd13 ct13 : Value}
    (a13 : PySem.W.nsIn K mainGlobals "_law_is_net" = some (some (.ref f13))) (l13 : K.lookup f13 = some ⟨oc13, od13, .func (PySem.W.fnOf "_law_is_net" "_law_is_net" (defArgs s__law_is_net) (defBody s__law_is_net) (defScope s__law_is_net) .none kV13 dc13 pm13 an13 cd13 ct13), sl13⟩) (c13 : PySem.W.codeIn K cd13 "_law_is_net" = true) (k13 : PySem.W.keepIn K (.ref f13) = true)
    {od14 an14 : Option Addr} {sl14 : Array (Option Value)} {oc14 kV14 dc14 pm14 cd14 ct14 : Value}
    (a14 : PySem.W.nsIn K mainGlobals "is_tuple_of" = some (some (.ref f14))) (l14 : K.lookup f14 = some ⟨oc14, od14, .func (PySem.W.fnOf "is_tuple_of" "is_tuple_of" (defArgs s_is_tuple_of) (defBody s_is_tuple_of) (defScope s_is_tuple_of) .none kV14 dc14 pm14 an14 cd14 ct14), sl14⟩) (c14 : PySem.W.codeIn K cd14 "is_tuple_of" = true) (k14 : PySem.W.keepIn K (.ref f14) = true)
    {od15 an15 : Option Addr} {sl15 : Array (Option Value)} {oc15 kV15 dc15 pm15 cd15 ct15 : Value}
    (a15 : PySem.W.nsIn K mainGlobals "is_whole" = some (some (.ref f15))) (l15 : K.lookup f15 = some ⟨oc15, od15, .func (PySem.W.fnOf "is_whole" "is_whole" (defArgs s_is_whole) (defBody s_is_whole) (defScope s_is_whole) .none kV15 dc15 pm15 an15 cd15 ct15), sl15⟩) (c15 : PySem.W.codeIn K cd15 "is_whole" = true) (k15 : PySem.W.keepIn K (.ref f15) = true)
    {od16 an16 : Option Addr} {sl16 : Array (Option Value)} {oc16 kV16 dc16 pm16 cd16 ct16 : Value}
    (a16 : PySem.W.nsIn K mainGlobals "is_ratio" = some (some (.ref f16))) (l16 : K.lookup f16 = some ⟨oc16, od16, .func (PySem.W.fnOf "is_ratio" "is_ratio" (defArgs s_is_ratio) (defBody s_is_ratio) (defScope s_is_ratio) .none kV16 dc16 pm16 an16 cd16 ct16), sl16⟩) (c16 : PySem.W.codeIn K cd16 "is_ratio" = true) (k16 : PySem.W.keepIn K (.ref f16) = true)
    {od17 an17 : Option Addr} {sl17 : Array (Option Value)} {oc17 kV17 dc17 pm17 cd17 ct17 : Value}
    (a17 : PySem.W.nsIn K mainGlobals "is_row" = some (some (.ref f17))) (l17 : K.lookup f17 = some ⟨oc17, od17, .func (PySem.W.fnOf "is_row" "is_row" (defArgs s_is_row) (defBody s_is_row) (defScope s_is_row) .none kV17 dc17 pm17 an17 cd17 ct17), sl17⟩) (c17 : PySem.W.codeIn K cd17 "is_row" = true) (k17 : PySem.W.keepIn K (.ref f17) = true)
    {od18 an18 : Option Addr} {sl18 : Array (Option Value)} {oc18 kV18 dc18 pm18 cd18 ct18 : Value}
    (a18 : PySem.W.nsIn K mainGlobals "is_net_by" = some (some (.ref f18))) (l18 : K.lookup f18 = some ⟨oc18, od18, .func (PySem.W.fnOf "is_net_by" "is_net_by" (defArgs s_is_net_by) (defBody s_is_net_by) (defScope s_is_net_by) .none kV18 dc18 pm18 an18 cd18 ct18), sl18⟩) (c18 : PySem.W.codeIn K cd18 "is_net_by" = true) (k18 : PySem.W.keepIn K (.ref f18) = true)
    {od19 an19 : Option Addr} {sl19 : Array (Option Value)} {oc19 kV19 dc19 pm19 cd19 ct19 : Value}
    (a19 : PySem.W.nsIn K mainGlobals "is_net" = some (some (.ref f19))) (l19 : K.lookup f19 = some ⟨oc19, od19, .func (PySem.W.fnOf "is_net" "is_net" (defArgs s_is_net) (defBody s_is_net) (defScope s_is_net) .none kV19 dc19 pm19 an19 cd19 ct19), sl19⟩) (c19 : PySem.W.codeIn K cd19 "is_net" = true) (k19 : PySem.W.keepIn K (.ref f19) = true)
    {od20 an20 : Option Addr} {sl20 : Array (Option Value)} {oc20 kV20 dc20 pm20 cd20 ct20 : Value}
    (a20 : PySem.W.nsIn K mainGlobals "_law_state" = some (some (.ref f20))) (l20 : K.lookup f20 = some ⟨oc20, od20, .func (PySem.W.fnOf "_law_state" "_law_state" (defArgs s__law_state) (defBody s__law_state) (defScope s__law_state) .none kV20 dc20 pm20 an20 cd20 ct20), sl20⟩) (c20 : PySem.W.codeIn K cd20 "_law_state" = true) (k20 : PySem.W.keepIn K (.ref f20) = true)
    {od21 an21 : Option Addr} {sl21 : Array (Option Value)} {oc21 kV21 dc21 pm21 cd21 ct21 : Value}
    (a21 : PySem.W.nsIn K mainGlobals "_law_is_state" = some (some (.ref f21))) (l21 : K.lookup f21 = some ⟨oc21, od21, .func (PySem.W.fnOf "_law_is_state" "_law_is_state" (defArgs s__law_is_state) (defBody s__law_is_state) (defScope s__law_is_state) .none kV21 dc21 pm21 an21 cd21 ct21), sl21⟩) (c21 : PySem.W.codeIn K cd21 "_law_is_state" = true) (k21 : PySem.W.keepIn K (.ref f21) = true)
    {od22 an22 : Option Addr} {sl22 : Array (Option Value)} {oc22 kV22 dc22 pm22 cd22 ct22 : Value}
    (a22 : PySem.W.nsIn K mainGlobals "check_net" = some (some (.ref f22))) (l22 : K.lookup f22 = some ⟨oc22, od22, .func (PySem.W.fnOf "check_net" "check_net" (defArgs s_check_net) (defBody s_check_net) (defScope s_check_net) .none kV22 dc22 pm22 an22 cd22 ct22), sl22⟩) (c22 : PySem.W.codeIn K cd22 "check_net" = true) (k22 : PySem.W.keepIn K (.ref f22) = true)
    {od23 an23 : Option Addr} {sl23 : Array (Option Value)} {oc23 kV23 dc23 pm23 cd23 ct23 : Value}
    (a23 : PySem.W.nsIn K mainGlobals "many_cells" = some (some (.ref f23))) (l23 : K.lookup f23 = some ⟨oc23, od23, .func (PySem.W.fnOf "many_cells" "many_cells" (defArgs s_many_cells) (defBody s_many_cells) (defScope s_many_cells) .none kV23 dc23 pm23 an23 cd23 ct23), sl23⟩) (c23 : PySem.W.codeIn K cd23 "many_cells" = true) (k23 : PySem.W.keepIn K (.ref f23) = true)
    {od24 an24 : Option Addr} {sl24 : Array (Option Value)} {oc24 kV24 dc24 pm24 cd24 ct24 : Value}
    (a24 : PySem.W.nsIn K mainGlobals "is_between" = some (some (.ref f24))) (l24 : K.lookup f24 = some ⟨oc24, od24, .func (PySem.W.fnOf "is_between" "is_between" (defArgs s_is_between) (defBody s_is_between) (defScope s_is_between) .none kV24 dc24 pm24 an24 cd24 ct24), sl24⟩) (c24 : PySem.W.codeIn K cd24 "is_between" = true) (k24 : PySem.W.keepIn K (.ref f24) = true)
    {od25 an25 : Option Addr} {sl25 : Array (Option Value)} {oc25 kV25 dc25 pm25 cd25 ct25 : Value}
    (a25 : PySem.W.nsIn K mainGlobals "is_state_by" = some (some (.ref f25))) (l25 : K.lookup f25 = some ⟨oc25, od25, .func (PySem.W.fnOf "is_state_by" "is_state_by" (defArgs s_is_state_by) (defBody s_is_state_by) (defScope s_is_state_by) .none kV25 dc25 pm25 an25 cd25 ct25), sl25⟩) (c25 : PySem.W.codeIn K cd25 "is_state_by" = true) (k25 : PySem.W.keepIn K (.ref f25) = true)
    {od26 an26 : Option Addr} {sl26 : Array (Option Value)} {oc26 kV26 dc26 pm26 cd26 ct26 : Value}
    (a26 : PySem.W.nsIn K mainGlobals "is_state" = some (some (.ref f26))) (l26 : K.lookup f26 = some ⟨oc26, od26, .func (PySem.W.fnOf "is_state" "is_state" (defArgs s_is_state) (defBody s_is_state) (defScope s_is_state) .none kV26 dc26 pm26 an26 cd26 ct26), sl26⟩) (c26 : PySem.W.codeIn K cd26 "is_state" = true) (k26 : PySem.W.keepIn K (.ref f26) = true)
    {od27 an27 : Option Addr} {sl27 : Array (Option Value)} {oc27 kV27 dc27 pm27 cd27 ct27 : Value}
    (a27 : PySem.W.nsIn K mainGlobals "check_many" = some (some (.ref f27))) (l27 : K.lookup f27 = some ⟨oc27, od27, .func (PySem.W.fnOf "check_many" "check_many" (defArgs s_check_many) (defBody s_check_many) (defScope s_check_many) .none kV27 dc27 pm27 an27 cd27 ct27), sl27⟩) (c27 : PySem.W.codeIn K cd27 "check_many" = true) (k27 : PySem.W.keepIn K (.ref f27) = true)
    {od28 an28 : Option Addr} {sl28 : Array (Option Value)} {oc28 kV28 dc28 pm28 cd28 ct28 : Value}
    (a28 : PySem.W.nsIn K mainGlobals "check_number" = some (some (.ref f28))) (l28 : K.lookup f28 = some ⟨oc28, od28, .func (PySem.W.fnOf "check_number" "check_number" (defArgs s_check_number) (defBody s_check_number) (defScope s_check_number) .none kV28 dc28 pm28 an28 cd28 ct28), sl28⟩) (c28 : PySem.W.codeIn K cd28 "check_number" = true) (k28 : PySem.W.keepIn K (.ref f28) = true)
    {od29 an29 : Option Addr} {sl29 : Array (Option Value)} {oc29 kV29 dc29 pm29 cd29 ct29 : Value}
    (a29 : PySem.W.nsIn K mainGlobals "state_by" = some (some (.ref f29))) (l29 : K.lookup f29 = some ⟨oc29, od29, .func (PySem.W.fnOf "state_by" "state_by" (defArgs s_state_by) (defBody s_state_by) (defScope s_state_by) .none kV29 dc29 pm29 an29 cd29 ct29), sl29⟩) (c29 : PySem.W.codeIn K cd29 "state_by" = true) (k29 : PySem.W.keepIn K (.ref f29) = true)
    {od30 an30 : Option Addr} {sl30 : Array (Option Value)} {oc30 kV30 dc30 pm30 cd30 ct30 : Value}
    (a30 : PySem.W.nsIn K mainGlobals "state_of" = some (some (.ref f30))) (l30 : K.lookup f30 = some ⟨oc30, od30, .func (PySem.W.fnOf "state_of" "state_of" (defArgs s_state_of) (defBody s_state_of) (defScope s_state_of) .none kV30 dc30 pm30 an30 cd30 ct30), sl30⟩) (c30 : PySem.W.codeIn K cd30 "state_of" = true) (k30 : PySem.W.keepIn K (.ref f30) = true)
    {od31 an31 : Option Addr} {sl31 : Array (Option Value)} {oc31 kV31 dc31 pm31 cd31 ct31 : Value}
    (a31 : PySem.W.nsIn K mainGlobals "check_state" = some (some (.ref f31))) (l31 : K.lookup f31 = some ⟨oc31, od31, .func (PySem.W.fnOf "check_state" "check_state" (defArgs s_check_state) (defBody s_check_state) (defScope s_check_state) .none kV31 dc31 pm31 an31 cd31 ct31), sl31⟩) (c31 : PySem.W.codeIn K cd31 "check_state" = true) (k31 : PySem.W.keepIn K (.ref f31) = true)
    {od32 an32 : Option Addr} {sl32 : Array (Option Value)} {oc32 kV32 dc32 pm32 cd32 ct32 : Value}
    (a32 : PySem.W.nsIn K mainGlobals "check_both" = some (some (.ref f32))) (l32 : K.lookup f32 = some ⟨oc32, od32, .func (PySem.W.fnOf "check_both" "check_both" (defArgs s_check_both) (defBody s_check_both) (defScope s_check_both) .none kV32 dc32 pm32 an32 cd32 ct32), sl32⟩) (c32 : PySem.W.codeIn K cd32 "check_both" = true) (k32 : PySem.W.keepIn K (.ref f32) = true)
    {od33 an33 : Option Addr} {sl33 : Array (Option Value)} {oc33 kV33 dc33 pm33 cd33 ct33 : Value}
    (a33 : PySem.W.nsIn K mainGlobals "number_by" = some (some (.ref f33))) (l33 : K.lookup f33 = some ⟨oc33, od33, .func (PySem.W.fnOf "number_by" "number_by" (defArgs s_number_by) (defBody s_number_by) (defScope s_number_by) .none kV33 dc33 pm33 an33 cd33 ct33), sl33⟩) (c33 : PySem.W.codeIn K cd33 "number_by" = true) (k33 : PySem.W.keepIn K (.ref f33) = true)
    {od34 an34 : Option Addr} {sl34 : Array (Option Value)} {oc34 kV34 dc34 pm34 cd34 ct34 : Value}
    (a34 : PySem.W.nsIn K mainGlobals "number_of" = some (some (.ref f34))) (l34 : K.lookup f34 = some ⟨oc34, od34, .func (PySem.W.fnOf "number_of" "number_of" (defArgs s_number_of) (defBody s_number_of) (defScope s_number_of) .none kV34 dc34 pm34 an34 cd34 ct34), sl34⟩) (c34 : PySem.W.codeIn K cd34 "number_of" = true) (k34 : PySem.W.keepIn K (.ref f34) = true)
    {od35 an35 : Option Addr} {sl35 : Array (Option Value)} {oc35 kV35 dc35 pm35 cd35 ct35 : Value}
    (a35 : PySem.W.nsIn K mainGlobals "_law_right" = some (some (.ref f35))) (l35 : K.lookup f35 = some ⟨oc35, od35, .func (PySem.W.fnOf "_law_right" "_law_right" (defArgs s__law_right) (defBody s__law_right) (defScope s__law_right) .none kV35 dc35 pm35 an35 cd35 ct35), sl35⟩) (c35 : PySem.W.codeIn K cd35 "_law_right" = true) (k35 : PySem.W.keepIn K (.ref f35) = true)
    {od36 an36 : Option Addr} {sl36 : Array (Option Value)} {oc36 kV36 dc36 pm36 cd36 ct36 : Value}
    (a36 : PySem.W.nsIn K mainGlobals "_law_well" = some (some (.ref f36))) (l36 : K.lookup f36 = some ⟨oc36, od36, .func (PySem.W.fnOf "_law_well" "_law_well" (defArgs s__law_well) (defBody s__law_well) (defScope s__law_well) .none kV36 dc36 pm36 an36 cd36 ct36), sl36⟩) (c36 : PySem.W.codeIn K cd36 "_law_well" = true) (k36 : PySem.W.keepIn K (.ref f36) = true)
    {od37 an37 : Option Addr} {sl37 : Array (Option Value)} {oc37 kV37 dc37 pm37 cd37 ct37 : Value}
    (a37 : PySem.W.nsIn K mainGlobals "law" = some (some (.ref f37))) (l37 : K.lookup f37 = some ⟨oc37, od37, .func (PySem.W.fnOf "law" "law" (defArgs s_law) (defBody s_law) (defScope s_law) .none kV37 dc37 pm37 an37 cd37 ct37), sl37⟩) (c37 : PySem.W.codeIn K cd37 "law" = true) (k37 : PySem.W.keepIn K (.ref f37) = true)
    (z_abs : PySem.W.nsIn K mainGlobals "abs" = some none)
    (z_all : PySem.W.nsIn K mainGlobals "all" = some none)
    (z_any : PySem.W.nsIn K mainGlobals "any" = some none)
    (z_bool : PySem.W.nsIn K mainGlobals "bool" = some none)
    (z_dict : PySem.W.nsIn K mainGlobals "dict" = some none)
    (z_divmod : PySem.W.nsIn K mainGlobals "divmod" = some none)
    (z_enumerate : PySem.W.nsIn K mainGlobals "enumerate" = some none)
    (z_int : PySem.W.nsIn K mainGlobals "int" = some none)
    (z_isinstance : PySem.W.nsIn K mainGlobals "isinstance" = some none)
    (z_len : PySem.W.nsIn K mainGlobals "len" = some none)
    (z_list : PySem.W.nsIn K mainGlobals "list" = some none)
    (z_max : PySem.W.nsIn K mainGlobals "max" = some none)
    (z_min : PySem.W.nsIn K mainGlobals "min" = some none)
    (z_range : PySem.W.nsIn K mainGlobals "range" = some none)
    (z_repr : PySem.W.nsIn K mainGlobals "repr" = some none)
    (z_set : PySem.W.nsIn K mainGlobals "set" = some none)
    (z_sorted : PySem.W.nsIn K mainGlobals "sorted" = some none)
    (z_str : PySem.W.nsIn K mainGlobals "str" = some none)
    (z_sum : PySem.W.nsIn K mainGlobals "sum" = some none)
    (z_tuple : PySem.W.nsIn K mainGlobals "tuple" = some none)
    (z_zip : PySem.W.nsIn K mainGlobals "zip" = some none)
    (q_gcd : PySem.W.nsIn K mainGlobals "gcd" = some (some (.builtin "math.gcd")))
    {t_MOST_CELLS : Tok} (q_MOST_CELLS : PySem.W.nsIn K mainGlobals "MOST_CELLS" = some (some (.int 8 t_MOST_CELLS)))
    {t_ZERO u_ZERO : Tok} {b_ZERO : Addr} {n_ZERO : Nat} {d_ZERO : Option Addr} {y_ZERO : Array (Option Value)} (q_ZERO : PySem.W.nsIn K mainGlobals "ZERO" = some (some (.ref b_ZERO))) (r_ZERO : K.lookup b_ZERO = some ⟨.type "tuple", d_ZERO, .seq #[.int 0 t_ZERO, .int 1 u_ZERO] n_ZERO, y_ZERO⟩)
    : ∃ fd : FuncData, (∀ (s : Shared) (v : Value), BindsTo s fd ⟨[v], []⟩ [("script", v)]) ∧ ∀ base : Heap, K.In base → base.Ns mainGlobals mg → GFn l.prog w K mg base 9 fa fd ["script"] (γ_law) := by
  have e := hfa.symm.trans (PySem.W.mg_of X G a37)
  cases e
  have F0 := fun_mk (st := s__law_draw) l0 c0 k0
  have m0 := PySem.W.mg_of X G a0
  have b0 := F0.binds (ps := ["well", "few"]) fun _ _ _ _ _ _ us hl => match us, hl with | [_, _], _ => rfl
  have F1 := fun_mk (st := s__law_one) l1 c1 k1
  have m1 := PySem.W.mg_of X G a1
  have b1 := F1.binds (ps := ["well", "some"]) fun _ _ _ _ _ _ us hl => match us, hl with | [_, _], _ => rfl
  have F2 := fun_mk (st := s__law_lean) l2 c2 k2
  have m2 := PySem.W.mg_of X G a2
  have b2 := F2.binds (ps := ["top", "base"]) fun _ _ _ _ _ _ us hl => match us, hl with | [_, _], _ => rfl
  have F3 := fun_mk (st := s__law_weight) l3 c3 k3
  have m3 := PySem.W.mg_of X G a3
  have b3 := F3.binds (ps := ["well"]) fun _ _ _ _ _ _ us hl => match us, hl with | [_], _ => rfl
  have F4 := fun_mk (st := s__law_mark) l4 c4 k4
  have m4 := PySem.W.mg_of X G a4
  have b4 := F4.binds (ps := ["well"]) fun _ _ _ _ _ _ us hl => match us, hl with | [_], _ => rfl
  have F5 := fun_mk (st := s__law_net) l5 c5 k5
  have m5 := PySem.W.mg_of X G a5
  have b5 := F5.binds (ps := ["well", "few"]) fun _ _ _ _ _ _ us hl => match us, hl with | [_, _], _ => rfl
  have F6 := fun_mk (st := s__law_odd) l6 c6 k6
  have m6 := PySem.W.mg_of X G a6
  have b6 := F6.binds (ps := ["well"]) fun _ _ _ _ _ _ us hl => match us, hl with | [_], _ => rfl
  have F7 := fun_mk (st := s__law_is_whole) l7 c7 k7
  have m7 := PySem.W.mg_of X G a7
  have b7 := F7.binds (ps := ["thing"]) fun _ _ _ _ _ _ us hl => match us, hl with | [_], _ => rfl
  have F8 := fun_mk (st := s__law_bent) l8 c8 k8
  have m8 := PySem.W.mg_of X G a8
  have b8 := F8.binds (ps := ["well", "thing"]) fun _ _ _ _ _ _ us hl => match us, hl with | [_, _], _ => rfl
  have F9 := fun_mk (st := s__law_maybe) l9 c9 k9
  have m9 := PySem.W.mg_of X G a9
  have b9 := F9.binds (ps := ["well", "thing"]) fun _ _ _ _ _ _ us hl => match us, hl with | [_, _], _ => rfl
  have F10 := fun_mk (st := s__law_is_tuple) l10 c10 k10
  have m10 := PySem.W.mg_of X G a10
  have b10 := F10.binds (ps := ["thing", "few"]) fun _ _ _ _ _ _ us hl => match us, hl with | [_, _], _ => rfl
  have F11 := fun_mk (st := s__law_is_part) l11 c11 k11
  have m11 := PySem.W.mg_of X G a11
  have b11 := F11.binds (ps := ["thing"]) fun _ _ _ _ _ _ us hl => match us, hl with | [_], _ => rfl
  have F12 := fun_mk (st := s__law_is_row) l12 c12 k12
  have m12 := PySem.W.mg_of X G a12
  have b12 := F12.binds (ps := ["thing", "few"]) fun _ _ _ _ _ _ us hl => match us, hl with | [_, _], _ => rfl
  have F13 := fun_mk (st := s__law_is_net) l13 c13 k13
  have m13 := PySem.W.mg_of X G a13
  have b13 := F13.binds (ps := ["thing"]) fun _ _ _ _ _ _ us hl => match us, hl with | [_], _ => rfl
  have F14 := fun_mk (st := s_is_tuple_of) l14 c14 k14
  have m14 := PySem.W.mg_of X G a14
  have b14 := F14.binds (ps := ["value", "many"]) fun _ _ _ _ _ _ us hl => match us, hl with | [_, _], _ => rfl
  have F15 := fun_mk (st := s_is_whole) l15 c15 k15
  have m15 := PySem.W.mg_of X G a15
  have b15 := F15.binds (ps := ["value"]) fun _ _ _ _ _ _ us hl => match us, hl with | [_], _ => rfl
  have F16 := fun_mk (st := s_is_ratio) l16 c16 k16
  have m16 := PySem.W.mg_of X G a16
  have b16 := F16.binds (ps := ["value"]) fun _ _ _ _ _ _ us hl => match us, hl with | [_], _ => rfl
  have F17 := fun_mk (st := s_is_row) l17 c17 k17
  have m17 := PySem.W.mg_of X G a17
  have b17 := F17.binds (ps := ["value", "many"]) fun _ _ _ _ _ _ us hl => match us, hl with | [_, _], _ => rfl
  have F18 := fun_mk (st := s_is_net_by) l18 c18 k18
  have m18 := PySem.W.mg_of X G a18
  have b18 := F18.binds (ps := ["value"]) fun _ _ _ _ _ _ us hl => match us, hl with | [_], _ => rfl
  have F19 := fun_mk (st := s_is_net) l19 c19 k19
  have m19 := PySem.W.mg_of X G a19
  have b19 := F19.binds (ps := ["value"]) fun _ _ _ _ _ _ us hl => match us, hl with | [_], _ => rfl
  have F20 := fun_mk (st := s__law_state) l20 c20 k20
  have m20 := PySem.W.mg_of X G a20
  have b20 := F20.binds (ps := ["few", "number"]) fun _ _ _ _ _ _ us hl => match us, hl with | [_, _], _ => rfl
  have F21 := fun_mk (st := s__law_is_state) l21 c21 k21
  have m21 := PySem.W.mg_of X G a21
  have b21 := F21.binds (ps := ["thing", "few"]) fun _ _ _ _ _ _ us hl => match us, hl with | [_, _], _ => rfl
  have F22 := fun_mk (st := s_check_net) l22 c22 k22
  have m22 := PySem.W.mg_of X G a22
  have b22 := F22.binds (ps := ["value"]) fun _ _ _ _ _ _ us hl => match us, hl with | [_], _ => rfl
  have F23 := fun_mk (st := s_many_cells) l23 c23 k23
  have m23 := PySem.W.mg_of X G a23
  have b23 := F23.binds (ps := ["net"]) fun _ _ _ _ _ _ us hl => match us, hl with | [_], _ => rfl
  have F24 := fun_mk (st := s_is_between) l24 c24 k24
  have m24 := PySem.W.mg_of X G a24
  have b24 := F24.binds (ps := ["value", "low", "high"]) fun _ _ _ _ _ _ us hl => match us, hl with | [_, _, _], _ => rfl
  have F25 := fun_mk (st := s_is_state_by) l25 c25 k25
  have m25 := PySem.W.mg_of X G a25
  have b25 := F25.binds (ps := ["net", "value"]) fun _ _ _ _ _ _ us hl => match us, hl with | [_, _], _ => rfl
  have F26 := fun_mk (st := s_is_state) l26 c26 k26
  have m26 := PySem.W.mg_of X G a26
  have b26 := F26.binds (ps := ["net", "value"]) fun _ _ _ _ _ _ us hl => match us, hl with | [_, _], _ => rfl
  have F27 := fun_mk (st := s_check_many) l27 c27 k27
  have m27 := PySem.W.mg_of X G a27
  have b27 := F27.binds (ps := ["value", "low", "high"]) fun _ _ _ _ _ _ us hl => match us, hl with | [_, _, _], _ => rfl
  have F28 := fun_mk (st := s_check_number) l28 c28 k28
  have m28 := PySem.W.mg_of X G a28
  have b28 := F28.binds (ps := ["net", "value"]) fun _ _ _ _ _ _ us hl => match us, hl with | [_, _], _ => rfl
  have F29 := fun_mk (st := s_state_by) l29 c29 k29
  have m29 := PySem.W.mg_of X G a29
  have b29 := F29.binds (ps := ["many", "number"]) fun _ _ _ _ _ _ us hl => match us, hl with | [_, _], _ => rfl
  have F30 := fun_mk (st := s_state_of) l30 c30 k30
  have m30 := PySem.W.mg_of X G a30
  have b30 := F30.binds (ps := ["net", "number"]) fun _ _ _ _ _ _ us hl => match us, hl with | [_, _], _ => rfl
  have F31 := fun_mk (st := s_check_state) l31 c31 k31
  have m31 := PySem.W.mg_of X G a31
  have b31 := F31.binds (ps := ["net", "value"]) fun _ _ _ _ _ _ us hl => match us, hl with | [_, _], _ => rfl
  have F32 := fun_mk (st := s_check_both) l32 c32 k32
  have m32 := PySem.W.mg_of X G a32
  have b32 := F32.binds (ps := ["net", "state"]) fun _ _ _ _ _ _ us hl => match us, hl with | [_, _], _ => rfl
  have F33 := fun_mk (st := s_number_by) l33 c33 k33
  have m33 := PySem.W.mg_of X G a33
  have b33 := F33.binds (ps := ["state"]) fun _ _ _ _ _ _ us hl => match us, hl with | [_], _ => rfl
  have F34 := fun_mk (st := s_number_of) l34 c34 k34
  have m34 := PySem.W.mg_of X G a34
  have b34 := F34.binds (ps := ["net", "state"]) fun _ _ _ _ _ _ us hl => match us, hl with | [_, _], _ => rfl
  have F35 := fun_mk (st := s__law_right) l35 c35 k35
  have m35 := PySem.W.mg_of X G a35
  have b35 := F35.binds (ps := ["well"]) fun _ _ _ _ _ _ us hl => match us, hl with | [_], _ => rfl
  have F36 := fun_mk (st := s__law_well) l36 c36 k36
  have m36 := PySem.W.mg_of X G a36
  have b36 := F36.binds (ps := ["script", "lap"]) fun _ _ _ _ _ _ us hl => match us, hl with | [_, _], _ => rfl
  have F37 := fun_mk (st := s_law) l37 c37 k37
  have m37 := PySem.W.mg_of X G a37
  have b37 := F37.binds (ps := ["script"]) fun _ _ _ _ _ _ us hl => match us, hl with | [_], _ => rfl
  have kb_is_net_0 := kb_mk (ps := ["value"]) (ks := ["value"]) (n := 0) (perm := [0]) F19 fun _ _ _ _ _ _ us ws hu hw => match us, ws, hu, hw with | [], [_], _, _ => rfl
  have kb_is_state_0 := kb_mk (ps := ["net", "value"]) (ks := ["value", "net"]) (n := 0) (perm := [1, 0]) F26 fun _ _ _ _ _ _ us ws hu hw => match us, ws, hu, hw with | [], [_, _], _, _ => rfl
  have kb_state_of_0 := kb_mk (ps := ["net", "number"]) (ks := ["number", "net"]) (n := 0) (perm := [1, 0]) F30 fun _ _ _ _ _ _ us ws hu hw => match us, ws, hu, hw with | [], [_, _], _, _ => rfl
  have kb_number_of_0 := kb_mk (ps := ["net", "state"]) (ks := ["state", "net"]) (n := 0) (perm := [1, 0]) F34 fun _ _ _ _ _ _ us ws hu hw => match us, ws, hu, hw with | [], [_, _], _, _ => rfl
  have B : Blt mg := ⟨PySem.W.mg_none_of X G z_abs, PySem.W.mg_none_of X G z_all, PySem.W.mg_none_of X G z_any, PySem.W.mg_none_of X G z_bool, PySem.W.mg_none_of X G z_dict, PySem.W.mg_none_of X G z_divmod, PySem.W.mg_none_of X G z_enumerate, PySem.W.mg_none_of X G z_int, PySem.W.mg_none_of X G z_isinstance, PySem.W.mg_none_of X G z_len, PySem.W.mg_none_of X G z_list, PySem.W.mg_none_of X G z_max, PySem.W.mg_none_of X G z_min, PySem.W.mg_none_of X G z_range, PySem.W.mg_none_of X G z_repr, PySem.W.mg_none_of X G z_set, PySem.W.mg_none_of X G z_sorted, PySem.W.mg_none_of X G z_str, PySem.W.mg_none_of X G z_sum, PySem.W.mg_none_of X G z_tuple, PySem.W.mg_none_of X G z_zip⟩
  have m_gcd := PySem.W.mg_of X G q_gcd
  have c_MOST_CELLS := cst_int (K := K) (PySem.W.mg_of X G q_MOST_CELLS)
  have c_ZERO := cst_pair (PySem.W.mg_of X G q_ZERO) r_ZERO rfl rfl
  refine ⟨PySem.W.fnOf "law" "law" (defArgs s_law) (defBody s_law) (defScope s_law) .none kV37 dc37 pm37 an37 cd37 ct37, fun s v => .of_eq rfl, fun base _ _ => ?_⟩
  have g0 := gf__law_draw (P := l.prog) (w := w) (base := base) (k := 0) F0 B
  have g1 := gf__law_one (P := l.prog) (w := w) (base := base) (k := 1) F1 B (has_mk F0 m0 b0 g0 (by decide))
  have g2 := gf__law_lean (P := l.prog) (w := w) (base := base) (k := 0) F2 B
  have g3 := gf__law_weight (P := l.prog) (w := w) (base := base) (k := 2) F3 B (has_mk F0 m0 b0 g0 (by decide)) (has_mk F1 m1 b1 g1 (by decide)) (has_mk F2 m2 b2 g2 (by decide))
  have g4 := gf__law_mark (P := l.prog) (w := w) (base := base) (k := 2) F4 B (has_mk F1 m1 b1 g1 (by decide))
  have g5 := gf__law_net (P := l.prog) (w := w) (base := base) (k := 3) F5 B (has_mk F3 m3 b3 g3 (by decide)) (has_mk F4 m4 b4 g4 (by decide))
  have g6 := gf__law_odd (P := l.prog) (w := w) (base := base) (k := 2) F6 B (has_mk F1 m1 b1 g1 (by decide))
  have g7 := gf__law_is_whole (P := l.prog) (w := w) (base := base) (k := 0) F7 B
  have g8 := gf__law_bent (P := l.prog) (w := w) (base := base) (k := 3) F8 B (has_mk F0 m0 b0 g0 (by decide)) (has_mk F7 m7 b7 g7 (by decide)) (has_mk F6 m6 b6 g6 (by decide))
  have g9 := gf__law_maybe (P := l.prog) (w := w) (base := base) (k := 4) F9 B (has_mk F0 m0 b0 g0 (by decide)) (has_mk F8 m8 b8 g8 (by decide)) (has_mk F6 m6 b6 g6 (by decide))
  have g10 := gf__law_is_tuple (P := l.prog) (w := w) (base := base) (k := 0) F10 B
  have g11 := gf__law_is_part (P := l.prog) (w := w) (base := base) (k := 1) F11 B (has_mk F10 m10 b10 g10 (by decide)) (has_mk F7 m7 b7 g7 (by decide)) (has_mk F2 m2 b2 g2 (by decide))
  have g12 := gf__law_is_row (P := l.prog) (w := w) (base := base) (k := 2) F12 B (has_mk F10 m10 b10 g10 (by decide)) (has_mk F11 m11 b11 g11 (by decide))
  have g13 := gf__law_is_net (P := l.prog) (w := w) (base := base) (k := 3) F13 B (has_mk F10 m10 b10 g10 (by decide)) (has_mk F12 m12 b12 g12 (by decide))
  have g14 := gf_is_tuple_of (P := l.prog) (w := w) (base := base) (k := 0) F14 B
  have g15 := gf_is_whole (P := l.prog) (w := w) (base := base) (k := 0) F15 B
  have g16 := gf_is_ratio (P := l.prog) (w := w) (base := base) (k := 1) F16 B (has_mk F14 m14 b14 g14 (by decide)) (has_mk F15 m15 b15 g15 (by decide)) m_gcd
  have g17 := gf_is_row (P := l.prog) (w := w) (base := base) (k := 2) F17 B (has_mk F14 m14 b14 g14 (by decide)) (has_mk F16 m16 b16 g16 (by decide))
  have g18 := gf_is_net_by (P := l.prog) (w := w) (base := base) (k := 3) F18 B (has_mk F14 m14 b14 g14 (by decide)) c_MOST_CELLS (has_mk F17 m17 b17 g17 (by decide)) c_ZERO
  have g19 := gf_is_net (P := l.prog) (w := w) (base := base) (k := 4) F19 B (has_mk F18 m18 b18 g18 (by decide))
  have g20 := gf__law_state (P := l.prog) (w := w) (base := base) (k := 0) F20 B
  have g21 := gf__law_is_state (P := l.prog) (w := w) (base := base) (k := 1) F21 B (has_mk F10 m10 b10 g10 (by decide)) (has_mk F7 m7 b7 g7 (by decide))
  have g22 := gf_check_net (P := l.prog) (w := w) (base := base) (k := 4) F22 B (has_mk F18 m18 b18 g18 (by decide))
  have g23 := gf_many_cells (P := l.prog) (w := w) (base := base) (k := 0) F23 B
  have g24 := gf_is_between (P := l.prog) (w := w) (base := base) (k := 1) F24 B (has_mk F15 m15 b15 g15 (by decide))
  have g25 := gf_is_state_by (P := l.prog) (w := w) (base := base) (k := 2) F25 B (has_mk F14 m14 b14 g14 (by decide)) (has_mk F23 m23 b23 g23 (by decide)) (has_mk F24 m24 b24 g24 (by decide))
  have g26 := gf_is_state (P := l.prog) (w := w) (base := base) (k := 5) F26 B (has_mk F22 m22 b22 g22 (by decide)) (has_mk F25 m25 b25 g25 (by decide))
  have g27 := gf_check_many (P := l.prog) (w := w) (base := base) (k := 2) F27 B (has_mk F24 m24 b24 g24 (by decide))
  have g28 := gf_check_number (P := l.prog) (w := w) (base := base) (k := 3) F28 B (has_mk F27 m27 b27 g27 (by decide)) (has_mk F23 m23 b23 g23 (by decide))
  have g29 := gf_state_by (P := l.prog) (w := w) (base := base) (k := 0) F29 B
  have g30 := gf_state_of (P := l.prog) (w := w) (base := base) (k := 5) F30 B (has_mk F22 m22 b22 g22 (by decide)) (has_mk F28 m28 b28 g28 (by decide)) (has_mk F29 m29 b29 g29 (by decide)) (has_mk F23 m23 b23 g23 (by decide))
  have g31 := gf_check_state (P := l.prog) (w := w) (base := base) (k := 3) F31 B (has_mk F25 m25 b25 g25 (by decide))
  have g32 := gf_check_both (P := l.prog) (w := w) (base := base) (k := 5) F32 B (has_mk F22 m22 b22 g22 (by decide)) (has_mk F31 m31 b31 g31 (by decide))
  have g33 := gf_number_by (P := l.prog) (w := w) (base := base) (k := 0) F33 B
  have g34 := gf_number_of (P := l.prog) (w := w) (base := base) (k := 6) F34 B (has_mk F32 m32 b32 g32 (by decide)) (has_mk F33 m33 b33 g33 (by decide))
  have g35 := gf__law_right (P := l.prog) (w := w) (base := base) (k := 7) F35 B (has_mk F5 m5 b5 g5 (by decide)) (has_mk F1 m1 b1 g1 (by decide)) (has_mk F6 m6 b6 g6 (by decide)) (has_mk F9 m9 b9 g9 (by decide)) (has_mk F8 m8 b8 g8 (by decide)) (has_mk F13 m13 b13 g13 (by decide)) (has_mk F19 m19 b19 g19 (by decide)) (has_mk F0 m0 b0 g0 (by decide)) (has_mk F20 m20 b20 g20 (by decide)) (has_mk F21 m21 b21 g21 (by decide)) (has_mk F26 m26 b26 g26 (by decide)) (has_mk F30 m30 b30 g30 (by decide)) (has_mk F34 m34 b34 g34 (by decide)) kb_is_net_0 kb_is_state_0 kb_state_of_0 kb_number_of_0
  have g36 := gf__law_well (P := l.prog) (w := w) (base := base) (k := 0) F36 B
  have g37 := gf_law (P := l.prog) (w := w) (base := base) (k := 8) F37 B (has_mk F35 m35 b35 g35 (by decide)) (has_mk F36 m36 b36 g36 (by decide))
  exact g37
end K02
open PySem PySem.W PyProof.Rows
set_option maxRecDepth 100000 in
set_option maxHeartbeats 0 in
theorem PySem.Challenge.cw_heedlore_k02_whole_nets_and_states_of_an_holds : PySem.Challenge.rw_heedlore_k02_whole_nets_and_states_of_an.Holds := by
  w_on; o_law; k_head; (case hw => w_witness2)
  k_fill
  refine Gx.gx_walk (l := PySem.Challenge.rw_heedlore_k02_whole_nets_and_states_of_an) (n := 63) (k := 9) (γ := K02.γ_law) (x := "script") rfl (by decide) rfl ⟨rfl, by decide, by decide⟩ (fun w h Y => PySem.W.kIn_of Y) ?F (fun ns hl R S h => ⟨ns, rfl, hl, h⟩)
  case F =>
    intro w mg fa h KX G hmg
    refine' K02.all_mk KX G hmg ?a0 ?l0 ?c0 ?k0 ?a1 ?l1 ?c1 ?k1 ?a2 ?l2 ?c2 ?k2 ?a3 ?l3 ?c3 ?k3 ?a4 ?l4 ?c4 ?k4 ?a5 ?l5 ?c5 ?k5 ?a6 ?l6 ?c6 ?k6 ?a7 ?l7 ?c7 ?k7 ?a8 ?l8 ?c8 ?k8 ?a9 ?l9 ?c9 ?k9 ?a10 ?l10 ?c10 ?k10 ?a11 ?l11 ?c11 ?k11 ?a12 ?l12 ?c12 ?k12 ?a13 ?l13 ?c13 ?k13 ?a14 ?l14 ?c14 ?k14 ?a15 ?l15 ?c15 ?k15 ?a16 ?l16 ?c16 ?k16 ?a17 ?l17 ?c17 ?k17 ?a18 ?l18 ?c18 ?k18 ?a19 ?l19 ?c19 ?k19 ?a20 ?l20 ?c20 ?k20 ?a21 ?l21 ?c21 ?k21 ?a22 ?l22 ?c22 ?k22 ?a23 ?l23 ?c23 ?k23 ?a24 ?l24 ?c24 ?k24 ?a25 ?l25 ?c25 ?k25 ?a26 ?l26 ?c26 ?k26 ?a27 ?l27 ?c27 ?k27 ?a28 ?l28 ?c28 ?k28 ?a29 ?l29 ?c29 ?k29 ?a30 ?l30 ?c30 ?k30 ?a31 ?l31 ?c31 ?k31 ?a32 ?l32 ?c32 ?k32 ?a33 ?l33 ?c33 ?k33 ?a34 ?l34 ?c34 ?k34 ?a35 ?l35 ?c35 ?k35 ?a36 ?l36 ?c36 ?k36 ?a37 ?l37 ?c37 ?k37 ?z_abs ?z_all ?z_any ?z_bool ?z_dict ?z_divmod ?z_enumerate ?z_int ?z_isinstance ?z_len ?z_list ?z_max ?z_min ?z_range ?z_repr ?z_set ?z_sorted ?z_str ?z_sum ?z_tuple ?z_zip ?q_gcd ?q_MOST_CELLS ?q_ZERO ?r_ZERO
    (case a0 => k_is)
    (case l0 => k_is)
    (case c0 => k_is)
    (case k0 => k_is)
    (case a1 => k_is)
    (case l1 => k_is)
    (case c1 => k_is)
    (case k1 => k_is)
    (case a2 => k_is)
    (case l2 => k_is)
    (case c2 => k_is)
    (case k2 => k_is)
    (case a3 => k_is)
    (case l3 => k_is)
    (case c3 => k_is)
    (case k3 => k_is)
    (case a4 => k_is)
    (case l4 => k_is)
    (case c4 => k_is)
    (case k4 => k_is)
    (case a5 => k_is)
    (case l5 => k_is)
    (case c5 => k_is)
    (case k5 => k_is)
    (case a6 => k_is)
    (case l6 => k_is)
    (case c6 => k_is)
    (case k6 => k_is)
    (case a7 => k_is)
    (case l7 => k_is)
    (case c7 => k_is)
    (case k7 => k_is)
    (case a8 => k_is)
    (case l8 => k_is)
    (case c8 => k_is)
    (case k8 => k_is)
    (case a9 => k_is)
    (case l9 => k_is)
    (case c9 => k_is)
    (case k9 => k_is)
    (case a10 => k_is)
    (case l10 => k_is)
    (case c10 => k_is)
    (case k10 => k_is)
    (case a11 => k_is)
    (case l11 => k_is)
    (case c11 => k_is)
    (case k11 => k_is)
    (case a12 => k_is)
    (case l12 => k_is)
    (case c12 => k_is)
    (case k12 => k_is)
    (case a13 => k_is)
    (case l13 => k_is)
    (case c13 => k_is)
    (case k13 => k_is)
    (case a14 => k_is)
    (case l14 => k_is)
    (case c14 => k_is)
    (case k14 => k_is)
    (case a15 => k_is)
    (case l15 => k_is)
    (case c15 => k_is)
    (case k15 => k_is)
    (case a16 => k_is)
    (case l16 => k_is)
    (case c16 => k_is)
    (case k16 => k_is)
    (case a17 => k_is)
    (case l17 => k_is)
    (case c17 => k_is)
    (case k17 => k_is)
    (case a18 => k_is)
    (case l18 => k_is)
    (case c18 => k_is)
    (case k18 => k_is)
    (case a19 => k_is)
    (case l19 => k_is)
    (case c19 => k_is)
    (case k19 => k_is)
    (case a20 => k_is)
    (case l20 => k_is)
    (case c20 => k_is)
    (case k20 => k_is)
    (case a21 => k_is)
    (case l21 => k_is)
    (case c21 => k_is)
    (case k21 => k_is)
    (case a22 => k_is)
    (case l22 => k_is)
    (case c22 => k_is)
    (case k22 => k_is)
    (case a23 => k_is)
    (case l23 => k_is)
    (case c23 => k_is)
    (case k23 => k_is)
    (case a24 => k_is)
    (case l24 => k_is)
    (case c24 => k_is)
    (case k24 => k_is)
    (case a25 => k_is)
    (case l25 => k_is)
    (case c25 => k_is)
    (case k25 => k_is)
    (case a26 => k_is)
    (case l26 => k_is)
    (case c26 => k_is)
    (case k26 => k_is)
    (case a27 => k_is)
    (case l27 => k_is)
    (case c27 => k_is)
    (case k27 => k_is)
    (case a28 => k_is)
    (case l28 => k_is)
    (case c28 => k_is)
    (case k28 => k_is)
    (case a29 => k_is)
    (case l29 => k_is)
    (case c29 => k_is)
    (case k29 => k_is)
    (case a30 => k_is)
    (case l30 => k_is)
    (case c30 => k_is)
    (case k30 => k_is)
    (case a31 => k_is)
    (case l31 => k_is)
    (case c31 => k_is)
    (case k31 => k_is)
    (case a32 => k_is)
    (case l32 => k_is)
    (case c32 => k_is)
    (case k32 => k_is)
    (case a33 => k_is)
    (case l33 => k_is)
    (case c33 => k_is)
    (case k33 => k_is)
    (case a34 => k_is)
    (case l34 => k_is)
    (case c34 => k_is)
    (case k34 => k_is)
    (case a35 => k_is)
    (case l35 => k_is)
    (case c35 => k_is)
    (case k35 => k_is)
    (case a36 => k_is)
    (case l36 => k_is)
    (case c36 => k_is)
    (case k36 => k_is)
    (case a37 => k_is)
    (case l37 => k_is)
    (case c37 => k_is)
    (case k37 => k_is)
    (case z_abs => k_is)
    (case z_all => k_is)
    (case z_any => k_is)
    (case z_bool => k_is)
    (case z_dict => k_is)
    (case z_divmod => k_is)
    (case z_enumerate => k_is)
    (case z_int => k_is)
    (case z_isinstance => k_is)
    (case z_len => k_is)
    (case z_list => k_is)
    (case z_max => k_is)
    (case z_min => k_is)
    (case z_range => k_is)
    (case z_repr => k_is)
    (case z_set => k_is)
    (case z_sorted => k_is)
    (case z_str => k_is)
    (case z_sum => k_is)
    (case z_tuple => k_is)
    (case z_zip => k_is)
    (case q_gcd => k_is)
    (case q_MOST_CELLS => k_is)
    (case q_ZERO => k_is)
    (case r_ZERO => k_is)


