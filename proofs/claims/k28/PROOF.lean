import PyProof.Rows.All
import Wide.All
import OpenK.AllK
import Wide.FinOn
import HandS.ForMost
import HandS.TupAny
import HandS.IsInst
import HandS.Gcd
import HandS.Wide
import HandS.Flow
import HandS.Style
import HandS.TupMul
import HandS.Zip
import KE.GoesEnum
import HandS.Deep
import PyProof.ReprBulk
import PyProof.Rows.NestShow
import HandS.SortInts
import HandS.Dict
import HandS.More
import HandS.Iter
import HandS.WordsDict
import HandS.Conv
import HandS.Small
import PyProof.ListMulRoad
import HandS.TupSets
import HandS.Star
import HandS.Keys
import HandS.SetFor
import HandS.WideBits
import PySem.Challenge.RW_heedlore_k28_whole_seeds_and_stubborn_lo
set_option Elab.async false
set_option linter.all false
set_option maxRecDepth 100000
set_option maxHeartbeats 4000000
/-! Gx, part 0: values without the heap, a store of what changes, what stands for what. -/
namespace Gx
open PySem PySem.Spec L2

/-- a value: tuples, and lists that nobody changes any more, are data; what changes is named by its address -/
inductive D where
  | non | bl (b : Bool) | int (i : Int) | str (x : Str) | tup (ds : List D) | lst (ds : List D) | scr (ds : List D) | ref (a : Addr) | ty (n : String)
/-- what changes -/
inductive SO where
  | lst (ds : List D) | dK (kvs : List (Key × D)) | dT (kvs : List (List Key × D)) | dF (od : Obj) (ks : List (Key × V)) (kvs : List (Key × D))
abbrev Sto := Addr → Option SO
def up (S : Sto) (a : Addr) (o : SO) : Sto := fun b => if b = a then some o else S b
theorem up_same {S : Sto} {a : Addr} {o : SO} : up S a o a = some o := by unfold up; rw [if_pos rfl]
theorem up_ne {S : Sto} {a b : Addr} {o : SO} (h : b ≠ a) : up S a o b = S b := by unfold up; rw [if_neg h]
theorem up_up {S : Sto} {a : Addr} {o u : SO} : up (up S a o) a u = up S a u := by
  funext b; unfold up; split <;> rfl
/-- one store and another one beside it -/
def cmb (S F : Sto) : Sto := fun a => match S a with
  | some o => some o
  | none => F a
theorem cmb_l {S F : Sto} {a : Addr} {o : SO} (h : S a = some o) : cmb S F a = some o := by unfold cmb; rw [h]
theorem cmb_r {S F : Sto} {a : Addr} (h : S a = none) : cmb S F a = F a := by unfold cmb; rw [h]
theorem cmb_none {S F : Sto} {a : Addr} (h : cmb S F a = none) : S a = none ∧ F a = none := by
  unfold cmb at h
  split at h
  · cases h
  · exact ⟨by assumption, h⟩
theorem cmb_of_none {S F : Sto} {a : Addr} (h : S a = none) (h' : F a = none) : cmb S F a = none := by rw [cmb_r h, h']

/-- a list that nobody changes: tracked, or one of the module's own -/
def ScrAt (K : PySem.W.Frag) (T : Sto) (H : Hp) (a : Addr) (xs : List V) : Prop := (T a = none ∧ Rd H a (.lst xs)) ∨ SqL K (fun _ => none) a xs
theorem ScrAt.sq {K : PySem.W.Frag} {T : Sto} {H : Hp} {a : Addr} {xs : List V} (h : ScrAt K T H a xs) : SqL K H a xs := by
  rcases h with ⟨_, h⟩ | h | h
  · exact .inl h
  · rcases h with h | ⟨o, h⟩ <;> cases h
  · exact .inr h
section
variable (K : PySem.W.Frag)
mutual
/-- a value stands for a value of the heap -/
def Rp (T : Sto) (H : Hp) : D → V → Prop
  | .non, v => v = .non
  | .bl b, v => v = .bl b
  | .int i, v => v = .int i
  | .str x, v => v = .str x
  | .ref a, v => v = .ref a
  | .ty n, v => v = .ty n
  | .tup ds, v => ∃ a xs, v = .ref a ∧ SqT K H a xs ∧ RpL T H ds xs
  | .lst ds, v => ∃ a xs, v = .ref a ∧ T a = none ∧ H a = some (.lst xs) ∧ RpL T H ds xs
  | .scr ds, v => ∃ a xs, v = .ref a ∧ ScrAt K T H a xs ∧ RpL T H ds xs
def RpL (T : Sto) (H : Hp) : List D → List V → Prop
  | [], xs => xs = []
  | d :: ds, xs => ∃ x r, xs = x :: r ∧ Rp T H d x ∧ RpL T H ds r
end
/-- what stands at an address that changes -/
def StO (T : Sto) (H : Hp) (a : Addr) : SO → Prop
  | .lst ds => ∃ xs, H a = some (.lst xs) ∧ RpL K T H ds xs
  | .dK kvs => ∃ ks, H a = some (.dK ks) ∧ ks.map (·.1) = kvs.map (·.1) ∧ RpL K T H (kvs.map (·.2)) (ks.map (·.2))
  | .dT kvs => ∃ ks, H a = some (.dT ks) ∧ ks.map (·.1) = kvs.map (·.1) ∧ RpL K T H (kvs.map (·.2)) (ks.map (·.2))
  | .dF od ks kvs => H a = some (.frz od (.dK ks)) ∧ ks.map (·.1) = kvs.map (·.1) ∧ RpL K T H (kvs.map (·.2)) (ks.map (·.2))
def Ok (T : Sto) (H : Hp) : Prop := ∀ a o, T a = some o → StO K T H a o
/-- the stores stand apart, and hold -/
structure Wd (S F : Sto) (H : Hp) : Prop where
  dj : ∀ a, S a = none ∨ F a = none
  ok : Ok K (cmb S F) H
end
/-- what does not change stays -/
def Ev (T : Sto) (H : Hp) (T' : Sto) (H' : Hp) : Prop := ∀ a o, H a = some o → T a = none → H' a = some o ∧ T' a = none
theorem Ev.refl {T : Sto} {H : Hp} : Ev T H T H := fun _ _ h1 h2 => ⟨h1, h2⟩
theorem Ev.trans {T T1 T2 : Sto} {H H1 H2 : Hp} (a : Ev T H T1 H1) (b : Ev T1 H1 T2 H2) : Ev T H T2 H2 := fun c o h1 h2 =>
  have q := a c o h1 h2
  b c o q.1 q.2

section
variable {K : PySem.W.Frag} {T T' : Sto} {H H' : Hp} {S S' F F' : Sto}
theorem sto_some {a : Addr} {o : SO} (h : StO K T H a o) : ∃ u, H a = some u ∧ (∀ xs, u ≠ .tup xs) ∧ (∀ ob w, u ≠ .frz ob (.tup w)) := by
  cases o with
  | lst ds => obtain ⟨xs, e, _⟩ := h; exact ⟨_, e, by simp, by simp⟩
  | dK kvs => obtain ⟨xs, e, _⟩ := h; exact ⟨_, e, by simp, by simp⟩
  | dT kvs => obtain ⟨xs, e, _⟩ := h; exact ⟨_, e, by simp, by simp⟩
  | dF od ks kvs => obtain ⟨e, _⟩ := h; exact ⟨_, e, by simp, by simp⟩
theorem Ok.fresh (h : Ok K T H) {p : Addr} (e : H p = none) : T p = none := by
  cases q : T p with
  | none => rfl
  | some o => obtain ⟨u, e', _⟩ := sto_some (h p o q); rw [e] at e'; cases e'
theorem Ok.tup (h : Ok K T H) {p : Addr} {xs : List V} (e : Rd H p (.tup xs)) : T p = none := by
  cases q : T p with
  | none => rfl
  | some o =>
    obtain ⟨u, e', n1, n2⟩ := sto_some (h p o q)
    rcases e with e | ⟨ob, e⟩
    · rw [e] at e'; cases e'; exact absurd rfl (n1 xs)
    · rw [e] at e'; cases e'; exact absurd rfl (n2 _ _)
theorem SqT.ev {a : Addr} {xs : List V} (o : Ok K T H) (ev : Ev T H T' H') (h : SqT K H a xs) : SqT K H' a xs := by
  rcases h with h | h
  · have n := o.tup h
    rcases h with h | ⟨ob, h⟩
    · exact .inl (.inl (ev _ _ h n).1)
    · exact .inl (.inr ⟨ob, (ev _ _ h n).1⟩)
  · exact .inr h
theorem Rd.ev {a : Addr} {u : HO} (n : T a = none) (ev : Ev T H T' H') (h : Rd H a u) : Rd H' a u ∧ T' a = none := by
  rcases h with h | ⟨ob, h⟩
  · exact ⟨.inl (ev _ _ h n).1, (ev _ _ h n).2⟩
  · exact ⟨.inr ⟨ob, (ev _ _ h n).1⟩, (ev _ _ h n).2⟩
mutual
theorem Rp.ev (o : Ok K T H) (ev : Ev T H T' H') : ∀ {d : D} {v : V}, Rp K T H d v → Rp K T' H' d v
  | .non, _, h => h
  | .bl _, _, h => h
  | .int _, _, h => h
  | .str _, _, h => h
  | .ref _, _, h => h
  | .ty _, _, h => h
  | .tup ds, v, h => by
    obtain ⟨a, xs, e, q, r⟩ := h
    exact ⟨a, xs, e, SqT.ev o ev q, RpL.ev o ev r⟩
  | .lst ds, v, h => by
    obtain ⟨a, xs, e, n, q, r⟩ := h
    have z := ev _ _ q n
    exact ⟨a, xs, e, z.2, z.1, RpL.ev o ev r⟩
  | .scr ds, v, h => by
    obtain ⟨a, xs, e, q, r⟩ := h
    exact ⟨a, xs, e, q.imp (fun q => (Rd.ev q.1 ev q.2).symm) id, RpL.ev o ev r⟩
theorem RpL.ev (o : Ok K T H) (ev : Ev T H T' H') : ∀ {ds : List D} {vs : List V}, RpL K T H ds vs → RpL K T' H' ds vs
  | [], _, h => h
  | d :: ds, _, h => by
    obtain ⟨x, r, e, q, q2⟩ := h
    exact ⟨x, r, e, Rp.ev o ev q, RpL.ev o ev q2⟩
end
mutual
/-- fewer things change -/
theorem Rp.sub (f : ∀ a, T a = none → T' a = none) : ∀ {d : D} {v : V}, Rp K T H d v → Rp K T' H d v
  | .non, _, h => h
  | .bl _, _, h => h
  | .int _, _, h => h
  | .str _, _, h => h
  | .ref _, _, h => h
  | .ty _, _, h => h
  | .tup ds, v, h => by
    obtain ⟨a, xs, e, q, r⟩ := h
    exact ⟨a, xs, e, q, RpL.sub f r⟩
  | .lst ds, v, h => by
    obtain ⟨a, xs, e, n, q, r⟩ := h
    exact ⟨a, xs, e, f a n, q, RpL.sub f r⟩
  | .scr ds, v, h => by
    obtain ⟨a, xs, e, q, r⟩ := h
    exact ⟨a, xs, e, q.imp (fun q => ⟨f a q.1, q.2⟩) id, RpL.sub f r⟩
theorem RpL.sub (f : ∀ a, T a = none → T' a = none) : ∀ {ds : List D} {vs : List V}, RpL K T H ds vs → RpL K T' H ds vs
  | [], _, h => h
  | d :: ds, _, h => by
    obtain ⟨x, r, e, q, q2⟩ := h
    exact ⟨x, r, e, Rp.sub f q, RpL.sub f q2⟩
end
theorem sto_mp {a : Addr} {o : SO} (h : StO K T H a o) (g : ∀ u, H a = some u → H' a = some u) (r : ∀ ds vs, RpL K T H ds vs → RpL K T' H' ds vs) : StO K T' H' a o := by
  cases o with
  | lst ds => obtain ⟨xs, e, q⟩ := h; exact ⟨xs, g _ e, r _ _ q⟩
  | dK kvs => obtain ⟨xs, e, k, q⟩ := h; exact ⟨xs, g _ e, k, r _ _ q⟩
  | dT kvs => obtain ⟨xs, e, k, q⟩ := h; exact ⟨xs, g _ e, k, r _ _ q⟩
  | dF od ks kvs => obtain ⟨e, k, q⟩ := h; exact ⟨g _ e, k, r _ _ q⟩

theorem RpL.length : ∀ {ds : List D} {vs : List V}, RpL K T H ds vs → vs.length = ds.length
  | [], _, h => by rw [show _ = [] from h]; rfl
  | d :: ds, _, h => by
    obtain ⟨x, r, e, _, q2⟩ := h
    rw [e, List.length_cons, List.length_cons, RpL.length q2]
theorem RpL.get : ∀ {ds : List D} {vs : List V} {i : Nat} {d : D}, RpL K T H ds vs → ds[i]? = some d → ∃ v, vs[i]? = some v ∧ Rp K T H d v
  | [], _, _, _, _, e => by simp at e
  | d :: ds, _, 0, x, h, e => by
    obtain ⟨y, r, rfl, q, _⟩ := h
    simp at e; subst e
    exact ⟨y, rfl, q⟩
  | d :: ds, _, i + 1, x, h, e => by
    obtain ⟨y, r, rfl, _, q⟩ := h
    obtain ⟨v, h1, h2⟩ := RpL.get (i := i) (d := x) q (by simpa using e)
    exact ⟨v, by simpa using h1, h2⟩
theorem RpL.app : ∀ {ds es : List D} {vs us : List V}, RpL K T H ds vs → RpL K T H es us → RpL K T H (ds ++ es) (vs ++ us)
  | [], _, _, _, h, h' => by rw [show _ = [] from h]; exact h'
  | d :: ds, _, _, _, h, h' => by
    obtain ⟨y, r, rfl, q, q2⟩ := h
    exact ⟨y, r ++ _, rfl, q, RpL.app q2 h'⟩
theorem RpL.set : ∀ {ds : List D} {vs : List V} {d : D} {v : V} (i : Nat), RpL K T H ds vs → Rp K T H d v → RpL K T H (ds.set i d) (vs.set i v)
  | [], _, _, _, _, h, _ => by rw [show _ = [] from h]; exact rfl
  | d :: ds, _, _, _, 0, h, h' => by
    obtain ⟨y, r, rfl, q, q2⟩ := h
    exact ⟨_, r, rfl, h', q2⟩
  | d :: ds, _, _, _, i + 1, h, h' => by
    obtain ⟨y, r, rfl, q, q2⟩ := h
    exact ⟨y, _, rfl, q, RpL.set i q2 h'⟩
theorem RpL.drop : ∀ {ds : List D} {vs : List V} (n : Nat), RpL K T H ds vs → RpL K T H (ds.drop n) (vs.drop n)
  | _, _, 0, h => by simpa using h
  | [], _, n + 1, h => by rw [show _ = [] from h]; exact rfl
  | d :: ds, _, n + 1, h => by
    obtain ⟨y, r, rfl, q, q2⟩ := h
    simpa using RpL.drop n q2
theorem RpL.take : ∀ {ds : List D} {vs : List V} (n : Nat), RpL K T H ds vs → RpL K T H (ds.take n) (vs.take n)
  | _, _, 0, h => by rw [List.take_zero, List.take_zero]; exact rfl
  | [], _, n + 1, h => by rw [show _ = [] from h]; exact rfl
  | d :: ds, _, n + 1, h => by
    obtain ⟨y, r, rfl, q, q2⟩ := h
    exact ⟨y, _, rfl, q, RpL.take n q2⟩
theorem RpL.reverse : ∀ {ds : List D} {vs : List V}, RpL K T H ds vs → RpL K T H ds.reverse vs.reverse
  | [], _, h => by rw [show _ = [] from h]; exact rfl
  | d :: ds, _, h => by
    obtain ⟨y, r, rfl, q, q2⟩ := h
    rw [List.reverse_cons, List.reverse_cons]
    exact RpL.app (RpL.reverse q2) ⟨y, [], rfl, q, rfl⟩
theorem RpL.ints : ∀ {ns : List Int} {vs : List V}, RpL K T H (ns.map D.int) vs → vs = ns.map V.int
  | [], _, h => h
  | n :: ns, _, h => by
    obtain ⟨y, r, rfl, q, q2⟩ := h
    rw [show y = V.int n from q, RpL.ints q2]
    rfl
theorem RpL.bls : ∀ {ns : List Bool} {vs : List V}, RpL K T H (ns.map D.bl) vs → vs = ns.map V.bl
  | [], _, h => h
  | n :: ns, _, h => by
    obtain ⟨y, r, rfl, q, q2⟩ := h
    rw [show y = V.bl n from q, RpL.bls q2]
    rfl
/-! ### how the stores go on -/
theorem ev_new {p : Addr} {o : HO} (hp : H p = none) : Ev T H T (upd H p o) := fun a u e n => ⟨by rw [upd_ne (ne_of_none e hp)]; exact e, n⟩
theorem Ok.new {p : Addr} {o : HO} (h : Ok K T H) (hp : H p = none) : Ok K T (upd H p o) := fun a u e =>
  sto_mp (h a u e) (fun w q => by rw [upd_ne (ne_of_none q hp)]; exact q) fun _ _ r => RpL.ev h (ev_new hp) r
theorem Wd.new {p : Addr} {o : HO} (h : Wd K S F H) (hp : H p = none) : Wd K S F (upd H p o) := ⟨h.dj, h.ok.new hp⟩
theorem cmb_up {a : Addr} {o : SO} : cmb (up S a o) F = up (cmb S F) a o := by
  funext b
  by_cases e : b = a
  · subst e; rw [up_same, cmb_l up_same]
  · rw [up_ne e]; unfold cmb; rw [up_ne e]
theorem cmb_upR {a : Addr} {o : SO} (h : S a = none) : cmb S (up F a o) = up (cmb S F) a o := by
  funext b
  by_cases e : b = a
  · subst e; rw [up_same, cmb_r h, up_same]
  · rw [up_ne e]; unfold cmb; rw [up_ne e]
theorem ev_newS {p : Addr} {o : HO} {u : SO} (hp : H p = none) : Ev T H (up T p u) (upd H p o) := fun a w e n => ⟨by rw [upd_ne (ne_of_none e hp)]; exact e, by rw [up_ne (ne_of_none e hp)]; exact n⟩
/-- a new thing that is to change -/
theorem Ok.newS {p : Addr} {o : HO} {u : SO} (h : Ok K T H) (hp : H p = none) (q : StO K (up T p u) (upd H p o) p u) : Ok K (up T p u) (upd H p o) := fun a w e => by
  by_cases z : a = p
  · subst z; rw [up_same] at e; cases e; exact q
  · rw [up_ne z] at e
    exact sto_mp (h a w e) (fun x y => by rw [upd_ne z]; exact y) fun _ _ r => RpL.ev h (ev_newS hp) r
theorem Wd.newS {p : Addr} {o : HO} {u : SO} (h : Wd K S F H) (hp : H p = none) (q : StO K (up (cmb S F) p u) (upd H p o) p u) : Wd K (up S p u) F (upd H p o) := by
  have n := cmb_none (h.ok.fresh hp)
  refine ⟨fun a => ?_, by rw [cmb_up]; exact h.ok.newS hp q⟩
  by_cases z : a = p
  · subst z; exact .inr n.2
  · rw [up_ne z]; exact h.dj a
theorem Wd.newF {p : Addr} {o : HO} {u : SO} (h : Wd K S F H) (hp : H p = none) (q : StO K (up (cmb S F) p u) (upd H p o) p u) : Wd K S (up F p u) (upd H p o) := by
  have n := cmb_none (h.ok.fresh hp)
  refine ⟨fun a => ?_, by rw [cmb_upR n.1]; exact h.ok.newS hp q⟩
  by_cases z : a = p
  · subst z; exact .inl n.1
  · rw [up_ne z]; exact h.dj a
theorem ev_set {p : Addr} {o : HO} {u w : SO} (hp : T p = some w) : Ev T H (up T p u) (upd H p o) := fun a x e n => by
  have z : a ≠ p := by rintro rfl; rw [hp] at n; cases n
  exact ⟨by rw [upd_ne z]; exact e, by rw [up_ne z]; exact n⟩
/-- a thing that changes -/
theorem Ok.set {p : Addr} {o : HO} {u w : SO} (h : Ok K T H) (hp : T p = some w) (q : StO K (up T p u) (upd H p o) p u) : Ok K (up T p u) (upd H p o) := fun a x e => by
  by_cases z : a = p
  · subst z; rw [up_same] at e; cases e; exact q
  · rw [up_ne z] at e
    exact sto_mp (h a x e) (fun x y => by rw [upd_ne z]; exact y) fun _ _ r => RpL.ev h (ev_set hp) r
theorem Wd.set {p : Addr} {o : HO} {u w : SO} (h : Wd K S F H) (hp : S p = some w) (q : StO K (up (cmb S F) p u) (upd H p o) p u) : Wd K (up S p u) F (upd H p o) := by
  refine ⟨fun a => ?_, by rw [cmb_up]; exact h.ok.set (cmb_l hp) q⟩
  by_cases z : a = p
  · subst z
    rcases h.dj a with n | n
    · rw [hp] at n; cases n
    · exact .inr n
  · rw [up_ne z]; exact h.dj a
theorem Wd.setF {p : Addr} {o : HO} {u w : SO} (h : Wd K S F H) (hp : F p = some w) (q : StO K (up (cmb S F) p u) (upd H p o) p u) : Wd K S (up F p u) (upd H p o) := by
  have n : S p = none := by
    rcases h.dj p with n | n
    · exact n
    · rw [hp] at n; cases n
  refine ⟨fun a => ?_, by rw [cmb_upR n]; exact h.ok.set (by rw [cmb_r n]; exact hp) q⟩
  by_cases z : a = p
  · subst z; exact .inl n
  · rw [up_ne z]; exact h.dj a
/-- a thing is forgotten, or changes no more -/
theorem Wd.less {S' F' : Sto} (h : Wd K S F H) (f : ∀ a o, S' a = some o → S a = some o) (g : ∀ a o, F' a = some o → F a = some o) : Wd K S' F' H := by
  have nn : ∀ a, cmb S F a = none → cmb S' F' a = none := fun a e => by
    obtain ⟨e1, e2⟩ := cmb_none e
    refine cmb_of_none ?_ ?_
    · cases z : S' a with
      | none => rfl
      | some o => rw [f a o z] at e1; cases e1
    · cases z : F' a with
      | none => rfl
      | some o => rw [g a o z] at e2; cases e2
  refine ⟨fun a => ?_, fun a o e => ?_⟩
  · rcases h.dj a with n | n
    · cases z : S' a with
      | none => exact .inl rfl
      | some o => rw [f a o z] at n; cases n
    · cases z : F' a with
      | none => exact .inr rfl
      | some o => rw [g a o z] at n; cases n
  · have e' : cmb S F a = some o := by
      cases z : S' a with
      | some u =>
        rw [cmb_l z] at e; cases e
        exact cmb_l (f a _ z)
      | none =>
        rw [cmb_r z] at e
        rcases h.dj a with n | n
        · rw [cmb_r n]; exact g a _ e
        · rw [g a _ e] at n; cases n
    exact sto_mp (h.ok a o e') (fun _ q => q) fun _ _ r => RpL.sub nn r
theorem ev_less {S' F' : Sto} (f : ∀ a o, S' a = some o → S a = some o) (g : ∀ a o, F' a = some o → F a = some o) : Ev (cmb S F) H (cmb S' F') H := fun a u e n => by
  refine ⟨e, ?_⟩
  obtain ⟨e1, e2⟩ := cmb_none n
  refine cmb_of_none ?_ ?_
  · cases z : S' a with
    | none => rfl
    | some o => rw [f a o z] at e1; cases e1
  · cases z : F' a with
    | none => rfl
    | some o => rw [g a o z] at e2; cases e2
end
end Gx

/-! Gx, part 1: readings over data; names, constants, operators, tests. -/
namespace Gx
open PySem PySem.Spec L2

/-- the slots -/
abbrev Tau := List (Option D)
abbrev QD := D → Sto → Prop
abbrev ET := Tau → Sto → QD → Prop
abbrev TT' := Tau → Sto → (Bool → Sto → Prop) → Prop
abbrev AT := Tau → Sto → (List D → Sto → Prop) → Prop

section
variable (K : PySem.W.Frag)
structure RpS (T : Sto) (H : Hp) (τ : Tau) (σ : St) : Prop where
  len : τ.length = σ.length
  at' : ∀ (i : Nat) (d : D), τ[i]? = some (some d) → ∃ v, σ[i]? = some (some v) ∧ Rp K T H d v
/-- what came behind -/
structure AftF (S F : Sto) (H : Hp) (S' F' : Sto) (H' : Hp) : Prop where
  wd : Wd K S' F' H'
  ev : Ev (cmb S F) H (cmb S' F') H'
abbrev Aft (S F : Sto) (H : Hp) (S' : Sto) (H' : Hp) : Prop := AftF K S F H S' F H'
def LE (t : ET) : TE := fun σ H Q => ∃ (τ : Tau) (S F : Sto) (R : QD), Wd K S F H ∧ RpS K (cmb S F) H τ σ ∧ t τ S R ∧
  ∀ d S' v H', R d S' → Aft K S F H S' H' → Rp K (cmb S' F) H' d v → Q v H'
def LT (t : TT') : TT := fun σ H Q => ∃ (τ : Tau) (S F : Sto) (R : Bool → Sto → Prop), Wd K S F H ∧ RpS K (cmb S F) H τ σ ∧ t τ S R ∧
  ∀ b S' H', R b S' → Aft K S F H S' H' → Q b H'
def LA (t : AT) : TA := fun σ H Q => ∃ (τ : Tau) (S F : Sto) (R : List D → Sto → Prop), Wd K S F H ∧ RpS K (cmb S F) H τ σ ∧ t τ S R ∧
  ∀ ds S' vs H', R ds S' → Aft K S F H S' H' → RpL K (cmb S' F) H' ds vs → Q vs H'
/-- an operation of two values -/
abbrev O2 := D → D → Sto → QD → Prop
def L2O (r : O2) : R2 := fun x y H Q => ∃ (d e : D) (S F : Sto) (R : QD), Wd K S F H ∧ Rp K (cmb S F) H d x ∧ Rp K (cmb S F) H e y ∧ r d e S R ∧
  ∀ d S' v H', R d S' → Aft K S F H S' H' → Rp K (cmb S' F) H' d v → Q v H'
abbrev O1 := D → Sto → QD → Prop
def L1O (r : O1) : V → Hp → VK → Prop := fun x H Q => ∃ (d : D) (S F : Sto) (R : QD), Wd K S F H ∧ Rp K (cmb S F) H d x ∧ r d S R ∧
  ∀ d S' v H', R d S' → Aft K S F H S' H' → Rp K (cmb S' F) H' d v → Q v H'
abbrev OL := List D → Sto → QD → Prop
def LLO (r : OL) : List V → Hp → VK → Prop := fun xs H Q => ∃ (ds : List D) (S F : Sto) (R : QD), Wd K S F H ∧ RpL K (cmb S F) H ds xs ∧ r ds S R ∧
  ∀ d S' v H', R d S' → Aft K S F H S' H' → Rp K (cmb S' F) H' d v → Q v H'
end
def GE (X : Cx) (e : Expr) (t : ET) : Prop := PE X e (LE X.K t)
def GT (X : Cx) (e : Expr) (t : TT') : Prop := PT X e (LT X.K t)
def GW (X : Cx) (e : Expr) (t : TT') : Prop := PW X e (LT X.K t)
def GA (X : Cx) (es : List Expr) (t : AT) : Prop := PA X es (LA X.K t)
def G2 (X : Cx) (f : Value → Value → Sem Value) (r : O2) : Prop := OpR X f (L2O X.K r)
def G1 (X : Cx) (f : Value → Sem Value) (r : O1) : Prop := UnR X f (L1O X.K r)
def GC (X : Cx) (f : Value) (r : OL) : Prop := CallR X f (LLO X.K r)

section
variable {K : PySem.W.Frag} {S S' S1 F F' F1 : Sto} {H H' H1 : Hp} {τ : Tau} {σ : St}
theorem Aft.refl (w : Wd K S F H) : Aft K S F H S H := ⟨w, Ev.refl⟩
theorem AftF.trans (a : AftF K S F H S1 F1 H1) (b : AftF K S1 F1 H1 S' F' H') : AftF K S F H S' F' H' := ⟨b.wd, a.ev.trans b.ev⟩
theorem AftF.rp (a : AftF K S F H S' F' H') (w : Wd K S F H) {d : D} {v : V} (r : Rp K (cmb S F) H d v) : Rp K (cmb S' F') H' d v := Rp.ev w.ok a.ev r
theorem AftF.rpl (a : AftF K S F H S' F' H') (w : Wd K S F H) {d : List D} {v : List V} (r : RpL K (cmb S F) H d v) : RpL K (cmb S' F') H' d v := RpL.ev w.ok a.ev r
theorem AftF.rps (a : AftF K S F H S' F' H') (w : Wd K S F H) (r : RpS K (cmb S F) H τ σ) : RpS K (cmb S' F') H' τ σ :=
  ⟨r.len, fun i d e => let ⟨v, h1, h2⟩ := r.at' i d e; ⟨v, h1, a.rp w h2⟩⟩
theorem Aft.new {p : Addr} {o : HO} (w : Wd K S F H) (hp : H p = none) : Aft K S F H S (upd H p o) := ⟨w.new hp, ev_new hp⟩
theorem Aft.newS {p : Addr} {o : HO} {u : SO} (w : Wd K S F H) (hp : H p = none) (q : StO K (up (cmb S F) p u) (upd H p o) p u) : Aft K S F H (up S p u) (upd H p o) :=
  ⟨w.newS hp q, by rw [cmb_up]; exact ev_newS hp⟩
theorem Aft.set {p : Addr} {o : HO} {u x : SO} (w : Wd K S F H) (hp : S p = some x) (q : StO K (up (cmb S F) p u) (upd H p o) p u) : Aft K S F H (up S p u) (upd H p o) :=
  ⟨w.set hp q, by rw [cmb_up]; exact ev_set (cmb_l hp)⟩
theorem RpS.set (r : RpS K (cmb S F) H τ σ) {d : D} {v : V} (i : Nat) (h : Rp K (cmb S F) H d v) : RpS K (cmb S F) H (τ.set i (some d)) (σ.set i (some v)) := by
  refine ⟨by rw [List.length_set, List.length_set]; exact r.len, fun j e q => ?_⟩
  by_cases z : i = j
  · subst z
    rw [List.getElem?_set_self' ] at q
    cases z : τ[i]? with
    | none => rw [z] at q; cases q
    | some y =>
      rw [z] at q
      cases q
      have hi : i < σ.length := by rw [← r.len]; exact (List.getElem?_eq_some_iff.mp z).1
      exact ⟨v, by rw [List.getElem?_set_self hi], h⟩
  · rw [List.getElem?_set_ne z] at q ⊢
    exact r.at' j e q
/-- two readings in a row -/
theorem le_bin {ta tb : ET} {R : D → D → Sto → Prop} {Z : V → V → Hp → Prop} (h : ∃ (τ : Tau) (S F : Sto), Wd K S F H ∧ RpS K (cmb S F) H τ σ ∧ ta τ S (fun d S1 => tb τ S1 fun e S2 => R d e S2) ∧
      ∀ d e S' v u H', R d e S' → Aft K S F H S' H' → Rp K (cmb S' F) H' d v → Rp K (cmb S' F) H' e u → Z v u H') :
    LE K ta σ H fun x H1 => LE K tb σ H1 fun y H2 => Z x y H2 := by
  obtain ⟨τ, S, F, w, r, q, g⟩ := h
  refine ⟨τ, S, F, _, w, r, q, fun d S1 v H1 q1 a1 r1 => ?_⟩
  exact ⟨τ, S1, F, _, a1.wd, a1.rps w r, q1, fun e S2 u H2 q2 a2 r2 => g d e S2 v u H2 q2 (a1.trans a2) (a2.rp a1.wd r1) r2⟩
end

section
variable {X : Cx} {e a b : Expr} {t ta tb : ET} {pos : Pos}
theorem pe_weak {t t' : TE} (h : PE X e t) (w : ∀ σ H Q, t' σ H Q → t σ H Q) : PE X e t' := ⟨fun pins s σ H Q I q => h.run pins s σ H Q I (w σ H Q q)⟩
theorem pt_weak {t t' : TT} (h : PT X e t) (w : ∀ σ H Q, t' σ H Q → t σ H Q) : PT X e t' := ⟨fun pins s σ H Q I q => h.run pins s σ H Q I (w σ H Q q)⟩
theorem pw_weak {t t' : TT} (h : PW X e t) (w : ∀ σ H Q, t' σ H Q → t σ H Q) : PW X e t' := ⟨fun wh pins s σ H Q I q => h.run wh pins s σ H Q I (w σ H Q q)⟩
theorem pa_weak {es : List Expr} {t t' : TA} (h : PA X es t) (w : ∀ σ H Q, t' σ H Q → t σ H Q) : PA X es t' := ⟨fun p pins s σ H Q I q => h.run p pins s σ H Q I (w σ H Q q)⟩
theorem ps_weak {st : Stmt} {t t' : TS} (h : PS X st t) (w : ∀ D σ H, t' D σ H → t D σ H) : PS X st t' := ⟨fun pins s σ H D I q => h.run pins s σ H D I (w D σ H q)⟩
theorem pss_weak {st : List Stmt} {t t' : TS} (h : PSs X st t) (w : ∀ D σ H, t' D σ H → t D σ H) : PSs X st t' := ⟨fun pins s σ H D I q => h.run pins s σ H D I (w D σ H q)⟩
theorem op_weak {f : Value → Value → Sem Value} {r r' : R2} (h : OpR X f r) (w : ∀ x y H Q, r' x y H Q → r x y H Q) : OpR X f r' := fun pins s σ H x y v u Q I rx ry q => h pins s σ H x y v u Q I rx ry (w _ _ _ _ q)

/-! ### names, constants -/
def eVar (i : Nat) : ET := fun τ S Q => match τ[i]? with
  | some (some d) => Q d S
  | _ => False
def eC (d : D) : ET := fun _ S Q => Q d S
theorem g_var (i : Nat) {x : Str} {pos : Pos} (hN : X.N[i]? = some x := by rfl) (hv : Vis X.env.scope x := by first | exact Or.inl rfl | exact Or.inr (Or.inl rfl) | exact Or.inr (Or.inr rfl)) (hd : (x == ("__debug__" : Str)) = false := by decide)
    (hcd : (x == ("__classdict__" : Str)) = false := by decide) : GE X (.Name x pos) (eVar i) := pe_weak (pe_var hN hv hd hcd) fun σ H Q ⟨τ, S, F, R, w, r, q, g⟩ => by
  unfold eVar at q
  split at q
  · rename_i d hq
    obtain ⟨v, h1, h2⟩ := r.at' i d hq
    exact ⟨v, h1, g _ _ _ _ q (Aft.refl w) h2⟩
  · exact q.elim
theorem ge_const {d : D} {v : V} (h : PE X e (tC v)) (hd : ∀ T H, Rp X.K T H d v) : GE X e (eC d) := pe_weak h fun σ H Q ⟨τ, S, F, R, w, r, q, g⟩ => g _ _ _ _ q (Aft.refl w) (hd _ _)
theorem g_int {i j pos} : GE X (.Constant (.int i) j pos) (eC (.int i)) := ge_const pe_int fun _ _ => rfl
theorem g_bl {i j pos} : GE X (.Constant (.bool i) j pos) (eC (.bl i)) := ge_const pe_bl fun _ _ => rfl
theorem g_non {j pos} : GE X (.Constant .none j pos) (eC .non) := ge_const pe_non fun _ _ => rfl
theorem g_glob {x : Str} {d : D} {v : V} {u : Value} {pos : Pos} (hg : Gl X x) (hm : X.mg x = some u) (r : RelV v u) (hd : ∀ T H, Rp X.K T H d v) (h : (x == ("__debug__" : Str)) = false := by decide) : GE X (.Name x pos) (eC d) := ge_const (pe_glob hg hm r h) hd
theorem g_bltn {x : Str} {d : D} {v : V} {u : Value} {pos : Pos} (hg : Gl X x) (hm : X.mg x = none) (hv : bootBuiltins x = some u) (r : RelV v u) (hd : ∀ T H, Rp X.K T H d v) (hn : x ≠ "__name__" := by decide) (h : (x == ("__debug__" : Str)) = false := by decide) :
    GE X (.Name x pos) (eC d) := ge_const (pe_bltn hg hm hv r hn h) hd

/-! ### operators -/
def eBin (r : O2) (ta tb : ET) : ET := fun τ S Q => ta τ S fun d S1 => tb τ S1 fun e S2 => r d e S2 Q
theorem l2_of {r : O2} {σ : St} {H : Hp} {Q : VK} (h : LE X.K (eBin r ta tb) σ H Q) : tOp (L2O X.K r) (LE X.K ta) (LE X.K tb) σ H Q := by
  obtain ⟨τ, S, F, R, w, r, q, g⟩ := h
  refine le_bin ⟨τ, S, F, w, r, q, fun d e S' v u H' q' a' r1 r2 => ?_⟩
  exact ⟨d, e, S', F, R, a'.wd, r1, r2, q', fun d' S2 v' H2 q2 a2 r2 => g _ _ _ _ q2 (a'.trans a2) r2⟩
theorem g_bin {op : Operator} {r : O2} (ho : G2 X (binaryOp op) r) (ha : GE X a ta) (hb : GE X b tb) : GE X (.BinOp a op b pos) (eBin r ta tb) := pe_weak (pe_op ho ha hb) fun σ H Q h => l2_of h
theorem g_cmp {op : CmpOp} {r : O2} (ho : G2 X (compareOp op) r) (ha : GE X a ta) (hb : GE X b tb) (hm : behindInMarks op b = false := by first | exact nomark _ | rfl) : GE X (.Compare a [op] [b] pos) (eBin r ta tb) := pe_weak (pe_cmpR ho ha hb hm) fun σ H Q h => l2_of h
def eUn (r : O1) (ta : ET) : ET := fun τ S Q => ta τ S fun d S1 => r d S1 Q
theorem l1_of {r : O1} {σ : St} {H : Hp} {Q : VK} (h : LE X.K (eUn r ta) σ H Q) : tUn (L1O X.K r) (LE X.K ta) σ H Q := by
  obtain ⟨τ, S, F, R, w, r, q, g⟩ := h
  refine ⟨τ, S, F, _, w, r, q, fun d S1 v H1 q1 a1 r1 => ?_⟩
  exact ⟨d, S1, F, R, a1.wd, r1, q1, fun d' S2 v' H2 q2 a2 r2 => g _ _ _ _ q2 (a1.trans a2) r2⟩
theorem g_un {op : UnaryOp} {r : O1} (ho : G1 X (unaryOp op) r) (ha : GE X a ta) : GE X (.UnaryOp op a pos) (eUn r ta) := pe_weak (pe_un ho ha) fun σ H Q h => l1_of h

/-! ### tests -/
def tBl (t : ET) : TT' := fun τ S Q => t τ S fun d S1 => match d with
  | .bl b => Q b S1
  | _ => False
theorem lt_of {σ : St} {H : Hp} {Q : Bool → Hp → Prop} (h : LT X.K (tBl t) σ H Q) : tB (LE X.K t) σ H Q := by
  obtain ⟨τ, S, F, R, w, r, q, g⟩ := h
  refine ⟨τ, S, F, _, w, r, q, fun d S1 v H1 q1 a1 r1 => ?_⟩
  split at q1
  · exact ⟨_, r1, g _ _ _ q1 a1⟩
  · exact q1.elim
theorem gt_val (h : GE X e t) (he : ∀ whole, isTrue e X.env whole = (do let v ← whole; standAt e.pos; holding [v] (truthy v)) := by intro _; rfl) : GT X e (tBl t) := pt_weak (pt_val h he) fun σ H Q q => lt_of q
theorem gt_cmp {op : CmpOp} {r : O2} (ho : G2 X (compareOp op) r) (ha : GE X a ta) (hb : GE X b tb) (hm : behindInMarks op b = false := by first | exact nomark _ | rfl) : GT X (.Compare a [op] [b] pos) (tBl (eBin r ta tb)) := by
  refine pt_weak (pt_cmpR ho ha hb hm) fun σ H Q h => ?_
  have h' := lt_of h
  obtain ⟨τ, S, F, R, w, r, q, g⟩ := h'
  exact l2_of ⟨τ, S, F, R, w, r, q, g⟩
theorem gw_pt {t : TT'} (h : GW X e t) : GT X e t := PW.pt h
def tAnd' (t u : TT') : TT' := fun τ S Q => t τ S fun c S1 => if c = true then u τ S1 Q else Q false S1
def tOr' (t u : TT') : TT' := fun τ S Q => t τ S fun c S1 => if c = true then Q true S1 else u τ S1 Q
def tNot' (t : TT') : TT' := fun τ S Q => t τ S fun c S1 => Q (!c) S1
variable {tA tB' : TT'} {rest : List Expr}
theorem gw_and1 (ha : GT X a tA) : GW X (.BoolOp .And [a] pos) tA := pw_and1 ha
theorem gw_or1 (ha : GT X a tA) : GW X (.BoolOp .Or [a] pos) tA := pw_or1 ha
theorem gw_and (ha : GT X a tA) (hb : GW X (.BoolOp .And (b :: rest) pos) tB') : GW X (.BoolOp .And (a :: b :: rest) pos) (tAnd' tA tB') := pw_weak (pw_and ha hb) fun σ H Q ⟨τ, S, F, R, w, r, q, g⟩ => by
  refine ⟨τ, S, F, _, w, r, q, fun c S1 H1 q1 a1 => ?_⟩
  cases c with
  | true => exact ⟨τ, S1, F, R, a1.wd, a1.rps w r, q1, fun b S2 H2 q2 a2 => g _ _ _ q2 (a1.trans a2)⟩
  | false => exact g _ _ _ q1 a1
theorem gw_or (ha : GT X a tA) (hb : GW X (.BoolOp .Or (b :: rest) pos) tB') : GW X (.BoolOp .Or (a :: b :: rest) pos) (tOr' tA tB') := pw_weak (pw_or ha hb) fun σ H Q ⟨τ, S, F, R, w, r, q, g⟩ => by
  refine ⟨τ, S, F, _, w, r, q, fun c S1 H1 q1 a1 => ?_⟩
  cases c with
  | false => exact ⟨τ, S1, F, R, a1.wd, a1.rps w r, q1, fun b S2 H2 q2 a2 => g _ _ _ q2 (a1.trans a2)⟩
  | true => exact g _ _ _ q1 a1
theorem gt_not (ha : GT X a tA) : GT X (.UnaryOp .Not a pos) (tNot' tA) := pt_weak (pt_not ha) fun σ H Q ⟨τ, S, F, R, w, r, q, g⟩ =>
  ⟨τ, S, F, _, w, r, q, fun c S1 H1 q1 a1 => g _ _ _ q1 a1⟩
def eAnd (ta tb : ET) : ET := fun τ S Q => ta τ S fun d S1 => match d with
  | .bl b => if b = true then tb τ S1 Q else Q (.bl false) S1
  | _ => False
def eOr (ta tb : ET) : ET := fun τ S Q => ta τ S fun d S1 => match d with
  | .bl b => if b = true then Q (.bl true) S1 else tb τ S1 Q
  | _ => False
def eNot (ta : ET) : ET := fun τ S Q => ta τ S fun d S1 => match d with
  | .bl b => Q (.bl (!b)) S1
  | _ => False
theorem g_one {op} (h : GE X a t) : GE X (.BoolOp op [a] pos) t := pe_one h
theorem g_and (ha : GE X a ta) (hb : GE X (.BoolOp .And (b :: rest) pos) tb) : GE X (.BoolOp .And (a :: b :: rest) pos) (eAnd ta tb) := pe_weak (pe_and ha hb) fun σ H Q ⟨τ, S, F, R, w, r, q, g⟩ => by
  refine ⟨τ, S, F, _, w, r, q, fun d S1 v H1 q1 a1 r1 => ?_⟩
  split at q1
  · rename_i b
    refine ⟨b, r1, ?_⟩
    cases b with
    | true => exact ⟨τ, S1, F, R, a1.wd, a1.rps w r, q1, fun d S2 v H2 q2 a2 r2 => g _ _ _ _ q2 (a1.trans a2) r2⟩
    | false => exact g _ _ _ _ q1 a1 rfl
  · exact q1.elim
theorem g_not (ha : GE X a ta) : GE X (.UnaryOp .Not a pos) (eNot ta) := pe_weak (pe_not ha) fun σ H Q ⟨τ, S, F, R, w, r, q, g⟩ => by
  refine ⟨τ, S, F, _, w, r, q, fun d S1 v H1 q1 a1 r1 => ?_⟩
  split at q1
  · exact ⟨_, r1, g _ _ _ _ q1 a1 rfl⟩
  · exact q1.elim
def eIf (t : TT') (ta tb : ET) : ET := fun τ S Q => t τ S fun c S1 => if c = true then ta τ S1 Q else tb τ S1 Q
theorem g_ifExp {c : Expr} (hc : GT X c tA) (ha : GE X a ta) (hb : GE X b tb) : GE X (.IfExp c a b pos) (eIf tA ta tb) := pe_weak (pe_ifExp hc ha hb) fun σ H Q ⟨τ, S, F, R, w, r, q, g⟩ => by
  refine ⟨τ, S, F, _, w, r, q, fun c S1 H1 q1 a1 => ?_⟩
  cases c with
  | true => exact ⟨τ, S1, F, R, a1.wd, a1.rps w r, q1, fun d S2 v H2 q2 a2 r2 => g _ _ _ _ q2 (a1.trans a2) r2⟩
  | false => exact ⟨τ, S1, F, R, a1.wd, a1.rps w r, q1, fun d S2 v H2 q2 a2 r2 => g _ _ _ _ q2 (a1.trans a2) r2⟩

/-! ### argument lists, displays -/
def aNil : AT := fun _ S Q => Q [] S
def aCons (t : ET) (u : AT) : AT := fun τ S Q => t τ S fun d S1 => u τ S1 fun ds S2 => Q (d :: ds) S2
variable {es : List Expr} {u : AT}
theorem ga_nil : GA X [] aNil := pa_weak pa_nil fun σ H Q ⟨τ, S, F, R, w, r, q, g⟩ => g _ _ _ _ q (Aft.refl w) rfl
theorem ga_cons (ha : GE X e t) (hr : GA X es u) (hs : starEach (e :: es) X.env = (false, eval e X.env) :: starEach es X.env := by rfl) : GA X (e :: es) (aCons t u) := pa_weak (pa_cons ha hr hs) fun σ H Q ⟨τ, S, F, R, w, r, q, g⟩ => by
  refine ⟨τ, S, F, _, w, r, q, fun d S1 v H1 q1 a1 r1 => ?_⟩
  exact ⟨τ, S1, F, _, a1.wd, a1.rps w r, q1, fun ds S2 vs H2 q2 a2 r2 => g _ _ _ _ q2 (a1.trans a2) ⟨v, vs, rfl, a2.rp a1.wd r1, r2⟩⟩
def eTup (u : AT) : ET := fun τ S Q => u τ S fun ds S1 => ds.length ≤ sizeLine ∧ Q (.tup ds) S1
def eLst (u : AT) : ET := fun τ S Q => u τ S fun ds S1 => ds.length ≤ sizeLine ∧ Q (.lst ds) S1
/-- a list that is to change -/
def eLstM (u : AT) : ET := fun τ S Q => u τ S fun ds S1 => ds.length ≤ sizeLine ∧ ∀ p, S1 p = none → Q (.ref p) (up S1 p (.lst ds))
theorem rp_newT {K : PySem.W.Frag} {S F : Sto} {H : Hp} {p : Addr} {ds : List D} {xs : List V} (w : Wd K S F H) (hp : H p = none) (r : RpL K (cmb S F) H ds xs) : Rp K (cmb S F) (upd H p (.tup xs)) (.tup ds) (.ref p) :=
  ⟨p, xs, rfl, SqT.of upd_same, RpL.ev w.ok (ev_new hp) r⟩
theorem rp_newL {K : PySem.W.Frag} {S F : Sto} {H : Hp} {p : Addr} {ds : List D} {xs : List V} (w : Wd K S F H) (hp : H p = none) (r : RpL K (cmb S F) H ds xs) : Rp K (cmb S F) (upd H p (.lst xs)) (.lst ds) (.ref p) :=
  ⟨p, xs, rfl, w.ok.fresh hp, upd_same, RpL.ev w.ok (ev_new hp) r⟩
theorem sto_newL {K : PySem.W.Frag} {S F : Sto} {H : Hp} {p : Addr} {ds : List D} {xs : List V} (w : Wd K S F H) (hp : H p = none) (r : RpL K (cmb S F) H ds xs) : StO K (up (cmb S F) p (.lst ds)) (upd H p (.lst xs)) p (.lst ds) :=
  ⟨xs, upd_same, RpL.ev w.ok (ev_newS hp) r⟩
theorem sto_set {K : PySem.W.Frag} {S F : Sto} {H : Hp} {p : Addr} {x : SO} {ds : List D} {xs : List V} (w : Wd K S F H) (hp : S p = some x) (r : RpL K (cmb S F) H ds xs) : StO K (up (cmb S F) p (.lst ds)) (upd H p (.lst xs)) p (.lst ds) :=
  ⟨xs, upd_same, RpL.ev w.ok (ev_set (cmb_l hp)) r⟩
theorem g_tup {x1} (h : GA X es u) : GE X (.Tuple es x1 pos) (eTup u) := pe_weak (pe_tup h) fun σ H Q ⟨τ, S, F, R, w, r, q, g⟩ => by
  refine ⟨τ, S, F, _, w, r, q, fun ds S1 vs H1 q1 a1 r1 => ⟨by rw [r1.length]; exact q1.1, fun p hp => ?_⟩⟩
  exact g _ _ _ _ q1.2 (a1.trans (Aft.new a1.wd hp)) (rp_newT a1.wd hp r1)
theorem g_lst (h : GA X es u) : GE X (.List es pos) (eLst u) := pe_weak (pe_lst h) fun σ H Q ⟨τ, S, F, R, w, r, q, g⟩ => by
  refine ⟨τ, S, F, _, w, r, q, fun ds S1 vs H1 q1 a1 r1 => ⟨by rw [r1.length]; exact q1.1, fun p hp => ?_⟩⟩
  exact g _ _ _ _ q1.2 (a1.trans (Aft.new a1.wd hp)) (rp_newL a1.wd hp r1)
theorem g_lstM (h : GA X es u) : GE X (.List es pos) (eLstM u) := pe_weak (pe_lst h) fun σ H Q ⟨τ, S, F, R, w, r, q, g⟩ => by
  refine ⟨τ, S, F, _, w, r, q, fun ds S1 vs H1 q1 a1 r1 => ⟨by rw [r1.length]; exact q1.1, fun p hp => ?_⟩⟩
  have n := cmb_none (a1.wd.ok.fresh hp)
  exact g _ _ _ _ (q1.2 p n.1) (a1.trans (Aft.newS a1.wd hp (sto_newL a1.wd hp r1))) rfl

/-! ### calls of built-ins -/
def eCall (r : OL) (u : AT) : ET := fun τ S Q => u τ S fun ds S1 => r ds S1 Q
theorem ll_of {r : OL} {σ : St} {H : Hp} {Q : VK} (h : LE X.K (eCall r u) σ H Q) : tCB (LLO X.K r) (LA X.K u) σ H Q := by
  obtain ⟨τ, S, F, R, w, r, q, g⟩ := h
  exact ⟨τ, S, F, _, w, r, q, fun ds S1 vs H1 q1 a1 r1 => ⟨ds, S1, F, R, a1.wd, r1, q1, fun d S2 v H2 q2 a2 r2 => g _ _ _ _ q2 (a1.trans a2) r2⟩⟩
variable {x : Str} {p : Pos} {id T : String} {r : OL}
theorem g_callB (hc : GC X (.builtin id) r) (hg : Gl X x) (hm : X.mg x = none) (hv : bootBuiltins x = some (.builtin id)) (ha : GA X (e :: es) u) (hn : x ≠ "__name__" := by decide) (hdb : (x == ("__debug__" : Str)) = false := by decide)
    (he : starEach (e :: es) X.env = (false, eval e X.env) :: starEach es X.env := by rfl) (hpl : (backTo pos (starEach es X.env)).any (·.1) = false := by rfl) : GE X (.Call (.Name x p) (e :: es) [] pos) (eCall r u) :=
  pe_weak (pe_callB hc hg hm hv ha hn hdb he hpl) fun σ H Q h => ll_of h
theorem g_callTy (hc : GC X (.type T) r) (hg : Gl X x) (hm : X.mg x = none) (hv : bootBuiltins x = some (.type T)) (ha : GA X (e :: es) u) (hn : x ≠ "__name__" := by decide) (hdb : (x == ("__debug__" : Str)) = false := by decide)
    (he : starEach (e :: es) X.env = (false, eval e X.env) :: starEach es X.env := by rfl) (hpl : (backTo pos (starEach es X.env)).any (·.1) = false := by rfl) : GE X (.Call (.Name x p) (e :: es) [] pos) (eCall r u) :=
  pe_weak (pe_callTy hc hg hm hv ha hn hdb he hpl) fun σ H Q h => ll_of h
theorem g_callBfun (hc : GC X (.builtin id) r) (hg : Gl X x) (hm : X.mg x = some (.builtin id)) (ha : GA X (e :: es) u) (hdb : (x == ("__debug__" : Str)) = false := by decide)
    (he : starEach (e :: es) X.env = (false, eval e X.env) :: starEach es X.env := by rfl) (hpl : (backTo pos (starEach es X.env)).any (·.1) = false := by rfl) : GE X (.Call (.Name x p) (e :: es) [] pos) (eCall r u) :=
  pe_weak (pe_callBfun hc hg hm ha hdb he hpl) fun σ H Q h => ll_of h
end
end Gx

/-! Gx, part 2: statements, targets, loops, comprehensions. -/
namespace Gx
open PySem PySem.Spec L2

structure EndG where
  nx : Tau → Sto → Prop
  rt : QD
  bk : Tau → Sto → Prop := fun _ _ => False
  ct : Tau → Sto → Prop := fun _ _ => False
abbrev ST := EndG → Tau → Sto → Prop
section
variable (K : PySem.W.Frag)
structure LEnds (S F : Sto) (H : Hp) (G : EndG) (D : Ends) : Prop where
  nx : ∀ τ' S' σ' H', G.nx τ' S' → Aft K S F H S' H' → RpS K (cmb S' F) H' τ' σ' → D.nx σ' H'
  rt : ∀ d S' v H', G.rt d S' → Aft K S F H S' H' → Rp K (cmb S' F) H' d v → D.rt v H'
  bk : ∀ τ' S' σ' H', G.bk τ' S' → Aft K S F H S' H' → RpS K (cmb S' F) H' τ' σ' → D.bk σ' H'
  ct : ∀ τ' S' σ' H', G.ct τ' S' → Aft K S F H S' H' → RpS K (cmb S' F) H' τ' σ' → D.ct σ' H'
def LS (t : ST) : TS := fun D σ H => ∃ (τ : Tau) (S F : Sto) (G : EndG), Wd K S F H ∧ RpS K (cmb S F) H τ σ ∧ t G τ S ∧ LEnds K S F H G D
abbrev TG' := D → Tau → Sto → (Tau → Sto → Prop) → Prop
def LG (t : TG') : TG := fun v σ H Q => ∃ (d : D) (τ : Tau) (S F : Sto) (R : Tau → Sto → Prop), Wd K S F H ∧ RpS K (cmb S F) H τ σ ∧ Rp K (cmb S F) H d v ∧ t d τ S R ∧
  ∀ τ' S' σ' H', R τ' S' → Aft K S F H S' H' → RpS K (cmb S' F) H' τ' σ' → Q σ' H'
abbrev TGs' := List D → Tau → Sto → (Tau → Sto → Prop) → Prop
def LGs (t : TGs') : TGs := fun vs σ H Q => ∃ (ds : List D) (τ : Tau) (S F : Sto) (R : Tau → Sto → Prop), Wd K S F H ∧ RpS K (cmb S F) H τ σ ∧ RpL K (cmb S F) H ds vs ∧ t ds τ S R ∧
  ∀ τ' S' σ' H', R τ' S' → Aft K S F H S' H' → RpS K (cmb S' F) H' τ' σ' → Q σ' H'
/-- what a loop walks: its items, while the guard holds -/
structure Srv (J : It) (S F : Sto) (H : Hp) (g : Sto → Prop) (items : List D) : Prop where
  go : ∀ (i : Nat) x S' F' H', items[i]? = some x → AftF K S F H S' F' H' → g S' → J.go i H' ∧ ∀ v H2, J.yld i H' v H2 → Aft K S' F' H' S' H2 ∧ Rp K (cmb S' F') H2 x v
  stop : ∀ S' F' H', AftF K S F H S' F' H' → g S' → J.stop items.length H'
abbrev IT' := Tau → Sto → (List D → (Sto → Prop) → Sto → Prop) → Prop
def LI (t : IT') : TI := fun σ H R => ∃ (τ : Tau) (S F : Sto) (Z : List D → (Sto → Prop) → Sto → Prop), Wd K S F H ∧ RpS K (cmb S F) H τ σ ∧ t τ S Z ∧
  ∀ items g S' J H', Z items g S' → Aft K S F H S' H' → Srv K J S' F H' g items → R J H'
end
def GS (X : Cx) (st : Stmt) (t : ST) : Prop := PS X st (LS X.K t)
def GSs (X : Cx) (st : List Stmt) (t : ST) : Prop := PSs X st (LS X.K t)
def GG (X : Cx) (e : Expr) (t : TG') : Prop := PG X e (LG X.K t)
def GGs (X : Cx) (es : List Expr) (t : TGs') : Prop := PGs X es (LGs X.K t)
def GI (X : Cx) (tg iter : Expr) (t : IT') : Prop := PI X tg iter (LI X.K t)

section
variable {K : PySem.W.Frag} {S S' S1 F : Sto} {H H' H1 : Hp} {τ : Tau} {σ : St} {G : EndG} {D : Ends}
theorem LEnds.after (h : LEnds K S F H G D) (a : Aft K S F H S1 H1) : LEnds K S1 F H1 G D where
  nx := fun τ' S' σ' H' q a' r => h.nx τ' S' σ' H' q (a.trans a') r
  rt := fun d S' v H' q a' r => h.rt d S' v H' q (a.trans a') r
  bk := fun τ' S' σ' H' q a' r => h.bk τ' S' σ' H' q (a.trans a') r
  ct := fun τ' S' σ' H' q a' r => h.ct τ' S' σ' H' q (a.trans a') r
end
section
variable {X : Cx} {e : Expr} {te : ET} {t u : ST} {pos : Pos} {st : Stmt} {rest : List Stmt} {g : TG'} {gs : TGs'}
/-! ### statements -/
def sNext : ST := fun G τ S => G.nx τ S
def sSeq (t u : ST) : ST := fun G τ S => t { G with nx := u G } τ S
theorem gss_nil : GSs X [] sNext := pss_weak pss_nil fun D σ H ⟨τ, S, F, G, w, r, q, l⟩ => l.nx _ _ _ _ q (Aft.refl w) r
theorem gss_cons (h1 : GS X st t) (h2 : GSs X rest u) : GSs X (st :: rest) (sSeq t u) := pss_weak (pss_cons h1 h2) fun D σ H ⟨τ, S, F, G, w, r, q, l⟩ => by
  refine ⟨τ, S, F, _, w, r, q, ⟨fun τ' S' σ' H' q' a' r' => ?_, l.rt, l.bk, l.ct⟩⟩
  exact ⟨τ', S', F, G, a'.wd, r', q', l.after a'⟩
theorem gss_one (h1 : GS X st t) : GSs X [st] t := pss_one h1
def sBreak : ST := fun G τ S => G.bk τ S
def sCont : ST := fun G τ S => G.ct τ S
theorem gs_break : GS X (.Break pos) sBreak := ps_weak ps_break fun D σ H ⟨τ, S, F, G, w, r, q, l⟩ => l.bk _ _ _ _ q (Aft.refl w) r
def sDrop (te : ET) : ST := fun G τ S => te τ S fun _ S1 => G.nx τ S1
theorem gs_expr (he : GE X e te) (hs : swapsWith e none pos.line X.env = pure false := by rfl) : GS X (.Expr e pos) (sDrop te) := ps_weak (ps_expr he hs) fun D σ H ⟨τ, S, F, G, w, r, q, l⟩ =>
  ⟨τ, S, F, _, w, r, q, fun d S' v H' q' a' r' => l.nx _ _ _ _ q' a' (a'.rps w r)⟩
def sRet (te : ET) : ST := fun G τ S => te τ S G.rt
theorem gs_ret (he : GE X e te) : GS X (.Return (some e) pos) (sRet te) := ps_weak (ps_ret he) fun D σ H ⟨τ, S, F, G, w, r, q, l⟩ =>
  ⟨τ, S, F, _, w, r, q, fun d S' v H' q' a' r' => l.rt _ _ _ _ q' a' r'⟩
def sRetN : ST := fun G _ S => G.rt .non S
def sIf (c : TT') (t u : ST) : ST := fun G τ S => c τ S fun b S1 => if b = true then t G τ S1 else u G τ S1
theorem gs_if {c : Expr} {a b : List Stmt} {tc : TT'} (hc : GT X c tc) (ha : GSs X a t) (hb : GSs X b u) : GS X (.If c a b pos) (sIf tc t u) := ps_weak (ps_if hc ha hb) fun D σ H ⟨τ, S, F, G, w, r, q, l⟩ => by
  refine ⟨τ, S, F, _, w, r, q, fun b S1 H1 q1 a1 => ?_⟩
  cases b with
  | true => exact ⟨τ, S1, F, G, a1.wd, a1.rps w r, q1, l.after a1⟩
  | false => exact ⟨τ, S1, F, G, a1.wd, a1.rps w r, q1, l.after a1⟩
def sNever : ST := fun _ _ _ => False
theorem gs_never : GS X st sNever := ps_weak ps_never fun D σ H ⟨τ, S, F, G, w, r, q, l⟩ => q.elim

/-! ### targets -/
def gNm (i : Nat) : TG' := fun d τ S Q => Q (τ.set i (some d)) S
theorem gg_name (i : Nat) {x : Str} (hN : X.N.Nodup) (hi : X.N[i]? = some x := by rfl) (hx : Loc X.env.scope x := by first | exact Or.inl rfl | exact Or.inr rfl) (hf : X.fn x = true ∨ X.env.scope.names.lookup x = some .local := by first | exact .inl rfl | exact .inr rfl | assumption) : GG X (.Name x pos) (gNm i) :=
  ⟨fun pins s σ H v u Q I r h => (pg_name hN hi hx hf).run pins s σ H v u Q I r (by
    obtain ⟨d, τ, S, F, R, w, rs, rd, q, l⟩ := h
    exact l _ _ _ _ q (Aft.refl w) (rs.set i rd))⟩
def gsNil : TGs' := fun ds τ S Q => match ds with
  | [] => Q τ S
  | _ => False
def gsCons (t : TG') (u : TGs') : TGs' := fun ds τ S Q => match ds with
  | d :: ds => t d τ S fun τ' S' => u ds τ' S' Q
  | _ => False
theorem ggs_nil : GGs X [] gsNil := ⟨fun pins s σ H vs us Q I r h => (pgs_nil).run pins s σ H vs us Q I r (by
    obtain ⟨ds, τ, S, F, R, w, rs, rd, q, l⟩ := h
    cases ds with
    | nil => exact ⟨rd, l _ _ _ _ q (Aft.refl w) rs⟩
    | cons _ _ => exact q.elim)⟩
theorem ggs_cons {es : List Expr} (h1 : GG X e g) (h2 : GGs X es gs) (hs : (assignEach (e :: es) X.env).map (·.2) = assign e X.env :: (assignEach es X.env).map (·.2) := by rfl) : GGs X (e :: es) (gsCons g gs) :=
  ⟨fun pins s σ H vs us Q I r h => (pgs_cons h1 h2 hs).run pins s σ H vs us Q I r (by
    obtain ⟨ds, τ, S, F, R, w, rs, rd, q, l⟩ := h
    cases ds with
    | nil => exact q.elim
    | cons d ds =>
      obtain ⟨v, vr, rfl, r1, r2⟩ := rd
      refine ⟨v, vr, rfl, d, τ, S, F, _, w, rs, r1, q, fun τ' S' σ' H' q' a' r' => ?_⟩
      exact ⟨ds, τ', S', F, R, a'.wd, r', a'.rpl w r2, q', fun τ2 S2 σ2 H2 q2 a2 r2 => l _ _ _ _ q2 (a'.trans a2) r2⟩)⟩
/-- a tuple is unpacked -/
def gTupl (n : Nat) (gs : TGs') : TG' := fun d τ S Q => match d with
  | .tup ds => ds.length = n ∧ gs ds τ S Q
  | _ => False
theorem gg_tup {es : List Expr} {k : Nat} {n : Nat} (hc : X.calm = true) (h : GGs X es gs) (hn : (assignEach es X.env).length = n := by rfl) (hst : (assignEach es X.env).findIdx? (·.1) = none := by rfl) : GG X (.Tuple es k pos) (gTupl n gs) :=
  ⟨fun pins s σ H v u Q I r h' => (pg_tup hc h hn hst).run pins s σ H v u Q I r (by
    obtain ⟨d, τ, S, F, R, w, rs, rd, q, l⟩ := h'
    unfold gTupl at q
    split at q
    · rename_i ds
      obtain ⟨a, xs, rfl, hs, rl⟩ := rd
      exact ⟨a, xs, rfl, hs, rl.length.trans q.1, ds, τ, S, F, R, w, rs, rl, q.2, l⟩
    · exact q.elim)⟩
/-- o[i] = v -/
abbrev OSet := D → D → D → Sto → (Sto → Prop) → Prop
def LSet (K : PySem.W.Frag) (t : OSet) : TSet := fun o i v H Q => ∃ (d e f : D) (S F : Sto) (R : Sto → Prop), Wd K S F H ∧ Rp K (cmb S F) H d o ∧ Rp K (cmb S F) H e i ∧ Rp K (cmb S F) H f v ∧ t d e f S R ∧
  ∀ S' H', R S' → Aft K S F H S' H' → Q H'
def GSet (X : Cx) (t : OSet) : Prop := PSet X (LSet X.K t)
def gSubs (to ti : ET) (t : OSet) : TG' := fun f τ S Q => to τ S fun d S1 => ti τ S1 fun e S2 => t d e f S2 fun S3 => Q τ S3
theorem gg_sub {o i : Expr} {to ti : ET} {t : OSet} (ho : GE X o to) (hi : GE X i ti) (hs : GSet X t)
    (ha : ∀ v, assign (.Subscript o i pos) X.env v = (do let ov ← holding [v] (eval o X.env); let iv ← holding [v, ov] (eval i X.env); standAt pos; holding [v, ov, iv] (setItem ov iv v); release [v, ov, iv] []) := by intro _; rfl) : GG X (.Subscript o i pos) (gSubs to ti t) :=
  ⟨fun pins s σ H v u Q I r h' => (pg_sub ho hi hs ha).run pins s σ H v u Q I r (by
    obtain ⟨f, τ, S, F, R, w, rs, rd, q, l⟩ := h'
    refine ⟨τ, S, F, _, w, rs, q, fun d S1 v1 H1 q1 a1 r1 => ?_⟩
    refine ⟨τ, S1, F, _, a1.wd, a1.rps w rs, q1, fun e S2 v2 H2 q2 a2 r2 => ?_⟩
    refine ⟨d, e, f, S2, F, _, a2.wd, a2.rp a1.wd r1, r2, a2.rp a1.wd (a1.rp w rd), q2, fun S3 H3 q3 a3 => ?_⟩
    exact l _ _ _ _ q3 ((a1.trans a2).trans a3) (((a1.trans a2).trans a3).rps w rs))⟩

/-! ### assignments -/
def sAsg (te : ET) (g : TG') : ST := fun G τ S => te τ S fun d S1 => g d τ S1 G.nx
theorem asg_of {D : Ends} {σ : St} {H : Hp} (h : LS X.K (sAsg te g) D σ H) : tAsg (LE X.K te) (LG X.K g) D σ H := by
  obtain ⟨τ, S, F, G, w, r, q, l⟩ := h
  refine ⟨τ, S, F, _, w, r, q, fun d S1 v H1 q1 a1 r1 => ?_⟩
  exact ⟨d, τ, S1, F, _, a1.wd, a1.rps w r, r1, q1, fun τ' S' σ' H' q' a' r' => l.nx _ _ _ _ q' (a1.trans a') r'⟩
theorem gs_asg {tg : Expr} (he : GE X e te) (hg : GG X tg g) (hs : swapsWithSole [tg] e pos.line X.env = pure false := by rfl) (hw : swappedStores [tg] e X.env = pure none := by rfl)
    (h1 : (assignEach [tg] X.env).map (·.2) = [assign tg X.env] := by rfl) : GS X (.Assign [tg] e pos) (sAsg te g) := ps_weak (ps_asg he hg hs hw h1) fun D σ H h => asg_of h
theorem gs_set (i : Nat) {x : Str} {pos' : Pos} (hN : X.N.Nodup) (he : GE X e te) (hi : X.N[i]? = some x := by rfl) (hx : Loc X.env.scope x := by first | exact Or.inl rfl | exact Or.inr rfl) (hs : swapsWith e (some (.Name x pos')) pos.line X.env = pure false := by rfl)
    (hf : X.fn x = true ∨ X.env.scope.names.lookup x = some .local := by first | exact .inl rfl | exact .inr rfl | assumption) : GS X (.Assign [.Name x pos'] e pos) (sAsg te (gNm i)) :=
  ps_weak (ps_set hN hi hx he hs hf) fun D σ H ⟨τ, S, F, G, w, r, q, l⟩ =>
    ⟨τ, S, F, _, w, r, q, fun d S1 v H1 q1 a1 r1 => l.nx _ _ _ _ q1 a1 ((a1.rps w r).set i r1)⟩
def sPar (i j : Nat) (u : AT) : ST := fun G τ S => u τ S fun ds S1 => match ds with
  | [d, e] => G.nx ((τ.set i (some d)).set j (some e)) S1
  | _ => False
theorem gs_par (i j : Nat) {x y : Str} {a b : Expr} {u : AT} {px py pt : Pos} {kt k2 pt2} (hc : X.calm = true) (hN : X.N.Nodup) (ha : GA X [a, b] u) (hi : X.N[i]? = some x := by rfl) (hj : X.N[j]? = some y := by rfl) (hij : i ≠ j := by decide)
    (hx : X.env.scope.names.lookup x = some .local := by rfl) (hy : X.env.scope.names.lookup y = some .local := by rfl)
    (hw : swappedStores [.Tuple [.Name x px, .Name y py] kt pt] (.Tuple [a, b] k2 pt2) X.env = pure (some [x, y]) := by rfl)
    (hs : swapsWithSole [.Tuple [.Name x px, .Name y py] kt pt] (.Tuple [a, b] k2 pt2) pos.line X.env = pure false := by rfl) : GS X (.Assign [.Tuple [.Name x px, .Name y py] kt pt] (.Tuple [a, b] k2 pt2) pos) (sPar i j u) :=
  ps_weak (ps_par hc hN hi hj hij hx hy ha hw hs) fun D σ H ⟨τ, S, F, G, w, r, q, l⟩ => by
    refine ⟨τ, S, F, _, w, r, q, fun ds S1 vs H1 q1 a1 r1 => ?_⟩
    split at q1
    · obtain ⟨v, vr, rfl, rv, z, vr2, rfl, rz, rfl⟩ := r1
      exact ⟨v, z, rfl, l.nx _ _ _ _ q1 a1 (((a1.rps w r).set i rv).set j rz)⟩
    · exact q1.elim
def sPar3 (i j k : Nat) (u : AT) : ST := fun G τ S => u τ S fun ds S1 => match ds with
  | [d, e, f] => G.nx (((τ.set i (some d)).set j (some e)).set k (some f)) S1
  | _ => False
/-! ### loops -/
def forG (g : TG') (tb : ST) (gd : Sto → Prop) : List D → ST
  | [] => fun G τ S => gd S ∧ G.nx τ S
  | x :: xs => fun G τ S => gd S ∧ g x τ S fun τ1 S1 => tb { G with nx := forG g tb gd xs G, ct := forG g tb gd xs G, bk := G.nx } τ1 S1
def sFor (ti : IT') (g : TG') (tb : ST) : ST := fun G τ S => ti τ S fun items gd S1 => forG g tb gd items G τ S1
theorem gs_for {tg iter : Expr} {body : List Stmt} {ti : IT'} {tb : ST} (hp : PassesOwn (model X.prog X.w) X.A X.env X.xe) (hc : X.calm = true) (hi : GI X tg iter ti) (hg : GG X tg g) (hb : GSs X body tb)
    (hs : ∀ x, foldedSetIterable iter X.env x = pure x := by intro _; rfl) : GS X (.For tg iter body [] pos) (sFor ti g tb) := ps_weak (ps_for hp hc hi hg hb hs) fun D σ H ⟨τ, S, F, G, w, r, q, l⟩ => by
  refine ⟨τ, S, F, _, w, r, q, fun items gd S1 J H1 q1 a1 sv => ?_⟩
  refine ⟨fun i m σ' H' => ∃ τ' S', m = items.length - i ∧ i ≤ items.length ∧ Aft X.K S1 F H1 S' H' ∧ RpS X.K (cmb S' F) H' τ' σ' ∧ forG g tb gd (items.drop i) G τ' S', ⟨_, τ, S1, rfl, Nat.zero_le _, Aft.refl a1.wd, a1.rps w r, by simpa using q1⟩, ?_⟩
  rintro i m σ' H' ⟨τ', S', rfl, hi, a', r', q'⟩
  by_cases hlt : i < items.length
  · rw [List.drop_eq_getElem_cons hlt] at q'
    obtain ⟨gd', q'⟩ := q'
    obtain ⟨g1, g2⟩ := sv.go i _ S' F H' (List.getElem?_eq_getElem hlt) a' gd'
    refine .inr ⟨g1, fun σ2 H2 => ∃ τ2 S2, Aft X.K S1 F H1 S2 H2 ∧ RpS X.K (cmb S2 F) H2 τ2 σ2 ∧ forG g tb gd (items.drop (i + 1)) G τ2 S2, fun σ2 H2 ⟨τ2, S2, a2, r2, q2⟩ => ⟨_, by omega, τ2, S2, rfl, hlt, a2, r2, q2⟩, fun v H2 y => ?_⟩
    obtain ⟨a2, rv⟩ := g2 v H2 y
    refine ⟨items[i], τ', S', F, _, a2.wd, a2.rps a'.wd r', rv, q', fun τ3 S3 σ3 H3 q3 a3 r3 => ?_⟩
    refine ⟨τ3, S3, F, _, a3.wd, r3, q3, ⟨fun τ4 S4 σ4 H4 q4 a4 r4 => ⟨τ4, S4, ((a'.trans a2).trans a3).trans a4, r4, q4⟩, fun d S4 v4 H4 q4 a4 r4 => ?_, fun τ4 S4 σ4 H4 q4 a4 r4 => ?_, fun τ4 S4 σ4 H4 q4 a4 r4 => ⟨τ4, S4, ((a'.trans a2).trans a3).trans a4, r4, q4⟩⟩⟩
    · exact l.rt _ _ _ _ q4 (a1.trans (((a'.trans a2).trans a3).trans a4)) r4
    · exact l.nx _ _ _ _ q4 (a1.trans (((a'.trans a2).trans a3).trans a4)) r4
  · have e : i = items.length := by omega
    subst e
    rw [List.drop_length] at q'
    obtain ⟨gd', q'⟩ := q'
    exact .inl ⟨sv.stop S' F H' a' gd', l.nx _ _ _ _ q' (a1.trans a') r'⟩

def whG (c : TT') (tb : ST) : Nat → ST
  | 0 => fun _ _ _ => False
  | n + 1 => fun G τ S => c τ S fun b S1 => if b = true then tb { G with nx := whG c tb n G, ct := whG c tb n G, bk := G.nx } τ S1 else G.nx τ S1
def sWh (c : TT') (tb : ST) : ST := fun G τ S => ∃ n, whG c tb n G τ S
theorem gs_while {c : Expr} {body : List Stmt} {tc : TT'} {tb : ST} (hp : PassesOwn (model X.prog X.w) X.A X.env X.xe) (hc : GT X c tc) (hb : GSs X body tb) : GS X (.While c body [] pos) (sWh tc tb) := ps_weak (ps_while hp hc hb) fun D σ H ⟨τ, S, F, G, w, r, ⟨n, q⟩, l⟩ => by
  refine ⟨fun m σ' H' => ∃ τ' S', Aft X.K S F H S' H' ∧ RpS X.K (cmb S' F) H' τ' σ' ∧ whG tc tb m G τ' S', ⟨n, τ, S, Aft.refl w, r, q⟩, ?_⟩
  rintro m σ' H' ⟨τ', S', a', r', q'⟩
  cases m with
  | zero => exact q'.elim
  | succ m =>
    refine ⟨τ', S', F, _, a'.wd, r', q', fun b S1 H1 q1 a1 => ?_⟩
    cases b with
    | false => exact l.nx _ _ _ _ q1 (a'.trans a1) (a1.rps a'.wd r')
    | true =>
      refine ⟨fun σ2 H2 => ∃ τ2 S2, Aft X.K S F H S2 H2 ∧ RpS X.K (cmb S2 F) H2 τ2 σ2 ∧ whG tc tb m G τ2 S2, fun σ2 H2 z => ⟨m, Nat.lt_succ_self _, z⟩, ?_⟩
      refine ⟨τ', S1, F, _, a1.wd, a1.rps a'.wd r', q1, ⟨fun τ4 S4 σ4 H4 q4 a4 r4 => ⟨τ4, S4, (a'.trans a1).trans a4, r4, q4⟩, fun d S4 v4 H4 q4 a4 r4 => ?_, fun τ4 S4 σ4 H4 q4 a4 r4 => ?_, fun τ4 S4 σ4 H4 q4 a4 r4 => ⟨τ4, S4, (a'.trans a1).trans a4, r4, q4⟩⟩⟩
      · exact l.rt _ _ _ _ q4 ((a'.trans a1).trans a4) r4
      · exact l.nx _ _ _ _ q4 ((a'.trans a1).trans a4) r4
end
end Gx

/-! Gx, part 3: what loops walk. -/
namespace Gx
open PySem PySem.Spec PyProof.Rows L2

/-! ### enumerate over a tuple -/
def IteT (K : PySem.W.Frag) (a : Addr) : It :=
  ⟨fun i H => ∃ (xs : List V) (x : V), SqT K H a xs ∧ xs[i]? = some x, fun i H v H' => ∃ T x, v = .ref T ∧ H T = none ∧ H' = upd H T (.tup [.int (i : Nat), x]) ∧ ∀ xs, SqT K H a xs → xs[i]? = some x, fun i H => ∃ xs : List V, SqT K H a xs ∧ xs.length = i⟩
theorem turn_enumT {P : Program} {w : World} {K : PySem.W.Frag} {elts : List Expr} {kk : Nat} {tpos : Pos} (a e it : Addr) :
    Turn P w K (.Tuple elts kk tpos) (IteT K a) [e, it] e (fun i h => (∃ old, IsEnum h e it ((i : Nat) : Int) old) ∧ h.IsTupleIter it a i ∧ e ≠ it ∧ a ≠ it ∧ e ≠ a) where
  mem := List.mem_cons_self
  obj := fun i h ⟨⟨old, he⟩, ⟨o, ho, hc, hd⟩, _⟩ b hb => by
    rcases List.mem_cons.mp hb with rfl | hb
    · exact ⟨_, he, fun v q => nomatch q⟩
    · rw [List.mem_singleton.mp hb]; exact ⟨o, ho, fun v q => by rw [hd] at q; cases q⟩
  keep := fun i h h' st k => let ⟨⟨old, he⟩, hi, hne⟩ := st; ⟨⟨old, k e List.mem_cons_self _ he⟩, hi.at fun o q => k it (by simp) o q, hne⟩
  item := by
    intro X hP hw hK hc i pins s σ H E I hf st hg
    subst hP hw hK
    obtain ⟨⟨old, he⟩, hit, hne, hai, hea⟩ := st
    obtain ⟨xs, x, hq, hx⟩ := hg
    obtain ⟨its, rv, p, hz⟩ := I.tuple hq
    obtain ⟨u, hu, ru⟩ := rv.get hx
    have hel : e < s.heap.objs.size := Heap.lt_size he
    have hil : it < s.heap.objs.size := by obtain ⟨_, q, _⟩ := hit; exact Heap.lt_size q
    have hlt : i < its.toArray.size := by rw [List.size_toArray]; exact (List.getElem?_eq_some_iff.mp hu).1
    have Dw := Draws.tuple (prog := X.prog) (w := X.w) (A := X.A.in1) (I.ok.hd hc) it a hai its.toArray
    refine wpAny_pyNext_enum_itemC Dw he ⟨hit, p⟩ hlt hne (by simp [hne, hea]) fun u' h' tk hu' ho hst' hT hsz hk => ?_
    have eu : u' = u := by rw [List.getElem?_toArray, hu] at hu'; exact (Option.some.inj hu').symm
    subst eu
    refine ⟨_, rfl, wpAny_letOwnedTupleGo_enum (s := { s with heap := h', toks := tk + 1 }) ho fun h'' he' sb => ?_⟩
    have hT2 : h''.get? s.heap.objs.size = some { cls := .type "tuple", data := .seq #[.int i tk, u'] } := (sb.2 _ (Nat.ne_of_gt hel)).trans hT
    have new : ObjOk X.prog X.w (upd H s.heap.objs.size (.tup [.int (i : Nat), x])) h'' s.heap.objs.size (.tup [.int (i : Nat), x]) :=
      ⟨by show 2 ≤ sizeLine; decide, [.int i tk, u'], .cons ⟨_, rfl⟩ (.cons ru .nil), ⟨_, hT2, rfl, _, rfl⟩⟩
    have I1 : Inv X pins σ (upd H s.heap.objs.size (.tup [.int (i : Nat), x])) { s with heap := h'', toks := tk + 1 } :=
      I.turnedNew (t' := tk + 1) (ch := [e, it]) (fun b ob hb q => (sb.2 b (fun z => hb (by simp [z]))).trans (hk b ob (fun z => hb (by simp [z])) (fun z => hb (by simp [z])) q)) hf (Nat.le_refl _) new
    refine ⟨.ref s.heap.objs.size, _, I1, rfl, ⟨_, x, rfl, I.hok.fresh (Nat.le_refl _), rfl, fun ys hy => by rw [I.tuple_inj hy hq]; exact hx⟩, ⟨⟨u', ?_⟩, hst'.1.at fun o q => (sb.2 it (Ne.symm hne)).trans q, hne, hai, hea⟩, fun b hb => ?_⟩
    · rw [show ((i + 1 : Nat) : Int) = (i : Int) + 1 from by omega]; exact he'
    · have hb' : b < s.heap.objs.size := by
        rcases List.mem_cons.mp hb with rfl | hb
        · exact hel
        · rw [List.mem_singleton.mp hb]; exact hil
      rw [upd_ne (Nat.ne_of_lt hb')]
      exact (hf b hb).1
  done := by
    intro X hP hw hK hc i pins s σ H E I hf st hg
    subst hP hw hK
    obtain ⟨⟨old, he⟩, hit, hne, hai, hea⟩ := st
    obtain ⟨xs, hq, hx⟩ := hg
    obtain ⟨its, rv, p, hz⟩ := I.tuple hq
    obtain ⟨f0, f1, f2, f3, f4, f5⟩ := hf it (by simp)
    have hl : i = its.toArray.size := by rw [List.size_toArray, ← rv.length, hx]
    subst hl
    exact wpAny_pyNext_enum_endD (Draws.tuple (prog := X.prog) (w := X.w) (A := X.A.in1) (I.ok.hd hc) it a hai its.toArray) he ⟨hit, p⟩ fun h' eb => ⟨rfl, I.turned (t' := s.toks) (fun b o hb q => eb b o hb q) f0 f1 f3 f4 f5⟩
  self := fun A i s Q E st h => let ⟨⟨_, he⟩, _⟩ := st; wpAny_pyIter_enum he h
theorem meets_enum1 {v : Value} {o : Obj} {G : Heap → Prop} (B : Begins v o G) :
    Meets (Builtin.«enumerate.__new__» ⟨[.type "enumerate", v], []⟩) (fun _ R s => G s.heap ∧
      R (.ok (.ret (.ref (s.heap.push o).objs.size))) { s with heap := (s.heap.push o).push { cls := .type "enumerate", data := .fields #[.none, .bool false, .ref s.heap.objs.size, rawInt 0, .none, .none] } }) :=
  .of_wp fun prog w A R s h => by
    obtain ⟨hp, g, d, tk, os⟩ := s
    obtain ⟨h1, h⟩ := h
    have hsub := sub_enumerate
    have q1 : ∀ {A' : Around} {E : Value → Shared → Prop} {Q : Value → Shared → Prop}, Q (.ref hp.objs.size) ⟨hp.push o, g, d, tk, os⟩ → wpAny (model prog w) A' (pyIter v) Q E ⟨hp, g, d, tk, os⟩ :=
      fun q => B.iter prog w _ _ ⟨hp, g, d, tk, os⟩ _ h1 q
    wp_walk using q1
    refine wpAny_stack_any fun st => wpAny_pure ?_
    split
    · rename_i c _ _ _ _ _
      cases (c == Value.type "enumerate") <;> (wp_walk using q1; exact ⟨_, rfl, h⟩)
    · (wp_walk using q1; exact ⟨_, rfl, h⟩)
theorem enum_begins1 {prog : Program} {w : World} {A : Around} {E : Value → Shared → Prop} {s : Shared} {v : Value} {o : Obj} {G : Heap → Prop} {Q : Value → Shared → Prop} (B : Begins v o G) (h1 : G s.heap)
    (h : ∀ h', IsEnum h' (s.heap.objs.size + 1) s.heap.objs.size 0 .none → h'.get? s.heap.objs.size = some o → h'.objs.size = s.heap.objs.size + 2 → (∀ b o, s.heap.get? b = some o → h'.get? b = some o) → Q (.ref (s.heap.objs.size + 1)) { s with heap := h' }) :
    wpAny (model prog w) A (call (.type "enumerate") [v]) Q E s := by
  refine callType_new F.called_enumerate (by decide) (F.typeCall_enumerate_1 _) (F.newCall_enumerate_1 _) (fun obj => F.args_object_init_2 obj _) F.entry_enumerate_new (meets_enum1 B) ⟨h1, ?_⟩
  have hz : (s.heap.push o).objs.size = s.heap.objs.size + 1 := Heap.size_push ..
  show _ ∧ _
  rw [hz]
  have he : IsEnum ((s.heap.push o).push { cls := .type "enumerate", data := .fields #[.none, .bool false, .ref s.heap.objs.size, rawInt 0, .none, .none] }) (s.heap.objs.size + 1) s.heap.objs.size 0 .none := by
    have e := Heap.get?_push_size (s.heap.push o) (o := { cls := .type "enumerate", data := .fields #[.none, .bool false, .ref s.heap.objs.size, rawInt 0, .none, .none] }) rfl
    rw [hz] at e; exact e
  exact ⟨⟨_, he, rfl⟩, h _ he (Heap.get?_push_of_some _ (Heap.get?_push_size _ B.free)) (by rw [Heap.size_push, hz]) fun b o x => Heap.get?_push_of_some _ (Heap.get?_push_of_some _ x)⟩
def iEnumT (K : PySem.W.Frag) (ta : TA) : TI := fun σ H R => ta σ H fun vs H1 => ∃ a xs, vs = [.ref a] ∧ ((SqL K H1 a xs ∧ R (Ite K a) H1) ∨ (SqT K H1 a xs ∧ R (IteT K a) H1))
theorem pi_enumT {X : Cx} {e : Expr} {ta : TA} {p pos tpos : Pos} {elts : List Expr} {kk : Nat} (hg : Gl X "enumerate") (hm : X.mg "enumerate" = none) (ha : PA X [e] ta) (hs : starEach [e] X.env = [(false, eval e X.env)] := by rfl) :
    PI X (.Tuple elts kk tpos) (.Call (.Name "enumerate" p) [e] [] pos) (iEnumT X.K ta) := by
  refine ⟨fun pins s σ H R I h => ?_⟩
  refine Call_ (ld_blt I hg hm boot_enumerate (PyProof.Rows.callWith_type1 (thn (ha.run pos pins s σ H _ I h) fun us s1 ⟨vs, H1, I1, r1, q1⟩ => ?_) hs rfl))
  obtain ⟨a, xs, rfl, q1⟩ := q1
  cases r1 with
  | cons r rr =>
    cases rr
    cases r
    have fresh2 : ∀ c ∈ [s1.heap.objs.size + 1, s1.heap.objs.size], FpOk X pins H1 c := fun c hcm => by
      have hle : s1.heap.objs.size ≤ c := by
        rcases List.mem_cons.mp hcm with rfl | hcm
        · exact Nat.le_succ _
        · rw [List.mem_singleton.mp hcm]; exact Nat.le_refl _
      exact I1.fpOk hle (I1.hok.fresh hle)
    rcases q1 with ⟨hq, q⟩ | ⟨hq, q⟩
    · obtain ⟨its, rv, p', hz⟩ := I1.list hq
      refine call_enumerate_list p'.isList fun h' he hit hsz hk => wpAny_pyIter_enum he ?_
      exact ⟨s1.heap.objs.size + 1, [s1.heap.objs.size + 1, s1.heap.objs.size], _, _, H1, rfl, I1.kept (t' := s1.toks) hk, turn_enum a (s1.heap.objs.size + 1) s1.heap.objs.size, ⟨⟨.none, he⟩, hit, Nat.succ_ne_self _⟩, fresh2, q⟩
    · obtain ⟨its, rv, p', hz⟩ := I1.tuple hq
      have hal : a < s1.heap.objs.size := by obtain ⟨o, ho, _⟩ := id p'; exact Heap.lt_size ho
      have hen : ∀ (h' : Heap), IsEnum h' (s1.heap.objs.size + 1) s1.heap.objs.size 0 .none → h'.get? s1.heap.objs.size = some { cls := .type "tuple_iterator", data := .fields #[.ref a, .int 0 0] } → (∀ b o, s1.heap.get? b = some o → h'.get? b = some o) →
          wpAny (model X.prog X.w) X.A (pyIter (.ref (s1.heap.objs.size + 1))) (PIE X pins σ (.Tuple elts kk tpos) R) X.xe { s1 with heap := h' } := fun h' he hit hk => by
        refine wpAny_pyIter_enum he ?_
        exact ⟨s1.heap.objs.size + 1, [s1.heap.objs.size + 1, s1.heap.objs.size], _, _, H1, rfl, I1.kept (t' := s1.toks) hk, turn_enumT a (s1.heap.objs.size + 1) s1.heap.objs.size,
          ⟨⟨.none, he⟩, ⟨_, hit, rfl, rfl⟩, Nat.succ_ne_self _, Nat.ne_of_lt hal, Nat.ne_of_gt (Nat.lt_succ_of_lt hal)⟩, fresh2, q⟩
      exact enum_begins1 (begins_tuple a its.toArray) (show s1.heap.IsTuple a its.toArray from p') fun h' he hit hsz hk => hen h' he hit hk
end Gx

/-! Gx, part 4: sources of loops and comprehensions over data; comprehensions. -/
namespace Gx
open PySem PySem.Spec PyProof.Rows L2

section
variable {K : PySem.W.Frag} {S S' S1 F : Sto} {H H' H1 : Hp} {T : Sto}
/-- the items of a list or a tuple, and what has to stay that they do -/
def seqG (S : Sto) (Z : List D → (Sto → Prop) → Sto → Prop) : D → Prop
  | .tup ds => Z ds (fun _ => True) S
  | .lst ds => Z ds (fun _ => True) S
  | .scr ds => Z ds (fun _ => True) S
  | .ref p => match S p with
    | some (.lst ds) => Z ds (fun S' => S' p = some (.lst ds)) S
    | _ => False
  | _ => False
/-- a list that is read: pure, the script, or one that changes -/
def ListAt (K : PySem.W.Frag) (S F : Sto) (H : Hp) (a : Addr) (ds : List D) (g : Sto → Prop) : Prop :=
  ∀ S' F' H', AftF K S F H S' F' H' → g S' → ∃ xs, SqL K H' a xs ∧ RpL K (cmb S' F') H' ds xs
def TupAt (K : PySem.W.Frag) (S F : Sto) (H : Hp) (a : Addr) (ds : List D) (g : Sto → Prop) : Prop :=
  ∀ S' F' H', AftF K S F H S' F' H' → g S' → ∃ xs, SqT K H' a xs ∧ RpL K (cmb S' F') H' ds xs
theorem seq_cases {d : D} {v : V} {Z : List D → (Sto → Prop) → Sto → Prop} (w : Wd K S F H) (r : Rp K (cmb S F) H d v) (h : seqG S Z d) :
    ∃ a ds g, v = .ref a ∧ Z ds g S ∧ g S ∧ (ListAt K S F H a ds g ∨ TupAt K S F H a ds g) := by
  unfold seqG at h
  split at h
  · rename_i ds
    obtain ⟨a, xs, rfl, hs, rl⟩ := r
    exact ⟨a, ds, _, rfl, h, trivial, .inr fun S' F' H' af _ => ⟨xs, SqT.ev w.ok af.ev hs, af.rpl w rl⟩⟩
  · rename_i ds
    obtain ⟨a, xs, rfl, n, hs, rl⟩ := r
    exact ⟨a, ds, _, rfl, h, trivial, .inl fun S' F' H' af _ => ⟨xs, .of (af.ev _ _ hs n).1, af.rpl w rl⟩⟩
  · rename_i ds
    obtain ⟨a, xs, rfl, hs, rl⟩ := r
    exact ⟨a, ds, _, rfl, h, trivial, .inl fun S' F' H' af _ => ⟨xs, hs.elim (fun hs => .inl (Rd.ev hs.1 af.ev hs.2).1) (fun hs => ScrAt.sq (T := S') (.inr hs)), af.rpl w rl⟩⟩
  · rename_i p
    split at h
    · rename_i ds e
      refine ⟨p, ds, _, r, h, e, .inl fun S' F' H' af e' => ?_⟩
      obtain ⟨xs, q, rl⟩ := af.wd.ok p _ (cmb_l e')
      exact ⟨xs, .of q, rl⟩
    · exact h.elim
  · exact h.elim
end
section
variable {K : PySem.W.Frag} {S S' S1 F : Sto} {H H' H1 : Hp}
theorem srv_l {a : Addr} {ds : List D} {g : Sto → Prop} (h : ListAt K S F H a ds g) : Srv K (Itl K a) S F H g ds where
  go := fun i x S' F' H' e af gs => by
    obtain ⟨xs, q, rl⟩ := h S' F' H' af gs
    obtain ⟨v, e1, rv⟩ := rl.get e
    refine ⟨⟨xs, v, q, e1⟩, fun u H2 ⟨e2, y⟩ => ?_⟩
    subst e2
    have z := y xs q
    rw [e1] at z; cases z
    exact ⟨Aft.refl af.wd, rv⟩
  stop := fun S' F' H' af gs => by
    obtain ⟨xs, q, rl⟩ := h S' F' H' af gs
    exact ⟨xs, q, Nat.le_of_eq rl.length⟩
theorem srv_t {a : Addr} {ds : List D} {g : Sto → Prop} (h : TupAt K S F H a ds g) : Srv K (Itt K a) S F H g ds where
  go := fun i x S' F' H' e af gs => by
    obtain ⟨xs, q, rl⟩ := h S' F' H' af gs
    obtain ⟨v, e1, rv⟩ := rl.get e
    refine ⟨⟨xs, v, q, e1⟩, fun u H2 ⟨e2, y⟩ => ?_⟩
    subst e2
    have z := y xs q
    rw [e1] at z; cases z
    exact ⟨Aft.refl af.wd, rv⟩
  stop := fun S' F' H' af gs => by
    obtain ⟨xs, q, rl⟩ := h S' F' H' af gs
    exact ⟨xs, q, Nat.le_of_eq rl.length⟩
theorem aft_pair {T : Addr} {x y : V} {d e : D} (w : Wd K S F H) (hT : H T = none) (r1 : Rp K (cmb S F) H d x) (r2 : Rp K (cmb S F) H e y) :
    Aft K S F H S (upd H T (.tup [x, y])) ∧ Rp K (cmb S F) (upd H T (.tup [x, y])) (.tup [d, e]) (.ref T) :=
  ⟨Aft.new w hT, rp_newT w hT ⟨x, [y], rfl, r1, y, [], rfl, r2, rfl⟩⟩
def enumD (k : Int) : List D → List D
  | [] => []
  | d :: ds => .tup [.int k, d] :: enumD (k + 1) ds
theorem enumD_get : ∀ {ds : List D} {k : Int} {i : Nat} {x : D}, (enumD k ds)[i]? = some x → ∃ d, ds[i]? = some d ∧ x = .tup [.int (k + i), d]
  | [], _, _, _, h => by simp [enumD] at h
  | d :: ds, k, 0, x, h => by
    simp [enumD] at h
    exact ⟨d, rfl, by subst h; simp⟩
  | d :: ds, k, i + 1, x, h => by
    have h' : (enumD (k + 1) ds)[i]? = some x := by simpa [enumD] using h
    obtain ⟨e, h1, h2⟩ := enumD_get h'
    refine ⟨e, by simpa using h1, ?_⟩
    rw [h2]
    have z : k + 1 + (i : Int) = k + ((i + 1 : Nat) : Int) := by omega
    rw [z]
theorem enumD_length : ∀ {ds : List D} {k : Int}, (enumD k ds).length = ds.length
  | [], _ => rfl
  | d :: ds, k => by show (enumD (k + 1) ds).length + 1 = _; rw [enumD_length]; rfl
theorem srv_el {a : Addr} {ds : List D} {g : Sto → Prop} (h : ListAt K S F H a ds g) : Srv K (Ite K a) S F H g (enumD 0 ds) where
  go := fun i x S' F' H' e af gs => by
    obtain ⟨xs, q, rl⟩ := h S' F' H' af gs
    obtain ⟨d, e0, rfl⟩ := enumD_get e
    obtain ⟨v, e1, rv⟩ := rl.get e0
    refine ⟨⟨xs, v, q, e1⟩, fun u H2 ⟨T, y, e2, hT, e3, z⟩ => ?_⟩
    subst e2 e3
    have z := z xs q
    rw [e1] at z; cases z
    exact aft_pair af.wd hT (by show V.int _ = V.int _; congr 1; omega) rv
  stop := fun S' F' H' af gs => by
    obtain ⟨xs, q, rl⟩ := h S' F' H' af gs
    exact ⟨xs, q, by rw [enumD_length]; exact Nat.le_of_eq rl.length⟩
theorem srv_et {a : Addr} {ds : List D} {g : Sto → Prop} (h : TupAt K S F H a ds g) : Srv K (IteT K a) S F H g (enumD 0 ds) where
  go := fun i x S' F' H' e af gs => by
    obtain ⟨xs, q, rl⟩ := h S' F' H' af gs
    obtain ⟨d, e0, rfl⟩ := enumD_get e
    obtain ⟨v, e1, rv⟩ := rl.get e0
    refine ⟨⟨xs, v, q, e1⟩, fun u H2 ⟨T, y, e2, hT, e3, z⟩ => ?_⟩
    subst e2 e3
    have z := z xs q
    rw [e1] at z; cases z
    exact aft_pair af.wd hT (by show V.int _ = V.int _; congr 1; omega) rv
  stop := fun S' F' H' af gs => by
    obtain ⟨xs, q, rl⟩ := h S' F' H' af gs
    exact ⟨xs, q, by rw [enumD_length]; exact rl.length⟩
def zipD : List D → List D → List D
  | d :: ds, e :: es => .tup [d, e] :: zipD ds es
  | _, _ => []
theorem zipD_get : ∀ {ds es : List D} {i : Nat} {x : D}, (zipD ds es)[i]? = some x → ∃ d e, ds[i]? = some d ∧ es[i]? = some e ∧ x = .tup [d, e]
  | [], _, _, _, h => by simp [zipD] at h
  | _ :: _, [], _, _, h => by simp [zipD] at h
  | d :: ds, e :: es, 0, x, h => by
    simp [zipD] at h
    exact ⟨d, e, rfl, rfl, h.symm⟩
  | d :: ds, e :: es, i + 1, x, h => by
    have h' : (zipD ds es)[i]? = some x := by simpa [zipD] using h
    obtain ⟨d', e', h1, h2, h3⟩ := zipD_get h'
    exact ⟨d', e', by simpa using h1, by simpa using h2, h3⟩
theorem zipD_length : ∀ {ds es : List D}, ds.length ≤ (zipD ds es).length ∨ es.length ≤ (zipD ds es).length
  | [], es => .inl (Nat.le_refl _)
  | _ :: _, [] => .inr (Nat.le_refl _)
  | d :: ds, e :: es => (zipD_length (ds := ds) (es := es)).imp Nat.succ_le_succ Nat.succ_le_succ
theorem srv_zl {a b : Addr} {ds es : List D} {g g' : Sto → Prop} (h : ListAt K S F H a ds g) (h' : ListAt K S F H b es g') : Srv K (Itz K a b) S F H (fun S' => g S' ∧ g' S') (zipD ds es) where
  go := fun i x S' F' H' e af gs => by
    obtain ⟨xs, q, rl⟩ := h S' F' H' af gs.1
    obtain ⟨ys, q', rl'⟩ := h' S' F' H' af gs.2
    obtain ⟨d, e, e0, e0', rfl⟩ := zipD_get e
    obtain ⟨v, e1, rv⟩ := rl.get e0
    obtain ⟨v', e1', rv'⟩ := rl'.get e0'
    refine ⟨⟨xs, ys, v, v', q, q', e1, e1'⟩, fun u H2 ⟨T, y, y', e2, hT, e3, z, z'⟩ => ?_⟩
    subst e2 e3
    have z := z xs q
    rw [e1] at z; cases z
    have z' := z' ys q'
    rw [e1'] at z'; cases z'
    exact aft_pair af.wd hT rv rv'
  stop := fun S' F' H' af gs => by
    obtain ⟨xs, q, rl⟩ := h S' F' H' af gs.1
    obtain ⟨ys, q', rl'⟩ := h' S' F' H' af gs.2
    exact ⟨xs, ys, q, q', by rw [rl.length, rl'.length]; exact zipD_length⟩
theorem srv_zt {a b : Addr} {ds es : List D} {g g' : Sto → Prop} (h : TupAt K S F H a ds g) (h' : TupAt K S F H b es g') : Srv K (RZ.ItzT K a b) S F H (fun S' => g S' ∧ g' S') (zipD ds es) where
  go := fun i x S' F' H' e af gs => by
    obtain ⟨xs, q, rl⟩ := h S' F' H' af gs.1
    obtain ⟨ys, q', rl'⟩ := h' S' F' H' af gs.2
    obtain ⟨d, e, e0, e0', rfl⟩ := zipD_get e
    obtain ⟨v, e1, rv⟩ := rl.get e0
    obtain ⟨v', e1', rv'⟩ := rl'.get e0'
    refine ⟨⟨xs, ys, v, v', q, q', e1, e1'⟩, fun u H2 ⟨T, y, y', e2, hT, e3, z, z'⟩ => ?_⟩
    subst e2 e3
    have z := z xs q
    rw [e1] at z; cases z
    have z' := z' ys q'
    rw [e1'] at z'; cases z'
    exact aft_pair af.wd hT rv rv'
  stop := fun S' F' H' af gs => by
    obtain ⟨xs, q, rl⟩ := h S' F' H' af gs.1
    obtain ⟨ys, q', rl'⟩ := h' S' F' H' af gs.2
    exact ⟨xs, ys, q, q', by rw [rl.length, rl'.length]; exact zipD_length⟩
/-- lo, lo + 1, .. -/
def rngD (lo : Int) : Nat → List D
  | 0 => []
  | n + 1 => .int lo :: rngD (lo + 1) n
theorem rngD_get : ∀ {n : Nat} {lo : Int} {i : Nat} {x : D}, (rngD lo n)[i]? = some x → i < n ∧ x = .int (lo + i)
  | 0, _, _, _, h => by simp [rngD] at h
  | n + 1, lo, 0, x, h => by
    simp [rngD] at h
    exact ⟨Nat.succ_pos _, by subst h; simp⟩
  | n + 1, lo, i + 1, x, h => by
    have h' : (rngD (lo + 1) n)[i]? = some x := by simpa [rngD] using h
    obtain ⟨h1, h2⟩ := rngD_get h'
    refine ⟨Nat.succ_lt_succ h1, ?_⟩
    rw [h2]
    have z : lo + 1 + (i : Int) = lo + ((i + 1 : Nat) : Int) := by omega
    rw [z]
theorem rngD_length : ∀ {n : Nat} {lo : Int}, (rngD lo n).length = n
  | 0, _ => rfl
  | n + 1, lo => by show (rngD (lo + 1) n).length + 1 = _; rw [rngD_length]
theorem srv_r {lo : Int} {n : Nat} : Srv K (Itr lo n) S F H (fun _ => True) (rngD lo n) where
  go := fun i x S' F' H' e af _ => by
    obtain ⟨h1, rfl⟩ := rngD_get e
    exact ⟨h1, fun u H2 ⟨e2, y⟩ => by subst e2 y; exact ⟨Aft.refl af.wd, rfl⟩⟩
  stop := fun S' F' H' af _ => by rw [rngD_length]; exact Nat.le_refl _
end

section
variable {X : Cx} {e : Expr} {te : ET} {u : AT} {tg : Expr}
def iSeq (te : ET) : IT' := fun τ S Z => te τ S fun d S1 => seqG S1 Z d
theorem gi_seq (he : GE X e te) : GI X tg e (iSeq te) := by
  refine ⟨fun pins s σ H R I h => ?_⟩
  obtain ⟨τ, S, F, Z, w, r, q, l⟩ := h
  let Q : VK := fun v H1 => (∃ a xs, v = .ref a ∧ SqL X.K H1 a xs ∧ R (Itl X.K a) H1) ∨ (∃ a xs, v = .ref a ∧ SqT X.K H1 a xs ∧ R (Itt X.K a) H1)
  have hq : LE X.K te σ H Q := ⟨τ, S, F, _, w, r, q, fun d S1 v H1 q1 a1 r1 => by
    obtain ⟨a, ds, g, rfl, z, gs, c | c⟩ := seq_cases a1.wd r1 q1
    · obtain ⟨xs, hx, _⟩ := c S1 F H1 (Aft.refl a1.wd) gs
      exact .inl ⟨a, xs, rfl, hx, l _ _ _ _ _ z a1 (srv_l c)⟩
    · obtain ⟨xs, hx, _⟩ := c S1 F H1 (Aft.refl a1.wd) gs
      exact .inr ⟨a, xs, rfl, hx, l _ _ _ _ _ z a1 (srv_t c)⟩⟩
  refine thn (he.run pins s σ H Q I hq) fun v s1 ⟨x, H1, I1, r1, q1⟩ => ?_
  have fo : ∀ b ∈ [s1.heap.objs.size], FpOk X pins H1 b := fun b hb => by
    rw [List.mem_singleton.mp hb]; exact I1.fpOk (Nat.le_refl _) (I1.hok.fresh (Nat.le_refl _))
  rcases q1 with ⟨a, xs, rfl, hx, q⟩ | ⟨a, xs, rfl, hx, q⟩
  · cases r1
    obtain ⟨its, rv, p, hz⟩ := I1.list hx
    refine wpAny_pyIter_list p.isList ?_
    exact ⟨s1.heap.objs.size, [s1.heap.objs.size], _, _, H1, rfl, I1.kept (t' := s1.toks) fun b o e => Heap.get?_push_of_some _ e, turn_list a _, ⟨_, Heap.get?_push_size _ rfl, rfl, rfl⟩, fo, q⟩
  · cases r1
    obtain ⟨its, rv, p, hz⟩ := I1.tuple hx
    refine wpAny_pyIter_tuple (show s1.heap.IsTuple a its.toArray from p) ?_
    exact ⟨s1.heap.objs.size, [s1.heap.objs.size], _, _, H1, rfl, I1.kept (t' := s1.toks) fun b o e => Heap.get?_push_of_some _ e, turn_tuple a _, ⟨_, Heap.get?_push_size _ rfl, rfl, rfl⟩, fo, q⟩
theorem pi_weak {iter : Expr} {t t' : TI} (h : PI X tg iter t) (w : ∀ σ H R, t' σ H R → t σ H R) : PI X tg iter t' := ⟨fun pins s σ H R I q => h.run pins s σ H R I (w σ H R q)⟩
def iRange1 (u : AT) : IT' := fun τ S Z => u τ S fun ds S1 => match ds with
  | [.int j] => (-(2 ^ 62) ≤ j ∧ j < 2 ^ 62) ∧ Z (rngD 0 j.toNat) (fun _ => True) S1
  | _ => False
def iRange2 (u : AT) : IT' := fun τ S Z => u τ S fun ds S1 => match ds with
  | [.int i, .int j] => (-(2 ^ 62) ≤ i ∧ i < 2 ^ 62 ∧ -(2 ^ 62) ≤ j ∧ j < 2 ^ 62) ∧ Z (rngD i (j - i).toNat) (fun _ => True) S1
  | _ => False
theorem gi_range1 {a : Expr} {p pos : Pos} (hg : Gl X "range") (hm : X.mg "range" = none) (ha : GA X [a] u) (hs : starEach [a] X.env = [(false, eval a X.env)] := by rfl) : GI X tg (.Call (.Name "range" p) [a] [] pos) (iRange1 u) :=
  pi_weak (pi_range1 hg hm ha hs) fun σ H R ⟨τ, S, F, Z, w, r, q, l⟩ => ⟨τ, S, F, _, w, r, q, fun ds S1 vs H1 q1 a1 r1 => by
    split at q1
    · obtain ⟨y, _, rfl, e, rfl⟩ := r1
      cases e
      exact ⟨_, rfl, q1.1.1, q1.1.2, l _ _ _ _ _ q1.2 a1 srv_r⟩
    · exact q1.elim⟩
theorem gi_range2 {a b : Expr} {p pos : Pos} (hg : Gl X "range") (hm : X.mg "range" = none) (ha : GA X [a, b] u) (hs : starEach [a, b] X.env = [(false, eval a X.env), (false, eval b X.env)] := by rfl) (hs2 : starEach [b] X.env = [(false, eval b X.env)] := by rfl) :
    GI X tg (.Call (.Name "range" p) [a, b] [] pos) (iRange2 u) :=
  pi_weak (pi_range2 hg hm ha hs hs2) fun σ H R ⟨τ, S, F, Z, w, r, q, l⟩ => ⟨τ, S, F, _, w, r, q, fun ds S1 vs H1 q1 a1 r1 => by
    split at q1
    · obtain ⟨y, _, rfl, e, y', _, rfl, e', rfl⟩ := r1
      cases e; cases e'
      exact ⟨_, _, rfl, q1.1, l _ _ _ _ _ q1.2 a1 srv_r⟩
    · exact q1.elim⟩
def iEnumG (u : AT) : IT' := fun τ S Z => u τ S fun ds S1 => match ds with
  | [d] => seqG S1 (fun ds g S => Z (enumD 0 ds) g S) d
  | _ => False
theorem gi_enum {e : Expr} {p pos tpos : Pos} {elts : List Expr} {kk : Nat} (hg : Gl X "enumerate") (hm : X.mg "enumerate" = none) (ha : GA X [e] u) (hs : starEach [e] X.env = [(false, eval e X.env)] := by rfl) :
    GI X (.Tuple elts kk tpos) (.Call (.Name "enumerate" p) [e] [] pos) (iEnumG u) :=
  pi_weak (pi_enumT hg hm ha hs) fun σ H R ⟨τ, S, F, Z, w, r, q, l⟩ => ⟨τ, S, F, _, w, r, q, fun ds S1 vs H1 q1 a1 r1 => by
    split at q1
    · obtain ⟨y, _, rfl, e, rfl⟩ := r1
      obtain ⟨a, ds, g, rfl, z, gs, c | c⟩ := seq_cases a1.wd e q1
      · obtain ⟨xs, hx, _⟩ := c S1 F H1 (Aft.refl a1.wd) gs
        exact ⟨a, xs, rfl, .inl ⟨hx, l _ _ _ _ _ z a1 (srv_el c)⟩⟩
      · obtain ⟨xs, hx, _⟩ := c S1 F H1 (Aft.refl a1.wd) gs
        exact ⟨a, xs, rfl, .inr ⟨hx, l _ _ _ _ _ z a1 (srv_et c)⟩⟩
    · exact q1.elim⟩
def isTupD : D → Bool
  | .tup _ => true
  | _ => false
/-- both lists, or both tuples -/
def iZipG (u : AT) : IT' := fun τ S Z => u τ S fun ds S1 => match ds with
  | [d, e] => isTupD d = isTupD e ∧ seqG S1 (fun ds g S => seqG S (fun es g' S => Z (zipD ds es) (fun S' => g S' ∧ g' S') S) e) d
  | _ => False
theorem seq_kind {K : PySem.W.Frag} {S F : Sto} {H : Hp} {d : D} {v : V} {Z : List D → (Sto → Prop) → Sto → Prop} (w : Wd K S F H) (r : Rp K (cmb S F) H d v) (h : seqG S Z d) :
    ∃ a ds g, v = .ref a ∧ Z ds g S ∧ g S ∧ ((isTupD d = false ∧ ListAt K S F H a ds g) ∨ (isTupD d = true ∧ TupAt K S F H a ds g)) := by
  unfold seqG at h
  split at h
  · rename_i ds
    obtain ⟨a, xs, rfl, hs, rl⟩ := r
    exact ⟨a, ds, _, rfl, h, trivial, .inr ⟨rfl, fun S' F' H' af _ => ⟨xs, SqT.ev w.ok af.ev hs, af.rpl w rl⟩⟩⟩
  · rename_i ds
    obtain ⟨a, xs, rfl, n, hs, rl⟩ := r
    exact ⟨a, ds, _, rfl, h, trivial, .inl ⟨rfl, fun S' F' H' af _ => ⟨xs, .of (af.ev _ _ hs n).1, af.rpl w rl⟩⟩⟩
  · rename_i ds
    obtain ⟨a, xs, rfl, hs, rl⟩ := r
    exact ⟨a, ds, _, rfl, h, trivial, .inl ⟨rfl, fun S' F' H' af _ => ⟨xs, hs.elim (fun hs => .inl (Rd.ev hs.1 af.ev hs.2).1) (fun hs => ScrAt.sq (T := S') (.inr hs)), af.rpl w rl⟩⟩⟩
  · rename_i p
    split at h
    · rename_i ds e
      refine ⟨p, ds, _, r, h, e, .inl ⟨rfl, fun S' F' H' af e' => ?_⟩⟩
      obtain ⟨xs, q, rl⟩ := af.wd.ok p _ (cmb_l e')
      exact ⟨xs, .of q, rl⟩
    · exact h.elim
  · exact h.elim
theorem gi_zip {a b : Expr} {p pos tpos : Pos} {elts : List Expr} {kk : Nat} (hg : Gl X "zip") (hm : X.mg "zip" = none) (ha : GA X [a, b] u)
    (hs : starEach [a, b] X.env = (false, eval a X.env) :: starEach [b] X.env := by rfl) (hpl : (backTo pos (starEach [b] X.env)).any (·.1) = false := by rfl) :
    GI X (.Tuple elts kk tpos) (.Call (.Name "zip" p) [a, b] [] pos) (iZipG u) :=
  pi_weak (RZ.pi_zipA hg hm ha hs hpl) fun σ H R ⟨τ, S, F, Z, w, r, q, l⟩ => ⟨τ, S, F, _, w, r, q, fun ds S1 vs H1 q1 a1 r1 => by
    split at q1
    · obtain ⟨y, _, rfl, e, y', _, rfl, e', rfl⟩ := r1
      obtain ⟨k, q1⟩ := q1
      obtain ⟨a, ds, g, rfl, z, gs, c⟩ := seq_kind a1.wd e q1
      obtain ⟨b, es, g', rfl, z', gs', c'⟩ := seq_kind a1.wd e' z
      refine ⟨a, b, ?_⟩
      rcases c with ⟨k1, c⟩ | ⟨k1, c⟩
      · rcases c' with ⟨k2, c'⟩ | ⟨k2, c'⟩
        · obtain ⟨xs, hx, _⟩ := c S1 F H1 (Aft.refl a1.wd) gs
          obtain ⟨ys, hy, _⟩ := c' S1 F H1 (Aft.refl a1.wd) gs'
          exact ⟨xs, ys, rfl, .inl ⟨hx, hy, l _ _ _ _ _ z' a1 (srv_zl c c')⟩⟩
        · rw [k1, k2] at k; cases k
      · rcases c' with ⟨k2, c'⟩ | ⟨k2, c'⟩
        · rw [k1, k2] at k; cases k
        · obtain ⟨xs, hx, _⟩ := c S1 F H1 (Aft.refl a1.wd) gs
          obtain ⟨ys, hy, _⟩ := c' S1 F H1 (Aft.refl a1.wd) gs'
          exact ⟨xs, ys, rfl, .inr ⟨hx, hy, l _ _ _ _ _ z' a1 (srv_zt c c')⟩⟩
    · exact q1.elim⟩
end

/-! ### comprehensions -/
def wipeD (τ : Tau) : List Nat → Tau
  | [] => τ
  | v :: vs => (wipeD τ vs).set v none
section
variable {K : PySem.W.Frag} {T : Sto} {H : Hp} {τ : Tau} {σ : L2.St}
theorem RpS.unset (r : RpS K T H τ σ) (i : Nat) : RpS K T H (τ.set i none) (σ.set i none) := by
  refine ⟨by rw [List.length_set, List.length_set]; exact r.len, fun j e q => ?_⟩
  by_cases z : i = j
  · subst z
    rw [List.getElem?_set_self'] at q
    cases z : τ[i]? with
    | none => rw [z] at q; cases q
    | some y => rw [z] at q; cases q
  · rw [List.getElem?_set_ne z] at q ⊢
    exact r.at' j e q
theorem RpS.wipe (r : RpS K T H τ σ) : ∀ vs, RpS K T H (wipeD τ vs) (L2.wipe σ vs)
  | [] => r
  | v :: vs => (RpS.wipe r vs).unset v
end
/-- a comprehension's target: it touches the comprehension's own names alone -/
def LGc (K : PySem.W.Frag) (vs : List Nat) (t : TG') : TG := fun v σ H Q => ∃ (d : D) (τ : Tau) (S F : Sto) (R : Tau → Sto → Prop), Wd K S F H ∧ RpS K (cmb S F) H τ σ ∧ Rp K (cmb S F) H d v ∧ t d τ S R ∧
  ∀ τ' S' σ' H', R τ' S' → Aft K S F H S' H' → RpS K (cmb S' F) H' τ' σ' → L2.wipe σ' vs = L2.wipe σ vs → Q σ' H'
def GGc (X : Cx) (vs : List Nat) (e : Expr) (t : TG') : Prop := PG X e (LGc X.K vs t)
def LGcs (K : PySem.W.Frag) (vs : List Nat) (t : TGs') : TGs := fun us σ H Q => ∃ (ds : List D) (τ : Tau) (S F : Sto) (R : Tau → Sto → Prop), Wd K S F H ∧ RpS K (cmb S F) H τ σ ∧ RpL K (cmb S F) H ds us ∧ t ds τ S R ∧
  ∀ τ' S' σ' H', R τ' S' → Aft K S F H S' H' → RpS K (cmb S' F) H' τ' σ' → L2.wipe σ' vs = L2.wipe σ vs → Q σ' H'
def GGcs (X : Cx) (vs : List Nat) (es : List Expr) (t : TGs') : Prop := PGs X es (LGcs X.K vs t)
theorem wipe_set {σ : L2.St} {x : V} : ∀ {vs : List Nat} {i : Nat}, i ∈ vs → L2.wipe (σ.set i (some x)) vs = L2.wipe σ vs
  | v :: vs, i, h => by
    show (L2.wipe (σ.set i (some x)) vs).set v none = (L2.wipe σ vs).set v none
    by_cases e : i ∈ vs
    · rw [wipe_set e]
    · have hv : i = v := by
        rcases List.mem_cons.mp h with h | h
        · exact h
        · exact absurd h e
      subst hv
      have aux : ∀ (ws : List Nat) (ρ : L2.St), (L2.wipe (ρ.set i (some x)) ws).set i none = (L2.wipe ρ ws).set i none := by
        intro ws
        induction ws with
        | nil => intro ρ; show (ρ.set i (some x)).set i none = ρ.set i none; rw [List.set_set]
        | cons w ws ih =>
          intro ρ
          show ((L2.wipe (ρ.set i (some x)) ws).set w none).set i none = ((L2.wipe ρ ws).set w none).set i none
          by_cases hw : w = i
          · subst hw; rw [List.set_set, List.set_set]; exact ih ρ
          · rw [List.set_comm _ _ hw, ih ρ, ← List.set_comm _ _ hw]
      exact aux vs σ
theorem wipe_wipe (σ : L2.St) : ∀ vs : List Nat, L2.wipe (L2.wipe σ vs) vs = L2.wipe σ vs := by
  have aux : ∀ (ws : List Nat) (ρ : L2.St) (i : Nat), L2.wipe (ρ.set i none) ws = (L2.wipe ρ ws).set i none := by
    intro ws
    induction ws with
    | nil => intro ρ i; rfl
    | cons w ws ih =>
      intro ρ i
      show (L2.wipe (ρ.set i none) ws).set w none = ((L2.wipe ρ ws).set w none).set i none
      rw [ih]
      by_cases h : w = i
      · subst h; rfl
      · rw [List.set_comm _ _ h]
  intro vs
  induction vs with
  | nil => rfl
  | cons v vs ih =>
    show (L2.wipe ((L2.wipe σ vs).set v none) vs).set v none = (L2.wipe σ vs).set v none
    rw [aux, ih, List.set_set]
section
variable {X : Cx} {vs : List Nat} {g : TG'} {gs : TGs'} {pos : Pos} {e : Expr}
theorem ggc_name (i : Nat) {x : Str} (hN : X.N.Nodup) (hv : i ∈ vs := by decide) (hi : X.N[i]? = some x := by rfl) (hx : Loc X.env.scope x := by first | exact Or.inl rfl | exact Or.inr rfl) (hf : X.fn x = true ∨ X.env.scope.names.lookup x = some .local := by first | exact .inl rfl | exact .inr rfl | assumption) : GGc X vs (.Name x pos) (gNm i) :=
  ⟨fun pins s σ H v u Q I r h => (pg_name hN hi hx hf).run pins s σ H v u Q I r (by
    obtain ⟨d, τ, S, F, R, w, rs, rd, q, l⟩ := h
    exact l _ _ _ _ q (Aft.refl w) (rs.set i rd) (wipe_set hv))⟩
theorem ggcs_nil : GGcs X vs [] gsNil := ⟨fun pins s σ H us us' Q I r h => (pgs_nil).run pins s σ H us us' Q I r (by
    obtain ⟨ds, τ, S, F, R, w, rs, rd, q, l⟩ := h
    cases ds with
    | nil => exact ⟨rd, l _ _ _ _ q (Aft.refl w) rs rfl⟩
    | cons _ _ => exact q.elim)⟩
theorem ggcs_cons {es : List Expr} (h1 : GGc X vs e g) (h2 : GGcs X vs es gs) (hs : (assignEach (e :: es) X.env).map (·.2) = assign e X.env :: (assignEach es X.env).map (·.2) := by rfl) : GGcs X vs (e :: es) (gsCons g gs) :=
  ⟨fun pins s σ H us us' Q I r h => (pgs_cons h1 h2 hs).run pins s σ H us us' Q I r (by
    obtain ⟨ds, τ, S, F, R, w, rs, rd, q, l⟩ := h
    cases ds with
    | nil => exact q.elim
    | cons d ds =>
      obtain ⟨v, vr, rfl, r1, r2⟩ := rd
      refine ⟨v, vr, rfl, d, τ, S, F, _, w, rs, r1, q, fun τ' S' σ' H' q' a' r' w' => ?_⟩
      exact ⟨ds, τ', S', F, R, a'.wd, r', a'.rpl w r2, q', fun τ2 S2 σ2 H2 q2 a2 r2 w2 => l _ _ _ _ q2 (a'.trans a2) r2 (w2.trans w')⟩)⟩
theorem ggc_tup {es : List Expr} {k : Nat} {n : Nat} (hc : X.calm = true) (h : GGcs X vs es gs) (hn : (assignEach es X.env).length = n := by rfl) (hst : (assignEach es X.env).findIdx? (·.1) = none := by rfl) : GGc X vs (.Tuple es k pos) (gTupl n gs) :=
  ⟨fun pins s σ H v u Q I r h' => (pg_tup hc h hn hst).run pins s σ H v u Q I r (by
    obtain ⟨d, τ, S, F, R, w, rs, rd, q, l⟩ := h'
    unfold gTupl at q
    split at q
    · rename_i ds
      obtain ⟨a, xs, rfl, hs, rl⟩ := rd
      exact ⟨a, xs, rfl, hs, rl.length.trans q.1, ds, τ, S, F, R, w, rs, rl, q.2, l⟩
    · exact q.elim)⟩
end
def GTs (X : Cx) (ifs : List Expr) (t : TT') : Prop := PTs X ifs (LT X.K t)
def tYes' : TT' := fun _ S Q => Q true S
section
variable {X : Cx} {e : Expr} {t : TT'}
theorem gts_nil : GTs X [] tYes' := ⟨fun pins s σ H Q I ⟨τ, S, F, R, w, r, q, l⟩ => (pts_nil).run pins s σ H Q I (l _ _ _ q (Aft.refl w))⟩
theorem gts_one (h : GT X e t) : GTs X [e] t := pts_one h
end
/-- the turns of a comprehension: the items, what is made so far -/
def cmpG (g : TG') (tt : TT') (te : ET) (gd : Sto → Prop) (vs : List Nat) (τ : Tau) (Z : List D → Sto → Prop) : List D → List D → Sto → Prop
  | [], acc => fun S => gd S ∧ Z acc S
  | x :: xs, acc => fun S => gd S ∧ g x (wipeD τ vs) S fun τ2 S2 => tt τ2 S2 fun b S3 => if b = true then te τ2 S3 fun y S4 => acc.length < sizeLine ∧ cmpG g tt te gd vs τ Z xs (acc ++ [y]) S4 else cmpG g tt te gd vs τ Z xs acc S3
/-- a list that is read -/
def eLc (ti : IT') (g : TG') (tt : TT') (te : ET) (vs : List Nat) : ET := fun τ S Q => ti τ S fun items gd S1 => cmpG g tt te gd vs τ (fun acc S2 => Q (.lst acc) S2) items [] S1
/-- a list that is to change -/
def eLcM (ti : IT') (g : TG') (tt : TT') (te : ET) (vs : List Nat) : ET := fun τ S Q => ti τ S fun items gd S1 => cmpG g tt te gd vs τ (fun acc S2 => ∀ p, S2 p = none → Q (.ref p) (up S2 p (.lst acc))) items [] S1
section
variable {K : PySem.W.Frag} {ti : IT'} {g : TG'} {tt : TT'} {te : ET} {vs : List Nat}
theorem lc_of {τ : Tau} {σ : L2.St} {S F : Sto} {H : Hp} {J : It} {items : List D} {gd : Sto → Prop} {Z : List D → Sto → Prop} {Q : VK} (w : Wd K S F H) (r : RpS K (cmb S F) H τ σ) (sv : Srv K J S F H gd items) (h : cmpG g tt te gd vs τ Z items [] S)
    (hZ : ∀ acc S' H' D, Z acc S' → H D = none → Wd K S' (up F D (.lst acc)) H' → Aft K S F H S' H' → Q (.ref D) H') :
    ∀ D, H D = none → ∃ W : Nat → Nat → Hp → Prop, (∃ m, W 0 m (upd H D (.lst []))) ∧ ∀ i m H', W i m H' →
      (J.stop i H' ∧ Q (.ref D) H') ∨ (J.go i H' ∧ ∃ Nx : Hp → Prop, (∀ H'', Nx H'' → ∃ m', m' < m ∧ W (i + 1) m' H'') ∧ ∀ x H'', J.yld i H' x H'' → LGc K vs g x (L2.wipe σ vs) H'' fun σ2 H2 => L2.wipe σ2 vs = L2.wipe σ vs ∧ LT K tt σ2 H2 fun b H3 =>
        if b = true then LE K te σ2 H3 fun y H4 => ∃ acc, H4 D = some (.lst acc) ∧ acc.length < sizeLine ∧ Nx (upd H4 D (.lst (acc ++ [y]))) else Nx H3) := by
  intro D hD
  have n := cmb_none (w.ok.fresh hD)
  -- what holds ahead of a turn: the made list lies beside
  have sub : ∀ {S' : Sto} {o : SO} {H' : Hp}, Wd K S' (up F D o) H' → Wd K S' F H' ∧ ∀ a, cmb S' (up F D o) a = none → cmb S' F a = none := fun {S' o H'} w' => by
    have g : ∀ a u, F a = some u → (up F D o) a = some u := fun a u e => by rw [up_ne (by rintro rfl; rw [n.2] at e; cases e)]; exact e
    refine ⟨w'.less (fun _ _ e => e) g, fun a e => ?_⟩
    obtain ⟨e1, e2⟩ := cmb_none e
    refine cmb_of_none e1 ?_
    cases z : F a with
    | none => rfl
    | some u => rw [g a u z] at e2; cases e2
  let Pv : Nat → Hp → Prop := fun i H' => ∃ acc S', AftF K S F H S' (up F D (.lst acc)) H' ∧ cmpG g tt te gd vs τ Z (items.drop i) acc S'
  have drop : ∀ {S' : Sto} {o : SO} {H' : Hp}, AftF K S F H S' (up F D o) H' → Aft K S F H S' H' := fun {S' o H'} a => ⟨(sub a.wd).1, fun b u e1 e2 => ⟨(a.ev b u e1 e2).1, (sub a.wd).2 _ (a.ev b u e1 e2).2⟩⟩
  have p0 : Pv 0 (upd H D (.lst [])) := by
    refine ⟨[], S, ⟨w.newF hD ⟨[], upd_same, rfl⟩, ?_⟩, by simpa using h⟩
    rw [cmb_upR n.1]
    exact ev_newS hD
  refine ⟨fun i m H' => m = items.length - i ∧ i ≤ items.length ∧ Pv i H', ⟨_, rfl, Nat.zero_le _, p0⟩, ?_⟩
  rintro i m H' ⟨rfl, hi, acc, S', a', q'⟩
  by_cases hlt : i < items.length
  · rw [List.drop_eq_getElem_cons hlt] at q'
    obtain ⟨gd', q'⟩ := q'
    obtain ⟨g1, g2⟩ := sv.go i _ S' _ H' (List.getElem?_eq_getElem hlt) a' gd'
    refine .inr ⟨g1, Pv (i + 1), fun H2 p2 => ⟨_, by omega, rfl, hlt, p2⟩, fun v H2 y => ?_⟩
    obtain ⟨a2, rv⟩ := g2 v H2 y
    refine ⟨items[i], wipeD τ vs, S', up F D (.lst acc), _, a2.wd, (((a'.trans a2).rps w r).wipe vs), rv, q', fun τ3 S3 σ3 H3 q3 a3 r3 w3 => ⟨w3.trans (wipe_wipe σ vs), ?_⟩⟩
    refine ⟨τ3, S3, _, _, a3.wd, r3, q3, fun b S4 H4 q4 a4 => ?_⟩
    cases b with
    | false => exact ⟨acc, S4, ((a'.trans a2).trans a3).trans a4, q4⟩
    | true =>
      refine ⟨τ3, S4, _, _, a4.wd, a4.rps a3.wd r3, q4, fun d S5 v5 H5 q5 a5 r5 => ?_⟩
      have n5 : S5 D = none := by
        rcases a5.wd.dj D with z | z
        · exact z
        · rw [up_same] at z; cases z
      obtain ⟨xs, e5, rl5⟩ := a5.wd.ok D (.lst acc) (by rw [cmb_r n5, up_same])
      refine ⟨xs, e5, by rw [rl5.length]; exact q5.1, acc ++ [d], S5, ?_, q5.2⟩
      have st : StO K (up (cmb S5 (up F D (.lst acc))) D (.lst (acc ++ [d]))) (upd H5 D (.lst (xs ++ [v5]))) D (.lst (acc ++ [d])) :=
        ⟨_, upd_same, RpL.ev a5.wd.ok (ev_set (by rw [cmb_r n5, up_same])) (RpL.app rl5 ⟨v5, [], rfl, r5, rfl⟩)⟩
      have wn := a5.wd.setF (p := D) up_same st
      rw [up_up] at wn
      refine ⟨wn, ?_⟩
      have ev5 := ((((a'.trans a2).trans a3).trans a4).trans a5).ev
      intro b u e1 e2
      have z := ev5 b u e1 e2
      have hb : b ≠ D := by rintro rfl; rw [hD] at e1; cases e1
      refine ⟨by rw [upd_ne hb]; exact z.1, ?_⟩
      obtain ⟨z1, z2⟩ := cmb_none z.2
      refine cmb_of_none z1 ?_
      rw [up_ne hb] at z2 ⊢
      exact z2
  · have e : i = items.length := by omega
    subst e
    rw [List.drop_length] at q'
    obtain ⟨gd', q'⟩ := q'
    exact .inl ⟨sv.stop S' _ H' a' gd', hZ acc S' H' D q' hD a'.wd (drop a')⟩
end
end Gx

/-! Gx, part 5: comprehensions as expressions; defs and their calls. -/
namespace Gx
open PySem PySem.Spec PyProof.Rows L2

section
variable {X : Cx} {ti : IT'} {g : TG'} {tt : TT'} {te : ET} {elt tg iter : Expr} {ifs : List Expr} {scope : Scope} {own : List (Str × Nat)} {pos spos py : Pos}
theorem lc_pure {σ : L2.St} {H : Hp} {Q : VK} (h : LE X.K (eLc ti g tt te (own.map (·.2))) σ H Q) : tLc (LI X.K ti) (LGc X.K (own.map (·.2)) g) (LT X.K tt) (LE X.K te) (own.map (·.2)) σ H Q := by
  obtain ⟨τ, S, F, R, w, r, q, l⟩ := h
  refine ⟨τ, S, F, _, w, r, q, fun items gd S1 J H1 q1 a1 sv => ?_⟩
  refine lc_of a1.wd (a1.rps w r) sv q1 fun acc S' H' D z hD wd a' => ?_
  have n := cmb_none (a1.wd.ok.fresh hD)
  have n5 : S' D = none := by
    rcases wd.dj D with z | z
    · exact z
    · rw [up_same] at z; cases z
  obtain ⟨xs, e5, rl5⟩ := wd.ok D (.lst acc) (by rw [cmb_r n5, up_same])
  refine l _ _ _ _ z (a1.trans a') ⟨D, xs, rfl, cmb_of_none n5 n.2, e5, RpL.sub (fun a e => ?_) rl5⟩
  obtain ⟨e1, e2⟩ := cmb_none e
  refine cmb_of_none e1 ?_
  by_cases hb : a = D
  · subst hb; exact n.2
  · rw [up_ne hb] at e2; exact e2
theorem g_lc (hc : X.calm = true) (hN : X.N.Nodup) (hi : GI X tg iter ti) (ok : BlkOk X.N X.env.scope scope own)
    (hg : ∀ (s : Shared) (H : Hp) (C : Addr) (cl : List (Str × Addr)) (fp : List Addr), GGc (X.blk s H scope (compEnvC scope cl C X.env) fp) (own.map (·.2)) tg g) (ht : ∀ (s : Shared) (H : Hp) (C : Addr) (cl : List (Str × Addr)) (fp : List Addr), GTs (X.blk s H scope (compEnvC scope cl C X.env) fp) ifs tt)
    (he : ∀ (s : Shared) (H : Hp) (C : Addr) (cl : List (Str × Addr)) (fp : List Addr), GE (X.blk s H scope (compEnvC scope cl C X.env) fp) elt te) (hs : ∀ x, foldedSetIterable iter X.env x = pure x := by intro _; rfl) :
    GE X (.ListComp elt [⟨tg, iter, ifs, 0⟩] scope pos) (eLc ti g tt te (own.map (·.2))) := pe_weak (pe_lc (g := LGc X.K (own.map fun q : Str × Nat => q.2) g) (tt := LT X.K tt) (te := LE X.K te) hc hN hi ok hg ht he hs) fun σ H Q h => lc_pure h
theorem setLc_of {t : ET} {tl : TE} {i : Nat} (hl : ∀ {σ H Q}, LE X.K t σ H Q → tl σ H Q) {D : Ends} {σ : L2.St} {H : Hp} (h : LS X.K (sAsg t (gNm i)) D σ H) : tAsg tl (gName i) D σ H := by
  obtain ⟨τ, S, F, G, w, r, q, l⟩ := h
  exact hl ⟨τ, S, F, _, w, r, q, fun d S1 v H1 q1 a1 r1 => l.nx _ _ _ _ q1 a1 ((a1.rps w r).set i r1)⟩
theorem gs_setLc (i : Nat) {y : Str} (hc : X.calm = true) (hN : X.N.Nodup) (hsw : swapsWith (.ListComp elt [⟨tg, iter, ifs, 0⟩] scope pos) (some (.Name y py)) spos.line X.env = pure true) (hi : GI X tg iter ti) (ok : BlkOk X.N X.env.scope scope own)
    (hg : ∀ (s : Shared) (H : Hp) (C : Addr) (cl : List (Str × Addr)) (fp : List Addr), GGc (X.blk s H scope (compEnvC scope cl C X.env) fp) (own.map (·.2)) tg g) (ht : ∀ (s : Shared) (H : Hp) (C : Addr) (cl : List (Str × Addr)) (fp : List Addr), GTs (X.blk s H scope (compEnvC scope cl C X.env) fp) ifs tt)
    (he : ∀ (s : Shared) (H : Hp) (C : Addr) (cl : List (Str × Addr)) (fp : List Addr), GE (X.blk s H scope (compEnvC scope cl C X.env) fp) elt te) (hy : X.N[i]? = some y := by rfl) (hyl : X.env.scope.names.lookup y = some .local := by rfl) (hs : ∀ x, foldedSetIterable iter X.env x = pure x := by intro _; rfl) :
    GS X (.Assign [.Name y py] (.ListComp elt [⟨tg, iter, ifs, 0⟩] scope pos) spos) (sAsg (eLc ti g tt te (own.map (·.2))) (gNm i)) := ps_weak (ps_setLc (g := LGc X.K (own.map fun q : Str × Nat => q.2) g) (tt := LT X.K tt) (te := LE X.K te) hc hN hy hyl hsw hi ok hg ht he hs) fun D σ H h => setLc_of (fun h => lc_pure h) h
end

/-! ### defs -/
/-- what a def of the text promises over data: no error leaves it -/
structure GFn (P : Program) (w : World) (K : PySem.W.Frag) (mg : Str → Option Value) (base : Heap) (k : Nat) (f : Addr) (fd : FuncData) (ps : List Str) (γ : OL) : Prop where
  len : ∀ ds S R, γ ds S R → ds.length = ps.length
  run : ∀ (A : Around) (outer : List Env) (s : Shared) (H : Hp) (args : Args) (us : List Value) (vs : List V) (Q : VK), Room k A → A.guards = some [] → Env0 P w K mg base A outer s H → BindsTo s fd args (ps.zip us) → Vals vs us → LLO K γ vs H Q →
    codeAny (model P w) A (.call (.ref f) args) (CR CX0 outer P w H s Q E0) s
theorem GFn.mono {P : Program} {w : World} {K : PySem.W.Frag} {mg : Str → Option Value} {base : Heap} {j k : Nat} {f : Addr} {fd : FuncData} {ps : List Str} {γ : OL} (G : GFn P w K mg base j f fd ps γ) (h : j ≤ k) : GFn P w K mg base k f fd ps γ :=
  ⟨G.len, fun A outer s H args us vs Q hr => G.run A outer s H args us vs Q (hr.mono h)⟩
theorem llo_imp {K : PySem.W.Frag} {γ γ' : OL} (h : ∀ ds S R, γ' ds S R → γ ds S R) {vs : List V} {H : Hp} {Q : VK} (q : LLO K γ' vs H Q) : LLO K γ vs H Q :=
  let ⟨ds, S, F, R, w, r, q, l⟩ := q
  ⟨ds, S, F, R, w, r, h _ _ _ q, l⟩
theorem GFn.imp {P : Program} {w : World} {K : PySem.W.Frag} {mg : Str → Option Value} {base : Heap} {k : Nat} {f : Addr} {fd : FuncData} {ps : List Str} {γ γ' : OL} (G : GFn P w K mg base k f fd ps γ) (h : ∀ ds S R, γ' ds S R → γ ds S R) : GFn P w K mg base k f fd ps γ' :=
  ⟨fun ds S R q => G.len ds S R (h _ _ _ q), fun A outer s H args us vs Q hr hg e0 hb hv q => G.run A outer s H args us vs Q hr hg e0 hb hv (llo_imp h q)⟩

theorem guards_deeper {A : Around} {env : Env} (h : A.guards = some []) : (A.deeper env).guards = some [] := by
  first | exact h | (simp [Around.deeper, h])
/-- the data's slots at the entry -/
def startD (n : Nat) (ds : List D) : Tau := ds.map some ++ List.replicate (n - ds.length) none
theorem rps_start {K : PySem.W.Frag} {T : Sto} {H : Hp} {N : List Str} {ds : List D} {vs : List V} (r : RpL K T H ds vs) : RpS K T H (startD N.length ds) (L2.start N vs) := by
  have hl := r.length
  refine ⟨by unfold startD L2.start; simp [hl], fun i d e => ?_⟩
  unfold startD at e
  by_cases hi : i < ds.length
  · rw [List.getElem?_append_left (by simpa using hi), List.getElem?_map] at e
    cases z : ds[i]? with
    | none => rw [z] at e; cases e
    | some x =>
      rw [z] at e; cases e
      obtain ⟨v, hv, rv⟩ := r.get z
      refine ⟨v, ?_, rv⟩
      unfold L2.start
      rw [List.getElem?_append_left (by rw [List.length_map, hl]; exact hi), List.getElem?_map, hv]
      rfl
  · rw [List.getElem?_append_right (by simpa using hi), List.getElem?_replicate] at e
    split at e <;> cases e

mutual
/-- what is handed out: lists that change no more -/
inductive Fz (S S' : Sto) : D → D → Prop
  | same (d : D) : Fz S S' d d
  | ref {p : Addr} {es ds : List D} : S p = some (.lst es) → S' p = none → FzL S S' es ds → Fz S S' (.ref p) (.lst ds)
  | tup {es ds : List D} : FzL S S' es ds → Fz S S' (.tup es) (.tup ds)
  | lst {es ds : List D} : FzL S S' es ds → Fz S S' (.lst es) (.lst ds)
inductive FzL (S S' : Sto) : List D → List D → Prop
  | nil : FzL S S' [] []
  | cons {e d : D} {es ds : List D} : Fz S S' e d → FzL S S' es ds → FzL S S' (e :: es) (d :: ds)
end
theorem FzL.same {S S' : Sto} : ∀ ds : List D, FzL S S' ds ds
  | [] => .nil
  | d :: ds => .cons (.same d) (FzL.same ds)
mutual
theorem Fz.rp {K : PySem.W.Frag} {S S' F : Sto} {H : Hp} (w : Wd K S F H) (hs : ∀ a o, S' a = some o → S a = some o) : ∀ {e d : D} {v : V}, Fz S S' e d → Rp K (cmb S F) H e v → Rp K (cmb S' F) H d v
  | _, _, _, .same d, r => Rp.sub (fun a e => by
      obtain ⟨e1, e2⟩ := cmb_none e
      refine cmb_of_none ?_ e2
      cases z : S' a with
      | none => rfl
      | some o => rw [hs a o z] at e1; cases e1) r
  | _, _, _, .ref (p := p) h1 h2 h3, r => by
    cases r
    obtain ⟨xs, e, rl⟩ := w.ok p _ (cmb_l h1)
    have n : F p = none := by
      rcases w.dj p with z | z
      · rw [h1] at z; cases z
      · exact z
    exact ⟨p, xs, rfl, cmb_of_none h2 n, e, FzL.rp w hs h3 rl⟩
  | _, _, _, .tup h, r => by
    obtain ⟨a, xs, e, q, rl⟩ := r
    exact ⟨a, xs, e, q, FzL.rp w hs h rl⟩
  | _, _, _, .lst h, r => by
    obtain ⟨a, xs, e, n, q, rl⟩ := r
    refine ⟨a, xs, e, ?_, q, FzL.rp w hs h rl⟩
    obtain ⟨e1, e2⟩ := cmb_none n
    refine cmb_of_none ?_ e2
    cases z : S' a with
    | none => rfl
    | some o => rw [hs a o z] at e1; cases e1
theorem FzL.rp {K : PySem.W.Frag} {S S' F : Sto} {H : Hp} (w : Wd K S F H) (hs : ∀ a o, S' a = some o → S a = some o) : ∀ {e d : List D} {v : List V}, FzL S S' e d → RpL K (cmb S F) H e v → RpL K (cmb S' F) H d v
  | _, _, _, .nil, r => r
  | _, _, _, .cons h1 h2, r => by
    obtain ⟨x, xs, e, r1, r2⟩ := r
    exact ⟨x, xs, e, Fz.rp w hs h1 r1, FzL.rp w hs h2 r2⟩
end
/-- a def's end: what is of its own is forgotten, what it hands out changes no more -/
def Fin (R : QD) (d : D) (S : Sto) : Prop := ∃ S' d', (∀ a o, S' a = some o → S a = some o) ∧ Fz S S' d d' ∧ R d' S'
theorem Fin.plain {R : QD} {d : D} {S : Sto} (h : R d S) : Fin R d S := ⟨S, d, fun _ _ e => e, .same d, h⟩

section
variable {P : Program} {w : World} {K : PySem.W.Frag} {mg : Str → Option Value} {base : Heap}
/-- THE RULE for a def, over data -/
theorem gfn_of {x qual : Str} {st : Stmt} {f : Addr} {fd : FuncData} {N ps : List Str} {k : Nat} {γ : OL} (F : Fun K x qual st f fd) (Sc : FnScope N ps (defScope st)) (len : ∀ ds S R, γ ds S R → ds.length = ps.length)
    (hbody : ∀ (cdv : Value) (A : Around) (outer : List Env) (s : Shared) (H : Hp), Room k (A.deeper (envOfC qual (defScope st) s.heap.objs.size f cdv)) → (A.deeper (envOfC qual (defScope st) s.heap.objs.size f cdv)).guards = some [] →
      ∃ t, GSs (cxOf CX0 P w K mg base N qual (defScope st) f cdv A outer s H E0).nox (defBody st) t ∧ ∀ ds S R, γ ds S R → t { nx := fun _ S' => Fin R .non S', rt := Fin R } (startD N.length ds) S) : GFn P w K mg base (k + 1) f fd ps γ := by
  obtain ⟨oc, od, kV, doc, pm, an, cdv, ct, osl, rfl, lk, hcd⟩ := F.ex
  refine ⟨len, fun A outer s H args us vs Q hr hgd e0 hb r hsp => ?_⟩
  obtain ⟨ds, S, Fr, R, wd, rl, q, l⟩ := hsp
  have KX : K.In s.heap := e0.mod.kin.keeps fun b o e => (e0.bs b o e).1
  have lim : s.heap.NoLimit := e0.mod.nolimit.keeps fun b o e => (e0.bs b o e).1
  have hl : vs.length = ps.length := rl.length.trans (len ds S R q)
  have hk : ∀ y ∈ ps.zip us, (defScope st).names.lookup y.1 = some .local ∨ ((defScope st).names.lookup y.1 = some .cell ∧ ((cellsFrom (s.heap.objs.size + 1) (defScope st).names []).lookup y.1).isSome = true) := fun y hy =>
    (Sc.par y.1 (List.of_mem_zip hy).1).imp (fun z => z) fun z => ⟨z, PySem.W.cellsFrom_some _ _ _ (.inl z)⟩
  refine codeAny_call_function hr.depth (KX _ _ lk) rfl Sc.co Sc.gen rfl (PySem.W.codeRec_of KX hcd) (hb _ _ _ _ ?_)
  refine wpAny_newFunctionEnv_cells Sc.kind hk fun env he s1 x => ?_
  subst he
  refine ⟨lim.keeps x.toInCall.keep, codeAny_func ?_⟩
  obtain ⟨t, ht, hq⟩ := hbody cdv A outer s H (hr.deeper _) (guards_deeper hgd)
  have I := inv_start (CX := CX0) (E := E0) (cd := cdv) (qual := qual) (f := f) (mg := mg) Sc hr.hd e0 hl r x
  have fin : ∀ {d : D} {S' : Sto} {v : V} {H' : Hp}, Fin R d S' → Aft K S Fr H S' H' → Rp K (cmb S' Fr) H' d v → Q v H' := fun {d S' v H'} ⟨S2, d2, hs, fz, h⟩ a rv =>
    l d2 S2 v H' h ⟨a.wd.less hs fun _ _ e => e, a.ev.trans (ev_less hs fun _ _ e => e)⟩ (Fz.rp a.wd hs fz rv)
  have hD : LS K t { nx := fun _ H' => Q .non H', rt := Q } (L2.start N vs) H := ⟨_, S, Fr, _, wd, rps_start rl, hq ds S R q,
    ⟨fun τ' S' σ' H' z a _ => fin z a rfl, fun d S' v H' z a rv => fin z a rv, fun _ _ _ _ z => z.elim, fun _ _ _ _ z => z.elim⟩⟩
  refine wpAny_mono ((PSs.nox ht).run [] s1 (L2.start N vs) H _ I hD) (fun fl s' hs => ?_) fun e s' hs => hs
  cases fl with
  | ret u =>
    obtain ⟨v, σ', H', J, rv, z⟩ := hs
    exact ⟨v, H', J.os, J.bare, J.base, J.hok, rv, z⟩
  | next =>
    obtain ⟨σ', H', J, z⟩ := hs
    exact ⟨.non, H', J.os, J.bare, J.base, J.hok, rfl, z⟩
  | brk =>
    obtain ⟨_, _, _, z⟩ := hs
    exact z.elim
  | cont =>
    obtain ⟨_, _, _, z⟩ := hs
    exact z.elim
end

/-! ### calls -/
/-- the def that stands under a global name, and how it is called -/
structure Has (P : Program) (w : World) (K : PySem.W.Frag) (mg : Str → Option Value) (base : Heap) (k : Nat) (x : Str) (f : Addr) (fd : FuncData) (ps : List Str) (γ : OL) : Prop where
  fn : GFn P w K mg base k f fd ps γ
  mg : mg x = some (.ref f)
  kp : PySem.W.keepIn K (.ref f) = true
  bd : Binds K fd ps []
section
variable {X : Cx} {k j : Nat} {f : Addr} {fd : FuncData} {ps : List Str} {γ : OL} {x : Str} {p pos : Pos} {e : Expr} {es : List Expr} {u : AT}
theorem run_gfn {pins : List (Addr × Obj)} {σ : L2.St} {H : Hp} {s : Shared} {Q : VK} {us : List Value} {vs : List V} (G : GFn X.prog X.w X.K X.mg X.base k f fd ps γ) (hr : Room k X.A) (hg : X.A.guards = some []) (hb : Binds X.K fd ps [])
    (I : Inv X pins σ H s) (r : Vals vs us) (h : LLO X.K γ vs H Q) : wpAny (model X.prog X.w) X.A (call (.ref f) us) (EP X pins σ Q) X.xe s := by
  have hl : (us ++ []).length = ps.length := by
    obtain ⟨ds, S, F, R, w, rl, q, _⟩ := h
    rw [List.append_nil, ← r.length, rl.length]
    exact G.len _ _ _ q
  have hbd := hb s us I.kIn hl
  rw [List.append_nil] at hbd
  refine wpAny_call (codeAny_mono (G.run X.A X.stack s H ⟨us, []⟩ us vs Q hr hg I.env0 hbd r h) fun r s' hq => ?_)
  cases r with
  | error e => exact False.elim hq
  | ok fl =>
    cases fl with
    | ret u => exact I.after hq
    | next => exact False.elim hq
    | brk => exact False.elim hq
    | cont => exact False.elim hq
theorem gcall_of {σ : L2.St} {H : Hp} {Q : VK} (h : LE X.K (eCall γ u) σ H Q) : LA X.K u σ H fun vs H1 => LLO X.K γ vs H1 Q := by
  obtain ⟨τ, S, F, R, w, r, q, g⟩ := h
  exact ⟨τ, S, F, _, w, r, q, fun ds S1 vs H1 q1 a1 r1 => ⟨ds, S1, F, R, a1.wd, r1, q1, fun d S2 v H2 q2 a2 r2 => g _ _ _ _ q2 (a1.trans a2) r2⟩⟩
theorem g_call (h : Has X.prog X.w X.K X.mg X.base j x f fd ps γ) (hr : Room k X.A) (hg : X.A.guards = some []) (hjk : j ≤ k) (hgl : Gl X x) (ha : GA X (e :: es) u) (hdb : (x == ("__debug__" : Str)) = false := by decide)
    (he : starEach (e :: es) X.env = (false, eval e X.env) :: starEach es X.env := by rfl) (hpl : (backTo pos (starEach es X.env)).any (·.1) = false := by rfl) : GE X (.Call (.Name x p) (e :: es) [] pos) (eCall γ u) := by
  refine ⟨fun pins s σ H Q I q => ?_⟩
  refine wpAny_Call_Name_kw (ld_glob I hgl h.mg ?_ hdb)
  exact PySem.W.callWith_K (h₀ := X.base) I.ok.mod.kin h.kp (thn (ha.run pos pins s σ H _ I (gcall_of q)) fun us s1 ⟨vs, H1, I1, r, q⟩ => ⟨I1.kIn, run_gfn h.fn (hr.mono hjk) hg h.bd I1 r q⟩) he hpl
end
end Gx

/-! Gx, part 6: what operators and built-ins do to data. -/
namespace Gx
open PySem PySem.Spec PyProof.Rows L2

/-- a list that changes, as it stands -/
def rs (S : Sto) : D → D
  | .ref p => match S p with
    | some (.lst ds) => .lst ds
    | _ => .ref p
  | d => d
section
variable {K : PySem.W.Frag} {S F : Sto} {H : Hp}
theorem rs_lst {d : D} {v : V} {ds : List D} (w : Wd K S F H) (r : Rp K (cmb S F) H d v) (e : rs S d = .lst ds) : ∃ a xs, v = .ref a ∧ H a = some (.lst xs) ∧ RpL K (cmb S F) H ds xs := by
  cases d with
  | ref p =>
    simp only [rs] at e
    split at e
    · rename_i es h
      cases e
      obtain ⟨xs, q, rl⟩ := w.ok p _ (cmb_l h)
      exact ⟨p, xs, r, q, rl⟩
    · cases e
  | lst es =>
    cases e
    obtain ⟨a, xs, e, _, q, rl⟩ := r
    exact ⟨a, xs, e, q, rl⟩
  | _ => cases e
theorem rs_other {d e : D} (h : rs S d = e) (n : ∀ ds, e ≠ .lst ds) : d = e := by
  unfold rs at h
  split at h
  · split at h
    · exact absurd h.symm (n _)
    · exact h
  · exact h
theorem rs_non {S : Sto} : rs S .non = .non := rfl
theorem rs_bl {S : Sto} {b : Bool} : rs S (.bl b) = .bl b := rfl
theorem rs_int {S : Sto} {i : Int} : rs S (.int i) = .int i := rfl
theorem rs_str {S : Sto} {x : Str} : rs S (.str x) = .str x := rfl
theorem rs_tup {S : Sto} {ds : List D} : rs S (.tup ds) = .tup ds := rfl
theorem rs_lst' {S : Sto} {ds : List D} : rs S (.lst ds) = .lst ds := rfl
theorem rs_scr {S : Sto} {ds : List D} : rs S (.scr ds) = .scr ds := rfl
theorem rs_ref {S : Sto} {p : Addr} {ds : List D} (h : S p = some (.lst ds)) : rs S (.ref p) = .lst ds := by simp only [rs, h]
/-- the items of what may be read by places -/
def itemsOf : D → Option (List D)
  | .tup ds => some ds
  | .lst ds => some ds
  | .scr ds => some ds
  | _ => none
theorem seq_view {d : D} {v : V} {ds : List D} (w : Wd K S F H) (r : Rp K (cmb S F) H d v) (e : itemsOf (rs S d) = some ds) :
    ∃ a xs, v = .ref a ∧ (SqL K H a xs ∨ SqT K H a xs) ∧ RpL K (cmb S F) H ds xs := by
  cases z : rs S d with
  | lst es =>
    rw [z] at e; cases e
    obtain ⟨a, xs, e, q, rl⟩ := rs_lst w r z
    exact ⟨a, xs, e, .inl (.of q), rl⟩
  | tup es =>
    rw [z] at e; cases e
    have z := rs_other z (by intro ds; simp)
    subst z
    obtain ⟨a, xs, e, q, rl⟩ := r
    exact ⟨a, xs, e, .inr q, rl⟩
  | scr es =>
    rw [z] at e; cases e
    have z := rs_other z (by intro ds; simp)
    subst z
    obtain ⟨a, xs, e, q, rl⟩ := r
    exact ⟨a, xs, e, .inl q.sq, rl⟩
  | _ => rw [z] at e; cases e
end

section
variable {X : Cx} {f : Value → Value → Sem Value}
/-- an operator of two ints -/
def oI (C : Int → Int → Prop) (g : Int → Int → D) : O2 := fun d e S R => match d, e with
  | .int i, .int j => C i j ∧ R (g i j) S
  | _, _ => False
def oI0 (g : Int → Int → D) : O2 := fun d e S R => match d, e with
  | .int i, .int j => R (g i j) S
  | _, _ => False
theorem g2_I {C C' : Int → Int → Prop} {g : Int → Int → Int} {g' : Int → Int → Int} (h : OpR X f (rI C fun i j => .int (g i j))) (hc : ∀ i j, C' i j → C i j) (hg : ∀ i j, C' i j → g i j = g' i j) : G2 X f (oI C' fun i j => .int (g' i j)) :=
  op_weak h fun x y H Q ⟨d, e, S, F, R, w, r1, r2, q, l⟩ => by
    unfold oI at q
    split at q
    · cases r1; cases r2
      exact ⟨_, _, rfl, rfl, hc _ _ q.1, by show Q (V.int (g _ _)) H; rw [hg _ _ q.1]; exact l _ _ _ _ q.2 (Aft.refl w) rfl⟩
    · exact q.elim
theorem g2_I0 {g : Int → Int → Int} (h : OpR X f (rI0 fun i j => .int (g i j))) : G2 X f (oI0 fun i j => .int (g i j)) :=
  op_weak h fun x y H Q ⟨d, e, S, F, R, w, r1, r2, q, l⟩ => by
    unfold oI0 at q
    split at q
    · cases r1; cases r2
      exact ⟨_, _, rfl, rfl, l _ _ _ _ q (Aft.refl w) rfl⟩
    · exact q.elim
theorem g2_B0 {g : Int → Int → Bool} (h : OpR X f (rI0 fun i j => .bl (g i j))) : G2 X f (oI0 fun i j => .bl (g i j)) :=
  op_weak h fun x y H Q ⟨d, e, S, F, R, w, r1, r2, q, l⟩ => by
    unfold oI0 at q
    split at q
    · cases r1; cases r2
      exact ⟨_, _, rfl, rfl, l _ _ _ _ q (Aft.refl w) rfl⟩
    · exact q.elim
def MulOk (i j : Int) : Prop := IntMulOk i j
theorem MulOk.of {i j : Int} {a b : Nat} (ha : i.natAbs < 2 ^ a) (hb : j.natAbs < 2 ^ b) (h : a + b ≤ 1000000 := by decide) : MulOk i j := by
  by_cases h0 : a = 0
  · subst h0
    have : i = 0 := by omega
    subst this
    exact .of_left (by decide)
  · by_cases h1 : b = 0
    · subst h1
      have : j = 0 := by omega
      subst this
      exact .of_right (by decide)
    · exact (wide_mul ha hb (by omega) (by omega) h).ok
theorem MulOk.left {i j : Int} (h1 : -(2 ^ 64) < i) (h2 : i < 2 ^ 64) : MulOk i j := .of_left (intBits_le_64 h1 h2)
theorem MulOk.right {i j : Int} (h1 : -(2 ^ 64) < j) (h2 : j < 2 ^ 64) : MulOk i j := .of_right (intBits_le_64 h1 h2)
theorem op_mulG : OpR X (binaryOp .Mult) (rI MulOk fun i j => .int (i * j)) := opI fun _ _ _ _ _ _ _ hc q => mul_int q hc
def DivOk (j : Int) : Prop := j ≠ 0 ∧ j.natAbs.log2 < 9000
theorem DivOk.of {j : Int} {b : Nat} (h : j ≠ 0) (hb : j.natAbs < 2 ^ b) (hb9 : b ≤ 9000 := by decide) : DivOk j := by
  refine ⟨h, ?_⟩
  by_cases h0 : b = 0
  · subst h0; omega
  · exact Nat.lt_of_lt_of_le (PySem.Flt.log2_lt_of (by omega) hb) hb9
theorem op_fdivG : OpR X (binaryOp .FloorDiv) (rI (fun _ j => DivOk j) fun i j => .int (i.fdiv j)) := opI fun _ _ _ _ _ _ _ hc q => floordiv_int hc.1 q (.inl (PyProof.noPylong_of_log2 hc.2))
def oSub : O2 := oI0 fun i j => .int (i - j)
def oFdiv : O2 := oI (fun _ j => DivOk j) fun i j => .int (i.fdiv j)
def oMod : O2 := oI (fun _ j => j ≠ 0) fun i j => .int (i.fmod j)
def PowOk (i j : Int) : Prop := 0 ≤ j ∧ (Builtin.Int.intBits i : Int) * j ≤ 2 ^ 27
theorem PowOk.of {i j : Int} (b : Nat) (h0 : 0 ≤ j := by decide) (hb : i.natAbs < 2 ^ b) (h : (b : Int) * j ≤ 2 ^ 27 := by decide) : PowOk i j := by
  refine ⟨h0, Int.le_trans (Int.mul_le_mul_of_nonneg_right ?_ h0) h⟩
  have : Builtin.Int.intBits i ≤ b := intBits_le hb
  omega
theorem op_powG : OpR X (binaryOp .Pow) (rI PowOk fun i j => .int (i ^ j.toNat)) := opI fun _ _ _ _ _ _ _ hc q => pow_int hc.1 hc.2 q
def oPow : O2 := oI PowOk fun i j => .int (i ^ j.toNat)
def oShl : O2 := oI CPow fun i j => .int (i * 2 ^ j.toNat)
def oShr : O2 := oI (fun _ j => 0 ≤ j) fun i j => .int (i / 2 ^ j.toNat)
def oAnd : O2 := oI0 fun i j => .int (Builtin.bitAnd i j)
def oOr : O2 := oI0 fun i j => .int (Builtin.bitOr i j)
def oXor : O2 := oI0 fun i j => .int (Builtin.bitXor i j)
theorem o_sub : G2 X (binaryOp .Sub) oSub := g2_I0 op_sub
theorem o_fdiv : G2 X (binaryOp .FloorDiv) oFdiv := g2_I op_fdivG (fun _ _ h => h) fun _ _ _ => rfl
theorem o_mod : G2 X (binaryOp .Mod) oMod := g2_I op_modN (fun _ _ h => h) fun _ _ _ => rfl
theorem o_pow : G2 X (binaryOp .Pow) oPow := g2_I op_powG (fun _ _ h => h) fun _ _ _ => rfl
theorem o_shl : G2 X (binaryOp .LShift) oShl := g2_I op_shl (fun _ _ h => h) fun _ _ _ => rfl
theorem o_shr : G2 X (binaryOp .RShift) oShr := g2_I op_shr (fun _ _ h => h) fun _ _ _ => rfl
theorem o_and : G2 X (binaryOp .BitAnd) oAnd := g2_I0 op_and
theorem o_or : G2 X (binaryOp .BitOr) oOr := g2_I0 op_or
def oLt : O2 := oI0 fun i j => .bl (decide (i < j))
def oLe : O2 := oI0 fun i j => .bl (decide (i ≤ j))
def oGt : O2 := oI0 fun i j => .bl (decide (j < i))
def oGe : O2 := oI0 fun i j => .bl (decide (j ≤ i))
theorem o_lt : G2 X (compareOp .Lt) oLt := g2_B0 op_lt
theorem o_le : G2 X (compareOp .LtE) oLe := g2_B0 op_le
theorem o_gt : G2 X (compareOp .Gt) oGt := g2_B0 op_gt
theorem o_ge : G2 X (compareOp .GtE) oGe := g2_B0 op_ge
def oNeg : O1 := fun d S R => match d with
  | .int i => R (.int (-i)) S
  | _ => False
theorem o_neg : G1 X (unaryOp .USub) oNeg := fun pins s σ H x v Q I rx ⟨d, S, F, R, w, r1, q, l⟩ => un_neg pins s σ H x v Q I rx (by
    unfold oNeg at q
    split at q
    · cases r1
      exact ⟨_, rfl, l _ _ _ _ q (Aft.refl w) rfl⟩
    · exact q.elim)
/-- is None, is not None -/
def isNon : D → Bool
  | .non => true
  | _ => false
def oIsN : O2 := fun d e S R => match e with
  | .non => R (.bl (isNon d)) S
  | _ => False
def oNotN : O2 := fun d e S R => match e with
  | .non => R (.bl (!isNon d)) S
  | _ => False
/-! ### plus, times -/
def oAdd' (S : Sto) (R : QD) : D → D → Prop
  | .int i, .int j => R (.int (i + j)) S
  | .str x, .str y => x.length + y.length ≤ sizeLine ∧ R (.str (x ++ y)) S
  | .tup xs, .tup ys => xs.length + ys.length ≤ sizeLine ∧ R (.tup (xs ++ ys)) S
  | .lst xs, .lst ys => xs.length + ys.length ≤ sizeLine ∧ R (.lst (xs ++ ys)) S
  | _, _ => False
def oAdd : O2 := fun d e S R => oAdd' S R (rs S d) (rs S e)
theorem o_add : G2 X (binaryOp .Add) oAdd := fun pins s σ H x y v u Q I rx ry ⟨d, e, S, F, R, w, r1, r2, q, l⟩ => by
  unfold oAdd at q
  generalize z1 : rs S d = d' at q
  generalize z2 : rs S e = e' at q
  unfold oAdd' at q
  split at q
  · have z1 := rs_other z1 (by intro ds; simp)
    have z2 := rs_other z2 (by intro ds; simp)
    subst z1 z2
    cases r1; cases r2
    exact op_add pins s σ H _ _ v u Q I rx ry ⟨_, _, rfl, rfl, l _ _ _ _ q (Aft.refl w) rfl⟩
  · have z1 := rs_other z1 (by intro ds; simp)
    have z2 := rs_other z2 (by intro ds; simp)
    subst z1 z2
    cases r1; cases r2
    exact op_add_str pins s σ H _ _ v u Q I rx ry ⟨_, _, rfl, rfl, q.1, l _ _ _ _ q.2 (Aft.refl w) rfl⟩
  · have z1 := rs_other z1 (by intro ds; simp)
    have z2 := rs_other z2 (by intro ds; simp)
    subst z1 z2
    obtain ⟨a, xs, rfl, h1, l1⟩ := r1
    obtain ⟨b, ys, rfl, h2, l2⟩ := r2
    refine op_catA pins s σ H _ _ v u Q I rx ry ⟨a, b, xs, ys, rfl, rfl, h1, h2, by rw [l1.length, l2.length]; exact q.1, fun e => ?_, fun e e' => ?_, fun _ _ p hp => ?_⟩
    · subst e
      have : _ = [] := List.eq_nil_of_length_eq_zero (by rw [← l1.length]; rfl)
      subst this
      exact l _ _ _ _ q.2 (Aft.refl w) ⟨b, ys, rfl, h2, l2⟩
    · subst e'
      have : _ = [] := List.eq_nil_of_length_eq_zero (by rw [← l2.length]; rfl)
      subst this
      exact l _ _ _ _ q.2 (Aft.refl w) ⟨a, xs, rfl, h1, by rw [List.append_nil]; exact l1⟩
    · exact l _ _ _ _ q.2 (Aft.new w hp) (rp_newT w hp (l1.app l2))
  · obtain ⟨a, xs, rfl, h1, l1⟩ := rs_lst w r1 z1
    obtain ⟨b, ys, rfl, h2, l2⟩ := rs_lst w r2 z2
    refine op_cat pins s σ H _ _ v u Q I rx ry ⟨a, b, xs, ys, rfl, rfl, h1, h2, by rw [l1.length, l2.length]; exact q.1, fun p hp => ?_⟩
    exact l _ _ _ _ q.2 (Aft.new w hp) (rp_newL w hp (l1.app l2))
  · exact q.elim
theorem RpL.rep {K : PySem.W.Frag} {T : Sto} {H : Hp} {ds : List D} {xs : List V} (r : RpL K T H ds xs) : ∀ k : Nat, RpL K T H (List.replicate k ds).flatten (List.replicate k xs).flatten
  | 0 => rfl
  | k + 1 => by
    rw [List.replicate_succ, List.replicate_succ, List.flatten_cons, List.flatten_cons]
    exact r.app (RpL.rep r k)
def oMul' (S : Sto) (R : QD) : D → D → Prop
  | .int i, .int j => MulOk i j ∧ R (.int (i * j)) S
  | .lst xs, .int k => (-(2 ^ 63) ≤ k ∧ k < 2 ^ 63 ∧ xs.length * k.toNat ≤ sizeLine) ∧ R (.lst (List.replicate k.toNat xs).flatten) S
  | _, _ => False
def oMul : O2 := fun d e S R => oMul' S R (rs S d) e
theorem o_mul : G2 X (binaryOp .Mult) oMul := fun pins s σ H x y v u Q I rx ry ⟨d, e, S, F, R, w, r1, r2, q, l⟩ => by
  unfold oMul at q
  generalize z1 : rs S d = d' at q
  unfold oMul' at q
  split at q
  · have z1 := rs_other z1 (by intro ds; simp)
    subst z1
    cases r1; cases r2
    exact op_mulG pins s σ H _ _ v u Q I rx ry ⟨_, _, rfl, rfl, q.1, l _ _ _ _ q.2 (Aft.refl w) rfl⟩
  · obtain ⟨a, xs, rfl, h1, l1⟩ := rs_lst w r1 z1
    cases r2
    refine op_rep pins s σ H _ _ v u Q I rx ry ⟨a, _, xs, rfl, rfl, h1, q.1.1, q.1.2.1, by rw [l1.length]; exact q.1.2.2, fun p hp => ?_⟩
    exact l _ _ _ _ q.2 (Aft.new w hp) (rp_newL w hp (l1.rep _))
  · exact q.elim
/-- [..] * k, a list that is to change -/
def oMulM : O2 := fun d e S R => match rs S d, e with
  | .lst xs, .int k => (-(2 ^ 63) ≤ k ∧ k < 2 ^ 63 ∧ xs.length * k.toNat ≤ sizeLine) ∧ ∀ p, S p = none → R (.ref p) (up S p (.lst (List.replicate k.toNat xs).flatten))
  | _, _ => False
/-! ### == and != -/
mutual
def pyD : D → PyData
  | .non => .none
  | .bl b => .bool b
  | .int i => .int i
  | .str x => .str x
  | .tup ds => .tuple (pyDL ds)
  | .lst ds => .list (pyDL ds)
  | .scr ds => .list (pyDL ds)
  | .ref _ => .none
  | .ty _ => .none
def pyDL : List D → List PyData
  | [] => []
  | d :: ds => pyD d :: pyDL ds
end
/-- data, at most so deep -/
def pl : Nat → D → Bool
  | _, .non => true
  | _, .bl _ => true
  | _, .int _ => true
  | _, .str x => PyData.strOk x
  | n + 1, .tup ds => ds.all (pl n)
  | n + 1, .lst ds => ds.all (pl n)
  | n + 1, .scr ds => ds.all (pl n)
  | _, _ => false
def eqD (d e : D) : Bool := PyData.eqv (pyD d) (pyD e)
mutual
theorem pl_shape : ∀ (d : D) (n : Nat), pl n d = true → (pyD d).canLay0 = true ∧ (pyD d).depth ≤ n
  | .non, n, _ => ⟨rfl, Nat.zero_le _⟩
  | .bl _, n, _ => ⟨rfl, Nat.zero_le _⟩
  | .int _, n, _ => ⟨rfl, Nat.zero_le _⟩
  | .str x, n, h => ⟨by cases n <;> exact h, Nat.zero_le _⟩
  | .tup ds, 0, h => nomatch h
  | .lst ds, 0, h => nomatch h
  | .scr ds, 0, h => nomatch h
  | .ref _, 0, h => nomatch h
  | .ty _, 0, h => nomatch h
  | .ref _, _ + 1, h => nomatch h
  | .ty _, _ + 1, h => nomatch h
  | .tup ds, n + 1, h => by
    have z := pl_shapeL ds n h
    exact ⟨z.1, Nat.succ_le_succ z.2⟩
  | .lst ds, n + 1, h => by
    have z := pl_shapeL ds n h
    exact ⟨z.1, Nat.succ_le_succ z.2⟩
  | .scr ds, n + 1, h => by
    have z := pl_shapeL ds n h
    exact ⟨z.1, Nat.succ_le_succ z.2⟩
theorem pl_shapeL : ∀ (ds : List D) (n : Nat), ds.all (pl n) = true → PyData.canLayAll0 (pyDL ds) = true ∧ PyData.depthAll (pyDL ds) ≤ n
  | [], n, _ => ⟨rfl, Nat.zero_le _⟩
  | d :: ds, n, h => by
    rw [List.all_cons, Bool.and_eq_true] at h
    have a := pl_shape d n h.1
    have b := pl_shapeL ds n h.2
    refine ⟨?_, ?_⟩
    · show ((pyD d).canLay0 && PyData.canLayAll0 (pyDL ds)) = true
      rw [a.1, b.1]; rfl
    · show max (pyD d).depth (PyData.depthAll (pyDL ds)) ≤ n
      exact Nat.max_le.mpr ⟨a.2, b.2⟩
end
theorem pl_shaped {d : D} {n : Nat} (h : pl n d = true) (hn : n ≤ 64 := by decide) : SeqAt.shaped (pyD d) = true := by
  have z := pl_shape d n h
  unfold SeqAt.shaped
  rw [z.1, decide_eq_true (Nat.le_trans z.2 hn)]
  rfl
section
variable {K : PySem.W.Frag} {T : Sto} {H : Hp}
mutual
theorem dp_of : ∀ (d : D) (n : Nat) (v : V), pl n d = true → Rp K T H d v → Dp K H v (pyD d)
  | .non, n, v, _, r => by cases r; exact .non
  | .bl b, n, v, _, r => by cases r; exact .bl b
  | .int i, n, v, _, r => by cases r; exact .int i
  | .str x, n, v, _, r => by cases r; exact .str x
  | .tup ds, 0, _, h, _ => nomatch h
  | .lst ds, 0, _, h, _ => nomatch h
  | .scr ds, 0, _, h, _ => nomatch h
  | .ref _, 0, _, h, _ => nomatch h
  | .ty _, 0, _, h, _ => nomatch h
  | .ref _, _ + 1, _, h, _ => nomatch h
  | .ty _, _ + 1, _, h, _ => nomatch h
  | .tup ds, n + 1, v, h, r => by
    obtain ⟨a, xs, rfl, q, rl⟩ := r
    exact .tup q (dpL_of ds n xs h rl)
  | .lst ds, n + 1, v, h, r => by
    obtain ⟨a, xs, rfl, _, q, rl⟩ := r
    exact .lst (.of q) (dpL_of ds n xs h rl)
  | .scr ds, n + 1, v, h, r => by
    obtain ⟨a, xs, rfl, q, rl⟩ := r
    exact .lst q.sq (dpL_of ds n xs h rl)
theorem dpL_of : ∀ (ds : List D) (n : Nat) (vs : List V), ds.all (pl n) = true → RpL K T H ds vs → DpAll K H vs (pyDL ds)
  | [], n, vs, _, r => by rw [show vs = [] from r]; exact .nil
  | d :: ds, n, vs, h, r => by
    obtain ⟨x, xs, rfl, r1, r2⟩ := r
    rw [List.all_cons, Bool.and_eq_true] at h
    exact .cons (dp_of d n x h.1 r1) (dpL_of ds n xs h.2 r2)
end
end
/-- a list that changes may stand on top -/
theorem dp_rs {K : PySem.W.Frag} {S F : Sto} {H : Hp} {d : D} {v : V} {n : Nat} (w : Wd K S F H) (r : Rp K (cmb S F) H d v) (h : pl n (rs S d) = true) : Dp K H v (pyD (rs S d)) := by
  cases z : rs S d with
  | lst es =>
    rw [z] at h
    obtain ⟨a, xs, rfl, q, rl⟩ := rs_lst w r z
    cases n with
    | zero => cases h
    | succ n => exact .lst (.of q) (dpL_of es n xs h rl)
  | _ =>
    have z' := rs_other z (by intro ds; simp)
    subst z'
    rw [z] at h
    exact dp_of _ n _ h r
def oEq : O2 := fun d e S R => (pl 60 (rs S d) = true ∧ pl 60 (rs S e) = true) ∧ R (.bl (eqD (rs S d) (rs S e))) S
def oNe : O2 := fun d e S R => (pl 60 (rs S d) = true ∧ pl 60 (rs S e) = true) ∧ R (.bl (!eqD (rs S d) (rs S e))) S
theorem o_eq (hu : X.A.units + 64 < cLine) : G2 X (compareOp .Eq) oEq := op_weak (op_eqD hu) fun x y H Q ⟨d, e, S, F, R, w, r1, r2, q, l⟩ =>
  ⟨_, _, dp_rs w r1 q.1.1, dp_rs w r2 q.1.2, pl_shaped q.1.1, pl_shaped q.1.2, l _ _ _ _ q.2 (Aft.refl w) rfl⟩
theorem o_ne (hu : X.A.units + 64 < cLine) : G2 X (compareOp .NotEq) oNe := op_weak (op_neD hu) fun x y H Q ⟨d, e, S, F, R, w, r1, r2, q, l⟩ =>
  ⟨_, _, dp_rs w r1 q.1.1, dp_rs w r2 q.1.2, pl_shaped q.1.1, pl_shaped q.1.2, l _ _ _ _ q.2 (Aft.refl w) rfl⟩
/-- strs of any signs -/
def oEqS : O2 := fun d e S R => match d, e with
  | .str x, .str y => R (.bl (decide (x = y))) S
  | _, _ => False
def oNeS : O2 := fun d e S R => match d, e with
  | .str x, .str y => R (.bl (!decide (x = y))) S
  | _, _ => False
theorem dec_strV {x y : Str} : decide (V.str x = V.str y) = decide (x = y) := by
  by_cases h : x = y
  · subst h; simp
  · simp [h]
theorem o_neS : G2 X (compareOp .NotEq) oNeS := op_weak op_ne fun x y H Q ⟨d, e, S, F, R, w, r1, r2, q, l⟩ => by
  unfold oNeS at q
  split at q
  · cases r1; cases r2
    exact ⟨rfl, by rw [dec_strV]; exact l _ _ _ _ q (Aft.refl w) rfl⟩
  · exact q.elim
end
end Gx

/-! Gx, part 7: places, slices, methods, built-in functions. -/
namespace Gx
open PySem PySem.Spec PyProof.Rows L2

section
variable {K : PySem.W.Frag} {S F : Sto} {H : Hp} {T : Sto}
theorem RpL.atI {ds : List D} {xs : List V} {i : Int} {d : D} (r : RpL K T H ds xs) (h : L2.atI ds i = some d) : ∃ v, L2.atI xs i = some v ∧ Rp K T H d v := by
  unfold L2.atI at h ⊢
  rw [r.length]
  cases z : ixN ds.length i with
  | none => rw [z] at h; cases h
  | some j =>
    rw [z] at h
    obtain ⟨v, h1, h2⟩ := r.get (show ds[j]? = some d from h)
    exact ⟨v, h1, h2⟩
def cutD (ds : List D) (lo hi : Option Int) : List D := (ds.drop (HT.sIx ds.length 0 lo)).take (HT.sIx ds.length ds.length hi - HT.sIx ds.length 0 lo)
theorem RpL.cut {ds : List D} {xs : List V} {lo hi : Option Int} (r : RpL K T H ds xs) : RpL K T H (cutD ds lo hi) (cutV xs lo hi) := by
  unfold cutD cutV
  rw [r.length]
  exact (r.drop _).take _
end

section
variable {X : Cx} {e a b : Expr} {t ta tb : ET} {pos : Pos}
/-! ### a[i] -/
def GIx (X : Cx) (r : O2) : Prop := IxR X (L2O X.K r)
theorem g_ix {r : O2} (hr : GIx X r) (ha : GE X a ta) (hb : GE X b tb) (hs : PlainIx b := by exact fun _ _ => rfl) : GE X (.Subscript a b pos) (eBin r ta tb) := pe_weak (pe_ix hr ha hb hs) fun σ H Q h => l2_of h
def oIx : O2 := fun d e S R => match itemsOf (rs S d), e with
  | some ds, .int i => (match L2.atI ds i with
    | some x => R x S
    | none => False)
  | _, _ => False
theorem o_ix : GIx X oIx := fun value slice pins s σ H x y v u Q I rx ry ⟨d, e, S, F, R, w, r1, r2, q, l⟩ hs => by
  refine ix_seq value slice pins s σ H x y v u Q I rx ry ?_ hs
  unfold oIx at q
  split at q
  · rename_i ds i hd
    split at q
    · rename_i z hz
      obtain ⟨a, xs, rfl, hx, rl⟩ := seq_view w r1 hd
      cases r2
      obtain ⟨v, h1, h2⟩ := rl.atI hz
      rcases hx with hx | hx
      · exact .inl ⟨a, xs, _, v, rfl, rfl, hx, h1, l _ _ _ _ q (Aft.refl w) h2⟩
      · exact .inr (.inl ⟨a, xs, _, v, rfl, rfl, hx, h1, l _ _ _ _ q (Aft.refl w) h2⟩)
    · exact q.elim
  · exact q.elim

/-! ### a[i:j] -/
abbrev TO' := Tau → Sto → (Option Int → Sto → Prop) → Prop
def LO (K : PySem.W.Frag) (t : TO') : TO := fun σ H Q => ∃ (τ : Tau) (S F : Sto) (R : Option Int → Sto → Prop), Wd K S F H ∧ RpS K (cmb S F) H τ σ ∧ t τ S R ∧ ∀ o S' H', R o S' → Aft K S F H S' H' → Q o H'
def GO (X : Cx) (e : Option Expr) (t : TO') : Prop := PO X e (LO X.K t)
def pNone : TO' := fun _ S Q => Q none S
def pSome (t : ET) : TO' := fun τ S Q => t τ S fun d S1 => match d with
  | .int i => Q (some i) S1
  | _ => False
theorem go_none : GO X none pNone := ⟨fun pins s σ H Q I ⟨τ, S, F, R, w, r, q, l⟩ => po_none.run pins s σ H Q I (l _ _ _ q (Aft.refl w))⟩
theorem go_some (h : GE X e t) : GO X (some e) (pSome t) := ⟨fun pins s σ H Q I ⟨τ, S, F, R, w, r, q, l⟩ => (po_some h).run pins s σ H Q I (by
  refine ⟨τ, S, F, _, w, r, q, fun d S1 v H1 q1 a1 r1 => ?_⟩
  split at q1
  · cases r1
    exact ⟨_, rfl, l _ _ _ q1 a1⟩
  · exact q1.elim)⟩
def oCut (lo hi : Option Int) (S : Sto) (R : QD) : D → Prop
  | .tup ds => R (.tup (cutD ds lo hi)) S
  | .lst ds => R (.lst (cutD ds lo hi)) S
  | .scr ds => R (.lst (cutD ds lo hi)) S
  | _ => False
def eSl (te : ET) (tl th : TO') : ET := fun τ S Q => te τ S fun d S1 => tl τ S1 fun lo S2 => th τ S2 fun hi S3 => oCut lo hi S3 Q (rs S3 d)
def rSlX (K : PySem.W.Frag) : V → Option Int → Option Int → Hp → VK → Prop := fun x lo hi H Q => rSlA K x lo hi H Q ∨ rSlL K x lo hi H Q
theorem sl_X : SlR X (rSlX X.K) := sl_tupA.or sl_list
theorem cutD_whole {ds : List D} {lo hi : Option Int} (h : HT.sIx ds.length 0 lo = 0 ∧ HT.sIx ds.length ds.length hi = ds.length) : cutD ds lo hi = ds := by
  unfold cutD
  rw [h.1, h.2, List.drop_zero, Nat.sub_zero, List.take_length]
theorem g_slice {lo hi : Option Expr} {tl th : TO'} {p2 : Pos} (he : GE X e t) (hl : GO X lo tl) (hu : GO X hi th) : GE X (.Subscript e (.Slice lo hi none p2) pos) (eSl t tl th) :=
  pe_weak (pe_slice sl_X he hl hu) fun σ H Q ⟨τ, S, F, R, w, r, q, g⟩ => by
    refine ⟨τ, S, F, _, w, r, q, fun d S1 v H1 q1 a1 r1 => ?_⟩
    refine ⟨τ, S1, F, _, a1.wd, a1.rps w r, q1, fun lo S2 H2 q2 a2 => ?_⟩
    refine ⟨τ, S2, F, _, a2.wd, (a1.trans a2).rps w r, q2, fun hi S3 H3 q3 a3 => ?_⟩
    have rd := (a2.trans a3).rp a1.wd r1
    have a13 := (a1.trans a2).trans a3
    generalize z : rs S3 d = d' at q3
    unfold oCut at q3
    split at q3
    · have z := rs_other z (by intro ds; simp)
      subst z
      obtain ⟨a, xs, rfl, hs, rl⟩ := rd
      refine .inl ⟨a, xs, rfl, hs, fun h => ?_, fun h p hp => ?_⟩
      · rw [rl.length] at h
        rw [cutD_whole h] at q3
        exact g _ _ _ _ q3 a13 ⟨a, xs, rfl, hs, rl⟩
      · exact g _ _ _ _ q3 (a13.trans (Aft.new a3.wd hp)) (rp_newT a3.wd hp rl.cut)
    · obtain ⟨a, xs, rfl, hs, rl⟩ := rs_lst a3.wd rd z
      exact .inr ⟨a, xs, rfl, .of hs, fun p hp => g _ _ _ _ q3 (a13.trans (Aft.new a3.wd hp)) (rp_newL a3.wd hp rl.cut)⟩
    · have z := rs_other z (by intro ds; simp)
      subst z
      obtain ⟨a, xs, rfl, hs, rl⟩ := rd
      exact .inr ⟨a, xs, rfl, hs.sq, fun p hp => g _ _ _ _ q3 (a13.trans (Aft.new a3.wd hp)) (rp_newL a3.wd hp rl.cut)⟩
    · exact q3.elim

/-! ### xs[i] = v -/
def oSet : OSet := fun d e f S R => match d, e with
  | .ref p, .int i => (match S p with
    | some (.lst ds) => (match ixN ds.length i with
      | some j => R (up S p (.lst (ds.set j f)))
      | none => False)
    | _ => False)
  | _, _ => False
theorem o_set : GSet X oSet := fun pins s σ H o i v u1 u2 u3 Q I ro ri rv ⟨d, e, f, S, F, R, w, r1, r2, r3, q, l⟩ => by
  refine set_list pins s σ H o i v u1 u2 u3 Q I ro ri rv ?_
  unfold oSet at q
  split at q
  · rename_i p k
    split at q
    · rename_i ds hp
      split at q
      · rename_i j hj
        cases r1; cases r2
        obtain ⟨xs, hx, rl⟩ := w.ok p _ (cmb_l hp)
        exact ⟨p, xs, k, j, rfl, rfl, hx, by rw [rl.length]; exact hj, l _ _ q (Aft.set w hp (sto_set w hp (rl.set j r3)))⟩
      · exact q.elim
    · exact q.elim
  · exact q.elim

/-! ### methods of lists -/
def GM (X : Cx) (id : String) (r : D → OL) : Prop := MtR X id (fun x xs H Q => ∃ (d : D) (ds : List D) (S F : Sto) (R : QD), Wd X.K S F H ∧ Rp X.K (cmb S F) H d x ∧ RpL X.K (cmb S F) H ds xs ∧ r d ds S R ∧
  ∀ d S' v H', R d S' → Aft X.K S F H S' H' → Rp X.K (cmb S' F) H' d v → Q v H')
/-- of the kind of a list -/
def isL (S : Sto) (d : D) : Prop := match rs S d with
  | .lst _ => True
  | .scr _ => True
  | _ => False
theorem tyV_l {K : PySem.W.Frag} {S F : Sto} {H : Hp} {d : D} {v : V} (w : Wd K S F H) (r : Rp K (cmb S F) H d v) (h : isL S d) : tyV K "list" v H := by
  unfold isL at h
  split at h
  · rename_i ds z
    obtain ⟨a, xs, rfl, hs, rl⟩ := rs_lst w r z
    exact .inl ⟨rfl, xs, .of hs⟩
  · rename_i ds z
    have z := rs_other z (by intro ds; simp)
    subst z
    obtain ⟨a, xs, rfl, hs, rl⟩ := r
    exact .inl ⟨rfl, xs, hs.sq⟩
  · exact h.elim
variable {o : Expr} {to : ET} {u : AT} {es : List Expr} {name : Str} {apos cpos : Pos} {id : String} {r : D → OL}
def eMt (r : D → OL) (to : ET) (u : AT) : ET := fun τ S Q => to τ S fun d S1 => isL S1 d ∧ u τ S1 fun ds S2 => r d ds S2 Q
theorem g_mt (slot : Slot "list" name id) (hty : typeOf (.builtin id) = pure (.type "method_descriptor")) (hm : GM X id r) (ho : GE X o to) (ha : GA X (e :: es) u)
    (hbase : attributeBase o name X.env (eval o X.env) = eval o X.env := by rfl)
    (hfew : ((backTo cpos (starEach (e :: es) X.env)).all (fun x => !x.1) && (backToKw cpos (keywordEach [] X.env)).all (fun x => x.1.isSome) && decide ((e :: es).length + ([] : List Keyword).length + (if ([] : List Keyword).isEmpty then 0 else 1) < 30)) = true := by rfl)
    (hline : (apos.endLine == cpos.line) = true := by rfl) (hs : starEach (e :: es) X.env = (false, eval e X.env) :: starEach es X.env := by rfl) (hplain : (backTo cpos (starEach es X.env)).any (·.1) = false := by rfl) :
    GE X (.Call (.Attribute o name apos) (e :: es) [] cpos) (eMt r to u) :=
  pe_weak (pe_bm PySem.F.plainAttrs_list slot hty hm ho ha hbase hfew hline hs hplain) fun σ H Q ⟨τ, S, F, R, w, rs, q, g⟩ => by
    refine ⟨τ, S, F, _, w, rs, q, fun d S1 v H1 q1 a1 r1 => ⟨tyV_l a1.wd r1 q1.1, ?_⟩⟩
    exact ⟨τ, S1, F, _, a1.wd, a1.rps w rs, q1.2, fun ds S2 vs H2 q2 a2 r2 => ⟨d, ds, S2, F, R, a2.wd, a2.rp a1.wd r1, r2, q2, fun d S3 v H3 q3 a3 r3 => g _ _ _ _ q3 ((a1.trans a2).trans a3) r3⟩⟩
def eMt0 (r : D → OL) (to : ET) : ET := fun τ S Q => to τ S fun d S1 => isL S1 d ∧ r d [] S1 Q
def mAppend : D → OL := fun d ds S R => match d, ds with
  | .ref p, [y] => (match S p with
    | some (.lst xs) => xs.length < sizeLine ∧ R .non (up S p (.lst (xs ++ [y])))
    | _ => False)
  | _, _ => False
theorem m_append : GM X "list.append" mAppend := fun pins s σ H x xs v us Q I rx rv ⟨d, ds, S, F, R, w, r1, r2, q, l⟩ => by
  refine mt_append pins s σ H x xs v us Q I rx rv ?_
  unfold mAppend at q
  split at q
  · rename_i p y
    split at q
    · rename_i es hp
      cases r1
      obtain ⟨x1, _, rfl, ry, rfl⟩ := r2
      obtain ⟨zs, hx, rl⟩ := w.ok p _ (cmb_l hp)
      refine ⟨p, zs, x1, rfl, rfl, hx, by rw [rl.length]; exact q.1, l _ _ _ _ q.2 (Aft.set w hp (sto_set w hp (rl.app ⟨x1, [], rfl, ry, rfl⟩))) rfl⟩
    · exact q.elim
  · exact q.elim
end

/-! ### built-in functions -/
section
variable {X : Cx}
def cLen : OL := fun ds S R => match ds with
  | [d] => (match itemsOf (rs S d) with
    | some es => R (.int es.length) S
    | none => (match d with
      | .str x => x.length ≤ sizeLine ∧ R (.int x.length) S
      | _ => False))
  | _ => False
theorem c_len : GC X (.builtin "len") cLen := fun pins s σ H vs us Q I r ⟨ds, S, F, R, w, r1, q, l⟩ => by
  unfold cLen at q
  split at q
  · rename_i d
    obtain ⟨x, _, rfl, rx, rfl⟩ := r1
    split at q
    · rename_i es he
      obtain ⟨a, xs, rfl, hx, rl⟩ := seq_view w rx he
      exact call_len_seq pins s σ H _ us Q I r ⟨a, xs, rfl, hx, by rw [rl.length]; exact l _ _ _ _ q (Aft.refl w) rfl⟩
    · split at q
      · cases rx
        exact call_len_str pins s σ H _ us Q I r ⟨_, rfl, q.1, l _ _ _ _ q.2 (Aft.refl w) rfl⟩
      · exact q.elim
  · exact q.elim
def cList : OL := fun ds S R => match ds with
  | [d] => (match itemsOf (rs S d) with
    | some es => R (.lst es) S
    | none => False)
  | _ => False
/-- list(xs), a list that is to change -/
def cListM : OL := fun ds S R => match ds with
  | [d] => (match itemsOf (rs S d) with
    | some es => ∀ p, S p = none → R (.ref p) (up S p (.lst es))
    | none => False)
  | _ => False
def cTuple : OL := fun ds S R => match ds with
  | [d] => (match itemsOf (rs S d) with
    | some es => R (.tup es) S
    | none => False)
  | _ => False
theorem c_tuple : GC X (.type "tuple") cTuple := fun pins s σ H vs us Q I r ⟨ds, S, F, R, w, r1, q, l⟩ => by
  refine call_tuple_of pins s σ H vs us Q I r ?_
  unfold cTuple at q
  split at q
  · rename_i d
    obtain ⟨x, _, rfl, rx, rfl⟩ := r1
    split at q
    · rename_i es he
      obtain ⟨a, xs, rfl, hx, rl⟩ := seq_view w rx he
      refine ⟨a, xs, rfl, hx.imp (fun hx => ⟨hx, fun p hp => l _ _ _ _ q (Aft.new w hp) (rp_newT w hp rl)⟩) fun hx => ⟨hx, l _ _ _ _ q (Aft.refl w) ⟨a, xs, rfl, hx, rl⟩⟩⟩
    · exact q.elim
  · exact q.elim
theorem list_of_seq {K : PySem.W.Frag} {S F : Sto} {H : Hp} {d : D} {v : V} {ds : List D} (w : Wd K S F H) (r : Rp K (cmb S F) H d v) (h : rs S d = .lst ds) : ∃ a xs, v = .ref a ∧ SqL K H a xs ∧ RpL K (cmb S F) H ds xs := by
  obtain ⟨a, xs, e, q, rl⟩ := rs_lst w r h
  exact ⟨a, xs, e, .of q, rl⟩
/-- the ints, the truth values of data -/
def intsOf : List D → Option (List Int)
  | [] => some []
  | .int i :: ds => (intsOf ds).map (i :: ·)
  | _ :: _ => none
def blsOf : List D → Option (List Bool)
  | [] => some []
  | .bl i :: ds => (blsOf ds).map (i :: ·)
  | _ :: _ => none
theorem intsOf_map : ∀ ns : List Int, intsOf (ns.map D.int) = some ns
  | [] => rfl
  | n :: ns => by show (intsOf (ns.map D.int)).map (n :: ·) = _; rw [intsOf_map ns]; rfl
theorem blsOf_map : ∀ ns : List Bool, blsOf (ns.map D.bl) = some ns
  | [] => rfl
  | n :: ns => by show (blsOf (ns.map D.bl)).map (n :: ·) = _; rw [blsOf_map ns]; rfl
theorem intsOf_eq : ∀ {ds : List D} {ns : List Int}, intsOf ds = some ns → ds = ns.map D.int
  | [], ns, h => by cases h; rfl
  | .int i :: ds, ns, h => by
    have h : (intsOf ds).map (i :: ·) = some ns := h
    cases z : intsOf ds with
    | none => rw [z] at h; cases h
    | some ms => rw [z] at h; cases h; rw [intsOf_eq z]; rfl
  | .non :: _, _, h | .bl _ :: _, _, h | .str _ :: _, _, h | .tup _ :: _, _, h | .lst _ :: _, _, h | .scr _ :: _, _, h | .ref _ :: _, _, h | .ty _ :: _, _, h => nomatch h
theorem blsOf_eq : ∀ {ds : List D} {ns : List Bool}, blsOf ds = some ns → ds = ns.map D.bl
  | [], ns, h => by cases h; rfl
  | .bl i :: ds, ns, h => by
    have h : (blsOf ds).map (i :: ·) = some ns := h
    cases z : blsOf ds with
    | none => rw [z] at h; cases h
    | some ms => rw [z] at h; cases h; rw [blsOf_eq z]; rfl
  | .non :: _, _, h | .int _ :: _, _, h | .str _ :: _, _, h | .tup _ :: _, _, h | .lst _ :: _, _, h | .scr _ :: _, _, h | .ref _ :: _, _, h | .ty _ :: _, _, h => nomatch h
def lstInts (S : Sto) (d : D) : Option (List Int) := match rs S d with
  | .lst es => intsOf es
  | _ => none
def lstBls (S : Sto) (d : D) : Option (List Bool) := match rs S d with
  | .lst es => blsOf es
  | _ => none
theorem ints_view {K : PySem.W.Frag} {S F : Sto} {H : Hp} {d : D} {v : V} {ns : List Int} (w : Wd K S F H) (r : Rp K (cmb S F) H d v) (h : lstInts S d = some ns) : ∃ a, v = .ref a ∧ SqL K H a (ns.map V.int) := by
  unfold lstInts at h
  split at h
  · rename_i es z
    obtain ⟨a, xs, e, q, rl⟩ := list_of_seq w r z
    rw [intsOf_eq h] at rl
    rw [RpL.ints rl] at q
    exact ⟨a, e, q⟩
  · cases h
theorem bls_view {K : PySem.W.Frag} {S F : Sto} {H : Hp} {d : D} {v : V} {ns : List Bool} (w : Wd K S F H) (r : Rp K (cmb S F) H d v) (h : lstBls S d = some ns) : ∃ a, v = .ref a ∧ SqL K H a (ns.map V.bl) := by
  unfold lstBls at h
  split at h
  · rename_i es z
    obtain ⟨a, xs, e, q, rl⟩ := list_of_seq w r z
    rw [blsOf_eq h] at rl
    rw [RpL.bls rl] at q
    exact ⟨a, e, q⟩
  · cases h
def cSum : OL := fun ds S R => match ds with
  | [d] => (match lstInts S d with
    | some ns => R (.int ns.sum) S
    | none => False)
  | _ => False
def cAll : OL := fun ds S R => match ds with
  | [d] => (match lstBls S d with
    | some ns => R (.bl (ns.all id)) S
    | none => False)
  | _ => False
theorem c_all (hc : X.calm = true) : GC X (.builtin "all") cAll := fun pins s σ H vs us Q I r ⟨ds, S, F, R, w, r1, q, l⟩ => by
  refine cr_all hc pins s σ H vs us Q I r ?_
  unfold cAll at q
  split at q
  · obtain ⟨x, _, rfl, rx, rfl⟩ := r1
    split at q
    · rename_i es he
      obtain ⟨a, rfl, hx⟩ := bls_view w rx he
      exact ⟨a, _, rfl, hx, l _ _ _ _ q (Aft.refl w) rfl⟩
    · exact q.elim
  · exact q.elim
def cAny : OL := fun ds S R => match ds with
  | [d] => (match lstBls S d with
    | some ns => R (.bl (ns.any id)) S
    | none => False)
  | _ => False
theorem c_any (hc : X.calm = true) : GC X (.builtin "any") cAny := fun pins s σ H vs us Q I r ⟨ds, S, F, R, w, r1, q, l⟩ => by
  refine cr_any hc pins s σ H vs us Q I r ?_
  unfold cAny at q
  split at q
  · obtain ⟨x, _, rfl, rx, rfl⟩ := r1
    split at q
    · rename_i es he
      obtain ⟨a, rfl, hx⟩ := bls_view w rx he
      exact ⟨a, _, rfl, hx, l _ _ _ _ q (Aft.refl w) rfl⟩
    · exact q.elim
  · exact q.elim
def cInt : OL := fun ds S R => match ds with
  | [.int i] => R (.int i) S
  | [.bl b] => R (.int (if b then 1 else 0)) S
  | _ => False
theorem c_int : GC X (.type "int") cInt := fun pins s σ H vs us Q I r ⟨ds, S, F, R, w, r1, q, l⟩ => by
  refine call_int1 pins s σ H vs us Q I r ?_
  unfold cInt at q
  split at q
  · obtain ⟨x, _, rfl, rx, rfl⟩ := r1
    cases rx
    exact .inl ⟨_, rfl, l _ _ _ _ q (Aft.refl w) rfl⟩
  · obtain ⟨x, _, rfl, rx, rfl⟩ := r1
    cases rx
    exact .inr ⟨_, rfl, l _ _ _ _ q (Aft.refl w) rfl⟩
  · exact q.elim
def cAbs : OL := fun ds S R => match ds with
  | [.int i] => R (.int (if i < 0 then -i else i)) S
  | _ => False
theorem c_abs : GC X (.builtin "abs") cAbs := fun pins s σ H vs us Q I r ⟨ds, S, F, R, w, r1, q, l⟩ => by
  refine call_abs pins s σ H vs us Q I r ?_
  unfold cAbs at q
  split at q
  · obtain ⟨x, _, rfl, rx, rfl⟩ := r1
    cases rx
    exact ⟨_, rfl, l _ _ _ _ q (Aft.refl w) rfl⟩
  · exact q.elim
def cMax2 : OL := fun ds S R => match ds with
  | [.int i, .int j] => R (.int (if j > i then j else i)) S
  | _ => False
def cMin2 : OL := fun ds S R => match ds with
  | [.int i, .int j] => R (.int (if j < i then j else i)) S
  | _ => False
theorem c_max2 (hc : X.calm = true) : GC X (.builtin "max") cMax2 := fun pins s σ H vs us Q I r ⟨ds, S, F, R, w, r1, q, l⟩ => by
  refine call_max2 hc pins s σ H vs us Q I r ?_
  unfold cMax2 at q
  split at q
  · obtain ⟨x, _, rfl, rx, y, _, rfl, ry, rfl⟩ := r1
    cases rx; cases ry
    exact ⟨_, _, rfl, l _ _ _ _ q (Aft.refl w) rfl⟩
  · exact q.elim
theorem c_min2 (hc : X.calm = true) : GC X (.builtin "min") cMin2 := fun pins s σ H vs us Q I r ⟨ds, S, F, R, w, r1, q, l⟩ => by
  refine call_min2 hc pins s σ H vs us Q I r ?_
  unfold cMin2 at q
  split at q
  · obtain ⟨x, _, rfl, rx, y, _, rfl, ry, rfl⟩ := r1
    cases rx; cases ry
    exact ⟨_, _, rfl, l _ _ _ _ q (Aft.refl w) rfl⟩
  · exact q.elim
def cDivmod : OL := fun ds S R => match ds with
  | [.int i, .int j] => CDiv i j ∧ R (.tup [.int (i / j), .int (i % j)]) S
  | _ => False
theorem c_divmod : GC X (.builtin "divmod") cDivmod := fun pins s σ H vs us Q I r ⟨ds, S, F, R, w, r1, q, l⟩ => by
  refine call_divmod pins s σ H vs us Q I r ?_
  unfold cDivmod at q
  split at q
  · obtain ⟨x, _, rfl, rx, y, _, rfl, ry, rfl⟩ := r1
    cases rx; cases ry
    exact ⟨_, _, rfl, q.1, fun p hp => l _ _ _ _ q.2 (Aft.new w hp) (rp_newT w hp ⟨_, _, rfl, rfl, _, _, rfl, rfl, rfl⟩)⟩
  · exact q.elim
def cGcd : OL := fun ds S R => match ds with
  | [.int i, .int j] => R (.int ((Nat.gcd i.natAbs j.natAbs : Nat) : Int)) S
  | _ => False
theorem c_gcd : GC X (.builtin "math.gcd") cGcd := fun pins s σ H vs us Q I r ⟨ds, S, F, R, w, r1, q, l⟩ => by
  refine cr_gcd pins s σ H vs us Q I r ?_
  unfold cGcd at q
  split at q
  · obtain ⟨x, _, rfl, rx, y, _, rfl, ry, rfl⟩ := r1
    cases rx; cases ry
    exact ⟨_, _, rfl, l _ _ _ _ q (Aft.refl w) rfl⟩
  · exact q.elim
/-! isinstance by a built-in class -/
def isiD (n : String) : D → Bool
  | .non => false
  | .bl _ => n == "bool" || n == "int"
  | .int _ => n == "int"
  | .str _ => n == "str"
  | .tup _ => n == "tuple"
  | .lst _ => n == "list"
  | .scr _ => n == "list"
  | _ => false
def tyN : D → String
  | .non => "NoneType"
  | .bl _ => "bool"
  | .int _ => "int"
  | .str _ => "str"
  | .tup _ => "tuple"
  | _ => "list"
def isPlainTop : D → Bool
  | .ref _ => false
  | .ty _ => false
  | _ => true
def cIsi : OL := fun ds S R => match ds with
  | [d, .ty n] => (isPlainTop (rs S d) = true ∧ n ∈ ["int", "bool", "str", "tuple", "list", "dict"]) ∧ R (.bl (isiD n (rs S d))) S
  | _ => False
theorem kit_all : ∀ a ∈ ["NoneType", "bool", "int", "str", "tuple", "list"], ∀ b ∈ ["int", "bool", "str", "tuple", "list", "dict"], kitB a b = some (a == b || (a == "bool" && b == "int")) := by decide +kernel
theorem isiD_eq {d : D} {n : String} (h : isPlainTop d = true) (hn : n ∈ ["int", "bool", "str", "tuple", "list", "dict"]) : kitB (tyN d) n = some (isiD n d) := by
  have z : ∀ a ∈ ["NoneType", "bool", "int", "str", "tuple", "list"], ∀ b ∈ ["int", "bool", "str", "tuple", "list", "dict"], ∀ d : D, isPlainTop d = true → tyN d = a → (a == b || (a == "bool" && b == "int")) = isiD b d := by
    intro a ha b hb d hd e
    subst e
    simp only [List.mem_cons, List.not_mem_nil, or_false] at hb
    cases d <;> first | (rcases hb with rfl | rfl | rfl | rfl | rfl | rfl <;> rfl) | (exact nomatch hd)
  have ma : tyN d ∈ ["NoneType", "bool", "int", "str", "tuple", "list"] := by cases d <;> first | simp [tyN] | (exact nomatch h)
  rw [kit_all _ ma _ hn, z _ ma _ hn d h rfl]
theorem tyX_of {K : PySem.W.Frag} {S F : Sto} {H : Hp} {d : D} {v : V} (w : Wd K S F H) (r : Rp K (cmb S F) H d v) (h : isPlainTop (rs S d) = true) : TyX K H v (.type (tyN (rs S d))) := by
  cases z : rs S d with
  | lst ds =>
    obtain ⟨a, xs, rfl, q, _⟩ := rs_lst w r z
    exact .base (.lst q)
  | tup ds =>
    have z := rs_other z (by intro ds; simp)
    subst z
    obtain ⟨a, xs, rfl, q, _⟩ := r
    rcases q with (q | ⟨ob, q⟩) | ⟨ob, its, n, q, c, _⟩
    · exact .base (.tup q)
    · exact .fTuple q
    · exact .kTuple q c
  | scr ds =>
    have z := rs_other z (by intro ds; simp)
    subst z
    obtain ⟨a, xs, rfl, q, _⟩ := r
    rcases q.sq with (q | ⟨ob, q⟩) | ⟨ob, its, n, q, c, _⟩
    · exact .base (.lst q)
    · exact .base (.frz q)
    · exact .kList q c
  | ref p => rw [z] at h; cases h
  | ty n => rw [z] at h; cases h
  | non =>
    have z := rs_other z (by intro ds; simp)
    subst z
    cases r
    exact .base .non
  | bl b =>
    have z := rs_other z (by intro ds; simp)
    subst z
    cases r
    exact .base (.bl b)
  | int b =>
    have z := rs_other z (by intro ds; simp)
    subst z
    cases r
    exact .base (.int b)
  | str b =>
    have z := rs_other z (by intro ds; simp)
    subst z
    cases r
    exact .base (.str b)
theorem c_isi : GC X (.builtin "isinstance") cIsi := fun pins s σ H vs us Q I r ⟨ds, S, F, R, w, r1, q, l⟩ => by
  refine call_isi pins s σ H vs us Q I r ?_
  unfold cIsi at q
  split at q
  · obtain ⟨x, _, rfl, rx, y, _, rfl, ry, rfl⟩ := r1
    cases ry
    exact ⟨x, _, _, _, _, rfl, .ty _, tyX_of w rx q.1.1, kit_ty (isiD_eq q.1.1 q.1.2), l _ _ _ _ q.2 (Aft.refl w) rfl⟩
  · exact q.elim
end
end Gx

/-! Gx, part 8: in, chains, repr, keywords, constants, the names of built-ins. -/
namespace Gx
open PySem PySem.Spec PyProof.Rows L2

theorem Room_units65 {k : Nat} {A : Around} (r : Room k A) : A.units + 65 < cLine := by have := r.un; omega
section
variable {X : Cx} {a b c : Expr} {ta tb tc : ET} {pos : Pos}
/-! ### in -/
/-- x in xs, a list or a tuple of data -/
def inD (d : D) (ds : List D) : Bool := ds.any fun e => eqD e d
def oIn : O2 := fun d e S R => match rs S e with
  | .lst ds => (pl 60 d = true ∧ pl 60 (.lst ds) = true) ∧ R (.bl (inD d ds)) S
  | .tup ds => (pl 60 d = true ∧ pl 60 (.tup ds) = true) ∧ R (.bl (inD d ds)) S
  | _ => False
def oNin : O2 := fun d e S R => match rs S e with
  | .lst ds => (pl 60 d = true ∧ pl 60 (.lst ds) = true) ∧ R (.bl (!inD d ds)) S
  | .tup ds => (pl 60 d = true ∧ pl 60 (.tup ds) = true) ∧ R (.bl (!inD d ds)) S
  | _ => False
theorem pyDL_any {d : D} : ∀ ds : List D, ((pyDL ds).any fun z => PyData.eqv z (pyD d)) = inD d ds
  | [] => rfl
  | e :: ds => by
    show (PyData.eqv (pyD e) (pyD d) || (pyDL ds).any fun z => PyData.eqv z (pyD d)) = (eqD e d || inD d ds)
    rw [pyDL_any ds]; rfl
theorem room_in {d : PyData} {ds : List PyData} {A : Around} (h : SeqAt.shaped d = true) (hu : A.units + 65 < cLine) : A.units + 1 + min (PyData.depthAll ds) d.depth < cLine := by
  have h1 := SeqAt.depth_of_shaped h
  have h2 := Nat.min_le_right (PyData.depthAll ds) d.depth
  omega
theorem o_in (hu : X.A.units + 65 < cLine) : G2 X (compareOp .In) oIn := fun pins s σ H x y v u Q I rx ry ⟨d, e, S, F, R, w, r1, r2, q, l⟩ => by
  unfold oIn at q
  generalize z : rs S e = e' at q
  have sh : ∀ ds : List D, ds.all (pl 59) = true → PyData.canLayAll0 (pyDL ds) = true := fun ds h => (pl_shapeL ds 59 h).1
  split at q
  · rename_i ds
    have dy := dp_rs w r2 (n := 60) (by rw [z]; exact q.1.2)
    rw [z] at dy
    obtain ⟨as, ra⟩ := Dp.reads I _ x v (dp_of d 60 x q.1.1 r1) rx
    obtain ⟨bs, rb⟩ := Dp.reads I _ y u dy ry
    refine SeqAt.in_list_reads rb ra (sh ds q.1.2) (pl_shape d 60 q.1.1).1 (room_in (pl_shaped q.1.1) hu) ?_
    rw [pyDL_any]
    exact ⟨.bl _, H, I, rfl, l _ _ _ _ q.2 (Aft.refl w) rfl⟩
  · rename_i ds
    have dy := dp_rs w r2 (n := 60) (by rw [z]; exact q.1.2)
    rw [z] at dy
    obtain ⟨as, ra⟩ := Dp.reads I _ x v (dp_of d 60 x q.1.1 r1) rx
    obtain ⟨bs, rb⟩ := Dp.reads I _ y u dy ry
    refine SeqAt.in_tuple_reads rb ra (sh ds q.1.2) (pl_shape d 60 q.1.1).1 (room_in (pl_shaped q.1.1) hu) ?_
    rw [pyDL_any]
    exact ⟨.bl _, H, I, rfl, l _ _ _ _ q.2 (Aft.refl w) rfl⟩
  · exact q.elim
theorem o_nin (hu : X.A.units + 65 < cLine) : G2 X (compareOp .NotIn) oNin := fun pins s σ H x y v u Q I rx ry ⟨d, e, S, F, R, w, r1, r2, q, l⟩ => by
  unfold oNin at q
  generalize z : rs S e = e' at q
  have sh : ∀ ds : List D, ds.all (pl 59) = true → PyData.canLayAll0 (pyDL ds) = true := fun ds h => (pl_shapeL ds 59 h).1
  split at q
  · rename_i ds
    have dy := dp_rs w r2 (n := 60) (by rw [z]; exact q.1.2)
    rw [z] at dy
    obtain ⟨as, ra⟩ := Dp.reads I _ x v (dp_of d 60 x q.1.1 r1) rx
    obtain ⟨bs, rb⟩ := Dp.reads I _ y u dy ry
    refine SeqAt.notIn_list_reads rb ra (sh ds q.1.2) (pl_shape d 60 q.1.1).1 (room_in (pl_shaped q.1.1) hu) ?_
    rw [pyDL_any]
    exact ⟨.bl _, H, I, rfl, l _ _ _ _ q.2 (Aft.refl w) rfl⟩
  · rename_i ds
    have dy := dp_rs w r2 (n := 60) (by rw [z]; exact q.1.2)
    rw [z] at dy
    obtain ⟨as, ra⟩ := Dp.reads I _ x v (dp_of d 60 x q.1.1 r1) rx
    obtain ⟨bs, rb⟩ := Dp.reads I _ y u dy ry
    refine SeqAt.notIn_tuple_reads rb ra (sh ds q.1.2) (pl_shape d 60 q.1.1).1 (room_in (pl_shaped q.1.1) hu) ?_
    rw [pyDL_any]
    exact ⟨.bl _, H, I, rfl, l _ _ _ _ q.2 (Aft.refl w) rfl⟩
  · exact q.elim

/-! ### a < b < c -/
def eChain (r r' : O2) (ta tb tc : ET) : ET := fun τ S Q => ta τ S fun d S1 => tb τ S1 fun e S2 => r d e S2 fun z S3 => match z with
  | .bl b => if b = true then tc τ S3 fun f S4 => r' e f S4 Q else Q (.bl false) S3
  | _ => False
theorem chain_of {r r' : O2} {σ : L2.St} {H : Hp} {Q : VK} (h : LE X.K (eChain r r' ta tb tc) σ H Q) : tChain (L2O X.K r) (L2O X.K r') (LE X.K ta) (LE X.K tb) (LE X.K tc) σ H Q := by
  obtain ⟨τ, S, F, R, w, rs, q, g⟩ := h
  refine le_bin ⟨τ, S, F, w, rs, q, fun d e S' v u H' q' a' r1 r2 => ?_⟩
  refine ⟨d, e, S', F, _, a'.wd, r1, r2, q', fun z S2 v' H2 q2 a2 r2' => ?_⟩
  have a02 := a'.trans a2
  split at q2
  · rename_i b
    refine ⟨b, r2', ?_⟩
    cases b with
    | true =>
      refine ⟨τ, S2, F, _, a2.wd, a02.rps w rs, q2, fun f S3 v3 H3 q3 a3 r3 => ?_⟩
      exact ⟨e, f, S3, F, R, a3.wd, (a2.trans a3).rp a'.wd r2, r3, q3, fun d' S4 v4 H4 q4 a4 r4 => g _ _ _ _ q4 ((a02.trans a3).trans a4) r4⟩
    | false => exact g _ _ _ _ q2 a02 rfl
  · exact q2.elim
theorem g_chain {op op' : CmpOp} {r r' : O2} (ho : G2 X (compareOp op) r) (ho' : G2 X (compareOp op') r') (ha : GE X a ta) (hb : GE X b tb) (hc : GE X c tc) (hm : lastMarks [op, op'] [b, c] = false := by with_unfolding_all rfl) :
    GE X (.Compare a [op, op'] [b, c] pos) (eChain r r' ta tb tc) := pe_weak (pe_chain ho ho' ha hb hc hm) fun σ H Q h => chain_of h
theorem gt_chain {op op' : CmpOp} {r r' : O2} (ho : G2 X (compareOp op) r) (ho' : G2 X (compareOp op') r') (ha : GE X a ta) (hb : GE X b tb) (hc : GE X c tc) (hm : lastMarks [op, op'] [b, c] = false := by with_unfolding_all rfl) :
    GT X (.Compare a [op, op'] [b, c] pos) (tBl (eChain r r' ta tb tc)) := pt_weak (pt_chain ho ho' ha hb hc hm) fun σ H Q h => by
  obtain ⟨τ, S, F, R, w, r, q, g⟩ := lt_of h
  exact chain_of ⟨τ, S, F, R, w, r, q, g⟩

/-! ### a comprehension within a comprehension -/
section
variable {X0 : Cx} {s0 : Shared} {H0 : Hp} {sc : Scope} {cl0 : List (Str × Addr)} {C0 : Addr} {fp0 : List Addr} {N : List Str} {osc : Scope} {ti : IT'} {g : TG'} {tt : TT'} {te : ET} {elt tg iter : Expr} {ifs : List Expr} {scope : Scope} {own : List (Str × Nat)}
abbrev XB (X0 : Cx) (s0 : Shared) (H0 : Hp) (sc : Scope) (C0 : Addr) (cl0 : List (Str × Addr)) (fp0 : List Addr) : Cx := X0.blk s0 H0 sc (compEnvC sc cl0 C0 X0.env) fp0
theorem g_lcB (hc : (XB X0 s0 H0 sc C0 cl0 fp0).calm = true) (hN : X0.N.Nodup) (hi : GI (XB X0 s0 H0 sc C0 cl0 fp0) tg iter ti) (ok : blkC N (relS sc osc) scope own = true)
    (hg : ∀ (s : Shared) (H : Hp) (C : Addr) (cl : List (Str × Addr)) (fp : List Addr), GGc ((XB X0 s0 H0 sc C0 cl0 fp0).blk s H scope (compEnvC scope cl C (XB X0 s0 H0 sc C0 cl0 fp0).env) fp) (own.map (·.2)) tg g) (ht : ∀ (s : Shared) (H : Hp) (C : Addr) (cl : List (Str × Addr)) (fp : List Addr), GTs ((XB X0 s0 H0 sc C0 cl0 fp0).blk s H scope (compEnvC scope cl C (XB X0 s0 H0 sc C0 cl0 fp0).env) fp) ifs tt)
    (he : ∀ (s : Shared) (H : Hp) (C : Addr) (cl : List (Str × Addr)) (fp : List Addr), GE ((XB X0 s0 H0 sc C0 cl0 fp0).blk s H scope (compEnvC scope cl C (XB X0 s0 H0 sc C0 cl0 fp0).env) fp) elt te) (hX : X0.N = N := by rfl) (hsc : X0.env.scope = osc := by rfl) (hs : ∀ x, foldedSetIterable iter (XB X0 s0 H0 sc C0 cl0 fp0).env x = pure x := by intro _; rfl) :
    GE (X0.blk s0 H0 sc (compEnvC sc cl0 C0 X0.env) fp0) (.ListComp elt [⟨tg, iter, ifs, 0⟩] scope pos) (eLc ti g tt te (own.map (·.2))) := g_lc (X := XB X0 s0 H0 sc C0 cl0 fp0) hc hN hi (by subst hX hsc; exact blkOk_by ok) hg ht he hs
end
end

/-! ### repr -/
mutual
/-- leaves that are told in few signs -/
def okL : D → Bool
  | .int i => decide (i.natAbs.log2 < 1920)
  | .str x => x.cps.toList.all fun c => decide (c < 16 ^ 8)
  | .tup ds => okLs ds
  | .lst ds => okLs ds
  | .scr ds => okLs ds
  | _ => true
def okLs : List D → Bool
  | [] => true
  | d :: ds => okL d && okLs ds
end
mutual
def szD : D → Nat
  | .str x => x.cps.size
  | .tup ds => szDs ds
  | .lst ds => szDs ds
  | .scr ds => szDs ds
  | _ => 0
def szDs : List D → Nat
  | [] => 0
  | d :: ds => szD d + 1 + szDs ds
end
mutual
theorem okL_py : ∀ d : D, okL d = true → (pyD d).showable = true ∧ (pyD d).leavesShort 1940 = true ∧ (pyD d).bulk = szD d ∧ (pyD d).hasDict = false
  | .non, _ => ⟨rfl, rfl, rfl, rfl⟩
  | .bl _, _ => ⟨rfl, rfl, rfl, rfl⟩
  | .ref _, _ => ⟨rfl, rfl, rfl, rfl⟩
  | .ty _, _ => ⟨rfl, rfl, rfl, rfl⟩
  | .int i, h => by
    have h' : i.natAbs.log2 < 1920 := of_decide_eq_true h
    refine ⟨h, decide_eq_true ?_, rfl, rfl⟩
    have z := int_text_len_1921 h'
    show (Str.ofString (toString i)).length ≤ 1940
    omega
  | .str x, h => ⟨rfl, h, rfl, rfl⟩
  | .tup ds, h => okLs_py ds h
  | .lst ds, h => okLs_py ds h
  | .scr ds, h => okLs_py ds h
theorem okLs_py : ∀ ds : List D, okLs ds = true → PyData.showableAll (pyDL ds) = true ∧ PyData.leavesShortAll 1940 (pyDL ds) = true ∧ PyData.bulkAll (pyDL ds) = szDs ds ∧ PyData.hasDictAll (pyDL ds) = false
  | [], _ => ⟨rfl, rfl, rfl, rfl⟩
  | d :: ds, h => by
    have h : (okL d && okLs ds) = true := h
    rw [Bool.and_eq_true] at h
    obtain ⟨a1, a2, a3, a4⟩ := okL_py d h.1
    obtain ⟨b1, b2, b3, b4⟩ := okLs_py ds h.2
    refine ⟨?_, ?_, ?_, ?_⟩
    · show ((pyD d).showable && PyData.showableAll (pyDL ds)) = true
      rw [a1, b1]; rfl
    · show ((pyD d).leavesShort 1940 && PyData.leavesShortAll 1940 (pyDL ds)) = true
      rw [a2, b2]; rfl
    · show (pyD d).bulk + 1 + PyData.bulkAll (pyDL ds) = szD d + 1 + szDs ds
      rw [a3, b3]
    · show ((pyD d).hasDict || PyData.hasDictAll (pyDL ds)) = false
      rw [a4, b4]; rfl
end
def rpOk (d : D) : Prop := pl 60 d = true ∧ okL d = true ∧ szD d ≤ 8000
def reprD (d : D) : Str := (pyD d).shown
theorem rp_len {d : D} (h : rpOk d) : (reprD d).length ≤ sizeLine := by
  obtain ⟨a1, a2, a3, a4⟩ := okL_py d h.2.1
  have z := PyData.shown_le_bulk 1940 (by decide) (pyD d) a2
  rw [a3] at z
  have h3 := h.2.2
  rw [sizeLine_eq]
  unfold reprD
  omega
section
variable {X : Cx}
def cRepr : OL := fun ds S R => match ds with
  | [d] => rpOk (rs S d) ∧ R (.str (reprD (rs S d))) S
  | _ => False
theorem c_repr {k : Nat} (hr : Room k X.A) (hg : X.A.guards = some []) : GC X (.builtin "repr") cRepr := fun pins s σ H vs us Q I r ⟨ds, S, F, R, w, r1, q, l⟩ => by
  unfold cRepr at q
  split at q
  · rename_i d
    obtain ⟨x, _, rfl, rx, rfl⟩ := r1
    obtain ⟨ok, q⟩ := q
    have len := rp_len ok
    obtain ⟨a1, a2, a3, a4⟩ := okL_py _ ok.2.1
    obtain ⟨u, rfl, ru⟩ := vals1 r
    have dp := dp_rs w rx (n := 60) ok.1
    obtain ⟨as, rd⟩ := Dp.reads I _ x u dp ru
    have fin : ∀ {s' : Shared}, Inv X pins σ H s' → EP X pins σ Q (.str (reprD (rs S d)) s'.toks) { s' with toks := s'.toks + 1 } := fun {s'} I' =>
      ⟨.str _, H, I'.tok _, ⟨_, rfl⟩, l _ _ _ _ q (Aft.refl w) rfl⟩
    by_cases hd : isDisplay (pyD (rs S d)) = true
    · obtain ⟨a, rfl⟩ := isRef_of_reads rd hd
      have hdep := (pl_shape _ 60 ok.1).2
      have hun := hr.un
      exact repr_of_reads' rd a1 (PyData.noDict_hsm a4) hg (by omega) (fun _ _ e => e) (fun h' tk t hk => ⟨.str _, H, I.kept (h' := h') (t' := t) hk, ⟨_, rfl⟩, l _ _ _ _ q (Aft.refl w) rfl⟩) len
    · generalize rs S d = d' at *
      cases d' with
      | non => cases rd; exact PySem.P.repr_of_none (fin I)
      | bl b => cases rd; exact PySem.P.repr_of_bool (fin I)
      | int i => cases rd; exact PySem.P.repr_of_int (of_decide_eq_true ok.2.1) (fin I)
      | str z => cases rd; exact PySem.P.repr_of_str (fin I) len
      | tup _ => exact absurd rfl hd
      | lst _ => exact absurd rfl hd
      | scr _ => exact absurd rfl hd
      | ref _ => exact nomatch ok.1
      | ty _ => exact nomatch ok.1
  · exact q.elim
end

/-! ### keywords -/
/-- the places of a list in a new order -/
def pick {α : Type} (perm : List Nat) (xs : List α) : List α := perm.filterMap fun i => xs[i]?
theorem rpl_pick {K : PySem.W.Frag} {T : Sto} {H : Hp} {ds : List D} {vs : List V} (r : RpL K T H ds vs) : ∀ perm : List Nat, RpL K T H (pick perm ds) (pick perm vs)
  | [] => rfl
  | i :: perm => by
    have ih := rpl_pick r perm
    unfold pick at ih ⊢
    cases e : ds[i]? with
    | none =>
      have e' : vs[i]? = none := by
        rw [List.getElem?_eq_none_iff] at e ⊢
        rw [r.length]; exact e
      rw [List.filterMap_cons_none e, List.filterMap_cons_none e']
      exact ih
    | some d =>
      obtain ⟨v, e', rv⟩ := r.get e
      rw [List.filterMap_cons_some e, List.filterMap_cons_some e']
      exact ⟨v, _, rfl, rv, ih⟩
theorem vals_pick {vs : List V} {us : List Value} (r : Vals vs us) : ∀ perm : List Nat, Vals (pick perm vs) (pick perm us)
  | [] => .nil
  | i :: perm => by
    have ih := vals_pick r perm
    unfold pick at ih ⊢
    cases e : vs[i]? with
    | none => rw [List.filterMap_cons_none e, List.filterMap_cons_none (r.none_of e)]; exact ih
    | some v =>
      obtain ⟨u, e', rv⟩ := r.get e
      rw [List.filterMap_cons_some e, List.filterMap_cons_some e']
      exact .cons rv ih
/-- how keywords bind: n arguments by position, the rest by the names ks -/
def KB (fd : FuncData) (ps ks : List Str) (n : Nat) (perm : List Nat) : Prop := ∀ us ws : List Value, us.length = n → ws.length = ks.length → bindArgs fd ⟨us, ks.zip ws⟩ = pure (ps.zip (pick perm (us ++ ws)))
theorem kb_mk {K : PySem.W.Frag} {x qual : Str} {st : Stmt} {f : Addr} {fd : FuncData} {ps ks : List Str} {n : Nat} {perm : List Nat} (F : Fun K x qual st f fd)
    (h : ∀ (kV doc pm : Value) (an : Option Addr) (cdv ct : Value) (us ws : List Value), us.length = n → ws.length = ks.length → bindArgs (PySem.W.fnOf x qual (defArgs st) (defBody st) (defScope st) .none kV doc pm an cdv ct) ⟨us, ks.zip ws⟩ = pure (ps.zip (pick perm (us ++ ws)))) : KB fd ps ks n perm := by
  obtain ⟨oc, od, kV, doc, pm, an, cdv, ct, osl, rfl, lk, hcd⟩ := F.ex
  exact h kV doc pm an cdv ct
def LK (X : Cx) (kws : List Keyword) (u : AT) : Prop := PK X kws (LA X.K u)
section
variable {X : Cx} {k j n : Nat} {f : Addr} {fd : FuncData} {ps ks : List Str} {γ : OL} {x : Str} {p pos kpos : Pos} {e : Expr} {es : List Expr} {kws : List Keyword} {t : ET} {u v : AT} {perm : List Nat} {nm : Option Str}
theorem gk_nil : LK X [] aNil := ⟨fun pos pins s σ H Q I ⟨τ, S, F, R, w, r, q, g⟩ => pk_nil.run pos pins s σ H Q I (g _ _ _ _ q (Aft.refl w) rfl)⟩
theorem gk_cons (ha : GE X e t) (hr : LK X kws u) : LK X (⟨nm, e, kpos⟩ :: kws) (aCons t u) := ⟨fun pos pins s σ H Q I ⟨τ, S, F, R, w, r, q, g⟩ => (pk_cons ha hr).run pos pins s σ H Q I
  ⟨τ, S, F, _, w, r, q, fun d S1 v H1 q1 a1 r1 => ⟨τ, S1, F, _, a1.wd, a1.rps w r, q1, fun ds S2 vs H2 q2 a2 r2 => g _ _ _ _ q2 (a1.trans a2) ⟨v, vs, rfl, a2.rp a1.wd r1, r2⟩⟩⟩⟩
theorem run_gfnK {pins : List (Addr × Obj)} {σ : L2.St} {H : Hp} {s : Shared} {Q : VK} {us ws : List Value} {vs zs : List V} (G : GFn X.prog X.w X.K X.mg X.base k f fd ps γ) (hr : Room k X.A) (hg : X.A.guards = some []) (hb : KB fd ps ks n perm) (hn : us.length = n) (hw : ws.length = ks.length)
    (I : Inv X pins σ H s) (r : Vals (vs ++ zs) (us ++ ws)) (h : LLO X.K γ (pick perm (vs ++ zs)) H Q) : wpAny (model X.prog X.w) X.A (call (.ref f) us (ks.zip ws)) (EP X pins σ Q) X.xe s := by
  refine wpAny_call (codeAny_mono (G.run X.A X.stack s H ⟨us, ks.zip ws⟩ (pick perm (us ++ ws)) _ Q hr hg I.env0 (.of_eq (hb us ws hn hw)) (vals_pick r perm) h) fun r s' hq => ?_)
  cases r with
  | error e => exact False.elim hq
  | ok fl =>
    cases fl with
    | ret u => exact I.after hq
    | next => exact False.elim hq
    | brk => exact False.elim hq
    | cont => exact False.elim hq
def eCallK (γ : OL) (n m : Nat) (perm : List Nat) (u v : AT) : ET := fun τ S Q => u τ S fun ds S1 => v τ S1 fun es S2 => (ds.length = n ∧ es.length = m) ∧ γ (pick perm (ds ++ es)) S2 Q
theorem g_callK0 (h : Has X.prog X.w X.K X.mg X.base j x f fd ps γ) (hb : KB fd ps ks 0 perm) (hr : Room k X.A) (hg : X.A.guards = some []) (hjk : j ≤ k) (hgl : Gl X x) (hkw : LK X kws v) (hall : (backToKw pos (keywordEach kws X.env)).all (·.1.isSome) = true := by rfl) (hks : (backToKw pos (keywordEach kws X.env)).filterMap (·.1) = ks := by rfl)
    (hdb : (x == ("__debug__" : Str)) = false := by decide) (hpl : ((backTo pos (starEach [] X.env)).any (·.1) || (backToKw pos (keywordEach kws X.env)).any (·.1.isNone)) = false := by rfl) : GE X (.Call (.Name x p) [] kws pos) (eCallK γ 0 ks.length perm aNil v) := by
  refine ⟨fun pins s σ H Q I ⟨τ, S, F, R, w, r, q, g⟩ => ?_⟩
  refine wpAny_Call_Name_kw (ld_glob I hgl h.mg ?_ hdb)
  have hq : LA X.K v σ H fun zs H1 => zs.length = ks.length ∧ LLO X.K γ (pick perm ([] ++ zs)) H1 Q := ⟨τ, S, F, _, w, r, q, fun es S1 vs H1 q1 a1 r1 => by
    refine ⟨r1.length.trans q1.1.2, pick perm ([] ++ es), S1, F, R, a1.wd, rpl_pick r1 perm, q1.2, fun d S2 v H2 q2 a2 r2 => g _ _ _ _ q2 (a1.trans a2) r2⟩⟩
  refine PySem.W.callWith_KW0 (h₀ := X.base) I.ok.mod.kin h.kp hall (thn (hkw.run pos pins s σ H _ I hq) fun ws s2 ⟨zs, H2, I2, rz, q2⟩ => ⟨I2.kIn, ?_⟩) hpl
  rw [hks]
  exact run_gfnK (us := []) (vs := []) (n := 0) h.fn (hr.mono hjk) hg hb rfl (rz.length.symm.trans q2.1) I2 rz q2.2
end

/-! ### constants of the module -/
structure Cst (K : PySem.W.Frag) (mg : Str → Option Value) (x : Str) (d : D) : Prop where
  ex : ∃ v u, mg x = some u ∧ RelV v u ∧ ∀ T H, Rp K T H d v
theorem g_cst {X : Cx} {x : Str} {d : D} {pos : Pos} (c : Cst X.K X.mg x d) (hg : Gl X x) (h : (x == ("__debug__" : Str)) = false := by decide) : GE X (.Name x pos) (eC d) :=
  let ⟨_, _, h1, h2, h3⟩ := c.ex
  g_glob hg h1 h2 h3 h
theorem cst_int {K : PySem.W.Frag} {mg : Str → Option Value} {x : Str} {i : Int} {t : Tok} (h : mg x = some (.int i t)) : Cst K mg x (.int i) := ⟨.int i, _, h, ⟨_, rfl⟩, fun _ _ => rfl⟩
theorem cst_pair {K : PySem.W.Frag} {mg : Str → Option Value} {x : Str} {i j : Int} {t u : Tok} {a : Addr} {o : Obj} {n : Nat} (h : mg x = some (.ref a)) (ho : K.lookup a = some o) (hc : o.cls = .type "tuple") (hd : o.data = .seq #[.int i t, .int j u] n) : Cst K mg x (.tup [.int i, .int j]) :=
  ⟨.ref a, _, h, rfl, fun T H => ⟨a, [.int i, .int j], rfl, .inr ⟨o, _, n, ho, hc, hd, by show 2 ≤ sizeLine; decide, .cons ⟨_, rfl⟩ (.cons ⟨_, rfl⟩ .nil)⟩, _, _, rfl, rfl, _, _, rfl, rfl, rfl⟩⟩

/-! ### the names of built-ins -/
/-- no name of these is the module's own -/
structure Blt (mg : Str → Option Value) : Prop where
  abs : mg "abs" = none
  all : mg "all" = none
  any : mg "any" = none
  bool : mg "bool" = none
  dict : mg "dict" = none
  divmod : mg "divmod" = none
  enumerate : mg "enumerate" = none
  int : mg "int" = none
  isinstance : mg "isinstance" = none
  len : mg "len" = none
  list : mg "list" = none
  max : mg "max" = none
  min : mg "min" = none
  range : mg "range" = none
  repr : mg "repr" = none
  set : mg "set" = none
  sorted : mg "sorted" = none
  str : mg "str" = none
  sum : mg "sum" = none
  tuple : mg "tuple" = none
  zip : mg "zip" = none
theorem bt_abs : bootBuiltins "abs" = some (.builtin "abs") := by decide +kernel
theorem bt_all : bootBuiltins "all" = some (.builtin "all") := by decide +kernel
theorem bt_any : bootBuiltins "any" = some (.builtin "any") := by decide +kernel
theorem bt_bool : bootBuiltins "bool" = some (.type "bool") := by decide +kernel
theorem bt_divmod : bootBuiltins "divmod" = some (.builtin "divmod") := by decide +kernel
theorem bt_int : bootBuiltins "int" = some (.type "int") := by decide +kernel
theorem bt_isinstance : bootBuiltins "isinstance" = some (.builtin "isinstance") := by decide +kernel
theorem bt_len : bootBuiltins "len" = some (.builtin "len") := by decide +kernel
theorem bt_max : bootBuiltins "max" = some (.builtin "max") := by decide +kernel
theorem bt_min : bootBuiltins "min" = some (.builtin "min") := by decide +kernel
theorem bt_repr : bootBuiltins "repr" = some (.builtin "repr") := by decide +kernel
theorem bt_sorted : bootBuiltins "sorted" = some (.builtin "sorted") := by decide +kernel
theorem bt_tuple : bootBuiltins "tuple" = some (.type "tuple") := by decide +kernel
end Gx

/-! Gx, part 9: the law's own call, at the program's end. -/
namespace Gx
open PySem PySem.Spec PyProof.Rows L2
section
variable {P : Program} {w : World} {K : PySem.W.Frag} {mg : Str → Option Value} {base : Heap}
/-- the def that a name of the module stands for -/
theorem has_mk {x : Str} {st : Stmt} {f : Addr} {fd : FuncData} {ps : List Str} {γ : OL} {j k : Nat} (F : Fun K x x st f fd) (hm : mg x = some (.ref f)) (hb : Binds K fd ps []) (G : GFn P w K mg base j f fd ps γ) (hjk : j ≤ k) : Has P w K mg base k x f fd ps γ :=
  ⟨G.mono hjk, hm, F.kp, hb⟩
theorem gx_call {mb : Str → Option Value} {k : Nat} {fa a : Addr} {fd : FuncData} {x : Str} {γ : OL} {sh : Shared} {vs : List Value} {ns : List Int}
    (KX : K.In sh.heap) (hm : sh.heap.Ns mainGlobals mg) (hb : sh.heap.Ns builtinsNs mb) (hbb : ∀ y : Str, y ≠ "__name__" → mb y = bootBuiltins y) (hlim : sh.heap.NoLimit) (hg : sh.gens = #[])
    (ha : sh.heap.get? a = some { cls := .type "list", data := .seq vs.toArray }) (hi : IntsAre vs ns) (hl : ns.length ≤ sizeLine) (hr : Room k callerA)
    (F : ∀ bs : Heap, K.In bs → bs.Ns mainGlobals mg → GFn P w K mg bs k fa fd [x] γ) (hbind : ∀ (s : Shared) (u : Value), BindsTo s fd ⟨[u], []⟩ [(x, u)])
    (hγ : ∀ (R : QD) (S : Sto), R (.bl true) S → γ [.scr (ns.map .int)] S R) :
    codeAny (model P w) callerA (.call (.ref fa) ⟨[.ref a], []⟩) (fun r s' => r = .ok (.ret (.bool true)) ∧ OldK sh.heap s'.heap ∧ s'.os = sh.os ∧ AllBare s'.gens) sh := by
  have rv := vals_ints hi
  let obj : Obj := { cls := .type "list", data := .seq vs.toArray }
  let H : Hp := fun b => if b = a ∧ K.lookup a = none then some (.frz obj (.lst (ns.map V.int))) else none
  have Hyes : ∀ {b : Addr} {u : HO}, H b = some u → b = a ∧ K.lookup a = none ∧ u = .frz obj (.lst (ns.map V.int)) := fun {b u} e => by
    by_cases c : b = a ∧ K.lookup a = none
    · have e : (if b = a ∧ K.lookup a = none then some (HO.frz obj (.lst (ns.map V.int))) else none) = some u := e
      rw [if_pos c] at e
      cases e
      exact ⟨c.1, c.2, rfl⟩
    · have e : (if b = a ∧ K.lookup a = none then some (HO.frz obj (.lst (ns.map V.int))) else none) = some u := e
      rw [if_neg c] at e
      cases e
  have Hno : ∀ {b : Addr} {o : Obj}, sh.heap.get? b = some o → o ≠ obj → H b = none := fun {b o} e n => by
    cases q : H b with
    | none => rfl
    | some u =>
      obtain ⟨rfl, _⟩ := Hyes q
      rw [ha] at e
      cases e
      exact absurd rfl n
  have dictNe : ∀ {o : Obj} {es : Array DictEntry} {ep : Nat}, o.data = .dict es ep → o ≠ obj := fun {o es ep} d e => by
    rw [e] at d
    cases d
  have nsT : ∀ {b : Addr} {m : Str → Option Value}, sh.heap.Ns b m → (hidT sh.heap H).Ns b m := fun {b m} z => by
    obtain ⟨o, es, ep, e, d, r⟩ := z
    exact ⟨o, es, ep, hidT_get e (Hno e (dictNe d)), d, r⟩
  have KT : K.In (hidT sh.heap H) := fun b o e => hidT_get (KX b o e) (by
    cases q : H b with
    | none => rfl
    | some u =>
      obtain ⟨rfl, n, _⟩ := Hyes q
      rw [n] at e; cases e)
  have hM : Mod K mg (hidT sh.heap H) := ⟨KT, nsT hm, ⟨mb, nsT hb, hbb⟩, hlim.elim fun mc z => ⟨mc, nsT z.1, z.2⟩⟩
  have hok : HOk P w H sh.heap := fun b u e => by
    obtain ⟨rfl, _, rfl⟩ := Hyes e
    exact ⟨ha, by rw [List.length_map]; exact hl, vs, _, rv, ha⟩
  have e0 : Env0 P w K mg (hidT sh.heap H) callerA [] sh H := ⟨rfl, hM, fun b o e => of_hidT e, Nat.le_of_eq (hidT_size _ _), trivial, (fun b (z : b ∈ ([] : List Addr)) => nomatch z), hok, .of_eq hg⟩
  have len := hi.length
  have sc : ScrAt K (fun _ => none) H a (ns.map V.int) := by
    cases q : K.lookup a with
    | none => exact .inl ⟨rfl, .inr ⟨obj, if_pos ⟨rfl, q⟩⟩⟩
    | some o =>
      have e := KX a o q
      rw [ha] at e
      cases e
      exact .inr (.inr ⟨_, vs.toArray, _, q, rfl, rfl, rfl, by rw [List.size_toArray, len]; exact hl, by simpa using rv⟩)
  have rl : ∀ ms : List Int, RpL K (cmb (fun _ => none) (fun _ => none)) H (ms.map D.int) (ms.map V.int) := fun ms => by
    induction ms with
    | nil => rfl
    | cons m ms ih => exact ⟨_, _, rfl, rfl, ih⟩
  have lo : LLO K γ [.ref a] H (fun v _ => v = .bl true) :=
    ⟨[.scr (ns.map .int)], fun _ => none, fun _ => none, fun d _ => d = .bl true, ⟨fun _ => .inl rfl, fun _ _ z => by cases z⟩, ⟨_, _, rfl, ⟨a, ns.map V.int, rfl, sc, rl ns⟩, rfl⟩, hγ _ _ rfl, fun d _ v _ q _ rd => by
      subst q
      exact rd⟩
  refine codeAny_mono ((F _ KT (nsT hm)).run callerA [] sh H ⟨[.ref a], []⟩ [.ref a] [.ref a] _ hr rfl e0 (hbind sh (.ref a)) (.cons rfl .nil) lo) fun r s' h => ?_
  cases r with
  | error e => exact False.elim h
  | ok fl =>
    cases fl with
    | next => exact False.elim h
    | brk => exact False.elim h
    | cont => exact False.elim h
    | ret u =>
      obtain ⟨v, H', os, bare, un, hok', rr, q⟩ := h
      have q : v = .bl true := q
      subst q
      obtain rfl : u = Value.bool true := rr
      refine ⟨rfl, OldK.of_keep fun b o e => ?_, os, bare⟩
      cases q : H b with
      | none => exact un.keep b o e q (fun (z : b ∈ ([] : List Addr)) => nomatch z) (fun z => nomatch z)
      | some u =>
        obtain ⟨rfl, _, rfl⟩ := Hyes q
        obtain ⟨e2, _⟩ := hok' b _ (un.frzs b _ _ q)
        rw [ha] at e
        cases e
        exact e2
end
theorem gx_walk {l : PySem.W.OpenLaw} {n k : Nat} {q : Program} {loose : List Str} {XP : (Str → Option Value) → Heap → Prop} {YP : World → Heap → Prop} {d : DefRec} {K : Params → PySem.W.Frag} {γ : OL} {x : Str}
    (hn : l.most = some n) (hn2 : n ≤ sizeLine) (hdf : d.params.defaults = []) (hr : Room k callerA) (hY : ∀ (w : World) (h : Heap), YP w h → (K w.params).In h)
    (F : ∀ (w : World) (mg : Str → Option Value) (fa : Addr) (h : Heap), (K w.params).In h → h.Ns mainGlobals mg → mg d.name = some (.ref fa) →
      ∃ fd : FuncData, (∀ (s : Shared) (u : Value), BindsTo s fd ⟨[u], []⟩ [(x, u)]) ∧ ∀ bs : Heap, (K w.params).In bs → bs.Ns mainGlobals mg → GFn l.prog w (K w.params) mg bs k fa fd [x] γ)
    (hγ : ∀ ns : List Int, ns.length ≤ n → ∀ (R : QD) (S : Sto), R (.bl true) S → γ [.scr (ns.map .int)] S R) :
    PySem.W.WalkO q loose XP YP l.row.toRowW d [] (fun f vs => PySem.call f vs) := by
  refine Att.attach_call hn hdf fun w s₀ sh mg mb fa o pm cd doc a vs ns G Y _ _ _ hmg hobj hints hlen hg => ?_
  have KX := hY w _ Y
  obtain ⟨fd, hb, hF⟩ := F w mg fa _ KX G.T.g hmg
  exact gx_call KX G.T.g G.T.b G.T.builtins G.T.nolimit hg hobj hints (Nat.le_trans hlen hn2) hr hF hb fun R S h => hγ ns hlen R S h
end Gx

/-! Gx, part 10: further calls: the greatest and the least of a list, sorted, index, extend, pop. -/
namespace Gx
open PySem PySem.Spec PyProof.Rows L2
section
variable {X : Cx}
/-- the greatest of some ints -/
def cMaxL : OL := fun ds S R => match ds with
  | [d] => (match lstInts S d with
    | some ns => ns ≠ [] ∧ ∀ m, m ∈ ns → (∀ y, y ∈ ns → y ≤ m) → R (.int m) S
    | none => False)
  | _ => False
def cMinL : OL := fun ds S R => match ds with
  | [d] => (match lstInts S d with
    | some ns => ns ≠ [] ∧ ∀ m, m ∈ ns → (∀ y, y ∈ ns → m ≤ y) → R (.int m) S
    | none => False)
  | _ => False
theorem c_minL (hc : X.calm = true) : GC X (.builtin "min") cMinL := fun pins s σ H vs us Q I r ⟨ds, S, F, R, w, r1, q, l⟩ => by
  refine cr_min hc pins s σ H vs us Q I r ?_
  unfold cMinL at q
  split at q
  · obtain ⟨x, _, rfl, rx, rfl⟩ := r1
    split at q
    · rename_i es he
      obtain ⟨a, rfl, hx⟩ := ints_view w rx he
      exact ⟨a, _, rfl, hx, List.length_pos_iff.mpr q.1, fun m h1 h2 => l _ _ _ _ (q.2 m h1 h2) (Aft.refl w) rfl⟩
    · exact q.elim
  · exact q.elim
theorem rpl_ints {K : PySem.W.Frag} {T : Sto} {H : Hp} : ∀ ns : List Int, RpL K T H (ns.map D.int) (ns.map V.int)
  | [] => rfl
  | n :: ns => ⟨_, _, rfl, rfl, rpl_ints ns⟩
/-- sorted ints -/
def cSortedI : OL := fun ds S R => match ds with
  | [d] => (match lstInts S d with
    | some ns => ∀ ns' : List Int, ns'.Perm ns → ns'.Pairwise (· ≤ ·) → R (.lst (ns'.map .int)) S
    | none => False)
  | _ => False
theorem c_sortedI : GC X (.builtin "sorted") cSortedI := fun pins s σ H vs us Q I r ⟨ds, S, F, R, w, r1, q, l⟩ => by
  refine cr_sortedI pins s σ H vs us Q I r ?_
  unfold cSortedI at q
  split at q
  · obtain ⟨x, _, rfl, rx, rfl⟩ := r1
    split at q
    · rename_i es he
      obtain ⟨a, rfl, hx⟩ := ints_view w rx he
      exact ⟨a, _, rfl, hx, fun ns' p h1 h2 hp => l _ _ _ _ (q ns' h1 h2) (Aft.new w hp) (rp_newL w hp (rpl_ints ns'))⟩
    · exact q.elim
  · exact q.elim
/-- where a thing first stands -/
def mIndex : D → OL := fun d ds S R => match rs S d, ds with
  | .lst xs, [y] => (pl 60 (.lst xs) = true ∧ pl 60 (rs S y) = true) ∧ ∃ (j : Nat) (z : D), xs[j]? = some z ∧ eqD z (rs S y) = true ∧ (∀ m z', m < j → xs[m]? = some z' → eqD z' (rs S y) = false) ∧ R (.int j) S
  | _, _ => False
end
end Gx

/-! Gx, part 11: comprehensions with two sources. -/
namespace Gx
open PySem PySem.Spec PyProof.Rows L2
/-- [elt for .. in .. if .. for .. in .. if ..] -/
def cmpG2 (g : TG') (tt : TT') (ti1 : IT') (g1 : TG') (tt1 : TT') (te : ET) (gd : Sto → Prop) (vs vs1 : List Nat) (τ : Tau) (Z : List D → Sto → Prop) : List D → List D → Sto → Prop
  | [], acc => fun S => gd S ∧ Z acc S
  | x :: xs, acc => fun S => gd S ∧ g x (wipeD τ vs) S fun τ2 S2 => tt τ2 S2 fun b S3 => if b = true then ti1 τ2 S3 fun items1 gd1 S4 => cmpG g1 tt1 te gd1 vs1 τ2 (fun acc' S5 => cmpG2 g tt ti1 g1 tt1 te gd vs vs1 τ Z xs acc' S5) items1 acc S4 else cmpG2 g tt ti1 g1 tt1 te gd vs vs1 τ Z xs acc S3
def eLc2 (ti : IT') (g : TG') (tt : TT') (ti1 : IT') (g1 : TG') (tt1 : TT') (te : ET) (vs vs1 : List Nat) : ET := fun τ S Q => ti τ S fun items gd S1 => cmpG2 g tt ti1 g1 tt1 te gd vs vs1 τ (fun acc S2 => Q (.lst acc) S2) items [] S1
section
variable {K : PySem.W.Frag} {ti ti1 : IT'} {g g1 : TG'} {tt tt1 : TT'} {te : ET} {vs vs1 : List Nat}
theorem less_of {F S' : Sto} {o : SO} {H' : Hp} {D : Addr} (n : F D = none) (w' : Wd K S' (up F D o) H') : Wd K S' F H' ∧ ∀ a, cmb S' (up F D o) a = none → cmb S' F a = none := by
  have gg : ∀ a u, F a = some u → (up F D o) a = some u := fun a u e => by rw [up_ne (by rintro rfl; rw [n] at e; cases e)]; exact e
  refine ⟨w'.less (fun _ _ e => e) gg, fun a e => ?_⟩
  obtain ⟨e1, e2⟩ := cmb_none e
  refine cmb_of_none e1 ?_
  cases z : F a with
  | none => rfl
  | some u => rw [gg a u z] at e2; cases e2
theorem inner_of {τ : Tau} {σ : L2.St} {S F : Sto} {H : Hp} {D : Addr} {acc0 : List Gx.D} {J : It} {items : List Gx.D} {gd : Sto → Prop} {Z : List Gx.D → Sto → Prop} {Nx : Hp → Prop} (hS : S D = none) (w : Wd K S (up F D (.lst acc0)) H) (r : RpS K (cmb S (up F D (.lst acc0))) H τ σ)
    (sv : Srv K J S (up F D (.lst acc0)) H gd items) (h : cmpG g1 tt1 te gd vs1 τ Z items acc0 S) (hZ : ∀ acc S' H', Z acc S' → AftF K S (up F D (.lst acc0)) H S' (up F D (.lst acc)) H' → Nx H') :
    ∃ W : Nat → Nat → Hp → Prop, (∃ m, W 0 m H) ∧ ∀ i m H', W i m H' →
      (J.stop i H' ∧ Nx H') ∨ (J.go i H' ∧ ∃ Nx1 : Hp → Prop, (∀ H'', Nx1 H'' → ∃ m', m' < m ∧ W (i + 1) m' H'') ∧ ∀ x H'', J.yld i H' x H'' → LGc K vs1 g1 x (L2.wipe σ vs1) H'' fun σ2 H2 => L2.wipe σ2 vs1 = L2.wipe σ vs1 ∧ LT K tt1 σ2 H2 fun b H3 =>
        if b = true then LE K te σ2 H3 fun y H4 => ∃ acc, H4 D = some (.lst acc) ∧ acc.length < sizeLine ∧ Nx1 (upd H4 D (.lst (acc ++ [y]))) else Nx1 H3) := by
  let Pv : Nat → Hp → Prop := fun i H' => ∃ acc S', AftF K S (up F D (.lst acc0)) H S' (up F D (.lst acc)) H' ∧ cmpG g1 tt1 te gd vs1 τ Z (items.drop i) acc S'
  refine ⟨fun i m H' => m = items.length - i ∧ i ≤ items.length ∧ Pv i H', ⟨_, rfl, Nat.zero_le _, acc0, S, Aft.refl w, by simpa using h⟩, ?_⟩
  rintro i m H' ⟨rfl, hi, acc, S', a', q'⟩
  by_cases hlt : i < items.length
  · rw [List.drop_eq_getElem_cons hlt] at q'
    obtain ⟨gd', q'⟩ := q'
    obtain ⟨k1, k2⟩ := sv.go i _ S' _ H' (List.getElem?_eq_getElem hlt) a' gd'
    refine .inr ⟨k1, Pv (i + 1), fun H2 p2 => ⟨_, by omega, rfl, hlt, p2⟩, fun v H2 y => ?_⟩
    obtain ⟨a2, rv⟩ := k2 v H2 y
    refine ⟨items[i], wipeD τ vs1, S', up F D (.lst acc), _, a2.wd, (((a'.trans a2).rps w r).wipe vs1), rv, q', fun τ3 S3 σ3 H3 q3 a3 r3 w3 => ⟨w3.trans (wipe_wipe σ vs1), ?_⟩⟩
    refine ⟨τ3, S3, _, _, a3.wd, r3, q3, fun b S4 H4 q4 a4 => ?_⟩
    cases b with
    | false => exact ⟨acc, S4, ((a'.trans a2).trans a3).trans a4, q4⟩
    | true =>
      refine ⟨τ3, S4, _, _, a4.wd, a4.rps a3.wd r3, q4, fun d S5 v5 H5 q5 a5 r5 => ?_⟩
      have n5 : S5 D = none := by
        rcases a5.wd.dj D with z | z
        · exact z
        · rw [up_same] at z; cases z
      obtain ⟨xs, e5, rl5⟩ := a5.wd.ok D (.lst acc) (by rw [cmb_r n5, up_same])
      refine ⟨xs, e5, by rw [rl5.length]; exact q5.1, acc ++ [d], S5, ?_, q5.2⟩
      have st : StO K (up (cmb S5 (up F D (.lst acc))) D (.lst (acc ++ [d]))) (upd H5 D (.lst (xs ++ [v5]))) D (.lst (acc ++ [d])) :=
        ⟨_, upd_same, RpL.ev a5.wd.ok (ev_set (by rw [cmb_r n5, up_same])) (RpL.app rl5 ⟨v5, [], rfl, r5, rfl⟩)⟩
      have wn := a5.wd.setF (p := D) up_same st
      rw [up_up] at wn
      refine ⟨wn, ?_⟩
      have ev5 := ((((a'.trans a2).trans a3).trans a4).trans a5).ev
      intro b u e1 e2
      have z := ev5 b u e1 e2
      have hb : b ≠ D := by rintro rfl; rw [cmb_r hS, up_same] at e2; cases e2
      refine ⟨by rw [upd_ne hb]; exact z.1, ?_⟩
      obtain ⟨z1, z2⟩ := cmb_none z.2
      refine cmb_of_none z1 ?_
      rw [up_ne hb] at z2 ⊢
      exact z2
  · have e : i = items.length := by omega
    subst e
    rw [List.drop_length] at q'
    obtain ⟨gd', q'⟩ := q'
    exact .inl ⟨sv.stop S' _ H' a' gd', hZ acc S' H' q' a'⟩
theorem lc2_of {τ : Tau} {σ : L2.St} {S F : Sto} {H : Hp} {J : It} {items : List D} {gd : Sto → Prop} {Z : List D → Sto → Prop} {Q : VK} (w : Wd K S F H) (r : RpS K (cmb S F) H τ σ) (sv : Srv K J S F H gd items) (h : cmpG2 g tt ti1 g1 tt1 te gd vs vs1 τ Z items [] S)
    (hZ : ∀ acc S' H' D, Z acc S' → H D = none → Wd K S' (up F D (.lst acc)) H' → Aft K S F H S' H' → Q (.ref D) H') :
    ∀ D, H D = none → ∃ W : Nat → Nat → Hp → Prop, (∃ m, W 0 m (upd H D (.lst []))) ∧ ∀ i m H', W i m H' →
      (J.stop i H' ∧ Q (.ref D) H') ∨ (J.go i H' ∧ ∃ Nx : Hp → Prop, (∀ H'', Nx H'' → ∃ m', m' < m ∧ W (i + 1) m' H'') ∧ ∀ x H'', J.yld i H' x H'' → LGc K vs g x (L2.wipe σ vs) H'' fun σ2 H2 => L2.wipe σ2 vs = L2.wipe σ vs ∧ LT K tt σ2 H2 fun b H3 =>
        if b = true then LI K ti1 σ2 H3 fun J1 H4 => ∃ W1 : Nat → Nat → Hp → Prop, (∃ m, W1 0 m H4) ∧ ∀ j k H', W1 j k H' →
          (J1.stop j H' ∧ Nx H') ∨ (J1.go j H' ∧ ∃ Nx1 : Hp → Prop, (∀ H'', Nx1 H'' → ∃ k', k' < k ∧ W1 (j + 1) k' H'') ∧ ∀ x H'', J1.yld j H' x H'' → LGc K vs1 g1 x (L2.wipe σ2 vs1) H'' fun σ3 H5 => L2.wipe σ3 vs1 = L2.wipe σ2 vs1 ∧ LT K tt1 σ3 H5 fun b H6 =>
            if b = true then LE K te σ3 H6 fun y H7 => ∃ acc, H7 D = some (.lst acc) ∧ acc.length < sizeLine ∧ Nx1 (upd H7 D (.lst (acc ++ [y]))) else Nx1 H6)
        else Nx H3) := by
  intro D hD
  have n := cmb_none (w.ok.fresh hD)
  let Pv : Nat → Hp → Prop := fun i H' => ∃ acc S', AftF K S F H S' (up F D (.lst acc)) H' ∧ cmpG2 g tt ti1 g1 tt1 te gd vs vs1 τ Z (items.drop i) acc S'
  have drop : ∀ {S' : Sto} {o : SO} {H' : Hp}, AftF K S F H S' (up F D o) H' → Aft K S F H S' H' := fun {S' o H'} a => ⟨(less_of n.2 a.wd).1, fun b u e1 e2 => ⟨(a.ev b u e1 e2).1, (less_of n.2 a.wd).2 _ (a.ev b u e1 e2).2⟩⟩
  have p0 : Pv 0 (upd H D (.lst [])) := by
    refine ⟨[], S, ⟨w.newF hD ⟨[], upd_same, rfl⟩, ?_⟩, by simpa using h⟩
    rw [cmb_upR n.1]
    exact ev_newS hD
  refine ⟨fun i m H' => m = items.length - i ∧ i ≤ items.length ∧ Pv i H', ⟨_, rfl, Nat.zero_le _, p0⟩, ?_⟩
  rintro i m H' ⟨rfl, hi, acc, S', a', q'⟩
  by_cases hlt : i < items.length
  · rw [List.drop_eq_getElem_cons hlt] at q'
    obtain ⟨gd', q'⟩ := q'
    obtain ⟨k1, k2⟩ := sv.go i _ S' _ H' (List.getElem?_eq_getElem hlt) a' gd'
    refine .inr ⟨k1, Pv (i + 1), fun H2 p2 => ⟨_, by omega, rfl, hlt, p2⟩, fun v H2 y => ?_⟩
    obtain ⟨a2, rv⟩ := k2 v H2 y
    refine ⟨items[i], wipeD τ vs, S', up F D (.lst acc), _, a2.wd, (((a'.trans a2).rps w r).wipe vs), rv, q', fun τ3 S3 σ3 H3 q3 a3 r3 w3 => ⟨w3.trans (wipe_wipe σ vs), ?_⟩⟩
    refine ⟨τ3, S3, _, _, a3.wd, r3, q3, fun b S4 H4 q4 a4 => ?_⟩
    cases b with
    | false => exact ⟨acc, S4, ((a'.trans a2).trans a3).trans a4, q4⟩
    | true =>
      refine ⟨τ3, S4, _, _, a4.wd, a4.rps a3.wd r3, q4, fun items1 gd1 S5 J1 H5 q5 a5 sv1 => ?_⟩
      have n5 : S5 D = none := by
        rcases a5.wd.dj D with z | z
        · exact z
        · rw [up_same] at z; cases z
      have aa := (((a'.trans a2).trans a3).trans a4).trans a5
      exact inner_of n5 a5.wd (a5.rps a4.wd (a4.rps a3.wd r3)) sv1 q5 fun acc' S6 H6 z a6 => ⟨acc', S6, aa.trans a6, z⟩
  · have e : i = items.length := by omega
    subst e
    rw [List.drop_length] at q'
    obtain ⟨gd', q'⟩ := q'
    exact .inl ⟨sv.stop S' _ H' a' gd', hZ acc S' H' D q' hD a'.wd (drop a')⟩
end
section
variable {X : Cx} {ti ti1 : IT'} {g g1 : TG'} {tt tt1 : TT'} {te : ET} {elt tg iter tg1 iter1 : Expr} {ifs ifs1 : List Expr} {scope : Scope} {own : List (Str × Nat)} {vs1 : List Nat} {pos spos py : Pos}
theorem lc2_pure {σ : L2.St} {H : Hp} {Q : VK} (h : LE X.K (eLc2 ti g tt ti1 g1 tt1 te (own.map (·.2)) vs1) σ H Q) : tLc2 (LI X.K ti) (LGc X.K (own.map (·.2)) g) (LT X.K tt) (LI X.K ti1) (LGc X.K vs1 g1) (LT X.K tt1) (LE X.K te) (own.map (·.2)) vs1 σ H Q := by
  obtain ⟨τ, S, F, R, w, r, q, l⟩ := h
  refine ⟨τ, S, F, _, w, r, q, fun items gd S1 J H1 q1 a1 sv => ?_⟩
  refine lc2_of a1.wd (a1.rps w r) sv q1 fun acc S' H' D z hD wd a' => ?_
  have n := cmb_none (a1.wd.ok.fresh hD)
  have n5 : S' D = none := by
    rcases wd.dj D with z | z
    · exact z
    · rw [up_same] at z; cases z
  obtain ⟨xs, e5, rl5⟩ := wd.ok D (.lst acc) (by rw [cmb_r n5, up_same])
  refine l _ _ _ _ z (a1.trans a') ⟨D, xs, rfl, cmb_of_none n5 n.2, e5, RpL.sub (fun a e => ?_) rl5⟩
  obtain ⟨e1, e2⟩ := cmb_none e
  refine cmb_of_none e1 ?_
  by_cases hb : a = D
  · subst hb; exact n.2
  · rw [up_ne hb] at e2; exact e2
theorem g_lc2 (hc : X.calm = true) (hN : X.N.Nodup) (hi : GI X tg iter ti) (ok : BlkOk X.N X.env.scope scope own) (hv : ∀ i ∈ vs1, i ∈ own.map (·.2))
    (hg : ∀ (s : Shared) (H : Hp) (C : Addr) (cl : List (Str × Addr)) (fp : List Addr), GGc (X.blk s H scope (compEnvC scope cl C X.env) fp) (own.map (·.2)) tg g) (ht : ∀ (s : Shared) (H : Hp) (C : Addr) (cl : List (Str × Addr)) (fp : List Addr), GTs (X.blk s H scope (compEnvC scope cl C X.env) fp) ifs tt)
    (hi1 : ∀ (s : Shared) (H : Hp) (C : Addr) (cl : List (Str × Addr)) (fp : List Addr), GI (X.blk s H scope (compEnvC scope cl C X.env) fp) tg1 iter1 ti1)
    (hg1 : ∀ (s : Shared) (H : Hp) (C : Addr) (cl : List (Str × Addr)) (fp : List Addr), GGc (X.blk s H scope (compEnvC scope cl C X.env) fp) vs1 tg1 g1) (ht1 : ∀ (s : Shared) (H : Hp) (C : Addr) (cl : List (Str × Addr)) (fp : List Addr), GTs (X.blk s H scope (compEnvC scope cl C X.env) fp) ifs1 tt1)
    (he : ∀ (s : Shared) (H : Hp) (C : Addr) (cl : List (Str × Addr)) (fp : List Addr), GE (X.blk s H scope (compEnvC scope cl C X.env) fp) elt te) (hs : ∀ x, foldedSetIterable iter X.env x = pure x := by intro _; rfl) (hs1 : ∀ env x, foldedSetIterable iter1 env x = pure x := by intro _ _; rfl) :
    GE X (.ListComp elt [⟨tg, iter, ifs, 0⟩, ⟨tg1, iter1, ifs1, 0⟩] scope pos) (eLc2 ti g tt ti1 g1 tt1 te (own.map (·.2)) vs1) :=
  pe_weak (pe_lc2 (wi := LI X.K ti) (wi1 := LI X.K ti1) (g := LGc X.K (own.map fun q : Str × Nat => q.2) g) (tt := LT X.K tt) (g1 := LGc X.K vs1 g1) (tt1 := LT X.K tt1) (te := LE X.K te) hc hN hi ok hv hg ht hi1 hg1 ht1 he hs hs1) fun σ H Q h => lc2_pure h
end
end Gx

/-! G12: zip of a tuple and a list, and of a list and a tuple (a side: true for a tuple, false for a list). -/
namespace Gx
open PySem L2
open PySem.Sem (wp)
/-- what stands at an address: a tuple, or a list -/
def SideAt (t : Bool) (h : Heap) (l : Addr) (xs : Array Value) : Prop := if t then h.IsTuple l xs else h.IsList l xs
def TurnAt (t : Bool) (h : Heap) (a l : Addr) (i : Nat) : Prop := if t then h.IsTupleIter a l i else h.IsListIter a l i
theorem SideAt.ext {t : Bool} {h h' : Heap} {a b items} (x : SideAt t h a items) (hs : Heap.ExtBut b h h') (hab : a ≠ b) : SideAt t h' a items := by
  cases t
  · exact Heap.IsList.extBut (show h.IsList a items from x) hs hab
  · exact Heap.IsTuple.extBut (show h.IsTuple a items from x) hs hab
theorem TurnAt.ext {t : Bool} {h h' : Heap} {a b l i} (x : TurnAt t h a l i) (hs : Heap.ExtBut b h h') (hab : a ≠ b) : TurnAt t h' a l i := by
  cases t
  · exact Heap.IsListIter.extBut (show h.IsListIter a l i from x) hs hab
  · exact Heap.IsTupleIter.extBut (show h.IsTupleIter a l i from x) hs hab
theorem TurnAt.at {t : Bool} {h h' : Heap} {a l i} (x : TurnAt t h a l i) (e : ∀ o, h.get? a = some o → h'.get? a = some o) : TurnAt t h' a l i := by
  cases t
  · exact Heap.IsListIter.at (show h.IsListIter a l i from x) e
  · exact Heap.IsTupleIter.at (show h.IsTupleIter a l i from x) e
theorem TurnAt.lt {t : Bool} {h : Heap} {a l i} (x : TurnAt t h a l i) : a < h.objs.size := by
  cases t
  · obtain ⟨_, e, _⟩ := (show h.IsListIter a l i from x); exact Heap.lt_size e
  · obtain ⟨_, e, _⟩ := (show h.IsTupleIter a l i from x); exact Heap.lt_size e
section
variable {prog : Program} {w : World} {A : Around} {E : Value → Shared → Prop} {s : Shared}
end
section
variable {prog : Program} {w : World} {A : Around} {E : Value → Shared → Prop} {s : Shared}
end
end Gx

/-! G13: zip of a tuple and a list, over data. -/
namespace Gx
open PySem PySem.Spec PyProof.Rows L2
section
variable {X : Cx} {pins : List (Addr × Obj)} {σ : L2.St} {H : Hp} {s : Shared} {a : Addr} {xs ys : List V}
end
theorem TurnAt.obj {t : Bool} {h : Heap} {a l i} (x : TurnAt t h a l i) : ∃ o, h.get? a = some o ∧ o.data = .fields #[.ref l, .int i 0] := by
  cases t
  · obtain ⟨o, e, _, d⟩ := (show h.IsListIter a l i from x); exact ⟨o, e, d⟩
  · obtain ⟨o, e, _, d⟩ := (show h.IsTupleIter a l i from x); exact ⟨o, e, d⟩
theorem SideAt.lt {t : Bool} {h : Heap} {a xs} (x : SideAt t h a xs) : a < h.objs.size := by
  cases t
  · obtain ⟨o, e, _⟩ := (show h.IsList a xs from x); exact Heap.lt_size e
  · obtain ⟨o, e, _⟩ := (show h.IsTuple a xs from x); exact Heap.lt_size e
section
variable {K : PySem.W.Frag} {S F : Sto} {H : Hp}
end
/-- zip of two, each a list or a tuple -/
def iZip2G (u : AT) : IT' := fun τ S Z => u τ S fun ds S1 => match ds with
  | [d, e] => seqG S1 (fun ds g S => seqG S (fun es g' S => Z (zipD ds es) (fun S' => g S' ∧ g' S') S) e) d
  | _ => False
end Gx

/-! Gx, part 14: dicts, by address. -/
namespace Gx
open PySem PySem.Spec PyProof.Rows L2

/-! ### keys, entries -/
def keyD : Key → D
  | .inl i => .int i
  | .inr x => .str x
def keyOf : D → Option Key
  | .int i => some (.inl i)
  | .str x => some (.inr x)
  | _ => none
def valD {κ : Type} [DecidableEq κ] (kvs : List (κ × D)) (k : κ) : Option D := (kvs.find? fun kv => decide (kv.1 = k)).map (·.2)
def putD {κ : Type} [DecidableEq κ] (kvs : List (κ × D)) (k : κ) (d : D) : List (κ × D) :=
  if (kvs.any fun kv => decide (kv.1 = k)) = true then kvs.map fun kv => if kv.1 = k then (kv.1, d) else kv else kvs ++ [(k, d)]
/-- the entries of a dict, changing or no more -/
def dctAt (S : Sto) : D → Option (List (Key × D))
  | .ref p => (match S p with
    | some (.dK kvs) => some kvs
    | some (.dF _ _ kvs) => some kvs
    | _ => none)
  | _ => none
section
variable {K : PySem.W.Frag} {T : Sto} {H : Hp} {S F : Sto}
variable {κ : Type} [DecidableEq κ]
/-- entries stand for entries -/
def Ent (K : PySem.W.Frag) (T : Sto) (H : Hp) (kvs : List (κ × D)) (ks : List (κ × V)) : Prop := ks.map (·.1) = kvs.map (·.1) ∧ RpL K T H (kvs.map (·.2)) (ks.map (·.2))
theorem Ent.nil : Ent K T H ([] : List (κ × D)) ([] : List (κ × V)) := ⟨rfl, rfl⟩
theorem Ent.cases {kv : κ × D} {kvs : List (κ × D)} {ks : List (κ × V)} (h : Ent K T H (kv :: kvs) ks) : ∃ v ks', ks = (kv.1, v) :: ks' ∧ Rp K T H kv.2 v ∧ Ent K T H kvs ks' := by
  obtain ⟨h1, h2⟩ := h
  cases ks with
  | nil => cases h1
  | cons u ks =>
    obtain ⟨x, r, e, rx, rr⟩ := h2
    rw [List.map_cons, List.map_cons] at h1
    injection h1 with h1 h3
    rw [List.map_cons] at e
    injection e with e1 e2
    subst e1 e2
    refine ⟨u.2, ks, ?_, rx, h3, rr⟩
    rw [← h1]
theorem Ent.cons {k : κ} {d : D} {v : V} {kvs : List (κ × D)} {ks : List (κ × V)} (r : Rp K T H d v) (h : Ent K T H kvs ks) : Ent K T H ((k, d) :: kvs) ((k, v) :: ks) :=
  ⟨by rw [List.map_cons, List.map_cons, h.1], ⟨_, _, rfl, r, h.2⟩⟩
theorem Ent.val : ∀ {kvs : List (κ × D)} {ks : List (κ × V)}, Ent K T H kvs ks → ∀ k, (valD kvs k = none ∧ valV ks k = none) ∨ ∃ d v, valD kvs k = some d ∧ valV ks k = some v ∧ Rp K T H d v
  | [], ks, h, k => by
    obtain ⟨h1, _⟩ := h
    cases ks with
    | nil => exact .inl ⟨rfl, rfl⟩
    | cons u ks => cases h1
  | kv :: kvs, ks, h, k => by
    obtain ⟨v, ks', rfl, r, h'⟩ := h.cases
    by_cases z : kv.1 = k
    · exact .inr ⟨kv.2, v, by unfold valD; rw [List.find?_cons_of_pos (by simpa using z)]; rfl, by unfold valV; rw [List.find?_cons_of_pos (by simpa using z)]; rfl, r⟩
    · have e1 : valD (kv :: kvs) k = valD kvs k := by unfold valD; rw [List.find?_cons_of_neg (by simpa using z)]
      have e2 : valV ((kv.1, v) :: ks') k = valV ks' k := by unfold valV; rw [List.find?_cons_of_neg (by simpa using z)]
      rw [e1, e2]
      exact Ent.val h' k
theorem Ent.app : ∀ {kvs kvs' : List (κ × D)} {ks ks' : List (κ × V)}, Ent K T H kvs ks → Ent K T H kvs' ks' → Ent K T H (kvs ++ kvs') (ks ++ ks') := fun h h' =>
  ⟨by rw [List.map_append, List.map_append, h.1, h'.1], by rw [List.map_append, List.map_append]; exact RpL.app h.2 h'.2⟩
theorem Ent.sub {k : κ} {d : D} {v : V} (r : Rp K T H d v) : ∀ {kvs : List (κ × D)} {ks : List (κ × V)}, Ent K T H kvs ks → Ent K T H (kvs.map fun kv => if kv.1 = k then (kv.1, d) else kv) (ks.map fun kv => if kv.1 = k then (kv.1, v) else kv)
  | [], ks, h => by
    obtain ⟨h1, _⟩ := h
    cases ks with
    | nil => exact .nil
    | cons u ks => cases h1
  | kv :: kvs, ks, h => by
    obtain ⟨u, ks', rfl, ru, h'⟩ := h.cases
    rw [List.map_cons, List.map_cons]
    by_cases z : kv.1 = k
    · rw [if_pos z, if_pos z]
      exact .cons r (Ent.sub r h')
    · rw [if_neg z, if_neg z]
      exact .cons ru (Ent.sub r h')
theorem Ent.length {kvs : List (κ × D)} {ks : List (κ × V)} (h : Ent K T H kvs ks) : ks.length = kvs.length := by
  have := congrArg List.length h.1
  rw [List.length_map, List.length_map] at this
  exact this
theorem Ent.ev {T' : Sto} {H' : Hp} (o : Ok K T H) (ev : Ev T H T' H') {kvs : List (κ × D)} {ks : List (κ × V)} (h : Ent K T H kvs ks) : Ent K T' H' kvs ks := ⟨h.1, RpL.ev o ev h.2⟩
end

section
variable {X : Cx} {e a b : Expr} {t ta tb : ET} {pos : Pos}
/-! ### displays -/
def eDic0 : ET := fun _ S Q => ∀ p, S p = none → Q (.ref p) (up S p (.dK []))
/-- one entry -/
def eDic1 (ta tb : ET) : ET := fun τ S Q => ∀ p, S p = none → ta τ (up S p (.dK [])) fun d S1 => tb τ S1 fun e S2 => S2 p = some (.dK []) ∧ match keyOf d with
  | some k => Q (.ref p) (up S2 p (.dK [(k, e)]))
  | none => False
/-! ### d[k], k in d, d[k] = v -/
def oDix : O2 := fun d e S R => match dctAt S d, keyOf e with
  | some kvs, some k => (match valD kvs k with
    | some x => R x S
    | none => False)
  | _, _ => False
theorem Rd.get {H : Hp} {a : Addr} {ks : List (Key × V)} {k : Key} (h : Rd H a (.dK ks)) : DGet H a (kV k) (valV ks k) := .inl ⟨ks, k, h, rfl, rfl⟩
def oDin : O2 := fun e d S R => match dctAt S d, keyOf e with
  | some kvs, some k => R (.bl (valD kvs k).isSome) S
  | _, _ => False
def oDnin : O2 := fun e d S R => match dctAt S d, keyOf e with
  | some kvs, some k => R (.bl (!(valD kvs k).isSome)) S
  | _, _ => False
def oDset : OSet := fun d e f S R => match d, keyOf e with
  | .ref p, some k => (match S p with
    | some (.dK kvs) => kvs.length < sizeLine ∧ R (up S p (.dK (putD kvs k f)))
    | _ => False)
  | _, _ => False
/-! ### for k in d: behind it the dict changes no more -/
def keysG (S : Sto) (Z : List D → (Sto → Prop) → Sto → Prop) : D → Prop
  | .ref p => match S p with
    | some (.dK kvs) => ∀ od ks, Z (kvs.map fun kv => keyD kv.1) (fun S' => S' p = some (.dF od ks kvs)) (up S p (.dF od ks kvs))
    | some (.dF od ks kvs) => Z (kvs.map fun kv => keyD kv.1) (fun S' => S' p = some (.dF od ks kvs)) S
    | _ => False
  | _ => False
def iKeysG (te : ET) : IT' := fun τ S Z => te τ S fun d S1 => keysG S1 Z d
/-! ### sorted(d), list(d), len(d); also of lists -/
def intKeys : List (Key × D) → Option (List Int)
  | [] => some []
  | (.inl i, _) :: kvs => (intKeys kvs).map (i :: ·)
  | _ => none
def cSortedE : OL := fun ds S R => match ds with
  | [d] => (match dctAt S d with
    | some kvs => (match intKeys kvs with
      | some ns => ns.length < 64 ∧ ∀ ns' : List Int, ns'.Perm ns → ns'.Pairwise (· ≤ ·) → R (.lst (ns'.map .int)) S
      | none => False)
    | none => cSortedI [d] S R)
  | _ => False
def cListD : OL := fun ds S R => match ds with
  | [d] => (match dctAt S d with
    | some kvs => R (.lst (kvs.map fun kv => keyD kv.1)) S
    | none => False)
  | _ => False
end
end Gx

/-! Gx, part 15: a tuple times a number from 1 on. -/
namespace Gx
open PySem PySem.Spec PyProof.Rows L2
section
variable {X : Cx}
/-- (..) * k -/
def oMulT : O2 := fun d e S R => match d, e with
  | .tup xs, .int k => (1 ≤ k ∧ k ≤ 1000 ∧ 1 ≤ xs.length ∧ xs.length ≤ 1000) ∧ R (.tup (List.replicate k.toNat xs).flatten) S
  | _, _ => False
end
end Gx

/-! Gx, part 16: a truth value less another one; dicts with keys that are tuples; sorted pairs. -/
namespace Gx
open PySem PySem.Spec PyProof.Rows L2
def bi (b : Bool) : Int := if b = true then 1 else 0
section
variable {X : Cx}
def oSubB : O2 := fun d e S R => match d, e with
  | .bl a, .bl b => R (.int (bi a - bi b)) S
  | _, _ => False
/-! ### dicts with keys that are tuples -/
def keysOf : List D → Option (List Key)
  | [] => some []
  | d :: ds => match keyOf d, keysOf ds with
    | some k, some ks => some (k :: ks)
    | _, _ => none
def dctT (S : Sto) : D → Option (List (List Key × D))
  | .ref p => (match S p with
    | some (.dT kvs) => some kvs
    | _ => none)
  | _ => none
end
section
variable {K : PySem.W.Frag} {T : Sto} {H : Hp} {S F : Sto}
theorem RpL.perm : ∀ {xs ys : List V}, xs.Perm ys → ∀ {ds : List D}, RpL K T H ds xs → ∃ es, es.Perm ds ∧ RpL K T H es ys := by
  intro xs ys h
  induction h with
  | nil =>
    intro ds r
    exact ⟨ds, .refl _, r⟩
  | cons x h ih =>
    intro ds r
    cases ds with
    | nil => cases r
    | cons d ds =>
      obtain ⟨y, r', e, ry, rr⟩ := r
      injection e with e1 e2
      subst e1 e2
      obtain ⟨es, p, q⟩ := ih rr
      exact ⟨d :: es, p.cons d, _, _, rfl, ry, q⟩
  | swap x y l =>
    intro ds r
    cases ds with
    | nil => cases r
    | cons d ds =>
      obtain ⟨y', r', e, ry, rr⟩ := r
      injection e with e1 e2
      subst e1 e2
      cases ds with
      | nil => cases rr
      | cons d' ds =>
        obtain ⟨x', r'', e, rx, rr⟩ := rr
        injection e with e1 e2
        subst e1 e2
        exact ⟨d' :: d :: ds, .swap d d' ds, _, _, rfl, rx, _, _, rfl, ry, rr⟩
  | trans h1 h2 ih1 ih2 =>
    intro ds r
    obtain ⟨es, p, q⟩ := ih1 r
    obtain ⟨fs, p', q'⟩ := ih2 q
    exact ⟨fs, p'.trans p, q'⟩
end
section
variable {X : Cx} {a b : Expr} {ta tb : ET} {pos p2 : Pos} {es : List Expr} {u : AT} {n : Nat}
def eDicT0 : ET := fun _ S Q => ∀ p, S p = none → Q (.ref p) (up S p (.dT []))
/-- d[i, j] -/
def eDixT (ta : ET) (u : AT) : ET := fun τ S Q => ta τ S fun d S1 => u τ S1 fun ds S2 => ds.length ≤ sizeLine ∧ match dctT S2 d, keysOf ds with
  | some kvs, some ks => (match valD kvs ks with
    | some x => Q x S2
    | none => False)
  | _, _ => False
/-- d[i, j] = v -/
def gSubsT (ta : ET) (u : AT) : TG' := fun f τ S Q => ta τ S fun d S1 => u τ S1 fun ds S2 => ds.length ≤ sizeLine ∧ match d, keysOf ds with
  | .ref p, some ks => (match S2 p with
    | some (.dT kvs) => kvs.length < sizeLine ∧ Q τ (up S2 p (.dT (putD kvs ks f)))
    | _ => False)
  | _, _ => False
/-- list(d) -/
def cListT : OL := fun ds S R => match ds with
  | [d] => (match dctT S d with
    | some kvs => R (.lst (kvs.map fun kv => .tup (kv.1.map keyD))) S
    | none => False)
  | _ => False
/-! ### sorted pairs -/
def pairD (p : Int × Int) : D := .tup [.int p.1, .int p.2]
def pairsOf : List D → Option (List (Int × Int))
  | [] => some []
  | .tup [.int i, .int j] :: ds => (pairsOf ds).map ((i, j) :: ·)
  | _ => none
def leP (p q : Int × Int) : Prop := p.1 < q.1 ∨ (p.1 = q.1 ∧ p.2 ≤ q.2)
/-- sorted(xs), xs pairs of numbers from 0 on, below 1000 -/
def cSortedP : OL := fun ds S R => match ds with
  | [d] => (match rs S d with
    | .lst es => (match pairsOf es with
      | some ps => (ps.length < 64 ∧ ∀ p ∈ ps, (0 ≤ p.1 ∧ p.1 < 1000) ∧ 0 ≤ p.2 ∧ p.2 < 1000) ∧ ∀ qs : List (Int × Int), qs.Perm ps → qs.Pairwise leP → R (.lst (qs.map pairD)) S
      | none => False)
    | _ => False)
  | _ => False
end
end Gx

/-! Gx, part 17: stars in displays; list(range(..)). -/
namespace Gx
open PySem PySem.Spec PyProof.Rows L2
section
variable {X : Cx} {e a : Expr} {es : List Expr} {t : ET} {u : AT} {p pos : Pos}
/-- *e ahead of others -/
def aStar (t : ET) (u : AT) : AT := fun τ S Q => t τ S fun d S1 => match itemsOf (rs S1 d) with
  | some xs => u τ S1 fun ys S2 => Q (xs ++ ys) S2
  | none => False
theorem ga_star (he : GE X e t) (hr : GA X es u) (hs : starEach (.Starred e p :: es) X.env = (true, eval e X.env) :: starEach es X.env := by rfl) : GA X (.Starred e p :: es) (aStar t u) := pa_weak (StX.pa_star he hr hs) fun σ H Q ⟨τ, S, F, R, w, r, q, g⟩ => by
  refine ⟨τ, S, F, _, w, r, q, fun d S1 v H1 q1 a1 r1 => ?_⟩
  split at q1
  · rename_i xs hx
    obtain ⟨b, vs, rfl, hv, rl⟩ := seq_view a1.wd r1 hx
    refine ⟨b, vs, rfl, hv.symm, τ, S1, F, _, a1.wd, a1.rps w r, q1, fun ds S2 ws H2 q2 a2 r2 => ?_⟩
    exact g _ _ _ _ q2 (a1.trans a2) ((RpL.ev a1.wd.ok a2.ev rl).app r2)
  · exact q1.elim
theorem rpl_nats {K : PySem.W.Frag} {T : Sto} {H : Hp} : ∀ l : List Nat, RpL K T H (l.map fun i : Nat => D.int (i : Int)) (l.map fun i : Nat => V.int (0 + (i : Nat)))
  | [] => rfl
  | i :: l => ⟨_, _, rfl, by show Rp K T H (.int (i : Int)) (.int (0 + (i : Int))); rw [Int.zero_add]; exact rfl, rpl_nats l⟩
/-- list(range(n)) -/
def eLstRg (t : ET) : ET := fun τ S Q => t τ S fun d S1 => match d with
  | .int n => (0 ≤ n ∧ n ≤ 1000) ∧ Q (.lst ((List.range n.toNat).map fun i : Nat => D.int (i : Int))) S1
  | _ => False
theorem g_lstRg {p2 pos2 : Pos} (hc : X.calm = true) (hg : Gl X "list") (hm : X.mg "list" = none) (hg2 : Gl X "range") (hm2 : X.mg "range" = none) (ha : GE X a t)
    (na : starEach [a] X.env = (false, eval a X.env) :: starEach [] X.env := by rfl) (nb : starEach [Expr.Call (.Name "range" p2) [a] [] pos2] X.env = (false, eval (.Call (.Name "range" p2) [a] [] pos2) X.env) :: starEach [] X.env := by rfl) :
    GE X (.Call (.Name "list" p) [.Call (.Name "range" p2) [a] [] pos2] [] pos) (eLstRg t) := pe_weak (pe_listRg hc hg hm (prg_1 hg2 hm2 ha na) nb) fun σ H Q ⟨τ, S, F, R, w, r, q, g⟩ => by
  refine ⟨τ, S, F, _, w, r, q, fun d S1 v H1 q1 a1 r1 => ?_⟩
  split at q1
  · rename_i n
    cases r1
    refine ⟨n, rfl, RgOk.of_le (by omega) (by omega) (by omega) (by omega), fun b hb => ?_⟩
    refine g _ _ _ _ q1.2 (a1.trans (Aft.new a1.wd hb)) (rp_newL a1.wd hb ?_)
    unfold rgV
    rw [Int.sub_zero]
    exact rpl_nats _
  · exact q1.elim
end
end Gx

set_option maxHeartbeats 8000000
/-! Gx, part 18: how many unlike ones there are among tuples of whole numbers: len(set(x)), x a tuple of them. -/
namespace Gx
open PySem PySem.Spec PyProof.Rows L2
section
variable {P : Program} {w : World} {A : Around} {E : Value → Shared → Prop} {s : Shared}
end
section
variable {X : Cx}
theorem sub_len {α : Type} [DecidableEq α] : ∀ {l m : List α}, l.Nodup → (∀ x ∈ l, x ∈ m) → l.length ≤ m.length
  | [], m, _, _ => Nat.zero_le _
  | x :: l, m, nd, h => by
    rw [List.nodup_cons] at nd
    have hx := h x List.mem_cons_self
    have := sub_len (m := m.erase x) nd.2 fun y hy => (List.mem_erase_of_ne fun z => nd.1 (by rw [← z]; exact hy)).mpr (h y (List.mem_cons_of_mem _ hy))
    rw [List.length_erase_of_mem hx] at this
    have := List.length_pos_of_mem hx
    rw [List.length_cons]
    omega
def eLenT (t : ET) : ET := fun τ S Q => t τ S fun d S1 => ∃ nss : List (List Int), d = .tup (nss.map fun ns => .tup (ns.map .int)) ∧ (nss.length < 64 ∧ nss.Nodup) ∧ Q (.int (nss.length : Nat)) S1
end
end Gx

/-! Gx, part 19: sorted(set(x)), x a list of whole numbers; sorted(x), x a list of tuples of whole numbers of unlike lengths. -/
namespace Gx
open PySem PySem.Spec PyProof.Rows L2
section
variable {P : Program} {w : World} {A : Around} {E : Value → Shared → Prop} {s : Shared}
end
section
variable {X : Cx}
def eSortSet (t : ET) : ET := fun τ S Q => t τ S fun d S1 => ∃ ns : List Int, lstInts S1 d = some ns ∧ ns.length < 64 ∧ ∀ out : List Int, out.Pairwise (· < ·) → (∀ k, k ∈ out ↔ k ∈ ns) → Q (.lst (out.map .int)) S1
end

/-! ### tuples of unlike lengths -/
/-- a tuple's rank among those of up to L numbers from 0 on, below B -/
def cU (B : Int) : Nat → List Int → Int
  | 0, _ => 0
  | _ + 1, [] => 0
  | L + 1, d :: r => (d + 1) * (B + 1) ^ L + cU B L r
theorem pow_posI {B : Int} (hB : 0 ≤ B) : ∀ L : Nat, 0 < (B + 1) ^ L
  | 0 => by rw [Int.pow_zero]; decide
  | L + 1 => by rw [Int.pow_succ]; exact Int.mul_pos (pow_posI hB L) (by omega)
theorem cU_nil {B : Int} : ∀ L : Nat, cU B L [] = 0
  | 0 => rfl
  | _ + 1 => rfl
theorem cU_bd {B : Int} (hB : 0 ≤ B) : ∀ (L : Nat) (ns : List Int), TS.Bd B ns → 0 ≤ cU B L ns ∧ cU B L ns < (B + 1) ^ L
  | 0, _, _ => ⟨Int.le_refl _, pow_posI hB 0⟩
  | L + 1, [], _ => ⟨Int.le_refl _, pow_posI hB _⟩
  | L + 1, d :: r, h => by
    obtain ⟨c0, c1⟩ := cU_bd hB L r h.tail
    have dd := h.head
    rw [Int.pow_succ]
    exact TS.num1 c0 c1 (by omega) (by omega)
theorem cU_pos {B : Int} (hB : 0 ≤ B) {L : Nat} {d : Int} {r : List Int} (h : TS.Bd B (d :: r)) : 0 < cU B (L + 1) (d :: r) := by
  obtain ⟨c0, _⟩ := cU_bd hB L r h.tail
  have dd := h.head
  have p := pow_posI hB L
  have := Int.mul_pos (show 0 < d + 1 by omega) p
  show 0 < (d + 1) * (B + 1) ^ L + cU B L r
  omega
theorem cU_lt {B : Int} (hB : 0 ≤ B) {L : Nat} {d e : Int} {r q : List Int} (hr : TS.Bd B r) (hq : TS.Bd B q) (h : d < e) : cU B (L + 1) (d :: r) < cU B (L + 1) (e :: q) := by
  obtain ⟨c0, c1⟩ := cU_bd hB L r hr
  obtain ⟨g0, g1⟩ := cU_bd hB L q hq
  exact TS.num2 c0 c1 g0 (by omega)
theorem cU_inj {B : Int} (hB : 0 ≤ B) : ∀ (L : Nat) (ns ms : List Int), TS.Bd B ns → TS.Bd B ms → ns.length ≤ L → ms.length ≤ L → cU B L ns = cU B L ms → ns = ms
  | L, [], [], _, _, _, _, _ => rfl
  | 0, d :: r, _, _, _, l1, _, _ => by simp at l1
  | 0, [], d :: r, _, _, _, l2, _ => by simp at l2
  | L + 1, [], e :: q, _, h2, _, _, h => by
    have := cU_pos hB (L := L) h2
    rw [cU_nil] at h
    omega
  | L + 1, d :: r, [], h1, _, _, _, h => by
    have := cU_pos hB (L := L) h1
    rw [cU_nil] at h
    omega
  | L + 1, d :: r, e :: q, h1, h2, l1, l2, h => by
    rcases Int.lt_trichotomy d e with z | z | z
    · have := cU_lt hB (L := L) h1.tail h2.tail z
      omega
    · subst z
      have h : (d + 1) * (B + 1) ^ L + cU B L r = (d + 1) * (B + 1) ^ L + cU B L q := h
      rw [cU_inj hB L r q h1.tail h2.tail (by simpa using l1) (by simpa using l2) (by omega)]
    · have := cU_lt hB (L := L) h2.tail h1.tail z
      omega
section
variable {prog : Program} {w : World} {A : Around} {E : Value → Shared → Prop} {s : Shared} {Q : Bool → Shared → Prop}
theorem lex_unlike {B : Int} (hB : 0 ≤ B) {b : Bool} {xs : List Value} {ns : List Int} (hx : IntsAre xs ns) : ∀ {ys : List Value} {ms : List Int} {L : Nat} {f : Bool} (i : Nat), IntsAre ys ms → TS.Bd B ns → TS.Bd B ms → ns.length ≤ L → ms.length ≤ L →
    f = decide (ns.length < ms.length) → Q (decide (cU B L ns < cU B L ms)) s → PySem.W.KatLex prog w A b f Q (xs.zip ys) i s := by
  induction hx with
  | nil =>
    intro ys ms L f i hy h1 h2 l1 l2 hf h
    cases hy with
    | nil =>
      rw [decide_eq_false (Int.lt_irrefl _)] at h
      rw [show f = false by rw [hf]; exact decide_eq_false (Nat.lt_irrefl _)]
      exact PySem.W.kat_nil h
    | cons q u hy =>
      cases L with
      | zero => simp at l2
      | succ L =>
        rw [decide_eq_true (by rw [cU_nil]; exact cU_pos hB h2)] at h
        rw [show f = true by rw [hf]; exact decide_eq_true (by simp)]
        exact PySem.W.kat_nil h
  | @cons p t xs ns hx ih =>
    intro ys ms L f i hy h1 h2 l1 l2 hf h
    cases L with
    | zero => simp at l1
    | succ L =>
      cases hy with
      | nil =>
        have := cU_pos hB (L := L) h1
        rw [decide_eq_false (by rw [cU_nil]; omega)] at h
        rw [show f = false by rw [hf]; exact decide_eq_false (by simp)]
        exact PySem.W.kat_nil h
      | @cons q u ys ms hy =>
        have f2 : f = decide (ns.length < ms.length) := by
          rw [hf]
          exact decide_eq_decide.mpr (by rw [List.length_cons, List.length_cons]; omega)
        show PySem.W.KatLex prog w A b f Q ((Value.int p t, Value.int q u) :: xs.zip ys) i s
        refine PySem.W.kat_cons (wpAny_eqBool_int ?_)
        by_cases e : p = q
        · subst e
          rw [beq_self_eq_true]
          have d : decide (cU B (L + 1) (p :: ns) < cU B (L + 1) (p :: ms)) = decide (cU B L ns < cU B L ms) := decide_eq_decide.mpr (by
            show (p + 1) * (B + 1) ^ L + cU B L ns < (p + 1) * (B + 1) ^ L + cU B L ms ↔ _
            omega)
          rw [d] at h
          exact PySem.W.kat_yes (ih (i + 1) hy h1.tail h2.tail (by simpa using l1) (by simpa using l2) f2 h)
        · rw [show (p == q) = false from beq_eq_false_iff_ne.mpr e]
          refine PySem.W.kat_no (TS.oneLt_ints _ ?_)
          have d : decide (cU B (L + 1) (p :: ns) < cU B (L + 1) (q :: ms)) = decide (p < q) := decide_eq_decide.mpr ⟨fun x => by
            rcases Int.lt_trichotomy p q with y | y | y
            · exact y
            · exact absurd y e
            · have := cU_lt hB (L := L) h2.tail h1.tail y
              omega, fun x => cU_lt hB h1.tail h2.tail x⟩
          rw [d] at h
          exact h
end
/-- tuples of one number or more -/
def TupsUn (h : Heap) (L : Nat) (B : Int) (vs : List Value) : Prop := ∀ v, v ∈ vs → ∃ ns, TS.TupInts h v ns ∧ (ns ≠ [] ∨ vs.length ≤ 1) ∧ ns.length ≤ L ∧ TS.Bd B ns
theorem TupsUn.keeps {h h' : Heap} {L : Nat} {B : Int} {vs : List Value} (x : TupsUn h L B vs) (k : ∀ b o, h.get? b = some o → o.cls = .type "tuple" → h'.get? b = some o) : TupsUn h' L B vs := fun v hv =>
  have ⟨ns, t, r⟩ := x v hv
  ⟨ns, t.keeps k, r⟩
theorem firsts_un {h : Heap} : ∀ vs : List Value, (∀ v ∈ vs, ∃ ns, TS.TupInts h v ns ∧ ns ≠ []) → ∃ fs, PySem.W.KatTups h vs fs ∧ fs.length = vs.length ∧ ∀ f ∈ fs, ∃ n t, f = Value.int n t
  | [], _ => ⟨[], .nil, rfl, fun _ h => nomatch h⟩
  | v :: vs, x => by
    obtain ⟨fs, k, hl, hi⟩ := firsts_un vs fun u hu => x u (List.mem_cons_of_mem _ hu)
    obtain ⟨ns, ⟨a, xs, rfl, ⟨o, ho, hc, n, hdt⟩, i⟩, hn⟩ := x v List.mem_cons_self
    cases q : xs.toList with
    | nil =>
      rw [q] at i
      cases i
      exact absurd rfl hn
    | cons y ys =>
      obtain ⟨m, t, hy⟩ := i.all y (by rw [q]; exact List.mem_cons_self)
      have z := congrArg (fun l : List Value => l[0]?) q
      refine ⟨y :: fs, PySem.W.KatTups.cons ho hc hdt (by simpa using z) k, by rw [List.length_cons, List.length_cons, hl], fun f hf => ?_⟩
      rcases List.mem_cons.mp hf with rfl | hf
      · exact ⟨m, t, hy⟩
      · exact hi f hf
section
variable {prog : Program} {w : World} {A : Around} {E : Value → Shared → Prop} {s : Shared}
theorem kind_un {L : Nat} {B : Int} (hB : 0 ≤ B) {vs : List Value} (h2 : 2 ≤ vs.length) (x : TupsUn s.heap L B vs) (r : Value → Int) (hr : ∀ v, v ∈ vs → ∀ ns, TS.TupInts s.heap v ns → r v = cU B L ns) (Q : SortKind → Shared → Prop)
    (h : ∀ κ, TS.Cmp prog w A s κ (PyProof.Rows.pairsOf vs) r → Q κ s) : wpAny (model prog w) A (keyKind' vs.toArray) Q E s := by
  obtain ⟨fs, k, hl, hi⟩ := firsts_un vs fun v hv => by
    obtain ⟨ns, t, h, _⟩ := x v hv
    exact ⟨ns, t, h.resolve_right (by omega)⟩
  refine PySem.W.kat_kind (T := Value.type "int") k (by omega) (fun f hf => ?_) rfl (h _ ?_)
  · obtain ⟨n, t, rfl⟩ := hi f hf
    exact PySem.W.Looks.of_pure rfl
  · intro p q hp hq Q' E' hQ
    rw [PyProof.Rows.pairsOf_toList] at hp hq
    obtain ⟨ns, tp, _, lp, bp⟩ := x _ (mem_zip_self hp).2
    obtain ⟨ms, tq, _, lq, bq⟩ := x _ (mem_zip_self hq).2
    have ep := hr _ (mem_zip_self hp).2 _ tp
    have eq2 := hr _ (mem_zip_self hq).2 _ tq
    rw [ep, eq2] at hQ
    obtain ⟨a, xs, e1, ⟨o, ho, hc, n, hdt⟩, i⟩ := tp
    obtain ⟨a', ys, e2, ⟨o', ho', hc', n', hdt'⟩, i'⟩ := tq
    rw [e1, e2]
    refine PySem.W.kat_lt ho hdt ho' hdt' (lex_unlike hB i 0 i' bp bq lp lq ?_ hQ)
    have l1 := i.length
    have l2 := i'.length
    rw [Array.length_toList] at l1 l2
    rw [l1, l2]
theorem sort_un {a : Addr} {vs : List Value} {n L : Nat} {B : Int} (hB : 0 ≤ B) {P : PySem.Fin → Shared → Prop} (ho : s.heap.get? a = some (seqObj "list" vs.toArray n)) (h64 : vs.length < 64) (x : TupsUn s.heap L B vs)
    (r : Value → Int) (hr : ∀ v, v ∈ vs → ∀ ns, TS.TupInts s.heap v ns → r v = cU B L ns)
    (h : ∀ out : Array Value, out.toList.Perm vs → out.toList.Pairwise (fun u v => r u ≤ r v) → P (.done (.ret .none)) { s with heap := sortedHeap s.heap a vs out }) :
    wpAny (model prog w) A (Builtin.«list.sort» ⟨[.ref a], []⟩) P E s := by
  have keep : ∀ b o, s.heap.get? b = some o → o.cls = .type "tuple" → (TS.midHeap s.heap a vs).get? b = some o := fun b o e hc => TS.midHeap_old (by
    rintro rfl
    have e2 := Option.some.inj (ho.symm.trans e)
    rw [← e2] at hc
    exact absurd (show Value.type "list" = Value.type "tuple" from hc) (by decide)) e
  refine SK.plain_sort (r := r) ho h64 (fun h2 Q hQ => ?_) fun ps out h1 h2 h3 => ?_
  · refine kind_un (s := { s with heap := TS.midHeap s.heap a vs }) hB h2 (x.keeps keep) r (fun v hv ns t => ?_) Q hQ
    obtain ⟨ns0, t0, _⟩ := x v hv
    rw [show ns = ns0 from t.ints.symm.trans (t0.keeps keep).ints]
    exact hr v hv ns0 t0
  · obtain ⟨p, o⟩ := TS.out_rank h1 h2 h3
    exact h out p o
/-- sorted(xs) -/
theorem sorted_un {l : Addr} {vs : List Value} {L : Nat} {B : Int} (hB : 0 ≤ B) {Q : Value → Shared → Prop} (hl : s.heap.IsList l vs.toArray) (h64 : vs.length < 64) (x : TupsUn s.heap L B vs)
    (h : ∀ out : Array Value, out.toList.Perm vs → out.toList.Pairwise (fun u v => cU B L (TS.intsOf s.heap u) ≤ cU B L (TS.intsOf s.heap v)) → Q (.ref (s.heap.objs.size + 1)) { s with heap := sortedAll s.heap vs out }) :
    wpAny (model prog w) A (call (.builtin "sorted") [.ref l]) Q E s := by
  refine Calls.call_function_entry kind_sorted plain_sorted entry_sorted (args_sorted1 _) ?_
  unfold Builtin.«sorted»
  refine wpAny_bind (m := checkCount "sorted" 1 1 _) (wpAny_pure (wpAny_bind (collect_list hl ?_ (by rw [sizeLine_eq]; omega))))
  refine wpAny_bind (wpAny_newList ?_ (by rw [sizeLine_eq]; omega))
  let h1 := (s.heap.push (seqObj "list" #[] 0)).update s.heap.objs.size (Obj.mapSeq (· ++ vs.toArray))
  have hsz : h1.objs.size = s.heap.objs.size + 1 := by
    show ((s.heap.push (seqObj "list" #[] 0)).update s.heap.objs.size (Obj.mapSeq (· ++ vs.toArray))).objs.size = _
    rw [Heap.size_update, size_push']
  have hoL : (h1.push (seqObj "list" vs.toArray 0)).get? (s.heap.objs.size + 1) = some (seqObj "list" vs.toArray 0) := by
    rw [← hsz]; exact Heap.get?_push_size _ rfl
  have keep : ∀ b o, s.heap.get? b = some o → o.cls = .type "tuple" → (h1.push (seqObj "list" vs.toArray 0)).get? b = some o := fun b o q _ => by
    have lt : b < s.heap.objs.size := Heap.lt_size q
    rw [Heap.get?_push_ne _ _ _ (by rw [hsz]; exact Nat.ne_of_lt (Nat.lt_succ_of_lt lt))]
    show ((s.heap.push (seqObj "list" #[] 0)).update s.heap.objs.size (Obj.mapSeq (· ++ vs.toArray))).get? b = _
    rw [Heap.get?_update_ne _ _ _ _ (Nat.ne_of_lt lt), Heap.get?_push_ne _ _ _ (Nat.ne_of_lt lt)]
    exact q
  show wpAny _ _ _ _ _ { s with heap := h1.push (seqObj "list" vs.toArray 0) }
  have hs2 : ((s.heap.push (seqObj "list" #[] 0)).update s.heap.objs.size (Obj.mapSeq (· ++ vs.toArray))).objs.size = s.heap.objs.size + 1 := hsz
  rw [hs2]
  refine wpAny_bind (wpAny_holding (wpAny_call_entry slot_list_sort ⟨_, hoL, rfl⟩ entry_list_sort (sort_un (s := { s with heap := h1.push (seqObj "list" vs.toArray 0) }) hB hoL h64 (x.keeps keep) (fun v => cU B L (TS.intsOf s.heap v)) (fun v hv ns t => ?_) fun out a1 a2 => ⟨_, rfl, ?_⟩) (args_list_sort _)))
  · obtain ⟨ns0, t0, _⟩ := x v hv
    rw [show ns = ns0 from t.ints.symm.trans (t0.keeps keep).ints]
    show cU B L (TS.intsOf s.heap v) = cU B L ns0
    rw [t0.ints]
  · exact wpAny_pure ⟨_, rfl, h out a1 a2⟩
end
section
variable {X : Cx}
def rSortUn (K : PySem.W.Frag) (L : Nat) (B : Int) : List V → Hp → VK → Prop := fun vs H Q => ∃ (a : Addr) (xs : List V), vs = [V.ref a] ∧ SqL K H a xs ∧ xs.length < 64 ∧ (∀ x ∈ xs, ∃ ns, TupI K H x ns ∧ (ns ≠ [] ∨ xs.length ≤ 1) ∧ ns.length ≤ L ∧ TS.Bd B ns) ∧
  ∀ (ys : List V) (p : Addr), ys.Perm xs → ys.Pairwise (fun x y => ∀ n m, TupI K H x n → TupI K H y m → cU B L n ≤ cU B L m) → H p = none → Q (.ref p) (upd H p (.lst ys))
theorem cr_sortUn {L : Nat} {B : Int} (hB : 0 ≤ B) : CallR X (.builtin "sorted") (rSortUn X.K L B) := by
  intro pins s σ H vs us Q I r h
  obtain ⟨a, xs, rfl, hs, h64, hx, q⟩ := h
  obtain ⟨its, rv, hl, hz⟩ := I.list hs
  rw [Vals.ref1 r]
  have lx : its.length = xs.length := rv.length.symm
  obtain ⟨e1, e2⟩ := bkV_refs rv fun x m => by
    obtain ⟨ns, ⟨t, e, _⟩, _⟩ := hx x m
    exact ⟨t, e⟩
  refine sorted_un (L := L) (B := B) hB hl.isList (by omega) (fun v hv => ?_) fun out h1 h2 => ?_
  · obtain ⟨t, rfl⟩ := e2 v hv
    have hm : V.ref t ∈ xs := by rw [e1]; exact List.mem_map.mpr ⟨_, hv, rfl⟩
    obtain ⟨ns, ⟨t', e, ht⟩, hn, hb⟩ := hx _ hm
    cases e
    exact ⟨ns, tupI_raw I ht, by rw [lx]; exact hn, hb⟩
  · obtain ⟨ep, he'⟩ := PyProof.Rows.sortedAll_at s.heap its out
    have h3 : ∀ u ∈ out.toList, ∃ a, u = Value.ref a := fun u hu => e2 u (h1.mem_iff.mp hu)
    have hp : (out.toList.map bkV).Perm xs := by rw [e1]; exact h1.map bkV
    have fits : (out.toList.map bkV).length ≤ sizeLine := by rw [hp.length_eq]; exact hz
    refine ⟨.ref _, upd H (s.heap.objs.size + 1) (.lst (out.toList.map bkV)), I.laid (t' := s.toks) (fun _ _ => PyProof.Rows.sortedAll_old) (Nat.le_succ _) ⟨fits, out.toList, ep, bkV_vals h3, he'⟩, rfl, q _ _ hp ?_ (I.hok.fresh (Nat.le_succ _))⟩
    rw [List.pairwise_map]
    refine List.Pairwise.imp (fun {u v} huv n m hn hm => ?_) h2
    obtain ⟨t, et, ht⟩ := hn
    obtain ⟨t', et', ht'⟩ := hm
    have i1 : TS.intsOf s.heap u = n := by rw [bkV_ref et]; exact (tupI_raw I ht).ints
    have i2 : TS.intsOf s.heap v = m := by rw [bkV_ref et']; exact (tupI_raw I ht').ints
    rw [← i1, ← i2]
    exact huv
def tupN (ns : List Int) : D := .tup (ns.map .int)
/-- lots: up to eight numbers from 0 to 7 -/
abbrev LotI (ns : List Int) : Prop := ns.length ≤ 8 ∧ TS.Bd 8 ns
abbrev leU (a b : List Int) : Prop := cU 8 8 a ≤ cU 8 8 b
def cSortedU : OL := fun ds S R => match ds with
  | [d] => ∃ nss : List (List Int), rs S d = .lst (nss.map tupN) ∧ nss.length < 64 ∧ (∀ ns ∈ nss, (ns ≠ [] ∨ nss.length ≤ 1) ∧ LotI ns) ∧ ∀ mss : List (List Int), mss.Perm nss → mss.Pairwise leU → R (.lst (mss.map tupN)) S
  | _ => False
theorem rpl_back {K : PySem.W.Frag} {T : Sto} {H : Hp} {ns : List Int} {y : V} (r : Rp K T H (tupN ns) y) : TupI K H y ns := by
  obtain ⟨t, zs, rfl, hz, rz⟩ := r
  rw [RpL.ints rz] at hz
  exact ⟨t, rfl, hz⟩
theorem c_sortedU : GC X (.builtin "sorted") cSortedU := fun pins s σ H vs us Q I r ⟨ds, S, F, R, w, r1, q, l⟩ => by
  refine cr_sortUn (L := 8) (B := 8) (by decide) pins s σ H vs us Q I r ?_
  unfold cSortedU at q
  split at q
  · rename_i d
    obtain ⟨nss, he, few, hn, q⟩ := q
    obtain ⟨x, _, rfl, rx, rfl⟩ := r1
    obtain ⟨a, xs, rfl, hx, rl⟩ := rs_lst w rx he
    have len := rl.length
    rw [List.length_map] at len
    have two : ∀ {nss : List (List Int)} {xs : List V}, RpL X.K (cmb S F) H (nss.map tupN) xs → ∀ x ∈ xs, ∃ ns ∈ nss, TupI X.K H x ns := fun {nss} => by
      induction nss with
      | nil => intro xs r x hx; rw [show xs = [] from r] at hx; cases hx
      | cons n nss ih =>
        intro xs r x hx
        obtain ⟨y, r', rfl, ry, rr⟩ := r
        rcases List.mem_cons.mp hx with e | hx
        · rw [e]; exact ⟨n, List.mem_cons_self, rpl_back ry⟩
        · obtain ⟨q, hq, ht⟩ := ih rr x hx
          exact ⟨q, List.mem_cons_of_mem _ hq, ht⟩
    refine ⟨a, xs, rfl, .of hx, by omega, fun x hx => ?_, fun ys p hperm hpw hp0 => ?_⟩
    · obtain ⟨ns, h1, ht⟩ := two rl x hx
      obtain ⟨b1, b2⟩ := hn ns h1
      exact ⟨ns, ht, by rw [len]; exact b1, b2⟩
    · obtain ⟨es, pe, re⟩ := RpL.perm hperm.symm rl
      obtain ⟨mss, pm, rfl⟩ : ∃ mss : List (List Int), mss.Perm nss ∧ es = mss.map tupN := by
        let ρ : D → List Int := fun d => match d with
          | .tup l => l.map fun d : D => match d with | .int i => i | _ => 0
          | _ => []
        have hρ : ∀ n, ρ (tupN n) = n := fun n => by
          show (n.map D.int).map (fun d : D => match d with | .int i => i | _ => 0) = n
          rw [List.map_map]
          exact (List.map_congr_left fun i _ => rfl).trans (List.map_id n)
        refine ⟨es.map ρ, ?_, ?_⟩
        · have := pe.map ρ
          rw [List.map_map, show nss.map (ρ ∘ tupN) = nss from (List.map_congr_left fun n _ => hρ n).trans (List.map_id nss)] at this
          exact this
        · rw [List.map_map]
          conv => lhs; rw [← List.map_id es]
          refine List.map_congr_left fun d hd => ?_
          obtain ⟨n, _, rfl⟩ := List.mem_map.mp (pe.subset hd)
          show tupN n = tupN (ρ (tupN n))
          rw [hρ]
      have ord : ∀ {mss : List (List Int)} {ys : List V}, RpL X.K (cmb S F) H (mss.map tupN) ys → List.Pairwise (fun x y => ∀ (n m : List Int), TupI X.K H x n → TupI X.K H y m → cU 8 8 n ≤ cU 8 8 m) ys → mss.Pairwise leU := fun {mss} => by
        induction mss with
        | nil => intro ys _ _; exact .nil
        | cons n mss ih =>
          intro ys r hy
          obtain ⟨y, r', rfl, ry, rr⟩ := r
          rw [List.pairwise_cons] at hy ⊢
          refine ⟨fun m hm => ?_, ih rr hy.2⟩
          obtain ⟨i, hi, e⟩ := List.getElem_of_mem hm
          obtain ⟨y', h1, h2⟩ := rr.get (i := i) (d := tupN m) (by rw [List.getElem?_map, List.getElem?_eq_getElem hi, e]; rfl)
          exact hy.1 y' (List.mem_of_getElem? h1) _ _ (rpl_back ry) (rpl_back h2)
      exact l _ _ _ _ (q mss pm (ord re hpw)) (Aft.new w hp0) (rp_newL w hp0 re)
  · exact q.elim
/-- in order, of the same things: the same -/
theorem sortU_one : ∀ {a b : List (List Int)}, a.Perm b → a.Pairwise leU → b.Pairwise leU → (∀ x ∈ a, LotI x) → a = b
  | [], b, p, _, _, _ => p.nil_eq
  | x :: a, [], p, _, _, _ => absurd p.length_eq (by simp)
  | x :: a, y :: b, p, h1, h2, hl => by
    rw [List.pairwise_cons] at h1 h2
    have hy : LotI y := hl y (p.mem_iff.mpr List.mem_cons_self)
    have xy : leU x y := by
      rcases List.mem_cons.mp (p.mem_iff.mpr List.mem_cons_self : y ∈ x :: a) with e | m
      · rw [e]; exact Int.le_refl _
      · exact h1.1 y m
    have yx : leU y x := by
      rcases List.mem_cons.mp (p.mem_iff.mp List.mem_cons_self : x ∈ y :: b) with e | m
      · rw [e]; exact Int.le_refl _
      · exact h2.1 x m
    have lx := hl x List.mem_cons_self
    have e := cU_inj (B := 8) (by decide) 8 x y lx.2 hy.2 lx.1 hy.1 (Int.le_antisymm xy yx)
    subst e
    rw [sortU_one (List.Perm.cons_inv p) h1.2 h2.2 fun z hz => hl z (List.mem_cons_of_mem _ hz)]
end
end Gx

/-! Gx, data side 1: whole numbers, fractions. -/
namespace Gx
open PySem L2
theorem rs_plain {S : Sto} {d : D} (h : isPlainTop d = true) : rs S d = d := by cases d <;> first | rfl | cases h
theorem itemsOf_tup (ds : List D) : itemsOf (.tup ds) = some ds := rfl
theorem itemsOf_lst (ds : List D) : itemsOf (.lst ds) = some ds := rfl
theorem itemsOf_scr (ds : List D) : itemsOf (.scr ds) = some ds := rfl
theorem seqG_tup (S : Sto) (Z : List D → (Sto → Prop) → Sto → Prop) (ds : List D) : seqG S Z (.tup ds) = Z ds (fun _ => True) S := rfl
theorem seqG_lst (S : Sto) (Z : List D → (Sto → Prop) → Sto → Prop) (ds : List D) : seqG S Z (.lst ds) = Z ds (fun _ => True) S := rfl
theorem seqG_scr (S : Sto) (Z : List D → (Sto → Prop) → Sto → Prop) (ds : List D) : seqG S Z (.scr ds) = Z ds (fun _ => True) S := rfl
theorem seqG_ref {S : Sto} {p : Addr} {ds : List D} (h : S p = some (.lst ds)) (Z : List D → (Sto → Prop) → Sto → Prop) : seqG S Z (.ref p) = Z ds (fun S' => S' p = some (.lst ds)) S := by simp only [seqG, h]
theorem td_tup (ds : List D) : isTupD (.tup ds) = true := rfl
theorem td_lst (ds : List D) : isTupD (.lst ds) = false := rfl
theorem td_scr (ds : List D) : isTupD (.scr ds) = false := rfl
theorem cu_tup (lo hi : Option Int) (S : Sto) (R : QD) (ds : List D) : oCut lo hi S R (.tup ds) = R (.tup (cutD ds lo hi)) S := rfl
theorem cu_lst (lo hi : Option Int) (S : Sto) (R : QD) (ds : List D) : oCut lo hi S R (.lst ds) = R (.lst (cutD ds lo hi)) S := rfl
theorem cu_scr (lo hi : Option Int) (S : Sto) (R : QD) (ds : List D) : oCut lo hi S R (.scr ds) = R (.lst (cutD ds lo hi)) S := rfl
/-- the end of a def -/
abbrev Ed (R : QD) : EndG := { nx := fun _ S' => Fin R .non S', rt := Fin R }
theorem fin_of {R : QD} {d : D} {S : Sto} (h : R d S) : Fin R d S := Fin.plain h
/-- the law of a def: what it promises follows from its reading -/
def Law (n : Nat) (γ : OL) (body : ST) : Prop := ∀ ds S R, γ ds S R → body (Ed R) (startD n ds) S

/-! ### whole numbers, tuples -/
def isWh : D → Bool
  | .int _ => true
  | _ => false
def γ_is_whole : OL := fun ds S R => match ds with
  | [d] => isPlainTop d = true ∧ R (.bl (isWh d)) S
  | _ => False
def body_is_whole : ST := sRet (eAnd (eCall cIsi (aCons (eVar 0) (aCons (eC (.ty "int")) (aNil)))) (eNot (eCall cIsi (aCons (eVar 0) (aCons (eC (.ty "bool")) (aNil))))))
local macro_rules | `(tactic| simp_arith [$xs,*]) => `(tactic| try simp only [eVar, eC, eBin, eUn, tBl, tAnd', tOr', tNot', eAnd, eOr, eNot, eIf, aNil, aCons, eTup, eLst, eLstM, eCall, eCallK, pick, sNext, sSeq, sBreak, sCont, sDrop, sRet, sRetN, sIf, sNever, gNm, gsNil, gsCons, gTupl, gSubs, sAsg, sPar, sPar3, sFor, iSeq, seqG_tup, seqG_lst, seqG_scr, iRange1, iRange2, iEnumG, iZipG, td_tup, td_lst, td_scr, eLc, eLcM, tYes', pNone, pSome, eSl, cu_tup, cu_lst, cu_scr, eMt, eMt0, mAppend, isL, rs_non, rs_bl, rs_int, rs_str, rs_tup, rs_lst', rs_scr, itemsOf_tup, itemsOf_lst, itemsOf_scr, oI, oI0, oSub, oFdiv, oMod, oPow, oShl, oShr, oAnd, oOr, oXor, oLt, oLe, oGt, oGe, oNeg, oIsN, oNotN, Gx.isNon, oAdd, oAdd', oMul, oMul', oMulM, oEq, oNe, oEqS, oNeS, oIn, oNin, eChain, oIx, oSet, cLen, cList, cListM, cTuple, cSum, cAll, cAny, cInt, cAbs, cMax2, cMin2, cDivmod, cGcd, cIsi, cRepr, lstInts, lstBls, startD, wipeD, List.map_cons, List.map_nil, List.length_cons, List.length_nil, List.cons_append, List.nil_append, List.replicate_succ, List.replicate_zero, List.set_cons_succ, List.set_cons_zero, List.getElem?_cons_succ, List.getElem?_cons_zero, List.filterMap_cons_some, List.filterMap_nil, Nat.reduceAdd, Nat.reduceSub, Nat.sub_self, Nat.reduceLT, Nat.reduceMul, Nat.zero_add, Nat.add_zero, if_true, if_false, and_true, true_and, and_false, false_and, or_true, true_or, or_false, false_or, not_true_eq_false, not_false_eq_true, Bool.not_true, Bool.not_false, Bool.false_eq_true, ite_true, ite_false, reduceIte, reduceCtorEq, eq_self, $xs,*])
theorem law_is_whole : Law 1 γ_is_whole body_is_whole := by
  intro ds S R h
  unfold γ_is_whole at h
  split at h
  · rename_i d
    unfold body_is_whole
    simp_arith [rs_plain h.1, h.1, List.mem_cons, String.reduceEq]
    have q := fin_of h.2
    cases d <;> first | (simpa [isiD, isWh] using q) | (exact nomatch h.1)
  · exact h.elim
/-- a whole number from lo up to hi -/
def isBw (lo hi : Int) : D → Bool
  | .int i => decide (lo ≤ i) && decide (i ≤ hi)
  | _ => false
def γ_is_between : OL := fun ds S R => match ds with
  | [d, .int lo, .int hi] => isPlainTop d = true ∧ R (.bl (isBw lo hi d)) S
  | _ => False
def body_is_between (γ_is_whole : OL) : ST := sRet (eAnd (eCall γ_is_whole (aCons (eVar 0) (aNil))) (eChain oLe oLe (eVar 1) (eVar 0) (eVar 2)))
theorem law_is_between : Law 3 γ_is_between (body_is_between γ_is_whole) := by
  intro ds S R h
  unfold γ_is_between at h
  split at h
  · rename_i d lo hi
    unfold body_is_between γ_is_whole
    simp_arith [h.1]
    have q := fin_of h.2
    cases d with
    | int i =>
      simp only [isWh, isBw] at q ⊢
      by_cases a : lo ≤ i
      · simpa [a] using q
      · simpa [a] using q
    | _ => first | (simpa [isWh, isBw] using q) | (exact nomatch h.1)
  · exact h.elim
def isTp (n : Int) : D → Bool
  | .tup ds => decide ((ds.length : Int) = n)
  | _ => false
theorem eqD_int (i j : Int) : eqD (.int i) (.int j) = decide (i = j) := by
  show (i == j) = decide (i = j)
  by_cases h : i = j
  · subst h; simp
  · simp [h]
theorem pl_int {n : Nat} {i : Int} : pl n (.int i) = true := by cases n <;> rfl
theorem pl_bl {n : Nat} {i : Bool} : pl n (.bl i) = true := by cases n <;> rfl
def γ_is_tuple_of : OL := fun ds S R => match ds with
  | [d, .int n] => isPlainTop d = true ∧ R (.bl (isTp n d)) S
  | _ => False
def body_is_tuple_of : ST := sRet (eAnd (eCall cIsi (aCons (eVar 0) (aCons (eC (.ty "tuple")) (aNil)))) (eBin oEq (eCall cLen (aCons (eVar 0) (aNil))) (eVar 1)))
theorem law_is_tuple_of : Law 2 γ_is_tuple_of body_is_tuple_of := by
  intro ds S R h
  unfold γ_is_tuple_of at h
  split at h
  · rename_i d n
    unfold body_is_tuple_of
    simp_arith [rs_plain h.1, h.1, List.mem_cons, String.reduceEq]
    have q := fin_of h.2
    cases d with
    | tup ds =>
      simp only [isTp] at q
      simp_arith [isiD, beq_self_eq_true, pl_int, eqD_int, List.mem_cons, String.reduceEq]
      exact q
    | _ => first | (simpa [isiD, isTp] using q) | (exact nomatch h.1)
  · exact h.elim

/-! ### fractions -/
def encR (q : Rat) : D := .tup [.int q.num, .int q.den]
theorem encR_inj {a b : Rat} : encR a = encR b ↔ a = b := by
  refine ⟨fun h => ?_, fun h => by rw [h]⟩
  simp only [encR, D.tup.injEq, List.cons.injEq, D.int.injEq, and_true] at h
  exact Rat.ext h.1 (by have := h.2; omega)
/-- whether a value is a fraction -/
def isFr : D → Bool
  | .tup [.int n, .int m] => decide (0 < m) && decide (Nat.gcd n.natAbs m.natAbs = 1)
  | _ => false
theorem isFr_enc (q : Rat) : isFr (encR q) = true := by
  have h1 := q.den_pos
  have h2 : Nat.gcd q.num.natAbs q.den = 1 := q.reduced
  simp [isFr, encR, h1, h2]
theorem isFr_of {d : D} (h : isFr d = true) : ∃ q : Rat, d = encR q := by
  unfold isFr at h
  split at h
  · rename_i n m
    simp only [Bool.and_eq_true, decide_eq_true_eq] at h
    refine ⟨⟨n, m.toNat, by omega, ?_⟩, ?_⟩
    · show Nat.gcd n.natAbs m.toNat = 1
      have : m.natAbs = m.toNat := by omega
      rw [← this]; exact h.2
    · simp only [encR, D.tup.injEq, List.cons.injEq, D.int.injEq, and_true, true_and]
      omega
  · cases h
def γ_is_ratio : OL := fun ds S R => match ds with
  | [d] => isPlainTop d = true ∧ (∀ es, d = .tup es → ∀ e ∈ es, isPlainTop e = true) ∧ R (.bl (isFr d)) S
  | _ => False
def body_is_ratio (γ_is_tuple_of γ_is_whole : OL) : ST := sSeq (sIf (tOr' (tNot' (tBl (eCall γ_is_tuple_of (aCons (eVar 0) (aCons (eC (.int 2)) (aNil)))))) (tOr' (tNot' (tBl (eCall γ_is_whole (aCons (eBin oIx (eVar 0) (eC (.int 0))) (aNil))))) (tNot' (tBl (eCall γ_is_whole (aCons (eBin oIx (eVar 0) (eC (.int 1))) (aNil))))))) (sRet (eC (.bl false))) (sNext))
  (sRet (eAnd (eBin oGt (eBin oIx (eVar 0) (eC (.int 1))) (eC (.int 0))) (eBin oEq (eCall cGcd (aCons (eBin oIx (eVar 0) (eC (.int 0))) (aCons (eBin oIx (eVar 0) (eC (.int 1))) (aNil)))) (eC (.int 1)))))
theorem atI_0 {α : Type} {x : α} {xs : List α} : L2.atI (x :: xs) 0 = some x := by
  have := L2.atI_nat (xs := x :: xs) (j := 0) (v := x) rfl
  simpa using this
theorem atI_1 {α : Type} {x y : α} {xs : List α} : L2.atI (x :: y :: xs) 1 = some y := by
  have := L2.atI_nat (xs := x :: y :: xs) (j := 1) (v := y) rfl
  simpa using this
theorem atI_2 {α : Type} {x y z : α} {xs : List α} : L2.atI (x :: y :: z :: xs) 2 = some z := by
  have := L2.atI_nat (xs := x :: y :: z :: xs) (j := 2) (v := z) rfl
  simpa using this
theorem natcast_eq_one {a b : Nat} : decide (((Nat.gcd a b : Nat) : Int) = 1) = decide (Nat.gcd a b = 1) := by
  by_cases h : Nat.gcd a b = 1
  · simp [h]
  · have : ¬ ((Nat.gcd a b : Nat) : Int) = 1 := by omega
    simp [h, this]
theorem law_is_ratio : Law 1 γ_is_ratio (body_is_ratio γ_is_tuple_of γ_is_whole) := by
  intro ds S R h
  unfold γ_is_ratio at h
  split at h
  · rename_i d
    obtain ⟨h1, h2, h3⟩ := h
    unfold body_is_ratio γ_is_tuple_of γ_is_whole
    have q := fin_of h3
    by_cases hd : ∃ x y, d = .tup [x, y]
    · obtain ⟨x, y, rfl⟩ := hd
      have px := h2 _ rfl x (by simp)
      have py := h2 _ rfl y (by simp)
      simp_arith [h1, px, py, isTp, rs_plain h1, atI_0, atI_1, Int.cast_ofNat_Int, decide_true]
      cases x with
      | int n =>
        cases y with
        | int m =>
          simp_arith [isWh, pl_int, eqD_int, natcast_eq_one]
          simp only [isFr] at q
          by_cases a : 0 < m
          · simpa [a] using q
          · simpa [a] using q
        | _ => first | (simpa [isWh, isFr] using q) | (exact nomatch py)
      | _ => first | (simpa [isWh, isFr] using q) | (exact nomatch px)
    · have e1 : isTp 2 d = false := by
        cases d with
        | tup es =>
          match es, hd with
          | [], _ => rfl
          | [_], _ => rfl
          | [x, y], hd => exact absurd ⟨x, y, rfl⟩ hd
          | _ :: _ :: _ :: es, _ =>
            simp only [isTp, List.length_cons, decide_eq_false_iff_not]
            omega
        | _ => rfl
      have e2 : isFr d = false := by
        unfold isFr
        split
        · exact absurd ⟨_, _, rfl⟩ hd
        · rfl
      rw [e2] at q
      simp_arith [h1, e1]
      exact q
  · exact h.elim
/-- the fraction of two whole numbers -/
theorem divInt_parts {a b : Int} (hb : b ≠ 0) (g : Int) (hg : g = if 0 < b then (Nat.gcd a.natAbs b.natAbs : Int) else -(Nat.gcd a.natAbs b.natAbs : Int)) :
    a.fdiv g = (Rat.divInt a b).num ∧ b.fdiv g = ((Rat.divInt a b).den : Int) ∧ g ≠ 0 ∧ g.natAbs ≤ b.natAbs := by
  have hp : 0 < Nat.gcd a.natAbs b.natAbs := Nat.gcd_pos_of_pos_right _ (by omega)
  have hgc : Int.gcd b a = Nat.gcd a.natAbs b.natAbs := by rw [Int.gcd, Nat.gcd_comm]
  have ha : ((Nat.gcd a.natAbs b.natAbs : Nat) : Int) ∣ a := Int.ofNat_dvd_left.mpr (Nat.gcd_dvd_left _ _)
  have hbd : ((Nat.gcd a.natAbs b.natAbs : Nat) : Int) ∣ b := Int.ofNat_dvd_left.mpr (Nat.gcd_dvd_right _ _)
  have hle : Nat.gcd a.natAbs b.natAbs ≤ b.natAbs := Nat.gcd_le_right _ (by omega)
  obtain ⟨x, hx⟩ := ha
  obtain ⟨y, hy⟩ := hbd
  generalize hG : Nat.gcd a.natAbs b.natAbs = G at *
  have hG0 : (G : Int) ≠ 0 := by omega
  rw [Rat.num_divInt, Rat.den_divInt, if_neg hb, hgc]
  by_cases h : 0 < b
  · rw [if_pos h] at hg
    subst hg
    refine ⟨?_, ?_, hG0, by omega⟩
    · rw [Int.sign_eq_one_of_pos h, Int.one_mul, hx, Int.mul_comm, Int.mul_fdiv_cancel _ hG0, Int.mul_ediv_cancel _ hG0]
    · have e : (b.natAbs : Int) = b := by omega
      rw [Int.natCast_ediv, e, hy, Int.mul_comm, Int.mul_fdiv_cancel _ hG0, Int.mul_ediv_cancel _ hG0]
  · rw [if_neg h] at hg
    subst hg
    have hb' : b < 0 := by omega
    refine ⟨?_, ?_, by omega, by omega⟩
    · rw [Int.sign_eq_neg_one_of_neg hb']
      have e : a = (-x) * (-(G : Int)) := by rw [hx]; rw [Int.neg_mul_neg, Int.mul_comm]
      have e2 : -1 * a = (-x) * (G : Int) := by rw [hx, Int.neg_mul, Int.one_mul, Int.neg_mul, Int.mul_comm]
      rw [e2, Int.mul_ediv_cancel _ hG0]
      conv => lhs; rw [e]
      exact Int.mul_fdiv_cancel _ (by omega)
    · have e : (b.natAbs : Int) = -b := by omega
      have e1 : b = (-y) * (-(G : Int)) := by rw [hy]; rw [Int.neg_mul_neg, Int.mul_comm]
      have e2 : -b = (-y) * (G : Int) := by rw [hy, Int.neg_mul, Int.mul_comm]
      rw [Int.natCast_ediv, e, e2, Int.mul_ediv_cancel _ hG0]
      conv => lhs; rw [e1]
      exact Int.mul_fdiv_cancel _ (by omega)
theorem log2_le_of_le {a b : Nat} (h : a ≤ b) (hb : b < 2 ^ 9000) : a.log2 < 9000 := by
  by_cases z : a = 0
  · subst z; decide
  · exact (Nat.log2_lt z).mpr (by omega)
def γ_ratio : OL := fun ds S R => match ds with
  | [.int a, .int b] => (b ≠ 0 ∧ b.natAbs < 2 ^ 9000) ∧ R (encR (Rat.divInt a b)) S
  | _ => False
def body_ratio : ST := sSeq (sAsg (eIf (tBl (eBin oGt (eVar 1) (eC (.int 0)))) (eCall cGcd (aCons (eVar 0) (aCons (eVar 1) (aNil)))) (eUn oNeg (eCall cGcd (aCons (eVar 0) (aCons (eVar 1) (aNil)))))) (gNm 2))
  (sRet (eTup (aCons (eBin oFdiv (eVar 0) (eVar 2)) (aCons (eBin oFdiv (eVar 1) (eVar 2)) (aNil)))))
theorem law_ratio : Law 3 γ_ratio body_ratio := by
  intro ds S R h
  unfold γ_ratio at h
  split at h
  · rename_i a b
    obtain ⟨⟨hb, hb9⟩, h⟩ := h
    obtain ⟨q1, q2, q3, q4⟩ := divInt_parts (a := a) hb _ rfl
    have q := fin_of h
    unfold encR at q
    rw [← q1, ← q2] at q
    have dv := log2_le_of_le q4 hb9
    unfold body_ratio
    by_cases z : 0 < b
    · rw [if_pos z] at q q3 q4 dv
      simp_arith [z, decide_true]
      exact ⟨⟨q3, dv⟩, ⟨q3, dv⟩, by decide, q⟩
    · rw [if_neg z] at q q3 q4 dv
      simp_arith [z, decide_false]
      exact ⟨⟨q3, dv⟩, ⟨q3, dv⟩, by decide, q⟩
  · exact h.elim

/-! ### sizes -/
/-- few figures: the upper number below 2 ^ a, the lower one below 2 ^ b -/
def Sz (a b : Nat) (q : Rat) : Prop := q.num.natAbs < 2 ^ a ∧ q.den < 2 ^ b
theorem Sz.mono {a b c d : Nat} {q : Rat} (h : Sz a b q) (h1 : a ≤ c := by decide) (h2 : b ≤ d := by decide) : Sz c d q :=
  ⟨Nat.lt_of_lt_of_le h.1 (Nat.pow_le_pow_right (by decide) h1), Nat.lt_of_lt_of_le h.2 (Nat.pow_le_pow_right (by decide) h2)⟩
theorem pow2_le {a b : Nat} (h : a ≤ b) : 2 ^ a ≤ 2 ^ b := Nat.pow_le_pow_right (by decide) h
theorem mul_lt2 {x y a b : Nat} (h : x < 2 ^ a) (h' : y < 2 ^ b) : x * y < 2 ^ (a + b) := by
  rw [Nat.pow_add]
  exact Nat.mul_lt_mul'' h h'
/-- what a reduced fraction of a / b needs -/
theorem sz_divInt {n m : Int} {a b : Nat} (h1 : n.natAbs < 2 ^ a) (h2 : m.natAbs < 2 ^ b) (hm : m ≠ 0) : Sz a b (Rat.divInt n m) := by
  have e1 := Rat.num_divInt n m
  have e2 := Rat.den_divInt n m
  rw [if_neg hm] at e2
  refine ⟨?_, ?_⟩
  · rw [e1]
    refine Nat.lt_of_le_of_lt ?_ h1
    rw [Int.natAbs_ediv_of_dvd, Int.natAbs_mul]
    · have : m.sign.natAbs = 1 := by
        rcases Int.lt_trichotomy m 0 with h | h | h
        · rw [Int.sign_eq_neg_one_of_neg h]; rfl
        · exact absurd h hm
        · rw [Int.sign_eq_one_of_pos h]; rfl
      rw [this, Nat.one_mul]
      exact Nat.div_le_self _ _
    · exact Int.dvd_trans (Int.gcd_dvd_right _ _) (Int.dvd_mul_left _ _)
  · rw [e2]
    exact Nat.lt_of_le_of_lt (Nat.div_le_self _ _) h2
/-- numbers that the laws reckon with -/
abbrev Big (q : Rat) : Prop := Sz 400000 4000 q
theorem Big.mul_ok {p q : Rat} (h : Big p) (h' : Big q) : MulOk p.num q.den ∧ MulOk q.num p.den ∧ MulOk p.den q.den ∧ MulOk p.num q.num ∧ MulOk p.den q.num :=
  ⟨.of h.1 (by rw [Int.natAbs_natCast]; exact h'.2), .of h'.1 (by rw [Int.natAbs_natCast]; exact h.2), .of (by rw [Int.natAbs_natCast]; exact h.2) (by rw [Int.natAbs_natCast]; exact h'.2), .of h.1 h'.1, .of (by rw [Int.natAbs_natCast]; exact h.2) h'.1⟩
theorem den_prod {p q : Rat} (h : Big p) (h' : Big q) : ((p.den : Int) * (q.den : Int)) ≠ 0 ∧ ((p.den : Int) * (q.den : Int)).natAbs < 2 ^ 9000 := by
  have hp := p.den_pos
  have hq := q.den_pos
  have h1 := Nat.mul_pos hp hq
  have h2 := mul_lt2 h.2 h'.2
  have h3 := pow2_le (show 4000 + 4000 ≤ 9000 by decide)
  have e : ((p.den : Int) * (q.den : Int)).natAbs = p.den * q.den := by rw [Int.natAbs_mul]; rfl
  refine ⟨?_, by omega⟩
  intro z
  rw [z] at e
  have e : 0 = p.den * q.den := e
  omega
/-! the operations -/
def γ_plus : OL := fun ds S R => ∃ p q : Rat, ds = [encR p, encR q] ∧ (Big p ∧ Big q) ∧ R (encR (p + q)) S
def body_plus (γ_ratio : OL) : ST := sRet (eCall γ_ratio (aCons (eBin oAdd (eBin oMul (eBin oIx (eVar 0) (eC (.int 0))) (eBin oIx (eVar 1) (eC (.int 1)))) (eBin oMul (eBin oIx (eVar 1) (eC (.int 0))) (eBin oIx (eVar 0) (eC (.int 1))))) (aCons (eBin oMul (eBin oIx (eVar 0) (eC (.int 1))) (eBin oIx (eVar 1) (eC (.int 1)))) (aNil))))
theorem add_divInt (p q : Rat) : Rat.divInt (p.num * q.den + q.num * p.den) ((p.den : Int) * q.den) = p + q := by
  rw [Rat.add_def', ← Rat.divInt_ofNat, Int.natCast_mul]
theorem law_plus : Law 2 γ_plus (body_plus γ_ratio) := by
  intro ds S R ⟨p, q, e, ⟨hp, hq⟩, h⟩
  subst e
  obtain ⟨m1, m2, m3, _⟩ := hp.mul_ok hq
  unfold body_plus encR γ_ratio
  simp_arith [atI_0, atI_1]
  refine ⟨m1, m2, m3, den_prod hp hq, ?_⟩
  rw [add_divInt]
  exact fin_of h
def γ_is_less : OL := fun ds S R => ∃ p q : Rat, ds = [encR p, encR q] ∧ (Big p ∧ Big q) ∧ R (.bl (decide (p < q))) S
def body_is_less : ST := sRet (eBin oLt (eBin oMul (eBin oIx (eVar 0) (eC (.int 0))) (eBin oIx (eVar 1) (eC (.int 1)))) (eBin oMul (eBin oIx (eVar 1) (eC (.int 0))) (eBin oIx (eVar 0) (eC (.int 1)))))
theorem law_is_less : Law 2 γ_is_less body_is_less := by
  intro ds S R ⟨p, q, e, ⟨hp, hq⟩, h⟩
  subst e
  obtain ⟨m1, m2, _⟩ := hp.mul_ok hq
  unfold body_is_less encR
  simp_arith [atI_0, atI_1]
  refine ⟨m1, m2, ?_⟩
  have e : decide (p.num * (q.den : Int) < q.num * (p.den : Int)) = decide (p < q) := by
    by_cases z : p < q
    · rw [decide_eq_true z, decide_eq_true ((Rat.lt_iff p q).mp z)]
    · rw [decide_eq_false z, decide_eq_false (fun y => z ((Rat.lt_iff p q).mpr y))]
  rw [e]
  exact fin_of h
end Gx

/-! Gx, data side 2: comprehensions and loops; the laws' own draws. -/
namespace Gx
open PySem L2
local macro_rules | `(tactic| simp_arith [$xs,*]) => `(tactic| try simp only [eVar, eC, eBin, eUn, tBl, tAnd', tOr', tNot', eAnd, eOr, eNot, eIf, aNil, aCons, eTup, eLst, eLstM, eCall, eCallK, pick, sNext, sSeq, sBreak, sCont, sDrop, sRet, sRetN, sIf, sNever, gNm, gsNil, gsCons, gTupl, gSubs, sAsg, sPar, sPar3, sFor, iSeq, seqG_tup, seqG_lst, seqG_scr, iRange1, iRange2, iEnumG, iZipG, td_tup, td_lst, td_scr, eLc, eLcM, tYes', pNone, pSome, eSl, cu_tup, cu_lst, cu_scr, eMt, eMt0, mAppend, isL, rs_non, rs_bl, rs_int, rs_str, rs_tup, rs_lst', rs_scr, itemsOf_tup, itemsOf_lst, itemsOf_scr, oI, oI0, oSub, oFdiv, oMod, oPow, oShl, oShr, oAnd, oOr, oXor, oLt, oLe, oGt, oGe, oNeg, oIsN, oNotN, Gx.isNon, oAdd, oAdd', oMul, oMul', oMulM, oEq, oNe, oEqS, oNeS, oIn, oNin, eChain, oIx, oSet, cLen, cList, cListM, cTuple, cSum, cAll, cAny, cInt, cAbs, cMax2, cMin2, cDivmod, cGcd, cIsi, cRepr, lstInts, lstBls, startD, wipeD, List.map_cons, List.map_nil, List.length_cons, List.length_nil, List.cons_append, List.nil_append, List.replicate_succ, List.replicate_zero, List.set_cons_succ, List.set_cons_zero, List.getElem?_cons_succ, List.getElem?_cons_zero, List.filterMap_cons_some, List.filterMap_nil, Nat.reduceAdd, Nat.reduceSub, Nat.sub_self, Nat.reduceLT, Nat.reduceMul, Nat.zero_add, Nat.add_zero, if_true, if_false, and_true, true_and, and_false, false_and, or_true, true_or, or_false, false_or, not_true_eq_false, not_false_eq_true, Bool.not_true, Bool.not_false, Bool.false_eq_true, ite_true, ite_false, reduceIte, reduceCtorEq, eq_self, $xs,*])

/-! ### comprehensions -/
section
variable {g : TG'} {tt : TT'} {te : ET} {gd : Sto → Prop} {vs : List Nat} {τ : Tau} {Z : List D → Sto → Prop} {S : Sto}
theorem cmp_map (f : D → D) : ∀ (items acc : List D), (∀ x ∈ items, ∀ Q : QD, Q (f x) S → g x (wipeD τ vs) S fun τ2 S2 => te τ2 S2 Q) → gd S → acc.length + items.length ≤ sizeLine → Z (acc ++ items.map f) S → cmpG g tYes' te gd vs τ Z items acc S
  | [], acc, _, hg, _, h => ⟨hg, by simpa using h⟩
  | x :: xs, acc, hel, hg, hz, h => by
    refine ⟨hg, ?_⟩
    have hx := hel x List.mem_cons_self (fun y S4 => acc.length < sizeLine ∧ cmpG g tYes' te gd vs τ Z xs (acc ++ [y]) S4) ⟨by rw [List.length_cons] at hz; omega, cmp_map f xs (acc ++ [f x]) (fun y hy => hel y (List.mem_cons_of_mem _ hy)) hg (by rw [List.length_append, List.length_singleton]; rw [List.length_cons] at hz; omega) (by simpa using h)⟩
    simpa only [tYes', if_true] using hx
end
theorem rngD_map : ∀ (n : Nat) (lo : Int), rngD lo n = (List.range n).map fun i : Nat => D.int (lo + i)
  | 0, _ => rfl
  | n + 1, lo => by
    rw [List.range_succ_eq_map, List.map_cons, List.map_map]
    show D.int lo :: rngD (lo + 1) n = _
    rw [rngD_map n (lo + 1)]
    congr 1
    · simp
    · apply List.map_congr_left
      intro i _
      show D.int (lo + 1 + i) = D.int (lo + ((i + 1 : Nat) : Int))
      congr 1
      omega
theorem rngD_zero (n : Nat) : rngD 0 n = (List.range n).map fun i : Nat => D.int (i : Int) := by
  rw [rngD_map]
  apply List.map_congr_left
  intro i _
  show D.int (0 + (i : Int)) = D.int i
  rw [Int.zero_add]
theorem zipD_map {α β : Type} (f : α → D) (g : β → D) : ∀ (xs : List α) (ys : List β), zipD (xs.map f) (ys.map g) = (List.zip xs ys).map fun p => .tup [f p.1, g p.2]
  | [], _ => by simp [zipD]
  | _ :: _, [] => by simp [zipD]
  | x :: xs, y :: ys => by
    simp only [List.map_cons, zipD, List.zip_cons_cons]
    rw [zipD_map f g xs ys]
theorem enumD_map {α : Type} (f : α → D) : ∀ (xs : List α) (k : Nat), enumD k (xs.map f) = (xs.zipIdx k).map fun p => .tup [.int p.2, f p.1]
  | [], _ => rfl
  | x :: xs, k => by
    have ih := enumD_map f xs (k + 1)
    show D.tup [.int k, f x] :: enumD ((k : Int) + 1) (xs.map f) = _
    rw [List.zipIdx_cons, List.map_cons]
    congr 1

theorem enumD_map0 {α : Type} (f : α → D) (xs : List α) : enumD 0 (xs.map f) = xs.zipIdx.map fun p => .tup [.int p.2, f p.1] := enumD_map f xs 0
/-! ### a store's change at one place -/
/-- all but what stands at p is as it was -/
def But (p : Addr) (S S' : Sto) : Prop := ∀ b, b ≠ p → S' b = S b
theorem But.refl {p : Addr} {S : Sto} : But p S S := fun _ _ => rfl
theorem But.trans {p : Addr} {S S1 S2 : Sto} (a : But p S S1) (b : But p S1 S2) : But p S S2 := fun c h => (b c h).trans (a c h)
theorem But.up {p : Addr} {S : Sto} {o : SO} : But p S (up S p o) := fun _ h => up_ne h
/-- a well stands at p -/
def Well (p : Addr) (S : Sto) : Prop := ∃ a m c : Int, S p = some (.lst [.int a, .int m, .int c])
/-- something was drawn from the well at p -/
structure Drw (p : Addr) (S S' : Sto) : Prop where
  but : But p S S'
  well : Well p S'
theorem Drw.trans {p : Addr} {S S1 S2 : Sto} (a : Drw p S S1) (b : Drw p S1 S2) : Drw p S S2 := ⟨a.but.trans b.but, b.well⟩
theorem Drw.refl {p : Addr} {S : Sto} (h : Well p S) : Drw p S S := ⟨.refl, h⟩
/-! ### draws -/
/-- a number from 0 to few - 1 -/
def γ_draw : OL := fun ds S R => ∃ (p : Addr) (few : Int), ds = [.ref p, .int few] ∧ Well p S ∧ (0 < few ∧ few < 1073741824) ∧ ∀ r S', 0 ≤ r → r < few → Drw p S S' → R (.int r) S'
def body_draw : ST := sSeq (sIf (tBl (eBin oGt (eBin oIx (eVar 0) (eC (.int 0))) (eC (.int 0)))) (sSeq (sAsg (eCall cDivmod (aCons (eBin oIx (eVar 0) (eC (.int 0))) (aCons (eVar 1) (aNil)))) (gTupl 2 (gsCons (gSubs (eVar 0) (eC (.int 0)) oSet) (gsCons (gNm 3) (gsNil)))))
  (sRet (eVar 3))) (sNext))
  (sSeq (sAsg (eBin oAdd (eBin oIx (eVar 0) (eC (.int 2))) (eC (.int 1))) (gSubs (eVar 0) (eC (.int 2)) oSet))
  (sSeq (sAsg (eBin oMod (eCall cInt (aCons (eBin oAdd (eBin oMul (eBin oIx (eVar 0) (eC (.int 1))) (eC (.int 48271))) (eBin oMul (eC (.int 15017)) (eBin oIx (eVar 0) (eC (.int 2))))) (aNil))) (eC (.int 2147483489))) (gNm 2))
  (sSeq (sAsg (eBin oMod (eCall cInt (aCons (eBin oAdd (eBin oMul (eVar 2) (eBin oAdd (eBin oMod (eCall cInt (aCons (eVar 2) (aNil))) (eC (.int 5003))) (eC (.int 20021)))) (eBin oIx (eVar 0) (eC (.int 2)))) (aNil))) (eC (.int 2147483489))) (gSubs (eVar 0) (eC (.int 1)) oSet))
  (sRet (eBin oMod (eCall cInt (aCons (eBin oFdiv (eBin oIx (eVar 0) (eC (.int 1))) (eC (.int 1009))) (aNil))) (eVar 1))))))
theorem ixN_0 {n : Nat} : ixN (n + 1) 0 = some 0 := by unfold ixN; rw [if_pos (by omega), if_pos (by omega)]; rfl
theorem ixN_1 {n : Nat} : ixN (n + 2) 1 = some 1 := by unfold ixN; rw [if_pos (by omega), if_pos (by omega)]; rfl
theorem ixN_2 {n : Nat} : ixN (n + 3) 2 = some 2 := by unfold ixN; rw [if_pos (by omega), if_pos (by omega)]; rfl
theorem ixN_30 : ixN 3 0 = some 0 := ixN_0
theorem ixN_31 : ixN 3 1 = some 1 := ixN_1
theorem ixN_32 : ixN 3 2 = some 2 := ixN_2
theorem fmod_lo (a : Int) {b : Int} (h : 0 < b) : 0 ≤ a.fmod b := Int.fmod_nonneg_of_pos _ h
theorem fmod_hi (a : Int) {b : Int} (h : 0 < b) : a.fmod b < b := Int.fmod_lt_of_pos _ h
theorem law_draw : Law 4 γ_draw body_draw := by
  intro ds S R ⟨p, few, e, ⟨a, m, c, hw⟩, ⟨h0, h1⟩, h⟩
  subst e
  unfold body_draw
  by_cases z : 0 < a
  · simp_arith [rs_ref hw, hw, atI_0, z, decide_true, ixN_30]
    refine ⟨⟨h0, h1⟩, fin_of (h _ _ (Int.emod_nonneg _ (by omega)) (Int.emod_lt_of_pos _ h0) ⟨.up, ?_⟩)⟩
    exact ⟨_, _, _, up_same⟩
  · simp_arith [rs_ref hw, hw, atI_0, atI_2, z, decide_false, ixN_32, rs_ref up_same, up_same, atI_1, ixN_31, ixN_30, up_up]
    refine ⟨.right (by decide) (by decide), .left (by decide) (by decide), by decide, by decide, .right ?_ ?_, by decide, ⟨by decide, by decide⟩, by omega, fin_of (h _ _ (fmod_lo _ h0) (fmod_hi _ h0) ⟨.up, ?_⟩)⟩
    · have := fmod_lo ((m * 48271 + 15017 * (c + 1)).fmod 2147483489) (b := 5003) (by decide)
      omega
    · have := fmod_hi ((m * 48271 + 15017 * (c + 1)).fmod 2147483489) (b := 5003) (by decide)
      omega
    · exact ⟨_, _, _, up_same⟩
/-- one of some things -/
def γ_one : OL := fun ds S R => ∃ (p : Addr) (d : D) (es : List D), ds = [.ref p, d] ∧ itemsOf d = some es ∧ Well p S ∧ (0 < es.length ∧ es.length < 1073741824) ∧ ∀ e S', e ∈ es → Drw p S S' → R e S'
def body_one (γ_draw : OL) : ST := sRet (eBin oIx (eVar 1) (eCall γ_draw (aCons (eVar 0) (aCons (eCall cLen (aCons (eVar 1) (aNil))) (aNil)))))
theorem itemsOf_top {d : D} {es : List D} (h : itemsOf d = some es) : isPlainTop d = true := by cases d <;> first | rfl | cases h
theorem law_one : Law 2 γ_one (body_one γ_draw) := by
  intro ds S R ⟨p, d, es, e, hd, hw, ⟨h0, h1⟩, h⟩
  subst e
  have ht := itemsOf_top hd
  have hr : ∀ S, rs S d = d := fun S => rs_plain ht
  unfold body_one γ_draw
  simp only [sRet, eBin, eVar, eCall, aCons, aNil, startD, List.map_cons, List.map_nil, List.length_cons, List.length_nil, Nat.zero_add, Nat.reduceAdd, Nat.sub_self, List.replicate_zero, List.cons_append, List.nil_append, List.getElem?_cons_succ, List.getElem?_cons_zero, cLen, hr, hd, oIx]
  refine ⟨p, _, rfl, hw, ⟨by omega, by omega⟩, fun r S' r0 r1 dr => ?_⟩
  obtain ⟨n, rfl⟩ := Int.eq_ofNat_of_zero_le r0
  have hn : n < es.length := by omega
  simp only [hr, hd, L2.atI_nat (List.getElem?_eq_getElem hn)]
  exact fin_of (h _ _ (List.getElem_mem hn) dr)
/-- where the draws of one lap come from -/
def γ_well : OL := fun ds S R => ∃ (ns : List Int) (lap : Int), ds = [.scr (ns.map .int), .int lap] ∧ 0 ≤ lap ∧ ∀ p S', S p = none → But p S S' → Well p S' → R (.ref p) S'
def body_well (c : Int) : ST := sSeq (sAsg (eBin oAdd (eC (.int c)) (eBin oMul (eC (.int 7919)) (eVar 1))) (gNm 2))
  (sSeq (sFor (iSeq (eSl (eVar 0) (pNone) (pSome (eC (.int 10))))) (gNm 3) (sAsg (eBin oMod (eCall cInt (aCons (eBin oAdd (eBin oAdd (eBin oMul (eVar 2) (eC (.int 52361))) (eBin oMul (eBin oMod (eCall cInt (aCons (eVar 3) (aNil))) (eC (.int 2147483489))) (eC (.int 7)))) (eC (.int 19))) (aNil))) (eC (.int 2147483489))) (gNm 2)))
  (sSeq (sAsg (eIf (tBl (eBin oLt (eVar 1) (eCall cLen (aCons (eVar 0) (aNil))))) (eCall cInt (aCons (eBin oIx (eVar 0) (eVar 1)) (aNil))) (eC (.int 0))) (gNm 4))
  (sSeq (sAsg (eBin oMod (eCall cInt (aCons (eBin oAdd (eBin oAdd (eBin oMul (eVar 2) (eC (.int 47))) (eBin oMul (eBin oMod (eCall cInt (aCons (eVar 4) (aNil))) (eC (.int 2147483489))) (eC (.int 30109)))) (eC (.int 5))) (aNil))) (eC (.int 2147483489))) (gNm 2))
  (sRet (eLstM (aCons (eIf (tOr' (tBl (eBin oLt (eVar 4) (eC (.int 0)))) (tBl (eBin oGe (eVar 4) (eBin oPow (eC (.int 10)) (eC (.int 14)))))) (eCall cAbs (aCons (eVar 4) (aNil))) (eC (.int 0))) (aCons (eVar 2) (aCons (eC (.int 0)) (aNil)))))))))
theorem cutD_map (ns : List Int) (lo hi : Option Int) : ∃ ms : List Int, cutD (ns.map D.int) lo hi = ms.map D.int := by
  unfold cutD
  exact ⟨_, by rw [← List.map_drop, ← List.map_take]⟩
theorem well_loop (x0 x1 : Option D) (G : EndG) (S : Sto) (h : ∀ (i : Int) x3, G.nx [x0, x1, some (.int i), x3, none] S) : ∀ (ms : List Int) (i : Int) x3,
    forG (gNm 3) (sAsg (eBin oMod (eCall cInt (aCons (eBin oAdd (eBin oAdd (eBin oMul (eVar 2) (eC (.int 52361))) (eBin oMul (eBin oMod (eCall cInt (aCons (eVar 3) (aNil))) (eC (.int 2147483489))) (eC (.int 7)))) (eC (.int 19))) (aNil))) (eC (.int 2147483489))) (gNm 2)) (fun _ => True) (ms.map D.int) G [x0, x1, some (.int i), x3, none] S
  | [], i, x3 => ⟨trivial, h i x3⟩
  | m :: ms, i, x3 => by
    refine ⟨trivial, ?_⟩
    simp_arith []
    exact ⟨.right (by decide) (by decide), by decide, .right (by decide) (by decide), by decide, well_loop x0 x1 G S h ms _ _⟩
theorem law_well (c : Int) : Law 5 γ_well (body_well c) := by
  intro ds S R ⟨ns, lap, e, hl, h⟩
  subst e
  unfold body_well
  simp_arith []
  refine ⟨.left (by decide) (by decide), ?_⟩
  obtain ⟨ms, em⟩ := cutD_map ns none (some 10)
  rw [em]
  refine well_loop _ _ _ _ (fun i x3 => ?_) ms _ _
  have fin : ∀ (a b : Int) (p : Addr), S p = none → Fin R (.ref p) (up S p (.lst [.int a, .int b, .int 0])) := fun a b p hp => fin_of (h p _ hp .up ⟨_, _, _, up_same⟩)
  have key : ∀ own : Int, MulOk i 47 ∧ (2147483489 : Int) ≠ 0 ∧ MulOk (own.fmod 2147483489) 30109 ∧ (2147483489 : Int) ≠ 0 := fun own => ⟨.right (by decide) (by decide), by decide, .right (by decide) (by decide), by decide⟩
  have cp : PowOk 10 14 := .of 4 (by decide) (by decide) (by decide)
  by_cases z : lap < (ns.length : Int)
  · obtain ⟨n, rfl⟩ := Int.eq_ofNat_of_zero_le hl
    have hn : n < ns.length := by omega
    have ha : L2.atI (ns.map D.int) (n : Int) = some (.int ns[n]) := L2.atI_nat (by rw [List.getElem?_map, List.getElem?_eq_getElem hn]; rfl)
    simp_arith [List.length_map, z, decide_true, ha]
    refine ⟨(key ns[n]).1, by decide, (key ns[n]).2.2.1, by decide, ?_⟩
    by_cases z1 : ns[n] < 0
    · simp_arith [z1, decide_true]
      exact ⟨by decide, fun p hp => fin _ _ p hp⟩
    · simp_arith [z1, decide_false]
      refine ⟨cp, ?_⟩
      by_cases z2 : (10 : Int) ^ (14 : Int).toNat ≤ ns[n]
      · simp_arith [z2, decide_true]
        exact ⟨by decide, fun p hp => fin _ _ p hp⟩
      · simp_arith [z2, decide_false]
        exact ⟨by decide, fun p hp => fin _ _ p hp⟩
  · simp_arith [List.length_map, z, decide_false]
    refine ⟨(key 0).1, by decide, (key 0).2.2.1, by decide, ?_⟩
    refine ⟨cp, ?_⟩
    by_cases z2 : (10 : Int) ^ (14 : Int).toNat ≤ 0
    · simp_arith [z2, decide_true]
      exact ⟨by decide, fun p hp => fin _ _ p hp⟩
    · simp_arith [z2, decide_false]
      exact ⟨by decide, fun p hp => fin _ _ p hp⟩
end Gx

/-! Gx, data side 3: bounds of fractions, sums, Euclid's loop. -/
namespace Gx
open PySem L2
local macro_rules | `(tactic| simp_arith [$xs,*]) => `(tactic| try simp only [eVar, eC, eBin, eUn, tBl, tAnd', tOr', tNot', eAnd, eOr, eNot, eIf, aNil, aCons, eTup, eLst, eLstM, eCall, eCallK, pick, sNext, sSeq, sBreak, sCont, sDrop, sRet, sRetN, sIf, sNever, gNm, gsNil, gsCons, gTupl, gSubs, sAsg, sPar, sPar3, sFor, iSeq, seqG_tup, seqG_lst, seqG_scr, iRange1, iRange2, iEnumG, iZipG, td_tup, td_lst, td_scr, eLc, eLcM, tYes', pNone, pSome, eSl, cu_tup, cu_lst, cu_scr, eMt, eMt0, mAppend, isL, rs_non, rs_bl, rs_int, rs_str, rs_tup, rs_lst', rs_scr, itemsOf_tup, itemsOf_lst, itemsOf_scr, oI, oI0, oSub, oFdiv, oMod, oPow, oShl, oShr, oAnd, oOr, oXor, oLt, oLe, oGt, oGe, oNeg, oIsN, oNotN, Gx.isNon, oAdd, oAdd', oMul, oMul', oMulM, oEq, oNe, oEqS, oNeS, oIn, oNin, eChain, oIx, oSet, cLen, cList, cListM, cTuple, cSum, cAll, cAny, cInt, cAbs, cMax2, cMin2, cDivmod, cGcd, cIsi, cRepr, lstInts, lstBls, startD, wipeD, List.map_cons, List.map_nil, List.length_cons, List.length_nil, List.cons_append, List.nil_append, List.replicate_succ, List.replicate_zero, List.set_cons_succ, List.set_cons_zero, List.getElem?_cons_succ, List.getElem?_cons_zero, List.filterMap_cons_some, List.filterMap_nil, Nat.reduceAdd, Nat.reduceSub, Nat.sub_self, Nat.reduceLT, Nat.reduceMul, Nat.zero_add, Nat.add_zero, if_true, if_false, and_true, true_and, and_false, false_and, or_true, true_or, or_false, false_or, not_true_eq_false, not_false_eq_true, Bool.not_true, Bool.not_false, Bool.false_eq_true, ite_true, ite_false, reduceIte, reduceCtorEq, eq_self, $xs,*])

/-- up to A in size, the lower number below 2 ^ b -/
def Bd (A b : Nat) (q : Rat) : Prop := q.num.natAbs ≤ A * q.den ∧ q.den < 2 ^ b
theorem Bd.mono {A B b c : Nat} {q : Rat} (h : Bd A b q) (h1 : A ≤ B) (h2 : b ≤ c) : Bd B c q :=
  ⟨Nat.le_trans h.1 (Nat.mul_le_mul_right _ h1), Nat.lt_of_lt_of_le h.2 (pow2_le h2)⟩
theorem divInt_cross {n m : Int} (hm : m ≠ 0) : (Rat.divInt n m).num * m = n * (Rat.divInt n m).den := by
  have h := Rat.num_divInt_den (Rat.divInt n m)
  exact (Rat.divInt_eq_divInt_iff (by have := (Rat.divInt n m).den_pos; omega) hm).mp h
theorem bd_divInt {n : Int} {m A b : Nat} (hm : 0 < m) (h1 : n.natAbs ≤ A * m) (h2 : m < 2 ^ b) : Bd A b (Rat.divInt n m) := by
  have hc := divInt_cross (n := n) (m := m) (by omega)
  refine ⟨?_, ?_⟩
  · have e : (Rat.divInt n m).num.natAbs * m = n.natAbs * (Rat.divInt n m).den := by
      have := congrArg Int.natAbs hc
      rw [Int.natAbs_mul, Int.natAbs_mul] at this
      exact this
    refine Nat.le_of_mul_le_mul_right (c := m) ?_ hm
    rw [e]
    calc n.natAbs * (Rat.divInt n m).den ≤ A * m * (Rat.divInt n m).den := Nat.mul_le_mul_right _ h1
      _ = A * (Rat.divInt n m).den * m := by rw [Nat.mul_assoc, Nat.mul_assoc, Nat.mul_comm m]
  · exact (sz_divInt (a := n.natAbs) (b := b) Nat.lt_two_pow_self (by rw [Int.natAbs_natCast]; exact h2) (by omega)).2
theorem bd_add {p q : Rat} {A B b c : Nat} (h : Bd A b p) (h' : Bd B c q) : Bd (A + B) (b + c) (p + q) := by
  rw [Rat.add_def', ← Rat.divInt_ofNat]
  have hp := p.den_pos
  have hq := q.den_pos
  refine bd_divInt (Nat.mul_pos hp hq) ?_ (mul_lt2 h.2 h'.2)
  have e1 : (p.num * (q.den : Int)).natAbs = p.num.natAbs * q.den := by rw [Int.natAbs_mul]; rfl
  have e2 : (q.num * (p.den : Int)).natAbs = q.num.natAbs * p.den := by rw [Int.natAbs_mul]; rfl
  have h1 := Nat.mul_le_mul_right q.den h.1
  have h2 := Nat.mul_le_mul_right p.den h'.1
  have h3 := Int.natAbs_add_le (p.num * (q.den : Int)) (q.num * (p.den : Int))
  rw [e1, e2] at h3
  have h4 : (A + B) * (p.den * q.den) = A * p.den * q.den + B * q.den * p.den := by
    rw [Nat.add_mul, Nat.mul_assoc A, Nat.mul_assoc B, Nat.mul_comm q.den]
  omega
theorem Bd.sz {A b a c : Nat} {q : Rat} (h : Bd A b q) (hA : A < 2 ^ a) (hc : a + b ≤ c := by decide) : Sz c b q :=
  ⟨Nat.lt_of_le_of_lt h.1 (Nat.lt_of_lt_of_le (mul_lt2 hA h.2) (pow2_le hc)), h.2⟩
theorem Bd.big {A b a : Nat} {q : Rat} (h : Bd A b q) (hA : A < 2 ^ a) (h1 : a + b ≤ 400000 := by decide) (h2 : b ≤ 4000 := by decide) : Big q := (h.sz (c := a + b) hA (Nat.le_refl _)).mono h1 h2
theorem bd_zero : Bd 0 1 0 := ⟨by decide, by decide⟩
/-! ### sums -/
def sumR (qs : List Rat) : Rat := qs.foldl (· + ·) 0
theorem foldl_add (qs : List Rat) : ∀ a : Rat, qs.foldl (· + ·) a = a + sumR qs := by
  induction qs with
  | nil => intro a; show a = a + 0; rw [Rat.add_zero]
  | cons q qs ih =>
    intro a
    show qs.foldl (· + ·) (a + q) = a + qs.foldl (· + ·) (0 + q)
    rw [ih, ih (0 + q), Rat.zero_add, Rat.add_assoc]
theorem sumR_nil : sumR [] = 0 := rfl
theorem sumR_cons (q : Rat) (qs : List Rat) : sumR (q :: qs) = q + sumR qs := by
  show qs.foldl (· + ·) (0 + q) = _
  rw [foldl_add, Rat.zero_add]
theorem sumR_append (ps qs : List Rat) : sumR (ps ++ qs) = sumR ps + sumR qs := by
  unfold sumR
  rw [List.foldl_append, foldl_add]
  rfl
theorem bd_sum {A b : Nat} : ∀ {qs : List Rat}, (∀ q ∈ qs, Bd A b q) → Bd (qs.length * A) (qs.length * b + 1) (sumR qs)
  | [], _ => by rw [sumR_nil, List.length_nil, Nat.zero_mul, Nat.zero_mul]; exact bd_zero
  | q :: qs, h => by
    rw [sumR_cons]
    have ih := bd_sum (qs := qs) fun x hx => h x (List.mem_cons_of_mem _ hx)
    refine (bd_add (h q List.mem_cons_self) ih).mono ?_ ?_
    · rw [List.length_cons, Nat.succ_mul]; omega
    · rw [List.length_cons, Nat.succ_mul]; omega
/-- at most sixteen fractions of some size -/
def γ_total : OL := fun ds S R => ∃ qs : List Rat, ds = [.lst (qs.map encR)] ∧ (qs.length ≤ 16 ∧ ∀ q ∈ qs, Bd (2 ^ 100000) 200 q) ∧ R (encR (sumR qs)) S
def body_total (γ_plus : OL) (d_ZERO : D) : ST := sSeq (sAsg (eC d_ZERO) (gNm 1))
  (sSeq (sFor (iSeq (eVar 0)) (gNm 2) (sAsg (eCall γ_plus (aCons (eVar 1) (aCons (eVar 2) (aNil)))) (gNm 1)))
  (sRet (eVar 1)))
theorem total_big {qs ps rs : List Rat} (e : qs = ps ++ rs) (hl : qs.length ≤ 16) (hb : ∀ q ∈ qs, Bd (2 ^ 100000) 200 q) : Big (sumR ps) := by
  have hp : ps.length ≤ 16 := by have := congrArg List.length e; rw [List.length_append] at this; omega
  have h := bd_sum (qs := ps) (A := 2 ^ 100000) (b := 200) fun x hx => hb x (by rw [e]; exact List.mem_append_left _ hx)
  have h1 : ps.length * 2 ^ 100000 ≤ 2 ^ 100004 := by
    have : 2 ^ 100004 = 16 * 2 ^ 100000 := by rw [show 100004 = 4 + 100000 from rfl, Nat.pow_add]
    rw [this]
    exact Nat.mul_le_mul_right _ hp
  have h2 : ps.length * 200 + 1 ≤ 3201 := by omega
  exact (h.mono h1 h2).big (a := 100005) (Nat.pow_lt_pow_right (by decide) (by decide))
theorem total_loop {qs : List Rat} (hl : qs.length ≤ 16) (hb : ∀ q ∈ qs, Bd (2 ^ 100000) 200 q) (x0 : Option D) (G : EndG) (S : Sto) (h : ∀ x2, G.nx [x0, some (encR (sumR qs)), x2] S) : ∀ (rs ps : List Rat) x2, qs = ps ++ rs →
    forG (gNm 2) (sAsg (eCall γ_plus (aCons (eVar 1) (aCons (eVar 2) (aNil)))) (gNm 1)) (fun _ => True) (rs.map encR) G [x0, some (encR (sumR ps)), x2] S
  | [], ps, x2, e => ⟨trivial, by rw [List.append_nil] at e; subst e; exact h x2⟩
  | q :: rs, ps, x2, e => by
    refine ⟨trivial, ?_⟩
    have e' : qs = (ps ++ [q]) ++ rs := by rw [e, List.append_assoc]; rfl
    have b1 := total_big e hl hb
    have bq : Big q := (hb q (by rw [e]; simp)).big (a := 100001) (Nat.pow_lt_pow_right (by decide) (by decide))
    unfold γ_plus
    simp_arith []
    refine ⟨_, _, rfl, ⟨b1, bq⟩, ?_⟩
    have es : sumR ps + q = sumR (ps ++ [q]) := by rw [sumR_append, sumR_cons, sumR_nil, Rat.add_zero]
    rw [es]
    exact total_loop hl hb x0 G S h rs (ps ++ [q]) _ e'
theorem enc_zero : D.tup [.int 0, .int 1] = encR 0 := rfl
theorem law_total : Law 3 γ_total (body_total γ_plus (.tup [.int 0, .int 1])) := by
  intro ds S R ⟨qs, e, ⟨hl, hb⟩, h⟩
  subst e
  unfold body_total
  simp_arith []
  rw [enc_zero]
  refine total_loop hl hb _ _ _ (fun x2 => ?_) qs [] _ rfl
  simp_arith []
  exact fin_of h

/-! ### Euclid's loop -/
def body_lean : ST := sSeq (sPar 2 3 (aCons (eCall cAbs (aCons (eVar 0) (aNil))) (aCons (eCall cAbs (aCons (eVar 1) (aNil))) (aNil))))
  (sSeq (sWh (tBl (eBin oGt (eVar 3) (eC (.int 0)))) (sPar 2 3 (aCons (eVar 3) (aCons (eBin oMod (eCall cInt (aCons (eVar 2) (aNil))) (eVar 3)) (aNil)))))
  (sSeq (sAsg (eIf (tBl (eBin oGt (eVar 1) (eC (.int 0)))) (eVar 2) (eBin oSub (eC (.int 0)) (eVar 2))) (gNm 2))
  (sRet (eTup (aCons (eBin oFdiv (eVar 0) (eVar 2)) (aCons (eBin oFdiv (eVar 1) (eVar 2)) (aNil)))))))
theorem euclid (x0 x1 : Option D) (G : EndG) (S : Sto) : ∀ (b a : Nat), (G.nx [x0, x1, some (.int (Nat.gcd a b : Nat)), some (.int 0)] S) →
    ∃ n, whG (tBl (eBin oGt (eVar 3) (eC (.int 0)))) (sPar 2 3 (aCons (eVar 3) (aCons (eBin oMod (eCall cInt (aCons (eVar 2) (aNil))) (eVar 3)) (aNil)))) n G [x0, x1, some (.int a), some (.int b)] S := by
  intro b
  induction b using Nat.strongRecOn with
  | _ b ih =>
    intro a h
    by_cases z : b = 0
    · subst z
      refine ⟨1, ?_⟩
      unfold whG
      simp_arith [Int.ofNat_eq_natCast, Int.cast_ofNat_Int, Int.lt_irrefl, decide_false]
      rw [Nat.gcd_zero_right] at h
      exact h
    · have hlt : a % b < b := Nat.mod_lt _ (by omega)
      have h' : G.nx [x0, x1, some (.int (Nat.gcd b (a % b) : Nat)), some (.int 0)] S := by
        have e : Nat.gcd b (a % b) = Nat.gcd a b := by rw [Nat.gcd_comm b, ← Nat.gcd_rec, Nat.gcd_comm]
        rw [e]
        exact h
      obtain ⟨n, q⟩ := ih (a % b) hlt b h'
      refine ⟨n + 1, ?_⟩
      unfold whG
      have hb : (0 : Int) < (b : Int) := by omega
      simp_arith [hb, decide_true]
      refine ⟨by omega, ?_⟩
      rw [Int.fmod_eq_emod_of_nonneg _ (by omega), ← Int.natCast_emod]
      exact q
/-- the fraction of two whole numbers, the lower one not 0 -/
theorem law_lean : Law 4 γ_ratio body_lean := by
  intro ds S R h
  unfold γ_ratio at h
  split at h
  · rename_i a b
    obtain ⟨⟨hb, hb9⟩, h⟩ := h
    unfold body_lean
    simp_arith []
    have ea : ∀ i : Int, (if i < 0 then -i else i) = (i.natAbs : Int) := fun i => by split <;> omega
    rw [ea, ea]
    refine euclid _ _ _ _ _ _ ?_
    obtain ⟨q1, q2, q3, q4⟩ := divInt_parts (a := a) hb _ rfl
    have q := fin_of h
    unfold encR at q
    rw [← q1, ← q2] at q
    have dv := log2_le_of_le q4 hb9
    by_cases z : 0 < b
    · rw [if_pos z] at q q3 q4 dv
      simp_arith [z, decide_true]
      exact ⟨⟨q3, dv⟩, ⟨q3, dv⟩, by decide, q⟩
    · rw [if_neg z] at q q3 q4 dv
      simp_arith [z, decide_false, Int.zero_sub]
      exact ⟨⟨q3, dv⟩, ⟨q3, dv⟩, by decide, q⟩
  · exact h.elim
end Gx

/-! Gx, data side 4: nets and states. -/
namespace Gx
open PySem L2
local macro_rules | `(tactic| simp_arith [$xs,*]) => `(tactic| try simp only [eVar, eC, eBin, eUn, tBl, tAnd', tOr', tNot', eAnd, eOr, eNot, eIf, aNil, aCons, eTup, eLst, eLstM, eCall, eCallK, pick, sNext, sSeq, sBreak, sCont, sDrop, sRet, sRetN, sIf, sNever, gNm, gsNil, gsCons, gTupl, gSubs, sAsg, sPar, sPar3, sFor, iSeq, seqG_tup, seqG_lst, seqG_scr, iRange1, iRange2, iEnumG, iZipG, td_tup, td_lst, td_scr, eLc, eLcM, tYes', pNone, pSome, eSl, cu_tup, cu_lst, cu_scr, eMt, eMt0, mAppend, isL, rs_non, rs_bl, rs_int, rs_str, rs_tup, rs_lst', rs_scr, itemsOf_tup, itemsOf_lst, itemsOf_scr, oI, oI0, oSub, oFdiv, oMod, oPow, oShl, oShr, oAnd, oOr, oXor, oLt, oLe, oGt, oGe, oNeg, oIsN, oNotN, Gx.isNon, oAdd, oAdd', oMul, oMul', oMulM, oEq, oNe, oEqS, oNeS, oIn, oNin, eChain, oIx, oSet, cLen, cList, cListM, cTuple, cSum, cAll, cAny, cInt, cAbs, cMax2, cMin2, cDivmod, cGcd, cIsi, cRepr, lstInts, lstBls, startD, wipeD, List.map_cons, List.map_nil, List.length_cons, List.length_nil, List.cons_append, List.nil_append, List.replicate_succ, List.replicate_zero, List.set_cons_succ, List.set_cons_zero, List.getElem?_cons_succ, List.getElem?_cons_zero, List.filterMap_cons_some, List.filterMap_nil, Nat.reduceAdd, Nat.reduceSub, Nat.sub_self, Nat.reduceLT, Nat.reduceMul, Nat.zero_add, Nat.add_zero, if_true, if_false, and_true, true_and, and_false, false_and, or_true, true_or, or_false, false_or, not_true_eq_false, not_false_eq_true, Bool.not_true, Bool.not_false, Bool.false_eq_true, ite_true, ite_false, reduceIte, reduceCtorEq, eq_self, $xs,*])

/-! ### plain data -/
theorem pl_top {n : Nat} {d : D} (h : pl n d = true) : isPlainTop d = true := by
  cases d <;> cases n <;> first | rfl | exact nomatch h
theorem pl_up : ∀ (n : Nat) (d : D), pl n d = true → pl (n + 1) d = true
  | n, .non, _ => rfl
  | n, .bl _, _ => rfl
  | n, .int _, _ => rfl
  | 0, .str _, h => h
  | n + 1, .str _, h => h
  | n + 1, .tup ds, h => by
    have h : ds.all (pl n) = true := h
    show ds.all (pl (n + 1)) = true
    rw [List.all_eq_true] at h ⊢
    exact fun x hx => pl_up n x (h x hx)
  | n + 1, .lst ds, h => by
    have h : ds.all (pl n) = true := h
    show ds.all (pl (n + 1)) = true
    rw [List.all_eq_true] at h ⊢
    exact fun x hx => pl_up n x (h x hx)
  | n + 1, .scr ds, h => by
    have h : ds.all (pl n) = true := h
    show ds.all (pl (n + 1)) = true
    rw [List.all_eq_true] at h ⊢
    exact fun x hx => pl_up n x (h x hx)
  | 0, .tup _, h => nomatch h
  | 0, .lst _, h => nomatch h
  | 0, .scr _, h => nomatch h
  | 0, .ref _, h => nomatch h
  | n + 1, .ref _, h => nomatch h
  | 0, .ty _, h => nomatch h
  | n + 1, .ty _, h => nomatch h
theorem pl_tup {n : Nat} {ds : List D} (h : pl (n + 1) (.tup ds) = true) : ∀ x ∈ ds, pl (n + 1) x = true := by
  have h : ds.all (pl n) = true := h
  rw [List.all_eq_true] at h
  exact fun x hx => pl_up n x (h x hx)
theorem pl_of_tup {n : Nat} {ds : List D} (h : ∀ x ∈ ds, pl n x = true) : pl (n + 1) (.tup ds) = true := by
  show ds.all (pl n) = true
  rw [List.all_eq_true]
  exact h
theorem pl_mono {n m : Nat} {d : D} (h : pl n d = true) (hm : n ≤ m) : pl m d = true := by
  induction hm with
  | refl => exact h
  | step _ ih => exact pl_up _ _ ih
theorem lstBls_map {α : Type} (xs : List α) (p : α → Bool) : blsOf (xs.map fun x => D.bl (p x)) = some (xs.map p) := by
  rw [← blsOf_map (xs.map p), List.map_map]; rfl
/-- all() of a comprehension -/
theorem all_lc {g : TG'} {te : ET} {gd : Sto → Prop} {vs : List Nat} {τ : Tau} {S : Sto} {R : QD} (p : D → Bool) (items : List D) (hel : ∀ x ∈ items, ∀ Q : QD, Q (.bl (p x)) S → g x (wipeD τ vs) S fun τ2 S2 => te τ2 S2 Q)
    (hg : gd S) (hz : items.length ≤ sizeLine) (h : R (.bl (items.all p)) S) : cmpG g tYes' te gd vs τ (fun acc S2 => cAll [.lst acc] S2 R) items [] S := by
  refine cmp_map (fun x => .bl (p x)) items [] hel hg (by simpa using hz) ?_
  show cAll [.lst ([] ++ items.map fun x => D.bl (p x))] S R
  rw [List.nil_append]
  unfold cAll lstBls
  simp only [rs_lst']
  rw [lstBls_map]
  show R (.bl ((items.map p).all id)) S
  rw [List.all_map]
  exact h
/-! ### rows and nets -/
def encRow (r : List Rat) : D := .tup (r.map encR)
def isRowD (n : Int) : D → Bool
  | .tup es => decide ((es.length : Int) = n) && es.all isFr
  | _ => false
theorem isRowD_tup (n : Int) (es : List D) : isRowD n (.tup es) = (decide ((es.length : Int) = n) && es.all isFr) := rfl
theorem isRow_enc (r : List Rat) : isRowD r.length (encRow r) = true := by
  unfold isRowD encRow
  simp [isFr_enc]
theorem isRow_of {n : Int} {d : D} (h : isRowD n d = true) : ∃ r, d = encRow r ∧ (r.length : Int) = n := by
  unfold isRowD at h
  split at h
  · rename_i es
    rw [Bool.and_eq_true, decide_eq_true_eq, List.all_eq_true] at h
    obtain ⟨h1, h2⟩ := h
    have : ∃ r : List Rat, es = r.map encR := by
      clear h1
      induction es with
      | nil => exact ⟨[], rfl⟩
      | cons x xs ih =>
        obtain ⟨r, hr⟩ := ih fun y hy => h2 y (List.mem_cons_of_mem _ hy)
        obtain ⟨q, hq⟩ := isFr_of (h2 x List.mem_cons_self)
        exact ⟨q :: r, by rw [hr, hq]; rfl⟩
    obtain ⟨r, rfl⟩ := this
    exact ⟨r, rfl, by simpa using h1⟩
  · cases h
def γ_is_row : OL := fun ds S R => match ds with
  | [d, .int n] => (pl 60 d = true ∧ n ≤ 1000) ∧ R (.bl (isRowD n d)) S
  | _ => False
def body_is_row (γ_is_tuple_of γ_is_ratio : OL) : ST := sRet (eAnd (eCall γ_is_tuple_of (aCons (eVar 0) (aCons (eVar 1) (aNil)))) (eCall cAll (aCons (eLc (iSeq (eVar 0)) (gNm 2) (tYes') (eCall γ_is_ratio (aCons (eVar 2) (aNil))) [2]) (aNil))))
theorem sz1000 {n : Nat} (h : n ≤ 1000) : n ≤ sizeLine := Nat.le_trans h (by decide)
theorem law_is_row : Law 3 γ_is_row (body_is_row γ_is_tuple_of γ_is_ratio) := by
  intro ds S R h
  unfold γ_is_row at h
  split at h
  · rename_i d n
    obtain ⟨⟨h1, hn⟩, h2⟩ := h
    have q := fin_of h2
    unfold body_is_row γ_is_tuple_of γ_is_ratio
    simp only [sRet, eAnd, eCall, aCons, aNil, eVar, startD, List.map_cons, List.map_nil, List.length_cons, List.length_nil, Nat.zero_add, Nat.reduceAdd, Nat.reduceSub, List.replicate_succ, List.replicate_zero, List.cons_append, List.nil_append, List.getElem?_cons_zero, List.getElem?_cons_succ, eLc, iSeq]
    refine ⟨pl_top h1, ?_⟩
    by_cases z : isTp n d = true
    · rw [z, if_pos rfl]
      cases d with
      | tup es =>
        have hes : (es.length : Int) = n := of_decide_eq_true z
        unfold seqG
        refine all_lc isFr es (fun x hx Q hq => ?_) trivial (sz1000 (by omega)) ?_
        · have px := pl_tup h1 x hx
          simp_arith [wipeD]
          refine ⟨pl_top px, ?_, hq⟩
          rintro es' rfl e he
          exact pl_top (pl_tup px e he)
        · rw [isRowD_tup, decide_eq_true hes, Bool.true_and] at q
          exact q
      | _ => exact nomatch z
    · rw [if_neg z]
      have : isRowD n d = false := by
        cases d with
        | tup es =>
          have : ¬ ((es.length : Int) = n) := fun y => z (decide_eq_true y)
          rw [isRowD_tup, decide_eq_false this, Bool.false_and]
        | _ => rfl
      rw [this] at q
      have z' : isTp n d = false := by simpa using z
      first | exact q | (rw [z']; exact q)
  · exact h.elim
/-! ### equal data of one kind -/
mutual
def cl : D → Bool
  | .non => true
  | .int _ => true
  | .str _ => true
  | .tup ds => clL ds
  | _ => false
def clL : List D → Bool
  | [] => true
  | d :: ds => cl d && clL ds
end
mutual
theorem eqD_cl : ∀ d e : D, cl d = true → cl e = true → (eqD d e = true ↔ d = e)
  | .non, .non, _, _ => ⟨fun _ => rfl, fun _ => rfl⟩
  | .int i, .int j, _, _ => by
    show (i == j) = true ↔ _
    rw [beq_iff_eq, D.int.injEq]
  | .str i, .str j, _, _ => by
    show (i == j) = true ↔ _
    rw [beq_iff_eq, D.str.injEq]
  | .tup ds, .tup es, h, h' => by
    show PyData.eqvAll (pyDL ds) (pyDL es) = true ↔ _
    rw [eqD_clL ds es h h', D.tup.injEq]
  | .non, .int _, _, _ => ⟨(nomatch ·), (nomatch ·)⟩
  | .non, .str _, _, _ => ⟨(nomatch ·), (nomatch ·)⟩
  | .non, .tup _, _, _ => ⟨(nomatch ·), (nomatch ·)⟩
  | .int _, .non, _, _ => ⟨(nomatch ·), (nomatch ·)⟩
  | .int _, .str _, _, _ => ⟨(nomatch ·), (nomatch ·)⟩
  | .int _, .tup _, _, _ => ⟨(nomatch ·), (nomatch ·)⟩
  | .str _, .non, _, _ => ⟨(nomatch ·), (nomatch ·)⟩
  | .str _, .int _, _, _ => ⟨(nomatch ·), (nomatch ·)⟩
  | .str _, .tup _, _, _ => ⟨(nomatch ·), (nomatch ·)⟩
  | .tup _, .non, _, _ => ⟨(nomatch ·), (nomatch ·)⟩
  | .tup _, .int _, _, _ => ⟨(nomatch ·), (nomatch ·)⟩
  | .tup _, .str _, _, _ => ⟨(nomatch ·), (nomatch ·)⟩
theorem eqD_clL : ∀ ds es : List D, clL ds = true → clL es = true → (PyData.eqvAll (pyDL ds) (pyDL es) = true ↔ ds = es)
  | [], [], _, _ => ⟨fun _ => rfl, fun _ => rfl⟩
  | [], _ :: _, _, _ => ⟨(nomatch ·), (nomatch ·)⟩
  | _ :: _, [], _, _ => ⟨(nomatch ·), (nomatch ·)⟩
  | d :: ds, e :: es, h, h' => by
    have h : (cl d && clL ds) = true := h
    have h' : (cl e && clL es) = true := h'
    rw [Bool.and_eq_true] at h h'
    show (PyData.eqv (pyD d) (pyD e) && PyData.eqvAll (pyDL ds) (pyDL es)) = true ↔ _
    rw [Bool.and_eq_true, eqD_clL ds es h.2 h'.2, List.cons.injEq]
    exact and_congr_left' (eqD_cl d e h.1 h'.1)
end
theorem eqD_dec [DecidableEq α] {f : α → D} (inj : ∀ x y, f x = f y ↔ x = y) (hc : ∀ x, cl (f x) = true) (x y : α) : eqD (f x) (f y) = decide (x = y) := by
  have h := (eqD_cl _ _ (hc x) (hc y)).trans (inj x y)
  by_cases z : x = y
  · rw [decide_eq_true z, h.mpr z]
  · rw [decide_eq_false z]
    cases e : eqD (f x) (f y) with
    | false => rfl
    | true => exact absurd (h.mp e) z
theorem cl_map {f : α → D} (h : ∀ x, cl (f x) = true) : ∀ xs : List α, clL (xs.map f) = true
  | [] => rfl
  | x :: xs => by
    show (cl (f x) && clL (xs.map f)) = true
    rw [h x, cl_map h xs]; rfl
theorem map_inj {f : α → D} (h : ∀ x y, f x = f y ↔ x = y) : ∀ xs ys : List α, xs.map f = ys.map f ↔ xs = ys
  | [], [] => ⟨fun _ => rfl, fun _ => rfl⟩
  | [], _ :: _ => ⟨(nomatch ·), (nomatch ·)⟩
  | _ :: _, [] => ⟨(nomatch ·), (nomatch ·)⟩
  | x :: xs, y :: ys => by rw [List.map_cons, List.map_cons, List.cons.injEq, List.cons.injEq, h, map_inj h]
theorem cl_encR (q : Rat) : cl (encR q) = true := rfl
theorem eqD_encR (p q : Rat) : eqD (encR p) (encR q) = decide (p = q) := eqD_dec (fun _ _ => encR_inj) cl_encR p q
/-! ### comprehensions over things that are laid as data -/
section
variable {α : Type} {g : TG'} {tt : TT'} {te : ET} {gd : Sto → Prop} {vs : List Nat} {τ : Tau} {Z : List D → Sto → Prop} {S : Sto}
theorem lc_map (enc f : α → D) : ∀ (xs : List α) (acc : List D), (∀ x ∈ xs, ∀ Q : QD, Q (f x) S → g (enc x) (wipeD τ vs) S fun τ2 S2 => te τ2 S2 Q) → gd S → acc.length + xs.length ≤ sizeLine → Z (acc ++ xs.map f) S → cmpG g tYes' te gd vs τ Z (xs.map enc) acc S
  | [], acc, _, hg, _, h => ⟨hg, by simpa using h⟩
  | x :: xs, acc, hel, hg, hz, h => by
    refine ⟨hg, ?_⟩
    have hx := hel x List.mem_cons_self (fun y S4 => acc.length < sizeLine ∧ cmpG g tYes' te gd vs τ Z (xs.map enc) (acc ++ [y]) S4) ⟨by rw [List.length_cons] at hz; omega, lc_map enc f xs (acc ++ [f x]) (fun y hy => hel y (List.mem_cons_of_mem _ hy)) hg (by rw [List.length_append, List.length_singleton]; rw [List.length_cons] at hz; omega) (by simpa using h)⟩
    simpa only [tYes', if_true] using hx
theorem lc_filter (enc : α → D) (p : α → Bool) (f : α → D) : ∀ (xs : List α) (acc : List D), (∀ x ∈ xs, ∀ (Y : QD) (N : Sto → Prop), (p x = true → Y (f x) S) → (p x = false → N S) → g (enc x) (wipeD τ vs) S fun τ2 S2 => tt τ2 S2 fun b S3 => if b = true then te τ2 S3 Y else N S3) →
    gd S → acc.length + xs.length ≤ sizeLine → Z (acc ++ (xs.filter p).map f) S → cmpG g tt te gd vs τ Z (xs.map enc) acc S
  | [], acc, _, hg, _, h => ⟨hg, by simpa using h⟩
  | x :: xs, acc, hel, hg, hz, h => by
    refine ⟨hg, ?_⟩
    rw [List.length_cons] at hz
    refine hel x List.mem_cons_self _ _ (fun e => ⟨by omega, ?_⟩) fun e => ?_
    · refine lc_filter enc p f xs (acc ++ [f x]) (fun y hy => hel y (List.mem_cons_of_mem _ hy)) hg (by rw [List.length_append, List.length_singleton]; omega) ?_
      rw [List.filter_cons_of_pos e] at h
      simpa using h
    · refine lc_filter enc p f xs acc (fun y hy => hel y (List.mem_cons_of_mem _ hy)) hg (by omega) ?_
      rw [List.filter_cons_of_neg (by simp [e])] at h
      exact h
/-- over 0 .. n - 1 -/
theorem rng_map (f : Nat → D) (n : Nat) (hel : ∀ i, i < n → ∀ Q : QD, Q (f i) S → g (.int i) (wipeD τ vs) S fun τ2 S2 => te τ2 S2 Q) (hg : gd S) (hz : n ≤ sizeLine) (h : Z ((List.range n).map f) S) : cmpG g tYes' te gd vs τ Z (rngD 0 n) [] S := by
  rw [rngD_zero]
  exact lc_map (fun i : Nat => .int (i : Int)) f (List.range n) [] (fun i hi => hel i (List.mem_range.mp hi)) hg (by simpa using hz) (by simpa using h)
theorem rng_filter (p : Nat → Bool) (f : Nat → D) (n : Nat) (hel : ∀ i, i < n → ∀ (Y : QD) (N : Sto → Prop), (p i = true → Y (f i) S) → (p i = false → N S) → g (.int i) (wipeD τ vs) S fun τ2 S2 => tt τ2 S2 fun b S3 => if b = true then te τ2 S3 Y else N S3)
    (hg : gd S) (hz : n ≤ sizeLine) (h : Z (((List.range n).filter p).map f) S) : cmpG g tt te gd vs τ Z (rngD 0 n) [] S := by
  rw [rngD_zero]
  exact lc_filter (fun i : Nat => .int (i : Int)) p f (List.range n) [] (fun i hi => hel i (List.mem_range.mp hi)) hg (by simpa using hz) (by simpa using h)
end
/-- an element by its index -/
theorem atI_map {α : Type} {f : α → D} {xs : List α} {i : Nat} (h : i < xs.length) : L2.atI (xs.map f) (i : Int) = some (f xs[i]) := L2.atI_nat (by rw [List.getElem?_map, List.getElem?_eq_getElem h]; rfl)
theorem atI_mapD {α : Type} {f : α → D} {xs : List α} {i : Nat} (z : α) (h : i < xs.length) : L2.atI (xs.map f) (i : Int) = some (f (xs.getD i z)) := by
  rw [atI_map h, List.getD_eq_getElem?_getD, List.getElem?_eq_getElem h]; rfl
end Gx

/-! Gx, data side 5: nets and states. -/
namespace Gx
open PySem L2
local macro_rules | `(tactic| simp_arith [$xs,*]) => `(tactic| try simp only [eVar, eC, eBin, eUn, tBl, tAnd', tOr', tNot', eAnd, eOr, eNot, eIf, aNil, aCons, eTup, eLst, eLstM, eCall, eCallK, pick, sNext, sSeq, sBreak, sCont, sDrop, sRet, sRetN, sIf, sNever, gNm, gsNil, gsCons, gTupl, gSubs, sAsg, sPar, sPar3, sFor, iSeq, seqG_tup, seqG_lst, seqG_scr, iRange1, iRange2, iEnumG, iZipG, td_tup, td_lst, td_scr, eLc, eLcM, tYes', pNone, pSome, eSl, cu_tup, cu_lst, cu_scr, eMt, eMt0, mAppend, isL, rs_non, rs_bl, rs_int, rs_str, rs_tup, rs_lst', rs_scr, itemsOf_tup, itemsOf_lst, itemsOf_scr, oI, oI0, oSub, oFdiv, oMod, oPow, oShl, oShr, oAnd, oOr, oXor, oLt, oLe, oGt, oGe, oNeg, oIsN, oNotN, Gx.isNon, oAdd, oAdd', oMul, oMul', oMulM, oEq, oNe, oEqS, oNeS, oIn, oNin, eChain, oIx, oSet, cLen, cList, cListM, cTuple, cSum, cAll, cAny, cInt, cAbs, cMax2, cMin2, cDivmod, cGcd, cIsi, cRepr, lstInts, lstBls, startD, wipeD, List.map_cons, List.map_nil, List.length_cons, List.length_nil, List.cons_append, List.nil_append, List.replicate_succ, List.replicate_zero, List.set_cons_succ, List.set_cons_zero, List.getElem?_cons_succ, List.getElem?_cons_zero, List.filterMap_cons_some, List.filterMap_nil, Nat.reduceAdd, Nat.reduceSub, Nat.sub_self, Nat.reduceLT, Nat.reduceMul, Nat.zero_add, Nat.add_zero, if_true, if_false, and_true, true_and, and_false, false_and, or_true, true_or, or_false, false_or, not_true_eq_false, not_false_eq_true, Bool.not_true, Bool.not_false, Bool.false_eq_true, ite_true, ite_false, reduceIte, reduceCtorEq, eq_self, $xs,*])

/-! ### nets -/
structure Net where
  ws : List (List Rat)
  ms : List Rat
def Net.n (N : Net) : Nat := N.ms.length
def encW (ws : List (List Rat)) : D := .tup (ws.map encRow)
def encN (N : Net) : D := .tup [encW N.ws, encRow N.ms]
def wrow (N : Net) (i : Nat) : List Rat := N.ws.getD i []
def wt (N : Net) (i j : Nat) : Rat := (wrow N i).getD j 0
def mk' (N : Net) (i : Nat) : Rat := N.ms.getD i 0
structure Net.Ok (N : Net) : Prop where
  pos : 1 ≤ N.n
  few : N.n ≤ 8
  sq : N.ws.length = N.n
  row : ∀ r ∈ N.ws, r.length = N.n
  dia : ∀ i, i < N.n → wt N i i = 0
theorem pl_encR (q : Rat) : pl 1 (encR q) = true := rfl
theorem pl_encRow (r : List Rat) : pl 2 (encRow r) = true := pl_of_tup fun x hx => by
  obtain ⟨q, _, rfl⟩ := List.mem_map.mp hx
  exact pl_encR q
theorem pl_encN (N : Net) : pl 4 (encN N) = true := pl_of_tup fun x hx => by
  simp only [List.mem_cons, List.not_mem_nil, or_false] at hx
  rcases hx with rfl | rfl
  · exact pl_of_tup fun x hx => by
      obtain ⟨q, _, rfl⟩ := List.mem_map.mp hx
      exact pl_encRow q
  · exact pl_mono (pl_encRow _) (by decide)
def nth (ds : List D) (i : Nat) : D := ds.getD i .non
def cellD (rows : List D) (i : Nat) : D := match nth rows i with
  | .tup es => nth es i
  | _ => .non
def isNetD : D → Bool
  | .tup [.tup rows, m] => (decide (1 ≤ (rows.length : Int)) && decide ((rows.length : Int) ≤ 8)) && (rows.all (isRowD rows.length) && isRowD rows.length m && (List.range rows.length).all fun i => eqD (cellD rows i) (encR 0))
  | _ => false
theorem isNetD_tup (rows : List D) (m : D) : isNetD (.tup [.tup rows, m]) = ((decide (1 ≤ (rows.length : Int)) && decide ((rows.length : Int) ≤ 8)) && (rows.all (isRowD rows.length) && isRowD rows.length m && (List.range rows.length).all fun i => eqD (cellD rows i) (encR 0))) := rfl
theorem cellD_enc {ws : List (List Rat)} {n i : Nat} (hl : ws.length = n) (hr : ∀ r ∈ ws, r.length = n) (hi : i < n) : cellD (ws.map encRow) i = encR ((ws.getD i []).getD i 0) := by
  have h1 : i < ws.length := by omega
  unfold cellD nth
  rw [List.getD_eq_getElem?_getD, List.getElem?_map, List.getElem?_eq_getElem h1]
  have h2 := hr ws[i] (List.getElem_mem h1)
  show nth (ws[i].map encR) i = _
  unfold nth
  rw [List.getD_eq_getElem?_getD, List.getElem?_map, List.getElem?_eq_getElem (by omega)]
  simp only [List.getD_eq_getElem?_getD]
  rw [List.getElem?_eq_getElem h1, Option.getD_some, List.getElem?_eq_getElem (by omega)]
  rfl
theorem rows_of {n : Int} : ∀ {es : List D}, es.all (isRowD n) = true → ∃ ws : List (List Rat), es = ws.map encRow ∧ ∀ r ∈ ws, (r.length : Int) = n
  | [], _ => ⟨[], rfl, fun _ h => nomatch h⟩
  | e :: es, h => by
    rw [List.all_cons, Bool.and_eq_true] at h
    obtain ⟨r, rfl, hr⟩ := isRow_of h.1
    obtain ⟨ws, rfl, hw⟩ := rows_of h.2
    refine ⟨r :: ws, rfl, fun x hx => ?_⟩
    rcases List.mem_cons.mp hx with rfl | hx
    · exact hr
    · exact hw x hx
theorem isNet_enc {N : Net} (h : N.Ok) : isNetD (encN N) = true := by
  have hs := h.sq
  have hn : N.n = N.ms.length := rfl
  unfold encN encW
  rw [isNetD_tup, List.length_map]
  simp only [Bool.and_eq_true, decide_eq_true_eq, List.all_eq_true]
  have := h.pos
  have := h.few
  refine ⟨⟨by omega, by omega⟩, ⟨fun x hx => ?_, ?_⟩, fun i hi => ?_⟩
  · obtain ⟨r, hr, rfl⟩ := List.mem_map.mp hx
    rw [hs, ← h.row r hr]
    exact isRow_enc r
  · rw [hs]; exact isRow_enc N.ms
  · rw [cellD_enc hs (fun r hr => h.row r hr) (by have := List.mem_range.mp hi; omega), eqD_encR, decide_eq_true_eq]
    exact h.dia i (by have := List.mem_range.mp hi; omega)
def γ_is_net_by : OL := fun ds S R => match ds with
  | [d] => pl 60 d = true ∧ R (.bl (isNetD d)) S
  | _ => False
def body_is_net_by (γ_is_tuple_of γ_is_row : OL) (d_MOST_CELLS d_ZERO : D) : ST := sSeq (sIf (tOr' (tNot' (tBl (eCall γ_is_tuple_of (aCons (eVar 0) (aCons (eC (.int 2)) (aNil)))))) (tOr' (tNot' (tBl (eCall cIsi (aCons (eBin oIx (eVar 0) (eC (.int 0))) (aCons (eC (.ty "tuple")) (aNil)))))) (tNot' (tBl (eChain oLe oLe (eC (.int 1)) (eCall cLen (aCons (eBin oIx (eVar 0) (eC (.int 0))) (aNil))) (eC d_MOST_CELLS)))))) (sRet (eC (.bl false))) (sNext))
  (sSeq (sAsg (eCall cLen (aCons (eBin oIx (eVar 0) (eC (.int 0))) (aNil))) (gNm 1))
  (sSeq (sIf (tOr' (tNot' (tBl (eCall cAll (aCons (eLc (iSeq (eBin oIx (eVar 0) (eC (.int 0)))) (gNm 3) (tYes') (eCall γ_is_row (aCons (eVar 3) (aCons (eVar 1) (aNil)))) [3]) (aNil))))) (tNot' (tBl (eCall γ_is_row (aCons (eBin oIx (eVar 0) (eC (.int 1))) (aCons (eVar 1) (aNil))))))) (sRet (eC (.bl false))) (sNext))
  (sRet (eCall cAll (aCons (eLc (iRange1 (aCons (eVar 1) (aNil))) (gNm 2) (tYes') (eBin oEq (eBin oIx (eBin oIx (eBin oIx (eVar 0) (eC (.int 0))) (eVar 2)) (eVar 2)) (eC d_ZERO)) [2]) (aNil))))))
theorem law_is_net_by : Law 4 γ_is_net_by (body_is_net_by γ_is_tuple_of γ_is_row (.int 8) (.tup [.int 0, .int 1])) := by
  intro ds S R h
  unfold γ_is_net_by at h
  split at h
  · rename_i d
    obtain ⟨h1, h2⟩ := h
    have q := fin_of h2
    unfold body_is_net_by γ_is_tuple_of γ_is_row
    by_cases z : ∃ rows m, d = .tup [.tup rows, m]
    · obtain ⟨rows, m, rfl⟩ := z
      have p0 := pl_tup h1 (.tup rows) (by simp)
      have p1 := pl_tup h1 m (by simp)
      rw [isNetD_tup] at q
      have e2 : isTp 2 (.tup [.tup rows, m]) = true := rfl
      simp_arith [pl_top h1, e2, atI_0, isPlainTop, List.mem_cons, String.reduceEq, isiD, beq_self_eq_true]
      by_cases a : (1 : Int) ≤ rows.length
      · by_cases b : (rows.length : Int) ≤ 8
        · simp only [a, b, decide_true, Bool.true_and] at q
          simp_arith [a, b, decide_true]
          refine cmp_map (fun x => .bl (isRowD rows.length x)) rows [] (fun x hx Q hq => ?_) trivial (sz1000 (by rw [List.length_nil]; omega)) ?_
          · simp_arith [wipeD]
            exact ⟨⟨pl_tup p0 x hx, by omega⟩, hq⟩
          · simp_arith [lstBls_map, List.all_map, Function.id_comp]
            by_cases c : rows.all (isRowD rows.length) = true
            · simp only [c, Bool.true_and] at q
              simp_arith [c, atI_1]
              refine ⟨⟨p1, by omega⟩, ?_⟩
              by_cases e : isRowD rows.length m = true
              · simp only [e, Bool.true_and] at q
                simp_arith [e]
                refine ⟨⟨by omega, by omega⟩, ?_⟩
                obtain ⟨ws, rfl, hw⟩ := rows_of c
                rw [List.length_map] at *
                rw [Int.toNat_natCast]
                refine rng_map (fun i => .bl (eqD (cellD (ws.map encRow) i) (encR 0))) _ (fun i hi Q hq => ?_) trivial (sz1000 (by omega)) ?_
                · have hrow := hw (ws.getD i []) (by rw [List.getD_eq_getElem?_getD, List.getElem?_eq_getElem hi]; exact List.getElem_mem hi)
                  have g1 : L2.atI (ws.map encRow) (i : Int) = some (encRow (ws.getD i [])) := atI_mapD [] hi
                  have g2 : L2.atI ((ws.getD i []).map encR) (i : Int) = some (encR ((ws.getD i []).getD i 0)) := atI_mapD 0 (by omega)
                  have hc := cellD_enc (ws := ws) (n := ws.length) (i := i) rfl (fun r hr => by have := hw r hr; omega) hi
                  rw [hc] at hq
                  simp_arith [wipeD, atI_0, g1, encRow, g2, encR]
                  exact ⟨⟨pl_mono (pl_encR _) (by decide), rfl⟩, hq⟩
                · simp_arith [lstBls_map, List.all_map, Function.id_comp]
                  exact q
              · have e : isRowD rows.length m = false := by simpa using e
                simp only [e, Bool.false_and] at q
                simp_arith [e]
                exact q
            · have c : rows.all (isRowD rows.length) = false := by simpa using c
              simp only [c, Bool.false_and] at q
              simp_arith [c]
              exact q
        · simp only [b, decide_false, Bool.false_and, Bool.and_false] at q
          simp_arith [a, b, decide_true, decide_false]
          exact q
      · simp only [a, decide_false, Bool.false_and] at q
        simp_arith [a, decide_false]
        exact q
    · have e : isNetD d = false := by
        unfold isNetD
        split
        · exact absurd ⟨_, _, rfl⟩ z
        · rfl
      rw [e] at q
      simp_arith [pl_top h1]
      by_cases e2 : isTp 2 d = true
      · cases d with
        | tup es =>
          match es, e2, z, h1, q with
          | [x, y], e2, z, h1, q =>
            have px := pl_top (pl_tup h1 x (by simp))
            simp_arith [e2, atI_0, rs_plain px, px, List.mem_cons, String.reduceEq]
            have e3 : isiD "tuple" x = false := by
              cases x with
              | tup rows => exact absurd ⟨_, _, rfl⟩ z
              | _ => first | rfl | exact nomatch px
            simp_arith [e3]
            exact q
          | [], e2, _, _, _ => exact nomatch e2
          | [_], e2, _, _, _ => exact nomatch e2
          | _ :: _ :: _ :: es, e2, _, _, _ => simp only [isTp, decide_eq_true_eq, List.length_cons] at e2; omega
        | _ => exact nomatch e2
      · have e2 : isTp 2 d = false := by simpa using e2
        simp_arith [e2]
        exact q
  · exact h.elim
def γ_many_cells : OL := fun ds S R => ∃ N : Net, ds = [encN N] ∧ R (.int (N.n : Nat)) S
def body_many_cells : ST := sRet (eCall cLen (aCons (eBin oIx (eVar 0) (eC (.int 1))) (aNil)))
theorem law_many_cells : Law 1 γ_many_cells body_many_cells := by
  intro ds S R ⟨N, e, h⟩
  subst e
  unfold body_many_cells encN encRow
  simp_arith [atI_1, List.length_map]
  exact fin_of h

/-! ### states -/
def bit (b : Bool) : Int := if b then 1 else 0
def encB (b : Bool) : D := .int (bit b)
def encS (s : List Bool) : D := .tup (s.map encB)
theorem bit_inj (a b : Bool) : bit a = bit b ↔ a = b := by cases a <;> cases b <;> simp [bit]
theorem encB_inj (a b : Bool) : encB a = encB b ↔ a = b := by
  unfold encB
  rw [D.int.injEq]
  exact bit_inj a b
theorem encS_inj (a b : List Bool) : encS a = encS b ↔ a = b := by
  unfold encS
  rw [D.tup.injEq]
  exact map_inj encB_inj a b
theorem cl_encS (s : List Bool) : cl (encS s) = true := cl_map (fun _ => rfl) s
theorem pl_encS (s : List Bool) : pl 1 (encS s) = true := pl_of_tup fun x hx => by
  obtain ⟨q, _, rfl⟩ := List.mem_map.mp hx
  rfl
theorem eqD_encS (a b : List Bool) : eqD (encS a) (encS b) = decide (a = b) := eqD_dec encS_inj cl_encS a b
def γ_is_cell_by : OL := fun ds S R => ∃ (N : Net) (d : D), ds = [encN N, d] ∧ isPlainTop d = true ∧ R (.bl (isBw 0 ((N.n : Nat) - 1) d)) S
def body_is_cell_by (γ_is_between γ_many_cells : OL) : ST := sRet (eCall γ_is_between (aCons (eVar 1) (aCons (eC (.int 0)) (aCons (eBin oSub (eCall γ_many_cells (aCons (eVar 0) (aNil))) (eC (.int 1))) (aNil)))))
theorem law_is_cell_by : Law 2 γ_is_cell_by (body_is_cell_by γ_is_between γ_many_cells) := by
  intro ds S R ⟨N, d, e, h1, h2⟩
  subst e
  unfold body_is_cell_by γ_many_cells γ_is_between
  simp_arith []
  exact ⟨N, rfl, h1, fin_of h2⟩
/-- numbers of cells; some states -/
def encI (ns : List Nat) : D := .tup (ns.map fun i : Nat => .int (i : Int))
def encSs (ss : List (List Bool)) : D := .tup (ss.map encS)
/-! ### what the readings ask of them -/
section
variable {S : Sto} {N : Net} {ws : List (List Rat)} {r : List Rat} {q : Rat} {b : List Bool} {Z : List D → (Sto → Prop) → Sto → Prop}
theorem rs_N : rs S (encN N) = encN N := rfl
theorem rs_W : rs S (encW ws) = encW ws := rfl
theorem rs_Row : rs S (encRow r) = encRow r := rfl
theorem rs_R : rs S (encR q) = encR q := rfl
theorem rs_S : rs S (encS b) = encS b := rfl
theorem rs_B {x : Bool} : rs S (encB x) = encB x := rfl
theorem it_N : itemsOf (encN N) = some [encW N.ws, encRow N.ms] := rfl
theorem it_W : itemsOf (encW ws) = some (ws.map encRow) := rfl
theorem it_Row : itemsOf (encRow r) = some (r.map encR) := rfl
theorem it_R : itemsOf (encR q) = some [.int q.num, .int q.den] := rfl
theorem it_S : itemsOf (encS b) = some (b.map encB) := rfl
theorem sq_W : seqG S Z (encW ws) = Z (ws.map encRow) (fun _ => True) S := rfl
theorem sq_Row : seqG S Z (encRow r) = Z (r.map encR) (fun _ => True) S := rfl
theorem sq_S : seqG S Z (encS b) = Z (b.map encB) (fun _ => True) S := rfl
theorem rs_I {ns : List Nat} : rs S (encI ns) = encI ns := rfl
theorem it_I {ns : List Nat} : itemsOf (encI ns) = some (ns.map fun i : Nat => .int (i : Int)) := rfl
theorem sq_I {ns : List Nat} : seqG S Z (encI ns) = Z (ns.map fun i : Nat => .int (i : Int)) (fun _ => True) S := rfl
theorem td_I {ns : List Nat} : isTupD (encI ns) = true := rfl
theorem rs_Ss {ns : List (List Bool)} : rs S (encSs ns) = encSs ns := rfl
theorem it_Ss {ns : List (List Bool)} : itemsOf (encSs ns) = some (ns.map encS) := rfl
theorem sq_Ss {ns : List (List Bool)} : seqG S Z (encSs ns) = Z (ns.map encS) (fun _ => True) S := rfl
theorem td_Ss {ns : List (List Bool)} : isTupD (encSs ns) = true := rfl
theorem td_N : isTupD (encN N) = true := rfl
theorem td_W : isTupD (encW ws) = true := rfl
theorem td_Row : isTupD (encRow r) = true := rfl
theorem td_S : isTupD (encS b) = true := rfl
end
section
variable {S : Sto} {R : QD} {lo hi : Option Int}
theorem cu_S {s : List Bool} : oCut lo hi S R (encS s) = R (.tup (cutD (s.map encB) lo hi)) S := rfl
theorem cu_W {s : List (List Rat)} : oCut lo hi S R (encW s) = R (.tup (cutD (s.map encRow) lo hi)) S := rfl
theorem cu_Row {s : List Rat} : oCut lo hi S R (encRow s) = R (.tup (cutD (s.map encR) lo hi)) S := rfl
end
end Gx

/-! Gx, data side 6: what a cell hears, what the cells want. -/
namespace Gx
open PySem L2
local macro_rules | `(tactic| simp_arith [$xs,*]) => `(tactic| try simp only [eVar, eC, eBin, eUn, tBl, tAnd', tOr', tNot', eAnd, eOr, eNot, eIf, aNil, aCons, eTup, eLst, eLstM, eCall, eCallK, pick, sNext, sSeq, sBreak, sCont, sDrop, sRet, sRetN, sIf, sNever, gNm, gsNil, gsCons, gTupl, gSubs, sAsg, sPar, sPar3, sFor, iSeq, seqG_tup, seqG_lst, seqG_scr, iRange1, iRange2, iEnumG, iZipG, td_tup, td_lst, td_scr, eLc, eLcM, tYes', pNone, pSome, eSl, cu_tup, cu_lst, cu_scr, eMt, eMt0, mAppend, isL, rs_non, rs_bl, rs_int, rs_str, rs_tup, rs_lst', rs_scr, itemsOf_tup, itemsOf_lst, itemsOf_scr, oI, oI0, oSub, oFdiv, oMod, oPow, oShl, oShr, oAnd, oOr, oXor, oLt, oLe, oGt, oGe, oNeg, oIsN, oNotN, Gx.isNon, oAdd, oAdd', oMul, oMul', oMulM, oEq, oNe, oEqS, oNeS, oIn, oNin, eChain, oIx, oSet, cLen, cList, cListM, cTuple, cSum, cAll, cAny, cInt, cAbs, cMax2, cMin2, cDivmod, cGcd, cIsi, cRepr, lstInts, lstBls, startD, wipeD, List.map_cons, List.map_nil, List.length_cons, List.length_nil, List.cons_append, List.nil_append, List.replicate_succ, List.replicate_zero, List.set_cons_succ, List.set_cons_zero, List.getElem?_cons_succ, List.getElem?_cons_zero, List.filterMap_cons_some, List.filterMap_nil, Nat.reduceAdd, Nat.reduceSub, Nat.sub_self, Nat.reduceLT, Nat.reduceMul, Nat.zero_add, Nat.add_zero, if_true, if_false, and_true, true_and, and_false, false_and, or_true, true_or, or_false, false_or, not_true_eq_false, not_false_eq_true, Bool.not_true, Bool.not_false, Bool.false_eq_true, ite_true, ite_false, reduceIte, reduceCtorEq, eq_self, $xs,*])
local macro_rules | `(tactic| simp_arith! [$xs,*]) => `(tactic| try simp only [eVar, eC, eBin, eUn, tBl, tAnd', tOr', tNot', eAnd, eOr, eNot, eIf, aNil, aCons, eTup, eLst, eLstM, eCall, eCallK, pick, sNext, sSeq, sBreak, sCont, sDrop, sRet, sRetN, sIf, sNever, gNm, gsNil, gsCons, gTupl, gSubs, sAsg, sPar, sPar3, sFor, iSeq, seqG_tup, seqG_lst, seqG_scr, iRange1, iRange2, iEnumG, iZipG, td_tup, td_lst, td_scr, eLc, eLcM, tYes', pNone, pSome, eSl, cu_tup, cu_lst, cu_scr, eMt, eMt0, mAppend, isL, rs_non, rs_bl, rs_int, rs_str, rs_tup, rs_lst', rs_scr, itemsOf_tup, itemsOf_lst, itemsOf_scr, oI, oI0, oSub, oFdiv, oMod, oPow, oShl, oShr, oAnd, oOr, oXor, oLt, oLe, oGt, oGe, oNeg, oIsN, oNotN, Gx.isNon, oAdd, oAdd', oMul, oMul', oMulM, oEq, oNe, oEqS, oNeS, oIn, oNin, eChain, oIx, oSet, cLen, cList, cListM, cTuple, cSum, cAll, cAny, cInt, cAbs, cMax2, cMin2, cDivmod, cGcd, cIsi, cRepr, lstInts, lstBls, startD, wipeD, List.map_cons, List.map_nil, List.length_cons, List.length_nil, List.cons_append, List.nil_append, List.replicate_succ, List.replicate_zero, List.set_cons_succ, List.set_cons_zero, List.getElem?_cons_succ, List.getElem?_cons_zero, List.filterMap_cons_some, List.filterMap_nil, Nat.reduceAdd, Nat.reduceSub, Nat.sub_self, Nat.reduceLT, Nat.reduceMul, Nat.zero_add, Nat.add_zero, if_true, if_false, and_true, true_and, and_false, false_and, or_true, true_or, or_false, false_or, not_true_eq_false, not_false_eq_true, Bool.not_true, Bool.not_false, Bool.false_eq_true, ite_true, ite_false, reduceIte, reduceCtorEq, eq_self, rs_N, rs_W, rs_Row, rs_S, rs_R, rs_B, it_N, it_W, it_Row, it_S, it_R, sq_W, sq_Row, sq_S, td_N, td_W, td_Row, td_S, rs_I, it_I, sq_I, td_I, rs_Ss, it_Ss, sq_Ss, td_Ss, cu_S, cu_W, cu_Row, atI_0, atI_1, $xs,*])

/-! ### states by their numbers -/
def stateOf (n k : Nat) : List Bool := (List.range n).map fun i => k.testBit i
theorem stateOf_length (n k : Nat) : (stateOf n k).length = n := by unfold stateOf; simp
def allS (n : Nat) : List (List Bool) := (List.range (2 ^ n)).map (stateOf n)
theorem bit_testBit (k i : Nat) : (k : Int) / 2 ^ i % 2 = bit (k.testBit i) := by
  have h : k.testBit i = decide (k / 2 ^ i % 2 = 1) := Nat.testBit_eq_decide_div_mod_eq
  have e : (k : Int) / 2 ^ i % 2 = ((k / 2 ^ i % 2 : Nat) : Int) := by
    rw [Int.natCast_emod, Int.natCast_ediv, ← PySem.W.kbt_cast]; rfl
  rw [e, h]
  rcases Nat.mod_two_eq_zero_or_one (k / 2 ^ i) with z | z <;> rw [z] <;> rfl
theorem encS_of (n k : Nat) : encS (stateOf n k) = .tup ((List.range n).map fun i => encB (k.testBit i)) := by
  unfold encS stateOf
  rw [List.map_map]; rfl
def γ_state_by : OL := fun ds S R => ∃ n k : Nat, ds = [.int n, .int k] ∧ n ≤ 1000 ∧ R (encS (stateOf n k)) S
def body_state_by : ST := sRet (eCall cTuple (aCons (eLc (iRange1 (aCons (eVar 0) (aNil))) (gNm 2) (tYes') (eBin oAnd (eBin oShr (eVar 1) (eVar 2)) (eC (.int 1))) [2]) (aNil)))
theorem law_state_by : Law 3 γ_state_by body_state_by := by
  intro ds S R ⟨n, k, e, hn, h⟩
  subst e
  have q := fin_of h
  unfold body_state_by
  simp_arith []
  refine ⟨⟨by omega, by omega⟩, ?_⟩
  rw [Int.toNat_natCast]
  refine rng_map (fun i => encB (k.testBit i)) n (fun i hi Q hq => ?_) trivial (sz1000 hn) ?_
  · have e : Builtin.bitAnd ((k : Int) / 2 ^ i) 1 = bit (k.testBit i) := by rw [PyProof.Rows.bitAnd_m1, bit_testBit]
    simp_arith [wipeD, Int.toNat_natCast, e]
    exact ⟨by omega, hq⟩
  · rw [encS_of] at q
    exact q
theorem pow8 {n : Nat} (h : n ≤ 8) : 2 ^ n ≤ 256 := Nat.pow_le_pow_right (by decide) h
theorem shl_one {n : Nat} : (1 : Int) * 2 ^ ((n : Int).toNat) = ((2 ^ n : Nat) : Int) := by rw [Int.toNat_natCast, Int.one_mul, PySem.W.kbt_cast]
/-! ### what a cell hears -/
def pickW (ws : List Rat) (s : List Bool) : List Rat := ((List.zip ws s).filter (·.2)).map (·.1)
def hear (N : Net) (i : Nat) (s : List Bool) : Rat := sumR (pickW (wrow N i) s)
/-- few figures -/
def SmB (A b : Nat) (N : Net) : Prop := (∀ r ∈ N.ws, ∀ q ∈ r, Bd A b q) ∧ ∀ q ∈ N.ms, Bd A b q
abbrev Sm (N : Net) : Prop := SmB (2 ^ 50000) 200 N
theorem SmB.mono {A b B c : Nat} {N : Net} (h : SmB A b N) (h1 : A ≤ B) (h2 : b ≤ c) : SmB B c N := ⟨fun r hr q hq => (h.1 r hr q hq).mono h1 h2, fun q hq => (h.2 q hq).mono h1 h2⟩
theorem SmB.sm {a b : Nat} {N : Net} (h : SmB (2 ^ a) b N) (h1 : a ≤ 50000 := by decide) (h2 : b ≤ 200 := by decide) : Sm N := h.mono (pow2_le h1) h2
theorem pickW_mem {ws : List Rat} {s : List Bool} {q : Rat} (h : q ∈ pickW ws s) : q ∈ ws := by
  unfold pickW at h
  obtain ⟨p, hp, rfl⟩ := List.mem_map.mp h
  exact (List.of_mem_zip (List.mem_filter.mp hp).1).1
theorem pickW_length {ws : List Rat} {s : List Bool} : (pickW ws s).length ≤ ws.length := by
  unfold pickW
  rw [List.length_map]
  refine Nat.le_trans (List.length_filter_le _ _) ?_
  rw [List.length_zip]
  exact Nat.min_le_left _ _
theorem wrow_mem {N : Net} {i : Nat} (h : i < N.ws.length) : wrow N i ∈ N.ws := by
  unfold wrow
  rw [List.getD_eq_getElem?_getD, List.getElem?_eq_getElem h]
  exact List.getElem_mem h
theorem mk_mem {N : Net} {i : Nat} (h : i < N.n) : mk' N i ∈ N.ms := by
  unfold mk'
  rw [List.getD_eq_getElem?_getD, List.getElem?_eq_getElem h]
  exact List.getElem_mem h
theorem Net.Ok.wrow {N : Net} (h : N.Ok) {i : Nat} (hi : i < N.n) : (wrow N i).length = N.n := h.row _ (wrow_mem (by rw [h.sq]; exact hi))
theorem hear_bd {A b : Nat} {N : Net} (h : N.Ok) (sm : SmB A b N) {i : Nat} (hi : i < N.n) (s : List Bool) : Bd (8 * A) (8 * b + 1) (hear N i s) := by
  have hl : (pickW (wrow N i) s).length ≤ 8 := Nat.le_trans pickW_length (by rw [h.wrow hi]; exact h.few)
  have hb := bd_sum (qs := pickW (wrow N i) s) (A := A) (b := b) fun q hq => sm.1 _ (wrow_mem (by rw [h.sq]; exact hi)) q (pickW_mem hq)
  exact hb.mono (Nat.mul_le_mul_right _ hl) (Nat.add_le_add_right (Nat.mul_le_mul_right _ hl) 1)
theorem eight_pow {a : Nat} : 8 * 2 ^ a < 2 ^ (a + 4) := by
  rw [Nat.pow_add]
  have := Nat.two_pow_pos a
  omega
theorem hear_big {N : Net} (h : N.Ok) (sm : Sm N) {i : Nat} (hi : i < N.n) (s : List Bool) : Big (hear N i s) := (hear_bd h sm hi s).big (a := 50004) eight_pow
theorem mk_big {N : Net} (sm : Sm N) {i : Nat} (hi : i < N.n) : Big (mk' N i) := (sm.2 _ (mk_mem hi)).big (a := 50001) (Nat.pow_lt_pow_right (by decide) (by decide))
def γ_heard_by : OL := fun ds S R => ∃ (N : Net) (i : Nat) (s : List Bool), ds = [encN N, .int i, encS s] ∧ (N.Ok ∧ Sm N ∧ i < N.n ∧ s.length = N.n) ∧ R (encR (hear N i s)) S
def body_heard_by (γ_total : OL) : ST := sRet (eCall γ_total (aCons (eLc (iZipG (aCons (eBin oIx (eBin oIx (eVar 0) (eC (.int 0))) (eVar 1)) (aCons (eVar 2) (aNil)))) (gTupl 2 (gsCons (gNm 3) (gsCons (gNm 4) (gsNil)))) (tBl (eBin oEq (eVar 4) (eC (.int 1)))) (eVar 3) [3, 4]) (aNil)))
theorem eqD_bit (b : Bool) : eqD (.int (bit b)) (.int 1) = b := by cases b <;> rfl
theorem ix_row {N : Net} (h : N.Ok) {i : Nat} (hi : i < N.n) : L2.atI (N.ws.map encRow) (i : Int) = some (encRow (wrow N i)) := atI_mapD [] (by rw [h.sq]; exact hi)
theorem ix_mark {N : Net} {i : Nat} (hi : i < N.n) : L2.atI (N.ms.map encR) (i : Int) = some (encR (mk' N i)) := atI_mapD 0 hi
theorem law_heard_by : Law 5 γ_heard_by (body_heard_by γ_total) := by
  intro ds S R ⟨N, i, s, e, ⟨ok, sm, hi, hs⟩, h⟩
  subst e
  have q := fin_of h
  have g1 := ix_row ok hi
  have hw := ok.wrow hi
  have h8 := ok.few
  unfold body_heard_by γ_total
  simp_arith! [g1, zipD_map]
  refine lc_filter (fun p : Rat × Bool => .tup [encR p.1, encB p.2]) (fun p => p.2) (fun p => encR p.1) (List.zip (wrow N i) s) [] (fun x hx Y M hy hn => ?_) trivial (sz1000 (by rw [List.length_zip, List.length_nil]; omega)) ?_
  · simp_arith [wipeD, encB, pl_int, eqD_bit]
    split
    · rename_i z; exact hy z
    · rename_i z; exact hn (by simpa using z)
  · refine ⟨pickW (wrow N i) s, ?_, ⟨?_, fun q hq => ?_⟩, q⟩
    · unfold pickW
      rw [List.map_map]; rfl
    · have := pickW_length (ws := wrow N i) (s := s)
      omega
    · exact (sm.1 _ (wrow_mem (by rw [ok.sq]; exact hi)) q (pickW_mem hq)).mono (Nat.pow_le_pow_right (by decide) (by decide)) (by decide)

/-! ### what the cells want -/
def wants (N : Net) (s : List Bool) : List Bool := (List.range N.n).map fun i => decide (mk' N i < hear N i s)
theorem wants_length (N : Net) (s : List Bool) : (wants N s).length = N.n := by unfold wants; simp
def γ_wanted_by : OL := fun ds S R => ∃ (N : Net) (s : List Bool), ds = [encN N, encS s] ∧ (N.Ok ∧ Sm N ∧ s.length = N.n) ∧ R (encS (wants N s)) S
def body_wanted_by (γ_many_cells γ_is_less γ_heard_by : OL) : ST := sRet (eCall cTuple (aCons (eLc (iRange1 (aCons (eCall γ_many_cells (aCons (eVar 0) (aNil))) (aNil))) (gNm 2) (tYes') (eIf (tBl (eCall γ_is_less (aCons (eBin oIx (eBin oIx (eVar 0) (eC (.int 1))) (eVar 2)) (aCons (eCall γ_heard_by (aCons (eVar 0) (aCons (eVar 2) (aCons (eVar 1) (aNil))))) (aNil))))) (eC (.int 1)) (eC (.int 0))) [2]) (aNil)))
theorem law_wanted_by : Law 3 γ_wanted_by (body_wanted_by γ_many_cells γ_is_less γ_heard_by) := by
  intro ds S R ⟨N, s, e, ⟨ok, sm, hs⟩, h⟩
  subst e
  have q := fin_of h
  have h8 := ok.few
  unfold body_wanted_by γ_many_cells γ_is_less γ_heard_by
  simp_arith []
  refine ⟨N, rfl, ⟨by omega, by omega⟩, ?_⟩
  rw [Int.toNat_natCast]
  refine rng_map (fun i => encB (decide (mk' N i < hear N i s))) _ (fun i hi Q hq => ?_) trivial (sz1000 (by omega)) ?_
  · have g := ix_mark hi
    simp_arith! [wipeD, g]
    refine ⟨N, i, s, rfl, ⟨ok, sm, hi, hs⟩, _, _, rfl, ⟨mk_big sm hi, hear_big ok sm hi s⟩, ?_⟩
    unfold encB bit at hq
    split
    · rename_i z; rw [z] at hq; exact hq
    · rename_i z
      have z : decide (mk' N i < hear N i s) = false := by simpa using z
      rw [z] at hq; exact hq
  · unfold encS wants at q
    rw [List.map_map] at q
    exact q
end Gx

/-! Gx, data side 7: movers, moves, rests. -/
namespace Gx
open PySem L2
local macro_rules | `(tactic| simp_arith [$xs,*]) => `(tactic| try simp only [eVar, eC, eBin, eUn, tBl, tAnd', tOr', tNot', eAnd, eOr, eNot, eIf, aNil, aCons, eTup, eLst, eLstM, eCall, eCallK, pick, sNext, sSeq, sBreak, sCont, sDrop, sRet, sRetN, sIf, sNever, gNm, gsNil, gsCons, gTupl, gSubs, sAsg, sPar, sPar3, sFor, iSeq, seqG_tup, seqG_lst, seqG_scr, iRange1, iRange2, iEnumG, iZipG, td_tup, td_lst, td_scr, eLc, eLcM, tYes', pNone, pSome, eSl, cu_tup, cu_lst, cu_scr, eMt, eMt0, mAppend, isL, rs_non, rs_bl, rs_int, rs_str, rs_tup, rs_lst', rs_scr, itemsOf_tup, itemsOf_lst, itemsOf_scr, oI, oI0, oSub, oFdiv, oMod, oPow, oShl, oShr, oAnd, oOr, oXor, oLt, oLe, oGt, oGe, oNeg, oIsN, oNotN, Gx.isNon, oAdd, oAdd', oMul, oMul', oMulM, oEq, oNe, oEqS, oNeS, oIn, oNin, eChain, oIx, oSet, cLen, cList, cListM, cTuple, cSum, cAll, cAny, cInt, cAbs, cMax2, cMin2, cDivmod, cGcd, cIsi, cRepr, lstInts, lstBls, startD, wipeD, List.map_cons, List.map_nil, List.length_cons, List.length_nil, List.cons_append, List.nil_append, List.replicate_succ, List.replicate_zero, List.set_cons_succ, List.set_cons_zero, List.getElem?_cons_succ, List.getElem?_cons_zero, List.filterMap_cons_some, List.filterMap_nil, Nat.reduceAdd, Nat.reduceSub, Nat.sub_self, Nat.reduceLT, Nat.reduceMul, Nat.zero_add, Nat.add_zero, if_true, if_false, and_true, true_and, and_false, false_and, or_true, true_or, or_false, false_or, not_true_eq_false, not_false_eq_true, Bool.not_true, Bool.not_false, Bool.false_eq_true, ite_true, ite_false, reduceIte, reduceCtorEq, eq_self, $xs,*])
local macro_rules | `(tactic| simp_arith! [$xs,*]) => `(tactic| try simp only [eVar, eC, eBin, eUn, tBl, tAnd', tOr', tNot', eAnd, eOr, eNot, eIf, aNil, aCons, eTup, eLst, eLstM, eCall, eCallK, pick, sNext, sSeq, sBreak, sCont, sDrop, sRet, sRetN, sIf, sNever, gNm, gsNil, gsCons, gTupl, gSubs, sAsg, sPar, sPar3, sFor, iSeq, seqG_tup, seqG_lst, seqG_scr, iRange1, iRange2, iEnumG, iZipG, td_tup, td_lst, td_scr, eLc, eLcM, tYes', pNone, pSome, eSl, cu_tup, cu_lst, cu_scr, eMt, eMt0, mAppend, isL, rs_non, rs_bl, rs_int, rs_str, rs_tup, rs_lst', rs_scr, itemsOf_tup, itemsOf_lst, itemsOf_scr, oI, oI0, oSub, oFdiv, oMod, oPow, oShl, oShr, oAnd, oOr, oXor, oLt, oLe, oGt, oGe, oNeg, oIsN, oNotN, Gx.isNon, oAdd, oAdd', oMul, oMul', oMulM, oEq, oNe, oEqS, oNeS, oIn, oNin, eChain, oIx, oSet, cLen, cList, cListM, cTuple, cSum, cAll, cAny, cInt, cAbs, cMax2, cMin2, cDivmod, cGcd, cIsi, cRepr, lstInts, lstBls, startD, wipeD, List.map_cons, List.map_nil, List.length_cons, List.length_nil, List.cons_append, List.nil_append, List.replicate_succ, List.replicate_zero, List.set_cons_succ, List.set_cons_zero, List.getElem?_cons_succ, List.getElem?_cons_zero, List.filterMap_cons_some, List.filterMap_nil, Nat.reduceAdd, Nat.reduceSub, Nat.sub_self, Nat.reduceLT, Nat.reduceMul, Nat.zero_add, Nat.add_zero, if_true, if_false, and_true, true_and, and_false, false_and, or_true, true_or, or_false, false_or, not_true_eq_false, not_false_eq_true, Bool.not_true, Bool.not_false, Bool.false_eq_true, ite_true, ite_false, reduceIte, reduceCtorEq, eq_self, rs_N, rs_W, rs_Row, rs_S, rs_R, rs_B, it_N, it_W, it_Row, it_S, it_R, sq_W, sq_Row, sq_S, td_N, td_W, td_Row, td_S, rs_I, it_I, sq_I, td_I, rs_Ss, it_Ss, sq_Ss, td_Ss, cu_S, cu_W, cu_Row, atI_0, atI_1, $xs,*])

/-! ### slices -/
/-! ### movers -/
def movers (N : Net) (s : List Bool) : List Nat := (List.range N.n).filter fun i => (wants N s).getD i false != s.getD i false
theorem pl_encI (s : List Nat) : pl 1 (encI s) = true := pl_of_tup fun x hx => by
  obtain ⟨q, _, rfl⟩ := List.mem_map.mp hx
  rfl
theorem getD_eq {α : Type} {xs : List α} {i : Nat} {d : α} (h : i < xs.length) : xs.getD i d = xs[i] := by
  rw [List.getD_eq_getElem?_getD, List.getElem?_eq_getElem h]; rfl
abbrev NS (N : Net) (s : List Bool) : Prop := N.Ok ∧ Sm N ∧ s.length = N.n
def γ_movers_by : OL := fun ds S R => ∃ (N : Net) (s : List Bool), ds = [encN N, encS s] ∧ NS N s ∧ R (encI (movers N s)) S
/-! ### moves -/
def flip (s : List Bool) (i : Nat) : List Bool := s.set i (!s.getD i false)
theorem flip_length (s : List Bool) (i : Nat) : (flip s i).length = s.length := List.length_set
/-! ### rests -/
def rest (N : Net) (s : List Bool) : Bool := decide (wants N s = s)
theorem pl_encS' (s : List Bool) : pl 60 (encS s) = true := pl_mono (pl_encS s) (by decide)
def rests (N : Net) : List (List Bool) := (allS N.n).filter (rest N)
/-! ### what is asked of arguments -/
def γ_check_net : OL := fun ds S R => ∃ (N : Net), ds = [encN N] ∧ N.Ok ∧ R .non S
def body_check_net (γ_is_net_by : OL) : ST := sIf (tNot' (tBl (eCall γ_is_net_by (aCons (eVar 0) (aNil))))) (sNever) (sNext)
theorem pl_encN' (N : Net) : pl 60 (encN N) = true := pl_mono (pl_encN N) (by decide)
theorem law_check_net : Law 1 γ_check_net (body_check_net γ_is_net_by) := by
  intro ds S R ⟨N, e, ok, h⟩
  subst e
  have q := fin_of h
  unfold body_check_net γ_is_net_by
  simp_arith [isNet_enc ok, pl_encN']
  exact q
theorem isBw_nat {i n : Nat} (h : i < n) : isBw 0 ((n : Int) - 1) (.int i) = true := by
  show (decide ((0 : Int) ≤ (i : Int)) && decide ((i : Int) ≤ (n : Int) - 1)) = true
  rw [decide_eq_true (by omega), decide_eq_true (by omega)]; rfl
/-! ### the functions -/
theorem inD_map {α : Type} [DecidableEq α] {f : α → D} (h : ∀ x y, eqD (f x) (f y) = decide (x = y)) (x : α) (xs : List α) : inD (f x) (xs.map f) = decide (x ∈ xs) := by
  unfold inD
  rw [List.any_map]
  have : ((fun e => eqD e (f x)) ∘ f) = fun y => decide (y = x) := by funext y; exact h y x
  rw [this, Bool.eq_iff_iff, List.any_eq_true, decide_eq_true_eq]
  constructor
  · rintro ⟨y, hy, e⟩
    rw [decide_eq_true_eq] at e
    subst e; exact hy
  · exact fun hx => ⟨x, hx, decide_eq_true rfl⟩
theorem eqD_nat (a b : Nat) : eqD (.int a) (.int b) = decide (a = b) := eqD_dec (f := fun i : Nat => D.int (i : Int)) (fun x y => by rw [D.int.injEq]; omega) (fun _ => rfl) a b
end Gx

/-! Gx, data side 8: drawn nets. -/
namespace Gx
open PySem L2
local macro_rules | `(tactic| simp_arith [$xs,*]) => `(tactic| try simp only [eVar, eC, eBin, eUn, tBl, tAnd', tOr', tNot', eAnd, eOr, eNot, eIf, aNil, aCons, eTup, eLst, eLstM, eCall, eCallK, pick, sNext, sSeq, sBreak, sCont, sDrop, sRet, sRetN, sIf, sNever, gNm, gsNil, gsCons, gTupl, gSubs, sAsg, sPar, sPar3, sFor, iSeq, seqG_tup, seqG_lst, seqG_scr, iRange1, iRange2, iEnumG, iZipG, td_tup, td_lst, td_scr, eLc, eLcM, tYes', pNone, pSome, eSl, cu_tup, cu_lst, cu_scr, eMt, eMt0, mAppend, isL, rs_non, rs_bl, rs_int, rs_str, rs_tup, rs_lst', rs_scr, itemsOf_tup, itemsOf_lst, itemsOf_scr, oI, oI0, oSub, oFdiv, oMod, oPow, oShl, oShr, oAnd, oOr, oXor, oLt, oLe, oGt, oGe, oNeg, oIsN, oNotN, Gx.isNon, oAdd, oAdd', oMul, oMul', oMulM, oEq, oNe, oEqS, oNeS, oIn, oNin, eChain, oIx, oSet, cLen, cList, cListM, cTuple, cSum, cAll, cAny, cInt, cAbs, cMax2, cMin2, cDivmod, cGcd, cIsi, cRepr, lstInts, lstBls, startD, wipeD, List.map_cons, List.map_nil, List.length_cons, List.length_nil, List.cons_append, List.nil_append, List.replicate_succ, List.replicate_zero, List.set_cons_succ, List.set_cons_zero, List.getElem?_cons_succ, List.getElem?_cons_zero, List.filterMap_cons_some, List.filterMap_nil, Nat.reduceAdd, Nat.reduceSub, Nat.sub_self, Nat.reduceLT, Nat.reduceMul, Nat.zero_add, Nat.add_zero, if_true, if_false, and_true, true_and, and_false, false_and, or_true, true_or, or_false, false_or, not_true_eq_false, not_false_eq_true, Bool.not_true, Bool.not_false, Bool.false_eq_true, ite_true, ite_false, reduceIte, reduceCtorEq, eq_self, $xs,*])

/-! ### the store while a def draws -/
/-- what was there is there yet, the well at p drawn from -/
structure Ext (p : Addr) (S0 S : Sto) : Prop where
  of : ∀ b o, b ≠ p → S0 b = some o → S b = some o
  well : Well p S
/-- a list of the def's own -/
def Own (p : Addr) (S0 : Sto) (q : Addr) : Prop := S0 q = none ∧ q ≠ p
section
variable {p q : Addr} {S0 S S' : Sto} {o : SO}
theorem Ext.refl (h : Well p S) : Ext p S S := ⟨fun _ _ _ h => h, h⟩
theorem Ext.drw (e : Ext p S0 S) (d : Drw p S S') : Ext p S0 S' := ⟨fun b o h1 h2 => by rw [d.but b h1]; exact e.of b o h1 h2, d.well⟩
theorem Well.up {S : Sto} (h : Well p S) (hq : q ≠ p) : Well p (up S q o) := by
  obtain ⟨a, m, c, e⟩ := h
  exact ⟨a, m, c, by rw [up_ne (Ne.symm hq)]; exact e⟩
theorem Ext.set (e : Ext p S0 S) (h : Own p S0 q) : Ext p S0 (up S q o) := ⟨fun b o' h1 h2 => by
  have : b ≠ q := fun z => by rw [z, h.1] at h2; cases h2
  rw [up_ne this]; exact e.of b o' h1 h2, e.well.up h.2⟩
theorem Well.ne {S : Sto} (h : Well p S) (hq : S q = none) : q ≠ p := fun z => by
  obtain ⟨a, m, c, e⟩ := h
  rw [z, e] at hq; cases hq
theorem Ext.own (e : Ext p S0 S) (h : S q = none) : Own p S0 q := by
  have hp := e.well.ne h
  refine ⟨?_, hp⟩
  cases z : S0 q with
  | none => rfl
  | some o => rw [e.of q o hp z] at h; cases h
theorem Ext.new (e : Ext p S0 S) (h : S q = none) : Ext p S0 (up S q o) := e.set (e.own h)
theorem Ext.fin {R : QD} {d : D} (e : Ext p S0 S) (h : ∀ S', Drw p S0 S' → R d S') : Fin R d S := by
  refine ⟨fun b => if b = p then S p else S0 b, d, fun b o hb => ?_, .same d, h _ ⟨fun b hb => if_neg hb, ?_⟩⟩
  · by_cases z : b = p
    · subst z
      simpa using hb
    · simp only [if_neg z] at hb
      exact e.of b o z hb
  · obtain ⟨a, m, c, h⟩ := e.well
    exact ⟨a, m, c, by simpa using h⟩
theorem Drw.at (d : Drw p S S') (h : q ≠ p) : S' q = S q := d.but q h
end
/-- one statement at a time -/
theorem seqK {a b : ST} {G : EndG} {τ : Tau} {S : Sto} (h : ∀ k, k = b G → a { G with nx := k } τ S) : sSeq a b G τ S := h _ rfl
/-! ### tuples of constants -/
abbrev Kc (e : ET) (d : D) : Prop := ∀ (τ : Tau) (S : Sto) (Q : QD), Q d S → e τ S Q
abbrev KcA (u : AT) (ds : List D) : Prop := ∀ (τ : Tau) (S : Sto) (Q : List D → Sto → Prop), Q ds S → u τ S Q
theorem kc_c (d : D) : Kc (eC d) d := fun _ _ _ h => h
theorem kc_neg (i : Int) : Kc (eUn oNeg (eC (.int i))) (.int (-i)) := fun τ S Q h => by
  simp_arith []
  exact h
theorem kca_nil : KcA aNil [] := fun _ _ _ h => h
theorem kca_cons {e : ET} {u : AT} {d : D} {ds : List D} (h1 : Kc e d) (h2 : KcA u ds) : KcA (aCons e u) (d :: ds) := fun τ S Q h => h1 _ _ _ (h2 _ _ _ h)
theorem kc_tup {u : AT} {ds : List D} (h : KcA u ds) (hl : ds.length ≤ sizeLine := by decide) : Kc (eTup u) (.tup ds) := fun τ S Q q => h _ _ _ ⟨hl, q⟩
/-! ### drawn fractions -/
def bdD (A b : Nat) : D → Bool
  | .tup [.int n, .int m] => isFr (.tup [.int n, .int m]) && decide (n.natAbs ≤ A * m.natAbs) && decide (m.natAbs < 2 ^ b)
  | _ => false
theorem bdD_of {A b : Nat} {d : D} (h : bdD A b d = true) : ∃ q, d = encR q ∧ Bd A b q := by
  unfold bdD at h
  split at h
  · rename_i n m
    simp only [Bool.and_eq_true, decide_eq_true_eq] at h
    obtain ⟨⟨h1, h2⟩, h3⟩ := h
    obtain ⟨q, e⟩ := isFr_of h1
    refine ⟨q, e, ?_⟩
    simp only [encR, D.tup.injEq, List.cons.injEq, D.int.injEq, and_true] at e
    rw [e.1, e.2, Int.natAbs_natCast] at h2
    rw [e.2, Int.natAbs_natCast] at h3
    exact ⟨h2, h3⟩
  · cases h
def half : Rat := ⟨1, 2, by decide, by decide⟩
/-! ### drawn nets -/
/-- the weights of one size, the marks of another one -/
structure Drn (P M : Rat → Prop) (N : Net) : Prop where
  w : ∀ r ∈ N.ws, ∀ q ∈ r, P q
  m : ∀ q ∈ N.ms, M q
/-- the rows that stand so far -/
structure NetAt (P M : Rat → Prop) (p p3 p4 : Addr) (n i : Nat) (S0 S : Sto) (ws : List (List Rat)) (ms : List Rat) : Prop where
  ext : Ext p S0 S
  rows : S p3 = some (.lst (ws.map encRow))
  marks : S p4 = some (.lst (ms.map encR))
  lw : ws.length = i
  lm : ms.length = i
  lr : ∀ r ∈ ws, r.length = n
  hp : ∀ r ∈ ws, ∀ q ∈ r, P q
  hm : ∀ q ∈ ms, M q
  dia : ∀ j, j < i → (ws.getD j []).getD j 0 = 0
theorem getD_snoc {α : Type} {xs : List α} {x d : α} {i j : Nat} (hl : xs.length = i) (hj : j < i + 1) : (xs ++ [x]).getD j d = if j < i then xs.getD j d else x := by
  rw [List.getD_eq_getElem?_getD, List.getD_eq_getElem?_getD]
  split
  · rw [List.getElem?_append_left (by omega)]
  · have : j = i := by omega
    subst this
    rw [List.getElem?_append_right (by omega), hl, Nat.sub_self]; rfl
end Gx

/-! Gx, data side 9: nets with scales. -/
namespace Gx
open PySem L2
local macro_rules | `(tactic| simp_arith [$xs,*]) => `(tactic| try simp only [eVar, eC, eBin, eUn, tBl, tAnd', tOr', tNot', eAnd, eOr, eNot, eIf, aNil, aCons, eTup, eLst, eLstM, eCall, eCallK, pick, sNext, sSeq, sBreak, sCont, sDrop, sRet, sRetN, sIf, sNever, gNm, gsNil, gsCons, gTupl, gSubs, sAsg, sPar, sPar3, sFor, iSeq, seqG_tup, seqG_lst, seqG_scr, iRange1, iRange2, iEnumG, iZipG, td_tup, td_lst, td_scr, eLc, eLcM, tYes', pNone, pSome, eSl, cu_tup, cu_lst, cu_scr, eMt, eMt0, mAppend, isL, rs_non, rs_bl, rs_int, rs_str, rs_tup, rs_lst', rs_scr, itemsOf_tup, itemsOf_lst, itemsOf_scr, oI, oI0, oSub, oFdiv, oMod, oPow, oShl, oShr, oAnd, oOr, oXor, oLt, oLe, oGt, oGe, oNeg, oIsN, oNotN, Gx.isNon, oAdd, oAdd', oMul, oMul', oMulM, oEq, oNe, oEqS, oNeS, oIn, oNin, eChain, oIx, oSet, cLen, cList, cListM, cTuple, cSum, cAll, cAny, cInt, cAbs, cMax2, cMin2, cDivmod, cGcd, cIsi, cRepr, lstInts, lstBls, startD, wipeD, List.map_cons, List.map_nil, List.length_cons, List.length_nil, List.cons_append, List.nil_append, List.replicate_succ, List.replicate_zero, List.set_cons_succ, List.set_cons_zero, List.getElem?_cons_succ, List.getElem?_cons_zero, List.filterMap_cons_some, List.filterMap_nil, Nat.reduceAdd, Nat.reduceSub, Nat.sub_self, Nat.reduceLT, Nat.reduceMul, Nat.zero_add, Nat.add_zero, if_true, if_false, and_true, true_and, and_false, false_and, or_true, true_or, or_false, false_or, not_true_eq_false, not_false_eq_true, Bool.not_true, Bool.not_false, Bool.false_eq_true, ite_true, ite_false, reduceIte, reduceCtorEq, eq_self, $xs,*])
local macro_rules | `(tactic| simp_arith! [$xs,*]) => `(tactic| try simp only [eVar, eC, eBin, eUn, tBl, tAnd', tOr', tNot', eAnd, eOr, eNot, eIf, aNil, aCons, eTup, eLst, eLstM, eCall, eCallK, pick, sNext, sSeq, sBreak, sCont, sDrop, sRet, sRetN, sIf, sNever, gNm, gsNil, gsCons, gTupl, gSubs, sAsg, sPar, sPar3, sFor, iSeq, seqG_tup, seqG_lst, seqG_scr, iRange1, iRange2, iEnumG, iZipG, td_tup, td_lst, td_scr, eLc, eLcM, tYes', pNone, pSome, eSl, cu_tup, cu_lst, cu_scr, eMt, eMt0, mAppend, isL, rs_non, rs_bl, rs_int, rs_str, rs_tup, rs_lst', rs_scr, itemsOf_tup, itemsOf_lst, itemsOf_scr, oI, oI0, oSub, oFdiv, oMod, oPow, oShl, oShr, oAnd, oOr, oXor, oLt, oLe, oGt, oGe, oNeg, oIsN, oNotN, Gx.isNon, oAdd, oAdd', oMul, oMul', oMulM, oEq, oNe, oEqS, oNeS, oIn, oNin, eChain, oIx, oSet, cLen, cList, cListM, cTuple, cSum, cAll, cAny, cInt, cAbs, cMax2, cMin2, cDivmod, cGcd, cIsi, cRepr, lstInts, lstBls, startD, wipeD, List.map_cons, List.map_nil, List.length_cons, List.length_nil, List.cons_append, List.nil_append, List.replicate_succ, List.replicate_zero, List.set_cons_succ, List.set_cons_zero, List.getElem?_cons_succ, List.getElem?_cons_zero, List.filterMap_cons_some, List.filterMap_nil, Nat.reduceAdd, Nat.reduceSub, Nat.sub_self, Nat.reduceLT, Nat.reduceMul, Nat.zero_add, Nat.add_zero, if_true, if_false, and_true, true_and, and_false, false_and, or_true, true_or, or_false, false_or, not_true_eq_false, not_false_eq_true, Bool.not_true, Bool.not_false, Bool.false_eq_true, ite_true, ite_false, reduceIte, reduceCtorEq, eq_self, rs_N, rs_W, rs_Row, rs_S, rs_R, rs_B, it_N, it_W, it_Row, it_S, it_R, sq_W, sq_Row, sq_S, td_N, td_W, td_Row, td_S, rs_I, it_I, sq_I, td_I, rs_Ss, it_Ss, sq_Ss, td_Ss, cu_S, cu_W, cu_Row, atI_0, atI_1, $xs,*])

/-! ### rows that change -/
structure RowsAt (p : Addr) (S0 : Sto) (qs : List Addr) (S : Sto) (ws : List (List Rat)) : Prop where
  len : qs.length = ws.length
  nd : qs.Nodup
  row : ∀ i, i < qs.length → S (qs.getD i 0) = some (.lst ((ws.getD i []).map encR))
  own : ∀ q ∈ qs, Own p S0 q
theorem getD_mem {α : Type} {xs : List α} {i : Nat} {d : α} (h : i < xs.length) : xs.getD i d ∈ xs := by
  rw [getD_eq h]
  exact List.getElem_mem h
theorem nodup_ne {qs : List Addr} (h : qs.Nodup) {i j : Nat} (hi : i < qs.length) (hj : j < qs.length) (n : i ≠ j) : qs.getD i 0 ≠ qs.getD j 0 := by
  rw [getD_eq hi, getD_eq hj]
  intro e
  exact n ((List.getElem_inj h).mp e)
theorem getD_set {α : Type} {xs : List α} {i j : Nat} {x d : α} (h : i < xs.length) : (xs.set i x).getD j d = if i = j then x else xs.getD j d := by
  rw [List.getD_eq_getElem?_getD, List.getD_eq_getElem?_getD, List.getElem?_set]
  by_cases z : i = j
  · subst z
    rw [if_pos rfl, if_pos h, if_pos rfl]; rfl
  · rw [if_neg z, if_neg z]
theorem RowsAt.same {p : Addr} {S0 S S' : Sto} {qs : List Addr} {ws : List (List Rat)} (a : RowsAt p S0 qs S ws) (h : ∀ q ∈ qs, S' q = S q) : RowsAt p S0 qs S' ws :=
  ⟨a.len, a.nd, fun i hi => by rw [h _ (getD_mem hi)]; exact a.row i hi, a.own⟩
theorem RowsAt.set {p : Addr} {S0 S : Sto} {qs : List Addr} {ws : List (List Rat)} (a : RowsAt p S0 qs S ws) {i : Nat} (hi : i < qs.length) (r : List Rat) :
    RowsAt p S0 qs (up S (qs.getD i 0) (.lst (r.map encR))) (ws.set i r) :=
  ⟨by rw [List.length_set]; exact a.len, a.nd, fun j hj => by
    rw [getD_set (by rw [← a.len]; exact hi)]
    by_cases z : i = j
    · subst z
      rw [if_pos rfl, up_same]
    · rw [if_neg z, up_ne (Ne.symm (nodup_ne a.nd hi hj z))]
      exact a.row j hj, a.own⟩
theorem RowsAt.zip {p : Addr} {S0 S : Sto} {qs : List Addr} {ws : List (List Rat)} (a : RowsAt p S0 qs S ws) {z : Addr × List Rat} (hz : z ∈ List.zip qs ws) : S z.1 = some (.lst (z.2.map encR)) := by
  obtain ⟨i, hi, e⟩ := List.getElem_of_mem hz
  have h := hi
  rw [List.length_zip] at h
  rw [List.getElem_zip] at e
  have := a.row i (by omega)
  rw [getD_eq (by omega), getD_eq (by omega)] at this
  rw [← e]
  exact this
def refs (qs : List Addr) : List D := qs.map .ref
/-! ### scales -/
/-- a scale: above 0, of few figures -/
structure Scl (q : Rat) : Prop where
  pos : 0 < q
  bd : Bd 3 2 q
  inv : Bd 2 2 q⁻¹
/-- the weights below the diagonal so that scales are kept -/
def scW (N : Net) (sc : List Rat) (i j : Nat) : Rat := sc.getD j 0 * wt N j i / sc.getD i 0
/-- how far the rows are led on -/
structure Led (N : Net) (sc : List Rat) (a t : Nat) (ws : List (List Rat)) : Prop where
  lw : ws.length = N.n
  lr : ∀ r ∈ ws, r.length = N.n
  val : ∀ i j, i < N.n → j < N.n → (ws.getD i []).getD j 0 = if (i < a ∧ j < i) ∨ (i = a ∧ j < t) then scW N sc i j else wt N i j
theorem Led.row {N : Net} {sc : List Rat} {a t : Nat} {ws : List (List Rat)} (l : Led N sc a t ws) {i : Nat} (hi : i < N.n) : (ws.getD i []).length = N.n := l.lr _ (getD_mem (by rw [l.lw]; exact hi))
theorem Led.next {N : Net} {sc : List Rat} {a : Nat} {ws : List (List Rat)} (l : Led N sc a a ws) : Led N sc (a + 1) 0 ws :=
  ⟨l.lw, l.lr, fun i j hi hj => by
    rw [l.val i j hi hj]
    by_cases z : (i < a ∧ j < i) ∨ (i = a ∧ j < a)
    · rw [if_pos z, if_pos (by omega)]
    · rw [if_neg z, if_neg (by omega)]⟩
theorem Scl.ne {q : Rat} (h : Scl q) : q ≠ 0 := fun z => by have := h.pos; rw [z] at this; exact absurd this (by decide)
/-! ### one weight otherwise -/
section
variable {N : Net} {a t : Nat} {q : Rat}
end
end Gx

/-! Gx, data side 10: what the laws reckon of nets. -/
namespace Gx
open PySem L2
local macro_rules | `(tactic| simp_arith [$xs,*]) => `(tactic| try simp only [eVar, eC, eBin, eUn, tBl, tAnd', tOr', tNot', eAnd, eOr, eNot, eIf, aNil, aCons, eTup, eLst, eLstM, eCall, eCallK, pick, sNext, sSeq, sBreak, sCont, sDrop, sRet, sRetN, sIf, sNever, gNm, gsNil, gsCons, gTupl, gSubs, sAsg, sPar, sPar3, sFor, iSeq, seqG_tup, seqG_lst, seqG_scr, iRange1, iRange2, iEnumG, iZipG, td_tup, td_lst, td_scr, eLc, eLcM, tYes', pNone, pSome, eSl, cu_tup, cu_lst, cu_scr, eMt, eMt0, mAppend, isL, rs_non, rs_bl, rs_int, rs_str, rs_tup, rs_lst', rs_scr, itemsOf_tup, itemsOf_lst, itemsOf_scr, oI, oI0, oSub, oFdiv, oMod, oPow, oShl, oShr, oAnd, oOr, oXor, oLt, oLe, oGt, oGe, oNeg, oIsN, oNotN, Gx.isNon, oAdd, oAdd', oMul, oMul', oMulM, oEq, oNe, oEqS, oNeS, oIn, oNin, eChain, oIx, oSet, cLen, cList, cListM, cTuple, cSum, cAll, cAny, cInt, cAbs, cMax2, cMin2, cDivmod, cGcd, cIsi, cRepr, lstInts, lstBls, startD, wipeD, List.map_cons, List.map_nil, List.length_cons, List.length_nil, List.cons_append, List.nil_append, List.replicate_succ, List.replicate_zero, List.set_cons_succ, List.set_cons_zero, List.getElem?_cons_succ, List.getElem?_cons_zero, List.filterMap_cons_some, List.filterMap_nil, Nat.reduceAdd, Nat.reduceSub, Nat.sub_self, Nat.reduceLT, Nat.reduceMul, Nat.zero_add, Nat.add_zero, if_true, if_false, and_true, true_and, and_false, false_and, or_true, true_or, or_false, false_or, not_true_eq_false, not_false_eq_true, Bool.not_true, Bool.not_false, Bool.false_eq_true, ite_true, ite_false, reduceIte, reduceCtorEq, eq_self, $xs,*])
local macro_rules | `(tactic| simp_arith! [$xs,*]) => `(tactic| try simp only [eVar, eC, eBin, eUn, tBl, tAnd', tOr', tNot', eAnd, eOr, eNot, eIf, aNil, aCons, eTup, eLst, eLstM, eCall, eCallK, pick, sNext, sSeq, sBreak, sCont, sDrop, sRet, sRetN, sIf, sNever, gNm, gsNil, gsCons, gTupl, gSubs, sAsg, sPar, sPar3, sFor, iSeq, seqG_tup, seqG_lst, seqG_scr, iRange1, iRange2, iEnumG, iZipG, td_tup, td_lst, td_scr, eLc, eLcM, tYes', pNone, pSome, eSl, cu_tup, cu_lst, cu_scr, eMt, eMt0, mAppend, isL, rs_non, rs_bl, rs_int, rs_str, rs_tup, rs_lst', rs_scr, itemsOf_tup, itemsOf_lst, itemsOf_scr, oI, oI0, oSub, oFdiv, oMod, oPow, oShl, oShr, oAnd, oOr, oXor, oLt, oLe, oGt, oGe, oNeg, oIsN, oNotN, Gx.isNon, oAdd, oAdd', oMul, oMul', oMulM, oEq, oNe, oEqS, oNeS, oIn, oNin, eChain, oIx, oSet, cLen, cList, cListM, cTuple, cSum, cAll, cAny, cInt, cAbs, cMax2, cMin2, cDivmod, cGcd, cIsi, cRepr, lstInts, lstBls, startD, wipeD, List.map_cons, List.map_nil, List.length_cons, List.length_nil, List.cons_append, List.nil_append, List.replicate_succ, List.replicate_zero, List.set_cons_succ, List.set_cons_zero, List.getElem?_cons_succ, List.getElem?_cons_zero, List.filterMap_cons_some, List.filterMap_nil, Nat.reduceAdd, Nat.reduceSub, Nat.sub_self, Nat.reduceLT, Nat.reduceMul, Nat.zero_add, Nat.add_zero, if_true, if_false, and_true, true_and, and_false, false_and, or_true, true_or, or_false, false_or, not_true_eq_false, not_false_eq_true, Bool.not_true, Bool.not_false, Bool.false_eq_true, ite_true, ite_false, reduceIte, reduceCtorEq, eq_self, rs_N, rs_W, rs_Row, rs_S, rs_R, rs_B, it_N, it_W, it_Row, it_S, it_R, sq_W, sq_Row, sq_S, td_N, td_W, td_Row, td_S, rs_I, it_I, sq_I, td_I, rs_Ss, it_Ss, sq_Ss, td_Ss, cu_S, cu_W, cu_Row, atI_0, atI_1, $xs,*])

/-! ### heard -/
def pk (ps : List (Rat × Bool)) : List Rat := (ps.filter (·.2)).map (·.1)
theorem pk_snoc (ps : List (Rat × Bool)) (q : Rat) (b : Bool) : sumR (pk (ps ++ [(q, b)])) = if b = true then sumR (pk ps) + q else sumR (pk ps) := by
  unfold pk
  rw [List.filter_append, List.map_append]
  cases b
  · rw [if_neg (by decide)]
    simp
  · rw [if_pos rfl]
    have : List.map (fun x : Rat × Bool => x.1) (List.filter (fun x => x.2) [(q, true)]) = [q] := rfl
    rw [this, sumR_append, sumR_cons, sumR_nil, Rat.add_zero]
theorem pk_big {ps : List (Rat × Bool)} (hl : ps.length ≤ 8) (hb : ∀ x ∈ ps, Bd (2 ^ 50000) 200 x.1) : Big (sumR (pk ps)) := by
  have l : (pk ps).length ≤ 8 := by
    unfold pk
    rw [List.length_map]
    exact Nat.le_trans (List.length_filter_le _ _) hl
  have h := bd_sum (qs := pk ps) (A := 2 ^ 50000) (b := 200) fun q hq => by
    unfold pk at hq
    obtain ⟨x, hx, rfl⟩ := List.mem_map.mp hq
    exact hb x (List.mem_filter.mp hx).1
  exact (h.mono (Nat.mul_le_mul_right _ l) (Nat.add_le_add_right (Nat.mul_le_mul_right _ l) 1)).big (a := 50004) eight_pow
def body_lheard (γ__law_plus : OL) : ST := sSeq (sAsg (eTup (aCons (eC (.int 0)) (aCons (eC (.int 1)) (aNil)))) (gNm 3))
  (sSeq (sFor (iZipG (aCons (eBin oIx (eBin oIx (eVar 0) (eC (.int 0))) (eVar 1)) (aCons (eVar 2) (aNil)))) (gTupl 2 (gsCons (gNm 4) (gsCons (gNm 5) (gsNil)))) (sAsg (eIf (tBl (eBin oEq (eVar 5) (eC (.int 1)))) (eCall γ__law_plus (aCons (eVar 3) (aCons (eVar 4) (aNil)))) (eVar 3)) (gNm 3)))
  (sRet (eVar 3)))
theorem heard_loop {zs : List (Rat × Bool)} (hl : zs.length ≤ 8) (hb : ∀ x ∈ zs, Bd (2 ^ 50000) 200 x.1) (x0 x1 x2 : Option D) (G : EndG) (S : Sto) (h : ∀ x4 x5, G.nx [x0, x1, x2, some (encR (sumR (pk zs))), x4, x5] S) :
    ∀ (ys xs : List (Rat × Bool)) x4 x5, zs = xs ++ ys →
    forG (gTupl 2 (gsCons (gNm 4) (gsCons (gNm 5) (gsNil)))) (sAsg (eIf (tBl (eBin oEq (eVar 5) (eC (.int 1)))) (eCall γ_plus (aCons (eVar 3) (aCons (eVar 4) (aNil)))) (eVar 3)) (gNm 3)) (fun _ => True) (ys.map fun p : Rat × Bool => .tup [encR p.1, encB p.2]) G [x0, x1, x2, some (encR (sumR (pk xs))), x4, x5] S
  | [], xs, x4, x5, e => ⟨trivial, by rw [List.append_nil] at e; subst e; exact h x4 x5⟩
  | (q, b) :: ys, xs, x4, x5, e => by
    refine ⟨trivial, ?_⟩
    have e' : zs = (xs ++ [(q, b)]) ++ ys := by rw [e, List.append_assoc]; rfl
    have hx : xs.length ≤ 8 := by have := congrArg List.length e; rw [List.length_append] at this; omega
    have b1 := pk_big hx fun x hx => hb x (by rw [e]; exact List.mem_append_left _ hx)
    have bq : Big q := (hb (q, b) (by rw [e]; simp)).big (a := 50001) (Nat.pow_lt_pow_right (by decide) (by decide))
    have ih := heard_loop hl hb x0 x1 x2 G S h ys (xs ++ [(q, b)])
    unfold γ_plus
    simp_arith! [encB, pl_int, eqD_bit]
    cases b
    · simp_arith []
      have := ih (some (encR q)) (some (encB false)) e'
      rw [pk_snoc, if_neg (by decide)] at this
      exact this
    · simp_arith []
      refine ⟨_, _, rfl, ⟨b1, bq⟩, ?_⟩
      have := ih (some (encR q)) (some (encB true)) e'
      rw [pk_snoc, if_pos rfl] at this
      exact this
theorem law_lheard : Law 6 γ_heard_by (body_lheard γ_plus) := by
  intro ds S R ⟨N, i, s, e, ⟨ok, sm, hi, hs⟩, h⟩
  subst e
  have q := fin_of h
  have g1 := ix_row ok hi
  have hw := ok.wrow hi
  have h8 := ok.few
  unfold body_lheard
  simp_arith! [g1, zipD_map]
  refine ⟨by decide, ?_⟩
  rw [enc_zero]
  refine heard_loop (zs := List.zip (wrow N i) s) (by rw [List.length_zip]; omega) (fun x hx => sm.1 _ (wrow_mem (by rw [ok.sq]; exact hi)) _ (List.of_mem_zip hx).1) _ _ _ _ _ (fun x4 x5 => ?_) _ [] _ _ rfl
  simp_arith []
  exact q
end Gx

set_option exponentiation.threshold 3000
/-! Gx, data side 11: what is told as text; rests and movers. -/
namespace Gx
open PySem L2

/-! ### repr -/
/-- of so many leaves at most -/
structure RP (k n : Nat) (d : D) : Prop where
  pl : pl k d = true
  ok : okL d = true
  sz : szD d ≤ n
theorem RP.rp {k n : Nat} {d : D} (h : RP k n d) (hk : k ≤ 60 := by decide) (hn : n ≤ 8000 := by decide) : rpOk d := ⟨pl_mono h.pl hk, h.ok, Nat.le_trans h.sz hn⟩
theorem RP.mono {k n k' n' : Nat} {d : D} (h : RP k n d) (hk : k ≤ k' := by decide) (hn : n ≤ n' := by decide) : RP k' n' d := ⟨pl_mono h.pl hk, h.ok, Nat.le_trans h.sz hn⟩
inductive RPs : Nat → Nat → List D → Prop
  | nil {k : Nat} : RPs k 0 []
  | cons {k a b : Nat} {d : D} {ds : List D} : RP k a d → RPs k b ds → RPs k (a + 1 + b) (d :: ds)
theorem RPs.all {k n : Nat} {ds : List D} (h : RPs k n ds) : ds.all (Gx.pl k) = true ∧ okLs ds = true ∧ szDs ds ≤ n := by
  induction h with
  | nil => exact ⟨rfl, rfl, Nat.le_refl _⟩
  | cons h1 _ ih =>
    obtain ⟨i1, i2, i3⟩ := ih
    refine ⟨?_, ?_, ?_⟩
    · rw [List.all_cons, h1.pl, i1]; rfl
    · show (okL _ && okLs _) = true
      rw [h1.ok, i2]; rfl
    · show szD _ + 1 + szDs _ ≤ _
      have := h1.sz
      omega
theorem RPs.lst {k n : Nat} {ds : List D} (h : RPs k n ds) : RP (k + 1) n (.lst ds) := ⟨h.all.1, h.all.2.1, h.all.2.2⟩
theorem RPs.tup {k n : Nat} {ds : List D} (h : RPs k n ds) : RP (k + 1) n (.tup ds) := ⟨h.all.1, h.all.2.1, h.all.2.2⟩
theorem RPs.map {α : Type} {k n : Nat} {f : α → D} : ∀ {xs : List α}, (∀ x ∈ xs, RP k n (f x)) → RPs k ((n + 1) * xs.length) (xs.map f)
  | [], _ => .nil
  | x :: xs, h => by
    have := RPs.cons (h x List.mem_cons_self) (RPs.map (xs := xs) fun y hy => h y (List.mem_cons_of_mem _ hy))
    rw [List.length_cons, Nat.mul_succ, Nat.add_comm]
    exact this
theorem log2_lt {a b : Nat} (hb : 0 < b) (h : a < 2 ^ b) : a.log2 < b := by
  by_cases z : a = 0
  · subst z; rw [Nat.log2_zero]; exact hb
  · exact (Nat.log2_lt z).mpr h
theorem rp_int {k : Nat} {i : Int} (h : i.natAbs < 2 ^ 1920) : RP k 0 (.int i) := ⟨pl_int, decide_eq_true (log2_lt (by decide) h), Nat.le_refl _⟩
theorem rp_bl {k : Nat} {b : Bool} : RP k 0 (.bl b) := ⟨pl_bl, rfl, Nat.le_refl _⟩
theorem rp_I {m : List Nat} (h : ∀ i ∈ m, i < 1000) : RP 1 m.length (encI m) := by
  have := (RPs.map (k := 0) (n := 0) (f := fun i : Nat => D.int (i : Int)) (xs := m) fun x hx => rp_int (by rw [Int.natAbs_natCast]; exact Nat.lt_of_lt_of_le (h x hx) (Nat.le_trans (m := 2 ^ 10) (by decide) (pow2_le (by decide))))).tup
  rw [Nat.zero_add, Nat.one_mul] at this
  exact this
/-! ### rests have no movers -/
theorem wants_getD {N : Net} {s : List Bool} {i : Nat} (h : i < N.n) : (wants N s).getD i false = decide (mk' N i < hear N i s) := by
  rw [getD_eq (by rw [wants_length]; exact h)]
  unfold wants
  rw [List.getElem_map, List.getElem_range]
theorem movers_lt {N : Net} {s : List Bool} : ∀ i ∈ movers N s, i < N.n := fun i hi => List.mem_range.mp (List.mem_filter.mp hi).1
/-- what a cell hears, term by term -/
def dotB : List Rat → List Bool → Rat
  | w :: ws, b :: s => (if b = true then w else 0) + dotB ws s
  | _, _ => 0
theorem sum_pick : ∀ (ws : List Rat) (s : List Bool), sumR (pickW ws s) = dotB ws s
  | [], s => by cases s <;> rfl
  | w :: ws, [] => rfl
  | w :: ws, b :: s => by
    have ih := sum_pick ws s
    unfold pickW at ih ⊢
    rw [List.zip_cons_cons]
    cases b
    · rw [List.filter_cons_of_neg (by simp)]
      show _ = 0 + dotB ws s
      rw [Rat.zero_add]
      exact ih
    · rw [List.filter_cons_of_pos (by simp), List.map_cons, sumR_cons, ih]
      rfl
theorem hear_dot (N : Net) (i : Nat) (s : List Bool) : hear N i s = dotB (wrow N i) s := sum_pick _ _
theorem fin_new {R : QD} {d : D} {S : Sto} {p : Addr} {o : SO} (hp : S p = none) (h : R d S) : Fin R d (up S p o) :=
  ⟨S, d, fun a o' e => by rw [up_ne (fun z => by rw [z, hp] at e; cases e)]; exact e, .same d, h⟩
end Gx

/-! Gx, data side 12: states by their numbers, there and back. -/
namespace Gx
open PySem L2
def numOf : List Bool → Nat
  | [] => 0
  | b :: s => (if b = true then 1 else 0) + 2 * numOf s
theorem numOf_cons (b : Bool) (s : List Bool) : numOf (b :: s) = (if b = true then 1 else 0) + 2 * numOf s := rfl
theorem numOf_lt : ∀ s : List Bool, numOf s < 2 ^ s.length
  | [] => by decide
  | b :: s => by
    have := numOf_lt s
    rw [List.length_cons, Nat.pow_succ]
    rw [numOf_cons]
    split <;> omega
theorem stateOf_succ (n k : Nat) : stateOf (n + 1) k = decide (k % 2 = 1) :: stateOf n (k / 2) := by
  unfold stateOf
  rw [List.range_succ_eq_map, List.map_cons, List.map_map, Nat.testBit_zero]
  congr 1
  apply List.map_congr_left
  intro i _
  exact Nat.testBit_succ k i
theorem numOf_stateOf : ∀ (n k : Nat), k < 2 ^ n → numOf (stateOf n k) = k
  | 0, k, h => by
    have : k = 0 := by rw [Nat.pow_zero] at h; omega
    subst this; rfl
  | n + 1, k, h => by
    rw [Nat.pow_succ] at h
    rw [stateOf_succ]
    have ih := numOf_stateOf n (k / 2) (by omega)
    rw [numOf_cons]
    rw [ih]
    by_cases z : k % 2 = 1
    · rw [if_pos (decide_eq_true z)]; omega
    · rw [if_neg (by simpa using z)]; omega
theorem stateOf_numOf : ∀ s : List Bool, stateOf s.length (numOf s) = s
  | [] => rfl
  | b :: s => by
    rw [List.length_cons, stateOf_succ]
    have e1 : numOf (b :: s) % 2 = if b = true then 1 else 0 := by
      rw [numOf_cons]
      split <;> omega
    have e2 : numOf (b :: s) / 2 = numOf s := by
      rw [numOf_cons]
      split <;> omega
    rw [e1, e2, stateOf_numOf s]
    cases b <;> rfl
theorem stateOf_inj {n a b : Nat} (ha : a < 2 ^ n) (hb : b < 2 ^ n) (h : stateOf n a = stateOf n b) : a = b := by
  rw [← numOf_stateOf n a ha, ← numOf_stateOf n b hb, h]
theorem stateOf_getD {n k i : Nat} (h : i < n) : (stateOf n k).getD i false = k.testBit i := by
  rw [getD_eq (by rw [stateOf_length]; exact h)]
  unfold stateOf
  rw [List.getElem_map, List.getElem_range]
/-- the number with one bit otherwise -/
def turnN (k i : Nat) : Nat := if k.testBit i = true then k - 2 ^ i else k + 2 ^ i
theorem testBit_le {k i : Nat} (h : k.testBit i = true) : 2 ^ i ≤ k := Nat.ge_two_pow_of_testBit h
theorem flip_cons_zero (b : Bool) (s : List Bool) : flip (b :: s) 0 = (!b) :: s := rfl
theorem flip_cons_succ (b : Bool) (s : List Bool) (i : Nat) : flip (b :: s) (i + 1) = b :: flip s i := rfl
theorem numOf_flip : ∀ (s : List Bool) (i : Nat), i < s.length → (numOf (flip s i) : Int) = numOf s + (if s.getD i false = true then -(2 : Int) ^ i else 2 ^ i)
  | [], i, h => by simp at h
  | b :: s, 0, h => by
    rw [flip_cons_zero]
    cases b
    · show ((1 + 2 * numOf s : Nat) : Int) = ((0 + 2 * numOf s : Nat) : Int) + 2 ^ 0
      rw [Int.pow_zero]; omega
    · show ((0 + 2 * numOf s : Nat) : Int) = ((1 + 2 * numOf s : Nat) : Int) + -2 ^ 0
      rw [Int.pow_zero]; omega
  | b :: s, i + 1, h => by
    rw [flip_cons_succ]
    have ih := numOf_flip s i (by rw [List.length_cons] at h; omega)
    have e : (b :: s).getD (i + 1) false = s.getD i false := rfl
    rw [e]
    rw [numOf_cons]
    rw [numOf_cons]
    have p : (2 : Int) ^ (i + 1) = 2 * 2 ^ i := by rw [Int.pow_succ, Int.mul_comm]
    rw [p]
    split at ih
    · rename_i z
      rw [if_pos z]
      split <;> omega
    · rename_i z
      rw [if_neg z]
      split <;> omega
theorem turnN_flip {n k i : Nat} (hk : k < 2 ^ n) (hi : i < n) : turnN k i = numOf (flip (stateOf n k) i) := by
  have h := numOf_flip (stateOf n k) i (by rw [stateOf_length]; exact hi)
  rw [stateOf_getD hi, numOf_stateOf n k hk] at h
  have c : ((2 ^ i : Nat) : Int) = 2 ^ i := by rw [PySem.W.kbt_cast]
  unfold turnN
  by_cases z : k.testBit i = true
  · rw [if_pos z] at h ⊢
    have := testBit_le z
    omega
  · rw [if_neg z] at h ⊢
    omega
theorem turnN_lt {n k i : Nat} (hk : k < 2 ^ n) (hi : i < n) : turnN k i < 2 ^ n := by
  rw [turnN_flip hk hi]
  have := numOf_lt (flip (stateOf n k) i)
  rw [flip_length, stateOf_length] at this
  exact this
theorem stateOf_turnN {n k i : Nat} (hk : k < 2 ^ n) (hi : i < n) : stateOf n (turnN k i) = flip (stateOf n k) i := by
  rw [turnN_flip hk hi]
  have := stateOf_numOf (flip (stateOf n k) i)
  rw [flip_length, stateOf_length] at this
  exact this
end Gx

/-! Gx, data side 13: spares and lifted marks. -/
namespace Gx
open PySem L2
local macro_rules | `(tactic| simp_arith [$xs,*]) => `(tactic| try simp only [eVar, eC, eBin, eUn, tBl, tAnd', tOr', tNot', eAnd, eOr, eNot, eIf, aNil, aCons, eTup, eLst, eLstM, eCall, eCallK, pick, sNext, sSeq, sBreak, sCont, sDrop, sRet, sRetN, sIf, sNever, gNm, gsNil, gsCons, gTupl, gSubs, sAsg, sPar, sPar3, sFor, iSeq, seqG_tup, seqG_lst, seqG_scr, iRange1, iRange2, iEnumG, iZipG, td_tup, td_lst, td_scr, eLc, eLcM, tYes', pNone, pSome, eSl, cu_tup, cu_lst, cu_scr, eMt, eMt0, mAppend, isL, rs_non, rs_bl, rs_int, rs_str, rs_tup, rs_lst', rs_scr, itemsOf_tup, itemsOf_lst, itemsOf_scr, oI, oI0, oSub, oFdiv, oMod, oPow, oShl, oShr, oAnd, oOr, oXor, oLt, oLe, oGt, oGe, oNeg, oIsN, oNotN, Gx.isNon, oAdd, oAdd', oMul, oMul', oMulM, oEq, oNe, oEqS, oNeS, oIn, oNin, eChain, oIx, oSet, cLen, cList, cListM, cTuple, cSum, cAll, cAny, cInt, cAbs, cMax2, cMin2, cDivmod, cGcd, cIsi, cRepr, lstInts, lstBls, startD, wipeD, List.map_cons, List.map_nil, List.length_cons, List.length_nil, List.cons_append, List.nil_append, List.replicate_succ, List.replicate_zero, List.set_cons_succ, List.set_cons_zero, List.getElem?_cons_succ, List.getElem?_cons_zero, List.filterMap_cons_some, List.filterMap_nil, Nat.reduceAdd, Nat.reduceSub, Nat.sub_self, Nat.reduceLT, Nat.reduceMul, Nat.zero_add, Nat.add_zero, if_true, if_false, and_true, true_and, and_false, false_and, or_true, true_or, or_false, false_or, not_true_eq_false, not_false_eq_true, Bool.not_true, Bool.not_false, Bool.false_eq_true, ite_true, ite_false, reduceIte, reduceCtorEq, eq_self, $xs,*])
local macro_rules | `(tactic| simp_arith! [$xs,*]) => `(tactic| try simp only [eVar, eC, eBin, eUn, tBl, tAnd', tOr', tNot', eAnd, eOr, eNot, eIf, aNil, aCons, eTup, eLst, eLstM, eCall, eCallK, pick, sNext, sSeq, sBreak, sCont, sDrop, sRet, sRetN, sIf, sNever, gNm, gsNil, gsCons, gTupl, gSubs, sAsg, sPar, sPar3, sFor, iSeq, seqG_tup, seqG_lst, seqG_scr, iRange1, iRange2, iEnumG, iZipG, td_tup, td_lst, td_scr, eLc, eLcM, tYes', pNone, pSome, eSl, cu_tup, cu_lst, cu_scr, eMt, eMt0, mAppend, isL, rs_non, rs_bl, rs_int, rs_str, rs_tup, rs_lst', rs_scr, itemsOf_tup, itemsOf_lst, itemsOf_scr, oI, oI0, oSub, oFdiv, oMod, oPow, oShl, oShr, oAnd, oOr, oXor, oLt, oLe, oGt, oGe, oNeg, oIsN, oNotN, Gx.isNon, oAdd, oAdd', oMul, oMul', oMulM, oEq, oNe, oEqS, oNeS, oIn, oNin, eChain, oIx, oSet, cLen, cList, cListM, cTuple, cSum, cAll, cAny, cInt, cAbs, cMax2, cMin2, cDivmod, cGcd, cIsi, cRepr, lstInts, lstBls, startD, wipeD, List.map_cons, List.map_nil, List.length_cons, List.length_nil, List.cons_append, List.nil_append, List.replicate_succ, List.replicate_zero, List.set_cons_succ, List.set_cons_zero, List.getElem?_cons_succ, List.getElem?_cons_zero, List.filterMap_cons_some, List.filterMap_nil, Nat.reduceAdd, Nat.reduceSub, Nat.sub_self, Nat.reduceLT, Nat.reduceMul, Nat.zero_add, Nat.add_zero, if_true, if_false, and_true, true_and, and_false, false_and, or_true, true_or, or_false, false_or, not_true_eq_false, not_false_eq_true, Bool.not_true, Bool.not_false, Bool.false_eq_true, ite_true, ite_false, reduceIte, reduceCtorEq, eq_self, rs_N, rs_W, rs_Row, rs_S, rs_R, rs_B, it_N, it_W, it_Row, it_S, it_R, sq_W, sq_Row, sq_S, td_N, td_W, td_Row, td_S, rs_I, it_I, sq_I, td_I, rs_Ss, it_Ss, sq_Ss, td_Ss, cu_S, cu_W, cu_Row, atI_0, atI_1, $xs,*])

/-! ### the least of some fractions -/
def mn (f e : Rat) : Rat := if e < f then e else f
/-! ### spares -/
def overs (N : Net) (i : Nat) : List Rat := (allS N.n).map fun s => hear N i s - mk' N i
/-- the least one above 0 -/
def mnO (f : Option Rat) (x : Rat) : Option Rat := if 0 < x then (match f with
  | none => some x
  | some f => some (mn f x)) else f
def spareR (N : Net) (i : Nat) : Option Rat := (overs N i).foldl mnO none
def stepR (N : Net) (i : Nat) : Rat := match spareR N i with
  | none => 1
  | some q => half * q
def lifted (N : Net) : Net := ⟨N.ws, (List.range N.n).map fun i => mk' N i + stepR N i⟩
theorem zipIdx_range {α : Type} (d : α) (xs : List α) : xs.zipIdx = (List.range xs.length).map fun i => (xs.getD i d, i) := by
  apply List.ext_getElem
  · simp
  · intro i h1 h2
    rw [List.length_zipIdx] at h1
    rw [List.getElem_zipIdx, List.getElem_map, List.getElem_range, getD_eq h1, Nat.zero_add]
end Gx

/-! Gx, data side 14: loops by what holds behind each turn; what the laws reckon of numbers of states. -/
namespace Gx
open PySem L2
local macro_rules | `(tactic| simp_arith [$xs,*]) => `(tactic| try simp only [eVar, eC, eBin, eUn, tBl, tAnd', tOr', tNot', eAnd, eOr, eNot, eIf, aNil, aCons, eTup, eLst, eLstM, eCall, eCallK, pick, sNext, sSeq, sBreak, sCont, sDrop, sRet, sRetN, sIf, sNever, gNm, gsNil, gsCons, gTupl, gSubs, sAsg, sPar, sPar3, sFor, iSeq, seqG_tup, seqG_lst, seqG_scr, iRange1, iRange2, iEnumG, iZipG, td_tup, td_lst, td_scr, eLc, eLcM, tYes', pNone, pSome, eSl, cu_tup, cu_lst, cu_scr, eMt, eMt0, mAppend, isL, rs_non, rs_bl, rs_int, rs_str, rs_tup, rs_lst', rs_scr, itemsOf_tup, itemsOf_lst, itemsOf_scr, oI, oI0, oSub, oFdiv, oMod, oPow, oShl, oShr, oAnd, oOr, oXor, oLt, oLe, oGt, oGe, oNeg, oIsN, oNotN, Gx.isNon, oAdd, oAdd', oMul, oMul', oMulM, oEq, oNe, oEqS, oNeS, oIn, oNin, eChain, oIx, oSet, cLen, cList, cListM, cTuple, cSum, cAll, cAny, cInt, cAbs, cMax2, cMin2, cDivmod, cGcd, cIsi, cRepr, lstInts, lstBls, startD, wipeD, List.map_cons, List.map_nil, List.length_cons, List.length_nil, List.cons_append, List.nil_append, List.replicate_succ, List.replicate_zero, List.set_cons_succ, List.set_cons_zero, List.getElem?_cons_succ, List.getElem?_cons_zero, List.filterMap_cons_some, List.filterMap_nil, Nat.reduceAdd, Nat.reduceSub, Nat.sub_self, Nat.reduceLT, Nat.reduceMul, Nat.zero_add, Nat.add_zero, if_true, if_false, and_true, true_and, and_false, false_and, or_true, true_or, or_false, false_or, not_true_eq_false, not_false_eq_true, Bool.not_true, Bool.not_false, Bool.false_eq_true, ite_true, ite_false, reduceIte, reduceCtorEq, eq_self, $xs,*])
local macro_rules | `(tactic| simp_arith! [$xs,*]) => `(tactic| try simp only [eVar, eC, eBin, eUn, tBl, tAnd', tOr', tNot', eAnd, eOr, eNot, eIf, aNil, aCons, eTup, eLst, eLstM, eCall, eCallK, pick, sNext, sSeq, sBreak, sCont, sDrop, sRet, sRetN, sIf, sNever, gNm, gsNil, gsCons, gTupl, gSubs, sAsg, sPar, sPar3, sFor, iSeq, seqG_tup, seqG_lst, seqG_scr, iRange1, iRange2, iEnumG, iZipG, td_tup, td_lst, td_scr, eLc, eLcM, tYes', pNone, pSome, eSl, cu_tup, cu_lst, cu_scr, eMt, eMt0, mAppend, isL, rs_non, rs_bl, rs_int, rs_str, rs_tup, rs_lst', rs_scr, itemsOf_tup, itemsOf_lst, itemsOf_scr, oI, oI0, oSub, oFdiv, oMod, oPow, oShl, oShr, oAnd, oOr, oXor, oLt, oLe, oGt, oGe, oNeg, oIsN, oNotN, Gx.isNon, oAdd, oAdd', oMul, oMul', oMulM, oEq, oNe, oEqS, oNeS, oIn, oNin, eChain, oIx, oSet, cLen, cList, cListM, cTuple, cSum, cAll, cAny, cInt, cAbs, cMax2, cMin2, cDivmod, cGcd, cIsi, cRepr, lstInts, lstBls, startD, wipeD, List.map_cons, List.map_nil, List.length_cons, List.length_nil, List.cons_append, List.nil_append, List.replicate_succ, List.replicate_zero, List.set_cons_succ, List.set_cons_zero, List.getElem?_cons_succ, List.getElem?_cons_zero, List.filterMap_cons_some, List.filterMap_nil, Nat.reduceAdd, Nat.reduceSub, Nat.sub_self, Nat.reduceLT, Nat.reduceMul, Nat.zero_add, Nat.add_zero, if_true, if_false, and_true, true_and, and_false, false_and, or_true, true_or, or_false, false_or, not_true_eq_false, not_false_eq_true, Bool.not_true, Bool.not_false, Bool.false_eq_true, ite_true, ite_false, reduceIte, reduceCtorEq, eq_self, rs_N, rs_W, rs_Row, rs_S, rs_R, rs_B, it_N, it_W, it_Row, it_S, it_R, sq_W, sq_Row, sq_S, td_N, td_W, td_Row, td_S, rs_I, it_I, sq_I, td_I, rs_Ss, it_Ss, sq_Ss, td_Ss, cu_S, cu_W, cu_Row, atI_0, atI_1, $xs,*])

/-! ### loops -/
theorem for_from {g : TG'} {tb : ST} {G : EndG} (I : Nat → Tau → Sto → Prop) (n : Nat)
    (step : ∀ (i : Nat) (τ : Tau) (S : Sto) (K : Tau → Sto → Prop), i < n → I i τ S → (∀ τ' S', I (i + 1) τ' S' → K τ' S') → g (.int i) τ S fun τ1 S1 => tb { G with nx := K, ct := K, bk := G.nx } τ1 S1)
    (fin : ∀ τ S, I n τ S → G.nx τ S) : ∀ (m i : Nat) (τ : Tau) (S : Sto), i + m = n → I i τ S → forG g tb (fun _ => True) (rngD i m) G τ S
  | 0, i, τ, S, e, h => ⟨trivial, fin τ S (by have : i = n := by omega
                                              subst this; exact h)⟩
  | m + 1, i, τ, S, e, h => by
    refine ⟨trivial, ?_⟩
    have e1 : ((i : Int) + 1) = ((i + 1 : Nat) : Int) := by omega
    rw [e1]
    exact step i τ S _ (by omega) h fun τ' S' h' => for_from I n step fin m (i + 1) τ' S' (by omega) h'
theorem for_rng {g : TG'} {tb : ST} {G : EndG} {τ : Tau} {S : Sto} (I : Nat → Tau → Sto → Prop) {n : Nat} (h0 : I 0 τ S)
    (step : ∀ (i : Nat) (τ : Tau) (S : Sto) (K : Tau → Sto → Prop), i < n → I i τ S → (∀ τ' S', I (i + 1) τ' S' → K τ' S') → g (.int i) τ S fun τ1 S1 => tb { G with nx := K, ct := K, bk := G.nx } τ1 S1)
    (fin : ∀ τ S, I n τ S → G.nx τ S) : forG g tb (fun _ => True) (rngD 0 n) G τ S := for_from I n step fin n 0 τ S (Nat.zero_add n) h0
theorem for_map {α : Type} {g : TG'} {tb : ST} {G : EndG} (enc : α → D) (I : List α → Tau → Sto → Prop) (all : List α)
    (step : ∀ (done : List α) (x : α) (todo : List α) (τ : Tau) (S : Sto) (K : Tau → Sto → Prop), all = done ++ x :: todo → I done τ S → (∀ τ' S', I (done ++ [x]) τ' S' → K τ' S') → g (enc x) τ S fun τ1 S1 => tb { G with nx := K, ct := K, bk := G.nx } τ1 S1)
    (fin : ∀ τ S, I all τ S → G.nx τ S) : ∀ (todo done : List α) (τ : Tau) (S : Sto), all = done ++ todo → I done τ S → forG g tb (fun _ => True) (todo.map enc) G τ S
  | [], done, τ, S, e, h => ⟨trivial, fin τ S (by rw [e, List.append_nil]; exact h)⟩
  | x :: todo, done, τ, S, e, h => ⟨trivial, step done x todo τ S _ e h fun τ' S' h' => for_map enc I all step fin todo (done ++ [x]) τ' S' (by rw [e, List.append_assoc]; rfl) h'⟩
theorem for_all {α : Type} {g : TG'} {tb : ST} {G : EndG} {τ : Tau} {S : Sto} (enc : α → D) (I : List α → Tau → Sto → Prop) (all : List α) (h0 : I [] τ S)
    (step : ∀ (done : List α) (x : α) (todo : List α) (τ : Tau) (S : Sto) (K : Tau → Sto → Prop), all = done ++ x :: todo → I done τ S → (∀ τ' S', I (done ++ [x]) τ' S' → K τ' S') → g (enc x) τ S fun τ1 S1 => tb { G with nx := K, ct := K, bk := G.nx } τ1 S1)
    (fin : ∀ τ S, I all τ S → G.nx τ S) : forG g tb (fun _ => True) (all.map enc) G τ S := for_map enc I all step fin all [] τ S rfl h0
/-- a list of the def's own is handed out -/
theorem fin_lst {R : QD} {S S0 : Sto} {q : Addr} {ds : List D} (hs : ∀ a o, S0 a = some o → S a = some o) (hq : S0 q = none) (h : S q = some (.lst ds)) (hR : R (.lst ds) S0) : Fin R (.ref q) S :=
  ⟨S0, .lst ds, hs, .ref h hq (FzL.same ds), hR⟩
theorem up_sub {S : Sto} {q : Addr} {o : SO} (hq : S q = none) : ∀ a o', S a = some o' → up S q o a = some o' := fun a o' e => by
  rw [up_ne]; exact e
  intro z; rw [z, hq] at e; cases e

/-! ### a cell's bit of a number -/
theorem eqD_bit0 (b : Bool) : eqD (.int (bit b)) (.int 0) = !b := by cases b <;> rfl
def encK (ks : List Nat) : List D := ks.map fun i : Nat => .int (i : Int)
/-! ### heard, by numbers -/
/-! ### what is wanted, by numbers -/
/-! ### a number with one bit otherwise -/
end Gx

/-! Gx, data side 15: energies, in plain sums. -/
namespace Gx
open PySem L2
/-! ### the words of nets -/
def xs (s : List Bool) (i : Nat) : Rat := if s.getD i false = true then 1 else 0
end Gx

/-! Gx, data side 16: the second family of drawn nets (any, with scales, wheels). -/
namespace Gx
open PySem L2
local macro_rules | `(tactic| simp_arith [$xs,*]) => `(tactic| try simp only [eVar, eC, eBin, eUn, tBl, tAnd', tOr', tNot', eAnd, eOr, eNot, eIf, aNil, aCons, eTup, eLst, eLstM, eCall, eCallK, pick, sNext, sSeq, sBreak, sCont, sDrop, sRet, sRetN, sIf, sNever, gNm, gsNil, gsCons, gTupl, gSubs, sAsg, sPar, sPar3, sFor, iSeq, seqG_tup, seqG_lst, seqG_scr, iRange1, iRange2, iEnumG, iZipG, td_tup, td_lst, td_scr, eLc, eLcM, tYes', pNone, pSome, eSl, cu_tup, cu_lst, cu_scr, eMt, eMt0, mAppend, isL, rs_non, rs_bl, rs_int, rs_str, rs_tup, rs_lst', rs_scr, itemsOf_tup, itemsOf_lst, itemsOf_scr, oI, oI0, oSub, oFdiv, oMod, oPow, oShl, oShr, oAnd, oOr, oXor, oLt, oLe, oGt, oGe, oNeg, oIsN, oNotN, Gx.isNon, oAdd, oAdd', oMul, oMul', oMulM, oEq, oNe, oEqS, oNeS, oIn, oNin, eChain, oIx, oSet, cLen, cList, cListM, cTuple, cSum, cAll, cAny, cInt, cAbs, cMax2, cMin2, cDivmod, cGcd, cIsi, cRepr, lstInts, lstBls, startD, wipeD, List.map_cons, List.map_nil, List.length_cons, List.length_nil, List.cons_append, List.nil_append, List.replicate_succ, List.replicate_zero, List.set_cons_succ, List.set_cons_zero, List.getElem?_cons_succ, List.getElem?_cons_zero, List.filterMap_cons_some, List.filterMap_nil, Nat.reduceAdd, Nat.reduceSub, Nat.sub_self, Nat.reduceLT, Nat.reduceMul, Nat.zero_add, Nat.add_zero, if_true, if_false, and_true, true_and, and_false, false_and, or_true, true_or, or_false, false_or, not_true_eq_false, not_false_eq_true, Bool.not_true, Bool.not_false, Bool.false_eq_true, ite_true, ite_false, reduceIte, reduceCtorEq, eq_self, $xs,*])
theorem frac_of {a : Int} {b A c : Nat} (hb : 0 < b) (h1 : a.natAbs ≤ A) (h2 : b < 2 ^ c) : Bd A c (Rat.divInt a b) :=
  bd_divInt hb (Nat.le_trans h1 (Nat.le_mul_of_pos_right A hb)) h2
/-! ### drawn marks -/
/-- a list of fractions that grows -/
structure Grw (M : Rat → Prop) (p q : Addr) (S0 S : Sto) (ms : List Rat) (i : Nat) : Prop where
  ext : Ext p S0 S
  own : Own p S0 q
  at' : S q = some (.lst (ms.map encR))
  len : ms.length = i
  ok : ∀ x ∈ ms, M x
theorem Grw.drw {M : Rat → Prop} {p q : Addr} {S0 S S' : Sto} {ms : List Rat} {i : Nat} (g : Grw M p q S0 S ms i) (d : Drw p S S') : Grw M p q S0 S' ms i :=
  ⟨g.ext.drw d, g.own, by rw [d.at g.own.2]; exact g.at', g.len, g.ok⟩
theorem Grw.add {M : Rat → Prop} {p q : Addr} {S0 S : Sto} {ms : List Rat} {i : Nat} (g : Grw M p q S0 S ms i) {x : Rat} (hx : M x) : Grw M p q S0 (up S q (.lst (ms.map encR ++ [encR x]))) (ms ++ [x]) (i + 1) :=
  ⟨g.ext.set g.own, g.own, by rw [up_same, List.map_append]; rfl, by rw [List.length_append, g.len]; rfl, fun y hy => by
    rcases List.mem_append.mp hy with hy | hy
    · exact g.ok y hy
    · rw [List.mem_singleton] at hy; subst hy; exact hx⟩
theorem Grw.room {M : Rat → Prop} {p q : Addr} {S0 S : Sto} {ms : List Rat} {i : Nat} (g : Grw M p q S0 S ms i) (h : i ≤ 1000) : (ms.map encR).length < sizeLine :=
  Nat.lt_of_lt_of_le (m := 1001) (by rw [List.length_map, g.len]; omega) (by decide)
end Gx

/-! Gx, data side 17: nets of the second family. -/
namespace Gx
open PySem L2
local macro_rules | `(tactic| simp_arith [$xs,*]) => `(tactic| try simp only [eVar, eC, eBin, eUn, tBl, tAnd', tOr', tNot', eAnd, eOr, eNot, eIf, aNil, aCons, eTup, eLst, eLstM, eCall, eCallK, pick, sNext, sSeq, sBreak, sCont, sDrop, sRet, sRetN, sIf, sNever, gNm, gsNil, gsCons, gTupl, gSubs, sAsg, sPar, sPar3, sFor, iSeq, seqG_tup, seqG_lst, seqG_scr, iRange1, iRange2, iEnumG, iZipG, td_tup, td_lst, td_scr, eLc, eLcM, tYes', pNone, pSome, eSl, cu_tup, cu_lst, cu_scr, eMt, eMt0, mAppend, isL, rs_non, rs_bl, rs_int, rs_str, rs_tup, rs_lst', rs_scr, itemsOf_tup, itemsOf_lst, itemsOf_scr, oI, oI0, oSub, oFdiv, oMod, oPow, oShl, oShr, oAnd, oOr, oXor, oLt, oLe, oGt, oGe, oNeg, oIsN, oNotN, Gx.isNon, oAdd, oAdd', oMul, oMul', oMulM, oEq, oNe, oEqS, oNeS, oIn, oNin, eChain, oIx, oSet, cLen, cList, cListM, cTuple, cSum, cAll, cAny, cInt, cAbs, cMax2, cMin2, cDivmod, cGcd, cIsi, cRepr, lstInts, lstBls, startD, wipeD, List.map_cons, List.map_nil, List.length_cons, List.length_nil, List.cons_append, List.nil_append, List.replicate_succ, List.replicate_zero, List.set_cons_succ, List.set_cons_zero, List.getElem?_cons_succ, List.getElem?_cons_zero, List.filterMap_cons_some, List.filterMap_nil, Nat.reduceAdd, Nat.reduceSub, Nat.sub_self, Nat.reduceLT, Nat.reduceMul, Nat.zero_add, Nat.add_zero, if_true, if_false, and_true, true_and, and_false, false_and, or_true, true_or, or_false, false_or, not_true_eq_false, not_false_eq_true, Bool.not_true, Bool.not_false, Bool.false_eq_true, ite_true, ite_false, reduceIte, reduceCtorEq, eq_self, $xs,*])
/-- rows that grow -/
structure Mat (P : Rat → Prop) (n : Nat) (p q : Addr) (S0 S : Sto) (ws : List (List Rat)) (i : Nat) : Prop where
  ext : Ext p S0 S
  own : Own p S0 q
  at' : S q = some (.lst (ws.map encRow))
  len : ws.length = i
  row : ∀ r ∈ ws, r.length = n
  ok : ∀ r ∈ ws, ∀ x ∈ r, P x
  dia : ∀ j, j < i → (ws.getD j []).getD j 0 = 0
theorem Mat.keep {P : Rat → Prop} {n : Nat} {p q : Addr} {S0 S S' : Sto} {ws : List (List Rat)} {i : Nat} (g : Mat P n p q S0 S ws i) (e : Ext p S0 S') (h : S' q = S q) : Mat P n p q S0 S' ws i :=
  ⟨e, g.own, by rw [h]; exact g.at', g.len, g.row, g.ok, g.dia⟩
theorem Mat.add {P : Rat → Prop} {n : Nat} {p q : Addr} {S0 S : Sto} {ws : List (List Rat)} {i : Nat} (g : Mat P n p q S0 S ws i) {r : List Rat} (hr : r.length = n) (hx : ∀ x ∈ r, P x) (hd : r.getD i 0 = 0) : Mat P n p q S0 (up S q (.lst (ws.map encRow ++ [encRow r]))) (ws ++ [r]) (i + 1) :=
  ⟨g.ext.set g.own, g.own, by rw [up_same, List.map_append]; rfl, by rw [List.length_append, g.len]; rfl, fun y hy => by
    rcases List.mem_append.mp hy with hy | hy
    · exact g.row y hy
    · rw [List.mem_singleton] at hy; subst hy; exact hr, fun y hy => by
    rcases List.mem_append.mp hy with hy | hy
    · exact g.ok y hy
    · rw [List.mem_singleton] at hy; subst hy; exact hx, fun j hj => by
    rw [getD_snoc g.len hj]
    split
    · rename_i z; exact g.dia j z
    · have : j = i := by omega
      subst this; exact hd⟩
theorem Mat.net {P M : Rat → Prop} {n : Nat} {p q : Addr} {S0 S : Sto} {ws : List (List Rat)} (g : Mat P n p q S0 S ws n) {ms : List Rat} (hm : ms.length = n) (h1 : 1 ≤ n) (h8 : n ≤ 8) (ok : ∀ x ∈ ms, M x) : (⟨ws, ms⟩ : Net).Ok ∧ Drn P M ⟨ws, ms⟩ :=
  ⟨⟨by show 1 ≤ ms.length; omega, by show ms.length ≤ 8; omega, by show ws.length = ms.length; rw [hm]; exact g.len, fun r hr => by show r.length = ms.length; rw [hm]; exact g.row r hr, fun i hi => g.dia i (by have hi : i < ms.length := hi; omega)⟩, ⟨g.ok, ok⟩⟩
/-! ### rows of zeros -/
end Gx

/-! Gx, data side 18: rows of zeros that are filled: nets with scales, wheels. -/
namespace Gx
open PySem L2
local macro_rules | `(tactic| simp_arith [$xs,*]) => `(tactic| try simp only [eVar, eC, eBin, eUn, tBl, tAnd', tOr', tNot', eAnd, eOr, eNot, eIf, aNil, aCons, eTup, eLst, eLstM, eCall, eCallK, pick, sNext, sSeq, sBreak, sCont, sDrop, sRet, sRetN, sIf, sNever, gNm, gsNil, gsCons, gTupl, gSubs, sAsg, sPar, sPar3, sFor, iSeq, seqG_tup, seqG_lst, seqG_scr, iRange1, iRange2, iEnumG, iZipG, td_tup, td_lst, td_scr, eLc, eLcM, tYes', pNone, pSome, eSl, cu_tup, cu_lst, cu_scr, eMt, eMt0, mAppend, isL, rs_non, rs_bl, rs_int, rs_str, rs_tup, rs_lst', rs_scr, itemsOf_tup, itemsOf_lst, itemsOf_scr, oI, oI0, oSub, oFdiv, oMod, oPow, oShl, oShr, oAnd, oOr, oXor, oLt, oLe, oGt, oGe, oNeg, oIsN, oNotN, Gx.isNon, oAdd, oAdd', oMul, oMul', oMulM, oEq, oNe, oEqS, oNeS, oIn, oNin, eChain, oIx, oSet, cLen, cList, cListM, cTuple, cSum, cAll, cAny, cInt, cAbs, cMax2, cMin2, cDivmod, cGcd, cIsi, cRepr, lstInts, lstBls, startD, wipeD, List.map_cons, List.map_nil, List.length_cons, List.length_nil, List.cons_append, List.nil_append, List.replicate_succ, List.replicate_zero, List.set_cons_succ, List.set_cons_zero, List.getElem?_cons_succ, List.getElem?_cons_zero, List.filterMap_cons_some, List.filterMap_nil, Nat.reduceAdd, Nat.reduceSub, Nat.sub_self, Nat.reduceLT, Nat.reduceMul, Nat.zero_add, Nat.add_zero, if_true, if_false, and_true, true_and, and_false, false_and, or_true, true_or, or_false, false_or, not_true_eq_false, not_false_eq_true, Bool.not_true, Bool.not_false, Bool.false_eq_true, ite_true, ite_false, reduceIte, reduceCtorEq, eq_self, $xs,*])
def ent (ws : List (List Rat)) (i j : Nat) : Rat := (ws.getD i []).getD j 0
structure Sq (n : Nat) (ws : List (List Rat)) : Prop where
  len : ws.length = n
  row : ∀ r ∈ ws, r.length = n
theorem Sq.at {n : Nat} {ws : List (List Rat)} (s : Sq n ws) {i : Nat} (hi : i < n) : (ws.getD i []).length = n := s.row _ (getD_mem (by rw [s.len]; exact hi))
/-- where it begins: rows of zeros, a list of them -/
structure Fil (n : Nat) (p p3 : Addr) (qs : List Addr) (S0 S : Sto) (ws : List (List Rat)) : Prop where
  ext : Ext p S0 S
  rows : RowsAt p S0 qs S ws
  own : Own p S0 p3
  nin : p3 ∉ qs
  at' : S p3 = some (.lst (refs qs))
  sq : Sq n ws
theorem Fil.len {n : Nat} {p p3 : Addr} {qs : List Addr} {S0 S : Sto} {ws : List (List Rat)} (f : Fil n p p3 qs S0 S ws) : qs.length = n := by rw [f.rows.len, f.sq.len]
theorem Fil.drw {n : Nat} {p p3 : Addr} {qs : List Addr} {S0 S S' : Sto} {ws : List (List Rat)} (f : Fil n p p3 qs S0 S ws) (d : Drw p S S') : Fil n p p3 qs S0 S' ws :=
  ⟨f.ext.drw d, f.rows.same fun q hq => d.at (f.rows.own q hq).2, f.own, f.nin, by rw [d.at f.own.2]; exact f.at', f.sq⟩
theorem Fil.other {n : Nat} {p p3 q : Addr} {qs : List Addr} {S0 S : Sto} {ws : List (List Rat)} (f : Fil n p p3 qs S0 S ws) (o : SO) (hq : Own p S0 q) (h3 : q ≠ p3) (hn : q ∉ qs) : Fil n p p3 qs S0 (up S q o) ws :=
  ⟨f.ext.set hq, f.rows.same fun x hx => up_ne fun z => hn (by rw [← z]; exact hx), f.own, f.nin, by rw [up_ne (Ne.symm h3)]; exact f.at', f.sq⟩
/-! ### wheels -/
end Gx

/-! Gx, data side 19: nets with scales, the second family. -/
namespace Gx
open PySem L2
local macro_rules | `(tactic| simp_arith [$xs,*]) => `(tactic| try simp only [eVar, eC, eBin, eUn, tBl, tAnd', tOr', tNot', eAnd, eOr, eNot, eIf, aNil, aCons, eTup, eLst, eLstM, eCall, eCallK, pick, sNext, sSeq, sBreak, sCont, sDrop, sRet, sRetN, sIf, sNever, gNm, gsNil, gsCons, gTupl, gSubs, sAsg, sPar, sPar3, sFor, iSeq, seqG_tup, seqG_lst, seqG_scr, iRange1, iRange2, iEnumG, iZipG, td_tup, td_lst, td_scr, eLc, eLcM, tYes', pNone, pSome, eSl, cu_tup, cu_lst, cu_scr, eMt, eMt0, mAppend, isL, rs_non, rs_bl, rs_int, rs_str, rs_tup, rs_lst', rs_scr, itemsOf_tup, itemsOf_lst, itemsOf_scr, oI, oI0, oSub, oFdiv, oMod, oPow, oShl, oShr, oAnd, oOr, oXor, oLt, oLe, oGt, oGe, oNeg, oIsN, oNotN, Gx.isNon, oAdd, oAdd', oMul, oMul', oMulM, oEq, oNe, oEqS, oNeS, oIn, oNin, eChain, oIx, oSet, cLen, cList, cListM, cTuple, cSum, cAll, cAny, cInt, cAbs, cMax2, cMin2, cDivmod, cGcd, cIsi, cRepr, lstInts, lstBls, startD, wipeD, List.map_cons, List.map_nil, List.length_cons, List.length_nil, List.cons_append, List.nil_append, List.replicate_succ, List.replicate_zero, List.set_cons_succ, List.set_cons_zero, List.getElem?_cons_succ, List.getElem?_cons_zero, List.filterMap_cons_some, List.filterMap_nil, Nat.reduceAdd, Nat.reduceSub, Nat.sub_self, Nat.reduceLT, Nat.reduceMul, Nat.zero_add, Nat.add_zero, if_true, if_false, and_true, true_and, and_false, false_and, or_true, true_or, or_false, false_or, not_true_eq_false, not_false_eq_true, Bool.not_true, Bool.not_false, Bool.false_eq_true, ite_true, ite_false, reduceIte, reduceCtorEq, eq_self, $xs,*])
end Gx

/-! Gx, data side 20: lifted marks and energies, as the laws reckon them. -/
namespace Gx
open PySem L2
local macro_rules | `(tactic| simp_arith [$xs,*]) => `(tactic| try simp only [eVar, eC, eBin, eUn, tBl, tAnd', tOr', tNot', eAnd, eOr, eNot, eIf, aNil, aCons, eTup, eLst, eLstM, eCall, eCallK, pick, sNext, sSeq, sBreak, sCont, sDrop, sRet, sRetN, sIf, sNever, gNm, gsNil, gsCons, gTupl, gSubs, sAsg, sPar, sPar3, sFor, iSeq, seqG_tup, seqG_lst, seqG_scr, iRange1, iRange2, iEnumG, iZipG, td_tup, td_lst, td_scr, eLc, eLcM, tYes', pNone, pSome, eSl, cu_tup, cu_lst, cu_scr, eMt, eMt0, mAppend, isL, rs_non, rs_bl, rs_int, rs_str, rs_tup, rs_lst', rs_scr, itemsOf_tup, itemsOf_lst, itemsOf_scr, oI, oI0, oSub, oFdiv, oMod, oPow, oShl, oShr, oAnd, oOr, oXor, oLt, oLe, oGt, oGe, oNeg, oIsN, oNotN, Gx.isNon, oAdd, oAdd', oMul, oMul', oMulM, oEq, oNe, oEqS, oNeS, oIn, oNin, eChain, oIx, oSet, cLen, cList, cListM, cTuple, cSum, cAll, cAny, cInt, cAbs, cMax2, cMin2, cDivmod, cGcd, cIsi, cRepr, lstInts, lstBls, startD, wipeD, List.map_cons, List.map_nil, List.length_cons, List.length_nil, List.cons_append, List.nil_append, List.replicate_succ, List.replicate_zero, List.set_cons_succ, List.set_cons_zero, List.getElem?_cons_succ, List.getElem?_cons_zero, List.filterMap_cons_some, List.filterMap_nil, Nat.reduceAdd, Nat.reduceSub, Nat.sub_self, Nat.reduceLT, Nat.reduceMul, Nat.zero_add, Nat.add_zero, if_true, if_false, and_true, true_and, and_false, false_and, or_true, true_or, or_false, false_or, not_true_eq_false, not_false_eq_true, Bool.not_true, Bool.not_false, Bool.false_eq_true, ite_true, ite_false, reduceIte, reduceCtorEq, eq_self, $xs,*])
local macro_rules | `(tactic| simp_arith! [$xs,*]) => `(tactic| try simp only [eVar, eC, eBin, eUn, tBl, tAnd', tOr', tNot', eAnd, eOr, eNot, eIf, aNil, aCons, eTup, eLst, eLstM, eCall, eCallK, pick, sNext, sSeq, sBreak, sCont, sDrop, sRet, sRetN, sIf, sNever, gNm, gsNil, gsCons, gTupl, gSubs, sAsg, sPar, sPar3, sFor, iSeq, seqG_tup, seqG_lst, seqG_scr, iRange1, iRange2, iEnumG, iZipG, td_tup, td_lst, td_scr, eLc, eLcM, tYes', pNone, pSome, eSl, cu_tup, cu_lst, cu_scr, eMt, eMt0, mAppend, isL, rs_non, rs_bl, rs_int, rs_str, rs_tup, rs_lst', rs_scr, itemsOf_tup, itemsOf_lst, itemsOf_scr, oI, oI0, oSub, oFdiv, oMod, oPow, oShl, oShr, oAnd, oOr, oXor, oLt, oLe, oGt, oGe, oNeg, oIsN, oNotN, Gx.isNon, oAdd, oAdd', oMul, oMul', oMulM, oEq, oNe, oEqS, oNeS, oIn, oNin, eChain, oIx, oSet, cLen, cList, cListM, cTuple, cSum, cAll, cAny, cInt, cAbs, cMax2, cMin2, cDivmod, cGcd, cIsi, cRepr, lstInts, lstBls, startD, wipeD, List.map_cons, List.map_nil, List.length_cons, List.length_nil, List.cons_append, List.nil_append, List.replicate_succ, List.replicate_zero, List.set_cons_succ, List.set_cons_zero, List.getElem?_cons_succ, List.getElem?_cons_zero, List.filterMap_cons_some, List.filterMap_nil, Nat.reduceAdd, Nat.reduceSub, Nat.sub_self, Nat.reduceLT, Nat.reduceMul, Nat.zero_add, Nat.add_zero, if_true, if_false, and_true, true_and, and_false, false_and, or_true, true_or, or_false, false_or, not_true_eq_false, not_false_eq_true, Bool.not_true, Bool.not_false, Bool.false_eq_true, ite_true, ite_false, reduceIte, reduceCtorEq, eq_self, rs_N, rs_W, rs_Row, rs_S, rs_R, rs_B, it_N, it_W, it_Row, it_S, it_R, sq_W, sq_Row, sq_S, td_N, td_W, td_Row, td_S, rs_I, it_I, sq_I, td_I, rs_Ss, it_Ss, sq_Ss, td_Ss, cu_S, cu_W, cu_Row, atI_0, atI_1, $xs,*])
/-! ### energies -/
section
variable {N : Net} (ok : N.Ok) (sb : SmB (2 ^ 50) 10 N) {sc : List Rat} (ls : sc.length = N.n) (hs : ∀ q ∈ sc, Scl q)
include ok sb
include ls hs
end
end Gx

/-! Gx, data side 21: helping nets, lots, spreading. -/
namespace Gx
open PySem L2

/-! ### states by cells -/
def leS : List Bool → List Bool → Prop
  | [], [] => True
  | a :: s, b :: t => (a = true → b = true) ∧ leS s t
  | _, _ => False
theorem leS_len : ∀ {s t : List Bool}, leS s t → s.length = t.length
  | [], [], _ => rfl
  | _ :: s, _ :: t, h => by rw [List.length_cons, List.length_cons, leS_len h.2]
  | [], _ :: _, h => h.elim
  | _ :: _, [], h => h.elim
theorem leS_refl : ∀ s : List Bool, leS s s
  | [] => trivial
  | _ :: s => ⟨id, leS_refl s⟩
theorem leS_trans : ∀ {s t u : List Bool}, leS s t → leS t u → leS s u
  | [], [], [], _, _ => trivial
  | _ :: s, _ :: t, _ :: u, h, h' => ⟨fun z => h'.1 (h.1 z), leS_trans h.2 h'.2⟩
  | [], _ :: _, _, h, _ => h.elim
  | _ :: _, [], _, h, _ => h.elim
  | [], [], _ :: _, _, h => h.elim
  | _ :: _, _ :: _, [], _, h => h.elim
theorem leS_anti : ∀ {s t : List Bool}, leS s t → leS t s → s = t
  | [], [], _, _ => rfl
  | a :: s, b :: t, h, h' => by
    rw [leS_anti h.2 h'.2]
    congr 1
    cases a <;> cases b <;> first | rfl | exact (nomatch h.1 rfl) | exact (nomatch h'.1 rfl)
  | [], _ :: _, h, _ => h.elim
  | _ :: _, [], h, _ => h.elim
theorem leS_at : ∀ {s t : List Bool}, leS s t → ∀ i, s.getD i false = true → t.getD i false = true
  | [], [], _, _, h => h
  | _ :: _, _ :: _, h, 0, z => h.1 z
  | _ :: s, _ :: t, h, i + 1, z => leS_at h.2 i z
  | [], _ :: _, h, _, _ => h.elim
  | _ :: _, [], h, _, _ => h.elim
theorem leS_of : ∀ {s t : List Bool}, s.length = t.length → (∀ i, i < s.length → s.getD i false = true → t.getD i false = true) → leS s t
  | [], [], _, _ => trivial
  | _ :: s, _ :: t, hl, h => ⟨h 0 (by simp), leS_of (by simpa using hl) fun i hi z => h (i + 1) (by simpa using hi) z⟩
  | [], _ :: _, hl, _ => by simp at hl
  | _ :: _, [], hl, _ => by simp at hl
def joinS (s t : List Bool) : List Bool := List.zipWith (fun a b => a || b) s t
theorem joinS_len {s t : List Bool} (h : s.length = t.length) : (joinS s t).length = s.length := by
  unfold joinS
  rw [List.length_zipWith]; omega
theorem joinS_at {s t : List Bool} (h : s.length = t.length) {i : Nat} (hi : i < s.length) : (joinS s t).getD i false = (s.getD i false || t.getD i false) := by
  rw [getD_eq (by rw [joinS_len h]; exact hi), getD_eq hi, getD_eq (by omega)]
  unfold joinS
  rw [List.getElem_zipWith]
theorem leS_join {s t : List Bool} (h : s.length = t.length) : leS s (joinS s t) := leS_of (joinS_len h).symm fun i hi z => by rw [joinS_at h hi, z]; rfl
theorem join_leS {s t u : List Bool} (h : s.length = t.length) (h1 : leS s u) (h2 : leS t u) : leS (joinS s t) u := leS_of ((joinS_len h).trans (leS_len h1)) fun i hi z => by
  rw [joinS_len h] at hi
  rw [joinS_at h hi, Bool.or_eq_true] at z
  rcases z with z | z
  · exact leS_at h1 i z
  · exact leS_at h2 i z
def cnt : List Bool → Nat
  | [] => 0
  | b :: s => (if b = true then 1 else 0) + cnt s
theorem cnt_le : ∀ s : List Bool, cnt s ≤ s.length
  | [] => Nat.le_refl _
  | b :: s => by
    have := cnt_le s
    show (if b = true then 1 else 0) + cnt s ≤ s.length + 1
    split <;> omega
theorem cnt_mono : ∀ {s t : List Bool}, leS s t → cnt s ≤ cnt t ∧ (s ≠ t → cnt s < cnt t)
  | [], [], _ => ⟨Nat.le_refl _, fun h => absurd rfl h⟩
  | a :: s, b :: t, h => by
    obtain ⟨i1, i2⟩ := cnt_mono h.2
    show (if a = true then 1 else 0) + cnt s ≤ (if b = true then 1 else 0) + cnt t ∧ (_ → (if a = true then 1 else 0) + cnt s < (if b = true then 1 else 0) + cnt t)
    cases a <;> cases b
    · exact ⟨by simpa using i1, fun z => by simpa using i2 fun y => z (by rw [y])⟩
    · exact ⟨by simp; omega, fun _ => by simp; omega⟩
    · exact (nomatch h.1 rfl)
    · exact ⟨by simpa using i1, fun z => by simpa using i2 fun y => z (by rw [y])⟩
  | [], _ :: _, h => h.elim
  | _ :: _, [], h => h.elim

/-! ### nets that help -/
def helping (N : Net) : Bool := N.ws.all fun r => r.all fun q => decide (0 ≤ q)
theorem dotB_mono : ∀ {ws : List Rat} {s t : List Bool}, (∀ q ∈ ws, (0 : Rat) ≤ q) → leS s t → dotB ws s ≤ dotB ws t
  | [], s, t, _, h => by
    have e : ∀ s : List Bool, dotB [] s = 0 := fun s => by cases s <;> rfl
    rw [e, e]; exact Rat.le_refl
  | w :: ws, [], [], _, _ => Rat.le_refl
  | w :: ws, a :: s, b :: t, hw, h => by
    have ih := dotB_mono (ws := ws) (fun q hq => hw q (List.mem_cons_of_mem _ hq)) h.2
    have w0 := hw w List.mem_cons_self
    show (if a = true then w else 0) + dotB ws s ≤ (if b = true then w else 0) + dotB ws t
    have := h.1
    cases a <;> cases b
    · simp; grind
    · simp; grind
    · exact (nomatch this rfl)
    · simp; grind
  | _ :: _, [], _ :: _, _, h => h.elim
  | _ :: _, _ :: _, [], _, h => h.elim
theorem wants_mono {N : Net} (ok : N.Ok) (hp : helping N = true) {s t : List Bool} (h : leS s t) : leS (wants N s) (wants N t) := by
  refine leS_of (by rw [wants_length, wants_length]) fun i hi z => ?_
  rw [wants_length] at hi
  rw [wants_getD hi, decide_eq_true_eq] at z ⊢
  unfold helping at hp
  rw [List.all_eq_true] at hp
  have hr := hp (wrow N i) (wrow_mem (by rw [ok.sq]; exact hi))
  rw [List.all_eq_true] at hr
  have := dotB_mono (ws := wrow N i) (fun q hq => of_decide_eq_true (hr q hq)) h
  rw [hear_dot] at z ⊢
  grind
def rise (N : Net) (s : List Bool) : List Bool := joinS s (wants N s)
def clo (N : Net) : Nat → List Bool → List Bool
  | 0, s => s
  | k + 1, s => if rise N s = s then s else clo N k (rise N s)
theorem clo_succ (N : Net) (k : Nat) (s : List Bool) : clo N (k + 1) s = if rise N s = s then s else clo N k (rise N s) := rfl
/-- all that comes on, from these on -/
def cls (N : Net) (s : List Bool) : List Bool := clo N N.n s
section
variable {N : Net} {s : List Bool}
theorem rise_len (hs : s.length = N.n) : (rise N s).length = N.n := by unfold rise; rw [joinS_len (by rw [wants_length, hs]), hs]
theorem rise_le (hs : s.length = N.n) : leS s (rise N s) := leS_join (by rw [wants_length, hs])
theorem clo_spec : ∀ (k : Nat) (s : List Bool), s.length = N.n → N.n - cnt s ≤ k → (clo N k s).length = N.n ∧ leS s (clo N k s) ∧ rise N (clo N k s) = clo N k s
  | 0, s, hs, hk => by
    refine ⟨hs, leS_refl s, ?_⟩
    have h1 := cnt_le s
    have l := rise_le hs
    have h2 := cnt_le (rise N s)
    rw [rise_len hs] at h2
    show rise N s = s
    apply Classical.byContradiction
    intro z
    have := (cnt_mono l).2 fun y => z y.symm
    omega
  | k + 1, s, hs, hk => by
    rw [clo_succ]
    by_cases z : rise N s = s
    · rw [if_pos z]
      exact ⟨hs, leS_refl s, z⟩
    · rw [if_neg z]
      have l := rise_le hs
      have := (cnt_mono l).2 fun y => z y.symm
      obtain ⟨i1, i2, i3⟩ := clo_spec k (rise N s) (rise_len hs) (by omega)
      exact ⟨i1, leS_trans l i2, i3⟩
theorem clo_least (ok : N.Ok) (hp : helping N = true) {t : List Bool} (ht : leS (wants N t) t) : ∀ (k : Nat) (s : List Bool), s.length = N.n → leS s t → leS (clo N k s) t
  | 0, s, _, h => h
  | k + 1, s, hs, h => by
    rw [clo_succ]
    split
    · exact h
    · exact clo_least ok hp ht k (rise N s) (rise_len hs) (join_leS (by rw [wants_length, hs]) h (leS_trans (wants_mono ok hp h) ht))
theorem cls_len (hs : s.length = N.n) : (cls N s).length = N.n := (clo_spec N.n s hs (by omega)).1
theorem cls_le (hs : s.length = N.n) : leS s (cls N s) := (clo_spec N.n s hs (by omega)).2.1
theorem cls_closed (hs : s.length = N.n) : leS (wants N (cls N s)) (cls N s) := by
  obtain ⟨h1, _, h3⟩ := clo_spec N.n s hs (by omega)
  have h1 : (cls N s).length = N.n := h1
  have h3 : rise N (cls N s) = cls N s := h3
  have : leS (wants N (cls N s)) (rise N (cls N s)) := leS_of (by rw [rise_len h1, wants_length]) fun i hi z => by
    unfold rise
    rw [wants_length] at hi
    rw [joinS_at (by rw [wants_length]; exact h1) (by rw [h1]; exact hi), z, Bool.or_true]
  rw [h3] at this
  exact this
theorem cls_least (ok : N.Ok) (hp : helping N = true) {t : List Bool} (hs : s.length = N.n) (h : leS s t) (ht : leS (wants N t) t) : leS (cls N s) t := clo_least ok hp ht N.n s hs h
end
end Gx

/-! Gx, data side 22: helping nets, lots: the library's defs. -/
namespace Gx
open PySem L2
local macro_rules | `(tactic| simp_arith [$xs,*]) => `(tactic| try simp only [eVar, eC, eBin, eUn, tBl, tAnd', tOr', tNot', eAnd, eOr, eNot, eIf, aNil, aCons, eTup, eLst, eLstM, eCall, eCallK, pick, sNext, sSeq, sBreak, sCont, sDrop, sRet, sRetN, sIf, sNever, gNm, gsNil, gsCons, gTupl, gSubs, sAsg, sPar, sPar3, sFor, iSeq, seqG_tup, seqG_lst, seqG_scr, iRange1, iRange2, iEnumG, iZipG, td_tup, td_lst, td_scr, eLc, eLcM, tYes', pNone, pSome, eSl, cu_tup, cu_lst, cu_scr, eMt, eMt0, mAppend, isL, rs_non, rs_bl, rs_int, rs_str, rs_tup, rs_lst', rs_scr, itemsOf_tup, itemsOf_lst, itemsOf_scr, oI, oI0, oSub, oFdiv, oMod, oPow, oShl, oShr, oAnd, oOr, oXor, oLt, oLe, oGt, oGe, oNeg, oIsN, oNotN, Gx.isNon, oAdd, oAdd', oMul, oMul', oMulM, oEq, oNe, oEqS, oNeS, oIn, oNin, eChain, oIx, oSet, cLen, cList, cListM, cTuple, cSum, cAll, cAny, cInt, cAbs, cMax2, cMin2, cDivmod, cGcd, cIsi, cRepr, lstInts, lstBls, startD, wipeD, List.map_cons, List.map_nil, List.length_cons, List.length_nil, List.cons_append, List.nil_append, List.replicate_succ, List.replicate_zero, List.set_cons_succ, List.set_cons_zero, List.getElem?_cons_succ, List.getElem?_cons_zero, List.filterMap_cons_some, List.filterMap_nil, Nat.reduceAdd, Nat.reduceSub, Nat.sub_self, Nat.reduceLT, Nat.reduceMul, Nat.zero_add, Nat.add_zero, if_true, if_false, and_true, true_and, and_false, false_and, or_true, true_or, or_false, false_or, not_true_eq_false, not_false_eq_true, Bool.not_true, Bool.not_false, Bool.false_eq_true, ite_true, ite_false, reduceIte, reduceCtorEq, eq_self, $xs,*])
local macro_rules | `(tactic| simp_arith! [$xs,*]) => `(tactic| try simp only [eVar, eC, eBin, eUn, tBl, tAnd', tOr', tNot', eAnd, eOr, eNot, eIf, aNil, aCons, eTup, eLst, eLstM, eCall, eCallK, pick, sNext, sSeq, sBreak, sCont, sDrop, sRet, sRetN, sIf, sNever, gNm, gsNil, gsCons, gTupl, gSubs, sAsg, sPar, sPar3, sFor, iSeq, seqG_tup, seqG_lst, seqG_scr, iRange1, iRange2, iEnumG, iZipG, td_tup, td_lst, td_scr, eLc, eLcM, tYes', pNone, pSome, eSl, cu_tup, cu_lst, cu_scr, eMt, eMt0, mAppend, isL, rs_non, rs_bl, rs_int, rs_str, rs_tup, rs_lst', rs_scr, itemsOf_tup, itemsOf_lst, itemsOf_scr, oI, oI0, oSub, oFdiv, oMod, oPow, oShl, oShr, oAnd, oOr, oXor, oLt, oLe, oGt, oGe, oNeg, oIsN, oNotN, Gx.isNon, oAdd, oAdd', oMul, oMul', oMulM, oEq, oNe, oEqS, oNeS, oIn, oNin, eChain, oIx, oSet, cLen, cList, cListM, cTuple, cSum, cAll, cAny, cInt, cAbs, cMax2, cMin2, cDivmod, cGcd, cIsi, cRepr, lstInts, lstBls, startD, wipeD, List.map_cons, List.map_nil, List.length_cons, List.length_nil, List.cons_append, List.nil_append, List.replicate_succ, List.replicate_zero, List.set_cons_succ, List.set_cons_zero, List.getElem?_cons_succ, List.getElem?_cons_zero, List.filterMap_cons_some, List.filterMap_nil, Nat.reduceAdd, Nat.reduceSub, Nat.sub_self, Nat.reduceLT, Nat.reduceMul, Nat.zero_add, Nat.add_zero, if_true, if_false, and_true, true_and, and_false, false_and, or_true, true_or, or_false, false_or, not_true_eq_false, not_false_eq_true, Bool.not_true, Bool.not_false, Bool.false_eq_true, ite_true, ite_false, reduceIte, reduceCtorEq, eq_self, rs_N, rs_W, rs_Row, rs_S, rs_R, rs_B, it_N, it_W, it_Row, it_S, it_R, sq_W, sq_Row, sq_S, td_N, td_W, td_Row, td_S, rs_I, it_I, sq_I, td_I, rs_Ss, it_Ss, sq_Ss, td_Ss, cu_S, cu_W, cu_Row, atI_0, atI_1, $xs,*])
theorem c2_nil {g : TG'} {tt : TT'} {ti1 : IT'} {g1 : TG'} {tt1 : TT'} {te : ET} {gd : Sto → Prop} {vs vs1 : List Nat} {τ : Tau} {Z : List D → Sto → Prop} {acc : List D} {S : Sto} (hg : gd S) (h : Z acc S) : cmpG2 g tt ti1 g1 tt1 te gd vs vs1 τ Z [] acc S := ⟨hg, h⟩
def γ_helps : OL := fun ds S R => ∃ N : Net, ds = [encN N] ∧ N.Ok ∧ R (.bl (helping N)) S
def body_is_helping_by : ST := sRet (eCall cAll (aCons (eLc2 (iSeq (eBin oIx (eVar 0) (eC (.int 0)))) (gNm 1) (tYes') (iSeq (eVar 1)) (gNm 2) (tYes') (eBin oGe (eBin oIx (eVar 2) (eC (.int 0))) (eC (.int 0))) [1, 2] [2]) (aNil)))
theorem num_nonneg (q : Rat) : decide (0 ≤ q.num) = decide (0 ≤ q) := by
  have := Rat.num_nonneg (q := q)
  by_cases z : 0 ≤ q
  · rw [decide_eq_true z, decide_eq_true (this.mpr z)]
  · rw [decide_eq_false z, decide_eq_false fun y => z (this.mp y)]
theorem helps_loop {x0 : Option D} {Z : List D → Sto → Prop} {S : Sto} : ∀ (ws : List (List Rat)) (acc : List Bool), (∀ r ∈ ws, r.length ≤ 8) → acc.length + 8 * ws.length ≤ 1000 → (∀ bs : List Bool, bs.all id = (acc.all id && ws.all fun r => r.all fun q => decide (0 ≤ q)) → Z (bs.map .bl) S) →
    cmpG2 (gNm 1) tYes' (iSeq (eVar 1)) (gNm 2) tYes' (eBin oGe (eBin oIx (eVar 2) (eC (.int 0))) (eC (.int 0))) (fun _ => True) [1, 2] [2] [x0, none, none] Z (ws.map encRow) (acc.map .bl) S
  | [], acc, _, _, h => c2_nil trivial (h acc (by simp))
  | r :: ws, acc, hl, hz, h => by
    refine ⟨trivial, ?_⟩
    have hr := hl r List.mem_cons_self
    rw [List.length_cons] at hz
    simp_arith! [wipeD]
    refine lc_map encR (fun q => .bl (decide (0 ≤ q))) r _ (fun q hq Q hQ => ?_) trivial (sz1000 (by rw [List.length_map]; omega)) ?_
    · simp_arith! [wipeD, num_nonneg]
      exact hQ
    · have e : acc.map D.bl ++ r.map (fun q => D.bl (decide (0 ≤ q))) = (acc ++ r.map fun q => decide (0 ≤ q)).map D.bl := by rw [List.map_append, List.map_map]; rfl
      rw [e]
      refine helps_loop ws (acc ++ r.map fun q => decide (0 ≤ q)) (fun x hx => hl x (List.mem_cons_of_mem _ hx)) (by rw [List.length_append, List.length_map]; omega) fun bs hb => h bs ?_
      rw [hb, List.all_append, List.all_cons, List.all_map, Bool.and_assoc]; rfl
theorem law_is_helping_by : Law 3 γ_helps body_is_helping_by := by
  intro ds S R ⟨N, e, ok, h⟩
  subst e
  have q := fin_of h
  have h8 := ok.few
  unfold body_is_helping_by
  simp only [sRet, eCall, aCons, aNil, eLc2, iSeq, startD, List.map_cons, List.map_nil, List.length_cons, List.length_nil, Nat.reduceAdd, Nat.reduceSub, List.replicate_succ, List.replicate_zero, List.cons_append, List.nil_append]
  simp_arith! []
  refine helps_loop N.ws [] (fun r hr => by rw [ok.row r hr]; exact h8) (by rw [List.length_nil, ok.sq]; omega) fun bs hb => ?_
  simp_arith [blsOf_map]
  rw [hb]
  exact q
def body_check_helping (γ_is_helping_by : OL) : ST := sIf (tNot' (tBl (eCall γ_is_helping_by (aCons (eVar 0) (aNil))))) (sNever) (sNext)
def γ_check_helping : OL := fun ds S R => ∃ N : Net, ds = [encN N] ∧ (N.Ok ∧ helping N = true) ∧ R .non S
theorem law_check_helping : Law 1 γ_check_helping (body_check_helping γ_helps) := by
  intro ds S R ⟨N, e, ⟨ok, hp⟩, h⟩
  subst e
  have q := fin_of h
  unfold body_check_helping γ_helps
  simp_arith []
  refine ⟨N, rfl, ok, ?_⟩
  simp_arith [hp]
  exact q
/-! ### lots -/
structure Lot (n : Nat) (l : List Nat) : Prop where
  asc : l.Pairwise (· < ·)
  lt : ∀ x ∈ l, x < n
def γ_wrong_in_lot : OL := fun ds S R => ∃ (N : Net) (l : List Nat) (k : Nat), ds = [encN N, encI l, .int k] ∧ (Lot N.n l ∧ k ≤ l.length ∧ l.length ≤ 1000) ∧ R (.lst []) S
def body_wrong_in_lot (γ_is_cell_by : OL) : ST := sSeq (sIf (tOr' (tNot' (tBl (eCall cIsi (aCons (eVar 1) (aCons (eC (.ty "tuple")) (aNil)))))) (tBl (eBin oLt (eCall cLen (aCons (eVar 1) (aNil))) (eVar 2)))) (sRet (eLst (aCons (eC .non) (aNil)))) (sNext))
  (sSeq (sFor (iEnumG (aCons (eVar 1) (aNil))) (gTupl 2 (gsCons (gNm 3) (gsCons (gNm 4) (gsNil)))) (sIf (tOr' (tNot' (tBl (eCall γ_is_cell_by (aCons (eVar 0) (aCons (eVar 4) (aNil)))))) (tAnd' (tBl (eBin oGt (eVar 3) (eC (.int 0)))) (tBl (eBin oGe (eBin oIx (eVar 1) (eBin oSub (eVar 3) (eC (.int 1)))) (eVar 4))))) (sRet (eLst (aCons (eVar 3) (aNil)))) (sNext)))
  (sRet (eLst (aNil))))
theorem isiI (l : List Nat) : isiD "tuple" (encI l) = true := rfl
theorem topI (l : List Nat) : isPlainTop (encI l) = true := rfl
theorem law_wrong_in_lot : Law 5 γ_wrong_in_lot (body_wrong_in_lot γ_is_cell_by) := by
  intro ds S R ⟨N, l, k, e, ⟨lo, hk, h1⟩, h⟩
  subst e
  have q := fin_of h
  unfold body_wrong_in_lot
  refine seqK fun kk hh => ?_
  have nk : ¬ ((l.length : Int) < (k : Int)) := by omega
  simp_arith! [isiI, topI, List.mem_cons, String.reduceEq, List.length_map, nk, decide_false]
  rw [hh]
  refine seqK fun kk hh => ?_
  simp_arith! []
  rw [enumD_map0, zipIdx_range (0 : Nat), List.map_map]
  refine for_all (fun j : Nat => .tup [.int j, .int (l.getD j 0 : Nat)]) (fun done τ S' => S' = S ∧ ∃ x3 x4, τ = [some (encN N), some (encI l), some (.int k), x3, x4]) (List.range l.length) ⟨rfl, none, none, rfl⟩ (fun done j todo τ S' K ea ⟨hS, x3, x4, hτ⟩ hK => ?_) fun τ S' ⟨hS, x3, x4, hτ⟩ => ?_
  · subst hS hτ
    have hj : j < l.length := List.mem_range.mp (by rw [ea]; simp)
    have hlt : l.getD j 0 < N.n := lo.lt _ (getD_mem hj)
    unfold γ_is_cell_by
    simp_arith []
    refine ⟨N, _, rfl, rfl, ?_⟩
    simp_arith [isBw_nat hlt]
    by_cases z : (0 : Int) < (j : Int)
    · have g : L2.atI (l.map fun i : Nat => D.int (i : Int)) ((j : Int) - 1) = some (.int (l.getD (j - 1) 0 : Nat)) := by
        have e : (j : Int) - 1 = ((j - 1 : Nat) : Int) := by omega
        rw [e]
        exact atI_mapD (f := fun i : Nat => D.int (i : Int)) 0 (by omega)
      have lt : ¬ ((l.getD j 0 : Nat) : Int) ≤ ((l.getD (j - 1) 0 : Nat) : Int) := by
        have := List.pairwise_iff_getElem.mp lo.asc (j - 1) j (by omega) hj (by omega)
        rw [getD_eq hj, getD_eq (show j - 1 < l.length by omega)]
        omega
      simp_arith! [z, decide_true, g, lt, decide_false]
      exact hK _ _ ⟨rfl, _, _, rfl⟩
    · simp_arith [z, decide_false]
      exact hK _ _ ⟨rfl, _, _, rfl⟩
  · subst hS hτ
    show kk _ _
    rw [hh]
    simp_arith []
    exact ⟨Nat.zero_le _, q⟩
def γ_check_lot : OL := fun ds S R => ∃ (N : Net) (l : List Nat) (k : Nat), ds = [encN N, encI l, .int k] ∧ (N.Ok ∧ helping N = true ∧ Lot N.n l ∧ k ≤ l.length ∧ l.length ≤ 1000) ∧ R .non S
def body_check_lot (γ_check_net γ_wrong_in_lot γ_check_helping : OL) : ST := sSeq (sDrop (eCall γ_check_net (aCons (eVar 0) (aNil))))
  (sSeq (sFor (iSeq (eCall γ_wrong_in_lot (aCons (eVar 0) (aCons (eVar 1) (aCons (eVar 2) (aNil)))))) (gNm 3) (sNever))
  (sDrop (eCall γ_check_helping (aCons (eVar 0) (aNil)))))
theorem law_check_lot : Law 4 γ_check_lot (body_check_lot γ_check_net γ_wrong_in_lot γ_check_helping) := by
  intro ds S R ⟨N, l, k, e, ⟨ok, hp, lo, hk, h1⟩, h⟩
  subst e
  have q := fin_of h
  unfold body_check_lot γ_check_net γ_wrong_in_lot γ_check_helping
  simp_arith []
  exact ⟨N, rfl, ok, N, l, k, rfl, ⟨lo, hk, h1⟩, trivial, N, rfl, ⟨ok, hp⟩, q⟩
/-! ### lit cells -/
def lit (n : Nat) (l : List Nat) : List Bool := (List.range n).map fun i => decide (i ∈ l)
theorem lit_len (n : Nat) (l : List Nat) : (lit n l).length = n := by unfold lit; simp
theorem lit_at {n : Nat} {l : List Nat} {i : Nat} (h : i < n) : (lit n l).getD i false = decide (i ∈ l) := by
  rw [getD_eq (by rw [lit_len]; exact h)]
  unfold lit
  rw [List.getElem_map, List.getElem_range]
def ons (s : List Bool) : List Nat := (List.range s.length).filter fun i => s.getD i false
theorem ons_lot {s : List Bool} {n : Nat} (h : s.length = n) : Lot n (ons s) := by
  unfold ons
  refine ⟨List.Pairwise.filter _ List.pairwise_lt_range, fun x hx => ?_⟩
  have := List.mem_range.mp (List.mem_filter.mp hx).1
  omega
theorem lit_ons {s : List Bool} {n : Nat} (h : s.length = n) : lit n (ons s) = s := by
  apply List.ext_getElem
  · rw [lit_len, h]
  · intro i h1 h2
    rw [← getD_eq (d := false) h1, lit_at (by rw [lit_len] at h1; exact h1), ← getD_eq (d := false) h2]
    unfold ons
    rw [Bool.eq_iff_iff, decide_eq_true_eq, List.mem_filter, List.mem_range]
    exact ⟨fun z => z.2, fun z => ⟨h2, z⟩⟩
def γ_lit_by : OL := fun ds S R => ∃ (N : Net) (l : List Nat), ds = [encN N, encI l] ∧ (N.n ≤ 8) ∧ R (encS (lit N.n l)) S
def body_lit_by (γ_many_cells : OL) : ST := sRet (eCall cTuple (aCons (eLc (iRange1 (aCons (eCall γ_many_cells (aCons (eVar 0) (aNil))) (aNil))) (gNm 2) (tYes') (eIf (tBl (eBin oIn (eVar 2) (eVar 1))) (eC (.int 1)) (eC (.int 0))) [2]) (aNil)))
theorem plI (l : List Nat) : pl 60 (.tup (l.map fun i : Nat => .int (i : Int))) = true := pl_mono (pl_encI l) (by decide)
theorem inI (i : Nat) (l : List Nat) : inD (.int (i : Int)) (l.map fun i : Nat => .int (i : Int)) = decide (i ∈ l) := inD_map (f := fun i : Nat => D.int (i : Int)) eqD_nat i l
theorem rsI {S : Sto} (l : List Nat) : rs S (encI l) = .tup (l.map fun i : Nat => .int (i : Int)) := rfl
theorem law_lit_by : Law 3 γ_lit_by (body_lit_by γ_many_cells) := by
  intro ds S R ⟨N, l, e, h8, h⟩
  subst e
  have q := fin_of h
  unfold body_lit_by γ_many_cells
  simp_arith []
  refine ⟨N, rfl, ⟨by omega, by omega⟩, ?_⟩
  rw [Int.toNat_natCast]
  refine rng_map (fun i => encB (decide (i ∈ l))) N.n (fun i hi Q hQ => ?_) trivial (sz1000 (by omega)) ?_
  · simp_arith [wipeD, rsI, inI, plI, pl_int]
    by_cases z : i ∈ l
    · rw [decide_eq_true z] at hQ
      simp_arith [z, decide_true]
      exact hQ
    · rw [decide_eq_false z] at hQ
      simp_arith [z, decide_false]
      exact hQ
  · unfold encS lit at q
    rw [List.map_map] at q
    exact q
def γ_on_in : OL := fun ds S R => ∃ (s : List Bool), ds = [encS s] ∧ s.length ≤ 1000 ∧ R (encI (ons s)) S
def body_on_in : ST := sRet (eCall cTuple (aCons (eLc (iEnumG (aCons (eVar 0) (aNil))) (gTupl 2 (gsCons (gNm 1) (gsCons (gNm 2) (gsNil)))) (tBl (eBin oEq (eVar 2) (eC (.int 1)))) (eVar 1) [1, 2]) (aNil)))
theorem law_on_in : Law 3 γ_on_in body_on_in := by
  intro ds S R ⟨s, e, hl, h⟩
  subst e
  have q := fin_of h
  unfold body_on_in
  simp_arith! []
  rw [enumD_map0, zipIdx_range false, List.map_map]
  refine lc_filter (fun i : Nat => .tup [.int i, encB (s.getD i false)]) (fun i => s.getD i false) (fun i : Nat => .int (i : Int)) (List.range s.length) [] (fun i hi Y M hy hM => ?_) trivial (sz1000 (by rw [List.length_range, List.length_nil]; omega)) q
  simp_arith! [wipeD, encB, pl_int, eqD_bit]
  split
  · rename_i z; exact hy z
  · rename_i z; exact hM (by simpa using z)
def γ_grown_by : OL := fun ds S R => ∃ (s t : List Bool), ds = [encS s, encS t] ∧ s.length ≤ 1000 ∧ R (encS (joinS s t)) S
def body_grown_by : ST := sRet (eCall cTuple (aCons (eLc (iZipG (aCons (eVar 0) (aCons (eVar 1) (aNil)))) (gTupl 2 (gsCons (gNm 2) (gsCons (gNm 3) (gsNil)))) (tYes') (eCall cMax2 (aCons (eVar 2) (aCons (eVar 3) (aNil)))) [2, 3]) (aNil)))
theorem max_bit (a b : Bool) : (if bit b > bit a then bit b else bit a) = bit (a || b) := by cases a <;> cases b <;> rfl
theorem law_grown_by : Law 4 γ_grown_by body_grown_by := by
  intro ds S R ⟨s, t, e, hl, h⟩
  subst e
  have q := fin_of h
  unfold body_grown_by
  simp_arith! [zipD_map]
  refine lc_map (fun p : Bool × Bool => .tup [encB p.1, encB p.2]) (fun p => encB (p.1 || p.2)) (List.zip s t) [] (fun p hp Q hQ => ?_) trivial (sz1000 (by rw [List.length_zip, List.length_nil]; omega)) ?_
  · simp_arith! [wipeD, encB, max_bit]
    exact hQ
  · simp_arith []
    have e : (List.zip s t).map (fun p => encB (p.1 || p.2)) = (joinS s t).map encB := by
      unfold joinS
      rw [← List.map_uncurry_zip_eq_zipWith, List.map_map]; rfl
    rw [e]
    exact q
/-! ### spreading -/
def γ_risen : OL := fun ds S R => ∃ (N : Net) (s : List Bool), ds = [encN N, encS s] ∧ NS N s ∧ R (encS (cls N s)) S
def body_risen (γ_grown_by γ_wanted_by : OL) : ST := sSeq (sAsg (eCall γ_grown_by (aCons (eVar 1) (aCons (eCall γ_wanted_by (aCons (eVar 0) (aCons (eVar 1) (aNil)))) (aNil)))) (gNm 2))
  (sSeq (sWh (tBl (eBin oNe (eVar 2) (eVar 1))) (sPar 1 2 (aCons (eVar 2) (aCons (eCall γ_grown_by (aCons (eVar 2) (aCons (eCall γ_wanted_by (aCons (eVar 0) (aCons (eVar 2) (aNil)))) (aNil)))) (aNil)))))
  (sRet (eVar 2)))
theorem risen_loop {N : Net} {G : EndG} {S : Sto} : ∀ (k : Nat) (s : List Bool), NS N s → N.n - cnt s ≤ k → (∀ x1, G.nx [some (encN N), x1, some (encS (clo N k s))] S) →
    ∃ n, whG (tBl (eBin oNe (eVar 2) (eVar 1))) (sPar 1 2 (aCons (eVar 2) (aCons (eCall γ_grown_by (aCons (eVar 2) (aCons (eCall γ_wanted_by (aCons (eVar 0) (aCons (eVar 2) (aNil)))) (aNil)))) (aNil)))) n G [some (encN N), some (encS s), some (encS (rise N s))] S
  | k, s, ns, hk, h => by
    by_cases z : rise N s = s
    · refine ⟨1, ?_⟩
      unfold whG
      have hc : clo N k s = s := by
        cases k with
        | zero => rfl
        | succ k => rw [clo_succ, if_pos z]
      rw [hc] at h
      simp_arith! [pl_encS', eqD_encS, z, decide_true]
      exact h _
    · have hs := ns.2.2
      have l := rise_le hs
      have c1 := (cnt_mono l).2 fun y => z y.symm
      have c2 := cnt_le (rise N s)
      have h8 := ns.1.few
      rw [rise_len hs] at c2
      match k, hk, h with
      | 0, hk, _ => omega
      | k + 1, hk, h =>
        have ns' : NS N (rise N s) := ⟨ns.1, ns.2.1, rise_len hs⟩
        obtain ⟨n, q⟩ := risen_loop (G := G) (S := S) k (rise N s) ns' (by omega) fun x1 => by
          have := h x1
          rw [clo_succ, if_neg z] at this
          exact this
        refine ⟨n + 1, ?_⟩
        unfold whG
        unfold γ_grown_by γ_wanted_by
        simp_arith! [pl_encS', eqD_encS, z, decide_false]
        exact ⟨N, _, rfl, ns', _, _, rfl, by rw [rise_len hs]; omega, q⟩
theorem law_risen : Law 3 γ_risen (body_risen γ_grown_by γ_wanted_by) := by
  intro ds S R ⟨N, s, e, ns, h⟩
  subst e
  have q := fin_of h
  have h8 := ns.1.few
  have hs := ns.2.2
  unfold body_risen
  refine seqK fun kk hk => ?_
  unfold γ_grown_by γ_wanted_by
  simp_arith []
  refine ⟨N, s, rfl, ns, _, _, rfl, by omega, ?_⟩
  rw [hk]
  refine seqK fun kk hk => ?_
  refine risen_loop N.n s ns (by omega) fun x1 => ?_
  show kk _ S
  rw [hk]
  simp_arith []
  exact q
/-- the lot that comes on -/
def sprd (N : Net) (l : List Nat) : List Nat := ons (cls N (lit N.n l))
def γ_spread_by : OL := fun ds S R => ∃ (N : Net) (l : List Nat), ds = [encN N, encI l] ∧ (N.Ok ∧ Sm N) ∧ R (encI (sprd N l)) S
def body_spread_by (γ_on_in γ_risen γ_lit_by : OL) : ST := sRet (eCall γ_on_in (aCons (eCall γ_risen (aCons (eVar 0) (aCons (eCall γ_lit_by (aCons (eVar 0) (aCons (eVar 1) (aNil)))) (aNil)))) (aNil)))
theorem law_spread_by : Law 2 γ_spread_by (body_spread_by γ_on_in γ_risen γ_lit_by) := by
  intro ds S R ⟨N, l, e, ⟨ok, sm⟩, h⟩
  subst e
  have h8 := ok.few
  unfold body_spread_by γ_on_in γ_risen γ_lit_by
  simp_arith []
  exact ⟨N, l, rfl, h8, N, _, rfl, ⟨ok, sm, lit_len _ _⟩, _, rfl, by rw [cls_len (lit_len _ _)]; omega, fin_of h⟩
def γ_light_by : OL := fun ds S R => ∃ (N : Net) (l : List Nat), ds = [encN N, encI l] ∧ (N.Ok ∧ Sm N) ∧ R (.bl (decide ((sprd N l).length = N.n))) S
def body_does_light_by (γ_spread_by γ_many_cells : OL) : ST := sRet (eBin oEq (eCall cLen (aCons (eCall γ_spread_by (aCons (eVar 0) (aCons (eVar 1) (aNil)))) (aNil))) (eCall γ_many_cells (aCons (eVar 0) (aNil))))
theorem law_does_light_by : Law 2 γ_light_by (body_does_light_by γ_spread_by γ_many_cells) := by
  intro ds S R ⟨N, l, e, ns, h⟩
  subst e
  unfold body_does_light_by γ_spread_by γ_many_cells
  simp_arith! [List.length_map, pl_int, eqD_nat]
  exact ⟨N, l, rfl, ns, N, rfl, fin_of h⟩
def γ_spread : OL := fun ds S R => ∃ (N : Net) (l : List Nat), ds = [encN N, encI l] ∧ (N.Ok ∧ Sm N ∧ helping N = true ∧ Lot N.n l ∧ l.length ≤ 1000) ∧ R (encI (sprd N l)) S
def body_spread (γ_check_lot γ_spread_by : OL) : ST := sSeq (sDrop (eCall γ_check_lot (aCons (eVar 0) (aCons (eVar 1) (aCons (eC (.int 0)) (aNil))))))
  (sRet (eCall γ_spread_by (aCons (eVar 0) (aCons (eVar 1) (aNil)))))
theorem law_spread : Law 2 γ_spread (body_spread γ_check_lot γ_spread_by) := by
  intro ds S R ⟨N, l, e, ⟨ok, sm, hp, lo, hl⟩, h⟩
  subst e
  unfold body_spread γ_check_lot γ_spread_by
  simp_arith []
  exact ⟨N, l, 0, rfl, ⟨ok, hp, lo, Nat.zero_le _, hl⟩, N, l, rfl, ⟨ok, sm⟩, fin_of h⟩
def γ_light : OL := fun ds S R => ∃ (N : Net) (l : List Nat), ds = [encN N, encI l] ∧ (N.Ok ∧ Sm N ∧ helping N = true ∧ Lot N.n l ∧ l.length ≤ 1000) ∧ R (.bl (decide ((sprd N l).length = N.n))) S
def body_does_light (γ_check_lot γ_does_light_by : OL) : ST := sSeq (sDrop (eCall γ_check_lot (aCons (eVar 0) (aCons (eVar 1) (aCons (eC (.int 0)) (aNil))))))
  (sRet (eCall γ_does_light_by (aCons (eVar 0) (aCons (eVar 1) (aNil)))))
theorem law_does_light : Law 2 γ_light (body_does_light γ_check_lot γ_light_by) := by
  intro ds S R ⟨N, l, e, ⟨ok, sm, hp, lo, hl⟩, h⟩
  subst e
  unfold body_does_light γ_check_lot γ_light_by
  simp_arith []
  exact ⟨N, l, 0, rfl, ⟨ok, hp, lo, Nat.zero_le _, hl⟩, N, l, rfl, ⟨ok, sm⟩, fin_of h⟩
end Gx

/-! Gx, data side 23: drawn nets of the first family. -/
namespace Gx
open PySem L2
local macro_rules | `(tactic| simp_arith [$xs,*]) => `(tactic| try simp only [eVar, eC, eBin, eUn, tBl, tAnd', tOr', tNot', eAnd, eOr, eNot, eIf, aNil, aCons, eTup, eLst, eLstM, eCall, eCallK, pick, sNext, sSeq, sBreak, sCont, sDrop, sRet, sRetN, sIf, sNever, gNm, gsNil, gsCons, gTupl, gSubs, sAsg, sPar, sPar3, sFor, iSeq, seqG_tup, seqG_lst, seqG_scr, iRange1, iRange2, iEnumG, iZipG, td_tup, td_lst, td_scr, eLc, eLcM, tYes', pNone, pSome, eSl, cu_tup, cu_lst, cu_scr, eMt, eMt0, mAppend, isL, rs_non, rs_bl, rs_int, rs_str, rs_tup, rs_lst', rs_scr, itemsOf_tup, itemsOf_lst, itemsOf_scr, oI, oI0, oSub, oFdiv, oMod, oPow, oShl, oShr, oAnd, oOr, oXor, oLt, oLe, oGt, oGe, oNeg, oIsN, oNotN, Gx.isNon, oAdd, oAdd', oMul, oMul', oMulM, oEq, oNe, oEqS, oNeS, oIn, oNin, eChain, oIx, oSet, cLen, cList, cListM, cTuple, cSum, cAll, cAny, cInt, cAbs, cMax2, cMin2, cDivmod, cGcd, cIsi, cRepr, lstInts, lstBls, startD, wipeD, List.map_cons, List.map_nil, List.length_cons, List.length_nil, List.cons_append, List.nil_append, List.replicate_succ, List.replicate_zero, List.set_cons_succ, List.set_cons_zero, List.getElem?_cons_succ, List.getElem?_cons_zero, List.filterMap_cons_some, List.filterMap_nil, Nat.reduceAdd, Nat.reduceSub, Nat.sub_self, Nat.reduceLT, Nat.reduceMul, Nat.zero_add, Nat.add_zero, if_true, if_false, and_true, true_and, and_false, false_and, or_true, true_or, or_false, false_or, not_true_eq_false, not_false_eq_true, Bool.not_true, Bool.not_false, Bool.false_eq_true, ite_true, ite_false, reduceIte, reduceCtorEq, eq_self, $xs,*])
local macro_rules | `(tactic| simp_arith! [$xs,*]) => `(tactic| try simp only [eVar, eC, eBin, eUn, tBl, tAnd', tOr', tNot', eAnd, eOr, eNot, eIf, aNil, aCons, eTup, eLst, eLstM, eCall, eCallK, pick, sNext, sSeq, sBreak, sCont, sDrop, sRet, sRetN, sIf, sNever, gNm, gsNil, gsCons, gTupl, gSubs, sAsg, sPar, sPar3, sFor, iSeq, seqG_tup, seqG_lst, seqG_scr, iRange1, iRange2, iEnumG, iZipG, td_tup, td_lst, td_scr, eLc, eLcM, tYes', pNone, pSome, eSl, cu_tup, cu_lst, cu_scr, eMt, eMt0, mAppend, isL, rs_non, rs_bl, rs_int, rs_str, rs_tup, rs_lst', rs_scr, itemsOf_tup, itemsOf_lst, itemsOf_scr, oI, oI0, oSub, oFdiv, oMod, oPow, oShl, oShr, oAnd, oOr, oXor, oLt, oLe, oGt, oGe, oNeg, oIsN, oNotN, Gx.isNon, oAdd, oAdd', oMul, oMul', oMulM, oEq, oNe, oEqS, oNeS, oIn, oNin, eChain, oIx, oSet, cLen, cList, cListM, cTuple, cSum, cAll, cAny, cInt, cAbs, cMax2, cMin2, cDivmod, cGcd, cIsi, cRepr, lstInts, lstBls, startD, wipeD, List.map_cons, List.map_nil, List.length_cons, List.length_nil, List.cons_append, List.nil_append, List.replicate_succ, List.replicate_zero, List.set_cons_succ, List.set_cons_zero, List.getElem?_cons_succ, List.getElem?_cons_zero, List.filterMap_cons_some, List.filterMap_nil, Nat.reduceAdd, Nat.reduceSub, Nat.sub_self, Nat.reduceLT, Nat.reduceMul, Nat.zero_add, Nat.add_zero, if_true, if_false, and_true, true_and, and_false, false_and, or_true, true_or, or_false, false_or, not_true_eq_false, not_false_eq_true, Bool.not_true, Bool.not_false, Bool.false_eq_true, ite_true, ite_false, reduceIte, reduceCtorEq, eq_self, rs_N, rs_W, rs_Row, rs_S, rs_R, rs_B, it_N, it_W, it_Row, it_S, it_R, sq_W, sq_Row, sq_S, td_N, td_W, td_Row, td_S, rs_I, it_I, sq_I, td_I, rs_Ss, it_Ss, sq_Ss, td_Ss, cu_S, cu_W, cu_Row, atI_0, atI_1, $xs,*])
abbrev PW : Rat → Prop := Bd 6000000 10
/-! ### cells that chase one another -/
theorem NetAt.drw {P M : Rat → Prop} {p p3 p4 : Addr} {n i : Nat} {S0 S S' : Sto} {ws : List (List Rat)} {ms : List Rat} (a : NetAt P M p p3 p4 n i S0 S ws ms) (o3 : Own p S0 p3) (o4 : Own p S0 p4) (d : Drw p S S') : NetAt P M p p3 p4 n i S0 S' ws ms :=
  ⟨a.ext.drw d, by rw [d.at o3.2]; exact a.rows, by rw [d.at o4.2]; exact a.marks, a.lw, a.lm, a.lr, a.hp, a.hm, a.dia⟩
end Gx

/-! Gx, data side 24: the end of most laws. -/
namespace Gx
open PySem L2
local macro_rules | `(tactic| simp_arith [$xs,*]) => `(tactic| try simp only [eVar, eC, eBin, eUn, tBl, tAnd', tOr', tNot', eAnd, eOr, eNot, eIf, aNil, aCons, eTup, eLst, eLstM, eCall, eCallK, pick, sNext, sSeq, sBreak, sCont, sDrop, sRet, sRetN, sIf, sNever, gNm, gsNil, gsCons, gTupl, gSubs, sAsg, sPar, sPar3, sFor, iSeq, seqG_tup, seqG_lst, seqG_scr, iRange1, iRange2, iEnumG, iZipG, td_tup, td_lst, td_scr, eLc, eLcM, tYes', pNone, pSome, eSl, cu_tup, cu_lst, cu_scr, eMt, eMt0, mAppend, isL, rs_non, rs_bl, rs_int, rs_str, rs_tup, rs_lst', rs_scr, itemsOf_tup, itemsOf_lst, itemsOf_scr, oI, oI0, oSub, oFdiv, oMod, oPow, oShl, oShr, oAnd, oOr, oXor, oLt, oLe, oGt, oGe, oNeg, oIsN, oNotN, Gx.isNon, oAdd, oAdd', oMul, oMul', oMulM, oEq, oNe, oEqS, oNeS, oIn, oNin, eChain, oIx, oSet, cLen, cList, cListM, cTuple, cSum, cAll, cAny, cInt, cAbs, cMax2, cMin2, cDivmod, cGcd, cIsi, cRepr, lstInts, lstBls, startD, wipeD, List.map_cons, List.map_nil, List.length_cons, List.length_nil, List.cons_append, List.nil_append, List.replicate_succ, List.replicate_zero, List.set_cons_succ, List.set_cons_zero, List.getElem?_cons_succ, List.getElem?_cons_zero, List.filterMap_cons_some, List.filterMap_nil, Nat.reduceAdd, Nat.reduceSub, Nat.sub_self, Nat.reduceLT, Nat.reduceMul, Nat.zero_add, Nat.add_zero, if_true, if_false, and_true, true_and, and_false, false_and, or_true, true_or, or_false, false_or, not_true_eq_false, not_false_eq_true, Bool.not_true, Bool.not_false, Bool.false_eq_true, ite_true, ite_false, reduceIte, reduceCtorEq, eq_self, $xs,*])
/-- a list of small numbers, as written -/
def natsIn (a b : Nat) : List D → Bool
  | [] => true
  | .int i :: es => decide ((a : Int) ≤ i ∧ i ≤ b) && natsIn a b es
  | _ :: _ => false
theorem natsIn_mem {a b : Nat} : ∀ {es : List D}, natsIn a b es = true → ∀ {x : D}, x ∈ es → ∃ n : Nat, x = .int n ∧ a ≤ n ∧ n ≤ b
  | [], _, _, hx => nomatch hx
  | e :: es, h, x, hx => by
    unfold natsIn at h
    split at h
    · rename_i e'; cases e'
    · rename_i i es' e'
      injection e' with e1 e2
      subst e1 e2
      rw [Bool.and_eq_true, decide_eq_true_eq] at h
      rcases List.mem_cons.mp hx with rfl | hx
      · exact ⟨i.toNat, by congr 1; omega, by omega, by omega⟩
      · exact natsIn_mem h.2 hx
    · cases h
def γ_whole : OL := fun ds S R => ∃ ns : List Int, ds = [.scr (ns.map .int)] ∧ ns.length ≤ 63 ∧ R (.bl true) S
end Gx

/-! Gx, data side 25: which numbers are come to from one; rings; ends. Plain. -/
namespace Gx
open PySem L2
/-! ### lists without doubles -/
theorem nd_len {α : Type} [DecidableEq α] : ∀ {l m : List α}, l.Nodup → (∀ x ∈ l, x ∈ m) → l.length ≤ m.length
  | [], _, _, _ => Nat.zero_le _
  | x :: l, m, h, hs => by
    rw [List.nodup_cons] at h
    have hx := hs x List.mem_cons_self
    have ih := nd_len (m := m.erase x) h.2 fun y hy => (List.mem_erase_of_ne (fun z => by subst z; exact h.1 hy)).mpr (hs y (List.mem_cons_of_mem _ hy))
    rw [List.length_erase_of_mem hx] at ih
    have := List.length_pos_of_mem hx
    rw [List.length_cons]
    omega
/-- sorted numbers -/
def srt (l : List Nat) : List Nat := l.mergeSort fun a b => decide (a ≤ b)
/-! ### moves -/
abbrev Gr := List (List Nat)
def rw' (ms : Gr) (i : Nat) : List Nat := ms.getD i []
def bStep (ms : Gr) (l : List Nat) (t : Nat) : List Nat := match l[t]? with
  | some x => l ++ (rw' ms x).filter fun y => decide (y ∉ l)
  | none => l
def bfs (ms : Gr) (s : Nat) : Nat → List Nat
  | 0 => [s]
  | t + 1 => bStep ms (bfs ms s t) t
/-- all that is come to -/
def reach (ms : Gr) (s : Nat) : List Nat := bfs ms s ms.length
section
variable {ms : Gr} {s : Nat}
/-! ### rings, ends -/
def cyc (ms : Gr) (n : Nat) : Bool := (rw' ms n).any fun e => decide (n ∈ reach ms e)
def calm (ms : Gr) (s : Nat) : Bool := !(reach ms s).any (cyc ms)
def isEnd (ms : Gr) (n : Nat) : Bool := decide (rw' ms n = [])
def endsN (ms : Gr) (s : Nat) : List Nat := (srt (reach ms s)).filter (isEnd ms)
def sure (ms : Gr) (s : Nat) : Bool := calm ms s && decide ((endsN ms s).length = 1)
/-! ### how long rows of moves may be -/
end
end Gx

--W2
/-! Gx, data side 26: moves as numbers, what is come to, ends. -/
namespace Gx
open PySem L2
local macro_rules | `(tactic| simp_arith [$xs,*]) => `(tactic| try simp only [eVar, eC, eBin, eUn, tBl, tAnd', tOr', tNot', eAnd, eOr, eNot, eIf, aNil, aCons, eTup, eLst, eLstM, eCall, eCallK, pick, sNext, sSeq, sBreak, sCont, sDrop, sRet, sRetN, sIf, sNever, gNm, gsNil, gsCons, gTupl, gSubs, sAsg, sPar, sPar3, sFor, iSeq, seqG_tup, seqG_lst, seqG_scr, iRange1, iRange2, iEnumG, iZipG, td_tup, td_lst, td_scr, eLc, eLcM, tYes', pNone, pSome, eSl, cu_tup, cu_lst, cu_scr, eMt, eMt0, mAppend, isL, rs_non, rs_bl, rs_int, rs_str, rs_tup, rs_lst', rs_scr, itemsOf_tup, itemsOf_lst, itemsOf_scr, oI, oI0, oSub, oFdiv, oMod, oPow, oShl, oShr, oAnd, oOr, oXor, oLt, oLe, oGt, oGe, oNeg, oIsN, oNotN, Gx.isNon, oAdd, oAdd', oMul, oMul', oMulM, oEq, oNe, oEqS, oNeS, oIn, oNin, eChain, oIx, oSet, cLen, cList, cListM, cTuple, cSum, cAll, cAny, cInt, cAbs, cMax2, cMin2, cDivmod, cGcd, cIsi, cRepr, lstInts, lstBls, startD, wipeD, List.map_cons, List.map_nil, List.length_cons, List.length_nil, List.cons_append, List.nil_append, List.replicate_succ, List.replicate_zero, List.set_cons_succ, List.set_cons_zero, List.getElem?_cons_succ, List.getElem?_cons_zero, List.filterMap_cons_some, List.filterMap_nil, Nat.reduceAdd, Nat.reduceSub, Nat.sub_self, Nat.reduceLT, Nat.reduceMul, Nat.zero_add, Nat.add_zero, if_true, if_false, and_true, true_and, and_false, false_and, or_true, true_or, or_false, false_or, not_true_eq_false, not_false_eq_true, Bool.not_true, Bool.not_false, Bool.false_eq_true, ite_true, ite_false, reduceIte, reduceCtorEq, eq_self, eDicT0, eDixT, gSubsT, keysOf, cListT, cSortedP, oSubB, oMulT, iZip2G, eDic0, eDic1, oDix, oDin, oDnin, oDset, iKeysG, cSortedE, cListD, Gx.keyOf, cMaxL, cMinL, cSortedI, mIndex, $xs,*])
local macro_rules | `(tactic| simp_arith! [$xs,*]) => `(tactic| try simp only [eVar, eC, eBin, eUn, tBl, tAnd', tOr', tNot', eAnd, eOr, eNot, eIf, aNil, aCons, eTup, eLst, eLstM, eCall, eCallK, pick, sNext, sSeq, sBreak, sCont, sDrop, sRet, sRetN, sIf, sNever, gNm, gsNil, gsCons, gTupl, gSubs, sAsg, sPar, sPar3, sFor, iSeq, seqG_tup, seqG_lst, seqG_scr, iRange1, iRange2, iEnumG, iZipG, td_tup, td_lst, td_scr, eLc, eLcM, tYes', pNone, pSome, eSl, cu_tup, cu_lst, cu_scr, eMt, eMt0, mAppend, isL, rs_non, rs_bl, rs_int, rs_str, rs_tup, rs_lst', rs_scr, itemsOf_tup, itemsOf_lst, itemsOf_scr, oI, oI0, oSub, oFdiv, oMod, oPow, oShl, oShr, oAnd, oOr, oXor, oLt, oLe, oGt, oGe, oNeg, oIsN, oNotN, Gx.isNon, oAdd, oAdd', oMul, oMul', oMulM, oEq, oNe, oEqS, oNeS, oIn, oNin, eChain, oIx, oSet, cLen, cList, cListM, cTuple, cSum, cAll, cAny, cInt, cAbs, cMax2, cMin2, cDivmod, cGcd, cIsi, cRepr, lstInts, lstBls, startD, wipeD, List.map_cons, List.map_nil, List.length_cons, List.length_nil, List.cons_append, List.nil_append, List.replicate_succ, List.replicate_zero, List.set_cons_succ, List.set_cons_zero, List.getElem?_cons_succ, List.getElem?_cons_zero, List.filterMap_cons_some, List.filterMap_nil, Nat.reduceAdd, Nat.reduceSub, Nat.sub_self, Nat.reduceLT, Nat.reduceMul, Nat.zero_add, Nat.add_zero, if_true, if_false, and_true, true_and, and_false, false_and, or_true, true_or, or_false, false_or, not_true_eq_false, not_false_eq_true, Bool.not_true, Bool.not_false, Bool.false_eq_true, ite_true, ite_false, reduceIte, reduceCtorEq, eq_self, eDicT0, eDixT, gSubsT, keysOf, cListT, cSortedP, oSubB, oMulT, iZip2G, eDic0, eDic1, oDix, oDin, oDnin, oDset, iKeysG, cSortedE, cListD, Gx.keyOf, cMaxL, cMinL, cSortedI, mIndex, rs_N, rs_W, rs_Row, rs_S, rs_R, rs_B, it_N, it_W, it_Row, it_S, it_R, sq_W, sq_Row, sq_S, td_N, td_W, td_Row, td_S, rs_I, it_I, sq_I, td_I, rs_Ss, it_Ss, sq_Ss, td_Ss, cu_S, cu_W, cu_Row, atI_0, atI_1, $xs,*])
/-! ### while -/
/-! ### numbers of states -/
/-! ### all moves -/
theorem eqD_K (l : List Nat) : eqD (.lst (encK l)) (.lst []) = decide (l = []) := by
  cases l with
  | nil => rfl
  | cons x l => rfl
theorem pl_K (l : List Nat) : pl 60 (.lst (encK l)) = true := by
  show (encK l).all (pl 59) = true
  rw [List.all_eq_true]
  intro x hx
  obtain ⟨y, _, rfl⟩ := List.mem_map.mp hx
  exact pl_int
theorem inD_K (i : Nat) (l : List Nat) : inD (.int i) (encK l) = decide (i ∈ l) := inD_map (f := fun i : Nat => D.int (i : Int)) eqD_nat i l
theorem encK_app (l m : List Nat) : encK l ++ encK m = encK (l ++ m) := by unfold encK; rw [List.map_append]
theorem encK_len (l : List Nat) : (encK l).length = l.length := by unfold encK; rw [List.length_map]
theorem encK_ints (l : List Nat) : encK l = (l.map fun i : Nat => (i : Int)).map .int := by unfold encK; rw [List.map_map]; rfl
theorem intsOf_K (l : List Nat) : intsOf (encK l) = some (l.map fun i : Nat => (i : Int)) := by rw [encK_ints, intsOf_map]
end Gx

--W2
/-! Gx, data side 27: what is come to from a number; how long rows of moves may be. -/
namespace Gx
open PySem L2
local macro_rules | `(tactic| simp_arith [$xs,*]) => `(tactic| try simp only [eVar, eC, eBin, eUn, tBl, tAnd', tOr', tNot', eAnd, eOr, eNot, eIf, aNil, aCons, eTup, eLst, eLstM, eCall, eCallK, pick, sNext, sSeq, sBreak, sCont, sDrop, sRet, sRetN, sIf, sNever, gNm, gsNil, gsCons, gTupl, gSubs, sAsg, sPar, sPar3, sFor, iSeq, seqG_tup, seqG_lst, seqG_scr, iRange1, iRange2, iEnumG, iZipG, td_tup, td_lst, td_scr, eLc, eLcM, tYes', pNone, pSome, eSl, cu_tup, cu_lst, cu_scr, eMt, eMt0, mAppend, isL, rs_non, rs_bl, rs_int, rs_str, rs_tup, rs_lst', rs_scr, itemsOf_tup, itemsOf_lst, itemsOf_scr, oI, oI0, oSub, oFdiv, oMod, oPow, oShl, oShr, oAnd, oOr, oXor, oLt, oLe, oGt, oGe, oNeg, oIsN, oNotN, Gx.isNon, oAdd, oAdd', oMul, oMul', oMulM, oEq, oNe, oEqS, oNeS, oIn, oNin, eChain, oIx, oSet, cLen, cList, cListM, cTuple, cSum, cAll, cAny, cInt, cAbs, cMax2, cMin2, cDivmod, cGcd, cIsi, cRepr, lstInts, lstBls, startD, wipeD, List.map_cons, List.map_nil, List.length_cons, List.length_nil, List.cons_append, List.nil_append, List.replicate_succ, List.replicate_zero, List.set_cons_succ, List.set_cons_zero, List.getElem?_cons_succ, List.getElem?_cons_zero, List.filterMap_cons_some, List.filterMap_nil, Nat.reduceAdd, Nat.reduceSub, Nat.sub_self, Nat.reduceLT, Nat.reduceMul, Nat.zero_add, Nat.add_zero, if_true, if_false, and_true, true_and, and_false, false_and, or_true, true_or, or_false, false_or, not_true_eq_false, not_false_eq_true, Bool.not_true, Bool.not_false, Bool.false_eq_true, ite_true, ite_false, reduceIte, reduceCtorEq, eq_self, eDicT0, eDixT, gSubsT, keysOf, cListT, cSortedP, oSubB, oMulT, iZip2G, eDic0, eDic1, oDix, oDin, oDnin, oDset, iKeysG, cSortedE, cListD, Gx.keyOf, cMaxL, cMinL, cSortedI, mIndex, $xs,*])
theorem sz_lt {n : Nat} (h : n ≤ 1000) : n < sizeLine := Nat.lt_of_le_of_lt h (by decide)
/-! ### reached_from -/
abbrev keyN (i : Nat) : Key := Sum.inl (i : Int)
end Gx

--W2
/-! Gx, data side 28: how many moves can be made. -/
namespace Gx
open PySem L2
local macro_rules | `(tactic| simp_arith [$xs,*]) => `(tactic| try simp only [eVar, eC, eBin, eUn, tBl, tAnd', tOr', tNot', eAnd, eOr, eNot, eIf, aNil, aCons, eTup, eLst, eLstM, eCall, eCallK, pick, sNext, sSeq, sBreak, sCont, sDrop, sRet, sRetN, sIf, sNever, gNm, gsNil, gsCons, gTupl, gSubs, sAsg, sPar, sPar3, sFor, iSeq, seqG_tup, seqG_lst, seqG_scr, iRange1, iRange2, iEnumG, iZipG, td_tup, td_lst, td_scr, eLc, eLcM, tYes', pNone, pSome, eSl, cu_tup, cu_lst, cu_scr, eMt, eMt0, mAppend, isL, rs_non, rs_bl, rs_int, rs_str, rs_tup, rs_lst', rs_scr, itemsOf_tup, itemsOf_lst, itemsOf_scr, oI, oI0, oSub, oFdiv, oMod, oPow, oShl, oShr, oAnd, oOr, oXor, oLt, oLe, oGt, oGe, oNeg, oIsN, oNotN, Gx.isNon, oAdd, oAdd', oMul, oMul', oMulM, oEq, oNe, oEqS, oNeS, oIn, oNin, eChain, oIx, oSet, cLen, cList, cListM, cTuple, cSum, cAll, cAny, cInt, cAbs, cMax2, cMin2, cDivmod, cGcd, cIsi, cRepr, lstInts, lstBls, startD, wipeD, List.map_cons, List.map_nil, List.length_cons, List.length_nil, List.cons_append, List.nil_append, List.replicate_succ, List.replicate_zero, List.set_cons_succ, List.set_cons_zero, List.getElem?_cons_succ, List.getElem?_cons_zero, List.filterMap_cons_some, List.filterMap_nil, Nat.reduceAdd, Nat.reduceSub, Nat.sub_self, Nat.reduceLT, Nat.reduceMul, Nat.zero_add, Nat.add_zero, if_true, if_false, and_true, true_and, and_false, false_and, or_true, true_or, or_false, false_or, not_true_eq_false, not_false_eq_true, Bool.not_true, Bool.not_false, Bool.false_eq_true, ite_true, ite_false, reduceIte, reduceCtorEq, eq_self, eDicT0, eDixT, gSubsT, keysOf, cListT, cSortedP, oSubB, oMulT, iZip2G, eDic0, eDic1, oDix, oDin, oDnin, oDset, iKeysG, cSortedE, cListD, Gx.keyOf, cMaxL, cMinL, cSortedI, mIndex, $xs,*])
def nn (f : List (Option Nat)) : Nat := f.countP (·.isNone)
structure HtP (ms : Gr) (f : List (Option Nat)) : Prop where
  len : f.length = ms.length
  z : ∀ i, i < ms.length → rw' ms i = [] → f.getD i none = some 0
  so : ∀ i v, i < ms.length → f.getD i none = some v → ∀ j ∈ rw' ms i, ∃ w, f.getD j none = some w ∧ w < v
  ex : ∀ i v, i < ms.length → f.getD i none = some v → (rw' ms i = [] ∧ v = 0) ∨ ∃ j ∈ rw' ms i, ∃ w, f.getD j none = some w ∧ v = w + 1
theorem getD_setO {f : List (Option Nat)} {i j : Nat} {o : Option Nat} (hi : i < f.length) : (f.set i o).getD j none = if j = i then o else f.getD j none := by
  rw [List.getD_eq_getElem?_getD, List.getD_eq_getElem?_getD, List.getElem?_set]
  by_cases z : j = i
  · subst z; rw [if_pos rfl, if_pos rfl, if_pos hi]; rfl
  · rw [if_neg (Ne.symm z), if_neg z]
theorem HtP.set {ms : Gr} {f : List (Option Nat)} (h : HtP ms f) {i : Nat} (hi : i < ms.length) (e : f.getD i none = none) {m : Nat}
    (hj : ∀ j ∈ rw' ms i, ∃ w, f.getD j none = some w ∧ w ≤ m) (hm : ∃ j ∈ rw' ms i, f.getD j none = some m) : HtP ms (f.set i (some (m + 1))) := by
  have hl : i < f.length := by rw [h.len]; exact hi
  have ne : ∀ j w, f.getD j none = some w → j ≠ i := fun j w e1 y => by rw [y, e] at e1; cases e1
  have keep : ∀ j w, f.getD j none = some w → (f.set i (some (m + 1))).getD j none = some w := fun j w e1 => by rw [getD_setO hl, if_neg (ne j w e1), e1]
  refine ⟨by rw [List.length_set]; exact h.len, fun a ha z => ?_, fun a v ha z j hj' => ?_, fun a v ha z => ?_⟩
  · exact keep a 0 (h.z a ha z)
  · rw [getD_setO hl] at z
    by_cases y : a = i
    · rw [if_pos y] at z
      cases z
      rw [y] at hj'
      obtain ⟨w, e1, l⟩ := hj j hj'
      exact ⟨w, keep j w e1, by omega⟩
    · rw [if_neg y] at z
      obtain ⟨w, e1, l⟩ := h.so a v ha z j hj'
      exact ⟨w, keep j w e1, l⟩
  · rw [getD_setO hl] at z
    by_cases y : a = i
    · rw [if_pos y] at z
      cases z
      obtain ⟨j, hj', e1⟩ := hm
      rw [y]
      exact .inr ⟨j, hj', m, keep j m e1, rfl⟩
    · rw [if_neg y] at z
      rcases h.ex a v ha z with h1 | ⟨j, hj', w, e1, l⟩
      · exact .inl h1
      · exact .inr ⟨j, hj', w, keep j w e1, l⟩
end Gx

--W2
/-! Gx, data side 29: ends, sure ends, folds; the same as the laws reckon them. -/
namespace Gx
open PySem L2
local macro_rules | `(tactic| simp_arith [$xs,*]) => `(tactic| try simp only [eVar, eC, eBin, eUn, tBl, tAnd', tOr', tNot', eAnd, eOr, eNot, eIf, aNil, aCons, eTup, eLst, eLstM, eCall, eCallK, pick, sNext, sSeq, sBreak, sCont, sDrop, sRet, sRetN, sIf, sNever, gNm, gsNil, gsCons, gTupl, gSubs, sAsg, sPar, sPar3, sFor, iSeq, seqG_tup, seqG_lst, seqG_scr, iRange1, iRange2, iEnumG, iZipG, td_tup, td_lst, td_scr, eLc, eLcM, tYes', pNone, pSome, eSl, cu_tup, cu_lst, cu_scr, eMt, eMt0, mAppend, isL, rs_non, rs_bl, rs_int, rs_str, rs_tup, rs_lst', rs_scr, itemsOf_tup, itemsOf_lst, itemsOf_scr, oI, oI0, oSub, oFdiv, oMod, oPow, oShl, oShr, oAnd, oOr, oXor, oLt, oLe, oGt, oGe, oNeg, oIsN, oNotN, Gx.isNon, oAdd, oAdd', oMul, oMul', oMulM, oEq, oNe, oEqS, oNeS, oIn, oNin, eChain, oIx, oSet, cLen, cList, cListM, cTuple, cSum, cAll, cAny, cInt, cAbs, cMax2, cMin2, cDivmod, cGcd, cIsi, cRepr, lstInts, lstBls, startD, wipeD, List.map_cons, List.map_nil, List.length_cons, List.length_nil, List.cons_append, List.nil_append, List.replicate_succ, List.replicate_zero, List.set_cons_succ, List.set_cons_zero, List.getElem?_cons_succ, List.getElem?_cons_zero, List.filterMap_cons_some, List.filterMap_nil, Nat.reduceAdd, Nat.reduceSub, Nat.sub_self, Nat.reduceLT, Nat.reduceMul, Nat.zero_add, Nat.add_zero, if_true, if_false, and_true, true_and, and_false, false_and, or_true, true_or, or_false, false_or, not_true_eq_false, not_false_eq_true, Bool.not_true, Bool.not_false, Bool.false_eq_true, ite_true, ite_false, reduceIte, reduceCtorEq, eq_self, eDicT0, eDixT, gSubsT, keysOf, cListT, cSortedP, oSubB, oMulT, iZip2G, eDic0, eDic1, oDix, oDin, oDnin, oDset, iKeysG, cSortedE, cListD, Gx.keyOf, cMaxL, cMinL, cSortedI, mIndex, $xs,*])
/-! ### end_numbers -/
/-! ### states_of -/
/-! ### come_by, ends_by -/
/-! ### sure ends -/
theorem encK_inj (a b : List Nat) : D.lst (encK a) = .lst (encK b) ↔ a = b := by
  constructor
  · intro h
    injection h with h
    exact (List.map_inj_right (fun x y e => by injection e with e; omega)).mp h
  · intro h; rw [h]
theorem cl_Ks : ∀ l : List Nat, clL (encK l) = true
  | [] => rfl
  | a :: l => cl_Ks l
theorem eqD_KK (a b : List Nat) : eqD (.lst (encK a)) (.lst (encK b)) = decide (a = b) := by
  have h : eqD (.lst (encK a)) (.lst (encK b)) = true ↔ a = b := by
    have := eqD_clL (encK a) (encK b) (cl_Ks a) (cl_Ks b)
    refine Iff.trans this ?_
    rw [← encK_inj]
    exact ⟨fun h => by rw [h], fun h => by injection h⟩
  by_cases z : a = b
  · rw [decide_eq_true z, h.mpr z]
  · rw [decide_eq_false z]
    exact Bool.eq_false_iff.mpr fun y => z (h.mp y)
/-! ### what is asked -/
end Gx

--W2
/-! Gx, data side 30: moves, what is come to, rings and ends as the laws reckon them, by numbers. -/
namespace Gx
open PySem L2
local macro_rules | `(tactic| simp_arith [$xs,*]) => `(tactic| try simp only [eVar, eC, eBin, eUn, tBl, tAnd', tOr', tNot', eAnd, eOr, eNot, eIf, aNil, aCons, eTup, eLst, eLstM, eCall, eCallK, pick, sNext, sSeq, sBreak, sCont, sDrop, sRet, sRetN, sIf, sNever, gNm, gsNil, gsCons, gTupl, gSubs, sAsg, sPar, sPar3, sFor, iSeq, seqG_tup, seqG_lst, seqG_scr, iRange1, iRange2, iEnumG, iZipG, td_tup, td_lst, td_scr, eLc, eLcM, tYes', pNone, pSome, eSl, cu_tup, cu_lst, cu_scr, eMt, eMt0, mAppend, isL, rs_non, rs_bl, rs_int, rs_str, rs_tup, rs_lst', rs_scr, itemsOf_tup, itemsOf_lst, itemsOf_scr, oI, oI0, oSub, oFdiv, oMod, oPow, oShl, oShr, oAnd, oOr, oXor, oLt, oLe, oGt, oGe, oNeg, oIsN, oNotN, Gx.isNon, oAdd, oAdd', oMul, oMul', oMulM, oEq, oNe, oEqS, oNeS, oIn, oNin, eChain, oIx, oSet, cLen, cList, cListM, cTuple, cSum, cAll, cAny, cInt, cAbs, cMax2, cMin2, cDivmod, cGcd, cIsi, cRepr, lstInts, lstBls, startD, wipeD, List.map_cons, List.map_nil, List.length_cons, List.length_nil, List.cons_append, List.nil_append, List.replicate_succ, List.replicate_zero, List.set_cons_succ, List.set_cons_zero, List.getElem?_cons_succ, List.getElem?_cons_zero, List.filterMap_cons_some, List.filterMap_nil, Nat.reduceAdd, Nat.reduceSub, Nat.sub_self, Nat.reduceLT, Nat.reduceMul, Nat.zero_add, Nat.add_zero, if_true, if_false, and_true, true_and, and_false, false_and, or_true, true_or, or_false, false_or, not_true_eq_false, not_false_eq_true, Bool.not_true, Bool.not_false, Bool.false_eq_true, ite_true, ite_false, reduceIte, reduceCtorEq, eq_self, eDicT0, eDixT, gSubsT, keysOf, cListT, cSortedP, oSubB, oMulT, iZip2G, eDic0, eDic1, oDix, oDin, oDnin, oDset, iKeysG, cSortedE, cListD, Gx.keyOf, cMaxL, cMinL, cSortedI, mIndex, $xs,*])
/-! ### movers, moves -/
/-! ### what is come to -/
/-! ### rings -/
/-! ### ends, sure ones -/
end Gx

--W2
/-! Gx, data side 31: drawn nets of the second family. -/
namespace Gx
open PySem L2
local macro_rules | `(tactic| simp_arith [$xs,*]) => `(tactic| try simp only [eVar, eC, eBin, eUn, tBl, tAnd', tOr', tNot', eAnd, eOr, eNot, eIf, aNil, aCons, eTup, eLst, eLstM, eCall, eCallK, pick, sNext, sSeq, sBreak, sCont, sDrop, sRet, sRetN, sIf, sNever, gNm, gsNil, gsCons, gTupl, gSubs, sAsg, sPar, sPar3, sFor, iSeq, seqG_tup, seqG_lst, seqG_scr, iRange1, iRange2, iEnumG, iZipG, td_tup, td_lst, td_scr, eLc, eLcM, tYes', pNone, pSome, eSl, cu_tup, cu_lst, cu_scr, eMt, eMt0, mAppend, isL, rs_non, rs_bl, rs_int, rs_str, rs_tup, rs_lst', rs_scr, itemsOf_tup, itemsOf_lst, itemsOf_scr, oI, oI0, oSub, oFdiv, oMod, oPow, oShl, oShr, oAnd, oOr, oXor, oLt, oLe, oGt, oGe, oNeg, oIsN, oNotN, Gx.isNon, oAdd, oAdd', oMul, oMul', oMulM, oEq, oNe, oEqS, oNeS, oIn, oNin, eChain, oIx, oSet, cLen, cList, cListM, cTuple, cSum, cAll, cAny, cInt, cAbs, cMax2, cMin2, cDivmod, cGcd, cIsi, cRepr, lstInts, lstBls, startD, wipeD, List.map_cons, List.map_nil, List.length_cons, List.length_nil, List.cons_append, List.nil_append, List.replicate_succ, List.replicate_zero, List.set_cons_succ, List.set_cons_zero, List.getElem?_cons_succ, List.getElem?_cons_zero, List.filterMap_cons_some, List.filterMap_nil, Nat.reduceAdd, Nat.reduceSub, Nat.sub_self, Nat.reduceLT, Nat.reduceMul, Nat.zero_add, Nat.add_zero, if_true, if_false, and_true, true_and, and_false, false_and, or_true, true_or, or_false, false_or, not_true_eq_false, not_false_eq_true, Bool.not_true, Bool.not_false, Bool.false_eq_true, ite_true, ite_false, reduceIte, reduceCtorEq, eq_self, eDicT0, eDixT, gSubsT, keysOf, cListT, cSortedP, oSubB, oMulT, iZip2G, eDic0, eDic1, oDix, oDin, oDnin, oDset, iKeysG, cSortedE, cListD, Gx.keyOf, cMaxL, cMinL, cSortedI, mIndex, $xs,*])
end Gx

--W2
/-! Gx, data side 32: drawn helping nets; movers as a tuple. -/
namespace Gx
open PySem L2
local macro_rules | `(tactic| simp_arith [$xs,*]) => `(tactic| try simp only [eVar, eC, eBin, eUn, tBl, tAnd', tOr', tNot', eAnd, eOr, eNot, eIf, aNil, aCons, eTup, eLst, eLstM, eCall, eCallK, pick, sNext, sSeq, sBreak, sCont, sDrop, sRet, sRetN, sIf, sNever, gNm, gsNil, gsCons, gTupl, gSubs, sAsg, sPar, sPar3, sFor, iSeq, seqG_tup, seqG_lst, seqG_scr, iRange1, iRange2, iEnumG, iZipG, td_tup, td_lst, td_scr, eLc, eLcM, tYes', pNone, pSome, eSl, cu_tup, cu_lst, cu_scr, eMt, eMt0, mAppend, isL, rs_non, rs_bl, rs_int, rs_str, rs_tup, rs_lst', rs_scr, itemsOf_tup, itemsOf_lst, itemsOf_scr, oI, oI0, oSub, oFdiv, oMod, oPow, oShl, oShr, oAnd, oOr, oXor, oLt, oLe, oGt, oGe, oNeg, oIsN, oNotN, Gx.isNon, oAdd, oAdd', oMul, oMul', oMulM, oEq, oNe, oEqS, oNeS, oIn, oNin, eChain, oIx, oSet, cLen, cList, cListM, cTuple, cSum, cAll, cAny, cInt, cAbs, cMax2, cMin2, cDivmod, cGcd, cIsi, cRepr, lstInts, lstBls, startD, wipeD, List.map_cons, List.map_nil, List.length_cons, List.length_nil, List.cons_append, List.nil_append, List.replicate_succ, List.replicate_zero, List.set_cons_succ, List.set_cons_zero, List.getElem?_cons_succ, List.getElem?_cons_zero, List.filterMap_cons_some, List.filterMap_nil, Nat.reduceAdd, Nat.reduceSub, Nat.sub_self, Nat.reduceLT, Nat.reduceMul, Nat.zero_add, Nat.add_zero, if_true, if_false, and_true, true_and, and_false, false_and, or_true, true_or, or_false, false_or, not_true_eq_false, not_false_eq_true, Bool.not_true, Bool.not_false, Bool.false_eq_true, ite_true, ite_false, reduceIte, reduceCtorEq, eq_self, eDicT0, eDixT, gSubsT, keysOf, cListT, cSortedP, oSubB, oMulT, iZip2G, eDic0, eDic1, oDix, oDin, oDnin, oDset, iKeysG, cSortedE, cListD, Gx.keyOf, cMaxL, cMinL, cSortedI, mIndex, $xs,*])
local macro_rules | `(tactic| simp_arith! [$xs,*]) => `(tactic| try simp only [eVar, eC, eBin, eUn, tBl, tAnd', tOr', tNot', eAnd, eOr, eNot, eIf, aNil, aCons, eTup, eLst, eLstM, eCall, eCallK, pick, sNext, sSeq, sBreak, sCont, sDrop, sRet, sRetN, sIf, sNever, gNm, gsNil, gsCons, gTupl, gSubs, sAsg, sPar, sPar3, sFor, iSeq, seqG_tup, seqG_lst, seqG_scr, iRange1, iRange2, iEnumG, iZipG, td_tup, td_lst, td_scr, eLc, eLcM, tYes', pNone, pSome, eSl, cu_tup, cu_lst, cu_scr, eMt, eMt0, mAppend, isL, rs_non, rs_bl, rs_int, rs_str, rs_tup, rs_lst', rs_scr, itemsOf_tup, itemsOf_lst, itemsOf_scr, oI, oI0, oSub, oFdiv, oMod, oPow, oShl, oShr, oAnd, oOr, oXor, oLt, oLe, oGt, oGe, oNeg, oIsN, oNotN, Gx.isNon, oAdd, oAdd', oMul, oMul', oMulM, oEq, oNe, oEqS, oNeS, oIn, oNin, eChain, oIx, oSet, cLen, cList, cListM, cTuple, cSum, cAll, cAny, cInt, cAbs, cMax2, cMin2, cDivmod, cGcd, cIsi, cRepr, lstInts, lstBls, startD, wipeD, List.map_cons, List.map_nil, List.length_cons, List.length_nil, List.cons_append, List.nil_append, List.replicate_succ, List.replicate_zero, List.set_cons_succ, List.set_cons_zero, List.getElem?_cons_succ, List.getElem?_cons_zero, List.filterMap_cons_some, List.filterMap_nil, Nat.reduceAdd, Nat.reduceSub, Nat.sub_self, Nat.reduceLT, Nat.reduceMul, Nat.zero_add, Nat.add_zero, if_true, if_false, and_true, true_and, and_false, false_and, or_true, true_or, or_false, false_or, not_true_eq_false, not_false_eq_true, Bool.not_true, Bool.not_false, Bool.false_eq_true, ite_true, ite_false, reduceIte, reduceCtorEq, eq_self, eDicT0, eDixT, gSubsT, keysOf, cListT, cSortedP, oSubB, oMulT, iZip2G, eDic0, eDic1, oDix, oDin, oDnin, oDset, iKeysG, cSortedE, cListD, Gx.keyOf, cMaxL, cMinL, cSortedI, mIndex, rs_N, rs_W, rs_Row, rs_S, rs_R, rs_B, it_N, it_W, it_Row, it_S, it_R, sq_W, sq_Row, sq_S, td_N, td_W, td_Row, td_S, rs_I, it_I, sq_I, td_I, rs_Ss, it_Ss, sq_Ss, td_Ss, cu_S, cu_W, cu_Row, atI_0, atI_1, $xs,*])
def h_body_helping (γ__law_one γ__law_draw γ__law_lean : OL) : ST := sSeq (sPar 3 4 (aCons (eLstM (aNil)) (aCons (eLstM (aNil)) (aNil))))
  (sSeq (sFor (iRange1 (aCons (eVar 1) (aNil))) (gNm 2) (sSeq (sAsg (eLstM (aNil)) (gNm 5))
  (sSeq (sFor (iRange1 (aCons (eVar 1) (aNil))) (gNm 6) (sSeq (sAsg (eCall γ__law_one (aCons (eVar 0) (aCons (eTup (aCons (eTup (aCons (eC (.int 0)) (aCons (eC (.int 1)) (aNil)))) (aCons (eTup (aCons (eC (.int 0)) (aCons (eC (.int 1)) (aNil)))) (aCons (eTup (aCons (eC (.int 0)) (aCons (eC (.int 1)) (aNil)))) (aCons (eTup (aCons (eC (.int 1)) (aCons (eC (.int 1)) (aNil)))) (aCons (eTup (aCons (eC (.int 1)) (aCons (eC (.int 1)) (aNil)))) (aCons (eTup (aCons (eC (.int 1)) (aCons (eC (.int 2)) (aNil)))) (aCons (eTup (aCons (eC (.int 2)) (aCons (eC (.int 1)) (aNil)))) (aCons (eTup (aCons (eC (.int 1)) (aCons (eC (.int 3)) (aNil)))) (aCons (eTup (aCons (eC (.int 3)) (aCons (eC (.int 1)) (aNil)))) (aCons (eTup (aCons (eC (.int 1)) (aCons (eC (.int 1)) (aNil)))) (aNil)))))))))))) (aNil)))) (gNm 7))
  (sSeq (sIf (tBl (eBin oEq (eCall γ__law_draw (aCons (eVar 0) (aCons (eC (.int 16)) (aNil)))) (eC (.int 0)))) (sAsg (eCall γ__law_lean (aCons (eCall γ__law_draw (aCons (eVar 0) (aCons (eC (.int 1000001)) (aNil)))) (aCons (eBin oAdd (eC (.int 1)) (eCall γ__law_draw (aCons (eVar 0) (aCons (eC (.int 60)) (aNil))))) (aNil)))) (gNm 7)) (sNext))
  (sDrop (eMt mAppend (eVar 5) (aCons (eIf (tBl (eBin oNe (eVar 6) (eVar 2))) (eVar 7) (eTup (aCons (eC (.int 0)) (aCons (eC (.int 1)) (aNil))))) (aNil)))))))
  (sSeq (sDrop (eMt mAppend (eVar 3) (aCons (eCall cTuple (aCons (eVar 5) (aNil))) (aNil))))
  (sDrop (eMt mAppend (eVar 4) (aCons (eCall γ__law_one (aCons (eVar 0) (aCons (eTup (aCons (eTup (aCons (eC (.int 1)) (aCons (eC (.int 2)) (aNil)))) (aCons (eTup (aCons (eC (.int 1)) (aCons (eC (.int 2)) (aNil)))) (aCons (eTup (aCons (eC (.int 0)) (aCons (eC (.int 1)) (aNil)))) (aCons (eTup (aCons (eC (.int 1)) (aCons (eC (.int 1)) (aNil)))) (aCons (eTup (aCons (eC (.int 3)) (aCons (eC (.int 2)) (aNil)))) (aCons (eTup (aCons (eC (.int 2)) (aCons (eC (.int 1)) (aNil)))) (aCons (eTup (aCons (eUn oNeg (eC (.int 1))) (aCons (eC (.int 2)) (aNil)))) (aCons (eTup (aCons (eC (.int 5)) (aCons (eC (.int 2)) (aNil)))) (aCons (eTup (aCons (eC (.int 1)) (aCons (eC (.int 3)) (aNil)))) (aCons (eTup (aCons (eC (.int 1)) (aCons (eC (.int 1)) (aNil)))) (aNil)))))))))))) (aNil)))) (aNil))))))))
  (sRet (eTup (aCons (eCall cTuple (aCons (eVar 3) (aNil))) (aCons (eCall cTuple (aCons (eVar 4) (aNil))) (aNil))))))
def h_body_movers (γ__law_below γ__law_heard : OL) : ST := sSeq (sAsg (eLstM (aNil)) (gNm 2))
  (sSeq (sFor (iRange1 (aCons (eCall cLen (aCons (eVar 1) (aNil))) (aNil))) (gNm 3) (sIf (tBl (eBin oNe (eCall γ__law_below (aCons (eBin oIx (eBin oIx (eVar 0) (eC (.int 1))) (eVar 3)) (aCons (eCall γ__law_heard (aCons (eVar 0) (aCons (eVar 3) (aCons (eVar 1) (aNil))))) (aNil)))) (eBin oEq (eBin oIx (eVar 1) (eVar 3)) (eC (.int 1))))) (sDrop (eMt mAppend (eVar 2) (aCons (eVar 3) (aNil)))) (sNext)))
  (sRet (eCall cTuple (aCons (eVar 2) (aNil)))))
/-- not below 0, of few figures -/
def PH (q : Rat) : Prop := Bd 1000000 6 q ∧ 0 ≤ q
def nnD : D → Bool
  | .tup [.int n, .int m] => bdD 1000000 6 (.tup [.int n, .int m]) && decide (0 ≤ n)
  | _ => false
theorem nnD_of {d : D} (h : nnD d = true) : ∃ q, d = encR q ∧ PH q := by
  unfold nnD at h
  split at h
  · rename_i n m
    rw [Bool.and_eq_true, decide_eq_true_eq] at h
    obtain ⟨q, e, hb⟩ := bdD_of h.1
    refine ⟨q, e, hb, ?_⟩
    simp only [encR, D.tup.injEq, List.cons.injEq, D.int.injEq, and_true] at e
    rw [← Rat.num_nonneg, ← e.1]; exact h.2
  · cases h
theorem divInt_nonneg {a b : Int} (ha : 0 ≤ a) (hb : 0 < b) : 0 ≤ Rat.divInt a b := by
  have hc := divInt_cross (n := a) (m := b) (by omega)
  rw [← Rat.num_nonneg]
  have : 0 ≤ (Rat.divInt a b).num * b := by rw [hc]; exact Int.mul_nonneg ha (Int.natCast_nonneg _)
  exact Int.nonneg_of_mul_nonneg_left this hb
theorem PH0 : PH 0 := ⟨⟨by decide, by decide⟩, Rat.le_refl⟩
def γ_help : OL := fun ds S R => ∃ (p : Addr) (n : Nat), ds = [.ref p, .int n] ∧ Well p S ∧ (1 ≤ n ∧ n ≤ 8) ∧ ∀ N S', N.Ok → N.n = n → Drn PH (Bd 3 2) N → Drw p S S' → R (encN N) S'
theorem helping_of {M : Rat → Prop} {N : Net} (d : Drn PH M N) : helping N = true := by
  unfold helping
  rw [List.all_eq_true]
  intro r hr
  rw [List.all_eq_true]
  exact fun q hq => decide_eq_true (d.w r hr q hq).2
theorem hw1 : Kc (eTup (aCons (eTup (aCons (eC (.int 0)) (aCons (eC (.int 1)) (aNil)))) (aCons (eTup (aCons (eC (.int 0)) (aCons (eC (.int 1)) (aNil)))) (aCons (eTup (aCons (eC (.int 0)) (aCons (eC (.int 1)) (aNil)))) (aCons (eTup (aCons (eC (.int 1)) (aCons (eC (.int 1)) (aNil)))) (aCons (eTup (aCons (eC (.int 1)) (aCons (eC (.int 1)) (aNil)))) (aCons (eTup (aCons (eC (.int 1)) (aCons (eC (.int 2)) (aNil)))) (aCons (eTup (aCons (eC (.int 2)) (aCons (eC (.int 1)) (aNil)))) (aCons (eTup (aCons (eC (.int 1)) (aCons (eC (.int 3)) (aNil)))) (aCons (eTup (aCons (eC (.int 3)) (aCons (eC (.int 1)) (aNil)))) (aCons (eTup (aCons (eC (.int 1)) (aCons (eC (.int 1)) (aNil)))) (aNil))))))))))))
  (.tup [.tup [.int 0, .int 1], .tup [.int 0, .int 1], .tup [.int 0, .int 1], .tup [.int 1, .int 1], .tup [.int 1, .int 1], .tup [.int 1, .int 2], .tup [.int 2, .int 1], .tup [.int 1, .int 3], .tup [.int 3, .int 1], .tup [.int 1, .int 1]]) := by repeat' (first | exact kc_c _ | exact kc_neg _ | exact kca_nil | refine kca_cons ?_ ?_ | refine kc_tup ?_)
theorem hw2 : Kc (eTup (aCons (eTup (aCons (eC (.int 1)) (aCons (eC (.int 2)) (aNil)))) (aCons (eTup (aCons (eC (.int 1)) (aCons (eC (.int 2)) (aNil)))) (aCons (eTup (aCons (eC (.int 0)) (aCons (eC (.int 1)) (aNil)))) (aCons (eTup (aCons (eC (.int 1)) (aCons (eC (.int 1)) (aNil)))) (aCons (eTup (aCons (eC (.int 3)) (aCons (eC (.int 2)) (aNil)))) (aCons (eTup (aCons (eC (.int 2)) (aCons (eC (.int 1)) (aNil)))) (aCons (eTup (aCons (eUn oNeg (eC (.int 1))) (aCons (eC (.int 2)) (aNil)))) (aCons (eTup (aCons (eC (.int 5)) (aCons (eC (.int 2)) (aNil)))) (aCons (eTup (aCons (eC (.int 1)) (aCons (eC (.int 3)) (aNil)))) (aCons (eTup (aCons (eC (.int 1)) (aCons (eC (.int 1)) (aNil)))) (aNil))))))))))))
  (.tup [.tup [.int 1, .int 2], .tup [.int 1, .int 2], .tup [.int 0, .int 1], .tup [.int 1, .int 1], .tup [.int 3, .int 2], .tup [.int 2, .int 1], .tup [.int (-1), .int 2], .tup [.int 5, .int 2], .tup [.int 1, .int 3], .tup [.int 1, .int 1]]) := by repeat' (first | exact kc_c _ | exact kc_neg _ | exact kca_nil | refine kca_cons ?_ ?_ | refine kc_tup ?_)
theorem h_law_help : Law 8 γ_help (h_body_helping γ_one γ_draw γ_ratio) := by
  intro ds S R ⟨p, n, e, hw, ⟨h1, h8⟩, h⟩
  subst e
  have e0 := Ext.refl hw
  unfold h_body_helping
  refine seqK fun k hk => ?_
  simp_arith []
  refine ⟨by decide, fun p3 hp3 => ⟨by decide, fun p4 hp4 => ?_⟩⟩
  have e1 := e0.new (o := .lst []) hp3
  have o3 := e0.own hp3
  have o4 := e1.own hp4
  have h34 : p3 ≠ p4 := fun z => by rw [← z, up_same] at hp4; cases hp4
  have e2 := e1.set (o := .lst []) o4
  rw [hk]
  refine seqK fun k hk => ?_
  simp only [sFor, iRange1, aCons, aNil, eVar, List.getElem?_cons_succ, List.getElem?_cons_zero]
  refine ⟨⟨by omega, by omega⟩, ?_⟩
  rw [Int.toNat_natCast]
  refine for_rng (fun i τ S' => ∃ ws ms x2 x5 x6 x7, Mat PH n p p3 S S' ws i ∧ Grw (Bd 3 2) p p4 S S' ms i ∧ τ = [some (.ref p), some (.int n), x2, some (.ref p3), some (.ref p4), x5, x6, x7])
    ⟨[], [], none, none, none, none, ⟨e2, o3, by rw [up_ne h34, up_same]; rfl, rfl, (fun _ h => nomatch h), (fun _ h => nomatch h), (fun _ h => by omega)⟩, ⟨e2, o4, up_same, rfl, (fun _ h => nomatch h)⟩, rfl⟩ (fun i τ S' K hi ⟨ws, ms, x2, x5, x6, x7, mt, gr, hτ⟩ hK => ?_) fun τ S' ⟨ws, ms, x2, x5, x6, x7, mt, gr, hτ⟩ => ?_
  · subst hτ
    simp only [gNm, List.set_cons_succ, List.set_cons_zero]
    refine seqK fun k hk => ?_
    simp_arith []
    refine ⟨by decide, fun p5 hp5 => ?_⟩
    rw [hk]
    refine seqK fun k hk => ?_
    simp only [sFor, iRange1, aCons, aNil, eVar, List.getElem?_cons_succ, List.getElem?_cons_zero]
    refine ⟨⟨by omega, by omega⟩, ?_⟩
    rw [Int.toNat_natCast]
    have n35 : p3 ≠ p5 := fun z => by rw [← z, mt.at'] at hp5; cases hp5
    have n45 : p4 ≠ p5 := fun z => by rw [← z, gr.at'] at hp5; cases hp5
    refine for_rng (fun j τ S'' => ∃ r x6 x7, Grw PH p p5 S S'' r j ∧ (i < j → r.getD i 0 = 0) ∧ S'' p3 = S' p3 ∧ S'' p4 = S' p4 ∧ τ = [some (.ref p), some (.int n), some (.int i), some (.ref p3), some (.ref p4), some (.ref p5), x6, x7]) ⟨[], x6, x7, ⟨mt.ext.new hp5, mt.ext.own hp5, up_same, rfl, (fun _ h => nomatch h)⟩, (fun h => by omega), up_ne n35, up_ne n45, rfl⟩ (fun j τ S'' K hj ⟨r, x6, x7, g5, hd, h3, h4, hτ⟩ hK => ?_) fun τ S'' ⟨r, x6, x7, g5, hd, h3, h4, hτ⟩ => ?_
    · subst hτ
      simp only [gNm, List.set_cons_succ, List.set_cons_zero]
      refine seqK fun k hk => ?_
      simp only [sAsg, eCall, aCons, eVar, List.getElem?_cons_zero, gNm, List.set_cons_succ, List.set_cons_zero]
      apply hw1
      refine ⟨p, _, _, rfl, rfl, g5.ext.well, by decide, fun x S1 hx d1 => ?_⟩
      obtain ⟨q, rfl, hq⟩ := nnD_of (List.all_eq_true.mp (show ([.tup [.int 0, .int 1], .tup [.int 0, .int 1], .tup [.int 0, .int 1], .tup [.int 1, .int 1], .tup [.int 1, .int 1], .tup [.int 1, .int 2], .tup [.int 2, .int 1], .tup [.int 1, .int 3], .tup [.int 3, .int 1], .tup [.int 1, .int 1]] : List D).all nnD = true by decide) x hx)
      rw [hk]
      refine seqK fun k hk => ?_
      have g51 := g5.drw d1
      have last : ∀ q S2, PH q → Drw p S1 S2 → k [some (.ref p), some (.int n), some (.int i), some (.ref p3), some (.ref p4), some (.ref p5), some (.int j), some (encR q)] S2 := fun q S2 hq d2 => by
        have g52 := g51.drw d2
        have fin : ∀ q', PH q' → (i = j → q' = 0) → (r.map encR).length < sizeLine ∧ K [some (.ref p), some (.int n), some (.int i), some (.ref p3), some (.ref p4), some (.ref p5), some (.int j), some (encR q)] (up S2 p5 (.lst (r.map encR ++ [encR q']))) := fun q' hq' h0 =>
          ⟨g52.room (by omega), hK _ _ ⟨_, _, _, g52.add hq', (fun hij => by
            rw [getD_snoc g5.len hij]
            split
            · rename_i z; exact hd z
            · exact h0 (by omega)), (by rw [up_ne n35, d2.at o3.2, d1.at o3.2]; exact h3), (by rw [up_ne n45, d2.at o4.2, d1.at o4.2]; exact h4), rfl⟩⟩
        rw [hk]
        simp_arith [rs_ref g52.at', g52.at', pl_int, eqD_nat]
        by_cases z : j = i
        · simp_arith [z, decide_true]
          have := fin 0 PH0 (fun _ => rfl)
          rw [z] at this
          exact ⟨by decide, this⟩
        · simp_arith [z, decide_false]
          exact fin q hq (fun y => absurd y.symm z)
      unfold γ_draw γ_ratio
      simp_arith []
      refine ⟨p, _, rfl, g51.ext.well, by decide, fun t S2 t0 t1 d2 => ?_⟩
      have g52 := g51.drw d2
      simp_arith [pl_int, eqD_int]
      by_cases z : t = 0
      · simp_arith [z, decide_true]
        refine ⟨p, _, rfl, g52.ext.well, ⟨by decide, by decide⟩, fun r2 S3 r20 r21 d3 => ?_⟩
        refine ⟨p, _, rfl, (g52.drw d3).ext.well, ⟨by decide, by decide⟩, fun r3 S4 r30 r31 d4 => ?_⟩
        obtain ⟨m, hm⟩ := Int.eq_ofNat_of_zero_le (show 0 ≤ 1 + r3 by omega)
        rw [hm]
        refine ⟨⟨by omega, Nat.lt_of_lt_of_le (m := 64) (by omega) (Nat.le_trans (m := 2 ^ 6) (by decide) (pow2_le (by decide)))⟩, last _ S4 ⟨frac_of (by omega) (by omega) (by omega), divInt_nonneg r20 (by omega)⟩ ((d2.trans d3).trans d4)⟩
      · simp_arith [z, decide_false]
        exact last q S2 hq d2
    · subst hτ
      show k _ S''
      rw [hk]
      refine seqK fun k hk => ?_
      have mt2 := mt.keep g5.ext h3
      have mt3 := mt2.add g5.len g5.ok (hd hi)
      have r4 : S'' p4 = some (.lst (ms.map encR)) := by rw [h4]; exact gr.at'
      have gr3 : Grw (Bd 3 2) p p4 S (up S'' p3 (.lst (ws.map encRow ++ [encRow r]))) ms i := ⟨mt3.ext, o4, by rw [up_ne (Ne.symm h34)]; exact r4, gr.len, gr.ok⟩
      have ht : D.tup (r.map encR) = encRow r := rfl
      simp_arith [rs_ref g5.at', rs_ref mt2.at', mt2.at', List.length_map, ht]
      refine ⟨Nat.lt_of_lt_of_le (m := 1000) (by rw [mt2.len]; omega) (by decide), ?_⟩
      rw [hk]
      simp only [sDrop, eMt, eVar, List.getElem?_cons_succ, List.getElem?_cons_zero, isL, rs_ref gr3.at', eCall, aCons, true_and]
      apply hw2
      refine ⟨p, _, _, rfl, rfl, gr3.ext.well, by decide, fun x S4 hx d4 => ?_⟩
      obtain ⟨q, rfl, hq⟩ := bdD_of (List.all_eq_true.mp (show ([.tup [.int 1, .int 2], .tup [.int 1, .int 2], .tup [.int 0, .int 1], .tup [.int 1, .int 1], .tup [.int 3, .int 2], .tup [.int 2, .int 1], .tup [.int (-1), .int 2], .tup [.int 5, .int 2], .tup [.int 1, .int 3], .tup [.int 1, .int 1]] : List D).all (bdD 3 2) = true by decide) x hx)
      have gr4 := gr3.drw d4
      have mt4 := mt3.keep (mt3.ext.drw d4) (d4.at o3.2)
      simp_arith [gr4.at']
      exact ⟨gr4.room (by omega), hK _ _ ⟨_, _, _, _, _, _, mt4.keep (mt4.ext.set o4) (up_ne h34), gr4.add hq, rfl⟩⟩
  · subst hτ
    show k _ S'
    rw [hk]
    simp_arith [rs_ref mt.at', rs_ref gr.at']
    refine ⟨by decide, ?_⟩
    obtain ⟨ok, dr⟩ := mt.net gr.len h1 h8 gr.ok
    exact mt.ext.fin fun S3 d3 => h ⟨ws, ms⟩ S3 ok gr.len dr d3
theorem eqD_blbl (a b : Bool) : eqD (.bl a) (.bl b) = decide (a = b) := by cases a <;> cases b <;> rfl
theorem h_law_movers : Law 4 γ_movers_by (h_body_movers γ_is_less γ_heard_by) := by
  intro ds S R ⟨N, s, e, ns, h⟩
  subst e
  have h8 := ns.1.few
  have hs := ns.2.2
  unfold h_body_movers
  refine seqK fun k hk => ?_
  simp_arith []
  refine ⟨by decide, fun p2 hp => ?_⟩
  rw [hk]
  refine seqK fun k hk => ?_
  simp_arith! [List.length_map]
  refine ⟨⟨by omega, by omega⟩, ?_⟩
  rw [Int.toNat_natCast, hs]
  refine for_rng (fun i τ S' => S' = up S p2 (.lst (encK ((List.range i).filter fun j => (wants N s).getD j false != s.getD j false))) ∧ ∃ x3, τ = [some (encN N), some (encS s), some (.ref p2), x3]) ⟨rfl, none, rfl⟩ (fun i τ S' K hi ⟨hS, x3, hτ⟩ hK => ?_) fun τ S' ⟨hS, x3, hτ⟩ => ?_
  · subst hS hτ
    have g := ix_mark hi
    have g2 : L2.atI (s.map encB) (i : Int) = some (encB (s.getD i false)) := atI_mapD false (by omega)
    have st := hK _ _ ⟨rfl, some (.int i), rfl⟩
    have hw := wants_getD (s := s) hi
    rw [List.range_succ, List.filter_append] at st
    unfold γ_is_less γ_heard_by
    simp_arith! [g, g2, encB, pl_int, eqD_bit]
    refine ⟨N, i, s, rfl, ⟨ns.1, ns.2.1, hi, hs⟩, _, _, rfl, ⟨mk_big ns.2.1 hi, hear_big ns.1 ns.2.1 hi s⟩, ?_⟩
    rw [← hw]
    simp_arith [pl_bl, eqD_blbl]
    by_cases z : (wants N s).getD i false = s.getD i false
    · have e : [i].filter (fun j => (wants N s).getD j false != s.getD j false) = [] := by
        rw [List.filter_cons_of_neg (by rw [z]; simp)]; rfl
      rw [e, List.append_nil] at st
      simp_arith [z, decide_true]
      exact st
    · have e : [i].filter (fun j => (wants N s).getD j false != s.getD j false) = [i] := by
        rw [List.filter_cons_of_pos (by simpa using z)]; rfl
      rw [e] at st
      simp_arith [z, decide_false, rs_ref up_same, up_same, up_up]
      refine ⟨Nat.lt_of_lt_of_le (m := 1000) ?_ (by decide), ?_⟩
      · unfold encK
        rw [List.length_map]
        have := List.length_filter_le (fun j => (wants N s).getD j false != s.getD j false) (List.range i)
        rw [List.length_range] at this
        omega
      · have e2 : encK ((List.range i).filter fun j => (wants N s).getD j false != s.getD j false) ++ [D.int (i : Int)] = encK (((List.range i).filter fun j => (wants N s).getD j false != s.getD j false) ++ [i]) := by unfold encK; rw [List.map_append]; rfl
        rw [e2]
        exact st
  · subst hS hτ
    show k _ _
    rw [hk]
    simp_arith [rs_ref up_same]
    exact fin_new hp h
end Gx

--W2
/-! Gx, data side 33: helping nets: from some states all moves lead to one rest. Plain. -/
namespace Gx
open PySem L2
theorem flip_at {s : List Bool} {i j : Nat} (hi : i < s.length) : (flip s i).getD j false = if j = i then !s.getD i false else s.getD j false := by
  unfold flip
  rw [List.getD_eq_getElem?_getD, List.getElem?_set]
  by_cases z : j = i
  · subst z; rw [if_pos rfl, if_pos rfl, if_pos hi]; rfl
  · rw [if_neg (Ne.symm z), if_neg z, ← List.getD_eq_getElem?_getD]
/-! ### rising -/
section
variable {N : Net} (ok : N.Ok) (hp : helping N = true)
include ok hp
/-! ### falling -/
end
section
variable {N : Net} (ok : N.Ok) (hp : helping N = true)
include ok hp
end
/-! ### what that means for ends -/
end Gx

--W2
/-! Gx, data side 34: rests of helping nets. -/
namespace Gx
open PySem L2
local macro_rules | `(tactic| simp_arith [$xs,*]) => `(tactic| try simp only [eVar, eC, eBin, eUn, tBl, tAnd', tOr', tNot', eAnd, eOr, eNot, eIf, aNil, aCons, eTup, eLst, eLstM, eCall, eCallK, pick, sNext, sSeq, sBreak, sCont, sDrop, sRet, sRetN, sIf, sNever, gNm, gsNil, gsCons, gTupl, gSubs, sAsg, sPar, sPar3, sFor, iSeq, seqG_tup, seqG_lst, seqG_scr, iRange1, iRange2, iEnumG, iZipG, td_tup, td_lst, td_scr, eLc, eLcM, tYes', pNone, pSome, eSl, cu_tup, cu_lst, cu_scr, eMt, eMt0, mAppend, isL, rs_non, rs_bl, rs_int, rs_str, rs_tup, rs_lst', rs_scr, itemsOf_tup, itemsOf_lst, itemsOf_scr, oI, oI0, oSub, oFdiv, oMod, oPow, oShl, oShr, oAnd, oOr, oXor, oLt, oLe, oGt, oGe, oNeg, oIsN, oNotN, Gx.isNon, oAdd, oAdd', oMul, oMul', oMulM, oEq, oNe, oEqS, oNeS, oIn, oNin, eChain, oIx, oSet, cLen, cList, cListM, cTuple, cSum, cAll, cAny, cInt, cAbs, cMax2, cMin2, cDivmod, cGcd, cIsi, cRepr, lstInts, lstBls, startD, wipeD, List.map_cons, List.map_nil, List.length_cons, List.length_nil, List.cons_append, List.nil_append, List.replicate_succ, List.replicate_zero, List.set_cons_succ, List.set_cons_zero, List.getElem?_cons_succ, List.getElem?_cons_zero, List.filterMap_cons_some, List.filterMap_nil, Nat.reduceAdd, Nat.reduceSub, Nat.sub_self, Nat.reduceLT, Nat.reduceMul, Nat.zero_add, Nat.add_zero, if_true, if_false, and_true, true_and, and_false, false_and, or_true, true_or, or_false, false_or, not_true_eq_false, not_false_eq_true, Bool.not_true, Bool.not_false, Bool.false_eq_true, ite_true, ite_false, reduceIte, reduceCtorEq, eq_self, eDicT0, eDixT, gSubsT, keysOf, cListT, cSortedP, oSubB, oMulT, iZip2G, eDic0, eDic1, oDix, oDin, oDnin, oDset, iKeysG, cSortedE, cListD, Gx.keyOf, cMaxL, cMinL, cSortedI, mIndex, $xs,*])
local macro_rules | `(tactic| simp_arith! [$xs,*]) => `(tactic| try simp only [eVar, eC, eBin, eUn, tBl, tAnd', tOr', tNot', eAnd, eOr, eNot, eIf, aNil, aCons, eTup, eLst, eLstM, eCall, eCallK, pick, sNext, sSeq, sBreak, sCont, sDrop, sRet, sRetN, sIf, sNever, gNm, gsNil, gsCons, gTupl, gSubs, sAsg, sPar, sPar3, sFor, iSeq, seqG_tup, seqG_lst, seqG_scr, iRange1, iRange2, iEnumG, iZipG, td_tup, td_lst, td_scr, eLc, eLcM, tYes', pNone, pSome, eSl, cu_tup, cu_lst, cu_scr, eMt, eMt0, mAppend, isL, rs_non, rs_bl, rs_int, rs_str, rs_tup, rs_lst', rs_scr, itemsOf_tup, itemsOf_lst, itemsOf_scr, oI, oI0, oSub, oFdiv, oMod, oPow, oShl, oShr, oAnd, oOr, oXor, oLt, oLe, oGt, oGe, oNeg, oIsN, oNotN, Gx.isNon, oAdd, oAdd', oMul, oMul', oMulM, oEq, oNe, oEqS, oNeS, oIn, oNin, eChain, oIx, oSet, cLen, cList, cListM, cTuple, cSum, cAll, cAny, cInt, cAbs, cMax2, cMin2, cDivmod, cGcd, cIsi, cRepr, lstInts, lstBls, startD, wipeD, List.map_cons, List.map_nil, List.length_cons, List.length_nil, List.cons_append, List.nil_append, List.replicate_succ, List.replicate_zero, List.set_cons_succ, List.set_cons_zero, List.getElem?_cons_succ, List.getElem?_cons_zero, List.filterMap_cons_some, List.filterMap_nil, Nat.reduceAdd, Nat.reduceSub, Nat.sub_self, Nat.reduceLT, Nat.reduceMul, Nat.zero_add, Nat.add_zero, if_true, if_false, and_true, true_and, and_false, false_and, or_true, true_or, or_false, false_or, not_true_eq_false, not_false_eq_true, Bool.not_true, Bool.not_false, Bool.false_eq_true, ite_true, ite_false, reduceIte, reduceCtorEq, eq_self, eDicT0, eDixT, gSubsT, keysOf, cListT, cSortedP, oSubB, oMulT, iZip2G, eDic0, eDic1, oDix, oDin, oDnin, oDset, iKeysG, cSortedE, cListD, Gx.keyOf, cMaxL, cMinL, cSortedI, mIndex, rs_N, rs_W, rs_Row, rs_S, rs_R, rs_B, it_N, it_W, it_Row, it_S, it_R, sq_W, sq_Row, sq_S, td_N, td_W, td_Row, td_S, rs_I, it_I, sq_I, td_I, rs_Ss, it_Ss, sq_Ss, td_Ss, cu_S, cu_W, cu_Row, atI_0, atI_1, $xs,*])
/-! ### what two states share -/
/-! ### sunk -/
/-! ### what is asked -/
def γ_helpNet : OL := fun ds S R => ∃ (N : Net), ds = [encN N] ∧ (N.Ok ∧ helping N = true) ∧ R .non S
def body_helpNet (γ_check_net γ_check_helping : OL) : ST := sSeq (sDrop (eCall γ_check_net (aCons (eVar 0) (aNil))))
  (sDrop (eCall γ_check_helping (aCons (eVar 0) (aNil))))
theorem law_helpNet : Law 1 γ_helpNet (body_helpNet γ_check_net γ_check_helping) := by
  intro ds S R ⟨N, e, ⟨ok, hp⟩, h⟩
  subst e
  unfold body_helpNet γ_check_net γ_check_helping
  simp_arith []
  exact ⟨N, rfl, ok, N, rfl, ⟨ok, hp⟩, fin_of h⟩
/-! ### settling, as the laws do it -/
end Gx

--W2
/-! Gx, data side 35: states below one another, lists of the laws' own; one of them; the end of laws whose first lap is told. -/
namespace Gx
open PySem L2
local macro_rules | `(tactic| simp_arith [$xs,*]) => `(tactic| try simp only [eVar, eC, eBin, eUn, tBl, tAnd', tOr', tNot', eAnd, eOr, eNot, eIf, aNil, aCons, eTup, eLst, eLstM, eCall, eCallK, pick, sNext, sSeq, sBreak, sCont, sDrop, sRet, sRetN, sIf, sNever, gNm, gsNil, gsCons, gTupl, gSubs, sAsg, sPar, sPar3, sFor, iSeq, seqG_tup, seqG_lst, seqG_scr, iRange1, iRange2, iEnumG, iZipG, td_tup, td_lst, td_scr, eLc, eLcM, tYes', pNone, pSome, eSl, cu_tup, cu_lst, cu_scr, eMt, eMt0, mAppend, isL, rs_non, rs_bl, rs_int, rs_str, rs_tup, rs_lst', rs_scr, itemsOf_tup, itemsOf_lst, itemsOf_scr, oI, oI0, oSub, oFdiv, oMod, oPow, oShl, oShr, oAnd, oOr, oXor, oLt, oLe, oGt, oGe, oNeg, oIsN, oNotN, Gx.isNon, oAdd, oAdd', oMul, oMul', oMulM, oEq, oNe, oEqS, oNeS, oIn, oNin, eChain, oIx, oSet, cLen, cList, cListM, cTuple, cSum, cAll, cAny, cInt, cAbs, cMax2, cMin2, cDivmod, cGcd, cIsi, cRepr, lstInts, lstBls, startD, wipeD, List.map_cons, List.map_nil, List.length_cons, List.length_nil, List.cons_append, List.nil_append, List.replicate_succ, List.replicate_zero, List.set_cons_succ, List.set_cons_zero, List.getElem?_cons_succ, List.getElem?_cons_zero, List.filterMap_cons_some, List.filterMap_nil, Nat.reduceAdd, Nat.reduceSub, Nat.sub_self, Nat.reduceLT, Nat.reduceMul, Nat.zero_add, Nat.add_zero, if_true, if_false, and_true, true_and, and_false, false_and, or_true, true_or, or_false, false_or, not_true_eq_false, not_false_eq_true, Bool.not_true, Bool.not_false, Bool.false_eq_true, ite_true, ite_false, reduceIte, reduceCtorEq, eq_self, eDicT0, eDixT, gSubsT, keysOf, cListT, cSortedP, oSubB, oMulT, iZip2G, eDic0, eDic1, oDix, oDin, oDnin, oDset, iKeysG, cSortedE, cListD, Gx.keyOf, cMaxL, cMinL, cSortedI, mIndex, $xs,*])
local macro_rules | `(tactic| simp_arith! [$xs,*]) => `(tactic| try simp only [eVar, eC, eBin, eUn, tBl, tAnd', tOr', tNot', eAnd, eOr, eNot, eIf, aNil, aCons, eTup, eLst, eLstM, eCall, eCallK, pick, sNext, sSeq, sBreak, sCont, sDrop, sRet, sRetN, sIf, sNever, gNm, gsNil, gsCons, gTupl, gSubs, sAsg, sPar, sPar3, sFor, iSeq, seqG_tup, seqG_lst, seqG_scr, iRange1, iRange2, iEnumG, iZipG, td_tup, td_lst, td_scr, eLc, eLcM, tYes', pNone, pSome, eSl, cu_tup, cu_lst, cu_scr, eMt, eMt0, mAppend, isL, rs_non, rs_bl, rs_int, rs_str, rs_tup, rs_lst', rs_scr, itemsOf_tup, itemsOf_lst, itemsOf_scr, oI, oI0, oSub, oFdiv, oMod, oPow, oShl, oShr, oAnd, oOr, oXor, oLt, oLe, oGt, oGe, oNeg, oIsN, oNotN, Gx.isNon, oAdd, oAdd', oMul, oMul', oMulM, oEq, oNe, oEqS, oNeS, oIn, oNin, eChain, oIx, oSet, cLen, cList, cListM, cTuple, cSum, cAll, cAny, cInt, cAbs, cMax2, cMin2, cDivmod, cGcd, cIsi, cRepr, lstInts, lstBls, startD, wipeD, List.map_cons, List.map_nil, List.length_cons, List.length_nil, List.cons_append, List.nil_append, List.replicate_succ, List.replicate_zero, List.set_cons_succ, List.set_cons_zero, List.getElem?_cons_succ, List.getElem?_cons_zero, List.filterMap_cons_some, List.filterMap_nil, Nat.reduceAdd, Nat.reduceSub, Nat.sub_self, Nat.reduceLT, Nat.reduceMul, Nat.zero_add, Nat.add_zero, if_true, if_false, and_true, true_and, and_false, false_and, or_true, true_or, or_false, false_or, not_true_eq_false, not_false_eq_true, Bool.not_true, Bool.not_false, Bool.false_eq_true, ite_true, ite_false, reduceIte, reduceCtorEq, eq_self, eDicT0, eDixT, gSubsT, keysOf, cListT, cSortedP, oSubB, oMulT, iZip2G, eDic0, eDic1, oDix, oDin, oDnin, oDset, iKeysG, cSortedE, cListD, Gx.keyOf, cMaxL, cMinL, cSortedI, mIndex, rs_N, rs_W, rs_Row, rs_S, rs_R, rs_B, it_N, it_W, it_Row, it_S, it_R, sq_W, sq_Row, sq_S, td_N, td_W, td_Row, td_S, rs_I, it_I, sq_I, td_I, rs_Ss, it_Ss, sq_Ss, td_Ss, cu_S, cu_W, cu_Row, atI_0, atI_1, $xs,*])
/-! ### lists that stand somewhere, or are handed about -/
def LstAt (S : Sto) (d : D) (ds : List D) : Prop := d = .lst ds ∨ ∃ q, d = .ref q ∧ S q = some (.lst ds)
/-- the least of some states -/
def γ_fewest : OL := fun ds S R => ∃ (d : D) (l : List (List Bool)) (t : List Bool) (n : Nat), ds = [d] ∧ LstAt S d (l.map encS) ∧ ((∀ x ∈ l, x.length = n) ∧ n ≤ 1000 ∧ l.length ≤ 1000) ∧ (t ∈ l ∧ ∀ o ∈ l, leS t o) ∧ R (encS t) S
def body_fewest (γ__law_within : OL) : ST := sSeq (sFor (iSeq (eVar 0)) (gNm 1) (sIf (tBl (eCall cAll (aCons (eLc (iSeq (eVar 0)) (gNm 2) (tYes') (eCall γ__law_within (aCons (eVar 1) (aCons (eVar 2) (aNil)))) [2]) (aNil)))) (sRet (eVar 1)) (sNext)))
  (sRet (eC .non))
/-! ### laws whose first lap is told -/
def γ_lap2 : OL := fun ds S R => ∃ (p : Addr) (b : Bool), ds = [.ref p, .bl b] ∧ Well p S ∧ ∀ S', Drw p S S' → R (.bl true) S'
def body_whole2 (m k : Int) (γ_right γ_well : OL) : ST := sRet (eCall cAll (aCons (eLc (iRange1 (aCons (eCall cMax2 (aCons (eC (.int m)) (aCons (eCall cMin2 (aCons (eCall cLen (aCons (eVar 0) (aNil))) (aCons (eC (.int k)) (aNil)))) (aNil)))) (aNil))) (gNm 1) (tYes') (eCall γ_right (aCons (eCall γ_well (aCons (eVar 0) (aCons (eVar 1) (aNil)))) (aCons (eBin oEq (eVar 1) (eC (.int 0))) (aNil)))) [1]) (aNil)))
theorem whole2_loop {ns : List Int} {S0 : Sto} {R : QD} (h : R (.bl true) S0) : ∀ (m i k : Nat) (S : Sto), i + m ≤ 100 → k ≤ i → (∀ a o, S0 a = some o → S a = some o) →
    cmpG (gNm 1) tYes' (eCall γ_lap2 (aCons (eCall γ_well (aCons (eVar 0) (aCons (eVar 1) (aNil)))) (aCons (eBin oEq (eVar 1) (eC (.int 0))) (aNil)))) (fun _ => True) [1] [some (.scr (ns.map .int)), none] (fun acc S2 => cAll [.lst acc] S2 (Fin R)) (rngD i m) ((List.replicate k true).map .bl) S
  | 0, i, k, S, _, _, hs => by
    refine ⟨trivial, ?_⟩
    have e : (List.replicate k true).all id = true := by
      rw [List.all_eq_true]
      intro x hx
      rw [List.eq_of_mem_replicate hx]; rfl
    simp_arith [blsOf_map, e]
    exact ⟨S0, _, hs, .same _, h⟩
  | m + 1, i, k, S, hi, hk, hs => by
    refine ⟨trivial, ?_⟩
    show gNm 1 (.int i) _ S _
    unfold γ_lap2 γ_well
    simp_arith [wipeD, pl_int, eqD_int]
    refine ⟨ns, i, rfl, by omega, fun p S1 hp bt hw => ⟨p, _, rfl, hw, fun S2 d => ⟨Nat.lt_of_lt_of_le (m := 1000) (by rw [List.length_map, List.length_replicate]; omega) (by decide), ?_⟩⟩⟩
    have e1 : ((i : Int) + 1) = ((i + 1 : Nat) : Int) := by omega
    have e2 : (List.replicate k true).map D.bl ++ [D.bl true] = (List.replicate (k + 1) true).map D.bl := by rw [List.replicate_succ', List.map_append]; rfl
    rw [e1, e2]
    refine whole2_loop h m (i + 1) (k + 1) S2 (by omega) (by omega) fun a o e => ?_
    have : a ≠ p := fun z => by
      have := hs a o e
      rw [z, hp] at this; cases this
    rw [d.but a this, bt a this]
    exact hs a o e
theorem law_whole2 (m k : Int) (hm : 0 ≤ m ∧ m ≤ 90 := by decide) (hk : k ≤ 90 := by decide) : Law 2 γ_whole (body_whole2 m k γ_lap2 γ_well) := by
  intro ds S R ⟨ns, e, hl, h⟩
  subst e
  unfold body_whole2
  simp only [sRet, eCall, aCons, aNil, eLc, iRange1, eC, eVar, startD, List.map_cons, List.map_nil, List.length_cons, List.length_nil, Nat.reduceAdd, Nat.reduceSub, List.replicate_succ, List.replicate_zero, List.cons_append, List.nil_append, List.getElem?_cons_zero, cMax2, cMin2, cLen, rs_scr, itemsOf_scr]
  generalize hj : (if (if k < ((ns.map D.int).length : Nat) then k else ((ns.map D.int).length : Nat)) > m then (if k < ((ns.map D.int).length : Nat) then k else ((ns.map D.int).length : Nat)) else m) = j
  have h0 : 0 ≤ j ∧ j ≤ 90 := by
    rw [List.length_map] at hj
    rw [← hj]
    repeat' split
    all_goals omega
  refine ⟨⟨by omega, by omega⟩, ?_⟩
  exact whole2_loop h j.toNat 0 0 S (by omega) (by omega) fun _ _ e => e
end Gx

--W2
/-! Gx, data side 36: the draws of the third family; fractions, states, what is the same. -/
namespace Gx
open PySem L2
local macro_rules | `(tactic| simp_arith [$xs,*]) => `(tactic| try simp only [eVar, eC, eBin, eUn, tBl, tAnd', tOr', tNot', eAnd, eOr, eNot, eIf, aNil, aCons, eTup, eLst, eLstM, eCall, eCallK, pick, sNext, sSeq, sBreak, sCont, sDrop, sRet, sRetN, sIf, sNever, gNm, gsNil, gsCons, gTupl, gSubs, sAsg, sPar, sPar3, sFor, iSeq, seqG_tup, seqG_lst, seqG_scr, iRange1, iRange2, iEnumG, iZipG, td_tup, td_lst, td_scr, eLc, eLcM, tYes', pNone, pSome, eSl, cu_tup, cu_lst, cu_scr, eMt, eMt0, mAppend, isL, rs_non, rs_bl, rs_int, rs_str, rs_tup, rs_lst', rs_scr, itemsOf_tup, itemsOf_lst, itemsOf_scr, oI, oI0, oSub, oFdiv, oMod, oPow, oShl, oShr, oAnd, oOr, oXor, oLt, oLe, oGt, oGe, oNeg, oIsN, oNotN, Gx.isNon, oAdd, oAdd', oMul, oMul', oMulM, oEq, oNe, oEqS, oNeS, oIn, oNin, eChain, oIx, oSet, cLen, cList, cListM, cTuple, cSum, cAll, cAny, cInt, cAbs, cMax2, cMin2, cDivmod, cGcd, cIsi, cRepr, lstInts, lstBls, startD, wipeD, List.map_cons, List.map_nil, List.length_cons, List.length_nil, List.cons_append, List.nil_append, List.replicate_succ, List.replicate_zero, List.set_cons_succ, List.set_cons_zero, List.getElem?_cons_succ, List.getElem?_cons_zero, List.filterMap_cons_some, List.filterMap_nil, Nat.reduceAdd, Nat.reduceSub, Nat.sub_self, Nat.reduceLT, Nat.reduceMul, Nat.zero_add, Nat.add_zero, if_true, if_false, and_true, true_and, and_false, false_and, or_true, true_or, or_false, false_or, not_true_eq_false, not_false_eq_true, Bool.not_true, Bool.not_false, Bool.false_eq_true, ite_true, ite_false, reduceIte, reduceCtorEq, eq_self, eDicT0, eDixT, gSubsT, keysOf, cListT, cSortedP, oSubB, oMulT, iZip2G, eDic0, eDic1, oDix, oDin, oDnin, oDset, iKeysG, cSortedE, cListD, Gx.keyOf, cMaxL, cMinL, cSortedI, mIndex, $xs,*])
/-! ### fractions -/
/-! ### states -/
/-! ### the same -/
end Gx

--W2
/-! Gx, data side 37: drawn nets of the third family. -/
namespace Gx
open PySem L2
/-! ### comprehensions that draw -/
/-! ### the net -/
structure Bn (n : Nat) (p p3 p4 : Addr) (qs : List Addr) (S0 S : Sto) (ws : List (List Rat)) : Prop where
  f : Fil n p p3 qs S0 S ws
  gr : Grw (Bd 24 2) p p4 S0 S [] 0
  hb : ∀ a b, a < n → b < n → Bd 3 2 (ent ws a b)
  hd : ∀ a, a < n → ent ws a a = 0
theorem Bn.drw {n : Nat} {p p3 p4 : Addr} {qs : List Addr} {S0 S S' : Sto} {ws : List (List Rat)} (b : Bn n p p3 p4 qs S0 S ws) (d : Drw p S S') : Bn n p p3 p4 qs S0 S' ws := ⟨b.f.drw d, b.gr.drw d, b.hb, b.hd⟩
abbrev PT : Rat → Prop := Bd 12 4
end Gx

--W2
set_option maxHeartbeats 16000000
/-! Gx, data side 38: drawn nets of the third family: the walk. -/
namespace Gx
open PySem L2
local macro_rules | `(tactic| simp_arith [$xs,*]) => `(tactic| try simp only [eVar, eC, eBin, eUn, tBl, tAnd', tOr', tNot', eAnd, eOr, eNot, eIf, aNil, aCons, eTup, eLst, eLstM, eCall, eCallK, pick, sNext, sSeq, sBreak, sCont, sDrop, sRet, sRetN, sIf, sNever, gNm, gsNil, gsCons, gTupl, gSubs, sAsg, sPar, sPar3, sFor, iSeq, seqG_tup, seqG_lst, seqG_scr, iRange1, iRange2, iEnumG, iZipG, td_tup, td_lst, td_scr, eLc, eLcM, tYes', pNone, pSome, eSl, cu_tup, cu_lst, cu_scr, eMt, eMt0, mAppend, isL, rs_non, rs_bl, rs_int, rs_str, rs_tup, rs_lst', rs_scr, itemsOf_tup, itemsOf_lst, itemsOf_scr, oI, oI0, oSub, oFdiv, oMod, oPow, oShl, oShr, oAnd, oOr, oXor, oLt, oLe, oGt, oGe, oNeg, oIsN, oNotN, Gx.isNon, oAdd, oAdd', oMul, oMul', oMulM, oEq, oNe, oEqS, oNeS, oIn, oNin, eChain, oIx, oSet, cLen, cList, cListM, cTuple, cSum, cAll, cAny, cInt, cAbs, cMax2, cMin2, cDivmod, cGcd, cIsi, cRepr, lstInts, lstBls, startD, wipeD, List.map_cons, List.map_nil, List.length_cons, List.length_nil, List.cons_append, List.nil_append, List.replicate_succ, List.replicate_zero, List.set_cons_succ, List.set_cons_zero, List.getElem?_cons_succ, List.getElem?_cons_zero, List.filterMap_cons_some, List.filterMap_nil, Nat.reduceAdd, Nat.reduceSub, Nat.sub_self, Nat.reduceLT, Nat.reduceMul, Nat.zero_add, Nat.add_zero, if_true, if_false, and_true, true_and, and_false, false_and, or_true, true_or, or_false, false_or, not_true_eq_false, not_false_eq_true, Bool.not_true, Bool.not_false, Bool.false_eq_true, ite_true, ite_false, reduceIte, reduceCtorEq, eq_self, eDicT0, eDixT, gSubsT, keysOf, cListT, cSortedP, oSubB, oMulT, iZip2G, eDic0, eDic1, oDix, oDin, oDnin, oDset, iKeysG, cSortedE, cListD, Gx.keyOf, cMaxL, cMinL, cSortedI, mIndex, $xs,*])
local macro_rules | `(tactic| simp_arith! [$xs,*]) => `(tactic| try simp only [eVar, eC, eBin, eUn, tBl, tAnd', tOr', tNot', eAnd, eOr, eNot, eIf, aNil, aCons, eTup, eLst, eLstM, eCall, eCallK, pick, sNext, sSeq, sBreak, sCont, sDrop, sRet, sRetN, sIf, sNever, gNm, gsNil, gsCons, gTupl, gSubs, sAsg, sPar, sPar3, sFor, iSeq, seqG_tup, seqG_lst, seqG_scr, iRange1, iRange2, iEnumG, iZipG, td_tup, td_lst, td_scr, eLc, eLcM, tYes', pNone, pSome, eSl, cu_tup, cu_lst, cu_scr, eMt, eMt0, mAppend, isL, rs_non, rs_bl, rs_int, rs_str, rs_tup, rs_lst', rs_scr, itemsOf_tup, itemsOf_lst, itemsOf_scr, oI, oI0, oSub, oFdiv, oMod, oPow, oShl, oShr, oAnd, oOr, oXor, oLt, oLe, oGt, oGe, oNeg, oIsN, oNotN, Gx.isNon, oAdd, oAdd', oMul, oMul', oMulM, oEq, oNe, oEqS, oNeS, oIn, oNin, eChain, oIx, oSet, cLen, cList, cListM, cTuple, cSum, cAll, cAny, cInt, cAbs, cMax2, cMin2, cDivmod, cGcd, cIsi, cRepr, lstInts, lstBls, startD, wipeD, List.map_cons, List.map_nil, List.length_cons, List.length_nil, List.cons_append, List.nil_append, List.replicate_succ, List.replicate_zero, List.set_cons_succ, List.set_cons_zero, List.getElem?_cons_succ, List.getElem?_cons_zero, List.filterMap_cons_some, List.filterMap_nil, Nat.reduceAdd, Nat.reduceSub, Nat.sub_self, Nat.reduceLT, Nat.reduceMul, Nat.zero_add, Nat.add_zero, if_true, if_false, and_true, true_and, and_false, false_and, or_true, true_or, or_false, false_or, not_true_eq_false, not_false_eq_true, Bool.not_true, Bool.not_false, Bool.false_eq_true, ite_true, ite_false, reduceIte, reduceCtorEq, eq_self, eDicT0, eDixT, gSubsT, keysOf, cListT, cSortedP, oSubB, oMulT, iZip2G, eDic0, eDic1, oDix, oDin, oDnin, oDset, iKeysG, cSortedE, cListD, Gx.keyOf, cMaxL, cMinL, cSortedI, mIndex, rs_N, rs_W, rs_Row, rs_S, rs_R, rs_B, it_N, it_W, it_Row, it_S, it_R, sq_W, sq_Row, sq_S, td_N, td_W, td_Row, td_S, rs_I, it_I, sq_I, td_I, rs_Ss, it_Ss, sq_Ss, td_Ss, cu_S, cu_W, cu_Row, atI_0, atI_1, $xs,*])
theorem ite_go {c : Prop} {I : Decidable c} {A B : Prop} (ht : c → A) (hf : ¬ c → B) : @ite Prop c I A B := by
  by_cases z : c
  · rw [if_pos z]; exact ht z
  · rw [if_neg z]; exact hf z
end Gx

--W2
/-! Gx, data side 39: next states, whole weights. -/
namespace Gx
open PySem L2
local macro_rules | `(tactic| simp_arith [$xs,*]) => `(tactic| try simp only [eVar, eC, eBin, eUn, tBl, tAnd', tOr', tNot', eAnd, eOr, eNot, eIf, aNil, aCons, eTup, eLst, eLstM, eCall, eCallK, pick, sNext, sSeq, sBreak, sCont, sDrop, sRet, sRetN, sIf, sNever, gNm, gsNil, gsCons, gTupl, gSubs, sAsg, sPar, sPar3, sFor, iSeq, seqG_tup, seqG_lst, seqG_scr, iRange1, iRange2, iEnumG, iZipG, td_tup, td_lst, td_scr, eLc, eLcM, tYes', pNone, pSome, eSl, cu_tup, cu_lst, cu_scr, eMt, eMt0, mAppend, isL, rs_non, rs_bl, rs_int, rs_str, rs_tup, rs_lst', rs_scr, itemsOf_tup, itemsOf_lst, itemsOf_scr, oI, oI0, oSub, oFdiv, oMod, oPow, oShl, oShr, oAnd, oOr, oXor, oLt, oLe, oGt, oGe, oNeg, oIsN, oNotN, Gx.isNon, oAdd, oAdd', oMul, oMul', oMulM, oEq, oNe, oEqS, oNeS, oIn, oNin, eChain, oIx, oSet, cLen, cList, cListM, cTuple, cSum, cAll, cAny, cInt, cAbs, cMax2, cMin2, cDivmod, cGcd, cIsi, cRepr, lstInts, lstBls, startD, wipeD, List.map_cons, List.map_nil, List.length_cons, List.length_nil, List.cons_append, List.nil_append, List.replicate_succ, List.replicate_zero, List.set_cons_succ, List.set_cons_zero, List.getElem?_cons_succ, List.getElem?_cons_zero, List.filterMap_cons_some, List.filterMap_nil, Nat.reduceAdd, Nat.reduceSub, Nat.sub_self, Nat.reduceLT, Nat.reduceMul, Nat.zero_add, Nat.add_zero, if_true, if_false, and_true, true_and, and_false, false_and, or_true, true_or, or_false, false_or, not_true_eq_false, not_false_eq_true, Bool.not_true, Bool.not_false, Bool.false_eq_true, ite_true, ite_false, reduceIte, reduceCtorEq, eq_self, eDicT0, eDixT, gSubsT, keysOf, cListT, cSortedP, oSubB, oMulT, iZip2G, eDic0, eDic1, oDix, oDin, oDnin, oDset, iKeysG, cSortedE, cListD, Gx.keyOf, cMaxL, cMinL, cSortedI, mIndex, $xs,*])
local macro_rules | `(tactic| simp_arith! [$xs,*]) => `(tactic| try simp only [eVar, eC, eBin, eUn, tBl, tAnd', tOr', tNot', eAnd, eOr, eNot, eIf, aNil, aCons, eTup, eLst, eLstM, eCall, eCallK, pick, sNext, sSeq, sBreak, sCont, sDrop, sRet, sRetN, sIf, sNever, gNm, gsNil, gsCons, gTupl, gSubs, sAsg, sPar, sPar3, sFor, iSeq, seqG_tup, seqG_lst, seqG_scr, iRange1, iRange2, iEnumG, iZipG, td_tup, td_lst, td_scr, eLc, eLcM, tYes', pNone, pSome, eSl, cu_tup, cu_lst, cu_scr, eMt, eMt0, mAppend, isL, rs_non, rs_bl, rs_int, rs_str, rs_tup, rs_lst', rs_scr, itemsOf_tup, itemsOf_lst, itemsOf_scr, oI, oI0, oSub, oFdiv, oMod, oPow, oShl, oShr, oAnd, oOr, oXor, oLt, oLe, oGt, oGe, oNeg, oIsN, oNotN, Gx.isNon, oAdd, oAdd', oMul, oMul', oMulM, oEq, oNe, oEqS, oNeS, oIn, oNin, eChain, oIx, oSet, cLen, cList, cListM, cTuple, cSum, cAll, cAny, cInt, cAbs, cMax2, cMin2, cDivmod, cGcd, cIsi, cRepr, lstInts, lstBls, startD, wipeD, List.map_cons, List.map_nil, List.length_cons, List.length_nil, List.cons_append, List.nil_append, List.replicate_succ, List.replicate_zero, List.set_cons_succ, List.set_cons_zero, List.getElem?_cons_succ, List.getElem?_cons_zero, List.filterMap_cons_some, List.filterMap_nil, Nat.reduceAdd, Nat.reduceSub, Nat.sub_self, Nat.reduceLT, Nat.reduceMul, Nat.zero_add, Nat.add_zero, if_true, if_false, and_true, true_and, and_false, false_and, or_true, true_or, or_false, false_or, not_true_eq_false, not_false_eq_true, Bool.not_true, Bool.not_false, Bool.false_eq_true, ite_true, ite_false, reduceIte, reduceCtorEq, eq_self, eDicT0, eDixT, gSubsT, keysOf, cListT, cSortedP, oSubB, oMulT, iZip2G, eDic0, eDic1, oDix, oDin, oDnin, oDset, iKeysG, cSortedE, cListD, Gx.keyOf, cMaxL, cMinL, cSortedI, mIndex, rs_N, rs_W, rs_Row, rs_S, rs_R, rs_B, it_N, it_W, it_Row, it_S, it_R, sq_W, sq_Row, sq_S, td_N, td_W, td_Row, td_S, rs_I, it_I, sq_I, td_I, rs_Ss, it_Ss, sq_Ss, td_Ss, cu_S, cu_W, cu_Row, atI_0, atI_1, $xs,*])
/-! ### the rows -/
/-! ### the next states of all states -/
end Gx

--W2
/-! Gx, data side 40: who truly heeds whom: the plain law. -/
namespace Gx
open PySem L2
/-! ### who heeds whom -/
def nxB (N : Net) (x i : Nat) : Bool := (wants N (stateOf N.n x)).getD i false
def shown (N : Net) (i j : Nat) : List Nat := (List.range (2 ^ N.n)).filter fun x => !x.testBit j && (nxB N x i != nxB N (x + 2 ^ j) i)
def heeds (N : Net) (i j : Nat) : Bool := decide (j ≠ i) && decide (shown N i j ≠ [])
def prs (N : Net) : List (Nat × Nat) := (List.range N.n).flatMap fun i => ((List.range N.n).filter fun j => heeds N i j).map fun j => (i, j)
theorem mem_prs {N : Net} {i j : Nat} : (i, j) ∈ prs N ↔ i < N.n ∧ j < N.n ∧ heeds N i j = true := by
  unfold prs
  rw [List.mem_flatMap]
  constructor
  · rintro ⟨a, ha, h⟩
    obtain ⟨b, hb, e⟩ := List.mem_map.mp h
    injection e with e1 e2
    subst e1 e2
    obtain ⟨h1, h2⟩ := List.mem_filter.mp hb
    exact ⟨List.mem_range.mp ha, List.mem_range.mp h1, h2⟩
  · rintro ⟨h1, h2, h3⟩
    exact ⟨i, List.mem_range.mpr h1, List.mem_map.mpr ⟨j, List.mem_filter.mpr ⟨List.mem_range.mpr h2, h3⟩, rfl⟩⟩
theorem heeds_iff {N : Net} {i j : Nat} : heeds N i j = true ↔ j ≠ i ∧ ∃ x, x ∈ shown N i j := by
  unfold heeds
  rw [Bool.and_eq_true, decide_eq_true_eq, decide_eq_true_eq]
  refine and_congr Iff.rfl ⟨fun h => List.exists_mem_of_ne_nil _ h, fun ⟨x, hx⟩ z => by rw [z] at hx; cases hx⟩
/-! ### the bare net -/
theorem heeds_not {N : Net} {i : Nat} : heeds N i i = false := by
  unfold heeds
  rw [decide_eq_false (by simp)]
  rfl
end Gx

--W2
/-! Gx, data side 41: who truly heeds whom: the package's walks. -/
namespace Gx
open PySem L2
local macro_rules | `(tactic| simp_arith [$xs,*]) => `(tactic| try simp only [eVar, eC, eBin, eUn, tBl, tAnd', tOr', tNot', eAnd, eOr, eNot, eIf, aNil, aCons, eTup, eLst, eLstM, eCall, eCallK, pick, sNext, sSeq, sBreak, sCont, sDrop, sRet, sRetN, sIf, sNever, gNm, gsNil, gsCons, gTupl, gSubs, sAsg, sPar, sPar3, sFor, iSeq, seqG_tup, seqG_lst, seqG_scr, iRange1, iRange2, iEnumG, iZipG, td_tup, td_lst, td_scr, eLc, eLcM, tYes', pNone, pSome, eSl, cu_tup, cu_lst, cu_scr, eMt, eMt0, mAppend, isL, rs_non, rs_bl, rs_int, rs_str, rs_tup, rs_lst', rs_scr, itemsOf_tup, itemsOf_lst, itemsOf_scr, oI, oI0, oSub, oFdiv, oMod, oPow, oShl, oShr, oAnd, oOr, oXor, oLt, oLe, oGt, oGe, oNeg, oIsN, oNotN, Gx.isNon, oAdd, oAdd', oMul, oMul', oMulM, oEq, oNe, oEqS, oNeS, oIn, oNin, eChain, oIx, oSet, cLen, cList, cListM, cTuple, cSum, cAll, cAny, cInt, cAbs, cMax2, cMin2, cDivmod, cGcd, cIsi, cRepr, lstInts, lstBls, startD, wipeD, List.map_cons, List.map_nil, List.length_cons, List.length_nil, List.cons_append, List.nil_append, List.replicate_succ, List.replicate_zero, List.set_cons_succ, List.set_cons_zero, List.getElem?_cons_succ, List.getElem?_cons_zero, List.filterMap_cons_some, List.filterMap_nil, Nat.reduceAdd, Nat.reduceSub, Nat.sub_self, Nat.reduceLT, Nat.reduceMul, Nat.zero_add, Nat.add_zero, if_true, if_false, and_true, true_and, and_false, false_and, or_true, true_or, or_false, false_or, not_true_eq_false, not_false_eq_true, Bool.not_true, Bool.not_false, Bool.false_eq_true, ite_true, ite_false, reduceIte, reduceCtorEq, eq_self, eDicT0, eDixT, gSubsT, keysOf, cListT, cSortedP, oSubB, oMulT, iZip2G, eDic0, eDic1, oDix, oDin, oDnin, oDset, iKeysG, cSortedE, cListD, Gx.keyOf, cMaxL, cMinL, cSortedI, mIndex, $xs,*])
local macro_rules | `(tactic| simp_arith! [$xs,*]) => `(tactic| try simp only [eVar, eC, eBin, eUn, tBl, tAnd', tOr', tNot', eAnd, eOr, eNot, eIf, aNil, aCons, eTup, eLst, eLstM, eCall, eCallK, pick, sNext, sSeq, sBreak, sCont, sDrop, sRet, sRetN, sIf, sNever, gNm, gsNil, gsCons, gTupl, gSubs, sAsg, sPar, sPar3, sFor, iSeq, seqG_tup, seqG_lst, seqG_scr, iRange1, iRange2, iEnumG, iZipG, td_tup, td_lst, td_scr, eLc, eLcM, tYes', pNone, pSome, eSl, cu_tup, cu_lst, cu_scr, eMt, eMt0, mAppend, isL, rs_non, rs_bl, rs_int, rs_str, rs_tup, rs_lst', rs_scr, itemsOf_tup, itemsOf_lst, itemsOf_scr, oI, oI0, oSub, oFdiv, oMod, oPow, oShl, oShr, oAnd, oOr, oXor, oLt, oLe, oGt, oGe, oNeg, oIsN, oNotN, Gx.isNon, oAdd, oAdd', oMul, oMul', oMulM, oEq, oNe, oEqS, oNeS, oIn, oNin, eChain, oIx, oSet, cLen, cList, cListM, cTuple, cSum, cAll, cAny, cInt, cAbs, cMax2, cMin2, cDivmod, cGcd, cIsi, cRepr, lstInts, lstBls, startD, wipeD, List.map_cons, List.map_nil, List.length_cons, List.length_nil, List.cons_append, List.nil_append, List.replicate_succ, List.replicate_zero, List.set_cons_succ, List.set_cons_zero, List.getElem?_cons_succ, List.getElem?_cons_zero, List.filterMap_cons_some, List.filterMap_nil, Nat.reduceAdd, Nat.reduceSub, Nat.sub_self, Nat.reduceLT, Nat.reduceMul, Nat.zero_add, Nat.add_zero, if_true, if_false, and_true, true_and, and_false, false_and, or_true, true_or, or_false, false_or, not_true_eq_false, not_false_eq_true, Bool.not_true, Bool.not_false, Bool.false_eq_true, ite_true, ite_false, reduceIte, reduceCtorEq, eq_self, eDicT0, eDixT, gSubsT, keysOf, cListT, cSortedP, oSubB, oMulT, iZip2G, eDic0, eDic1, oDix, oDin, oDnin, oDset, iKeysG, cSortedE, cListD, Gx.keyOf, cMaxL, cMinL, cSortedI, mIndex, rs_N, rs_W, rs_Row, rs_S, rs_R, rs_B, it_N, it_W, it_Row, it_S, it_R, sq_W, sq_Row, sq_S, td_N, td_W, td_Row, td_S, rs_I, it_I, sq_I, td_I, rs_Ss, it_Ss, sq_Ss, td_Ss, cu_S, cu_W, cu_Row, atI_0, atI_1, $xs,*])
theorem ix_want {N : Net} {x i : Nat} (hi : i < N.n) : L2.atI ((wants N (stateOf N.n x)).map encB) (i : Int) = some (encB (nxB N x i)) := atI_mapD false (by rw [wants_length]; exact hi)
/-! ### the pairs -/
/-! ### the sign of a number -/
/-! ### dicts -/
section
variable {κ : Type} [DecidableEq κ]
theorem valD_cons (kv : κ × D) (kvs : List (κ × D)) (k : κ) : valD (kv :: kvs) k = if kv.1 = k then some kv.2 else valD kvs k := by
  unfold valD
  by_cases z : kv.1 = k
  · rw [List.find?_cons_of_pos (by simpa using z), if_pos z]; rfl
  · rw [List.find?_cons_of_neg (by simpa using z), if_neg z]
theorem val_mem (k : κ) : ∀ kvs : List (κ × D), (valD kvs k).isSome = decide (k ∈ kvs.map (·.1))
  | [] => rfl
  | kv :: kvs => by
    rw [valD_cons, List.map_cons]
    by_cases z : kv.1 = k
    · rw [if_pos z]
      exact (decide_eq_true (by rw [← z]; exact List.mem_cons_self)).symm
    · rw [if_neg z, val_mem k kvs]
      refine decide_eq_decide.mpr ⟨List.mem_cons_of_mem _, fun h => ?_⟩
      rcases List.mem_cons.mp h with h | h
      · exact absurd h.symm z
      · exact h
end
/-! ### a list of dicts -/
structure DcsAt (S0 : Sto) (qs : List Addr) (S : Sto) (ks : List (List (Key × D))) : Prop where
  len : qs.length = ks.length
  nd : qs.Nodup
  row : ∀ i, i < qs.length → S (qs.getD i 0) = some (.dK (ks.getD i []))
  new : ∀ q ∈ qs, S0 q = none
  sub : ∀ a o, S0 a = some o → S a = some o
theorem DcsAt.nin {S0 S : Sto} {qs : List Addr} {ks : List (List (Key × D))} (a : DcsAt S0 qs S ks) {q : Addr} (h : S q = none) : ∀ x ∈ qs, x ≠ q := fun x hx z => by
  subst z
  obtain ⟨i, hi, e⟩ := List.getElem_of_mem hx
  have := a.row i hi
  rw [getD_eq hi, e, h] at this
  cases this
theorem DcsAt.other {S0 S : Sto} {qs : List Addr} {ks : List (List (Key × D))} (a : DcsAt S0 qs S ks) {q : Addr} (o : SO) (h0 : S0 q = none) (hn : q ∉ qs) : DcsAt S0 qs (up S q o) ks :=
  ⟨a.len, a.nd, fun i hi => by rw [up_ne fun z => hn (by rw [← z]; exact getD_mem hi)]; exact a.row i hi, a.new, fun b u hb => by rw [up_ne fun z => by rw [z, h0] at hb; cases hb]; exact a.sub b u hb⟩
/-! ### for each cell those that it heeds -/
/-! ### the bare net -/
end Gx

--W2
/-! Gx, data side 42: the law's own true heeds. -/
namespace Gx
open PySem L2
local macro_rules | `(tactic| simp_arith [$xs,*]) => `(tactic| try simp only [eVar, eC, eBin, eUn, tBl, tAnd', tOr', tNot', eAnd, eOr, eNot, eIf, aNil, aCons, eTup, eLst, eLstM, eCall, eCallK, pick, sNext, sSeq, sBreak, sCont, sDrop, sRet, sRetN, sIf, sNever, gNm, gsNil, gsCons, gTupl, gSubs, sAsg, sPar, sPar3, sFor, iSeq, seqG_tup, seqG_lst, seqG_scr, iRange1, iRange2, iEnumG, iZipG, td_tup, td_lst, td_scr, eLc, eLcM, tYes', pNone, pSome, eSl, cu_tup, cu_lst, cu_scr, eMt, eMt0, mAppend, isL, rs_non, rs_bl, rs_int, rs_str, rs_tup, rs_lst', rs_scr, itemsOf_tup, itemsOf_lst, itemsOf_scr, oI, oI0, oSub, oFdiv, oMod, oPow, oShl, oShr, oAnd, oOr, oXor, oLt, oLe, oGt, oGe, oNeg, oIsN, oNotN, Gx.isNon, oAdd, oAdd', oMul, oMul', oMulM, oEq, oNe, oEqS, oNeS, oIn, oNin, eChain, oIx, oSet, cLen, cList, cListM, cTuple, cSum, cAll, cAny, cInt, cAbs, cMax2, cMin2, cDivmod, cGcd, cIsi, cRepr, lstInts, lstBls, startD, wipeD, List.map_cons, List.map_nil, List.length_cons, List.length_nil, List.cons_append, List.nil_append, List.replicate_succ, List.replicate_zero, List.set_cons_succ, List.set_cons_zero, List.getElem?_cons_succ, List.getElem?_cons_zero, List.filterMap_cons_some, List.filterMap_nil, Nat.reduceAdd, Nat.reduceSub, Nat.sub_self, Nat.reduceLT, Nat.reduceMul, Nat.zero_add, Nat.add_zero, if_true, if_false, and_true, true_and, and_false, false_and, or_true, true_or, or_false, false_or, not_true_eq_false, not_false_eq_true, Bool.not_true, Bool.not_false, Bool.false_eq_true, ite_true, ite_false, reduceIte, reduceCtorEq, eq_self, eDicT0, eDixT, gSubsT, keysOf, cListT, cSortedP, oSubB, oMulT, iZip2G, eDic0, eDic1, oDix, oDin, oDnin, oDset, iKeysG, cSortedE, cListD, Gx.keyOf, cMaxL, cMinL, cSortedI, mIndex, $xs,*])
local macro_rules | `(tactic| simp_arith! [$xs,*]) => `(tactic| try simp only [eVar, eC, eBin, eUn, tBl, tAnd', tOr', tNot', eAnd, eOr, eNot, eIf, aNil, aCons, eTup, eLst, eLstM, eCall, eCallK, pick, sNext, sSeq, sBreak, sCont, sDrop, sRet, sRetN, sIf, sNever, gNm, gsNil, gsCons, gTupl, gSubs, sAsg, sPar, sPar3, sFor, iSeq, seqG_tup, seqG_lst, seqG_scr, iRange1, iRange2, iEnumG, iZipG, td_tup, td_lst, td_scr, eLc, eLcM, tYes', pNone, pSome, eSl, cu_tup, cu_lst, cu_scr, eMt, eMt0, mAppend, isL, rs_non, rs_bl, rs_int, rs_str, rs_tup, rs_lst', rs_scr, itemsOf_tup, itemsOf_lst, itemsOf_scr, oI, oI0, oSub, oFdiv, oMod, oPow, oShl, oShr, oAnd, oOr, oXor, oLt, oLe, oGt, oGe, oNeg, oIsN, oNotN, Gx.isNon, oAdd, oAdd', oMul, oMul', oMulM, oEq, oNe, oEqS, oNeS, oIn, oNin, eChain, oIx, oSet, cLen, cList, cListM, cTuple, cSum, cAll, cAny, cInt, cAbs, cMax2, cMin2, cDivmod, cGcd, cIsi, cRepr, lstInts, lstBls, startD, wipeD, List.map_cons, List.map_nil, List.length_cons, List.length_nil, List.cons_append, List.nil_append, List.replicate_succ, List.replicate_zero, List.set_cons_succ, List.set_cons_zero, List.getElem?_cons_succ, List.getElem?_cons_zero, List.filterMap_cons_some, List.filterMap_nil, Nat.reduceAdd, Nat.reduceSub, Nat.sub_self, Nat.reduceLT, Nat.reduceMul, Nat.zero_add, Nat.add_zero, if_true, if_false, and_true, true_and, and_false, false_and, or_true, true_or, or_false, false_or, not_true_eq_false, not_false_eq_true, Bool.not_true, Bool.not_false, Bool.false_eq_true, ite_true, ite_false, reduceIte, reduceCtorEq, eq_self, eDicT0, eDixT, gSubsT, keysOf, cListT, cSortedP, oSubB, oMulT, iZip2G, eDic0, eDic1, oDix, oDin, oDnin, oDset, iKeysG, cSortedE, cListD, Gx.keyOf, cMaxL, cMinL, cSortedI, mIndex, rs_N, rs_W, rs_Row, rs_S, rs_R, rs_B, it_N, it_W, it_Row, it_S, it_R, sq_W, sq_Row, sq_S, td_N, td_W, td_Row, td_S, rs_I, it_I, sq_I, td_I, rs_Ss, it_Ss, sq_Ss, td_Ss, cu_S, cu_W, cu_Row, atI_0, atI_1, $xs,*])
theorem val_some {κ : Type} [DecidableEq κ] {k : κ} {kvs : List (κ × D)} : (valD kvs k).isSome = true ↔ k ∈ kvs.map (·.1) := by
  rw [val_mem, decide_eq_true_eq]
def ltP (p q : Nat × Nat) : Prop := p.1 < q.1 ∨ (p.1 = q.1 ∧ p.2 < q.2)
theorem prs_asc (N : Net) : (prs N).Pairwise ltP := by
  unfold prs
  rw [List.pairwise_flatMap]
  refine ⟨fun i _ => ?_, List.pairwise_lt_range.imp fun {a b} h x hx y hy => ?_⟩
  · rw [List.pairwise_map]
    exact (List.pairwise_lt_range.filter _).imp fun {a b} h => .inr ⟨rfl, h⟩
  · obtain ⟨j, _, rfl⟩ := List.mem_map.mp hx
    obtain ⟨k, _, rfl⟩ := List.mem_map.mp hy
    exact .inl h
theorem prs_nd (N : Net) : (prs N).Nodup := (prs_asc N).imp fun {a b} h e => by
  subst e
  unfold ltP at h
  omega
theorem prs_len {N : Net} (h8 : N.n ≤ 8) : (prs N).length ≤ 56 := by
  have : ∀ l : List Nat, (∀ i ∈ l, i < N.n) → (l.flatMap fun i => ((List.range N.n).filter fun j => heeds N i j).map fun j => (i, j)).length ≤ 7 * l.length := fun l => by
    induction l with
    | nil => exact fun _ => Nat.le_refl _
    | cons i l ih =>
      intro h
      have hi := h i List.mem_cons_self
      have lt : ((List.range N.n).filter fun j => heeds N i j).length < (List.range N.n).length := List.length_filter_lt_length_iff_exists.mpr ⟨i, List.mem_range.mpr hi, by rw [heeds_not]; decide⟩
      have := ih fun x hx => h x (List.mem_cons_of_mem _ hx)
      rw [List.length_range] at lt
      rw [List.flatMap_cons, List.length_append, List.length_map, List.length_cons]
      omega
  have := this (List.range N.n) fun i hi => List.mem_range.mp hi
  rw [List.length_range] at this
  exact Nat.le_trans this (by omega)
abbrev keyP (i j : Nat) : List Key := [keyN i, keyN j]
theorem keyP_inj {i j a b : Nat} (h : keyP i j = keyP a b) : i = a ∧ j = b := by
  injection h with h1 h2
  injection h2 with h2 _
  injection h1 with h1
  injection h2 with h2
  omega
structure Fd (N : Net) (kvs : List (List Key × D)) (P : Nat → Nat → Nat → Prop) : Prop where
  nd : (kvs.map (·.1)).Nodup
  val : ∀ k d, valD kvs k = some d → ∃ i j x, k = keyP i j ∧ (i, j) ∈ prs N ∧ x ∈ shown N i j ∧ d = encS (stateOf N.n x)
  cov : ∀ i j x, i < N.n → j < N.n → j ≠ i → x ∈ shown N i j → P i j x → (valD kvs (keyP i j)).isSome = true
theorem Fd.mono {N : Net} {kvs : List (List Key × D)} {P Q : Nat → Nat → Nat → Prop} (f : Fd N kvs P) (h : ∀ i j x, i < N.n → j < N.n → j ≠ i → x ∈ shown N i j → Q i j x → P i j x) : Fd N kvs Q :=
  ⟨f.nd, f.val, fun i j x hi hj hn hx hq => f.cov i j x hi hj hn hx (h i j x hi hj hn hx hq)⟩
theorem Fd.keys {N : Net} {kvs : List (List Key × D)} {P : Nat → Nat → Nat → Prop} (f : Fd N kvs P) : ∀ k ∈ kvs.map (·.1), k ∈ (prs N).map fun p => keyP p.1 p.2 := fun k hk => by
  obtain ⟨d, hd⟩ := Option.isSome_iff_exists.mp (val_some.mpr hk)
  obtain ⟨i, j, _, e, hp, _⟩ := f.val k d hd
  exact List.mem_map.mpr ⟨(i, j), hp, e.symm⟩
theorem Fd.few {N : Net} (h8 : N.n ≤ 8) {kvs : List (List Key × D)} {P : Nat → Nat → Nat → Prop} (f : Fd N kvs P) : kvs.length ≤ 56 := by
  have h := nd_len f.nd f.keys
  rw [List.length_map, List.length_map] at h
  exact Nat.le_trans h (prs_len h8)
theorem Fd.perm {N : Net} {kvs : List (List Key × D)} (f : Fd N kvs fun _ _ _ => True) : ∃ l : List (Nat × Nat), kvs.map (·.1) = l.map (fun p => keyP p.1 p.2) ∧ l.Perm (prs N) := by
  have ex : ∀ ks : List (List Key), (∀ k ∈ ks, k ∈ (prs N).map fun p => keyP p.1 p.2) → ∃ l : List (Nat × Nat), ks = l.map (fun p => keyP p.1 p.2) ∧ ∀ p ∈ l, p ∈ prs N := fun ks => by
    induction ks with
    | nil => exact fun _ => ⟨[], rfl, fun _ h => nomatch h⟩
    | cons k ks ih =>
      intro h
      obtain ⟨p, hp, e⟩ := List.mem_map.mp (h k List.mem_cons_self)
      obtain ⟨l, el, hl⟩ := ih fun x hx => h x (List.mem_cons_of_mem _ hx)
      exact ⟨p :: l, by rw [List.map_cons, e, el], fun q hq => by
        rcases List.mem_cons.mp hq with rfl | hq
        · exact hp
        · exact hl q hq⟩
  obtain ⟨l, e, hl⟩ := ex _ f.keys
  refine ⟨l, e, ?_⟩
  have lnd : l.Nodup := by
    have := f.nd
    rw [e] at this
    exact (List.pairwise_map.mp this).imp fun h e => h (by rw [e])
  refine (List.perm_ext_iff_of_nodup lnd (prs_nd N)).mpr fun p => ⟨hl p, fun hp => ?_⟩
  obtain ⟨i, j⟩ := p
  obtain ⟨hi, hj, hh⟩ := mem_prs.mp hp
  obtain ⟨hn, x, hx⟩ := heeds_iff.mp hh
  have := f.cov i j x hi hj hn hx trivial
  have m := val_some.mp this
  rw [e] at m
  obtain ⟨q, hq, eq⟩ := List.mem_map.mp m
  obtain ⟨e1, e2⟩ := keyP_inj eq
  have : q = (i, j) := by rw [← e1, ← e2]
  rw [← this]
  exact hq
end Gx

--W2
/-! Gx, data side 43: words for the third family's laws. -/
namespace Gx
open PySem L2
/-! ### what is the same as itself -/
/-! ### laps -/
end Gx

--W2
/-! Gx, data side 45: how long rows of moves may be, by turns; rounds. -/
namespace Gx
open PySem L2
local macro_rules | `(tactic| simp_arith [$xs,*]) => `(tactic| try simp only [eVar, eC, eBin, eUn, tBl, tAnd', tOr', tNot', eAnd, eOr, eNot, eIf, aNil, aCons, eTup, eLst, eLstM, eCall, eCallK, pick, sNext, sSeq, sBreak, sCont, sDrop, sRet, sRetN, sIf, sNever, gNm, gsNil, gsCons, gTupl, gSubs, sAsg, sPar, sPar3, sFor, iSeq, seqG_tup, seqG_lst, seqG_scr, iRange1, iRange2, iEnumG, iZipG, td_tup, td_lst, td_scr, eLc, eLcM, tYes', pNone, pSome, eSl, cu_tup, cu_lst, cu_scr, eMt, eMt0, mAppend, isL, rs_non, rs_bl, rs_int, rs_str, rs_tup, rs_lst', rs_scr, itemsOf_tup, itemsOf_lst, itemsOf_scr, oI, oI0, oSub, oFdiv, oMod, oPow, oShl, oShr, oAnd, oOr, oXor, oLt, oLe, oGt, oGe, oNeg, oIsN, oNotN, Gx.isNon, oAdd, oAdd', oMul, oMul', oMulM, oEq, oNe, oEqS, oNeS, oIn, oNin, eChain, oIx, oSet, cLen, cList, cListM, cTuple, cSum, cAll, cAny, cInt, cAbs, cMax2, cMin2, cDivmod, cGcd, cIsi, cRepr, lstInts, lstBls, startD, wipeD, List.map_cons, List.map_nil, List.length_cons, List.length_nil, List.cons_append, List.nil_append, List.replicate_succ, List.replicate_zero, List.set_cons_succ, List.set_cons_zero, List.getElem?_cons_succ, List.getElem?_cons_zero, List.filterMap_cons_some, List.filterMap_nil, Nat.reduceAdd, Nat.reduceSub, Nat.sub_self, Nat.reduceLT, Nat.reduceMul, Nat.zero_add, Nat.add_zero, if_true, if_false, and_true, true_and, and_false, false_and, or_true, true_or, or_false, false_or, not_true_eq_false, not_false_eq_true, Bool.not_true, Bool.not_false, Bool.false_eq_true, ite_true, ite_false, reduceIte, reduceCtorEq, eq_self, aStar, eLstRg, eDicT0, eDixT, gSubsT, keysOf, cListT, cSortedP, oSubB, oMulT, iZip2G, eDic0, eDic1, oDix, oDin, oDnin, oDset, iKeysG, cSortedE, cListD, Gx.keyOf, cMaxL, cMinL, cSortedI, mIndex, $xs,*])
local macro_rules | `(tactic| simp_arith! [$xs,*]) => `(tactic| try simp only [eVar, eC, eBin, eUn, tBl, tAnd', tOr', tNot', eAnd, eOr, eNot, eIf, aNil, aCons, eTup, eLst, eLstM, eCall, eCallK, pick, sNext, sSeq, sBreak, sCont, sDrop, sRet, sRetN, sIf, sNever, gNm, gsNil, gsCons, gTupl, gSubs, sAsg, sPar, sPar3, sFor, iSeq, seqG_tup, seqG_lst, seqG_scr, iRange1, iRange2, iEnumG, iZipG, td_tup, td_lst, td_scr, eLc, eLcM, tYes', pNone, pSome, eSl, cu_tup, cu_lst, cu_scr, eMt, eMt0, mAppend, isL, rs_non, rs_bl, rs_int, rs_str, rs_tup, rs_lst', rs_scr, itemsOf_tup, itemsOf_lst, itemsOf_scr, oI, oI0, oSub, oFdiv, oMod, oPow, oShl, oShr, oAnd, oOr, oXor, oLt, oLe, oGt, oGe, oNeg, oIsN, oNotN, Gx.isNon, oAdd, oAdd', oMul, oMul', oMulM, oEq, oNe, oEqS, oNeS, oIn, oNin, eChain, oIx, oSet, cLen, cList, cListM, cTuple, cSum, cAll, cAny, cInt, cAbs, cMax2, cMin2, cDivmod, cGcd, cIsi, cRepr, lstInts, lstBls, startD, wipeD, List.map_cons, List.map_nil, List.length_cons, List.length_nil, List.cons_append, List.nil_append, List.replicate_succ, List.replicate_zero, List.set_cons_succ, List.set_cons_zero, List.getElem?_cons_succ, List.getElem?_cons_zero, List.filterMap_cons_some, List.filterMap_nil, Nat.reduceAdd, Nat.reduceSub, Nat.sub_self, Nat.reduceLT, Nat.reduceMul, Nat.zero_add, Nat.add_zero, if_true, if_false, and_true, true_and, and_false, false_and, or_true, true_or, or_false, false_or, not_true_eq_false, not_false_eq_true, Bool.not_true, Bool.not_false, Bool.false_eq_true, ite_true, ite_false, reduceIte, reduceCtorEq, eq_self, aStar, eLstRg, eDicT0, eDixT, gSubsT, keysOf, cListT, cSortedP, oSubB, oMulT, iZip2G, eDic0, eDic1, oDix, oDin, oDnin, oDset, iKeysG, cSortedE, cListD, Gx.keyOf, cMaxL, cMinL, cSortedI, mIndex, rs_N, rs_W, rs_Row, rs_S, rs_R, rs_B, it_N, it_W, it_Row, it_S, it_R, sq_W, sq_Row, sq_S, td_N, td_W, td_Row, td_S, rs_I, it_I, sq_I, td_I, rs_Ss, it_Ss, sq_Ss, td_Ss, cu_S, cu_W, cu_Row, atI_0, atI_1, $xs,*])
/-! ### there is one table of heights alone -/
/-! ### where moves lead, by the law -/
/-! ### heights by turns -/
structure HtQ (ms : Gr) (f : List (Option Nat)) : Prop where
  len : f.length = ms.length
  so : ∀ i v, i < ms.length → f.getD i none = some v → ∀ j ∈ rw' ms i, ∃ w, f.getD j none = some w ∧ w < v
  ex : ∀ i v, i < ms.length → f.getD i none = some v → (rw' ms i = [] ∧ v = 0) ∨ ∃ j ∈ rw' ms i, ∃ w, f.getD j none = some w ∧ v = w + 1
/-- a height that can be told -/
structure Fr (ms : Gr) (f : List (Option Nat)) (i v : Nat) : Prop where
  no : f.getD i none = none
  so : ∀ j ∈ rw' ms i, ∃ w, f.getD j none = some w ∧ w < v
  ex : (rw' ms i = [] ∧ v = 0) ∨ ∃ j ∈ rw' ms i, ∃ w, f.getD j none = some w ∧ v = w + 1
def Ups (f g : List (Option Nat)) : Prop := ∀ j w, f.getD j none = some w → g.getD j none = some w
theorem Fr.up {f g : List (Option Nat)} {i v : Nat} (h : Fr ms f i v) (u : Ups f g) (no : g.getD i none = none) : Fr ms g i v := by
  refine ⟨no, fun j hj => ?_, ?_⟩
  · obtain ⟨w, e, l⟩ := h.so j hj
    exact ⟨w, u j w e, l⟩
  · rcases h.ex with h | ⟨j, hj, w, e, l⟩
    · exact .inl h
    · exact .inr ⟨j, hj, w, u j w e, l⟩
theorem HtQ.set {f : List (Option Nat)} (h : HtQ ms f) {i v : Nat} (hi : i < ms.length) (q : Fr ms f i v) : HtQ ms (f.set i (some v)) ∧ Ups f (f.set i (some v)) := by
  have hl : i < f.length := by rw [h.len]; exact hi
  have keep : Ups f (f.set i (some v)) := fun j w e1 => by rw [getD_setO hl, if_neg (fun z => by rw [z, q.no] at e1; cases e1), e1]
  refine ⟨⟨by rw [List.length_set]; exact h.len, fun a u ha z j hj => ?_, fun a u ha z => ?_⟩, keep⟩
  · rw [getD_setO hl] at z
    by_cases y : a = i
    · rw [if_pos y] at z
      cases z
      rw [y] at hj
      obtain ⟨w, e1, l⟩ := q.so j hj
      exact ⟨w, keep j w e1, l⟩
    · rw [if_neg y] at z
      obtain ⟨w, e1, l⟩ := h.so a u ha z j hj
      exact ⟨w, keep j w e1, l⟩
  · rw [getD_setO hl] at z
    by_cases y : a = i
    · rw [if_pos y] at z
      cases z
      rw [y]
      rcases q.ex with h1 | ⟨j, hj, w, e1, l⟩
      · exact .inl h1
      · exact .inr ⟨j, hj, w, keep j w e1, l⟩
    · rw [if_neg y] at z
      rcases h.ex a u ha z with h1 | ⟨j, hj, w, e1, l⟩
      · exact .inl h1
      · exact .inr ⟨j, hj, w, keep j w e1, l⟩
end Gx

--W2
/-! Gx, data side 46: heights or a round. -/
namespace Gx
open PySem L2
local macro_rules | `(tactic| simp_arith [$xs,*]) => `(tactic| try simp only [eVar, eC, eBin, eUn, tBl, tAnd', tOr', tNot', eAnd, eOr, eNot, eIf, aNil, aCons, eTup, eLst, eLstM, eCall, eCallK, pick, sNext, sSeq, sBreak, sCont, sDrop, sRet, sRetN, sIf, sNever, gNm, gsNil, gsCons, gTupl, gSubs, sAsg, sPar, sPar3, sFor, iSeq, seqG_tup, seqG_lst, seqG_scr, iRange1, iRange2, iEnumG, iZipG, td_tup, td_lst, td_scr, eLc, eLcM, tYes', pNone, pSome, eSl, cu_tup, cu_lst, cu_scr, eMt, eMt0, mAppend, isL, rs_non, rs_bl, rs_int, rs_str, rs_tup, rs_lst', rs_scr, itemsOf_tup, itemsOf_lst, itemsOf_scr, oI, oI0, oSub, oFdiv, oMod, oPow, oShl, oShr, oAnd, oOr, oXor, oLt, oLe, oGt, oGe, oNeg, oIsN, oNotN, Gx.isNon, oAdd, oAdd', oMul, oMul', oMulM, oEq, oNe, oEqS, oNeS, oIn, oNin, eChain, oIx, oSet, cLen, cList, cListM, cTuple, cSum, cAll, cAny, cInt, cAbs, cMax2, cMin2, cDivmod, cGcd, cIsi, cRepr, lstInts, lstBls, startD, wipeD, List.map_cons, List.map_nil, List.length_cons, List.length_nil, List.cons_append, List.nil_append, List.replicate_succ, List.replicate_zero, List.set_cons_succ, List.set_cons_zero, List.getElem?_cons_succ, List.getElem?_cons_zero, List.filterMap_cons_some, List.filterMap_nil, Nat.reduceAdd, Nat.reduceSub, Nat.sub_self, Nat.reduceLT, Nat.reduceMul, Nat.zero_add, Nat.add_zero, if_true, if_false, and_true, true_and, and_false, false_and, or_true, true_or, or_false, false_or, not_true_eq_false, not_false_eq_true, Bool.not_true, Bool.not_false, Bool.false_eq_true, ite_true, ite_false, reduceIte, reduceCtorEq, eq_self, aStar, eLstRg, eDicT0, eDixT, gSubsT, keysOf, cListT, cSortedP, oSubB, oMulT, iZip2G, eDic0, eDic1, oDix, oDin, oDnin, oDset, iKeysG, cSortedE, cListD, Gx.keyOf, cMaxL, cMinL, cSortedI, mIndex, $xs,*])
/-! ### the walks -/
end Gx

--W2
/-! Gx, data side 47: what is come to from some states, and ways back: the plain law. -/
namespace Gx
open PySem L2
section
variable {ms : Gr} {L0 : List Nat}
/-! ### ways back -/
/-- whom one is come to behind -/
def wbk (a : List (Nat × Nat)) (x : Nat) : Option Nat := (a.find? fun p => decide (p.1 = x)).map (·.2)
def wb (a : List (Nat × Nat)) : Nat → List Nat → List Nat
  | 0, w => w
  | m + 1, w => match wbk a (w.headD 0) with
    | some y => wb a m (y :: w)
    | none => w
def rank (a : List (Nat × Nat)) (x : Nat) : Nat := if x ∈ a.map (·.1) then a.findIdx (fun p => decide (p.1 = x)) + 1 else 0
/-! ### on, round -/
end
end Gx

--W2
/-! Gx, data side 48: coming back: the package's walks. -/
namespace Gx
open PySem L2
local macro_rules | `(tactic| simp_arith [$xs,*]) => `(tactic| try simp only [eVar, eC, eBin, eUn, tBl, tAnd', tOr', tNot', eAnd, eOr, eNot, eIf, aNil, aCons, eTup, eLst, eLstM, eCall, eCallK, pick, sNext, sSeq, sBreak, sCont, sDrop, sRet, sRetN, sIf, sNever, gNm, gsNil, gsCons, gTupl, gSubs, sAsg, sPar, sPar3, sFor, iSeq, seqG_tup, seqG_lst, seqG_scr, iRange1, iRange2, iEnumG, iZipG, td_tup, td_lst, td_scr, eLc, eLcM, tYes', pNone, pSome, eSl, cu_tup, cu_lst, cu_scr, eMt, eMt0, mAppend, isL, rs_non, rs_bl, rs_int, rs_str, rs_tup, rs_lst', rs_scr, itemsOf_tup, itemsOf_lst, itemsOf_scr, oI, oI0, oSub, oFdiv, oMod, oPow, oShl, oShr, oAnd, oOr, oXor, oLt, oLe, oGt, oGe, oNeg, oIsN, oNotN, Gx.isNon, oAdd, oAdd', oMul, oMul', oMulM, oEq, oNe, oEqS, oNeS, oIn, oNin, eChain, oIx, oSet, cLen, cList, cListM, cTuple, cSum, cAll, cAny, cInt, cAbs, cMax2, cMin2, cDivmod, cGcd, cIsi, cRepr, lstInts, lstBls, startD, wipeD, List.map_cons, List.map_nil, List.length_cons, List.length_nil, List.cons_append, List.nil_append, List.replicate_succ, List.replicate_zero, List.set_cons_succ, List.set_cons_zero, List.getElem?_cons_succ, List.getElem?_cons_zero, List.filterMap_cons_some, List.filterMap_nil, Nat.reduceAdd, Nat.reduceSub, Nat.sub_self, Nat.reduceLT, Nat.reduceMul, Nat.zero_add, Nat.add_zero, if_true, if_false, and_true, true_and, and_false, false_and, or_true, true_or, or_false, false_or, not_true_eq_false, not_false_eq_true, Bool.not_true, Bool.not_false, Bool.false_eq_true, ite_true, ite_false, reduceIte, reduceCtorEq, eq_self, aStar, eLstRg, eDicT0, eDixT, gSubsT, keysOf, cListT, cSortedP, oSubB, oMulT, iZip2G, eDic0, eDic1, oDix, oDin, oDnin, oDset, iKeysG, cSortedE, cListD, Gx.keyOf, cMaxL, cMinL, cSortedI, mIndex, $xs,*])
local macro_rules | `(tactic| simp_arith! [$xs,*]) => `(tactic| try simp only [eVar, eC, eBin, eUn, tBl, tAnd', tOr', tNot', eAnd, eOr, eNot, eIf, aNil, aCons, eTup, eLst, eLstM, eCall, eCallK, pick, sNext, sSeq, sBreak, sCont, sDrop, sRet, sRetN, sIf, sNever, gNm, gsNil, gsCons, gTupl, gSubs, sAsg, sPar, sPar3, sFor, iSeq, seqG_tup, seqG_lst, seqG_scr, iRange1, iRange2, iEnumG, iZipG, td_tup, td_lst, td_scr, eLc, eLcM, tYes', pNone, pSome, eSl, cu_tup, cu_lst, cu_scr, eMt, eMt0, mAppend, isL, rs_non, rs_bl, rs_int, rs_str, rs_tup, rs_lst', rs_scr, itemsOf_tup, itemsOf_lst, itemsOf_scr, oI, oI0, oSub, oFdiv, oMod, oPow, oShl, oShr, oAnd, oOr, oXor, oLt, oLe, oGt, oGe, oNeg, oIsN, oNotN, Gx.isNon, oAdd, oAdd', oMul, oMul', oMulM, oEq, oNe, oEqS, oNeS, oIn, oNin, eChain, oIx, oSet, cLen, cList, cListM, cTuple, cSum, cAll, cAny, cInt, cAbs, cMax2, cMin2, cDivmod, cGcd, cIsi, cRepr, lstInts, lstBls, startD, wipeD, List.map_cons, List.map_nil, List.length_cons, List.length_nil, List.cons_append, List.nil_append, List.replicate_succ, List.replicate_zero, List.set_cons_succ, List.set_cons_zero, List.getElem?_cons_succ, List.getElem?_cons_zero, List.filterMap_cons_some, List.filterMap_nil, Nat.reduceAdd, Nat.reduceSub, Nat.sub_self, Nat.reduceLT, Nat.reduceMul, Nat.zero_add, Nat.add_zero, if_true, if_false, and_true, true_and, and_false, false_and, or_true, true_or, or_false, false_or, not_true_eq_false, not_false_eq_true, Bool.not_true, Bool.not_false, Bool.false_eq_true, ite_true, ite_false, reduceIte, reduceCtorEq, eq_self, aStar, eLstRg, eDicT0, eDixT, gSubsT, keysOf, cListT, cSortedP, oSubB, oMulT, iZip2G, eDic0, eDic1, oDix, oDin, oDnin, oDset, iKeysG, cSortedE, cListD, Gx.keyOf, cMaxL, cMinL, cSortedI, mIndex, rs_N, rs_W, rs_Row, rs_S, rs_R, rs_B, it_N, it_W, it_Row, it_S, it_R, sq_W, sq_Row, sq_S, td_N, td_W, td_Row, td_S, rs_I, it_I, sq_I, td_I, rs_Ss, it_Ss, sq_Ss, td_Ss, cu_S, cu_W, cu_Row, atI_0, atI_1, $xs,*])
/-! ### from behind -/
/-! ### how unlike two states are -/
/-! ### walked on -/
end Gx

--W2
/-! Gx, data side 49: rows away. -/
namespace Gx
open PySem L2
local macro_rules | `(tactic| simp_arith [$xs,*]) => `(tactic| try simp only [eVar, eC, eBin, eUn, tBl, tAnd', tOr', tNot', eAnd, eOr, eNot, eIf, aNil, aCons, eTup, eLst, eLstM, eCall, eCallK, pick, sNext, sSeq, sBreak, sCont, sDrop, sRet, sRetN, sIf, sNever, gNm, gsNil, gsCons, gTupl, gSubs, sAsg, sPar, sPar3, sFor, iSeq, seqG_tup, seqG_lst, seqG_scr, iRange1, iRange2, iEnumG, iZipG, td_tup, td_lst, td_scr, eLc, eLcM, tYes', pNone, pSome, eSl, cu_tup, cu_lst, cu_scr, eMt, eMt0, mAppend, isL, rs_non, rs_bl, rs_int, rs_str, rs_tup, rs_lst', rs_scr, itemsOf_tup, itemsOf_lst, itemsOf_scr, oI, oI0, oSub, oFdiv, oMod, oPow, oShl, oShr, oAnd, oOr, oXor, oLt, oLe, oGt, oGe, oNeg, oIsN, oNotN, Gx.isNon, oAdd, oAdd', oMul, oMul', oMulM, oEq, oNe, oEqS, oNeS, oIn, oNin, eChain, oIx, oSet, cLen, cList, cListM, cTuple, cSum, cAll, cAny, cInt, cAbs, cMax2, cMin2, cDivmod, cGcd, cIsi, cRepr, lstInts, lstBls, startD, wipeD, List.map_cons, List.map_nil, List.length_cons, List.length_nil, List.cons_append, List.nil_append, List.replicate_succ, List.replicate_zero, List.set_cons_succ, List.set_cons_zero, List.getElem?_cons_succ, List.getElem?_cons_zero, List.filterMap_cons_some, List.filterMap_nil, Nat.reduceAdd, Nat.reduceSub, Nat.sub_self, Nat.reduceLT, Nat.reduceMul, Nat.zero_add, Nat.add_zero, if_true, if_false, and_true, true_and, and_false, false_and, or_true, true_or, or_false, false_or, not_true_eq_false, not_false_eq_true, Bool.not_true, Bool.not_false, Bool.false_eq_true, ite_true, ite_false, reduceIte, reduceCtorEq, eq_self, aStar, eLstRg, eDicT0, eDixT, gSubsT, keysOf, cListT, cSortedP, oSubB, oMulT, iZip2G, eDic0, eDic1, oDix, oDin, oDnin, oDset, iKeysG, cSortedE, cListD, Gx.keyOf, cMaxL, cMinL, cSortedI, mIndex, $xs,*])
/-! ### where it goes wrong -/
/-! ### on and round -/
/-! ### numbers away -/
end Gx

--W2
/-! Gx, data side 50: coming back: what the package tells. -/
namespace Gx
open PySem L2
local macro_rules | `(tactic| simp_arith [$xs,*]) => `(tactic| try simp only [eVar, eC, eBin, eUn, tBl, tAnd', tOr', tNot', eAnd, eOr, eNot, eIf, aNil, aCons, eTup, eLst, eLstM, eCall, eCallK, pick, sNext, sSeq, sBreak, sCont, sDrop, sRet, sRetN, sIf, sNever, gNm, gsNil, gsCons, gTupl, gSubs, sAsg, sPar, sPar3, sFor, iSeq, seqG_tup, seqG_lst, seqG_scr, iRange1, iRange2, iEnumG, iZipG, td_tup, td_lst, td_scr, eLc, eLcM, tYes', pNone, pSome, eSl, cu_tup, cu_lst, cu_scr, eMt, eMt0, mAppend, isL, rs_non, rs_bl, rs_int, rs_str, rs_tup, rs_lst', rs_scr, itemsOf_tup, itemsOf_lst, itemsOf_scr, oI, oI0, oSub, oFdiv, oMod, oPow, oShl, oShr, oAnd, oOr, oXor, oLt, oLe, oGt, oGe, oNeg, oIsN, oNotN, Gx.isNon, oAdd, oAdd', oMul, oMul', oMulM, oEq, oNe, oEqS, oNeS, oIn, oNin, eChain, oIx, oSet, cLen, cList, cListM, cTuple, cSum, cAll, cAny, cInt, cAbs, cMax2, cMin2, cDivmod, cGcd, cIsi, cRepr, lstInts, lstBls, startD, wipeD, List.map_cons, List.map_nil, List.length_cons, List.length_nil, List.cons_append, List.nil_append, List.replicate_succ, List.replicate_zero, List.set_cons_succ, List.set_cons_zero, List.getElem?_cons_succ, List.getElem?_cons_zero, List.filterMap_cons_some, List.filterMap_nil, Nat.reduceAdd, Nat.reduceSub, Nat.sub_self, Nat.reduceLT, Nat.reduceMul, Nat.zero_add, Nat.add_zero, if_true, if_false, and_true, true_and, and_false, false_and, or_true, true_or, or_false, false_or, not_true_eq_false, not_false_eq_true, Bool.not_true, Bool.not_false, Bool.false_eq_true, ite_true, ite_false, reduceIte, reduceCtorEq, eq_self, aStar, eLstRg, eDicT0, eDixT, gSubsT, keysOf, cListT, cSortedP, oSubB, oMulT, iZip2G, eDic0, eDic1, oDix, oDin, oDnin, oDset, iKeysG, cSortedE, cListD, Gx.keyOf, cMaxL, cMinL, cSortedI, mIndex, $xs,*])
end Gx

--W2
/-! Gx, data side 51: coming back, by the law. -/
namespace Gx
open PySem L2
local macro_rules | `(tactic| simp_arith [$xs,*]) => `(tactic| try simp only [eVar, eC, eBin, eUn, tBl, tAnd', tOr', tNot', eAnd, eOr, eNot, eIf, aNil, aCons, eTup, eLst, eLstM, eCall, eCallK, pick, sNext, sSeq, sBreak, sCont, sDrop, sRet, sRetN, sIf, sNever, gNm, gsNil, gsCons, gTupl, gSubs, sAsg, sPar, sPar3, sFor, iSeq, seqG_tup, seqG_lst, seqG_scr, iRange1, iRange2, iEnumG, iZipG, td_tup, td_lst, td_scr, eLc, eLcM, tYes', pNone, pSome, eSl, cu_tup, cu_lst, cu_scr, eMt, eMt0, mAppend, isL, rs_non, rs_bl, rs_int, rs_str, rs_tup, rs_lst', rs_scr, itemsOf_tup, itemsOf_lst, itemsOf_scr, oI, oI0, oSub, oFdiv, oMod, oPow, oShl, oShr, oAnd, oOr, oXor, oLt, oLe, oGt, oGe, oNeg, oIsN, oNotN, Gx.isNon, oAdd, oAdd', oMul, oMul', oMulM, oEq, oNe, oEqS, oNeS, oIn, oNin, eChain, oIx, oSet, cLen, cList, cListM, cTuple, cSum, cAll, cAny, cInt, cAbs, cMax2, cMin2, cDivmod, cGcd, cIsi, cRepr, lstInts, lstBls, startD, wipeD, List.map_cons, List.map_nil, List.length_cons, List.length_nil, List.cons_append, List.nil_append, List.replicate_succ, List.replicate_zero, List.set_cons_succ, List.set_cons_zero, List.getElem?_cons_succ, List.getElem?_cons_zero, List.filterMap_cons_some, List.filterMap_nil, Nat.reduceAdd, Nat.reduceSub, Nat.sub_self, Nat.reduceLT, Nat.reduceMul, Nat.zero_add, Nat.add_zero, if_true, if_false, and_true, true_and, and_false, false_and, or_true, true_or, or_false, false_or, not_true_eq_false, not_false_eq_true, Bool.not_true, Bool.not_false, Bool.false_eq_true, ite_true, ite_false, reduceIte, reduceCtorEq, eq_self, aStar, eLstRg, eDicT0, eDixT, gSubsT, keysOf, cListT, cSortedP, oSubB, oMulT, iZip2G, eDic0, eDic1, oDix, oDin, oDnin, oDset, iKeysG, cSortedE, cListD, Gx.keyOf, cMaxL, cMinL, cSortedI, mIndex, $xs,*])
local macro_rules | `(tactic| simp_arith! [$xs,*]) => `(tactic| try simp only [eVar, eC, eBin, eUn, tBl, tAnd', tOr', tNot', eAnd, eOr, eNot, eIf, aNil, aCons, eTup, eLst, eLstM, eCall, eCallK, pick, sNext, sSeq, sBreak, sCont, sDrop, sRet, sRetN, sIf, sNever, gNm, gsNil, gsCons, gTupl, gSubs, sAsg, sPar, sPar3, sFor, iSeq, seqG_tup, seqG_lst, seqG_scr, iRange1, iRange2, iEnumG, iZipG, td_tup, td_lst, td_scr, eLc, eLcM, tYes', pNone, pSome, eSl, cu_tup, cu_lst, cu_scr, eMt, eMt0, mAppend, isL, rs_non, rs_bl, rs_int, rs_str, rs_tup, rs_lst', rs_scr, itemsOf_tup, itemsOf_lst, itemsOf_scr, oI, oI0, oSub, oFdiv, oMod, oPow, oShl, oShr, oAnd, oOr, oXor, oLt, oLe, oGt, oGe, oNeg, oIsN, oNotN, Gx.isNon, oAdd, oAdd', oMul, oMul', oMulM, oEq, oNe, oEqS, oNeS, oIn, oNin, eChain, oIx, oSet, cLen, cList, cListM, cTuple, cSum, cAll, cAny, cInt, cAbs, cMax2, cMin2, cDivmod, cGcd, cIsi, cRepr, lstInts, lstBls, startD, wipeD, List.map_cons, List.map_nil, List.length_cons, List.length_nil, List.cons_append, List.nil_append, List.replicate_succ, List.replicate_zero, List.set_cons_succ, List.set_cons_zero, List.getElem?_cons_succ, List.getElem?_cons_zero, List.filterMap_cons_some, List.filterMap_nil, Nat.reduceAdd, Nat.reduceSub, Nat.sub_self, Nat.reduceLT, Nat.reduceMul, Nat.zero_add, Nat.add_zero, if_true, if_false, and_true, true_and, and_false, false_and, or_true, true_or, or_false, false_or, not_true_eq_false, not_false_eq_true, Bool.not_true, Bool.not_false, Bool.false_eq_true, ite_true, ite_false, reduceIte, reduceCtorEq, eq_self, aStar, eLstRg, eDicT0, eDixT, gSubsT, keysOf, cListT, cSortedP, oSubB, oMulT, iZip2G, eDic0, eDic1, oDix, oDin, oDnin, oDset, iKeysG, cSortedE, cListD, Gx.keyOf, cMaxL, cMinL, cSortedI, mIndex, rs_N, rs_W, rs_Row, rs_S, rs_R, rs_B, it_N, it_W, it_Row, it_S, it_R, sq_W, sq_Row, sq_S, td_N, td_W, td_Row, td_S, rs_I, it_I, sq_I, td_I, rs_Ss, it_Ss, sq_Ss, td_Ss, cu_S, cu_W, cu_Row, atI_0, atI_1, $xs,*])
/-! ### how unlike -/
/-! ### what is come to -/
/-! ### whether it comes back -/
/-! ### a told row away -/
end Gx

--W2
/-! Gx, data side 52: a told row away, by the law. -/
namespace Gx
open PySem L2
local macro_rules | `(tactic| simp_arith [$xs,*]) => `(tactic| try simp only [eVar, eC, eBin, eUn, tBl, tAnd', tOr', tNot', eAnd, eOr, eNot, eIf, aNil, aCons, eTup, eLst, eLstM, eCall, eCallK, pick, sNext, sSeq, sBreak, sCont, sDrop, sRet, sRetN, sIf, sNever, gNm, gsNil, gsCons, gTupl, gSubs, sAsg, sPar, sPar3, sFor, iSeq, seqG_tup, seqG_lst, seqG_scr, iRange1, iRange2, iEnumG, iZipG, td_tup, td_lst, td_scr, eLc, eLcM, tYes', pNone, pSome, eSl, cu_tup, cu_lst, cu_scr, eMt, eMt0, mAppend, isL, rs_non, rs_bl, rs_int, rs_str, rs_tup, rs_lst', rs_scr, itemsOf_tup, itemsOf_lst, itemsOf_scr, oI, oI0, oSub, oFdiv, oMod, oPow, oShl, oShr, oAnd, oOr, oXor, oLt, oLe, oGt, oGe, oNeg, oIsN, oNotN, Gx.isNon, oAdd, oAdd', oMul, oMul', oMulM, oEq, oNe, oEqS, oNeS, oIn, oNin, eChain, oIx, oSet, cLen, cList, cListM, cTuple, cSum, cAll, cAny, cInt, cAbs, cMax2, cMin2, cDivmod, cGcd, cIsi, cRepr, lstInts, lstBls, startD, wipeD, List.map_cons, List.map_nil, List.length_cons, List.length_nil, List.cons_append, List.nil_append, List.replicate_succ, List.replicate_zero, List.set_cons_succ, List.set_cons_zero, List.getElem?_cons_succ, List.getElem?_cons_zero, List.filterMap_cons_some, List.filterMap_nil, Nat.reduceAdd, Nat.reduceSub, Nat.sub_self, Nat.reduceLT, Nat.reduceMul, Nat.zero_add, Nat.add_zero, if_true, if_false, and_true, true_and, and_false, false_and, or_true, true_or, or_false, false_or, not_true_eq_false, not_false_eq_true, Bool.not_true, Bool.not_false, Bool.false_eq_true, ite_true, ite_false, reduceIte, reduceCtorEq, eq_self, aStar, eLstRg, eDicT0, eDixT, gSubsT, keysOf, cListT, cSortedP, oSubB, oMulT, iZip2G, eDic0, eDic1, oDix, oDin, oDnin, oDset, iKeysG, cSortedE, cListD, Gx.keyOf, cMaxL, cMinL, cSortedI, mIndex, $xs,*])
local macro_rules | `(tactic| simp_arith! [$xs,*]) => `(tactic| try simp only [eVar, eC, eBin, eUn, tBl, tAnd', tOr', tNot', eAnd, eOr, eNot, eIf, aNil, aCons, eTup, eLst, eLstM, eCall, eCallK, pick, sNext, sSeq, sBreak, sCont, sDrop, sRet, sRetN, sIf, sNever, gNm, gsNil, gsCons, gTupl, gSubs, sAsg, sPar, sPar3, sFor, iSeq, seqG_tup, seqG_lst, seqG_scr, iRange1, iRange2, iEnumG, iZipG, td_tup, td_lst, td_scr, eLc, eLcM, tYes', pNone, pSome, eSl, cu_tup, cu_lst, cu_scr, eMt, eMt0, mAppend, isL, rs_non, rs_bl, rs_int, rs_str, rs_tup, rs_lst', rs_scr, itemsOf_tup, itemsOf_lst, itemsOf_scr, oI, oI0, oSub, oFdiv, oMod, oPow, oShl, oShr, oAnd, oOr, oXor, oLt, oLe, oGt, oGe, oNeg, oIsN, oNotN, Gx.isNon, oAdd, oAdd', oMul, oMul', oMulM, oEq, oNe, oEqS, oNeS, oIn, oNin, eChain, oIx, oSet, cLen, cList, cListM, cTuple, cSum, cAll, cAny, cInt, cAbs, cMax2, cMin2, cDivmod, cGcd, cIsi, cRepr, lstInts, lstBls, startD, wipeD, List.map_cons, List.map_nil, List.length_cons, List.length_nil, List.cons_append, List.nil_append, List.replicate_succ, List.replicate_zero, List.set_cons_succ, List.set_cons_zero, List.getElem?_cons_succ, List.getElem?_cons_zero, List.filterMap_cons_some, List.filterMap_nil, Nat.reduceAdd, Nat.reduceSub, Nat.sub_self, Nat.reduceLT, Nat.reduceMul, Nat.zero_add, Nat.add_zero, if_true, if_false, and_true, true_and, and_false, false_and, or_true, true_or, or_false, false_or, not_true_eq_false, not_false_eq_true, Bool.not_true, Bool.not_false, Bool.false_eq_true, ite_true, ite_false, reduceIte, reduceCtorEq, eq_self, aStar, eLstRg, eDicT0, eDixT, gSubsT, keysOf, cListT, cSortedP, oSubB, oMulT, iZip2G, eDic0, eDic1, oDix, oDin, oDnin, oDset, iKeysG, cSortedE, cListD, Gx.keyOf, cMaxL, cMinL, cSortedI, mIndex, rs_N, rs_W, rs_Row, rs_S, rs_R, rs_B, it_N, it_W, it_Row, it_S, it_R, sq_W, sq_Row, sq_S, td_N, td_W, td_Row, td_S, rs_I, it_I, sq_I, td_I, rs_Ss, it_Ss, sq_Ss, td_Ss, cu_S, cu_W, cu_Row, atI_0, atI_1, $xs,*])
end Gx

--W2
/-! Gx, data side 53: nets that lean on their scales. -/
namespace Gx
open PySem L2
local macro_rules | `(tactic| simp_arith [$xs,*]) => `(tactic| try simp only [eVar, eC, eBin, eUn, tBl, tAnd', tOr', tNot', eAnd, eOr, eNot, eIf, aNil, aCons, eTup, eLst, eLstM, eCall, eCallK, pick, sNext, sSeq, sBreak, sCont, sDrop, sRet, sRetN, sIf, sNever, gNm, gsNil, gsCons, gTupl, gSubs, sAsg, sPar, sPar3, sFor, iSeq, seqG_tup, seqG_lst, seqG_scr, iRange1, iRange2, iEnumG, iZipG, td_tup, td_lst, td_scr, eLc, eLcM, tYes', pNone, pSome, eSl, cu_tup, cu_lst, cu_scr, eMt, eMt0, mAppend, isL, rs_non, rs_bl, rs_int, rs_str, rs_tup, rs_lst', rs_scr, itemsOf_tup, itemsOf_lst, itemsOf_scr, oI, oI0, oSub, oFdiv, oMod, oPow, oShl, oShr, oAnd, oOr, oXor, oLt, oLe, oGt, oGe, oNeg, oIsN, oNotN, Gx.isNon, oAdd, oAdd', oMul, oMul', oMulM, oEq, oNe, oEqS, oNeS, oIn, oNin, eChain, oIx, oSet, cLen, cList, cListM, cTuple, cSum, cAll, cAny, cInt, cAbs, cMax2, cMin2, cDivmod, cGcd, cIsi, cRepr, lstInts, lstBls, startD, wipeD, List.map_cons, List.map_nil, List.length_cons, List.length_nil, List.cons_append, List.nil_append, List.replicate_succ, List.replicate_zero, List.set_cons_succ, List.set_cons_zero, List.getElem?_cons_succ, List.getElem?_cons_zero, List.filterMap_cons_some, List.filterMap_nil, Nat.reduceAdd, Nat.reduceSub, Nat.sub_self, Nat.reduceLT, Nat.reduceMul, Nat.zero_add, Nat.add_zero, if_true, if_false, and_true, true_and, and_false, false_and, or_true, true_or, or_false, false_or, not_true_eq_false, not_false_eq_true, Bool.not_true, Bool.not_false, Bool.false_eq_true, ite_true, ite_false, reduceIte, reduceCtorEq, eq_self, aStar, eLstRg, eDicT0, eDixT, gSubsT, keysOf, cListT, cSortedP, oSubB, oMulT, iZip2G, eDic0, eDic1, oDix, oDin, oDnin, oDset, iKeysG, cSortedE, cListD, Gx.keyOf, cMaxL, cMinL, cSortedI, mIndex, $xs,*])
local macro_rules | `(tactic| simp_arith! [$xs,*]) => `(tactic| try simp only [eVar, eC, eBin, eUn, tBl, tAnd', tOr', tNot', eAnd, eOr, eNot, eIf, aNil, aCons, eTup, eLst, eLstM, eCall, eCallK, pick, sNext, sSeq, sBreak, sCont, sDrop, sRet, sRetN, sIf, sNever, gNm, gsNil, gsCons, gTupl, gSubs, sAsg, sPar, sPar3, sFor, iSeq, seqG_tup, seqG_lst, seqG_scr, iRange1, iRange2, iEnumG, iZipG, td_tup, td_lst, td_scr, eLc, eLcM, tYes', pNone, pSome, eSl, cu_tup, cu_lst, cu_scr, eMt, eMt0, mAppend, isL, rs_non, rs_bl, rs_int, rs_str, rs_tup, rs_lst', rs_scr, itemsOf_tup, itemsOf_lst, itemsOf_scr, oI, oI0, oSub, oFdiv, oMod, oPow, oShl, oShr, oAnd, oOr, oXor, oLt, oLe, oGt, oGe, oNeg, oIsN, oNotN, Gx.isNon, oAdd, oAdd', oMul, oMul', oMulM, oEq, oNe, oEqS, oNeS, oIn, oNin, eChain, oIx, oSet, cLen, cList, cListM, cTuple, cSum, cAll, cAny, cInt, cAbs, cMax2, cMin2, cDivmod, cGcd, cIsi, cRepr, lstInts, lstBls, startD, wipeD, List.map_cons, List.map_nil, List.length_cons, List.length_nil, List.cons_append, List.nil_append, List.replicate_succ, List.replicate_zero, List.set_cons_succ, List.set_cons_zero, List.getElem?_cons_succ, List.getElem?_cons_zero, List.filterMap_cons_some, List.filterMap_nil, Nat.reduceAdd, Nat.reduceSub, Nat.sub_self, Nat.reduceLT, Nat.reduceMul, Nat.zero_add, Nat.add_zero, if_true, if_false, and_true, true_and, and_false, false_and, or_true, true_or, or_false, false_or, not_true_eq_false, not_false_eq_true, Bool.not_true, Bool.not_false, Bool.false_eq_true, ite_true, ite_false, reduceIte, reduceCtorEq, eq_self, aStar, eLstRg, eDicT0, eDixT, gSubsT, keysOf, cListT, cSortedP, oSubB, oMulT, iZip2G, eDic0, eDic1, oDix, oDin, oDnin, oDset, iKeysG, cSortedE, cListD, Gx.keyOf, cMaxL, cMinL, cSortedI, mIndex, rs_N, rs_W, rs_Row, rs_S, rs_R, rs_B, it_N, it_W, it_Row, it_S, it_R, sq_W, sq_Row, sq_S, td_N, td_W, td_Row, td_S, rs_I, it_I, sq_I, td_I, rs_Ss, it_Ss, sq_Ss, td_Ss, cu_S, cu_W, cu_Row, atI_0, atI_1, $xs,*])
/-! ### scales -/
structure Sc3 (q : Rat) : Prop where
  ne : q ≠ 0
  bd : Bd 2 2 q
  inv : Bd 3 2 q⁻¹
def third : Rat := ⟨1, 3, by decide, by decide⟩
def two : Rat := ⟨2, 1, by decide, by decide⟩
/-! ### what stands there -/
abbrev LP : Rat → Prop := Bd 9 3
structure Ln (n : Nat) (p p4 p5 p6 p7 : Addr) (qs : List Addr) (S0 S : Sto) (ws : List (List Rat)) (sg : List Int) (sc : List Rat) : Prop where
  f : Fil n p p4 qs S0 S ws
  o5 : Own p S0 p5
  o6 : Own p S0 p6
  o7 : Own p S0 p7
  n5 : p5 ∉ qs
  n6 : p6 ∉ qs
  n7 : p7 ∉ qs
  at5 : S p5 = some (.lst (sg.map .int))
  at6 : S p6 = some (.lst (sc.map encR))
  at7 : S p7 = some (.lst [])
  hb : ∀ a b, a < n → b < n → LP (ent ws a b)
  hd : ∀ a, a < n → ent ws a a = 0
theorem Ln.drw {n : Nat} {p p4 p5 p6 p7 : Addr} {qs : List Addr} {S0 S S' : Sto} {ws : List (List Rat)} {sg : List Int} {sc : List Rat} (l : Ln n p p4 p5 p6 p7 qs S0 S ws sg sc) (d : Drw p S S') : Ln n p p4 p5 p6 p7 qs S0 S' ws sg sc :=
  ⟨l.f.drw d, l.o5, l.o6, l.o7, l.n5, l.n6, l.n7, by rw [d.at l.o5.2]; exact l.at5, by rw [d.at l.o6.2]; exact l.at6, by rw [d.at l.o7.2]; exact l.at7, l.hb, l.hd⟩
/-- signs and scales that stand so far -/
structure Sgn (p p5 p6 p7 : Addr) (S0 S : Sto) (sg : List Int) (sc : List Rat) (i j : Nat) : Prop where
  e : Ext p S0 S
  o5 : Own p S0 p5
  o6 : Own p S0 p6
  o7 : Own p S0 p7
  n56 : p5 ≠ p6
  n57 : p5 ≠ p7
  n67 : p6 ≠ p7
  at5 : S p5 = some (.lst (sg.map .int))
  at6 : S p6 = some (.lst (sc.map encR))
  at7 : S p7 = some (.lst [])
  l5 : sg.length = i
  l6 : sc.length = j
  hg : ∀ x ∈ sg, x = 1 ∨ x = -1
  hc : ∀ q ∈ sc, Sc3 q
theorem Sgn.drw {p p5 p6 p7 : Addr} {S0 S S' : Sto} {sg : List Int} {sc : List Rat} {i j : Nat} (g : Sgn p p5 p6 p7 S0 S sg sc i j) (d : Drw p S S') : Sgn p p5 p6 p7 S0 S' sg sc i j :=
  ⟨g.e.drw d, g.o5, g.o6, g.o7, g.n56, g.n57, g.n67, by rw [d.at g.o5.2]; exact g.at5, by rw [d.at g.o6.2]; exact g.at6, by rw [d.at g.o7.2]; exact g.at7, g.l5, g.l6, g.hg, g.hc⟩
/-! ### leads -/
end Gx

/-! Gx, data side 54: drawn nets of the family of k21 .. k32. -/
namespace Gx
open PySem L2
local macro_rules | `(tactic| simp_arith [$xs,*]) => `(tactic| try simp only [eVar, eC, eBin, eUn, tBl, tAnd', tOr', tNot', eAnd, eOr, eNot, eIf, aNil, aCons, eTup, eLst, eLstM, eCall, eCallK, pick, sNext, sSeq, sBreak, sCont, sDrop, sRet, sRetN, sIf, sNever, gNm, gsNil, gsCons, gTupl, gSubs, sAsg, sPar, sPar3, sFor, iSeq, seqG_tup, seqG_lst, seqG_scr, iRange1, iRange2, iEnumG, iZipG, td_tup, td_lst, td_scr, eLc, eLcM, tYes', pNone, pSome, eSl, cu_tup, cu_lst, cu_scr, eMt, eMt0, mAppend, isL, rs_non, rs_bl, rs_int, rs_str, rs_tup, rs_lst', rs_scr, itemsOf_tup, itemsOf_lst, itemsOf_scr, oI, oI0, oSub, oFdiv, oMod, oPow, oShl, oShr, oAnd, oOr, oXor, oLt, oLe, oGt, oGe, oNeg, oIsN, oNotN, Gx.isNon, oAdd, oAdd', oMul, oMul', oMulM, oEq, oNe, oEqS, oNeS, oIn, oNin, eChain, oIx, oSet, cLen, cList, cListM, cTuple, cSum, cAll, cAny, cInt, cAbs, cMax2, cMin2, cDivmod, cGcd, cIsi, cRepr, lstInts, lstBls, startD, wipeD, List.map_cons, List.map_nil, List.length_cons, List.length_nil, List.cons_append, List.nil_append, List.replicate_succ, List.replicate_zero, List.set_cons_succ, List.set_cons_zero, List.getElem?_cons_succ, List.getElem?_cons_zero, List.filterMap_cons_some, List.filterMap_nil, Nat.reduceAdd, Nat.reduceSub, Nat.sub_self, Nat.reduceLT, Nat.reduceMul, Nat.zero_add, Nat.add_zero, if_true, if_false, and_true, true_and, and_false, false_and, or_true, true_or, or_false, false_or, not_true_eq_false, not_false_eq_true, Bool.not_true, Bool.not_false, Bool.false_eq_true, ite_true, ite_false, reduceIte, reduceCtorEq, eq_self, $xs,*])
local macro_rules | `(tactic| simp_arith! [$xs,*]) => `(tactic| try simp only [eVar, eC, eBin, eUn, tBl, tAnd', tOr', tNot', eAnd, eOr, eNot, eIf, aNil, aCons, eTup, eLst, eLstM, eCall, eCallK, pick, sNext, sSeq, sBreak, sCont, sDrop, sRet, sRetN, sIf, sNever, gNm, gsNil, gsCons, gTupl, gSubs, sAsg, sPar, sPar3, sFor, iSeq, seqG_tup, seqG_lst, seqG_scr, iRange1, iRange2, iEnumG, iZipG, td_tup, td_lst, td_scr, eLc, eLcM, tYes', pNone, pSome, eSl, cu_tup, cu_lst, cu_scr, eMt, eMt0, mAppend, isL, rs_non, rs_bl, rs_int, rs_str, rs_tup, rs_lst', rs_scr, itemsOf_tup, itemsOf_lst, itemsOf_scr, oI, oI0, oSub, oFdiv, oMod, oPow, oShl, oShr, oAnd, oOr, oXor, oLt, oLe, oGt, oGe, oNeg, oIsN, oNotN, Gx.isNon, oAdd, oAdd', oMul, oMul', oMulM, oEq, oNe, oEqS, oNeS, oIn, oNin, eChain, oIx, oSet, cLen, cList, cListM, cTuple, cSum, cAll, cAny, cInt, cAbs, cMax2, cMin2, cDivmod, cGcd, cIsi, cRepr, lstInts, lstBls, startD, wipeD, List.map_cons, List.map_nil, List.length_cons, List.length_nil, List.cons_append, List.nil_append, List.replicate_succ, List.replicate_zero, List.set_cons_succ, List.set_cons_zero, List.getElem?_cons_succ, List.getElem?_cons_zero, List.filterMap_cons_some, List.filterMap_nil, Nat.reduceAdd, Nat.reduceSub, Nat.sub_self, Nat.reduceLT, Nat.reduceMul, Nat.zero_add, Nat.add_zero, if_true, if_false, and_true, true_and, and_false, false_and, or_true, true_or, or_false, false_or, not_true_eq_false, not_false_eq_true, Bool.not_true, Bool.not_false, Bool.false_eq_true, ite_true, ite_false, reduceIte, reduceCtorEq, eq_self, rs_N, rs_W, rs_Row, rs_S, rs_R, rs_B, it_N, it_W, it_Row, it_S, it_R, sq_W, sq_Row, sq_S, td_N, td_W, td_Row, td_S, rs_I, it_I, sq_I, td_I, rs_Ss, it_Ss, sq_Ss, td_Ss, cu_S, cu_W, cu_Row, atI_0, atI_1, $xs,*])
end Gx

--W2
/-! Gx, data side 55: pictures, margins. -/
namespace Gx
open PySem L2
local macro_rules | `(tactic| simp_arith [$xs,*]) => `(tactic| try simp only [eVar, eC, eBin, eUn, tBl, tAnd', tOr', tNot', eAnd, eOr, eNot, eIf, aNil, aCons, eTup, eLst, eLstM, eCall, eCallK, pick, sNext, sSeq, sBreak, sCont, sDrop, sRet, sRetN, sIf, sNever, gNm, gsNil, gsCons, gTupl, gSubs, sAsg, sPar, sPar3, sFor, iSeq, seqG_tup, seqG_lst, seqG_scr, iRange1, iRange2, iEnumG, iZipG, td_tup, td_lst, td_scr, eLc, eLcM, tYes', pNone, pSome, eSl, cu_tup, cu_lst, cu_scr, eMt, eMt0, mAppend, isL, rs_non, rs_bl, rs_int, rs_str, rs_tup, rs_lst', rs_scr, itemsOf_tup, itemsOf_lst, itemsOf_scr, oI, oI0, oSub, oFdiv, oMod, oPow, oShl, oShr, oAnd, oOr, oXor, oLt, oLe, oGt, oGe, oNeg, oIsN, oNotN, Gx.isNon, oAdd, oAdd', oMul, oMul', oMulM, oEq, oNe, oEqS, oNeS, oIn, oNin, eChain, oIx, oSet, cLen, cList, cListM, cTuple, cSum, cAll, cAny, cInt, cAbs, cMax2, cMin2, cDivmod, cGcd, cIsi, cRepr, lstInts, lstBls, startD, wipeD, List.map_cons, List.map_nil, List.length_cons, List.length_nil, List.cons_append, List.nil_append, List.replicate_succ, List.replicate_zero, List.set_cons_succ, List.set_cons_zero, List.getElem?_cons_succ, List.getElem?_cons_zero, List.filterMap_cons_some, List.filterMap_nil, Nat.reduceAdd, Nat.reduceSub, Nat.sub_self, Nat.reduceLT, Nat.reduceMul, Nat.zero_add, Nat.add_zero, if_true, if_false, and_true, true_and, and_false, false_and, or_true, true_or, or_false, false_or, not_true_eq_false, not_false_eq_true, Bool.not_true, Bool.not_false, Bool.false_eq_true, ite_true, ite_false, reduceIte, reduceCtorEq, eq_self, aStar, eLstRg, eDicT0, eDixT, gSubsT, keysOf, cListT, cSortedP, oSubB, oMulT, iZip2G, eDic0, eDic1, oDix, oDin, oDnin, oDset, iKeysG, cSortedE, cListD, Gx.keyOf, cMaxL, cMinL, cSortedI, mIndex, eSortSet, eLenT, $xs,*])
local macro_rules | `(tactic| simp_arith! [$xs,*]) => `(tactic| try simp only [eVar, eC, eBin, eUn, tBl, tAnd', tOr', tNot', eAnd, eOr, eNot, eIf, aNil, aCons, eTup, eLst, eLstM, eCall, eCallK, pick, sNext, sSeq, sBreak, sCont, sDrop, sRet, sRetN, sIf, sNever, gNm, gsNil, gsCons, gTupl, gSubs, sAsg, sPar, sPar3, sFor, iSeq, seqG_tup, seqG_lst, seqG_scr, iRange1, iRange2, iEnumG, iZipG, td_tup, td_lst, td_scr, eLc, eLcM, tYes', pNone, pSome, eSl, cu_tup, cu_lst, cu_scr, eMt, eMt0, mAppend, isL, rs_non, rs_bl, rs_int, rs_str, rs_tup, rs_lst', rs_scr, itemsOf_tup, itemsOf_lst, itemsOf_scr, oI, oI0, oSub, oFdiv, oMod, oPow, oShl, oShr, oAnd, oOr, oXor, oLt, oLe, oGt, oGe, oNeg, oIsN, oNotN, Gx.isNon, oAdd, oAdd', oMul, oMul', oMulM, oEq, oNe, oEqS, oNeS, oIn, oNin, eChain, oIx, oSet, cLen, cList, cListM, cTuple, cSum, cAll, cAny, cInt, cAbs, cMax2, cMin2, cDivmod, cGcd, cIsi, cRepr, lstInts, lstBls, startD, wipeD, List.map_cons, List.map_nil, List.length_cons, List.length_nil, List.cons_append, List.nil_append, List.replicate_succ, List.replicate_zero, List.set_cons_succ, List.set_cons_zero, List.getElem?_cons_succ, List.getElem?_cons_zero, List.filterMap_cons_some, List.filterMap_nil, Nat.reduceAdd, Nat.reduceSub, Nat.sub_self, Nat.reduceLT, Nat.reduceMul, Nat.zero_add, Nat.add_zero, if_true, if_false, and_true, true_and, and_false, false_and, or_true, true_or, or_false, false_or, not_true_eq_false, not_false_eq_true, Bool.not_true, Bool.not_false, Bool.false_eq_true, ite_true, ite_false, reduceIte, reduceCtorEq, eq_self, aStar, eLstRg, eDicT0, eDixT, gSubsT, keysOf, cListT, cSortedP, oSubB, oMulT, iZip2G, eDic0, eDic1, oDix, oDin, oDnin, oDset, iKeysG, cSortedE, cListD, Gx.keyOf, cMaxL, cMinL, cSortedI, mIndex, eSortSet, eLenT, rs_N, rs_W, rs_Row, rs_S, rs_R, rs_B, it_N, it_W, it_Row, it_S, it_R, sq_W, sq_Row, sq_S, td_N, td_W, td_Row, td_S, rs_I, it_I, sq_I, td_I, rs_Ss, it_Ss, sq_Ss, td_Ss, cu_S, cu_W, cu_Row, atI_0, atI_1, $xs,*])
/-- [.. for .. in .. for .. in ..]: nothing changes -/
theorem lc2_all {α β : Type} {g : TG'} {ti1 : IT'} {g1 : TG'} {te : ET} {gd : Sto → Prop} {vs vs1 : List Nat} {τ : Tau} {S : Sto} {Z : List D → Sto → Prop} (enc : α → D) (inn : α → List β) (f : α → β → D) (hg : gd S) (M : Nat) :
    ∀ (xs : List α) (acc : List D), acc.length + (xs.flatMap inn).length ≤ M → (∀ x ∈ xs, ∀ (acc : List D) (Z' : List D → Sto → Prop), acc.length + (inn x).length ≤ M → Z' (acc ++ (inn x).map (f x)) S → g (enc x) (wipeD τ vs) S fun τ2 S2 => ti1 τ2 S2 fun items1 gd1 S4 => cmpG g1 tYes' te gd1 vs1 τ2 Z' items1 acc S4) →
    Z (acc ++ xs.flatMap fun x => (inn x).map (f x)) S → cmpG2 g tYes' ti1 g1 tYes' te gd vs vs1 τ Z (xs.map enc) acc S
  | [], acc, _, _, h => ⟨hg, by simpa using h⟩
  | x :: xs, acc, hl, hel, h => by
    rw [List.flatMap_cons, List.length_append] at hl
    have e := hel x List.mem_cons_self acc (fun acc' S5 => cmpG2 g tYes' ti1 g1 tYes' te gd vs vs1 τ Z (xs.map enc) acc' S5) (by omega) (lc2_all enc inn f hg M xs _ (by rw [List.length_append, List.length_map]; omega) (fun y hy => hel y (List.mem_cons_of_mem _ hy)) (by rw [List.append_assoc]; rw [List.flatMap_cons] at h; exact h))
    exact ⟨hg, e⟩
/-! ### pictures -/
/-! ### kept -/
def keeps (N : Net) (ks : List Nat) : Bool := ks.all fun k => rest N (stateOf N.n k)
/-! ### margins -/
def room (N : Net) (s : List Bool) (i : Nat) : Rat := if s.getD i false = true then hear N i s - mk' N i else -(hear N i s - mk' N i)
end Gx

--W2
/-! Gx, data side 56: pictures and margins, by the laws. -/
namespace Gx
open PySem L2
local macro_rules | `(tactic| simp_arith [$xs,*]) => `(tactic| try simp only [eVar, eC, eBin, eUn, tBl, tAnd', tOr', tNot', eAnd, eOr, eNot, eIf, aNil, aCons, eTup, eLst, eLstM, eCall, eCallK, pick, sNext, sSeq, sBreak, sCont, sDrop, sRet, sRetN, sIf, sNever, gNm, gsNil, gsCons, gTupl, gSubs, sAsg, sPar, sPar3, sFor, iSeq, seqG_tup, seqG_lst, seqG_scr, iRange1, iRange2, iEnumG, iZipG, td_tup, td_lst, td_scr, eLc, eLcM, tYes', pNone, pSome, eSl, cu_tup, cu_lst, cu_scr, eMt, eMt0, mAppend, isL, rs_non, rs_bl, rs_int, rs_str, rs_tup, rs_lst', rs_scr, itemsOf_tup, itemsOf_lst, itemsOf_scr, oI, oI0, oSub, oFdiv, oMod, oPow, oShl, oShr, oAnd, oOr, oXor, oLt, oLe, oGt, oGe, oNeg, oIsN, oNotN, Gx.isNon, oAdd, oAdd', oMul, oMul', oMulM, oEq, oNe, oEqS, oNeS, oIn, oNin, eChain, oIx, oSet, cLen, cList, cListM, cTuple, cSum, cAll, cAny, cInt, cAbs, cMax2, cMin2, cDivmod, cGcd, cIsi, cRepr, lstInts, lstBls, startD, wipeD, List.map_cons, List.map_nil, List.length_cons, List.length_nil, List.cons_append, List.nil_append, List.replicate_succ, List.replicate_zero, List.set_cons_succ, List.set_cons_zero, List.getElem?_cons_succ, List.getElem?_cons_zero, List.filterMap_cons_some, List.filterMap_nil, Nat.reduceAdd, Nat.reduceSub, Nat.sub_self, Nat.reduceLT, Nat.reduceMul, Nat.zero_add, Nat.add_zero, if_true, if_false, and_true, true_and, and_false, false_and, or_true, true_or, or_false, false_or, not_true_eq_false, not_false_eq_true, Bool.not_true, Bool.not_false, Bool.false_eq_true, ite_true, ite_false, reduceIte, reduceCtorEq, eq_self, aStar, eLstRg, eDicT0, eDixT, gSubsT, keysOf, cListT, cSortedP, oSubB, oMulT, iZip2G, eDic0, eDic1, oDix, oDin, oDnin, oDset, iKeysG, cSortedE, cListD, Gx.keyOf, cMaxL, cMinL, cSortedI, mIndex, eSortSet, eLenT, $xs,*])
local macro_rules | `(tactic| simp_arith! [$xs,*]) => `(tactic| try simp only [eVar, eC, eBin, eUn, tBl, tAnd', tOr', tNot', eAnd, eOr, eNot, eIf, aNil, aCons, eTup, eLst, eLstM, eCall, eCallK, pick, sNext, sSeq, sBreak, sCont, sDrop, sRet, sRetN, sIf, sNever, gNm, gsNil, gsCons, gTupl, gSubs, sAsg, sPar, sPar3, sFor, iSeq, seqG_tup, seqG_lst, seqG_scr, iRange1, iRange2, iEnumG, iZipG, td_tup, td_lst, td_scr, eLc, eLcM, tYes', pNone, pSome, eSl, cu_tup, cu_lst, cu_scr, eMt, eMt0, mAppend, isL, rs_non, rs_bl, rs_int, rs_str, rs_tup, rs_lst', rs_scr, itemsOf_tup, itemsOf_lst, itemsOf_scr, oI, oI0, oSub, oFdiv, oMod, oPow, oShl, oShr, oAnd, oOr, oXor, oLt, oLe, oGt, oGe, oNeg, oIsN, oNotN, Gx.isNon, oAdd, oAdd', oMul, oMul', oMulM, oEq, oNe, oEqS, oNeS, oIn, oNin, eChain, oIx, oSet, cLen, cList, cListM, cTuple, cSum, cAll, cAny, cInt, cAbs, cMax2, cMin2, cDivmod, cGcd, cIsi, cRepr, lstInts, lstBls, startD, wipeD, List.map_cons, List.map_nil, List.length_cons, List.length_nil, List.cons_append, List.nil_append, List.replicate_succ, List.replicate_zero, List.set_cons_succ, List.set_cons_zero, List.getElem?_cons_succ, List.getElem?_cons_zero, List.filterMap_cons_some, List.filterMap_nil, Nat.reduceAdd, Nat.reduceSub, Nat.sub_self, Nat.reduceLT, Nat.reduceMul, Nat.zero_add, Nat.add_zero, if_true, if_false, and_true, true_and, and_false, false_and, or_true, true_or, or_false, false_or, not_true_eq_false, not_false_eq_true, Bool.not_true, Bool.not_false, Bool.false_eq_true, ite_true, ite_false, reduceIte, reduceCtorEq, eq_self, aStar, eLstRg, eDicT0, eDixT, gSubsT, keysOf, cListT, cSortedP, oSubB, oMulT, iZip2G, eDic0, eDic1, oDix, oDin, oDnin, oDset, iKeysG, cSortedE, cListD, Gx.keyOf, cMaxL, cMinL, cSortedI, mIndex, eSortSet, eLenT, rs_N, rs_W, rs_Row, rs_S, rs_R, rs_B, it_N, it_W, it_Row, it_S, it_R, sq_W, sq_Row, sq_S, td_N, td_W, td_Row, td_S, rs_I, it_I, sq_I, td_I, rs_Ss, it_Ss, sq_Ss, td_Ss, cu_S, cu_W, cu_Row, atI_0, atI_1, $xs,*])
theorem nats_of : ∀ {l : List Int}, (∀ k ∈ l, 0 ≤ k) → ∃ ks : List Nat, l = ks.map fun k : Nat => (k : Int)
  | [], _ => ⟨[], rfl⟩
  | k :: l, h => by
    obtain ⟨ks, e⟩ := nats_of fun j hj => h j (List.mem_cons_of_mem _ hj)
    obtain ⟨m, hm⟩ := Int.eq_ofNat_of_zero_le (h k List.mem_cons_self)
    exact ⟨m :: ks, by rw [List.map_cons, ← e, hm]⟩
/-! ### some moves -/
theorem flip_len (s : List Bool) (i : Nat) : (flip s i).length = s.length := by unfold flip; rw [List.length_set]
/-! ### the margin -/
/-! ### lifted marks -/
end Gx

--W2
/-! Gx, data side 57: stubborn lots, seeds: the plain law. -/
namespace Gx
open PySem L2
/-- the lot of the cells that are on in the state with a number -/
def lotOf (n k : Nat) : List Nat := ons (stateOf n k)
theorem lotOf_eq (n k : Nat) : lotOf n k = (List.range n).filter fun i => k.testBit i := by
  unfold lotOf ons
  rw [stateOf_length]
  exact List.filter_congr fun i hi => stateOf_getD (List.mem_range.mp hi)
theorem lotOf_lot (n k : Nat) : Lot n (lotOf n k) := ons_lot (stateOf_length n k)
theorem lit_lotOf (n k : Nat) : lit n (lotOf n k) = stateOf n k := lit_ons (stateOf_length n k)
theorem mem_lotOf {n k i : Nat} : i ∈ lotOf n k ↔ i < n ∧ k.testBit i = true := by
  rw [lotOf_eq, List.mem_filter, List.mem_range]
theorem ons_cnt : ∀ s : List Bool, (ons s).length = cnt s
  | [] => rfl
  | b :: s => by
    have ih := ons_cnt s
    unfold ons at ih ⊢
    rw [List.length_cons, List.range_succ_eq_map]
    have e : ((List.map Nat.succ (List.range s.length)).filter fun i => (b :: s).getD i false).length = ((List.range s.length).filter fun i => s.getD i false).length := by
      rw [List.filter_map, List.length_map]; rfl
    cases b with
    | true =>
      rw [List.filter_cons_of_pos (by rfl), List.length_cons, e, ih]
      show cnt s + 1 = 1 + cnt s
      omega
    | false =>
      rw [List.filter_cons_of_neg (by simp), e, ih]
      show cnt s = 0 + cnt s
      omega
/-- how many cells -/
def pop (n k : Nat) : Nat := cnt (stateOf n k)
theorem lotOf_len (n k : Nat) : (lotOf n k).length = pop n k := ons_cnt _
theorem pop_le (n k : Nat) : pop n k ≤ n := by have := cnt_le (stateOf n k); rw [stateOf_length] at this; exact this
def subB (a b : Nat) : Bool := decide (a &&& b = a)
theorem subB_iff {n a b : Nat} (ha : a < 2 ^ n) : subB a b = true ↔ ∀ i, i < n → a.testBit i = true → b.testBit i = true := by
  unfold subB
  rw [decide_eq_true_eq]
  constructor
  · intro e i _ h
    rw [← e, Nat.testBit_and, Bool.and_eq_true] at h
    exact h.2
  · intro h
    apply Nat.eq_of_testBit_eq
    intro i
    rw [Nat.testBit_and]
    by_cases z : i < n
    · cases y : a.testBit i with
      | false => rfl
      | true => rw [h i z y]; rfl
    · have : a.testBit i = false := Nat.testBit_lt_two_pow (Nat.lt_of_lt_of_le ha (Nat.pow_le_pow_right (by decide) (by omega)))
      rw [this]; rfl
theorem subB_leS {n a b : Nat} (ha : a < 2 ^ n) : subB a b = true ↔ leS (stateOf n a) (stateOf n b) := by
  rw [subB_iff ha]
  constructor
  · intro h
    refine leS_of (by rw [stateOf_length, stateOf_length]) fun i hi z => ?_
    rw [stateOf_length] at hi
    rw [stateOf_getD hi] at z ⊢
    exact h i hi z
  · intro h i hi z
    have := leS_at h i (by rw [stateOf_getD hi]; exact z)
    rw [stateOf_getD hi] at this
    exact this
theorem subB_pop {n a b : Nat} (ha : a < 2 ^ n) (hb : b < 2 ^ n) (h : subB a b = true) (hp : pop n b ≤ pop n a) : a = b := by
  obtain ⟨_, m2⟩ := cnt_mono ((subB_leS ha).mp h)
  apply Classical.byContradiction
  intro ne
  have := m2 fun e => ne (stateOf_inj ha hb e)
  unfold pop at hp
  omega
theorem subB_lt {n a b : Nat} (ha : a < 2 ^ n) (hb : b < 2 ^ n) (h : subB a b = true) (ne : a ≠ b) : pop n a < pop n b := by
  apply Nat.lt_of_not_le
  intro c
  exact ne (subB_pop ha hb h c)
theorem subB_trans {n a b c : Nat} (ha : a < 2 ^ n) (hb : b < 2 ^ n) (h : subB a b = true) (h' : subB b c = true) : subB a c = true :=
  (subB_leS ha).mpr (leS_trans ((subB_leS ha).mp h) ((subB_leS hb).mp h'))
/-! ### what stays off, what comes on -/
theorem compl_bit {n k i : Nat} (hk : k < 2 ^ n) (hi : i < n) : (2 ^ n - 1 - k).testBit i = !k.testBit i := by
  rw [show 2 ^ n - 1 - k = 2 ^ n - (k + 1) by omega, Nat.testBit_two_pow_sub_succ hk, decide_eq_true hi]
  rfl
def closedN (N : Net) (s : List Bool) : Bool := (List.range N.n).all fun i => !(wants N s).getD i false || s.getD i false
theorem closedN_iff {N : Net} {s : List Bool} (hs : s.length = N.n) : closedN N s = true ↔ leS (wants N s) s := by
  unfold closedN
  rw [List.all_eq_true]
  constructor
  · intro h
    refine leS_of (by rw [wants_length, hs]) fun i hi z => ?_
    rw [wants_length] at hi
    have := h i (List.mem_range.mpr hi)
    rw [z] at this
    exact this
  · intro h i _
    cases z : (wants N s).getD i false with
    | false => rfl
    | true => rw [leS_at h i z]; rfl
/-- whether a lot stays off when all outside are on -/
def stub (N : Net) (k : Nat) : Bool := closedN N (stateOf N.n (2 ^ N.n - 1 - k))
theorem stub_iff {N : Net} {k : Nat} : stub N k = true ↔ leS (wants N (stateOf N.n (2 ^ N.n - 1 - k))) (stateOf N.n (2 ^ N.n - 1 - k)) := closedN_iff (stateOf_length _ _)
/-- the number of what is on at last -/
def spr (N : Net) (k : Nat) : Nat := numOf (cls N (stateOf N.n k))
def lights (N : Net) (k : Nat) : Bool := decide (spr N k = 2 ^ N.n - 1)
theorem spr_lt (N : Net) (k : Nat) : spr N k < 2 ^ N.n := by
  have := numOf_lt (cls N (stateOf N.n k))
  rw [cls_len (stateOf_length _ _)] at this
  exact this
theorem spr_state (N : Net) (k : Nat) : stateOf N.n (spr N k) = cls N (stateOf N.n k) := by
  have := stateOf_numOf (cls N (stateOf N.n k))
  rw [cls_len (stateOf_length _ _)] at this
  exact this
theorem and_zero {n a b : Nat} (ha : a < 2 ^ n) : a &&& b = 0 ↔ ∀ i, i < n → a.testBit i = true → b.testBit i = false := by
  constructor
  · intro e i _ h
    cases z : b.testBit i with
    | false => rfl
    | true =>
      have : (a &&& b).testBit i = true := by rw [Nat.testBit_and, h, z]; rfl
      rw [e, Nat.zero_testBit] at this
      cases this
  · intro h
    apply Nat.eq_of_testBit_eq
    intro i
    rw [Nat.testBit_and, Nat.zero_testBit]
    by_cases z : i < n
    · cases y : a.testBit i with
      | false => rfl
      | true => rw [h i z y]; rfl
    · have : a.testBit i = false := Nat.testBit_lt_two_pow (Nat.lt_of_lt_of_le ha (Nat.pow_le_pow_right (by decide) (by omega)))
      rw [this]; rfl
theorem some_bit {n j : Nat} (hj : j < 2 ^ n) (h0 : 0 < j) : ∃ i, i < n ∧ j.testBit i = true := by
  apply Classical.byContradiction
  intro c
  have : j = 0 := by
    apply Nat.eq_of_testBit_eq
    intro i
    rw [Nat.zero_testBit]
    by_cases z : i < n
    · cases y : j.testBit i with
      | false => rfl
      | true => exact absurd ⟨i, z, y⟩ c
    · exact Nat.testBit_lt_two_pow (Nat.lt_of_lt_of_le hj (Nat.pow_le_pow_right (by decide) (by omega)))
  omega
theorem full_bit {n i : Nat} (hi : i < n) : (2 ^ n - 1).testBit i = true := by rw [Nat.testBit_two_pow_sub_one]; exact decide_eq_true hi
section
variable {N : Net} (ok : N.Ok) (hp : helping N = true)
include ok hp
theorem lights_meet {k : Nat} (hk : k < 2 ^ N.n) : lights N k = true ↔ ∀ j, j < 2 ^ N.n → 0 < j → stub N j = true → k &&& j ≠ 0 := by
  have sl := stateOf_length N.n
  constructor
  · intro h j hj j0 sj e
    have h := of_decide_eq_true h
    have le : leS (stateOf N.n k) (stateOf N.n (2 ^ N.n - 1 - j)) := leS_of (by rw [sl, sl]) fun i hi z => by
      rw [sl] at hi
      rw [stateOf_getD hi] at z ⊢
      rw [compl_bit hj hi, (and_zero hk).mp e i hi z]; rfl
    have l2 := cls_least ok hp (sl k) le (stub_iff.mp sj)
    obtain ⟨i, hi, bi⟩ := some_bit hj j0
    have := leS_at l2 i (by rw [← spr_state, stateOf_getD hi, h]; exact full_bit hi)
    rw [stateOf_getD hi, compl_bit hj hi, bi] at this
    cases this
  · intro h
    apply Classical.byContradiction
    intro c
    have c : spr N k ≠ 2 ^ N.n - 1 := fun e => c (decide_eq_true e)
    have lt := spr_lt N k
    have e2 : 2 ^ N.n - 1 - (2 ^ N.n - 1 - spr N k) = spr N k := by omega
    refine h (2 ^ N.n - 1 - spr N k) (by omega) (by omega) (stub_iff.mpr ?_) ((and_zero hk).mpr fun i hi z => ?_)
    · rw [e2, spr_state]
      exact cls_closed (sl k)
    · rw [compl_bit lt hi]
      have := leS_at (cls_le (N := N) (sl k)) i (by rw [stateOf_getD hi]; exact z)
      rw [← spr_state, stateOf_getD hi] at this
      rw [this]; rfl
theorem stub_or {a b : Nat} (ha : a < 2 ^ N.n) (hb : b < 2 ^ N.n) (sa : stub N a = true) (sb : stub N b = true) : stub N (a ||| b) = true := by
  have sl := stateOf_length N.n
  have hab : a ||| b < 2 ^ N.n := Nat.or_lt_two_pow ha hb
  refine stub_iff.mpr (leS_of (by rw [wants_length, sl]) fun i hi z => ?_)
  rw [wants_length] at hi
  have sub : ∀ c, (∀ i, c.testBit i = true → (a ||| b).testBit i = true) → c < 2 ^ N.n → leS (stateOf N.n (2 ^ N.n - 1 - (a ||| b))) (stateOf N.n (2 ^ N.n - 1 - c)) := fun c hc c2 => leS_of (by rw [sl, sl]) fun i hi z => by
    rw [sl] at hi
    rw [stateOf_getD hi] at z ⊢
    rw [compl_bit hab hi] at z
    rw [compl_bit c2 hi]
    cases y : c.testBit i with
    | false => rfl
    | true => rw [hc i y] at z; cases z
  have wa := leS_at (leS_trans (wants_mono ok hp (sub a (fun i h => by rw [Nat.testBit_or, h]; rfl) ha)) (stub_iff.mp sa)) i z
  have wb := leS_at (leS_trans (wants_mono ok hp (sub b (fun i h => by rw [Nat.testBit_or, h, Bool.or_true]) hb)) (stub_iff.mp sb)) i z
  rw [stateOf_getD hi] at wa wb ⊢
  rw [compl_bit ha hi] at wa
  rw [compl_bit hb hi] at wb
  rw [compl_bit hab hi, Nat.testBit_or]
  cases x : a.testBit i <;> cases y : b.testBit i <;> simp_all
theorem stub_bits : stub N (2 ^ N.n - 1 - spr N 0) = true := by
  have lt := spr_lt N 0
  have e2 : 2 ^ N.n - 1 - (2 ^ N.n - 1 - spr N 0) = spr N 0 := by omega
  refine stub_iff.mpr ?_
  rw [e2, spr_state]
  exact cls_closed (stateOf_length _ _)
theorem stub_in {k : Nat} (hk : k < 2 ^ N.n) (h : stub N k = true) : k &&& (2 ^ N.n - 1 - spr N 0) = k := by
  have sl := stateOf_length N.n
  have lt := spr_lt N 0
  have : subB k (2 ^ N.n - 1 - spr N 0) = true := (subB_iff hk).mpr fun i hi z => by
    rw [compl_bit lt hi]
    cases y : (spr N 0).testBit i with
    | false => rfl
    | true =>
      have le : leS (stateOf N.n 0) (stateOf N.n (2 ^ N.n - 1 - k)) := leS_of (by rw [sl, sl]) fun i hi z => by
        rw [sl] at hi
        rw [stateOf_getD hi, Nat.zero_testBit] at z
        cases z
      have l2 := cls_least ok hp (sl 0) le (stub_iff.mp h)
      have := leS_at l2 i (by rw [← spr_state, stateOf_getD hi]; exact y)
      rw [stateOf_getD hi, compl_bit hk hi, z] at this
      cases this
  exact of_decide_eq_true this
theorem lights_all : lights N (2 ^ N.n - 1) = true := by
  have p := Nat.two_pow_pos N.n
  refine (lights_meet ok hp (by omega)).mpr fun j hj j0 _ e => ?_
  obtain ⟨i, hi, bi⟩ := some_bit hj j0
  have := (and_zero (n := N.n) (by omega)).mp e i hi (full_bit hi)
  rw [bi] at this
  cases this
end
/-! ### those with no other one within them -/
def leastN (l : List Nat) : List Nat := l.filter fun k => !(l.any fun o => decide (o ≠ k) && subB o k)
theorem mem_leastN {l : List Nat} {k : Nat} : k ∈ leastN l ↔ k ∈ l ∧ ∀ o ∈ l, subB o k = true → o = k := by
  unfold leastN
  rw [List.mem_filter]
  refine and_congr_right fun _ => ?_
  rw [Bool.not_eq_true', List.any_eq_false]
  constructor
  · intro h o ho so
    apply Classical.byContradiction
    intro ne
    exact h o ho (by rw [decide_eq_true ne, so]; rfl)
  · intro h o ho c
    rw [Bool.and_eq_true, decide_eq_true_eq] at c
    exact c.1 (h o ho c.2)
theorem under_least {n : Nat} {l : List Nat} (hl : ∀ k ∈ l, k < 2 ^ n) : ∀ (m : Nat) (k : Nat), pop n k ≤ m → k ∈ l → ∃ o ∈ leastN l, subB o k = true
  | m, k, hm, hk => by
    by_cases z : k ∈ leastN l
    · exact ⟨k, z, (subB_iff (hl k hk)).mpr fun _ _ h => h⟩
    · have : ∃ o ∈ l, subB o k = true ∧ o ≠ k := by
        apply Classical.byContradiction
        intro c
        refine z (mem_leastN.mpr ⟨hk, fun o ho so => ?_⟩)
        apply Classical.byContradiction
        intro ne
        exact c ⟨o, ho, so, ne⟩
      obtain ⟨o, ho, so, ne⟩ := this
      have lt := subB_lt (hl o ho) (hl k hk) so ne
      cases m with
      | zero => omega
      | succ m =>
        obtain ⟨p, hp, sp⟩ := under_least hl m o (by omega) ho
        exact ⟨p, hp, subB_trans (hl p (mem_leastN.mp hp).1) (hl o ho) sp so⟩
theorem leastN_ne {n : Nat} {l : List Nat} (hl : ∀ k ∈ l, k < 2 ^ n) (ne : l ≠ []) : leastN l ≠ [] := by
  cases l with
  | nil => exact absurd rfl ne
  | cons k l =>
    obtain ⟨o, ho, _⟩ := under_least hl (pop n k) k (Nat.le_refl _) List.mem_cons_self
    intro c
    rw [c] at ho
    cases ho
/-- to meet all is to meet the least ones -/
theorem meet_least {n : Nat} {l : List Nat} (hl : ∀ k ∈ l, k < 2 ^ n) {x : Nat} (hx : x < 2 ^ n) : (∀ j ∈ leastN l, x &&& j ≠ 0) ↔ ∀ j ∈ l, x &&& j ≠ 0 := by
  constructor
  · intro h j hj e
    obtain ⟨o, ho, so⟩ := under_least hl (pop n j) j (Nat.le_refl _) hj
    refine h o ho ((and_zero hx).mpr fun i hi z => ?_)
    have := (and_zero hx).mp e i hi z
    cases y : o.testBit i with
    | false => rfl
    | true => rw [(subB_iff (hl o (mem_leastN.mp ho).1)).mp so i hi y] at this; cases this
  · exact fun h j hj => h j (mem_leastN.mp hj).1
theorem leastN_perm {l m : List Nat} (nl : l.Nodup) (nm : m.Nodup) (h : ∀ k, k ∈ l ↔ k ∈ m) : (leastN l).Perm (leastN m) := by
  refine (List.perm_ext_iff_of_nodup (nl.filter _) (nm.filter _)).mpr fun k => ?_
  show k ∈ leastN l ↔ k ∈ leastN m
  rw [mem_leastN, mem_leastN, h k]
  exact and_congr_right fun _ => ⟨fun z o ho => z o ((h o).mpr ho), fun z o ho => z o ((h o).mp ho)⟩
theorem leastN_zero {l : List Nat} (nd : l.Nodup) (h : 0 ∈ leastN l) : (leastN l).length ≤ 1 := by
  have h0 := (mem_leastN.mp h).1
  have all : ∀ x ∈ leastN l, x ∈ [0] := fun x hx => by
    have := (mem_leastN.mp hx).2 0 h0 (by unfold subB; rw [Nat.zero_and]; rfl)
    rw [← this]; exact List.mem_cons_self
  exact sub_len (nd.filter _) all
/-- one behind the other, the fewest cells first -/
def loN (l : List Nat) : List Nat := l.foldl (fun f k => if f.any (fun o => subB o k) = true then f else f ++ [k]) []
theorem loN_snoc (l : List Nat) (k : Nat) : loN (l ++ [k]) = if (loN l).any (fun o => subB o k) = true then loN l else loN l ++ [k] := by
  unfold loN
  rw [List.foldl_append]; rfl
theorem snoc_ind {α : Type} {P : List α → Prop} (h0 : P []) (hs : ∀ l x, P l → P (l ++ [x])) : ∀ l, P l := fun l => by
  have : ∀ r : List α, P r.reverse := fun r => by
    induction r with
    | nil => exact h0
    | cons x r ih => rw [List.reverse_cons]; exact hs _ _ ih
  have := this l.reverse
  rw [List.reverse_reverse] at this
  exact this
theorem loN_least {n : Nat} : ∀ l : List Nat, l.Nodup → (∀ k ∈ l, k < 2 ^ n) → l.Pairwise (fun a b => pop n a ≤ pop n b) → (loN l).Nodup ∧ ∀ x, x ∈ loN l ↔ x ∈ leastN l := by
  refine snoc_ind (fun _ _ _ => ⟨List.nodup_nil, fun x => Iff.rfl⟩) fun l k ih nd lt pw => ?_
  obtain ⟨nl, _, nk⟩ := List.nodup_append.mp nd
  obtain ⟨pl, _, pk⟩ := List.pairwise_append.mp pw
  have ltl : ∀ x ∈ l, x < 2 ^ n := fun x hx => lt x (List.mem_append_left _ hx)
  have hk : k < 2 ^ n := lt k (List.mem_append_right _ List.mem_cons_self)
  have hkl : k ∉ l := fun c => nk k c k List.mem_cons_self rfl
  obtain ⟨i1, i2⟩ := ih nl ltl pl
  have old : ∀ x ∈ l, (x ∈ leastN (l ++ [k]) ↔ x ∈ leastN l) := fun x hx => by
    rw [mem_leastN, mem_leastN]
    constructor
    · exact fun ⟨_, h⟩ => ⟨hx, fun o ho => h o (List.mem_append_left _ ho)⟩
    · refine fun ⟨_, h⟩ => ⟨List.mem_append_left _ hx, fun o ho so => ?_⟩
      rcases List.mem_append.mp ho with ho | ho
      · exact h o ho so
      · rw [List.mem_singleton] at ho
        subst ho
        exact subB_pop hk (ltl x hx) so (pk x hx o List.mem_cons_self)
  have new : k ∈ leastN (l ++ [k]) ↔ ¬ (loN l).any (fun o => subB o k) = true := by
    rw [mem_leastN, List.any_eq_true]
    constructor
    · rintro ⟨_, h⟩ ⟨o, ho, so⟩
      have ho := (mem_leastN.mp ((i2 o).mp ho)).1
      have := h o (List.mem_append_left _ ho) so
      rw [this] at ho
      exact hkl ho
    · refine fun h => ⟨List.mem_append_right _ List.mem_cons_self, fun o ho so => ?_⟩
      rcases List.mem_append.mp ho with ho | ho
      · obtain ⟨q, hq, sq⟩ := under_least ltl (pop n o) o (Nat.le_refl _) ho
        exact absurd ⟨q, (i2 q).mpr hq, subB_trans (ltl q (mem_leastN.mp hq).1) (ltl o ho) sq so⟩ h
      · exact List.mem_singleton.mp ho
  rw [loN_snoc]
  by_cases z : (loN l).any (fun o => subB o k) = true
  · rw [if_pos z]
    refine ⟨i1, fun x => ?_⟩
    rw [i2 x]
    by_cases y : x ∈ l
    · rw [old x y]
    · constructor
      · exact fun c => absurd (mem_leastN.mp c).1 y
      · intro c
        rcases List.mem_append.mp (mem_leastN.mp c).1 with c2 | c2
        · exact absurd c2 y
        · rw [List.mem_singleton] at c2
          subst c2
          exact absurd z (new.mp c)
  · rw [if_neg z]
    have nin : k ∉ loN l := fun c => hkl (mem_leastN.mp ((i2 k).mp c)).1
    refine ⟨List.nodup_append.mpr ⟨i1, by simp, fun a ha b hb e => ?_⟩, fun x => ?_⟩
    · rw [List.mem_singleton] at hb
      subst hb e
      exact nin ha
    · rw [List.mem_append, List.mem_singleton]
      by_cases y : x ∈ l
      · rw [old x y, i2 x]
        exact ⟨fun c => c.elim id fun c => by subst c; exact absurd y hkl, .inl⟩
      · constructor
        · rintro (c | c)
          · exact absurd (mem_leastN.mp ((i2 x).mp c)).1 y
          · subst c; exact new.mpr z
        · intro c
          rcases List.mem_append.mp (mem_leastN.mp c).1 with c2 | c2
          · exact absurd c2 y
          · exact .inr (List.mem_singleton.mp c2)
/-! ### all lots, by their sizes -/
def genL (n size : Nat) : Nat → List Nat
  | 0 => [0]
  | c + 1 => genL n size c ++ ((genL n size c).filter fun x => decide (pop n x < size)).map (· + 2 ^ c)
theorem add_bit {x c : Nat} (hx : x < 2 ^ c) (i : Nat) : (x + 2 ^ c).testBit i = if i = c then true else x.testBit i := by
  have e : x + 2 ^ c = x ||| 2 ^ c := (Nat.or_two_pow_eq_add_of_lt hx).symm
  rw [e, Nat.testBit_or, Nat.testBit_two_pow]
  by_cases z : i = c
  · rw [if_pos z, decide_eq_true z.symm, Bool.or_true]
  · rw [if_neg z, decide_eq_false fun h => z h.symm, Bool.or_false]
theorem lotOf_add {n x c : Nat} (hc : c < n) (hx : x < 2 ^ c) : lotOf n (x + 2 ^ c) = lotOf n x ++ [c] := by
  have hi : ∀ i, c ≤ i → x.testBit i = false := fun i h => Nat.testBit_lt_two_pow (Nat.lt_of_lt_of_le hx (Nat.pow_le_pow_right (by decide) h))
  rw [lotOf_eq, lotOf_eq]
  obtain ⟨d, rfl⟩ := Nat.exists_eq_add_of_lt hc
  have e : List.range (c + d + 1) = List.range c ++ c :: (List.range' (c + 1) d) := by
    rw [List.range_eq_range', List.range_eq_range', show c + d + 1 = c + (d + 1) by omega, ← List.range'_append_1, Nat.zero_add, List.range'_succ]
  have t1 : (List.range' (c + 1) d).filter (fun i => (x + 2 ^ c).testBit i) = [] := List.filter_eq_nil_iff.mpr fun i h => by
    have := (List.mem_range'_1.mp h).1
    rw [add_bit hx, if_neg (by omega), hi i (by omega)]; decide
  have t2 : (List.range' (c + 1) d).filter (fun i => x.testBit i) = [] := List.filter_eq_nil_iff.mpr fun i h => by
    have := (List.mem_range'_1.mp h).1
    rw [hi i (by omega)]; decide
  have t3 : (List.range c).filter (fun i => (x + 2 ^ c).testBit i) = (List.range c).filter fun i => x.testBit i := List.filter_congr fun i h => by
    have := List.mem_range.mp h
    rw [add_bit hx, if_neg (by omega)]
  rw [e, List.filter_append, List.filter_append, List.filter_cons_of_pos (by rw [add_bit hx, if_pos rfl]), List.filter_cons_of_neg (by rw [hi c (Nat.le_refl _)]; decide), t1, t2, t3, List.append_nil]
theorem pop_add {n x c : Nat} (hc : c < n) (hx : x < 2 ^ c) : pop n (x + 2 ^ c) = pop n x + 1 := by
  rw [← lotOf_len, ← lotOf_len, lotOf_add hc hx, List.length_append]; rfl
theorem pop_zero (n : Nat) : pop n 0 = 0 := by
  rw [← lotOf_len, List.length_eq_zero_iff, List.eq_nil_iff_forall_not_mem]
  intro i h
  have := (mem_lotOf.mp h).2
  rw [Nat.zero_testBit] at this
  cases this
theorem genL_mem {n size : Nat} : ∀ c, c ≤ n → (∀ x, x ∈ genL n size c ↔ x < 2 ^ c ∧ pop n x ≤ size) ∧ (genL n size c).Nodup
  | 0, _ => by
    refine ⟨fun x => ?_, by unfold genL; simp⟩
    unfold genL
    rw [List.mem_singleton]
    constructor
    · rintro rfl; exact ⟨by decide, by rw [pop_zero]; omega⟩
    · rintro ⟨h, _⟩
      have : x < 1 := h
      omega
  | c + 1, hc => by
    obtain ⟨im, ind⟩ := genL_mem (n := n) (size := size) c (by omega)
    have pc : 2 ^ (c + 1) = 2 ^ c + 2 ^ c := by rw [Nat.pow_succ]; omega
    refine ⟨fun x => ?_, ?_⟩
    · unfold genL
      rw [List.mem_append, List.mem_map]
      constructor
      · rintro (h | ⟨y, hy, rfl⟩)
        · obtain ⟨h1, h2⟩ := (im x).mp h
          exact ⟨by omega, h2⟩
        · obtain ⟨h1, h2⟩ := List.mem_filter.mp hy
          have h2 := of_decide_eq_true h2
          obtain ⟨h3, h4⟩ := (im y).mp h1
          exact ⟨by omega, by rw [pop_add (show c < n by omega) h3]; omega⟩
      · rintro ⟨h1, h2⟩
        by_cases z : x < 2 ^ c
        · exact .inl ((im x).mpr ⟨z, h2⟩)
        · have hy : x - 2 ^ c < 2 ^ c := by omega
          have e : x - 2 ^ c + 2 ^ c = x := by omega
          have := pop_add (n := n) (show c < n by omega) hy
          rw [e] at this
          exact .inr ⟨x - 2 ^ c, List.mem_filter.mpr ⟨(im _).mpr ⟨hy, by omega⟩, decide_eq_true (by omega)⟩, e⟩
    · unfold genL
      rw [List.nodup_append]
      refine ⟨ind, ?_, fun a ha b hb e => ?_⟩
      · refine List.Pairwise.map _ (fun a b h => ?_) (ind.filter _)
        omega
      · obtain ⟨y, _, rfl⟩ := List.mem_map.mp hb
        have := ((im a).mp ha).1
        omega
theorem genL_len {n size c : Nat} (h : c ≤ n) : (genL n size c).length ≤ 2 ^ c := by
  obtain ⟨im, ind⟩ := genL_mem (size := size) c h
  have := sub_len (m := List.range (2 ^ c)) ind fun x hx => List.mem_range.mpr ((im x).mp hx).1
  rw [List.length_range] at this
  exact this
def lotsOf (n size : Nat) : List Nat := (genL n size n).filter fun x => decide (pop n x = size)
theorem lotsOf_mem {n size x : Nat} : x ∈ lotsOf n size ↔ x < 2 ^ n ∧ pop n x = size := by
  unfold lotsOf
  rw [List.mem_filter, (genL_mem n (Nat.le_refl _)).1, decide_eq_true_eq]
  exact ⟨fun h => ⟨h.1.1, h.2⟩, fun h => ⟨⟨h.1, by omega⟩, h.2⟩⟩
theorem lotsOf_nd (n size : Nat) : (lotsOf n size).Nodup := (genL_mem n (Nat.le_refl _)).2.filter _
def lotsIn (n least : Nat) : List Nat := (List.range' least (n + 1 - least)).flatMap (lotsOf n)
theorem lotsIn_mem {n least x : Nat} : x ∈ lotsIn n least ↔ x < 2 ^ n ∧ least ≤ pop n x := by
  unfold lotsIn
  rw [List.mem_flatMap]
  constructor
  · rintro ⟨m, hm, hx⟩
    obtain ⟨h1, h2⟩ := lotsOf_mem.mp hx
    have := (List.mem_range'_1.mp hm).1
    exact ⟨h1, by omega⟩
  · rintro ⟨h1, h2⟩
    have := pop_le n x
    exact ⟨pop n x, List.mem_range'_1.mpr ⟨h2, by omega⟩, lotsOf_mem.mpr ⟨h1, rfl⟩⟩
theorem flat_nd {n : Nat} : ∀ (m s : Nat), ((List.range' s m).flatMap (lotsOf n)).Nodup ∧ ((List.range' s m).flatMap (lotsOf n)).Pairwise (fun a b => pop n a ≤ pop n b)
  | 0, s => ⟨by simp, by simp⟩
  | m + 1, s => by
    obtain ⟨i1, i2⟩ := flat_nd m (s + 1)
    rw [List.range'_succ, List.flatMap_cons]
    have far : ∀ a ∈ lotsOf n s, ∀ b ∈ (List.range' (s + 1) m).flatMap (lotsOf n), pop n a < pop n b := fun a ha b hb => by
      obtain ⟨t, ht, hb⟩ := List.mem_flatMap.mp hb
      have := (List.mem_range'_1.mp ht).1
      have e1 := (lotsOf_mem.mp ha).2
      have e2 := (lotsOf_mem.mp hb).2
      omega
    refine ⟨List.nodup_append.mpr ⟨lotsOf_nd n s, i1, fun a ha b hb e => ?_⟩, List.pairwise_append.mpr ⟨?_, i2, fun a ha b hb => Nat.le_of_lt (far a ha b hb)⟩⟩
    · have := far a ha b hb
      rw [e] at this
      omega
    · refine List.Pairwise.imp_of_mem (fun {a b} ha hb _ => ?_) (List.pairwise_iff_forall_sublist.mpr fun _ => trivial : (lotsOf n s).Pairwise fun _ _ => True)
      rw [(lotsOf_mem.mp ha).2, (lotsOf_mem.mp hb).2]
      exact Nat.le_refl _
theorem lotsIn_nd (n least : Nat) : (lotsIn n least).Nodup ∧ (lotsIn n least).Pairwise (fun a b => pop n a ≤ pop n b) := flat_nd _ _
theorem lotsIn_len (n least : Nat) : (lotsIn n least).length ≤ 2 ^ n := by
  have := sub_len (m := List.range (2 ^ n)) (lotsIn_nd n least).1 fun x hx => List.mem_range.mpr (lotsIn_mem.mp hx).1
  rw [List.length_range] at this
  exact this
end Gx

--W2
/-! Gx, data side 58: stubborn lots, seeds: the package's walks. -/
namespace Gx
open PySem L2
local macro_rules | `(tactic| simp_arith [$xs,*]) => `(tactic| try simp only [eVar, eC, eBin, eUn, tBl, tAnd', tOr', tNot', eAnd, eOr, eNot, eIf, aNil, aCons, eTup, eLst, eLstM, eCall, eCallK, pick, sNext, sSeq, sBreak, sCont, sDrop, sRet, sRetN, sIf, sNever, gNm, gsNil, gsCons, gTupl, gSubs, sAsg, sPar, sPar3, sFor, iSeq, seqG_tup, seqG_lst, seqG_scr, iRange1, iRange2, iEnumG, iZipG, td_tup, td_lst, td_scr, eLc, eLcM, tYes', pNone, pSome, eSl, cu_tup, cu_lst, cu_scr, eMt, eMt0, mAppend, isL, rs_non, rs_bl, rs_int, rs_str, rs_tup, rs_lst', rs_scr, itemsOf_tup, itemsOf_lst, itemsOf_scr, oI, oI0, oSub, oFdiv, oMod, oPow, oShl, oShr, oAnd, oOr, oXor, oLt, oLe, oGt, oGe, oNeg, oIsN, oNotN, Gx.isNon, oAdd, oAdd', oMul, oMul', oMulM, oEq, oNe, oEqS, oNeS, oIn, oNin, eChain, oIx, oSet, cLen, cList, cListM, cTuple, cSum, cAll, cAny, cInt, cAbs, cMax2, cMin2, cDivmod, cGcd, cIsi, cRepr, lstInts, lstBls, startD, wipeD, List.map_cons, List.map_nil, List.length_cons, List.length_nil, List.cons_append, List.nil_append, List.replicate_succ, List.replicate_zero, List.set_cons_succ, List.set_cons_zero, List.getElem?_cons_succ, List.getElem?_cons_zero, List.filterMap_cons_some, List.filterMap_nil, Nat.reduceAdd, Nat.reduceSub, Nat.sub_self, Nat.reduceLT, Nat.reduceMul, Nat.zero_add, Nat.add_zero, if_true, if_false, and_true, true_and, and_false, false_and, or_true, true_or, or_false, false_or, not_true_eq_false, not_false_eq_true, Bool.not_true, Bool.not_false, Bool.false_eq_true, ite_true, ite_false, reduceIte, reduceCtorEq, eq_self, aStar, eLstRg, eDicT0, eDixT, gSubsT, keysOf, cListT, cSortedP, oSubB, oMulT, iZip2G, eDic0, eDic1, oDix, oDin, oDnin, oDset, iKeysG, cSortedE, cListD, Gx.keyOf, cMaxL, cMinL, cSortedI, mIndex, eSortSet, eLenT, $xs,*])
local macro_rules | `(tactic| simp_arith! [$xs,*]) => `(tactic| try simp only [eVar, eC, eBin, eUn, tBl, tAnd', tOr', tNot', eAnd, eOr, eNot, eIf, aNil, aCons, eTup, eLst, eLstM, eCall, eCallK, pick, sNext, sSeq, sBreak, sCont, sDrop, sRet, sRetN, sIf, sNever, gNm, gsNil, gsCons, gTupl, gSubs, sAsg, sPar, sPar3, sFor, iSeq, seqG_tup, seqG_lst, seqG_scr, iRange1, iRange2, iEnumG, iZipG, td_tup, td_lst, td_scr, eLc, eLcM, tYes', pNone, pSome, eSl, cu_tup, cu_lst, cu_scr, eMt, eMt0, mAppend, isL, rs_non, rs_bl, rs_int, rs_str, rs_tup, rs_lst', rs_scr, itemsOf_tup, itemsOf_lst, itemsOf_scr, oI, oI0, oSub, oFdiv, oMod, oPow, oShl, oShr, oAnd, oOr, oXor, oLt, oLe, oGt, oGe, oNeg, oIsN, oNotN, Gx.isNon, oAdd, oAdd', oMul, oMul', oMulM, oEq, oNe, oEqS, oNeS, oIn, oNin, eChain, oIx, oSet, cLen, cList, cListM, cTuple, cSum, cAll, cAny, cInt, cAbs, cMax2, cMin2, cDivmod, cGcd, cIsi, cRepr, lstInts, lstBls, startD, wipeD, List.map_cons, List.map_nil, List.length_cons, List.length_nil, List.cons_append, List.nil_append, List.replicate_succ, List.replicate_zero, List.set_cons_succ, List.set_cons_zero, List.getElem?_cons_succ, List.getElem?_cons_zero, List.filterMap_cons_some, List.filterMap_nil, Nat.reduceAdd, Nat.reduceSub, Nat.sub_self, Nat.reduceLT, Nat.reduceMul, Nat.zero_add, Nat.add_zero, if_true, if_false, and_true, true_and, and_false, false_and, or_true, true_or, or_false, false_or, not_true_eq_false, not_false_eq_true, Bool.not_true, Bool.not_false, Bool.false_eq_true, ite_true, ite_false, reduceIte, reduceCtorEq, eq_self, aStar, eLstRg, eDicT0, eDixT, gSubsT, keysOf, cListT, cSortedP, oSubB, oMulT, iZip2G, eDic0, eDic1, oDix, oDin, oDnin, oDset, iKeysG, cSortedE, cListD, Gx.keyOf, cMaxL, cMinL, cSortedI, mIndex, eSortSet, eLenT, rs_N, rs_W, rs_Row, rs_S, rs_R, rs_B, it_N, it_W, it_Row, it_S, it_R, sq_W, sq_Row, sq_S, td_N, td_W, td_Row, td_S, rs_I, it_I, sq_I, td_I, rs_Ss, it_Ss, sq_Ss, td_Ss, cu_S, cu_W, cu_Row, atI_0, atI_1, $xs,*])
abbrev encL (n k : Nat) : D := encI (lotOf n k)
def γ_beyond : OL := fun ds S R => ∃ (N : Net) (l : List Nat), ds = [encN N, encI l] ∧ N.n ≤ 8 ∧ R (encI ((List.range N.n).filter fun i => decide (i ∉ l))) S
def body_beyond (γ_many_cells : OL) : ST := sRet (eCall cTuple (aCons (eLc (iRange1 (aCons (eCall γ_many_cells (aCons (eVar 0) (aNil))) (aNil))) (gNm 2) (tBl (eBin oNin (eVar 2) (eVar 1))) (eVar 2) [2]) (aNil)))
theorem law_beyond : Law 3 γ_beyond (body_beyond γ_many_cells) := by
  intro ds S R ⟨N, l, e, h8, h⟩
  subst e
  have q := fin_of h
  unfold body_beyond γ_many_cells
  simp_arith []
  refine ⟨N, rfl, ⟨by omega, by omega⟩, ?_⟩
  rw [Int.toNat_natCast]
  refine rng_filter (fun i => decide (i ∉ l)) (fun i => .int (i : Int)) N.n (fun i hi Y M hy hM => ?_) trivial (sz1000 (by omega)) ?_
  · simp_arith! [wipeD]
    unfold encI
    simp_arith [plI, inI, pl_int]
    exact ite_go (fun z => hy (by simpa using z)) fun z => hM (by simpa using z)
  · simp_arith []
    exact q
theorem lit_beyond {n k : Nat} (hk : k < 2 ^ n) : lit n ((List.range n).filter fun i => decide (i ∉ lotOf n k)) = stateOf n (2 ^ n - 1 - k) := by
  refine List.ext_getElem (by rw [lit_len, stateOf_length]) fun i h1 h2 => ?_
  rw [stateOf_length] at h2
  rw [← getD_eq (d := false) h1, ← getD_eq (d := false) (by rw [stateOf_length]; exact h2), lit_at h2, stateOf_getD h2, compl_bit hk h2]
  have : (i ∈ (List.range n).filter fun i => decide (i ∉ lotOf n k)) ↔ k.testBit i = false := by
    rw [List.mem_filter, List.mem_range, decide_eq_true_eq, mem_lotOf]
    cases k.testBit i <;> simp [h2]
  cases z : k.testBit i with
  | true => exact decide_eq_false fun c => by rw [this.mp c] at z; cases z
  | false => exact decide_eq_true (this.mpr z)
theorem stub_all {N : Net} {k : Nat} (hk : k < 2 ^ N.n) : (lotOf N.n k).all (fun i => !(wants N (stateOf N.n (2 ^ N.n - 1 - k))).getD i false) = stub N k := by
  unfold stub closedN
  rw [Bool.eq_iff_iff, List.all_eq_true, List.all_eq_true]
  constructor
  · intro h i hi
    have hi := List.mem_range.mp hi
    rw [stateOf_getD hi, compl_bit hk hi]
    cases z : k.testBit i with
    | false => rw [Bool.not_false, Bool.or_true]
    | true => rw [h i (mem_lotOf.mpr ⟨hi, z⟩)]; rfl
  · intro h i hi
    obtain ⟨h1, h2⟩ := mem_lotOf.mp hi
    have := h i (List.mem_range.mpr h1)
    rw [stateOf_getD h1, compl_bit hk h1, h2] at this
    simpa using this
def γ_stubBy : OL := fun ds S R => ∃ (N : Net) (k : Nat), ds = [encN N, encL N.n k] ∧ (N.Ok ∧ Sm N ∧ k < 2 ^ N.n) ∧ R (.bl (stub N k)) S
def body_stubBy (γ_wanted_by γ_lit_by γ_cells_beyond : OL) : ST := sSeq (sAsg (eCall γ_wanted_by (aCons (eVar 0) (aCons (eCall γ_lit_by (aCons (eVar 0) (aCons (eCall γ_cells_beyond (aCons (eVar 0) (aCons (eVar 1) (aNil)))) (aNil)))) (aNil)))) (gNm 2))
  (sRet (eCall cAll (aCons (eLc (iSeq (eVar 1)) (gNm 3) (tYes') (eBin oEq (eBin oIx (eVar 2) (eVar 3)) (eC (.int 0))) [3]) (aNil))))
theorem law_stubBy : Law 4 γ_stubBy (body_stubBy γ_wanted_by γ_lit_by γ_beyond) := by
  intro ds S R ⟨N, k, e, ⟨ok, sm, hk⟩, h⟩
  subst e
  have q := fin_of h
  have h8 := ok.few
  unfold body_stubBy
  refine seqK fun kk hh => ?_
  unfold γ_wanted_by γ_lit_by γ_beyond
  simp_arith []
  refine ⟨N, _, rfl, h8, N, _, rfl, h8, N, _, rfl, ⟨ok, sm, lit_len _ _⟩, ?_⟩
  rw [lit_beyond hk, hh]
  have ll : (lotOf N.n k).length ≤ 8 := by rw [lotOf_len]; exact Nat.le_trans (pop_le _ _) h8
  simp_arith! []
  refine lc_map (fun i : Nat => D.int (i : Int)) (fun i => .bl (!(wants N (stateOf N.n (2 ^ N.n - 1 - k))).getD i false)) (lotOf N.n k) [] (fun i hi Q hQ => ?_) trivial (sz1000 (by rw [List.length_nil]; omega)) ?_
  · have hi := (mem_lotOf.mp hi).1
    simp_arith! [wipeD, ix_want (x := 2 ^ N.n - 1 - k) hi, encB, pl_int, eqD_bit0]
    exact hQ
  · have e1 : [] ++ (lotOf N.n k).map (fun i => D.bl (!(wants N (stateOf N.n (2 ^ N.n - 1 - k))).getD i false)) = ((lotOf N.n k).map fun i => !(wants N (stateOf N.n (2 ^ N.n - 1 - k))).getD i false).map .bl := by rw [List.map_map]; rfl
    have e2 : ((lotOf N.n k).map fun i => !(wants N (stateOf N.n (2 ^ N.n - 1 - k))).getD i false).all id = stub N k := by rw [List.all_map, ← stub_all hk]; rfl
    rw [e1]
    simp_arith [blsOf_map, e2]
    exact q
def γ_lotsOf : OL := fun ds S R => ∃ (N : Net) (m : Nat), ds = [encN N, .int m] ∧ (N.n ≤ 8) ∧ R (.lst ((Gx.lotsOf N.n m).map (encL N.n))) S
def body_lotsOf (γ_many_cells : OL) : ST := sSeq (sAsg (eLst (aCons (eTup (aNil)) (aNil))) (gNm 2))
  (sSeq (sFor (iRange1 (aCons (eCall γ_many_cells (aCons (eVar 0) (aNil))) (aNil))) (gNm 3) (sAsg (eBin oAdd (eVar 2) (eLc (iSeq (eVar 2)) (gNm 4) (tBl (eBin oLt (eCall cLen (aCons (eVar 4) (aNil))) (eVar 1))) (eTup (aStar (eVar 4) (aCons (eVar 3) (aNil)))) [4])) (gNm 2)))
  (sRet (eLc (iSeq (eVar 2)) (gNm 4) (tBl (eBin oEq (eCall cLen (aCons (eVar 4) (aNil))) (eVar 1))) (eVar 4) [4])))
theorem law_lotsOf : Law 5 γ_lotsOf (body_lotsOf γ_many_cells) := by
  intro ds S R ⟨N, m, e, h8, h⟩
  subst e
  have q := fin_of h
  have p8 := pow8 h8
  unfold body_lotsOf
  refine seqK fun kk hh => ?_
  simp_arith []
  refine ⟨by decide, by decide, ?_⟩
  rw [hh]
  refine seqK fun kk hh => ?_
  unfold γ_many_cells
  simp_arith []
  refine ⟨N, rfl, ⟨by omega, by omega⟩, ?_⟩
  rw [Int.toNat_natCast]
  have l0 : D.lst [.tup []] = .lst ((genL N.n m 0).map (encL N.n)) := by
    have : lotOf N.n 0 = [] := List.length_eq_zero_iff.mp (by rw [lotOf_len, pop_zero])
    unfold genL encL
    rw [List.map_singleton, this]; rfl
  rw [l0]
  refine for_rng (fun c τ S' => S' = S ∧ ∃ x3, τ = [some (encN N), some (.int m), some (.lst ((genL N.n m c).map (encL N.n))), x3, none]) ⟨rfl, none, rfl⟩ (fun c τ S' K hc ⟨hS, x3, hτ⟩ hK => ?_) fun τ S' ⟨hS, x3, hτ⟩ => ?_
  · subst hS hτ
    have gl := genL_len (size := m) (show c ≤ N.n by omega)
    have gl2 := genL_len (size := m) (show c + 1 ≤ N.n by omega)
    have pc : 2 ^ c ≤ 2 ^ N.n := Nat.pow_le_pow_right (by decide) (by omega)
    simp_arith []
    refine lc_filter (encL N.n) (fun x => decide (pop N.n x < m)) (fun x => encL N.n (x + 2 ^ c)) (genL N.n m c) [] (fun x hx Y M hy hM => ?_) trivial (sz1000 (by rw [List.length_nil]; omega)) ?_
    · have hx := ((genL_mem c (by omega)).1 x).mp hx
      have e2 : (lotOf N.n x).map (fun i : Nat => D.int (i : Int)) ++ [D.int (c : Int)] = (lotOf N.n (x + 2 ^ c)).map fun i : Nat => D.int (i : Int) := by rw [lotOf_add hc hx.1, List.map_append]; rfl
      have lp := pop_le N.n x
      simp_arith! [wipeD, List.length_map, lotOf_len]
      refine ite_go (fun z => ?_) fun z => hM (decide_eq_false fun c => z (decide_eq_true (by omega)))
      have z := of_decide_eq_true z
      refine ⟨sz1000 (by rw [List.length_append, List.length_map, lotOf_len, List.length_singleton]; omega), ?_⟩
      rw [e2]
      exact hy (decide_eq_true (by omega))
    · have e : (genL N.n m c).map (encL N.n) ++ ([] ++ ((genL N.n m c).filter fun x => decide (pop N.n x < m)).map fun x => encL N.n (x + 2 ^ c)) = (genL N.n m (c + 1)).map (encL N.n) := by
        show _ = (genL N.n m c ++ ((genL N.n m c).filter fun x => decide (pop N.n x < m)).map (· + 2 ^ c)).map (encL N.n)
        rw [List.map_append, List.map_map, List.nil_append]; rfl
      have pc2 : 2 ^ (c + 1) ≤ 2 ^ N.n := Nat.pow_le_pow_right (by decide) (by omega)
      refine ⟨sz1000 ?_, ?_⟩
      · have := congrArg List.length e
        rw [List.length_append, List.length_map (as := genL N.n m (c + 1))] at this
        omega
      · rw [e]
        exact hK _ _ ⟨rfl, _, rfl⟩
  · subst hS hτ
    show kk _ _
    rw [hh]
    simp_arith []
    refine lc_filter (encL N.n) (fun x => decide (pop N.n x = m)) (encL N.n) (genL N.n m N.n) [] (fun x hx Y M hy hM => ?_) trivial (sz1000 (by have := genL_len (size := m) (Nat.le_refl N.n); rw [List.length_nil]; omega)) ?_
    · simp_arith! [wipeD, List.length_map, lotOf_len, pl_int, eqD_nat]
      exact ite_go (fun z => hy z) fun z => hM (by simpa using z)
    · exact q
def γ_lotsIn : OL := fun ds S R => ∃ (N : Net) (m : Nat), ds = [encN N, .int m] ∧ (N.n ≤ 8 ∧ m ≤ N.n) ∧ R (.lst ((Gx.lotsIn N.n m).map (encL N.n))) S
def body_lotsIn (γ_many_cells γ_lots_of_size : OL) : ST := sRet (eLc2 (iRange2 (aCons (eVar 1) (aCons (eBin oAdd (eCall γ_many_cells (aCons (eVar 0) (aNil))) (eC (.int 1))) (aNil)))) (gNm 2) (tYes') (iSeq (eCall γ_lots_of_size (aCons (eVar 0) (aCons (eVar 2) (aNil))))) (gNm 3) (tYes') (eVar 3) [2, 3] [3])
theorem rng_from : ∀ m a : Nat, rngD (a : Int) m = (List.range' a m).map fun i : Nat => D.int (i : Int)
  | 0, _ => rfl
  | m + 1, a => by
    show D.int (a : Int) :: rngD ((a : Int) + 1) m = _
    rw [show ((a : Int) + 1) = ((a + 1 : Nat) : Int) by omega, rng_from m (a + 1), List.range'_succ, List.map_cons]
theorem law_lotsIn : Law 4 γ_lotsIn (body_lotsIn γ_many_cells γ_lotsOf) := by
  intro ds S R ⟨N, m, e, ⟨h8, hm⟩, h⟩
  subst e
  have q := fin_of h
  have p8 := pow8 h8
  unfold body_lotsIn γ_many_cells
  simp only [sRet, eCall, aCons, aNil, eLc2, iRange2, eBin, eC, eVar, startD, List.map_cons, List.map_nil, List.length_cons, List.length_nil, Nat.reduceAdd, Nat.reduceSub, List.replicate_succ, List.replicate_zero, List.cons_append, List.nil_append, List.getElem?_cons_succ, List.getElem?_cons_zero]
  refine ⟨N, rfl, ?_⟩
  show (-2 ^ 62 ≤ (m : Int) ∧ (m : Int) < 2 ^ 62 ∧ -2 ^ 62 ≤ (N.n : Int) + 1 ∧ (N.n : Int) + 1 < 2 ^ 62) ∧ _
  refine ⟨⟨by omega, by omega, by omega, by omega⟩, ?_⟩
  have e1 : ((N.n : Int) + 1 - (m : Int)).toNat = N.n + 1 - m := by omega
  rw [e1, rng_from]
  refine lc2_all (fun i : Nat => D.int (i : Int)) (Gx.lotsOf N.n) (fun _ k => encL N.n k) trivial 1000 (List.range' m (N.n + 1 - m)) [] (by have := lotsIn_len N.n m; unfold Gx.lotsIn at this; rw [List.length_nil]; omega) (fun i hi acc Z' hl hz => ?_) ?_
  · unfold γ_lotsOf
    simp_arith [wipeD]
    refine ⟨N, i, rfl, h8, ?_⟩
    simp_arith []
    refine lc_map (encL N.n) (encL N.n) (Gx.lotsOf N.n i) acc (fun k hk Q hQ => ?_) trivial (sz1000 hl) hz
    simp_arith [wipeD]
    exact hQ
  · rw [List.nil_append]
    unfold Gx.lotsIn at q
    rw [List.map_flatMap] at q
    exact q
def γ_inLot : OL := fun ds S R => ∃ n a b : Nat, ds = [encL n a, encL n b] ∧ (n ≤ 8 ∧ a < 2 ^ n) ∧ R (.bl (subB a b)) S
def body_inLot : ST := sRet (eCall cAll (aCons (eLc (iSeq (eVar 0)) (gNm 2) (tYes') (eBin oIn (eVar 2) (eVar 1)) [2]) (aNil)))
theorem within_all {n a b : Nat} (ha : a < 2 ^ n) : (lotOf n a).all (fun i => decide (i ∈ lotOf n b)) = subB a b := by
  rw [Bool.eq_iff_iff, List.all_eq_true, subB_iff ha]
  constructor
  · intro h i hi z
    have := of_decide_eq_true (h i (mem_lotOf.mpr ⟨hi, z⟩))
    exact (mem_lotOf.mp this).2
  · intro h i hi
    obtain ⟨h1, h2⟩ := mem_lotOf.mp hi
    exact decide_eq_true (mem_lotOf.mpr ⟨h1, h i h1 h2⟩)
theorem law_inLot : Law 3 γ_inLot body_inLot := by
  intro ds S R ⟨n, a, b, e, ⟨h8, ha⟩, h⟩
  subst e
  have q := fin_of h
  have la : (lotOf n a).length ≤ 8 := by rw [lotOf_len]; exact Nat.le_trans (pop_le _ _) h8
  unfold body_inLot encL
  simp_arith! []
  refine lc_map (fun i : Nat => D.int (i : Int)) (fun i => .bl (decide (i ∈ lotOf n b))) (lotOf n a) [] (fun i hi Q hQ => ?_) trivial (sz1000 (by rw [List.length_nil]; omega)) ?_
  · simp_arith [wipeD]
    unfold encI
    simp_arith [plI, inI, pl_int]
    exact hQ
  · have e1 : [] ++ (lotOf n a).map (fun i => D.bl (decide (i ∈ lotOf n b))) = ((lotOf n a).map fun i => decide (i ∈ lotOf n b)).map .bl := by rw [List.map_map]; rfl
    have e2 : ((lotOf n a).map fun i => decide (i ∈ lotOf n b)).all id = subB a b := by rw [List.all_map, ← within_all ha]; rfl
    rw [e1]
    simp_arith [blsOf_map, e2]
    exact q
/-! ### the least of some lots -/
def lotI (n k : Nat) : List Int := (lotOf n k).map fun i : Nat => (i : Int)
theorem encL_tup (n k : Nat) : encL n k = tupN (lotI n k) := by unfold encL encI tupN lotI; rw [List.map_map]; rfl
theorem lotI_ok {n k : Nat} (h : n ≤ 8) : LotI (lotI n k) := by
  refine ⟨by unfold lotI; rw [List.length_map, lotOf_len]; exact Nat.le_trans (pop_le _ _) h, fun i hi => ?_⟩
  obtain ⟨j, hj, rfl⟩ := List.mem_map.mp hi
  have := (mem_lotOf.mp hj).1
  omega
theorem lotI_nil {n k : Nat} (hk : k < 2 ^ n) (h : lotI n k = []) : k = 0 := by
  apply Classical.byContradiction
  intro c
  obtain ⟨i, hi, z⟩ := some_bit hk (by omega)
  have := mem_lotOf.mpr ⟨hi, z⟩
  rw [List.map_eq_nil_iff.mp h] at this
  cases this
/-- some lots as they are told -/
def Told (n : Nat) (ks : List Nat) (mss : List (List Int)) : Prop := mss.Perm (ks.map (lotI n)) ∧ mss.Pairwise leU
theorem told_one {n : Nat} (h : n ≤ 8) {ks ls : List Nat} (p : ks.Perm ls) {a b : List (List Int)} (ha : Told n ks a) (hb : Told n ls b) : a = b :=
  sortU_one (ha.1.trans ((p.map _).trans hb.1.symm)) ha.2 hb.2 fun x hx => by
    obtain ⟨k, _, rfl⟩ := List.mem_map.mp (ha.1.subset hx)
    exact lotI_ok h
structure UpsK (n : Nat) (ks : List Nat) : Prop where
  nd : ks.Nodup
  lt : ∀ k ∈ ks, k < 2 ^ n
  pw : ks.Pairwise fun a b => pop n a ≤ pop n b
theorem UpsK.len {n : Nat} {ks : List Nat} (u : UpsK n ks) : ks.length ≤ 2 ^ n := by
  have := sub_len (m := List.range (2 ^ n)) u.nd fun x hx => List.mem_range.mpr (u.lt x hx)
  rw [List.length_range] at this
  exact this
theorem UpsK.loN {n : Nat} {ks : List Nat} (u : UpsK n ks) : (Gx.loN ks).Perm (leastN ks) := by
  obtain ⟨a, b⟩ := loN_least ks u.nd u.lt u.pw
  exact (List.perm_ext_iff_of_nodup a (u.nd.filter _)).mpr b
/-- what the sort asks for -/
theorem sort_asks {n : Nat} (h5 : n ≤ 5) {ks : List Nat} (nd : ks.Nodup) (lt : ∀ k ∈ ks, k < 2 ^ n) (z : 0 ∈ ks → ks.length ≤ 1) : (ks.map (lotI n)).length < 64 ∧ ∀ ns ∈ ks.map (lotI n), (ns ≠ [] ∨ (ks.map (lotI n)).length ≤ 1) ∧ LotI ns := by
  have l : ks.length ≤ 32 := by
    have := sub_len (m := List.range (2 ^ n)) nd fun x hx => List.mem_range.mpr (lt x hx)
    rw [List.length_range] at this
    have p5 : 2 ^ n ≤ 32 := Nat.pow_le_pow_right (by decide) h5
    omega
  refine ⟨by rw [List.length_map]; omega, fun ns hn => ?_⟩
  obtain ⟨k, hk, rfl⟩ := List.mem_map.mp hn
  refine ⟨?_, lotI_ok (by omega)⟩
  by_cases y : lotI n k = []
  · right
    rw [List.length_map]
    exact z (by rw [← lotI_nil (lt k hk) y]; exact hk)
  · exact .inl y
theorem map_tup (n : Nat) (ks : List Nat) : ks.map (encL n) = (ks.map (lotI n)).map tupN := by
  rw [List.map_map]
  exact List.map_congr_left fun k _ => encL_tup n k
def γ_leastOnes : OL := fun ds S R => ∃ (n : Nat) (ks : List Nat), ds = [.lst (ks.map (encL n))] ∧ (n ≤ 5 ∧ UpsK n ks) ∧ ∀ mss, Told n (leastN ks) mss → R (.tup (mss.map tupN)) S
def body_leastOnes (γ_is_within : OL) : ST := sSeq (sAsg (eLstM (aNil)) (gNm 1))
  (sSeq (sFor (iSeq (eVar 0)) (gNm 2) (sIf (tNot' (tBl (eCall cAny (aCons (eLc (iSeq (eVar 1)) (gNm 3) (tYes') (eCall γ_is_within (aCons (eVar 3) (aCons (eVar 2) (aNil)))) [3]) (aNil))))) (sDrop (eMt mAppend (eVar 1) (aCons (eVar 2) (aNil)))) (sNext)))
  (sRet (eCall cTuple (aCons (eCall cSortedU (aCons (eVar 1) (aNil))) (aNil)))))
theorem law_leastOnes : Law 4 γ_leastOnes (body_leastOnes γ_inLot) := by
  intro ds S R ⟨n, ks, e, ⟨h5, u⟩, h⟩
  subst e
  have p5 : 2 ^ n ≤ 32 := Nat.pow_le_pow_right (by decide) h5
  have ul := u.len
  unfold body_leastOnes
  refine seqK fun k hk => ?_
  simp_arith []
  refine ⟨by decide, fun p hp => ?_⟩
  rw [hk]
  refine seqK fun k hk => ?_
  simp_arith []
  refine for_all (encL n) (fun dn τ S' => S' = up S p (.lst ((Gx.loN dn).map (encL n))) ∧ ∃ x2, τ = [some (.lst (ks.map (encL n))), some (.ref p), x2, none]) ks ⟨rfl, none, rfl⟩ (fun dn x todo τ S' K ea ⟨hS, x2, hτ⟩ hK => ?_) fun τ S' ⟨hS, x2, hτ⟩ => ?_
  · subst hS hτ
    have st := hK [some (.lst (ks.map (encL n))), some (.ref p), some (encL n x), none] _ ⟨rfl, _, rfl⟩
    rw [loN_snoc] at st
    have ud : (∀ k ∈ dn, k < 2 ^ n) ∧ dn.Nodup ∧ dn.Pairwise fun a b => pop n a ≤ pop n b := by
      have nd := u.nd
      have pw := u.pw
      rw [ea, List.nodup_append] at nd
      rw [ea, List.pairwise_append] at pw
      exact ⟨fun k hk => u.lt k (by rw [ea]; exact List.mem_append_left _ hk), nd.1, pw.1⟩
    obtain ⟨l1, l2⟩ := loN_least dn ud.2.1 ud.1 ud.2.2
    have ll : ∀ o ∈ Gx.loN dn, o < 2 ^ n := fun o ho => ud.1 o (mem_leastN.mp ((l2 o).mp ho)).1
    have ln : (Gx.loN dn).length ≤ 2 ^ n := by
      have := sub_len (m := List.range (2 ^ n)) l1 fun x hx => List.mem_range.mpr (ll x hx)
      rw [List.length_range] at this
      exact this
    unfold γ_inLot
    simp_arith [seqG_ref up_same]
    refine lc_map (encL n) (fun o => .bl (subB o x)) (Gx.loN dn) [] (fun o ho Q hQ => ?_) up_same (sz1000 (by rw [List.length_nil]; omega)) ?_
    · simp_arith [wipeD]
      exact ⟨n, o, x, rfl, ⟨by omega, ll o ho⟩, hQ⟩
    · have e1 : [] ++ (Gx.loN dn).map (fun o => D.bl (subB o x)) = ((Gx.loN dn).map fun o => subB o x).map .bl := by rw [List.map_map]; rfl
      have e2 : ((Gx.loN dn).map fun o => subB o x).any id = (Gx.loN dn).any fun o => subB o x := by rw [List.any_map]; rfl
      rw [e1]
      simp_arith [blsOf_map, e2]
      by_cases z : (Gx.loN dn).any (fun o => subB o x) = true
      · rw [if_pos z] at st
        simp_arith [z]
        exact st
      · rw [if_neg z] at st
        have z : (Gx.loN dn).any (fun o => subB o x) = false := by simpa using z
        simp_arith [z, rs_ref up_same, up_same, up_up, List.length_map]
        refine ⟨sz_lt (n := (Gx.loN dn).length) (by omega), ?_⟩
        rw [List.map_append] at st
        exact st
  · subst hS hτ
    show k _ _
    rw [hk]
    have pm := u.loN
    have lt : ∀ o ∈ Gx.loN ks, o < 2 ^ n := fun o ho => u.lt o (mem_leastN.mp (pm.subset ho)).1
    have nd : (Gx.loN ks).Nodup := (loN_least ks u.nd u.lt u.pw).1
    obtain ⟨a1, a2⟩ := sort_asks h5 nd lt fun z => by rw [pm.length_eq]; exact leastN_zero u.nd (pm.subset z)
    simp_arith []
    refine ⟨(Gx.loN ks).map (lotI n), by rw [rs_ref up_same, map_tup], a1, a2, fun mss pp pw => ?_⟩
    simp_arith []
    exact fin_new hp (h mss ⟨pp.trans (pm.map _), pw⟩)
/-! ### what is told -/
abbrev NHs (N : Net) : Prop := N.Ok ∧ Sm N ∧ helping N = true ∧ N.n ≤ 5
def stubs (N : Net) : List Nat := (List.range (2 ^ N.n)).filter fun k => decide (0 < k) && stub N k
def seeds (N : Net) : List Nat := (List.range (2 ^ N.n)).filter fun k => lights N k
theorem stubs_mem {N : Net} {k : Nat} : k ∈ stubs N ↔ k < 2 ^ N.n ∧ 0 < k ∧ stub N k = true := by
  unfold stubs
  rw [List.mem_filter, List.mem_range, Bool.and_eq_true, decide_eq_true_eq]
theorem seeds_mem {N : Net} {k : Nat} : k ∈ seeds N ↔ k < 2 ^ N.n ∧ lights N k = true := by
  unfold seeds
  rw [List.mem_filter, List.mem_range]
theorem stubs_nd (N : Net) : (stubs N).Nodup := List.nodup_range.filter _
theorem seeds_nd (N : Net) : (seeds N).Nodup := List.nodup_range.filter _
theorem ups_filter (n m : Nat) (p : Nat → Bool) : UpsK n ((Gx.lotsIn n m).filter p) := by
  obtain ⟨a, b⟩ := lotsIn_nd n m
  exact ⟨a.filter p, fun k hk => (lotsIn_mem.mp (List.mem_filter.mp hk).1).1, b.filter p⟩
theorem pop_pos {n k : Nat} (hk : k < 2 ^ n) : 1 ≤ pop n k ↔ 0 < k := by
  constructor
  · intro h
    apply Nat.pos_of_ne_zero
    rintro rfl
    rw [pop_zero] at h
    omega
  · intro h
    obtain ⟨i, hi, z⟩ := some_bit hk h
    rw [← lotOf_len]
    exact List.length_pos_of_mem (mem_lotOf.mpr ⟨hi, z⟩)
theorem stubs_perm (N : Net) : (leastN ((Gx.lotsIn N.n 1).filter (stub N))).Perm (leastN (stubs N)) :=
  leastN_perm (ups_filter _ _ _).nd (stubs_nd N) fun k => by
    rw [List.mem_filter, lotsIn_mem, stubs_mem]
    constructor
    · rintro ⟨⟨a, b⟩, c⟩; exact ⟨a, (pop_pos a).mp b, c⟩
    · rintro ⟨a, b, c⟩; exact ⟨⟨a, (pop_pos a).mpr b⟩, c⟩
theorem seeds_perm (N : Net) : (leastN ((Gx.lotsIn N.n 0).filter (lights N))).Perm (leastN (seeds N)) :=
  leastN_perm (ups_filter _ _ _).nd (seeds_nd N) fun k => by
    rw [List.mem_filter, lotsIn_mem, seeds_mem]
    exact ⟨fun ⟨⟨a, _⟩, c⟩ => ⟨a, c⟩, fun ⟨a, c⟩ => ⟨⟨a, Nat.zero_le _⟩, c⟩⟩
theorem told_perm {n : Nat} {ks ls : List Nat} (p : ks.Perm ls) {mss : List (List Int)} (h : Told n ks mss) : Told n ls mss := ⟨h.1.trans (p.map _), h.2⟩
def γ_stubLots : OL := fun ds S R => ∃ N : Net, ds = [encN N] ∧ NHs N ∧ ∀ mss, Told N.n (leastN (stubs N)) mss → R (.tup (mss.map tupN)) S
def body_stubLots (γ_least_ones γ_lots_in_size γ_is_stubborn_by : OL) : ST := sRet (eCall γ_least_ones (aCons (eLc (iSeq (eCall γ_lots_in_size (aCons (eVar 0) (aCons (eC (.int 1)) (aNil))))) (gNm 1) (tBl (eCall γ_is_stubborn_by (aCons (eVar 0) (aCons (eVar 1) (aNil))))) (eVar 1) [1]) (aNil)))
theorem law_stubLots : Law 2 γ_stubLots (body_stubLots γ_leastOnes γ_lotsIn γ_stubBy) := by
  intro ds S R ⟨N, e, ⟨ok, sm, hp, h5⟩, h⟩
  subst e
  have p5 : 2 ^ N.n ≤ 32 := Nat.pow_le_pow_right (by decide) h5
  have ll := lotsIn_len N.n 1
  unfold body_stubLots γ_lotsIn γ_stubBy
  simp_arith []
  refine ⟨N, 1, rfl, ⟨by omega, ok.pos⟩, ?_⟩
  simp_arith []
  refine lc_filter (encL N.n) (stub N) (encL N.n) (Gx.lotsIn N.n 1) [] (fun k hk Y M hy hM => ?_) trivial (sz1000 (by rw [List.length_nil]; omega)) ?_
  · simp_arith [wipeD]
    refine ⟨N, k, rfl, ⟨ok, sm, (lotsIn_mem.mp hk).1⟩, ?_⟩
    exact ite_go (fun z => hy z) fun z => hM (by simpa using z)
  · rw [List.nil_append]
    unfold γ_leastOnes
    exact ⟨N.n, _, rfl, ⟨h5, ups_filter _ _ _⟩, fun mss hm => fin_of (h mss (told_perm (stubs_perm N) hm))⟩
theorem sprd_lights {N : Net} (k : Nat) : decide ((sprd N (lotOf N.n k)).length = N.n) = lights N k := by
  unfold lights
  refine decide_eq_decide.mpr ?_
  unfold sprd
  rw [lit_lotOf, ons_cnt]
  have cl := cls_len (N := N) (stateOf_length N.n k)
  have sp := spr_state N k
  have lt := spr_lt N k
  have e1 : cnt (cls N (stateOf N.n k)) = pop N.n (spr N k) := by unfold pop; rw [sp]
  rw [e1]
  have p := Nat.two_pow_pos N.n
  have full : pop N.n (2 ^ N.n - 1) = N.n := by
    rw [← lotOf_len, lotOf_eq, List.filter_eq_self.mpr fun i hi => full_bit (List.mem_range.mp hi), List.length_range]
  constructor
  · intro h
    refine subB_pop lt (by omega) ((subB_iff lt).mpr fun i hi _ => full_bit hi) (by omega)
  · intro h
    rw [h, full]
def γ_leastSeeds : OL := fun ds S R => ∃ N : Net, ds = [encN N] ∧ NHs N ∧ ∀ mss, Told N.n (leastN (seeds N)) mss → R (.tup (mss.map tupN)) S
def body_leastSeeds (γ_least_ones γ_lots_in_size γ_does_light_by : OL) : ST := sRet (eCall γ_least_ones (aCons (eLc (iSeq (eCall γ_lots_in_size (aCons (eVar 0) (aCons (eC (.int 0)) (aNil))))) (gNm 1) (tBl (eCall γ_does_light_by (aCons (eVar 0) (aCons (eVar 1) (aNil))))) (eVar 1) [1]) (aNil)))
theorem law_leastSeeds : Law 2 γ_leastSeeds (body_leastSeeds γ_leastOnes γ_lotsIn γ_light_by) := by
  intro ds S R ⟨N, e, ⟨ok, sm, hp, h5⟩, h⟩
  subst e
  have p5 : 2 ^ N.n ≤ 32 := Nat.pow_le_pow_right (by decide) h5
  have ll := lotsIn_len N.n 0
  unfold body_leastSeeds γ_lotsIn γ_light_by
  simp_arith []
  refine ⟨N, 0, rfl, ⟨by omega, Nat.zero_le _⟩, ?_⟩
  simp_arith []
  refine lc_filter (encL N.n) (lights N) (encL N.n) (Gx.lotsIn N.n 0) [] (fun k hk Y M hy hM => ?_) trivial (sz1000 (by rw [List.length_nil]; omega)) ?_
  · simp_arith [wipeD]
    refine ⟨N, _, rfl, ⟨ok, sm⟩, ?_⟩
    rw [sprd_lights]
    exact ite_go (fun z => hy z) fun z => hM (by simpa using z)
  · rw [List.nil_append]
    unfold γ_leastOnes
    exact ⟨N.n, _, rfl, ⟨h5, ups_filter _ _ _⟩, fun mss hm => fin_of (h mss (told_perm (seeds_perm N) hm))⟩
def γ_isStub : OL := fun ds S R => ∃ (N : Net) (k : Nat), ds = [encN N, encL N.n k] ∧ (NHs N ∧ k < 2 ^ N.n ∧ 0 < k) ∧ R (.bl (stub N k)) S
def body_isStub (γ_check_lot γ_is_stubborn_by : OL) : ST := sSeq (sDrop (eCall γ_check_lot (aCons (eVar 0) (aCons (eVar 1) (aCons (eC (.int 1)) (aNil))))))
  (sRet (eCall γ_is_stubborn_by (aCons (eVar 0) (aCons (eVar 1) (aNil)))))
theorem law_isStub : Law 2 γ_isStub (body_isStub γ_check_lot γ_stubBy) := by
  intro ds S R ⟨N, k, e, ⟨⟨ok, sm, hp, h5⟩, hk, k0⟩, h⟩
  subst e
  have l1 : 1 ≤ (lotOf N.n k).length := by rw [lotOf_len]; exact (pop_pos hk).mpr k0
  have l2 : (lotOf N.n k).length ≤ 8 := by rw [lotOf_len]; exact Nat.le_trans (pop_le _ _) (by omega)
  unfold body_isStub γ_check_lot γ_stubBy
  simp_arith []
  exact ⟨N, lotOf N.n k, 1, rfl, ⟨ok, hp, lotOf_lot _ _, l1, by omega⟩, N, k, rfl, ⟨ok, sm, hk⟩, fin_of h⟩
def body_stubPub (γ_check_helping_net γ_stubborn_by : OL) : ST := sSeq (sDrop (eCall γ_check_helping_net (aCons (eVar 0) (aNil))))
  (sRet (eCall γ_stubborn_by (aCons (eVar 0) (aNil))))
theorem law_stubPub : Law 1 γ_stubLots (body_stubPub γ_helpNet γ_stubLots) := by
  intro ds S R ⟨N, e, nh, h⟩
  subst e
  unfold body_stubPub γ_helpNet γ_stubLots
  simp_arith []
  exact ⟨N, rfl, ⟨nh.1, nh.2.2.1⟩, N, rfl, nh, fun mss hm => fin_of (h mss hm)⟩
def body_seedsPub (γ_check_helping_net γ_least_seeds_by : OL) : ST := sSeq (sDrop (eCall γ_check_helping_net (aCons (eVar 0) (aNil))))
  (sRet (eCall γ_least_seeds_by (aCons (eVar 0) (aNil))))
theorem law_seedsPub : Law 1 γ_leastSeeds (body_seedsPub γ_helpNet γ_leastSeeds) := by
  intro ds S R ⟨N, e, nh, h⟩
  subst e
  unfold body_seedsPub γ_helpNet γ_leastSeeds
  simp_arith []
  exact ⟨N, rfl, ⟨nh.1, nh.2.2.1⟩, N, rfl, nh, fun mss hm => fin_of (h mss hm)⟩
/-- the fewest of some lots -/
def fews (n : Nat) (ks : List Nat) (m : Nat) : List Nat := ks.filter fun k => decide (pop n k = m)
def IsMin (n : Nat) (ks : List Nat) (m : Nat) : Prop := (∃ k ∈ ks, pop n k = m) ∧ ∀ k ∈ ks, m ≤ pop n k
theorem isMin_one {n : Nat} {ks : List Nat} {a b : Nat} (ha : IsMin n ks a) (hb : IsMin n ks b) : a = b := by
  obtain ⟨⟨x, hx, rfl⟩, h1⟩ := ha
  obtain ⟨⟨y, hy, rfl⟩, h2⟩ := hb
  have := h1 y hy
  have := h2 x hx
  omega
def γ_fewest2 : OL := fun ds S R => ∃ N : Net, ds = [encN N] ∧ NHs N ∧ ∀ m mss, IsMin N.n (leastN (seeds N)) m → Told N.n (fews N.n (leastN (seeds N)) m) mss → R (.tup (mss.map tupN)) S
def body_fewestBy (γ_least_seeds_by : OL) : ST := sSeq (sAsg (eCall γ_least_seeds_by (aCons (eVar 0) (aNil))) (gNm 1))
  (sSeq (sAsg (eCall cMinL (aCons (eLc (iSeq (eVar 1)) (gNm 3) (tYes') (eCall cLen (aCons (eVar 3) (aNil))) [3]) (aNil))) (gNm 2))
  (sRet (eCall cTuple (aCons (eLc (iSeq (eVar 1)) (gNm 3) (tBl (eBin oEq (eCall cLen (aCons (eVar 3) (aNil))) (eVar 2))) (eVar 3) [3]) (aNil)))))
theorem law_fewestBy : Law 4 γ_fewest2 (body_fewestBy γ_leastSeeds) := by
  intro ds S R ⟨N, e, ⟨ok, sm, hp, h5⟩, h⟩
  subst e
  have p5 : 2 ^ N.n ≤ 32 := Nat.pow_le_pow_right (by decide) h5
  have p := Nat.two_pow_pos N.n
  have sl : ∀ k ∈ seeds N, k < 2 ^ N.n := fun k hk => (seeds_mem.mp hk).1
  have ne : leastN (seeds N) ≠ [] := leastN_ne sl fun c => by
    have := seeds_mem.mpr ⟨show 2 ^ N.n - 1 < 2 ^ N.n by omega, lights_all ok hp⟩
    rw [c] at this
    cases this
  have ll : (leastN (seeds N)).length ≤ 32 := by
    have := sub_len (m := List.range (2 ^ N.n)) ((seeds_nd N).filter _) fun x (hx : x ∈ leastN (seeds N)) => List.mem_range.mpr (sl x (mem_leastN.mp hx).1)
    rw [List.length_range] at this
    exact Nat.le_trans this p5
  unfold body_fewestBy
  refine seqK fun k hk => ?_
  unfold γ_leastSeeds
  simp_arith []
  refine ⟨N, rfl, ⟨ok, sm, hp, h5⟩, fun mss hm => ?_⟩
  have ml := hm.1.length_eq
  rw [List.length_map] at ml
  have mem : ∀ ns, ns ∈ mss ↔ ∃ k ∈ leastN (seeds N), lotI N.n k = ns := fun ns => by rw [hm.1.mem_iff, List.mem_map]
  have len : ∀ k, (lotI N.n k).length = pop N.n k := fun k => by unfold lotI; rw [List.length_map, lotOf_len]
  rw [hk]
  refine seqK fun k hk => ?_
  simp_arith []
  refine lc_map tupN (fun ns => .int (ns.length : Nat)) mss [] (fun ns hn Q hQ => ?_) trivial (sz1000 (by rw [List.length_nil]; omega)) ?_
  · unfold tupN
    simp_arith [wipeD, List.length_map]
    exact hQ
  · have e1 : [] ++ mss.map (fun ns => D.int (ns.length : Nat)) = (mss.map fun ns => ((ns.length : Nat) : Int)).map .int := by rw [List.map_map]; rfl
    rw [e1]
    simp_arith [intsOf_map]
    refine ⟨fun c => ?_, fun m hm1 hm2 => ?_⟩
    · rw [List.map_eq_nil_iff] at c
      rw [c] at ml
      exact ne (List.length_eq_zero_iff.mp ml.symm)
    · obtain ⟨ns, hn, rfl⟩ := List.mem_map.mp hm1
      obtain ⟨k0, hk0, rfl⟩ := (mem ns).mp hn
      have im : IsMin N.n (leastN (seeds N)) (lotI N.n k0).length := by
        rw [len]
        refine ⟨⟨k0, hk0, rfl⟩, fun k hk => ?_⟩
        have := hm2 _ (List.mem_map.mpr ⟨lotI N.n k, (mem _).mpr ⟨k, hk, rfl⟩, rfl⟩)
        rw [len, len] at this
        omega
      generalize (lotI N.n k0).length = m at im
      rw [hk]
      simp_arith []
      refine lc_filter tupN (fun ns => decide (ns.length = m)) tupN mss [] (fun ns hn Y M hy hM => ?_) trivial (sz1000 (by rw [List.length_nil]; omega)) ?_
      · unfold tupN
        simp_arith [wipeD, List.length_map, pl_int, eqD_nat]
        exact ite_go (fun z => hy z) fun z => hM (by simpa using z)
      · rw [List.nil_append]
        simp_arith []
        refine fin_of (h m _ im ⟨?_, hm.2.filter _⟩)
        have := hm.1.filter fun ns => decide (ns.length = m)
        rw [List.filter_map] at this
        have e : (leastN (seeds N)).filter ((fun ns : List Int => decide (ns.length = m)) ∘ lotI N.n) = fews N.n (leastN (seeds N)) m := List.filter_congr fun k _ => by
          show decide ((lotI N.n k).length = m) = _
          rw [len]
        rw [e] at this
        exact this
def body_fewestPub (γ_check_helping_net γ_fewest_by : OL) : ST := sSeq (sDrop (eCall γ_check_helping_net (aCons (eVar 0) (aNil))))
  (sRet (eCall γ_fewest_by (aCons (eVar 0) (aNil))))
theorem law_fewestPub : Law 1 γ_fewest2 (body_fewestPub γ_helpNet γ_fewest2) := by
  intro ds S R ⟨N, e, nh, h⟩
  subst e
  unfold body_fewestPub γ_helpNet γ_fewest2
  simp_arith []
  exact ⟨N, rfl, ⟨nh.1, nh.2.2.1⟩, N, rfl, nh, fun m mss hm ht => fin_of (h m mss hm ht)⟩
end Gx

--W2
/-! Gx, data side 59: stubborn lots, seeds: the laws' own. -/
namespace Gx
open PySem L2
local macro_rules | `(tactic| simp_arith [$xs,*]) => `(tactic| try simp only [eVar, eC, eBin, eUn, tBl, tAnd', tOr', tNot', eAnd, eOr, eNot, eIf, aNil, aCons, eTup, eLst, eLstM, eCall, eCallK, pick, sNext, sSeq, sBreak, sCont, sDrop, sRet, sRetN, sIf, sNever, gNm, gsNil, gsCons, gTupl, gSubs, sAsg, sPar, sPar3, sFor, iSeq, seqG_tup, seqG_lst, seqG_scr, iRange1, iRange2, iEnumG, iZipG, td_tup, td_lst, td_scr, eLc, eLcM, tYes', pNone, pSome, eSl, cu_tup, cu_lst, cu_scr, eMt, eMt0, mAppend, isL, rs_non, rs_bl, rs_int, rs_str, rs_tup, rs_lst', rs_scr, itemsOf_tup, itemsOf_lst, itemsOf_scr, oI, oI0, oSub, oFdiv, oMod, oPow, oShl, oShr, oAnd, oOr, oXor, oLt, oLe, oGt, oGe, oNeg, oIsN, oNotN, Gx.isNon, oAdd, oAdd', oMul, oMul', oMulM, oEq, oNe, oEqS, oNeS, oIn, oNin, eChain, oIx, oSet, cLen, cList, cListM, cTuple, cSum, cAll, cAny, cInt, cAbs, cMax2, cMin2, cDivmod, cGcd, cIsi, cRepr, lstInts, lstBls, startD, wipeD, List.map_cons, List.map_nil, List.length_cons, List.length_nil, List.cons_append, List.nil_append, List.replicate_succ, List.replicate_zero, List.set_cons_succ, List.set_cons_zero, List.getElem?_cons_succ, List.getElem?_cons_zero, List.filterMap_cons_some, List.filterMap_nil, Nat.reduceAdd, Nat.reduceSub, Nat.sub_self, Nat.reduceLT, Nat.reduceMul, Nat.zero_add, Nat.add_zero, if_true, if_false, and_true, true_and, and_false, false_and, or_true, true_or, or_false, false_or, not_true_eq_false, not_false_eq_true, Bool.not_true, Bool.not_false, Bool.false_eq_true, ite_true, ite_false, reduceIte, reduceCtorEq, eq_self, aStar, eLstRg, eDicT0, eDixT, gSubsT, keysOf, cListT, cSortedP, oSubB, oMulT, iZip2G, eDic0, eDic1, oDix, oDin, oDnin, oDset, iKeysG, cSortedE, cListD, Gx.keyOf, cMaxL, cMinL, cSortedI, mIndex, eSortSet, eLenT, $xs,*])
local macro_rules | `(tactic| simp_arith! [$xs,*]) => `(tactic| try simp only [eVar, eC, eBin, eUn, tBl, tAnd', tOr', tNot', eAnd, eOr, eNot, eIf, aNil, aCons, eTup, eLst, eLstM, eCall, eCallK, pick, sNext, sSeq, sBreak, sCont, sDrop, sRet, sRetN, sIf, sNever, gNm, gsNil, gsCons, gTupl, gSubs, sAsg, sPar, sPar3, sFor, iSeq, seqG_tup, seqG_lst, seqG_scr, iRange1, iRange2, iEnumG, iZipG, td_tup, td_lst, td_scr, eLc, eLcM, tYes', pNone, pSome, eSl, cu_tup, cu_lst, cu_scr, eMt, eMt0, mAppend, isL, rs_non, rs_bl, rs_int, rs_str, rs_tup, rs_lst', rs_scr, itemsOf_tup, itemsOf_lst, itemsOf_scr, oI, oI0, oSub, oFdiv, oMod, oPow, oShl, oShr, oAnd, oOr, oXor, oLt, oLe, oGt, oGe, oNeg, oIsN, oNotN, Gx.isNon, oAdd, oAdd', oMul, oMul', oMulM, oEq, oNe, oEqS, oNeS, oIn, oNin, eChain, oIx, oSet, cLen, cList, cListM, cTuple, cSum, cAll, cAny, cInt, cAbs, cMax2, cMin2, cDivmod, cGcd, cIsi, cRepr, lstInts, lstBls, startD, wipeD, List.map_cons, List.map_nil, List.length_cons, List.length_nil, List.cons_append, List.nil_append, List.replicate_succ, List.replicate_zero, List.set_cons_succ, List.set_cons_zero, List.getElem?_cons_succ, List.getElem?_cons_zero, List.filterMap_cons_some, List.filterMap_nil, Nat.reduceAdd, Nat.reduceSub, Nat.sub_self, Nat.reduceLT, Nat.reduceMul, Nat.zero_add, Nat.add_zero, if_true, if_false, and_true, true_and, and_false, false_and, or_true, true_or, or_false, false_or, not_true_eq_false, not_false_eq_true, Bool.not_true, Bool.not_false, Bool.false_eq_true, ite_true, ite_false, reduceIte, reduceCtorEq, eq_self, aStar, eLstRg, eDicT0, eDixT, gSubsT, keysOf, cListT, cSortedP, oSubB, oMulT, iZip2G, eDic0, eDic1, oDix, oDin, oDnin, oDset, iKeysG, cSortedE, cListD, Gx.keyOf, cMaxL, cMinL, cSortedI, mIndex, eSortSet, eLenT, rs_N, rs_W, rs_Row, rs_S, rs_R, rs_B, it_N, it_W, it_Row, it_S, it_R, sq_W, sq_Row, sq_S, td_N, td_W, td_Row, td_S, rs_I, it_I, sq_I, td_I, rs_Ss, it_Ss, sq_Ss, td_Ss, cu_S, cu_W, cu_Row, atI_0, atI_1, $xs,*])
def γ_llot : OL := fun ds S R => ∃ n k : Nat, ds = [.int n, .int k] ∧ n ≤ 1000 ∧ R (encL n k) S
def body_llot : ST := sRet (eCall cTuple (aCons (eLc (iRange1 (aCons (eVar 0) (aNil))) (gNm 2) (tBl (eBin oEq (eBin oAnd (eBin oShr (eVar 1) (eVar 2)) (eC (.int 1))) (eC (.int 1)))) (eVar 2) [2]) (aNil)))
theorem law_llot : Law 3 γ_llot body_llot := by
  intro ds S R ⟨n, k, e, hn, h⟩
  subst e
  have q := fin_of h
  unfold body_llot
  simp_arith []
  refine ⟨⟨by omega, by omega⟩, ?_⟩
  rw [Int.toNat_natCast]
  unfold encL at q
  rw [lotOf_eq] at q
  refine rng_filter (fun i => k.testBit i) (fun i => .int (i : Int)) n (fun i hi Y M hy hM => ?_) trivial (sz1000 hn) q
  have e : Builtin.bitAnd ((k : Int) / 2 ^ i) 1 = bit (k.testBit i) := by rw [PyProof.Rows.bitAnd_m1, bit_testBit]
  simp_arith [wipeD, Int.toNat_natCast, e, pl_int, eqD_bit]
  exact ⟨by omega, ite_go (fun z => hy z) fun z => hM (by simpa using z)⟩
theorem cnt_flip' : ∀ (s : List Bool) (i : Nat), i < s.length → s.getD i false = false → cnt (flip s i) = cnt s + 1
  | [], i, h, _ => by simp at h
  | b :: s, 0, _, h => by
    have h : b = false := h
    subst h
    show 1 + cnt s = 0 + cnt s + 1
    omega
  | b :: s, i + 1, h, h2 => by
    show (if b = true then 1 else 0) + cnt (flip s i) = (if b = true then 1 else 0) + cnt s + 1
    rw [cnt_flip' s i (by rw [List.length_cons] at h; omega) h2]; omega
theorem one_step' {N : Net} (ok : N.Ok) (hp : helping N = true) {s c : List Bool} (hs : s.length = N.n) (hc : c.length = N.n) (sc : leS s c) (cl : leS (wants N c) c) {i : Nat} (hi : i ∈ movers N s) (h0 : s.getD i false = false) : leS (flip s i) c ∧ leS s (flip s i) := by
  have hi2 := List.mem_filter.mp hi
  have hin := List.mem_range.mp hi2.1
  have hw : (wants N s).getD i false = true := by
    have := hi2.2
    rw [h0] at this
    simpa using this
  have hci : c.getD i false = true := leS_at (leS_trans (wants_mono ok hp sc) cl) i hw
  refine ⟨leS_of (by rw [flip_len, hs, hc]) fun j hj z => ?_, leS_of (flip_len s i).symm fun j hj z => ?_⟩
  · rw [flip_len] at hj
    rw [flip_at (s := s) (by omega)] at z
    by_cases y : j = i
    · rw [y]; exact hci
    · rw [if_neg y] at z; exact leS_at sc j z
  · rw [flip_at (s := s) (by omega)]
    by_cases y : j = i
    · rw [if_pos y, h0]; rfl
    · rw [if_neg y]; exact z
theorem no_more' {N : Net} (ok : N.Ok) (hp : helping N = true) {s c : List Bool} (hs : s.length = N.n) (h : (movers N s).filter (fun i => !s.getD i false) = []) : leS (wants N s) s := by
  refine leS_of (by rw [wants_length, hs]) fun i hi z => ?_
  rw [wants_length] at hi
  apply Classical.byContradiction
  intro y
  have y : s.getD i false = false := by simpa using y
  have : i ∈ (movers N s).filter (fun i => !s.getD i false) := List.mem_filter.mpr ⟨List.mem_filter.mpr ⟨List.mem_range.mpr hi, by rw [z, y]; rfl⟩, by rw [y]; rfl⟩
  rw [h] at this
  exact nomatch this

/-! ### what is on at last -/
def γ_lspread : OL := fun ds S R => ∃ (N : Net) (k : Nat), ds = [encN N, .int k] ∧ (N.Ok ∧ Sm N ∧ helping N = true ∧ k < 2 ^ N.n) ∧ R (.int (spr N k : Nat)) S
def body_lspread (γ__law_state γ__law_movers : OL) : ST := sSeq (sAsg (eCall cLen (aCons (eBin oIx (eVar 0) (eC (.int 1))) (aNil))) (gNm 2))
  (sSeq (sFor (iRange1 (aCons (eVar 2) (aNil))) (gNm 3) (sSeq (sAsg (eCall γ__law_state (aCons (eVar 2) (aCons (eVar 1) (aNil)))) (gNm 4))
  (sSeq (sAsg (eLc (iSeq (eCall γ__law_movers (aCons (eVar 0) (aCons (eVar 4) (aNil))))) (gNm 6) (tBl (eBin oEq (eBin oIx (eVar 4) (eVar 6)) (eC (.int 0)))) (eVar 6) [6]) (gNm 5))
  (sSeq (sIf (tBl (eBin oEq (eVar 5) (eLst (aNil)))) (sBreak) (sNext))
  (sAsg (eBin oAdd (eVar 1) (eBin oShl (eC (.int 1)) (eBin oIx (eVar 5) (eC (.int 0))))) (gNm 1))))))
  (sRet (eVar 1)))
theorem law_lspread : Law 7 γ_lspread (body_lspread γ_state_by γ_movers_by) := by
  intro ds S R ⟨N, k0, e, ⟨ok, sm, hp, hk0⟩, h⟩
  subst e
  have q := fin_of h
  have h8 := ok.few
  have hn : N.ms.length = N.n := rfl
  have ln := stateOf_length N.n k0
  have cl := cls_len ln
  unfold body_lspread
  refine seqK fun k hk => ?_
  simp_arith! [List.length_map, hn]
  rw [hk]
  refine seqK fun k hk => ?_
  simp_arith []
  refine ⟨⟨by omega, by omega⟩, ?_⟩
  rw [Int.toNat_natCast]
  have fin : ∀ (x : Nat) x3 x4 x5, x < 2 ^ N.n → stateOf N.n x = cls N (stateOf N.n k0) → k [some (encN N), some (.int x), some (.int N.n), x3, x4, x5, none] S := fun x x3 x4 x5 hx e => by
    rw [hk]
    simp_arith []
    have : spr N k0 = x := stateOf_inj (spr_lt N k0) hx (by rw [spr_state, e])
    rw [this] at q
    exact q
  refine for_rng (fun t τ S' => S' = S ∧ ∃ x x3 x4 x5, x < 2 ^ N.n ∧ leS (stateOf N.n k0) (stateOf N.n x) ∧ leS (stateOf N.n x) (cls N (stateOf N.n k0)) ∧ t ≤ pop N.n x ∧ τ = [some (encN N), some (.int x), some (.int N.n), x3, x4, x5, none]) ⟨rfl, k0, none, none, none, hk0, leS_refl _, cls_le ln, Nat.zero_le _, rfl⟩ (fun t τ S' K ht ⟨hS, x, x3, x4, x5, hx, l1, l2, hc, hτ⟩ hK => ?_) fun τ S' ⟨hS, x, x3, x4, x5, hx, l1, l2, hc, hτ⟩ => ?_
  · subst hτ
    rw [hS]
    have lx := stateOf_length N.n x
    simp only [gNm, List.set_cons_succ, List.set_cons_zero]
    refine seqK fun k1 hk1 => ?_
    unfold γ_state_by
    simp_arith []
    refine ⟨N.n, x, rfl, by omega, ?_⟩
    rw [hk1]
    refine seqK fun k2 hk2 => ?_
    unfold γ_movers_by
    simp_arith []
    refine ⟨N, stateOf N.n x, rfl, ⟨ok, sm, lx⟩, ?_⟩
    have ml : (movers N (stateOf N.n x)).length ≤ 8 := by
      have := List.length_filter_le (fun i => (wants N (stateOf N.n x)).getD i false != (stateOf N.n x).getD i false) (List.range N.n)
      rw [List.length_range] at this
      exact Nat.le_trans this h8
    simp_arith! []
    refine lc_filter (fun i : Nat => .int (i : Int)) (fun i => !(stateOf N.n x).getD i false) (fun i : Nat => .int (i : Int)) (movers N (stateOf N.n x)) [] (fun j hj Y M hy hM => ?_) trivial (sz1000 (by rw [List.length_nil]; omega)) ?_
    · have g : L2.atI ((stateOf N.n x).map encB) (j : Int) = some (encB ((stateOf N.n x).getD j false)) := atI_mapD false (by rw [lx]; exact movers_lt j hj)
      simp_arith! [wipeD, g, encB, pl_int, eqD_bit0]
      exact ite_go (fun z => hy z) fun z => hM (by simpa using z)
    · have ek : ∀ m : List Nat, m.map (fun i : Nat => D.int (i : Int)) = encK m := fun _ => rfl
      rw [List.nil_append, ek, hk2]
      refine seqK fun k3 hk3 => ?_
      have mf : ∀ i ∈ (movers N (stateOf N.n x)).filter (fun i => !(stateOf N.n x).getD i false), i ∈ movers N (stateOf N.n x) ∧ (stateOf N.n x).getD i false = false := fun i hi => by
        obtain ⟨a, b⟩ := List.mem_filter.mp hi
        exact ⟨a, by simpa using b⟩
      generalize hf : (movers N (stateOf N.n x)).filter (fun i => !(stateOf N.n x).getD i false) = f at mf
      have pn : pl 60 (.lst []) = true := rfl
      simp_arith [eqD_K, pl_K, pn]
      refine ⟨Nat.zero_le _, ?_⟩
      by_cases z : f = []
      · simp_arith [z, decide_true]
        refine fin x _ _ _ hx ?_
        rw [z] at hf
        exact leS_anti l2 (cls_least ok hp ln l1 (no_more' (c := stateOf N.n x) ok hp lx hf))
      · simp_arith [z, decide_false]
        rw [hk3]
        obtain ⟨i, f', rfl⟩ := List.exists_cons_of_ne_nil z
        obtain ⟨mi, i0⟩ := mf i List.mem_cons_self
        have hi := movers_lt i mi
        have bx : x.testBit i = false := by rw [stateOf_getD hi] at i0; exact i0
        have et : turnN x i = x + 2 ^ i := by unfold turnN; rw [if_neg (by rw [bx]; decide)]
        have ef := stateOf_turnN hx hi
        obtain ⟨s1, s2⟩ := one_step' ok hp lx cl l2 (cls_closed ln) mi i0
        have hx2 : x + 2 ^ i < 2 ^ N.n := by
          rw [← et]
          have := turnN_lt hx hi
          exact this
        have g0 : L2.atI (encK (i :: f')) 0 = some (.int (i : Int)) := atI_0
        simp_arith [g0, shl_one]
        refine ⟨⟨by omega, by omega, by decide⟩, ?_⟩
        have pp : pop N.n (x + 2 ^ i) = pop N.n x + 1 := by
          unfold pop
          rw [← et, ef]
          exact cnt_flip' _ i (by rw [lx]; exact hi) i0
        have ec : (x : Int) + ((2 ^ i : Nat) : Int) = ((x + 2 ^ i : Nat) : Int) := by omega
        rw [ec]
        refine hK _ _ ⟨rfl, x + 2 ^ i, _, _, _, hx2, ?_, ?_, by omega, rfl⟩
        · rw [← et, ef]; exact leS_trans l1 s2
        · rw [← et, ef]; exact s1
  · subst hτ
    rw [hS]
    show k _ _
    have full : ∀ i, i < N.n → (stateOf N.n x).getD i false = true := fun i hi => by
      apply Classical.byContradiction
      intro c
      have c : (stateOf N.n x).getD i false = false := by simpa using c
      have := cnt_flip' (stateOf N.n x) i (by rw [stateOf_length]; exact hi) c
      have l := cnt_le (flip (stateOf N.n x) i)
      rw [flip_len, stateOf_length] at l
      unfold pop at hc
      omega
    exact fin x _ _ _ hx (leS_anti l2 (leS_of (by rw [cl, stateOf_length]) fun i hi _ => full i (by rw [cl] at hi; exact hi)))
def γ_lstub : OL := fun ds S R => ∃ (N : Net) (k : Nat), ds = [encN N, .int k] ∧ (N.Ok ∧ Sm N ∧ k < 2 ^ N.n) ∧ R (.bl (stub N k)) S
def body_lstub (γ__law_state γ__law_movers : OL) : ST := sSeq (sAsg (eCall cLen (aCons (eBin oIx (eVar 0) (eC (.int 1))) (aNil))) (gNm 2))
  (sSeq (sAsg (eCall γ__law_state (aCons (eVar 2) (aCons (eBin oSub (eBin oSub (eBin oShl (eC (.int 1)) (eVar 2)) (eC (.int 1))) (eVar 1)) (aNil)))) (gNm 3))
  (sRet (eCall cAll (aCons (eLc (iSeq (eCall γ__law_movers (aCons (eVar 0) (aCons (eVar 3) (aNil))))) (gNm 4) (tYes') (eBin oEq (eBin oIx (eVar 3) (eVar 4)) (eC (.int 1))) [4]) (aNil)))))
theorem movers_on {N : Net} {s : List Bool} : (movers N s).all (fun i => s.getD i false) = closedN N s := by
  unfold closedN
  rw [Bool.eq_iff_iff, List.all_eq_true, List.all_eq_true]
  constructor
  · intro h i hi
    have hi := List.mem_range.mp hi
    cases w : (wants N s).getD i false with
    | false => rfl
    | true =>
      cases z : s.getD i false with
      | true => rfl
      | false =>
        have := h i (List.mem_filter.mpr ⟨List.mem_range.mpr hi, by rw [w, z]; rfl⟩)
        rw [z] at this
        exact this
  · intro h i hi
    obtain ⟨h1, h2⟩ := List.mem_filter.mp hi
    have := h i h1
    cases z : s.getD i false with
    | true => rfl
    | false =>
      rw [z] at h2 this
      cases w : (wants N s).getD i false with
      | false => rw [w] at h2; cases h2
      | true => rw [w] at this; cases this
theorem law_lstub : Law 5 γ_lstub (body_lstub γ_state_by γ_movers_by) := by
  intro ds S R ⟨N, k0, e, ⟨ok, sm, hk0⟩, h⟩
  subst e
  have q := fin_of h
  have h8 := ok.few
  have p8 := pow8 h8
  have hn : N.ms.length = N.n := rfl
  unfold body_lstub
  refine seqK fun k hk => ?_
  simp_arith! [List.length_map, hn]
  rw [hk]
  refine seqK fun k hk => ?_
  unfold γ_state_by
  simp_arith [shl_one]
  have ec : ((2 ^ N.n : Nat) : Int) - 1 - (k0 : Int) = ((2 ^ N.n - 1 - k0 : Nat) : Int) := by omega
  rw [ec]
  refine ⟨⟨by omega, by omega, by decide⟩, N.n, _, rfl, by omega, ?_⟩
  rw [hk]
  unfold stub at q
  rw [← movers_on] at q
  have lx := stateOf_length N.n (2 ^ N.n - 1 - k0)
  generalize stateOf N.n (2 ^ N.n - 1 - k0) = s at q lx ⊢
  have ml : (movers N s).length ≤ 8 := by
    have := List.length_filter_le (fun i => (wants N s).getD i false != s.getD i false) (List.range N.n)
    rw [List.length_range] at this
    exact Nat.le_trans this h8
  unfold γ_movers_by
  simp_arith []
  refine ⟨N, s, rfl, ⟨ok, sm, lx⟩, ?_⟩
  simp_arith! []
  refine lc_map (fun i : Nat => .int (i : Int)) (fun i => .bl (s.getD i false)) (movers N s) [] (fun j hj Q hQ => ?_) trivial (sz1000 (by rw [List.length_nil]; omega)) ?_
  · have g : L2.atI (s.map encB) (j : Int) = some (encB (s.getD j false)) := atI_mapD false (by rw [lx]; exact movers_lt j hj)
    simp_arith! [wipeD, g, encB, pl_int, eqD_bit]
    exact hQ
  · have e1 : [] ++ (movers N s).map (fun i => D.bl (s.getD i false)) = ((movers N s).map fun i => s.getD i false).map .bl := by rw [List.map_map]; rfl
    have e2 : ((movers N s).map fun i => s.getD i false).all id = (movers N s).all fun i => s.getD i false := by rw [List.all_map]; rfl
    rw [e1]
    simp_arith [blsOf_map, e2]
    exact q
/-! ### the least ones -/
theorem land_nat (a b : Nat) : Builtin.bitAnd (a : Int) (b : Int) = ((a &&& b : Nat) : Int) := by
  rw [PyProof.Rows.bitAnd_pp (Int.natCast_nonneg _) (Int.natCast_nonneg _), Int.toNat_natCast, Int.toNat_natCast]
theorem lor_nat (a b : Nat) : Builtin.bitOr (a : Int) (b : Int) = ((a ||| b : Nat) : Int) := by
  rw [bitOr_nn (Int.natCast_nonneg _) (Int.natCast_nonneg _), Int.toNat_natCast, Int.toNat_natCast]
def γ_lleast : OL := fun ds S R => ∃ ks : List Nat, ds = [.lst (encK ks)] ∧ ks.length ≤ 256 ∧ R (.lst (encK (leastN ks))) S
def body_lleast : ST := sSeq (sAsg (eLstM (aNil)) (gNm 1))
  (sSeq (sFor (iSeq (eVar 0)) (gNm 2) (sIf (tNot' (tBl (eCall cAny (aCons (eLc (iSeq (eVar 0)) (gNm 3) (tYes') (eAnd (eBin oNe (eVar 3) (eVar 2)) (eBin oEq (eBin oAnd (eVar 3) (eVar 2)) (eVar 3))) [3]) (aNil))))) (sDrop (eMt mAppend (eVar 1) (aCons (eVar 2) (aNil)))) (sNext)))
  (sRet (eVar 1)))
theorem law_lleast : Law 4 γ_lleast body_lleast := by
  intro ds S R ⟨ks, e, hl, h⟩
  subst e
  unfold body_lleast
  refine seqK fun k hk => ?_
  simp_arith []
  refine ⟨by decide, fun p hp => ?_⟩
  rw [hk]
  refine seqK fun k hk => ?_
  simp_arith []
  refine for_all (fun x : Nat => D.int (x : Int)) (fun dn τ S' => S' = up S p (.lst (encK (dn.filter fun k => !(ks.any fun o => decide (o ≠ k) && subB o k)))) ∧ ∃ x2, τ = [some (.lst (encK ks)), some (.ref p), x2, none]) ks ⟨rfl, none, rfl⟩ (fun dn x todo τ S' K ea ⟨hS, x2, hτ⟩ hK => ?_) fun τ S' ⟨hS, x2, hτ⟩ => ?_
  · subst hS hτ
    have st := hK [some (.lst (encK ks)), some (.ref p), some (.int x), none] _ ⟨rfl, _, rfl⟩
    have ld : dn.length ≤ 256 := by rw [ea] at hl; simp at hl; omega
    have lf := List.length_filter_le (fun k => !(ks.any fun o => decide (o ≠ k) && subB o k)) dn
    rw [List.filter_append] at st
    simp_arith []
    refine lc_map (fun x : Nat => D.int (x : Int)) (fun o => .bl (decide (o ≠ x) && subB o x)) ks [] (fun o ho Q hQ => ?_) trivial (sz1000 (by rw [List.length_nil]; omega)) ?_
    · simp_arith [wipeD, pl_int, eqD_nat, land_nat]
      unfold subB at hQ
      by_cases z : o = x
      · rw [decide_eq_false (p := o ≠ x) (fun c => c z), Bool.false_and] at hQ
        simp_arith [z, decide_true]
        exact hQ
      · rw [decide_eq_true (p := o ≠ x) z, Bool.true_and] at hQ
        simp_arith [z, decide_false]
        exact hQ
    · have e1 : [] ++ ks.map (fun o => D.bl (decide (o ≠ x) && subB o x)) = (ks.map fun o => decide (o ≠ x) && subB o x).map .bl := by rw [List.map_map]; rfl
      have e2 : (ks.map fun o => decide (o ≠ x) && subB o x).any id = ks.any fun o => decide (o ≠ x) && subB o x := by rw [List.any_map]; rfl
      rw [e1]
      simp_arith [blsOf_map, e2]
      cases z : ks.any fun o => decide (o ≠ x) && subB o x with
      | true =>
        rw [List.filter_cons_of_neg (by rw [z]; decide), List.filter_nil, List.append_nil] at st
        simp_arith []
        exact st
      | false =>
        rw [List.filter_cons_of_pos (by rw [z]; rfl), List.filter_nil] at st
        simp_arith [rs_ref up_same, up_same, up_up]
        refine ⟨sz_lt (by rw [encK_len]; omega), ?_⟩
        rw [show encK (dn.filter fun k => !(ks.any fun o => decide (o ≠ k) && subB o k)) ++ [D.int (x : Int)] = encK ((dn.filter fun k => !(ks.any fun o => decide (o ≠ k) && subB o k)) ++ [x]) from encK_app _ [x]]
        exact st
  · subst hS hτ
    show k _ _
    rw [hk]
    simp_arith []
    exact fin_lst (S0 := S) (up_sub hp) hp up_same h
end Gx

namespace K28
open PySem L2 Gx
/-- _law_draw(well, few): slots 0 well 1 few 2 mixed 3 figure -/
def body__law_draw : ST := sSeq (sIf (tBl (eBin oGt (eBin oIx (eVar 0) (eC (.int 0))) (eC (.int 0)))) (sSeq (sAsg (eCall cDivmod (aCons (eBin oIx (eVar 0) (eC (.int 0))) (aCons (eVar 1) (aNil)))) (gTupl 2 (gsCons (gSubs (eVar 0) (eC (.int 0)) oSet) (gsCons (gNm 3) (gsNil)))))
  (sRet (eVar 3))) (sNext))
  (sSeq (sAsg (eBin oAdd (eBin oIx (eVar 0) (eC (.int 2))) (eC (.int 1))) (gSubs (eVar 0) (eC (.int 2)) oSet))
  (sSeq (sAsg (eBin oMod (eCall cInt (aCons (eBin oAdd (eBin oMul (eBin oIx (eVar 0) (eC (.int 1))) (eC (.int 48271))) (eBin oMul (eC (.int 15017)) (eBin oIx (eVar 0) (eC (.int 2))))) (aNil))) (eC (.int 2147483489))) (gNm 2))
  (sSeq (sAsg (eBin oMod (eCall cInt (aCons (eBin oAdd (eBin oMul (eVar 2) (eBin oAdd (eBin oMod (eCall cInt (aCons (eVar 2) (aNil))) (eC (.int 5003))) (eC (.int 20021)))) (eBin oIx (eVar 0) (eC (.int 2)))) (aNil))) (eC (.int 2147483489))) (gSubs (eVar 0) (eC (.int 1)) oSet))
  (sRet (eBin oMod (eCall cInt (aCons (eBin oFdiv (eBin oIx (eVar 0) (eC (.int 1))) (eC (.int 1009))) (aNil))) (eVar 1))))))
/-- _law_one(well, some): slots 0 well 1 some -/
def body__law_one (γ__law_draw : OL) : ST := sRet (eBin oIx (eVar 1) (eCall γ__law_draw (aCons (eVar 0) (aCons (eCall cLen (aCons (eVar 1) (aNil))) (aNil)))))
/-- _law_lean(top, base): slots 0 top 1 base 2 far 3 rest -/
def body__law_lean : ST := sSeq (sPar 2 3 (aCons (eCall cAbs (aCons (eVar 0) (aNil))) (aCons (eCall cAbs (aCons (eVar 1) (aNil))) (aNil))))
  (sSeq (sWh (tBl (eBin oGt (eVar 3) (eC (.int 0)))) (sPar 2 3 (aCons (eVar 3) (aCons (eBin oMod (eCall cInt (aCons (eVar 2) (aNil))) (eVar 3)) (aNil)))))
  (sSeq (sAsg (eIf (tBl (eBin oGt (eVar 1) (eC (.int 0)))) (eVar 2) (eBin oSub (eC (.int 0)) (eVar 2))) (gNm 2))
  (sRet (eTup (aCons (eBin oFdiv (eVar 0) (eVar 2)) (aCons (eBin oFdiv (eVar 1) (eVar 2)) (aNil)))))))
/-- _law_helping(well, few): slots 0 well 1 few 2 at 3 rows 4 marks 5 row 6 to 7 tie -/
def body__law_helping (γ__law_one γ__law_draw γ__law_lean : OL) : ST := sSeq (sPar 3 4 (aCons (eLstM (aNil)) (aCons (eLstM (aNil)) (aNil))))
  (sSeq (sFor (iRange1 (aCons (eVar 1) (aNil))) (gNm 2) (sSeq (sAsg (eLstM (aNil)) (gNm 5))
  (sSeq (sFor (iRange1 (aCons (eVar 1) (aNil))) (gNm 6) (sSeq (sAsg (eCall γ__law_one (aCons (eVar 0) (aCons (eTup (aCons (eTup (aCons (eC (.int 0)) (aCons (eC (.int 1)) (aNil)))) (aCons (eTup (aCons (eC (.int 0)) (aCons (eC (.int 1)) (aNil)))) (aCons (eTup (aCons (eC (.int 0)) (aCons (eC (.int 1)) (aNil)))) (aCons (eTup (aCons (eC (.int 1)) (aCons (eC (.int 1)) (aNil)))) (aCons (eTup (aCons (eC (.int 1)) (aCons (eC (.int 1)) (aNil)))) (aCons (eTup (aCons (eC (.int 1)) (aCons (eC (.int 2)) (aNil)))) (aCons (eTup (aCons (eC (.int 2)) (aCons (eC (.int 1)) (aNil)))) (aCons (eTup (aCons (eC (.int 1)) (aCons (eC (.int 3)) (aNil)))) (aCons (eTup (aCons (eC (.int 3)) (aCons (eC (.int 1)) (aNil)))) (aCons (eTup (aCons (eC (.int 1)) (aCons (eC (.int 1)) (aNil)))) (aNil)))))))))))) (aNil)))) (gNm 7))
  (sSeq (sIf (tBl (eBin oEq (eCall γ__law_draw (aCons (eVar 0) (aCons (eC (.int 16)) (aNil)))) (eC (.int 0)))) (sAsg (eCall γ__law_lean (aCons (eCall γ__law_draw (aCons (eVar 0) (aCons (eC (.int 1000001)) (aNil)))) (aCons (eBin oAdd (eC (.int 1)) (eCall γ__law_draw (aCons (eVar 0) (aCons (eC (.int 60)) (aNil))))) (aNil)))) (gNm 7)) (sNext))
  (sDrop (eMt mAppend (eVar 5) (aCons (eIf (tBl (eBin oNe (eVar 6) (eVar 2))) (eVar 7) (eTup (aCons (eC (.int 0)) (aCons (eC (.int 1)) (aNil))))) (aNil)))))))
  (sSeq (sDrop (eMt mAppend (eVar 3) (aCons (eCall cTuple (aCons (eVar 5) (aNil))) (aNil))))
  (sDrop (eMt mAppend (eVar 4) (aCons (eCall γ__law_one (aCons (eVar 0) (aCons (eTup (aCons (eTup (aCons (eC (.int 1)) (aCons (eC (.int 2)) (aNil)))) (aCons (eTup (aCons (eC (.int 1)) (aCons (eC (.int 2)) (aNil)))) (aCons (eTup (aCons (eC (.int 0)) (aCons (eC (.int 1)) (aNil)))) (aCons (eTup (aCons (eC (.int 1)) (aCons (eC (.int 1)) (aNil)))) (aCons (eTup (aCons (eC (.int 3)) (aCons (eC (.int 2)) (aNil)))) (aCons (eTup (aCons (eC (.int 2)) (aCons (eC (.int 1)) (aNil)))) (aCons (eTup (aCons (eUn oNeg (eC (.int 1))) (aCons (eC (.int 2)) (aNil)))) (aCons (eTup (aCons (eC (.int 5)) (aCons (eC (.int 2)) (aNil)))) (aCons (eTup (aCons (eC (.int 1)) (aCons (eC (.int 3)) (aNil)))) (aCons (eTup (aCons (eC (.int 1)) (aCons (eC (.int 1)) (aNil)))) (aNil)))))))))))) (aNil)))) (aNil))))))))
  (sRet (eTup (aCons (eCall cTuple (aCons (eVar 3) (aNil))) (aCons (eCall cTuple (aCons (eVar 4) (aNil))) (aNil))))))
/-- _law_state(few, number): slots 0 few 1 number 2 at -/
def body__law_state : ST := sRet (eCall cTuple (aCons (eLc (iRange1 (aCons (eVar 0) (aNil))) (gNm 2) (tYes') (eBin oAnd (eBin oShr (eVar 1) (eVar 2)) (eC (.int 1))) [2]) (aNil)))
/-- _law_below(x, y): slots 0 x 1 y -/
def body__law_below : ST := sRet (eBin oLt (eBin oMul (eBin oIx (eVar 0) (eC (.int 0))) (eBin oIx (eVar 1) (eC (.int 1)))) (eBin oMul (eBin oIx (eVar 1) (eC (.int 0))) (eBin oIx (eVar 0) (eC (.int 1)))))
/-- _law_plus(x, y): slots 0 x 1 y -/
def body__law_plus (γ__law_lean : OL) : ST := sRet (eCall γ__law_lean (aCons (eBin oAdd (eBin oMul (eBin oIx (eVar 0) (eC (.int 0))) (eBin oIx (eVar 1) (eC (.int 1)))) (eBin oMul (eBin oIx (eVar 1) (eC (.int 0))) (eBin oIx (eVar 0) (eC (.int 1))))) (aCons (eBin oMul (eBin oIx (eVar 0) (eC (.int 1))) (eBin oIx (eVar 1) (eC (.int 1)))) (aNil))))
/-- _law_heard(net, cell, state): slots 0 net 1 cell 2 state 3 found 4 part 5 bit -/
def body__law_heard (γ__law_plus : OL) : ST := sSeq (sAsg (eTup (aCons (eC (.int 0)) (aCons (eC (.int 1)) (aNil)))) (gNm 3))
  (sSeq (sFor (iZipG (aCons (eBin oIx (eBin oIx (eVar 0) (eC (.int 0))) (eVar 1)) (aCons (eVar 2) (aNil)))) (gTupl 2 (gsCons (gNm 4) (gsCons (gNm 5) (gsNil)))) (sAsg (eIf (tBl (eBin oEq (eVar 5) (eC (.int 1)))) (eCall γ__law_plus (aCons (eVar 3) (aCons (eVar 4) (aNil)))) (eVar 3)) (gNm 3)))
  (sRet (eVar 3)))
/-- _law_movers(net, state): slots 0 net 1 state 2 found 3 at -/
def body__law_movers (γ__law_below γ__law_heard : OL) : ST := sSeq (sAsg (eLstM (aNil)) (gNm 2))
  (sSeq (sFor (iRange1 (aCons (eCall cLen (aCons (eVar 1) (aNil))) (aNil))) (gNm 3) (sIf (tBl (eBin oNe (eCall γ__law_below (aCons (eBin oIx (eBin oIx (eVar 0) (eC (.int 1))) (eVar 3)) (aCons (eCall γ__law_heard (aCons (eVar 0) (aCons (eVar 3) (aCons (eVar 1) (aNil))))) (aNil)))) (eBin oEq (eBin oIx (eVar 1) (eVar 3)) (eC (.int 1))))) (sDrop (eMt mAppend (eVar 2) (aCons (eVar 3) (aNil)))) (sNext)))
  (sRet (eCall cTuple (aCons (eVar 2) (aNil)))))
/-- _law_is_stubborn(net, number): slots 0 net 1 number 2 few 3 state 4 at -/
def body__law_is_stubborn (γ__law_state γ__law_movers : OL) : ST := sSeq (sAsg (eCall cLen (aCons (eBin oIx (eVar 0) (eC (.int 1))) (aNil))) (gNm 2))
  (sSeq (sAsg (eCall γ__law_state (aCons (eVar 2) (aCons (eBin oSub (eBin oSub (eBin oShl (eC (.int 1)) (eVar 2)) (eC (.int 1))) (eVar 1)) (aNil)))) (gNm 3))
  (sRet (eCall cAll (aCons (eLc (iSeq (eCall γ__law_movers (aCons (eVar 0) (aCons (eVar 3) (aNil))))) (gNm 4) (tYes') (eBin oEq (eBin oIx (eVar 3) (eVar 4)) (eC (.int 1))) [4]) (aNil)))))
/-- _law_spread(net, number): slots 0 net 1 number 2 few 3 turn 4 state 5 some 6 at -/
def body__law_spread (γ__law_state γ__law_movers : OL) : ST := sSeq (sAsg (eCall cLen (aCons (eBin oIx (eVar 0) (eC (.int 1))) (aNil))) (gNm 2))
  (sSeq (sFor (iRange1 (aCons (eVar 2) (aNil))) (gNm 3) (sSeq (sAsg (eCall γ__law_state (aCons (eVar 2) (aCons (eVar 1) (aNil)))) (gNm 4))
  (sSeq (sAsg (eLc (iSeq (eCall γ__law_movers (aCons (eVar 0) (aCons (eVar 4) (aNil))))) (gNm 6) (tBl (eBin oEq (eBin oIx (eVar 4) (eVar 6)) (eC (.int 0)))) (eVar 6) [6]) (gNm 5))
  (sSeq (sIf (tBl (eBin oEq (eVar 5) (eLst (aNil)))) (sBreak) (sNext))
  (sAsg (eBin oAdd (eVar 1) (eBin oShl (eC (.int 1)) (eBin oIx (eVar 5) (eC (.int 0))))) (gNm 1))))))
  (sRet (eVar 1)))
/-- _law_lot(few, number): slots 0 few 1 number 2 at -/
def body__law_lot : ST := sRet (eCall cTuple (aCons (eLc (iRange1 (aCons (eVar 0) (aNil))) (gNm 2) (tBl (eBin oEq (eBin oAnd (eBin oShr (eVar 1) (eVar 2)) (eC (.int 1))) (eC (.int 1)))) (eVar 2) [2]) (aNil)))
/-- is_tuple_of(value, many): slots 0 value 1 many -/
def body_is_tuple_of : ST := sRet (eAnd (eCall cIsi (aCons (eVar 0) (aCons (eC (.ty "tuple")) (aNil)))) (eBin oEq (eCall cLen (aCons (eVar 0) (aNil))) (eVar 1)))
/-- is_whole(value): slots 0 value -/
def body_is_whole : ST := sRet (eAnd (eCall cIsi (aCons (eVar 0) (aCons (eC (.ty "int")) (aNil)))) (eNot (eCall cIsi (aCons (eVar 0) (aCons (eC (.ty "bool")) (aNil))))))
/-- is_ratio(value): slots 0 value -/
def body_is_ratio (γ_is_tuple_of γ_is_whole : OL) : ST := sSeq (sIf (tOr' (tNot' (tBl (eCall γ_is_tuple_of (aCons (eVar 0) (aCons (eC (.int 2)) (aNil)))))) (tOr' (tNot' (tBl (eCall γ_is_whole (aCons (eBin oIx (eVar 0) (eC (.int 0))) (aNil))))) (tNot' (tBl (eCall γ_is_whole (aCons (eBin oIx (eVar 0) (eC (.int 1))) (aNil))))))) (sRet (eC (.bl false))) (sNext))
  (sRet (eAnd (eBin oGt (eBin oIx (eVar 0) (eC (.int 1))) (eC (.int 0))) (eBin oEq (eCall cGcd (aCons (eBin oIx (eVar 0) (eC (.int 0))) (aCons (eBin oIx (eVar 0) (eC (.int 1))) (aNil)))) (eC (.int 1)))))
/-- is_row(value, many): slots 0 value 1 many 2 each -/
def body_is_row (γ_is_tuple_of γ_is_ratio : OL) : ST := sRet (eAnd (eCall γ_is_tuple_of (aCons (eVar 0) (aCons (eVar 1) (aNil)))) (eCall cAll (aCons (eLc (iSeq (eVar 0)) (gNm 2) (tYes') (eCall γ_is_ratio (aCons (eVar 2) (aNil))) [2]) (aNil))))
/-- is_net_by(value): slots 0 value 1 many 2 cell 3 row -/
def body_is_net_by (γ_is_tuple_of γ_is_row : OL) (d_MOST_CELLS d_ZERO : D) : ST := sSeq (sIf (tOr' (tNot' (tBl (eCall γ_is_tuple_of (aCons (eVar 0) (aCons (eC (.int 2)) (aNil)))))) (tOr' (tNot' (tBl (eCall cIsi (aCons (eBin oIx (eVar 0) (eC (.int 0))) (aCons (eC (.ty "tuple")) (aNil)))))) (tNot' (tBl (eChain oLe oLe (eC (.int 1)) (eCall cLen (aCons (eBin oIx (eVar 0) (eC (.int 0))) (aNil))) (eC d_MOST_CELLS)))))) (sRet (eC (.bl false))) (sNext))
  (sSeq (sAsg (eCall cLen (aCons (eBin oIx (eVar 0) (eC (.int 0))) (aNil))) (gNm 1))
  (sSeq (sIf (tOr' (tNot' (tBl (eCall cAll (aCons (eLc (iSeq (eBin oIx (eVar 0) (eC (.int 0)))) (gNm 3) (tYes') (eCall γ_is_row (aCons (eVar 3) (aCons (eVar 1) (aNil)))) [3]) (aNil))))) (tNot' (tBl (eCall γ_is_row (aCons (eBin oIx (eVar 0) (eC (.int 1))) (aCons (eVar 1) (aNil))))))) (sRet (eC (.bl false))) (sNext))
  (sRet (eCall cAll (aCons (eLc (iRange1 (aCons (eVar 1) (aNil))) (gNm 2) (tYes') (eBin oEq (eBin oIx (eBin oIx (eBin oIx (eVar 0) (eC (.int 0))) (eVar 2)) (eVar 2)) (eC d_ZERO)) [2]) (aNil))))))
/-- check_net(value): slots 0 value -/
def body_check_net (γ_is_net_by : OL) : ST := sIf (tNot' (tBl (eCall γ_is_net_by (aCons (eVar 0) (aNil))))) (sNever) (sNext)
/-- is_between(value, low, high): slots 0 value 1 low 2 high -/
def body_is_between (γ_is_whole : OL) : ST := sRet (eAnd (eCall γ_is_whole (aCons (eVar 0) (aNil))) (eChain oLe oLe (eVar 1) (eVar 0) (eVar 2)))
/-- many_cells(net): slots 0 net -/
def body_many_cells : ST := sRet (eCall cLen (aCons (eBin oIx (eVar 0) (eC (.int 1))) (aNil)))
/-- is_cell_by(net, value): slots 0 net 1 value -/
def body_is_cell_by (γ_is_between γ_many_cells : OL) : ST := sRet (eCall γ_is_between (aCons (eVar 1) (aCons (eC (.int 0)) (aCons (eBin oSub (eCall γ_many_cells (aCons (eVar 0) (aNil))) (eC (.int 1))) (aNil)))))
/-- wrong_in_lot(net, value, least): slots 0 net 1 value 2 least 3 index 4 each -/
def body_wrong_in_lot (γ_is_cell_by : OL) : ST := sSeq (sIf (tOr' (tNot' (tBl (eCall cIsi (aCons (eVar 1) (aCons (eC (.ty "tuple")) (aNil)))))) (tBl (eBin oLt (eCall cLen (aCons (eVar 1) (aNil))) (eVar 2)))) (sRet (eLst (aCons (eC .non) (aNil)))) (sNext))
  (sSeq (sFor (iEnumG (aCons (eVar 1) (aNil))) (gTupl 2 (gsCons (gNm 3) (gsCons (gNm 4) (gsNil)))) (sIf (tOr' (tNot' (tBl (eCall γ_is_cell_by (aCons (eVar 0) (aCons (eVar 4) (aNil)))))) (tAnd' (tBl (eBin oGt (eVar 3) (eC (.int 0)))) (tBl (eBin oGe (eBin oIx (eVar 1) (eBin oSub (eVar 3) (eC (.int 1)))) (eVar 4))))) (sRet (eLst (aCons (eVar 3) (aNil)))) (sNext)))
  (sRet (eLst (aNil))))
/-- is_helping_by(net): slots 0 net 1 row 2 each -/
def body_is_helping_by : ST := sRet (eCall cAll (aCons (eLc2 (iSeq (eBin oIx (eVar 0) (eC (.int 0)))) (gNm 1) (tYes') (iSeq (eVar 1)) (gNm 2) (tYes') (eBin oGe (eBin oIx (eVar 2) (eC (.int 0))) (eC (.int 0))) [1, 2] [2]) (aNil)))
/-- check_helping(net): slots 0 net -/
def body_check_helping (γ_is_helping_by : OL) : ST := sIf (tNot' (tBl (eCall γ_is_helping_by (aCons (eVar 0) (aNil))))) (sNever) (sNext)
/-- check_lot(net, value, least): slots 0 net 1 value 2 least 3 index -/
def body_check_lot (γ_check_net γ_wrong_in_lot γ_check_helping : OL) : ST := sSeq (sDrop (eCall γ_check_net (aCons (eVar 0) (aNil))))
  (sSeq (sFor (iSeq (eCall γ_wrong_in_lot (aCons (eVar 0) (aCons (eVar 1) (aCons (eVar 2) (aNil)))))) (gNm 3) (sNever))
  (sDrop (eCall γ_check_helping (aCons (eVar 0) (aNil)))))
/-- on_in(state): slots 0 state 1 cell 2 each -/
def body_on_in : ST := sRet (eCall cTuple (aCons (eLc (iEnumG (aCons (eVar 0) (aNil))) (gTupl 2 (gsCons (gNm 1) (gsCons (gNm 2) (gsNil)))) (tBl (eBin oEq (eVar 2) (eC (.int 1)))) (eVar 1) [1, 2]) (aNil)))
/-- grown_by(state, other): slots 0 state 1 other 2 here 3 there -/
def body_grown_by : ST := sRet (eCall cTuple (aCons (eLc (iZipG (aCons (eVar 0) (aCons (eVar 1) (aNil)))) (gTupl 2 (gsCons (gNm 2) (gsCons (gNm 3) (gsNil)))) (tYes') (eCall cMax2 (aCons (eVar 2) (aCons (eVar 3) (aNil)))) [2, 3]) (aNil)))
/-- is_less(one, two): slots 0 one 1 two -/
def body_is_less : ST := sRet (eBin oLt (eBin oMul (eBin oIx (eVar 0) (eC (.int 0))) (eBin oIx (eVar 1) (eC (.int 1)))) (eBin oMul (eBin oIx (eVar 1) (eC (.int 0))) (eBin oIx (eVar 0) (eC (.int 1)))))
/-- ratio(top, low): slots 0 top 1 low 2 part -/
def body_ratio : ST := sSeq (sAsg (eIf (tBl (eBin oGt (eVar 1) (eC (.int 0)))) (eCall cGcd (aCons (eVar 0) (aCons (eVar 1) (aNil)))) (eUn oNeg (eCall cGcd (aCons (eVar 0) (aCons (eVar 1) (aNil)))))) (gNm 2))
  (sRet (eTup (aCons (eBin oFdiv (eVar 0) (eVar 2)) (aCons (eBin oFdiv (eVar 1) (eVar 2)) (aNil)))))
/-- plus(one, two): slots 0 one 1 two -/
def body_plus (γ_ratio : OL) : ST := sRet (eCall γ_ratio (aCons (eBin oAdd (eBin oMul (eBin oIx (eVar 0) (eC (.int 0))) (eBin oIx (eVar 1) (eC (.int 1)))) (eBin oMul (eBin oIx (eVar 1) (eC (.int 0))) (eBin oIx (eVar 0) (eC (.int 1))))) (aCons (eBin oMul (eBin oIx (eVar 0) (eC (.int 1))) (eBin oIx (eVar 1) (eC (.int 1)))) (aNil))))
/-- total(fractions): slots 0 fractions 1 found 2 each -/
def body_total (γ_plus : OL) (d_ZERO : D) : ST := sSeq (sAsg (eC d_ZERO) (gNm 1))
  (sSeq (sFor (iSeq (eVar 0)) (gNm 2) (sAsg (eCall γ_plus (aCons (eVar 1) (aCons (eVar 2) (aNil)))) (gNm 1)))
  (sRet (eVar 1)))
/-- heard_by(net, cell, state): slots 0 net 1 cell 2 state 3 weight 4 each -/
def body_heard_by (γ_total : OL) : ST := sRet (eCall γ_total (aCons (eLc (iZipG (aCons (eBin oIx (eBin oIx (eVar 0) (eC (.int 0))) (eVar 1)) (aCons (eVar 2) (aNil)))) (gTupl 2 (gsCons (gNm 3) (gsCons (gNm 4) (gsNil)))) (tBl (eBin oEq (eVar 4) (eC (.int 1)))) (eVar 3) [3, 4]) (aNil)))
/-- wanted_by(net, state): slots 0 net 1 state 2 cell -/
def body_wanted_by (γ_many_cells γ_is_less γ_heard_by : OL) : ST := sRet (eCall cTuple (aCons (eLc (iRange1 (aCons (eCall γ_many_cells (aCons (eVar 0) (aNil))) (aNil))) (gNm 2) (tYes') (eIf (tBl (eCall γ_is_less (aCons (eBin oIx (eBin oIx (eVar 0) (eC (.int 1))) (eVar 2)) (aCons (eCall γ_heard_by (aCons (eVar 0) (aCons (eVar 2) (aCons (eVar 1) (aNil))))) (aNil))))) (eC (.int 1)) (eC (.int 0))) [2]) (aNil)))
/-- risen(net, state): slots 0 net 1 state 2 found -/
def body_risen (γ_grown_by γ_wanted_by : OL) : ST := sSeq (sAsg (eCall γ_grown_by (aCons (eVar 1) (aCons (eCall γ_wanted_by (aCons (eVar 0) (aCons (eVar 1) (aNil)))) (aNil)))) (gNm 2))
  (sSeq (sWh (tBl (eBin oNe (eVar 2) (eVar 1))) (sPar 1 2 (aCons (eVar 2) (aCons (eCall γ_grown_by (aCons (eVar 2) (aCons (eCall γ_wanted_by (aCons (eVar 0) (aCons (eVar 2) (aNil)))) (aNil)))) (aNil)))))
  (sRet (eVar 2)))
/-- lit_by(net, lot): slots 0 net 1 lot 2 cell -/
def body_lit_by (γ_many_cells : OL) : ST := sRet (eCall cTuple (aCons (eLc (iRange1 (aCons (eCall γ_many_cells (aCons (eVar 0) (aNil))) (aNil))) (gNm 2) (tYes') (eIf (tBl (eBin oIn (eVar 2) (eVar 1))) (eC (.int 1)) (eC (.int 0))) [2]) (aNil)))
/-- spread_by(net, seeds): slots 0 net 1 seeds -/
def body_spread_by (γ_on_in γ_risen γ_lit_by : OL) : ST := sRet (eCall γ_on_in (aCons (eCall γ_risen (aCons (eVar 0) (aCons (eCall γ_lit_by (aCons (eVar 0) (aCons (eVar 1) (aNil)))) (aNil)))) (aNil)))
/-- does_light_by(net, seeds): slots 0 net 1 seeds -/
def body_does_light_by (γ_spread_by γ_many_cells : OL) : ST := sRet (eBin oEq (eCall cLen (aCons (eCall γ_spread_by (aCons (eVar 0) (aCons (eVar 1) (aNil)))) (aNil))) (eCall γ_many_cells (aCons (eVar 0) (aNil))))
/-- does_light(net, seeds): slots 0 net 1 seeds -/
def body_does_light (γ_check_lot γ_does_light_by : OL) : ST := sSeq (sDrop (eCall γ_check_lot (aCons (eVar 0) (aCons (eVar 1) (aCons (eC (.int 0)) (aNil))))))
  (sRet (eCall γ_does_light_by (aCons (eVar 0) (aCons (eVar 1) (aNil)))))
/-- spread(net, seeds): slots 0 net 1 seeds -/
def body_spread (γ_check_lot γ_spread_by : OL) : ST := sSeq (sDrop (eCall γ_check_lot (aCons (eVar 0) (aCons (eVar 1) (aCons (eC (.int 0)) (aNil))))))
  (sRet (eCall γ_spread_by (aCons (eVar 0) (aCons (eVar 1) (aNil)))))
/-- cells_beyond(net, lot): slots 0 net 1 lot 2 cell -/
def body_cells_beyond (γ_many_cells : OL) : ST := sRet (eCall cTuple (aCons (eLc (iRange1 (aCons (eCall γ_many_cells (aCons (eVar 0) (aNil))) (aNil))) (gNm 2) (tBl (eBin oNin (eVar 2) (eVar 1))) (eVar 2) [2]) (aNil)))
/-- is_stubborn_by(net, lot): slots 0 net 1 lot 2 wanted 3 cell -/
def body_is_stubborn_by (γ_wanted_by γ_lit_by γ_cells_beyond : OL) : ST := sSeq (sAsg (eCall γ_wanted_by (aCons (eVar 0) (aCons (eCall γ_lit_by (aCons (eVar 0) (aCons (eCall γ_cells_beyond (aCons (eVar 0) (aCons (eVar 1) (aNil)))) (aNil)))) (aNil)))) (gNm 2))
  (sRet (eCall cAll (aCons (eLc (iSeq (eVar 1)) (gNm 3) (tYes') (eBin oEq (eBin oIx (eVar 2) (eVar 3)) (eC (.int 0))) [3]) (aNil))))
/-- is_stubborn(net, lot): slots 0 net 1 lot -/
def body_is_stubborn (γ_check_lot γ_is_stubborn_by : OL) : ST := sSeq (sDrop (eCall γ_check_lot (aCons (eVar 0) (aCons (eVar 1) (aCons (eC (.int 1)) (aNil))))))
  (sRet (eCall γ_is_stubborn_by (aCons (eVar 0) (aCons (eVar 1) (aNil)))))
/-- _law_lots_right(net, stubborn, lights): slots 0 net 1 stubborn 2 lights 3 few 4 number 5 meets 6 lot 7 does 8 each -/
def body__law_lots_right (γ__law_lot γ_does_light γ_spread γ_is_stubborn : OL) : ST := sSeq (sAsg (eCall cLen (aCons (eBin oIx (eVar 0) (eC (.int 1))) (aNil))) (gNm 3))
  (sSeq (sFor (iRange1 (aCons (eBin oShl (eC (.int 1)) (eVar 3)) (aNil))) (gNm 4) (sSeq (sPar 6 7 (aCons (eCall γ__law_lot (aCons (eVar 3) (aCons (eVar 4) (aNil)))) (aCons (eCall cRepr (aCons (eBin oIn (eVar 4) (eVar 2)) (aNil))) (aNil))))
  (sSeq (sAsg (eCall cAll (aCons (eLc (iSeq (eVar 1)) (gNm 8) (tYes') (eBin oNe (eBin oAnd (eVar 4) (eVar 8)) (eC (.int 0))) [8]) (aNil))) (gNm 5))
  (sSeq (sIf (tOr' (tBl (eBin oNeS (eCall cRepr (aCons (eCall γ_does_light (aCons (eVar 0) (aCons (eVar 6) (aNil)))) (aNil))) (eVar 7))) (tBl (eBin oNeS (eCall cRepr (aCons (eVar 5) (aNil))) (eVar 7)))) (sRet (eC (.bl false))) (sNext))
  (sSeq (sIf (tBl (eBin oNeS (eCall cRepr (aCons (eBin oEq (eCall cLen (aCons (eCallK γ_spread 0 2 [1, 0] aNil (aCons (eVar 6) (aCons (eVar 0) (aNil)))) (aNil))) (eVar 3)) (aNil))) (eVar 7))) (sRet (eC (.bl false))) (sNext))
  (sIf (tAnd' (tBl (eBin oGt (eVar 4) (eC (.int 0)))) (tBl (eBin oNeS (eCall cRepr (aCons (eCallK γ_is_stubborn 0 2 [1, 0] aNil (aCons (eVar 6) (aCons (eVar 0) (aNil)))) (aNil))) (eCall cRepr (aCons (eBin oIn (eVar 4) (eVar 1)) (aNil)))))) (sRet (eC (.bl false))) (sNext)))))))
  (sRet (eC (.bl true))))
/-- _law_least(numbers): slots 0 numbers 1 found 2 number 3 other -/
def body__law_least : ST := sSeq (sAsg (eLstM (aNil)) (gNm 1))
  (sSeq (sFor (iSeq (eVar 0)) (gNm 2) (sIf (tNot' (tBl (eCall cAny (aCons (eLc (iSeq (eVar 0)) (gNm 3) (tYes') (eAnd (eBin oNe (eVar 3) (eVar 2)) (eBin oEq (eBin oAnd (eVar 3) (eVar 2)) (eVar 3))) [3]) (aNil))))) (sDrop (eMt mAppend (eVar 1) (aCons (eVar 2) (aNil)))) (sNext)))
  (sRet (eVar 1)))
/-- check_helping_net(net): slots 0 net -/
def body_check_helping_net (γ_check_net γ_check_helping : OL) : ST := sSeq (sDrop (eCall γ_check_net (aCons (eVar 0) (aNil))))
  (sDrop (eCall γ_check_helping (aCons (eVar 0) (aNil))))
/-- is_within(lot, other): slots 0 lot 1 other 2 cell -/
def body_is_within : ST := sRet (eCall cAll (aCons (eLc (iSeq (eVar 0)) (gNm 2) (tYes') (eBin oIn (eVar 2) (eVar 1)) [2]) (aNil)))
/-- least_ones(lots): slots 0 lots 1 found 2 lot 3 other -/
def body_least_ones (γ_is_within : OL) : ST := sSeq (sAsg (eLstM (aNil)) (gNm 1))
  (sSeq (sFor (iSeq (eVar 0)) (gNm 2) (sIf (tNot' (tBl (eCall cAny (aCons (eLc (iSeq (eVar 1)) (gNm 3) (tYes') (eCall γ_is_within (aCons (eVar 3) (aCons (eVar 2) (aNil)))) [3]) (aNil))))) (sDrop (eMt mAppend (eVar 1) (aCons (eVar 2) (aNil)))) (sNext)))
  (sRet (eCall cTuple (aCons (eCall cSortedU (aCons (eVar 1) (aNil))) (aNil)))))
/-- lots_of_size(net, size): slots 0 net 1 size 2 found 3 cell 4 lot -/
def body_lots_of_size (γ_many_cells : OL) : ST := sSeq (sAsg (eLst (aCons (eTup (aNil)) (aNil))) (gNm 2))
  (sSeq (sFor (iRange1 (aCons (eCall γ_many_cells (aCons (eVar 0) (aNil))) (aNil))) (gNm 3) (sAsg (eBin oAdd (eVar 2) (eLc (iSeq (eVar 2)) (gNm 4) (tBl (eBin oLt (eCall cLen (aCons (eVar 4) (aNil))) (eVar 1))) (eTup (aStar (eVar 4) (aCons (eVar 3) (aNil)))) [4])) (gNm 2)))
  (sRet (eLc (iSeq (eVar 2)) (gNm 4) (tBl (eBin oEq (eCall cLen (aCons (eVar 4) (aNil))) (eVar 1))) (eVar 4) [4])))
/-- lots_in_size(net, least): slots 0 net 1 least 2 size 3 lot -/
def body_lots_in_size (γ_many_cells γ_lots_of_size : OL) : ST := sRet (eLc2 (iRange2 (aCons (eVar 1) (aCons (eBin oAdd (eCall γ_many_cells (aCons (eVar 0) (aNil))) (eC (.int 1))) (aNil)))) (gNm 2) (tYes') (iSeq (eCall γ_lots_of_size (aCons (eVar 0) (aCons (eVar 2) (aNil))))) (gNm 3) (tYes') (eVar 3) [2, 3] [3])
/-- stubborn_by(net): slots 0 net 1 lot -/
def body_stubborn_by (γ_least_ones γ_lots_in_size γ_is_stubborn_by : OL) : ST := sRet (eCall γ_least_ones (aCons (eLc (iSeq (eCall γ_lots_in_size (aCons (eVar 0) (aCons (eC (.int 1)) (aNil))))) (gNm 1) (tBl (eCall γ_is_stubborn_by (aCons (eVar 0) (aCons (eVar 1) (aNil))))) (eVar 1) [1]) (aNil)))
/-- stubborn_lots(net): slots 0 net -/
def body_stubborn_lots (γ_check_helping_net γ_stubborn_by : OL) : ST := sSeq (sDrop (eCall γ_check_helping_net (aCons (eVar 0) (aNil))))
  (sRet (eCall γ_stubborn_by (aCons (eVar 0) (aNil))))
/-- _law_told(few, numbers): slots 0 few 1 numbers 2 number -/
def body__law_told (γ__law_lot : OL) : ST := sRet (eCall cRepr (aCons (eCall cTuple (aCons (eCall cSortedU (aCons (eLc (iSeq (eVar 1)) (gNm 2) (tYes') (eCall γ__law_lot (aCons (eVar 0) (aCons (eVar 2) (aNil)))) [2]) (aNil))) (aNil))) (aNil)))
/-- least_seeds_by(net): slots 0 net 1 lot -/
def body_least_seeds_by (γ_least_ones γ_lots_in_size γ_does_light_by : OL) : ST := sRet (eCall γ_least_ones (aCons (eLc (iSeq (eCall γ_lots_in_size (aCons (eVar 0) (aCons (eC (.int 0)) (aNil))))) (gNm 1) (tBl (eCall γ_does_light_by (aCons (eVar 0) (aCons (eVar 1) (aNil))))) (eVar 1) [1]) (aNil)))
/-- least_seeds(net): slots 0 net -/
def body_least_seeds (γ_check_helping_net γ_least_seeds_by : OL) : ST := sSeq (sDrop (eCall γ_check_helping_net (aCons (eVar 0) (aNil))))
  (sRet (eCall γ_least_seeds_by (aCons (eVar 0) (aNil))))
/-- fewest_by(net): slots 0 net 1 found 2 least 3 lot -/
def body_fewest_by (γ_least_seeds_by : OL) : ST := sSeq (sAsg (eCall γ_least_seeds_by (aCons (eVar 0) (aNil))) (gNm 1))
  (sSeq (sAsg (eCall cMinL (aCons (eLc (iSeq (eVar 1)) (gNm 3) (tYes') (eCall cLen (aCons (eVar 3) (aNil))) [3]) (aNil))) (gNm 2))
  (sRet (eCall cTuple (aCons (eLc (iSeq (eVar 1)) (gNm 3) (tBl (eBin oEq (eCall cLen (aCons (eVar 3) (aNil))) (eVar 2))) (eVar 3) [3]) (aNil)))))
/-- fewest(net): slots 0 net -/
def body_fewest (γ_check_helping_net γ_fewest_by : OL) : ST := sSeq (sDrop (eCall γ_check_helping_net (aCons (eVar 0) (aNil))))
  (sRet (eCall γ_fewest_by (aCons (eVar 0) (aNil))))
/-- _law_right(well, is_first): slots 0 well 1 is_first 2 turn 3 few 4 net 5 every 6 stubborn 7 lights 8 bits 9 number 10 meets 11 size 12 some 13 both 14 least 15 seeds 16 each -/
def body__law_right (γ__law_one γ__law_helping γ__law_is_stubborn γ__law_spread γ__law_lots_right γ__law_lot γ_is_stubborn γ__law_least γ_stubborn_lots γ__law_told γ_least_seeds γ_fewest : OL) : ST := sSeq (sFor (iRange1 (aCons (eC (.int 2)) (aNil))) (gNm 2) (sSeq (sAsg (eCall γ__law_one (aCons (eVar 0) (aCons (eTup (aCons (eC (.int 1)) (aCons (eC (.int 2)) (aCons (eC (.int 3)) (aCons (eC (.int 3)) (aCons (eC (.int 3)) (aCons (eC (.int 4)) (aCons (eC (.int 4)) (aCons (eIf (tAnd' (tBl (eVar 1)) (tBl (eBin oEq (eVar 2) (eC (.int 0))))) (eC (.int 5)) (eC (.int 2))) (aNil)))))))))) (aNil)))) (gNm 3))
  (sSeq (sAsg (eCall γ__law_helping (aCons (eVar 0) (aCons (eVar 3) (aNil)))) (gNm 4))
  (sSeq (sAsg (eLstRg (eBin oShl (eC (.int 1)) (eVar 3))) (gNm 5))
  (sSeq (sAsg (eLc (iSeq (eVar 5)) (gNm 9) (tAnd' (tBl (eBin oGt (eVar 9) (eC (.int 0)))) (tBl (eCall γ__law_is_stubborn (aCons (eVar 4) (aCons (eVar 9) (aNil)))))) (eVar 9) [9]) (gNm 6))
  (sSeq (sAsg (eLc (iSeq (eVar 5)) (gNm 9) (tBl (eBin oEq (eCall γ__law_spread (aCons (eVar 4) (aCons (eVar 9) (aNil)))) (eBin oSub (eBin oShl (eC (.int 1)) (eVar 3)) (eC (.int 1))))) (eVar 9) [9]) (gNm 7))
  (sSeq (sIf (tNot' (tBl (eCall γ__law_lots_right (aCons (eVar 4) (aCons (eVar 6) (aCons (eVar 7) (aNil))))))) (sRet (eC (.bl false))) (sNext))
  (sSeq (sAsg (eBin oSub (eBin oSub (eBin oShl (eC (.int 1)) (eVar 3)) (eC (.int 1))) (eCall γ__law_spread (aCons (eVar 4) (aCons (eC (.int 0)) (aNil))))) (gNm 8))
  (sSeq (sFor (iSeq (eVar 6)) (gNm 9) (sSeq (sAsg (eCall γ__law_lot (aCons (eVar 3) (aCons (eBin oOr (eVar 9) (eCall γ__law_one (aCons (eVar 0) (aCons (eVar 6) (aNil))))) (aNil)))) (gNm 13))
  (sIf (tOr' (tBl (eBin oNeS (eCall cRepr (aCons (eCall γ_is_stubborn (aCons (eVar 4) (aCons (eVar 13) (aNil)))) (aNil))) (eCall cRepr (aCons (eC (.bl true)) (aNil))))) (tBl (eBin oNe (eBin oAnd (eVar 9) (eVar 8)) (eVar 9)))) (sRet (eC (.bl false))) (sNext))))
  (sSeq (sIf (tAnd' (tBl (eBin oGt (eVar 8) (eC (.int 0)))) (tBl (eBin oNeS (eCall cRepr (aCons (eCall γ_is_stubborn (aCons (eVar 4) (aCons (eCall γ__law_lot (aCons (eVar 3) (aCons (eVar 8) (aNil)))) (aNil)))) (aNil))) (eCall cRepr (aCons (eC (.bl true)) (aNil)))))) (sRet (eC (.bl false))) (sNext))
  (sSeq (sAsg (eTup (aCons (eCall γ__law_least (aCons (eVar 6) (aNil))) (aCons (eCall γ__law_least (aCons (eVar 7) (aNil))) (aNil)))) (gTupl 2 (gsCons (gNm 14) (gsCons (gNm 15) (gsNil)))))
  (sSeq (sAsg (eLc (iSeq (eVar 5)) (gNm 9) (tBl (eCall cAll (aCons (eLc (iSeq (eVar 14)) (gNm 16) (tYes') (eBin oNe (eBin oAnd (eVar 9) (eVar 16)) (eC (.int 0))) [16]) (aNil)))) (eVar 9) [9]) (gNm 10))
  (sSeq (sIf (tBl (eBin oNe (eCall cSortedI (aCons (eCall γ__law_least (aCons (eVar 10) (aNil))) (aNil))) (eCall cSortedI (aCons (eVar 15) (aNil))))) (sRet (eC (.bl false))) (sNext))
  (sSeq (sAsg (eCall cMinL (aCons (eLc (iSeq (eVar 15)) (gNm 9) (tYes') (eCall cLen (aCons (eCall γ__law_lot (aCons (eVar 3) (aCons (eVar 9) (aNil)))) (aNil))) [9]) (aNil))) (gNm 11))
  (sSeq (sAsg (eLc (iSeq (eVar 15)) (gNm 9) (tBl (eBin oEq (eCall cLen (aCons (eCall γ__law_lot (aCons (eVar 3) (aCons (eVar 9) (aNil)))) (aNil))) (eVar 11))) (eVar 9) [9]) (gNm 12))
  (sSeq (sIf (tOr' (tBl (eBin oNeS (eCall cRepr (aCons (eCall γ_stubborn_lots (aCons (eVar 4) (aNil))) (aNil))) (eCall γ__law_told (aCons (eVar 3) (aCons (eVar 14) (aNil)))))) (tBl (eBin oNeS (eCall cRepr (aCons (eCall γ_least_seeds (aCons (eVar 4) (aNil))) (aNil))) (eCall γ__law_told (aCons (eVar 3) (aCons (eVar 15) (aNil))))))) (sRet (eC (.bl false))) (sNext))
  (sSeq (sIf (tOr' (tBl (eBin oNeS (eCall cRepr (aCons (eCall γ_fewest (aCons (eVar 4) (aNil))) (aNil))) (eCall γ__law_told (aCons (eVar 3) (aCons (eVar 12) (aNil)))))) (tBl (eBin oNeS (eCall cRepr (aCons (eCallK γ_least_seeds 0 1 [0] aNil (aCons (eVar 4) (aNil))) (aNil))) (eCall γ__law_told (aCons (eVar 3) (aCons (eVar 15) (aNil))))))) (sRet (eC (.bl false))) (sNext))
  (sIf (tOr' (tBl (eBin oNeS (eCall cRepr (aCons (eCallK γ_fewest 0 1 [0] aNil (aCons (eVar 4) (aNil))) (aNil))) (eCall γ__law_told (aCons (eVar 3) (aCons (eVar 12) (aNil)))))) (tBl (eBin oNeS (eCall cRepr (aCons (eCallK γ_stubborn_lots 0 1 [0] aNil (aCons (eVar 4) (aNil))) (aNil))) (eCall γ__law_told (aCons (eVar 3) (aCons (eVar 14) (aNil))))))) (sRet (eC (.bl false))) (sNext)))))))))))))))))))
  (sRet (eC (.bl true)))
/-- _law_well(script, lap): slots 0 script 1 lap 2 mixed 3 cell 4 own -/
def body__law_well : ST := sSeq (sAsg (eBin oAdd (eC (.int 40093)) (eBin oMul (eC (.int 7919)) (eVar 1))) (gNm 2))
  (sSeq (sFor (iSeq (eSl (eVar 0) (pNone) (pSome (eC (.int 10))))) (gNm 3) (sAsg (eBin oMod (eCall cInt (aCons (eBin oAdd (eBin oAdd (eBin oMul (eVar 2) (eC (.int 52361))) (eBin oMul (eBin oMod (eCall cInt (aCons (eVar 3) (aNil))) (eC (.int 2147483489))) (eC (.int 7)))) (eC (.int 19))) (aNil))) (eC (.int 2147483489))) (gNm 2)))
  (sSeq (sAsg (eIf (tBl (eBin oLt (eVar 1) (eCall cLen (aCons (eVar 0) (aNil))))) (eCall cInt (aCons (eBin oIx (eVar 0) (eVar 1)) (aNil))) (eC (.int 0))) (gNm 4))
  (sSeq (sAsg (eBin oMod (eCall cInt (aCons (eBin oAdd (eBin oAdd (eBin oMul (eVar 2) (eC (.int 47))) (eBin oMul (eBin oMod (eCall cInt (aCons (eVar 4) (aNil))) (eC (.int 2147483489))) (eC (.int 30109)))) (eC (.int 5))) (aNil))) (eC (.int 2147483489))) (gNm 2))
  (sRet (eLstM (aCons (eIf (tOr' (tBl (eBin oLt (eVar 4) (eC (.int 0)))) (tBl (eBin oGe (eVar 4) (eBin oPow (eC (.int 10)) (eC (.int 14)))))) (eCall cAbs (aCons (eVar 4) (aNil))) (eC (.int 0))) (aCons (eVar 2) (aCons (eC (.int 0)) (aNil)))))))))
/-- law(script): slots 0 script 1 lap -/
def body_law (γ__law_right γ__law_well : OL) : ST := sRet (eCall cAll (aCons (eLc (iRange1 (aCons (eCall cMax2 (aCons (eC (.int 1)) (aCons (eCall cMin2 (aCons (eCall cLen (aCons (eVar 0) (aNil))) (aCons (eC (.int 3)) (aNil)))) (aNil)))) (aNil))) (gNm 1) (tYes') (eCall γ__law_right (aCons (eCall γ__law_well (aCons (eVar 0) (aCons (eVar 1) (aNil)))) (aCons (eBin oEq (eVar 1) (eC (.int 0))) (aNil)))) [1]) (aNil)))
end K28

--W2
/-! k28: seeds and stubborn lots. -/
namespace K28
open PySem L2 Gx
local macro_rules | `(tactic| simp_arith [$xs,*]) => `(tactic| try simp only [eVar, eC, eBin, eUn, tBl, tAnd', tOr', tNot', eAnd, eOr, eNot, eIf, aNil, aCons, eTup, eLst, eLstM, eCall, eCallK, pick, sNext, sSeq, sBreak, sCont, sDrop, sRet, sRetN, sIf, sNever, gNm, gsNil, gsCons, gTupl, gSubs, sAsg, sPar, sPar3, sFor, iSeq, seqG_tup, seqG_lst, seqG_scr, iRange1, iRange2, iEnumG, iZipG, td_tup, td_lst, td_scr, eLc, eLcM, tYes', pNone, pSome, eSl, cu_tup, cu_lst, cu_scr, eMt, eMt0, mAppend, isL, rs_non, rs_bl, rs_int, rs_str, rs_tup, rs_lst', rs_scr, itemsOf_tup, itemsOf_lst, itemsOf_scr, oI, oI0, oSub, oFdiv, oMod, oPow, oShl, oShr, oAnd, oOr, oXor, oLt, oLe, oGt, oGe, oNeg, oIsN, oNotN, Gx.isNon, oAdd, oAdd', oMul, oMul', oMulM, oEq, oNe, oEqS, oNeS, oIn, oNin, eChain, oIx, oSet, cLen, cList, cListM, cTuple, cSum, cAll, cAny, cInt, cAbs, cMax2, cMin2, cDivmod, cGcd, cIsi, cRepr, lstInts, lstBls, startD, wipeD, List.map_cons, List.map_nil, List.length_cons, List.length_nil, List.cons_append, List.nil_append, List.replicate_succ, List.replicate_zero, List.set_cons_succ, List.set_cons_zero, List.getElem?_cons_succ, List.getElem?_cons_zero, List.filterMap_cons_some, List.filterMap_nil, Nat.reduceAdd, Nat.reduceSub, Nat.sub_self, Nat.reduceLT, Nat.reduceMul, Nat.zero_add, Nat.add_zero, if_true, if_false, and_true, true_and, and_false, false_and, or_true, true_or, or_false, false_or, not_true_eq_false, not_false_eq_true, Bool.not_true, Bool.not_false, Bool.false_eq_true, ite_true, ite_false, reduceIte, reduceCtorEq, eq_self, aStar, eLstRg, eDicT0, eDixT, gSubsT, keysOf, cListT, cSortedP, oSubB, oMulT, iZip2G, eDic0, eDic1, oDix, oDin, oDnin, oDset, iKeysG, cSortedE, cListD, Gx.keyOf, cMaxL, cMinL, cSortedI, mIndex, eSortSet, eLenT, $xs,*])
local macro_rules | `(tactic| simp_arith! [$xs,*]) => `(tactic| try simp only [eVar, eC, eBin, eUn, tBl, tAnd', tOr', tNot', eAnd, eOr, eNot, eIf, aNil, aCons, eTup, eLst, eLstM, eCall, eCallK, pick, sNext, sSeq, sBreak, sCont, sDrop, sRet, sRetN, sIf, sNever, gNm, gsNil, gsCons, gTupl, gSubs, sAsg, sPar, sPar3, sFor, iSeq, seqG_tup, seqG_lst, seqG_scr, iRange1, iRange2, iEnumG, iZipG, td_tup, td_lst, td_scr, eLc, eLcM, tYes', pNone, pSome, eSl, cu_tup, cu_lst, cu_scr, eMt, eMt0, mAppend, isL, rs_non, rs_bl, rs_int, rs_str, rs_tup, rs_lst', rs_scr, itemsOf_tup, itemsOf_lst, itemsOf_scr, oI, oI0, oSub, oFdiv, oMod, oPow, oShl, oShr, oAnd, oOr, oXor, oLt, oLe, oGt, oGe, oNeg, oIsN, oNotN, Gx.isNon, oAdd, oAdd', oMul, oMul', oMulM, oEq, oNe, oEqS, oNeS, oIn, oNin, eChain, oIx, oSet, cLen, cList, cListM, cTuple, cSum, cAll, cAny, cInt, cAbs, cMax2, cMin2, cDivmod, cGcd, cIsi, cRepr, lstInts, lstBls, startD, wipeD, List.map_cons, List.map_nil, List.length_cons, List.length_nil, List.cons_append, List.nil_append, List.replicate_succ, List.replicate_zero, List.set_cons_succ, List.set_cons_zero, List.getElem?_cons_succ, List.getElem?_cons_zero, List.filterMap_cons_some, List.filterMap_nil, Nat.reduceAdd, Nat.reduceSub, Nat.sub_self, Nat.reduceLT, Nat.reduceMul, Nat.zero_add, Nat.add_zero, if_true, if_false, and_true, true_and, and_false, false_and, or_true, true_or, or_false, false_or, not_true_eq_false, not_false_eq_true, Bool.not_true, Bool.not_false, Bool.false_eq_true, ite_true, ite_false, reduceIte, reduceCtorEq, eq_self, aStar, eLstRg, eDicT0, eDixT, gSubsT, keysOf, cListT, cSortedP, oSubB, oMulT, iZip2G, eDic0, eDic1, oDix, oDin, oDnin, oDset, iKeysG, cSortedE, cListD, Gx.keyOf, cMaxL, cMinL, cSortedI, mIndex, eSortSet, eLenT, rs_N, rs_W, rs_Row, rs_S, rs_R, rs_B, it_N, it_W, it_Row, it_S, it_R, sq_W, sq_Row, sq_S, td_N, td_W, td_Row, td_S, rs_I, it_I, sq_I, td_I, rs_Ss, it_Ss, sq_Ss, td_Ss, cu_S, cu_W, cu_Row, atI_0, atI_1, $xs,*])
theorem rpb (b : Bool) : rpOk (.bl b) := RP.rp (k := 0) (n := 0) rp_bl
theorem told_rp {n : Nat} (h5 : n ≤ 5) {ks : List Nat} (nd : ks.Nodup) (lt : ∀ k ∈ ks, k < 2 ^ n) {mss : List (List Int)} (h : Told n ks mss) : rpOk (.tup (mss.map tupN)) := by
  have l : mss.length ≤ 32 := by
    have := sub_len (m := List.range (2 ^ n)) nd fun x hx => List.mem_range.mpr (lt x hx)
    rw [List.length_range] at this
    have p5 : 2 ^ n ≤ 32 := Nat.pow_le_pow_right (by decide) h5
    have e := h.1.length_eq
    rw [List.length_map] at e
    omega
  have r1 : RPs 1 ((8 + 1) * mss.length) (mss.map tupN) := RPs.map fun ns hn => by
    obtain ⟨k, _, rfl⟩ := List.mem_map.mp (h.1.subset hn)
    rw [← encL_tup]
    have := rp_I (m := lotOf n k) fun i hi => by have := (mem_lotOf.mp hi).1; omega
    exact ⟨this.pl, this.ok, Nat.le_trans this.sz (by rw [lotOf_len]; exact Nat.le_trans (pop_le _ _) (by omega))⟩
  exact RP.rp (k := 2) (n := 400) ⟨r1.tup.pl, r1.tup.ok, Nat.le_trans r1.tup.sz (by omega)⟩ (by decide) (by decide)
def γ_told : OL := fun ds S R => ∃ (n : Nat) (ks : List Nat), ds = [.int n, .lst (encK ks)] ∧ (n ≤ 5 ∧ ks.Nodup ∧ (∀ k ∈ ks, k < 2 ^ n) ∧ (0 ∈ ks → ks.length ≤ 1)) ∧ ∀ mss, Told n ks mss → R (.str (reprD (.tup (mss.map tupN)))) S
theorem law_told : Law 3 γ_told (body__law_told γ_llot) := by
  intro ds S R ⟨n, ks, e, ⟨h5, nd, lt, z0⟩, h⟩
  subst e
  obtain ⟨a1, a2⟩ := sort_asks h5 nd lt z0
  unfold body__law_told
  simp_arith []
  refine lc_map (fun k : Nat => D.int (k : Int)) (fun k => tupN (lotI n k)) ks [] (fun k hk Q hQ => ?_) trivial (sz1000 (by rw [List.length_map] at a1; rw [List.length_nil]; omega)) ?_
  · unfold γ_llot
    simp_arith [wipeD]
    refine ⟨n, k, rfl, by omega, ?_⟩
    rw [encL_tup]
    exact hQ
  · have e1 : [] ++ ks.map (fun k => tupN (lotI n k)) = (ks.map (lotI n)).map tupN := by rw [List.map_map]; rfl
    rw [e1]
    refine ⟨ks.map (lotI n), rfl, a1, a2, fun mss pp pw => ?_⟩
    have q := fin_of (h mss ⟨pp, pw⟩)
    simp_arith []
    exact ⟨told_rp h5 nd lt ⟨pp, pw⟩, q⟩
def γ_lr : OL := fun ds S R => ∃ N : Net, ds = [encN N, .lst (encK (stubs N)), .lst (encK (seeds N))] ∧ NHs N ∧ R (.bl true) S
theorem law_lr : Law 9 γ_lr (body__law_lots_right γ_llot γ_light γ_spread γ_isStub) := by
  intro ds S R ⟨N, e, nh, h⟩
  subst e
  obtain ⟨ok, sm, hp, h5⟩ := nh
  have q := fin_of h
  have p5 : 2 ^ N.n ≤ 32 := Nat.pow_le_pow_right (by decide) h5
  have pp := Nat.two_pow_pos N.n
  have hn : N.ms.length = N.n := rfl
  have sl : (stubs N).length ≤ 32 := by
    have := List.length_filter_le (fun k => decide (0 < k) && stub N k) (List.range (2 ^ N.n))
    rw [List.length_range] at this
    exact Nat.le_trans this p5
  unfold body__law_lots_right
  refine seqK fun k0 hk0 => ?_
  simp_arith! [List.length_map, hn]
  rw [hk0]
  refine seqK fun k0 hk0 => ?_
  simp_arith [shl_one]
  refine ⟨⟨by omega, by omega, by decide⟩, ⟨by omega, by omega⟩, ?_⟩
  rw [Int.toNat_natCast]
  refine for_rng (fun k τ S' => S' = S ∧ ∃ x4 x5 x6 x7, τ = [some (encN N), some (.lst (encK (stubs N))), some (.lst (encK (seeds N))), some (.int N.n), x4, x5, x6, x7, none]) ⟨rfl, none, none, none, none, rfl⟩ (fun k τ S' K hk ⟨hS, x4, x5, x6, x7, hτ⟩ hK => ?_) fun τ S' ⟨hS, x4, x5, x6, x7, hτ⟩ => ?_
  · subst hτ
    rw [hS]
    have ll : (lotOf N.n k).length ≤ 8 := by rw [lotOf_len]; exact Nat.le_trans (pop_le _ _) (by omega)
    have im : decide (k ∈ seeds N) = lights N k := by
      cases z : lights N k with
      | true => exact decide_eq_true (seeds_mem.mpr ⟨hk, z⟩)
      | false => exact decide_eq_false fun c => by rw [(seeds_mem.mp c).2] at z; cases z
    have me : (stubs N).all (fun j => decide (k &&& j ≠ 0)) = lights N k := by
      rw [Bool.eq_iff_iff, List.all_eq_true, lights_meet ok hp hk]
      constructor
      · intro h j hj j0 sj
        exact of_decide_eq_true (h j (stubs_mem.mpr ⟨hj, j0, sj⟩))
      · intro h j hj
        obtain ⟨a, b, c⟩ := stubs_mem.mp hj
        exact decide_eq_true (h j a b c)
    have is : 0 < k → decide (k ∈ stubs N) = stub N k := fun k0 => by
      cases z : stub N k with
      | true => exact decide_eq_true (stubs_mem.mpr ⟨hk, k0, z⟩)
      | false => exact decide_eq_false fun c => by rw [(stubs_mem.mp c).2.2] at z; cases z
    simp only [gNm, List.set_cons_succ, List.set_cons_zero]
    refine seqK fun k1 hk1 => ?_
    unfold γ_llot
    simp_arith [pl_K, pl_int, inD_K, im]
    refine ⟨N.n, k, rfl, by omega, rpb _, ?_⟩
    rw [hk1]
    refine seqK fun k2 hk2 => ?_
    simp_arith []
    refine lc_map (fun j : Nat => D.int (j : Int)) (fun j => .bl (decide (k &&& j ≠ 0))) (stubs N) [] (fun j hj Q hQ => ?_) trivial (sz1000 (by rw [List.length_nil]; omega)) ?_
    · have en : (!decide (((k &&& j : Nat) : Int) = 0)) = decide (k &&& j ≠ 0) := by
        by_cases z : k &&& j = 0
        · rw [z]; rfl
        · rw [decide_eq_true z, decide_eq_false (by omega)]; rfl
      simp_arith [wipeD, land_nat, pl_int, eqD_int, en]
      exact hQ
    · have e1 : [] ++ (stubs N).map (fun j => D.bl (decide (k &&& j ≠ 0))) = ((stubs N).map fun j => decide (k &&& j ≠ 0)).map .bl := by rw [List.map_map]; rfl
      have e2 : ((stubs N).map fun j => decide (k &&& j ≠ 0)).all id = lights N k := by rw [List.all_map, ← me]; rfl
      rw [e1]
      simp_arith [blsOf_map, e2]
      rw [hk2]
      refine seqK fun k3 hk3 => ?_
      unfold γ_light
      simp_arith []
      refine ⟨N, _, rfl, ⟨ok, sm, hp, lotOf_lot _ _, by omega⟩, ?_⟩
      rw [sprd_lights]
      simp_arith [decide_true]
      refine ⟨rpb _, rpb _, ?_⟩
      rw [hk3]
      refine seqK fun k4 hk4 => ?_
      unfold γ_spread
      simp_arith []
      refine ⟨N, _, rfl, ⟨ok, sm, hp, lotOf_lot _ _, by omega⟩, ?_⟩
      unfold encI
      simp_arith [List.length_map, pl_int, eqD_nat, sprd_lights, decide_true]
      refine ⟨rpb _, ?_⟩
      rw [hk4]
      by_cases z : (0 : Int) < (k : Int)
      · unfold γ_isStub
        simp_arith [z, decide_true]
        refine ⟨N, k, rfl, ⟨⟨ok, sm, hp, h5⟩, hk, by omega⟩, ?_⟩
        simp_arith [pl_K, pl_int, inD_K, is (by omega), decide_true]
        exact ⟨rpb _, rpb _, hK _ _ ⟨rfl, _, _, _, _, rfl⟩⟩
      · simp_arith [z, decide_false]
        exact hK _ _ ⟨rfl, _, _, _, _, rfl⟩
  · subst hτ
    rw [hS]
    show k0 _ _
    rw [hk0]
    simp_arith []
    exact q
end K28

--W2
namespace K28
open PySem L2 Gx
local macro_rules | `(tactic| simp_arith [$xs,*]) => `(tactic| try simp only [eVar, eC, eBin, eUn, tBl, tAnd', tOr', tNot', eAnd, eOr, eNot, eIf, aNil, aCons, eTup, eLst, eLstM, eCall, eCallK, pick, sNext, sSeq, sBreak, sCont, sDrop, sRet, sRetN, sIf, sNever, gNm, gsNil, gsCons, gTupl, gSubs, sAsg, sPar, sPar3, sFor, iSeq, seqG_tup, seqG_lst, seqG_scr, iRange1, iRange2, iEnumG, iZipG, td_tup, td_lst, td_scr, eLc, eLcM, tYes', pNone, pSome, eSl, cu_tup, cu_lst, cu_scr, eMt, eMt0, mAppend, isL, rs_non, rs_bl, rs_int, rs_str, rs_tup, rs_lst', rs_scr, itemsOf_tup, itemsOf_lst, itemsOf_scr, oI, oI0, oSub, oFdiv, oMod, oPow, oShl, oShr, oAnd, oOr, oXor, oLt, oLe, oGt, oGe, oNeg, oIsN, oNotN, Gx.isNon, oAdd, oAdd', oMul, oMul', oMulM, oEq, oNe, oEqS, oNeS, oIn, oNin, eChain, oIx, oSet, cLen, cList, cListM, cTuple, cSum, cAll, cAny, cInt, cAbs, cMax2, cMin2, cDivmod, cGcd, cIsi, cRepr, lstInts, lstBls, startD, wipeD, List.map_cons, List.map_nil, List.length_cons, List.length_nil, List.cons_append, List.nil_append, List.replicate_succ, List.replicate_zero, List.set_cons_succ, List.set_cons_zero, List.getElem?_cons_succ, List.getElem?_cons_zero, List.filterMap_cons_some, List.filterMap_nil, Nat.reduceAdd, Nat.reduceSub, Nat.sub_self, Nat.reduceLT, Nat.reduceMul, Nat.zero_add, Nat.add_zero, if_true, if_false, and_true, true_and, and_false, false_and, or_true, true_or, or_false, false_or, not_true_eq_false, not_false_eq_true, Bool.not_true, Bool.not_false, Bool.false_eq_true, ite_true, ite_false, reduceIte, reduceCtorEq, eq_self, aStar, eLstRg, eDicT0, eDixT, gSubsT, keysOf, cListT, cSortedP, oSubB, oMulT, iZip2G, eDic0, eDic1, oDix, oDin, oDnin, oDset, iKeysG, cSortedE, cListD, Gx.keyOf, cMaxL, cMinL, cSortedI, mIndex, eSortSet, eLenT, $xs,*])
theorem help_sm {N : Net} (d : Drn PH (Bd 3 2) N) : Sm N := ⟨fun r hr q hq => (d.w r hr q hq).1.mono (Nat.le_trans (m := 2 ^ 20) (by decide) (pow2_le (by decide))) (by decide), fun q hq => (d.m q hq).mono (Nat.le_trans (m := 2 ^ 2) (by decide) (pow2_le (by decide))) (by decide)⟩
theorem sortI_one : ∀ {a b : List Int}, a.Perm b → a.Pairwise (· ≤ ·) → b.Pairwise (· ≤ ·) → a = b
  | [], b, p, _, _ => p.nil_eq
  | x :: a, [], p, _, _ => absurd p.length_eq (by simp)
  | x :: a, y :: b, p, h1, h2 => by
    rw [List.pairwise_cons] at h1 h2
    have xy : x ≤ y := by
      rcases List.mem_cons.mp (p.mem_iff.mpr List.mem_cons_self : y ∈ x :: a) with e | m
      · rw [e]; exact Int.le_refl _
      · exact h1.1 y m
    have yx : y ≤ x := by
      rcases List.mem_cons.mp (p.mem_iff.mp List.mem_cons_self : x ∈ y :: b) with e | m
      · rw [e]; exact Int.le_refl _
      · exact h2.1 x m
    have e := Int.le_antisymm xy yx
    subst e
    rw [sortI_one (List.Perm.cons_inv p) h1.2 h2.2]
theorem intsOf_K (l : List Nat) : intsOf (encK l) = some (l.map fun k : Nat => (k : Int)) := by
  have e : encK l = (l.map fun k : Nat => (k : Int)).map .int := by unfold encK; rw [List.map_map]; rfl
  rw [e]
  exact intsOf_map _
theorem eqD_KI (l : List Int) : (∀ k ∈ l, 0 ≤ k) → eqD (.lst (l.map .int)) (.lst (l.map .int)) = true := fun h => by
  obtain ⟨ks, rfl⟩ := nats_of h
  have := eqD_KK ks ks
  rw [decide_eq_true rfl] at this
  rw [List.map_map]
  exact this
theorem pl_KI (l : List Int) : (∀ k ∈ l, 0 ≤ k) → pl 60 (.lst (l.map .int)) = true := fun h => by
  obtain ⟨ks, rfl⟩ := nats_of h
  rw [List.map_map]
  exact pl_K ks
theorem law_right : Law 17 γ_lap2 (body__law_right γ_one γ_help γ_lstub γ_lspread γ_lr γ_llot γ_isStub γ_lleast γ_stubLots γ_told γ_leastSeeds γ_fewest2) := by
  intro ds S R ⟨p, b, e, hw, h⟩
  subst e
  unfold body__law_right
  refine seqK fun k hk => ?_
  simp_arith []
  refine ⟨⟨by decide, by decide⟩, ?_⟩
  refine for_rng (n := 2) (fun t τ S' => Drw p S S' ∧ ∃ x2 x3 x4 x5 x6 x7 x8 x9 x10 x11 x12 x13 x14 x15, τ = [some (.ref p), some (.bl b), x2, x3, x4, x5, x6, x7, x8, x9, x10, x11, x12, x13, x14, x15, none]) ⟨.refl hw, none, none, none, none, none, none, none, none, none, none, none, none, none, none, rfl⟩ (fun t τ S' K ht ⟨d, x2, x3, x4, x5, x6, x7, x8, x9, x10, x11, x12, x13, x14, x15, hτ⟩ hK => ?_) fun τ S' ⟨d, x2, x3, x4, x5, x6, x7, x8, x9, x10, x11, x12, x13, x14, x15, hτ⟩ => ?_
  · subst hτ
    simp only [gNm, List.set_cons_succ, List.set_cons_zero]
    refine seqK fun k1 hk1 => ?_
    have go : ∀ (n : Nat) (S1 : Sto), 1 ≤ n → n ≤ 5 → Drw p S' S1 → k1 [some (.ref p), some (.bl b), some (.int t), some (.int n), x4, x5, x6, x7, x8, x9, x10, x11, x12, x13, x14, x15, none] S1 := fun n S1 n1 n5 d1 => by
      rw [hk1]
      refine seqK fun k2 hk2 => ?_
      unfold γ_help
      simp_arith []
      refine ⟨p, n, rfl, d1.well, ⟨n1, by omega⟩, fun N S2 ok hn dr d2 => ?_⟩
      subst hn
      have hp := helping_of dr
      have sm := help_sm dr
      have nh : NHs N := ⟨ok, sm, hp, n5⟩
      have p5 : 2 ^ N.n ≤ 32 := Nat.pow_le_pow_right (by decide) n5
      have pp := Nat.two_pow_pos N.n
      have sl : (stubs N).length ≤ 32 := by
        have := List.length_filter_le (fun k => decide (0 < k) && stub N k) (List.range (2 ^ N.n))
        rw [List.length_range] at this
        exact Nat.le_trans this p5
      have el : (seeds N).length ≤ 32 := by
        have := List.length_filter_le (fun k => lights N k) (List.range (2 ^ N.n))
        rw [List.length_range] at this
        exact Nat.le_trans this p5
      have fl : ∀ l : List Nat, (leastN l).length ≤ l.length := fun l => List.length_filter_le _ l
      have sl2 := fl (stubs N)
      have el2 := fl (seeds N)
      rw [hk2]
      refine seqK fun k3 hk3 => ?_
      have etn : (((2 ^ N.n : Nat) : Int)).toNat = 2 ^ N.n := Int.toNat_natCast _
      have ek : ∀ m : List Nat, m.map (fun i : Nat => D.int (i : Int)) = encK m := fun _ => rfl
      simp_arith [shl_one]
      rw [etn, ek]
      refine ⟨⟨by omega, by omega, by decide⟩, ⟨by omega, by omega⟩, ?_⟩
      rw [hk3]
      refine seqK fun k4 hk4 => ?_
      unfold γ_lstub
      simp_arith []
      refine lc_filter (fun k : Nat => D.int (k : Int)) (fun k => decide (0 < k) && stub N k) (fun k : Nat => D.int (k : Int)) (List.range (2 ^ N.n)) [] (fun k hk Y M hy hM => ?_) trivial (sz1000 (by rw [List.length_nil, List.length_range]; omega)) ?_
      · have hk := List.mem_range.mp hk
        by_cases z : (0 : Int) < (k : Int)
        · rw [decide_eq_true (show 0 < k by omega), Bool.true_and] at hy hM
          simp_arith [wipeD, z, decide_true]
          exact ⟨N, k, rfl, ⟨ok, sm, hk⟩, ite_go (fun z => hy z) fun z => hM (by simpa using z)⟩
        · rw [decide_eq_false (show ¬ 0 < k by omega), Bool.false_and] at hM
          simp_arith [wipeD, z, decide_false]
          exact hM rfl
      · rw [List.nil_append, ek]
        rw [show (List.range (2 ^ N.n)).filter (fun k => decide (0 < k) && stub N k) = stubs N from rfl, hk4]
        refine seqK fun k5 hk5 => ?_
        unfold γ_lspread
        simp_arith []
        refine lc_filter (fun k : Nat => D.int (k : Int)) (fun k => lights N k) (fun k : Nat => D.int (k : Int)) (List.range (2 ^ N.n)) [] (fun k hk Y M hy hM => ?_) trivial (sz1000 (by rw [List.length_nil, List.length_range]; omega)) ?_
        · have hk := List.mem_range.mp hk
          have ed : decide ((spr N k : Int) = ((2 ^ N.n : Nat) : Int) - 1) = lights N k := by unfold lights; exact decide_eq_decide.mpr (by omega)
          simp_arith [wipeD]
          refine ⟨N, k, rfl, ⟨ok, sm, hp, hk⟩, ?_⟩
          simp_arith [shl_one, pl_int, eqD_int, ed]
          exact ⟨⟨by omega, by omega, by decide⟩, ite_go (fun z => hy z) fun z => hM (by simpa using z)⟩
        · rw [List.nil_append, ek]
          rw [show (List.range (2 ^ N.n)).filter (fun k => lights N k) = seeds N from rfl, hk5]
          refine seqK fun k6 hk6 => ?_
          unfold γ_lr
          simp_arith []
          refine ⟨N, rfl, nh, ?_⟩
          simp_arith []
          rw [hk6]
          refine seqK fun k7 hk7 => ?_
          simp_arith [shl_one]
          refine ⟨⟨by omega, by omega, by decide⟩, N, 0, rfl, ⟨ok, sm, hp, pp⟩, ?_⟩
          have lt0 := spr_lt N 0
          have eb : ((2 ^ N.n : Nat) : Int) - 1 - (spr N 0 : Int) = ((2 ^ N.n - 1 - spr N 0 : Nat) : Int) := by omega
          simp_arith []
          rw [eb]
          have hb : 2 ^ N.n - 1 - spr N 0 < 2 ^ N.n := by omega
          have sb := stub_bits ok hp
          have sin := fun {k} => stub_in ok hp (k := k)
          generalize 2 ^ N.n - 1 - spr N 0 = bits at hb sb sin ⊢
          rw [hk7]
          refine seqK fun k8 hk8 => ?_
          simp_arith []
          refine for_all (fun k : Nat => D.int (k : Int)) (fun dn τ S3 => Drw p S2 S3 ∧ ∃ x9 x13, τ = [some (.ref p), some (.bl b), some (.int t), some (.int N.n), some (encN N), some (.lst (encK (List.range (2 ^ N.n)))), some (.lst (encK (stubs N))), some (.lst (encK (seeds N))), some (.int bits), x9, x10, x11, x12, x13, x14, x15, none]) (stubs N) ⟨.refl d2.well, x9, x13, rfl⟩ (fun dn x todo τ S3 K3 ea ⟨d3, x9, x13, hτ⟩ hK3 => ?_) fun τ S3 ⟨d3, x9, x13, hτ⟩ => ?_
          · subst hτ
            obtain ⟨m1, m2, m3⟩ := stubs_mem.mp (show x ∈ stubs N by rw [ea]; simp)
            simp only [gNm, List.set_cons_succ, List.set_cons_zero]
            refine seqK fun k9 hk9 => ?_
            unfold γ_one γ_llot
            simp_arith []
            refine ⟨p, _, _, rfl, rfl, d3.well, ⟨by rw [encK_len]; exact List.length_pos_of_mem (show x ∈ stubs N by rw [ea]; simp), by rw [encK_len]; omega⟩, fun y S4 hy d4 => ?_⟩
            obtain ⟨y, hy', rfl⟩ := List.mem_map.mp hy
            obtain ⟨y1, y2, y3⟩ := stubs_mem.mp hy'
            simp_arith [lor_nat]
            refine ⟨N.n, x ||| y, rfl, by omega, ?_⟩
            rw [hk9]
            unfold γ_isStub
            simp_arith []
            have xy : x ||| y < 2 ^ N.n := Nat.or_lt_two_pow m1 y1
            have xp : 0 < x ||| y := by
              apply Nat.pos_of_ne_zero
              intro c
              have := (Nat.or_eq_zero_iff.mp c).1
              omega
            refine ⟨N, x ||| y, rfl, ⟨nh, xy, xp⟩, ?_⟩
            have sx : x &&& bits = x := sin m1 m3
            simp_arith [stub_or ok hp m1 y1 m3 y3, land_nat, sx, pl_int, eqD_nat, decide_true]
            exact ⟨rpb _, rpb _, hK3 _ _ ⟨d3.trans d4, _, _, rfl⟩⟩
          · subst hτ
            show k8 _ _
            rw [hk8]
            refine seqK fun k9 hk9 => ?_
            have after : k9 [some (.ref p), some (.bl b), some (.int t), some (.int N.n), some (encN N), some (.lst (encK (List.range (2 ^ N.n)))), some (.lst (encK (stubs N))), some (.lst (encK (seeds N))), some (.int bits), x9, x10, x11, x12, x13, x14, x15, none] S3 := by
              rw [hk9]
              refine seqK fun k10 hk10 => ?_
              unfold γ_lleast
              simp_arith []
              refine ⟨stubs N, rfl, by omega, seeds N, rfl, by omega, by decide, ?_⟩
              have ls : ∀ k ∈ leastN (stubs N), k < 2 ^ N.n := fun k hk => (stubs_mem.mp (mem_leastN.mp hk).1).1
              have le : ∀ k ∈ leastN (seeds N), k < 2 ^ N.n := fun k hk => (seeds_mem.mp (mem_leastN.mp hk).1).1
              have ns : (leastN (stubs N)).Nodup := (stubs_nd N).filter _
              have ne : (leastN (seeds N)).Nodup := (seeds_nd N).filter _
              have zs : 0 ∈ leastN (stubs N) → (leastN (stubs N)).length ≤ 1 := leastN_zero (stubs_nd N)
              have ze : 0 ∈ leastN (seeds N) → (leastN (seeds N)).length ≤ 1 := leastN_zero (seeds_nd N)
              have meet : ∀ k, k < 2 ^ N.n → (leastN (stubs N)).all (fun j => decide (k &&& j ≠ 0)) = lights N k := fun k hk => by
                rw [Bool.eq_iff_iff, List.all_eq_true, lights_meet ok hp hk]
                have m1 := meet_least (l := stubs N) (fun k hk => (stubs_mem.mp hk).1) hk
                constructor
                · intro h j hj j0 sj
                  exact m1.mp (fun j hj => of_decide_eq_true (h j hj)) j (stubs_mem.mpr ⟨hj, j0, sj⟩)
                · intro h j hj
                  exact decide_eq_true (m1.mpr (fun j hj => by obtain ⟨a, b, c⟩ := stubs_mem.mp hj; exact h j a b c) j hj)
              rw [hk10]
              refine seqK fun k11 hk11 => ?_
              simp_arith []
              refine lc_filter (fun k : Nat => D.int (k : Int)) (fun k => lights N k) (fun k : Nat => D.int (k : Int)) (List.range (2 ^ N.n)) [] (fun k hk Y M hy hM => ?_) trivial (sz1000 (by rw [List.length_nil, List.length_range]; omega)) ?_
              · have hk := List.mem_range.mp hk
                simp_arith [wipeD]
                refine lc_map (fun j : Nat => D.int (j : Int)) (fun j => .bl (decide (k &&& j ≠ 0))) (leastN (stubs N)) [] (fun j hj Q hQ => ?_) trivial (sz1000 (by rw [List.length_nil]; omega)) ?_
                · have en : (!decide (((k &&& j : Nat) : Int) = 0)) = decide (k &&& j ≠ 0) := by
                    by_cases z : k &&& j = 0
                    · rw [z]; rfl
                    · rw [decide_eq_true z, decide_eq_false (by omega)]; rfl
                  simp_arith [wipeD, land_nat, pl_int, eqD_int, en]
                  exact hQ
                · have e1 : [] ++ (leastN (stubs N)).map (fun j => D.bl (decide (k &&& j ≠ 0))) = ((leastN (stubs N)).map fun j => decide (k &&& j ≠ 0)).map .bl := by rw [List.map_map]; rfl
                  have e2 : ((leastN (stubs N)).map fun j => decide (k &&& j ≠ 0)).all id = lights N k := by rw [List.all_map, ← meet k hk]; rfl
                  rw [e1]
                  simp_arith [blsOf_map, e2]
                  exact ite_go (fun z => hy z) fun z => hM (by simpa using z)
              · rw [List.nil_append, ek]
                rw [show (List.range (2 ^ N.n)).filter (fun k => lights N k) = seeds N from rfl, hk11]
                refine seqK fun k12 hk12 => ?_
                simp_arith []
                refine ⟨seeds N, rfl, by omega, ?_⟩
                simp_arith [intsOf_K]
                intro a pa wa c pc wc
                cases sortI_one (pa.trans pc.symm) wa wc
                have nn : ∀ k ∈ a, 0 ≤ k := fun k hk => by
                  obtain ⟨j, _, rfl⟩ := List.mem_map.mp (pa.subset hk)
                  omega
                simp_arith [eqD_KI a nn, pl_KI a nn]
                rw [hk12]
                refine seqK fun k13 hk13 => ?_
                unfold γ_llot
                have ne2 : leastN (seeds N) ≠ [] := leastN_ne (fun k hk => (seeds_mem.mp hk).1) fun c => by
                  have := seeds_mem.mpr ⟨show 2 ^ N.n - 1 < 2 ^ N.n by omega, lights_all ok hp⟩
                  rw [c] at this
                  cases this
                simp_arith []
                refine lc_map (fun k : Nat => D.int (k : Int)) (fun k => .int (pop N.n k : Nat)) (leastN (seeds N)) [] (fun k hk Q hQ => ?_) trivial (sz1000 (by rw [List.length_nil]; omega)) ?_
                · simp_arith [wipeD]
                  refine ⟨N.n, k, rfl, by omega, ?_⟩
                  unfold encL encI
                  simp_arith [List.length_map, lotOf_len]
                  exact hQ
                · have e1 : [] ++ (leastN (seeds N)).map (fun k => D.int (pop N.n k : Nat)) = ((leastN (seeds N)).map fun k => ((pop N.n k : Nat) : Int)).map .int := by rw [List.map_map]; rfl
                  rw [e1]
                  simp_arith [intsOf_map]
                  refine ⟨fun c => ne2 (List.map_eq_nil_iff.mp c), fun m hm1 hm2 => ?_⟩
                  obtain ⟨q, hq, rfl⟩ := List.mem_map.mp hm1
                  have im : IsMin N.n (leastN (seeds N)) (pop N.n q) := ⟨⟨q, hq, rfl⟩, fun k hk => by
                    have := hm2 _ (List.mem_map.mpr ⟨k, hk, rfl⟩)
                    omega⟩
                  generalize pop N.n q = m at im ⊢
                  rw [hk13]
                  refine seqK fun k14 hk14 => ?_
                  simp_arith []
                  refine lc_filter (fun k : Nat => D.int (k : Int)) (fun k => decide (pop N.n k = m)) (fun k : Nat => D.int (k : Int)) (leastN (seeds N)) [] (fun k hk Y M hy hM => ?_) trivial (sz1000 (by rw [List.length_nil]; omega)) ?_
                  · simp_arith [wipeD]
                    refine ⟨N.n, k, rfl, by omega, ?_⟩
                    unfold encL encI
                    simp_arith [List.length_map, lotOf_len, pl_int, eqD_nat]
                    exact ite_go (fun z => hy z) fun z => hM (by simpa using z)
                  · rw [List.nil_append, ek]
                    rw [show (leastN (seeds N)).filter (fun k => decide (pop N.n k = m)) = fews N.n (leastN (seeds N)) m from rfl, hk14]
                    have nf : (fews N.n (leastN (seeds N)) m).Nodup := ne.filter _
                    have sf : ∀ k ∈ fews N.n (leastN (seeds N)) m, k ∈ leastN (seeds N) := fun k hk => (List.mem_filter.mp hk).1
                    have lf : ∀ k ∈ fews N.n (leastN (seeds N)) m, k < 2 ^ N.n := fun k hk => le k (sf k hk)
                    have zf : 0 ∈ fews N.n (leastN (seeds N)) m → (fews N.n (leastN (seeds N)) m).length ≤ 1 := fun c => Nat.le_trans (List.length_filter_le _ _) (ze (sf 0 c))
                    refine seqK fun k15 hk15 => ?_
                    unfold γ_stubLots γ_told γ_leastSeeds
                    simp_arith []
                    refine ⟨N, rfl, nh, fun a ha => ?_⟩
                    have ra := told_rp n5 ns ls ha
                    simp_arith []
                    refine ⟨ra, N.n, _, rfl, ⟨n5, ns, ls, zs⟩, fun a2 ha2 => ?_⟩
                    cases told_one (by omega) (List.Perm.refl _) ha ha2
                    simp_arith [decide_true]
                    refine ⟨N, rfl, nh, fun c hc => ?_⟩
                    have rc := told_rp n5 ne le hc
                    simp_arith []
                    refine ⟨rc, N.n, _, rfl, ⟨n5, ne, le, ze⟩, fun c2 hc2 => ?_⟩
                    cases told_one (by omega) (List.Perm.refl _) hc hc2
                    simp_arith [decide_true]
                    rw [hk15]
                    refine seqK fun k16 hk16 => ?_
                    unfold γ_fewest2
                    simp_arith []
                    refine ⟨N, rfl, nh, fun m2 f hm2 hf => ?_⟩
                    cases isMin_one im hm2
                    have rf := told_rp n5 nf lf hf
                    simp_arith []
                    refine ⟨rf, N.n, _, rfl, ⟨n5, nf, lf, zf⟩, fun f2 hf2 => ?_⟩
                    cases told_one (by omega) (List.Perm.refl _) hf hf2
                    simp_arith [decide_true]
                    refine ⟨N, rfl, nh, fun c3 hc3 => ?_⟩
                    cases told_one (by omega) (List.Perm.refl _) hc hc3
                    simp_arith []
                    refine ⟨rc, N.n, _, rfl, ⟨n5, ne, le, ze⟩, fun c4 hc4 => ?_⟩
                    cases told_one (by omega) (List.Perm.refl _) hc hc4
                    simp_arith [decide_true]
                    rw [hk16]
                    simp_arith []
                    refine ⟨N, rfl, nh, fun m3 f3 hm3 hf3 => ?_⟩
                    cases isMin_one im hm3
                    cases told_one (by omega) (List.Perm.refl _) hf hf3
                    simp_arith []
                    refine ⟨rf, N.n, _, rfl, ⟨n5, nf, lf, zf⟩, fun f4 hf4 => ?_⟩
                    cases told_one (by omega) (List.Perm.refl _) hf hf4
                    simp_arith [decide_true]
                    refine ⟨N, rfl, nh, fun a3 ha3 => ?_⟩
                    cases told_one (by omega) (List.Perm.refl _) ha ha3
                    simp_arith []
                    refine ⟨ra, N.n, _, rfl, ⟨n5, ns, ls, zs⟩, fun a4 ha4 => ?_⟩
                    cases told_one (by omega) (List.Perm.refl _) ha ha4
                    simp_arith [decide_true]
                    exact hK _ _ ⟨d.trans (d1.trans (d2.trans d3)), _, _, _, _, _, _, _, _, _, _, _, _, _, _, rfl⟩
            by_cases z : (0 : Int) < (bits : Int)
            · unfold γ_llot γ_isStub
              simp_arith [z, decide_true]
              refine ⟨N.n, bits, rfl, by omega, N, bits, rfl, ⟨nh, hb, by omega⟩, ?_⟩
              simp_arith [sb, decide_true]
              exact ⟨rpb _, rpb _, after⟩
            · simp_arith [z, decide_false]
              exact after
    have last : ∀ (b2 : Int), natsIn 1 5 [.int 1, .int 2, .int 3, .int 3, .int 3, .int 4, .int 4, .int b2] = true → ∀ (few : D) (S1 : Sto), few ∈ [D.int 1, .int 2, .int 3, .int 3, .int 3, .int 4, .int 4, .int b2] → Drw p S' S1 → k1 [some (.ref p), some (.bl b), some (.int t), some few, x4, x5, x6, x7, x8, x9, x10, x11, x12, x13, x14, x15, none] S1 := fun b2 hb few S1 hf d1 => by
      obtain ⟨n, rfl, n1, n4⟩ := natsIn_mem hb hf
      exact go n S1 n1 n4 d1
    have lenO : ∀ m : Int, 0 < ([.int 1, .int 2, .int 3, .int 3, .int 3, .int 4, .int 4, .int m] : List D).length ∧ ([.int 1, .int 2, .int 3, .int 3, .int 3, .int 4, .int 4, .int m] : List D).length < 1073741824 := fun m => ⟨Nat.succ_pos _, by show 8 < 1073741824; decide⟩
    unfold γ_one
    simp_arith [pl_int, eqD_int]
    cases b with
    | false =>
      simp_arith []
      exact ⟨by decide, p, _, _, rfl, rfl, d.well, lenO 2, fun x S2 hx d => last 2 (by decide) x S2 hx d⟩
    | true =>
      by_cases z : (t : Int) = 0
      · simp_arith [z, decide_true]
        have := fun x S2 hx d => last 5 (by decide) x S2 hx d
        rw [z] at this
        exact ⟨by decide, p, _, _, rfl, rfl, d.well, lenO 5, this⟩
      · simp_arith [z, decide_false]
        exact ⟨by decide, p, _, _, rfl, rfl, d.well, lenO 2, fun x S2 hx d => last 2 (by decide) x S2 hx d⟩
  · subst hτ
    show k _ S'
    rw [hk]
    simp_arith []
    exact fin_of (h S' d)
end K28

namespace K28
open PySem PySem.Spec PyProof.Rows L2 Gx
def topS (i : Nat) : Stmt := PySem.Challenge.pw_heedlore_k28_whole_seeds_and_stubborn_lo.main.body.getD i (.Pass ⟨0, 0, 0, 0⟩)
section
variable {P : Program} {w : World} {K : PySem.W.Frag} {mg : Str → Option Value} {base : Heap} {k : Nat}
abbrev s__law_draw : Stmt := topS 57
abbrev N__law_draw : List Str := ["well", "few", "mixed", "figure"]
theorem sc__law_draw : FnScope N__law_draw ["well", "few"] (defScope s__law_draw) := ⟨rfl, rfl, rfl, by decide +kernel, rfl, by decide +kernel, by decide +kernel⟩
theorem tm__law_draw {f : Addr} {cdv : Value} {A : Around} {outer : List Env} {s : Shared} {H : Hp} (B : Blt mg)
    (hr : Room k (A.deeper (envOfC "_law_draw" (defScope s__law_draw) s.heap.objs.size f cdv))) (hgd : (A.deeper (envOfC "_law_draw" (defScope s__law_draw) s.heap.objs.size f cdv)).guards = some []) :
    GSs (cxOf CX0 P w K mg base N__law_draw "_law_draw" (defScope s__law_draw) f cdv A outer s H E0).nox (defBody s__law_draw) (body__law_draw) := by
  exact gss_cons (gs_if (gt_cmp o_gt (g_ix o_ix (g_var 0) (g_int)) (g_int)) (gss_cons (gs_asg (g_callB c_divmod (by rfl) B.divmod bt_divmod (ga_cons (g_ix o_ix (g_var 0) (g_int)) (ga_cons (g_var 1) (ga_nil)))) (gg_tup rfl (ggs_cons (gg_sub (g_var 0) (g_int) o_set) (ggs_cons (gg_name 3 sc__law_draw.nd) (ggs_nil)))))
    (gss_one (gs_ret (g_var 3)))) (gss_nil))
    (gss_cons (gs_asg (g_bin o_add (g_ix o_ix (g_var 0) (g_int)) (g_int)) (gg_sub (g_var 0) (g_int) o_set))
    (gss_cons (gs_set 2 sc__law_draw.nd (g_bin o_mod (g_callTy c_int (by rfl) B.int bt_int (ga_cons (g_bin o_add (g_bin o_mul (g_ix o_ix (g_var 0) (g_int)) (g_int)) (g_bin o_mul (g_int) (g_ix o_ix (g_var 0) (g_int)))) (ga_nil))) (g_int)))
    (gss_cons (gs_asg (g_bin o_mod (g_callTy c_int (by rfl) B.int bt_int (ga_cons (g_bin o_add (g_bin o_mul (g_var 2) (g_bin o_add (g_bin o_mod (g_callTy c_int (by rfl) B.int bt_int (ga_cons (g_var 2) (ga_nil))) (g_int)) (g_int))) (g_ix o_ix (g_var 0) (g_int))) (ga_nil))) (g_int)) (gg_sub (g_var 0) (g_int) o_set))
    (gss_one (gs_ret (g_bin o_mod (g_callTy c_int (by rfl) B.int bt_int (ga_cons (g_bin o_fdiv (g_ix o_ix (g_var 0) (g_int)) (g_int)) (ga_nil))) (g_var 1)))))))
abbrev s__law_one : Stmt := topS 58
abbrev N__law_one : List Str := ["well", "some"]
theorem sc__law_one : FnScope N__law_one ["well", "some"] (defScope s__law_one) := ⟨rfl, rfl, rfl, by decide +kernel, rfl, by decide +kernel, by decide +kernel⟩
theorem tm__law_one {γ__law_draw : OL} {f__law_draw : Addr} {fd__law_draw : FuncData} {f : Addr} {cdv : Value} {A : Around} {outer : List Env} {s : Shared} {H : Hp} (B : Blt mg) (h__law_draw : Has P w K mg base k "_law_draw" f__law_draw fd__law_draw ["well", "few"] γ__law_draw)
    (hr : Room k (A.deeper (envOfC "_law_one" (defScope s__law_one) s.heap.objs.size f cdv))) (hgd : (A.deeper (envOfC "_law_one" (defScope s__law_one) s.heap.objs.size f cdv)).guards = some []) :
    GSs (cxOf CX0 P w K mg base N__law_one "_law_one" (defScope s__law_one) f cdv A outer s H E0).nox (defBody s__law_one) (body__law_one γ__law_draw) := by
  exact gss_one (gs_ret (g_ix o_ix (g_var 1) (g_call h__law_draw hr hgd (Nat.le_refl _) (by rfl) (ga_cons (g_var 0) (ga_cons (g_callB c_len (by rfl) B.len bt_len (ga_cons (g_var 1) (ga_nil))) (ga_nil))))))
abbrev s__law_lean : Stmt := topS 59
abbrev N__law_lean : List Str := ["top", "base", "far", "rest"]
theorem sc__law_lean : FnScope N__law_lean ["top", "base"] (defScope s__law_lean) := ⟨rfl, rfl, rfl, by decide +kernel, rfl, by decide +kernel, by decide +kernel⟩
theorem tm__law_lean {f : Addr} {cdv : Value} {A : Around} {outer : List Env} {s : Shared} {H : Hp} (B : Blt mg)
    (hr : Room k (A.deeper (envOfC "_law_lean" (defScope s__law_lean) s.heap.objs.size f cdv))) (hgd : (A.deeper (envOfC "_law_lean" (defScope s__law_lean) s.heap.objs.size f cdv)).guards = some []) :
    GSs (cxOf CX0 P w K mg base N__law_lean "_law_lean" (defScope s__law_lean) f cdv A outer s H E0).nox (defBody s__law_lean) (body__law_lean) := by
  exact gss_cons (gs_par 2 3 rfl sc__law_lean.nd (ga_cons (g_callB c_abs (by rfl) B.abs bt_abs (ga_cons (g_var 0) (ga_nil))) (ga_cons (g_callB c_abs (by rfl) B.abs bt_abs (ga_cons (g_var 1) (ga_nil))) (ga_nil))))
    (gss_cons (gs_while PassesOwn.never (gt_cmp o_gt (g_var 3) (g_int)) (gss_one (gs_par 2 3 rfl sc__law_lean.nd (ga_cons (g_var 3) (ga_cons (g_bin o_mod (g_callTy c_int (by rfl) B.int bt_int (ga_cons (g_var 2) (ga_nil))) (g_var 3)) (ga_nil))))))
    (gss_cons (gs_set 2 sc__law_lean.nd (g_ifExp (gt_cmp o_gt (g_var 1) (g_int)) (g_var 2) (g_bin o_sub (g_int) (g_var 2))))
    (gss_one (gs_ret (g_tup (ga_cons (g_bin o_fdiv (g_var 0) (g_var 2)) (ga_cons (g_bin o_fdiv (g_var 1) (g_var 2)) (ga_nil))))))))
abbrev s__law_helping : Stmt := topS 65
abbrev N__law_helping : List Str := ["well", "few", "at", "rows", "marks", "row", "to", "tie"]
theorem sc__law_helping : FnScope N__law_helping ["well", "few"] (defScope s__law_helping) := ⟨rfl, rfl, rfl, by decide +kernel, rfl, by decide +kernel, by decide +kernel⟩
theorem tm__law_helping {γ__law_one γ__law_draw γ__law_lean : OL} {f__law_one f__law_draw f__law_lean : Addr} {fd__law_one fd__law_draw fd__law_lean : FuncData} {f : Addr} {cdv : Value} {A : Around} {outer : List Env} {s : Shared} {H : Hp} (B : Blt mg) (h__law_one : Has P w K mg base k "_law_one" f__law_one fd__law_one ["well", "some"] γ__law_one) (h__law_draw : Has P w K mg base k "_law_draw" f__law_draw fd__law_draw ["well", "few"] γ__law_draw) (h__law_lean : Has P w K mg base k "_law_lean" f__law_lean fd__law_lean ["top", "base"] γ__law_lean)
    (hr : Room k (A.deeper (envOfC "_law_helping" (defScope s__law_helping) s.heap.objs.size f cdv))) (hgd : (A.deeper (envOfC "_law_helping" (defScope s__law_helping) s.heap.objs.size f cdv)).guards = some []) :
    GSs (cxOf CX0 P w K mg base N__law_helping "_law_helping" (defScope s__law_helping) f cdv A outer s H E0).nox (defBody s__law_helping) (body__law_helping γ__law_one γ__law_draw γ__law_lean) := by
  exact gss_cons (gs_par 3 4 rfl sc__law_helping.nd (ga_cons (g_lstM (ga_nil)) (ga_cons (g_lstM (ga_nil)) (ga_nil))))
    (gss_cons (gs_for PassesOwn.never rfl (gi_range1 (by rfl) B.range (ga_cons (g_var 1) (ga_nil))) (gg_name 2 sc__law_helping.nd) (gss_cons (gs_set 5 sc__law_helping.nd (g_lstM (ga_nil)))
    (gss_cons (gs_for PassesOwn.never rfl (gi_range1 (by rfl) B.range (ga_cons (g_var 1) (ga_nil))) (gg_name 6 sc__law_helping.nd) (gss_cons (gs_set 7 sc__law_helping.nd (g_call h__law_one hr hgd (Nat.le_refl _) (by rfl) (ga_cons (g_var 0) (ga_cons (g_tup (ga_cons (g_tup (ga_cons (g_int) (ga_cons (g_int) (ga_nil)))) (ga_cons (g_tup (ga_cons (g_int) (ga_cons (g_int) (ga_nil)))) (ga_cons (g_tup (ga_cons (g_int) (ga_cons (g_int) (ga_nil)))) (ga_cons (g_tup (ga_cons (g_int) (ga_cons (g_int) (ga_nil)))) (ga_cons (g_tup (ga_cons (g_int) (ga_cons (g_int) (ga_nil)))) (ga_cons (g_tup (ga_cons (g_int) (ga_cons (g_int) (ga_nil)))) (ga_cons (g_tup (ga_cons (g_int) (ga_cons (g_int) (ga_nil)))) (ga_cons (g_tup (ga_cons (g_int) (ga_cons (g_int) (ga_nil)))) (ga_cons (g_tup (ga_cons (g_int) (ga_cons (g_int) (ga_nil)))) (ga_cons (g_tup (ga_cons (g_int) (ga_cons (g_int) (ga_nil)))) (ga_nil)))))))))))) (ga_nil)))))
    (gss_cons (gs_if (gt_cmp (o_eq hr.units) (g_call h__law_draw hr hgd (Nat.le_refl _) (by rfl) (ga_cons (g_var 0) (ga_cons (g_int) (ga_nil)))) (g_int)) (gss_one (gs_set 7 sc__law_helping.nd (g_call h__law_lean hr hgd (Nat.le_refl _) (by rfl) (ga_cons (g_call h__law_draw hr hgd (Nat.le_refl _) (by rfl) (ga_cons (g_var 0) (ga_cons (g_int) (ga_nil)))) (ga_cons (g_bin o_add (g_int) (g_call h__law_draw hr hgd (Nat.le_refl _) (by rfl) (ga_cons (g_var 0) (ga_cons (g_int) (ga_nil))))) (ga_nil)))))) (gss_nil))
    (gss_one (gs_expr (g_mt F.slot_list_append F.type_list_append m_append (g_var 5) (ga_cons (g_ifExp (gt_cmp (o_ne hr.units) (g_var 6) (g_var 2)) (g_var 7) (g_tup (ga_cons (g_int) (ga_cons (g_int) (ga_nil))))) (ga_nil))))))))
    (gss_cons (gs_expr (g_mt F.slot_list_append F.type_list_append m_append (g_var 3) (ga_cons (g_callTy c_tuple (by rfl) B.tuple bt_tuple (ga_cons (g_var 5) (ga_nil))) (ga_nil))))
    (gss_one (gs_expr (g_mt F.slot_list_append F.type_list_append m_append (g_var 4) (ga_cons (g_call h__law_one hr hgd (Nat.le_refl _) (by rfl) (ga_cons (g_var 0) (ga_cons (g_tup (ga_cons (g_tup (ga_cons (g_int) (ga_cons (g_int) (ga_nil)))) (ga_cons (g_tup (ga_cons (g_int) (ga_cons (g_int) (ga_nil)))) (ga_cons (g_tup (ga_cons (g_int) (ga_cons (g_int) (ga_nil)))) (ga_cons (g_tup (ga_cons (g_int) (ga_cons (g_int) (ga_nil)))) (ga_cons (g_tup (ga_cons (g_int) (ga_cons (g_int) (ga_nil)))) (ga_cons (g_tup (ga_cons (g_int) (ga_cons (g_int) (ga_nil)))) (ga_cons (g_tup (ga_cons (g_un o_neg (g_int)) (ga_cons (g_int) (ga_nil)))) (ga_cons (g_tup (ga_cons (g_int) (ga_cons (g_int) (ga_nil)))) (ga_cons (g_tup (ga_cons (g_int) (ga_cons (g_int) (ga_nil)))) (ga_cons (g_tup (ga_cons (g_int) (ga_cons (g_int) (ga_nil)))) (ga_nil)))))))))))) (ga_nil)))) (ga_nil)))))))))
    (gss_one (gs_ret (g_tup (ga_cons (g_callTy c_tuple (by rfl) B.tuple bt_tuple (ga_cons (g_var 3) (ga_nil))) (ga_cons (g_callTy c_tuple (by rfl) B.tuple bt_tuple (ga_cons (g_var 4) (ga_nil))) (ga_nil)))))))
abbrev s__law_state : Stmt := topS 62
abbrev N__law_state : List Str := ["few", "number", "at"]
theorem sc__law_state : FnScope N__law_state ["few", "number"] (defScope s__law_state) := ⟨rfl, rfl, rfl, by decide +kernel, rfl, by decide +kernel, by decide +kernel⟩
theorem tm__law_state {f : Addr} {cdv : Value} {A : Around} {outer : List Env} {s : Shared} {H : Hp} (B : Blt mg)
    (hr : Room k (A.deeper (envOfC "_law_state" (defScope s__law_state) s.heap.objs.size f cdv))) (hgd : (A.deeper (envOfC "_law_state" (defScope s__law_state) s.heap.objs.size f cdv)).guards = some []) :
    GSs (cxOf CX0 P w K mg base N__law_state "_law_state" (defScope s__law_state) f cdv A outer s H E0).nox (defBody s__law_state) (body__law_state) := by
  exact gss_one (gs_ret (g_callTy c_tuple (by rfl) B.tuple bt_tuple (ga_cons (g_lc (own := [("at", 2)])  rfl sc__law_state.nd (gi_range1 (by rfl) B.range (ga_cons (g_var 0) (ga_nil))) (blkOk_by (own := [("at", 2)]) (N := N__law_state) (sc := defScope s__law_state) (by decide +kernel)) (fun _ _ _ _ _ => ggc_name 2 sc__law_state.nd) (fun _ _ _ _ _ => gts_nil) (fun _ _ _ _ _ => g_bin o_and (g_bin o_shr (g_var 1) (g_var 2)) (g_int))) (ga_nil))))
abbrev s__law_below : Stmt := topS 61
abbrev N__law_below : List Str := ["x", "y"]
theorem sc__law_below : FnScope N__law_below ["x", "y"] (defScope s__law_below) := ⟨rfl, rfl, rfl, by decide +kernel, rfl, by decide +kernel, by decide +kernel⟩
theorem tm__law_below {f : Addr} {cdv : Value} {A : Around} {outer : List Env} {s : Shared} {H : Hp} (B : Blt mg)
    (hr : Room k (A.deeper (envOfC "_law_below" (defScope s__law_below) s.heap.objs.size f cdv))) (hgd : (A.deeper (envOfC "_law_below" (defScope s__law_below) s.heap.objs.size f cdv)).guards = some []) :
    GSs (cxOf CX0 P w K mg base N__law_below "_law_below" (defScope s__law_below) f cdv A outer s H E0).nox (defBody s__law_below) (body__law_below) := by
  exact gss_one (gs_ret (g_cmp o_lt (g_bin o_mul (g_ix o_ix (g_var 0) (g_int)) (g_ix o_ix (g_var 1) (g_int))) (g_bin o_mul (g_ix o_ix (g_var 1) (g_int)) (g_ix o_ix (g_var 0) (g_int)))))
abbrev s__law_plus : Stmt := topS 60
abbrev N__law_plus : List Str := ["x", "y"]
theorem sc__law_plus : FnScope N__law_plus ["x", "y"] (defScope s__law_plus) := ⟨rfl, rfl, rfl, by decide +kernel, rfl, by decide +kernel, by decide +kernel⟩
theorem tm__law_plus {γ__law_lean : OL} {f__law_lean : Addr} {fd__law_lean : FuncData} {f : Addr} {cdv : Value} {A : Around} {outer : List Env} {s : Shared} {H : Hp} (B : Blt mg) (h__law_lean : Has P w K mg base k "_law_lean" f__law_lean fd__law_lean ["top", "base"] γ__law_lean)
    (hr : Room k (A.deeper (envOfC "_law_plus" (defScope s__law_plus) s.heap.objs.size f cdv))) (hgd : (A.deeper (envOfC "_law_plus" (defScope s__law_plus) s.heap.objs.size f cdv)).guards = some []) :
    GSs (cxOf CX0 P w K mg base N__law_plus "_law_plus" (defScope s__law_plus) f cdv A outer s H E0).nox (defBody s__law_plus) (body__law_plus γ__law_lean) := by
  exact gss_one (gs_ret (g_call h__law_lean hr hgd (Nat.le_refl _) (by rfl) (ga_cons (g_bin o_add (g_bin o_mul (g_ix o_ix (g_var 0) (g_int)) (g_ix o_ix (g_var 1) (g_int))) (g_bin o_mul (g_ix o_ix (g_var 1) (g_int)) (g_ix o_ix (g_var 0) (g_int)))) (ga_cons (g_bin o_mul (g_ix o_ix (g_var 0) (g_int)) (g_ix o_ix (g_var 1) (g_int))) (ga_nil)))))
abbrev s__law_heard : Stmt := topS 63
abbrev N__law_heard : List Str := ["net", "cell", "state", "found", "part", "bit"]
theorem sc__law_heard : FnScope N__law_heard ["net", "cell", "state"] (defScope s__law_heard) := ⟨rfl, rfl, rfl, by decide +kernel, rfl, by decide +kernel, by decide +kernel⟩
theorem tm__law_heard {γ__law_plus : OL} {f__law_plus : Addr} {fd__law_plus : FuncData} {f : Addr} {cdv : Value} {A : Around} {outer : List Env} {s : Shared} {H : Hp} (B : Blt mg) (h__law_plus : Has P w K mg base k "_law_plus" f__law_plus fd__law_plus ["x", "y"] γ__law_plus)
    (hr : Room k (A.deeper (envOfC "_law_heard" (defScope s__law_heard) s.heap.objs.size f cdv))) (hgd : (A.deeper (envOfC "_law_heard" (defScope s__law_heard) s.heap.objs.size f cdv)).guards = some []) :
    GSs (cxOf CX0 P w K mg base N__law_heard "_law_heard" (defScope s__law_heard) f cdv A outer s H E0).nox (defBody s__law_heard) (body__law_heard γ__law_plus) := by
  exact gss_cons (gs_set 3 sc__law_heard.nd (g_tup (ga_cons (g_int) (ga_cons (g_int) (ga_nil)))))
    (gss_cons (gs_for PassesOwn.never rfl (gi_zip (by rfl) B.zip (ga_cons (g_ix o_ix (g_ix o_ix (g_var 0) (g_int)) (g_var 1)) (ga_cons (g_var 2) (ga_nil)))) (gg_tup rfl (ggs_cons (gg_name 4 sc__law_heard.nd) (ggs_cons (gg_name 5 sc__law_heard.nd) (ggs_nil)))) (gss_one (gs_set 3 sc__law_heard.nd (g_ifExp (gt_cmp (o_eq hr.units) (g_var 5) (g_int)) (g_call h__law_plus hr hgd (Nat.le_refl _) (by rfl) (ga_cons (g_var 3) (ga_cons (g_var 4) (ga_nil)))) (g_var 3)))))
    (gss_one (gs_ret (g_var 3))))
abbrev s__law_movers : Stmt := topS 64
abbrev N__law_movers : List Str := ["net", "state", "found", "at"]
theorem sc__law_movers : FnScope N__law_movers ["net", "state"] (defScope s__law_movers) := ⟨rfl, rfl, rfl, by decide +kernel, rfl, by decide +kernel, by decide +kernel⟩
theorem tm__law_movers {γ__law_below γ__law_heard : OL} {f__law_below f__law_heard : Addr} {fd__law_below fd__law_heard : FuncData} {f : Addr} {cdv : Value} {A : Around} {outer : List Env} {s : Shared} {H : Hp} (B : Blt mg) (h__law_below : Has P w K mg base k "_law_below" f__law_below fd__law_below ["x", "y"] γ__law_below) (h__law_heard : Has P w K mg base k "_law_heard" f__law_heard fd__law_heard ["net", "cell", "state"] γ__law_heard)
    (hr : Room k (A.deeper (envOfC "_law_movers" (defScope s__law_movers) s.heap.objs.size f cdv))) (hgd : (A.deeper (envOfC "_law_movers" (defScope s__law_movers) s.heap.objs.size f cdv)).guards = some []) :
    GSs (cxOf CX0 P w K mg base N__law_movers "_law_movers" (defScope s__law_movers) f cdv A outer s H E0).nox (defBody s__law_movers) (body__law_movers γ__law_below γ__law_heard) := by
  exact gss_cons (gs_set 2 sc__law_movers.nd (g_lstM (ga_nil)))
    (gss_cons (gs_for PassesOwn.never rfl (gi_range1 (by rfl) B.range (ga_cons (g_callB c_len (by rfl) B.len bt_len (ga_cons (g_var 1) (ga_nil))) (ga_nil))) (gg_name 3 sc__law_movers.nd) (gss_one (gs_if (gt_cmp (o_ne hr.units) (g_call h__law_below hr hgd (Nat.le_refl _) (by rfl) (ga_cons (g_ix o_ix (g_ix o_ix (g_var 0) (g_int)) (g_var 3)) (ga_cons (g_call h__law_heard hr hgd (Nat.le_refl _) (by rfl) (ga_cons (g_var 0) (ga_cons (g_var 3) (ga_cons (g_var 1) (ga_nil))))) (ga_nil)))) (g_cmp (o_eq hr.units) (g_ix o_ix (g_var 1) (g_var 3)) (g_int))) (gss_one (gs_expr (g_mt F.slot_list_append F.type_list_append m_append (g_var 2) (ga_cons (g_var 3) (ga_nil))))) (gss_nil))))
    (gss_one (gs_ret (g_callTy c_tuple (by rfl) B.tuple bt_tuple (ga_cons (g_var 2) (ga_nil))))))
abbrev s__law_is_stubborn : Stmt := topS 68
abbrev N__law_is_stubborn : List Str := ["net", "number", "few", "state", "at"]
theorem sc__law_is_stubborn : FnScope N__law_is_stubborn ["net", "number"] (defScope s__law_is_stubborn) := ⟨rfl, rfl, rfl, by decide +kernel, rfl, by decide +kernel, by decide +kernel⟩
theorem tm__law_is_stubborn {γ__law_state γ__law_movers : OL} {f__law_state f__law_movers : Addr} {fd__law_state fd__law_movers : FuncData} {f : Addr} {cdv : Value} {A : Around} {outer : List Env} {s : Shared} {H : Hp} (B : Blt mg) (h__law_state : Has P w K mg base k "_law_state" f__law_state fd__law_state ["few", "number"] γ__law_state) (h__law_movers : Has P w K mg base k "_law_movers" f__law_movers fd__law_movers ["net", "state"] γ__law_movers)
    (hr : Room k (A.deeper (envOfC "_law_is_stubborn" (defScope s__law_is_stubborn) s.heap.objs.size f cdv))) (hgd : (A.deeper (envOfC "_law_is_stubborn" (defScope s__law_is_stubborn) s.heap.objs.size f cdv)).guards = some []) :
    GSs (cxOf CX0 P w K mg base N__law_is_stubborn "_law_is_stubborn" (defScope s__law_is_stubborn) f cdv A outer s H E0).nox (defBody s__law_is_stubborn) (body__law_is_stubborn γ__law_state γ__law_movers) := by
  exact gss_cons (gs_set 2 sc__law_is_stubborn.nd (g_callB c_len (by rfl) B.len bt_len (ga_cons (g_ix o_ix (g_var 0) (g_int)) (ga_nil))))
    (gss_cons (gs_set 3 sc__law_is_stubborn.nd (g_call h__law_state hr hgd (Nat.le_refl _) (by rfl) (ga_cons (g_var 2) (ga_cons (g_bin o_sub (g_bin o_sub (g_bin o_shl (g_int) (g_var 2)) (g_int)) (g_var 1)) (ga_nil)))))
    (gss_one (gs_ret (g_callB (c_all rfl) (by rfl) B.all bt_all (ga_cons (g_lc (own := [("at", 4)])  rfl sc__law_is_stubborn.nd (gi_seq (g_call h__law_movers hr hgd (Nat.le_refl _) (by rfl) (ga_cons (g_var 0) (ga_cons (g_var 3) (ga_nil))))) (blkOk_by (own := [("at", 4)]) (N := N__law_is_stubborn) (sc := defScope s__law_is_stubborn) (by decide +kernel)) (fun _ _ _ _ _ => ggc_name 4 sc__law_is_stubborn.nd) (fun _ _ _ _ _ => gts_nil) (fun _ _ _ _ _ => g_cmp (o_eq hr.units) (g_ix o_ix (g_var 3) (g_var 4)) (g_int))) (ga_nil))))))
abbrev s__law_spread : Stmt := topS 67
abbrev N__law_spread : List Str := ["net", "number", "few", "turn", "state", "some", "at"]
theorem sc__law_spread : FnScope N__law_spread ["net", "number"] (defScope s__law_spread) := ⟨rfl, rfl, rfl, by decide +kernel, rfl, by decide +kernel, by decide +kernel⟩
theorem tm__law_spread {γ__law_state γ__law_movers : OL} {f__law_state f__law_movers : Addr} {fd__law_state fd__law_movers : FuncData} {f : Addr} {cdv : Value} {A : Around} {outer : List Env} {s : Shared} {H : Hp} (B : Blt mg) (h__law_state : Has P w K mg base k "_law_state" f__law_state fd__law_state ["few", "number"] γ__law_state) (h__law_movers : Has P w K mg base k "_law_movers" f__law_movers fd__law_movers ["net", "state"] γ__law_movers)
    (hr : Room k (A.deeper (envOfC "_law_spread" (defScope s__law_spread) s.heap.objs.size f cdv))) (hgd : (A.deeper (envOfC "_law_spread" (defScope s__law_spread) s.heap.objs.size f cdv)).guards = some []) :
    GSs (cxOf CX0 P w K mg base N__law_spread "_law_spread" (defScope s__law_spread) f cdv A outer s H E0).nox (defBody s__law_spread) (body__law_spread γ__law_state γ__law_movers) := by
  exact gss_cons (gs_set 2 sc__law_spread.nd (g_callB c_len (by rfl) B.len bt_len (ga_cons (g_ix o_ix (g_var 0) (g_int)) (ga_nil))))
    (gss_cons (gs_for PassesOwn.never rfl (gi_range1 (by rfl) B.range (ga_cons (g_var 2) (ga_nil))) (gg_name 3 sc__law_spread.nd) (gss_cons (gs_set 4 sc__law_spread.nd (g_call h__law_state hr hgd (Nat.le_refl _) (by rfl) (ga_cons (g_var 2) (ga_cons (g_var 1) (ga_nil)))))
    (gss_cons (gs_setLc 5 (own := [("at", 6)])  rfl sc__law_spread.nd (sw_true rfl rfl rfl (by decide +kernel)) (gi_seq (g_call h__law_movers hr hgd (Nat.le_refl _) (by rfl) (ga_cons (g_var 0) (ga_cons (g_var 4) (ga_nil))))) (blkOk_by (own := [("at", 6)]) (N := N__law_spread) (sc := defScope s__law_spread) (by decide +kernel)) (fun _ _ _ _ _ => ggc_name 6 sc__law_spread.nd) (fun _ _ _ _ _ => gts_one (gt_cmp (o_eq hr.units) (g_ix o_ix (g_var 4) (g_var 6)) (g_int))) (fun _ _ _ _ _ => g_var 6))
    (gss_cons (gs_if (gt_cmp (o_eq hr.units) (g_var 5) (g_lst (ga_nil))) (gss_one (gs_break)) (gss_nil))
    (gss_one (gs_set 1 sc__law_spread.nd (g_bin o_add (g_var 1) (g_bin o_shl (g_int) (g_ix o_ix (g_var 5) (g_int))))))))))
    (gss_one (gs_ret (g_var 1))))
abbrev s__law_lot : Stmt := topS 66
abbrev N__law_lot : List Str := ["few", "number", "at"]
theorem sc__law_lot : FnScope N__law_lot ["few", "number"] (defScope s__law_lot) := ⟨rfl, rfl, rfl, by decide +kernel, rfl, by decide +kernel, by decide +kernel⟩
theorem tm__law_lot {f : Addr} {cdv : Value} {A : Around} {outer : List Env} {s : Shared} {H : Hp} (B : Blt mg)
    (hr : Room k (A.deeper (envOfC "_law_lot" (defScope s__law_lot) s.heap.objs.size f cdv))) (hgd : (A.deeper (envOfC "_law_lot" (defScope s__law_lot) s.heap.objs.size f cdv)).guards = some []) :
    GSs (cxOf CX0 P w K mg base N__law_lot "_law_lot" (defScope s__law_lot) f cdv A outer s H E0).nox (defBody s__law_lot) (body__law_lot) := by
  exact gss_one (gs_ret (g_callTy c_tuple (by rfl) B.tuple bt_tuple (ga_cons (g_lc (own := [("at", 2)])  rfl sc__law_lot.nd (gi_range1 (by rfl) B.range (ga_cons (g_var 0) (ga_nil))) (blkOk_by (own := [("at", 2)]) (N := N__law_lot) (sc := defScope s__law_lot) (by decide +kernel)) (fun _ _ _ _ _ => ggc_name 2 sc__law_lot.nd) (fun _ _ _ _ _ => gts_one (gt_cmp (o_eq hr.units) (g_bin o_and (g_bin o_shr (g_var 1) (g_var 2)) (g_int)) (g_int))) (fun _ _ _ _ _ => g_var 2)) (ga_nil))))
abbrev s_is_tuple_of : Stmt := topS 9
abbrev N_is_tuple_of : List Str := ["value", "many"]
theorem sc_is_tuple_of : FnScope N_is_tuple_of ["value", "many"] (defScope s_is_tuple_of) := ⟨rfl, rfl, rfl, by decide +kernel, rfl, by decide +kernel, by decide +kernel⟩
theorem tm_is_tuple_of {f : Addr} {cdv : Value} {A : Around} {outer : List Env} {s : Shared} {H : Hp} (B : Blt mg)
    (hr : Room k (A.deeper (envOfC "is_tuple_of" (defScope s_is_tuple_of) s.heap.objs.size f cdv))) (hgd : (A.deeper (envOfC "is_tuple_of" (defScope s_is_tuple_of) s.heap.objs.size f cdv)).guards = some []) :
    GSs (cxOf CX0 P w K mg base N_is_tuple_of "is_tuple_of" (defScope s_is_tuple_of) f cdv A outer s H E0).nox (defBody s_is_tuple_of) (body_is_tuple_of) := by
  exact gss_one (gs_ret (g_and (g_callB c_isi (by rfl) B.isinstance bt_isinstance (ga_cons (g_var 0) (ga_cons (g_bltn (d := .ty "tuple") (v := .ty "tuple") (by rfl) B.tuple bt_tuple rfl (fun _ _ => rfl)) (ga_nil)))) (g_one (g_cmp (o_eq hr.units) (g_callB c_len (by rfl) B.len bt_len (ga_cons (g_var 0) (ga_nil))) (g_var 1)))))
abbrev s_is_whole : Stmt := topS 7
abbrev N_is_whole : List Str := ["value"]
theorem sc_is_whole : FnScope N_is_whole ["value"] (defScope s_is_whole) := ⟨rfl, rfl, rfl, by decide +kernel, rfl, by decide +kernel, by decide +kernel⟩
theorem tm_is_whole {f : Addr} {cdv : Value} {A : Around} {outer : List Env} {s : Shared} {H : Hp} (B : Blt mg)
    (hr : Room k (A.deeper (envOfC "is_whole" (defScope s_is_whole) s.heap.objs.size f cdv))) (hgd : (A.deeper (envOfC "is_whole" (defScope s_is_whole) s.heap.objs.size f cdv)).guards = some []) :
    GSs (cxOf CX0 P w K mg base N_is_whole "is_whole" (defScope s_is_whole) f cdv A outer s H E0).nox (defBody s_is_whole) (body_is_whole) := by
  exact gss_one (gs_ret (g_and (g_callB c_isi (by rfl) B.isinstance bt_isinstance (ga_cons (g_var 0) (ga_cons (g_bltn (d := .ty "int") (v := .ty "int") (by rfl) B.int bt_int rfl (fun _ _ => rfl)) (ga_nil)))) (g_one (g_not (g_callB c_isi (by rfl) B.isinstance bt_isinstance (ga_cons (g_var 0) (ga_cons (g_bltn (d := .ty "bool") (v := .ty "bool") (by rfl) B.bool bt_bool rfl (fun _ _ => rfl)) (ga_nil))))))))
abbrev s_is_ratio : Stmt := topS 12
abbrev N_is_ratio : List Str := ["value"]
theorem sc_is_ratio : FnScope N_is_ratio ["value"] (defScope s_is_ratio) := ⟨rfl, rfl, rfl, by decide +kernel, rfl, by decide +kernel, by decide +kernel⟩
theorem tm_is_ratio {γ_is_tuple_of γ_is_whole : OL} {f_is_tuple_of f_is_whole : Addr} {fd_is_tuple_of fd_is_whole : FuncData} {f : Addr} {cdv : Value} {A : Around} {outer : List Env} {s : Shared} {H : Hp} (B : Blt mg) (h_is_tuple_of : Has P w K mg base k "is_tuple_of" f_is_tuple_of fd_is_tuple_of ["value", "many"] γ_is_tuple_of) (h_is_whole : Has P w K mg base k "is_whole" f_is_whole fd_is_whole ["value"] γ_is_whole) (m_gcd : mg "gcd" = some (.builtin "math.gcd"))
    (hr : Room k (A.deeper (envOfC "is_ratio" (defScope s_is_ratio) s.heap.objs.size f cdv))) (hgd : (A.deeper (envOfC "is_ratio" (defScope s_is_ratio) s.heap.objs.size f cdv)).guards = some []) :
    GSs (cxOf CX0 P w K mg base N_is_ratio "is_ratio" (defScope s_is_ratio) f cdv A outer s H E0).nox (defBody s_is_ratio) (body_is_ratio γ_is_tuple_of γ_is_whole) := by
  exact gss_cons (gs_if (gw_pt (gw_or (gt_not (gt_val (g_call h_is_tuple_of hr hgd (Nat.le_refl _) (by rfl) (ga_cons (g_var 0) (ga_cons (g_int) (ga_nil)))))) (gw_or (gt_not (gt_val (g_call h_is_whole hr hgd (Nat.le_refl _) (by rfl) (ga_cons (g_ix o_ix (g_var 0) (g_int)) (ga_nil))))) (gw_or1 (gt_not (gt_val (g_call h_is_whole hr hgd (Nat.le_refl _) (by rfl) (ga_cons (g_ix o_ix (g_var 0) (g_int)) (ga_nil))))))))) (gss_one (gs_ret (g_bl))) (gss_nil))
    (gss_one (gs_ret (g_and (g_cmp o_gt (g_ix o_ix (g_var 0) (g_int)) (g_int)) (g_one (g_cmp (o_eq hr.units) (g_callBfun c_gcd (by rfl) m_gcd (ga_cons (g_ix o_ix (g_var 0) (g_int)) (ga_cons (g_ix o_ix (g_var 0) (g_int)) (ga_nil)))) (g_int))))))
abbrev s_is_row : Stmt := topS 17
abbrev N_is_row : List Str := ["value", "many", "each"]
theorem sc_is_row : FnScope N_is_row ["value", "many"] (defScope s_is_row) := ⟨rfl, rfl, rfl, by decide +kernel, rfl, by decide +kernel, by decide +kernel⟩
theorem tm_is_row {γ_is_tuple_of γ_is_ratio : OL} {f_is_tuple_of f_is_ratio : Addr} {fd_is_tuple_of fd_is_ratio : FuncData} {f : Addr} {cdv : Value} {A : Around} {outer : List Env} {s : Shared} {H : Hp} (B : Blt mg) (h_is_tuple_of : Has P w K mg base k "is_tuple_of" f_is_tuple_of fd_is_tuple_of ["value", "many"] γ_is_tuple_of) (h_is_ratio : Has P w K mg base k "is_ratio" f_is_ratio fd_is_ratio ["value"] γ_is_ratio)
    (hr : Room k (A.deeper (envOfC "is_row" (defScope s_is_row) s.heap.objs.size f cdv))) (hgd : (A.deeper (envOfC "is_row" (defScope s_is_row) s.heap.objs.size f cdv)).guards = some []) :
    GSs (cxOf CX0 P w K mg base N_is_row "is_row" (defScope s_is_row) f cdv A outer s H E0).nox (defBody s_is_row) (body_is_row γ_is_tuple_of γ_is_ratio) := by
  exact gss_one (gs_ret (g_and (g_call h_is_tuple_of hr hgd (Nat.le_refl _) (by rfl) (ga_cons (g_var 0) (ga_cons (g_var 1) (ga_nil)))) (g_one (g_callB (c_all rfl) (by rfl) B.all bt_all (ga_cons (g_lc (own := [("each", 2)])  rfl sc_is_row.nd (gi_seq (g_var 0)) (blkOk_by (own := [("each", 2)]) (N := N_is_row) (sc := defScope s_is_row) (by decide +kernel)) (fun _ _ _ _ _ => ggc_name 2 sc_is_row.nd) (fun _ _ _ _ _ => gts_nil) (fun _ _ _ _ _ => g_call h_is_ratio hr hgd (Nat.le_refl _) (by rfl) (ga_cons (g_var 2) (ga_nil)))) (ga_nil))))))
abbrev s_is_net_by : Stmt := topS 20
abbrev N_is_net_by : List Str := ["value", "many", "cell", "row"]
theorem sc_is_net_by : FnScope N_is_net_by ["value"] (defScope s_is_net_by) := ⟨rfl, rfl, rfl, by decide +kernel, rfl, by decide +kernel, by decide +kernel⟩
theorem tm_is_net_by {γ_is_tuple_of γ_is_row : OL} {f_is_tuple_of f_is_row : Addr} {fd_is_tuple_of fd_is_row : FuncData} {d_MOST_CELLS d_ZERO : D} {f : Addr} {cdv : Value} {A : Around} {outer : List Env} {s : Shared} {H : Hp} (B : Blt mg) (h_is_tuple_of : Has P w K mg base k "is_tuple_of" f_is_tuple_of fd_is_tuple_of ["value", "many"] γ_is_tuple_of) (c_MOST_CELLS : Cst K mg "MOST_CELLS" d_MOST_CELLS) (h_is_row : Has P w K mg base k "is_row" f_is_row fd_is_row ["value", "many"] γ_is_row) (c_ZERO : Cst K mg "ZERO" d_ZERO)
    (hr : Room k (A.deeper (envOfC "is_net_by" (defScope s_is_net_by) s.heap.objs.size f cdv))) (hgd : (A.deeper (envOfC "is_net_by" (defScope s_is_net_by) s.heap.objs.size f cdv)).guards = some []) :
    GSs (cxOf CX0 P w K mg base N_is_net_by "is_net_by" (defScope s_is_net_by) f cdv A outer s H E0).nox (defBody s_is_net_by) (body_is_net_by γ_is_tuple_of γ_is_row d_MOST_CELLS d_ZERO) := by
  exact gss_cons (gs_if (gw_pt (gw_or (gt_not (gt_val (g_call h_is_tuple_of hr hgd (Nat.le_refl _) (by rfl) (ga_cons (g_var 0) (ga_cons (g_int) (ga_nil)))))) (gw_or (gt_not (gt_val (g_callB c_isi (by rfl) B.isinstance bt_isinstance (ga_cons (g_ix o_ix (g_var 0) (g_int)) (ga_cons (g_bltn (d := .ty "tuple") (v := .ty "tuple") (by rfl) B.tuple bt_tuple rfl (fun _ _ => rfl)) (ga_nil)))))) (gw_or1 (gt_not (gt_chain o_le o_le (g_int) (g_callB c_len (by rfl) B.len bt_len (ga_cons (g_ix o_ix (g_var 0) (g_int)) (ga_nil))) (g_cst c_MOST_CELLS (by rfl)))))))) (gss_one (gs_ret (g_bl))) (gss_nil))
    (gss_cons (gs_set 1 sc_is_net_by.nd (g_callB c_len (by rfl) B.len bt_len (ga_cons (g_ix o_ix (g_var 0) (g_int)) (ga_nil))))
    (gss_cons (gs_if (gw_pt (gw_or (gt_not (gt_val (g_callB (c_all rfl) (by rfl) B.all bt_all (ga_cons (g_lc (own := [("row", 3)])  rfl sc_is_net_by.nd (gi_seq (g_ix o_ix (g_var 0) (g_int))) (blkOk_by (own := [("row", 3)]) (N := N_is_net_by) (sc := defScope s_is_net_by) (by decide +kernel)) (fun _ _ _ _ _ => ggc_name 3 sc_is_net_by.nd) (fun _ _ _ _ _ => gts_nil) (fun _ _ _ _ _ => g_call h_is_row hr hgd (Nat.le_refl _) (by rfl) (ga_cons (g_var 3) (ga_cons (g_var 1) (ga_nil))))) (ga_nil))))) (gw_or1 (gt_not (gt_val (g_call h_is_row hr hgd (Nat.le_refl _) (by rfl) (ga_cons (g_ix o_ix (g_var 0) (g_int)) (ga_cons (g_var 1) (ga_nil))))))))) (gss_one (gs_ret (g_bl))) (gss_nil))
    (gss_one (gs_ret (g_callB (c_all rfl) (by rfl) B.all bt_all (ga_cons (g_lc (own := [("cell", 2)])  rfl sc_is_net_by.nd (gi_range1 (by rfl) B.range (ga_cons (g_var 1) (ga_nil))) (blkOk_by (own := [("cell", 2)]) (N := N_is_net_by) (sc := defScope s_is_net_by) (by decide +kernel)) (fun _ _ _ _ _ => ggc_name 2 sc_is_net_by.nd) (fun _ _ _ _ _ => gts_nil) (fun _ _ _ _ _ => g_cmp (o_eq hr.units) (g_ix o_ix (g_ix o_ix (g_ix o_ix (g_var 0) (g_int)) (g_var 2)) (g_var 2)) (g_cst c_ZERO (by rfl)))) (ga_nil)))))))
abbrev s_check_net : Stmt := topS 26
abbrev N_check_net : List Str := ["value"]
theorem sc_check_net : FnScope N_check_net ["value"] (defScope s_check_net) := ⟨rfl, rfl, rfl, by decide +kernel, rfl, by decide +kernel, by decide +kernel⟩
theorem tm_check_net {γ_is_net_by : OL} {f_is_net_by : Addr} {fd_is_net_by : FuncData} {f : Addr} {cdv : Value} {A : Around} {outer : List Env} {s : Shared} {H : Hp} (B : Blt mg) (h_is_net_by : Has P w K mg base k "is_net_by" f_is_net_by fd_is_net_by ["value"] γ_is_net_by)
    (hr : Room k (A.deeper (envOfC "check_net" (defScope s_check_net) s.heap.objs.size f cdv))) (hgd : (A.deeper (envOfC "check_net" (defScope s_check_net) s.heap.objs.size f cdv)).guards = some []) :
    GSs (cxOf CX0 P w K mg base N_check_net "check_net" (defScope s_check_net) f cdv A outer s H E0).nox (defBody s_check_net) (body_check_net γ_is_net_by) := by
  exact gss_one (gs_if (gt_not (gt_val (g_call h_is_net_by hr hgd (Nat.le_refl _) (by rfl) (ga_cons (g_var 0) (ga_nil))))) (gss_one (gs_never)) (gss_nil))
abbrev s_is_between : Stmt := topS 8
abbrev N_is_between : List Str := ["value", "low", "high"]
theorem sc_is_between : FnScope N_is_between ["value", "low", "high"] (defScope s_is_between) := ⟨rfl, rfl, rfl, by decide +kernel, rfl, by decide +kernel, by decide +kernel⟩
theorem tm_is_between {γ_is_whole : OL} {f_is_whole : Addr} {fd_is_whole : FuncData} {f : Addr} {cdv : Value} {A : Around} {outer : List Env} {s : Shared} {H : Hp} (B : Blt mg) (h_is_whole : Has P w K mg base k "is_whole" f_is_whole fd_is_whole ["value"] γ_is_whole)
    (hr : Room k (A.deeper (envOfC "is_between" (defScope s_is_between) s.heap.objs.size f cdv))) (hgd : (A.deeper (envOfC "is_between" (defScope s_is_between) s.heap.objs.size f cdv)).guards = some []) :
    GSs (cxOf CX0 P w K mg base N_is_between "is_between" (defScope s_is_between) f cdv A outer s H E0).nox (defBody s_is_between) (body_is_between γ_is_whole) := by
  exact gss_one (gs_ret (g_and (g_call h_is_whole hr hgd (Nat.le_refl _) (by rfl) (ga_cons (g_var 0) (ga_nil))) (g_one (g_chain o_le o_le (g_var 1) (g_var 0) (g_var 2)))))
abbrev s_many_cells : Stmt := topS 21
abbrev N_many_cells : List Str := ["net"]
theorem sc_many_cells : FnScope N_many_cells ["net"] (defScope s_many_cells) := ⟨rfl, rfl, rfl, by decide +kernel, rfl, by decide +kernel, by decide +kernel⟩
theorem tm_many_cells {f : Addr} {cdv : Value} {A : Around} {outer : List Env} {s : Shared} {H : Hp} (B : Blt mg)
    (hr : Room k (A.deeper (envOfC "many_cells" (defScope s_many_cells) s.heap.objs.size f cdv))) (hgd : (A.deeper (envOfC "many_cells" (defScope s_many_cells) s.heap.objs.size f cdv)).guards = some []) :
    GSs (cxOf CX0 P w K mg base N_many_cells "many_cells" (defScope s_many_cells) f cdv A outer s H E0).nox (defBody s_many_cells) (body_many_cells) := by
  exact gss_one (gs_ret (g_callB c_len (by rfl) B.len bt_len (ga_cons (g_ix o_ix (g_var 0) (g_int)) (ga_nil))))
abbrev s_is_cell_by : Stmt := topS 22
abbrev N_is_cell_by : List Str := ["net", "value"]
theorem sc_is_cell_by : FnScope N_is_cell_by ["net", "value"] (defScope s_is_cell_by) := ⟨rfl, rfl, rfl, by decide +kernel, rfl, by decide +kernel, by decide +kernel⟩
theorem tm_is_cell_by {γ_is_between γ_many_cells : OL} {f_is_between f_many_cells : Addr} {fd_is_between fd_many_cells : FuncData} {f : Addr} {cdv : Value} {A : Around} {outer : List Env} {s : Shared} {H : Hp} (B : Blt mg) (h_is_between : Has P w K mg base k "is_between" f_is_between fd_is_between ["value", "low", "high"] γ_is_between) (h_many_cells : Has P w K mg base k "many_cells" f_many_cells fd_many_cells ["net"] γ_many_cells)
    (hr : Room k (A.deeper (envOfC "is_cell_by" (defScope s_is_cell_by) s.heap.objs.size f cdv))) (hgd : (A.deeper (envOfC "is_cell_by" (defScope s_is_cell_by) s.heap.objs.size f cdv)).guards = some []) :
    GSs (cxOf CX0 P w K mg base N_is_cell_by "is_cell_by" (defScope s_is_cell_by) f cdv A outer s H E0).nox (defBody s_is_cell_by) (body_is_cell_by γ_is_between γ_many_cells) := by
  exact gss_one (gs_ret (g_call h_is_between hr hgd (Nat.le_refl _) (by rfl) (ga_cons (g_var 1) (ga_cons (g_int) (ga_cons (g_bin o_sub (g_call h_many_cells hr hgd (Nat.le_refl _) (by rfl) (ga_cons (g_var 0) (ga_nil))) (g_int)) (ga_nil))))))
abbrev s_wrong_in_lot : Stmt := topS 29
abbrev N_wrong_in_lot : List Str := ["net", "value", "least", "index", "each"]
theorem sc_wrong_in_lot : FnScope N_wrong_in_lot ["net", "value", "least"] (defScope s_wrong_in_lot) := ⟨rfl, rfl, rfl, by decide +kernel, rfl, by decide +kernel, by decide +kernel⟩
theorem tm_wrong_in_lot {γ_is_cell_by : OL} {f_is_cell_by : Addr} {fd_is_cell_by : FuncData} {f : Addr} {cdv : Value} {A : Around} {outer : List Env} {s : Shared} {H : Hp} (B : Blt mg) (h_is_cell_by : Has P w K mg base k "is_cell_by" f_is_cell_by fd_is_cell_by ["net", "value"] γ_is_cell_by)
    (hr : Room k (A.deeper (envOfC "wrong_in_lot" (defScope s_wrong_in_lot) s.heap.objs.size f cdv))) (hgd : (A.deeper (envOfC "wrong_in_lot" (defScope s_wrong_in_lot) s.heap.objs.size f cdv)).guards = some []) :
    GSs (cxOf CX0 P w K mg base N_wrong_in_lot "wrong_in_lot" (defScope s_wrong_in_lot) f cdv A outer s H E0).nox (defBody s_wrong_in_lot) (body_wrong_in_lot γ_is_cell_by) := by
  exact gss_cons (gs_if (gw_pt (gw_or (gt_not (gt_val (g_callB c_isi (by rfl) B.isinstance bt_isinstance (ga_cons (g_var 1) (ga_cons (g_bltn (d := .ty "tuple") (v := .ty "tuple") (by rfl) B.tuple bt_tuple rfl (fun _ _ => rfl)) (ga_nil)))))) (gw_or1 (gt_cmp o_lt (g_callB c_len (by rfl) B.len bt_len (ga_cons (g_var 1) (ga_nil))) (g_var 2))))) (gss_one (gs_ret (g_lst (ga_cons (g_non) (ga_nil))))) (gss_nil))
    (gss_cons (gs_for PassesOwn.never rfl (gi_enum (by rfl) B.enumerate (ga_cons (g_var 1) (ga_nil))) (gg_tup rfl (ggs_cons (gg_name 3 sc_wrong_in_lot.nd) (ggs_cons (gg_name 4 sc_wrong_in_lot.nd) (ggs_nil)))) (gss_one (gs_if (gw_pt (gw_or (gt_not (gt_val (g_call h_is_cell_by hr hgd (Nat.le_refl _) (by rfl) (ga_cons (g_var 0) (ga_cons (g_var 4) (ga_nil)))))) (gw_or1 (gw_pt (gw_and (gt_cmp o_gt (g_var 3) (g_int)) (gw_and1 (gt_cmp o_ge (g_ix o_ix (g_var 1) (g_bin o_sub (g_var 3) (g_int))) (g_var 4)))))))) (gss_one (gs_ret (g_lst (ga_cons (g_var 3) (ga_nil))))) (gss_nil))))
    (gss_one (gs_ret (g_lst (ga_nil)))))
abbrev s_is_helping_by : Stmt := topS 28
abbrev N_is_helping_by : List Str := ["net", "row", "each"]
theorem sc_is_helping_by : FnScope N_is_helping_by ["net"] (defScope s_is_helping_by) := ⟨rfl, rfl, rfl, by decide +kernel, rfl, by decide +kernel, by decide +kernel⟩
theorem tm_is_helping_by {f : Addr} {cdv : Value} {A : Around} {outer : List Env} {s : Shared} {H : Hp} (B : Blt mg)
    (hr : Room k (A.deeper (envOfC "is_helping_by" (defScope s_is_helping_by) s.heap.objs.size f cdv))) (hgd : (A.deeper (envOfC "is_helping_by" (defScope s_is_helping_by) s.heap.objs.size f cdv)).guards = some []) :
    GSs (cxOf CX0 P w K mg base N_is_helping_by "is_helping_by" (defScope s_is_helping_by) f cdv A outer s H E0).nox (defBody s_is_helping_by) (body_is_helping_by) := by
  exact gss_one (gs_ret (g_callB (c_all rfl) (by rfl) B.all bt_all (ga_cons (g_lc2 (own := [("row", 1), ("each", 2)]) (vs1 := [2]) rfl sc_is_helping_by.nd (gi_seq (g_ix o_ix (g_var 0) (g_int))) (blkOk_by (own := [("row", 1), ("each", 2)]) (N := N_is_helping_by) (sc := defScope s_is_helping_by) (by decide +kernel)) (by decide) (fun _ _ _ _ _ => ggc_name 1 sc_is_helping_by.nd) (fun _ _ _ _ _ => gts_nil) (fun _ _ _ _ _ => gi_seq (g_var 1)) (fun _ _ _ _ _ => ggc_name 2 sc_is_helping_by.nd) (fun _ _ _ _ _ => gts_nil) (fun _ _ _ _ _ => g_cmp o_ge (g_ix o_ix (g_var 2) (g_int)) (g_int))) (ga_nil))))
abbrev s_check_helping : Stmt := topS 46
abbrev N_check_helping : List Str := ["net"]
theorem sc_check_helping : FnScope N_check_helping ["net"] (defScope s_check_helping) := ⟨rfl, rfl, rfl, by decide +kernel, rfl, by decide +kernel, by decide +kernel⟩
theorem tm_check_helping {γ_is_helping_by : OL} {f_is_helping_by : Addr} {fd_is_helping_by : FuncData} {f : Addr} {cdv : Value} {A : Around} {outer : List Env} {s : Shared} {H : Hp} (B : Blt mg) (h_is_helping_by : Has P w K mg base k "is_helping_by" f_is_helping_by fd_is_helping_by ["net"] γ_is_helping_by)
    (hr : Room k (A.deeper (envOfC "check_helping" (defScope s_check_helping) s.heap.objs.size f cdv))) (hgd : (A.deeper (envOfC "check_helping" (defScope s_check_helping) s.heap.objs.size f cdv)).guards = some []) :
    GSs (cxOf CX0 P w K mg base N_check_helping "check_helping" (defScope s_check_helping) f cdv A outer s H E0).nox (defBody s_check_helping) (body_check_helping γ_is_helping_by) := by
  exact gss_one (gs_if (gt_not (gt_val (g_call h_is_helping_by hr hgd (Nat.le_refl _) (by rfl) (ga_cons (g_var 0) (ga_nil))))) (gss_one (gs_never)) (gss_nil))
abbrev s_check_lot : Stmt := topS 47
abbrev N_check_lot : List Str := ["net", "value", "least", "index"]
theorem sc_check_lot : FnScope N_check_lot ["net", "value", "least"] (defScope s_check_lot) := ⟨rfl, rfl, rfl, by decide +kernel, rfl, by decide +kernel, by decide +kernel⟩
theorem tm_check_lot {γ_check_net γ_wrong_in_lot γ_check_helping : OL} {f_check_net f_wrong_in_lot f_check_helping : Addr} {fd_check_net fd_wrong_in_lot fd_check_helping : FuncData} {f : Addr} {cdv : Value} {A : Around} {outer : List Env} {s : Shared} {H : Hp} (B : Blt mg) (h_check_net : Has P w K mg base k "check_net" f_check_net fd_check_net ["value"] γ_check_net) (h_wrong_in_lot : Has P w K mg base k "wrong_in_lot" f_wrong_in_lot fd_wrong_in_lot ["net", "value", "least"] γ_wrong_in_lot) (h_check_helping : Has P w K mg base k "check_helping" f_check_helping fd_check_helping ["net"] γ_check_helping)
    (hr : Room k (A.deeper (envOfC "check_lot" (defScope s_check_lot) s.heap.objs.size f cdv))) (hgd : (A.deeper (envOfC "check_lot" (defScope s_check_lot) s.heap.objs.size f cdv)).guards = some []) :
    GSs (cxOf CX0 P w K mg base N_check_lot "check_lot" (defScope s_check_lot) f cdv A outer s H E0).nox (defBody s_check_lot) (body_check_lot γ_check_net γ_wrong_in_lot γ_check_helping) := by
  exact gss_cons (gs_expr (g_call h_check_net hr hgd (Nat.le_refl _) (by rfl) (ga_cons (g_var 0) (ga_nil))))
    (gss_cons (gs_for PassesOwn.never rfl (gi_seq (g_call h_wrong_in_lot hr hgd (Nat.le_refl _) (by rfl) (ga_cons (g_var 0) (ga_cons (g_var 1) (ga_cons (g_var 2) (ga_nil)))))) (gg_name 3 sc_check_lot.nd) (gss_one (gs_never)))
    (gss_one (gs_expr (g_call h_check_helping hr hgd (Nat.le_refl _) (by rfl) (ga_cons (g_var 0) (ga_nil))))))
abbrev s_on_in : Stmt := topS 31
abbrev N_on_in : List Str := ["state", "cell", "each"]
theorem sc_on_in : FnScope N_on_in ["state"] (defScope s_on_in) := ⟨rfl, rfl, rfl, by decide +kernel, rfl, by decide +kernel, by decide +kernel⟩
theorem tm_on_in {f : Addr} {cdv : Value} {A : Around} {outer : List Env} {s : Shared} {H : Hp} (B : Blt mg)
    (hr : Room k (A.deeper (envOfC "on_in" (defScope s_on_in) s.heap.objs.size f cdv))) (hgd : (A.deeper (envOfC "on_in" (defScope s_on_in) s.heap.objs.size f cdv)).guards = some []) :
    GSs (cxOf CX0 P w K mg base N_on_in "on_in" (defScope s_on_in) f cdv A outer s H E0).nox (defBody s_on_in) (body_on_in) := by
  exact gss_one (gs_ret (g_callTy c_tuple (by rfl) B.tuple bt_tuple (ga_cons (g_lc (own := [("cell", 1), ("each", 2)])  rfl sc_on_in.nd (gi_enum (by rfl) B.enumerate (ga_cons (g_var 0) (ga_nil))) (blkOk_by (own := [("cell", 1), ("each", 2)]) (N := N_on_in) (sc := defScope s_on_in) (by decide +kernel)) (fun _ _ _ _ _ => ggc_tup rfl (ggcs_cons (ggc_name 1 sc_on_in.nd) (ggcs_cons (ggc_name 2 sc_on_in.nd) (ggcs_nil)))) (fun _ _ _ _ _ => gts_one (gt_cmp (o_eq hr.units) (g_var 2) (g_int))) (fun _ _ _ _ _ => g_var 1)) (ga_nil))))
abbrev s_grown_by : Stmt := topS 32
abbrev N_grown_by : List Str := ["state", "other", "here", "there"]
theorem sc_grown_by : FnScope N_grown_by ["state", "other"] (defScope s_grown_by) := ⟨rfl, rfl, rfl, by decide +kernel, rfl, by decide +kernel, by decide +kernel⟩
theorem tm_grown_by {f : Addr} {cdv : Value} {A : Around} {outer : List Env} {s : Shared} {H : Hp} (B : Blt mg)
    (hr : Room k (A.deeper (envOfC "grown_by" (defScope s_grown_by) s.heap.objs.size f cdv))) (hgd : (A.deeper (envOfC "grown_by" (defScope s_grown_by) s.heap.objs.size f cdv)).guards = some []) :
    GSs (cxOf CX0 P w K mg base N_grown_by "grown_by" (defScope s_grown_by) f cdv A outer s H E0).nox (defBody s_grown_by) (body_grown_by) := by
  exact gss_one (gs_ret (g_callTy c_tuple (by rfl) B.tuple bt_tuple (ga_cons (g_lc (own := [("here", 2), ("there", 3)])  rfl sc_grown_by.nd (gi_zip (by rfl) B.zip (ga_cons (g_var 0) (ga_cons (g_var 1) (ga_nil)))) (blkOk_by (own := [("here", 2), ("there", 3)]) (N := N_grown_by) (sc := defScope s_grown_by) (by decide +kernel)) (fun _ _ _ _ _ => ggc_tup rfl (ggcs_cons (ggc_name 2 sc_grown_by.nd) (ggcs_cons (ggc_name 3 sc_grown_by.nd) (ggcs_nil)))) (fun _ _ _ _ _ => gts_nil) (fun _ _ _ _ _ => g_callB (c_max2 rfl) (by rfl) B.max bt_max (ga_cons (g_var 2) (ga_cons (g_var 3) (ga_nil))))) (ga_nil))))
abbrev s_is_less : Stmt := topS 15
abbrev N_is_less : List Str := ["one", "two"]
theorem sc_is_less : FnScope N_is_less ["one", "two"] (defScope s_is_less) := ⟨rfl, rfl, rfl, by decide +kernel, rfl, by decide +kernel, by decide +kernel⟩
theorem tm_is_less {f : Addr} {cdv : Value} {A : Around} {outer : List Env} {s : Shared} {H : Hp} (B : Blt mg)
    (hr : Room k (A.deeper (envOfC "is_less" (defScope s_is_less) s.heap.objs.size f cdv))) (hgd : (A.deeper (envOfC "is_less" (defScope s_is_less) s.heap.objs.size f cdv)).guards = some []) :
    GSs (cxOf CX0 P w K mg base N_is_less "is_less" (defScope s_is_less) f cdv A outer s H E0).nox (defBody s_is_less) (body_is_less) := by
  exact gss_one (gs_ret (g_cmp o_lt (g_bin o_mul (g_ix o_ix (g_var 0) (g_int)) (g_ix o_ix (g_var 1) (g_int))) (g_bin o_mul (g_ix o_ix (g_var 1) (g_int)) (g_ix o_ix (g_var 0) (g_int)))))
abbrev s_ratio : Stmt := topS 13
abbrev N_ratio : List Str := ["top", "low", "part"]
theorem sc_ratio : FnScope N_ratio ["top", "low"] (defScope s_ratio) := ⟨rfl, rfl, rfl, by decide +kernel, rfl, by decide +kernel, by decide +kernel⟩
theorem tm_ratio {f : Addr} {cdv : Value} {A : Around} {outer : List Env} {s : Shared} {H : Hp} (B : Blt mg) (m_gcd : mg "gcd" = some (.builtin "math.gcd"))
    (hr : Room k (A.deeper (envOfC "ratio" (defScope s_ratio) s.heap.objs.size f cdv))) (hgd : (A.deeper (envOfC "ratio" (defScope s_ratio) s.heap.objs.size f cdv)).guards = some []) :
    GSs (cxOf CX0 P w K mg base N_ratio "ratio" (defScope s_ratio) f cdv A outer s H E0).nox (defBody s_ratio) (body_ratio) := by
  exact gss_cons (gs_set 2 sc_ratio.nd (g_ifExp (gt_cmp o_gt (g_var 1) (g_int)) (g_callBfun c_gcd (by rfl) m_gcd (ga_cons (g_var 0) (ga_cons (g_var 1) (ga_nil)))) (g_un o_neg (g_callBfun c_gcd (by rfl) m_gcd (ga_cons (g_var 0) (ga_cons (g_var 1) (ga_nil)))))))
    (gss_one (gs_ret (g_tup (ga_cons (g_bin o_fdiv (g_var 0) (g_var 2)) (ga_cons (g_bin o_fdiv (g_var 1) (g_var 2)) (ga_nil))))))
abbrev s_plus : Stmt := topS 14
abbrev N_plus : List Str := ["one", "two"]
theorem sc_plus : FnScope N_plus ["one", "two"] (defScope s_plus) := ⟨rfl, rfl, rfl, by decide +kernel, rfl, by decide +kernel, by decide +kernel⟩
theorem tm_plus {γ_ratio : OL} {f_ratio : Addr} {fd_ratio : FuncData} {f : Addr} {cdv : Value} {A : Around} {outer : List Env} {s : Shared} {H : Hp} (B : Blt mg) (h_ratio : Has P w K mg base k "ratio" f_ratio fd_ratio ["top", "low"] γ_ratio)
    (hr : Room k (A.deeper (envOfC "plus" (defScope s_plus) s.heap.objs.size f cdv))) (hgd : (A.deeper (envOfC "plus" (defScope s_plus) s.heap.objs.size f cdv)).guards = some []) :
    GSs (cxOf CX0 P w K mg base N_plus "plus" (defScope s_plus) f cdv A outer s H E0).nox (defBody s_plus) (body_plus γ_ratio) := by
  exact gss_one (gs_ret (g_call h_ratio hr hgd (Nat.le_refl _) (by rfl) (ga_cons (g_bin o_add (g_bin o_mul (g_ix o_ix (g_var 0) (g_int)) (g_ix o_ix (g_var 1) (g_int))) (g_bin o_mul (g_ix o_ix (g_var 1) (g_int)) (g_ix o_ix (g_var 0) (g_int)))) (ga_cons (g_bin o_mul (g_ix o_ix (g_var 0) (g_int)) (g_ix o_ix (g_var 1) (g_int))) (ga_nil)))))
abbrev s_total : Stmt := topS 16
abbrev N_total : List Str := ["fractions", "found", "each"]
theorem sc_total : FnScope N_total ["fractions"] (defScope s_total) := ⟨rfl, rfl, rfl, by decide +kernel, rfl, by decide +kernel, by decide +kernel⟩
theorem tm_total {γ_plus : OL} {f_plus : Addr} {fd_plus : FuncData} {d_ZERO : D} {f : Addr} {cdv : Value} {A : Around} {outer : List Env} {s : Shared} {H : Hp} (B : Blt mg) (c_ZERO : Cst K mg "ZERO" d_ZERO) (h_plus : Has P w K mg base k "plus" f_plus fd_plus ["one", "two"] γ_plus)
    (hr : Room k (A.deeper (envOfC "total" (defScope s_total) s.heap.objs.size f cdv))) (hgd : (A.deeper (envOfC "total" (defScope s_total) s.heap.objs.size f cdv)).guards = some []) :
    GSs (cxOf CX0 P w K mg base N_total "total" (defScope s_total) f cdv A outer s H E0).nox (defBody s_total) (body_total γ_plus d_ZERO) := by
  exact gss_cons (gs_set 1 sc_total.nd (g_cst c_ZERO (by rfl)))
    (gss_cons (gs_for PassesOwn.never rfl (gi_seq (g_var 0)) (gg_name 2 sc_total.nd) (gss_one (gs_set 1 sc_total.nd (g_call h_plus hr hgd (Nat.le_refl _) (by rfl) (ga_cons (g_var 1) (ga_cons (g_var 2) (ga_nil)))))))
    (gss_one (gs_ret (g_var 1))))
abbrev s_heard_by : Stmt := topS 23
abbrev N_heard_by : List Str := ["net", "cell", "state", "weight", "each"]
theorem sc_heard_by : FnScope N_heard_by ["net", "cell", "state"] (defScope s_heard_by) := ⟨rfl, rfl, rfl, by decide +kernel, rfl, by decide +kernel, by decide +kernel⟩
theorem tm_heard_by {γ_total : OL} {f_total : Addr} {fd_total : FuncData} {f : Addr} {cdv : Value} {A : Around} {outer : List Env} {s : Shared} {H : Hp} (B : Blt mg) (h_total : Has P w K mg base k "total" f_total fd_total ["fractions"] γ_total)
    (hr : Room k (A.deeper (envOfC "heard_by" (defScope s_heard_by) s.heap.objs.size f cdv))) (hgd : (A.deeper (envOfC "heard_by" (defScope s_heard_by) s.heap.objs.size f cdv)).guards = some []) :
    GSs (cxOf CX0 P w K mg base N_heard_by "heard_by" (defScope s_heard_by) f cdv A outer s H E0).nox (defBody s_heard_by) (body_heard_by γ_total) := by
  exact gss_one (gs_ret (g_call h_total hr hgd (Nat.le_refl _) (by rfl) (ga_cons (g_lc (own := [("weight", 3), ("each", 4)])  rfl sc_heard_by.nd (gi_zip (by rfl) B.zip (ga_cons (g_ix o_ix (g_ix o_ix (g_var 0) (g_int)) (g_var 1)) (ga_cons (g_var 2) (ga_nil)))) (blkOk_by (own := [("weight", 3), ("each", 4)]) (N := N_heard_by) (sc := defScope s_heard_by) (by decide +kernel)) (fun _ _ _ _ _ => ggc_tup rfl (ggcs_cons (ggc_name 3 sc_heard_by.nd) (ggcs_cons (ggc_name 4 sc_heard_by.nd) (ggcs_nil)))) (fun _ _ _ _ _ => gts_one (gt_cmp (o_eq hr.units) (g_var 4) (g_int))) (fun _ _ _ _ _ => g_var 3)) (ga_nil))))
abbrev s_wanted_by : Stmt := topS 24
abbrev N_wanted_by : List Str := ["net", "state", "cell"]
theorem sc_wanted_by : FnScope N_wanted_by ["net", "state"] (defScope s_wanted_by) := ⟨rfl, rfl, rfl, by decide +kernel, rfl, by decide +kernel, by decide +kernel⟩
theorem tm_wanted_by {γ_many_cells γ_is_less γ_heard_by : OL} {f_many_cells f_is_less f_heard_by : Addr} {fd_many_cells fd_is_less fd_heard_by : FuncData} {f : Addr} {cdv : Value} {A : Around} {outer : List Env} {s : Shared} {H : Hp} (B : Blt mg) (h_many_cells : Has P w K mg base k "many_cells" f_many_cells fd_many_cells ["net"] γ_many_cells) (h_is_less : Has P w K mg base k "is_less" f_is_less fd_is_less ["one", "two"] γ_is_less) (h_heard_by : Has P w K mg base k "heard_by" f_heard_by fd_heard_by ["net", "cell", "state"] γ_heard_by)
    (hr : Room k (A.deeper (envOfC "wanted_by" (defScope s_wanted_by) s.heap.objs.size f cdv))) (hgd : (A.deeper (envOfC "wanted_by" (defScope s_wanted_by) s.heap.objs.size f cdv)).guards = some []) :
    GSs (cxOf CX0 P w K mg base N_wanted_by "wanted_by" (defScope s_wanted_by) f cdv A outer s H E0).nox (defBody s_wanted_by) (body_wanted_by γ_many_cells γ_is_less γ_heard_by) := by
  exact gss_one (gs_ret (g_callTy c_tuple (by rfl) B.tuple bt_tuple (ga_cons (g_lc (own := [("cell", 2)])  rfl sc_wanted_by.nd (gi_range1 (by rfl) B.range (ga_cons (g_call h_many_cells hr hgd (Nat.le_refl _) (by rfl) (ga_cons (g_var 0) (ga_nil))) (ga_nil))) (blkOk_by (own := [("cell", 2)]) (N := N_wanted_by) (sc := defScope s_wanted_by) (by decide +kernel)) (fun _ _ _ _ _ => ggc_name 2 sc_wanted_by.nd) (fun _ _ _ _ _ => gts_nil) (fun _ _ _ _ _ => g_ifExp (gt_val (g_call h_is_less hr hgd (Nat.le_refl _) (by rfl) (ga_cons (g_ix o_ix (g_ix o_ix (g_var 0) (g_int)) (g_var 2)) (ga_cons (g_call h_heard_by hr hgd (Nat.le_refl _) (by rfl) (ga_cons (g_var 0) (ga_cons (g_var 2) (ga_cons (g_var 1) (ga_nil))))) (ga_nil))))) (g_int) (g_int))) (ga_nil))))
abbrev s_risen : Stmt := topS 33
abbrev N_risen : List Str := ["net", "state", "found"]
theorem sc_risen : FnScope N_risen ["net", "state"] (defScope s_risen) := ⟨rfl, rfl, rfl, by decide +kernel, rfl, by decide +kernel, by decide +kernel⟩
theorem tm_risen {γ_grown_by γ_wanted_by : OL} {f_grown_by f_wanted_by : Addr} {fd_grown_by fd_wanted_by : FuncData} {f : Addr} {cdv : Value} {A : Around} {outer : List Env} {s : Shared} {H : Hp} (B : Blt mg) (h_grown_by : Has P w K mg base k "grown_by" f_grown_by fd_grown_by ["state", "other"] γ_grown_by) (h_wanted_by : Has P w K mg base k "wanted_by" f_wanted_by fd_wanted_by ["net", "state"] γ_wanted_by)
    (hr : Room k (A.deeper (envOfC "risen" (defScope s_risen) s.heap.objs.size f cdv))) (hgd : (A.deeper (envOfC "risen" (defScope s_risen) s.heap.objs.size f cdv)).guards = some []) :
    GSs (cxOf CX0 P w K mg base N_risen "risen" (defScope s_risen) f cdv A outer s H E0).nox (defBody s_risen) (body_risen γ_grown_by γ_wanted_by) := by
  exact gss_cons (gs_set 2 sc_risen.nd (g_call h_grown_by hr hgd (Nat.le_refl _) (by rfl) (ga_cons (g_var 1) (ga_cons (g_call h_wanted_by hr hgd (Nat.le_refl _) (by rfl) (ga_cons (g_var 0) (ga_cons (g_var 1) (ga_nil)))) (ga_nil)))))
    (gss_cons (gs_while PassesOwn.never (gt_cmp (o_ne hr.units) (g_var 2) (g_var 1)) (gss_one (gs_par 1 2 rfl sc_risen.nd (ga_cons (g_var 2) (ga_cons (g_call h_grown_by hr hgd (Nat.le_refl _) (by rfl) (ga_cons (g_var 2) (ga_cons (g_call h_wanted_by hr hgd (Nat.le_refl _) (by rfl) (ga_cons (g_var 0) (ga_cons (g_var 2) (ga_nil)))) (ga_nil)))) (ga_nil))))))
    (gss_one (gs_ret (g_var 2))))
abbrev s_lit_by : Stmt := topS 30
abbrev N_lit_by : List Str := ["net", "lot", "cell"]
theorem sc_lit_by : FnScope N_lit_by ["net", "lot"] (defScope s_lit_by) := ⟨rfl, rfl, rfl, by decide +kernel, rfl, by decide +kernel, by decide +kernel⟩
theorem tm_lit_by {γ_many_cells : OL} {f_many_cells : Addr} {fd_many_cells : FuncData} {f : Addr} {cdv : Value} {A : Around} {outer : List Env} {s : Shared} {H : Hp} (B : Blt mg) (h_many_cells : Has P w K mg base k "many_cells" f_many_cells fd_many_cells ["net"] γ_many_cells)
    (hr : Room k (A.deeper (envOfC "lit_by" (defScope s_lit_by) s.heap.objs.size f cdv))) (hgd : (A.deeper (envOfC "lit_by" (defScope s_lit_by) s.heap.objs.size f cdv)).guards = some []) :
    GSs (cxOf CX0 P w K mg base N_lit_by "lit_by" (defScope s_lit_by) f cdv A outer s H E0).nox (defBody s_lit_by) (body_lit_by γ_many_cells) := by
  exact gss_one (gs_ret (g_callTy c_tuple (by rfl) B.tuple bt_tuple (ga_cons (g_lc (own := [("cell", 2)])  rfl sc_lit_by.nd (gi_range1 (by rfl) B.range (ga_cons (g_call h_many_cells hr hgd (Nat.le_refl _) (by rfl) (ga_cons (g_var 0) (ga_nil))) (ga_nil))) (blkOk_by (own := [("cell", 2)]) (N := N_lit_by) (sc := defScope s_lit_by) (by decide +kernel)) (fun _ _ _ _ _ => ggc_name 2 sc_lit_by.nd) (fun _ _ _ _ _ => gts_nil) (fun _ _ _ _ _ => g_ifExp (gt_cmp (o_in (Room_units65 hr)) (g_var 2) (g_var 1)) (g_int) (g_int))) (ga_nil))))
abbrev s_spread_by : Stmt := topS 34
abbrev N_spread_by : List Str := ["net", "seeds"]
theorem sc_spread_by : FnScope N_spread_by ["net", "seeds"] (defScope s_spread_by) := ⟨rfl, rfl, rfl, by decide +kernel, rfl, by decide +kernel, by decide +kernel⟩
theorem tm_spread_by {γ_on_in γ_risen γ_lit_by : OL} {f_on_in f_risen f_lit_by : Addr} {fd_on_in fd_risen fd_lit_by : FuncData} {f : Addr} {cdv : Value} {A : Around} {outer : List Env} {s : Shared} {H : Hp} (B : Blt mg) (h_on_in : Has P w K mg base k "on_in" f_on_in fd_on_in ["state"] γ_on_in) (h_risen : Has P w K mg base k "risen" f_risen fd_risen ["net", "state"] γ_risen) (h_lit_by : Has P w K mg base k "lit_by" f_lit_by fd_lit_by ["net", "lot"] γ_lit_by)
    (hr : Room k (A.deeper (envOfC "spread_by" (defScope s_spread_by) s.heap.objs.size f cdv))) (hgd : (A.deeper (envOfC "spread_by" (defScope s_spread_by) s.heap.objs.size f cdv)).guards = some []) :
    GSs (cxOf CX0 P w K mg base N_spread_by "spread_by" (defScope s_spread_by) f cdv A outer s H E0).nox (defBody s_spread_by) (body_spread_by γ_on_in γ_risen γ_lit_by) := by
  exact gss_one (gs_ret (g_call h_on_in hr hgd (Nat.le_refl _) (by rfl) (ga_cons (g_call h_risen hr hgd (Nat.le_refl _) (by rfl) (ga_cons (g_var 0) (ga_cons (g_call h_lit_by hr hgd (Nat.le_refl _) (by rfl) (ga_cons (g_var 0) (ga_cons (g_var 1) (ga_nil)))) (ga_nil)))) (ga_nil))))
abbrev s_does_light_by : Stmt := topS 35
abbrev N_does_light_by : List Str := ["net", "seeds"]
theorem sc_does_light_by : FnScope N_does_light_by ["net", "seeds"] (defScope s_does_light_by) := ⟨rfl, rfl, rfl, by decide +kernel, rfl, by decide +kernel, by decide +kernel⟩
theorem tm_does_light_by {γ_spread_by γ_many_cells : OL} {f_spread_by f_many_cells : Addr} {fd_spread_by fd_many_cells : FuncData} {f : Addr} {cdv : Value} {A : Around} {outer : List Env} {s : Shared} {H : Hp} (B : Blt mg) (h_spread_by : Has P w K mg base k "spread_by" f_spread_by fd_spread_by ["net", "seeds"] γ_spread_by) (h_many_cells : Has P w K mg base k "many_cells" f_many_cells fd_many_cells ["net"] γ_many_cells)
    (hr : Room k (A.deeper (envOfC "does_light_by" (defScope s_does_light_by) s.heap.objs.size f cdv))) (hgd : (A.deeper (envOfC "does_light_by" (defScope s_does_light_by) s.heap.objs.size f cdv)).guards = some []) :
    GSs (cxOf CX0 P w K mg base N_does_light_by "does_light_by" (defScope s_does_light_by) f cdv A outer s H E0).nox (defBody s_does_light_by) (body_does_light_by γ_spread_by γ_many_cells) := by
  exact gss_one (gs_ret (g_cmp (o_eq hr.units) (g_callB c_len (by rfl) B.len bt_len (ga_cons (g_call h_spread_by hr hgd (Nat.le_refl _) (by rfl) (ga_cons (g_var 0) (ga_cons (g_var 1) (ga_nil)))) (ga_nil))) (g_call h_many_cells hr hgd (Nat.le_refl _) (by rfl) (ga_cons (g_var 0) (ga_nil)))))
abbrev s_does_light : Stmt := topS 50
abbrev N_does_light : List Str := ["net", "seeds"]
theorem sc_does_light : FnScope N_does_light ["net", "seeds"] (defScope s_does_light) := ⟨rfl, rfl, rfl, by decide +kernel, rfl, by decide +kernel, by decide +kernel⟩
theorem tm_does_light {γ_check_lot γ_does_light_by : OL} {f_check_lot f_does_light_by : Addr} {fd_check_lot fd_does_light_by : FuncData} {f : Addr} {cdv : Value} {A : Around} {outer : List Env} {s : Shared} {H : Hp} (B : Blt mg) (h_check_lot : Has P w K mg base k "check_lot" f_check_lot fd_check_lot ["net", "value", "least"] γ_check_lot) (h_does_light_by : Has P w K mg base k "does_light_by" f_does_light_by fd_does_light_by ["net", "seeds"] γ_does_light_by)
    (hr : Room k (A.deeper (envOfC "does_light" (defScope s_does_light) s.heap.objs.size f cdv))) (hgd : (A.deeper (envOfC "does_light" (defScope s_does_light) s.heap.objs.size f cdv)).guards = some []) :
    GSs (cxOf CX0 P w K mg base N_does_light "does_light" (defScope s_does_light) f cdv A outer s H E0).nox (defBody s_does_light) (body_does_light γ_check_lot γ_does_light_by) := by
  exact gss_cons (gs_expr (g_call h_check_lot hr hgd (Nat.le_refl _) (by rfl) (ga_cons (g_var 0) (ga_cons (g_var 1) (ga_cons (g_int) (ga_nil))))))
    (gss_one (gs_ret (g_call h_does_light_by hr hgd (Nat.le_refl _) (by rfl) (ga_cons (g_var 0) (ga_cons (g_var 1) (ga_nil))))))
abbrev s_spread : Stmt := topS 49
abbrev N_spread : List Str := ["net", "seeds"]
theorem sc_spread : FnScope N_spread ["net", "seeds"] (defScope s_spread) := ⟨rfl, rfl, rfl, by decide +kernel, rfl, by decide +kernel, by decide +kernel⟩
theorem tm_spread {γ_check_lot γ_spread_by : OL} {f_check_lot f_spread_by : Addr} {fd_check_lot fd_spread_by : FuncData} {f : Addr} {cdv : Value} {A : Around} {outer : List Env} {s : Shared} {H : Hp} (B : Blt mg) (h_check_lot : Has P w K mg base k "check_lot" f_check_lot fd_check_lot ["net", "value", "least"] γ_check_lot) (h_spread_by : Has P w K mg base k "spread_by" f_spread_by fd_spread_by ["net", "seeds"] γ_spread_by)
    (hr : Room k (A.deeper (envOfC "spread" (defScope s_spread) s.heap.objs.size f cdv))) (hgd : (A.deeper (envOfC "spread" (defScope s_spread) s.heap.objs.size f cdv)).guards = some []) :
    GSs (cxOf CX0 P w K mg base N_spread "spread" (defScope s_spread) f cdv A outer s H E0).nox (defBody s_spread) (body_spread γ_check_lot γ_spread_by) := by
  exact gss_cons (gs_expr (g_call h_check_lot hr hgd (Nat.le_refl _) (by rfl) (ga_cons (g_var 0) (ga_cons (g_var 1) (ga_cons (g_int) (ga_nil))))))
    (gss_one (gs_ret (g_call h_spread_by hr hgd (Nat.le_refl _) (by rfl) (ga_cons (g_var 0) (ga_cons (g_var 1) (ga_nil))))))
abbrev s_cells_beyond : Stmt := topS 36
abbrev N_cells_beyond : List Str := ["net", "lot", "cell"]
theorem sc_cells_beyond : FnScope N_cells_beyond ["net", "lot"] (defScope s_cells_beyond) := ⟨rfl, rfl, rfl, by decide +kernel, rfl, by decide +kernel, by decide +kernel⟩
theorem tm_cells_beyond {γ_many_cells : OL} {f_many_cells : Addr} {fd_many_cells : FuncData} {f : Addr} {cdv : Value} {A : Around} {outer : List Env} {s : Shared} {H : Hp} (B : Blt mg) (h_many_cells : Has P w K mg base k "many_cells" f_many_cells fd_many_cells ["net"] γ_many_cells)
    (hr : Room k (A.deeper (envOfC "cells_beyond" (defScope s_cells_beyond) s.heap.objs.size f cdv))) (hgd : (A.deeper (envOfC "cells_beyond" (defScope s_cells_beyond) s.heap.objs.size f cdv)).guards = some []) :
    GSs (cxOf CX0 P w K mg base N_cells_beyond "cells_beyond" (defScope s_cells_beyond) f cdv A outer s H E0).nox (defBody s_cells_beyond) (body_cells_beyond γ_many_cells) := by
  exact gss_one (gs_ret (g_callTy c_tuple (by rfl) B.tuple bt_tuple (ga_cons (g_lc (own := [("cell", 2)])  rfl sc_cells_beyond.nd (gi_range1 (by rfl) B.range (ga_cons (g_call h_many_cells hr hgd (Nat.le_refl _) (by rfl) (ga_cons (g_var 0) (ga_nil))) (ga_nil))) (blkOk_by (own := [("cell", 2)]) (N := N_cells_beyond) (sc := defScope s_cells_beyond) (by decide +kernel)) (fun _ _ _ _ _ => ggc_name 2 sc_cells_beyond.nd) (fun _ _ _ _ _ => gts_one (gt_cmp (o_nin (Room_units65 hr)) (g_var 2) (g_var 1))) (fun _ _ _ _ _ => g_var 2)) (ga_nil))))
abbrev s_is_stubborn_by : Stmt := topS 37
abbrev N_is_stubborn_by : List Str := ["net", "lot", "wanted", "cell"]
theorem sc_is_stubborn_by : FnScope N_is_stubborn_by ["net", "lot"] (defScope s_is_stubborn_by) := ⟨rfl, rfl, rfl, by decide +kernel, rfl, by decide +kernel, by decide +kernel⟩
theorem tm_is_stubborn_by {γ_wanted_by γ_lit_by γ_cells_beyond : OL} {f_wanted_by f_lit_by f_cells_beyond : Addr} {fd_wanted_by fd_lit_by fd_cells_beyond : FuncData} {f : Addr} {cdv : Value} {A : Around} {outer : List Env} {s : Shared} {H : Hp} (B : Blt mg) (h_wanted_by : Has P w K mg base k "wanted_by" f_wanted_by fd_wanted_by ["net", "state"] γ_wanted_by) (h_lit_by : Has P w K mg base k "lit_by" f_lit_by fd_lit_by ["net", "lot"] γ_lit_by) (h_cells_beyond : Has P w K mg base k "cells_beyond" f_cells_beyond fd_cells_beyond ["net", "lot"] γ_cells_beyond)
    (hr : Room k (A.deeper (envOfC "is_stubborn_by" (defScope s_is_stubborn_by) s.heap.objs.size f cdv))) (hgd : (A.deeper (envOfC "is_stubborn_by" (defScope s_is_stubborn_by) s.heap.objs.size f cdv)).guards = some []) :
    GSs (cxOf CX0 P w K mg base N_is_stubborn_by "is_stubborn_by" (defScope s_is_stubborn_by) f cdv A outer s H E0).nox (defBody s_is_stubborn_by) (body_is_stubborn_by γ_wanted_by γ_lit_by γ_cells_beyond) := by
  exact gss_cons (gs_set 2 sc_is_stubborn_by.nd (g_call h_wanted_by hr hgd (Nat.le_refl _) (by rfl) (ga_cons (g_var 0) (ga_cons (g_call h_lit_by hr hgd (Nat.le_refl _) (by rfl) (ga_cons (g_var 0) (ga_cons (g_call h_cells_beyond hr hgd (Nat.le_refl _) (by rfl) (ga_cons (g_var 0) (ga_cons (g_var 1) (ga_nil)))) (ga_nil)))) (ga_nil)))))
    (gss_one (gs_ret (g_callB (c_all rfl) (by rfl) B.all bt_all (ga_cons (g_lc (own := [("cell", 3)])  rfl sc_is_stubborn_by.nd (gi_seq (g_var 1)) (blkOk_by (own := [("cell", 3)]) (N := N_is_stubborn_by) (sc := defScope s_is_stubborn_by) (by decide +kernel)) (fun _ _ _ _ _ => ggc_name 3 sc_is_stubborn_by.nd) (fun _ _ _ _ _ => gts_nil) (fun _ _ _ _ _ => g_cmp (o_eq hr.units) (g_ix o_ix (g_var 2) (g_var 3)) (g_int))) (ga_nil)))))
abbrev s_is_stubborn : Stmt := topS 51
abbrev N_is_stubborn : List Str := ["net", "lot"]
theorem sc_is_stubborn : FnScope N_is_stubborn ["net", "lot"] (defScope s_is_stubborn) := ⟨rfl, rfl, rfl, by decide +kernel, rfl, by decide +kernel, by decide +kernel⟩
theorem tm_is_stubborn {γ_check_lot γ_is_stubborn_by : OL} {f_check_lot f_is_stubborn_by : Addr} {fd_check_lot fd_is_stubborn_by : FuncData} {f : Addr} {cdv : Value} {A : Around} {outer : List Env} {s : Shared} {H : Hp} (B : Blt mg) (h_check_lot : Has P w K mg base k "check_lot" f_check_lot fd_check_lot ["net", "value", "least"] γ_check_lot) (h_is_stubborn_by : Has P w K mg base k "is_stubborn_by" f_is_stubborn_by fd_is_stubborn_by ["net", "lot"] γ_is_stubborn_by)
    (hr : Room k (A.deeper (envOfC "is_stubborn" (defScope s_is_stubborn) s.heap.objs.size f cdv))) (hgd : (A.deeper (envOfC "is_stubborn" (defScope s_is_stubborn) s.heap.objs.size f cdv)).guards = some []) :
    GSs (cxOf CX0 P w K mg base N_is_stubborn "is_stubborn" (defScope s_is_stubborn) f cdv A outer s H E0).nox (defBody s_is_stubborn) (body_is_stubborn γ_check_lot γ_is_stubborn_by) := by
  exact gss_cons (gs_expr (g_call h_check_lot hr hgd (Nat.le_refl _) (by rfl) (ga_cons (g_var 0) (ga_cons (g_var 1) (ga_cons (g_int) (ga_nil))))))
    (gss_one (gs_ret (g_call h_is_stubborn_by hr hgd (Nat.le_refl _) (by rfl) (ga_cons (g_var 0) (ga_cons (g_var 1) (ga_nil))))))
abbrev s__law_lots_right : Stmt := topS 71
abbrev N__law_lots_right : List Str := ["net", "stubborn", "lights", "few", "number", "meets", "lot", "does", "each"]
theorem sc__law_lots_right : FnScope N__law_lots_right ["net", "stubborn", "lights"] (defScope s__law_lots_right) := ⟨rfl, rfl, rfl, by decide +kernel, rfl, by decide +kernel, by decide +kernel⟩
theorem tm__law_lots_right {γ__law_lot γ_does_light γ_spread γ_is_stubborn : OL} {f__law_lot f_does_light f_spread f_is_stubborn : Addr} {fd__law_lot fd_does_light fd_spread fd_is_stubborn : FuncData} {f : Addr} {cdv : Value} {A : Around} {outer : List Env} {s : Shared} {H : Hp} (B : Blt mg) (h__law_lot : Has P w K mg base k "_law_lot" f__law_lot fd__law_lot ["few", "number"] γ__law_lot) (h_does_light : Has P w K mg base k "does_light" f_does_light fd_does_light ["net", "seeds"] γ_does_light) (h_spread : Has P w K mg base k "spread" f_spread fd_spread ["net", "seeds"] γ_spread) (h_is_stubborn : Has P w K mg base k "is_stubborn" f_is_stubborn fd_is_stubborn ["net", "lot"] γ_is_stubborn) (kb_spread_0 : KB fd_spread ["net", "seeds"] ["seeds", "net"] 0 [1, 0]) (kb_is_stubborn_0 : KB fd_is_stubborn ["net", "lot"] ["lot", "net"] 0 [1, 0])
    (hr : Room k (A.deeper (envOfC "_law_lots_right" (defScope s__law_lots_right) s.heap.objs.size f cdv))) (hgd : (A.deeper (envOfC "_law_lots_right" (defScope s__law_lots_right) s.heap.objs.size f cdv)).guards = some []) :
    GSs (cxOf CX0 P w K mg base N__law_lots_right "_law_lots_right" (defScope s__law_lots_right) f cdv A outer s H E0).nox (defBody s__law_lots_right) (body__law_lots_right γ__law_lot γ_does_light γ_spread γ_is_stubborn) := by
  exact gss_cons (gs_set 3 sc__law_lots_right.nd (g_callB c_len (by rfl) B.len bt_len (ga_cons (g_ix o_ix (g_var 0) (g_int)) (ga_nil))))
    (gss_cons (gs_for PassesOwn.never rfl (gi_range1 (by rfl) B.range (ga_cons (g_bin o_shl (g_int) (g_var 3)) (ga_nil))) (gg_name 4 sc__law_lots_right.nd) (gss_cons (gs_par 6 7 rfl sc__law_lots_right.nd (ga_cons (g_call h__law_lot hr hgd (Nat.le_refl _) (by rfl) (ga_cons (g_var 3) (ga_cons (g_var 4) (ga_nil)))) (ga_cons (g_callB (c_repr hr hgd) (by rfl) B.repr bt_repr (ga_cons (g_cmp (o_in (Room_units65 hr)) (g_var 4) (g_var 2)) (ga_nil))) (ga_nil))))
    (gss_cons (gs_set 5 sc__law_lots_right.nd (g_callB (c_all rfl) (by rfl) B.all bt_all (ga_cons (g_lc (own := [("each", 8)])  rfl sc__law_lots_right.nd (gi_seq (g_var 1)) (blkOk_by (own := [("each", 8)]) (N := N__law_lots_right) (sc := defScope s__law_lots_right) (by decide +kernel)) (fun _ _ _ _ _ => ggc_name 8 sc__law_lots_right.nd) (fun _ _ _ _ _ => gts_nil) (fun _ _ _ _ _ => g_cmp (o_ne hr.units) (g_bin o_and (g_var 4) (g_var 8)) (g_int))) (ga_nil))))
    (gss_cons (gs_if (gw_pt (gw_or (gt_cmp o_neS (g_callB (c_repr hr hgd) (by rfl) B.repr bt_repr (ga_cons (g_call h_does_light hr hgd (Nat.le_refl _) (by rfl) (ga_cons (g_var 0) (ga_cons (g_var 6) (ga_nil)))) (ga_nil))) (g_var 7)) (gw_or1 (gt_cmp o_neS (g_callB (c_repr hr hgd) (by rfl) B.repr bt_repr (ga_cons (g_var 5) (ga_nil))) (g_var 7))))) (gss_one (gs_ret (g_bl))) (gss_nil))
    (gss_cons (gs_if (gt_cmp o_neS (g_callB (c_repr hr hgd) (by rfl) B.repr bt_repr (ga_cons (g_cmp (o_eq hr.units) (g_callB c_len (by rfl) B.len bt_len (ga_cons (g_callK0 h_spread kb_spread_0 hr hgd (Nat.le_refl _) (by rfl) (gk_cons (g_var 6) (gk_cons (g_var 0) (gk_nil)))) (ga_nil))) (g_var 3)) (ga_nil))) (g_var 7)) (gss_one (gs_ret (g_bl))) (gss_nil))
    (gss_one (gs_if (gw_pt (gw_and (gt_cmp o_gt (g_var 4) (g_int)) (gw_and1 (gt_cmp o_neS (g_callB (c_repr hr hgd) (by rfl) B.repr bt_repr (ga_cons (g_callK0 h_is_stubborn kb_is_stubborn_0 hr hgd (Nat.le_refl _) (by rfl) (gk_cons (g_var 6) (gk_cons (g_var 0) (gk_nil)))) (ga_nil))) (g_callB (c_repr hr hgd) (by rfl) B.repr bt_repr (ga_cons (g_cmp (o_in (Room_units65 hr)) (g_var 4) (g_var 1)) (ga_nil))))))) (gss_one (gs_ret (g_bl))) (gss_nil))))))))
    (gss_one (gs_ret (g_bl))))
abbrev s__law_least : Stmt := topS 69
abbrev N__law_least : List Str := ["numbers", "found", "number", "other"]
theorem sc__law_least : FnScope N__law_least ["numbers"] (defScope s__law_least) := ⟨rfl, rfl, rfl, by decide +kernel, rfl, by decide +kernel, by decide +kernel⟩
theorem tm__law_least {f : Addr} {cdv : Value} {A : Around} {outer : List Env} {s : Shared} {H : Hp} (B : Blt mg)
    (hr : Room k (A.deeper (envOfC "_law_least" (defScope s__law_least) s.heap.objs.size f cdv))) (hgd : (A.deeper (envOfC "_law_least" (defScope s__law_least) s.heap.objs.size f cdv)).guards = some []) :
    GSs (cxOf CX0 P w K mg base N__law_least "_law_least" (defScope s__law_least) f cdv A outer s H E0).nox (defBody s__law_least) (body__law_least) := by
  exact gss_cons (gs_set 1 sc__law_least.nd (g_lstM (ga_nil)))
    (gss_cons (gs_for PassesOwn.never rfl (gi_seq (g_var 0)) (gg_name 2 sc__law_least.nd) (gss_one (gs_if (gt_not (gt_val (g_callB (c_any rfl) (by rfl) B.any bt_any (ga_cons (g_lc (own := [("other", 3)])  rfl sc__law_least.nd (gi_seq (g_var 0)) (blkOk_by (own := [("other", 3)]) (N := N__law_least) (sc := defScope s__law_least) (by decide +kernel)) (fun _ _ _ _ _ => ggc_name 3 sc__law_least.nd) (fun _ _ _ _ _ => gts_nil) (fun _ _ _ _ _ => g_and (g_cmp (o_ne hr.units) (g_var 3) (g_var 2)) (g_one (g_cmp (o_eq hr.units) (g_bin o_and (g_var 3) (g_var 2)) (g_var 3))))) (ga_nil))))) (gss_one (gs_expr (g_mt F.slot_list_append F.type_list_append m_append (g_var 1) (ga_cons (g_var 2) (ga_nil))))) (gss_nil))))
    (gss_one (gs_ret (g_var 1))))
abbrev s_check_helping_net : Stmt := topS 48
abbrev N_check_helping_net : List Str := ["net"]
theorem sc_check_helping_net : FnScope N_check_helping_net ["net"] (defScope s_check_helping_net) := ⟨rfl, rfl, rfl, by decide +kernel, rfl, by decide +kernel, by decide +kernel⟩
theorem tm_check_helping_net {γ_check_net γ_check_helping : OL} {f_check_net f_check_helping : Addr} {fd_check_net fd_check_helping : FuncData} {f : Addr} {cdv : Value} {A : Around} {outer : List Env} {s : Shared} {H : Hp} (B : Blt mg) (h_check_net : Has P w K mg base k "check_net" f_check_net fd_check_net ["value"] γ_check_net) (h_check_helping : Has P w K mg base k "check_helping" f_check_helping fd_check_helping ["net"] γ_check_helping)
    (hr : Room k (A.deeper (envOfC "check_helping_net" (defScope s_check_helping_net) s.heap.objs.size f cdv))) (hgd : (A.deeper (envOfC "check_helping_net" (defScope s_check_helping_net) s.heap.objs.size f cdv)).guards = some []) :
    GSs (cxOf CX0 P w K mg base N_check_helping_net "check_helping_net" (defScope s_check_helping_net) f cdv A outer s H E0).nox (defBody s_check_helping_net) (body_check_helping_net γ_check_net γ_check_helping) := by
  exact gss_cons (gs_expr (g_call h_check_net hr hgd (Nat.le_refl _) (by rfl) (ga_cons (g_var 0) (ga_nil))))
    (gss_one (gs_expr (g_call h_check_helping hr hgd (Nat.le_refl _) (by rfl) (ga_cons (g_var 0) (ga_nil)))))
abbrev s_is_within : Stmt := topS 40
abbrev N_is_within : List Str := ["lot", "other", "cell"]
theorem sc_is_within : FnScope N_is_within ["lot", "other"] (defScope s_is_within) := ⟨rfl, rfl, rfl, by decide +kernel, rfl, by decide +kernel, by decide +kernel⟩
theorem tm_is_within {f : Addr} {cdv : Value} {A : Around} {outer : List Env} {s : Shared} {H : Hp} (B : Blt mg)
    (hr : Room k (A.deeper (envOfC "is_within" (defScope s_is_within) s.heap.objs.size f cdv))) (hgd : (A.deeper (envOfC "is_within" (defScope s_is_within) s.heap.objs.size f cdv)).guards = some []) :
    GSs (cxOf CX0 P w K mg base N_is_within "is_within" (defScope s_is_within) f cdv A outer s H E0).nox (defBody s_is_within) (body_is_within) := by
  exact gss_one (gs_ret (g_callB (c_all rfl) (by rfl) B.all bt_all (ga_cons (g_lc (own := [("cell", 2)])  rfl sc_is_within.nd (gi_seq (g_var 0)) (blkOk_by (own := [("cell", 2)]) (N := N_is_within) (sc := defScope s_is_within) (by decide +kernel)) (fun _ _ _ _ _ => ggc_name 2 sc_is_within.nd) (fun _ _ _ _ _ => gts_nil) (fun _ _ _ _ _ => g_cmp (o_in (Room_units65 hr)) (g_var 2) (g_var 1))) (ga_nil))))
abbrev s_least_ones : Stmt := topS 41
abbrev N_least_ones : List Str := ["lots", "found", "lot", "other"]
theorem sc_least_ones : FnScope N_least_ones ["lots"] (defScope s_least_ones) := ⟨rfl, rfl, rfl, by decide +kernel, rfl, by decide +kernel, by decide +kernel⟩
theorem tm_least_ones {γ_is_within : OL} {f_is_within : Addr} {fd_is_within : FuncData} {f : Addr} {cdv : Value} {A : Around} {outer : List Env} {s : Shared} {H : Hp} (B : Blt mg) (h_is_within : Has P w K mg base k "is_within" f_is_within fd_is_within ["lot", "other"] γ_is_within)
    (hr : Room k (A.deeper (envOfC "least_ones" (defScope s_least_ones) s.heap.objs.size f cdv))) (hgd : (A.deeper (envOfC "least_ones" (defScope s_least_ones) s.heap.objs.size f cdv)).guards = some []) :
    GSs (cxOf CX0 P w K mg base N_least_ones "least_ones" (defScope s_least_ones) f cdv A outer s H E0).nox (defBody s_least_ones) (body_least_ones γ_is_within) := by
  exact gss_cons (gs_set 1 sc_least_ones.nd (g_lstM (ga_nil)))
    (gss_cons (gs_for PassesOwn.never rfl (gi_seq (g_var 0)) (gg_name 2 sc_least_ones.nd) (gss_one (gs_if (gt_not (gt_val (g_callB (c_any rfl) (by rfl) B.any bt_any (ga_cons (g_lc (own := [("other", 3)])  rfl sc_least_ones.nd (gi_seq (g_var 1)) (blkOk_by (own := [("other", 3)]) (N := N_least_ones) (sc := defScope s_least_ones) (by decide +kernel)) (fun _ _ _ _ _ => ggc_name 3 sc_least_ones.nd) (fun _ _ _ _ _ => gts_nil) (fun _ _ _ _ _ => g_call h_is_within hr hgd (Nat.le_refl _) (by rfl) (ga_cons (g_var 3) (ga_cons (g_var 2) (ga_nil))))) (ga_nil))))) (gss_one (gs_expr (g_mt F.slot_list_append F.type_list_append m_append (g_var 1) (ga_cons (g_var 2) (ga_nil))))) (gss_nil))))
    (gss_one (gs_ret (g_callTy c_tuple (by rfl) B.tuple bt_tuple (ga_cons (g_callB c_sortedU (by rfl) B.sorted bt_sorted (ga_cons (g_var 1) (ga_nil))) (ga_nil))))))
abbrev s_lots_of_size : Stmt := topS 38
abbrev N_lots_of_size : List Str := ["net", "size", "found", "cell", "lot"]
theorem sc_lots_of_size : FnScope N_lots_of_size ["net", "size"] (defScope s_lots_of_size) := ⟨rfl, rfl, rfl, by decide +kernel, rfl, by decide +kernel, by decide +kernel⟩
theorem tm_lots_of_size {γ_many_cells : OL} {f_many_cells : Addr} {fd_many_cells : FuncData} {f : Addr} {cdv : Value} {A : Around} {outer : List Env} {s : Shared} {H : Hp} (B : Blt mg) (h_many_cells : Has P w K mg base k "many_cells" f_many_cells fd_many_cells ["net"] γ_many_cells)
    (hr : Room k (A.deeper (envOfC "lots_of_size" (defScope s_lots_of_size) s.heap.objs.size f cdv))) (hgd : (A.deeper (envOfC "lots_of_size" (defScope s_lots_of_size) s.heap.objs.size f cdv)).guards = some []) :
    GSs (cxOf CX0 P w K mg base N_lots_of_size "lots_of_size" (defScope s_lots_of_size) f cdv A outer s H E0).nox (defBody s_lots_of_size) (body_lots_of_size γ_many_cells) := by
  exact gss_cons (gs_set 2 sc_lots_of_size.nd (g_lst (ga_cons (g_tup (ga_nil)) (ga_nil))))
    (gss_cons (gs_for PassesOwn.never rfl (gi_range1 (by rfl) B.range (ga_cons (g_call h_many_cells hr hgd (Nat.le_refl _) (by rfl) (ga_cons (g_var 0) (ga_nil))) (ga_nil))) (gg_name 3 sc_lots_of_size.nd) (gss_one (gs_set 2 sc_lots_of_size.nd (g_bin o_add (g_var 2) (g_lc (own := [("lot", 4)])  rfl sc_lots_of_size.nd (gi_seq (g_var 2)) (blkOk_by (own := [("lot", 4)]) (N := N_lots_of_size) (sc := defScope s_lots_of_size) (by decide +kernel)) (fun _ _ _ _ _ => ggc_name 4 sc_lots_of_size.nd) (fun _ _ _ _ _ => gts_one (gt_cmp o_lt (g_callB c_len (by rfl) B.len bt_len (ga_cons (g_var 4) (ga_nil))) (g_var 1))) (fun _ _ _ _ _ => g_tup (ga_star (g_var 4) (ga_cons (g_var 3) (ga_nil)))))))))
    (gss_one (gs_ret (g_lc (own := [("lot", 4)])  rfl sc_lots_of_size.nd (gi_seq (g_var 2)) (blkOk_by (own := [("lot", 4)]) (N := N_lots_of_size) (sc := defScope s_lots_of_size) (by decide +kernel)) (fun _ _ _ _ _ => ggc_name 4 sc_lots_of_size.nd) (fun _ _ _ _ _ => gts_one (gt_cmp (o_eq hr.units) (g_callB c_len (by rfl) B.len bt_len (ga_cons (g_var 4) (ga_nil))) (g_var 1))) (fun _ _ _ _ _ => g_var 4)))))
abbrev s_lots_in_size : Stmt := topS 39
abbrev N_lots_in_size : List Str := ["net", "least", "size", "lot"]
theorem sc_lots_in_size : FnScope N_lots_in_size ["net", "least"] (defScope s_lots_in_size) := ⟨rfl, rfl, rfl, by decide +kernel, rfl, by decide +kernel, by decide +kernel⟩
theorem tm_lots_in_size {γ_many_cells γ_lots_of_size : OL} {f_many_cells f_lots_of_size : Addr} {fd_many_cells fd_lots_of_size : FuncData} {f : Addr} {cdv : Value} {A : Around} {outer : List Env} {s : Shared} {H : Hp} (B : Blt mg) (h_many_cells : Has P w K mg base k "many_cells" f_many_cells fd_many_cells ["net"] γ_many_cells) (h_lots_of_size : Has P w K mg base k "lots_of_size" f_lots_of_size fd_lots_of_size ["net", "size"] γ_lots_of_size)
    (hr : Room k (A.deeper (envOfC "lots_in_size" (defScope s_lots_in_size) s.heap.objs.size f cdv))) (hgd : (A.deeper (envOfC "lots_in_size" (defScope s_lots_in_size) s.heap.objs.size f cdv)).guards = some []) :
    GSs (cxOf CX0 P w K mg base N_lots_in_size "lots_in_size" (defScope s_lots_in_size) f cdv A outer s H E0).nox (defBody s_lots_in_size) (body_lots_in_size γ_many_cells γ_lots_of_size) := by
  exact gss_one (gs_ret (g_lc2 (own := [("size", 2), ("lot", 3)]) (vs1 := [3]) rfl sc_lots_in_size.nd (gi_range2 (by rfl) B.range (ga_cons (g_var 1) (ga_cons (g_bin o_add (g_call h_many_cells hr hgd (Nat.le_refl _) (by rfl) (ga_cons (g_var 0) (ga_nil))) (g_int)) (ga_nil)))) (blkOk_by (own := [("size", 2), ("lot", 3)]) (N := N_lots_in_size) (sc := defScope s_lots_in_size) (by decide +kernel)) (by decide) (fun _ _ _ _ _ => ggc_name 2 sc_lots_in_size.nd) (fun _ _ _ _ _ => gts_nil) (fun _ _ _ _ _ => gi_seq (g_call h_lots_of_size hr hgd (Nat.le_refl _) (by rfl) (ga_cons (g_var 0) (ga_cons (g_var 2) (ga_nil))))) (fun _ _ _ _ _ => ggc_name 3 sc_lots_in_size.nd) (fun _ _ _ _ _ => gts_nil) (fun _ _ _ _ _ => g_var 3)))
abbrev s_stubborn_by : Stmt := topS 42
abbrev N_stubborn_by : List Str := ["net", "lot"]
theorem sc_stubborn_by : FnScope N_stubborn_by ["net"] (defScope s_stubborn_by) := ⟨rfl, rfl, rfl, by decide +kernel, rfl, by decide +kernel, by decide +kernel⟩
theorem tm_stubborn_by {γ_least_ones γ_lots_in_size γ_is_stubborn_by : OL} {f_least_ones f_lots_in_size f_is_stubborn_by : Addr} {fd_least_ones fd_lots_in_size fd_is_stubborn_by : FuncData} {f : Addr} {cdv : Value} {A : Around} {outer : List Env} {s : Shared} {H : Hp} (B : Blt mg) (h_least_ones : Has P w K mg base k "least_ones" f_least_ones fd_least_ones ["lots"] γ_least_ones) (h_lots_in_size : Has P w K mg base k "lots_in_size" f_lots_in_size fd_lots_in_size ["net", "least"] γ_lots_in_size) (h_is_stubborn_by : Has P w K mg base k "is_stubborn_by" f_is_stubborn_by fd_is_stubborn_by ["net", "lot"] γ_is_stubborn_by)
    (hr : Room k (A.deeper (envOfC "stubborn_by" (defScope s_stubborn_by) s.heap.objs.size f cdv))) (hgd : (A.deeper (envOfC "stubborn_by" (defScope s_stubborn_by) s.heap.objs.size f cdv)).guards = some []) :
    GSs (cxOf CX0 P w K mg base N_stubborn_by "stubborn_by" (defScope s_stubborn_by) f cdv A outer s H E0).nox (defBody s_stubborn_by) (body_stubborn_by γ_least_ones γ_lots_in_size γ_is_stubborn_by) := by
  exact gss_one (gs_ret (g_call h_least_ones hr hgd (Nat.le_refl _) (by rfl) (ga_cons (g_lc (own := [("lot", 1)])  rfl sc_stubborn_by.nd (gi_seq (g_call h_lots_in_size hr hgd (Nat.le_refl _) (by rfl) (ga_cons (g_var 0) (ga_cons (g_int) (ga_nil))))) (blkOk_by (own := [("lot", 1)]) (N := N_stubborn_by) (sc := defScope s_stubborn_by) (by decide +kernel)) (fun _ _ _ _ _ => ggc_name 1 sc_stubborn_by.nd) (fun _ _ _ _ _ => gts_one (gt_val (g_call h_is_stubborn_by hr hgd (Nat.le_refl _) (by rfl) (ga_cons (g_var 0) (ga_cons (g_var 1) (ga_nil)))))) (fun _ _ _ _ _ => g_var 1)) (ga_nil))))
abbrev s_stubborn_lots : Stmt := topS 52
abbrev N_stubborn_lots : List Str := ["net"]
theorem sc_stubborn_lots : FnScope N_stubborn_lots ["net"] (defScope s_stubborn_lots) := ⟨rfl, rfl, rfl, by decide +kernel, rfl, by decide +kernel, by decide +kernel⟩
theorem tm_stubborn_lots {γ_check_helping_net γ_stubborn_by : OL} {f_check_helping_net f_stubborn_by : Addr} {fd_check_helping_net fd_stubborn_by : FuncData} {f : Addr} {cdv : Value} {A : Around} {outer : List Env} {s : Shared} {H : Hp} (B : Blt mg) (h_check_helping_net : Has P w K mg base k "check_helping_net" f_check_helping_net fd_check_helping_net ["net"] γ_check_helping_net) (h_stubborn_by : Has P w K mg base k "stubborn_by" f_stubborn_by fd_stubborn_by ["net"] γ_stubborn_by)
    (hr : Room k (A.deeper (envOfC "stubborn_lots" (defScope s_stubborn_lots) s.heap.objs.size f cdv))) (hgd : (A.deeper (envOfC "stubborn_lots" (defScope s_stubborn_lots) s.heap.objs.size f cdv)).guards = some []) :
    GSs (cxOf CX0 P w K mg base N_stubborn_lots "stubborn_lots" (defScope s_stubborn_lots) f cdv A outer s H E0).nox (defBody s_stubborn_lots) (body_stubborn_lots γ_check_helping_net γ_stubborn_by) := by
  exact gss_cons (gs_expr (g_call h_check_helping_net hr hgd (Nat.le_refl _) (by rfl) (ga_cons (g_var 0) (ga_nil))))
    (gss_one (gs_ret (g_call h_stubborn_by hr hgd (Nat.le_refl _) (by rfl) (ga_cons (g_var 0) (ga_nil)))))
abbrev s__law_told : Stmt := topS 70
abbrev N__law_told : List Str := ["few", "numbers", "number"]
theorem sc__law_told : FnScope N__law_told ["few", "numbers"] (defScope s__law_told) := ⟨rfl, rfl, rfl, by decide +kernel, rfl, by decide +kernel, by decide +kernel⟩
theorem tm__law_told {γ__law_lot : OL} {f__law_lot : Addr} {fd__law_lot : FuncData} {f : Addr} {cdv : Value} {A : Around} {outer : List Env} {s : Shared} {H : Hp} (B : Blt mg) (h__law_lot : Has P w K mg base k "_law_lot" f__law_lot fd__law_lot ["few", "number"] γ__law_lot)
    (hr : Room k (A.deeper (envOfC "_law_told" (defScope s__law_told) s.heap.objs.size f cdv))) (hgd : (A.deeper (envOfC "_law_told" (defScope s__law_told) s.heap.objs.size f cdv)).guards = some []) :
    GSs (cxOf CX0 P w K mg base N__law_told "_law_told" (defScope s__law_told) f cdv A outer s H E0).nox (defBody s__law_told) (body__law_told γ__law_lot) := by
  exact gss_one (gs_ret (g_callB (c_repr hr hgd) (by rfl) B.repr bt_repr (ga_cons (g_callTy c_tuple (by rfl) B.tuple bt_tuple (ga_cons (g_callB c_sortedU (by rfl) B.sorted bt_sorted (ga_cons (g_lc (own := [("number", 2)])  rfl sc__law_told.nd (gi_seq (g_var 1)) (blkOk_by (own := [("number", 2)]) (N := N__law_told) (sc := defScope s__law_told) (by decide +kernel)) (fun _ _ _ _ _ => ggc_name 2 sc__law_told.nd) (fun _ _ _ _ _ => gts_nil) (fun _ _ _ _ _ => g_call h__law_lot hr hgd (Nat.le_refl _) (by rfl) (ga_cons (g_var 0) (ga_cons (g_var 2) (ga_nil))))) (ga_nil))) (ga_nil))) (ga_nil))))
abbrev s_least_seeds_by : Stmt := topS 43
abbrev N_least_seeds_by : List Str := ["net", "lot"]
theorem sc_least_seeds_by : FnScope N_least_seeds_by ["net"] (defScope s_least_seeds_by) := ⟨rfl, rfl, rfl, by decide +kernel, rfl, by decide +kernel, by decide +kernel⟩
theorem tm_least_seeds_by {γ_least_ones γ_lots_in_size γ_does_light_by : OL} {f_least_ones f_lots_in_size f_does_light_by : Addr} {fd_least_ones fd_lots_in_size fd_does_light_by : FuncData} {f : Addr} {cdv : Value} {A : Around} {outer : List Env} {s : Shared} {H : Hp} (B : Blt mg) (h_least_ones : Has P w K mg base k "least_ones" f_least_ones fd_least_ones ["lots"] γ_least_ones) (h_lots_in_size : Has P w K mg base k "lots_in_size" f_lots_in_size fd_lots_in_size ["net", "least"] γ_lots_in_size) (h_does_light_by : Has P w K mg base k "does_light_by" f_does_light_by fd_does_light_by ["net", "seeds"] γ_does_light_by)
    (hr : Room k (A.deeper (envOfC "least_seeds_by" (defScope s_least_seeds_by) s.heap.objs.size f cdv))) (hgd : (A.deeper (envOfC "least_seeds_by" (defScope s_least_seeds_by) s.heap.objs.size f cdv)).guards = some []) :
    GSs (cxOf CX0 P w K mg base N_least_seeds_by "least_seeds_by" (defScope s_least_seeds_by) f cdv A outer s H E0).nox (defBody s_least_seeds_by) (body_least_seeds_by γ_least_ones γ_lots_in_size γ_does_light_by) := by
  exact gss_one (gs_ret (g_call h_least_ones hr hgd (Nat.le_refl _) (by rfl) (ga_cons (g_lc (own := [("lot", 1)])  rfl sc_least_seeds_by.nd (gi_seq (g_call h_lots_in_size hr hgd (Nat.le_refl _) (by rfl) (ga_cons (g_var 0) (ga_cons (g_int) (ga_nil))))) (blkOk_by (own := [("lot", 1)]) (N := N_least_seeds_by) (sc := defScope s_least_seeds_by) (by decide +kernel)) (fun _ _ _ _ _ => ggc_name 1 sc_least_seeds_by.nd) (fun _ _ _ _ _ => gts_one (gt_val (g_call h_does_light_by hr hgd (Nat.le_refl _) (by rfl) (ga_cons (g_var 0) (ga_cons (g_var 1) (ga_nil)))))) (fun _ _ _ _ _ => g_var 1)) (ga_nil))))
abbrev s_least_seeds : Stmt := topS 53
abbrev N_least_seeds : List Str := ["net"]
theorem sc_least_seeds : FnScope N_least_seeds ["net"] (defScope s_least_seeds) := ⟨rfl, rfl, rfl, by decide +kernel, rfl, by decide +kernel, by decide +kernel⟩
theorem tm_least_seeds {γ_check_helping_net γ_least_seeds_by : OL} {f_check_helping_net f_least_seeds_by : Addr} {fd_check_helping_net fd_least_seeds_by : FuncData} {f : Addr} {cdv : Value} {A : Around} {outer : List Env} {s : Shared} {H : Hp} (B : Blt mg) (h_check_helping_net : Has P w K mg base k "check_helping_net" f_check_helping_net fd_check_helping_net ["net"] γ_check_helping_net) (h_least_seeds_by : Has P w K mg base k "least_seeds_by" f_least_seeds_by fd_least_seeds_by ["net"] γ_least_seeds_by)
    (hr : Room k (A.deeper (envOfC "least_seeds" (defScope s_least_seeds) s.heap.objs.size f cdv))) (hgd : (A.deeper (envOfC "least_seeds" (defScope s_least_seeds) s.heap.objs.size f cdv)).guards = some []) :
    GSs (cxOf CX0 P w K mg base N_least_seeds "least_seeds" (defScope s_least_seeds) f cdv A outer s H E0).nox (defBody s_least_seeds) (body_least_seeds γ_check_helping_net γ_least_seeds_by) := by
  exact gss_cons (gs_expr (g_call h_check_helping_net hr hgd (Nat.le_refl _) (by rfl) (ga_cons (g_var 0) (ga_nil))))
    (gss_one (gs_ret (g_call h_least_seeds_by hr hgd (Nat.le_refl _) (by rfl) (ga_cons (g_var 0) (ga_nil)))))
abbrev s_fewest_by : Stmt := topS 44
abbrev N_fewest_by : List Str := ["net", "found", "least", "lot"]
theorem sc_fewest_by : FnScope N_fewest_by ["net"] (defScope s_fewest_by) := ⟨rfl, rfl, rfl, by decide +kernel, rfl, by decide +kernel, by decide +kernel⟩
theorem tm_fewest_by {γ_least_seeds_by : OL} {f_least_seeds_by : Addr} {fd_least_seeds_by : FuncData} {f : Addr} {cdv : Value} {A : Around} {outer : List Env} {s : Shared} {H : Hp} (B : Blt mg) (h_least_seeds_by : Has P w K mg base k "least_seeds_by" f_least_seeds_by fd_least_seeds_by ["net"] γ_least_seeds_by)
    (hr : Room k (A.deeper (envOfC "fewest_by" (defScope s_fewest_by) s.heap.objs.size f cdv))) (hgd : (A.deeper (envOfC "fewest_by" (defScope s_fewest_by) s.heap.objs.size f cdv)).guards = some []) :
    GSs (cxOf CX0 P w K mg base N_fewest_by "fewest_by" (defScope s_fewest_by) f cdv A outer s H E0).nox (defBody s_fewest_by) (body_fewest_by γ_least_seeds_by) := by
  exact gss_cons (gs_set 1 sc_fewest_by.nd (g_call h_least_seeds_by hr hgd (Nat.le_refl _) (by rfl) (ga_cons (g_var 0) (ga_nil))))
    (gss_cons (gs_set 2 sc_fewest_by.nd (g_callB (c_minL rfl) (by rfl) B.min bt_min (ga_cons (g_lc (own := [("lot", 3)])  rfl sc_fewest_by.nd (gi_seq (g_var 1)) (blkOk_by (own := [("lot", 3)]) (N := N_fewest_by) (sc := defScope s_fewest_by) (by decide +kernel)) (fun _ _ _ _ _ => ggc_name 3 sc_fewest_by.nd) (fun _ _ _ _ _ => gts_nil) (fun _ _ _ _ _ => g_callB c_len (by rfl) B.len bt_len (ga_cons (g_var 3) (ga_nil)))) (ga_nil))))
    (gss_one (gs_ret (g_callTy c_tuple (by rfl) B.tuple bt_tuple (ga_cons (g_lc (own := [("lot", 3)])  rfl sc_fewest_by.nd (gi_seq (g_var 1)) (blkOk_by (own := [("lot", 3)]) (N := N_fewest_by) (sc := defScope s_fewest_by) (by decide +kernel)) (fun _ _ _ _ _ => ggc_name 3 sc_fewest_by.nd) (fun _ _ _ _ _ => gts_one (gt_cmp (o_eq hr.units) (g_callB c_len (by rfl) B.len bt_len (ga_cons (g_var 3) (ga_nil))) (g_var 2))) (fun _ _ _ _ _ => g_var 3)) (ga_nil))))))
abbrev s_fewest : Stmt := topS 54
abbrev N_fewest : List Str := ["net"]
theorem sc_fewest : FnScope N_fewest ["net"] (defScope s_fewest) := ⟨rfl, rfl, rfl, by decide +kernel, rfl, by decide +kernel, by decide +kernel⟩
theorem tm_fewest {γ_check_helping_net γ_fewest_by : OL} {f_check_helping_net f_fewest_by : Addr} {fd_check_helping_net fd_fewest_by : FuncData} {f : Addr} {cdv : Value} {A : Around} {outer : List Env} {s : Shared} {H : Hp} (B : Blt mg) (h_check_helping_net : Has P w K mg base k "check_helping_net" f_check_helping_net fd_check_helping_net ["net"] γ_check_helping_net) (h_fewest_by : Has P w K mg base k "fewest_by" f_fewest_by fd_fewest_by ["net"] γ_fewest_by)
    (hr : Room k (A.deeper (envOfC "fewest" (defScope s_fewest) s.heap.objs.size f cdv))) (hgd : (A.deeper (envOfC "fewest" (defScope s_fewest) s.heap.objs.size f cdv)).guards = some []) :
    GSs (cxOf CX0 P w K mg base N_fewest "fewest" (defScope s_fewest) f cdv A outer s H E0).nox (defBody s_fewest) (body_fewest γ_check_helping_net γ_fewest_by) := by
  exact gss_cons (gs_expr (g_call h_check_helping_net hr hgd (Nat.le_refl _) (by rfl) (ga_cons (g_var 0) (ga_nil))))
    (gss_one (gs_ret (g_call h_fewest_by hr hgd (Nat.le_refl _) (by rfl) (ga_cons (g_var 0) (ga_nil)))))
abbrev s__law_right : Stmt := topS 72
abbrev N__law_right : List Str := ["well", "is_first", "turn", "few", "net", "every", "stubborn", "lights", "bits", "number", "meets", "size", "some", "both", "least", "seeds", "each"]
theorem sc__law_right : FnScope N__law_right ["well", "is_first"] (defScope s__law_right) := ⟨rfl, rfl, rfl, by decide +kernel, rfl, by decide +kernel, by decide +kernel⟩
theorem tm__law_right {γ__law_one γ__law_helping γ__law_is_stubborn γ__law_spread γ__law_lots_right γ__law_lot γ_is_stubborn γ__law_least γ_stubborn_lots γ__law_told γ_least_seeds γ_fewest : OL} {f__law_one f__law_helping f__law_is_stubborn f__law_spread f__law_lots_right f__law_lot f_is_stubborn f__law_least f_stubborn_lots f__law_told f_least_seeds f_fewest : Addr} {fd__law_one fd__law_helping fd__law_is_stubborn fd__law_spread fd__law_lots_right fd__law_lot fd_is_stubborn fd__law_least fd_stubborn_lots fd__law_told fd_least_seeds fd_fewest : FuncData} {f : Addr} {cdv : Value} {A : Around} {outer : List Env} {s : Shared} {H : Hp} (B : Blt mg) (h__law_one : Has P w K mg base k "_law_one" f__law_one fd__law_one ["well", "some"] γ__law_one) (h__law_helping : Has P w K mg base k "_law_helping" f__law_helping fd__law_helping ["well", "few"] γ__law_helping) (h__law_is_stubborn : Has P w K mg base k "_law_is_stubborn" f__law_is_stubborn fd__law_is_stubborn ["net", "number"] γ__law_is_stubborn) (h__law_spread : Has P w K mg base k "_law_spread" f__law_spread fd__law_spread ["net", "number"] γ__law_spread) (h__law_lots_right : Has P w K mg base k "_law_lots_right" f__law_lots_right fd__law_lots_right ["net", "stubborn", "lights"] γ__law_lots_right) (h__law_lot : Has P w K mg base k "_law_lot" f__law_lot fd__law_lot ["few", "number"] γ__law_lot) (h_is_stubborn : Has P w K mg base k "is_stubborn" f_is_stubborn fd_is_stubborn ["net", "lot"] γ_is_stubborn) (h__law_least : Has P w K mg base k "_law_least" f__law_least fd__law_least ["numbers"] γ__law_least) (h_stubborn_lots : Has P w K mg base k "stubborn_lots" f_stubborn_lots fd_stubborn_lots ["net"] γ_stubborn_lots) (h__law_told : Has P w K mg base k "_law_told" f__law_told fd__law_told ["few", "numbers"] γ__law_told) (h_least_seeds : Has P w K mg base k "least_seeds" f_least_seeds fd_least_seeds ["net"] γ_least_seeds) (h_fewest : Has P w K mg base k "fewest" f_fewest fd_fewest ["net"] γ_fewest) (kb_least_seeds_0 : KB fd_least_seeds ["net"] ["net"] 0 [0]) (kb_fewest_0 : KB fd_fewest ["net"] ["net"] 0 [0]) (kb_stubborn_lots_0 : KB fd_stubborn_lots ["net"] ["net"] 0 [0])
    (hr : Room k (A.deeper (envOfC "_law_right" (defScope s__law_right) s.heap.objs.size f cdv))) (hgd : (A.deeper (envOfC "_law_right" (defScope s__law_right) s.heap.objs.size f cdv)).guards = some []) :
    GSs (cxOf CX0 P w K mg base N__law_right "_law_right" (defScope s__law_right) f cdv A outer s H E0).nox (defBody s__law_right) (body__law_right γ__law_one γ__law_helping γ__law_is_stubborn γ__law_spread γ__law_lots_right γ__law_lot γ_is_stubborn γ__law_least γ_stubborn_lots γ__law_told γ_least_seeds γ_fewest) := by
  exact gss_cons (gs_for PassesOwn.never rfl (gi_range1 (by rfl) B.range (ga_cons (g_int) (ga_nil))) (gg_name 2 sc__law_right.nd) (gss_cons (gs_set 3 sc__law_right.nd (g_call h__law_one hr hgd (Nat.le_refl _) (by rfl) (ga_cons (g_var 0) (ga_cons (g_tup (ga_cons (g_int) (ga_cons (g_int) (ga_cons (g_int) (ga_cons (g_int) (ga_cons (g_int) (ga_cons (g_int) (ga_cons (g_int) (ga_cons (g_ifExp (gw_pt (gw_and (gt_val (g_var 1)) (gw_and1 (gt_cmp (o_eq hr.units) (g_var 2) (g_int))))) (g_int) (g_int)) (ga_nil)))))))))) (ga_nil)))))
    (gss_cons (gs_set 4 sc__law_right.nd (g_call h__law_helping hr hgd (Nat.le_refl _) (by rfl) (ga_cons (g_var 0) (ga_cons (g_var 3) (ga_nil)))))
    (gss_cons (gs_set 5 sc__law_right.nd (g_lstRg rfl (by rfl) B.list (by rfl) B.range (g_bin o_shl (g_int) (g_var 3))))
    (gss_cons (gs_setLc 6 (own := [("number", 9)])  rfl sc__law_right.nd (sw_true rfl rfl rfl (by decide +kernel)) (gi_seq (g_var 5)) (blkOk_by (own := [("number", 9)]) (N := N__law_right) (sc := defScope s__law_right) (by decide +kernel)) (fun _ _ _ _ _ => ggc_name 9 sc__law_right.nd) (fun _ _ _ _ _ => gts_one (gw_pt (gw_and (gt_cmp o_gt (g_var 9) (g_int)) (gw_and1 (gt_val (g_call h__law_is_stubborn hr hgd (Nat.le_refl _) (by rfl) (ga_cons (g_var 4) (ga_cons (g_var 9) (ga_nil))))))))) (fun _ _ _ _ _ => g_var 9))
    (gss_cons (gs_setLc 7 (own := [("number", 9)])  rfl sc__law_right.nd (sw_true rfl rfl rfl (by decide +kernel)) (gi_seq (g_var 5)) (blkOk_by (own := [("number", 9)]) (N := N__law_right) (sc := defScope s__law_right) (by decide +kernel)) (fun _ _ _ _ _ => ggc_name 9 sc__law_right.nd) (fun _ _ _ _ _ => gts_one (gt_cmp (o_eq hr.units) (g_call h__law_spread hr hgd (Nat.le_refl _) (by rfl) (ga_cons (g_var 4) (ga_cons (g_var 9) (ga_nil)))) (g_bin o_sub (g_bin o_shl (g_int) (g_var 3)) (g_int)))) (fun _ _ _ _ _ => g_var 9))
    (gss_cons (gs_if (gt_not (gt_val (g_call h__law_lots_right hr hgd (Nat.le_refl _) (by rfl) (ga_cons (g_var 4) (ga_cons (g_var 6) (ga_cons (g_var 7) (ga_nil))))))) (gss_one (gs_ret (g_bl))) (gss_nil))
    (gss_cons (gs_set 8 sc__law_right.nd (g_bin o_sub (g_bin o_sub (g_bin o_shl (g_int) (g_var 3)) (g_int)) (g_call h__law_spread hr hgd (Nat.le_refl _) (by rfl) (ga_cons (g_var 4) (ga_cons (g_int) (ga_nil))))))
    (gss_cons (gs_for PassesOwn.never rfl (gi_seq (g_var 6)) (gg_name 9 sc__law_right.nd) (gss_cons (gs_set 13 sc__law_right.nd (g_call h__law_lot hr hgd (Nat.le_refl _) (by rfl) (ga_cons (g_var 3) (ga_cons (g_bin o_or (g_var 9) (g_call h__law_one hr hgd (Nat.le_refl _) (by rfl) (ga_cons (g_var 0) (ga_cons (g_var 6) (ga_nil))))) (ga_nil)))))
    (gss_one (gs_if (gw_pt (gw_or (gt_cmp o_neS (g_callB (c_repr hr hgd) (by rfl) B.repr bt_repr (ga_cons (g_call h_is_stubborn hr hgd (Nat.le_refl _) (by rfl) (ga_cons (g_var 4) (ga_cons (g_var 13) (ga_nil)))) (ga_nil))) (g_callB (c_repr hr hgd) (by rfl) B.repr bt_repr (ga_cons (g_bl) (ga_nil)))) (gw_or1 (gt_cmp (o_ne hr.units) (g_bin o_and (g_var 9) (g_var 8)) (g_var 9))))) (gss_one (gs_ret (g_bl))) (gss_nil)))))
    (gss_cons (gs_if (gw_pt (gw_and (gt_cmp o_gt (g_var 8) (g_int)) (gw_and1 (gt_cmp o_neS (g_callB (c_repr hr hgd) (by rfl) B.repr bt_repr (ga_cons (g_call h_is_stubborn hr hgd (Nat.le_refl _) (by rfl) (ga_cons (g_var 4) (ga_cons (g_call h__law_lot hr hgd (Nat.le_refl _) (by rfl) (ga_cons (g_var 3) (ga_cons (g_var 8) (ga_nil)))) (ga_nil)))) (ga_nil))) (g_callB (c_repr hr hgd) (by rfl) B.repr bt_repr (ga_cons (g_bl) (ga_nil))))))) (gss_one (gs_ret (g_bl))) (gss_nil))
    (gss_cons (gs_asg (g_tup (ga_cons (g_call h__law_least hr hgd (Nat.le_refl _) (by rfl) (ga_cons (g_var 6) (ga_nil))) (ga_cons (g_call h__law_least hr hgd (Nat.le_refl _) (by rfl) (ga_cons (g_var 7) (ga_nil))) (ga_nil)))) (gg_tup rfl (ggs_cons (gg_name 14 sc__law_right.nd) (ggs_cons (gg_name 15 sc__law_right.nd) (ggs_nil)))))
    (gss_cons (gs_setLc 10 (own := [("number", 9)])  rfl sc__law_right.nd (sw_true rfl rfl rfl (by decide +kernel)) (gi_seq (g_var 5)) (blkOk_by (own := [("number", 9)]) (N := N__law_right) (sc := defScope s__law_right) (by decide +kernel)) (fun _ _ _ _ _ => ggc_name 9 sc__law_right.nd) (fun _ _ _ _ _ => gts_one (gt_val (g_callB (c_all rfl) (by rfl) B.all bt_all (ga_cons (g_lcB (own := [("each", 16)]) (N := N__law_right) (osc := defScope s__law_right)  rfl sc__law_right.nd (gi_seq (g_var 14)) (by decide +kernel) (fun _ _ _ _ _ => ggc_name 16 sc__law_right.nd) (fun _ _ _ _ _ => gts_nil) (fun _ _ _ _ _ => g_cmp (o_ne hr.units) (g_bin o_and (g_var 9) (g_var 16)) (g_int))) (ga_nil))))) (fun _ _ _ _ _ => g_var 9))
    (gss_cons (gs_if (gt_cmp (o_ne hr.units) (g_callB c_sortedI (by rfl) B.sorted bt_sorted (ga_cons (g_call h__law_least hr hgd (Nat.le_refl _) (by rfl) (ga_cons (g_var 10) (ga_nil))) (ga_nil))) (g_callB c_sortedI (by rfl) B.sorted bt_sorted (ga_cons (g_var 15) (ga_nil)))) (gss_one (gs_ret (g_bl))) (gss_nil))
    (gss_cons (gs_set 11 sc__law_right.nd (g_callB (c_minL rfl) (by rfl) B.min bt_min (ga_cons (g_lc (own := [("number", 9)])  rfl sc__law_right.nd (gi_seq (g_var 15)) (blkOk_by (own := [("number", 9)]) (N := N__law_right) (sc := defScope s__law_right) (by decide +kernel)) (fun _ _ _ _ _ => ggc_name 9 sc__law_right.nd) (fun _ _ _ _ _ => gts_nil) (fun _ _ _ _ _ => g_callB c_len (by rfl) B.len bt_len (ga_cons (g_call h__law_lot hr hgd (Nat.le_refl _) (by rfl) (ga_cons (g_var 3) (ga_cons (g_var 9) (ga_nil)))) (ga_nil)))) (ga_nil))))
    (gss_cons (gs_setLc 12 (own := [("number", 9)])  rfl sc__law_right.nd (sw_true rfl rfl rfl (by decide +kernel)) (gi_seq (g_var 15)) (blkOk_by (own := [("number", 9)]) (N := N__law_right) (sc := defScope s__law_right) (by decide +kernel)) (fun _ _ _ _ _ => ggc_name 9 sc__law_right.nd) (fun _ _ _ _ _ => gts_one (gt_cmp (o_eq hr.units) (g_callB c_len (by rfl) B.len bt_len (ga_cons (g_call h__law_lot hr hgd (Nat.le_refl _) (by rfl) (ga_cons (g_var 3) (ga_cons (g_var 9) (ga_nil)))) (ga_nil))) (g_var 11))) (fun _ _ _ _ _ => g_var 9))
    (gss_cons (gs_if (gw_pt (gw_or (gt_cmp o_neS (g_callB (c_repr hr hgd) (by rfl) B.repr bt_repr (ga_cons (g_call h_stubborn_lots hr hgd (Nat.le_refl _) (by rfl) (ga_cons (g_var 4) (ga_nil))) (ga_nil))) (g_call h__law_told hr hgd (Nat.le_refl _) (by rfl) (ga_cons (g_var 3) (ga_cons (g_var 14) (ga_nil))))) (gw_or1 (gt_cmp o_neS (g_callB (c_repr hr hgd) (by rfl) B.repr bt_repr (ga_cons (g_call h_least_seeds hr hgd (Nat.le_refl _) (by rfl) (ga_cons (g_var 4) (ga_nil))) (ga_nil))) (g_call h__law_told hr hgd (Nat.le_refl _) (by rfl) (ga_cons (g_var 3) (ga_cons (g_var 15) (ga_nil)))))))) (gss_one (gs_ret (g_bl))) (gss_nil))
    (gss_cons (gs_if (gw_pt (gw_or (gt_cmp o_neS (g_callB (c_repr hr hgd) (by rfl) B.repr bt_repr (ga_cons (g_call h_fewest hr hgd (Nat.le_refl _) (by rfl) (ga_cons (g_var 4) (ga_nil))) (ga_nil))) (g_call h__law_told hr hgd (Nat.le_refl _) (by rfl) (ga_cons (g_var 3) (ga_cons (g_var 12) (ga_nil))))) (gw_or1 (gt_cmp o_neS (g_callB (c_repr hr hgd) (by rfl) B.repr bt_repr (ga_cons (g_callK0 h_least_seeds kb_least_seeds_0 hr hgd (Nat.le_refl _) (by rfl) (gk_cons (g_var 4) (gk_nil))) (ga_nil))) (g_call h__law_told hr hgd (Nat.le_refl _) (by rfl) (ga_cons (g_var 3) (ga_cons (g_var 15) (ga_nil)))))))) (gss_one (gs_ret (g_bl))) (gss_nil))
    (gss_one (gs_if (gw_pt (gw_or (gt_cmp o_neS (g_callB (c_repr hr hgd) (by rfl) B.repr bt_repr (ga_cons (g_callK0 h_fewest kb_fewest_0 hr hgd (Nat.le_refl _) (by rfl) (gk_cons (g_var 4) (gk_nil))) (ga_nil))) (g_call h__law_told hr hgd (Nat.le_refl _) (by rfl) (ga_cons (g_var 3) (ga_cons (g_var 12) (ga_nil))))) (gw_or1 (gt_cmp o_neS (g_callB (c_repr hr hgd) (by rfl) B.repr bt_repr (ga_cons (g_callK0 h_stubborn_lots kb_stubborn_lots_0 hr hgd (Nat.le_refl _) (by rfl) (gk_cons (g_var 4) (gk_nil))) (ga_nil))) (g_call h__law_told hr hgd (Nat.le_refl _) (by rfl) (ga_cons (g_var 3) (ga_cons (g_var 14) (ga_nil)))))))) (gss_one (gs_ret (g_bl))) (gss_nil))))))))))))))))))))
    (gss_one (gs_ret (g_bl)))
abbrev s__law_well : Stmt := topS 56
abbrev N__law_well : List Str := ["script", "lap", "mixed", "cell", "own"]
theorem sc__law_well : FnScope N__law_well ["script", "lap"] (defScope s__law_well) := ⟨rfl, rfl, rfl, by decide +kernel, rfl, by decide +kernel, by decide +kernel⟩
theorem tm__law_well {f : Addr} {cdv : Value} {A : Around} {outer : List Env} {s : Shared} {H : Hp} (B : Blt mg)
    (hr : Room k (A.deeper (envOfC "_law_well" (defScope s__law_well) s.heap.objs.size f cdv))) (hgd : (A.deeper (envOfC "_law_well" (defScope s__law_well) s.heap.objs.size f cdv)).guards = some []) :
    GSs (cxOf CX0 P w K mg base N__law_well "_law_well" (defScope s__law_well) f cdv A outer s H E0).nox (defBody s__law_well) (body__law_well) := by
  exact gss_cons (gs_set 2 sc__law_well.nd (g_bin o_add (g_int) (g_bin o_mul (g_int) (g_var 1))))
    (gss_cons (gs_for PassesOwn.never rfl (gi_seq (g_slice (g_var 0) (go_none) (go_some (g_int)))) (gg_name 3 sc__law_well.nd) (gss_one (gs_set 2 sc__law_well.nd (g_bin o_mod (g_callTy c_int (by rfl) B.int bt_int (ga_cons (g_bin o_add (g_bin o_add (g_bin o_mul (g_var 2) (g_int)) (g_bin o_mul (g_bin o_mod (g_callTy c_int (by rfl) B.int bt_int (ga_cons (g_var 3) (ga_nil))) (g_int)) (g_int))) (g_int)) (ga_nil))) (g_int)))))
    (gss_cons (gs_set 4 sc__law_well.nd (g_ifExp (gt_cmp o_lt (g_var 1) (g_callB c_len (by rfl) B.len bt_len (ga_cons (g_var 0) (ga_nil)))) (g_callTy c_int (by rfl) B.int bt_int (ga_cons (g_ix o_ix (g_var 0) (g_var 1)) (ga_nil))) (g_int)))
    (gss_cons (gs_set 2 sc__law_well.nd (g_bin o_mod (g_callTy c_int (by rfl) B.int bt_int (ga_cons (g_bin o_add (g_bin o_add (g_bin o_mul (g_var 2) (g_int)) (g_bin o_mul (g_bin o_mod (g_callTy c_int (by rfl) B.int bt_int (ga_cons (g_var 4) (ga_nil))) (g_int)) (g_int))) (g_int)) (ga_nil))) (g_int)))
    (gss_one (gs_ret (g_lstM (ga_cons (g_ifExp (gw_pt (gw_or (gt_cmp o_lt (g_var 4) (g_int)) (gw_or1 (gt_cmp o_ge (g_var 4) (g_bin o_pow (g_int) (g_int)))))) (g_callB c_abs (by rfl) B.abs bt_abs (ga_cons (g_var 4) (ga_nil))) (g_int)) (ga_cons (g_var 2) (ga_cons (g_int) (ga_nil))))))))))
abbrev s_law : Stmt := topS 73
abbrev N_law : List Str := ["script", "lap"]
theorem sc_law : FnScope N_law ["script"] (defScope s_law) := ⟨rfl, rfl, rfl, by decide +kernel, rfl, by decide +kernel, by decide +kernel⟩
theorem tm_law {γ__law_right γ__law_well : OL} {f__law_right f__law_well : Addr} {fd__law_right fd__law_well : FuncData} {f : Addr} {cdv : Value} {A : Around} {outer : List Env} {s : Shared} {H : Hp} (B : Blt mg) (h__law_right : Has P w K mg base k "_law_right" f__law_right fd__law_right ["well", "is_first"] γ__law_right) (h__law_well : Has P w K mg base k "_law_well" f__law_well fd__law_well ["script", "lap"] γ__law_well)
    (hr : Room k (A.deeper (envOfC "law" (defScope s_law) s.heap.objs.size f cdv))) (hgd : (A.deeper (envOfC "law" (defScope s_law) s.heap.objs.size f cdv)).guards = some []) :
    GSs (cxOf CX0 P w K mg base N_law "law" (defScope s_law) f cdv A outer s H E0).nox (defBody s_law) (body_law γ__law_right γ__law_well) := by
  exact gss_one (gs_ret (g_callB (c_all rfl) (by rfl) B.all bt_all (ga_cons (g_lc (own := [("lap", 1)])  rfl sc_law.nd (gi_range1 (by rfl) B.range (ga_cons (g_callB (c_max2 rfl) (by rfl) B.max bt_max (ga_cons (g_int) (ga_cons (g_callB (c_min2 rfl) (by rfl) B.min bt_min (ga_cons (g_callB c_len (by rfl) B.len bt_len (ga_cons (g_var 0) (ga_nil))) (ga_cons (g_int) (ga_nil)))) (ga_nil)))) (ga_nil))) (blkOk_by (own := [("lap", 1)]) (N := N_law) (sc := defScope s_law) (by decide +kernel)) (fun _ _ _ _ _ => ggc_name 1 sc_law.nd) (fun _ _ _ _ _ => gts_nil) (fun _ _ _ _ _ => g_call h__law_right hr hgd (Nat.le_refl _) (by rfl) (ga_cons (g_call h__law_well hr hgd (Nat.le_refl _) (by rfl) (ga_cons (g_var 0) (ga_cons (g_var 1) (ga_nil)))) (ga_cons (g_cmp (o_eq hr.units) (g_var 1) (g_int)) (ga_nil))))) (ga_nil))))
end
end K28

namespace K28
open PySem PySem.Spec PyProof.Rows L2 Gx
section
variable {P : Program} {w : World} {K : PySem.W.Frag} {mg : Str → Option Value} {base : Heap} {k : Nat}
theorem gf__law_draw {f : Addr} {fd : FuncData} (F : Fun K "_law_draw" "_law_draw" s__law_draw f fd) (B : Blt mg) : GFn P w K mg base (k + 1) f fd ["well", "few"] (γ_draw) :=
  gfn_of F sc__law_draw (by intro ds S R h; unfold γ_draw at h; first | (obtain ⟨e, _⟩ := h; subst e; rfl) | (split at h <;> first | rfl | exact h.elim) | (obtain ⟨_, e, _⟩ := h; subst e; rfl) | (obtain ⟨_, _, e, _⟩ := h; subst e; rfl) | (obtain ⟨_, _, _, e, _⟩ := h; subst e; rfl) | (obtain ⟨_, _, _, _, e, _⟩ := h; subst e; rfl) | (obtain ⟨_, _, _, _, _, e, _⟩ := h; subst e; rfl) | (obtain ⟨_, _, _, _, _, _, e, _⟩ := h; subst e; rfl)) fun cdv A outer s H hr hgd => ⟨_, tm__law_draw B hr hgd, fun ds S R q => (law_draw) ds S R q⟩
theorem gf__law_one {f__law_draw : Addr} {fd__law_draw : FuncData} {f : Addr} {fd : FuncData} (F : Fun K "_law_one" "_law_one" s__law_one f fd) (B : Blt mg) (h__law_draw : Has P w K mg base k "_law_draw" f__law_draw fd__law_draw ["well", "few"] (γ_draw)) : GFn P w K mg base (k + 1) f fd ["well", "some"] (γ_one) :=
  gfn_of F sc__law_one (by intro ds S R h; unfold γ_one at h; first | (obtain ⟨e, _⟩ := h; subst e; rfl) | (split at h <;> first | rfl | exact h.elim) | (obtain ⟨_, e, _⟩ := h; subst e; rfl) | (obtain ⟨_, _, e, _⟩ := h; subst e; rfl) | (obtain ⟨_, _, _, e, _⟩ := h; subst e; rfl) | (obtain ⟨_, _, _, _, e, _⟩ := h; subst e; rfl) | (obtain ⟨_, _, _, _, _, e, _⟩ := h; subst e; rfl) | (obtain ⟨_, _, _, _, _, _, e, _⟩ := h; subst e; rfl)) fun cdv A outer s H hr hgd => ⟨_, tm__law_one B h__law_draw hr hgd, fun ds S R q => (law_one) ds S R q⟩
theorem gf__law_lean {f : Addr} {fd : FuncData} (F : Fun K "_law_lean" "_law_lean" s__law_lean f fd) (B : Blt mg) : GFn P w K mg base (k + 1) f fd ["top", "base"] (γ_ratio) :=
  gfn_of F sc__law_lean (by intro ds S R h; unfold γ_ratio at h; first | (obtain ⟨e, _⟩ := h; subst e; rfl) | (split at h <;> first | rfl | exact h.elim) | (obtain ⟨_, e, _⟩ := h; subst e; rfl) | (obtain ⟨_, _, e, _⟩ := h; subst e; rfl) | (obtain ⟨_, _, _, e, _⟩ := h; subst e; rfl) | (obtain ⟨_, _, _, _, e, _⟩ := h; subst e; rfl) | (obtain ⟨_, _, _, _, _, e, _⟩ := h; subst e; rfl) | (obtain ⟨_, _, _, _, _, _, e, _⟩ := h; subst e; rfl)) fun cdv A outer s H hr hgd => ⟨_, tm__law_lean B hr hgd, fun ds S R q => (law_lean) ds S R q⟩
theorem gf__law_helping {f__law_one f__law_draw f__law_lean : Addr} {fd__law_one fd__law_draw fd__law_lean : FuncData} {f : Addr} {fd : FuncData} (F : Fun K "_law_helping" "_law_helping" s__law_helping f fd) (B : Blt mg) (h__law_one : Has P w K mg base k "_law_one" f__law_one fd__law_one ["well", "some"] (γ_one)) (h__law_draw : Has P w K mg base k "_law_draw" f__law_draw fd__law_draw ["well", "few"] (γ_draw)) (h__law_lean : Has P w K mg base k "_law_lean" f__law_lean fd__law_lean ["top", "base"] (γ_ratio)) : GFn P w K mg base (k + 1) f fd ["well", "few"] (γ_help) :=
  gfn_of F sc__law_helping (by intro ds S R h; unfold γ_help at h; first | (obtain ⟨e, _⟩ := h; subst e; rfl) | (split at h <;> first | rfl | exact h.elim) | (obtain ⟨_, e, _⟩ := h; subst e; rfl) | (obtain ⟨_, _, e, _⟩ := h; subst e; rfl) | (obtain ⟨_, _, _, e, _⟩ := h; subst e; rfl) | (obtain ⟨_, _, _, _, e, _⟩ := h; subst e; rfl) | (obtain ⟨_, _, _, _, _, e, _⟩ := h; subst e; rfl) | (obtain ⟨_, _, _, _, _, _, e, _⟩ := h; subst e; rfl)) fun cdv A outer s H hr hgd => ⟨_, tm__law_helping B h__law_one h__law_draw h__law_lean hr hgd, fun ds S R q => (h_law_help) ds S R q⟩
theorem gf__law_state {f : Addr} {fd : FuncData} (F : Fun K "_law_state" "_law_state" s__law_state f fd) (B : Blt mg) : GFn P w K mg base (k + 1) f fd ["few", "number"] (γ_state_by) :=
  gfn_of F sc__law_state (by intro ds S R h; unfold γ_state_by at h; first | (obtain ⟨e, _⟩ := h; subst e; rfl) | (split at h <;> first | rfl | exact h.elim) | (obtain ⟨_, e, _⟩ := h; subst e; rfl) | (obtain ⟨_, _, e, _⟩ := h; subst e; rfl) | (obtain ⟨_, _, _, e, _⟩ := h; subst e; rfl) | (obtain ⟨_, _, _, _, e, _⟩ := h; subst e; rfl) | (obtain ⟨_, _, _, _, _, e, _⟩ := h; subst e; rfl) | (obtain ⟨_, _, _, _, _, _, e, _⟩ := h; subst e; rfl)) fun cdv A outer s H hr hgd => ⟨_, tm__law_state B hr hgd, fun ds S R q => (law_state_by) ds S R q⟩
theorem gf__law_below {f : Addr} {fd : FuncData} (F : Fun K "_law_below" "_law_below" s__law_below f fd) (B : Blt mg) : GFn P w K mg base (k + 1) f fd ["x", "y"] (γ_is_less) :=
  gfn_of F sc__law_below (by intro ds S R h; unfold γ_is_less at h; first | (obtain ⟨e, _⟩ := h; subst e; rfl) | (split at h <;> first | rfl | exact h.elim) | (obtain ⟨_, e, _⟩ := h; subst e; rfl) | (obtain ⟨_, _, e, _⟩ := h; subst e; rfl) | (obtain ⟨_, _, _, e, _⟩ := h; subst e; rfl) | (obtain ⟨_, _, _, _, e, _⟩ := h; subst e; rfl) | (obtain ⟨_, _, _, _, _, e, _⟩ := h; subst e; rfl) | (obtain ⟨_, _, _, _, _, _, e, _⟩ := h; subst e; rfl)) fun cdv A outer s H hr hgd => ⟨_, tm__law_below B hr hgd, fun ds S R q => (law_is_less) ds S R q⟩
theorem gf__law_plus {f__law_lean : Addr} {fd__law_lean : FuncData} {f : Addr} {fd : FuncData} (F : Fun K "_law_plus" "_law_plus" s__law_plus f fd) (B : Blt mg) (h__law_lean : Has P w K mg base k "_law_lean" f__law_lean fd__law_lean ["top", "base"] (γ_ratio)) : GFn P w K mg base (k + 1) f fd ["x", "y"] (γ_plus) :=
  gfn_of F sc__law_plus (by intro ds S R h; unfold γ_plus at h; first | (obtain ⟨e, _⟩ := h; subst e; rfl) | (split at h <;> first | rfl | exact h.elim) | (obtain ⟨_, e, _⟩ := h; subst e; rfl) | (obtain ⟨_, _, e, _⟩ := h; subst e; rfl) | (obtain ⟨_, _, _, e, _⟩ := h; subst e; rfl) | (obtain ⟨_, _, _, _, e, _⟩ := h; subst e; rfl) | (obtain ⟨_, _, _, _, _, e, _⟩ := h; subst e; rfl) | (obtain ⟨_, _, _, _, _, _, e, _⟩ := h; subst e; rfl)) fun cdv A outer s H hr hgd => ⟨_, tm__law_plus B h__law_lean hr hgd, fun ds S R q => (law_plus) ds S R q⟩
theorem gf__law_heard {f__law_plus : Addr} {fd__law_plus : FuncData} {f : Addr} {fd : FuncData} (F : Fun K "_law_heard" "_law_heard" s__law_heard f fd) (B : Blt mg) (h__law_plus : Has P w K mg base k "_law_plus" f__law_plus fd__law_plus ["x", "y"] (γ_plus)) : GFn P w K mg base (k + 1) f fd ["net", "cell", "state"] (γ_heard_by) :=
  gfn_of F sc__law_heard (by intro ds S R h; unfold γ_heard_by at h; first | (obtain ⟨e, _⟩ := h; subst e; rfl) | (split at h <;> first | rfl | exact h.elim) | (obtain ⟨_, e, _⟩ := h; subst e; rfl) | (obtain ⟨_, _, e, _⟩ := h; subst e; rfl) | (obtain ⟨_, _, _, e, _⟩ := h; subst e; rfl) | (obtain ⟨_, _, _, _, e, _⟩ := h; subst e; rfl) | (obtain ⟨_, _, _, _, _, e, _⟩ := h; subst e; rfl) | (obtain ⟨_, _, _, _, _, _, e, _⟩ := h; subst e; rfl)) fun cdv A outer s H hr hgd => ⟨_, tm__law_heard B h__law_plus hr hgd, fun ds S R q => (law_lheard) ds S R q⟩
theorem gf__law_movers {f__law_below f__law_heard : Addr} {fd__law_below fd__law_heard : FuncData} {f : Addr} {fd : FuncData} (F : Fun K "_law_movers" "_law_movers" s__law_movers f fd) (B : Blt mg) (h__law_below : Has P w K mg base k "_law_below" f__law_below fd__law_below ["x", "y"] (γ_is_less)) (h__law_heard : Has P w K mg base k "_law_heard" f__law_heard fd__law_heard ["net", "cell", "state"] (γ_heard_by)) : GFn P w K mg base (k + 1) f fd ["net", "state"] (γ_movers_by) :=
  gfn_of F sc__law_movers (by intro ds S R h; unfold γ_movers_by at h; first | (obtain ⟨e, _⟩ := h; subst e; rfl) | (split at h <;> first | rfl | exact h.elim) | (obtain ⟨_, e, _⟩ := h; subst e; rfl) | (obtain ⟨_, _, e, _⟩ := h; subst e; rfl) | (obtain ⟨_, _, _, e, _⟩ := h; subst e; rfl) | (obtain ⟨_, _, _, _, e, _⟩ := h; subst e; rfl) | (obtain ⟨_, _, _, _, _, e, _⟩ := h; subst e; rfl) | (obtain ⟨_, _, _, _, _, _, e, _⟩ := h; subst e; rfl)) fun cdv A outer s H hr hgd => ⟨_, tm__law_movers B h__law_below h__law_heard hr hgd, fun ds S R q => (h_law_movers) ds S R q⟩
theorem gf__law_is_stubborn {f__law_state f__law_movers : Addr} {fd__law_state fd__law_movers : FuncData} {f : Addr} {fd : FuncData} (F : Fun K "_law_is_stubborn" "_law_is_stubborn" s__law_is_stubborn f fd) (B : Blt mg) (h__law_state : Has P w K mg base k "_law_state" f__law_state fd__law_state ["few", "number"] (γ_state_by)) (h__law_movers : Has P w K mg base k "_law_movers" f__law_movers fd__law_movers ["net", "state"] (γ_movers_by)) : GFn P w K mg base (k + 1) f fd ["net", "number"] (γ_lstub) :=
  gfn_of F sc__law_is_stubborn (by intro ds S R h; unfold γ_lstub at h; first | (obtain ⟨e, _⟩ := h; subst e; rfl) | (split at h <;> first | rfl | exact h.elim) | (obtain ⟨_, e, _⟩ := h; subst e; rfl) | (obtain ⟨_, _, e, _⟩ := h; subst e; rfl) | (obtain ⟨_, _, _, e, _⟩ := h; subst e; rfl) | (obtain ⟨_, _, _, _, e, _⟩ := h; subst e; rfl) | (obtain ⟨_, _, _, _, _, e, _⟩ := h; subst e; rfl) | (obtain ⟨_, _, _, _, _, _, e, _⟩ := h; subst e; rfl)) fun cdv A outer s H hr hgd => ⟨_, tm__law_is_stubborn B h__law_state h__law_movers hr hgd, fun ds S R q => (law_lstub) ds S R q⟩
theorem gf__law_spread {f__law_state f__law_movers : Addr} {fd__law_state fd__law_movers : FuncData} {f : Addr} {fd : FuncData} (F : Fun K "_law_spread" "_law_spread" s__law_spread f fd) (B : Blt mg) (h__law_state : Has P w K mg base k "_law_state" f__law_state fd__law_state ["few", "number"] (γ_state_by)) (h__law_movers : Has P w K mg base k "_law_movers" f__law_movers fd__law_movers ["net", "state"] (γ_movers_by)) : GFn P w K mg base (k + 1) f fd ["net", "number"] (γ_lspread) :=
  gfn_of F sc__law_spread (by intro ds S R h; unfold γ_lspread at h; first | (obtain ⟨e, _⟩ := h; subst e; rfl) | (split at h <;> first | rfl | exact h.elim) | (obtain ⟨_, e, _⟩ := h; subst e; rfl) | (obtain ⟨_, _, e, _⟩ := h; subst e; rfl) | (obtain ⟨_, _, _, e, _⟩ := h; subst e; rfl) | (obtain ⟨_, _, _, _, e, _⟩ := h; subst e; rfl) | (obtain ⟨_, _, _, _, _, e, _⟩ := h; subst e; rfl) | (obtain ⟨_, _, _, _, _, _, e, _⟩ := h; subst e; rfl)) fun cdv A outer s H hr hgd => ⟨_, tm__law_spread B h__law_state h__law_movers hr hgd, fun ds S R q => (law_lspread) ds S R q⟩
theorem gf__law_lot {f : Addr} {fd : FuncData} (F : Fun K "_law_lot" "_law_lot" s__law_lot f fd) (B : Blt mg) : GFn P w K mg base (k + 1) f fd ["few", "number"] (γ_llot) :=
  gfn_of F sc__law_lot (by intro ds S R h; unfold γ_llot at h; first | (obtain ⟨e, _⟩ := h; subst e; rfl) | (split at h <;> first | rfl | exact h.elim) | (obtain ⟨_, e, _⟩ := h; subst e; rfl) | (obtain ⟨_, _, e, _⟩ := h; subst e; rfl) | (obtain ⟨_, _, _, e, _⟩ := h; subst e; rfl) | (obtain ⟨_, _, _, _, e, _⟩ := h; subst e; rfl) | (obtain ⟨_, _, _, _, _, e, _⟩ := h; subst e; rfl) | (obtain ⟨_, _, _, _, _, _, e, _⟩ := h; subst e; rfl)) fun cdv A outer s H hr hgd => ⟨_, tm__law_lot B hr hgd, fun ds S R q => (law_llot) ds S R q⟩
theorem gf_is_tuple_of {f : Addr} {fd : FuncData} (F : Fun K "is_tuple_of" "is_tuple_of" s_is_tuple_of f fd) (B : Blt mg) : GFn P w K mg base (k + 1) f fd ["value", "many"] (γ_is_tuple_of) :=
  gfn_of F sc_is_tuple_of (by intro ds S R h; unfold γ_is_tuple_of at h; first | (obtain ⟨e, _⟩ := h; subst e; rfl) | (split at h <;> first | rfl | exact h.elim) | (obtain ⟨_, e, _⟩ := h; subst e; rfl) | (obtain ⟨_, _, e, _⟩ := h; subst e; rfl) | (obtain ⟨_, _, _, e, _⟩ := h; subst e; rfl) | (obtain ⟨_, _, _, _, e, _⟩ := h; subst e; rfl) | (obtain ⟨_, _, _, _, _, e, _⟩ := h; subst e; rfl) | (obtain ⟨_, _, _, _, _, _, e, _⟩ := h; subst e; rfl)) fun cdv A outer s H hr hgd => ⟨_, tm_is_tuple_of B hr hgd, fun ds S R q => (law_is_tuple_of) ds S R q⟩
theorem gf_is_whole {f : Addr} {fd : FuncData} (F : Fun K "is_whole" "is_whole" s_is_whole f fd) (B : Blt mg) : GFn P w K mg base (k + 1) f fd ["value"] (γ_is_whole) :=
  gfn_of F sc_is_whole (by intro ds S R h; unfold γ_is_whole at h; first | (obtain ⟨e, _⟩ := h; subst e; rfl) | (split at h <;> first | rfl | exact h.elim) | (obtain ⟨_, e, _⟩ := h; subst e; rfl) | (obtain ⟨_, _, e, _⟩ := h; subst e; rfl) | (obtain ⟨_, _, _, e, _⟩ := h; subst e; rfl) | (obtain ⟨_, _, _, _, e, _⟩ := h; subst e; rfl) | (obtain ⟨_, _, _, _, _, e, _⟩ := h; subst e; rfl) | (obtain ⟨_, _, _, _, _, _, e, _⟩ := h; subst e; rfl)) fun cdv A outer s H hr hgd => ⟨_, tm_is_whole B hr hgd, fun ds S R q => (law_is_whole) ds S R q⟩
theorem gf_is_ratio {f_is_tuple_of f_is_whole : Addr} {fd_is_tuple_of fd_is_whole : FuncData} {f : Addr} {fd : FuncData} (F : Fun K "is_ratio" "is_ratio" s_is_ratio f fd) (B : Blt mg) (h_is_tuple_of : Has P w K mg base k "is_tuple_of" f_is_tuple_of fd_is_tuple_of ["value", "many"] (γ_is_tuple_of)) (h_is_whole : Has P w K mg base k "is_whole" f_is_whole fd_is_whole ["value"] (γ_is_whole)) (m_gcd : mg "gcd" = some (.builtin "math.gcd")) : GFn P w K mg base (k + 1) f fd ["value"] (γ_is_ratio) :=
  gfn_of F sc_is_ratio (by intro ds S R h; unfold γ_is_ratio at h; first | (obtain ⟨e, _⟩ := h; subst e; rfl) | (split at h <;> first | rfl | exact h.elim) | (obtain ⟨_, e, _⟩ := h; subst e; rfl) | (obtain ⟨_, _, e, _⟩ := h; subst e; rfl) | (obtain ⟨_, _, _, e, _⟩ := h; subst e; rfl) | (obtain ⟨_, _, _, _, e, _⟩ := h; subst e; rfl) | (obtain ⟨_, _, _, _, _, e, _⟩ := h; subst e; rfl) | (obtain ⟨_, _, _, _, _, _, e, _⟩ := h; subst e; rfl)) fun cdv A outer s H hr hgd => ⟨_, tm_is_ratio B h_is_tuple_of h_is_whole m_gcd hr hgd, fun ds S R q => (law_is_ratio) ds S R q⟩
theorem gf_is_row {f_is_tuple_of f_is_ratio : Addr} {fd_is_tuple_of fd_is_ratio : FuncData} {f : Addr} {fd : FuncData} (F : Fun K "is_row" "is_row" s_is_row f fd) (B : Blt mg) (h_is_tuple_of : Has P w K mg base k "is_tuple_of" f_is_tuple_of fd_is_tuple_of ["value", "many"] (γ_is_tuple_of)) (h_is_ratio : Has P w K mg base k "is_ratio" f_is_ratio fd_is_ratio ["value"] (γ_is_ratio)) : GFn P w K mg base (k + 1) f fd ["value", "many"] (γ_is_row) :=
  gfn_of F sc_is_row (by intro ds S R h; unfold γ_is_row at h; first | (obtain ⟨e, _⟩ := h; subst e; rfl) | (split at h <;> first | rfl | exact h.elim) | (obtain ⟨_, e, _⟩ := h; subst e; rfl) | (obtain ⟨_, _, e, _⟩ := h; subst e; rfl) | (obtain ⟨_, _, _, e, _⟩ := h; subst e; rfl) | (obtain ⟨_, _, _, _, e, _⟩ := h; subst e; rfl) | (obtain ⟨_, _, _, _, _, e, _⟩ := h; subst e; rfl) | (obtain ⟨_, _, _, _, _, _, e, _⟩ := h; subst e; rfl)) fun cdv A outer s H hr hgd => ⟨_, tm_is_row B h_is_tuple_of h_is_ratio hr hgd, fun ds S R q => (law_is_row) ds S R q⟩
theorem gf_is_net_by {f_is_tuple_of f_is_row : Addr} {fd_is_tuple_of fd_is_row : FuncData} {f : Addr} {fd : FuncData} (F : Fun K "is_net_by" "is_net_by" s_is_net_by f fd) (B : Blt mg) (h_is_tuple_of : Has P w K mg base k "is_tuple_of" f_is_tuple_of fd_is_tuple_of ["value", "many"] (γ_is_tuple_of)) (c_MOST_CELLS : Cst K mg "MOST_CELLS" (.int 8)) (h_is_row : Has P w K mg base k "is_row" f_is_row fd_is_row ["value", "many"] (γ_is_row)) (c_ZERO : Cst K mg "ZERO" (.tup [.int 0, .int 1])) : GFn P w K mg base (k + 1) f fd ["value"] (γ_is_net_by) :=
  gfn_of F sc_is_net_by (by intro ds S R h; unfold γ_is_net_by at h; first | (obtain ⟨e, _⟩ := h; subst e; rfl) | (split at h <;> first | rfl | exact h.elim) | (obtain ⟨_, e, _⟩ := h; subst e; rfl) | (obtain ⟨_, _, e, _⟩ := h; subst e; rfl) | (obtain ⟨_, _, _, e, _⟩ := h; subst e; rfl) | (obtain ⟨_, _, _, _, e, _⟩ := h; subst e; rfl) | (obtain ⟨_, _, _, _, _, e, _⟩ := h; subst e; rfl) | (obtain ⟨_, _, _, _, _, _, e, _⟩ := h; subst e; rfl)) fun cdv A outer s H hr hgd => ⟨_, tm_is_net_by B h_is_tuple_of c_MOST_CELLS h_is_row c_ZERO hr hgd, fun ds S R q => (law_is_net_by) ds S R q⟩
theorem gf_check_net {f_is_net_by : Addr} {fd_is_net_by : FuncData} {f : Addr} {fd : FuncData} (F : Fun K "check_net" "check_net" s_check_net f fd) (B : Blt mg) (h_is_net_by : Has P w K mg base k "is_net_by" f_is_net_by fd_is_net_by ["value"] (γ_is_net_by)) : GFn P w K mg base (k + 1) f fd ["value"] (γ_check_net) :=
  gfn_of F sc_check_net (by intro ds S R h; unfold γ_check_net at h; first | (obtain ⟨e, _⟩ := h; subst e; rfl) | (split at h <;> first | rfl | exact h.elim) | (obtain ⟨_, e, _⟩ := h; subst e; rfl) | (obtain ⟨_, _, e, _⟩ := h; subst e; rfl) | (obtain ⟨_, _, _, e, _⟩ := h; subst e; rfl) | (obtain ⟨_, _, _, _, e, _⟩ := h; subst e; rfl) | (obtain ⟨_, _, _, _, _, e, _⟩ := h; subst e; rfl) | (obtain ⟨_, _, _, _, _, _, e, _⟩ := h; subst e; rfl)) fun cdv A outer s H hr hgd => ⟨_, tm_check_net B h_is_net_by hr hgd, fun ds S R q => (law_check_net) ds S R q⟩
theorem gf_is_between {f_is_whole : Addr} {fd_is_whole : FuncData} {f : Addr} {fd : FuncData} (F : Fun K "is_between" "is_between" s_is_between f fd) (B : Blt mg) (h_is_whole : Has P w K mg base k "is_whole" f_is_whole fd_is_whole ["value"] (γ_is_whole)) : GFn P w K mg base (k + 1) f fd ["value", "low", "high"] (γ_is_between) :=
  gfn_of F sc_is_between (by intro ds S R h; unfold γ_is_between at h; first | (obtain ⟨e, _⟩ := h; subst e; rfl) | (split at h <;> first | rfl | exact h.elim) | (obtain ⟨_, e, _⟩ := h; subst e; rfl) | (obtain ⟨_, _, e, _⟩ := h; subst e; rfl) | (obtain ⟨_, _, _, e, _⟩ := h; subst e; rfl) | (obtain ⟨_, _, _, _, e, _⟩ := h; subst e; rfl) | (obtain ⟨_, _, _, _, _, e, _⟩ := h; subst e; rfl) | (obtain ⟨_, _, _, _, _, _, e, _⟩ := h; subst e; rfl)) fun cdv A outer s H hr hgd => ⟨_, tm_is_between B h_is_whole hr hgd, fun ds S R q => (law_is_between) ds S R q⟩
theorem gf_many_cells {f : Addr} {fd : FuncData} (F : Fun K "many_cells" "many_cells" s_many_cells f fd) (B : Blt mg) : GFn P w K mg base (k + 1) f fd ["net"] (γ_many_cells) :=
  gfn_of F sc_many_cells (by intro ds S R h; unfold γ_many_cells at h; first | (obtain ⟨e, _⟩ := h; subst e; rfl) | (split at h <;> first | rfl | exact h.elim) | (obtain ⟨_, e, _⟩ := h; subst e; rfl) | (obtain ⟨_, _, e, _⟩ := h; subst e; rfl) | (obtain ⟨_, _, _, e, _⟩ := h; subst e; rfl) | (obtain ⟨_, _, _, _, e, _⟩ := h; subst e; rfl) | (obtain ⟨_, _, _, _, _, e, _⟩ := h; subst e; rfl) | (obtain ⟨_, _, _, _, _, _, e, _⟩ := h; subst e; rfl)) fun cdv A outer s H hr hgd => ⟨_, tm_many_cells B hr hgd, fun ds S R q => (law_many_cells) ds S R q⟩
theorem gf_is_cell_by {f_is_between f_many_cells : Addr} {fd_is_between fd_many_cells : FuncData} {f : Addr} {fd : FuncData} (F : Fun K "is_cell_by" "is_cell_by" s_is_cell_by f fd) (B : Blt mg) (h_is_between : Has P w K mg base k "is_between" f_is_between fd_is_between ["value", "low", "high"] (γ_is_between)) (h_many_cells : Has P w K mg base k "many_cells" f_many_cells fd_many_cells ["net"] (γ_many_cells)) : GFn P w K mg base (k + 1) f fd ["net", "value"] (γ_is_cell_by) :=
  gfn_of F sc_is_cell_by (by intro ds S R h; unfold γ_is_cell_by at h; first | (obtain ⟨e, _⟩ := h; subst e; rfl) | (split at h <;> first | rfl | exact h.elim) | (obtain ⟨_, e, _⟩ := h; subst e; rfl) | (obtain ⟨_, _, e, _⟩ := h; subst e; rfl) | (obtain ⟨_, _, _, e, _⟩ := h; subst e; rfl) | (obtain ⟨_, _, _, _, e, _⟩ := h; subst e; rfl) | (obtain ⟨_, _, _, _, _, e, _⟩ := h; subst e; rfl) | (obtain ⟨_, _, _, _, _, _, e, _⟩ := h; subst e; rfl)) fun cdv A outer s H hr hgd => ⟨_, tm_is_cell_by B h_is_between h_many_cells hr hgd, fun ds S R q => (law_is_cell_by) ds S R q⟩
theorem gf_wrong_in_lot {f_is_cell_by : Addr} {fd_is_cell_by : FuncData} {f : Addr} {fd : FuncData} (F : Fun K "wrong_in_lot" "wrong_in_lot" s_wrong_in_lot f fd) (B : Blt mg) (h_is_cell_by : Has P w K mg base k "is_cell_by" f_is_cell_by fd_is_cell_by ["net", "value"] (γ_is_cell_by)) : GFn P w K mg base (k + 1) f fd ["net", "value", "least"] (γ_wrong_in_lot) :=
  gfn_of F sc_wrong_in_lot (by intro ds S R h; unfold γ_wrong_in_lot at h; first | (obtain ⟨e, _⟩ := h; subst e; rfl) | (split at h <;> first | rfl | exact h.elim) | (obtain ⟨_, e, _⟩ := h; subst e; rfl) | (obtain ⟨_, _, e, _⟩ := h; subst e; rfl) | (obtain ⟨_, _, _, e, _⟩ := h; subst e; rfl) | (obtain ⟨_, _, _, _, e, _⟩ := h; subst e; rfl) | (obtain ⟨_, _, _, _, _, e, _⟩ := h; subst e; rfl) | (obtain ⟨_, _, _, _, _, _, e, _⟩ := h; subst e; rfl)) fun cdv A outer s H hr hgd => ⟨_, tm_wrong_in_lot B h_is_cell_by hr hgd, fun ds S R q => (law_wrong_in_lot) ds S R q⟩
theorem gf_is_helping_by {f : Addr} {fd : FuncData} (F : Fun K "is_helping_by" "is_helping_by" s_is_helping_by f fd) (B : Blt mg) : GFn P w K mg base (k + 1) f fd ["net"] (γ_helps) :=
  gfn_of F sc_is_helping_by (by intro ds S R h; unfold γ_helps at h; first | (obtain ⟨e, _⟩ := h; subst e; rfl) | (split at h <;> first | rfl | exact h.elim) | (obtain ⟨_, e, _⟩ := h; subst e; rfl) | (obtain ⟨_, _, e, _⟩ := h; subst e; rfl) | (obtain ⟨_, _, _, e, _⟩ := h; subst e; rfl) | (obtain ⟨_, _, _, _, e, _⟩ := h; subst e; rfl) | (obtain ⟨_, _, _, _, _, e, _⟩ := h; subst e; rfl) | (obtain ⟨_, _, _, _, _, _, e, _⟩ := h; subst e; rfl)) fun cdv A outer s H hr hgd => ⟨_, tm_is_helping_by B hr hgd, fun ds S R q => (law_is_helping_by) ds S R q⟩
theorem gf_check_helping {f_is_helping_by : Addr} {fd_is_helping_by : FuncData} {f : Addr} {fd : FuncData} (F : Fun K "check_helping" "check_helping" s_check_helping f fd) (B : Blt mg) (h_is_helping_by : Has P w K mg base k "is_helping_by" f_is_helping_by fd_is_helping_by ["net"] (γ_helps)) : GFn P w K mg base (k + 1) f fd ["net"] (γ_check_helping) :=
  gfn_of F sc_check_helping (by intro ds S R h; unfold γ_check_helping at h; first | (obtain ⟨e, _⟩ := h; subst e; rfl) | (split at h <;> first | rfl | exact h.elim) | (obtain ⟨_, e, _⟩ := h; subst e; rfl) | (obtain ⟨_, _, e, _⟩ := h; subst e; rfl) | (obtain ⟨_, _, _, e, _⟩ := h; subst e; rfl) | (obtain ⟨_, _, _, _, e, _⟩ := h; subst e; rfl) | (obtain ⟨_, _, _, _, _, e, _⟩ := h; subst e; rfl) | (obtain ⟨_, _, _, _, _, _, e, _⟩ := h; subst e; rfl)) fun cdv A outer s H hr hgd => ⟨_, tm_check_helping B h_is_helping_by hr hgd, fun ds S R q => (law_check_helping) ds S R q⟩
theorem gf_check_lot {f_check_net f_wrong_in_lot f_check_helping : Addr} {fd_check_net fd_wrong_in_lot fd_check_helping : FuncData} {f : Addr} {fd : FuncData} (F : Fun K "check_lot" "check_lot" s_check_lot f fd) (B : Blt mg) (h_check_net : Has P w K mg base k "check_net" f_check_net fd_check_net ["value"] (γ_check_net)) (h_wrong_in_lot : Has P w K mg base k "wrong_in_lot" f_wrong_in_lot fd_wrong_in_lot ["net", "value", "least"] (γ_wrong_in_lot)) (h_check_helping : Has P w K mg base k "check_helping" f_check_helping fd_check_helping ["net"] (γ_check_helping)) : GFn P w K mg base (k + 1) f fd ["net", "value", "least"] (γ_check_lot) :=
  gfn_of F sc_check_lot (by intro ds S R h; unfold γ_check_lot at h; first | (obtain ⟨e, _⟩ := h; subst e; rfl) | (split at h <;> first | rfl | exact h.elim) | (obtain ⟨_, e, _⟩ := h; subst e; rfl) | (obtain ⟨_, _, e, _⟩ := h; subst e; rfl) | (obtain ⟨_, _, _, e, _⟩ := h; subst e; rfl) | (obtain ⟨_, _, _, _, e, _⟩ := h; subst e; rfl) | (obtain ⟨_, _, _, _, _, e, _⟩ := h; subst e; rfl) | (obtain ⟨_, _, _, _, _, _, e, _⟩ := h; subst e; rfl)) fun cdv A outer s H hr hgd => ⟨_, tm_check_lot B h_check_net h_wrong_in_lot h_check_helping hr hgd, fun ds S R q => (law_check_lot) ds S R q⟩
theorem gf_on_in {f : Addr} {fd : FuncData} (F : Fun K "on_in" "on_in" s_on_in f fd) (B : Blt mg) : GFn P w K mg base (k + 1) f fd ["state"] (γ_on_in) :=
  gfn_of F sc_on_in (by intro ds S R h; unfold γ_on_in at h; first | (obtain ⟨e, _⟩ := h; subst e; rfl) | (split at h <;> first | rfl | exact h.elim) | (obtain ⟨_, e, _⟩ := h; subst e; rfl) | (obtain ⟨_, _, e, _⟩ := h; subst e; rfl) | (obtain ⟨_, _, _, e, _⟩ := h; subst e; rfl) | (obtain ⟨_, _, _, _, e, _⟩ := h; subst e; rfl) | (obtain ⟨_, _, _, _, _, e, _⟩ := h; subst e; rfl) | (obtain ⟨_, _, _, _, _, _, e, _⟩ := h; subst e; rfl)) fun cdv A outer s H hr hgd => ⟨_, tm_on_in B hr hgd, fun ds S R q => (law_on_in) ds S R q⟩
theorem gf_grown_by {f : Addr} {fd : FuncData} (F : Fun K "grown_by" "grown_by" s_grown_by f fd) (B : Blt mg) : GFn P w K mg base (k + 1) f fd ["state", "other"] (γ_grown_by) :=
  gfn_of F sc_grown_by (by intro ds S R h; unfold γ_grown_by at h; first | (obtain ⟨e, _⟩ := h; subst e; rfl) | (split at h <;> first | rfl | exact h.elim) | (obtain ⟨_, e, _⟩ := h; subst e; rfl) | (obtain ⟨_, _, e, _⟩ := h; subst e; rfl) | (obtain ⟨_, _, _, e, _⟩ := h; subst e; rfl) | (obtain ⟨_, _, _, _, e, _⟩ := h; subst e; rfl) | (obtain ⟨_, _, _, _, _, e, _⟩ := h; subst e; rfl) | (obtain ⟨_, _, _, _, _, _, e, _⟩ := h; subst e; rfl)) fun cdv A outer s H hr hgd => ⟨_, tm_grown_by B hr hgd, fun ds S R q => (law_grown_by) ds S R q⟩
theorem gf_is_less {f : Addr} {fd : FuncData} (F : Fun K "is_less" "is_less" s_is_less f fd) (B : Blt mg) : GFn P w K mg base (k + 1) f fd ["one", "two"] (γ_is_less) :=
  gfn_of F sc_is_less (by intro ds S R h; unfold γ_is_less at h; first | (obtain ⟨e, _⟩ := h; subst e; rfl) | (split at h <;> first | rfl | exact h.elim) | (obtain ⟨_, e, _⟩ := h; subst e; rfl) | (obtain ⟨_, _, e, _⟩ := h; subst e; rfl) | (obtain ⟨_, _, _, e, _⟩ := h; subst e; rfl) | (obtain ⟨_, _, _, _, e, _⟩ := h; subst e; rfl) | (obtain ⟨_, _, _, _, _, e, _⟩ := h; subst e; rfl) | (obtain ⟨_, _, _, _, _, _, e, _⟩ := h; subst e; rfl)) fun cdv A outer s H hr hgd => ⟨_, tm_is_less B hr hgd, fun ds S R q => (law_is_less) ds S R q⟩
theorem gf_ratio {f : Addr} {fd : FuncData} (F : Fun K "ratio" "ratio" s_ratio f fd) (B : Blt mg) (m_gcd : mg "gcd" = some (.builtin "math.gcd")) : GFn P w K mg base (k + 1) f fd ["top", "low"] (γ_ratio) :=
  gfn_of F sc_ratio (by intro ds S R h; unfold γ_ratio at h; first | (obtain ⟨e, _⟩ := h; subst e; rfl) | (split at h <;> first | rfl | exact h.elim) | (obtain ⟨_, e, _⟩ := h; subst e; rfl) | (obtain ⟨_, _, e, _⟩ := h; subst e; rfl) | (obtain ⟨_, _, _, e, _⟩ := h; subst e; rfl) | (obtain ⟨_, _, _, _, e, _⟩ := h; subst e; rfl) | (obtain ⟨_, _, _, _, _, e, _⟩ := h; subst e; rfl) | (obtain ⟨_, _, _, _, _, _, e, _⟩ := h; subst e; rfl)) fun cdv A outer s H hr hgd => ⟨_, tm_ratio B m_gcd hr hgd, fun ds S R q => (law_ratio) ds S R q⟩
theorem gf_plus {f_ratio : Addr} {fd_ratio : FuncData} {f : Addr} {fd : FuncData} (F : Fun K "plus" "plus" s_plus f fd) (B : Blt mg) (h_ratio : Has P w K mg base k "ratio" f_ratio fd_ratio ["top", "low"] (γ_ratio)) : GFn P w K mg base (k + 1) f fd ["one", "two"] (γ_plus) :=
  gfn_of F sc_plus (by intro ds S R h; unfold γ_plus at h; first | (obtain ⟨e, _⟩ := h; subst e; rfl) | (split at h <;> first | rfl | exact h.elim) | (obtain ⟨_, e, _⟩ := h; subst e; rfl) | (obtain ⟨_, _, e, _⟩ := h; subst e; rfl) | (obtain ⟨_, _, _, e, _⟩ := h; subst e; rfl) | (obtain ⟨_, _, _, _, e, _⟩ := h; subst e; rfl) | (obtain ⟨_, _, _, _, _, e, _⟩ := h; subst e; rfl) | (obtain ⟨_, _, _, _, _, _, e, _⟩ := h; subst e; rfl)) fun cdv A outer s H hr hgd => ⟨_, tm_plus B h_ratio hr hgd, fun ds S R q => (law_plus) ds S R q⟩
theorem gf_total {f_plus : Addr} {fd_plus : FuncData} {f : Addr} {fd : FuncData} (F : Fun K "total" "total" s_total f fd) (B : Blt mg) (c_ZERO : Cst K mg "ZERO" (.tup [.int 0, .int 1])) (h_plus : Has P w K mg base k "plus" f_plus fd_plus ["one", "two"] (γ_plus)) : GFn P w K mg base (k + 1) f fd ["fractions"] (γ_total) :=
  gfn_of F sc_total (by intro ds S R h; unfold γ_total at h; first | (obtain ⟨e, _⟩ := h; subst e; rfl) | (split at h <;> first | rfl | exact h.elim) | (obtain ⟨_, e, _⟩ := h; subst e; rfl) | (obtain ⟨_, _, e, _⟩ := h; subst e; rfl) | (obtain ⟨_, _, _, e, _⟩ := h; subst e; rfl) | (obtain ⟨_, _, _, _, e, _⟩ := h; subst e; rfl) | (obtain ⟨_, _, _, _, _, e, _⟩ := h; subst e; rfl) | (obtain ⟨_, _, _, _, _, _, e, _⟩ := h; subst e; rfl)) fun cdv A outer s H hr hgd => ⟨_, tm_total B c_ZERO h_plus hr hgd, fun ds S R q => (law_total) ds S R q⟩
theorem gf_heard_by {f_total : Addr} {fd_total : FuncData} {f : Addr} {fd : FuncData} (F : Fun K "heard_by" "heard_by" s_heard_by f fd) (B : Blt mg) (h_total : Has P w K mg base k "total" f_total fd_total ["fractions"] (γ_total)) : GFn P w K mg base (k + 1) f fd ["net", "cell", "state"] (γ_heard_by) :=
  gfn_of F sc_heard_by (by intro ds S R h; unfold γ_heard_by at h; first | (obtain ⟨e, _⟩ := h; subst e; rfl) | (split at h <;> first | rfl | exact h.elim) | (obtain ⟨_, e, _⟩ := h; subst e; rfl) | (obtain ⟨_, _, e, _⟩ := h; subst e; rfl) | (obtain ⟨_, _, _, e, _⟩ := h; subst e; rfl) | (obtain ⟨_, _, _, _, e, _⟩ := h; subst e; rfl) | (obtain ⟨_, _, _, _, _, e, _⟩ := h; subst e; rfl) | (obtain ⟨_, _, _, _, _, _, e, _⟩ := h; subst e; rfl)) fun cdv A outer s H hr hgd => ⟨_, tm_heard_by B h_total hr hgd, fun ds S R q => (law_heard_by) ds S R q⟩
theorem gf_wanted_by {f_many_cells f_is_less f_heard_by : Addr} {fd_many_cells fd_is_less fd_heard_by : FuncData} {f : Addr} {fd : FuncData} (F : Fun K "wanted_by" "wanted_by" s_wanted_by f fd) (B : Blt mg) (h_many_cells : Has P w K mg base k "many_cells" f_many_cells fd_many_cells ["net"] (γ_many_cells)) (h_is_less : Has P w K mg base k "is_less" f_is_less fd_is_less ["one", "two"] (γ_is_less)) (h_heard_by : Has P w K mg base k "heard_by" f_heard_by fd_heard_by ["net", "cell", "state"] (γ_heard_by)) : GFn P w K mg base (k + 1) f fd ["net", "state"] (γ_wanted_by) :=
  gfn_of F sc_wanted_by (by intro ds S R h; unfold γ_wanted_by at h; first | (obtain ⟨e, _⟩ := h; subst e; rfl) | (split at h <;> first | rfl | exact h.elim) | (obtain ⟨_, e, _⟩ := h; subst e; rfl) | (obtain ⟨_, _, e, _⟩ := h; subst e; rfl) | (obtain ⟨_, _, _, e, _⟩ := h; subst e; rfl) | (obtain ⟨_, _, _, _, e, _⟩ := h; subst e; rfl) | (obtain ⟨_, _, _, _, _, e, _⟩ := h; subst e; rfl) | (obtain ⟨_, _, _, _, _, _, e, _⟩ := h; subst e; rfl)) fun cdv A outer s H hr hgd => ⟨_, tm_wanted_by B h_many_cells h_is_less h_heard_by hr hgd, fun ds S R q => (law_wanted_by) ds S R q⟩
theorem gf_risen {f_grown_by f_wanted_by : Addr} {fd_grown_by fd_wanted_by : FuncData} {f : Addr} {fd : FuncData} (F : Fun K "risen" "risen" s_risen f fd) (B : Blt mg) (h_grown_by : Has P w K mg base k "grown_by" f_grown_by fd_grown_by ["state", "other"] (γ_grown_by)) (h_wanted_by : Has P w K mg base k "wanted_by" f_wanted_by fd_wanted_by ["net", "state"] (γ_wanted_by)) : GFn P w K mg base (k + 1) f fd ["net", "state"] (γ_risen) :=
  gfn_of F sc_risen (by intro ds S R h; unfold γ_risen at h; first | (obtain ⟨e, _⟩ := h; subst e; rfl) | (split at h <;> first | rfl | exact h.elim) | (obtain ⟨_, e, _⟩ := h; subst e; rfl) | (obtain ⟨_, _, e, _⟩ := h; subst e; rfl) | (obtain ⟨_, _, _, e, _⟩ := h; subst e; rfl) | (obtain ⟨_, _, _, _, e, _⟩ := h; subst e; rfl) | (obtain ⟨_, _, _, _, _, e, _⟩ := h; subst e; rfl) | (obtain ⟨_, _, _, _, _, _, e, _⟩ := h; subst e; rfl)) fun cdv A outer s H hr hgd => ⟨_, tm_risen B h_grown_by h_wanted_by hr hgd, fun ds S R q => (law_risen) ds S R q⟩
theorem gf_lit_by {f_many_cells : Addr} {fd_many_cells : FuncData} {f : Addr} {fd : FuncData} (F : Fun K "lit_by" "lit_by" s_lit_by f fd) (B : Blt mg) (h_many_cells : Has P w K mg base k "many_cells" f_many_cells fd_many_cells ["net"] (γ_many_cells)) : GFn P w K mg base (k + 1) f fd ["net", "lot"] (γ_lit_by) :=
  gfn_of F sc_lit_by (by intro ds S R h; unfold γ_lit_by at h; first | (obtain ⟨e, _⟩ := h; subst e; rfl) | (split at h <;> first | rfl | exact h.elim) | (obtain ⟨_, e, _⟩ := h; subst e; rfl) | (obtain ⟨_, _, e, _⟩ := h; subst e; rfl) | (obtain ⟨_, _, _, e, _⟩ := h; subst e; rfl) | (obtain ⟨_, _, _, _, e, _⟩ := h; subst e; rfl) | (obtain ⟨_, _, _, _, _, e, _⟩ := h; subst e; rfl) | (obtain ⟨_, _, _, _, _, _, e, _⟩ := h; subst e; rfl)) fun cdv A outer s H hr hgd => ⟨_, tm_lit_by B h_many_cells hr hgd, fun ds S R q => (law_lit_by) ds S R q⟩
theorem gf_spread_by {f_on_in f_risen f_lit_by : Addr} {fd_on_in fd_risen fd_lit_by : FuncData} {f : Addr} {fd : FuncData} (F : Fun K "spread_by" "spread_by" s_spread_by f fd) (B : Blt mg) (h_on_in : Has P w K mg base k "on_in" f_on_in fd_on_in ["state"] (γ_on_in)) (h_risen : Has P w K mg base k "risen" f_risen fd_risen ["net", "state"] (γ_risen)) (h_lit_by : Has P w K mg base k "lit_by" f_lit_by fd_lit_by ["net", "lot"] (γ_lit_by)) : GFn P w K mg base (k + 1) f fd ["net", "seeds"] (γ_spread_by) :=
  gfn_of F sc_spread_by (by intro ds S R h; unfold γ_spread_by at h; first | (obtain ⟨e, _⟩ := h; subst e; rfl) | (split at h <;> first | rfl | exact h.elim) | (obtain ⟨_, e, _⟩ := h; subst e; rfl) | (obtain ⟨_, _, e, _⟩ := h; subst e; rfl) | (obtain ⟨_, _, _, e, _⟩ := h; subst e; rfl) | (obtain ⟨_, _, _, _, e, _⟩ := h; subst e; rfl) | (obtain ⟨_, _, _, _, _, e, _⟩ := h; subst e; rfl) | (obtain ⟨_, _, _, _, _, _, e, _⟩ := h; subst e; rfl)) fun cdv A outer s H hr hgd => ⟨_, tm_spread_by B h_on_in h_risen h_lit_by hr hgd, fun ds S R q => (law_spread_by) ds S R q⟩
theorem gf_does_light_by {f_spread_by f_many_cells : Addr} {fd_spread_by fd_many_cells : FuncData} {f : Addr} {fd : FuncData} (F : Fun K "does_light_by" "does_light_by" s_does_light_by f fd) (B : Blt mg) (h_spread_by : Has P w K mg base k "spread_by" f_spread_by fd_spread_by ["net", "seeds"] (γ_spread_by)) (h_many_cells : Has P w K mg base k "many_cells" f_many_cells fd_many_cells ["net"] (γ_many_cells)) : GFn P w K mg base (k + 1) f fd ["net", "seeds"] (γ_light_by) :=
  gfn_of F sc_does_light_by (by intro ds S R h; unfold γ_light_by at h; first | (obtain ⟨e, _⟩ := h; subst e; rfl) | (split at h <;> first | rfl | exact h.elim) | (obtain ⟨_, e, _⟩ := h; subst e; rfl) | (obtain ⟨_, _, e, _⟩ := h; subst e; rfl) | (obtain ⟨_, _, _, e, _⟩ := h; subst e; rfl) | (obtain ⟨_, _, _, _, e, _⟩ := h; subst e; rfl) | (obtain ⟨_, _, _, _, _, e, _⟩ := h; subst e; rfl) | (obtain ⟨_, _, _, _, _, _, e, _⟩ := h; subst e; rfl)) fun cdv A outer s H hr hgd => ⟨_, tm_does_light_by B h_spread_by h_many_cells hr hgd, fun ds S R q => (law_does_light_by) ds S R q⟩
theorem gf_does_light {f_check_lot f_does_light_by : Addr} {fd_check_lot fd_does_light_by : FuncData} {f : Addr} {fd : FuncData} (F : Fun K "does_light" "does_light" s_does_light f fd) (B : Blt mg) (h_check_lot : Has P w K mg base k "check_lot" f_check_lot fd_check_lot ["net", "value", "least"] (γ_check_lot)) (h_does_light_by : Has P w K mg base k "does_light_by" f_does_light_by fd_does_light_by ["net", "seeds"] (γ_light_by)) : GFn P w K mg base (k + 1) f fd ["net", "seeds"] (γ_light) :=
  gfn_of F sc_does_light (by intro ds S R h; unfold γ_light at h; first | (obtain ⟨e, _⟩ := h; subst e; rfl) | (split at h <;> first | rfl | exact h.elim) | (obtain ⟨_, e, _⟩ := h; subst e; rfl) | (obtain ⟨_, _, e, _⟩ := h; subst e; rfl) | (obtain ⟨_, _, _, e, _⟩ := h; subst e; rfl) | (obtain ⟨_, _, _, _, e, _⟩ := h; subst e; rfl) | (obtain ⟨_, _, _, _, _, e, _⟩ := h; subst e; rfl) | (obtain ⟨_, _, _, _, _, _, e, _⟩ := h; subst e; rfl)) fun cdv A outer s H hr hgd => ⟨_, tm_does_light B h_check_lot h_does_light_by hr hgd, fun ds S R q => (law_does_light) ds S R q⟩
theorem gf_spread {f_check_lot f_spread_by : Addr} {fd_check_lot fd_spread_by : FuncData} {f : Addr} {fd : FuncData} (F : Fun K "spread" "spread" s_spread f fd) (B : Blt mg) (h_check_lot : Has P w K mg base k "check_lot" f_check_lot fd_check_lot ["net", "value", "least"] (γ_check_lot)) (h_spread_by : Has P w K mg base k "spread_by" f_spread_by fd_spread_by ["net", "seeds"] (γ_spread_by)) : GFn P w K mg base (k + 1) f fd ["net", "seeds"] (γ_spread) :=
  gfn_of F sc_spread (by intro ds S R h; unfold γ_spread at h; first | (obtain ⟨e, _⟩ := h; subst e; rfl) | (split at h <;> first | rfl | exact h.elim) | (obtain ⟨_, e, _⟩ := h; subst e; rfl) | (obtain ⟨_, _, e, _⟩ := h; subst e; rfl) | (obtain ⟨_, _, _, e, _⟩ := h; subst e; rfl) | (obtain ⟨_, _, _, _, e, _⟩ := h; subst e; rfl) | (obtain ⟨_, _, _, _, _, e, _⟩ := h; subst e; rfl) | (obtain ⟨_, _, _, _, _, _, e, _⟩ := h; subst e; rfl)) fun cdv A outer s H hr hgd => ⟨_, tm_spread B h_check_lot h_spread_by hr hgd, fun ds S R q => (law_spread) ds S R q⟩
theorem gf_cells_beyond {f_many_cells : Addr} {fd_many_cells : FuncData} {f : Addr} {fd : FuncData} (F : Fun K "cells_beyond" "cells_beyond" s_cells_beyond f fd) (B : Blt mg) (h_many_cells : Has P w K mg base k "many_cells" f_many_cells fd_many_cells ["net"] (γ_many_cells)) : GFn P w K mg base (k + 1) f fd ["net", "lot"] (γ_beyond) :=
  gfn_of F sc_cells_beyond (by intro ds S R h; unfold γ_beyond at h; first | (obtain ⟨e, _⟩ := h; subst e; rfl) | (split at h <;> first | rfl | exact h.elim) | (obtain ⟨_, e, _⟩ := h; subst e; rfl) | (obtain ⟨_, _, e, _⟩ := h; subst e; rfl) | (obtain ⟨_, _, _, e, _⟩ := h; subst e; rfl) | (obtain ⟨_, _, _, _, e, _⟩ := h; subst e; rfl) | (obtain ⟨_, _, _, _, _, e, _⟩ := h; subst e; rfl) | (obtain ⟨_, _, _, _, _, _, e, _⟩ := h; subst e; rfl)) fun cdv A outer s H hr hgd => ⟨_, tm_cells_beyond B h_many_cells hr hgd, fun ds S R q => (law_beyond) ds S R q⟩
theorem gf_is_stubborn_by {f_wanted_by f_lit_by f_cells_beyond : Addr} {fd_wanted_by fd_lit_by fd_cells_beyond : FuncData} {f : Addr} {fd : FuncData} (F : Fun K "is_stubborn_by" "is_stubborn_by" s_is_stubborn_by f fd) (B : Blt mg) (h_wanted_by : Has P w K mg base k "wanted_by" f_wanted_by fd_wanted_by ["net", "state"] (γ_wanted_by)) (h_lit_by : Has P w K mg base k "lit_by" f_lit_by fd_lit_by ["net", "lot"] (γ_lit_by)) (h_cells_beyond : Has P w K mg base k "cells_beyond" f_cells_beyond fd_cells_beyond ["net", "lot"] (γ_beyond)) : GFn P w K mg base (k + 1) f fd ["net", "lot"] (γ_stubBy) :=
  gfn_of F sc_is_stubborn_by (by intro ds S R h; unfold γ_stubBy at h; first | (obtain ⟨e, _⟩ := h; subst e; rfl) | (split at h <;> first | rfl | exact h.elim) | (obtain ⟨_, e, _⟩ := h; subst e; rfl) | (obtain ⟨_, _, e, _⟩ := h; subst e; rfl) | (obtain ⟨_, _, _, e, _⟩ := h; subst e; rfl) | (obtain ⟨_, _, _, _, e, _⟩ := h; subst e; rfl) | (obtain ⟨_, _, _, _, _, e, _⟩ := h; subst e; rfl) | (obtain ⟨_, _, _, _, _, _, e, _⟩ := h; subst e; rfl)) fun cdv A outer s H hr hgd => ⟨_, tm_is_stubborn_by B h_wanted_by h_lit_by h_cells_beyond hr hgd, fun ds S R q => (law_stubBy) ds S R q⟩
theorem gf_is_stubborn {f_check_lot f_is_stubborn_by : Addr} {fd_check_lot fd_is_stubborn_by : FuncData} {f : Addr} {fd : FuncData} (F : Fun K "is_stubborn" "is_stubborn" s_is_stubborn f fd) (B : Blt mg) (h_check_lot : Has P w K mg base k "check_lot" f_check_lot fd_check_lot ["net", "value", "least"] (γ_check_lot)) (h_is_stubborn_by : Has P w K mg base k "is_stubborn_by" f_is_stubborn_by fd_is_stubborn_by ["net", "lot"] (γ_stubBy)) : GFn P w K mg base (k + 1) f fd ["net", "lot"] (γ_isStub) :=
  gfn_of F sc_is_stubborn (by intro ds S R h; unfold γ_isStub at h; first | (obtain ⟨e, _⟩ := h; subst e; rfl) | (split at h <;> first | rfl | exact h.elim) | (obtain ⟨_, e, _⟩ := h; subst e; rfl) | (obtain ⟨_, _, e, _⟩ := h; subst e; rfl) | (obtain ⟨_, _, _, e, _⟩ := h; subst e; rfl) | (obtain ⟨_, _, _, _, e, _⟩ := h; subst e; rfl) | (obtain ⟨_, _, _, _, _, e, _⟩ := h; subst e; rfl) | (obtain ⟨_, _, _, _, _, _, e, _⟩ := h; subst e; rfl)) fun cdv A outer s H hr hgd => ⟨_, tm_is_stubborn B h_check_lot h_is_stubborn_by hr hgd, fun ds S R q => (law_isStub) ds S R q⟩
theorem gf__law_lots_right {f__law_lot f_does_light f_spread f_is_stubborn : Addr} {fd__law_lot fd_does_light fd_spread fd_is_stubborn : FuncData} {f : Addr} {fd : FuncData} (F : Fun K "_law_lots_right" "_law_lots_right" s__law_lots_right f fd) (B : Blt mg) (h__law_lot : Has P w K mg base k "_law_lot" f__law_lot fd__law_lot ["few", "number"] (γ_llot)) (h_does_light : Has P w K mg base k "does_light" f_does_light fd_does_light ["net", "seeds"] (γ_light)) (h_spread : Has P w K mg base k "spread" f_spread fd_spread ["net", "seeds"] (γ_spread)) (h_is_stubborn : Has P w K mg base k "is_stubborn" f_is_stubborn fd_is_stubborn ["net", "lot"] (γ_isStub)) (kb_spread_0 : KB fd_spread ["net", "seeds"] ["seeds", "net"] 0 [1, 0]) (kb_is_stubborn_0 : KB fd_is_stubborn ["net", "lot"] ["lot", "net"] 0 [1, 0]) : GFn P w K mg base (k + 1) f fd ["net", "stubborn", "lights"] (γ_lr) :=
  gfn_of F sc__law_lots_right (by intro ds S R h; unfold γ_lr at h; first | (obtain ⟨e, _⟩ := h; subst e; rfl) | (split at h <;> first | rfl | exact h.elim) | (obtain ⟨_, e, _⟩ := h; subst e; rfl) | (obtain ⟨_, _, e, _⟩ := h; subst e; rfl) | (obtain ⟨_, _, _, e, _⟩ := h; subst e; rfl) | (obtain ⟨_, _, _, _, e, _⟩ := h; subst e; rfl) | (obtain ⟨_, _, _, _, _, e, _⟩ := h; subst e; rfl) | (obtain ⟨_, _, _, _, _, _, e, _⟩ := h; subst e; rfl)) fun cdv A outer s H hr hgd => ⟨_, tm__law_lots_right B h__law_lot h_does_light h_spread h_is_stubborn kb_spread_0 kb_is_stubborn_0 hr hgd, fun ds S R q => (law_lr) ds S R q⟩
theorem gf__law_least {f : Addr} {fd : FuncData} (F : Fun K "_law_least" "_law_least" s__law_least f fd) (B : Blt mg) : GFn P w K mg base (k + 1) f fd ["numbers"] (γ_lleast) :=
  gfn_of F sc__law_least (by intro ds S R h; unfold γ_lleast at h; first | (obtain ⟨e, _⟩ := h; subst e; rfl) | (split at h <;> first | rfl | exact h.elim) | (obtain ⟨_, e, _⟩ := h; subst e; rfl) | (obtain ⟨_, _, e, _⟩ := h; subst e; rfl) | (obtain ⟨_, _, _, e, _⟩ := h; subst e; rfl) | (obtain ⟨_, _, _, _, e, _⟩ := h; subst e; rfl) | (obtain ⟨_, _, _, _, _, e, _⟩ := h; subst e; rfl) | (obtain ⟨_, _, _, _, _, _, e, _⟩ := h; subst e; rfl)) fun cdv A outer s H hr hgd => ⟨_, tm__law_least B hr hgd, fun ds S R q => (law_lleast) ds S R q⟩
theorem gf_check_helping_net {f_check_net f_check_helping : Addr} {fd_check_net fd_check_helping : FuncData} {f : Addr} {fd : FuncData} (F : Fun K "check_helping_net" "check_helping_net" s_check_helping_net f fd) (B : Blt mg) (h_check_net : Has P w K mg base k "check_net" f_check_net fd_check_net ["value"] (γ_check_net)) (h_check_helping : Has P w K mg base k "check_helping" f_check_helping fd_check_helping ["net"] (γ_check_helping)) : GFn P w K mg base (k + 1) f fd ["net"] (γ_helpNet) :=
  gfn_of F sc_check_helping_net (by intro ds S R h; unfold γ_helpNet at h; first | (obtain ⟨e, _⟩ := h; subst e; rfl) | (split at h <;> first | rfl | exact h.elim) | (obtain ⟨_, e, _⟩ := h; subst e; rfl) | (obtain ⟨_, _, e, _⟩ := h; subst e; rfl) | (obtain ⟨_, _, _, e, _⟩ := h; subst e; rfl) | (obtain ⟨_, _, _, _, e, _⟩ := h; subst e; rfl) | (obtain ⟨_, _, _, _, _, e, _⟩ := h; subst e; rfl) | (obtain ⟨_, _, _, _, _, _, e, _⟩ := h; subst e; rfl)) fun cdv A outer s H hr hgd => ⟨_, tm_check_helping_net B h_check_net h_check_helping hr hgd, fun ds S R q => (law_helpNet) ds S R q⟩
theorem gf_is_within {f : Addr} {fd : FuncData} (F : Fun K "is_within" "is_within" s_is_within f fd) (B : Blt mg) : GFn P w K mg base (k + 1) f fd ["lot", "other"] (γ_inLot) :=
  gfn_of F sc_is_within (by intro ds S R h; unfold γ_inLot at h; first | (obtain ⟨e, _⟩ := h; subst e; rfl) | (split at h <;> first | rfl | exact h.elim) | (obtain ⟨_, e, _⟩ := h; subst e; rfl) | (obtain ⟨_, _, e, _⟩ := h; subst e; rfl) | (obtain ⟨_, _, _, e, _⟩ := h; subst e; rfl) | (obtain ⟨_, _, _, _, e, _⟩ := h; subst e; rfl) | (obtain ⟨_, _, _, _, _, e, _⟩ := h; subst e; rfl) | (obtain ⟨_, _, _, _, _, _, e, _⟩ := h; subst e; rfl)) fun cdv A outer s H hr hgd => ⟨_, tm_is_within B hr hgd, fun ds S R q => (law_inLot) ds S R q⟩
theorem gf_least_ones {f_is_within : Addr} {fd_is_within : FuncData} {f : Addr} {fd : FuncData} (F : Fun K "least_ones" "least_ones" s_least_ones f fd) (B : Blt mg) (h_is_within : Has P w K mg base k "is_within" f_is_within fd_is_within ["lot", "other"] (γ_inLot)) : GFn P w K mg base (k + 1) f fd ["lots"] (γ_leastOnes) :=
  gfn_of F sc_least_ones (by intro ds S R h; unfold γ_leastOnes at h; first | (obtain ⟨e, _⟩ := h; subst e; rfl) | (split at h <;> first | rfl | exact h.elim) | (obtain ⟨_, e, _⟩ := h; subst e; rfl) | (obtain ⟨_, _, e, _⟩ := h; subst e; rfl) | (obtain ⟨_, _, _, e, _⟩ := h; subst e; rfl) | (obtain ⟨_, _, _, _, e, _⟩ := h; subst e; rfl) | (obtain ⟨_, _, _, _, _, e, _⟩ := h; subst e; rfl) | (obtain ⟨_, _, _, _, _, _, e, _⟩ := h; subst e; rfl)) fun cdv A outer s H hr hgd => ⟨_, tm_least_ones B h_is_within hr hgd, fun ds S R q => (law_leastOnes) ds S R q⟩
theorem gf_lots_of_size {f_many_cells : Addr} {fd_many_cells : FuncData} {f : Addr} {fd : FuncData} (F : Fun K "lots_of_size" "lots_of_size" s_lots_of_size f fd) (B : Blt mg) (h_many_cells : Has P w K mg base k "many_cells" f_many_cells fd_many_cells ["net"] (γ_many_cells)) : GFn P w K mg base (k + 1) f fd ["net", "size"] (γ_lotsOf) :=
  gfn_of F sc_lots_of_size (by intro ds S R h; unfold γ_lotsOf at h; first | (obtain ⟨e, _⟩ := h; subst e; rfl) | (split at h <;> first | rfl | exact h.elim) | (obtain ⟨_, e, _⟩ := h; subst e; rfl) | (obtain ⟨_, _, e, _⟩ := h; subst e; rfl) | (obtain ⟨_, _, _, e, _⟩ := h; subst e; rfl) | (obtain ⟨_, _, _, _, e, _⟩ := h; subst e; rfl) | (obtain ⟨_, _, _, _, _, e, _⟩ := h; subst e; rfl) | (obtain ⟨_, _, _, _, _, _, e, _⟩ := h; subst e; rfl)) fun cdv A outer s H hr hgd => ⟨_, tm_lots_of_size B h_many_cells hr hgd, fun ds S R q => (law_lotsOf) ds S R q⟩
theorem gf_lots_in_size {f_many_cells f_lots_of_size : Addr} {fd_many_cells fd_lots_of_size : FuncData} {f : Addr} {fd : FuncData} (F : Fun K "lots_in_size" "lots_in_size" s_lots_in_size f fd) (B : Blt mg) (h_many_cells : Has P w K mg base k "many_cells" f_many_cells fd_many_cells ["net"] (γ_many_cells)) (h_lots_of_size : Has P w K mg base k "lots_of_size" f_lots_of_size fd_lots_of_size ["net", "size"] (γ_lotsOf)) : GFn P w K mg base (k + 1) f fd ["net", "least"] (γ_lotsIn) :=
  gfn_of F sc_lots_in_size (by intro ds S R h; unfold γ_lotsIn at h; first | (obtain ⟨e, _⟩ := h; subst e; rfl) | (split at h <;> first | rfl | exact h.elim) | (obtain ⟨_, e, _⟩ := h; subst e; rfl) | (obtain ⟨_, _, e, _⟩ := h; subst e; rfl) | (obtain ⟨_, _, _, e, _⟩ := h; subst e; rfl) | (obtain ⟨_, _, _, _, e, _⟩ := h; subst e; rfl) | (obtain ⟨_, _, _, _, _, e, _⟩ := h; subst e; rfl) | (obtain ⟨_, _, _, _, _, _, e, _⟩ := h; subst e; rfl)) fun cdv A outer s H hr hgd => ⟨_, tm_lots_in_size B h_many_cells h_lots_of_size hr hgd, fun ds S R q => (law_lotsIn) ds S R q⟩
theorem gf_stubborn_by {f_least_ones f_lots_in_size f_is_stubborn_by : Addr} {fd_least_ones fd_lots_in_size fd_is_stubborn_by : FuncData} {f : Addr} {fd : FuncData} (F : Fun K "stubborn_by" "stubborn_by" s_stubborn_by f fd) (B : Blt mg) (h_least_ones : Has P w K mg base k "least_ones" f_least_ones fd_least_ones ["lots"] (γ_leastOnes)) (h_lots_in_size : Has P w K mg base k "lots_in_size" f_lots_in_size fd_lots_in_size ["net", "least"] (γ_lotsIn)) (h_is_stubborn_by : Has P w K mg base k "is_stubborn_by" f_is_stubborn_by fd_is_stubborn_by ["net", "lot"] (γ_stubBy)) : GFn P w K mg base (k + 1) f fd ["net"] (γ_stubLots) :=
  gfn_of F sc_stubborn_by (by intro ds S R h; unfold γ_stubLots at h; first | (obtain ⟨e, _⟩ := h; subst e; rfl) | (split at h <;> first | rfl | exact h.elim) | (obtain ⟨_, e, _⟩ := h; subst e; rfl) | (obtain ⟨_, _, e, _⟩ := h; subst e; rfl) | (obtain ⟨_, _, _, e, _⟩ := h; subst e; rfl) | (obtain ⟨_, _, _, _, e, _⟩ := h; subst e; rfl) | (obtain ⟨_, _, _, _, _, e, _⟩ := h; subst e; rfl) | (obtain ⟨_, _, _, _, _, _, e, _⟩ := h; subst e; rfl)) fun cdv A outer s H hr hgd => ⟨_, tm_stubborn_by B h_least_ones h_lots_in_size h_is_stubborn_by hr hgd, fun ds S R q => (law_stubLots) ds S R q⟩
theorem gf_stubborn_lots {f_check_helping_net f_stubborn_by : Addr} {fd_check_helping_net fd_stubborn_by : FuncData} {f : Addr} {fd : FuncData} (F : Fun K "stubborn_lots" "stubborn_lots" s_stubborn_lots f fd) (B : Blt mg) (h_check_helping_net : Has P w K mg base k "check_helping_net" f_check_helping_net fd_check_helping_net ["net"] (γ_helpNet)) (h_stubborn_by : Has P w K mg base k "stubborn_by" f_stubborn_by fd_stubborn_by ["net"] (γ_stubLots)) : GFn P w K mg base (k + 1) f fd ["net"] (γ_stubLots) :=
  gfn_of F sc_stubborn_lots (by intro ds S R h; unfold γ_stubLots at h; first | (obtain ⟨e, _⟩ := h; subst e; rfl) | (split at h <;> first | rfl | exact h.elim) | (obtain ⟨_, e, _⟩ := h; subst e; rfl) | (obtain ⟨_, _, e, _⟩ := h; subst e; rfl) | (obtain ⟨_, _, _, e, _⟩ := h; subst e; rfl) | (obtain ⟨_, _, _, _, e, _⟩ := h; subst e; rfl) | (obtain ⟨_, _, _, _, _, e, _⟩ := h; subst e; rfl) | (obtain ⟨_, _, _, _, _, _, e, _⟩ := h; subst e; rfl)) fun cdv A outer s H hr hgd => ⟨_, tm_stubborn_lots B h_check_helping_net h_stubborn_by hr hgd, fun ds S R q => (law_stubPub) ds S R q⟩
theorem gf__law_told {f__law_lot : Addr} {fd__law_lot : FuncData} {f : Addr} {fd : FuncData} (F : Fun K "_law_told" "_law_told" s__law_told f fd) (B : Blt mg) (h__law_lot : Has P w K mg base k "_law_lot" f__law_lot fd__law_lot ["few", "number"] (γ_llot)) : GFn P w K mg base (k + 1) f fd ["few", "numbers"] (γ_told) :=
  gfn_of F sc__law_told (by intro ds S R h; unfold γ_told at h; first | (obtain ⟨e, _⟩ := h; subst e; rfl) | (split at h <;> first | rfl | exact h.elim) | (obtain ⟨_, e, _⟩ := h; subst e; rfl) | (obtain ⟨_, _, e, _⟩ := h; subst e; rfl) | (obtain ⟨_, _, _, e, _⟩ := h; subst e; rfl) | (obtain ⟨_, _, _, _, e, _⟩ := h; subst e; rfl) | (obtain ⟨_, _, _, _, _, e, _⟩ := h; subst e; rfl) | (obtain ⟨_, _, _, _, _, _, e, _⟩ := h; subst e; rfl)) fun cdv A outer s H hr hgd => ⟨_, tm__law_told B h__law_lot hr hgd, fun ds S R q => (law_told) ds S R q⟩
theorem gf_least_seeds_by {f_least_ones f_lots_in_size f_does_light_by : Addr} {fd_least_ones fd_lots_in_size fd_does_light_by : FuncData} {f : Addr} {fd : FuncData} (F : Fun K "least_seeds_by" "least_seeds_by" s_least_seeds_by f fd) (B : Blt mg) (h_least_ones : Has P w K mg base k "least_ones" f_least_ones fd_least_ones ["lots"] (γ_leastOnes)) (h_lots_in_size : Has P w K mg base k "lots_in_size" f_lots_in_size fd_lots_in_size ["net", "least"] (γ_lotsIn)) (h_does_light_by : Has P w K mg base k "does_light_by" f_does_light_by fd_does_light_by ["net", "seeds"] (γ_light_by)) : GFn P w K mg base (k + 1) f fd ["net"] (γ_leastSeeds) :=
  gfn_of F sc_least_seeds_by (by intro ds S R h; unfold γ_leastSeeds at h; first | (obtain ⟨e, _⟩ := h; subst e; rfl) | (split at h <;> first | rfl | exact h.elim) | (obtain ⟨_, e, _⟩ := h; subst e; rfl) | (obtain ⟨_, _, e, _⟩ := h; subst e; rfl) | (obtain ⟨_, _, _, e, _⟩ := h; subst e; rfl) | (obtain ⟨_, _, _, _, e, _⟩ := h; subst e; rfl) | (obtain ⟨_, _, _, _, _, e, _⟩ := h; subst e; rfl) | (obtain ⟨_, _, _, _, _, _, e, _⟩ := h; subst e; rfl)) fun cdv A outer s H hr hgd => ⟨_, tm_least_seeds_by B h_least_ones h_lots_in_size h_does_light_by hr hgd, fun ds S R q => (law_leastSeeds) ds S R q⟩
theorem gf_least_seeds {f_check_helping_net f_least_seeds_by : Addr} {fd_check_helping_net fd_least_seeds_by : FuncData} {f : Addr} {fd : FuncData} (F : Fun K "least_seeds" "least_seeds" s_least_seeds f fd) (B : Blt mg) (h_check_helping_net : Has P w K mg base k "check_helping_net" f_check_helping_net fd_check_helping_net ["net"] (γ_helpNet)) (h_least_seeds_by : Has P w K mg base k "least_seeds_by" f_least_seeds_by fd_least_seeds_by ["net"] (γ_leastSeeds)) : GFn P w K mg base (k + 1) f fd ["net"] (γ_leastSeeds) :=
  gfn_of F sc_least_seeds (by intro ds S R h; unfold γ_leastSeeds at h; first | (obtain ⟨e, _⟩ := h; subst e; rfl) | (split at h <;> first | rfl | exact h.elim) | (obtain ⟨_, e, _⟩ := h; subst e; rfl) | (obtain ⟨_, _, e, _⟩ := h; subst e; rfl) | (obtain ⟨_, _, _, e, _⟩ := h; subst e; rfl) | (obtain ⟨_, _, _, _, e, _⟩ := h; subst e; rfl) | (obtain ⟨_, _, _, _, _, e, _⟩ := h; subst e; rfl) | (obtain ⟨_, _, _, _, _, _, e, _⟩ := h; subst e; rfl)) fun cdv A outer s H hr hgd => ⟨_, tm_least_seeds B h_check_helping_net h_least_seeds_by hr hgd, fun ds S R q => (law_seedsPub) ds S R q⟩
theorem gf_fewest_by {f_least_seeds_by : Addr} {fd_least_seeds_by : FuncData} {f : Addr} {fd : FuncData} (F : Fun K "fewest_by" "fewest_by" s_fewest_by f fd) (B : Blt mg) (h_least_seeds_by : Has P w K mg base k "least_seeds_by" f_least_seeds_by fd_least_seeds_by ["net"] (γ_leastSeeds)) : GFn P w K mg base (k + 1) f fd ["net"] (γ_fewest2) :=
  gfn_of F sc_fewest_by (by intro ds S R h; unfold γ_fewest2 at h; first | (obtain ⟨e, _⟩ := h; subst e; rfl) | (split at h <;> first | rfl | exact h.elim) | (obtain ⟨_, e, _⟩ := h; subst e; rfl) | (obtain ⟨_, _, e, _⟩ := h; subst e; rfl) | (obtain ⟨_, _, _, e, _⟩ := h; subst e; rfl) | (obtain ⟨_, _, _, _, e, _⟩ := h; subst e; rfl) | (obtain ⟨_, _, _, _, _, e, _⟩ := h; subst e; rfl) | (obtain ⟨_, _, _, _, _, _, e, _⟩ := h; subst e; rfl)) fun cdv A outer s H hr hgd => ⟨_, tm_fewest_by B h_least_seeds_by hr hgd, fun ds S R q => (law_fewestBy) ds S R q⟩
theorem gf_fewest {f_check_helping_net f_fewest_by : Addr} {fd_check_helping_net fd_fewest_by : FuncData} {f : Addr} {fd : FuncData} (F : Fun K "fewest" "fewest" s_fewest f fd) (B : Blt mg) (h_check_helping_net : Has P w K mg base k "check_helping_net" f_check_helping_net fd_check_helping_net ["net"] (γ_helpNet)) (h_fewest_by : Has P w K mg base k "fewest_by" f_fewest_by fd_fewest_by ["net"] (γ_fewest2)) : GFn P w K mg base (k + 1) f fd ["net"] (γ_fewest2) :=
  gfn_of F sc_fewest (by intro ds S R h; unfold γ_fewest2 at h; first | (obtain ⟨e, _⟩ := h; subst e; rfl) | (split at h <;> first | rfl | exact h.elim) | (obtain ⟨_, e, _⟩ := h; subst e; rfl) | (obtain ⟨_, _, e, _⟩ := h; subst e; rfl) | (obtain ⟨_, _, _, e, _⟩ := h; subst e; rfl) | (obtain ⟨_, _, _, _, e, _⟩ := h; subst e; rfl) | (obtain ⟨_, _, _, _, _, e, _⟩ := h; subst e; rfl) | (obtain ⟨_, _, _, _, _, _, e, _⟩ := h; subst e; rfl)) fun cdv A outer s H hr hgd => ⟨_, tm_fewest B h_check_helping_net h_fewest_by hr hgd, fun ds S R q => (law_fewestPub) ds S R q⟩
theorem gf__law_right {f__law_one f__law_helping f__law_is_stubborn f__law_spread f__law_lots_right f__law_lot f_is_stubborn f__law_least f_stubborn_lots f__law_told f_least_seeds f_fewest : Addr} {fd__law_one fd__law_helping fd__law_is_stubborn fd__law_spread fd__law_lots_right fd__law_lot fd_is_stubborn fd__law_least fd_stubborn_lots fd__law_told fd_least_seeds fd_fewest : FuncData} {f : Addr} {fd : FuncData} (F : Fun K "_law_right" "_law_right" s__law_right f fd) (B : Blt mg) (h__law_one : Has P w K mg base k "_law_one" f__law_one fd__law_one ["well", "some"] (γ_one)) (h__law_helping : Has P w K mg base k "_law_helping" f__law_helping fd__law_helping ["well", "few"] (γ_help)) (h__law_is_stubborn : Has P w K mg base k "_law_is_stubborn" f__law_is_stubborn fd__law_is_stubborn ["net", "number"] (γ_lstub)) (h__law_spread : Has P w K mg base k "_law_spread" f__law_spread fd__law_spread ["net", "number"] (γ_lspread)) (h__law_lots_right : Has P w K mg base k "_law_lots_right" f__law_lots_right fd__law_lots_right ["net", "stubborn", "lights"] (γ_lr)) (h__law_lot : Has P w K mg base k "_law_lot" f__law_lot fd__law_lot ["few", "number"] (γ_llot)) (h_is_stubborn : Has P w K mg base k "is_stubborn" f_is_stubborn fd_is_stubborn ["net", "lot"] (γ_isStub)) (h__law_least : Has P w K mg base k "_law_least" f__law_least fd__law_least ["numbers"] (γ_lleast)) (h_stubborn_lots : Has P w K mg base k "stubborn_lots" f_stubborn_lots fd_stubborn_lots ["net"] (γ_stubLots)) (h__law_told : Has P w K mg base k "_law_told" f__law_told fd__law_told ["few", "numbers"] (γ_told)) (h_least_seeds : Has P w K mg base k "least_seeds" f_least_seeds fd_least_seeds ["net"] (γ_leastSeeds)) (h_fewest : Has P w K mg base k "fewest" f_fewest fd_fewest ["net"] (γ_fewest2)) (kb_least_seeds_0 : KB fd_least_seeds ["net"] ["net"] 0 [0]) (kb_fewest_0 : KB fd_fewest ["net"] ["net"] 0 [0]) (kb_stubborn_lots_0 : KB fd_stubborn_lots ["net"] ["net"] 0 [0]) : GFn P w K mg base (k + 1) f fd ["well", "is_first"] (γ_lap2) :=
  gfn_of F sc__law_right (by intro ds S R h; unfold γ_lap2 at h; first | (obtain ⟨e, _⟩ := h; subst e; rfl) | (split at h <;> first | rfl | exact h.elim) | (obtain ⟨_, e, _⟩ := h; subst e; rfl) | (obtain ⟨_, _, e, _⟩ := h; subst e; rfl) | (obtain ⟨_, _, _, e, _⟩ := h; subst e; rfl) | (obtain ⟨_, _, _, _, e, _⟩ := h; subst e; rfl) | (obtain ⟨_, _, _, _, _, e, _⟩ := h; subst e; rfl) | (obtain ⟨_, _, _, _, _, _, e, _⟩ := h; subst e; rfl)) fun cdv A outer s H hr hgd => ⟨_, tm__law_right B h__law_one h__law_helping h__law_is_stubborn h__law_spread h__law_lots_right h__law_lot h_is_stubborn h__law_least h_stubborn_lots h__law_told h_least_seeds h_fewest kb_least_seeds_0 kb_fewest_0 kb_stubborn_lots_0 hr hgd, fun ds S R q => (law_right) ds S R q⟩
theorem gf__law_well {f : Addr} {fd : FuncData} (F : Fun K "_law_well" "_law_well" s__law_well f fd) (B : Blt mg) : GFn P w K mg base (k + 1) f fd ["script", "lap"] (γ_well) :=
  gfn_of F sc__law_well (by intro ds S R h; unfold γ_well at h; first | (obtain ⟨e, _⟩ := h; subst e; rfl) | (split at h <;> first | rfl | exact h.elim) | (obtain ⟨_, e, _⟩ := h; subst e; rfl) | (obtain ⟨_, _, e, _⟩ := h; subst e; rfl) | (obtain ⟨_, _, _, e, _⟩ := h; subst e; rfl) | (obtain ⟨_, _, _, _, e, _⟩ := h; subst e; rfl) | (obtain ⟨_, _, _, _, _, e, _⟩ := h; subst e; rfl) | (obtain ⟨_, _, _, _, _, _, e, _⟩ := h; subst e; rfl)) fun cdv A outer s H hr hgd => ⟨_, tm__law_well B hr hgd, fun ds S R q => (law_well 40093) ds S R q⟩
theorem gf_law {f__law_right f__law_well : Addr} {fd__law_right fd__law_well : FuncData} {f : Addr} {fd : FuncData} (F : Fun K "law" "law" s_law f fd) (B : Blt mg) (h__law_right : Has P w K mg base k "_law_right" f__law_right fd__law_right ["well", "is_first"] (γ_lap2)) (h__law_well : Has P w K mg base k "_law_well" f__law_well fd__law_well ["script", "lap"] (γ_well)) : GFn P w K mg base (k + 1) f fd ["script"] (γ_whole) :=
  gfn_of F sc_law (by intro ds S R h; unfold γ_whole at h; first | (obtain ⟨e, _⟩ := h; subst e; rfl) | (split at h <;> first | rfl | exact h.elim) | (obtain ⟨_, e, _⟩ := h; subst e; rfl) | (obtain ⟨_, _, e, _⟩ := h; subst e; rfl) | (obtain ⟨_, _, _, e, _⟩ := h; subst e; rfl) | (obtain ⟨_, _, _, _, e, _⟩ := h; subst e; rfl) | (obtain ⟨_, _, _, _, _, e, _⟩ := h; subst e; rfl) | (obtain ⟨_, _, _, _, _, _, e, _⟩ := h; subst e; rfl)) fun cdv A outer s H hr hgd => ⟨_, tm_law B h__law_right h__law_well hr hgd, fun ds S R q => (law_whole2 1 3) ds S R q⟩
end
theorem all_mk {l : PySem.W.OpenLaw} {w : World} {K : PySem.W.Frag} {h : Heap} {mg : Str → Option Value} {fa f0 f1 f2 f3 f4 f5 f6 f7 f8 f9 f10 f11 f12 f13 f14 f15 f16 f17 f18 f19 f20 f21 f22 f23 f24 f25 f26 f27 f28 f29 f30 f31 f32 f33 f34 f35 f36 f37 f38 f39 f40 f41 f42 f43 f44 f45 f46 f47 f48 f49 f50 f51 f52 f53 f54 f55 f56 f57 f58 : Addr} (X : K.In h) (G : h.Ns mainGlobals mg) (hfa : mg "law" = some (.ref fa))
    {od0 an0 : Option Addr} {sl0 : Array (Option Value)} {oc0 kV0 dc0 pm0 cd0 ct0 : Value}
    (a0 : PySem.W.nsIn K mainGlobals "_law_draw" = some (some (.ref f0))) (l0 : K.lookup f0 = some ⟨oc0, od0, .func (PySem.W.fnOf "_law_draw" "_law_draw" (defArgs s__law_draw) (defBody s__law_draw) (defScope s__law_draw) .none kV0 dc0 pm0 an0 cd0 ct0), sl0⟩) (c0 : PySem.W.codeIn K cd0 "_law_draw" = true) (k0 : PySem.W.keepIn K (.ref f0) = true)
    {od1 an1 : Option Addr} {sl1 : Array (Option Value)} {oc1 kV1 dc1 pm1 cd1 ct1 : Value}
    (a1 : PySem.W.nsIn K mainGlobals "_law_one" = some (some (.ref f1))) (l1 : K.lookup f1 = some ⟨oc1, od1, .func (PySem.W.fnOf "_law_one" "_law_one" (defArgs s__law_one) (defBody s__law_one) (defScope s__law_one) .none kV1 dc1 pm1 an1 cd1 ct1), sl1⟩) (c1 : PySem.W.codeIn K cd1 "_law_one" = true) (k1 : PySem.W.keepIn K (.ref f1) = true)
    {od2 an2 : Option Addr} {sl2 : Array (Option Value)} {oc2 kV2 dc2 pm2 cd2 ct2 : Value}
    (a2 : PySem.W.nsIn K mainGlobals "_law_lean" = some (some (.ref f2))) (l2 : K.lookup f2 = some ⟨oc2, od2, .func (PySem.W.fnOf "_law_lean" "_law_lean" (defArgs s__law_lean) (defBody s__law_lean) (defScope s__law_lean) .none kV2 dc2 pm2 an2 cd2 ct2), sl2⟩) (c2 : PySem.W.codeIn K cd2 "_law_lean" = true) (k2 : PySem.W.keepIn K (.ref f2) = true)
    {od3 an3 : Option Addr} {sl3 : Array (Option Value)} {oc3 kV3 dc3 pm3 cd3 ct3 : Value}
    (a3 : PySem.W.nsIn K mainGlobals "_law_helping" = some (some (.ref f3))) (l3 : K.lookup f3 = some ⟨oc3, od3, .func (PySem.W.fnOf "_law_helping" "_law_helping" (defArgs s__law_helping) (defBody s__law_helping) (defScope s__law_helping) .none kV3 dc3 pm3 an3 cd3 ct3), sl3⟩) (c3 : PySem.W.codeIn K cd3 "_law_helping" = true) (k3 : PySem.W.keepIn K (.ref f3) = true)
    {od4 an4 : Option Addr} {sl4 : Array (Option Value)} {oc4 kV4 dc4 pm4 cd4 ct4 : Value}
    (a4 : PySem.W.nsIn K mainGlobals "_law_state" = some (some (.ref f4))) (l4 : K.lookup f4 = some ⟨oc4, od4, .func (PySem.W.fnOf "_law_state" "_law_state" (defArgs s__law_state) (defBody s__law_state) (defScope s__law_state) .none kV4 dc4 pm4 an4 cd4 ct4), sl4⟩) (c4 : PySem.W.codeIn K cd4 "_law_state" = true) (k4 : PySem.W.keepIn K (.ref f4) = true)
    {od5 an5 : Option Addr} {sl5 : Array (Option Value)} {oc5 kV5 dc5 pm5 cd5 ct5 : Value}
    (a5 : PySem.W.nsIn K mainGlobals "_law_below" = some (some (.ref f5))) (l5 : K.lookup f5 = some ⟨oc5, od5, .func (PySem.W.fnOf "_law_below" "_law_below" (defArgs s__law_below) (defBody s__law_below) (defScope s__law_below) .none kV5 dc5 pm5 an5 cd5 ct5), sl5⟩) (c5 : PySem.W.codeIn K cd5 "_law_below" = true) (k5 : PySem.W.keepIn K (.ref f5) = true)
    {od6 an6 : Option Addr} {sl6 : Array (Option Value)} {oc6 kV6 dc6 pm6 cd6 ct6 : Value}
    (a6 : PySem.W.nsIn K mainGlobals "_law_plus" = some (some (.ref f6))) (l6 : K.lookup f6 = some ⟨oc6, od6, .func (PySem.W.fnOf "_law_plus" "_law_plus" (defArgs s__law_plus) (defBody s__law_plus) (defScope s__law_plus) .none kV6 dc6 pm6 an6 cd6 ct6), sl6⟩) (c6 : PySem.W.codeIn K cd6 "_law_plus" = true) (k6 : PySem.W.keepIn K (.ref f6) = true)
    {od7 an7 : Option Addr} {sl7 : Array (Option Value)} {oc7 kV7 dc7 pm7 cd7 ct7 : Value}
    (a7 : PySem.W.nsIn K mainGlobals "_law_heard" = some (some (.ref f7))) (l7 : K.lookup f7 = some ⟨oc7, od7, .func (PySem.W.fnOf "_law_heard" "_law_heard" (defArgs s__law_heard) (defBody s__law_heard) (defScope s__law_heard) .none kV7 dc7 pm7 an7 cd7 ct7), sl7⟩) (c7 : PySem.W.codeIn K cd7 "_law_heard" = true) (k7 : PySem.W.keepIn K (.ref f7) = true)
    {od8 an8 : Option Addr} {sl8 : Array (Option Value)} {oc8 kV8 dc8 pm8 cd8 ct8 : Value}
    (a8 : PySem.W.nsIn K mainGlobals "_law_movers" = some (some (.ref f8))) (l8 : K.lookup f8 = some ⟨oc8, od8, .func (PySem.W.fnOf "_law_movers" "_law_movers" (defArgs s__law_movers) (defBody s__law_movers) (defScope s__law_movers) .none kV8 dc8 pm8 an8 cd8 ct8), sl8⟩) (c8 : PySem.W.codeIn K cd8 "_law_movers" = true) (k8 : PySem.W.keepIn K (.ref f8) = true)
    {od9 an9 : Option Addr} {sl9 : Array (Option Value)} {oc9 kV9 dc9 pm9 cd9 ct9 : Value}
    (a9 : PySem.W.nsIn K mainGlobals "_law_is_stubborn" = some (some (.ref f9))) (l9 : K.lookup f9 = some ⟨oc9, od9, .func (PySem.W.fnOf "_law_is_stubborn" "_law_is_stubborn" (defArgs s__law_is_stubborn) (defBody s__law_is_stubborn) (defScope s__law_is_stubborn) .none kV9 dc9 pm9 an9 cd9 ct9), sl9⟩) (c9 : PySem.W.codeIn K cd9 "_law_is_stubborn" = true) (k9 : PySem.W.keepIn K (.ref f9) = true)
    {od10 an10 : Option Addr} {sl10 : Array (Option Value)} {oc10 kV10 dc10 pm10 cd10 ct10 : Value}
    (a10 : PySem.W.nsIn K mainGlobals "_law_spread" = some (some (.ref f10))) (l10 : K.lookup f10 = some ⟨oc10, od10, .func (PySem.W.fnOf "_law_spread" "_law_spread" (defArgs s__law_spread) (defBody s__law_spread) (defScope s__law_spread) .none kV10 dc10 pm10 an10 cd10 ct10), sl10⟩) (c10 : PySem.W.codeIn K cd10 "_law_spread" = true) (k10 : PySem.W.keepIn K (.ref f10) = true)
    {od11 an11 : Option Addr} {sl11 : Array (Option Value)} {oc11 kV11 dc11 pm11 cd11 ct11 : Value}
    (a11 : PySem.W.nsIn K mainGlobals "_law_lot" = some (some (.ref f11))) (l11 : K.lookup f11 = some ⟨oc11, od11, .func (PySem.W.fnOf "_law_lot" "_law_lot" (defArgs s__law_lot) (defBody s__law_lot) (defScope s__law_lot) .none kV11 dc11 pm11 an11 cd11 ct11), sl11⟩) (c11 : PySem.W.codeIn K cd11 "_law_lot" = true) (k11 : PySem.W.keepIn K (.ref f11) = true)
    {od12 an12 : Option Addr} {sl12 : Array (Option Value)} {oc12 kV12 dc12 pm12 cd12 ct12 : Value}
    (a12 : PySem.W.nsIn K mainGlobals "is_tuple_of" = some (some (.ref f12))) (l12 : K.lookup f12 = some ⟨oc12, od12, .func (PySem.W.fnOf "is_tuple_of" "is_tuple_of" (defArgs s_is_tuple_of) (defBody s_is_tuple_of) (defScope s_is_tuple_of) .none kV12 dc12 pm12 an12 cd12 ct12), sl12⟩) (c12 : PySem.W.codeIn K cd12 "is_tuple_of" = true) (k12 : PySem.W.keepIn K (.ref f12) = true)
    {od13 an13 : Option Addr} {sl13 : Array (Option Value)} {oc13 kV13 dc13 pm13 cd13 ct13 : Value}
    (a13 : PySem.W.nsIn K mainGlobals "is_whole" = some (some (.ref f13))) (l13 : K.lookup f13 = some ⟨oc13, od13, .func (PySem.W.fnOf "is_whole" "is_whole" (defArgs s_is_whole) (defBody s_is_whole) (defScope s_is_whole) .none kV13 dc13 pm13 an13 cd13 ct13), sl13⟩) (c13 : PySem.W.codeIn K cd13 "is_whole" = true) (k13 : PySem.W.keepIn K (.ref f13) = true)
    {od14 an14 : Option Addr} {sl14 : Array (Option Value)} {oc14 kV14 dc14 pm14 cd14 ct14 : Value}
    (a14 : PySem.W.nsIn K mainGlobals "is_ratio" = some (some (.ref f14))) (l14 : K.lookup f14 = some ⟨oc14, od14, .func (PySem.W.fnOf "is_ratio" "is_ratio" (defArgs s_is_ratio) (defBody s_is_ratio) (defScope s_is_ratio) .none kV14 dc14 pm14 an14 cd14 ct14), sl14⟩) (c14 : PySem.W.codeIn K cd14 "is_ratio" = true) (k14 : PySem.W.keepIn K (.ref f14) = true)
    {od15 an15 : Option Addr} {sl15 : Array (Option Value)} {oc15 kV15 dc15 pm15 cd15 ct15 : Value}
    (a15 : PySem.W.nsIn K mainGlobals "is_row" = some (some (.ref f15))) (l15 : K.lookup f15 = some ⟨oc15, od15, .func (PySem.W.fnOf "is_row" "is_row" (defArgs s_is_row) (defBody s_is_row) (defScope s_is_row) .none kV15 dc15 pm15 an15 cd15 ct15), sl15⟩) (c15 : PySem.W.codeIn K cd15 "is_row" = true) (k15 : PySem.W.keepIn K (.ref f15) = true)
    {od16 an16 : Option Addr} {sl16 : Array (Option Value)} {oc16 kV16 dc16 pm16 cd16 ct16 : Value}
    (a16 : PySem.W.nsIn K mainGlobals "is_net_by" = some (some (.ref f16))) (l16 : K.lookup f16 = some ⟨oc16, od16, .func (PySem.W.fnOf "is_net_by" "is_net_by" (defArgs s_is_net_by) (defBody s_is_net_by) (defScope s_is_net_by) .none kV16 dc16 pm16 an16 cd16 ct16), sl16⟩) (c16 : PySem.W.codeIn K cd16 "is_net_by" = true) (k16 : PySem.W.keepIn K (.ref f16) = true)
    {od17 an17 : Option Addr} {sl17 : Array (Option Value)} {oc17 kV17 dc17 pm17 cd17 ct17 : Value}
    (a17 : PySem.W.nsIn K mainGlobals "check_net" = some (some (.ref f17))) (l17 : K.lookup f17 = some ⟨oc17, od17, .func (PySem.W.fnOf "check_net" "check_net" (defArgs s_check_net) (defBody s_check_net) (defScope s_check_net) .none kV17 dc17 pm17 an17 cd17 ct17), sl17⟩) (c17 : PySem.W.codeIn K cd17 "check_net" = true) (k17 : PySem.W.keepIn K (.ref f17) = true)
    {od18 an18 : Option Addr} {sl18 : Array (Option Value)} {oc18 kV18 dc18 pm18 cd18 ct18 : Value}
    (a18 : PySem.W.nsIn K mainGlobals "is_between" = some (some (.ref f18))) (l18 : K.lookup f18 = some ⟨oc18, od18, .func (PySem.W.fnOf "is_between" "is_between" (defArgs s_is_between) (defBody s_is_between) (defScope s_is_between) .none kV18 dc18 pm18 an18 cd18 ct18), sl18⟩) (c18 : PySem.W.codeIn K cd18 "is_between" = true) (k18 : PySem.W.keepIn K (.ref f18) = true)
    {od19 an19 : Option Addr} {sl19 : Array (Option Value)} {oc19 kV19 dc19 pm19 cd19 ct19 : Value}
    (a19 : PySem.W.nsIn K mainGlobals "many_cells" = some (some (.ref f19))) (l19 : K.lookup f19 = some ⟨oc19, od19, .func (PySem.W.fnOf "many_cells" "many_cells" (defArgs s_many_cells) (defBody s_many_cells) (defScope s_many_cells) .none kV19 dc19 pm19 an19 cd19 ct19), sl19⟩) (c19 : PySem.W.codeIn K cd19 "many_cells" = true) (k19 : PySem.W.keepIn K (.ref f19) = true)
    {od20 an20 : Option Addr} {sl20 : Array (Option Value)} {oc20 kV20 dc20 pm20 cd20 ct20 : Value}
    (a20 : PySem.W.nsIn K mainGlobals "is_cell_by" = some (some (.ref f20))) (l20 : K.lookup f20 = some ⟨oc20, od20, .func (PySem.W.fnOf "is_cell_by" "is_cell_by" (defArgs s_is_cell_by) (defBody s_is_cell_by) (defScope s_is_cell_by) .none kV20 dc20 pm20 an20 cd20 ct20), sl20⟩) (c20 : PySem.W.codeIn K cd20 "is_cell_by" = true) (k20 : PySem.W.keepIn K (.ref f20) = true)
    {od21 an21 : Option Addr} {sl21 : Array (Option Value)} {oc21 kV21 dc21 pm21 cd21 ct21 : Value}
    (a21 : PySem.W.nsIn K mainGlobals "wrong_in_lot" = some (some (.ref f21))) (l21 : K.lookup f21 = some ⟨oc21, od21, .func (PySem.W.fnOf "wrong_in_lot" "wrong_in_lot" (defArgs s_wrong_in_lot) (defBody s_wrong_in_lot) (defScope s_wrong_in_lot) .none kV21 dc21 pm21 an21 cd21 ct21), sl21⟩) (c21 : PySem.W.codeIn K cd21 "wrong_in_lot" = true) (k21 : PySem.W.keepIn K (.ref f21) = true)
    {od22 an22 : Option Addr} {sl22 : Array (Option Value)} {oc22 kV22 dc22 pm22 cd22 ct22 : Value}
    (a22 : PySem.W.nsIn K mainGlobals "is_helping_by" = some (some (.ref f22))) (l22 : K.lookup f22 = some ⟨oc22, od22, .func (PySem.W.fnOf "is_helping_by" "is_helping_by" (defArgs s_is_helping_by) (defBody s_is_helping_by) (defScope s_is_helping_by) .none kV22 dc22 pm22 an22 cd22 ct22), sl22⟩) (c22 : PySem.W.codeIn K cd22 "is_helping_by" = true) (k22 : PySem.W.keepIn K (.ref f22) = true)
    {od23 an23 : Option Addr} {sl23 : Array (Option Value)} {oc23 kV23 dc23 pm23 cd23 ct23 : Value}
    (a23 : PySem.W.nsIn K mainGlobals "check_helping" = some (some (.ref f23))) (l23 : K.lookup f23 = some ⟨oc23, od23, .func (PySem.W.fnOf "check_helping" "check_helping" (defArgs s_check_helping) (defBody s_check_helping) (defScope s_check_helping) .none kV23 dc23 pm23 an23 cd23 ct23), sl23⟩) (c23 : PySem.W.codeIn K cd23 "check_helping" = true) (k23 : PySem.W.keepIn K (.ref f23) = true)
    {od24 an24 : Option Addr} {sl24 : Array (Option Value)} {oc24 kV24 dc24 pm24 cd24 ct24 : Value}
    (a24 : PySem.W.nsIn K mainGlobals "check_lot" = some (some (.ref f24))) (l24 : K.lookup f24 = some ⟨oc24, od24, .func (PySem.W.fnOf "check_lot" "check_lot" (defArgs s_check_lot) (defBody s_check_lot) (defScope s_check_lot) .none kV24 dc24 pm24 an24 cd24 ct24), sl24⟩) (c24 : PySem.W.codeIn K cd24 "check_lot" = true) (k24 : PySem.W.keepIn K (.ref f24) = true)
    {od25 an25 : Option Addr} {sl25 : Array (Option Value)} {oc25 kV25 dc25 pm25 cd25 ct25 : Value}
    (a25 : PySem.W.nsIn K mainGlobals "on_in" = some (some (.ref f25))) (l25 : K.lookup f25 = some ⟨oc25, od25, .func (PySem.W.fnOf "on_in" "on_in" (defArgs s_on_in) (defBody s_on_in) (defScope s_on_in) .none kV25 dc25 pm25 an25 cd25 ct25), sl25⟩) (c25 : PySem.W.codeIn K cd25 "on_in" = true) (k25 : PySem.W.keepIn K (.ref f25) = true)
    {od26 an26 : Option Addr} {sl26 : Array (Option Value)} {oc26 kV26 dc26 pm26 cd26 ct26 : Value}
    (a26 : PySem.W.nsIn K mainGlobals "grown_by" = some (some (.ref f26))) (l26 : K.lookup f26 = some ⟨oc26, od26, .func (PySem.W.fnOf "grown_by" "grown_by" (defArgs s_grown_by) (defBody s_grown_by) (defScope s_grown_by) .none kV26 dc26 pm26 an26 cd26 ct26), sl26⟩) (c26 : PySem.W.codeIn K cd26 "grown_by" = true) (k26 : PySem.W.keepIn K (.ref f26) = true)
    {od27 an27 : Option Addr} {sl27 : Array (Option Value)} {oc27 kV27 dc27 pm27 cd27 ct27 : Value}
    (a27 : PySem.W.nsIn K mainGlobals "is_less" = some (some (.ref f27))) (l27 : K.lookup f27 = some ⟨oc27, od27, .func (PySem.W.fnOf "is_less" "is_less" (defArgs s_is_less) (defBody s_is_less) (defScope s_is_less) .none kV27 dc27 pm27 an27 cd27 ct27), sl27⟩) (c27 : PySem.W.codeIn K cd27 "is_less" = true) (k27 : PySem.W.keepIn K (.ref f27) = true)
    {od28 an28 : Option Addr} {sl28 : Array (Option Value)} {oc28 kV28 dc28 pm28 cd28 ct28 : Value}
    (a28 : PySem.W.nsIn K mainGlobals "ratio" = some (some (.ref f28))) (l28 : K.lookup f28 = some ⟨oc28, od28, .func (PySem.W.fnOf "ratio" "ratio" (defArgs s_ratio) (defBody s_ratio) (defScope s_ratio) .none kV28 dc28 pm28 an28 cd28 ct28), sl28⟩) (c28 : PySem.W.codeIn K cd28 "ratio" = true) (k28 : PySem.W.keepIn K (.ref f28) = true)
    {od29 an29 : Option Addr} {sl29 : Array (Option Value)} {oc29 kV29 dc29 pm29 cd29 ct29 : Value}
    (a29 : PySem.W.nsIn K mainGlobals "plus" = some (some (.ref f29))) (l29 : K.lookup f29 = some ⟨oc29, od29, .func (PySem.W.fnOf "plus" "plus" (defArgs s_plus) (defBody s_plus) (defScope s_plus) .none kV29 dc29 pm29 an29 cd29 ct29), sl29⟩) (c29 : PySem.W.codeIn K cd29 "plus" = true) (k29 : PySem.W.keepIn K (.ref f29) = true)
    {od30 an30 : Option Addr} {sl30 : Array (Option Value)} {oc30 kV30 dc30 pm30 cd30 ct30 : Value}
    (a30 : PySem.W.nsIn K mainGlobals "total" = some (some (.ref f30))) (l30 : K.lookup f30 = some ⟨oc30, od30, .func (PySem.W.fnOf "total" "total" (defArgs s_total) (defBody s_total) (defScope s_total) .none kV30 dc30 pm30 an30 cd30 ct30), sl30⟩) (c30 : PySem.W.codeIn K cd30 "total" = true) (k30 : PySem.W.keepIn K (.ref f30) = true)
    {od31 an31 : Option Addr} {sl31 : Array (Option Value)} {oc31 kV31 dc31 pm31 cd31 ct31 : Value}
    (a31 : PySem.W.nsIn K mainGlobals "heard_by" = some (some (.ref f31))) (l31 : K.lookup f31 = some ⟨oc31, od31, .func (PySem.W.fnOf "heard_by" "heard_by" (defArgs s_heard_by) (defBody s_heard_by) (defScope s_heard_by) .none kV31 dc31 pm31 an31 cd31 ct31), sl31⟩) (c31 : PySem.W.codeIn K cd31 "heard_by" = true) (k31 : PySem.W.keepIn K (.ref f31) = true)
    {od32 an32 : Option Addr} {sl32 : Array (Option Value)} {oc32 kV32 dc32 pm32 cd32 ct32 : Value}
    (a32 : PySem.W.nsIn K mainGlobals "wanted_by" = some (some (.ref f32))) (l32 : K.lookup f32 = some ⟨oc32, od32, .func (PySem.W.fnOf "wanted_by" "wanted_by" (defArgs s_wanted_by) (defBody s_wanted_by) (defScope s_wanted_by) .none kV32 dc32 pm32 an32 cd32 ct32), sl32⟩) (c32 : PySem.W.codeIn K cd32 "wanted_by" = true) (k32 : PySem.W.keepIn K (.ref f32) = true)
    {od33 an33 : Option Addr} {sl33 : Array (Option Value)} {oc33 kV33 dc33 pm33 cd33 ct33 : Value}
    (a33 : PySem.W.nsIn K mainGlobals "risen" = some (some (.ref f33))) (l33 : K.lookup f33 = some ⟨oc33, od33, .func (PySem.W.fnOf "risen" "risen" (defArgs s_risen) (defBody s_risen) (defScope s_risen) .none kV33 dc33 pm33 an33 cd33 ct33), sl33⟩) (c33 : PySem.W.codeIn K cd33 "risen" = true) (k33 : PySem.W.keepIn K (.ref f33) = true)
    {od34 an34 : Option Addr} {sl34 : Array (Option Value)} {oc34 kV34 dc34 pm34 cd34 ct34 : Value}
    (a34 : PySem.W.nsIn K mainGlobals "lit_by" = some (some (.ref f34))) (l34 : K.lookup f34 = some ⟨oc34, od34, .func (PySem.W.fnOf "lit_by" "lit_by" (defArgs s_lit_by) (defBody s_lit_by) (defScope s_lit_by) .none kV34 dc34 pm34 an34 cd34 ct34), sl34⟩) (c34 : PySem.W.codeIn K cd34 "lit_by" = true) (k34 : PySem.W.keepIn K (.ref f34) = true)
    {od35 an35 : Option Addr} {sl35 : Array (Option Value)} {oc35 kV35 dc35 pm35 cd35 ct35 : Value}
    (a35 : PySem.W.nsIn K mainGlobals "spread_by" = some (some (.ref f35))) (l35 : K.lookup f35 = some ⟨oc35, od35, .func (PySem.W.fnOf "spread_by" "spread_by" (defArgs s_spread_by) (defBody s_spread_by) (defScope s_spread_by) .none kV35 dc35 pm35 an35 cd35 ct35), sl35⟩) (c35 : PySem.W.codeIn K cd35 "spread_by" = true) (k35 : PySem.W.keepIn K (.ref f35) = true)
    {od36 an36 : Option Addr} {sl36 : Array (Option Value)} {oc36 kV36 dc36 pm36 cd36 ct36 : Value}
    (a36 : PySem.W.nsIn K mainGlobals "does_light_by" = some (some (.ref f36))) (l36 : K.lookup f36 = some ⟨oc36, od36, .func (PySem.W.fnOf "does_light_by" "does_light_by" (defArgs s_does_light_by) (defBody s_does_light_by) (defScope s_does_light_by) .none kV36 dc36 pm36 an36 cd36 ct36), sl36⟩) (c36 : PySem.W.codeIn K cd36 "does_light_by" = true) (k36 : PySem.W.keepIn K (.ref f36) = true)
    {od37 an37 : Option Addr} {sl37 : Array (Option Value)} {oc37 kV37 dc37 pm37 cd37 ct37 : Value}
    (a37 : PySem.W.nsIn K mainGlobals "does_light" = some (some (.ref f37))) (l37 : K.lookup f37 = some ⟨oc37, od37, .func (PySem.W.fnOf "does_light" "does_light" (defArgs s_does_light) (defBody s_does_light) (defScope s_does_light) .none kV37 dc37 pm37 an37 cd37 ct37), sl37⟩) (c37 : PySem.W.codeIn K cd37 "does_light" = true) (k37 : PySem.W.keepIn K (.ref f37) = true)
    {od38 an38 : Option Addr} {sl38 : Array (Option Value)} {oc38 kV38 dc38 pm38 cd38 ct38 : Value}
    (a38 : PySem.W.nsIn K mainGlobals "spread" = some (some (.ref f38))) (l38 : K.lookup f38 = some ⟨oc38, od38, .func (PySem.W.fnOf "spread" "spread" (defArgs s_spread) (defBody s_spread) (defScope s_spread) .none kV38 dc38 pm38 an38 cd38 ct38), sl38⟩) (c38 : PySem.W.codeIn K cd38 "spread" = true) (k38 : PySem.W.keepIn K (.ref f38) = true)
    {od39 an39 : Option Addr} {sl39 : Array (Option Value)} {oc39 kV39 dc39 pm39 cd39 ct39 : Value}
    (a39 : PySem.W.nsIn K mainGlobals "cells_beyond" = some (some (.ref f39))) (l39 : K.lookup f39 = some ⟨oc39, od39, .func (PySem.W.fnOf "cells_beyond" "cells_beyond" (defArgs s_cells_beyond) (defBody s_cells_beyond) (defScope s_cells_beyond) .none kV39 dc39 pm39 an39 cd39 ct39), sl39⟩) (c39 : PySem.W.codeIn K cd39 "cells_beyond" = true) (k39 : PySem.W.keepIn K (.ref f39) = true)
    {od40 an40 : Option Addr} {sl40 : Array (Option Value)} {oc40 kV40 dc40 pm40 cd40 ct40 : Value}
    (a40 : PySem.W.nsIn K mainGlobals "is_stubborn_by" = some (some (.ref f40))) (l40 : K.lookup f40 = some ⟨oc40, od40, .func (PySem.W.fnOf "is_stubborn_by" "is_stubborn_by" (defArgs s_is_stubborn_by) (defBody s_is_stubborn_by) (defScope s_is_stubborn_by) .none kV40 dc40 pm40 an40 cd40 ct40), sl40⟩) (c40 : PySem.W.codeIn K cd40 "is_stubborn_by" = true) (k40 : PySem.W.keepIn K (.ref f40) = true)
    {od41 an41 : Option Addr} {sl41 : Array (Option Value)} {oc41 kV41 dc41 pm41 cd41 ct41 : Value}
    (a41 : PySem.W.nsIn K mainGlobals "is_stubborn" = some (some (.ref f41))) (l41 : K.lookup f41 = some ⟨oc41, od41, .func (PySem.W.fnOf "is_stubborn" "is_stubborn" (defArgs s_is_stubborn) (defBody s_is_stubborn) (defScope s_is_stubborn) .none kV41 dc41 pm41 an41 cd41 ct41), sl41⟩) (c41 : PySem.W.codeIn K cd41 "is_stubborn" = true) (k41 : PySem.W.keepIn K (.ref f41) = true)
    {od42 an42 : Option Addr} {sl42 : Array (Option Value)} {oc42 kV42 dc42 pm42 cd42 ct42 : Value}
    (a42 : PySem.W.nsIn K mainGlobals "_law_lots_right" = some (some (.ref f42))) (l42 : K.lookup f42 = some ⟨oc42, od42, .func (PySem.W.fnOf "_law_lots_right" "_law_lots_right" (defArgs s__law_lots_right) (defBody s__law_lots_right) (defScope s__law_lots_right) .none kV42 dc42 pm42 an42 cd42 ct42), sl42⟩) (c42 : PySem.W.codeIn K cd42 "_law_lots_right" = true) (k42 : PySem.W.keepIn K (.ref f42) = true)
    {od43 an43 : Option Addr} {sl43 : Array (Option Value)} {oc43 kV43 dc43 pm43 cd43 ct43 : Value}
    (a43 : PySem.W.nsIn K mainGlobals "_law_least" = some (some (.ref f43))) (l43 : K.lookup f43 = some ⟨oc43, od43, .func (PySem.W.fnOf "_law_least" "_law_least" (defArgs s__law_least) (defBody s__law_least) (defScope s__law_least) .none kV43 dc43 pm43 an43 cd43 ct43), sl43⟩) (c43 : PySem.W.codeIn K cd43 "_law_least" = true) (k43 : PySem.W.keepIn K (.ref f43) = true)
    {od44 an44 : Option Addr} {sl44 : Array (Option Value)} {oc44 kV44 dc44 pm44 cd44 ct44 : Value}
    (a44 : PySem.W.nsIn K mainGlobals "check_helping_net" = some (some (.ref f44))) (l44 : K.lookup f44 = some ⟨oc44, od44, .func (PySem.W.fnOf "check_helping_net" "check_helping_net" (defArgs s_check_helping_net) (defBody s_check_helping_net) (defScope s_check_helping_net) .none kV44 dc44 pm44 an44 cd44 ct44), sl44⟩) (c44 : PySem.W.codeIn K cd44 "check_helping_net" = true) (k44 : PySem.W.keepIn K (.ref f44) = true)
    {od45 an45 : Option Addr} {sl45 : Array (Option Value)} {oc45 kV45 dc45 pm45 cd45 ct45 : Value}
    (a45 : PySem.W.nsIn K mainGlobals "is_within" = some (some (.ref f45))) (l45 : K.lookup f45 = some ⟨oc45, od45, .func (PySem.W.fnOf "is_within" "is_within" (defArgs s_is_within) (defBody s_is_within) (defScope s_is_within) .none kV45 dc45 pm45 an45 cd45 ct45), sl45⟩) (c45 : PySem.W.codeIn K cd45 "is_within" = true) (k45 : PySem.W.keepIn K (.ref f45) = true)
    {od46 an46 : Option Addr} {sl46 : Array (Option Value)} {oc46 kV46 dc46 pm46 cd46 ct46 : Value}
    (a46 : PySem.W.nsIn K mainGlobals "least_ones" = some (some (.ref f46))) (l46 : K.lookup f46 = some ⟨oc46, od46, .func (PySem.W.fnOf "least_ones" "least_ones" (defArgs s_least_ones) (defBody s_least_ones) (defScope s_least_ones) .none kV46 dc46 pm46 an46 cd46 ct46), sl46⟩) (c46 : PySem.W.codeIn K cd46 "least_ones" = true) (k46 : PySem.W.keepIn K (.ref f46) = true)
    {od47 an47 : Option Addr} {sl47 : Array (Option Value)} {oc47 kV47 dc47 pm47 cd47 ct47 : Value}
    (a47 : PySem.W.nsIn K mainGlobals "lots_of_size" = some (some (.ref f47))) (l47 : K.lookup f47 = some ⟨oc47, od47, .func (PySem.W.fnOf "lots_of_size" "lots_of_size" (defArgs s_lots_of_size) (defBody s_lots_of_size) (defScope s_lots_of_size) .none kV47 dc47 pm47 an47 cd47 ct47), sl47⟩) (c47 : PySem.W.codeIn K cd47 "lots_of_size" = true) (k47 : PySem.W.keepIn K (.ref f47) = true)
    {od48 an48 : Option Addr} {sl48 : Array (Option Value)} {oc48 kV48 dc48 pm48 cd48 ct48 : Value}
    (a48 : PySem.W.nsIn K mainGlobals "lots_in_size" = some (some (.ref f48))) (l48 : K.lookup f48 = some ⟨oc48, od48, .func (PySem.W.fnOf "lots_in_size" "lots_in_size" (defArgs s_lots_in_size) (defBody s_lots_in_size) (defScope s_lots_in_size) .none kV48 dc48 pm48 an48 cd48 ct48), sl48⟩) (c48 : PySem.W.codeIn K cd48 "lots_in_size" = true) (k48 : PySem.W.keepIn K (.ref f48) = true)
    {od49 an49 : Option Addr} {sl49 : Array (Option Value)} {oc49 kV49 dc49 pm49 cd49 ct49 : Value}
    (a49 : PySem.W.nsIn K mainGlobals "stubborn_by" = some (some (.ref f49))) (l49 : K.lookup f49 = some ⟨oc49, od49, .func (PySem.W.fnOf "stubborn_by" "stubborn_by" (defArgs s_stubborn_by) (defBody s_stubborn_by) (defScope s_stubborn_by) .none kV49 dc49 pm49 an49 cd49 ct49), sl49⟩) (c49 : PySem.W.codeIn K cd49 "stubborn_by" = true) (k49 : PySem.W.keepIn K (.ref f49) = true)
    {od50 an50 : Option Addr} {sl50 : Array (Option Value)} {oc50 kV50 dc50 pm50 cd50 ct50 : Value}
    (a50 : PySem.W.nsIn K mainGlobals "stubborn_lots" = some (some (.ref f50))) (l50 : K.lookup f50 = some ⟨oc50, od50, .func (PySem.W.fnOf "stubborn_lots" "stubborn_lots" (defArgs s_stubborn_lots) (defBody s_stubborn_lots) (defScope s_stubborn_lots) .none kV50 dc50 pm50 an50 cd50 ct50), sl50⟩) (c50 : PySem.W.codeIn K cd50 "stubborn_lots" = true) (k50 : PySem.W.keepIn K (.ref f50) = true)
    {od51 an51 : Option Addr} {sl51 : Array (Option Value)} {oc51 kV51 dc51 pm51 cd51 ct51 : Value}
    (a51 : PySem.W.nsIn K mainGlobals "_law_told" = some (some (.ref f51))) (l51 : K.lookup f51 = some ⟨oc51, od51, .func (PySem.W.fnOf "_law_told" "_law_told" (defArgs s__law_told) (defBody s__law_told) (defScope s__law_told) .none kV51 dc51 pm51 an51 cd51 ct51), sl51⟩) (c51 : PySem.W.codeIn K cd51 "_law_told" = true) (k51 : PySem.W.keepIn K (.ref f51) = true)
    {od52 an52 : Option Addr} {sl52 : Array (Option Value)} {oc52 kV52 dc52 pm52 cd52 ct52 : Value}
    (a52 : PySem.W.nsIn K mainGlobals "least_seeds_by" = some (some (.ref f52))) (l52 : K.lookup f52 = some ⟨oc52, od52, .func (PySem.W.fnOf "least_seeds_by" "least_seeds_by" (defArgs s_least_seeds_by) (defBody s_least_seeds_by) (defScope s_least_seeds_by) .none kV52 dc52 pm52 an52 cd52 ct52), sl52⟩) (c52 : PySem.W.codeIn K cd52 "least_seeds_by" = true) (k52 : PySem.W.keepIn K (.ref f52) = true)
    {od53 an53 : Option Addr} {sl53 : Array (Option Value)} {oc53 kV53 dc53 pm53 cd53 ct53 : Value}
    (a53 : PySem.W.nsIn K mainGlobals "least_seeds" = some (some (.ref f53))) (l53 : K.lookup f53 = some ⟨oc53, od53, .func (PySem.W.fnOf "least_seeds" "least_seeds" (defArgs s_least_seeds) (defBody s_least_seeds) (defScope s_least_seeds) .none kV53 dc53 pm53 an53 cd53 ct53), sl53⟩) (c53 : PySem.W.codeIn K cd53 "least_seeds" = true) (k53 : PySem.W.keepIn K (.ref f53) = true)
    {od54 an54 : Option Addr} {sl54 : Array (Option Value)} {oc54 kV54 dc54 pm54 cd54 ct54 : Value}
    (a54 : PySem.W.nsIn K mainGlobals "fewest_by" = some (some (.ref f54))) (l54 : K.lookup f54 = some ⟨oc54, od54, .func (PySem.W.fnOf "fewest_by" "fewest_by" (defArgs s_fewest_by) (defBody s_fewest_by) (defScope s_fewest_by) .none kV54 dc54 pm54 an54 cd54 ct54), sl54⟩) (c54 : PySem.W.codeIn K cd54 "fewest_by" = true) (k54 : PySem.W.keepIn K (.ref f54) = true)
    {od55 an55 : Option Addr} {sl55 : Array (Option Value)} {oc55 kV55 dc55 pm55 cd55 ct55 : Value}
    (a55 : PySem.W.nsIn K mainGlobals "fewest" = some (some (.ref f55))) (l55 : K.lookup f55 = some ⟨oc55, od55, .func (PySem.W.fnOf "fewest" "fewest" (defArgs s_fewest) (defBody s_fewest) (defScope s_fewest) .none kV55 dc55 pm55 an55 cd55 ct55), sl55⟩) (c55 : PySem.W.codeIn K cd55 "fewest" = true) (k55 : PySem.W.keepIn K (.ref f55) = true)
    {od56 an56 : Option Addr} {sl56 : Array (Option Value)} {oc56 kV56 dc56 pm56 cd56 ct56 : Value}
    (a56 : PySem.W.nsIn K mainGlobals "_law_right" = some (some (.ref f56))) (l56 : K.lookup f56 = some ⟨oc56, od56, .func (PySem.W.fnOf "_law_right" "_law_right" (defArgs s__law_right) (defBody s__law_right) (defScope s__law_right) .none kV56 dc56 pm56 an56 cd56 ct56), sl56⟩) (c56 : PySem.W.codeIn K cd56 "_law_right" = true) (k56 : PySem.W.keepIn K (.ref f56) = true)
    {od57 an57 : Option Addr} {sl57 : Array (Option Value)} {oc57 kV57 dc57 pm57 cd57 ct57 : Value}
    (a57 : PySem.W.nsIn K mainGlobals "_law_well" = some (some (.ref f57))) (l57 : K.lookup f57 = some ⟨oc57, od57, .func (PySem.W.fnOf "_law_well" "_law_well" (defArgs s__law_well) (defBody s__law_well) (defScope s__law_well) .none kV57 dc57 pm57 an57 cd57 ct57), sl57⟩) (c57 : PySem.W.codeIn K cd57 "_law_well" = true) (k57 : PySem.W.keepIn K (.ref f57) = true)
    {od58 an58 : Option Addr} {sl58 : Array (Option Value)} {oc58 kV58 dc58 pm58 cd58 ct58 : Value}
    (a58 : PySem.W.nsIn K mainGlobals "law" = some (some (.ref f58))) (l58 : K.lookup f58 = some ⟨oc58, od58, .func (PySem.W.fnOf "law" "law" (defArgs s_law) (defBody s_law) (defScope s_law) .none kV58 dc58 pm58 an58 cd58 ct58), sl58⟩) (c58 : PySem.W.codeIn K cd58 "law" = true) (k58 : PySem.W.keepIn K (.ref f58) = true)
    (z_abs : PySem.W.nsIn K mainGlobals "abs" = some none)
    (z_all : PySem.W.nsIn K mainGlobals "all" = some none)
    (z_any : PySem.W.nsIn K mainGlobals "any" = some none)
    (z_bool : PySem.W.nsIn K mainGlobals "bool" = some none)
    (z_dict : PySem.W.nsIn K mainGlobals "dict" = some none)
    (z_divmod : PySem.W.nsIn K mainGlobals "divmod" = some none)
    (z_enumerate : PySem.W.nsIn K mainGlobals "enumerate" = some none)
    (z_int : PySem.W.nsIn K mainGlobals "int" = some none)
    (z_isinstance : PySem.W.nsIn K mainGlobals "isinstance" = some none)
    (z_len : PySem.W.nsIn K mainGlobals "len" = some none)
    (z_list : PySem.W.nsIn K mainGlobals "list" = some none)
    (z_max : PySem.W.nsIn K mainGlobals "max" = some none)
    (z_min : PySem.W.nsIn K mainGlobals "min" = some none)
    (z_range : PySem.W.nsIn K mainGlobals "range" = some none)
    (z_repr : PySem.W.nsIn K mainGlobals "repr" = some none)
    (z_set : PySem.W.nsIn K mainGlobals "set" = some none)
    (z_sorted : PySem.W.nsIn K mainGlobals "sorted" = some none)
    (z_str : PySem.W.nsIn K mainGlobals "str" = some none)
    (z_sum : PySem.W.nsIn K mainGlobals "sum" = some none)
    (z_tuple : PySem.W.nsIn K mainGlobals "tuple" = some none)
    (z_zip : PySem.W.nsIn K mainGlobals "zip" = some none)
    (q_gcd : PySem.W.nsIn K mainGlobals "gcd" = some (some (.builtin "math.gcd")))
    {t_MOST_CELLS : Tok} (q_MOST_CELLS : PySem.W.nsIn K mainGlobals "MOST_CELLS" = some (some (.int 8 t_MOST_CELLS)))
    {t_ZERO u_ZERO : Tok} {b_ZERO : Addr} {n_ZERO : Nat} {d_ZERO : Option Addr} {y_ZERO : Array (Option Value)} (q_ZERO : PySem.W.nsIn K mainGlobals "ZERO" = some (some (.ref b_ZERO))) (r_ZERO : K.lookup b_ZERO = some ⟨.type "tuple", d_ZERO, .seq #[.int 0 t_ZERO, .int 1 u_ZERO] n_ZERO, y_ZERO⟩)
    : ∃ fd : FuncData, (∀ (s : Shared) (v : Value), BindsTo s fd ⟨[v], []⟩ [("script", v)]) ∧ ∀ base : Heap, K.In base → base.Ns mainGlobals mg → GFn l.prog w K mg base 13 fa fd ["script"] (γ_whole) := by
  have e := hfa.symm.trans (PySem.W.mg_of X G a58)
  cases e
  have F0 := fun_mk (st := s__law_draw) l0 c0 k0
  have m0 := PySem.W.mg_of X G a0
  have b0 := F0.binds (ps := ["well", "few"]) fun _ _ _ _ _ _ us hl => match us, hl with | [_, _], _ => rfl
  have F1 := fun_mk (st := s__law_one) l1 c1 k1
  have m1 := PySem.W.mg_of X G a1
  have b1 := F1.binds (ps := ["well", "some"]) fun _ _ _ _ _ _ us hl => match us, hl with | [_, _], _ => rfl
  have F2 := fun_mk (st := s__law_lean) l2 c2 k2
  have m2 := PySem.W.mg_of X G a2
  have b2 := F2.binds (ps := ["top", "base"]) fun _ _ _ _ _ _ us hl => match us, hl with | [_, _], _ => rfl
  have F3 := fun_mk (st := s__law_helping) l3 c3 k3
  have m3 := PySem.W.mg_of X G a3
  have b3 := F3.binds (ps := ["well", "few"]) fun _ _ _ _ _ _ us hl => match us, hl with | [_, _], _ => rfl
  have F4 := fun_mk (st := s__law_state) l4 c4 k4
  have m4 := PySem.W.mg_of X G a4
  have b4 := F4.binds (ps := ["few", "number"]) fun _ _ _ _ _ _ us hl => match us, hl with | [_, _], _ => rfl
  have F5 := fun_mk (st := s__law_below) l5 c5 k5
  have m5 := PySem.W.mg_of X G a5
  have b5 := F5.binds (ps := ["x", "y"]) fun _ _ _ _ _ _ us hl => match us, hl with | [_, _], _ => rfl
  have F6 := fun_mk (st := s__law_plus) l6 c6 k6
  have m6 := PySem.W.mg_of X G a6
  have b6 := F6.binds (ps := ["x", "y"]) fun _ _ _ _ _ _ us hl => match us, hl with | [_, _], _ => rfl
  have F7 := fun_mk (st := s__law_heard) l7 c7 k7
  have m7 := PySem.W.mg_of X G a7
  have b7 := F7.binds (ps := ["net", "cell", "state"]) fun _ _ _ _ _ _ us hl => match us, hl with | [_, _, _], _ => rfl
  have F8 := fun_mk (st := s__law_movers) l8 c8 k8
  have m8 := PySem.W.mg_of X G a8
  have b8 := F8.binds (ps := ["net", "state"]) fun _ _ _ _ _ _ us hl => match us, hl with | [_, _], _ => rfl
  have F9 := fun_mk (st := s__law_is_stubborn) l9 c9 k9
  have m9 := PySem.W.mg_of X G a9
  have b9 := F9.binds (ps := ["net", "number"]) fun _ _ _ _ _ _ us hl => match us, hl with | [_, _], _ => rfl
  have F10 := fun_mk (st := s__law_spread) l10 c10 k10
  have m10 := PySem.W.mg_of X G a10
  have b10 := F10.binds (ps := ["net", "number"]) fun _ _ _ _ _ _ us hl => match us, hl with | [_, _], _ => rfl
  have F11 := fun_mk (st := s__law_lot) l11 c11 k11
  have m11 := PySem.W.mg_of X G a11
  have b11 := F11.binds (ps := ["few", "number"]) fun _ _ _ _ _ _ us hl => match us, hl with | [_, _], _ => rfl
  have F12 := fun_mk (st := s_is_tuple_of) l12 c12 k12
  have m12 := PySem.W.mg_of X G a12
  have b12 := F12.binds (ps := ["value", "many"]) fun _ _ _ _ _ _ us hl => match us, hl with | [_, _], _ => rfl
  have F13 := fun_mk (st := s_is_whole) l13 c13 k13
  have m13 := PySem.W.mg_of X G a13
  have b13 := F13.binds (ps := ["value"]) fun _ _ _ _ _ _ us hl => match us, hl with | [_], _ => rfl
  have F14 := fun_mk (st := s_is_ratio) l14 c14 k14
  have m14 := PySem.W.mg_of X G a14
  have b14 := F14.binds (ps := ["value"]) fun _ _ _ _ _ _ us hl => match us, hl with | [_], _ => rfl
  have F15 := fun_mk (st := s_is_row) l15 c15 k15
  have m15 := PySem.W.mg_of X G a15
  have b15 := F15.binds (ps := ["value", "many"]) fun _ _ _ _ _ _ us hl => match us, hl with | [_, _], _ => rfl
  have F16 := fun_mk (st := s_is_net_by) l16 c16 k16
  have m16 := PySem.W.mg_of X G a16
  have b16 := F16.binds (ps := ["value"]) fun _ _ _ _ _ _ us hl => match us, hl with | [_], _ => rfl
  have F17 := fun_mk (st := s_check_net) l17 c17 k17
  have m17 := PySem.W.mg_of X G a17
  have b17 := F17.binds (ps := ["value"]) fun _ _ _ _ _ _ us hl => match us, hl with | [_], _ => rfl
  have F18 := fun_mk (st := s_is_between) l18 c18 k18
  have m18 := PySem.W.mg_of X G a18
  have b18 := F18.binds (ps := ["value", "low", "high"]) fun _ _ _ _ _ _ us hl => match us, hl with | [_, _, _], _ => rfl
  have F19 := fun_mk (st := s_many_cells) l19 c19 k19
  have m19 := PySem.W.mg_of X G a19
  have b19 := F19.binds (ps := ["net"]) fun _ _ _ _ _ _ us hl => match us, hl with | [_], _ => rfl
  have F20 := fun_mk (st := s_is_cell_by) l20 c20 k20
  have m20 := PySem.W.mg_of X G a20
  have b20 := F20.binds (ps := ["net", "value"]) fun _ _ _ _ _ _ us hl => match us, hl with | [_, _], _ => rfl
  have F21 := fun_mk (st := s_wrong_in_lot) l21 c21 k21
  have m21 := PySem.W.mg_of X G a21
  have b21 := F21.binds (ps := ["net", "value", "least"]) fun _ _ _ _ _ _ us hl => match us, hl with | [_, _, _], _ => rfl
  have F22 := fun_mk (st := s_is_helping_by) l22 c22 k22
  have m22 := PySem.W.mg_of X G a22
  have b22 := F22.binds (ps := ["net"]) fun _ _ _ _ _ _ us hl => match us, hl with | [_], _ => rfl
  have F23 := fun_mk (st := s_check_helping) l23 c23 k23
  have m23 := PySem.W.mg_of X G a23
  have b23 := F23.binds (ps := ["net"]) fun _ _ _ _ _ _ us hl => match us, hl with | [_], _ => rfl
  have F24 := fun_mk (st := s_check_lot) l24 c24 k24
  have m24 := PySem.W.mg_of X G a24
  have b24 := F24.binds (ps := ["net", "value", "least"]) fun _ _ _ _ _ _ us hl => match us, hl with | [_, _, _], _ => rfl
  have F25 := fun_mk (st := s_on_in) l25 c25 k25
  have m25 := PySem.W.mg_of X G a25
  have b25 := F25.binds (ps := ["state"]) fun _ _ _ _ _ _ us hl => match us, hl with | [_], _ => rfl
  have F26 := fun_mk (st := s_grown_by) l26 c26 k26
  have m26 := PySem.W.mg_of X G a26
  have b26 := F26.binds (ps := ["state", "other"]) fun _ _ _ _ _ _ us hl => match us, hl with | [_, _], _ => rfl
  have F27 := fun_mk (st := s_is_less) l27 c27 k27
  have m27 := PySem.W.mg_of X G a27
  have b27 := F27.binds (ps := ["one", "two"]) fun _ _ _ _ _ _ us hl => match us, hl with | [_, _], _ => rfl
  have F28 := fun_mk (st := s_ratio) l28 c28 k28
  have m28 := PySem.W.mg_of X G a28
  have b28 := F28.binds (ps := ["top", "low"]) fun _ _ _ _ _ _ us hl => match us, hl with | [_, _], _ => rfl
  have F29 := fun_mk (st := s_plus) l29 c29 k29
  have m29 := PySem.W.mg_of X G a29
  have b29 := F29.binds (ps := ["one", "two"]) fun _ _ _ _ _ _ us hl => match us, hl with | [_, _], _ => rfl
  have F30 := fun_mk (st := s_total) l30 c30 k30
  have m30 := PySem.W.mg_of X G a30
  have b30 := F30.binds (ps := ["fractions"]) fun _ _ _ _ _ _ us hl => match us, hl with | [_], _ => rfl
  have F31 := fun_mk (st := s_heard_by) l31 c31 k31
  have m31 := PySem.W.mg_of X G a31
  have b31 := F31.binds (ps := ["net", "cell", "state"]) fun _ _ _ _ _ _ us hl => match us, hl with | [_, _, _], _ => rfl
  have F32 := fun_mk (st := s_wanted_by) l32 c32 k32
  have m32 := PySem.W.mg_of X G a32
  have b32 := F32.binds (ps := ["net", "state"]) fun _ _ _ _ _ _ us hl => match us, hl with | [_, _], _ => rfl
  have F33 := fun_mk (st := s_risen) l33 c33 k33
  have m33 := PySem.W.mg_of X G a33
  have b33 := F33.binds (ps := ["net", "state"]) fun _ _ _ _ _ _ us hl => match us, hl with | [_, _], _ => rfl
  have F34 := fun_mk (st := s_lit_by) l34 c34 k34
  have m34 := PySem.W.mg_of X G a34
  have b34 := F34.binds (ps := ["net", "lot"]) fun _ _ _ _ _ _ us hl => match us, hl with | [_, _], _ => rfl
  have F35 := fun_mk (st := s_spread_by) l35 c35 k35
  have m35 := PySem.W.mg_of X G a35
  have b35 := F35.binds (ps := ["net", "seeds"]) fun _ _ _ _ _ _ us hl => match us, hl with | [_, _], _ => rfl
  have F36 := fun_mk (st := s_does_light_by) l36 c36 k36
  have m36 := PySem.W.mg_of X G a36
  have b36 := F36.binds (ps := ["net", "seeds"]) fun _ _ _ _ _ _ us hl => match us, hl with | [_, _], _ => rfl
  have F37 := fun_mk (st := s_does_light) l37 c37 k37
  have m37 := PySem.W.mg_of X G a37
  have b37 := F37.binds (ps := ["net", "seeds"]) fun _ _ _ _ _ _ us hl => match us, hl with | [_, _], _ => rfl
  have F38 := fun_mk (st := s_spread) l38 c38 k38
  have m38 := PySem.W.mg_of X G a38
  have b38 := F38.binds (ps := ["net", "seeds"]) fun _ _ _ _ _ _ us hl => match us, hl with | [_, _], _ => rfl
  have F39 := fun_mk (st := s_cells_beyond) l39 c39 k39
  have m39 := PySem.W.mg_of X G a39
  have b39 := F39.binds (ps := ["net", "lot"]) fun _ _ _ _ _ _ us hl => match us, hl with | [_, _], _ => rfl
  have F40 := fun_mk (st := s_is_stubborn_by) l40 c40 k40
  have m40 := PySem.W.mg_of X G a40
  have b40 := F40.binds (ps := ["net", "lot"]) fun _ _ _ _ _ _ us hl => match us, hl with | [_, _], _ => rfl
  have F41 := fun_mk (st := s_is_stubborn) l41 c41 k41
  have m41 := PySem.W.mg_of X G a41
  have b41 := F41.binds (ps := ["net", "lot"]) fun _ _ _ _ _ _ us hl => match us, hl with | [_, _], _ => rfl
  have F42 := fun_mk (st := s__law_lots_right) l42 c42 k42
  have m42 := PySem.W.mg_of X G a42
  have b42 := F42.binds (ps := ["net", "stubborn", "lights"]) fun _ _ _ _ _ _ us hl => match us, hl with | [_, _, _], _ => rfl
  have F43 := fun_mk (st := s__law_least) l43 c43 k43
  have m43 := PySem.W.mg_of X G a43
  have b43 := F43.binds (ps := ["numbers"]) fun _ _ _ _ _ _ us hl => match us, hl with | [_], _ => rfl
  have F44 := fun_mk (st := s_check_helping_net) l44 c44 k44
  have m44 := PySem.W.mg_of X G a44
  have b44 := F44.binds (ps := ["net"]) fun _ _ _ _ _ _ us hl => match us, hl with | [_], _ => rfl
  have F45 := fun_mk (st := s_is_within) l45 c45 k45
  have m45 := PySem.W.mg_of X G a45
  have b45 := F45.binds (ps := ["lot", "other"]) fun _ _ _ _ _ _ us hl => match us, hl with | [_, _], _ => rfl
  have F46 := fun_mk (st := s_least_ones) l46 c46 k46
  have m46 := PySem.W.mg_of X G a46
  have b46 := F46.binds (ps := ["lots"]) fun _ _ _ _ _ _ us hl => match us, hl with | [_], _ => rfl
  have F47 := fun_mk (st := s_lots_of_size) l47 c47 k47
  have m47 := PySem.W.mg_of X G a47
  have b47 := F47.binds (ps := ["net", "size"]) fun _ _ _ _ _ _ us hl => match us, hl with | [_, _], _ => rfl
  have F48 := fun_mk (st := s_lots_in_size) l48 c48 k48
  have m48 := PySem.W.mg_of X G a48
  have b48 := F48.binds (ps := ["net", "least"]) fun _ _ _ _ _ _ us hl => match us, hl with | [_, _], _ => rfl
  have F49 := fun_mk (st := s_stubborn_by) l49 c49 k49
  have m49 := PySem.W.mg_of X G a49
  have b49 := F49.binds (ps := ["net"]) fun _ _ _ _ _ _ us hl => match us, hl with | [_], _ => rfl
  have F50 := fun_mk (st := s_stubborn_lots) l50 c50 k50
  have m50 := PySem.W.mg_of X G a50
  have b50 := F50.binds (ps := ["net"]) fun _ _ _ _ _ _ us hl => match us, hl with | [_], _ => rfl
  have F51 := fun_mk (st := s__law_told) l51 c51 k51
  have m51 := PySem.W.mg_of X G a51
  have b51 := F51.binds (ps := ["few", "numbers"]) fun _ _ _ _ _ _ us hl => match us, hl with | [_, _], _ => rfl
  have F52 := fun_mk (st := s_least_seeds_by) l52 c52 k52
  have m52 := PySem.W.mg_of X G a52
  have b52 := F52.binds (ps := ["net"]) fun _ _ _ _ _ _ us hl => match us, hl with | [_], _ => rfl
  have F53 := fun_mk (st := s_least_seeds) l53 c53 k53
  have m53 := PySem.W.mg_of X G a53
  have b53 := F53.binds (ps := ["net"]) fun _ _ _ _ _ _ us hl => match us, hl with | [_], _ => rfl
  have F54 := fun_mk (st := s_fewest_by) l54 c54 k54
  have m54 := PySem.W.mg_of X G a54
  have b54 := F54.binds (ps := ["net"]) fun _ _ _ _ _ _ us hl => match us, hl with | [_], _ => rfl
  have F55 := fun_mk (st := s_fewest) l55 c55 k55
  have m55 := PySem.W.mg_of X G a55
  have b55 := F55.binds (ps := ["net"]) fun _ _ _ _ _ _ us hl => match us, hl with | [_], _ => rfl
  have F56 := fun_mk (st := s__law_right) l56 c56 k56
  have m56 := PySem.W.mg_of X G a56
  have b56 := F56.binds (ps := ["well", "is_first"]) fun _ _ _ _ _ _ us hl => match us, hl with | [_, _], _ => rfl
  have F57 := fun_mk (st := s__law_well) l57 c57 k57
  have m57 := PySem.W.mg_of X G a57
  have b57 := F57.binds (ps := ["script", "lap"]) fun _ _ _ _ _ _ us hl => match us, hl with | [_, _], _ => rfl
  have F58 := fun_mk (st := s_law) l58 c58 k58
  have m58 := PySem.W.mg_of X G a58
  have b58 := F58.binds (ps := ["script"]) fun _ _ _ _ _ _ us hl => match us, hl with | [_], _ => rfl
  have kb_spread_0 := kb_mk (ps := ["net", "seeds"]) (ks := ["seeds", "net"]) (n := 0) (perm := [1, 0]) F38 fun _ _ _ _ _ _ us ws hu hw => match us, ws, hu, hw with | [], [_, _], _, _ => rfl
  have kb_is_stubborn_0 := kb_mk (ps := ["net", "lot"]) (ks := ["lot", "net"]) (n := 0) (perm := [1, 0]) F41 fun _ _ _ _ _ _ us ws hu hw => match us, ws, hu, hw with | [], [_, _], _, _ => rfl
  have kb_least_seeds_0 := kb_mk (ps := ["net"]) (ks := ["net"]) (n := 0) (perm := [0]) F53 fun _ _ _ _ _ _ us ws hu hw => match us, ws, hu, hw with | [], [_], _, _ => rfl
  have kb_fewest_0 := kb_mk (ps := ["net"]) (ks := ["net"]) (n := 0) (perm := [0]) F55 fun _ _ _ _ _ _ us ws hu hw => match us, ws, hu, hw with | [], [_], _, _ => rfl
  have kb_stubborn_lots_0 := kb_mk (ps := ["net"]) (ks := ["net"]) (n := 0) (perm := [0]) F50 fun _ _ _ _ _ _ us ws hu hw => match us, ws, hu, hw with | [], [_], _, _ => rfl
  have B : Blt mg := ⟨PySem.W.mg_none_of X G z_abs, PySem.W.mg_none_of X G z_all, PySem.W.mg_none_of X G z_any, PySem.W.mg_none_of X G z_bool, PySem.W.mg_none_of X G z_dict, PySem.W.mg_none_of X G z_divmod, PySem.W.mg_none_of X G z_enumerate, PySem.W.mg_none_of X G z_int, PySem.W.mg_none_of X G z_isinstance, PySem.W.mg_none_of X G z_len, PySem.W.mg_none_of X G z_list, PySem.W.mg_none_of X G z_max, PySem.W.mg_none_of X G z_min, PySem.W.mg_none_of X G z_range, PySem.W.mg_none_of X G z_repr, PySem.W.mg_none_of X G z_set, PySem.W.mg_none_of X G z_sorted, PySem.W.mg_none_of X G z_str, PySem.W.mg_none_of X G z_sum, PySem.W.mg_none_of X G z_tuple, PySem.W.mg_none_of X G z_zip⟩
  have m_gcd := PySem.W.mg_of X G q_gcd
  have c_MOST_CELLS := cst_int (K := K) (PySem.W.mg_of X G q_MOST_CELLS)
  have c_ZERO := cst_pair (PySem.W.mg_of X G q_ZERO) r_ZERO rfl rfl
  refine ⟨PySem.W.fnOf "law" "law" (defArgs s_law) (defBody s_law) (defScope s_law) .none kV58 dc58 pm58 an58 cd58 ct58, fun s v => .of_eq rfl, fun base _ _ => ?_⟩
  have g0 := gf__law_draw (P := l.prog) (w := w) (base := base) (k := 0) F0 B
  have g1 := gf__law_one (P := l.prog) (w := w) (base := base) (k := 1) F1 B (has_mk F0 m0 b0 g0 (by decide))
  have g2 := gf__law_lean (P := l.prog) (w := w) (base := base) (k := 0) F2 B
  have g3 := gf__law_helping (P := l.prog) (w := w) (base := base) (k := 2) F3 B (has_mk F1 m1 b1 g1 (by decide)) (has_mk F0 m0 b0 g0 (by decide)) (has_mk F2 m2 b2 g2 (by decide))
  have g4 := gf__law_state (P := l.prog) (w := w) (base := base) (k := 0) F4 B
  have g5 := gf__law_below (P := l.prog) (w := w) (base := base) (k := 0) F5 B
  have g6 := gf__law_plus (P := l.prog) (w := w) (base := base) (k := 1) F6 B (has_mk F2 m2 b2 g2 (by decide))
  have g7 := gf__law_heard (P := l.prog) (w := w) (base := base) (k := 2) F7 B (has_mk F6 m6 b6 g6 (by decide))
  have g8 := gf__law_movers (P := l.prog) (w := w) (base := base) (k := 3) F8 B (has_mk F5 m5 b5 g5 (by decide)) (has_mk F7 m7 b7 g7 (by decide))
  have g9 := gf__law_is_stubborn (P := l.prog) (w := w) (base := base) (k := 4) F9 B (has_mk F4 m4 b4 g4 (by decide)) (has_mk F8 m8 b8 g8 (by decide))
  have g10 := gf__law_spread (P := l.prog) (w := w) (base := base) (k := 4) F10 B (has_mk F4 m4 b4 g4 (by decide)) (has_mk F8 m8 b8 g8 (by decide))
  have g11 := gf__law_lot (P := l.prog) (w := w) (base := base) (k := 0) F11 B
  have g12 := gf_is_tuple_of (P := l.prog) (w := w) (base := base) (k := 0) F12 B
  have g13 := gf_is_whole (P := l.prog) (w := w) (base := base) (k := 0) F13 B
  have g14 := gf_is_ratio (P := l.prog) (w := w) (base := base) (k := 1) F14 B (has_mk F12 m12 b12 g12 (by decide)) (has_mk F13 m13 b13 g13 (by decide)) m_gcd
  have g15 := gf_is_row (P := l.prog) (w := w) (base := base) (k := 2) F15 B (has_mk F12 m12 b12 g12 (by decide)) (has_mk F14 m14 b14 g14 (by decide))
  have g16 := gf_is_net_by (P := l.prog) (w := w) (base := base) (k := 3) F16 B (has_mk F12 m12 b12 g12 (by decide)) c_MOST_CELLS (has_mk F15 m15 b15 g15 (by decide)) c_ZERO
  have g17 := gf_check_net (P := l.prog) (w := w) (base := base) (k := 4) F17 B (has_mk F16 m16 b16 g16 (by decide))
  have g18 := gf_is_between (P := l.prog) (w := w) (base := base) (k := 1) F18 B (has_mk F13 m13 b13 g13 (by decide))
  have g19 := gf_many_cells (P := l.prog) (w := w) (base := base) (k := 0) F19 B
  have g20 := gf_is_cell_by (P := l.prog) (w := w) (base := base) (k := 2) F20 B (has_mk F18 m18 b18 g18 (by decide)) (has_mk F19 m19 b19 g19 (by decide))
  have g21 := gf_wrong_in_lot (P := l.prog) (w := w) (base := base) (k := 3) F21 B (has_mk F20 m20 b20 g20 (by decide))
  have g22 := gf_is_helping_by (P := l.prog) (w := w) (base := base) (k := 0) F22 B
  have g23 := gf_check_helping (P := l.prog) (w := w) (base := base) (k := 1) F23 B (has_mk F22 m22 b22 g22 (by decide))
  have g24 := gf_check_lot (P := l.prog) (w := w) (base := base) (k := 5) F24 B (has_mk F17 m17 b17 g17 (by decide)) (has_mk F21 m21 b21 g21 (by decide)) (has_mk F23 m23 b23 g23 (by decide))
  have g25 := gf_on_in (P := l.prog) (w := w) (base := base) (k := 0) F25 B
  have g26 := gf_grown_by (P := l.prog) (w := w) (base := base) (k := 0) F26 B
  have g27 := gf_is_less (P := l.prog) (w := w) (base := base) (k := 0) F27 B
  have g28 := gf_ratio (P := l.prog) (w := w) (base := base) (k := 0) F28 B m_gcd
  have g29 := gf_plus (P := l.prog) (w := w) (base := base) (k := 1) F29 B (has_mk F28 m28 b28 g28 (by decide))
  have g30 := gf_total (P := l.prog) (w := w) (base := base) (k := 2) F30 B c_ZERO (has_mk F29 m29 b29 g29 (by decide))
  have g31 := gf_heard_by (P := l.prog) (w := w) (base := base) (k := 3) F31 B (has_mk F30 m30 b30 g30 (by decide))
  have g32 := gf_wanted_by (P := l.prog) (w := w) (base := base) (k := 4) F32 B (has_mk F19 m19 b19 g19 (by decide)) (has_mk F27 m27 b27 g27 (by decide)) (has_mk F31 m31 b31 g31 (by decide))
  have g33 := gf_risen (P := l.prog) (w := w) (base := base) (k := 5) F33 B (has_mk F26 m26 b26 g26 (by decide)) (has_mk F32 m32 b32 g32 (by decide))
  have g34 := gf_lit_by (P := l.prog) (w := w) (base := base) (k := 1) F34 B (has_mk F19 m19 b19 g19 (by decide))
  have g35 := gf_spread_by (P := l.prog) (w := w) (base := base) (k := 6) F35 B (has_mk F25 m25 b25 g25 (by decide)) (has_mk F33 m33 b33 g33 (by decide)) (has_mk F34 m34 b34 g34 (by decide))
  have g36 := gf_does_light_by (P := l.prog) (w := w) (base := base) (k := 7) F36 B (has_mk F35 m35 b35 g35 (by decide)) (has_mk F19 m19 b19 g19 (by decide))
  have g37 := gf_does_light (P := l.prog) (w := w) (base := base) (k := 8) F37 B (has_mk F24 m24 b24 g24 (by decide)) (has_mk F36 m36 b36 g36 (by decide))
  have g38 := gf_spread (P := l.prog) (w := w) (base := base) (k := 7) F38 B (has_mk F24 m24 b24 g24 (by decide)) (has_mk F35 m35 b35 g35 (by decide))
  have g39 := gf_cells_beyond (P := l.prog) (w := w) (base := base) (k := 1) F39 B (has_mk F19 m19 b19 g19 (by decide))
  have g40 := gf_is_stubborn_by (P := l.prog) (w := w) (base := base) (k := 5) F40 B (has_mk F32 m32 b32 g32 (by decide)) (has_mk F34 m34 b34 g34 (by decide)) (has_mk F39 m39 b39 g39 (by decide))
  have g41 := gf_is_stubborn (P := l.prog) (w := w) (base := base) (k := 6) F41 B (has_mk F24 m24 b24 g24 (by decide)) (has_mk F40 m40 b40 g40 (by decide))
  have g42 := gf__law_lots_right (P := l.prog) (w := w) (base := base) (k := 9) F42 B (has_mk F11 m11 b11 g11 (by decide)) (has_mk F37 m37 b37 g37 (by decide)) (has_mk F38 m38 b38 g38 (by decide)) (has_mk F41 m41 b41 g41 (by decide)) kb_spread_0 kb_is_stubborn_0
  have g43 := gf__law_least (P := l.prog) (w := w) (base := base) (k := 0) F43 B
  have g44 := gf_check_helping_net (P := l.prog) (w := w) (base := base) (k := 5) F44 B (has_mk F17 m17 b17 g17 (by decide)) (has_mk F23 m23 b23 g23 (by decide))
  have g45 := gf_is_within (P := l.prog) (w := w) (base := base) (k := 0) F45 B
  have g46 := gf_least_ones (P := l.prog) (w := w) (base := base) (k := 1) F46 B (has_mk F45 m45 b45 g45 (by decide))
  have g47 := gf_lots_of_size (P := l.prog) (w := w) (base := base) (k := 1) F47 B (has_mk F19 m19 b19 g19 (by decide))
  have g48 := gf_lots_in_size (P := l.prog) (w := w) (base := base) (k := 2) F48 B (has_mk F19 m19 b19 g19 (by decide)) (has_mk F47 m47 b47 g47 (by decide))
  have g49 := gf_stubborn_by (P := l.prog) (w := w) (base := base) (k := 6) F49 B (has_mk F46 m46 b46 g46 (by decide)) (has_mk F48 m48 b48 g48 (by decide)) (has_mk F40 m40 b40 g40 (by decide))
  have g50 := gf_stubborn_lots (P := l.prog) (w := w) (base := base) (k := 7) F50 B (has_mk F44 m44 b44 g44 (by decide)) (has_mk F49 m49 b49 g49 (by decide))
  have g51 := gf__law_told (P := l.prog) (w := w) (base := base) (k := 1) F51 B (has_mk F11 m11 b11 g11 (by decide))
  have g52 := gf_least_seeds_by (P := l.prog) (w := w) (base := base) (k := 8) F52 B (has_mk F46 m46 b46 g46 (by decide)) (has_mk F48 m48 b48 g48 (by decide)) (has_mk F36 m36 b36 g36 (by decide))
  have g53 := gf_least_seeds (P := l.prog) (w := w) (base := base) (k := 9) F53 B (has_mk F44 m44 b44 g44 (by decide)) (has_mk F52 m52 b52 g52 (by decide))
  have g54 := gf_fewest_by (P := l.prog) (w := w) (base := base) (k := 9) F54 B (has_mk F52 m52 b52 g52 (by decide))
  have g55 := gf_fewest (P := l.prog) (w := w) (base := base) (k := 10) F55 B (has_mk F44 m44 b44 g44 (by decide)) (has_mk F54 m54 b54 g54 (by decide))
  have g56 := gf__law_right (P := l.prog) (w := w) (base := base) (k := 11) F56 B (has_mk F1 m1 b1 g1 (by decide)) (has_mk F3 m3 b3 g3 (by decide)) (has_mk F9 m9 b9 g9 (by decide)) (has_mk F10 m10 b10 g10 (by decide)) (has_mk F42 m42 b42 g42 (by decide)) (has_mk F11 m11 b11 g11 (by decide)) (has_mk F41 m41 b41 g41 (by decide)) (has_mk F43 m43 b43 g43 (by decide)) (has_mk F50 m50 b50 g50 (by decide)) (has_mk F51 m51 b51 g51 (by decide)) (has_mk F53 m53 b53 g53 (by decide)) (has_mk F55 m55 b55 g55 (by decide)) kb_least_seeds_0 kb_fewest_0 kb_stubborn_lots_0
  have g57 := gf__law_well (P := l.prog) (w := w) (base := base) (k := 0) F57 B
  have g58 := gf_law (P := l.prog) (w := w) (base := base) (k := 12) F58 B (has_mk F56 m56 b56 g56 (by decide)) (has_mk F57 m57 b57 g57 (by decide))
  exact g58
end K28
open PySem PySem.W PyProof.Rows
set_option maxRecDepth 100000 in
set_option maxHeartbeats 0 in
theorem PySem.Challenge.cw_heedlore_k28_whole_seeds_and_stubborn_lo_holds : PySem.Challenge.rw_heedlore_k28_whole_seeds_and_stubborn_lo.Holds := by
  w_on; o_law; k_head; (case hw => w_witness2)
  k_fill
  refine Gx.gx_walk (l := PySem.Challenge.rw_heedlore_k28_whole_seeds_and_stubborn_lo) (n := 63) (k := 13) (γ := Gx.γ_whole) (x := "script") rfl (by decide) rfl ⟨rfl, by decide, by decide⟩ (fun w h Y => PySem.W.kIn_of Y) ?F (fun ns hl R S h => ⟨ns, rfl, hl, h⟩)
  case F =>
    intro w mg fa h KX G hmg
    refine' K28.all_mk KX G hmg ?a0 ?l0 ?c0 ?k0 ?a1 ?l1 ?c1 ?k1 ?a2 ?l2 ?c2 ?k2 ?a3 ?l3 ?c3 ?k3 ?a4 ?l4 ?c4 ?k4 ?a5 ?l5 ?c5 ?k5 ?a6 ?l6 ?c6 ?k6 ?a7 ?l7 ?c7 ?k7 ?a8 ?l8 ?c8 ?k8 ?a9 ?l9 ?c9 ?k9 ?a10 ?l10 ?c10 ?k10 ?a11 ?l11 ?c11 ?k11 ?a12 ?l12 ?c12 ?k12 ?a13 ?l13 ?c13 ?k13 ?a14 ?l14 ?c14 ?k14 ?a15 ?l15 ?c15 ?k15 ?a16 ?l16 ?c16 ?k16 ?a17 ?l17 ?c17 ?k17 ?a18 ?l18 ?c18 ?k18 ?a19 ?l19 ?c19 ?k19 ?a20 ?l20 ?c20 ?k20 ?a21 ?l21 ?c21 ?k21 ?a22 ?l22 ?c22 ?k22 ?a23 ?l23 ?c23 ?k23 ?a24 ?l24 ?c24 ?k24 ?a25 ?l25 ?c25 ?k25 ?a26 ?l26 ?c26 ?k26 ?a27 ?l27 ?c27 ?k27 ?a28 ?l28 ?c28 ?k28 ?a29 ?l29 ?c29 ?k29 ?a30 ?l30 ?c30 ?k30 ?a31 ?l31 ?c31 ?k31 ?a32 ?l32 ?c32 ?k32 ?a33 ?l33 ?c33 ?k33 ?a34 ?l34 ?c34 ?k34 ?a35 ?l35 ?c35 ?k35 ?a36 ?l36 ?c36 ?k36 ?a37 ?l37 ?c37 ?k37 ?a38 ?l38 ?c38 ?k38 ?a39 ?l39 ?c39 ?k39 ?a40 ?l40 ?c40 ?k40 ?a41 ?l41 ?c41 ?k41 ?a42 ?l42 ?c42 ?k42 ?a43 ?l43 ?c43 ?k43 ?a44 ?l44 ?c44 ?k44 ?a45 ?l45 ?c45 ?k45 ?a46 ?l46 ?c46 ?k46 ?a47 ?l47 ?c47 ?k47 ?a48 ?l48 ?c48 ?k48 ?a49 ?l49 ?c49 ?k49 ?a50 ?l50 ?c50 ?k50 ?a51 ?l51 ?c51 ?k51 ?a52 ?l52 ?c52 ?k52 ?a53 ?l53 ?c53 ?k53 ?a54 ?l54 ?c54 ?k54 ?a55 ?l55 ?c55 ?k55 ?a56 ?l56 ?c56 ?k56 ?a57 ?l57 ?c57 ?k57 ?a58 ?l58 ?c58 ?k58 ?z_abs ?z_all ?z_any ?z_bool ?z_dict ?z_divmod ?z_enumerate ?z_int ?z_isinstance ?z_len ?z_list ?z_max ?z_min ?z_range ?z_repr ?z_set ?z_sorted ?z_str ?z_sum ?z_tuple ?z_zip ?q_gcd ?q_MOST_CELLS ?q_ZERO ?r_ZERO
    (case a0 => k_is)
    (case l0 => k_is)
    (case c0 => k_is)
    (case k0 => k_is)
    (case a1 => k_is)
    (case l1 => k_is)
    (case c1 => k_is)
    (case k1 => k_is)
    (case a2 => k_is)
    (case l2 => k_is)
    (case c2 => k_is)
    (case k2 => k_is)
    (case a3 => k_is)
    (case l3 => k_is)
    (case c3 => k_is)
    (case k3 => k_is)
    (case a4 => k_is)
    (case l4 => k_is)
    (case c4 => k_is)
    (case k4 => k_is)
    (case a5 => k_is)
    (case l5 => k_is)
    (case c5 => k_is)
    (case k5 => k_is)
    (case a6 => k_is)
    (case l6 => k_is)
    (case c6 => k_is)
    (case k6 => k_is)
    (case a7 => k_is)
    (case l7 => k_is)
    (case c7 => k_is)
    (case k7 => k_is)
    (case a8 => k_is)
    (case l8 => k_is)
    (case c8 => k_is)
    (case k8 => k_is)
    (case a9 => k_is)
    (case l9 => k_is)
    (case c9 => k_is)
    (case k9 => k_is)
    (case a10 => k_is)
    (case l10 => k_is)
    (case c10 => k_is)
    (case k10 => k_is)
    (case a11 => k_is)
    (case l11 => k_is)
    (case c11 => k_is)
    (case k11 => k_is)
    (case a12 => k_is)
    (case l12 => k_is)
    (case c12 => k_is)
    (case k12 => k_is)
    (case a13 => k_is)
    (case l13 => k_is)
    (case c13 => k_is)
    (case k13 => k_is)
    (case a14 => k_is)
    (case l14 => k_is)
    (case c14 => k_is)
    (case k14 => k_is)
    (case a15 => k_is)
    (case l15 => k_is)
    (case c15 => k_is)
    (case k15 => k_is)
    (case a16 => k_is)
    (case l16 => k_is)
    (case c16 => k_is)
    (case k16 => k_is)
    (case a17 => k_is)
    (case l17 => k_is)
    (case c17 => k_is)
    (case k17 => k_is)
    (case a18 => k_is)
    (case l18 => k_is)
    (case c18 => k_is)
    (case k18 => k_is)
    (case a19 => k_is)
    (case l19 => k_is)
    (case c19 => k_is)
    (case k19 => k_is)
    (case a20 => k_is)
    (case l20 => k_is)
    (case c20 => k_is)
    (case k20 => k_is)
    (case a21 => k_is)
    (case l21 => k_is)
    (case c21 => k_is)
    (case k21 => k_is)
    (case a22 => k_is)
    (case l22 => k_is)
    (case c22 => k_is)
    (case k22 => k_is)
    (case a23 => k_is)
    (case l23 => k_is)
    (case c23 => k_is)
    (case k23 => k_is)
    (case a24 => k_is)
    (case l24 => k_is)
    (case c24 => k_is)
    (case k24 => k_is)
    (case a25 => k_is)
    (case l25 => k_is)
    (case c25 => k_is)
    (case k25 => k_is)
    (case a26 => k_is)
    (case l26 => k_is)
    (case c26 => k_is)
    (case k26 => k_is)
    (case a27 => k_is)
    (case l27 => k_is)
    (case c27 => k_is)
    (case k27 => k_is)
    (case a28 => k_is)
    (case l28 => k_is)
    (case c28 => k_is)
    (case k28 => k_is)
    (case a29 => k_is)
    (case l29 => k_is)
    (case c29 => k_is)
    (case k29 => k_is)
    (case a30 => k_is)
    (case l30 => k_is)
    (case c30 => k_is)
    (case k30 => k_is)
    (case a31 => k_is)
    (case l31 => k_is)
    (case c31 => k_is)
    (case k31 => k_is)
    (case a32 => k_is)
    (case l32 => k_is)
    (case c32 => k_is)
    (case k32 => k_is)
    (case a33 => k_is)
    (case l33 => k_is)
    (case c33 => k_is)
    (case k33 => k_is)
    (case a34 => k_is)
    (case l34 => k_is)
    (case c34 => k_is)
    (case k34 => k_is)
    (case a35 => k_is)
    (case l35 => k_is)
    (case c35 => k_is)
    (case k35 => k_is)
    (case a36 => k_is)
    (case l36 => k_is)
    (case c36 => k_is)
    (case k36 => k_is)
    (case a37 => k_is)
    (case l37 => k_is)
    (case c37 => k_is)
    (case k37 => k_is)
    (case a38 => k_is)
    (case l38 => k_is)
    (case c38 => k_is)
    (case k38 => k_is)
    (case a39 => k_is)
    (case l39 => k_is)
    (case c39 => k_is)
    (case k39 => k_is)
    (case a40 => k_is)
    (case l40 => k_is)
    (case c40 => k_is)
    (case k40 => k_is)
    (case a41 => k_is)
    (case l41 => k_is)
    (case c41 => k_is)
    (case k41 => k_is)
    (case a42 => k_is)
    (case l42 => k_is)
    (case c42 => k_is)
    (case k42 => k_is)
    (case a43 => k_is)
    (case l43 => k_is)
    (case c43 => k_is)
    (case k43 => k_is)
    (case a44 => k_is)
    (case l44 => k_is)
    (case c44 => k_is)
    (case k44 => k_is)
    (case a45 => k_is)
    (case l45 => k_is)
    (case c45 => k_is)
    (case k45 => k_is)
    (case a46 => k_is)
    (case l46 => k_is)
    (case c46 => k_is)
    (case k46 => k_is)
    (case a47 => k_is)
    (case l47 => k_is)
    (case c47 => k_is)
    (case k47 => k_is)
    (case a48 => k_is)
    (case l48 => k_is)
    (case c48 => k_is)
    (case k48 => k_is)
    (case a49 => k_is)
    (case l49 => k_is)
    (case c49 => k_is)
    (case k49 => k_is)
    (case a50 => k_is)
    (case l50 => k_is)
    (case c50 => k_is)
    (case k50 => k_is)
    (case a51 => k_is)
    (case l51 => k_is)
    (case c51 => k_is)
    (case k51 => k_is)
    (case a52 => k_is)
    (case l52 => k_is)
    (case c52 => k_is)
    (case k52 => k_is)
    (case a53 => k_is)
    (case l53 => k_is)
    (case c53 => k_is)
    (case k53 => k_is)
    (case a54 => k_is)
    (case l54 => k_is)
    (case c54 => k_is)
    (case k54 => k_is)
    (case a55 => k_is)
    (case l55 => k_is)
    (case c55 => k_is)
    (case k55 => k_is)
    (case a56 => k_is)
    (case l56 => k_is)
    (case c56 => k_is)
    (case k56 => k_is)
    (case a57 => k_is)
    (case l57 => k_is)
    (case c57 => k_is)
    (case k57 => k_is)
    (case a58 => k_is)
    (case l58 => k_is)
    (case c58 => k_is)
    (case k58 => k_is)
    (case z_abs => k_is)
    (case z_all => k_is)
    (case z_any => k_is)
    (case z_bool => k_is)
    (case z_dict => k_is)
    (case z_divmod => k_is)
    (case z_enumerate => k_is)
    (case z_int => k_is)
    (case z_isinstance => k_is)
    (case z_len => k_is)
    (case z_list => k_is)
    (case z_max => k_is)
    (case z_min => k_is)
    (case z_range => k_is)
    (case z_repr => k_is)
    (case z_set => k_is)
    (case z_sorted => k_is)
    (case z_str => k_is)
    (case z_sum => k_is)
    (case z_tuple => k_is)
    (case z_zip => k_is)
    (case q_gcd => k_is)
    (case q_MOST_CELLS => k_is)
    (case q_ZERO => k_is)
    (case r_ZERO => k_is)


